import PyProof.Rows.All
import HandS.Codes
import HandS.Comp
import HandS.Deep
import HandS.DictComp
import HandS.EndTab
import HandS.Exc
import HandS.ExcCtx
import HandS.ExcField
import HandS.ExcInit
import HandS.ExcIs
import HandS.ExcOwn
import HandS.ExcValue
import HandS.FStr
import HandS.ForMost
import HandS.Hot
import HandS.HotCalls
import HandS.IsInst
import HandS.Iter
import HandS.Lambda
import HandS.ListItems
import HandS.MakeKwOnly
import HandS.Replace
import HandS.SortInts
import HandS.SortKw
import HandS.Style
import HandS.SuiteRaise
import HandS.Text
import HandS.TryMany
import HandS.TupAny
import HandS.TupLen
import HandS.TupMul
import HandS.Wide
import HandS.WordsExc
import HandS.Zip
import KE.KDictWalk
import KE.KExcSuper
import KE.KItemsList
import KE.KNestM
import KE.SortCalls
import KE.SortData
import KE.SortKeyHeap
import PyProof.ReprBulk
import PyProof.ReprRoads
import PyProof.Rows.StrItems
import PyProof.StrLawsChain
import PyProof.StrLawsReplace
import PySem.Challenge.RW_eachfive_k59_whole_texts_of_steps
set_option Elab.async false
open PySem PySem.W PyProof.Rows
set_option maxRecDepth 100000
set_option maxHeartbeats 0
open_top K59.hd for PySem.Challenge.rw_eachfive_k59_whole_texts_of_steps
set_option Elab.async false
set_option linter.all false
set_option maxRecDepth 100000
set_option maxHeartbeats 2000000
set_option autoImplicit false
namespace T
open PySem PySem.Spec PyProof.Rows L2
open PySem.W (Frag)
abbrev St := L2.St
/-! ### pairs of lists -/
inductive All2 {α β : Type _} (R : α → β → Prop) : List α → List β → Prop
  | nil : All2 R [] []
  | cons {a b as bs} : R a b → All2 R as bs → All2 R (a :: as) (b :: bs)
namespace All2
variable {α β : Type _} {R R' : α → β → Prop}
theorem mono (f : ∀ a b, R a b → R' a b) : ∀ {as bs}, All2 R as bs → All2 R' as bs
  | _, _, .nil => .nil
  | _, _, .cons h t => .cons (f _ _ h) (mono f t)
theorem length : ∀ {as : List α} {bs : List β}, All2 R as bs → as.length = bs.length
  | _, _, .nil => rfl
  | _, _, .cons _ t => by simp [length t]
theorem get : ∀ {as : List α} {bs : List β} {i : Nat} {b : β}, All2 R as bs → bs[i]? = some b → ∃ a, as[i]? = some a ∧ R a b
  | _, _, _, _, .nil, e => by simp at e
  | _, _, 0, _, .cons h _, e => by
    simp only [List.getElem?_cons_zero, Option.some.injEq] at e
    subst e
    exact ⟨_, rfl, h⟩
  | _, _, i + 1, _, .cons _ t, e => by
    simp only [List.getElem?_cons_succ] at e
    obtain ⟨a, h1, h2⟩ := get t e
    exact ⟨a, by simpa using h1, h2⟩
theorem set {a : α} {b : β} (r : R a b) : ∀ {as : List α} {bs : List β} (i : Nat), All2 R as bs → All2 R (as.set i a) (bs.set i b)
  | _, _, _, .nil => .nil
  | _, _, 0, .cons _ t => .cons r t
  | _, _, i + 1, .cons q t => .cons q (set r i t)
theorem append : ∀ {as as' : List α} {bs bs' : List β}, All2 R as bs → All2 R as' bs' → All2 R (as ++ as') (bs ++ bs')
  | _, _, _, _, .nil, s => s
  | _, _, _, _, .cons h t, s => .cons h (append t s)
theorem split : ∀ {as as' : List α} {bs bs' : List β}, All2 R (as ++ as') (bs ++ bs') → as.length = bs.length → All2 R as bs ∧ All2 R as' bs'
  | [], _, [], _, h, _ => ⟨.nil, h⟩
  | a :: as, _, b :: bs, _, h, e => by
    cases h with
    | cons h t =>
      obtain ⟨h1, h2⟩ := split (as := as) (bs := bs) t (by simpa using e)
      exact ⟨.cons h h1, h2⟩
  | [], _, b :: bs, _, _, e => by simp at e
  | a :: as, _, [], _, _, e => by simp at e
end All2
/-! ### typed data -/
class Rp (α : Type) where
  rp : Frag → Hp → V → α → Prop
  mono : ∀ {K F F' v x}, Same F F' → rp K F v x → rp K F' v x
structure TV : Type 1 where
  {α : Type}
  [i : Rp α]
  x : α
abbrev tv {α : Type} [Rp α] (x : α) : TV := ⟨x⟩
def TV.ok (K : Frag) (F : Hp) (v : V) (t : TV) : Prop := t.i.rp K F v t.x
theorem TV.ok.mono {K F F' v} {t : TV} (s : Same F F') (h : t.ok K F v) : t.ok K F' v := t.i.mono s h
instance : Rp Int := ⟨fun _ _ v x => v = .int x, fun _ h => h⟩
instance : Rp Bool := ⟨fun _ _ v x => v = .bl x, fun _ h => h⟩
instance : Rp Str := ⟨fun _ _ v x => v = .str x, fun _ h => h⟩
instance : Rp Unit := ⟨fun _ _ v _ => v = .non, fun _ h => h⟩
/-- the address of a cell -/
structure Ptr where
  a : Addr
instance : Rp Ptr := ⟨fun _ _ v x => v = .ref x.a, fun _ h => h⟩
theorem rd_mono {F F' : Hp} {a : Addr} {o : HO} (s : Same F F') (h : Rd F a o) : Rd F' a o := h.elim (fun h => .inl (s _ _ h)) fun ⟨u, h⟩ => .inr ⟨u, s _ _ h⟩
instance instRpList {α : Type} [Rp α] : Rp (List α) where
  rp K F v xs := ∃ a vs, v = .ref a ∧ F a = some (.lst vs) ∧ All2 (Rp.rp K F) vs xs
  mono := fun s ⟨a, vs, e, h, r⟩ => ⟨a, vs, e, s _ _ h, r.mono fun _ _ q => Rp.mono s q⟩
/-- a tuple of any number of things of one kind -/
structure Tp (α : Type) where
  l : List α
deriving DecidableEq
instance instRpTp {α : Type} [Rp α] : Rp (Tp α) where
  rp K F v xs := ∃ a vs, v = .ref a ∧ F a = some (.tup vs) ∧ All2 (Rp.rp K F) vs xs.l
  mono := fun s ⟨a, vs, e, h, r⟩ => ⟨a, vs, e, s _ _ h, r.mono fun _ _ q => Rp.mono s q⟩
/-- a pair -/
instance instRpProd {α β : Type} [Rp α] [Rp β] : Rp (α × β) where
  rp K F v x := ∃ a v1 v2, v = .ref a ∧ F a = some (.tup [v1, v2]) ∧ Rp.rp K F v1 x.1 ∧ Rp.rp K F v2 x.2
  mono := fun s ⟨a, v1, v2, e, h, r1, r2⟩ => ⟨a, v1, v2, e, s _ _ h, Rp.mono s r1, Rp.mono s r2⟩
/-- keys of dicts -/
class Ky (κ : Type) where
  key : κ → Key
  kinj : ∀ {a b}, key a = key b → a = b
instance : Ky Int := ⟨Sum.inl, fun h => Sum.inl.inj h⟩
instance : Ky Str := ⟨Sum.inr, fun h => Sum.inr.inj h⟩
/-- a dict that stands -/
structure Dc (κ α : Type) where
  l : List (κ × α)
def KvOk {κ α : Type} [Ky κ] [Rp α] (K : Frag) (F : Hp) (p : Key × V) (q : κ × α) : Prop := p.1 = Ky.key q.1 ∧ Rp.rp K F p.2 q.2
theorem KvOk.mono {κ α : Type} [Ky κ] [Rp α] {K : Frag} {F F' : Hp} {p : Key × V} {q : κ × α} (s : Same F F') (h : KvOk K F p q) : KvOk K F' p q := ⟨h.1, Rp.mono s h.2⟩
instance instRpDc {κ α : Type} [Ky κ] [Rp α] : Rp (Dc κ α) where
  rp K F v d := ∃ a o kvs, v = .ref a ∧ F a = some (.frz o (.dK kvs)) ∧ All2 (KvOk K F) kvs d.l
  mono := fun s ⟨a, o, kvs, e, h, r⟩ => ⟨a, o, kvs, e, s _ _ h, r.mono fun _ _ q => q.mono s⟩
/-- .. with tuples as keys -/
structure Dt (κ α : Type) where
  l : List (Tp κ × α)
def KtOk {κ α : Type} [Ky κ] [Rp α] (K : Frag) (F : Hp) (p : List Key × V) (q : Tp κ × α) : Prop := p.1 = q.1.l.map Ky.key ∧ Rp.rp K F p.2 q.2
theorem KtOk.mono {κ α : Type} [Ky κ] [Rp α] {K : Frag} {F F' : Hp} {p : List Key × V} {q : Tp κ × α} (s : Same F F') (h : KtOk K F p q) : KtOk K F' p q := ⟨h.1, Rp.mono s h.2⟩
instance instRpDt {κ α : Type} [Ky κ] [Rp α] : Rp (Dt κ α) where
  rp K F v d := ∃ a o kvs, v = .ref a ∧ F a = some (.frz o (.dT kvs)) ∧ All2 (KtOk K F) kvs d.l
  mono := fun s ⟨a, o, kvs, e, h, r⟩ => ⟨a, o, kvs, e, s _ _ h, r.mono fun _ _ q => q.mono s⟩
/-! ### cells: objects that are still changed -/
inductive Ct : Type 1
  | lst {α : Type} [Rp α] (xs : List α)
  | dct {κ α : Type} [Ky κ] [Rp α] (kvs : List (κ × α))
  | dtt {κ α : Type} [Ky κ] [Rp α] (kvs : List (Tp κ × α))
  | tab (q : Str)
  | ins (C dx : Addr) (fs : List (Str × TV))
/-- an instance's fields -/
def FldOk (K : Frag) (F : Hp) (p : Str × V) (q : Str × TV) : Prop := p.1 = q.1 ∧ q.2.ok K F p.2
theorem FldOk.mono {K : Frag} {F F' : Hp} {p : Str × V} {q : Str × TV} (s : Same F F') (h : FldOk K F p q) : FldOk K F' p q := ⟨h.1, h.2.mono s⟩
def Ct.ho (K : Frag) (F : Hp) : Ct → HO → Prop
  | @Ct.lst _ _ xs, o => ∃ vs, o = .lst vs ∧ All2 (Rp.rp K F) vs xs
  | @Ct.dct _ _ _ _ kvs, o => ∃ ps, o = .dK ps ∧ All2 (KvOk K F) ps kvs
  | @Ct.dtt _ _ _ _ kvs, o => ∃ ps, o = .dT ps ∧ All2 (KtOk K F) ps kvs
  | .tab q, o => ∃ ps : Array Value, o = .tbl ps ∧ TriplesOk ps.toList ∧ ∀ (pos : Pos) (cv : Value), codeAmong pos ps.toList = some cv → ∃ c, cv = .ref c ∧ F c = some (LamX.CodeO c q)
  | .ins C dx fs, o => ∃ vs, o = .ins C dx vs ∧ All2 (FldOk K F) vs fs
theorem Ct.ho.mono {K : Frag} {F F' : Hp} {c : Ct} {o : HO} (s : Same F F') (h : c.ho K F o) : c.ho K F' o := by
  cases c with
  | lst xs => obtain ⟨vs, e, r⟩ := h; exact ⟨vs, e, r.mono fun _ _ q => Rp.mono s q⟩
  | dct kvs => obtain ⟨vs, e, r⟩ := h; exact ⟨vs, e, r.mono fun _ _ q => q.mono s⟩
  | dtt kvs => obtain ⟨vs, e, r⟩ := h; exact ⟨vs, e, r.mono fun _ _ q => q.mono s⟩
  | tab q => obtain ⟨ps, e, r1, r2⟩ := h; exact ⟨ps, e, r1, fun p cv hc => let ⟨c, h1, h2⟩ := r2 p cv hc; ⟨c, h1, s _ _ h2⟩⟩
  | ins C dx fs => obtain ⟨vs, e, r⟩ := h; exact ⟨vs, e, r.mono fun _ _ q => q.mono s⟩
theorem Ct.ho_tup {K : Frag} {F : Hp} {c : Ct} {xs : List V} : ¬ c.ho K F (.tup xs) := fun h => by
  cases c <;> (obtain ⟨_, e, _⟩ := h; cases e)
abbrev Cs := List (Addr × Ct)
/-- F's things stand in H -/
def Sub (F H : Hp) : Prop := ∀ a o, F a = some o → H a = some o
theorem Sub.refl (F : Hp) : Sub F F := fun _ _ h => h
theorem Sub.rd {F H : Hp} {a : Addr} {o : HO} (s : Sub F H) (h : Rd F a o) : Rd H a o := h.elim (fun h => .inl (s _ _ h)) fun ⟨u, h⟩ => .inr ⟨u, s _ _ h⟩
theorem Sub.sqL {K : Frag} {F H : Hp} {a : Addr} {xs : List V} (s : Sub F H) (h : SqL K F a xs) : SqL K H a xs := h.elim (fun h => .inl (s.rd h)) .inr
theorem Sub.sqT {K : Frag} {F H : Hp} {a : Addr} {xs : List V} (s : Sub F H) (h : SqT K F a xs) : SqT K H a xs := h.elim (fun h => .inl (s.rd h)) .inr
theorem Sub.none {F H : Hp} {a : Addr} (s : Sub F H) (h : H a = none) : F a = none := by
  cases e : F a with
  | none => rfl
  | some o => rw [s a o e] at h; cases h
/-! ### the state of a def that runs -/
structure Bs where
  K : Frag
  H : Hp
  F : Hp
  P : List Addr
abbrev Sl := Option TV
def slOk (K : Frag) (F : Hp) (s : Option V) (g : Sl) : Prop := ∀ t, g = some t → ∃ v, s = some v ∧ t.ok K F v
theorem slOk.mono {K : Frag} {F F' : Hp} {s : Option V} {g : Sl} (e : Same F F') (h : slOk K F s g) : slOk K F' s g := fun t q => let ⟨v, h1, h2⟩ := h t q; ⟨v, h1, h2.mono e⟩
/-- the heap's part: F what stands for good, C the cells -/
structure HF (B : Bs) (F : Hp) (C : Cs) (H : Hp) : Prop where
  sub : Sub F H
  base : Same B.F F
  new : ∀ a o, F a = some o → B.F a = none → B.H a = none ∨ ∃ xs, o = .tup xs
  old : ∀ a o, B.H a = some o → a ∉ B.P → H a = some o
  cells : ∀ p ∈ C, F p.1 = none ∧ (∃ o, H p.1 = some o ∧ p.2.ho B.K F o) ∧ (p.1 ∈ B.P ∨ B.H p.1 = none)
  nd : (C.map (·.1)).Nodup
  pal : ∀ a ∈ B.P, H a ≠ none
  pb : ∀ a ∈ B.P, B.H a ≠ none
structure SF (B : Bs) (F : Hp) (Γ : List Sl) (C : Cs) (τ : List TV) (σ : St) (ws : List V) (H : Hp) : Prop where
  hf : HF B F C H
  slots : All2 (slOk B.K F) σ Γ
  temps : All2 (TV.ok B.K F) ws τ
def ST (B : Bs) (Γ : List Sl) (C : Cs) (τ : List TV) (σ : St) (ws : List V) (H : Hp) : Prop := ∃ F, SF B F Γ C τ σ ws H
section
variable {B : Bs} {F F' : Hp} {Γ Γ' : List Sl} {C C' C1 C2 C3 : Cs} {τ : List TV} {σ : St} {ws : List V} {H H' : Hp}
theorem HF.free (h : HF B F C H) {p : Addr} (hp : H p = none) : F p = none ∧ p ∉ B.P ∧ B.H p = none := by
  have hP : p ∉ B.P := fun z => h.pal p z hp
  refine ⟨h.sub.none hp, hP, ?_⟩
  cases e : B.H p with
  | none => rfl
  | some o =>
    have := h.old p o e hP
    rw [hp] at this; cases this
end
/-! ### judgements on readings -/
/-- an expression's value; what it does to cells -/
def Ev (B : Bs) (t : TE) (Γ : List Sl) (C : Cs) (x : TV) (C' : Cs) : Prop :=
  ∀ τ σ ws H, ST B Γ C τ σ ws H → ∀ Q : VK, (∀ v H', ST B Γ C' (x :: τ) σ (v :: ws) H' → Q v H') → t σ H Q
/-- .. a new object -/
def EvN (B : Bs) (t : TE) (Γ : List Sl) (C : Cs) (c : Ct) (C' : Cs) : Prop :=
  ∀ τ σ ws H, ST B Γ C τ σ ws H → ∀ Q : VK, (∀ p H', B.H p = none → p ∉ B.P → ST B Γ ((p, c) :: C') τ σ ws H' → Q (.ref p) H') → t σ H Q
def EvT (B : Bs) (t : TT) (Γ : List Sl) (C : Cs) (b : Bool) (C' : Cs) : Prop :=
  ∀ τ σ ws H, ST B Γ C τ σ ws H → ∀ Q : Bool → Hp → Prop, (∀ H', ST B Γ C' τ σ ws H' → Q b H') → t σ H Q
/-- arguments, from the left; the last one is the newest -/
def EvA (B : Bs) (t : TA) (Γ : List Sl) (C : Cs) (xs : List TV) (C' : Cs) : Prop :=
  ∀ τ σ ws H, ST B Γ C τ σ ws H → ∀ Q : List V → Hp → Prop, (∀ vs H', ST B Γ C' (xs ++ τ) σ (vs ++ ws) H' → vs.length = xs.length → Q vs H') → t σ H Q
structure EndT where
  nx : List TV → List V → St → Hp → Prop
  rt : VK
  bk : List TV → List V → St → Hp → Prop := fun _ _ _ _ => False
  ct : List TV → List V → St → Hp → Prop := fun _ _ _ _ => False
/-- what D wants is what E wants -/
structure EndT.Imp (D : EndT) (τ : List TV) (ws : List V) (E : Ends) : Prop where
  nx : ∀ σ H, D.nx τ ws σ H → E.nx σ H
  rt : ∀ v H, D.rt v H → E.rt v H
  bk : ∀ σ H, D.bk τ ws σ H → E.bk σ H
  ct : ∀ σ H, D.ct τ ws σ H → E.ct σ H
def Ss (B : Bs) (t : TS) (Γ : List Sl) (C : Cs) (D : EndT) : Prop :=
  ∀ τ σ ws H, ST B Γ C τ σ ws H → ∀ E : Ends, D.Imp τ ws E → t E σ H
/-- what a return is to reach: a value that stands, or a new object; the parameters' cells -/
def RetV (B : Bs) (x : TV) (C : Cs) : VK := fun v H => ∃ F, HF B F C H ∧ x.ok B.K F v
def RetN (B : Bs) (c : Ct) (C : Cs) : VK := fun v H => ∃ p F, v = .ref p ∧ B.H p = none ∧ p ∉ B.P ∧ HF B F ((p, c) :: C) H
/-! ### structural lemmas -/
section
variable {B : Bs} {F F' : Hp} {Γ Γ' : List Sl} {C C' C1 C2 C3 : Cs} {τ : List TV} {σ : St} {ws : List V} {H H' : Hp} {x y z : TV} {c : Ct}
theorem HF.drop {p : Addr × Ct} (h : HF B F (p :: C) H) : HF B F C H :=
  ⟨h.sub, h.base, h.new, h.old, fun q hq => h.cells q (List.mem_cons_of_mem _ hq), (List.nodup_cons.mp h.nd).2, h.pal, h.pb⟩
theorem HF.sublist (h : HF B F C H) (s : C'.Sublist C) : HF B F C' H :=
  ⟨h.sub, h.base, h.new, h.old, fun q hq => h.cells q (s.mem hq), h.nd.sublist (s.map _), h.pal, h.pb⟩
theorem HF.perm (h : HF B F C H) (s : C.Perm C') : HF B F C' H :=
  ⟨h.sub, h.base, h.new, h.old, fun q hq => h.cells q (s.mem_iff.mpr hq), (s.map (·.1)).nodup_iff.mp h.nd, h.pal, h.pb⟩
/-- a new object that stands for good -/
theorem HF.laid {p : Addr} {o : HO} (h : HF B F C H) (hp : H p = none) : HF B (upd F p o) C (upd H p o) ∧ Same F (upd F p o) ∧ Same H (upd H p o) := by
  have hF : F p = none := h.sub.none hp
  have sF : Same F (upd F p o) := fun b u e => by rw [upd_ne (ne_of_none e hF)]; exact e
  have sH : Same H (upd H p o) := fun b u e => by rw [upd_ne (ne_of_none e hp)]; exact e
  have hB : B.H p = none := (h.free hp).2.2
  refine ⟨⟨fun a u e => ?_, h.base.trans sF, fun a u e hn => ?_, fun a u e ha => sH _ _ (h.old a u e ha), fun q hq => ?_, h.nd, fun a ha z => h.pal a ha (Same.free sH z), h.pb⟩, sF, sH⟩
  · by_cases ha : a = p
    · subst ha; rw [upd_same] at e; cases e; exact upd_same
    · rw [upd_ne ha] at e
      exact sH _ _ (h.sub a u e)
  · by_cases ha : a = p
    · subst ha; exact .inl hB
    · rw [upd_ne ha] at e; exact h.new a u e hn
  · obtain ⟨h1, ⟨u, h2, h3⟩, h4⟩ := h.cells q hq
    have hne : q.1 ≠ p := ne_of_none h2 hp
    exact ⟨by rw [upd_ne hne]; exact h1, ⟨u, sH _ _ h2, h3.mono sF⟩, h4⟩
/-- a tuple that H tells of stands -/
theorem HF.tuple {p : Addr} {xs : List V} (h : HF B F C H) (hp : H p = some (.tup xs)) : ∃ F', HF B F' C H ∧ Same F F' ∧ F' p = some (.tup xs) := by
  cases e : F p with
  | some o =>
    have := h.sub _ _ e
    rw [hp] at this
    cases this
    exact ⟨F, h, Same.refl F, e⟩
  | none =>
    have sF : Same F (upd F p (.tup xs)) := fun b u q => by rw [upd_ne (ne_of_none q e)]; exact q
    refine ⟨upd F p (.tup xs), ⟨fun a u q => ?_, h.base.trans sF, fun a u q hn => ?_, h.old, fun q hq => ?_, h.nd, h.pal, h.pb⟩, sF, upd_same⟩
    · by_cases ha : a = p
      · subst ha; rw [upd_same] at q; cases q; exact hp
      · rw [upd_ne ha] at q; exact h.sub a u q
    · by_cases ha : a = p
      · subst ha; rw [upd_same] at q; cases q; exact .inr ⟨xs, rfl⟩
      · rw [upd_ne ha] at q; exact h.new a u q hn
    · obtain ⟨h1, ⟨u, h2, h3⟩, h4⟩ := h.cells q hq
      have hne : q.1 ≠ p := fun z => by rw [z, hp] at h2; cases h2; exact Ct.ho_tup h3
      exact ⟨by rw [upd_ne hne]; exact h1, ⟨u, h2, h3.mono sF⟩, h4⟩
/-- a new cell -/
theorem HF.cell {p : Addr} {o : HO} (h : HF B F C H) (hp : H p = none) (ho : c.ho B.K F o) : HF B F ((p, c) :: C) (upd H p o) ∧ Same H (upd H p o) := by
  have sH : Same H (upd H p o) := fun b u e => by rw [upd_ne (ne_of_none e hp)]; exact e
  have hf := h.free hp
  refine ⟨⟨fun a u e => ?_, h.base, h.new, fun a u e ha => sH _ _ (h.old a u e ha), fun q hq => ?_, ?_, fun a ha z => h.pal a ha (Same.free sH z), h.pb⟩, sH⟩
  · exact sH _ _ (h.sub a u e)
  · rcases List.mem_cons.mp hq with rfl | hq
    · exact ⟨hf.1, ⟨o, upd_same, ho⟩, .inr hf.2.2⟩
    · obtain ⟨h1, ⟨u, h2, h3⟩, h4⟩ := h.cells q hq
      exact ⟨h1, ⟨u, sH _ _ h2, h3⟩, h4⟩
  · refine List.nodup_cons.mpr ⟨fun z => ?_, h.nd⟩
    obtain ⟨q, hq, e⟩ := List.mem_map.mp z
    obtain ⟨_, ⟨u, h2, _⟩, _⟩ := h.cells q hq
    rw [e, hp] at h2; cases h2
/-- a cell is given up: it stands for good -/
theorem HF.freeze {p : Addr} (h : HF B F ((p, c) :: C) H) (hB : B.H p = none) : ∃ o, H p = some o ∧ c.ho B.K F o ∧ Same F (upd F p o) ∧ HF B (upd F p o) C H := by
  obtain ⟨h1, ⟨o, h2, h3⟩, _⟩ := h.cells (p, c) List.mem_cons_self
  have sF : Same F (upd F p o) := fun b u e => by rw [upd_ne (ne_of_none e h1)]; exact e
  have hnd := List.nodup_cons.mp h.nd
  refine ⟨o, h2, h3, sF, fun a u e => ?_, h.base.trans sF, fun a u e hn => ?_, h.old, fun q hq => ?_, hnd.2, h.pal, h.pb⟩
  · by_cases ha : a = p
    · subst ha; rw [upd_same] at e; cases e; exact h2
    · rw [upd_ne ha] at e; exact h.sub a u e
  · by_cases ha : a = p
    · subst ha; exact .inl hB
    · rw [upd_ne ha] at e; exact h.new a u e hn
  · obtain ⟨q1, ⟨u, q2, q3⟩, q4⟩ := h.cells q (List.mem_cons_of_mem _ hq)
    have hne : q.1 ≠ p := fun z => hnd.1 (List.mem_map.mpr ⟨q, hq, z⟩)
    exact ⟨by rw [upd_ne hne]; exact q1, ⟨u, q2, q3.mono sF⟩, q4⟩
theorem Cs.keys_set {p : Addr} {c' : Ct} : ∀ {C : Cs} {k : Nat}, C[k]? = some (p, c) → (C.set k (p, c')).map (·.1) = C.map (·.1)
  | [], k, e => by simp at e
  | q :: C, 0, e => by
    simp only [List.getElem?_cons_zero, Option.some.injEq] at e
    subst e
    rfl
  | q :: C, k + 1, e => by
    simp only [List.getElem?_cons_succ] at e
    simp only [List.set_cons_succ, List.map_cons, Cs.keys_set e]
/-- two cells at one address are one -/
theorem nodup_at : ∀ {C : Cs} {i j : Nat} {p : Addr} {c d : Ct}, (C.map (·.1)).Nodup → C[i]? = some (p, c) → C[j]? = some (p, d) → i = j := fun {C i j p c d} hn hi hj => by
  have h1 : (C.map (·.1))[i]? = some p := by rw [List.getElem?_map, hi]; rfl
  have h2 : (C.map (·.1))[j]? = some p := by rw [List.getElem?_map, hj]; rfl
  obtain ⟨a1, _⟩ := List.getElem?_eq_some_iff.mp h1
  exact (List.getElem?_inj a1 hn).mp (h1.trans h2.symm)
/-- a cell is changed -/
theorem HF.write {p : Addr} {o' : HO} {c' : Ct} {k : Nat} (h : HF B F C H) (hk : C[k]? = some (p, c)) (ho : c'.ho B.K F o') : HF B F (C.set k (p, c')) (upd H p o') := by
  have hm := List.mem_of_getElem? hk
  obtain ⟨h1, ⟨o, h2, h3⟩, h4⟩ := h.cells (p, c) hm
  refine ⟨fun a u e => ?_, h.base, h.new, fun a u e ha => ?_, fun q hq => ?_, by rw [Cs.keys_set hk]; exact h.nd, fun a ha => ?_, h.pb⟩
  · have hne : a ≠ p := ne_of_none e h1
    rw [upd_ne hne]
    exact h.sub a u e
  · have hne : a ≠ p := fun z => by
      subst z
      rcases h4 with z | z
      · exact ha z
      · rw [e] at z; cases z
    rw [upd_ne hne]
    exact h.old a u e ha
  · obtain ⟨j, hj⟩ := List.getElem?_of_mem hq
    by_cases hjk : k = j
    · subst hjk
      have hl : k < C.length := (List.getElem?_eq_some_iff.mp hk).1
      rw [List.getElem?_set_self hl] at hj
      cases hj
      exact ⟨h1, ⟨o', upd_same, ho⟩, h4⟩
    · rw [List.getElem?_set_ne hjk] at hj
      obtain ⟨q1, ⟨u, q2, q3⟩, q4⟩ := h.cells q (List.mem_of_getElem? hj)
      have hne : q.1 ≠ p := fun z => hjk (nodup_at (d := q.2) h.nd hk (by rw [← z]; exact hj))
      exact ⟨q1, ⟨u, by rw [upd_ne hne]; exact q2, q3⟩, q4⟩
  · by_cases e : a = p
    · rw [e, upd_same]; exact nofun
    · rw [upd_ne e]; exact h.pal a ha
theorem All2.slots_mono (s : Same F F') (h : All2 (slOk B.K F) σ Γ) : All2 (slOk B.K F') σ Γ := h.mono fun _ _ q => q.mono s
theorem All2.temps_mono (s : Same F F') (h : All2 (TV.ok B.K F) ws τ) : All2 (TV.ok B.K F') ws τ := h.mono fun _ _ q => q.mono s
theorem SF.to {C' : Cs} (h : SF B F Γ C τ σ ws H) (s : Same F F') (hf : HF B F' C' H') : SF B F' Γ C' τ σ ws H' := ⟨hf, h.slots.slots_mono s, h.temps.temps_mono s⟩
theorem ST.push {x : TV} {v : V} (h : SF B F Γ C τ σ ws H) (hv : x.ok B.K F v) : ST B Γ C (x :: τ) σ (v :: ws) H := ⟨F, h.hf, h.slots, .cons hv h.temps⟩
theorem ST.pop {x : TV} {v : V} (h : ST B Γ C (x :: τ) σ (v :: ws) H) : ∃ F, SF B F Γ C τ σ ws H ∧ x.ok B.K F v := by
  obtain ⟨F, h⟩ := h
  cases h.temps with
  | cons hv ht => exact ⟨F, ⟨h.hf, h.slots, ht⟩, hv⟩
/-! ### expressions -/
variable {ta tb tc te : TE} {ca : TA}
theorem ev_var {i : Nat} (h : Γ[i]? = some (some x)) : Ev B (tVar i) Γ C x C := fun τ σ ws H ⟨F, st⟩ Q q => by
  obtain ⟨s, h1, h2⟩ := st.slots.get h
  obtain ⟨v, rfl, h4⟩ := h2 x rfl
  exact ⟨v, h1, q v H (ST.push st h4)⟩
theorem ev_c {v : V} (h : ∀ K F, x.ok K F v) : Ev B (tC v) Γ C x C := fun τ σ ws H ⟨F, st⟩ Q q => q v H (ST.push st (h _ _))
theorem ev_int {n : Int} : Ev B (tC (.int n)) Γ C (tv n) C := ev_c fun _ _ => rfl
theorem ev_bl {n : Bool} : Ev B (tC (.bl n)) Γ C (tv n) C := ev_c fun _ _ => rfl
theorem ev_str {n : Str} : Ev B (tC (.str n)) Γ C (tv n) C := ev_c fun _ _ => rfl
theorem ev_non : Ev B (tC .non) Γ C (tv ()) C := ev_c fun _ _ => rfl
/-- an operation on values that makes nothing -/
def OpS (B : Bs) (C : Cs) (r : R2) (x y z : TV) : Prop := ∀ F H v w, HF B F C H → x.ok B.K F v → y.ok B.K F w → ∀ Q : VK, (∀ u, z.ok B.K F u → Q u H) → r v w H Q
/-- .. that makes a new object -/
def OpN (B : Bs) (C : Cs) (r : R2) (x y : TV) (c : Ct) : Prop := ∀ F H v w, HF B F C H → x.ok B.K F v → y.ok B.K F w → ∀ Q : VK, (∀ p o, H p = none → c.ho B.K F o → Q (.ref p) (upd H p o)) → r v w H Q
theorem ev_op {r : R2} (ha : Ev B ta Γ C x C1) (hb : Ev B tb Γ C1 y C2) (hr : OpS B C2 r x y z) : Ev B (tOp r ta tb) Γ C z C2 := fun τ σ ws H st Q q =>
  ha τ σ ws H st _ fun v H1 s1 => hb _ σ _ H1 s1 _ fun w H2 s2 => by
    obtain ⟨F, s3, hw⟩ := s2.pop
    cases s3.temps with
    | cons hv ht => exact hr F H2 v w s3.hf hv hw Q fun u hu => q u H2 (ST.push ⟨s3.hf, s3.slots, ht⟩ hu)
theorem evn_op {r : R2} (ha : Ev B ta Γ C x C1) (hb : Ev B tb Γ C1 y C2) (hr : OpN B C2 r x y c) : EvN B (tOp r ta tb) Γ C c C2 := fun τ σ ws H st Q q =>
  ha τ σ ws H st _ fun v H1 s1 => hb _ σ _ H1 s1 _ fun w H2 s2 => by
    obtain ⟨F, s3, hw⟩ := s2.pop
    cases s3.temps with
    | cons hv ht => exact hr F H2 v w s3.hf hv hw Q fun p o hp ho => q p _ (s3.hf.free hp).2.2 (s3.hf.free hp).2.1 ⟨F, (s3.hf.cell hp ho).1, s3.slots, ht⟩
def UnS (B : Bs) (C : Cs) (r : V → Hp → VK → Prop) (x z : TV) : Prop := ∀ F H v, HF B F C H → x.ok B.K F v → ∀ Q : VK, (∀ u, z.ok B.K F u → Q u H) → r v H Q
theorem ev_un {r} (ha : Ev B ta Γ C x C1) (hr : UnS B C1 r x z) : Ev B (tUn r ta) Γ C z C1 := fun τ σ ws H st Q q =>
  ha τ σ ws H st _ fun v H1 s1 => by
    obtain ⟨F, s3, hv⟩ := s1.pop
    exact hr F H1 v s3.hf hv Q fun u hu => q u H1 (ST.push s3 hu)
/-- a new list that stands for good -/
theorem ev_of {α : Type} [Rp α] {xs : List α} (h : EvN B te Γ C (.lst xs) C') : Ev B te Γ C (tv xs) C' := fun τ σ ws H st Q q =>
  h τ σ ws H st Q fun p H' hB hP ⟨F, s⟩ => by
    obtain ⟨o, h1, ⟨vs, rfl, h3⟩, sF, hf⟩ := s.hf.freeze hB
    have s' := s.to sF hf
    exact q _ _ (ST.push s' ⟨p, vs, rfl, upd_same, h3.mono fun _ _ z => Rp.mono sF z⟩)
/-- the object that an expression gives is locked for good (no step of the machine) -/
def tFrz (t : TE) : TE := fun σ H Q => t σ H fun v H1 => ∃ d u, v = .ref d ∧ H1 d = some u ∧ Mut (some u) ∧ ∀ od, Q v (upd H1 d (.frz od u))
theorem pe_frz {X : Cx} {e : Expr} {t : TE} (h : PE X e t) : PE X e (tFrz t) := by
  refine ⟨fun pins s σ H Q I hw => thn (h.run pins s σ H _ I hw) fun u s1 ⟨v, H1, I1, r1, d, o, ev, hd, mu, q⟩ => ?_⟩
  obtain ⟨od, I2⟩ := I1.lock hd mu
  exact ⟨v, _, I2, r1, q od⟩
/-- a cell is given up, locked -/
theorem HF.lock {p : Addr} {od : Obj} (h : HF B F ((p, c) :: C) H) (hB : B.H p = none) : ∃ o, H p = some o ∧ c.ho B.K F o ∧ Same F (upd F p (.frz od o)) ∧ HF B (upd F p (.frz od o)) C (upd H p (.frz od o)) := by
  obtain ⟨h1, ⟨o, h2, h3⟩, _⟩ := h.cells (p, c) List.mem_cons_self
  have sF : Same F (upd F p (.frz od o)) := fun b u e => by rw [upd_ne (ne_of_none e h1)]; exact e
  have hnd := List.nodup_cons.mp h.nd
  refine ⟨o, h2, h3, sF, fun a u e => ?_, h.base.trans sF, fun a u e hn => ?_, fun a u e ha => ?_, fun q hq => ?_, hnd.2, fun a ha => ?_, h.pb⟩
  · by_cases ha : a = p
    · subst ha; rw [upd_same] at e; cases e; exact upd_same
    · rw [upd_ne ha] at e
      rw [upd_ne ha]
      exact h.sub a u e
  · by_cases ha : a = p
    · subst ha; exact .inl hB
    · rw [upd_ne ha] at e; exact h.new a u e hn
  · have hne : a ≠ p := fun z => by rw [z, hB] at e; cases e
    rw [upd_ne hne]
    exact h.old a u e ha
  · obtain ⟨q1, ⟨u, q2, q3⟩, q4⟩ := h.cells q (List.mem_cons_of_mem _ hq)
    have hne : q.1 ≠ p := fun z => hnd.1 (List.mem_map.mpr ⟨q, hq, z⟩)
    exact ⟨by rw [upd_ne hne]; exact q1, ⟨u, by rw [upd_ne hne]; exact q2, q3.mono sF⟩, q4⟩
  · by_cases e : a = p
    · rw [e, upd_same]; exact nofun
    · rw [upd_ne e]; exact h.pal a ha
theorem ev_ofD {κ α : Type} [Ky κ] [Rp α] {kvs : List (κ × α)} (h : EvN B te Γ C (.dct kvs) C') : Ev B (tFrz te) Γ C (tv (Dc.mk kvs)) C' := fun τ σ ws H st Q q =>
  h τ σ ws H st _ fun p H' hB hP ⟨F, s⟩ => by
    obtain ⟨_, ⟨o, h2, ⟨vs, rfl, h3⟩⟩, _⟩ := s.hf.cells _ List.mem_cons_self
    refine ⟨p, _, rfl, h2, True.intro, fun od => ?_⟩
    obtain ⟨o', h1', _, sF, hf⟩ := s.hf.lock (od := od) hB
    rw [h2] at h1'
    cases h1'
    have s' := s.to sF hf
    exact q _ _ (ST.push s' ⟨p, od, vs, rfl, upd_same, h3.mono fun _ _ z => z.mono sF⟩)
/-! arguments -/
theorem ea_nil : EvA B tNil Γ C [] C := fun τ σ ws H st Q q => q [] H st rfl
theorem All2.move {a : V} {b : TV} {K : Frag} : ∀ {vs : List V} {xs : List TV} {ws : List V} {τ : List TV}, All2 (TV.ok K F) (vs ++ (a :: ws)) (xs ++ (b :: τ)) → vs.length = xs.length → All2 (TV.ok K F) ((a :: vs) ++ ws) ((b :: xs) ++ τ) := fun {vs xs ws τ} h hl => by
  obtain ⟨h1, h2⟩ := All2.split h hl
  cases h2 with
  | cons h3 h4 => exact .cons h3 (h1.append h4)
theorem ea_cons {xs : List TV} (h : Ev B ta Γ C x C1) (hr : EvA B ca Γ C1 xs C2) : EvA B (tCons ta ca) Γ C (x :: xs) C2 := fun τ σ ws H st Q q =>
  h τ σ ws H st _ fun v H1 s1 => hr _ σ _ H1 s1 _ fun vs H2 ⟨F, s2⟩ hl => q _ H2 ⟨F, s2.hf, s2.slots, All2.move s2.temps hl⟩ (by simp [hl])
theorem EvA.out {xs : List TV} {vs : List V} (h : ST B Γ C (xs ++ τ) σ (vs ++ ws) H) (hl : vs.length = xs.length) : ∃ F, SF B F Γ C τ σ ws H ∧ All2 (TV.ok B.K F) vs xs := by
  obtain ⟨F, h⟩ := h
  obtain ⟨h1, h2⟩ := All2.split h.temps hl
  exact ⟨F, ⟨h.hf, h.slots, h2⟩, h1⟩
/-- a built-in by values -/
def CbS (B : Bs) (C : Cs) (r : List V → Hp → VK → Prop) (xs : List TV) (z : TV) : Prop := ∀ F H vs, HF B F C H → All2 (TV.ok B.K F) vs xs → ∀ Q : VK, (∀ u, z.ok B.K F u → Q u H) → r vs H Q
def CbN (B : Bs) (C : Cs) (r : List V → Hp → VK → Prop) (xs : List TV) (c : Ct) : Prop := ∀ F H vs, HF B F C H → All2 (TV.ok B.K F) vs xs → ∀ Q : VK, (∀ p o, H p = none → c.ho B.K F o → Q (.ref p) (upd H p o)) → r vs H Q
theorem ev_cb {r} {xs : List TV} (ha : EvA B ca Γ C xs C1) (hr : CbS B C1 r xs z) : Ev B (tCB r ca) Γ C z C1 := fun τ σ ws H st Q q =>
  ha τ σ ws H st _ fun vs H1 s1 hl => by
    obtain ⟨F, s2, hv⟩ := EvA.out s1 hl
    exact hr F H1 vs s2.hf hv Q fun u hu => q u H1 (ST.push s2 hu)
theorem evn_cb {r} {xs : List TV} (ha : EvA B ca Γ C xs C1) (hr : CbN B C1 r xs c) : EvN B (tCB r ca) Γ C c C1 := fun τ σ ws H st Q q =>
  ha τ σ ws H st _ fun vs H1 s1 hl => by
    obtain ⟨F, s2, hv⟩ := EvA.out s1 hl
    exact hr F H1 vs s2.hf hv Q fun p o hp ho => q p _ (s2.hf.free hp).2.2 (s2.hf.free hp).2.1 ⟨F, (s2.hf.cell hp ho).1, s2.slots, s2.temps⟩
theorem vals_tv {α : Type} [Rp α] {K : Frag} {F : Hp} : ∀ {xs : List α} {vs : List V}, All2 (TV.ok K F) vs (xs.map fun x => tv x) → All2 (Rp.rp K F) vs xs
  | [], _, .nil => .nil
  | _ :: _, _, .cons h t => .cons h (vals_tv t)
/-- displays -/
theorem evn_lst {α : Type} [Rp α] {xs : List α} (ha : EvA B ca Γ C (xs.map fun x => tv x) C1) (hz : xs.length ≤ sizeLine) : EvN B (tLst ca) Γ C (.lst xs) C1 := fun τ σ ws H st Q q =>
  ha τ σ ws H st _ fun vs H1 s1 hl => by
    obtain ⟨F, s2, hv⟩ := EvA.out s1 hl
    rw [List.length_map] at hl
    have hv' : All2 (Rp.rp B.K F) vs xs := by
      exact vals_tv hv
    exact ⟨by omega, fun p hp => q p _ (s2.hf.free hp).2.2 (s2.hf.free hp).2.1 ⟨F, (s2.hf.cell (c := .lst xs) hp ⟨vs, rfl, hv'⟩).1, s2.slots, s2.temps⟩⟩
theorem ev_tup {xs : List TV} {z : TV} (ha : EvA B ca Γ C xs C1) (hz : xs.length ≤ sizeLine) (hr : ∀ K F vs a, F a = some (.tup vs) → All2 (TV.ok K F) vs xs → z.ok K F (.ref a)) : Ev B (tTup ca) Γ C z C1 := fun τ σ ws H st Q q =>
  ha τ σ ws H st _ fun vs H1 s1 hl => by
    obtain ⟨F, s2, hv⟩ := EvA.out s1 hl
    refine ⟨by omega, fun p hp => ?_⟩
    obtain ⟨hf, sF, sH⟩ := s2.hf.laid (o := .tup vs) hp
    exact q _ _ (ST.push (s2.to sF hf) (hr _ _ _ _ upd_same (hv.temps_mono sF)))
/-! tests -/
variable {t u : TT} {b b' : Bool}
theorem et_test (h : Ev B te Γ C (tv b) C1) : EvT B (tTest te) Γ C b C1 := fun τ σ ws H st Q q => h τ σ ws H st _ fun v H1 s1 => by
  obtain ⟨F, s2, hv⟩ := s1.pop
  exact ⟨b, hv, q H1 ⟨F, s2⟩⟩
theorem et_B (h : Ev B te Γ C (tv b) C1) : EvT B (tB te) Γ C b C1 := fun τ σ ws H st Q q => h τ σ ws H st _ fun v H1 s1 => by
  obtain ⟨F, s2, hv⟩ := s1.pop
  exact ⟨b, hv, q H1 ⟨F, s2⟩⟩
theorem et_not (h : EvT B t Γ C b C1) : EvT B (tNot t) Γ C (!b) C1 := fun τ σ ws H st Q q => h τ σ ws H st _ fun H1 s1 => q H1 s1
/-- the second is asked only where it counts -/
theorem et_and (h1 : EvT B t Γ C b C1) (h2 : b = true → EvT B u Γ C1 b' C1) : EvT B (tAnd t u) Γ C (b && b') C1 := fun τ σ ws H st Q q => h1 τ σ ws H st _ fun H1 s1 => by
  cases b with
  | true => exact h2 rfl τ σ ws H1 s1 Q q
  | false => exact q H1 s1
theorem et_or (h1 : EvT B t Γ C b C1) (h2 : b = false → EvT B u Γ C1 b' C1) : EvT B (tOr t u) Γ C (b || b') C1 := fun τ σ ws H st Q q => h1 τ σ ws H st _ fun H1 s1 => by
  cases b with
  | true => exact q H1 s1
  | false => exact h2 rfl τ σ ws H1 s1 Q q
theorem ev_andV (h1 : Ev B ta Γ C (tv b) C1) (h2 : b = true → Ev B tb Γ C1 (tv b') C1) : Ev B (tAndV ta tb) Γ C (tv (b && b')) C1 := fun τ σ ws H st Q q => h1 τ σ ws H st _ fun v H1 s1 => by
  obtain ⟨F, s2, hv⟩ := s1.pop
  refine ⟨b, hv, ?_⟩
  cases b with
  | true => exact h2 rfl τ σ ws H1 ⟨F, s2⟩ Q q
  | false => exact q _ H1 (ST.push s2 rfl)
theorem ev_orV (h1 : Ev B ta Γ C (tv b) C1) (h2 : b = false → Ev B tb Γ C1 (tv b') C1) : Ev B (tOrV ta tb) Γ C (tv (b || b')) C1 := fun τ σ ws H st Q q => h1 τ σ ws H st _ fun v H1 s1 => by
  obtain ⟨F, s2, hv⟩ := s1.pop
  refine ⟨b, hv, ?_⟩
  cases b with
  | true => exact q _ H1 (ST.push s2 rfl)
  | false => exact h2 rfl τ σ ws H1 ⟨F, s2⟩ Q q
theorem ev_if (h : EvT B t Γ C b C1) (h1 : b = true → Ev B ta Γ C1 x C2) (h2 : b = false → Ev B tb Γ C1 x C2) : Ev B (tIf t ta tb) Γ C x C2 := fun τ σ ws H st Q q => h τ σ ws H st _ fun H1 s1 => by
  cases b with
  | true => exact h1 rfl τ σ ws H1 s1 Q q
  | false => exact h2 rfl τ σ ws H1 s1 Q q
theorem et_is (h : EvT B t Γ C b C1) (e : b = b') : EvT B t Γ C b' C1 := e ▸ h
/-! ### statements -/
variable {D : EndT} {ts tu tw : TS}
theorem ss_set {i : Nat} (h : Ev B te Γ C x C1) (k : Ss B tu (Γ.set i (some x)) C1 D) : Ss B (tSeq (tAsg te (gName i)) tu) Γ C D := fun τ σ ws H st E im =>
  h τ σ ws H st _ fun v H1 s1 => by
    obtain ⟨F, s2, hv⟩ := s1.pop
    exact k τ _ ws H1 ⟨F, s2.hf, s2.slots.set (fun t e => by cases e; exact ⟨v, rfl, hv⟩) i, s2.temps⟩ E im
theorem ss_setN {i : Nat} (h : EvN B te Γ C c C1) (k : ∀ p, B.H p = none → Ss B tu (Γ.set i (some (tv (Ptr.mk p)))) ((p, c) :: C1) D) : Ss B (tSeq (tAsg te (gName i)) tu) Γ C D := fun τ σ ws H st E im =>
  h τ σ ws H st _ fun p H1 hB hP ⟨F, s2⟩ => k p hB τ _ ws H1 ⟨F, s2.hf, s2.slots.set (fun t e => by cases e; exact ⟨.ref p, rfl, rfl⟩) i, s2.temps⟩ E im
theorem ss_ret (h : Ev B te Γ C x C1) (e : ∀ H v, RetV B x C1 v H → D.rt v H) : Ss B (tRet te) Γ C D := fun τ σ ws H st E im =>
  h τ σ ws H st _ fun v H1 s1 => by
    obtain ⟨F, s2, hv⟩ := s1.pop
    exact im.rt _ _ (e H1 v ⟨F, s2.hf, hv⟩)
theorem ss_retN (h : EvN B te Γ C c C1) (e : ∀ H v, RetN B c C1 v H → D.rt v H) : Ss B (tRet te) Γ C D := fun τ σ ws H st E im =>
  h τ σ ws H st _ fun p H1 hB hP ⟨F, s2⟩ => im.rt _ _ (e H1 _ ⟨p, F, rfl, hB, hP, s2.hf⟩)
theorem ss_drop (h : Ev B te Γ C x C1) (k : Ss B tu Γ C1 D) : Ss B (tSeq (tDrop te) tu) Γ C D := fun τ σ ws H st E im =>
  h τ σ ws H st _ fun v H1 s1 => by
    obtain ⟨F, s2, hv⟩ := s1.pop
    exact k τ _ ws H1 ⟨F, s2⟩ E im
/-- if, each way on its own -/
theorem ss_if (h : EvT B t Γ C b C1) (h1 : b = true → Ss B (tSeq ts tu) Γ C1 D) (h2 : b = false → Ss B (tSeq tw tu) Γ C1 D) : Ss B (tSeq (tIfS t ts tw) tu) Γ C D := fun τ σ ws H st E im =>
  h τ σ ws H st _ fun H1 s1 => by
    cases b with
    | true => exact h1 rfl τ σ ws H1 s1 E im
    | false => exact h2 rfl τ σ ws H1 s1 E im
/-- regrouping -/
theorem ss_assoc (h : Ss B (tSeq ts (tSeq tw tu)) Γ C D) : Ss B (tSeq (tSeq ts tw) tu) Γ C D := h
theorem ss_skip (h : Ss B tu Γ C D) : Ss B (tSeq tNext tu) Γ C D := h
theorem ss_next (h : ∀ τ ws σ H, ST B Γ C τ σ ws H → D.nx τ ws σ H) : Ss B tNext Γ C D := fun τ σ ws H st E im => im.nx _ _ (h τ ws σ H st)
/-- a last statement with an empty rest -/
theorem ss_end (h : Ss B (tSeq ts tNext) Γ C D) : Ss B ts Γ C D := h
/-- the names that are no more spoken of -/
abbrev Wk : List Sl → List Sl → Prop := All2 fun g g' => g' = none ∨ g' = g
theorem Wk.refl : ∀ Γ : List Sl, Wk Γ Γ
  | [] => .nil
  | _ :: Γ => .cons (.inr rfl) (Wk.refl Γ)
theorem Wk.slots {K : Frag} : ∀ {σ : St} {Γ Γ' : List Sl}, Wk Γ Γ' → All2 (slOk K F) σ Γ → All2 (slOk K F) σ Γ'
  | _, _, _, .nil, .nil => .nil
  | _, _, _, .cons h t, .cons h1 t1 => .cons (h.elim (fun e _ z => by rw [e] at z; cases z) fun e => e ▸ h1) (Wk.slots t t1)
theorem ST.weak (w : Wk Γ Γ') (h : ST B Γ C τ σ ws H) : ST B Γ' C τ σ ws H := let ⟨F, s⟩ := h; ⟨F, s.hf, w.slots s.slots, s.temps⟩
theorem ss_weak (w : Wk Γ Γ') (h : Ss B ts Γ' C D) : Ss B ts Γ C D := fun τ σ ws H st E im => h τ σ ws H (st.weak w) E im
end
end T
set_option Elab.async false
set_option linter.all false
set_option maxRecDepth 100000
set_option maxHeartbeats 2000000
set_option autoImplicit false
namespace T
open PySem PySem.Spec PyProof.Rows L2
open PySem.W (Frag)
/-! ### targets -/
/-- the target takes x: which slots it writes, what stands in them then -/
def Tg (B : Bs) (g : TG) (js : List Nat) (x : TV) (Γ Γ' : List Sl) : Prop :=
  ∀ F C σ v H, HF B F C H → All2 (slOk B.K F) σ Γ → x.ok B.K F v → ∀ Q : St → Hp → Prop, (∀ σ', All2 (slOk B.K F) σ' Γ' → (∀ i, i ∉ js → σ'[i]? = σ[i]?) → σ'.length = σ.length → Q σ' H) → g v σ H Q
section
variable {B : Bs} {Γ Γ' Γ2 : List Sl} {x : TV}
theorem tg_name {i : Nat} : Tg B (gName i) [i] x Γ (Γ.set i (some x)) := fun F C σ v H hf hs hx Q q =>
  q _ (hs.set (fun t e => by cases e; exact ⟨v, rfl, hx⟩) i) (fun j hj => by
    have : i ≠ j := fun e => hj (by simp [e])
    rw [List.getElem?_set_ne this]) (by simp)
/-- a, b = a pair -/
theorem tg_pair {α β : Type} [Rp α] [Rp β] {x : α × β} {i j : Nat} : Tg B (gTup B.K 2 (gCons (gName i) (gCons (gName j) gNil))) [i, j] (tv x) Γ ((Γ.set i (some (tv x.1))).set j (some (tv x.2))) := fun F C σ v H hf hs hx Q q => by
  obtain ⟨a, v1, v2, rfl, h, r1, r2⟩ := hx
  refine ⟨a, [v1, v2], rfl, .inl (.inl (hf.sub _ _ h)), rfl, v1, [v2], rfl, v2, [], rfl, rfl, ?_⟩
  refine q _ ((hs.set (fun t e => by cases e; exact ⟨v1, rfl, r1⟩) i).set (fun t e => by cases e; exact ⟨v2, rfl, r2⟩) j) (fun k hk => ?_) (by simp)
  have h1 : i ≠ k := fun e => hk (by simp [e])
  have h2 : j ≠ k := fun e => hk (by simp [e])
  rw [List.getElem?_set_ne h2, List.getElem?_set_ne h1]
end
/-! ### what is walked -/
def Walk (B : Bs) (J : It) (v : V) (k : TV) {α : Type} [Rp α] (xs : List α) : Prop :=
  ∀ i F C H, HF B F C H → k.ok B.K F v → (xs.length ≤ i → J.stop i H) ∧ ∀ a, xs[i]? = some a → J.go i H ∧ ∀ x H', J.yld i H x H' → ∃ F', Same F F' ∧ HF B F' C H' ∧ Rp.rp B.K F' x a
/-- iter gives the things xs; k, the thing that is walked, is kept meanwhile -/
def EvI (B : Bs) (wi : TI) (Γ : List Sl) (C : Cs) {α : Type} [Rp α] (xs : List α) (C' : Cs) : Prop :=
  ∀ τ σ ws H, ST B Γ C τ σ ws H → ∀ R : It → Hp → Prop, (∀ J k v H', ST B Γ C' (k :: τ) σ (v :: ws) H' → Walk B J v k xs → R J H') → wi σ H R
section
variable {B : Bs} {F F' : Hp} {Γ Γ' Γ2 : List Sl} {C C' C1 C2 C3 : Cs} {τ : List TV} {σ : St} {ws : List V} {H H' : Hp} {x y z : TV} {c : Ct}
variable {ta tc te : TE} {ca : TA} {D : EndT} {ts tu tw tb : TS} {wi : TI} {g : TG}
theorem SqL.rd {K : Frag} {H : Hp} {a : Addr} {xs : List V} (h : Rd H a (.lst xs)) : SqL K H a xs := .inl h
theorem ei_list {α : Type} [Rp α] {xs : List α} (h : Ev B te Γ C (tv xs) C1) : EvI B (iList B.K te) Γ C xs C1 := fun τ σ ws H st R q =>
  h τ σ ws H st _ fun v H1 s1 => by
    obtain ⟨F, s2, a, vs, rfl, hl, hr⟩ := s1.pop
    refine ⟨a, rfl, ⟨vs, SqL.rd (s2.hf.sub.rd (.inl hl))⟩, q _ _ _ H1 s1 fun i F C H hf hk => ?_⟩
    obtain ⟨a', vs', e, hl', hr'⟩ := hk
    cases e
    have hq := SqL.rd (K := B.K) (hf.sub.rd (.inl hl'))
    refine ⟨fun hi => ⟨vs', hq, by rw [hr'.length]; exact hi⟩, fun b hb => ?_⟩
    obtain ⟨w, hw, hb'⟩ := hr'.get hb
    exact ⟨⟨vs', w, hq, hw⟩, fun x H' hy => by
      obtain ⟨rfl, fy⟩ := hy
      have := fy vs' hq
      rw [hw] at this
      cases this
      exact ⟨F, Same.refl F, hf, hb'⟩⟩
theorem SqT.rd {K : Frag} {H : Hp} {a : Addr} {xs : List V} (h : H a = some (.tup xs)) : SqT K H a xs := .inl (.inl h)
theorem ei_tup {α : Type} [Rp α] {xs : Tp α} (h : Ev B te Γ C (tv xs) C1) : EvI B (iTup B.K te) Γ C xs.l C1 := fun τ σ ws H st R q =>
  h τ σ ws H st _ fun v H1 s1 => by
    obtain ⟨F, s2, a, vs, rfl, hl, hr⟩ := s1.pop
    refine ⟨a, rfl, ⟨vs, SqT.rd (s2.hf.sub _ _ hl)⟩, q _ _ _ H1 s1 fun i F C H hf hk => ?_⟩
    obtain ⟨a', vs', e, hl', hr'⟩ := hk
    cases e
    have hq := SqT.rd (K := B.K) (hf.sub _ _ hl')
    refine ⟨fun hi => ⟨vs', hq, by rw [hr'.length]; exact hi⟩, fun b hb => ?_⟩
    obtain ⟨w, hw, hb'⟩ := hr'.get hb
    exact ⟨⟨vs', w, hq, hw⟩, fun x H' hy => by
      obtain ⟨rfl, fy⟩ := hy
      have := fy vs' hq
      rw [hw] at this
      cases this
      exact ⟨F, Same.refl F, hf, hb'⟩⟩
/-- lo, lo + 1, .. -/
def rng (lo hi : Int) : List Int := (List.range (hi - lo).toNat).map fun (i : Nat) => lo + (i : Int)
theorem rng_length (lo hi : Int) : (rng lo hi).length = (hi - lo).toNat := by simp [rng]
theorem rng_get {lo hi : Int} {i : Nat} {a : Int} (h : (rng lo hi)[i]? = some a) : i < (hi - lo).toNat ∧ a = lo + i := by
  unfold rng at h
  rw [List.getElem?_map] at h
  by_cases hi' : i < (hi - lo).toNat
  · rw [List.getElem?_range hi'] at h
    cases h
    exact ⟨hi', rfl⟩
  · rw [List.getElem?_eq_none (by simpa using hi')] at h
    cases h
theorem rng_walk {lo hi : Int} {v : V} {k : TV} : Walk B (Itr lo (hi - lo).toNat) v k (rng lo hi) := fun i F C H hf hk =>
  ⟨fun h => by rw [rng_length] at h; exact h, fun a ha => ⟨(rng_get ha).1, fun x H' hy => by
    obtain ⟨rfl, rfl⟩ := hy
    exact ⟨F, Same.refl F, hf, by rw [(rng_get ha).2]; rfl⟩⟩⟩
theorem ei_rng1 {n : Int} (h : EvA B ca Γ C [tv n] C1) (hn : n < 2 ^ 62 ∧ -(2 ^ 62) ≤ n) : EvI B (iRng1 ca) Γ C (rng 0 n) C1 := fun τ σ ws H st R q =>
  h τ σ ws H st _ fun vs H1 s1 hl => by
    obtain ⟨F, s2, hv⟩ := EvA.out s1 hl
    cases hv with
    | cons h1 h2 =>
      cases h2
      cases h1
      have w := rng_walk (B := B) (lo := 0) (hi := n) (v := .non) (k := tv ())
      rw [Int.sub_zero] at w
      exact ⟨n, rfl, hn.2, hn.1, q _ (tv ()) .non H1 (ST.push s2 rfl) w⟩
/-! ### for -/
theorem take_snoc {α : Type} {xs : List α} {i : Nat} {a : α} (h : xs[i]? = some a) : xs.take (i + 1) = xs.take i ++ [a] ∧ xs = xs.take i ++ a :: xs.drop (i + 1) := by
  obtain ⟨hi, e⟩ := List.getElem?_eq_some_iff.mp h
  subst e
  exact ⟨by rw [List.take_succ, h]; rfl, by rw [List.getElem_cons_drop, List.take_append_drop]⟩
theorem ss_for {α : Type} [Rp α] {xs : List α} {js : List Nat} (I : List α → List Sl → Cs → Prop) (Ib : List Sl → Cs → Prop) (hi : EvI B wi Γ C xs C1) (h0 : I [] Γ C1)
    (hs : ∀ pre x post Γ' C', xs = pre ++ x :: post → I pre Γ' C' → ∃ Γ2, Tg B g js (tv x) Γ' Γ2 ∧
      Ss B tb Γ2 C' ⟨fun τ ws σ H => ∃ Γ3 C3, I (pre ++ [x]) Γ3 C3 ∧ ST B Γ3 C3 τ σ ws H, D.rt, fun τ ws σ H => ∃ Γ3 C3, Ib Γ3 C3 ∧ ST B Γ3 C3 τ σ ws H, fun τ ws σ H => ∃ Γ3 C3, I (pre ++ [x]) Γ3 C3 ∧ ST B Γ3 C3 τ σ ws H⟩)
    (hd : ∀ Γ' C', I xs Γ' C' ∨ Ib Γ' C' → Ss B tu Γ' C' D) : Ss B (tSeq (tFor wi g tb) tu) Γ C D := fun τ σ ws H st E im =>
  hi τ σ ws H st _ fun J k v H1 s1 wk => by
    refine ⟨fun i m σ H => m = xs.length - i ∧ i ≤ xs.length ∧ ∃ Γ' C', I (xs.take i) Γ' C' ∧ ST B Γ' C' (k :: τ) σ (v :: ws) H, ⟨_, rfl, Nat.zero_le _, Γ, C1, h0, s1⟩, ?_⟩
    rintro i m σ H ⟨rfl, hle, Γ', C', hI, s⟩
    obtain ⟨F, s3, hk⟩ := s.pop
    obtain ⟨w1, w2⟩ := wk i F C' H s3.hf hk
    by_cases hlt : i < xs.length
    · obtain ⟨go, hy⟩ := w2 xs[i] (List.getElem?_eq_getElem hlt)
      obtain ⟨t1, t2⟩ := take_snoc (List.getElem?_eq_getElem hlt)
      obtain ⟨Γ2, tg, hb⟩ := hs _ _ _ Γ' C' t2 hI
      refine .inr ⟨go, fun σ H => ∃ Γ' C', I (xs.take (i + 1)) Γ' C' ∧ ST B Γ' C' (k :: τ) σ (v :: ws) H, fun σ' H' hN => ⟨_, by omega, rfl, hlt, hN⟩, fun x H' hx => ?_⟩
      obtain ⟨F', sF, hf', hx'⟩ := hy x H' hx
      refine tg F' C' σ x H' hf' (s3.slots.slots_mono sF) hx' _ fun σ' hσ _ _ => ?_
      refine hb (k :: τ) σ' (v :: ws) H' ⟨F', hf', hσ, .cons (hk.mono sF) (s3.temps.temps_mono sF)⟩ _ ⟨fun σ H h => ?_, fun v H h => im.rt _ _ h, fun σ H h => ?_, fun σ H h => ?_⟩
      · rw [t1]; exact h
      · obtain ⟨Γ3, C3, h1, h2⟩ := h
        obtain ⟨F3, h3, _⟩ := h2.pop
        exact hd Γ3 C3 (.inr h1) τ σ ws H ⟨F3, h3⟩ E im
      · rw [t1]; exact h
    · have e : xs.take i = xs := List.take_of_length_le (by omega)
      rw [e] at hI
      exact .inl ⟨w1 (by omega), hd Γ' C' (.inl hI) τ σ ws H ⟨F, s3⟩ E im⟩
/-! ### list comprehensions -/
def wipeG (Γ : List Sl) : List Nat → List Sl
  | [] => Γ
  | v :: vs => (wipeG Γ vs).set v none
theorem wipe_ok {K : Frag} {F : Hp} {σ : St} {Γ : List Sl} (h : All2 (slOk K F) σ Γ) : ∀ vs, All2 (slOk K F) (wipe σ vs) (wipeG Γ vs)
  | [] => h
  | v :: vs => (wipe_ok h vs).set (fun _ e => nomatch e) v
theorem wipe_get {σ : St} {i : Nat} : ∀ {vs : List Nat}, (wipe σ vs)[i]? = if i ∈ vs then (if i < σ.length then some none else none) else σ[i]?
  | [] => by simp [wipe]
  | v :: vs => by
    unfold wipe
    by_cases h : v = i
    · subst h
      by_cases hl : v < σ.length
      · rw [List.getElem?_set_self (by rw [wipe_length]; exact hl)]
        simp [hl]
      · rw [List.getElem?_eq_none (by rw [List.length_set, wipe_length]; omega)]
        simp [hl]
    · rw [List.getElem?_set_ne h, wipe_get]
      have h' : ¬ i = v := fun e => h e.symm
      simp [h']
theorem wipe_same {σ σ' : St} {js vs : List Nat} (h : ∀ i, i ∉ js → σ'[i]? = (wipe σ vs)[i]?) (hl : σ'.length = (wipe σ vs).length) (hj : ∀ j ∈ js, j ∈ vs) : wipe σ' vs = wipe σ vs := by
  apply List.ext_getElem?
  intro i
  rw [wipe_get, wipe_get]
  have hl' : σ'.length = σ.length := hl.trans (wipe_length σ vs)
  by_cases hi : i ∈ vs
  · simp [hi, hl']
  · have := h i fun z => hi (hj i z)
    rw [wipe_get] at this
    simp [hi] at this ⊢
    exact this
/-- the slots' things as temporary ones -/
theorem slots_temps {K : Frag} {F : Hp} : ∀ {σ : St} {Γ : List Sl}, All2 (slOk K F) σ Γ → ∃ vs, All2 (TV.ok K F) vs (Γ.filterMap id) ∧ ∀ F', All2 (TV.ok K F') vs (Γ.filterMap id) → All2 (slOk K F') σ Γ
  | _, _, .nil => ⟨[], .nil, fun _ _ => .nil⟩
  | s :: σ, none :: Γ, .cons h t => by
    obtain ⟨vs, h1, h2⟩ := slots_temps t
    exact ⟨vs, h1, fun F' q => .cons (fun _ e => nomatch e) (h2 F' q)⟩
  | s :: σ, some x :: Γ, .cons h t => by
    obtain ⟨vs, h1, h2⟩ := slots_temps t
    obtain ⟨v, rfl, hv⟩ := h x rfl
    exact ⟨v :: vs, .cons hv h1, fun F' q => by
      cases q with
      | cons q1 q2 => exact .cons (fun t e => by cases e; exact ⟨v, rfl, q1⟩) (h2 F' q2)⟩
theorem evn_lc {α β : Type} [Rp α] [Rp β] {xs : List α} {js vs : List Nat} {tt : TT} (I : List α → List β → Cs → Prop) (hi : EvI B wi Γ C xs C1) (hj : ∀ j ∈ js, j ∈ vs) (h0 : I [] [] C1)
    (hs : ∀ pre x post ys C' p, xs = pre ++ x :: post → I pre ys C' → ∃ Γ2 b, Tg B g js (tv x) (wipeG Γ vs) Γ2 ∧ EvT B tt Γ2 ((p, .lst ys) :: C') b ((p, .lst ys) :: C') ∧
      (b = true → ∃ y C'', Ev B te Γ2 ((p, .lst ys) :: C') (tv y) ((p, .lst ys) :: C'') ∧ ys.length < sizeLine ∧ I (pre ++ [x]) (ys ++ [y]) C'') ∧ (b = false → I (pre ++ [x]) ys C'))
    {ys : List β} (hd : ∀ ys' C', I xs ys' C' → ys' = ys ∧ C' = C2) : EvN B (tLc wi g tt te vs) Γ C (.lst ys) C2 := fun τ σ ws H st Q q =>
  hi τ σ ws H st _ fun J k v H1 s1 wk => by
    intro p hp
    have sp : ∃ F, SF B F Γ ((p, .lst ([] : List β)) :: C1) (k :: τ) σ (v :: ws) (upd H1 p (.lst [])) := by
      obtain ⟨F, s⟩ := s1
      exact ⟨F, (s.hf.cell (c := .lst ([] : List β)) (o := .lst []) hp ⟨[], rfl, .nil⟩).1, s.slots, s.temps⟩
    have hpB : B.H p = none ∧ p ∉ B.P := by
      obtain ⟨F, s⟩ := s1
      exact ⟨(s.hf.free hp).2.2, (s.hf.free hp).2.1⟩
    refine ⟨fun i m H => m = xs.length - i ∧ i ≤ xs.length ∧ ∃ ys C', I (xs.take i) ys C' ∧ ST B Γ ((p, .lst ys) :: C') (k :: τ) σ (v :: ws) H, ⟨_, rfl, Nat.zero_le _, [], C1, h0, sp⟩, ?_⟩
    rintro i m H ⟨rfl, hle, ys', C', hI, s⟩
    obtain ⟨F, s3, hk⟩ := s.pop
    obtain ⟨w1, w2⟩ := wk i F _ H s3.hf hk
    by_cases hlt : i < xs.length
    · obtain ⟨go, hy⟩ := w2 xs[i] (List.getElem?_eq_getElem hlt)
      obtain ⟨t1, t2⟩ := take_snoc (List.getElem?_eq_getElem hlt)
      obtain ⟨Γ2, b, tg, ht, hT, hF⟩ := hs _ _ _ ys' C' p t2 hI
      refine .inr ⟨go, fun H => ∃ ys C', I (xs.take (i + 1)) ys C' ∧ ST B Γ ((p, .lst ys) :: C') (k :: τ) σ (v :: ws) H, fun H' hN => ⟨_, by omega, rfl, hlt, hN⟩, fun x H' hx => ?_⟩
      obtain ⟨F', sF, hf', hx'⟩ := hy x H' hx
      have sl := s3.slots.slots_mono sF
      refine tg F' _ (wipe σ vs) x H' hf' (wipe_ok sl vs) hx' _ fun σ' hσ h1 h2 => ⟨wipe_same h1 h2 hj, ?_⟩
      obtain ⟨us, hus, back⟩ := slots_temps sl
      have st2 : ST B Γ2 ((p, .lst ys') :: C') (Γ.filterMap id ++ (k :: τ)) σ' (us ++ (v :: ws)) H' := ⟨F', hf', hσ, hus.append (.cons (hk.mono sF) (s3.temps.temps_mono sF))⟩
      have fin : ∀ {C4 : Cs} {F4 : Hp} {H4 : Hp}, HF B F4 C4 H4 → All2 (TV.ok B.K F4) (us ++ (v :: ws)) (Γ.filterMap id ++ (k :: τ)) → ST B Γ C4 (k :: τ) σ (v :: ws) H4 := fun {C4 F4 H4} h1 h2 => by
        obtain ⟨h3, h4⟩ := All2.split h2 hus.length
        exact ⟨F4, h1, back F4 h3, h4⟩
      refine ht _ σ' _ H' st2 _ fun H3 s4 => ?_
      cases b with
      | true =>
        rw [if_pos rfl]
        obtain ⟨y, C'', hy1, hy2, hy3⟩ := hT rfl
        refine hy1 _ σ' _ H3 s4 _ fun w H4 s5 => ?_
        obtain ⟨F5, s6, hw⟩ := s5.pop
        obtain ⟨_, ⟨o, ho1, ⟨acc, rfl, ho2⟩⟩, _⟩ := s6.hf.cells (p, .lst ys') List.mem_cons_self
        refine ⟨acc, ho1, by rw [ho2.length]; exact hy2, ys' ++ [y], C'', by rw [t1]; exact hy3, ?_⟩
        exact fin (s6.hf.write (k := 0) (c' := .lst (ys' ++ [y])) (o' := .lst (acc ++ [w])) rfl ⟨_, rfl, ho2.append (.cons hw .nil)⟩) s6.temps
      | false =>
        rw [if_neg Bool.false_ne_true]
        obtain ⟨F5, s6⟩ := s4
        exact ⟨ys', C', by rw [t1]; exact hF rfl, fin s6.hf s6.temps⟩
    · have e : xs.take i = xs := List.take_of_length_le (by omega)
      rw [e] at hI
      obtain ⟨rfl, rfl⟩ := hd ys' C' hI
      exact .inl ⟨w1 (by omega), q p H hpB.1 hpB.2 ⟨F, s3⟩⟩
end
end T
set_option Elab.async false
set_option linter.all false
set_option maxRecDepth 100000
set_option maxHeartbeats 2000000
set_option autoImplicit false
namespace T
open PySem PySem.Spec PyProof.Rows L2
open PySem.W (Frag)
/-! ### defs: what they promise -/
/-- what stands at a call -/
structure Entry (K : Frag) (F : Hp) (args : List TV) (C : Cs) (vs : List V) (H : Hp) : Prop where
  vals : All2 (TV.ok K F) vs args
  hf : HF ⟨K, H, F, C.map (·.1)⟩ F C H
abbrev Bs.at (K : Frag) (H F : Hp) (C : Cs) : Bs := ⟨K, H, F, C.map (·.1)⟩
/-- S: arguments, cells, the value handed back, the cells behind -/
abbrev SpecV := List TV → Cs → TV → Cs → Prop
abbrev SpecN := List TV → Cs → Ct → Cs → Prop
def SpV (S : SpecV) (K : Frag) : Sp := fun vs H Q _ => ∃ F args C r C', S args C r C' ∧ C'.map (·.1) = C.map (·.1) ∧ Entry K F args C vs H ∧ ∀ v H', RetV (Bs.at K H F C) r C' v H' → Q v H'
/-- .. a new list or dict -/
def SpN (S : SpecN) (K : Frag) : Sp := fun vs H Q _ => ∃ F args C r C', S args C r C' ∧ C'.map (·.1) = C.map (·.1) ∧ Entry K F args C vs H ∧ ∀ v H', RetN (Bs.at K H F C) r C' v H' → Q v H'
section
variable {B : Bs} {F F' : Hp} {Γ Γ' Γ2 : List Sl} {C C' C1 C2 C3 R : Cs} {τ : List TV} {σ : St} {ws : List V} {H H' : Hp} {x y z : TV} {c : Ct}
variable {ta tc te : TE} {ca : TA} {D : EndT} {ts tu tw tb : TS} {wi : TI} {g : TG}
/-- from a caller's heap to the callee's -/
theorem HF.enter (h : HF B F (C ++ R) H) : HF (Bs.at B.K H F C) F C H where
  sub := h.sub
  base := Same.refl F
  new := fun a o e n => by have e' : F a = none := n; rw [e] at e'; cases e'
  old := fun _ _ e _ => e
  cells := fun p hp => by
    obtain ⟨h1, h2, _⟩ := h.cells p (List.mem_append_left _ hp)
    exact ⟨h1, h2, .inl (List.mem_map.mpr ⟨p, hp, rfl⟩)⟩
  nd := by
    have := h.nd
    rw [List.map_append] at this
    exact (List.nodup_append.mp this).1
  pal := fun a ha z => by
    obtain ⟨p, hp, rfl⟩ := List.mem_map.mp ha
    obtain ⟨_, ⟨o, h2, _⟩, _⟩ := h.cells p (List.mem_append_left _ hp)
    rw [h2] at z; cases z
  pb := fun a ha z => by
    obtain ⟨p, hp, rfl⟩ := List.mem_map.mp ha
    obtain ⟨_, ⟨o, h2, _⟩, _⟩ := h.cells p (List.mem_append_left _ hp)
    have z' : H p.1 = none := z
    rw [h2] at z'; cases z'
/-- and back: N the callee's new cells -/
theorem HF.leave {N : Cs} (h : HF B F (C ++ R) H) (h' : HF (Bs.at B.K H F C) F' (N ++ C') H') (hk : C'.map (·.1) = C.map (·.1)) (hN : ∀ p ∈ N, H p.1 = none) : HF B F' (N ++ (C' ++ R)) H' := by
  have keyP : ∀ p ∈ C', ∃ q ∈ C, q.1 = p.1 := fun p hp => by
    have : p.1 ∈ C.map (·.1) := by rw [← hk]; exact List.mem_map.mpr ⟨p, hp, rfl⟩
    exact List.mem_map.mp this
  have ndR : ∀ p ∈ R, p.1 ∉ C.map (·.1) := fun p hp z => by
    have := h.nd
    rw [List.map_append] at this
    exact (List.nodup_append.mp this).2.2 _ z _ (List.mem_map.mpr ⟨p, hp, rfl⟩) rfl
  have rOld : ∀ p ∈ R, ∀ o, H p.1 = some o → H' p.1 = some o := fun p hp o e => h'.old p.1 o e (ndR p hp)
  refine ⟨h'.sub, h.base.trans h'.base, fun a o e n => ?_, fun a o e ha => ?_, fun p hp => ?_, ?_, fun a ha z => ?_, h.pb⟩
  · cases q : F a with
    | some u =>
      have z := h'.base a u q
      rw [e] at z
      cases z
      exact h.new a o q n
    | none =>
      rcases h'.new a o e q with this | hx
      · exact .inl (h.free this).2.2
      · exact .inr hx
  · refine h'.old a o (h.old a o e ha) fun z => ?_
    obtain ⟨q, hq, rfl⟩ := List.mem_map.mp z
    obtain ⟨_, _, h3⟩ := h.cells q (List.mem_append_left _ hq)
    rcases h3 with h3 | h3
    · exact ha h3
    · rw [e] at h3; cases h3
  · rcases List.mem_append.mp hp with hp | hp
    · obtain ⟨h1, h2, _⟩ := h'.cells p (List.mem_append_left _ hp)
      exact ⟨h1, h2, .inr (h.free (hN p hp)).2.2⟩
    · rcases List.mem_append.mp hp with hp | hp
      · obtain ⟨h1, h2, _⟩ := h'.cells p (List.mem_append_right _ hp)
        obtain ⟨q, hq, e⟩ := keyP p hp
        obtain ⟨_, _, h3⟩ := h.cells q (List.mem_append_left _ hq)
        exact ⟨h1, h2, e ▸ h3⟩
      · obtain ⟨h1, ⟨o, h2, h2'⟩, h3⟩ := h.cells p (List.mem_append_right _ hp)
        refine ⟨?_, ⟨o, rOld p hp o h2, h2'.mono h'.base⟩, h3⟩
        cases q : F' p.1 with
        | none => rfl
        | some u =>
          rcases h'.new p.1 u q h1 with this | ⟨xs, rfl⟩
          · have this' : H p.1 = none := this
            rw [h2] at this'; cases this'
          · have z := h'.sub _ _ q
            rw [rOld p hp o h2] at z
            cases z
            exact absurd h2' Ct.ho_tup
  · have n1 := h'.nd
    have n2 := h.nd
    rw [List.map_append] at n1 n2
    rw [List.map_append, List.map_append]
    refine List.nodup_append.mpr ⟨(List.nodup_append.mp n1).1, ?_, fun a ha b hb e => ?_⟩
    · rw [hk]; exact n2
    · subst e
      rcases List.mem_append.mp hb with hb | hb
      · exact (List.nodup_append.mp n1).2.2 _ ha _ hb rfl
      · obtain ⟨p, hp, e⟩ := List.mem_map.mp ha
        obtain ⟨q, hq, e2⟩ := List.mem_map.mp hb
        obtain ⟨_, ⟨o, h2, _⟩, _⟩ := h.cells q (List.mem_append_right _ hq)
        have := hN p hp
        rw [e, ← e2, h2] at this; cases this
  · by_cases hc : a ∈ C.map (·.1)
    · exact h'.pal a hc z
    · have := h.pal a ha
      cases q : H a with
      | none => exact this q
      | some o =>
        have := h'.old a o q hc
        rw [z] at this; cases this
/-- a call: the first cells are the callee's -/
theorem ev_callA {S : SpecV} {xs : List TV} {E : XK} {Cp Cp' R : Cs} (ha : EvA B ca Γ C xs C1) (hp : C1.Perm (Cp ++ R)) (hp' : (Cp' ++ R).Perm C2) (hk : Cp'.map (·.1) = Cp.map (·.1)) (hS : S xs Cp x Cp') : Ev B (tCall (SpV S B.K) [] E ca) Γ C x C2 := fun τ σ ws H st Q q =>
  ha τ σ ws H st _ fun vs H1 s1 hl => by
    obtain ⟨F, s2, hv⟩ := EvA.out s1 hl
    show SpV S B.K (vs ++ []) H1 Q E
    rw [List.append_nil]
    have hfp := s2.hf.perm hp
    refine ⟨F, xs, Cp, x, Cp', hS, hk, ⟨hv, hfp.enter⟩, fun v H' ⟨F', h1, h2⟩ => ?_⟩
    have := hfp.leave (N := []) (C' := Cp') h1 hk (fun _ z => nomatch z)
    exact q v H' (ST.push (s2.to h1.base (this.perm hp')) h2)
theorem evn_callA {S : SpecN} {xs : List TV} {E : XK} {Cp Cp' R : Cs} (ha : EvA B ca Γ C xs C1) (hp : C1.Perm (Cp ++ R)) (hp' : (Cp' ++ R).Perm C2) (hk : Cp'.map (·.1) = Cp.map (·.1)) (hS : S xs Cp c Cp') : EvN B (tCall (SpN S B.K) [] E ca) Γ C c C2 := fun τ σ ws H st Q q =>
  ha τ σ ws H st _ fun vs H1 s1 hl => by
    obtain ⟨F, s2, hv⟩ := EvA.out s1 hl
    show SpN S B.K (vs ++ []) H1 Q E
    rw [List.append_nil]
    have hfp := s2.hf.perm hp
    refine ⟨F, xs, Cp, c, Cp', hS, hk, ⟨hv, hfp.enter⟩, fun v H' ⟨p, F', e, hB, hP, h1⟩ => ?_⟩
    subst e
    have hpn : H1 p = none := hB
    have := hfp.leave (N := [(p, c)]) (C' := Cp') h1 hk (fun z hz => by
      obtain rfl := List.mem_singleton.mp hz
      exact hpn)
    exact q p H' (s2.hf.free hpn).2.2 (s2.hf.free hpn).2.1 ⟨F', (this.perm (hp'.cons _)), s2.slots.slots_mono h1.base, s2.temps.temps_mono h1.base⟩
/-- a call without cells -/
theorem ev_call {S : SpecV} {xs : List TV} {E : XK} (ha : EvA B ca Γ C xs C1) (hS : S xs [] x []) : Ev B (tCall (SpV S B.K) [] E ca) Γ C x C1 := ev_callA (Cp := []) (Cp' := []) (R := C1) ha (.refl _) (.refl _) rfl hS
theorem evn_call {S : SpecN} {xs : List TV} {E : XK} (ha : EvA B ca Γ C xs C1) (hS : S xs [] c []) : EvN B (tCall (SpN S B.K) [] E ca) Γ C c C1 := evn_callA (Cp := []) (Cp' := []) (R := C1) ha (.refl _) (.refl _) rfl hS
/-- one cell, at the k-th place -/
theorem perm_at {a : Addr} {c c' : Ct} : ∀ {C : Cs} {k : Nat}, C[k]? = some (a, c) → C.Perm ((a, c) :: C.eraseIdx k) ∧ ((a, c') :: C.eraseIdx k).Perm (C.set k (a, c'))
  | [], k, h => by simp at h
  | q :: C, 0, h => by
    simp only [List.getElem?_cons_zero, Option.some.injEq] at h
    subst h
    exact ⟨.refl _, .refl _⟩
  | q :: C, k + 1, h => by
    simp only [List.getElem?_cons_succ] at h
    obtain ⟨h1, h2⟩ := perm_at (C := C) h
    exact ⟨(h1.cons q).trans (.swap _ _ _), (List.Perm.swap _ _ _).trans (h2.cons q)⟩
theorem ev_call1 {S : SpecV} {xs : List TV} {E : XK} {a : Addr} {c' : Ct} {k : Nat} (ha : EvA B ca Γ C xs C1) (hk : C1[k]? = some (a, c)) (hS : S xs [(a, c)] x [(a, c')]) : Ev B (tCall (SpV S B.K) [] E ca) Γ C x (C1.set k (a, c')) :=
  ev_callA (Cp := [(a, c)]) (Cp' := [(a, c')]) (R := C1.eraseIdx k) ha (perm_at (c' := c') hk).1 (perm_at hk).2 rfl hS
theorem evn_call1 {S : SpecN} {xs : List TV} {E : XK} {a : Addr} {d c' : Ct} {k : Nat} (ha : EvA B ca Γ C xs C1) (hk : C1[k]? = some (a, d)) (hS : S xs [(a, d)] c [(a, c')]) : EvN B (tCall (SpN S B.K) [] E ca) Γ C c (C1.set k (a, c')) :=
  evn_callA (Cp := [(a, d)]) (Cp' := [(a, c')]) (R := C1.eraseIdx k) ha (perm_at (c' := c') hk).1 (perm_at hk).2 rfl hS
/-! ### bodies -/
theorem start_ok {K : Frag} {N : List Str} {vs : List V} {args : List TV} (h : All2 (TV.ok K F) vs args) : All2 (slOk K F) (L2.start N vs) (args.map some ++ List.replicate (N.length - args.length) none) := by
  unfold L2.start
  rw [h.length]
  refine All2.append ?_ ?_
  · induction h with
    | nil => exact .nil
    | cons h _ ih => exact .cons (fun t e => by cases e; exact ⟨_, rfl, h⟩) ih
  · generalize N.length - args.length = n
    induction n with
    | zero => exact .nil
    | succ n ih => exact .cons (fun t e => nomatch e) ih
/-- the ends of a def's body: it hands back r; where it runs through, None is r -/
abbrev endV (B : Bs) (r : TV) (C' : Cs) : EndT := ⟨fun _ _ _ H => RetV B r C' .non H, RetV B r C', fun _ _ _ _ => False, fun _ _ _ _ => False⟩
abbrev endN (B : Bs) (r : Ct) (C' : Cs) : EndT := ⟨fun _ _ _ _ => False, RetN B r C', fun _ _ _ _ => False, fun _ _ _ _ => False⟩
theorem body_v {S : SpecV} {K : Frag} {t : TS} {N : List Str} {vs : List V} {H : Hp} {Q : VK} {E : XK} (hS : SpV S K vs H Q E)
    (h : ∀ B args C r C', B.K = K → B.P = C.map (·.1) → S args C r C' → Ss B t (args.map some ++ List.replicate (N.length - args.length) none) C (endV B r C')) : t { nx := fun _ H' => Q .non H', rt := Q } (L2.start N vs) H := by
  obtain ⟨F, args, C, r, C', hs, hk, en, q⟩ := hS
  exact h (Bs.at K H F C) args C r C' rfl rfl hs [] (L2.start N vs) [] H ⟨F, en.hf, start_ok en.vals, .nil⟩ _ ⟨fun _ _ z => q _ _ z, fun _ _ z => q _ _ z, fun _ _ z => z.elim, fun _ _ z => z.elim⟩
theorem body_n {S : SpecN} {K : Frag} {t : TS} {N : List Str} {vs : List V} {H : Hp} {Q : VK} {E : XK} (hS : SpN S K vs H Q E)
    (h : ∀ B args C r C', B.K = K → B.P = C.map (·.1) → S args C r C' → Ss B t (args.map some ++ List.replicate (N.length - args.length) none) C (endN B r C')) : t { nx := fun _ H' => Q .non H', rt := Q } (L2.start N vs) H := by
  obtain ⟨F, args, C, r, C', hs, hk, en, q⟩ := hS
  exact h (Bs.at K H F C) args C r C' rfl rfl hs [] (L2.start N vs) [] H ⟨F, en.hf, start_ok en.vals, .nil⟩ _ ⟨fun _ _ z => z.elim, fun _ _ z => q _ _ z, fun _ _ z => z.elim, fun _ _ z => z.elim⟩
theorem len_v {S : SpecV} {K : Frag} {n : Nat} (h : ∀ args C r C', S args C r C' → args.length = n) : ∀ vs H Q E, SpV S K vs H Q E → vs.length = n := fun vs H Q E ⟨F, args, C, r, C', hs, _, en, _⟩ => en.vals.length.trans (h _ _ _ _ hs)
theorem len_n {S : SpecN} {K : Frag} {n : Nat} (h : ∀ args C r C', S args C r C' → args.length = n) : ∀ vs H Q E, SpN S K vs H Q E → vs.length = n := fun vs H Q E ⟨F, args, C, r, C', hs, _, en, _⟩ => en.vals.length.trans (h _ _ _ _ hs)
/-- return, with only cells of one's own left over -/
theorem ss_retV (h : Ev B te Γ C x C1) (s : C'.Sublist C1) : Ss B (tRet te) Γ C (endV B x C') := ss_ret h fun H v ⟨F, h1, h2⟩ => ⟨F, h1.sublist s, h2⟩
/-! ### cells by name -/
/-- a cell of one's own is handed on: it is given up -/
theorem evn_own {i k : Nat} {p : Addr} (hi : Γ[i]? = some (some (tv (Ptr.mk p)))) (hk : C[k]? = some (p, c)) (hB : B.H p = none) : EvN B (tVar i) Γ C c (C.eraseIdx k) := fun τ σ ws H ⟨F, st⟩ Q q => by
  obtain ⟨s, h1, h2⟩ := st.slots.get hi
  obtain ⟨v, rfl, h4⟩ := h2 _ rfl
  obtain rfl : v = .ref p := h4
  have hP : p ∉ B.P := fun z => st.hf.pb p z hB
  exact ⟨_, h1, q p H hB hP ⟨F, st.hf.perm (perm_at (c' := c) hk).1, st.slots, st.temps⟩⟩
end
end T
set_option Elab.async false
set_option linter.all false
set_option maxRecDepth 100000
set_option maxHeartbeats 2000000
set_option autoImplicit false
namespace T
open PySem PySem.Spec PyProof.Rows L2
open PySem.W (Frag)
/-! ### flat values -/
class Sc (α : Type) extends Rp α where
  toV : α → V
  val : ∀ {K F v x}, Rp.rp K F v x → v = toV x
  of : ∀ K F x, Rp.rp K F (toV x) x
  sc : ∀ x y, scal (toV x) (toV y) = true
  fl : ∀ x, flatV (toV x) = true
  inj : ∀ {x y}, toV x = toV y → x = y
  eqv : ∀ x y, eqV (toV x) (toV y) = decide (toV x = toV y)
instance : Sc Int where
  toV := V.int
  val := fun h => h
  of := fun _ _ _ => rfl
  sc := fun _ _ => rfl
  fl := fun _ => rfl
  inj := fun h => V.int.inj h
  eqv := fun x y => by rw [dec_int]; rfl
instance : Sc Bool where
  toV := V.bl
  val := fun h => h
  of := fun _ _ _ => rfl
  sc := fun _ _ => rfl
  fl := fun _ => rfl
  inj := fun h => V.bl.inj h
  eqv := fun x y => by rw [dec_bl]; rfl
instance : Sc Str where
  toV := V.str
  val := fun h => h
  of := fun _ _ _ => rfl
  sc := fun _ _ => rfl
  fl := fun _ => rfl
  inj := fun h => V.str.inj h
  eqv := fun x y => by rw [dec_str]; rfl
theorem Sc.dec {α : Type} [Sc α] [DecidableEq α] (x y : α) : decide (Sc.toV x = Sc.toV y) = decide (x = y) := by
  by_cases h : x = y
  · subst h; simp
  · have : ¬ Sc.toV x = Sc.toV y := fun e => h (Sc.inj e)
    simp [h, this]
section
variable {B : Bs} {F F' : Hp} {Γ Γ' Γ2 : List Sl} {C C' C1 C2 C3 R : Cs} {τ : List TV} {σ : St} {ws : List V} {H H' : Hp} {x y z : TV} {c : Ct}
variable {ta tc te : TE} {ca : TA} {D : EndT} {ts tu tw tb : TS} {wi : TI} {g : TG}
/-! ### ints -/
theorem os_I0 {f : Int → Int → V} {i j : Int} {z : TV} (h : ∀ K F, z.ok K F (f i j)) : OpS B C (rI0 f) (tv i) (tv j) z := fun F H v w _ hv hw Q q => ⟨i, j, hv, hw, q _ (h _ _)⟩
theorem os_I {P : Int → Int → Prop} {f : Int → Int → V} {i j : Int} {z : TV} (hc : P i j) (h : ∀ K F, z.ok K F (f i j)) : OpS B C (rI P f) (tv i) (tv j) z := fun F H v w _ hv hw Q q => ⟨i, j, hv, hw, hc, q _ (h _ _)⟩
theorem us_U {f : Int → V} {i : Int} {z : TV} (h : ∀ K F, z.ok K F (f i)) : UnS B C (rU f) (tv i) z := fun F H v _ hv Q q => ⟨i, hv, q _ (h _ _)⟩
theorem os_add {i j : Int} : OpS B C (rI0 fun i j => .int (i + j)) (tv i) (tv j) (tv (i + j)) := os_I0 fun _ _ => rfl
theorem os_lt {i j : Int} : OpS B C (rI0 fun i j => .bl (decide (i < j))) (tv i) (tv j) (tv (decide (i < j))) := os_I0 fun _ _ => rfl
theorem os_le {i j : Int} : OpS B C (rI0 fun i j => .bl (decide (i ≤ j))) (tv i) (tv j) (tv (decide (i ≤ j))) := os_I0 fun _ _ => rfl
theorem os_gt {i j : Int} : OpS B C (rI0 fun i j => .bl (decide (j < i))) (tv i) (tv j) (tv (decide (j < i))) := os_I0 fun _ _ => rfl
theorem os_ge {i j : Int} : OpS B C (rI0 fun i j => .bl (decide (j ≤ i))) (tv i) (tv j) (tv (decide (j ≤ i))) := os_I0 fun _ _ => rfl
theorem os_mul {i j : Int} (h : CMul i j) : OpS B C (rI CMul fun i j => .int (i * j)) (tv i) (tv j) (tv (i * j)) := os_I h fun _ _ => rfl
theorem os_mod {i j : Int} (h : 0 < j) : OpS B C (rI (fun _ j => 0 < j) fun i j => .int (i % j)) (tv i) (tv j) (tv (i % j)) := os_I h fun _ _ => rfl
theorem os_eq {α : Type} [Sc α] [DecidableEq α] {i j : α} : OpS B C rEq (tv i) (tv j) (tv (decide (i = j))) := fun F H v w _ hv hw Q q => by
  obtain rfl := Sc.val hv
  obtain rfl := Sc.val hw
  exact ⟨Sc.sc i j, q _ (by rw [Sc.dec]; rfl)⟩
theorem os_ne {α : Type} [Sc α] [DecidableEq α] {i j : α} : OpS B C rNe (tv i) (tv j) (tv (!decide (i = j))) := fun F H v w _ hv hw Q q => by
  obtain rfl := Sc.val hv
  obtain rfl := Sc.val hw
  exact ⟨Sc.sc i j, q _ (by rw [Sc.dec]; rfl)⟩
/-! ### lists and tuples that are read -/
/-- t is a list of the things xs, it stands or is a cell -/
def Ls (B : Bs) (C : Cs) (t : TV) {α : Type} [Rp α] (xs : List α) : Prop := ∀ F H v, HF B F C H → t.ok B.K F v → ∃ a vs, v = .ref a ∧ Rd H a (.lst vs) ∧ All2 (Rp.rp B.K F) vs xs
def Lt (B : Bs) (C : Cs) (t : TV) {α : Type} [Rp α] (xs : List α) : Prop := ∀ F H v, HF B F C H → t.ok B.K F v → ∃ a vs, v = .ref a ∧ SqT B.K H a vs ∧ All2 (Rp.rp B.K F) vs xs
variable {α β : Type} [Rp α] [Rp β] {xs ys : List α}
theorem ls_val : Ls B C (tv xs) xs := fun F H v hf ⟨a, vs, e, h, r⟩ => ⟨a, vs, e, hf.sub.rd (.inl h), r⟩
theorem ls_cell {p : Addr} (hk : (p, Ct.lst xs) ∈ C) : Ls B C (tv (Ptr.mk p)) xs := fun F H v hf hv => by
  obtain ⟨_, ⟨o, h2, vs, rfl, h3⟩, _⟩ := hf.cells _ hk
  exact ⟨p, vs, hv, .inl h2, h3⟩
theorem lt_val {xs : Tp α} : Lt B C (tv xs) xs.l := fun F H v hf ⟨a, vs, e, h, r⟩ => ⟨a, vs, e, .inl (.inl (hf.sub _ _ h)), r⟩
def rLen (K : Frag) : List V → Hp → VK → Prop := fun xs H Q => ∃ p ys, xs = [.ref p] ∧ (SqL K H p ys ∨ SqT K H p ys) ∧ Q (.int ys.length) H
theorem cs_len (h : Ls B C x xs) : CbS B C (rLen B.K) [x] (tv (xs.length : Int)) := fun F H vs hf hv Q q => by
  cases hv with
  | cons h1 h2 =>
    cases h2
    obtain ⟨a, us, rfl, hs, r⟩ := h F H _ hf h1
    exact ⟨a, us, rfl, .inl (.inl hs), q _ (by rw [r.length]; rfl)⟩
theorem All2.atI {R : V → α → Prop} {vs : List V} {n : Int} {a : α} (r : All2 R vs xs) (h : L2.atI xs n = some a) : ∃ v, L2.atI vs n = some v ∧ R v a := by
  unfold L2.atI at h ⊢
  rw [r.length]
  cases e : ixN xs.length n with
  | none => rw [e] at h; cases h
  | some j =>
    rw [e] at h
    exact r.get h
theorem os_ix {n : Int} {a : α} (h : Ls B C x xs) (ha : L2.atI xs n = some a) : OpS B C (rIxL B.K) x (tv n) (tv a) := fun F H v w hf hv hw Q q => by
  obtain ⟨p, us, rfl, hs, r⟩ := h F H _ hf hv
  obtain ⟨u, hu, ru⟩ := r.atI ha
  exact ⟨p, us, n, u, rfl, hw, .inl hs, hu, q u ru⟩
theorem os_ixT {n : Int} {a : α} (h : Lt B C x xs) (ha : L2.atI xs n = some a) : OpS B C (rIxT B.K) x (tv n) (tv a) := fun F H v w hf hv hw Q q => by
  obtain ⟨p, us, rfl, hs, r⟩ := h F H _ hf hv
  obtain ⟨u, hu, ru⟩ := r.atI ha
  exact ⟨p, us, n, u, rfl, hw, hs, hu, q u ru⟩
theorem All2.map_toV {α : Type} [Sc α] {K : Frag} {F : Hp} : ∀ {vs : List V} {xs : List α}, All2 (Rp.rp K F) vs xs → vs = xs.map Sc.toV
  | _, _, .nil => rfl
  | _, _, .cons h t => by rw [Sc.val h, All2.map_toV t]; rfl
theorem inV_mem {α : Type} [Sc α] [DecidableEq α] (x : α) : ∀ xs : List α, inV (Sc.toV x) (xs.map Sc.toV) = decide (x ∈ xs)
  | [] => by simp [inV]
  | y :: xs => by
    have ih := inV_mem x xs
    unfold inV at ih ⊢
    rw [List.map_cons, List.any_cons, ih, Sc.eqv, Sc.dec]
    by_cases h : y = x
    · subst h; simp
    · have : ¬ x = y := fun e => h e.symm
      simp [h, this]
theorem flat_all {α : Type} [Sc α] (xs : List α) : (xs.map Sc.toV).all flatV = true := by
  rw [List.all_map, List.all_eq_true]
  exact fun x _ => Sc.fl x
theorem os_in {α : Type} [Sc α] [DecidableEq α] {a : α} {xs : List α} (h : Ls B C y xs) : OpS B C (rIn B.K false) (tv a) y (tv (decide (a ∈ xs))) := fun F H v w hf hv hw Q q => by
  obtain ⟨p, us, rfl, hs, r⟩ := h F H _ hf hw
  obtain rfl := Sc.val hv
  obtain rfl := All2.map_toV r
  exact ⟨p, _, rfl, .inl (.inl hs), Sc.fl a, flat_all xs, q _ (by rw [inV_mem]; rfl)⟩
theorem os_inT {α : Type} [Sc α] [DecidableEq α] {a : α} {xs : List α} (h : Lt B C y xs) : OpS B C (rIn B.K false) (tv a) y (tv (decide (a ∈ xs))) := fun F H v w hf hv hw Q q => by
  obtain ⟨p, us, rfl, hs, r⟩ := h F H _ hf hw
  obtain rfl := Sc.val hv
  obtain rfl := All2.map_toV r
  exact ⟨p, _, rfl, .inr hs, Sc.fl a, flat_all xs, q _ (by rw [inV_mem]; rfl)⟩
theorem cs_all {ns : List Bool} (h : Ls B C x ns) : CbS B C (rAll B.K) [x] (tv (ns.all id)) := fun F H vs hf hv Q q => by
  cases hv with
  | cons h1 h2 =>
    cases h2
    obtain ⟨a, us, rfl, hs, r⟩ := h F H _ hf h1
    obtain rfl := All2.map_toV r
    exact ⟨a, ns, rfl, .inl hs, q _ rfl⟩
/-- list(..) -/
def rListOf (K : Frag) : List V → Hp → VK → Prop := fun xs H Q => ∃ p ys, xs = [.ref p] ∧ (SqL K H p ys ∨ SqT K H p ys) ∧ ∀ l, H l = none → Q (.ref l) (upd H l (.lst ys))
theorem cn_list (h : Ls B C x xs) : CbN B C (rListOf B.K) [x] (.lst xs) := fun F H vs hf hv Q q => by
  cases hv with
  | cons h1 h2 =>
    cases h2
    obtain ⟨a, us, rfl, hs, r⟩ := h F H _ hf h1
    exact ⟨a, us, rfl, .inl (.inl hs), fun l hl => q l _ hl ⟨us, rfl, r⟩⟩
/-- tuple(a list) -/
def rTupOf (K : Frag) : List V → Hp → VK → Prop := fun xs H Q => ∃ p ys, xs = [.ref p] ∧ ((SqL K H p ys ∧ ∀ l, H l = none → Q (.ref l) (upd H l (.tup ys))) ∨ (SqT K H p ys ∧ Q (.ref p) H))
theorem ev_tupleOf {t : TV} (ha : EvA B ca Γ C [t] C1) (h : Ls B C1 t xs) : Ev B (tCB (rTupOf B.K) ca) Γ C (tv (Tp.mk xs)) C1 := fun τ σ ws H st Q q =>
  ha τ σ ws H st _ fun vs H1 s1 hl => by
    obtain ⟨F, s2, hv⟩ := EvA.out s1 hl
    cases hv with
    | cons h1 h2 =>
      cases h2
      obtain ⟨a, us, rfl, hs, r⟩ := h F H1 _ s2.hf h1
      refine ⟨a, us, rfl, .inl ⟨.inl hs, fun p hp => ?_⟩⟩
      obtain ⟨hf, sF, sH⟩ := s2.hf.laid (o := .tup us) hp
      exact q _ _ (ST.push (s2.to sF hf) ⟨p, us, rfl, upd_same, r.mono fun _ _ z => Rp.mono sF z⟩)
/-- slices of lists -/
def cutL {α : Type} (xs : List α) (lo hi : Option Int) : List α := (xs.drop (HT.sIx xs.length 0 lo)).take (HT.sIx xs.length xs.length hi - HT.sIx xs.length 0 lo)
theorem All2.drop {α β : Type _} {R : α → β → Prop} : ∀ {as : List α} {bs : List β} (n : Nat), All2 R as bs → All2 R (as.drop n) (bs.drop n)
  | _, _, 0, h => h
  | _, _, _ + 1, .nil => .nil
  | _, _, n + 1, .cons _ t => All2.drop n t
theorem All2.take {α β : Type _} {R : α → β → Prop} : ∀ {as : List α} {bs : List β} (n : Nat), All2 R as bs → All2 R (as.take n) (bs.take n)
  | _, _, 0, h => .nil
  | _, _, _ + 1, .nil => .nil
  | _, _, n + 1, .cons h t => .cons h (All2.take n t)
def EvO (B : Bs) (t : TO) (Γ : List Sl) (C : Cs) (o : Option Int) (C' : Cs) : Prop :=
  ∀ τ σ ws H, ST B Γ C τ σ ws H → ∀ Q : Option Int → Hp → Prop, (∀ H', ST B Γ C' τ σ ws H' → Q o H') → t σ H Q
theorem eo_none : EvO B tNoPart Γ C none C := fun τ σ ws H st Q q => q H st
theorem eo_some {n : Int} (h : Ev B te Γ C (tv n) C1) : EvO B (tPart te) Γ C (some n) C1 := fun τ σ ws H st Q q => h τ σ ws H st _ fun v H1 s1 => by
  obtain ⟨F, s2, hv⟩ := s1.pop
  exact ⟨n, hv, q H1 ⟨F, s2⟩⟩
theorem evn_slice {tl th : TO} {lo hi : Option Int} {t : TV} (h : Ev B te Γ C t C1) (hl : Ls B C3 t xs) (h1 : EvO B tl Γ C1 lo C2) (h2 : EvO B th Γ C2 hi C3) : EvN B (tSl (rSlL B.K) te tl th) Γ C (.lst (cutL xs lo hi)) C3 := fun τ σ ws H st Q q =>
  h τ σ ws H st _ fun v H1 s1 => h1 _ σ _ H1 s1 _ fun H2 s2 => h2 _ σ _ H2 s2 _ fun H3 s3 => by
    obtain ⟨F, s4, hv⟩ := s3.pop
    obtain ⟨a, us, rfl, hs, r⟩ := hl F H3 _ s4.hf hv
    refine ⟨a, us, rfl, .inl hs, fun p hp => q p _ (s4.hf.free hp).2.2 (s4.hf.free hp).2.1 ⟨F, (s4.hf.cell (c := .lst (cutL xs lo hi)) hp ⟨_, rfl, ?_⟩).1, s4.slots, s4.temps⟩⟩
    unfold cutV cutL
    rw [r.length]
    exact (r.drop _).take _
/-- list + list -/
def rCatL : R2 := fun x y H Q => ∃ l b xs zs, x = .ref l ∧ y = .ref b ∧ Rd H l (.lst xs) ∧ Rd H b (.lst zs) ∧ xs.length + zs.length ≤ sizeLine ∧ ∀ p, H p = none → Q (.ref p) (upd H p (.lst (xs ++ zs)))
theorem on_cat (h1 : Ls B C x xs) (h2 : Ls B C y ys) (hz : xs.length + ys.length ≤ sizeLine) : OpN B C rCatL x y (.lst (xs ++ ys)) := fun F H v w hf hv hw Q q => by
  obtain ⟨a, us, rfl, hs, r⟩ := h1 F H _ hf hv
  obtain ⟨b, ts, rfl, hs2, r2⟩ := h2 F H _ hf hw
  exact ⟨a, b, us, ts, rfl, rfl, hs, hs2, by rw [r.length, r2.length]; exact hz, fun p hp => q p _ hp ⟨_, rfl, r.append r2⟩⟩
/-! cells that are lists -/
theorem ev_append {p : Addr} {k : Nat} {a : α} (ho : Ev B ta Γ C (tv (Ptr.mk p)) C1) (ha : EvA B ca Γ C1 [tv a] C2) (hk1 : C1[k]? = some (p, .lst ys)) (hk : C2[k]? = some (p, .lst xs)) (hz : xs.length < sizeLine) :
    Ev B (tBM B.K "list" rAppend ta ca) Γ C (tv ()) (C2.set k (p, .lst (xs ++ [a]))) := fun τ σ ws H st Q q =>
  ho τ σ ws H st _ fun v H1 s1 => by
    obtain ⟨F, s2, hv⟩ := s1.pop
    obtain rfl : v = .ref p := hv
    obtain ⟨_, ⟨o, h2, vs, rfl, h3⟩, _⟩ := s2.hf.cells _ (List.mem_of_getElem? hk1)
    refine ⟨.inl ⟨rfl, vs, .inl (.inl h2)⟩, ha τ σ ws H1 ⟨F, s2⟩ _ fun us H2 s3 hl => ?_⟩
    obtain ⟨F3, s4, hv4⟩ := EvA.out s3 hl
    cases hv4 with
    | cons g1 g2 =>
      cases g2
      obtain ⟨_, ⟨o, h5, vs5, rfl, h6⟩, _⟩ := s4.hf.cells _ (List.mem_of_getElem? hk)
      have h6' : All2 (Rp.rp B.K F3) vs5 xs := h6
      exact ⟨p, vs5, _, rfl, rfl, h5, by rw [h6'.length]; exact hz, q _ _ (ST.push (x := tv ()) ⟨s4.hf.write (c' := .lst (xs ++ [a])) hk ⟨_, rfl, h6'.append (.cons g1 .nil)⟩, s4.slots, s4.temps⟩ rfl)⟩
end
end T
set_option Elab.async false
set_option linter.all false
set_option maxRecDepth 100000
set_option maxHeartbeats 2000000
set_option autoImplicit false
namespace T
open PySem PySem.Spec PyProof.Rows L2
open PySem.W (Frag alike alikeAll dataLe dataLt AllAlike Sortable EachIs)
/-! ### rules of HandS's kind that are wider -/
section
variable {X : Cx} {pins : List (Addr × Obj)} {σ : St} {H : Hp} {s : Shared}
theorem rd_lst (I : Inv X pins σ H s) {a : Addr} {xs : List V} (h : Rd H a (.lst xs)) : xs.length ≤ sizeLine ∧ ∃ (its : List Value) (n : Nat), Vals xs its ∧ xs.length = its.length ∧ s.heap.get? a = some { cls := .type "list", data := .seq its.toArray n } := by
  obtain ⟨z, its, n, r, e⟩ := h.ok I.hok
  exact ⟨z, its, n, r, r.length, e⟩
theorem op_catL : OpR X (binaryOp .Add) rCatL := by
  intro pins s σ H x y v u Q I rx ry h
  obtain ⟨l, b, xs, zs, rfl, rfl, hH, hB, hz, q⟩ := h
  cases rx
  cases ry
  obtain ⟨z, its, n, r, hl, e⟩ := rd_lst I hH
  obtain ⟨z2, its2, n2, r2, hl2, e2⟩ := rd_lst I hB
  refine PySem.P.add_list e e2 ?_ (by rw [List.size_toArray, List.size_toArray]; omega)
  have ea : its.toArray ++ its2.toArray = (its ++ its2).toArray := by simp
  rw [ea]
  exact ⟨.ref _, _, I.lnew (t' := s.toks) (r.append r2) (by rw [List.length_append]; omega), rfl, q _ I.fresh⟩
end
/-! ### data -/
class Dat (α : Type) extends Rp α where
  enc : α → PyData
  dp : ∀ {K F v x}, Rp.rp K F v x → Dp K F v (enc x)
  dep : Nat
  hdep : ∀ x, (enc x).depth ≤ dep
  al : ∀ x y, alike (enc x) (enc y) = true
instance : Dat Int where
  enc := .int
  dp := fun h => by cases h; exact .int _
  dep := 0
  hdep := fun _ => by simp [PyData.depth]
  al := fun _ _ => by simp [alike]
instance : Dat Bool where
  enc := .bool
  dp := fun h => by cases h; exact .bl _
  dep := 0
  hdep := fun _ => by simp [PyData.depth]
  al := fun _ _ => by simp [alike]
instance : Dat Str where
  enc := .str
  dp := fun h => by cases h; exact .str _
  dep := 0
  hdep := fun _ => by simp [PyData.depth]
  al := fun _ _ => by simp [alike]
theorem dpAll_of {α : Type} [Dat α] {K : Frag} {F : Hp} : ∀ {vs : List V} {xs : List α}, All2 (Rp.rp K F) vs xs → DpAll K F vs (xs.map Dat.enc)
  | _, _, .nil => .nil
  | _, _, .cons h t => .cons (Dat.dp h) (dpAll_of t)
theorem depAll_of {α : Type} [Dat α] : ∀ xs : List α, PyData.depthAll (xs.map Dat.enc) ≤ Dat.dep α
  | [] => by simp [PyData.depthAll]
  | x :: xs => by
    rw [List.map_cons, PyData.depthAll]
    exact Nat.max_le.mpr ⟨Dat.hdep x, depAll_of xs⟩
theorem alAll_of {α : Type} [Dat α] : ∀ xs ys : List α, alikeAll (xs.map Dat.enc) (ys.map Dat.enc) = true
  | [], _ => by simp [alikeAll]
  | _ :: _, [] => by simp [alikeAll]
  | x :: xs, y :: ys => by
    rw [List.map_cons, List.map_cons, alikeAll, Dat.al, alAll_of xs ys]
    rfl
instance instDatList {α : Type} [Dat α] : Dat (List α) where
  enc := fun xs => .list (xs.map Dat.enc)
  dp := fun ⟨a, vs, e, h, r⟩ => by subst e; exact .lst (.inl (.inl h)) (dpAll_of r)
  dep := Dat.dep α + 1
  hdep := fun xs => by rw [PyData.depth]; have := depAll_of xs; omega
  al := fun xs ys => by rw [alike]; exact alAll_of xs ys
instance instDatTp {α : Type} [Dat α] : Dat (Tp α) where
  enc := fun xs => .tuple (xs.l.map Dat.enc)
  dp := fun ⟨a, vs, e, h, r⟩ => by subst e; exact .tup (.inl (.inl h)) (dpAll_of r)
  dep := Dat.dep α + 1
  hdep := fun xs => by rw [PyData.depth]; have := depAll_of xs.l; omega
  al := fun xs ys => by rw [alike]; exact alAll_of xs.l ys.l
instance instDatProd {α β : Type} [Dat α] [Dat β] : Dat (α × β) where
  enc := fun x => .tuple [Dat.enc x.1, Dat.enc x.2]
  dp := fun ⟨a, v1, v2, e, h, r1, r2⟩ => by subst e; exact .tup (.inl (.inl h)) (.cons (Dat.dp r1) (.cons (Dat.dp r2) .nil))
  dep := max (Dat.dep α) (Dat.dep β) + 1
  hdep := fun x => by
    rw [PyData.depth, PyData.depthAll, PyData.depthAll, PyData.depthAll]
    have := Dat.hdep x.1
    have := Dat.hdep x.2
    omega
  al := fun x y => by rw [alike, alikeAll, alikeAll, alikeAll, Dat.al, Dat.al]; rfl
/-- ones that can be sorted -/
class Srt (α : Type) extends Dat α where
  srt : ∀ x, enc x ≠ .none ∧ ∀ xs, enc x ≠ .tuple xs
instance : Srt Int := ⟨fun x => ⟨fun h => (by have h' : PyData.int x = .none := h; cases h'), fun xs h => (by have h' : PyData.int x = .tuple xs := h; cases h')⟩⟩
instance : Srt Str := ⟨fun x => ⟨fun h => (by have h' : PyData.str x = .none := h; cases h'), fun xs h => (by have h' : PyData.str x = .tuple xs := h; cases h')⟩⟩
instance {α : Type} [Dat α] : Srt (List α) := ⟨fun x => ⟨fun h => (by have h' : PyData.list (x.map Dat.enc) = .none := h; cases h'), fun xs h => (by have h' : PyData.list (x.map Dat.enc) = .tuple xs := h; cases h')⟩⟩
section
variable {B : Bs} {F F' : Hp} {Γ Γ' Γ2 : List Sl} {C C' C1 C2 C3 R : Cs} {τ : List TV} {σ : St} {ws : List V} {H H' : Hp} {x y z : TV} {c : Ct}
variable {ta tc te : TE} {ca : TA} {D : EndT} {ts tu tw tb : TS} {wi : TI} {g : TG}
mutual
theorem Sub.dp {K : Frag} {F H : Hp} (s : Sub F H) : ∀ (d : PyData) (v : V), Dp K F v d → Dp K H v d
  | .none, _, h => by cases h; exact .non
  | .bool b, _, h => by cases h; exact .bl b
  | .int b, _, h => by cases h; exact .int b
  | .str b, _, h => by cases h; exact .str b
  | .list ds, _, h => by cases h with
    | lst h1 h2 => exact .lst (s.sqL h1) (Sub.dpAll s ds _ h2)
  | .tuple ds, _, h => by cases h with
    | tup h1 h2 => exact .tup (s.sqT h1) (Sub.dpAll s ds _ h2)
  | .dict _, _, h => by cases h
theorem Sub.dpAll {K : Frag} {F H : Hp} (s : Sub F H) : ∀ (ds : List PyData) (vs : List V), DpAll K F vs ds → DpAll K H vs ds
  | [], _, h => by cases h; exact .nil
  | d :: ds, _, h => by cases h with
    | cons g1 g2 => exact .cons (Sub.dp s d _ g1) (Sub.dpAll s ds _ g2)
end
end
end T
set_option Elab.async false
set_option linter.all false
set_option maxRecDepth 100000
set_option maxHeartbeats 2000000
set_option autoImplicit false
namespace T
open PySem PySem.Spec PyProof.Rows L2
open PySem.W (Frag)
/-! ### the mirrors' words -/
def lim {α : Type} (xs : List α) : Option (List α) := if xs.length ≤ sizeLine then some xs else none
def foldO {α σ : Type} (f : σ → α → Option σ) : σ → List α → Option σ
  | s, [] => some s
  | s, x :: xs => (f s x).bind fun s => foldO f s xs
/-- a loop that may be left with r -/
def foldR {α σ ρ : Type} (f : σ → α → Option (Except ρ σ)) : σ → List α → Option (Except ρ σ)
  | s, [] => some (.ok s)
  | s, x :: xs => (f s x).bind fun e => match e with
    | .ok s => foldR f s xs
    | .error r => some (.error r)
def lcO {α β : Type} (t : α → Option Bool) (e : α → Option β) : List α → Option (List β)
  | [] => some []
  | x :: xs => (t x).bind fun b => if b = true then (e x).bind fun y => (lcO t e xs).bind fun ys => some (y :: ys) else lcO t e xs
theorem bind_some {α β : Type} {o : Option α} {f : α → Option β} {r : β} (h : o.bind f = some r) : ∃ x, o = some x ∧ f x = some r := Option.bind_eq_some_iff.mp h
theorem lim_some {α : Type} {xs ys : List α} (h : lim xs = some ys) : ys = xs ∧ xs.length ≤ sizeLine := by
  unfold lim at h
  split at h
  · cases h; exact ⟨rfl, by assumption⟩
  · cases h
theorem foldO_append {α σ : Type} {f : σ → α → Option σ} : ∀ {xs ys : List α} {s : σ}, foldO f s (xs ++ ys) = (foldO f s xs).bind fun s => foldO f s ys
  | [], ys, s => rfl
  | x :: xs, ys, s => by
    show (f s x).bind _ = ((f s x).bind _).bind _
    cases f s x with
    | none => rfl
    | some s' => exact foldO_append (xs := xs)
theorem foldO_at {α σ : Type} {f : σ → α → Option σ} {pre post : List α} {x : α} {s r : σ} (h : foldO f s (pre ++ x :: post) = some r) : ∃ s1 s2, foldO f s pre = some s1 ∧ f s1 x = some s2 ∧ foldO f s (pre ++ [x]) = some s2 := by
  rw [foldO_append] at h
  obtain ⟨s1, h1, h2⟩ := bind_some h
  obtain ⟨s2, h3, _⟩ := bind_some (show (f s1 x).bind _ = some r from h2)
  refine ⟨s1, s2, h1, h3, ?_⟩
  rw [foldO_append, h1]
  show (f s1 x).bind _ = _
  rw [h3]
  rfl
theorem foldR_ok {α σ ρ : Type} {f : σ → α → Option (Except ρ σ)} : ∀ {xs ys : List α} {s : σ} {r}, foldR f s (xs ++ ys) = some r → ∀ {s1}, foldR f s xs = some (.ok s1) → foldR f s1 ys = some r
  | [], ys, s, r, h, s1, h1 => by cases h1; exact h
  | x :: xs, ys, s, r, h, s1, h1 => by
    obtain ⟨e, h2, h3⟩ := bind_some (show (f s x).bind _ = some r from h)
    obtain ⟨e', h4, h5⟩ := bind_some (show (f s x).bind _ = some _ from h1)
    rw [h2] at h4
    cases h4
    cases e with
    | ok s' => exact foldR_ok (xs := xs) h3 h5
    | error q => cases h5
theorem foldR_snoc {α σ ρ : Type} {f : σ → α → Option (Except ρ σ)} : ∀ {xs : List α} {x : α} {s s1 : σ} {e}, foldR f s xs = some (.ok s1) → f s1 x = some e → foldR f s (xs ++ [x]) = some e
  | [], x, s, s1, e, h1, h2 => by
    cases h1
    show (f s x).bind _ = _
    rw [h2]
    cases e <;> rfl
  | y :: xs, x, s, s1, e, h1, h2 => by
    obtain ⟨e', h4, h5⟩ := bind_some (show (f s y).bind _ = some _ from h1)
    show (f s y).bind _ = _
    rw [h4]
    cases e' with
    | ok s' => exact foldR_snoc (xs := xs) h5 h2
    | error q => cases h5
theorem lcO_append {α β : Type} {t : α → Option Bool} {e : α → Option β} : ∀ {xs ys : List α}, lcO t e (xs ++ ys) = (lcO t e xs).bind fun a => (lcO t e ys).bind fun b => some (a ++ b)
  | [], ys => by
    show lcO t e ys = (lcO t e ys).bind _
    cases lcO t e ys <;> rfl
  | x :: xs, ys => by
    show (t x).bind _ = ((t x).bind _).bind _
    cases t x with
    | none => rfl
    | some b => cases b with
      | false => exact lcO_append (xs := xs)
      | true =>
        show (e x).bind _ = ((e x).bind _).bind _
        cases e x with
        | none => rfl
        | some y =>
          show (lcO t e (xs ++ ys)).bind _ = ((lcO t e xs).bind _).bind _
          rw [lcO_append (xs := xs)]
          cases lcO t e xs with
          | none => rfl
          | some a => cases lcO t e ys <;> rfl
section
variable {B : Bs} {F F' : Hp} {Γ Γ' Γ2 : List Sl} {C C' C1 C2 C3 R : Cs} {τ : List TV} {σ : St} {ws : List V} {H H' : Hp} {x y z : TV} {c : Ct}
variable {ta tc te : TE} {ca : TA} {D : EndT} {ts tu tw tb : TS} {wi : TI} {g : TG} {tt : TT}
variable {α β : Type} [Rp α] [Rp β] {xs : List α} {js vs : List Nat}
/-- what a loop's turn is to reach -/
abbrev loopE (B : Bs) (D : EndT) (Γ : List Sl) (C : Cs) : EndT := ⟨fun τ ws σ H => ST B Γ C τ σ ws H, D.rt, fun _ _ _ _ => False, fun τ ws σ H => ST B Γ C τ σ ws H⟩
/-- a for that is not left -/
theorem ss_forO {S : Type} {f : S → α → Option S} {s0 s1 : S} (hf : foldO f s0 xs = some s1) (Γf : S → List Sl) (Cf : S → Cs) (hi : EvI B wi Γ C xs C1) (w0 : Wk Γ (Γf s0)) (c0 : C1 = Cf s0)
    (hs : ∀ s a s', a ∈ xs → f s a = some s' → ∃ Γ2, Tg B g js (tv a) (Γf s) Γ2 ∧ Ss B tb Γ2 (Cf s) (loopE B D (Γf s') (Cf s')))
    (hd : Ss B tu (Γf s1) (Cf s1) D) : Ss B (tSeq (tFor wi g tb) tu) Γ C D := by
  refine ss_for (js := js) (fun pre Γ' C' => (pre = [] ∧ Γ' = Γ ∧ C' = C1) ∨ ∃ s, foldO f s0 pre = some s ∧ Γ' = Γf s ∧ C' = Cf s) (fun _ _ => False) hi (.inl ⟨rfl, rfl, rfl⟩) ?_ ?_
  · intro pre a post Γ' C' e hI
    have hf' := hf
    rw [e] at hf'
    obtain ⟨s, s', h1, h2, h3⟩ := foldO_at hf'
    have hm : a ∈ xs := by rw [e]; simp
    obtain ⟨Γ2, tg, hb⟩ := hs s a s' hm h2
    rcases hI with ⟨rfl, rfl, rfl⟩ | ⟨q, hq, rfl, rfl⟩
    · cases h1
      refine ⟨Γ2, fun F C σ v H hf hsl hx Q q => tg F C σ v H hf (w0.slots hsl) hx Q q, ?_⟩
      rw [c0]
      exact fun τ σ ws H st E im => hb τ σ ws H st E ⟨fun σ H h => im.nx _ _ ⟨_, _, .inr ⟨s', h3, rfl, rfl⟩, h⟩, im.rt, fun _ _ z => z.elim, fun σ H h => im.ct _ _ ⟨_, _, .inr ⟨s', h3, rfl, rfl⟩, h⟩⟩
    · rw [hq] at h1
      cases h1
      exact ⟨Γ2, tg, fun τ σ ws H st E im => hb τ σ ws H st E ⟨fun σ H h => im.nx _ _ ⟨_, _, .inr ⟨s', h3, rfl, rfl⟩, h⟩, im.rt, fun _ _ z => z.elim, fun σ H h => im.ct _ _ ⟨_, _, .inr ⟨s', h3, rfl, rfl⟩, h⟩⟩⟩
  · rintro Γ' C' ((⟨rfl, rfl, rfl⟩ | ⟨s, hs1, rfl, rfl⟩) | z)
    · cases hf
      rw [c0]
      exact ss_weak w0 hd
    · rw [hf] at hs1
      cases hs1
      exact hd
    · exact z.elim
/-- a for that may be left by return -/
theorem ss_forR {S ρ : Type} {f : S → α → Option (Except ρ S)} {s0 : S} {r : Except ρ S} (hf : foldR f s0 xs = some r) (Γf : S → List Sl) (Cf : S → Cs) (hi : EvI B wi Γ C xs C1) (w0 : Wk Γ (Γf s0)) (c0 : C1 = Cf s0)
    (hs : ∀ s a e, a ∈ xs → f s a = some e → ∃ Γ2, Tg B g js (tv a) (Γf s) Γ2 ∧ (∀ s', e = .ok s' → Ss B tb Γ2 (Cf s) (loopE B D (Γf s') (Cf s'))) ∧ (∀ q, e = .error q → r = .error q → Ss B tb Γ2 (Cf s) ⟨fun _ _ _ _ => False, D.rt, fun _ _ _ _ => False, fun _ _ _ _ => False⟩))
    (hd : ∀ s1, r = .ok s1 → Ss B tu (Γf s1) (Cf s1) D) : Ss B (tSeq (tFor wi g tb) tu) Γ C D := by
  refine ss_for (js := js) (fun pre Γ' C' => (pre = [] ∧ Γ' = Γ ∧ C' = C1) ∨ ∃ s, foldR f s0 pre = some (.ok s) ∧ Γ' = Γf s ∧ C' = Cf s) (fun _ _ => False) hi (.inl ⟨rfl, rfl, rfl⟩) ?_ ?_
  · intro pre a post Γ' C' e hI
    have hm : a ∈ xs := by rw [e]; simp
    have key : ∀ s, foldR f s0 pre = some (.ok s) → ∃ Γ2, Tg B g js (tv a) (Γf s) Γ2 ∧ Ss B tb Γ2 (Cf s) ⟨fun τ ws σ H => ∃ Γ3 C3, ((pre ++ [a] = [] ∧ Γ3 = Γ ∧ C3 = C1) ∨ ∃ s, foldR f s0 (pre ++ [a]) = some (.ok s) ∧ Γ3 = Γf s ∧ C3 = Cf s) ∧ ST B Γ3 C3 τ σ ws H, D.rt, fun τ ws σ H => ∃ Γ3 C3, False ∧ ST B Γ3 C3 τ σ ws H, fun τ ws σ H => ∃ Γ3 C3, ((pre ++ [a] = [] ∧ Γ3 = Γ ∧ C3 = C1) ∨ ∃ s, foldR f s0 (pre ++ [a]) = some (.ok s) ∧ Γ3 = Γf s ∧ C3 = Cf s) ∧ ST B Γ3 C3 τ σ ws H⟩ := by
      intro s hs1
      have hf' := hf
      rw [e] at hf'
      have h2 := foldR_ok hf' hs1
      obtain ⟨u, h3, h4⟩ := bind_some (show (f s a).bind _ = some r from h2)
      obtain ⟨Γ2, tg, hb1, hb2⟩ := hs s a u hm h3
      refine ⟨Γ2, tg, ?_⟩
      cases u with
      | ok s' =>
        have h5 := foldR_snoc hs1 h3
        exact fun τ σ ws H st E im => hb1 s' rfl τ σ ws H st E ⟨fun σ H h => im.nx _ _ ⟨_, _, .inr ⟨s', h5, rfl, rfl⟩, h⟩, im.rt, fun _ _ z => z.elim, fun σ H h => im.ct _ _ ⟨_, _, .inr ⟨s', h5, rfl, rfl⟩, h⟩⟩
      | error q =>
        have h5 : r = .error q := (Option.some.inj h4).symm
        exact fun τ σ ws H st E im => hb2 q rfl h5 τ σ ws H st E ⟨fun _ _ z => z.elim, im.rt, fun _ _ z => z.elim, fun _ _ z => z.elim⟩
    rcases hI with ⟨rfl, rfl, rfl⟩ | ⟨q, hq, rfl, rfl⟩
    · obtain ⟨Γ2, tg, hb⟩ := key s0 rfl
      refine ⟨Γ2, fun F C σ v H hf hsl hx Q q => tg F C σ v H hf (w0.slots hsl) hx Q q, ?_⟩
      rw [c0] at hb ⊢
      exact hb
    · exact key q hq
  · rintro Γ' C' ((⟨rfl, rfl, rfl⟩ | ⟨s, hs1, rfl, rfl⟩) | z)
    · cases hf
      rw [c0]
      exact ss_weak w0 (hd s0 rfl)
    · rw [hf] at hs1
      cases hs1
      exact hd s rfl
    · exact z.elim
/-- a list comprehension whose element changes nothing -/
theorem evn_lcO {t : α → Option Bool} {e : α → Option β} {ys : List β} (hl : lcO t e xs = some ys) (hz : ys.length ≤ sizeLine) (hi : EvI B wi Γ C xs C1) (hj : ∀ j ∈ js, j ∈ vs)
    (hs : ∀ a b, a ∈ xs → t a = some b → ∃ Γ2, Tg B g js (tv a) (wipeG Γ vs) Γ2 ∧ (∀ C2, (∀ p ∈ C1, p ∈ C2) → EvT B tt Γ2 C2 b C2) ∧ (b = true → ∀ y, e a = some y → ∀ C2, (∀ p ∈ C1, p ∈ C2) → Ev B te Γ2 C2 (tv y) C2)) :
    EvN B (tLc wi g tt te vs) Γ C (.lst ys) C1 := by
  refine evn_lc (ys := ys) (C2 := C1) (fun pre ys' C' => lcO t e pre = some ys' ∧ C' = C1) hi hj ⟨rfl, rfl⟩ ?_ ?_
  · rintro pre a post ys' C' p hx ⟨h1, hC⟩
    subst hC
    have hm : a ∈ xs := by rw [hx]; simp
    rw [hx, lcO_append, h1] at hl
    obtain ⟨b2, h2, h3⟩ := bind_some (show (lcO t e (a :: post)).bind (fun b => some (ys' ++ b)) = some ys from hl)
    obtain ⟨b, h4, h5⟩ := bind_some (show (t a).bind _ = some b2 from h2)
    obtain ⟨Γ2, tg, ht, he⟩ := hs a b hm h4
    refine ⟨Γ2, b, tg, ht _ fun q hq => List.mem_cons_of_mem _ hq, fun hb => ?_, fun hb => ?_⟩
    · rw [if_pos hb] at h5
      obtain ⟨y, h6, h7⟩ := bind_some h5
      obtain ⟨r, h8, h9⟩ := bind_some h7
      cases h9
      cases h3
      refine ⟨y, C', he hb y h6 _ fun q hq => List.mem_cons_of_mem _ hq, ?_, ?_, rfl⟩
      · simp at hz
        omega
      · rw [lcO_append, h1]
        show ((t a).bind _).bind _ = _
        rw [h4]
        show ((if b = true then _ else _) : Option (List β)).bind _ = _
        rw [if_pos hb, h6]
        rfl
    · refine ⟨?_, rfl⟩
      rw [lcO_append, h1]
      show ((t a).bind _).bind _ = _
      rw [h4, hb]
      simp [lcO]
  · rintro ys' C' ⟨h1, h2⟩
    rw [hl] at h1
    cases h1
    exact ⟨rfl, h2⟩
theorem et_yes : EvT B tYes Γ C true C := fun τ σ ws H st Q q => q H st
end
end T
set_option Elab.async false
set_option linter.all false
set_option maxRecDepth 100000
set_option maxHeartbeats 2000000
set_option autoImplicit false
namespace T
open PySem PySem.Spec PyProof.Rows L2
open PySem.W (Frag)
/-! ### dicts in plain Lean -/
section
variable {κ α : Type} [DecidableEq κ]
def dput (kvs : List (κ × α)) (k : κ) (v : α) : List (κ × α) :=
  if (kvs.any fun kv => decide (kv.1 = k)) = true then kvs.map (fun kv => if kv.1 = k then (kv.1, v) else kv) else kvs ++ [(k, v)]
end
instance {α : Type} [DecidableEq α] : DecidableEq (Tp α) := fun a b => match a, b with
  | ⟨x⟩, ⟨y⟩ => if h : x = y then isTrue (by rw [h]) else isFalse fun e => h (Tp.mk.inj e)
section
variable {κ α : Type} [Ky κ] [DecidableEq κ] [Rp α] {K : Frag} {F : Hp}
theorem key_dec (a b : κ) : decide (Ky.key a = Ky.key b) = decide (a = b) := by
  by_cases h : a = b
  · subst h; simp
  · have : ¬ Ky.key a = Ky.key b := fun e => h (Ky.kinj e)
    simp [h, this]
theorem any_put {ps : List (Key × V)} {kvs : List (κ × α)} (h : All2 (KvOk K F) ps kvs) (k : κ) : (ps.any fun kv => decide (kv.1 = Ky.key k)) = kvs.any fun kv => decide (kv.1 = k) := by
  induction h with
  | nil => rfl
  | @cons p q ps kvs h1 _ ih => rw [List.any_cons, List.any_cons, ih, h1.1, key_dec]
theorem put_ok {ps : List (Key × V)} {kvs : List (κ × α)} (h : All2 (KvOk K F) ps kvs) {k : κ} {v : V} {x : α} (hv : Rp.rp K F v x) : All2 (KvOk K F) (putK ps (Ky.key k) v) (dput kvs k x) := by
  unfold putK dput
  rw [any_put h]
  split
  · rename_i hc
    clear hc
    induction h with
    | nil => exact .nil
    | @cons p q ps kvs h1 _ ih =>
      refine .cons ?_ ih
      by_cases e : q.1 = k
      · dsimp only
        rw [if_pos e, if_pos (by rw [h1.1, e])]
        exact ⟨h1.1, hv⟩
      · dsimp only
        rw [if_neg e, if_neg (fun z => e (Ky.kinj (h1.1.symm.trans z)))]
        exact h1
  · exact h.append (.cons ⟨rfl, hv⟩ .nil)
end
/-- keys as values -/
class Kv (κ : Type) extends Sc κ, Ky κ where
  kv : ∀ x : κ, Sc.toV x = kV (Ky.key x)
instance : Kv Int := ⟨fun _ => rfl⟩
instance : Kv Str := ⟨fun _ => rfl⟩
section
variable {B : Bs} {F F' : Hp} {Γ Γ' Γ2 : List Sl} {C C' C1 C2 C3 R : Cs} {τ : List TV} {σ : St} {ws : List V} {H H' : Hp} {x y z : TV} {c : Ct}
variable {ta tc te td ty tw' : TE} {ca : TA} {D : EndT} {ts tu tw tb : TS} {wi : TI} {g : TG} {tt : TT}
variable {κ α β : Type} [Kv κ] [DecidableEq κ] [Rp α] [Rp β]
/-- t is a dict of the pairs kvs, it stands or is a cell -/
def Dv (B : Bs) (C : Cs) (t : TV) (kvs : List (κ × α)) : Prop := ∀ F H v, HF B F C H → t.ok B.K F v → ∃ a ps, v = .ref a ∧ Rd H a (.dK ps) ∧ All2 (KvOk B.K F) ps kvs
variable {kvs : List (κ × α)} {kts : List (Tp κ × α)}
theorem dv_val {d : Dc κ α} : Dv B C (tv d) d.l := fun F H v hf ⟨a, o, ps, e, h, r⟩ => ⟨a, ps, e, .inr ⟨o, hf.sub _ _ h⟩, r⟩
theorem evn_newK : EvN B tDNewK Γ C (.dct ([] : List (κ × α))) C := fun τ σ ws H ⟨F, s⟩ Q q p hp =>
  q p _ (s.hf.free hp).2.2 (s.hf.free hp).2.1 ⟨F, (s.hf.cell (c := .dct ([] : List (κ × α))) hp ⟨[], rfl, .nil⟩).1, s.slots, s.temps⟩
/-- len(d) -/
def rLenD : List V → Hp → VK → Prop := fun xs H Q => ∃ a, xs = [V.ref a] ∧ ((∃ kvs, Rd H a (.dK kvs) ∧ Q (.int kvs.length) H))
theorem cr_lenD {X : Cx} : CallR X (.builtin "len") rLenD := by
  intro pins s σ H xs us Q I r h
  obtain ⟨a, rfl, kvs, ha, q⟩ := h
  obtain ⟨u, rfl, ru⟩ := vals1 r
  cases ru
  exact d_len I ha fun t s' I' => ⟨.int kvs.length, H, I', ⟨t, rfl⟩, q⟩
theorem cs_lenD (h : Dv B C x kvs) : CbS B C rLenD [x] (tv (kvs.length : Int)) := fun F H vs hf hv Q q => by
  cases hv with
  | cons h1 h2 =>
    cases h2
    obtain ⟨a, ps, rfl, g1, g2⟩ := h F H _ hf h1
    exact ⟨a, rfl, ps, g1, q _ (by rw [g2.length]; rfl)⟩
/-! walks over dicts that stand -/
/-- a thing at a that stands, as it is -/
structure Pin where
  a : Addr
  o : HO
instance : Rp Pin := ⟨fun _ F v x => v = .ref x.a ∧ F x.a = some x.o, fun s h => ⟨h.1, s _ _ h.2⟩⟩
structure PinD (κ α : Type) where
  a : Addr
  o : Obj
  ps : List (Key × V)
  l : List (κ × α)
instance {κ α : Type} [Ky κ] [Rp α] : Rp (PinD κ α) := ⟨fun K F v x => v = .ref x.a ∧ F x.a = some (.frz x.o (.dK x.ps)) ∧ All2 (KvOk K F) x.ps x.l, fun s h => ⟨h.1, s _ _ h.2.1, h.2.2.mono fun _ _ q => q.mono s⟩⟩
/-- enumerate(xs) -/
structure PinL (α : Type) where
  a : Addr
  vs : List V
  l : List α
instance {α : Type} [Rp α] : Rp (PinL α) := ⟨fun K F v x => v = .ref x.a ∧ Rd F x.a (.lst x.vs) ∧ All2 (Rp.rp K F) x.vs x.l, fun s h => ⟨h.1, rd_mono s h.2.1, h.2.2.mono fun _ _ q => Rp.mono s q⟩⟩
def enumL {α : Type} : Nat → List α → List (Int × α)
  | _, [] => []
  | n, x :: xs => ((n : Int), x) :: enumL (n + 1) xs
theorem enumL_get {α : Type} : ∀ {xs : List α} {n i : Nat} {p : Int × α}, (enumL n xs)[i]? = some p → p.1 = ((n + i : Nat) : Int) ∧ xs[i]? = some p.2
  | [], _, _, _, h => by simp [enumL] at h
  | x :: xs, n, 0, p, h => by
    simp only [enumL, List.getElem?_cons_zero, Option.some.injEq] at h
    subst h
    exact ⟨rfl, rfl⟩
  | x :: xs, n, i + 1, p, h => by
    simp only [enumL, List.getElem?_cons_succ] at h
    obtain ⟨h1, h2⟩ := enumL_get h
    exact ⟨by rw [h1]; congr 1; omega, by simpa using h2⟩
theorem enumL_length {α : Type} : ∀ (n : Nat) (xs : List α), (enumL n xs).length = xs.length
  | _, [] => rfl
  | n, x :: xs => by simp [enumL, enumL_length (n + 1) xs]
theorem ei_enum {xs : List α} {t : TV} (h : EvA B ca Γ C [t] C1) (hl : ∀ F H v, HF B F C1 H → t.ok B.K F v → ∃ a vs, v = .ref a ∧ Rd F a (.lst vs) ∧ All2 (Rp.rp B.K F) vs xs) : EvI B (iEnum B.K ca) Γ C (enumL 0 xs) C1 := fun τ σ ws H st R q =>
  h τ σ ws H st _ fun vs H1 s1 hln => by
    obtain ⟨F0, s2, hv⟩ := EvA.out s1 hln
    cases hv with
    | cons h1 h2 =>
      cases h2
      obtain ⟨a, us, rfl, g1, g2⟩ := hl F0 H1 _ s2.hf h1
      refine ⟨a, us, rfl, .inl (s2.hf.sub.rd g1), q _ (tv (PinL.mk a us xs)) (.ref a) H1 (ST.push s2 ⟨rfl, g1, g2⟩) fun i F C H hf hk => ?_⟩
      obtain ⟨_, hk2, hr2⟩ := hk
      have hq : SqL B.K H a us := .inl (hf.sub.rd hk2)
      have hlen := g2.length
      refine ⟨fun hi => ⟨us, hq, by rw [enumL_length] at hi; omega⟩, fun p hp => ?_⟩
      obtain ⟨e1, e2⟩ := enumL_get hp
      obtain ⟨w, h3, h4⟩ := hr2.get e2
      have h3' : us[i]? = some w := h3
      refine ⟨⟨us, w, hq, h3'⟩, fun x H' hy => ?_⟩
      obtain ⟨T, y, rfl, hT, rfl, fy⟩ := hy
      have h5 := fy us hq
      rw [h3'] at h5
      cases h5
      obtain ⟨hf', sF, sH⟩ := hf.laid (o := .tup [.int (i : Nat), w]) hT
      exact ⟨_, sF, hf', T, _, w, rfl, upd_same, by show V.int _ = V.int _; rw [e1]; simp, Rp.mono sF h4⟩
theorem en_val {xs : List α} {F : Hp} {H : Hp} {v : V} (hf : HF B F C1 H) (h : (tv xs).ok B.K F v) : ∃ a vs, v = .ref a ∧ Rd F a (.lst vs) ∧ All2 (Rp.rp B.K F) vs xs := let ⟨a, vs, e, h, r⟩ := h; ⟨a, vs, e, .inl h, r⟩
/-- zip(xs, ys) -/
structure PinZ (α β : Type) where
  a : Addr
  b : Addr
  vs : List V
  ws : List V
  l : List α
  m : List β
instance {α β : Type} [Rp α] [Rp β] : Rp (PinZ α β) := ⟨fun K F v x => v = .ref x.a ∧ Rd F x.a (.lst x.vs) ∧ All2 (Rp.rp K F) x.vs x.l ∧ Rd F x.b (.lst x.ws) ∧ All2 (Rp.rp K F) x.ws x.m,
  fun s h => ⟨h.1, rd_mono s h.2.1, h.2.2.1.mono fun _ _ q => Rp.mono s q, rd_mono s h.2.2.2.1, h.2.2.2.2.mono fun _ _ q => Rp.mono s q⟩⟩
end
end T
set_option Elab.async false
set_option linter.all false
set_option maxRecDepth 100000
set_option maxHeartbeats 2000000
set_option autoImplicit false
namespace T
open PySem PySem.Spec PyProof.Rows L2
open PySem.W (Frag)
/-! ### small words for printed proofs -/
theorem if_t {α : Type} {b : Bool} {x y r : α} (h : (if b = true then x else y) = r) (hb : b = true) : x = r := by rw [if_pos hb] at h; exact h
theorem if_f {α : Type} {b : Bool} {x y r : α} (h : (if b = true then x else y) = r) (hb : b = false) : y = r := by rw [if_neg (by rw [hb]; exact Bool.false_ne_true)] at h; exact h
theorem some_eq {α : Type} {a b : α} (h : some a = some b) : a = b := Option.some.inj h
theorem szn {n : Nat} (h : n ≤ 1000) : n ≤ sizeLine := Nat.le_trans h (by decide)
/-- the range's ints, if they are small -/
def rngO (lo hi : Int) : Option (List Int) := if -(2 ^ 62) ≤ lo ∧ lo < 2 ^ 62 ∧ -(2 ^ 62) ≤ hi ∧ hi < 2 ^ 62 then some (rng lo hi) else none
theorem rngO_some {lo hi : Int} {xs : List Int} (h : rngO lo hi = some xs) : xs = rng lo hi ∧ -(2 ^ 62) ≤ lo ∧ lo < 2 ^ 62 ∧ -(2 ^ 62) ≤ hi ∧ hi < 2 ^ 62 := by
  unfold rngO at h
  split at h
  · cases h; exact ⟨rfl, by assumption⟩
  · cases h
/-- append, if it is not too long -/
def appO {α : Type} (xs : List α) (x : α) : Option (List α) := if xs.length < sizeLine then some (xs ++ [x]) else none
theorem appO_some {α : Type} {xs ys : List α} {x : α} (h : appO xs x = some ys) : ys = xs ++ [x] ∧ xs.length < sizeLine := by
  unfold appO at h
  split at h
  · cases h; exact ⟨rfl, by assumption⟩
  · cases h
def catO {α : Type} (xs ys : List α) : Option (List α) := if xs.length + ys.length ≤ sizeLine then some (xs ++ ys) else none
theorem catO_some {α : Type} {xs ys zs : List α} (h : catO xs ys = some zs) : zs = xs ++ ys ∧ xs.length + ys.length ≤ sizeLine := by
  unfold catO at h
  split at h
  · cases h; exact ⟨rfl, by assumption⟩
  · cases h
def putO {κ α : Type} [DecidableEq κ] (kvs : List (κ × α)) (k : κ) (v : α) : Option (List (κ × α)) := if kvs.length < sizeLine then some (dput kvs k v) else none
theorem putO_some {κ α : Type} [DecidableEq κ] {kvs ys : List (κ × α)} {k : κ} {v : α} (h : putO kvs k v = some ys) : ys = dput kvs k v ∧ kvs.length < sizeLine := by
  unfold putO at h
  split at h
  · cases h; exact ⟨rfl, by assumption⟩
  · cases h
section
variable {B : Bs} {F F' : Hp} {Γ Γ' Γ2 : List Sl} {C C' C1 C2 C3 R : Cs} {τ : List TV} {σ : St} {ws : List V} {H H' : Hp} {x y z : TV} {c d : Ct}
variable {ta tb' tc te : TE} {ca : TA} {D : EndT} {ts tu tw tb : TS} {wi : TI} {g : TG} {t u : TT} {b b' : Bool}
variable {α β : Type} [Rp α] [Rp β]
theorem ev_eq {a a' : α} (h : Ev B te Γ C (tv a) C1) (e : a = a') : Ev B te Γ C (tv a') C1 := e ▸ h
theorem evn_eq {a a' : List α} (h : EvN B te Γ C (.lst a) C1) (e : a = a') : EvN B te Γ C (.lst a') C1 := e ▸ h
/-- a return within a block -/
theorem ss_retS (h : Ss B (tRet te) Γ C D) : Ss B (tSeq (tRet te) tu) Γ C D := fun τ σ ws H st E im => h τ σ ws H st E im
/-- fewer cells, fewer names -/
theorem ST.less (w : Wk Γ Γ') (s : C'.Sublist C) (h : ST B Γ C τ σ ws H) : ST B Γ' C' τ σ ws H := let ⟨F, q⟩ := h; ⟨F, q.hf.sublist s, w.slots q.slots, q.temps⟩
theorem ss_goal (w : Wk Γ Γ') (s : C'.Sublist C) : Ss B tNext Γ C (loopE B D Γ' C') := ss_next fun τ ws σ H st => st.less w s
/-- what both ways of an if are to reach -/
abbrev joinE (B : Bs) (D : EndT) (Γ : List Sl) (C : Cs) : EndT := ⟨fun τ ws σ H => ST B Γ C τ σ ws H, D.rt, D.bk, D.ct⟩
theorem ss_join (w : Wk Γ Γ') (s : C'.Sublist C) : Ss B tNext Γ C (joinE B D Γ' C') := ss_next fun τ ws σ H st => st.less w s
theorem ss_ifJ {S : Type} {o1 o2 : Option S} {s : S} (h : (if b = true then o1 else o2) = some s) (Γf : S → List Sl) (Cf : S → Cs) (hc : EvT B t Γ C b C1)
    (h1 : b = true → o1 = some s → Ss B ts Γ C1 (joinE B D (Γf s) (Cf s))) (h2 : b = false → o2 = some s → Ss B tw Γ C1 (joinE B D (Γf s) (Cf s))) (hd : Ss B tu (Γf s) (Cf s) D) : Ss B (tSeq (tIfS t ts tw) tu) Γ C D := fun τ σ ws H st E im =>
  hc τ σ ws H st _ fun H1 s1 => by
    cases b with
    | true => exact h1 rfl (if_t h rfl) τ σ ws H1 s1 _ ⟨fun σ H st' => hd τ σ ws H st' E im, im.rt, im.bk, im.ct⟩
    | false => exact h2 rfl (if_f h rfl) τ σ ws H1 s1 _ ⟨fun σ H st' => hd τ σ ws H st' E im, im.rt, im.bk, im.ct⟩
/-- a op b op c -/
theorem ev_chain {r r' : R2} (ha : Ev B ta Γ C x C1) (hb : Ev B tb' Γ C1 y C1) (hr : OpS B C1 r x y (tv b)) (hc : b = true → Ev B tc Γ C1 z C1) (hr' : OpS B C1 r' y z (tv b')) (ey : ∀ F F' v, Same F F' → y.ok B.K F v → y.ok B.K F' v) : Ev B (tChain r r' ta tb' tc) Γ C (tv (b && b')) C1 := fun τ σ ws H st Q q =>
  ha τ σ ws H st _ fun v H1 s1 => hb _ σ _ H1 s1 _ fun w H2 s2 => by
    obtain ⟨F, s3, hw⟩ := s2.pop
    have tt := s3.temps
    cases tt with
    | cons hv ht =>
      refine hr F H2 v w s3.hf hv hw _ fun u hu => ⟨b, hu, ?_⟩
      cases b with
      | false =>
        rw [if_neg Bool.false_ne_true]
        exact q _ H2 (ST.push ⟨s3.hf, s3.slots, ht⟩ rfl)
      | true =>
        rw [if_pos rfl]
        refine hc rfl (y :: τ) σ (w :: ws) H2 ⟨F, s3.hf, s3.slots, .cons hw ht⟩ _ fun u2 H3 s4 => ?_
        obtain ⟨F4, s5, hu2⟩ := s4.pop
        cases s5.temps with
        | cons hw2 ht2 => exact hr' F4 H3 w u2 s5.hf hw2 hu2 Q fun u3 hu3 => q u3 H3 (ST.push ⟨s5.hf, s5.slots, ht2⟩ hu3)
theorem ev_chain' {r r' : R2} (ha : Ev B ta Γ C x C1) (hb : Ev B tb' Γ C1 y C1) (hr : OpS B C1 r x y (tv b)) (hc : b = true → Ev B tc Γ C1 z C1) (hr' : OpS B C1 r' y z (tv b')) : Ev B (tChain r r' ta tb' tc) Γ C (tv (b && b')) C1 := ev_chain ha hb hr hc hr' fun _ _ _ s h => h.mono s
theorem ev_pair {a : α} {a2 : β} (ha : EvA B ca Γ C [tv a, tv a2] C1) : Ev B (tTup ca) Γ C (tv (a, a2)) C1 := ev_tup ha (by show 2 ≤ sizeLine; decide) fun K F vs p h hv => by
  cases hv with
  | cons h1 h2 => cases h2 with
    | cons h2 h3 =>
      cases h3
      exact ⟨p, _, _, rfl, h, h1, h2⟩
theorem ev_tps {xs : List α} (ha : EvA B ca Γ C (xs.map fun x => tv x) C1) (hz : xs.length ≤ sizeLine) : Ev B (tTup ca) Γ C (tv (Tp.mk xs)) C1 := ev_tup ha (by rw [List.length_map]; exact hz) fun K F vs p h hv => ⟨p, vs, rfl, h, vals_tv hv⟩
theorem et_truL {xs : List α} {tt : TV} (h : Ev B te Γ C tt C1) (hl : Ls B C1 tt xs) : EvT B (fun σ H Q => te σ H fun x H1 => ∃ k, TruV B.K x H1 k ∧ Q k H1) Γ C (!xs.isEmpty) C1 := fun τ σ ws H st Q q =>
  h τ σ ws H st _ fun v H1 s1 => by
    obtain ⟨F, s2, hv⟩ := s1.pop
    obtain ⟨a, vs, rfl, h1, h2⟩ := hl F H1 v s2.hf hv
    refine ⟨!xs.isEmpty, .inl ⟨vs, .inl h1, ?_⟩, q H1 ⟨F, s2⟩⟩
    have := h2.length
    cases vs <;> cases xs <;> simp_all
/-- a cell list of one's own stands from now on -/
theorem ss_frz {i k : Nat} {p : Addr} {xs : List α} (hi : Γ[i]? = some (some (tv (Ptr.mk p)))) (hk : C[k]? = some (p, .lst xs)) (hB : B.H p = none) (h : Ss B tu (Γ.set i (some (tv xs))) (C.eraseIdx k) D) : Ss B tu Γ C D := fun τ σ ws H ⟨F, st⟩ E im => by
  obtain ⟨s, h1, h2⟩ := st.slots.get hi
  obtain ⟨v, rfl, h4⟩ := h2 _ rfl
  obtain rfl : v = .ref p := h4
  have hf := st.hf.perm (perm_at (c' := .lst xs) hk).1
  obtain ⟨o, g1, ⟨vs, rfl, g3⟩, sF, hf2⟩ := hf.freeze hB
  refine h τ σ ws H ⟨_, hf2, ?_, st.temps.temps_mono sF⟩ E im
  have := (st.slots.slots_mono sF).set (a := some (.ref p)) (b := some (tv xs)) (fun t e => by
    cases e
    exact ⟨.ref p, rfl, p, vs, rfl, upd_same, g3.mono fun _ _ z => Rp.mono sF z⟩) i
  have e : σ.set i (some (.ref p)) = σ := by
    apply List.ext_getElem?
    intro j
    by_cases hj : i = j
    · subst hj
      have hl := (List.getElem?_eq_some_iff.mp h1).1
      rw [List.getElem?_set_self hl, h1]
    · rw [List.getElem?_set_ne hj]
  rw [e] at this
  exact this
end
/-- one mirrored test ahead of another -/
def andO (b : Bool) (o : Option Bool) : Option Bool := if b = true then o else some false
def orO (b : Bool) (o : Option Bool) : Option Bool := if b = true then some true else o
section
variable {B : Bs} {F F' : Hp} {Γ Γ' Γ2 : List Sl} {C C' C1 C2 C3 R : Cs} {t u : TT} {b b' : Bool} {ta tb' : TE}
theorem et_andO {o : Option Bool} (h : andO b o = some b') (h1 : EvT B t Γ C b C1) (h2 : b = true → o = some b' → EvT B u Γ C1 b' C1) : EvT B (tAnd t u) Γ C b' C1 := by
  cases b with
  | true => exact et_and (b := true) h1 fun _ => h2 rfl h
  | false =>
    cases h
    exact et_and (b := false) (b' := false) h1 fun z => by cases z
theorem et_orO {o : Option Bool} (h : orO b o = some b') (h1 : EvT B t Γ C b C1) (h2 : b = false → o = some b' → EvT B u Γ C1 b' C1) : EvT B (tOr t u) Γ C b' C1 := by
  cases b with
  | false => exact et_or (b := false) h1 fun _ => h2 rfl h
  | true =>
    cases h
    exact et_or (b := true) (b' := true) h1 fun z => by cases z
theorem ev_andO {o : Option Bool} (h : andO b o = some b') (h1 : Ev B ta Γ C (tv b) C1) (h2 : b = true → o = some b' → Ev B tb' Γ C1 (tv b') C1) : Ev B (tAndV ta tb') Γ C (tv b') C1 := by
  cases b with
  | true => exact ev_andV (b := true) h1 fun _ => h2 rfl h
  | false =>
    cases h
    exact ev_andV (b := false) (b' := false) h1 fun z => by cases z
theorem ev_orO {o : Option Bool} (h : orO b o = some b') (h1 : Ev B ta Γ C (tv b) C1) (h2 : b = false → o = some b' → Ev B tb' Γ C1 (tv b') C1) : Ev B (tOrV ta tb') Γ C (tv b') C1 := by
  cases b with
  | false => exact ev_orV (b := false) h1 fun _ => h2 rfl h
  | true =>
    cases h
    exact ev_orV (b := true) (b' := true) h1 fun z => by cases z
end
end T
namespace T
open PySem PySem.Spec PyProof.Rows L2
open PySem.W (Frag)
def lcL {α β : Type} (t : α → Option Bool) (e : α → Option β) (xs : List α) : Option (List β) := (lcO t e xs).bind lim
theorem lcL_some {α β : Type} {t : α → Option Bool} {e : α → Option β} {xs : List α} {ys : List β} (h : lcL t e xs = some ys) : lcO t e xs = some ys ∧ ys.length ≤ sizeLine := by
  obtain ⟨zs, h1, h2⟩ := bind_some h
  obtain ⟨e, h3⟩ := lim_some h2
  subst e
  exact ⟨h1, h3⟩
/-- dict comprehensions -/
def dcO {α κ β : Type} [DecidableEq κ] (t : α → Option Bool) (f : α → Option κ) (e : α → Option β) : List (κ × β) → List α → Option (List (κ × β))
  | acc, [] => some acc
  | acc, x :: xs => (t x).bind fun b => if b = true then (f x).bind fun k => (e x).bind fun y => (putO acc k y).bind fun acc => dcO t f e acc xs else dcO t f e acc xs
section
variable {B : Bs} {F F' : Hp} {Γ Γ' Γ2 : List Sl} {C C' C1 C2 C3 R : Cs} {τ : List TV} {σ : St} {ws : List V} {H H' : Hp} {x y z : TV} {c d : Ct}
variable {te tk' tv' : TE} {wi : TI} {g : TG} {tt : TT}
variable {α β κ : Type} [Rp α] [Rp β] [Kv κ] [DecidableEq κ] {js vs : List Nat} {xs : List α}
theorem evn_lcL {t : α → Option Bool} {e : α → Option β} {ys : List β} (hl : lcL t e xs = some ys) (hi : EvI B wi Γ C xs C1) (hj : ∀ j ∈ js, j ∈ vs)
    (hs : ∀ a b, a ∈ xs → t a = some b → ∃ Γ2, Tg B g js (tv a) (wipeG Γ vs) Γ2 ∧ (∀ C2, (∀ p ∈ C1, p ∈ C2) → EvT B tt Γ2 C2 b C2) ∧ (b = true → ∀ y, e a = some y → ∀ C2, (∀ p ∈ C1, p ∈ C2) → Ev B te Γ2 C2 (tv y) C2)) :
    EvN B (tLc wi g tt te vs) Γ C (.lst ys) C1 := evn_lcO (lcL_some hl).1 (lcL_some hl).2 hi hj hs
theorem dcO_at {t : α → Option Bool} {f : α → Option κ} {e : α → Option β} : ∀ {pre post : List α} {a : α} {s r : List (κ × β)}, dcO t f e s (pre ++ a :: post) = some r → ∃ s1, dcO t f e s pre = some s1 ∧ dcO t f e s1 (a :: post) = some r ∧ ∀ s2, dcO t f e s1 [a] = some s2 → dcO t f e s (pre ++ [a]) = some s2
  | [], post, a, s, r, h => ⟨s, rfl, h, fun s2 h2 => h2⟩
  | y :: pre, post, a, s, r, h => by
    obtain ⟨b, h1, h2⟩ := bind_some (show (t y).bind _ = some r from h)
    cases b with
    | false =>
      obtain ⟨s1, h3, h4, h5⟩ := dcO_at (pre := pre) (if_f h2 rfl)
      refine ⟨s1, ?_, h4, fun s2 hs2 => ?_⟩
      · show (t y).bind _ = _
        rw [h1]
        exact h3
      · show (t y).bind _ = _
        rw [h1]
        exact h5 s2 hs2
    | true =>
      obtain ⟨k, hk, h6⟩ := bind_some (if_t h2 rfl)
      obtain ⟨v, hv, h7⟩ := bind_some h6
      obtain ⟨acc, ha, h8⟩ := bind_some h7
      obtain ⟨s1, h3, h4, h5⟩ := dcO_at (pre := pre) h8
      have key : ∀ zs, dcO t f e s (y :: zs) = dcO t f e acc zs := fun zs => by
        show (t y).bind _ = _
        rw [h1]
        show (f y).bind _ = _
        rw [hk]
        show (e y).bind _ = _
        rw [hv]
        show (putO s k v).bind _ = _
        rw [ha]
        rfl
      exact ⟨s1, by rw [key]; exact h3, h4, fun s2 hs2 => by rw [List.cons_append, key]; exact h5 s2 hs2⟩
/-- a dict comprehension -/
theorem evn_dcO {t : α → Option Bool} {f : α → Option κ} {e : α → Option β} {ys : List (κ × β)} (hl : dcO t f e [] xs = some ys) (hi : EvI B wi Γ C xs C1) (hj : ∀ j ∈ js, j ∈ vs)
    (hs : ∀ a b, a ∈ xs → t a = some b → ∃ Γ2, Tg B g js (tv a) (wipeG Γ vs) Γ2 ∧ (∀ C2, (∀ p ∈ C1, p ∈ C2) → EvT B tt Γ2 C2 b C2) ∧
      (b = true → ∀ k, f a = some k → ∀ C2, (∀ p ∈ C1, p ∈ C2) → Ev B tk' Γ2 C2 (tv k) C2) ∧ (b = true → ∀ y, e a = some y → ∀ C2, (∀ p ∈ C1, p ∈ C2) → Ev B tv' Γ2 C2 (tv y) C2)) :
    EvN B (tDc wi g tt tk' tv' vs) Γ C (.dct ys) C1 := fun τ σ ws H st Q q =>
  hi τ σ ws H st _ fun J k v H1 s1 wk => by
    intro p hp
    have sp : ∃ F, SF B F Γ ((p, .dct ([] : List (κ × β))) :: C1) (k :: τ) σ (v :: ws) (upd H1 p (.dK [])) := by
      obtain ⟨F, s⟩ := s1
      exact ⟨F, (s.hf.cell (c := .dct ([] : List (κ × β))) (o := .dK []) hp ⟨[], rfl, .nil⟩).1, s.slots, s.temps⟩
    have hpB : B.H p = none ∧ p ∉ B.P := by
      obtain ⟨F, s⟩ := s1
      exact ⟨(s.hf.free hp).2.2, (s.hf.free hp).2.1⟩
    refine ⟨fun i m H => m = xs.length - i ∧ i ≤ xs.length ∧ ∃ ys, dcO t f e [] (xs.take i) = some ys ∧ ST B Γ ((p, .dct ys) :: C1) (k :: τ) σ (v :: ws) H, ⟨_, rfl, Nat.zero_le _, [], rfl, sp⟩, ?_⟩
    rintro i m H ⟨rfl, hle, ys', hI, s⟩
    obtain ⟨F, s3, hk⟩ := s.pop
    obtain ⟨w1, w2⟩ := wk i F _ H s3.hf hk
    by_cases hlt : i < xs.length
    · obtain ⟨go, hy⟩ := w2 xs[i] (List.getElem?_eq_getElem hlt)
      obtain ⟨t1, t2⟩ := take_snoc (List.getElem?_eq_getElem hlt)
      have hl2 := hl
      rw [t2] at hl2
      obtain ⟨s1', g1, g2, g3⟩ := dcO_at hl2
      rw [hI] at g1
      cases g1
      obtain ⟨b, g4, g5⟩ := bind_some (show (t xs[i]).bind _ = some ys from g2)
      obtain ⟨Γ2, tg, ht, hkk, hee⟩ := hs xs[i] b (List.getElem_mem hlt) g4
      refine .inr ⟨go, fun H => ∃ ys, dcO t f e [] (xs.take (i + 1)) = some ys ∧ ST B Γ ((p, .dct ys) :: C1) (k :: τ) σ (v :: ws) H, fun H' hN => ⟨_, by omega, rfl, hlt, hN⟩, fun x H' hx => ?_⟩
      obtain ⟨F', sF, hf', hx'⟩ := hy x H' hx
      have sl := s3.slots.slots_mono sF
      refine tg F' _ (wipe σ vs) x H' hf' (wipe_ok sl vs) hx' _ fun σ' hσ h1 h2 => ⟨wipe_same h1 h2 hj, ?_⟩
      obtain ⟨us, hus, back⟩ := slots_temps sl
      have st2 : ST B Γ2 ((p, .dct ys') :: C1) (Γ.filterMap id ++ (k :: τ)) σ' (us ++ (v :: ws)) H' := ⟨F', hf', hσ, hus.append (.cons (hk.mono sF) (s3.temps.temps_mono sF))⟩
      have fin : ∀ {C4 : Cs} {F4 : Hp} {H4 : Hp}, HF B F4 C4 H4 → All2 (TV.ok B.K F4) (us ++ (v :: ws)) (Γ.filterMap id ++ (k :: τ)) → ST B Γ C4 (k :: τ) σ (v :: ws) H4 := fun {C4 F4 H4} h1 h2 => by
        obtain ⟨h3, h4⟩ := All2.split h2 hus.length
        exact ⟨F4, h1, back F4 h3, h4⟩
      have sub2 : ∀ q ∈ C1, q ∈ ((p, Ct.dct ys') :: C1) := fun q hq => List.mem_cons_of_mem _ hq
      refine ht _ sub2 _ σ' _ H' st2 _ fun H3 s4 => ?_
      cases b with
      | true =>
        rw [if_pos rfl]
        obtain ⟨k0, e1, e2⟩ := bind_some (if_t g5 rfl)
        obtain ⟨y0, e3, e4⟩ := bind_some e2
        obtain ⟨acc0, e5, e6⟩ := bind_some e4
        obtain ⟨eq5, hz5⟩ := putO_some e5
        refine hkk rfl k0 e1 _ sub2 _ σ' _ H3 s4 _ fun w H4 s5 => hee rfl y0 e3 _ sub2 _ σ' _ H4 s5 _ fun w2 H5 s6 => ?_
        obtain ⟨F5, s7, hw2⟩ := s6.pop
        cases s7.temps with
        | cons hw ht7 =>
          obtain rfl := Sc.val hw
          obtain ⟨_, ⟨o, ho1, ⟨ps, rfl, ho2⟩⟩, _⟩ := s7.hf.cells _ List.mem_cons_self
          have ho2' : All2 (KvOk B.K F5) ps ys' := ho2
          refine ⟨ps, Ky.key k0, Kv.kv k0, ho1, by rw [ho2'.length]; exact hz5, acc0, ?_, ?_⟩
          · rw [t1]
            refine g3 acc0 ?_
            show (t xs[i]).bind _ = _
            rw [g4]
            show (f xs[i]).bind _ = _
            rw [e1]
            show (e xs[i]).bind _ = _
            rw [e3]
            show (putO ys' k0 y0).bind _ = _
            rw [e5]
            rfl
          · rw [eq5]
            exact fin (s7.hf.write (k := 0) (c' := .dct (dput ys' k0 y0)) rfl ⟨_, rfl, put_ok ho2' hw2⟩) ht7
      | false =>
        rw [if_neg Bool.false_ne_true]
        obtain ⟨F5, s6⟩ := s4
        refine ⟨ys', ?_, fin s6.hf s6.temps⟩
        rw [t1]
        refine g3 ys' ?_
        show (t xs[i]).bind _ = _
        rw [g4]
        rfl
    · have e0 : xs.take i = xs := List.take_of_length_le (by omega)
      rw [e0, hl] at hI
      cases hI
      exact .inl ⟨w1 (by omega), q p H hpB.1 hpB.2 ⟨F, s3⟩⟩
end
end T
set_option Elab.async false
set_option linter.all false
set_option maxRecDepth 100000
set_option maxHeartbeats 2000000
set_option autoImplicit false
namespace T
open PySem PySem.Spec PyProof.Rows L2
open PySem.W (Frag Sortable AllAlike EachIs dataLe)
/-! ### partial words, and what they give -/
instance (i j : Int) : Decidable (CMul i j) := inferInstanceAs (Decidable (_ ∨ _))
def mulO (i j : Int) : Option Int := if CMul i j then some (i * j) else none
theorem mulO_some {i j r : Int} (h : mulO i j = some r) : r = i * j ∧ CMul i j := by
  unfold mulO at h
  split at h
  · cases h; exact ⟨rfl, by assumption⟩
  · cases h
def modO (i j : Int) : Option Int := if 0 < j then some (i % j) else none
theorem modO_some {i j r : Int} (h : modO i j = some r) : r = i % j ∧ 0 < j := by
  unfold modO at h
  split at h
  · cases h; exact ⟨rfl, by assumption⟩
  · cases h
/-- ones whose lists can be sorted -/
class SrtA (α : Type) extends Dat α where
  srtA : ∀ xs : List α, Sortable (xs.map enc)
instance {α : Type} [Srt α] : SrtA α := ⟨fun xs => Sortable.others Srt.srt⟩
instance {α β : Type} [Dat α] [Dat β] : SrtA (α × β) := ⟨fun xs => Sortable.tuples fun b => ⟨_, _, rfl⟩⟩
section
variable {B : Bs} {F F' : Hp} {Γ Γ' Γ2 : List Sl} {C C' C1 C2 C3 R : Cs} {τ : List TV} {σ : St} {ws : List V} {H H' : Hp} {x y z : TV} {c d : Ct}
variable {ta tb' te td ty : TE} {ca : TA} {D : EndT} {ts tu tw tb : TS} {wi : TI} {g : TG} {t u : TT} {b b' : Bool}
variable {α β : Type} [Rp α] [Rp β]
theorem ev_appO {p : Addr} {k : Nat} {a : α} {xs ys zs : List α} (ho : Ev B ta Γ C (tv (Ptr.mk p)) C1) (ha : EvA B ca Γ C1 [tv a] C2) (hk1 : C1[k]? = some (p, .lst ys)) (hk : C2[k]? = some (p, .lst xs)) (h : appO xs a = some zs) :
    Ev B (tBM B.K "list" rAppend ta ca) Γ C (tv ()) (C2.set k (p, .lst zs)) := by
  obtain ⟨e, hz⟩ := appO_some h
  subst e
  exact ev_append ho ha hk1 hk hz
theorem ei_rngO1 {n : Int} {xs : List Int} (h : EvA B ca Γ C [tv n] C1) (hn : rngO 0 n = some xs) : EvI B (iRng1 ca) Γ C xs C1 := by
  obtain ⟨e, _, _, h1, h2⟩ := rngO_some hn
  subst e
  exact ei_rng1 h ⟨h2, h1⟩
end
end T
set_option Elab.async false
set_option linter.all false
set_option maxRecDepth 100000
set_option maxHeartbeats 2000000
set_option autoImplicit false
/-! an own error over a class of the program over ValueError, whose __init__ says super().__init__(text) and keeps what it is given -/
namespace FX
open PySem PySem.W PySem.Calls PyProof.Rows PySem.HandSPX
def xA (fld : Str) (p1 p2 : Pos) : Arguments := { posonlyargs := [], args := [{ arg := "self", annotation := none, pos := p1 }, { arg := fld, annotation := none, pos := p2 }], vararg := none, kwonlyargs := [], kw_defaults := [], kwarg := none, defaults := [] }
def xB (fld tx : Str) (a1 a2 a3 a4 a5 a6 q1 q2 q3 q4 : Pos) : List Stmt :=
  [.Expr (.Call (.Attribute (.Call (.Name "super" a1) [] [] a2) "__init__" a3) [.Constant (.str tx) 0 a4] [] a5) a6, .Assign [.Attribute (.Name "self" q1) fld q2] (.Name fld q3) q4]
def xS (fld : Str) : Scope := { kind := .function, names := [(PySem.Str.ofString "self", .local), (fld, .local), (PySem.Str.ofString "__class__", .free), (PySem.Str.ofString "super", .globalImplicit)], isGenerator := false, isCoroutine := false, more := [] }
/-- what the written part says of the class at C -/
structure Txt (P : Program) (K : Frag) (mg : Str → Option Value) (C : Addr) (cn fld tx : Str) : Prop where
  cls : ∃ nm q N bs bm sn sub ab col dd k0 k1 k2 k3 k5, K.lookup C = some (excClassObj nm q C N bs bm true sn sub ab col dd k0 k1 k2 k3 k5 "ValueError.__new__") ∧ refsVE bm = true
  gC : mg cn = some (.ref C)
  sa : findIn K (.ref C) "__setattr__" = some (some (.builtin "object.__setattr__"))
  ga : findIn K (.ref C) "__getattribute__" = some (some (.builtin "BaseException.__getattribute__"))
  gg : findIn K (.ref C) "__getattr__" = some none
  noN : findIn K (.ref C) fld = some none
  kC : keepIn K (.ref C) = true
  exC : subIn K (.ref C) (.type "BaseException") = some true
  veC : subIn K (.ref C) (.type "ValueError") = some true
  tyC : typeIn K (.ref C) = some (.type "type")
  hdC : hasDictIn K C = true
  mro : mroIn K C (.ref C) = some true
  sup : ks_superIn K C C "__init__" = some (some (.builtin "ValueError.__init__"))
  ms : mg "super" = none
  noq : nsIn K cStatics "thirdparty.any" = some none
  nsl : (fld == ("self" : Str)) = false
  nss : (fld == ("super" : Str)) = false
  nsc : (fld == ("__class__" : Str)) = false
  nsd : (fld == ("__debug__" : Str)) = false
  top : (P.main.scope.names.lookup ("super" : Str)).isSome = false
  bd : ∀ (body : List Stmt) (qual : Str) (p1 p2 : Pos) (doc pm ct cdv : Value) (an : Option Addr) (cc : Addr) (x v : Value), bindArgs (ksFn "__init__" qual (xA fld p1 p2) body (xS fld) .none .none doc pm an cdv ct cc) ⟨[x, v], []⟩ = pure [(("self" : Str), x), (fld, v)]
  fn : ∃ (fI cda cc : Addr) (oc : Value) (od : Option Addr) (doc pm : Value) (an : Option Addr) (ct : Value) (osl : Array (Option Value)) (qual : Str) (p1 p2 a1 a2 a3 a4 a5 a6 q1 q2 q3 q4 : Pos) (ccl cl : Value) (cdd cld : Option Addr) (vs : Array Value) (ccs csl : Array (Option Value)) (file : Str) (tf : Tok),
    findIn K (.ref C) "__init__" = some (some (.ref fI)) ∧ typeIn K (.ref fI) = some (.type "function") ∧
    K.lookup fI = some ⟨oc, od, .func (ksFn "__init__" qual (xA fld p1 p2) (xB fld tx a1 a2 a3 a4 a5 a6 q1 q2 q3 q4) (xS fld) .none .none doc pm an (.ref cda) ct cc), osl⟩ ∧ codeIn K (.ref cda) qual = true ∧
    K.lookup cda = some ⟨ccl, cdd, .fields vs, ccs⟩ ∧ vs[2]? = some (.str file tf) ∧ ((P.main.file : Str) == file) = true ∧ K.lookup cc = some ⟨cl, cld, .cell (some (.ref C)), csl⟩ ∧ (a3.endLine == a5.line) = true
theorem one_size (v : Value) : [v].length ≤ sizeLine := by
  rw [sizeLine_eq]
  exact (by decide : 1 ≤ 16777216)
structure InitEnd (h h' : Heap) (x C dx t1 : Addr) (fld : Str) (v : Value) : Prop where
  keep : ∀ b o, b ≠ x → h.get? b = some o → h'.get? b = some o
  obj : h'.get? x = some { cls := .ref C, dict := some dx, data := .fields #[.ref t1, .none, .none, .none, .bool false, .none] }
  dbig : h.objs.size ≤ dx
  dne : dx ≠ x
  ns : h'.Ns1 dx (fun y => if y = fld then some v else none)
structure OwnMade (h h' : Heap) (e C d : Addr) (fld : Str) (v : Value) : Prop where
  keep : ∀ b o, h.get? b = some o → h'.get? b = some o
  new : h.objs.size ≤ e
  obj : ∃ oe vs, h'.get? e = some oe ∧ oe.cls = .ref C ∧ oe.dict = some d ∧ oe.data = .fields vs ∧ vs[1]? = some .none ∧ vs[2]? = some .none
  dbig : h.objs.size ≤ d
  dne : d ≠ e
  ns : h'.Ns1 d (fun y => if y = fld then some v else none)
section
variable {P : Program} {w : World} {A : Around} {E : Value → Shared → Prop} {R : Result → Shared → Prop} {s : Shared} {K : Frag} {mg : Str → Option Value} {C : Addr} {cn fld tx : Str}
theorem init_run (T : Txt P K mg C cn fld tx) {fI x t0 : Addr} {v : Value} (hfI : findIn K (.ref C) "__init__" = some (some (.ref fI))) (X : K.In s.heap) {mb : Str → Option Value} (Gm : s.heap.Ns mainGlobals mg) (Gb : s.heap.Ns builtinsNs mb) (hbs : mb "super" = some (.type "super")) (hlim : s.heap.NoLimit) (hx : s.heap.get? x = some (excO C t0)) (hnx : K.lookup x = none) (hroom : A.depth < recursionLimit)
    (hq : ∀ h' tk dx t1, InitEnd s.heap h' x C dx t1 fld v → R (.ok (.ret .none)) { s with heap := h', toks := tk }) :
    codeAny (model P w) A (.call (.ref fI) ⟨[.ref x, v], []⟩) R s := by
  obtain ⟨fI', cda, cc, oc, od, doc, pm, an, ct, osl, qual, p1, p2, a1, a2, a3, a4, a5, a6, q1, q2, q3, q4, ccl, cl, cdd, cld, vs, ccs, csl, file, tf, e1, tI, ho, hcd, hcode, hvs, hfile, hcell, hpos⟩ := T.fn
  obtain rfl : fI = fI' := by rw [hfI] at e1; injection e1 with e1; injection e1 with e1; injection e1
  obtain ⟨nm, q, N, bs, bm, sn, sub, ab, col, dd, k0, k1, k2, k3, k5, hC, hbm⟩ := T.cls
  have hcl : clsIn K C = some { name := nm, bases := bs, mro := .ref C :: bm, ns := N, qualname := q, hasDict := true, slotNames := sn, subclasses := sub, abstract := ab, collection := col, hasDel := false } := by unfold clsIn; rw [hC] <;> rfl
  have lks : (xS fld).names.lookup ("super" : Str) = some .globalImplicit := by
    have e1 : (("super" : Str) == fld) = false := by rw [beq_eq_false_iff_ne]; intro z; have := T.nss; rw [z] at this; simp at this
    simp only [xS, List.lookup, e1]
    rfl
  have lkc : (xS fld).names.lookup ("__class__" : Str) = some .free := by
    have e1 : (("__class__" : Str) == fld) = false := by rw [beq_eq_false_iff_ne]; intro z; have := T.nsc; rw [z] at this; simp at this
    simp only [xS, List.lookup, e1]
    rfl
  have lka : (xS fld).names.lookup ("self" : Str) = some .local := rfl
  have lkf : (xS fld).names.lookup fld = some .local := by
    have e1 : (fld == PySem.Str.ofString "self") = false := T.nsl
    simp only [xS, List.lookup, e1, beq_self_eq_true]
  refine ks_codeAny_call_defAt (fd := ksFn "__init__" qual (xA fld p1 p2) (xB fld tx a1 a2 a3 a4 a5 a6 q1 q2 q3 q4) (xS fld) .none .none doc pm an (.ref cda) ct cc) (binds := [("self", .ref x), (fld, v)]) hroom (X _ _ ho) rfl hlim (codeRec_of X hcd) rfl ?bind ?cell ?loc (fun h₁ hns k => ?_)
  case bind =>
    exact BindsTo.of_eq (T.bd _ _ _ _ _ _ _ _ _ _ _ _)
  case cell => intro y hy; simp [xS] at hy; rcases hy with rfl | rfl | rfl | rfl <;> simp
  case loc =>
    intro y hy
    simp at hy
    rcases hy with rfl | rfl
    · exact lka
    · exact lkf
  have hn1 : h₁.Ns s.heap.objs.size (fun y => List.lookup y [(fld, v), ("self", .ref x)]) := hns
  have X₁ : K.In h₁ := X.keeps k
  have hx₁ := k _ _ hx
  have I₁ : InstAt h₁ x (excO C t0) C none := ⟨hx₁, rfl, rfl, trivial⟩
  have hself : (fun y => List.lookup y [(fld, v), (("self" : Str), Value.ref x)]) ("self" : Str) = some (.ref x) := by
    have e1 : (("self" : Str) == fld) = false := by rw [beq_eq_false_iff_ne]; intro z; have := T.nsl; rw [z] at this; simp at this
    simp [List.lookup, e1]
  have hv : (fun y => List.lookup y [(fld, v), (("self" : Str), Value.ref x)]) fld = some v := by simp [List.lookup]
  obtain ⟨oD, hD1, hD2⟩ : ∃ oD, h₁.get? C = some oD ∧ oD.data = .cls { name := nm, bases := bs, mro := .ref C :: bm, ns := N, qualname := q, hasDict := true, slotNames := sn, subclasses := sub, abstract := ab, collection := col, hasDel := false } := ⟨_, X₁ _ _ hC, rfl⟩
  refine ks_wpAt_execs_cons (ks_wpAt_Expr_any ?_)
  refine ks_wpAt_MethodCall (pl := (do return (← importBound (.Call (.Name "super" a1) [] [] a2) _).getD true)) ?_ (by
    rw [arm_eval_Call]
    refine bind_congr fun ov => bind_congr fun _ => ?_
    unfold methodCall methodCallPos
    rw [hpos]
    rfl)
  obtain ⟨hp, g, dr, tk, os⟩ := s
  refine ks_wpAt_super_base (f := fI) (cc := cda) lks lkc (by decide) rfl (X₁ _ _ ho) rfl rfl rfl (X₁ _ _ hcode) rfl hvs hfile T.top ?_
  refine ks_loadName_global rfl lks (loadGlobal_builtin (Gm.keeps k) T.ms (Gb.keeps k) hbs ⟨rfl, ?_⟩)
  refine wpAny_loadName_free rfl lkc (by rfl) ⟨_, X₁ _ _ hcell, rfl⟩ ?_
  refine wpAny_loadName_local rfl lka hn1 hself ?_
  refine ks_wpAny_isType_cls hD1 hD2 ⟨rfl, ?_⟩
  refine ks_wpAny_call_super hD1 hD2 I₁.at_ I₁.cls (fun c e => ?_) (looks_mroIn X₁ T.mro) (fun h₂ e2 k2 => ?_)
  · cases e
  have I₂ : InstAt h₂ x (excO C t0) C none := ⟨k2 _ _ hx₁, rfl, rfl, trivial⟩
  have X₂ : K.In h₂ := X₁.keeps k2
  have hal : alongIn K "__init__" ((({ name := nm, bases := bs, mro := .ref C :: bm, ns := N, qualname := q, hasDict := true, slotNames := sn, subclasses := sub, abstract := ab, collection := col, hasDel := false } : ClassData).mro.dropWhile (· != .ref C)).drop 1) = some (some (.builtin "ValueError.__init__")) := by
    have z := T.sup
    unfold ks_superIn at z
    rw [hcl] at z
    exact z
  refine kxs_getMethod kxs_ValueError (l₀ := .ref C :: bm) e2 (looks_opaque X₂ T.noq) (fun A Q E s k q => wpAny_bind ((looks_clsIn X₂ hcl) A _ E s k (wpAny_pure q))) rfl X₂ hal (I₂.type.andThen (looks_subIn X₂ T.veC)) (ks_ne X₂ I₂ hcl) (by decide) ?_
  have k3 : ∀ b o, h₂.get? b = some o → (h₂.push (kxs_mw "ValueError.__init__" x)).get? b = some o := fun b o e => Heap.get?_push_of_some _ e
  have hu : (h₂.push (kxs_mw "ValueError.__init__" x)).get? h₂.objs.size = some (kxs_mw "ValueError.__init__" x) := Heap.get?_push_at rfl rfl
  refine kxs_callWith (i := "ValueError.__init__") (x := x) (by rfl) ?_
  refine evalArgs_plain (Calls.spliced_cons (Calls.Constant_str (k := 0) (pos := a4) (Calls.spliced_nil ⟨hu, ?_⟩)))
  have X₃ : K.In (h₂.push (kxs_mw "ValueError.__init__" x)) := X₂.keeps k3
  have hx₃ := k3 _ _ I₂.at_
  -- the call of the bound __init__
  refine wpAny_call (codeAny_of_tree ?_)
  show wpAny _ _ (callAny (.ref h₂.objs.size) ⟨[_], []⟩) _ _ _
  simp only [callAny]
  refine wpAny_bind (wpAny_load hu ?_)
  simp only [kxs_mw, show (Value.type "method-wrapper" == Value.type "method" || Value.type "method-wrapper" == Value.type "builtin_function_or_method" || Value.type "method-wrapper" == Value.type "method-wrapper") = true by decide, if_true]
  refine KFB.if_so (by decide) ?_
  refine wpAny_bind (check_bound_init F.excBase_ValueError.toExcCallFacts (X₃ _ _ hC) hx₃ rfl ?_)
  refine wpAny_bind (wpAny_pure (wpAny_pure ?_))
  refine ⟨plainId_quiet F.excBase_ValueError.init.plain _, codeAny_builtin F.excBase_ValueError.initEntry ?_⟩
  refine exc_init_tree (cls := .ref C) (t0 := t0) (dv := none) (c2 := .none) (c3 := .none) (b4 := .bool false) hx₃ (one_size _) fun h₄ k4 e4 _ => ?_
  have hLx : hp.objs.size ≠ x := Nat.ne_of_gt (Heap.lt_size hx)
  have k14 : ∀ b o, b ≠ x → h₁.get? b = some o → h₄.get? b = some o := fun b o nb e => k4 b o nb (k3 _ _ (k2 _ _ e))
  have X₄ : K.In h₄ := fun a o e => k14 a o (fun z => by rw [z, hnx] at e; cases e) (X₁ a o e)
  have hn4 : h₄.Ns hp.objs.size (fun y => List.lookup y [(fld, v), ("self", .ref x)]) := hn1.at fun o e => k14 _ o hLx e
  have sz4 : hp.objs.size ≤ h₄.objs.size := by
    obtain ⟨oL, _, _, hL, _⟩ := hn4
    exact Nat.le_of_lt (Heap.lt_size hL)
  refine ks_wpAt_execs_cons (ks_wpAt_Assign_Attr ?_)
  refine wpAt_of_wpAny (wpAny_Name (wpAny_loadName_local rfl lkf hn4 hv ?_) T.nsd)
  refine wpAny_Name (wpAny_loadName_local rfl lka hn4 hself ?_) (by decide)
  refine set_plain X₄ (od := none) ⟨e4, rfl, rfl, trivial⟩ T.sa ?_
  refine exc_osa X₄ e4 hcl (show refsVE (.ref C :: bm) = true from hbm) rfl T.noN (fun h₅ tk₅ dx k5' dn dne hx₅ hn₅ => ?_)
  show PySem.wpAt _ _ _ (execs [] _) _ _ _
  refine wpAt_of_wpAny (wpAny_execs_nil ?_)
  exact hq h₅ tk₅ dx _ ⟨fun b o nb e => k5' b o nb (k14 b o nb (k b o e)), hx₅, Nat.le_trans sz4 dn, dne, hn₅⟩
theorem made (T : Txt P K mg C cn fld tx) {v : Value} (X : K.In s.heap) {mb : Str → Option Value} (Gm : s.heap.Ns mainGlobals mg) (Gb : s.heap.Ns builtinsNs mb) (hbs : mb "super" = some (.type "super")) (hlim : s.heap.NoLimit) (hroom : A.depth + 1 < recursionLimit)
    (hq : ∀ h' tk e d, OwnMade s.heap h' e C d fld v → R (.ok (.ret (.ref e))) { s with heap := h', toks := tk }) :
    codeAny (model P w) A (.call (.ref C) ⟨[v], []⟩) R s := by
  obtain ⟨nm, q, N, bs, bm, sn, sub, ab, col, dd, k0, k1, k2, k3, k5, hC, hbm⟩ := T.cls
  obtain ⟨fI, cda, cc, oc, od, doc, pm, an, ct, osl, qual, p1, p2, a1, a2, a3, a4, a5, a6, q1, q2, q3, q4, ccl, cl, cdd, cld, vs, ccs, csl, file, tf, iC, tI, _⟩ := T.fn
  obtain ⟨hp, g, dr, tk, os⟩ := s
  have k : ∀ b o, hp.get? b = some o → ((hp.push (kdv_tup [v])).push (excO C hp.objs.size)).get? b = some o := fun b o e => Heap.get?_push_of_some _ (Heap.get?_push_of_some _ e)
  have hget : ((hp.push (kdv_tup [v])).push (excO C hp.objs.size)).get? (hp.objs.size + 1) = some (excO C hp.objs.size) := by heap_get
  have hnx : K.lookup (hp.objs.size + 1) = none := by
    cases e : K.lookup (hp.objs.size + 1) with
    | none => rfl
    | some o =>
      have z : hp.get? (hp.objs.size + 1) = some o := X _ _ e
      exact absurd (Nat.lt_of_succ_lt (Heap.lt_size z)) (Nat.lt_irrefl _)
  refine call_own F.excBase_ValueError (fun X => refsVE_contains X bm hbm) (X _ _ hC) (looks_findIn X iC) (fun self => bind_fn X self tI) (one_size v) ?_
  refine init_run (s := ⟨(hp.push (kdv_tup [v])).push (excO C hp.objs.size), g, dr, tk, os⟩) T iC (X.keeps k) (Gm.keeps k) (Gb.keeps k) hbs (hlim.keeps k) hget hnx ?_ fun h' tk' dx t1 ⟨k', hx, dn, dne, hns⟩ => ?_
  · show A.depth + 1 < recursionLimit
    exact hroom
  · have old : ∀ b o, hp.get? b = some o → h'.get? b = some o := fun b o e => k' b o (Nat.ne_of_lt (Nat.lt_succ_of_lt (Heap.lt_size e))) (k b o e)
    have z : hp.objs.size + 1 + 1 ≤ dx := by
      first
        | (simpa only [Heap.size_push] using dn)
        | exact dn
        | (have q := dn; rw [Heap.size_push, Heap.size_push] at q; exact q)
    exact ⟨rfl, hq h' tk' (hp.objs.size + 1) dx ⟨old, Nat.le_succ _, ⟨_, _, hx, rfl, rfl, rfl, rfl, rfl⟩, Nat.le_trans (Nat.le_trans (Nat.le_succ _) (Nat.le_succ _)) z, dne, hns⟩⟩
end
end FX
set_option Elab.async false
set_option linter.all false
set_option maxRecDepth 100000
set_option maxHeartbeats 2000000
set_option autoImplicit false
namespace L2
open PySem PySem.Spec PyProof.Rows
theorem relO_one {fld : Str} {v : V} {v' : Value} (r : RelV v v') (f : Str) : RelO (List.lookup f [(fld, v)]) (if f = fld then some v' else none) := by
  by_cases hw : f = fld
  · subst hw
    rw [if_pos rfl]
    have q : List.lookup f [(f, v)] = some v := by simp [List.lookup]
    rw [q]
    exact r
  · rw [if_neg hw]
    have qw : (f == fld) = false := by simpa using hw
    have q2 : List.lookup f [(fld, v)] = none := by simp [List.lookup, qw]
    rw [q2]
    trivial
section
variable {X : Cx} {C : Addr} {cn fld tx : Str}
/-- X(e) -/
def tMkF (C : Addr) (fld : Str) (ta : TA) : St → Hp → XK → Prop := fun σ H Q => ta σ H fun vs H1 => ∃ v, vs = [v] ∧ ∀ d, H1 d = none → Q (.ref C) (some d) (upd H1 d (.xd [(fld, v)]))
theorem pmk_f {a : Expr} {ta : TA} {p pos : Pos} {k : Nat} (T : FX.Txt X.prog X.K X.mg C cn fld tx) (hr : Room k X.A) (ha : PA X [a] ta) (hg : Gl X cn) (hdb : (cn == ("__debug__" : Str)) = false := by decide)
    (he : starEach (a :: []) X.env = (false, eval a X.env) :: starEach [] X.env := by rfl) (hpl : (backTo pos (starEach [] X.env)).any (·.1) = false := by rfl) :
    L2N.PMk X (.Call (.Name cn p) [a] [] pos) (tMkF C fld ta) := by
  intro pins s σ H Q I h
  refine wpAny_Call_Name_kw (ld_glob I hg T.gC ?_ hdb)
  refine PySem.W.callWith_K (h₀ := X.base) I.ok.mod.kin T.kC (thn (ha.run pos pins s σ H _ I h) fun us s1 hh => ?_) he hpl
  obtain ⟨vs, H1, I1, r1, v, ev, q1⟩ := hh
  subst ev
  refine ⟨I1.kIn, ?_⟩
  cases r1 with
  | cons rv rn =>
    rename_i v' us'
    cases rn
    show wpAny _ _ (call (.ref C) [v']) _ _ _
    have hlim := I1.nolimit
    obtain ⟨mb, hb1, hb2⟩ := I1.mod.blt
    have Gm := I1.mod.glob.keeps I1.bk
    have Gb := hb1.keeps I1.bk
    have hbs : mb "super" = some (.type "super") := (hb2 "super" (by decide)).trans (by decide +kernel)
    obtain ⟨hp, g, dr, tk, os⟩ := s1
    refine wpAny_call (FX.made T I1.kIn Gm Gb hbs hlim (by have := hr.dp; omega) fun h' tk' e d M => ?_)
    show L2N.MkP X pins σ Q (.ref e) ⟨h', g, dr, tk', os⟩
    obtain ⟨oe, fv, hoe, hc, hd, hdat, h1, h2⟩ := M.obj
    have hns := M.ns
    obtain ⟨G', g1, g2⟩ := restrict h' fun b => decide (b ≠ e)
    have gk : ∀ b, b ≠ e → G'.get? b = h'.get? b := fun b hb => g1 b (decide_eq_true hb)
    have ge : G'.get? e = none := g2 e (by simp)
    have old : ∀ b o, hp.get? b = some o → G'.get? b = some o := fun b o q => (gk b (Nat.ne_of_lt (Nat.lt_of_lt_of_le (Heap.lt_size q) M.new))).trans (M.keep b o q)
    have ob : ObjOk X.prog X.w (upd H1 d (.xd [(fld, v)])) G' d (.xd [(fld, v)]) :=
      ⟨_, hns.at (fun o q => (gk d M.dne).trans q), fun f => relO_one rv f⟩
    have J : Inv X pins σ (upd H1 d (.xd [(fld, v)])) ⟨G', g, dr, tk', os⟩ := I1.laid (t' := tk') old M.dbig ob
    refine ⟨e, oe, fv, ⟨G', g, dr, tk', os⟩, _, .ref C, some d, rfl, J, fun b o q => ?_, ge, hoe, ⟨hc, hd, fun vs e => by rw [hdat] at e; cases e; exact h2⟩, hdat, h1, ?_, rfl, I1.bare, raises_own T.exC T.tyC, q1 d (I1.hok.fresh M.dbig)⟩
    · by_cases hb : b = e
      · have q' : G'.get? b = some o := q
        rw [hb, ge] at q'; cases q'
      · exact (gk b hb).symm.trans q
    · rw [upd_ne (Ne.symm M.dne)]
      exact I1.hok.fresh M.new
/-- raise X(e) -/
def tRaiseF (C : Addr) (fld : Str) (ta : TA) (W : WX) : TS := fun _ σ H => tMkF C fld ta σ H fun cls d H' => W cls d σ H'
theorem ps_raiseF {a : Expr} {ta : TA} {W : WX} {p pos pos2 : Pos} {k : Nat} (hc : X.calm = true) (T : FX.Txt X.prog X.K X.mg C cn fld tx) (hr : Room k X.A) (tk : L2N.Takes X W) (ha : PA X [a] ta) (hg : Gl X cn) (hdb : (cn == ("__debug__" : Str)) = false := by decide)
    (he : starEach (a :: []) X.env = (false, eval a X.env) :: starEach [] X.env := by rfl) (hpl : (backTo pos (starEach [] X.env)).any (·.1) = false := by rfl) :
    PS X (.Raise (some (.Call (.Name cn p) [a] [] pos)) none pos2) (tRaiseF C fld ta W) := L2N.ps_raise hc tk (pmk_f T hr ha hg hdb he hpl)
/-- e.fld, e the exception that the suite holds -/
def tByF (C : Addr) (fld : Str) (a : Addr) (cls : Value) (d : Option Addr) (te : TE) : TE := fun σ H Q => te σ H fun x H1 => x = .ref a ∧ cls = .ref C ∧ ∃ (dd : Addr) (v : V), d = some dd ∧ H1 dd = some (.xd [(fld, v)]) ∧ Q v H1
theorem pe_byF {a : Addr} {oe : Obj} {cls : Value} {d : Option Addr} {pn : List (Addr × Obj)} {e : Expr} {te : TE} {pos : Pos} (T : FX.Txt X.prog X.K X.mg C cn fld tx) (hz : L2N.Zn cls d oe) (hf : ∃ vs, oe.data = .fields vs) (he : PE (X.suite a ((a, oe) :: pn)) e te)
    (hb : attributeBase e fld X.env (eval e X.env) = eval e X.env := by rfl) :
    PE (X.suite a ((a, oe) :: pn)) (.Attribute e fld pos) (tByF C fld a cls d te) := by
  refine ⟨fun pins s σ H Q I h => ?_⟩
  refine attr_of hb (thn (he.run pins s σ H _ I h) fun u s1 hh => ?_)
  obtain ⟨x, H1, I1, rx, ex, ec, dd, v, ed, ea, q⟩ := hh
  subst ex
  obtain rfl : u = Value.ref a := rx
  subst ec
  subst ed
  obtain ⟨ha, _⟩ := I1.pin (a, oe) (List.mem_append_left _ List.mem_cons_self)
  obtain ⟨vs, hd⟩ := hf
  have hx : ObjOk X.prog X.w H1 s1.heap dd (.xd [(fld, v)]) := I1.hok dd _ ea
  obtain ⟨mA, hns, hr⟩ := hx
  obtain ⟨od, ho, hl⟩ := lookIn_ns hns
  have l : List.lookup fld [(fld, v)] = some v := by simp [List.lookup]
  obtain ⟨u, hu, ru⟩ := RelO.some_of (v := v) (o := mA fld) (by rw [← l]; exact hr fld)
  have J : PySem.W.InstAt s1.heap a oe C (some od) := ⟨ha, hz.1, by unfold PySem.W.notCls; rw [hd] <;> rfl, by rw [hz.2.1]; exact ho⟩
  exact HandSPX.exc_get I1.kIn J T.ga T.gg T.exC (PySem.W.findObj_own T.hdC T.noN rfl (by rw [hl, hu])) (handed_of ru) ⟨v, H1, I1.tok _, ru, q⟩
end
end L2
namespace L2
open PySem PySem.Spec PyProof.Rows
theorem takes0N {X : Cx} : L2N.Takes X (fun _ _ _ _ => False) := fun _ _ x => by
  obtain ⟨_, _, _, _, _, _, _, _, _, _, _, _, _, _, _, _, z⟩ := x
  exact z.elim
theorem passN {X : Cx} (σ : St) : PassesAt (L2N.CX X.prog X.w) X σ E0 := fun _ _ _ _ _ _ h => by
  obtain ⟨_, _, _, _, _, _, _, _, _, _, _, _, z⟩ := h
  exact z.elim
section
variable {P : Program} {w : World} {K : PySem.W.Frag} {mg : Str → Option Value} {base : Heap}
/-- a def that may raise -/
theorem Fun.okN {x qual : Str} {st : Stmt} {f : Addr} {fd : FuncData} {N ps : List Str} {k : Nat} {sp : Sp} (F : Fun K x qual st f fd) (S : FnScope N ps (defScope st)) (len : ∀ vs H Q E, sp vs H Q E → vs.length = ps.length)
    (hbody : ∀ (cdv : Value) (A : Around) (outer : List Env) (s : Shared) (H : Hp) (vs : List V) (Q : VK) (E : XK), Room k (A.deeper (envOfC qual (defScope st) s.heap.objs.size f cdv)) → sp vs H Q E →
      ∃ t, PSs (cxOf (L2N.CX P w) P w K mg base N qual (defScope st) f cdv A outer s H E) (defBody st) t ∧ t { nx := fun _ H' => Q .non H', rt := Q } (start N vs) H) : FnOk P w K mg base (L2N.CX P w) (k + 1) f fd ps sp := by
  obtain ⟨oc, od, kV, doc, pm, an, cdv, ct, osl, rfl, lk, hcd⟩ := F.ex
  exact fn_of lk hcd S len fun A outer s H vs Q E hr hsp => hbody cdv A outer s H vs Q E hr hsp
/-- a def that is called in an except suite -/
theorem Fun.okH {x qual : Str} {st : Stmt} {f : Addr} {fd : FuncData} {N ps : List Str} {k : Nat} {sp : Sp} (F : Fun K x qual st f fd) (S : FnScope N ps (defScope st)) (len : ∀ vs H Q E, sp vs H Q E → vs.length = ps.length)
    (hbody : ∀ (cdv : Value) (A : Around) (outer : List Env) (s : Shared) (H : Hp) (vs : List V) (Q : VK) (E : XK) (p : Addr × Obj), L2H.Hot1 A p → L2H.RoomH k (A.deeper (envOfC qual (defScope st) s.heap.objs.size f cdv)) → sp vs H Q E →
      ∃ t, PSs (L2H.cxH CX0 P w K mg base N qual (defScope st) f cdv A outer s H E p) (defBody st) t ∧ t { nx := fun _ H' => Q .non H', rt := Q } (start N vs) H) : L2H.FnH P w K mg base CX0 (k + 1) f fd ps sp := by
  obtain ⟨oc, od, kV, doc, pm, an, cdv, ct, osl, rfl, lk, hcd⟩ := F.ex
  exact L2H.fn_ofH lk hcd S len fun A outer s H vs Q E p hot hr hsp => hbody cdv A outer s H vs Q E p hot hr hsp
end
end L2
set_option Elab.async false
set_option linter.all false
set_option maxRecDepth 100000
set_option maxHeartbeats 2000000
set_option autoImplicit false
namespace T
open PySem PySem.Spec PyProof.Rows L2
open PySem.W (Frag)
/-! ### exceptions -/
/-- an error of the class at C that keeps x under the word fld -/
structure Er where
  C : Addr
  fld : Str
  x : TV
def erOk (K : Frag) (F : Hp) (e : Er) (cls : Value) (d : Option Addr) : Prop := cls = .ref e.C ∧ ∃ dd v, d = some dd ∧ F dd = some (.xd [(e.fld, v)]) ∧ e.x.ok K F v
theorem erOk.mono {K : Frag} {F F' : Hp} {e : Er} {cls : Value} {d : Option Addr} (s : Same F F') (h : erOk K F e cls d) : erOk K F' e cls d :=
  let ⟨h1, dd, v, h2, h3, h4⟩ := h; ⟨h1, dd, v, h2, s _ _ h3, h4.mono s⟩
section
variable {B : Bs} {F F' : Hp} {Γ Γ' Γ2 : List Sl} {C C' C1 C2 C3 R : Cs} {τ : List TV} {σ : St} {ws : List V} {H H' : Hp} {x y z : TV} {c d : Ct}
variable {ta tb' te td ty : TE} {ca : TA} {D : EndT} {ts tu tw tb : TS} {wi : TI} {g : TG} {e : Er}
/-- a statement that throws, in a def's body -/
abbrev endX : EndT := ⟨fun _ _ _ _ => False, fun _ _ => False, fun _ _ _ _ => False, fun _ _ _ _ => False⟩
abbrev WD (E : XK) : WX := fun cls d _ H => E cls d H
/-! try -/
/-- the error that a suite holds -/
structure Exn where
  a : Addr
  dd : Addr
  fld : Str
  ok : Frag → Hp → V → Prop
  mo : ∀ {K : Frag} {F F' : Hp} {v : V}, Same F F' → ok K F v → ok K F' v
instance : Rp Exn := ⟨fun K F v e => v = .ref e.a ∧ ∃ w, F e.dd = some (.xd [(e.fld, w)]) ∧ e.ok K F w, fun {_ _ _ _ e} s h => ⟨h.1, let ⟨w, h1, h2⟩ := h.2; ⟨w, s _ _ h1, e.mo s h2⟩⟩⟩
/-- the ends of a suite: its name goes behind it -/
abbrev endS (D : EndT) (i : Nat) : EndT := ⟨fun τ ws σ H => D.nx τ ws (σ.set i none) H, D.rt, fun τ ws σ H => D.bk τ ws (σ.set i none) H, fun τ ws σ H => D.ct τ ws (σ.set i none) H⟩
end
end T
set_option Elab.async false
set_option linter.all false
set_option maxRecDepth 100000
set_option maxHeartbeats 2000000
set_option autoImplicit false
namespace T
open PySem PySem.Spec PyProof.Rows L2
open PySem.W (Frag)
/-! ### things of any kind -/
inductive D where
  | non | bl (b : Bool) | int (n : Int) | str (s : Str) | lst (xs : List D) | tup (xs : List D) | dct (kvs : List (Key × D))
mutual
inductive DOk (K : Frag) (F : Hp) : V → D → Prop
  | non : DOk K F .non .non
  | bl (b : Bool) : DOk K F (.bl b) (.bl b)
  | int (n : Int) : DOk K F (.int n) (.int n)
  | str (s : Str) : DOk K F (.str s) (.str s)
  | lst {a : Addr} {vs : List V} {ds : List D} : F a = some (.lst vs) → DsOk K F vs ds → DOk K F (.ref a) (.lst ds)
  | tup {a : Addr} {vs : List V} {ds : List D} : F a = some (.tup vs) → DsOk K F vs ds → DOk K F (.ref a) (.tup ds)
  | dct {a : Addr} {kvs : List (Key × V)} {ds : List (Key × D)} : F a = some (.dK kvs) → DkOk K F kvs ds → DOk K F (.ref a) (.dct ds)
inductive DsOk (K : Frag) (F : Hp) : List V → List D → Prop
  | nil : DsOk K F [] []
  | cons {v : V} {d : D} {vs : List V} {ds : List D} : DOk K F v d → DsOk K F vs ds → DsOk K F (v :: vs) (d :: ds)
inductive DkOk (K : Frag) (F : Hp) : List (Key × V) → List (Key × D) → Prop
  | nil : DkOk K F [] []
  | cons {k : Key} {v : V} {d : D} {vs : List (Key × V)} {ds : List (Key × D)} : DOk K F v d → DkOk K F vs ds → DkOk K F ((k, v) :: vs) ((k, d) :: ds)
end
mutual
theorem DOk.mono {K : Frag} {F F' : Hp} (s : Same F F') : ∀ {v : V} (d : D), DOk K F v d → DOk K F' v d
  | _, .non, h => by cases h; exact .non
  | _, .bl b, h => by cases h; exact .bl b
  | _, .int n, h => by cases h; exact .int n
  | _, .str x, h => by cases h; exact .str x
  | _, .lst ds, h => by cases h with | lst e r => exact .lst (s _ _ e) (DsOk.mono s ds r)
  | _, .tup ds, h => by cases h with | tup e r => exact .tup (s _ _ e) (DsOk.mono s ds r)
  | _, .dct ds, h => by cases h with | dct e r => exact .dct (s _ _ e) (DkOk.mono s ds r)
theorem DsOk.mono {K : Frag} {F F' : Hp} (s : Same F F') : ∀ {vs : List V} (ds : List D), DsOk K F vs ds → DsOk K F' vs ds
  | _, [], h => by cases h; exact .nil
  | _, d :: ds, h => by cases h with | cons a r => exact .cons (DOk.mono s d a) (DsOk.mono s ds r)
theorem DkOk.mono {K : Frag} {F F' : Hp} (s : Same F F') : ∀ {vs : List (Key × V)} (ds : List (Key × D)), DkOk K F vs ds → DkOk K F' vs ds
  | _, [], h => by cases h; exact .nil
  | _, (k, d) :: ds, h => by cases h with | cons a r => exact .cons (DOk.mono s d a) (DkOk.mono s ds r)
end
instance instRpD : Rp D := ⟨fun K F v d => DOk K F v d, fun s h => h.mono s⟩
theorem DsOk.all2 {K : Frag} {F : Hp} : ∀ {vs : List V} {ds : List D}, DsOk K F vs ds → All2 (Rp.rp K F) vs ds
  | _, _, .nil => .nil
  | _, _, .cons a r => .cons a (DsOk.all2 r)
/-- ones that are such things -/
class AsD (α : Type) extends Rp α where
  toD : α → D
  okD : ∀ {K F v x}, Rp.rp K F v x → DOk K F v (toD x)
instance : AsD D := ⟨id, fun h => h⟩
instance : AsD Int := ⟨.int, fun h => by cases h; exact .int _⟩
instance : AsD Bool := ⟨.bl, fun h => by cases h; exact .bl _⟩
instance : AsD Str := ⟨.str, fun h => by cases h; exact .str _⟩
instance : AsD Unit := ⟨fun _ => .non, fun h => by cases h; exact .non⟩
theorem dsOk_map {α : Type} [AsD α] {K : Frag} {F : Hp} : ∀ {vs : List V} {xs : List α}, All2 (Rp.rp K F) vs xs → DsOk K F vs (xs.map AsD.toD)
  | _, _, .nil => .nil
  | _, _, .cons a r => .cons (AsD.okD a) (dsOk_map r)
instance {α : Type} [AsD α] : AsD (List α) := ⟨fun xs => .lst (xs.map AsD.toD), fun h => by obtain ⟨a, vs, rfl, h, r⟩ := h; exact .lst h (dsOk_map r)⟩
instance {α : Type} [AsD α] : AsD (Tp α) := ⟨fun xs => .tup (xs.l.map AsD.toD), fun h => by obtain ⟨a, vs, rfl, h, r⟩ := h; exact .tup h (dsOk_map r)⟩
instance {α β : Type} [AsD α] [AsD β] : AsD (α × β) := ⟨fun x => .tup [AsD.toD x.1, AsD.toD x.2], fun h => by obtain ⟨a, v1, v2, rfl, h, r1, r2⟩ := h; exact .tup h (.cons (AsD.okD r1) (.cons (AsD.okD r2) .nil))⟩
/-- what t is is the thing d -/
def Dyn (t : TV) (d : D) : Prop := ∀ K F v, t.ok K F v → DOk K F v d
theorem dyn_of {α : Type} [AsD α] {x : α} : Dyn (tv x) (AsD.toD x) := fun _ _ _ h => AsD.okD h
/-- .. and which object it is -/
structure Vid (α : Type) where
  v : V
  x : α
instance {α : Type} [Rp α] : Rp (Vid α) := ⟨fun K F u y => u = y.v ∧ Rp.rp K F y.v y.x, fun s h => ⟨h.1, Rp.mono s h.2⟩⟩
theorem dyn_vid {α : Type} [AsD α] {x : Vid α} : Dyn (tv x) (AsD.toD x.x) := fun _ _ _ h => by obtain ⟨rfl, h⟩ := h; exact AsD.okD h
/-- a built-in type -/
structure Ty where
  n : String
instance : Rp Ty := ⟨fun _ _ v t => v = .ty t.n, fun _ h => h⟩
def D.tn : D → String
  | .non => "NoneType" | .bl _ => "bool" | .int _ => "int" | .str _ => "str" | .lst _ => "list" | .tup _ => "tuple" | .dct _ => "dict"
theorem DOk.ty {K : Frag} {F H : Hp} {v : V} {d : D} (s : Sub F H) (h : DOk K F v d) : TyX K H v (.type d.tn) := by
  cases h with
  | non => exact .base .non
  | bl b => exact .base (.bl b)
  | int n => exact .base (.int n)
  | str x => exact .base (.str x)
  | lst e _ => exact .base (.lst (s _ _ e))
  | tup e _ => exact .base (.tup (s _ _ e))
  | dct e _ => exact .base (.dK (s _ _ e))
def D.isInt : D → Bool | .int _ => true | .bl _ => true | _ => false
def D.isBool : D → Bool | .bl _ => true | _ => false
def D.isStr : D → Bool | .str _ => true | _ => false
def D.isLst : D → Bool | .lst _ => true | _ => false
def D.isTup : D → Bool | .tup _ => true | _ => false
def D.isDct : D → Bool | .dct _ => true | _ => false
/-- n names a type that b tells of things -/
def IsK (n : String) (f : D → Bool) : Prop := ∀ d, kitB d.tn n = some (f d)
theorem isk_int : IsK "int" D.isInt := fun d => by cases d <;> (simp only [D.tn, D.isInt, D.isBool, D.isStr, D.isLst, D.isTup, D.isDct]; decide +kernel)
theorem isk_bool : IsK "bool" D.isBool := fun d => by cases d <;> (simp only [D.tn, D.isInt, D.isBool, D.isStr, D.isLst, D.isTup, D.isDct]; decide +kernel)
theorem isk_str : IsK "str" D.isStr := fun d => by cases d <;> (simp only [D.tn, D.isInt, D.isBool, D.isStr, D.isLst, D.isTup, D.isDct]; decide +kernel)
theorem isk_lst : IsK "list" D.isLst := fun d => by cases d <;> (simp only [D.tn, D.isInt, D.isBool, D.isStr, D.isLst, D.isTup, D.isDct]; decide +kernel)
theorem isk_tup : IsK "tuple" D.isTup := fun d => by cases d <;> (simp only [D.tn, D.isInt, D.isBool, D.isStr, D.isLst, D.isTup, D.isDct]; decide +kernel)
theorem isk_dct : IsK "dict" D.isDct := fun d => by cases d <;> (simp only [D.tn, D.isInt, D.isBool, D.isStr, D.isLst, D.isTup, D.isDct]; decide +kernel)
/-- several -/
inductive IsKs : List Ty → (D → Bool) → Prop
  | nil : IsKs [] (fun _ => false)
  | cons {n : String} {ns : List Ty} {f g : D → Bool} : IsK n f → IsKs ns g → IsKs (⟨n⟩ :: ns) (fun d => f d || g d)
theorem IsKs.kit {K : Frag} {d : D} : ∀ {ns : List Ty} {f : D → Bool}, IsKs ns f → PySem.W.kitAny K (.type d.tn) (ns.map fun t => Value.type t.n) = some (f d)
  | _, _, .nil => kitAny_nil
  | _, _, .cons (f := f) (g := g) h r => kitAny_cons (b := f d) (kit_ty (h d)) (fun e => by show _ = some (f d || g d); rw [e]; exact r.kit) (fun e => by show (f d || g d) = true; rw [e]; rfl)
section
variable {B : Bs} {F F' : Hp} {Γ Γ' Γ2 : List Sl} {C C' C1 C2 C3 R : Cs} {τ : List TV} {σ : St} {ws : List V} {H H' : Hp} {x y z : TV} {c : Ct} {d : D}
variable {ta tb' te td ty : TE} {ca : TA} {D' : EndT} {ts tu tw tb : TS} {wi : TI} {g : TG} {e : Er}
theorem ev_ty {n : String} : Ev B (tC (.ty n)) Γ C (tv (Ty.mk n)) C := fun τ σ ws H ⟨F, st⟩ Q q => q _ H (ST.push st rfl)
theorem cs_isi {n : String} {f : D → Bool} (hd : Dyn x d) (h : IsK n f) : CbS B C (rIsi B.K) [x, tv (Ty.mk n)] (tv (f d)) := fun F H vs hf hv Q q => by
  cases hv with
  | cons h1 h2 => cases h2 with
    | cons h2 h3 =>
      cases h3
      obtain rfl := h2
      exact ⟨_, _, _, _, _, rfl, .ty n, (hd _ _ _ h1).ty hf.sub, kit_ty (h d), q _ rfl⟩
theorem cs_isiT {ns : List Ty} {f : D → Bool} (hd : Dyn x d) (h : IsKs ns f) : CbS B C (rIsiT B.K) [x, tv (Tp.mk ns)] (tv (f d)) := fun F H vs hf hv Q q => by
  cases hv with
  | cons h1 h2 => cases h2 with
    | cons h2 h3 =>
      cases h3
      obtain ⟨a, vs, rfl, e, r⟩ := h2
      refine ⟨_, _, vs, _, ns.map fun t => Value.type t.n, _, rfl, hf.sub _ _ e, ?_, (hd _ _ _ h1).ty hf.sub, h.kit, q _ rfl⟩
      clear e h q
      have r' : All2 (Rp.rp B.K F) vs ns := r
      clear r
      induction r' with
      | nil => exact .nil
      | cons h _ ih => obtain rfl := h; exact .cons (.ty _) ih
/-! parts of things -/
def D.int? : D → Option Int | .int n => some n | _ => none
def D.str? : D → Option Str | .str n => some n | _ => none
def D.lst? : D → Option (List D) | .lst n => some n | _ => none
def D.tup? : D → Option (List D) | .tup n => some n | _ => none
theorem ev_int? {n : Int} (hd : Dyn x d) (e : d.int? = some n) (h : Ev B te Γ C x C1) : Ev B te Γ C (tv n) C1 := fun τ σ ws H st Q q =>
  h τ σ ws H st Q fun v H' s => by
    obtain ⟨F, s2, hv⟩ := s.pop
    have := hd _ _ _ hv
    cases this <;> cases e
    exact q _ H' (ST.push s2 rfl)
theorem ev_str? {n : Str} (hd : Dyn x d) (e : d.str? = some n) (h : Ev B te Γ C x C1) : Ev B te Γ C (tv n) C1 := fun τ σ ws H st Q q =>
  h τ σ ws H st Q fun v H' s => by
    obtain ⟨F, s2, hv⟩ := s.pop
    have := hd _ _ _ hv
    cases this <;> cases e
    exact q _ H' (ST.push s2 rfl)
theorem ev_lst? {n : List D} (hd : Dyn x d) (e : d.lst? = some n) (h : Ev B te Γ C x C1) : Ev B te Γ C (tv n) C1 := fun τ σ ws H st Q q =>
  h τ σ ws H st Q fun v H' s => by
    obtain ⟨F, s2, hv⟩ := s.pop
    have := hd _ _ _ hv
    cases this <;> cases e
    rename_i a vs e r
    exact q _ H' (ST.push s2 ⟨_, _, rfl, e, r.all2⟩)
theorem ev_tup? {n : List D} (hd : Dyn x d) (e : d.tup? = some n) (h : Ev B te Γ C x C1) : Ev B te Γ C (tv (Tp.mk n)) C1 := fun τ σ ws H st Q q =>
  h τ σ ws H st Q fun v H' s => by
    obtain ⟨F, s2, hv⟩ := s.pop
    have := hd _ _ _ hv
    cases this <;> cases e
    rename_i a vs e r
    exact q _ H' (ST.push s2 ⟨_, _, rfl, e, r.all2⟩)
/-- a name's value gets its object told -/
theorem ss_vid {α : Type} [Rp α] {a : α} {i : Nat} (hi : Γ[i]? = some (some (tv a))) (h : ∀ v, Ss B tu (Γ.set i (some (tv (Vid.mk v a)))) C D') : Ss B tu Γ C D' := fun τ σ ws H ⟨F, st⟩ E im => by
  obtain ⟨s1, h1, h2⟩ := st.slots.get hi
  obtain ⟨v, rfl, h4⟩ := h2 _ rfl
  refine h v τ σ ws H ⟨F, st.hf, ?_, st.temps⟩ E im
  have := st.slots.set (a := some v) (b := some (tv (Vid.mk v a))) (fun t e => by cases e; exact ⟨v, rfl, rfl, h4⟩) i
  have e : σ.set i (some v) = σ := by
    apply List.ext_getElem?
    intro j
    by_cases hj : i = j
    · subst hj
      have hl := (List.getElem?_eq_some_iff.mp h1).1
      rw [List.getElem?_set_self hl, h1]
    · rw [List.getElem?_set_ne hj]
  rw [e] at this
  exact this
/-! a call that only reads: cells are handed on as values -/
/-- x as the callee sees it -/
inductive Vw (C : Cs) : TV → TV → Prop
  | val {x : TV} : Vw C x x
  | lst {α : Type} [Rp α] {p : Addr} {xs : List α} : (p, Ct.lst xs) ∈ C → Vw C (tv (Ptr.mk p)) (tv xs)
  | lstD {α : Type} [AsD α] {xs : List α} : Vw C (tv xs) (tv (xs.map AsD.toD))
/-- F with all cells as they stand -/
def lockAll (C : Cs) (F H : Hp) : Hp := fun a => if a ∈ C.map (·.1) then H a else F a
theorem HF.same (h : HF B F C H) : Same F (lockAll C F H) := fun a o e => by
  unfold lockAll
  split
  · rename_i hm
    obtain ⟨p, hp, rfl⟩ := List.mem_map.mp hm
    rw [(h.cells p hp).1] at e; cases e
  · exact e
theorem HF.subAll (h : HF B F C H) : Sub (lockAll C F H) H := fun a o e => by
  unfold lockAll at e
  split at e
  · exact e
  · exact h.sub _ _ e
theorem HF.cellAt (h : HF B F C H) {p : Addr} {c : Ct} (hp : (p, c) ∈ C) : ∃ o, lockAll C F H p = some o ∧ c.ho B.K (lockAll C F H) o := by
  obtain ⟨_, ⟨o, h2, h3⟩, _⟩ := h.cells _ hp
  refine ⟨o, ?_, h3.mono h.same⟩
  unfold lockAll
  rw [if_pos (List.mem_map.mpr ⟨_, hp, rfl⟩)]
  exact h2
theorem Vw.ok (h : HF B F C H) {x y : TV} (w : Vw C x y) {v : V} (hv : x.ok B.K F v) : y.ok B.K (lockAll C F H) v := by
  cases w with
  | val => exact hv.mono h.same
  | lst hp =>
    obtain rfl : v = .ref _ := hv
    obtain ⟨o, h1, vs, rfl, h2⟩ := h.cellAt hp
    exact ⟨_, vs, rfl, h1, h2⟩
  | lstD =>
    obtain ⟨a, vs, rfl, h1, h2⟩ := hv
    exact ⟨a, vs, rfl, h.same _ _ h1, (dsOk_map h2).all2.mono fun _ _ q => Rp.mono h.same q⟩
theorem HF.readEntry (h : HF B F C H) {xs ys : List TV} {vs : List V} (hv : All2 (TV.ok B.K F) vs xs) (w : All2 (Vw C) xs ys) : Entry B.K (lockAll C F H) ys [] vs H := by
  refine ⟨?_, ?_⟩
  · induction hv generalizing ys with
    | nil => cases w; exact .nil
    | cons a r ih => cases w with | cons b w => exact .cons (b.ok h a) (ih w)
  · refine { sub := h.subAll, base := Same.refl _, new := fun a o e n => ?_, old := fun _ _ e _ => e, cells := fun _ z => (nomatch z), nd := .nil, pal := fun _ z => (nomatch z), pb := fun _ z => (nomatch z) }
    have n' : lockAll C F H a = none := n
    rw [n'] at e
    cases e
theorem HF.readBack (h : HF B F C H) {F' : Hp} (h' : HF (Bs.at B.K H (lockAll C F H) []) F' [] H') : HF B F C H' := by
  have old : ∀ a o, H a = some o → H' a = some o := fun a o e => h'.old a o e (fun z => nomatch z)
  refine ⟨fun a o e => old _ _ (h.sub a o e), h.base, h.new, fun a o e ha => old _ _ (h.old a o e ha), fun p hp => ?_, h.nd, fun a ha z => ?_, h.pb⟩
  · obtain ⟨h1, ⟨o, h2, h3⟩, h4⟩ := h.cells p hp
    exact ⟨h1, ⟨o, old _ _ h2, h3⟩, h4⟩
  · cases q : H a with
    | none => exact h.pal a ha q
    | some o =>
      rw [old _ _ q] at z; cases z
/-- values that need no heap -/
class Fl (α : Type) extends Rp α where
  fl : ∀ {K : Frag} {F : Hp} {K' : Frag} {F' : Hp} {v : V} {x : α}, Rp.rp K F v x → Rp.rp K' F' v x
instance : Fl Bool := ⟨fun h => h⟩
instance : Fl Int := ⟨fun h => h⟩
instance : Fl Str := ⟨fun h => h⟩
instance : Fl Unit := ⟨fun h => h⟩
theorem ev_callR {S : SpecV} {α : Type} [Fl α] {a : α} {xs ys : List TV} {E : XK} (ha : EvA B ca Γ C xs C1) (hw : All2 (Vw C1) xs ys) (hS : S ys [] (tv a) []) : Ev B (tCall (SpV S B.K) [] E ca) Γ C (tv a) C1 := fun τ σ ws H st Q q =>
  ha τ σ ws H st _ fun vs H1 s1 hl => by
    obtain ⟨F, s2, hv⟩ := EvA.out s1 hl
    show SpV S B.K (vs ++ []) H1 Q E
    rw [List.append_nil]
    refine ⟨lockAll C1 F H1, ys, [], tv a, [], hS, rfl, s2.hf.readEntry hv hw, fun v H' ⟨F', h1, h2⟩ => ?_⟩
    exact q v H' (ST.push ⟨s2.hf.readBack h1, s2.slots, s2.temps⟩ (Fl.fl h2))
end
/-! either reading -/
def tOrE (t u : TE) : TE := fun σ H Q => t σ H Q ∨ u σ H Q
def tOrI (t u : TI) : TI := fun σ H R => t σ H R ∨ u σ H R
end T
namespace L2
open PySem PySem.Spec PyProof.Rows
theorem pe_alt {X : Cx} {e : Expr} {t u : TE} (h1 : PE X e t) (h2 : PE X e u) : PE X e (T.tOrE t u) := ⟨fun pins s σ H Q I h => h.elim (h1.run pins s σ H Q I) (h2.run pins s σ H Q I)⟩
end L2
set_option Elab.async false
set_option linter.all false
set_option maxRecDepth 100000
set_option maxHeartbeats 2000000
set_option autoImplicit false
namespace L2
open PySem PySem.Spec PyProof.Rows
open PySem.W (Frag alike alikeAll dataLe dataLt AllAlike EachIs KeyPure)
/-! sorted(xs, key=sum) -/
end L2
namespace T
open PySem PySem.Spec PyProof.Rows L2
open PySem.W (Frag alike alikeAll dataLe dataLt AllAlike)
end T
set_option Elab.async false
set_option linter.all false
set_option maxRecDepth 100000
set_option maxHeartbeats 2000000
set_option autoImplicit false
/-! sorted(xs, key=f) where the keys may hold lists (the library's KE.SortKeyHeap, its lemmas turned to such keys) -/
namespace PySem.W
open PySem PySem.Calls PyProof.Rows
end PySem.W
namespace LamX
open PySem PySem.Spec PyProof.Rows L2
open PySem.W (Frag alike alikeAll dataLe dataLt AllAlike EachIs KeyPure)
/-! lambda one: (sum(one), one), called -/
def lamA (vn : Str) (p1 : Pos) : Arguments := { posonlyargs := [], args := [{ arg := vn, annotation := none, pos := p1 }], vararg := none, kwonlyargs := [], kw_defaults := [], kwarg := none, defaults := [] }
end LamX
namespace LamX
open PySem PySem.Spec PyProof.Rows L2
open PySem.W (Frag alike alikeAll dataLe dataLt AllAlike EachIs)
/-- the table at P, its code objects told by H -/
def TabAt (H : Hp) (P : Addr) (q : Str) (ps : Array Value) : Prop := H P = some (.tbl ps) ∧ TriplesOk ps.toList ∧ ∀ (pos : Pos) (cv : Value), codeAmong pos ps.toList = some cv → ∃ c, cv = .ref c ∧ H c = some (CodeO c q)
end LamX
set_option Elab.async false
set_option linter.all false
set_option maxRecDepth 100000
set_option maxHeartbeats 2000000
set_option autoImplicit false
namespace T
open PySem PySem.Spec PyProof.Rows L2 LamX
open PySem.W (Frag alike alikeAll dataLe dataLt AllAlike)
end T
set_option Elab.async false
set_option linter.all false
set_option maxRecDepth 100000
set_option maxHeartbeats 2000000
set_option autoImplicit false
namespace L2
open PySem PySem.Spec PyProof.Rows
/-- f(k = v, ..), all by name, in the parameters' order -/
def KwB (K : PySem.W.Frag) (fd : FuncData) (ps : List Str) : Prop := ∀ (s : Shared) (us : List Value), K.In s.heap → us.length = ps.length → BindsTo s fd ⟨[], ps.zip us⟩ (ps.zip us)
section
variable {X : Cx} {CX : CXT} {k n : Nat} {f C : Addr} {fd : FuncData} {ps ks : List Str} {sp : Sp} {E : St → XK} {x : Str} {p pos : Pos} {e : Expr} {es : List Expr} {kws : List Keyword} {t tk : TA}
theorem pe_callKw (F : FnOk X.prog X.w X.K X.mg X.base CX k f fd ps sp) (hr : Room k X.A) (hg : Gl X x) (hm : X.mg x = some (.ref f)) (hk : PySem.W.keepIn X.K (.ref f) = true) (hb : KwB X.K fd ps) (hx : ∀ σ, PassesAt CX X σ (E σ)) (hkw : PK X kws tk)
    (hall : (backToKw pos (keywordEach kws X.env)).all (·.1.isSome) = true := by rfl) (hks : (backToKw pos (keywordEach kws X.env)).filterMap (·.1) = ps := by rfl) (hdb : (x == ("__debug__" : Str)) = false := by decide)
    (hpl : ((backTo pos (starEach [] X.env)).any (·.1) || (backToKw pos (keywordEach kws X.env)).any (·.1.isNone)) = false := by rfl) :
    PE X (.Call (.Name x p) [] kws pos) (tCallS sp E tk) := by
  refine ⟨fun pins s σ H Q I h => ?_⟩
  refine wpAny_Call_Name_kw (ld_glob I hg hm ?_ hdb)
  refine PySem.W.callWith_KW0 (h₀ := X.base) I.ok.mod.kin hk hall ?_ hpl
  refine thn (hkw.run pos pins s σ H _ I h) fun ws s2 ⟨zs, H2, I2, rz, q2⟩ => ⟨I2.kIn, ?_⟩
  rw [hks]
  have hl : ws.length = ps.length := by rw [← rz.length]; exact F.len _ _ _ _ q2
  refine wpAny_call (codeAny_mono (F.run X.A X.stack s2 H2 ⟨[], ps.zip ws⟩ ws zs Q (E σ) hr I2.env0 (hb s2 ws I2.kIn hl) rz q2) fun r s' hq => ?_)
  cases r with
  | error e => exact hx σ pins H2 s2 e s' I2 hq
  | ok fl =>
    cases fl with
    | ret u => exact I2.after hq
    | next => exact False.elim hq
    | brk => exact False.elim hq
    | cont => exact False.elim hq
end
/-- a def's code object -/
def codeAt (K : PySem.W.Frag) (f : Addr) : Option Value := match K.lookup f with | some ⟨_, _, .func fd, _⟩ => some fd.code | _ => none
theorem Fun.okC {P : Program} {w : World} {K : PySem.W.Frag} {mg : Str → Option Value} {base : Heap} {x qual : Str} {st : Stmt} {f : Addr} {fd : FuncData} {N ps : List Str} {k : Nat} {sp : Sp} (F : Fun K x qual st f fd) (S : FnScope N ps (defScope st)) (len : ∀ vs H Q E, sp vs H Q E → vs.length = ps.length)
    (hbody : ∀ (cdv : Value) (A : Around) (outer : List Env) (s : Shared) (H : Hp) (vs : List V) (Q : VK) (E : XK), codeAt K f = some cdv → Room k (A.deeper (envOfC qual (defScope st) s.heap.objs.size f cdv)) → sp vs H Q E →
      ∃ t, PSs (cxOf CX0 P w K mg base N qual (defScope st) f cdv A outer s H E).nox (defBody st) t ∧ t { nx := fun _ H' => Q .non H', rt := Q } (start N vs) H) : FnOk P w K mg base CX0 (k + 1) f fd ps sp := by
  obtain ⟨oc, od, kV, doc, pm, an, cdv, ct, osl, rfl, lk, hcd⟩ := F.ex
  refine fn_of lk hcd S len fun A outer s H vs Q E hr hsp => ?_
  obtain ⟨t, h, q⟩ := hbody cdv A outer s H vs Q E (by unfold codeAt; rw [lk]) hr hsp
  exact ⟨t, h.nox, q⟩
end L2
namespace T
open PySem PySem.Spec PyProof.Rows L2
open PySem.W (Frag)
/-! ### more partial words -/
instance (i j : Int) : Decidable (CDiv i j) := inferInstanceAs (Decidable (_ ∧ _))
instance (i j : Int) : Decidable (CPow i j) := inferInstanceAs (Decidable (_ ∧ _ ∧ _))
def powO (i j : Int) : Option Int := if CPow i j then some (i ^ j.toNat) else none
theorem powO_some {i j r : Int} (h : powO i j = some r) : r = i ^ j.toNat ∧ CPow i j := by
  unfold powO at h
  split at h
  · cases h; exact ⟨rfl, by assumption⟩
  · cases h
def strO (i : Int) : Option Str := if i.natAbs.log2 < 1920 then some (toString i) else none
theorem strO_some {i : Int} {r : Str} (h : strO i = some r) : r = toString i ∧ i.natAbs.log2 < 1920 := by
  unfold strO at h
  split at h
  · cases h; exact ⟨rfl, by assumption⟩
  · cases h
def catS (a b : Str) : Option Str := if a.length + b.length ≤ sizeLine then some (a ++ b) else none
theorem catS_some {a b r : Str} (h : catS a b = some r) : r = a ++ b ∧ a.length + b.length ≤ sizeLine := by
  unfold catS at h
  split at h
  · cases h; exact ⟨rfl, by assumption⟩
  · cases h
/-- data whose == is = -/
class DatE (α : Type) extends Dat α where
  lay : ∀ x, (enc x).canLay0 = true
  eqv : ∀ x y, PyData.eqv (enc x) (enc y) = true ↔ x = y
theorem canLay_map {α : Type} [DatE α] : ∀ xs : List α, PyData.canLayAll0 (xs.map Dat.enc) = true
  | [] => by simp [PyData.canLayAll0]
  | x :: xs => by simp [PyData.canLayAll0, DatE.lay, canLay_map xs]
theorem eqvAll_map {α : Type} [DatE α] : ∀ xs ys : List α, PyData.eqvAll (xs.map Dat.enc) (ys.map Dat.enc) = true ↔ xs = ys
  | [], [] => by simp [PyData.eqvAll]
  | [], y :: ys => by simp [PyData.eqvAll]
  | x :: xs, [] => by simp [PyData.eqvAll]
  | x :: xs, y :: ys => by simp [PyData.eqvAll, DatE.eqv, eqvAll_map xs ys]
instance : DatE Int := ⟨fun x => by simp [Dat.enc, PyData.canLay0], fun x y => by simp [Dat.enc, PyData.eqv]⟩
instance {α : Type} [DatE α] : DatE (List α) := ⟨fun x => by simp [Dat.enc, PyData.canLay0, canLay_map], fun x y => by simp [Dat.enc, PyData.eqv, eqvAll_map]⟩
instance {α : Type} [DatE α] : DatE (Tp α) := ⟨fun x => by simp [Dat.enc, PyData.canLay0, canLay_map], fun x y => by cases x; cases y; simp [Dat.enc, PyData.eqv, eqvAll_map]⟩
section
variable {B : Bs} {F F' : Hp} {Γ Γ' Γ2 : List Sl} {C C' C1 C2 C3 R : Cs} {τ : List TV} {σ : St} {ws : List V} {H H' : Hp} {x y z : TV} {c d : Ct}
variable {ta tb' te td ty : TE} {ca : TA} {D' : EndT} {ts tu tw tb : TS} {wi : TI} {g : TG} {t u : TT} {b b' : Bool}
variable {α β κ : Type} [Rp α] [Rp β]
theorem os_pow {i j : Int} (h : CPow i j) : OpS B C (rI CPow fun i j => .int (i ^ j.toNat)) (tv i) (tv j) (tv (i ^ j.toNat)) := os_I h fun _ _ => rfl
theorem os_addS {i j : Str} (h : i.length + j.length ≤ sizeLine) : OpS B C (fun x y H Q => ∃ i j, x = .str i ∧ y = .str j ∧ i.length + j.length ≤ sizeLine ∧ Q (.str (i ++ j)) H) (tv i) (tv j) (tv (i ++ j)) := fun F H v w hf hv hw Q q => by
  obtain rfl := hv
  obtain rfl := hw
  exact ⟨i, j, rfl, rfl, h, q _ rfl⟩
theorem cs_int {i : Int} : CbS B C (fun xs H Q => (∃ i, xs = [V.int i] ∧ Q (.int i) H) ∨ ∃ k, xs = [V.bl k] ∧ Q (.int (if k then 1 else 0)) H) [tv i] (tv i) := fun F H vs hf hv Q q => by
  cases hv with
  | cons h1 h2 =>
    cases h2
    obtain rfl := h1
    exact .inl ⟨i, rfl, q _ rfl⟩
theorem cs_strI {i : Int} (h : i.natAbs.log2 < 1920) : CbS B C (fun xs H Q => ∃ i, xs = [V.int i] ∧ i.natAbs.log2 < 1920 ∧ Q (.str (toString i)) H) [tv i] (tv (toString i : Str)) := fun F H vs hf hv Q q => by
  cases hv with
  | cons h1 h2 =>
    cases h2
    obtain rfl := h1
    exact ⟨i, rfl, h, q _ rfl⟩
/-- xs[i] = v, xs a cell -/
def setO (xs : List α) (i : Int) (v : α) : Option (List α) := (ixN xs.length i).bind fun j => some (xs.set j v)
theorem All2.listSet {α β : Type _} {R : α → β → Prop} : ∀ {as : List α} {bs : List β}, All2 R as bs → ∀ {a : α} {b : β}, R a b → ∀ i, All2 R (as.set i a) (bs.set i b)
  | _, _, .nil, _, _, _, _ => .nil
  | _, _, .cons _ t, _, _, r, 0 => .cons r t
  | _, _, .cons h t, _, _, r, i + 1 => .cons h (All2.listSet t r i)
theorem ss_iset {p : Addr} {k : Nat} {i : Int} {a : α} {xs xs' : List α} (hv : Ev B te Γ C (tv a) C1) (ho : Ev B ta Γ C1 (tv (Ptr.mk p)) C2) (hi : Ev B tb' Γ C2 (tv i) C3) (hk : C3[k]? = some (p, .lst xs)) (hs : setO xs i a = some xs')
    (n : Ss B tu Γ (C3.set k (p, .lst xs')) D') : Ss B (tSeq (tAsg te (gSub ta tb' rSetL)) tu) Γ C D' := fun τ σ ws H st E im =>
  hv τ σ ws H st _ fun v H1 s1 => ho _ σ _ H1 s1 _ fun u H2 s2 => hi _ σ _ H2 s2 _ fun w H3 s3 => by
    obtain ⟨F, s4, hw⟩ := s3.pop
    cases s4.temps with
    | cons hu ht => cases ht with
      | cons hv2 ht2 =>
        obtain rfl : u = .ref p := hu
        obtain rfl : w = .int i := hw
        obtain ⟨_, ⟨o, h2, vs, rfl, h3⟩, _⟩ := s4.hf.cells _ (List.mem_of_getElem? hk)
        obtain ⟨j, hj, e⟩ := bind_some hs
        cases e
        have h3' : All2 (Rp.rp B.K F) vs xs := h3
        refine ⟨p, vs, i, j, rfl, rfl, h2, by rw [h3'.length]; exact hj, ?_⟩
        exact n τ σ ws _ ⟨F, s4.hf.write (c' := .lst (xs.set j a)) hk ⟨_, rfl, All2.listSet h3' hv2 j⟩, s4.slots, ht2⟩ E im
/-- for k in d, d of tuple keys -/
structure PinT (κ α : Type) where
  a : Addr
  o : Obj
  ps : List (List Key × V)
  l : List (Tp κ × α)
instance {κ α : Type} [Ky κ] [Rp α] : Rp (PinT κ α) := ⟨fun K F v x => v = .ref x.a ∧ F x.a = some (.frz x.o (.dT x.ps)) ∧ All2 (KtOk K F) x.ps x.l, fun s h => ⟨h.1, s _ _ h.2.1, h.2.2.mono fun _ _ q => q.mono s⟩⟩
end
end T
set_option Elab.async false
set_option linter.all false
set_option maxRecDepth 100000
set_option maxHeartbeats 2000000
set_option autoImplicit false
namespace L2
open PySem PySem.Spec PyProof.Rows
theorem ifT {c : Bool} {A B : Prop} (hc : c = true) (h : A) : if c = true then A else B := by rw [if_pos hc]; exact h
/-! what is never reached -/
def tNoS : TS := fun _ _ _ => False
theorem ps_no {X : Cx} {st : Stmt} : PS X st tNoS := ⟨fun _ _ _ _ _ _ h => h.elim⟩
theorem pss_no {X : Cx} {ss : List Stmt} : PSs X ss tNoS := ⟨fun _ _ _ _ _ _ h => h.elim⟩
end L2
namespace T
open PySem PySem.Spec PyProof.Rows L2 RZ
open PySem.W (Frag)
/-! things without dicts, how deep -/
mutual
def D.dp : D → Nat
  | .lst ds => D.dpAll ds + 1
  | .tup ds => D.dpAll ds + 1
  | _ => 0
def D.dpAll : List D → Nat
  | [] => 0
  | d :: ds => max d.dp (D.dpAll ds)
end
mutual
def D.nod : D → Bool
  | .lst ds => decide (ds.length ≤ 1000000) && D.nodAll ds
  | .tup ds => decide (ds.length ≤ 1000000) && D.nodAll ds
  | .dct _ => false
  | _ => true
def D.nodAll : List D → Bool
  | [] => true
  | d :: ds => d.nod && D.nodAll ds
end
theorem D.dp_mem {d : D} : ∀ {ds : List D}, d ∈ ds → d.dp ≤ D.dpAll ds
  | e :: ds, h => by
    rw [D.dpAll]
    rcases List.mem_cons.mp h with rfl | h
    · exact Nat.le_max_left _ _
    · exact Nat.le_trans (D.dp_mem h) (Nat.le_max_right _ _)
theorem D.nod_mem {d : D} : ∀ {ds : List D}, d ∈ ds → D.nodAll ds = true → d.nod = true
  | e :: ds, h, hn => by
    rw [D.nodAll, Bool.and_eq_true] at hn
    rcases List.mem_cons.mp h with rfl | h
    · exact hn.1
    · exact D.nod_mem h hn.2
/-- the parts of a list or tuple -/
def D.items : D → List D
  | .lst ds => ds
  | .tup ds => ds
  | _ => []
def D.isSeq : D → Bool | .lst _ => true | .tup _ => true | _ => false
theorem D.items_nod {d : D} (h : d.nod = true) : D.nodAll d.items = true ∧ d.items.length ≤ 1000000 := by
  cases d <;> simp [D.nod, D.items, D.nodAll] at h ⊢
  · exact ⟨h.2, h.1⟩
  · exact ⟨h.2, h.1⟩
theorem D.items_dp {d x : D} (h : x ∈ d.items) : x.dp < d.dp := by
  cases d <;> simp [D.items] at h
  · have := D.dp_mem h; rw [D.dp]; omega
  · have := D.dp_mem h; rw [D.dp]; omega
theorem lcL_all {α β : Type} {c : β} : ∀ (xs : List α), lcO (fun _ => some true) (fun _ => some c) xs = some (xs.map fun _ => c)
  | [] => rfl
  | x :: xs => by
    simp only [lcO, lcL_all xs]
    rfl
theorem lcL_const {α β : Type} {c : β} {xs : List α} (h : xs.length ≤ 1000000) : lcL (fun _ => some true) (fun _ => some c) xs = some (xs.map fun _ => c) := by
  unfold lcL
  rw [lcL_all]
  unfold lim
  show (if _ then _ else _) = _
  rw [if_pos (by rw [List.length_map, sizeLine_eq]; omega)]
theorem zip_self {α : Type} {p : α × α} : ∀ {l : List α}, p ∈ l.zip l → p.1 = p.2 ∧ p.1 ∈ l
  | x :: l, h => by
    rw [List.zip_cons_cons] at h
    rcases List.mem_cons.mp h with rfl | h
    · exact ⟨rfl, List.mem_cons_self⟩
    · exact ⟨(zip_self h).1, List.mem_cons_of_mem _ (zip_self h).2⟩
section
variable {B : Bs} {F F' : Hp} {Γ Γ' Γ2 : List Sl} {C C' C1 C2 C3 R : Cs} {τ : List TV} {σ : St} {ws : List V} {H H' : Hp} {x y z : TV} {c : Ct} {d : D}
variable {ta tb' te td ty : TE} {ca : TA} {D' : EndT} {ts tu tw tb : TS} {wi : TI} {g : TG} {t u : TT}
theorem cs_lenD2 (hd : Dyn x d) (hs : d.isSeq = true) : CbS B C (rLen B.K) [x] (tv (d.items.length : Int)) := fun F H vs hf hv Q q => by
  cases hv with
  | cons h1 h2 =>
    cases h2
    have := hd _ _ _ h1
    cases this <;> try cases hs
    · rename_i a vs ds e r
      exact ⟨a, vs, rfl, .inl (.inl (.inl (hf.sub _ _ e))), q _ (by have := r.all2.length; show V.int _ = V.int _; rw [this]; rfl)⟩
    · rename_i a vs ds e r
      exact ⟨a, vs, rfl, .inr (.inl (.inl (hf.sub _ _ e))), q _ (by have := r.all2.length; show V.int _ = V.int _; rw [this]; rfl)⟩
/-- two lists, two tuples, walked side by side -/
structure PinY where
  a : Addr
  b : Addr
  vs : List V
  ws : List V
  l : List D
  m : List D
  tp : Bool
instance : Rp PinY := ⟨fun K F v x => v = .ref x.a ∧ F x.a = some (if x.tp then .tup x.vs else .lst x.vs) ∧ DsOk K F x.vs x.l ∧ F x.b = some (if x.tp then .tup x.ws else .lst x.ws) ∧ DsOk K F x.ws x.m,
  fun s h => ⟨h.1, s _ _ h.2.1, h.2.2.1.mono s, s _ _ h.2.2.2.1, h.2.2.2.2.mono s⟩⟩
theorem ei_zipA {d1 d2 : D} (h1 : Dyn x d1) (h2 : Dyn y d2) (hs : d1.isSeq = true) (hq : d2.tn = d1.tn) (h : EvA B ca Γ C [x, y] C1) : EvI B (iZipA B.K ca) Γ C (d1.items.zip d2.items) C1 := fun τ σ ws H st R q =>
  h τ σ ws H st _ fun vs H1 s1 hln => by
    obtain ⟨F0, s2, hv⟩ := EvA.out s1 hln
    cases hv with
    | cons g1 g2 => cases g2 with
      | cons g2 g3 =>
        cases g3
        have o1 := h1 _ _ _ g1
        have o2 := h2 _ _ _ g2
        cases o1 with
        | @lst a us ds e r => cases o2 with
          | @lst b ws' es e' r' =>
            refine ⟨a, b, us, ws', rfl, .inl ⟨.inl (.inl (s2.hf.sub _ _ e)), .inl (.inl (s2.hf.sub _ _ e')), q _ (tv (PinY.mk a b us ws' ds es false)) (.ref a) H1 (ST.push s2 ⟨rfl, e, r, e', r'⟩) fun i F C H hf hk => ?_⟩⟩
            obtain ⟨_, k1, k2, k3, k4⟩ := hk
            have hq1 : SqL B.K H a us := .inl (.inl (hf.sub _ _ k1))
            have hq2 : SqL B.K H b ws' := .inl (.inl (hf.sub _ _ k3))
            have l1 : us.length = ds.length := k2.all2.length
            have l2 : ws'.length = es.length := k4.all2.length
            refine ⟨fun hi => ⟨us, ws', hq1, hq2, by rw [List.length_zip] at hi; show us.length ≤ i ∨ ws'.length ≤ i; have : min ds.length es.length ≤ i := hi; omega⟩, fun p hp => ?_⟩
            have hp' : ds[i]? = some p.1 ∧ es[i]? = some p.2 := List.getElem?_zip_eq_some.mp hp
            obtain ⟨w, h3, h4⟩ := k2.all2.get hp'.1
            obtain ⟨w2, h5, h6⟩ := k4.all2.get hp'.2
            have h3' : us[i]? = some w := h3
            have h5' : ws'[i]? = some w2 := h5
            refine ⟨⟨us, ws', w, w2, hq1, hq2, h3', h5'⟩, fun x H' hy => ?_⟩
            obtain ⟨T, y, z, rfl, hT, rfl, fy, fz⟩ := hy
            have h7 := fy us hq1
            have h8 := fz ws' hq2
            rw [h3'] at h7
            rw [h5'] at h8
            cases h7
            cases h8
            obtain ⟨hf', sF, sH⟩ := hf.laid (o := .tup [w, w2]) hT
            exact ⟨_, sF, hf', T, w, w2, rfl, upd_same, Rp.mono sF h4, Rp.mono sF h6⟩
          | _ => exact absurd hq (by simp [D.tn])
        | @tup a us ds e r => cases o2 with
          | @tup b ws' es e' r' =>
            refine ⟨a, b, us, ws', rfl, .inr ⟨.inl (.inl (s2.hf.sub _ _ e)), .inl (.inl (s2.hf.sub _ _ e')), q _ (tv (PinY.mk a b us ws' ds es true)) (.ref a) H1 (ST.push s2 ⟨rfl, e, r, e', r'⟩) fun i F C H hf hk => ?_⟩⟩
            obtain ⟨_, k1, k2, k3, k4⟩ := hk
            have hq1 : SqT B.K H a us := .inl (.inl (hf.sub _ _ k1))
            have hq2 : SqT B.K H b ws' := .inl (.inl (hf.sub _ _ k3))
            have l1 : us.length = ds.length := k2.all2.length
            have l2 : ws'.length = es.length := k4.all2.length
            refine ⟨fun hi => ⟨us, ws', hq1, hq2, by rw [List.length_zip] at hi; show us.length ≤ i ∨ ws'.length ≤ i; have : min ds.length es.length ≤ i := hi; omega⟩, fun p hp => ?_⟩
            have hp' : ds[i]? = some p.1 ∧ es[i]? = some p.2 := List.getElem?_zip_eq_some.mp hp
            obtain ⟨w, h3, h4⟩ := k2.all2.get hp'.1
            obtain ⟨w2, h5, h6⟩ := k4.all2.get hp'.2
            have h3' : us[i]? = some w := h3
            have h5' : ws'[i]? = some w2 := h5
            refine ⟨⟨us, ws', w, w2, hq1, hq2, h3', h5'⟩, fun x H' hy => ?_⟩
            obtain ⟨T, y, z, rfl, hT, rfl, fy, fz⟩ := hy
            have h7 := fy us hq1
            have h8 := fz ws' hq2
            rw [h3'] at h7
            rw [h5'] at h8
            cases h7
            cases h8
            obtain ⟨hf', sF, sH⟩ := hf.laid (o := .tup [w, w2]) hT
            exact ⟨_, sF, hf', T, w, w2, rfl, upd_same, Rp.mono sF h4, Rp.mono sF h6⟩
          | _ => exact absurd hq (by simp [D.tn])
        | _ => exact absurd hs (by simp [D.isSeq])
theorem atI_lastT {α : Type} (xs : List α) (x : α) : atI (xs ++ [x]) (-1) = some x := by
  unfold atI ixN
  rw [if_neg (by decide), if_pos (by simp; omega)]
  have e : (-1 + ((xs.length : Int) + 1)).toNat = xs.length := by omega
  simp [e]
theorem ev_callS {S : SpecV} {xs : List TV} {E : St → XK} (ha : EvA B ca Γ C xs C1) (hS : S xs [] x []) : Ev B (tCallS (SpV S B.K) E ca) Γ C x C1 := fun τ σ ws H st Q q =>
  ha τ σ ws H st _ fun vs H1 s1 hl => by
    obtain ⟨F, s2, hv⟩ := EvA.out s1 hl
    have hfp := s2.hf.perm (C' := ([] : Cs) ++ C1) (.refl _)
    refine ⟨F, xs, [], x, [], hS, rfl, ⟨hv, hfp.enter⟩, fun v H' ⟨F', h1, h2⟩ => ?_⟩
    have := hfp.leave (N := []) (C' := []) h1 rfl (fun _ z => nomatch z)
    exact q v H' (ST.push (s2.to h1.base this) h2)
/-- flat things: is None, == -/
theorem os_isNone (hd : Dyn x d) : OpS B C (fun x y H Q => y = .non ∧ Q (.bl (decide (x = .non))) H) x (tv ()) (tv (match d with | .non => true | _ => false)) := fun F H v w hf hv hw Q q => by
  refine ⟨hw, q _ ?_⟩
  have := hd _ _ _ hv
  show V.bl _ = V.bl _
  cases this <;> simp
theorem flatD_eq {K : Frag} {F : Hp} {v w : V} {d : D} (h1 : DOk K F v d) (h2 : DOk K F w d) (hs : d.isSeq = false) (hn : d.nod = true) : v = w ∧ scal v w = true := by
  cases h1 <;> cases h2 <;> first | (simp [D.isSeq] at hs; done) | (simp [D.nod] at hn; done) | (refine ⟨rfl, ?_⟩; simp [scal]; done)
theorem os_eqFlat (h1 : Dyn x d) (h2 : Dyn y d) (hs : d.isSeq = false) (hn : d.nod = true) : OpS B C rEq x y (tv true) := fun F H v w hf hv hw Q q => by
  obtain ⟨e, s⟩ := flatD_eq (h1 _ _ _ hv) (h2 _ _ _ hw) hs hn
  subst e
  exact ⟨s, q _ (by show V.bl _ = V.bl _; simp)⟩
end
end T
set_option Elab.async false
set_option linter.all false
set_option maxRecDepth 100000
set_option maxHeartbeats 2000000
set_option autoImplicit false
namespace T
open PySem PySem.Spec PyProof.Rows L2
open PySem.W (Frag)
/-! arguments that may be new objects -/
def EvAx (B : Bs) (t : TA) (Γ : List Sl) (C : Cs) (K : List TV → Cs → Prop) : Prop :=
  ∀ τ σ ws H, ST B Γ C τ σ ws H → ∀ Q : List V → Hp → Prop, (∀ xs C' vs H', K xs C' → ST B Γ C' (xs ++ τ) σ (vs ++ ws) H' → vs.length = xs.length → Q vs H') → t σ H Q
section
variable {B : Bs} {F F' : Hp} {Γ Γ' Γ2 : List Sl} {C C' C1 C2 C3 R : Cs} {τ : List TV} {σ : St} {ws : List V} {H H' : Hp} {x y z : TV} {c d : Ct}
variable {ta tb' te td ty : TE} {ca : TA} {D' : EndT} {ts tu tw tb : TS} {wi : TI} {g : TG} {t u : TT} {b b' : Bool} {k2 : List TV → Cs → Prop}
theorem eax_nil : EvAx B tNil Γ C (fun xs C' => xs = [] ∧ C' = C) := fun τ σ ws H st Q q => q [] C [] H ⟨rfl, rfl⟩ st rfl
theorem eax_cons (h : Ev B te Γ C x C1) (hr : EvAx B ca Γ C1 k2) : EvAx B (tCons te ca) Γ C (fun xs C' => ∃ r, xs = x :: r ∧ k2 r C') := fun τ σ ws H st Q q =>
  h τ σ ws H st _ fun v H1 s1 => hr _ σ _ H1 s1 _ fun xs C' vs H2 hk ⟨F, s2⟩ hl => q (x :: xs) C' _ H2 ⟨xs, rfl, hk⟩ ⟨F, s2.hf, s2.slots, All2.move s2.temps hl⟩ (by simp [hl])
theorem eax_consN {k3 : Addr → List TV → Cs → Prop} (h : EvN B te Γ C c C1) (hr : ∀ p, B.H p = none → EvAx B ca Γ ((p, c) :: C1) (k3 p)) : EvAx B (tCons te ca) Γ C (fun xs C' => ∃ p r, B.H p = none ∧ xs = tv (Ptr.mk p) :: r ∧ k3 p r C') := fun τ σ ws H st Q q =>
  h τ σ ws H st _ fun p H1 hB hP ⟨F0, s1⟩ => hr p hB (tv (Ptr.mk p) :: τ) σ (.ref p :: ws) H1 ⟨F0, s1.hf, s1.slots, .cons rfl s1.temps⟩ _ fun xs C' vs H2 hk ⟨F, s2⟩ hl => q (tv (Ptr.mk p) :: xs) C' _ H2 ⟨p, xs, hB, rfl, hk⟩ ⟨F, s2.hf, s2.slots, All2.move s2.temps hl⟩ (by simp [hl])
/-- a, b = .. -/
theorem ss_parX {i j : Nat} (ha : EvAx B ca Γ C k2) (k : ∀ x y C1, k2 [x, y] C1 → Ss B tu ((Γ.set i (some x)).set j (some y)) C1 D') (h2 : ∀ xs C1, k2 xs C1 → xs.length = 2) : Ss B (tSeq (tPar i j ca) tu) Γ C D' := fun τ σ ws H st E im =>
  ha τ σ ws H st _ fun xs C1 vs H1 hk s1 hl => by
    obtain ⟨F, s2, hv⟩ := EvA.out s1 hl
    have h3 := h2 xs C1 hk
    cases hv with
    | nil => cases h3
    | cons a1 r => cases r with
      | nil => cases h3
      | cons a2 r => cases r with
        | cons a3 r => simp at h3
        | nil => exact ⟨_, _, rfl, k _ _ _ hk τ _ ws H1 ⟨F, s2.hf, (s2.slots.set (fun t e => by cases e; exact ⟨_, rfl, a1⟩) i).set (fun t e => by cases e; exact ⟨_, rfl, a2⟩) j, s2.temps⟩ E im⟩
theorem ss_par3X {i j l : Nat} (ha : EvAx B ca Γ C k2) (k : ∀ x y z C1, k2 [x, y, z] C1 → Ss B tu (((Γ.set i (some x)).set j (some y)).set l (some z)) C1 D') (h2 : ∀ xs C1, k2 xs C1 → xs.length = 3) : Ss B (tSeq (tPar3 i j l ca) tu) Γ C D' := fun τ σ ws H st E im =>
  ha τ σ ws H st _ fun xs C1 vs H1 hk s1 hl => by
    obtain ⟨F, s2, hv⟩ := EvA.out s1 hl
    have h3 := h2 xs C1 hk
    cases hv with
    | nil => cases h3
    | cons a1 r => cases r with
      | nil => cases h3
      | cons a2 r => cases r with
        | nil => cases h3
        | cons a3 r => cases r with
          | cons a4 r => simp at h3
          | nil => exact ⟨_, _, _, rfl, k _ _ _ _ hk τ _ ws H1 ⟨F, s2.hf, ((s2.slots.set (fun t e => by cases e; exact ⟨_, rfl, a1⟩) i).set (fun t e => by cases e; exact ⟨_, rfl, a2⟩) j).set (fun t e => by cases e; exact ⟨_, rfl, a3⟩) l, s2.temps⟩ E im⟩
/-! instances -/
end
end T
set_option Elab.async false
set_option linter.all false
set_option maxRecDepth 100000
set_option maxHeartbeats 2000000
set_option autoImplicit false
namespace L2
open PySem PySem.Spec PyProof.Rows
end L2
namespace T
open PySem PySem.Spec PyProof.Rows L2
open PySem.W (Frag)
def D.isNon : D → Bool | .non => true | _ => false
/-- one sign of a text -/
def signO (c z : Str) : Option Bool := match c.cps.toList with | [x] => some (decide (x ∈ z.cps.toList)) | _ => none
def lenS (z : Str) : Option Int := if z.length ≤ sizeLine then some (z.length : Int) else none
theorem lenS_some {z : Str} {r : Int} (h : lenS z = some r) : r = (z.length : Int) ∧ z.length ≤ sizeLine := by
  unfold lenS at h
  split at h
  · cases h; exact ⟨rfl, by assumption⟩
  · cases h
section
variable {B : Bs} {F F' : Hp} {Γ Γ' Γ2 : List Sl} {C C' C1 C2 C3 R : Cs} {τ : List TV} {σ : St} {ws : List V} {H H' : Hp} {x y z : TV} {c d : Ct} {dd : D}
variable {ta tb' te td ty : TE} {ca : TA} {D' : EndT} {ts tu tw tb : TS} {wi : TI} {g : TG} {t u : TT} {b b' : Bool}
theorem ss_retVG (h : Ev B te Γ C x C1) (s : C'.Sublist C1) (e : D'.rt = RetV B x C') : Ss B (tRet te) Γ C D' := ss_ret h fun H v ⟨F, h1, h2⟩ => by rw [e]; exact ⟨F, h1.sublist s, h2⟩
theorem ss_retNG (h : EvN B te Γ C c C1) (s : C'.Sublist C1) (e : D'.rt = RetN B c C') : Ss B (tRet te) Γ C D' := ss_retN h fun H v ⟨p, F, e', hB, hP, h1⟩ => by rw [e]; exact ⟨p, F, e', hB, hP, h1.sublist (s.cons₂ _)⟩
theorem dnon {K : Frag} {F : Hp} {v : V} (h : DOk K F v dd) : decide (v = .non) = dd.isNon := by cases h <;> simp [D.isNon]
theorem os_isNonD (h : Dyn x dd) : OpS B C (fun x y H Q => y = .non ∧ Q (.bl (decide (x = .non))) H) x (tv ()) (tv dd.isNon) := fun F H v w hf hv hw Q q => ⟨hw, q _ (by rw [dnon (h _ _ _ hv)]; rfl)⟩
theorem sign_of {c : Str} {x : Nat} (h : c.cps.toList = [x]) : c = ⟨#[x]⟩ := by
  cases c with
  | mk a =>
    congr 1
    apply Array.ext'
    simpa using h
theorem os_sign {c z : Str} {r : Bool} (h : signO c z = some r) : OpS B C (fun x y H Q => ∃ (c : Nat) (z : Str), x = .str ⟨#[c]⟩ ∧ y = .str z ∧ Q (.bl (decide (c ∈ z.cps.toList))) H) (tv c) (tv z) (tv r) := fun F H v w hf hv hw Q q => by
  obtain rfl := hv
  obtain rfl := hw
  unfold signO at h
  split at h
  · rename_i x e
    cases h
    exact ⟨x, z, by show V.str c = _; rw [sign_of e], rfl, q _ rfl⟩
  · cases h
theorem os_notSign {c z : Str} {r : Bool} (h : signO c z = some r) : OpS B C (fun x y H Q => ∃ (c : Nat) (z : Str), x = .str ⟨#[c]⟩ ∧ y = .str z ∧ Q (.bl (!decide (c ∈ z.cps.toList))) H) (tv c) (tv z) (tv (!r)) := fun F H v w hf hv hw Q q => by
  obtain rfl := hv
  obtain rfl := hw
  unfold signO at h
  split at h
  · rename_i x e
    cases h
    exact ⟨x, z, by show V.str c = _; rw [sign_of e], rfl, q _ rfl⟩
  · cases h
theorem cs_lenS {z : Str} (h : z.length ≤ sizeLine) : CbS B C (fun xs H Q => ∃ z, xs = [V.str z] ∧ z.length ≤ sizeLine ∧ Q (.int z.length) H) [tv z] (tv (z.length : Int)) := fun F H vs hf hv Q q => by
  cases hv with
  | cons h1 h2 =>
    cases h2
    obtain rfl := h1
    exact ⟨z, rfl, h, q _ rfl⟩
/-- a sign of a text -/
def oneS (c : Nat) : Str := ⟨#[c]⟩
def strAt (z : Str) (i : Int) : Option Str := if z.length ≤ sizeLine then (atI z.cps.toList i).map oneS else none
theorem os_ixS {z r : Str} {i : Int} (h : strAt z i = some r) : OpS B C rIxS (tv z) (tv i) (tv r) := fun F H v w hf hv hw Q q => by
  obtain rfl := hv
  obtain rfl := hw
  unfold strAt at h
  split at h
  · rename_i hz
    cases e : atI z.cps.toList i with
    | none => rw [e] at h; cases h
    | some c => rw [e] at h; cases h; exact ⟨z, i, c, rfl, rfl, hz, e, q _ rfl⟩
  · cases h
theorem ei_str {z : Str} (h : Ev B te Γ C (tv z) C1) : EvI B (iStr te) Γ C (z.cps.toList.map oneS) C1 := fun τ σ ws H st R q =>
  h τ σ ws H st _ fun v H1 s1 => by
    obtain ⟨F, s2, hv⟩ := s1.pop
    obtain rfl : v = .str z := hv
    refine ⟨z, rfl, q _ (tv z) (.str z) H1 s1 fun i F C H hf hk => ⟨fun hi => ?_, fun b hb => ?_⟩⟩
    · show z.cps.size ≤ i
      simpa using hi
    · rw [List.getElem?_map] at hb
      cases e : z.cps.toList[i]? with
      | none => rw [e] at hb; cases hb
      | some c =>
        rw [e] at hb
        cases hb
        have e' : z.cps[i]? = some c := by simpa using e
        refine ⟨?_, fun x H' hy => ?_⟩
        · show i < z.cps.size
          exact (Array.getElem?_eq_some_iff.mp e').1
        · obtain ⟨rfl, c', hc, rfl⟩ := hy
          rw [e'] at hc
          cases hc
          exact ⟨F, Same.refl F, hf, rfl⟩
end
end T
set_option Elab.async false
set_option linter.all false
set_option maxRecDepth 100000
set_option maxHeartbeats 2000000
set_option autoImplicit false
namespace L2
open PySem PySem.Spec PyProof.Rows
open PySem.W (Frag alike alikeAll dataLe dataLt AllAlike EachIs)
end L2
namespace T
open PySem PySem.Spec PyProof.Rows L2
open PySem.W (Frag alike alikeAll dataLe dataLt AllAlike EachIs)
abbrev tTruK (K : Frag) (te : TE) : TT := fun σ H Q => te σ H fun x H1 => ∃ k, TruV K x H1 k ∧ Q k H1
/-- that a test comes out true -/
def chk (b : Bool) : Option Unit := if b = true then some () else none
theorem chk_some {b : Bool} {u : Unit} (h : chk b = some u) : b = true := by
  unfold chk at h
  split at h
  · assumption
  · cases h
end T
set_option Elab.async false
set_option linter.all false
set_option maxRecDepth 100000
set_option maxHeartbeats 2000000
set_option autoImplicit false
namespace T
open PySem PySem.Spec PyProof.Rows L2
open PySem.W (Frag)
theorem nchk {b : Bool} {u : Unit} (h : chk (!b) = some u) (e : b = true) : False := by
  have := chk_some h
  rw [e] at this
  cases this
open Classical in
/-- two things that are the same, as the law looks at it -/
noncomputable def sameO (a b : D) : Option Bool := if a = b ∧ a.nod = true ∧ a.dp < 6 then some true else none
theorem sameO_some {a b : D} {r : Bool} (h : sameO a b = some r) : r = true ∧ a = b ∧ a.nod = true ∧ a.dp < 6 := by
  unfold sameO at h
  split at h
  · rename_i q
    cases h; exact ⟨rfl, q⟩
  · cases h
section
variable {B : Bs} {F F' : Hp} {Γ Γ' Γ2 : List Sl} {C C' C1 C2 C3 R : Cs} {τ : List TV} {σ : St} {ws : List V} {H H' : Hp} {x y z : TV} {c d : Ct}
variable {ta tb' te td ty : TE} {ca : TA} {D' : EndT} {ts tu tw tb : TS} {wi : TI} {g : TG} {t u : TT} {b b' : Bool} {α β : Type}
/-- a value as a thing of any kind -/
theorem ev_toD [AsD α] {a : α} (h : Ev B te Γ C (tv a) C1) : Ev B te Γ C (tv (AsD.toD a)) C1 := fun τ σ ws H st Q q =>
  h τ σ ws H st _ fun v H1 s1 => by
    obtain ⟨F, s2, hv⟩ := s1.pop
    exact q v H1 (ST.push s2 (AsD.okD hv))
theorem ev_cls {p : Addr} : Ev B (tC (.ref p)) Γ C (tv (Ptr.mk p)) C := fun τ σ ws H ⟨F, st⟩ Q q => q _ H (ST.push st rfl)
/-- {} as a thing -/
theorem ev_dnil (h : EvN B te Γ C (.dct ([] : List (Str × Int))) C1) : Ev B te Γ C (tv (D.dct [])) C1 := fun τ σ ws H st Q q =>
  h τ σ ws H st _ fun p H1 hB hP ⟨F, s1⟩ => by
    obtain ⟨o, h1, ⟨ps, rfl, h2⟩, sF, h3⟩ := s1.hf.freeze hB
    cases h2
    exact q _ _ (ST.push ⟨h3, s1.slots.slots_mono sF, s1.temps.temps_mono sF⟩ (.dct upd_same .nil))
end
end T
set_option Elab.async false
set_option linter.all false
set_option maxRecDepth 100000
set_option maxHeartbeats 2000000
set_option autoImplicit false
namespace T
open PySem PySem.Spec PyProof.Rows L2
open PySem.W (Frag)
/-- the law's script: a list of ints that is read -/
structure Sq where
  l : List Int
theorem sqL_mono {K : Frag} {F F' : Hp} {a : Addr} {xs : List V} (s : Same F F') (h : SqL K F a xs) : SqL K F' a xs := h.elim (fun h => .inl (rd_mono s h)) .inr
instance : Rp Sq := ⟨fun K F v x => ∃ a, v = .ref a ∧ SqL K F a (x.l.map V.int), fun s h => let ⟨a, e, h⟩ := h; ⟨a, e, sqL_mono s h⟩⟩
theorem ints_all {K : Frag} {F : Hp} : ∀ l : List Int, All2 (Rp.rp K F) (l.map V.int) l
  | [] => .nil
  | x :: l => .cons rfl (ints_all l)
section
variable {B : Bs} {F F' : Hp} {Γ Γ' Γ2 : List Sl} {C C' C1 C2 C3 R : Cs} {τ : List TV} {σ : St} {ws : List V} {H H' : Hp} {x y z : TV} {c d : Ct}
variable {te : TE} {lo hi : Option Int} {tl th : TO}
theorem cs_lenQ {s : Sq} : CbS B C (T.rLen B.K) [tv s] (tv (s.l.length : Int)) := fun F H vs hf hv Q q => by
  cases hv with
  | cons h1 h2 =>
    cases h2
    obtain ⟨a, rfl, h⟩ := h1
    exact ⟨a, _, rfl, .inl (hf.sub.sqL h), q _ (by rw [List.length_map]; rfl)⟩
theorem os_ixQ {s : Sq} {n a : Int} (ha : L2.atI s.l n = some a) : OpS B C (rIxL B.K) (tv s) (tv n) (tv a) := fun F H v w hf hv hw Q q => by
  obtain ⟨p, rfl, h⟩ := hv
  obtain rfl := hw
  refine ⟨p, _, n, .int a, rfl, rfl, hf.sub.sqL h, ?_, q _ rfl⟩
  unfold L2.atI at ha ⊢
  rw [List.length_map]
  cases e : ixN s.l.length n with
  | none => rw [e] at ha; cases ha
  | some j =>
    rw [e] at ha
    have ha' : s.l[j]? = some a := ha
    show (s.l.map V.int)[j]? = _
    rw [List.getElem?_map, ha']
    rfl
theorem evn_sliceQ {s : Sq} (h : Ev B te Γ C (tv s) C1) (h1 : EvO B tl Γ C1 lo C2) (h2 : EvO B th Γ C2 hi C3) : EvN B (tSl (rSlL B.K) te tl th) Γ C (.lst (cutL s.l lo hi)) C3 := fun τ σ ws H st Q q =>
  h τ σ ws H st _ fun v H1 s1 => h1 _ σ _ H1 s1 _ fun H2 s2 => h2 _ σ _ H2 s2 _ fun H3 s3 => by
    obtain ⟨F, s4, hv⟩ := s3.pop
    obtain ⟨a, rfl, h⟩ := hv
    refine ⟨a, s.l.map V.int, rfl, s4.hf.sub.sqL h, fun p hp => q p _ (s4.hf.free hp).2.2 (s4.hf.free hp).2.1 ⟨F, (s4.hf.cell (c := .lst (cutL s.l lo hi)) hp ⟨_, rfl, ?_⟩).1, s4.slots, s4.temps⟩⟩
    have r := ints_all (K := B.K) (F := F) s.l
    unfold cutV cutL
    rw [r.length]
    exact (r.drop _).take _
end
end T
set_option Elab.async false
set_option linter.all false
set_option maxRecDepth 100000
set_option maxHeartbeats 2000000
set_option autoImplicit false
namespace T
open PySem PySem.Spec PyProof.Rows L2
open PySem.W (Frag dataLe)
/-! a list whose inner lists are newer than F0, and things that are older -/
/-- a thing that stood already in F0 -/
structure At (F0 : Hp) (α : Type) where
  x : α
abbrev old (F0 : Hp) {α : Type} (a : α) : At F0 α := ⟨a⟩
instance instRpAt {F0 : Hp} {α : Type} [Rp α] : Rp (At F0 α) := ⟨fun K F v x => Rp.rp K F0 v x.x ∧ Same F0 F, fun s h => ⟨h.1, h.2.trans s⟩⟩
/-- a list that did not stand in F0 -/
structure Nw (F0 : Hp) (α : Type) where
  x : List α
instance instRpNw {F0 : Hp} {α : Type} [Rp α] : Rp (Nw F0 α) := ⟨fun K F v x => Rp.rp K F v x.x ∧ Same F0 F ∧ ∃ a, v = .ref a ∧ F0 a = none, fun s h => ⟨Rp.mono s h.1, h.2.1.trans s, h.2.2⟩⟩
instance {F0 : Hp} {α : Type} [AsD α] : AsD (Nw F0 α) := ⟨fun x => AsD.toD x.x, fun h => AsD.okD (And.left h)⟩
instance instDatNw {F0 : Hp} {α : Type} [Dat α] : Dat (Nw F0 α) where
  enc := fun x => Dat.enc x.x
  dp := fun h => Dat.dp h.1
  dep := Dat.dep (List α)
  hdep := fun x => Dat.hdep x.x
  al := fun x y => Dat.al x.x y.x
instance {F0 : Hp} {α : Type} [Dat α] : Srt (Nw F0 α) := ⟨fun x => Srt.srt x.x⟩
/-- anything -/
structure Any where
instance : Rp Any := ⟨fun _ _ _ _ => True, fun _ h => h⟩
section
variable {B : Bs} {F F' F0 : Hp} {Γ Γ' Γ2 : List Sl} {C C' C1 C2 C3 R : Cs} {τ : List TV} {σ : St} {ws : List V} {H H' : Hp} {x y z : TV} {c d : Ct}
variable {te ta : TE} {ca : TA} {D : EndT} {tu ts : TS} {α : Type} [Rp α]
/-- slots as they are in F0 -/
inductive AtS (F0 : Hp) : List Sl → List Sl → Prop
  | nil : AtS F0 [] []
  | none {Γ Γ' : List Sl} : AtS F0 Γ Γ' → AtS F0 (none :: Γ) (none :: Γ')
  | ptr {p : Addr} {Γ Γ' : List Sl} : AtS F0 Γ Γ' → AtS F0 (some (tv (Ptr.mk p)) :: Γ) (some (tv (Ptr.mk p)) :: Γ')
  | std {α : Type} [Rp α] {a : α} {Γ Γ' : List Sl} : AtS F0 Γ Γ' → AtS F0 (some (tv a) :: Γ) (some (tv (old F0 a)) :: Γ')
theorem AtS.ok {K : Frag} {Γ Γ' : List Sl} (r : AtS F0 Γ Γ') : ∀ {σ : St}, All2 (slOk K F0) σ Γ → All2 (slOk K F0) σ Γ' := by
  induction r with
  | nil => intro σ h; cases h; exact .nil
  | none r ih => intro σ h; cases h with | cons h1 h2 => exact .cons (fun t e => by cases e) (ih h2)
  | ptr r ih => intro σ h; cases h with | cons h1 h2 => exact .cons h1 (ih h2)
  | std r ih =>
    intro σ h
    cases h with
    | cons h1 h2 =>
      refine .cons (fun t e => ?_) (ih h2)
      cases e
      have h1' := h1 _ rfl
      obtain ⟨v, e1, e2⟩ := h1'
      exact ⟨v, e1, ⟨e2, Same.refl F0⟩⟩
/-- .. and back -/
inductive BkS (F0 : Hp) : List Sl → List Sl → Prop
  | nil : BkS F0 [] []
  | drop {s : Sl} {Γ Γ' : List Sl} : BkS F0 Γ Γ' → BkS F0 (s :: Γ) (none :: Γ')
  | ptr {p : Addr} {Γ Γ' : List Sl} : BkS F0 Γ Γ' → BkS F0 (some (tv (Ptr.mk p)) :: Γ) (some (tv (Ptr.mk p)) :: Γ')
  | std {α : Type} [Rp α] {a : α} {Γ Γ' : List Sl} : BkS F0 Γ Γ' → BkS F0 (some (tv (old F0 a)) :: Γ) (some (tv a) :: Γ')
theorem BkS.ok {K : Frag} {F F2 : Hp} (s : Same F0 F2) {Γ Γ' : List Sl} (r : BkS F0 Γ Γ') : ∀ {σ : St}, All2 (slOk K F) σ Γ → All2 (slOk K F2) σ Γ' := by
  induction r with
  | nil => intro σ h; cases h; exact .nil
  | drop r ih => intro σ h; cases h with | cons h1 h2 => exact .cons (fun t e => by cases e) (ih h2)
  | ptr r ih =>
    intro σ h
    cases h with
    | cons h1 h2 =>
      refine .cons (fun t e => ?_) (ih h2)
      cases e
      have h1' := h1 _ rfl
      obtain ⟨v, e1, e2⟩ := h1'
      exact ⟨v, e1, e2⟩
  | std r ih =>
    intro σ h
    cases h with
    | cons h1 h2 =>
      refine .cons (fun t e => ?_) (ih h2)
      cases e
      have h1' := h1 _ rfl
      obtain ⟨v, e1, e2, e3⟩ := h1'
      exact ⟨v, e1, Rp.mono s e2⟩
end
end T
set_option Elab.async false
set_option linter.all false
set_option maxRecDepth 100000
set_option maxHeartbeats 2000000
set_option autoImplicit false
namespace T
open PySem PySem.Spec PyProof.Rows L2 RZ
open PySem.W (Frag)
/-! ### list comprehensions whose element changes cells -/
def lcS {α β σ : Type} (e : σ → α → Option (β × σ)) : σ → List α → Option (List β × σ)
  | s, [] => some ([], s)
  | s, x :: xs => (e s x).bind fun r => (lcS e r.2 xs).bind fun q => some (r.1 :: q.1, q.2)
theorem lcS_snoc {α β σ : Type} {e : σ → α → Option (β × σ)} : ∀ {pre : List α} {s s1 : σ} {ys : List β} {a : α} {y : β} {s2 : σ}, lcS e s pre = some (ys, s1) → e s1 a = some (y, s2) → lcS e s (pre ++ [a]) = some (ys ++ [y], s2)
  | [], s, s1, ys, a, y, s2, h, h2 => by
    cases h
    show (e s a).bind _ = _
    rw [h2]
    rfl
  | x :: pre, s, s1, ys, a, y, s2, h, h2 => by
    obtain ⟨r, h3, h4⟩ := bind_some (show (e s x).bind _ = some (ys, s1) from h)
    obtain ⟨q, h5, h6⟩ := bind_some h4
    cases h6
    show (e s x).bind _ = _
    rw [h3]
    show (lcS e r.2 (pre ++ [a])).bind _ = _
    rw [lcS_snoc h5 h2]
    rfl
theorem lcS_at {α β σ : Type} {e : σ → α → Option (β × σ)} : ∀ {pre post : List α} {s s1 : σ} {ys zs : List β} {a : α} {s2 : σ}, lcS e s (pre ++ a :: post) = some (zs, s2) → lcS e s pre = some (ys, s1) → ∃ y s3, e s1 a = some (y, s3) ∧ ys.length < zs.length
  | [], post, s, s1, ys, zs, a, s2, h, h1 => by
    cases h1
    obtain ⟨r, h3, h4⟩ := bind_some (show (e s a).bind _ = some (zs, s2) from h)
    obtain ⟨q, h5, h6⟩ := bind_some h4
    cases h6
    exact ⟨r.1, r.2, h3, by simp⟩
  | x :: pre, post, s, s1, ys, zs, a, s2, h, h1 => by
    obtain ⟨r, h3, h4⟩ := bind_some (show (e s x).bind _ = some (zs, s2) from h)
    obtain ⟨q, h5, h6⟩ := bind_some h4
    cases h6
    obtain ⟨r', h7, h8⟩ := bind_some (show (e s x).bind _ = some (ys, s1) from h1)
    rw [h3] at h7
    cases h7
    obtain ⟨q', h9, h10⟩ := bind_some h8
    cases h10
    obtain ⟨y, s3, g1, g2⟩ := lcS_at h5 h9
    exact ⟨y, s3, g1, by simp; omega⟩
/-- its length, too -/
def lcSL {α β σ : Type} (e : σ → α → Option (β × σ)) (s : σ) (xs : List α) : Option (List β × σ) := (lcS e s xs).bind fun r => if r.1.length ≤ sizeLine then some r else none
theorem lcSL_some {α β σ : Type} {e : σ → α → Option (β × σ)} {s : σ} {xs : List α} {r : List β × σ} (h : lcSL e s xs = some r) : lcS e s xs = some r ∧ r.1.length ≤ sizeLine := by
  obtain ⟨q, h1, h2⟩ := bind_some h
  split at h2
  · cases h2
    exact ⟨h1, by assumption⟩
  · cases h2
section
variable {B : Bs} {F F' : Hp} {Γ Γ' Γ2 : List Sl} {C C' C1 C2 C3 : Cs} {τ : List TV} {σ : St} {ws : List V} {H H' : Hp} {x y z : TV} {c : Ct} {b b' : Bool}
variable {ta tc te : TE} {ca : TA} {D' : EndT} {ts tu tw tb : TS} {wi : TI} {g : TG} {t u : TT} {js vs : List Nat}
theorem evn_lcS {α β S : Type} [Rp α] [Rp β] {xs : List α} {e : S → α → Option (β × S)} {s0 : S} {r : List β × S} (hl : lcSL e s0 xs = some r) (Cf : S → Cs) (hi : EvI B wi Γ C xs C1) (c0 : C1 = Cf s0) (hj : ∀ j ∈ js, j ∈ vs)
    (hs : ∀ s a y s' (p : Addr) (acc : List β), a ∈ xs → e s a = some (y, s') → ∃ Γ2, Tg B g js (tv a) (wipeG Γ vs) Γ2 ∧ Ev B te Γ2 ((p, .lst acc) :: Cf s) (tv y) ((p, .lst acc) :: Cf s')) :
    EvN B (tLc wi g tYes te vs) Γ C (.lst r.1) (Cf r.2) := by
  obtain ⟨hl, hz⟩ := lcSL_some hl
  obtain ⟨ys, s1⟩ := r
  refine evn_lc (ys := ys) (C2 := Cf s1) (fun pre ys' C' => ∃ s, lcS e s0 pre = some (ys', s) ∧ C' = Cf s) hi hj ⟨s0, rfl, c0⟩ ?_ ?_
  · rintro pre a post ys' C' p hx ⟨s, h1, rfl⟩
    have hm : a ∈ xs := by rw [hx]; simp
    rw [hx] at hl
    obtain ⟨y, s3, g1, g2⟩ := lcS_at hl h1
    obtain ⟨Γ2, tg, he⟩ := hs s a y s3 p ys' hm g1
    have hz' : ys.length ≤ sizeLine := hz
    exact ⟨Γ2, true, tg, et_yes, fun _ => ⟨y, Cf s3, he, by omega, s3, lcS_snoc h1 g1, rfl⟩, fun z => by cases z⟩
  · rintro ys' C' ⟨s, h1, rfl⟩
    rw [hl] at h1
    cases h1
    exact ⟨rfl, rfl⟩
/-! ### tests that change cells -/
/-! ### cells that are read as things that stand -/
inductive LkS (C : Cs) : Sl → Sl → Prop
  | no {g : Sl} : LkS C g none
  | std {g : Sl} : LkS C g g
  | lst {α : Type} [Rp α] {p : Addr} {xs : List α} : (p, Ct.lst xs) ∈ C → LkS C (some (tv (Ptr.mk p))) (some (tv xs))
theorem LkS.slots (hf : HF B F C H) : ∀ {σ : St} {Γ Γ' : List Sl}, All2 (slOk B.K F) σ Γ → All2 (LkS C) Γ Γ' → All2 (slOk B.K (lockAll C F H)) σ Γ'
  | _, _, _, .nil, .nil => .nil
  | _, _, _, .cons h t, .cons k r => .cons (by
      intro t e
      cases k with
      | no => cases e
      | std => exact h.mono hf.same t e
      | lst hp =>
        cases e
        obtain ⟨v, hv, hv2⟩ := h _ rfl
        obtain ⟨o, h1, vs, ho, h2⟩ := hf.cellAt hp
        subst ho
        exact ⟨v, hv, _, vs, hv2, h1, h2⟩) (LkS.slots hf t r)
theorem ev_lock {α : Type} [Fl α] {a : α} (hw : All2 (LkS C) Γ Γ') (h : ∀ H F, Ev (Bs.at B.K H F []) te Γ' [] (tv a) []) : Ev B te Γ C (tv a) C := fun τ σ ws H ⟨F, s⟩ Q q =>
  h H (lockAll C F H) [] σ [] H ⟨lockAll C F H, (s.hf.readEntry .nil .nil).hf, LkS.slots s.hf s.slots hw, .nil⟩ Q fun v H' ⟨F', s'⟩ => by
    cases s'.temps with
    | cons hv _ => exact q v H' (ST.push ⟨s.hf.readBack s'.hf, s.slots, s.temps⟩ (Fl.fl hv))
end
end T
set_option Elab.async false
set_option linter.all false
set_option maxRecDepth 100000
set_option maxHeartbeats 2000000
set_option autoImplicit false
/-! own errors made by a call with keywords: the library's rules for a call by place, shown again for any arguments -/
namespace PySem
namespace HandSPX
open Builtin Builtin.ObjectAttr PySem.Calls
section
variable {A : Around} {E : Value → Shared → Prop} {hp : Heap} {gg : Array GenState} {dd' : Drawn} {tk : Nat} {os : OsState}
variable {cn qn : Str} {cA nA : Addr} {bs mr mB : List Value} {hd : Bool} {sn : List Str} {sub : List Value} {ab : Bool} {col : Option Bool} {dd : Option Addr} {k0 k1 k2 k3 k5 : Option Value} {B nId iId : String}
/-- new's own look at the arguments -/
theorem check_new_kw {M : Model} (EF : ExcBaseFacts B nId iId mB) (same : ∀ n : String, mr.contains (.type n) = mB.contains (.type n)) {us : List Value} {kw : List (Str × Value)} {Q : Unit → Shared → Prop}
    (atC : hp.get? cA = some (excClassObj cn qn cA nA bs mr hd sn sub ab col dd k0 k1 k2 k3 k5 nId)) (fin : Q () ⟨hp, gg, dd', tk, os⟩) : wpAny M A (checkBuiltinCall nId ⟨.ref cA :: us, kw⟩) Q E ⟨hp, gg, dd', tk, os⟩ := by
  have within : (Value.ref cA :: mr).contains (.type B) = true := by rw [List.contains_cons, same, EF.hasB, Bool.or_true]
  have st := EF.noStar
  simp only [checkBuiltinCall, EF.newKind, EF.newSplit, EF.newRow]
  repeat (first | refine wpAny_loadPart_at atC ?_ | (refine wpAny_isSubtype_exc atC ?_; rw [within]) | refine wpAny_staticBase_exc atC ?_ | refine wpAny_madeBy_exc atC ?_ | simp only [bne_self_eq_false, Bool.false_eq_true, if_false] | wp_step)
  exact fin
variable {prog : Program} {w : World} {R : Result → Shared → Prop}
/-- new: the object and its args' tuple -/
theorem new_kw (EF : ExcBaseFacts B nId iId mB) (same : ∀ n : String, mr.contains (.type n) = mB.contains (.type n)) {us : List Value} {kw : List (Str × Value)}
    (atC : hp.get? cA = some (excClassObj cn qn cA nA bs mr hd sn sub ab col dd k0 k1 k2 k3 k5 nId)) (few : us.length ≤ sizeLine)
    (fin : R (.ok (.ret (.ref (hp.objs.size + 1)))) ⟨(hp.push (W.kdv_tup us)).push (excO cA hp.objs.size), gg, dd', tk, os⟩) :
    codeAny (model prog w) A (.builtin nId ⟨.ref cA :: us, kw⟩) R ⟨hp, gg, dd', tk, os⟩ := by
  have en := EF.ends
  obtain ⟨i1, i2, i3⟩ : (Value.ref cA :: mr).contains (.type B) = true ∧ (Value.ref cA :: mr).contains (.type "AttributeError") = false ∧ (Value.ref cA :: mr).contains (.type "NameError") = false := by
    refine ⟨?_, ?_, ?_⟩ <;> rw [List.contains_cons, same]
    · rw [EF.hasB, Bool.or_true]
    · rw [EF.noAttr]; rfl
    · rw [EF.noName]; rfl
  refine codeAny_builtinAt EF.entry ?_
  unfold Builtin.«BaseException.__new__»; refine wpAt_bind ?_
  show wpAt _ _ _ (stack >>= _) _ _ _
  refine wpAt_bind (wpAt_stack fun _ _ => wpAt_of_wpAny ?_)
  wp_walk
  refine wpAt_of_wpAny ?_
  rw [EF.owner]
  repeat (first | with_reducible refine wpAny_madeHere_exc EF.canon atC ?_ | with_reducible refine wpAny_loadPart_at atC ?_ | (with_reducible refine wpAny_isSubtype_exc atC ?_; first | rw [i1] | rw [i2] | rw [i3]) | wp_step)
  show R _ _
  rw [Heap.size_push]
  exact fin
/-- what type.__call__ does: new, then the __init__ at fI -/
theorem made_kw (EF : ExcBaseFacts B nId iId mB) (same : ∀ n : String, mr.contains (.type n) = mB.contains (.type n)) {us : List Value} {kw : List (Str × Value)} {fI : Addr} {Q : Fin → Shared → Prop}
    (atC : hp.get? cA = some (excClassObj cn qn cA nA bs mr hd sn sub ab col dd k0 k1 k2 k3 k5 nId)) (found : W.Looks (model prog w) hp (typeLookup (.ref cA) "__init__") (some (.ref fI)))
    (bound : ∀ self, W.Looks (model prog w) hp (bindSpecial (.ref fI) self) (.ref fI, [self])) (few : us.length ≤ sizeLine)
    (run : codeAny (model prog w) A (.call (.ref fI) ⟨.ref (hp.objs.size + 1) :: us, kw⟩) (fun r z => match r with | .ok (.ret v) => v = .none ∧ Q (.done (.ret (.ref (hp.objs.size + 1)))) z | .ok _ => False | .error e => E e z) ⟨(hp.push (W.kdv_tup us)).push (excO cA hp.objs.size), gg, dd', tk, os⟩) :
    wpAny (model prog w) A (Builtin.«type.__call__» ⟨.ref cA :: us, kw⟩) Q E ⟨hp, gg, dd', tk, os⟩ := by
  repeat (first | with_reducible refine wpAny_loadPart_at atC ?_ | with_reducible refine wpAny_madeBy_exc atC ?_ | wp_step)
  refine codeAny_call_builtin_code (Code.quiet_builtin _ EF.quiet) (check_new_kw EF same atC (new_kw EF same atC few ?_))
  show wpAny _ _ _ _ _ _
  have up : ∀ b o, hp.get? b = some o → ((hp.push (W.kdv_tup us)).push (excO cA hp.objs.size)).get? b = some o := fun b o e => Heap.get?_push_of_some _ (Heap.get?_push_of_some _ e)
  have atC' := up _ _ atC
  have here : ((hp.push (W.kdv_tup us)).push (excO cA hp.objs.size)).get? (hp.objs.size + 1) = some (excO cA hp.objs.size) := by heap_get
  have own : (Value.ref cA :: mr).contains (.ref cA) = true := by simp
  have found' := found.keeps up
  have bound' := (bound (.ref (hp.objs.size + 1))).keeps up
  unfold isInstance
  repeat (first | with_reducible refine wpAny_loadPart_at here ?_ | (with_reducible refine wpAny_isSubtype_exc atC' ?_; rw [own]) | wp_step)
  show wpAny _ _ (typeLookup (.ref cA) _) _ _ _
  refine found'.at (wpAny_holding (wpAny_bind (bound'.at (wpAny_bind (wpAny_call (codeAny_mono run fun r s' z => ?_))))))
  rcases r with e | (v | _ | _ | _) <;> first | exact z | exact z.elim | skip
  obtain ⟨rfl, z⟩ := z
  first
    | exact wpAny_pure (wpAny_pure z)
    | (wp_walk; exact z)
/-- the class called -/
theorem call_own_kw (EF : ExcBaseFacts B nId iId mB) (same : ∀ n : String, mr.contains (.type n) = mB.contains (.type n)) {us : List Value} {kw : List (Str × Value)} {fI : Addr}
    (atC : hp.get? cA = some (excClassObj cn qn cA nA bs mr hd sn sub ab col dd k0 k1 k2 k3 k5 nId)) (found : W.Looks (model prog w) hp (typeLookup (.ref cA) "__init__") (some (.ref fI)))
    (bound : ∀ self, W.Looks (model prog w) hp (bindSpecial (.ref fI) self) (.ref fI, [self])) (few : us.length ≤ sizeLine)
    (run : codeAny (model prog w) (A.under (.builtin "type.__call__" ⟨.ref cA :: us, kw⟩)) (.call (.ref fI) ⟨.ref (hp.objs.size + 1) :: us, kw⟩) (W.InitBack (hp.objs.size + 1) R) ⟨(hp.push (W.kdv_tup us)).push (excO cA hp.objs.size), gg, dd', tk, os⟩) :
    codeAny (model prog w) A (.call (.ref cA) ⟨us, kw⟩) R ⟨hp, gg, dd', tk, os⟩ := by
  have l1 := tc_lookup
  have l2 := tc_bind (.ref cA)
  have isT : (⟨hp, gg, dd', tk, os⟩ : Shared).TypeIs (.ref cA) "type" := ⟨_, atC, rfl⟩
  refine codeAny_of_tree ?_
  show wpAny _ _ (callAny (.ref cA) _) _ _ _
  repeat (any_goals (first | assumption | with_reducible refine wpAny_loadPart_at atC ?_ | wp_step))
  refine ⟨rfl, codeAny_call_builtin_at (Code.quiet_builtin _ (by decide +kernel)) entry_typeCall (wpAny_check_type_call_sub atC (made_kw EF same atC found bound few (codeAny_mono run fun r z q => ?_)))⟩
  rcases r with e | (v | _ | _ | _) <;> exact q
end
end HandSPX
end PySem
set_option Elab.async false
set_option linter.all false
set_option maxRecDepth 100000
set_option maxHeartbeats 2000000
set_option autoImplicit false
namespace FX
open PySem PySem.W PySem.Calls PyProof.Rows PySem.HandSPX
end FX
set_option Elab.async false
set_option linter.all false
set_option maxRecDepth 100000
set_option maxHeartbeats 2000000
set_option autoImplicit false
namespace L2
open PySem PySem.Spec PyProof.Rows
/-! ### errors as values -/
end L2
set_option Elab.async false
set_option linter.all false
set_option maxRecDepth 100000
set_option maxHeartbeats 2000000
set_option autoImplicit false
/-! isinstance of an error that is held as a value, with or without a dict -/
namespace PySem.W
open PySem PySem.Spec PySem.Calls PyProof.Rows
end PySem.W
namespace L2
open PySem PySem.Spec PyProof.Rows
end L2
set_option Elab.async false
set_option linter.all false
set_option maxRecDepth 100000
set_option maxHeartbeats 2000000
set_option autoImplicit false
/-! lambda e: [e.fld] as a value: made, called -/
namespace LamX
open PySem PySem.Spec PyProof.Rows L2
def lookB (vn fld : Str) (a1 a2 a3 : Pos) : Expr := .List [.Attribute (.Name vn a1) fld a2] a3
def lookS (vn : Str) : Scope := { kind := .function, names := [(vn, .local)], isGenerator := false, isCoroutine := false, more := [] }
/-- the function object at f -/
def LkO (q vn fld : Str) (f c' : Addr) : HO := .ext fun h => ∃ (p1 a1 a2 a3 : Pos) (pm ctv : Value), h.get? f = some (PySem.W.kla_obj "<lambda>" q (lamA vn p1) (lookB vn fld a1 a2 a3) (lookS vn) [] pm c' ctv)
/-- what the making leaves: the code object at c' found in the table, or new -/
def Look1 (H : Hp) (P : Addr) (q : Str) (ps : Array Value) (c' : Addr) (H2 : Hp) : Prop :=
  (H2 = H ∧ ∃ pos, codeAmong pos ps.toList = some (.ref c')) ∨ ∃ (ps' : Array Value), TriplesOk ps'.toList ∧ (∀ (p : Pos) (cv : Value), codeAmong p ps'.toList = some cv → codeAmong p ps.toList = some cv ∨ cv = .ref c') ∧ H c' = none ∧ H2 = upd (upd H P (.tbl ps')) c' (CodeO c' q)
end LamX
set_option Elab.async false
set_option linter.all false
set_option maxRecDepth 100000
set_option maxHeartbeats 2000000
set_option autoImplicit false
namespace LamX
open PySem PySem.Spec PyProof.Rows L2
end LamX
set_option Elab.async false
set_option linter.all false
set_option maxRecDepth 100000
set_option maxHeartbeats 2000000
set_option autoImplicit false
namespace T
open PySem PySem.Spec PyProof.Rows L2 LamX
open PySem.W (Frag)
/-- an error that is a value: its class, its fields with the very objects (none: no dict) -/
structure EV where
  C : Addr
  fs : List (Str × Vid D)
def EvFld (K : Frag) (F : Hp) (p : Str × V) (q : Str × Vid D) : Prop := p.1 = q.1 ∧ Rp.rp K F p.2 q.2
theorem EvFld.mono {K : Frag} {F F' : Hp} {p : Str × V} {q : Str × Vid D} (s : Same F F') (h : EvFld K F p q) : EvFld K F' p q := ⟨h.1, Rp.mono s h.2⟩
instance : Rp EV := ⟨fun K F v x => ∃ (e : Addr) (dx : Option Addr), v = .ref e ∧ F e = some (exo e x.C dx) ∧ (dx = none ∧ x.fs = [] ∨ ∃ d vs, dx = some d ∧ F d = some (.xd vs) ∧ All2 (EvFld K F) vs x.fs),
  fun s ⟨e, dx, h1, h2, h3⟩ => ⟨e, dx, h1, s _ _ h2, h3.imp id fun ⟨d, vs, e1, e2, e3⟩ => ⟨d, vs, e1, s _ _ e2, e3.mono fun _ _ q => q.mono s⟩⟩⟩
section
variable {B : Bs} {F F' : Hp} {Γ Γ' Γ2 : List Sl} {C C' C1 C2 C3 : Cs} {τ : List TV} {σ : St} {ws : List V} {H H' : Hp} {x y z : TV} {c : Ct} {b b' : Bool}
variable {ta tc te : TE} {ca : TA} {D' : EndT} {ts tu tw tb : TS} {wi : TI} {g : TG} {t u : TT} {js vs : List Nat}
/-- a statement target = value, the target of several names -/
theorem ss_setG {x : TV} (h : Ev B te Γ C x C1) (tg : Tg B g js x Γ Γ2) (k : Ss B tu Γ2 C1 D') : Ss B (tSeq (tAsg te g) tu) Γ C D' := fun τ σ ws H st E im =>
  h τ σ ws H st _ fun v H1 s1 => by
    obtain ⟨F, s2, hv⟩ := s1.pop
    exact tg F C1 σ v H1 s2.hf s2.slots hv _ fun σ' hs _ _ => k τ σ' ws H1 ⟨F, s2.hf, hs, s2.temps⟩ E im
end
end T
set_option Elab.async false
set_option linter.all false
set_option maxRecDepth 100000
set_option maxHeartbeats 2000000
set_option autoImplicit false
/-! own errors without a field, with two -/
namespace FX
open PySem PySem.W PySem.Calls PyProof.Rows PySem.HandSPX
def xA2 (p1 p2 p3 : Pos) : Arguments := { posonlyargs := [], args := [{ arg := "self", annotation := none, pos := p1 }, { arg := "text", annotation := none, pos := p2 }, { arg := "line", annotation := none, pos := p3 }], vararg := none, kwonlyargs := [], kw_defaults := [], kwarg := none, defaults := [] }
def xB2 (tx : Str) (a1 a2 a3 a4 a5 a6 q1 q2 q3 q4 q5 q6 q7 q8 : Pos) : List Stmt :=
  [.Expr (.Call (.Attribute (.Call (.Name "super" a1) [] [] a2) "__init__" a3) [.Constant (.str tx) 0 a4] [] a5) a6, .Assign [.Attribute (.Name "self" q1) "text" q2] (.Name "text" q3) q4, .Assign [.Attribute (.Name "self" q5) "line" q6] (.Name "line" q7) q8]
def xS2 : Scope := { kind := .function, names := [(PySem.Str.ofString "self", .local), (PySem.Str.ofString "text", .local), (PySem.Str.ofString "line", .local), (PySem.Str.ofString "__class__", .free), (PySem.Str.ofString "super", .globalImplicit)], isGenerator := false, isCoroutine := false, more := [] }
structure Txt2 (P : Program) (K : Frag) (mg : Str → Option Value) (C : Addr) (cn tx : Str) : Prop where
  cls : ∃ nm q N bs bm sn sub ab col dd k0 k1 k2 k3 k5, K.lookup C = some (excClassObj nm q C N bs bm true sn sub ab col dd k0 k1 k2 k3 k5 "ValueError.__new__") ∧ refsVE bm = true
  gC : mg cn = some (.ref C)
  sa : findIn K (.ref C) "__setattr__" = some (some (.builtin "object.__setattr__"))
  ga : findIn K (.ref C) "__getattribute__" = some (some (.builtin "BaseException.__getattribute__"))
  gg : findIn K (.ref C) "__getattr__" = some none
  no_text : findIn K (.ref C) "text" = some none
  no_line : findIn K (.ref C) "line" = some none
  kC : keepIn K (.ref C) = true
  exC : subIn K (.ref C) (.type "BaseException") = some true
  veC : subIn K (.ref C) (.type "ValueError") = some true
  tyC : typeIn K (.ref C) = some (.type "type")
  hdC : hasDictIn K C = true
  mro : mroIn K C (.ref C) = some true
  sup : ks_superIn K C C "__init__" = some (some (.builtin "ValueError.__init__"))
  ms : mg "super" = none
  noq : nsIn K cStatics "thirdparty.any" = some none
  top : (P.main.scope.names.lookup ("super" : Str)).isSome = false
  fn : ∃ (fI cda cc : Addr) (oc : Value) (od : Option Addr) (doc pm : Value) (an : Option Addr) (ct : Value) (osl : Array (Option Value)) (qual : Str) (p1 p2 p3 a1 a2 a3 a4 a5 a6 q1 q2 q3 q4 q5 q6 q7 q8 : Pos) (ccl cl : Value) (cdd cld : Option Addr) (vs : Array Value) (ccs csl : Array (Option Value)) (file : Str) (tf : Tok),
    findIn K (.ref C) "__init__" = some (some (.ref fI)) ∧ typeIn K (.ref fI) = some (.type "function") ∧
    K.lookup fI = some ⟨oc, od, .func (ksFn "__init__" qual (xA2 p1 p2 p3) (xB2 tx a1 a2 a3 a4 a5 a6 q1 q2 q3 q4 q5 q6 q7 q8) xS2 .none .none doc pm an (.ref cda) ct cc), osl⟩ ∧ codeIn K (.ref cda) qual = true ∧
    K.lookup cda = some ⟨ccl, cdd, .fields vs, ccs⟩ ∧ vs[2]? = some (.str file tf) ∧ ((P.main.file : Str) == file) = true ∧ K.lookup cc = some ⟨cl, cld, .cell (some (.ref C)), csl⟩ ∧ (a3.endLine == a5.line) = true
structure OwnMade2 (h h' : Heap) (e C d : Addr) (v1 v2 : Value) : Prop where
  keep : ∀ b o, h.get? b = some o → h'.get? b = some o
  new : h.objs.size ≤ e
  obj : ∃ t1 : Addr, h'.get? e = some { cls := .ref C, dict := some d, data := .fields #[.ref t1, .none, .none, .none, .bool false, .none] }
  dbig : h.objs.size ≤ d
  dne : d ≠ e
  ns : h'.Ns1 d (fun y => if y = "line" then some v2 else if y = "text" then some v1 else none)
structure InitEnd2 (h h' : Heap) (x C dx t1 : Addr) (v1 v2 : Value) : Prop where
  keep : ∀ b o, b ≠ x → h.get? b = some o → h'.get? b = some o
  obj : h'.get? x = some { cls := .ref C, dict := some dx, data := .fields #[.ref t1, .none, .none, .none, .bool false, .none] }
  dbig : h.objs.size ≤ dx
  dne : dx ≠ x
  ns : h'.Ns1 dx (fun y => if y = "line" then some v2 else if y = "text" then some v1 else none)
section
variable {P : Program} {w : World} {A : Around} {E : Value → Shared → Prop} {R : Result → Shared → Prop} {s : Shared} {K : Frag} {mg : Str → Option Value} {C : Addr} {cn tx : Str}
theorem init_run2 {ag : Args} (T : Txt2 P K mg C cn tx) {fI x t0 : Addr} {v1 v2 : Value} (hfI : findIn K (.ref C) "__init__" = some (some (.ref fI))) (X : K.In s.heap) {mb : Str → Option Value} (Gm : s.heap.Ns mainGlobals mg) (Gb : s.heap.Ns builtinsNs mb) (hbs : mb "super" = some (.type "super")) (hlim : s.heap.NoLimit) (hbd : ∀ (body : List Stmt) (qual : Str) (p1 p2 p3 : Pos) (doc pm ct cdv : Value) (an : Option Addr) (cc : Addr), bindArgs (ksFn "__init__" qual (xA2 p1 p2 p3) body xS2 .none .none doc pm an cdv ct cc) ag = pure [(("self" : Str), .ref x), ("text", v1), ("line", v2)]) (hx : s.heap.get? x = some (excO C t0)) (hnx : K.lookup x = none) (hroom : A.depth < recursionLimit)
    (hq : ∀ h' tk dx t1, InitEnd2 s.heap h' x C dx t1 v1 v2 → R (.ok (.ret .none)) { s with heap := h', toks := tk }) :
    codeAny (model P w) A (.call (.ref fI) ag) R s := by
  obtain ⟨fI', cda, cc, oc, od, doc, pm, an, ct, osl, qual, p1, p2, p3, a1, a2, a3, a4, a5, a6, q1, q2, q3, q4, q5, q6, q7, q8, ccl, cl, cdd, cld, vs, ccs, csl, file, tf, e1, tI, ho, hcd, hcode, hvs, hfile, hcell, hpos⟩ := T.fn
  obtain rfl : fI = fI' := by rw [hfI] at e1; injection e1 with e1; injection e1 with e1; injection e1
  obtain ⟨nm, q, N, bs, bm, sn, sub, ab, col, dd, k0, k1, k2, k3, k5, hC, hbm⟩ := T.cls
  have hcl : clsIn K C = some { name := nm, bases := bs, mro := .ref C :: bm, ns := N, qualname := q, hasDict := true, slotNames := sn, subclasses := sub, abstract := ab, collection := col, hasDel := false } := by unfold clsIn; rw [hC] <;> rfl
  have lks : xS2.names.lookup ("super" : Str) = some .globalImplicit := by decide +kernel
  have lkc : xS2.names.lookup ("__class__" : Str) = some .free := by decide +kernel
  have lka : xS2.names.lookup ("self" : Str) = some .local := by decide +kernel
  have lk1 : xS2.names.lookup ("text" : Str) = some .local := by decide +kernel
  have lk2 : xS2.names.lookup ("line" : Str) = some .local := by decide +kernel
  refine ks_codeAny_call_defAt (fd := ksFn "__init__" qual (xA2 p1 p2 p3) (xB2 tx a1 a2 a3 a4 a5 a6 q1 q2 q3 q4 q5 q6 q7 q8) xS2 .none .none doc pm an (.ref cda) ct cc) (binds := [("self", .ref x), ("text", v1), ("line", v2)]) hroom (X _ _ ho) rfl hlim (codeRec_of X hcd) rfl ?bind ?cell ?loc (fun h₁ hns k => ?_)
  case bind =>
    exact BindsTo.of_eq (hbd _ _ _ _ _ _ _ _ _ _ _)
  case cell => intro y hy; simp [xS2] at hy; rcases hy with rfl | rfl | rfl | rfl | rfl <;> simp
  case loc =>
    intro y hy
    simp at hy
    rcases hy with rfl | rfl | rfl
    · exact lka
    · exact lk1
    · exact lk2
  have hn1 : h₁.Ns s.heap.objs.size (fun y => List.lookup y [(("line" : Str), v2), (("text" : Str), v1), (("self" : Str), Value.ref x)]) := hns
  have X₁ : K.In h₁ := X.keeps k
  have hx₁ := k _ _ hx
  have I₁ : InstAt h₁ x (excO C t0) C none := ⟨hx₁, rfl, rfl, trivial⟩
  have hself : (fun y => List.lookup y [(("line" : Str), v2), (("text" : Str), v1), (("self" : Str), Value.ref x)]) ("self" : Str) = some (.ref x) := rfl
  have hv1 : (fun y => List.lookup y [(("line" : Str), v2), (("text" : Str), v1), (("self" : Str), Value.ref x)]) ("text" : Str) = some v1 := rfl
  have hv2 : (fun y => List.lookup y [(("line" : Str), v2), (("text" : Str), v1), (("self" : Str), Value.ref x)]) ("line" : Str) = some v2 := rfl
  obtain ⟨oD, hD1, hD2⟩ : ∃ oD, h₁.get? C = some oD ∧ oD.data = .cls { name := nm, bases := bs, mro := .ref C :: bm, ns := N, qualname := q, hasDict := true, slotNames := sn, subclasses := sub, abstract := ab, collection := col, hasDel := false } := ⟨_, X₁ _ _ hC, rfl⟩
  refine ks_wpAt_execs_cons (ks_wpAt_Expr_any ?_)
  refine ks_wpAt_MethodCall (pl := (do return (← importBound (.Call (.Name "super" a1) [] [] a2) _).getD true)) ?_ (by
    rw [arm_eval_Call]
    refine bind_congr fun ov => bind_congr fun _ => ?_
    unfold methodCall methodCallPos
    rw [hpos]
    rfl)
  obtain ⟨hp, g, dr, tk, os⟩ := s
  refine ks_wpAt_super_base (f := fI) (cc := cda) lks lkc (by decide) rfl (X₁ _ _ ho) rfl rfl rfl (X₁ _ _ hcode) rfl hvs hfile T.top ?_
  refine ks_loadName_global rfl lks (loadGlobal_builtin (Gm.keeps k) T.ms (Gb.keeps k) hbs ⟨rfl, ?_⟩)
  refine wpAny_loadName_free rfl lkc (by rfl) ⟨_, X₁ _ _ hcell, rfl⟩ ?_
  refine wpAny_loadName_local rfl lka hn1 hself ?_
  refine ks_wpAny_isType_cls hD1 hD2 ⟨rfl, ?_⟩
  refine ks_wpAny_call_super hD1 hD2 I₁.at_ I₁.cls (fun c e => ?_) (looks_mroIn X₁ T.mro) (fun h₂ e2 k2 => ?_)
  · cases e
  have I₂ : InstAt h₂ x (excO C t0) C none := ⟨k2 _ _ hx₁, rfl, rfl, trivial⟩
  have X₂ : K.In h₂ := X₁.keeps k2
  have hal : alongIn K "__init__" ((({ name := nm, bases := bs, mro := .ref C :: bm, ns := N, qualname := q, hasDict := true, slotNames := sn, subclasses := sub, abstract := ab, collection := col, hasDel := false } : ClassData).mro.dropWhile (· != .ref C)).drop 1) = some (some (.builtin "ValueError.__init__")) := by
    have z := T.sup
    unfold ks_superIn at z
    rw [hcl] at z
    exact z
  refine kxs_getMethod kxs_ValueError (l₀ := .ref C :: bm) e2 (looks_opaque X₂ T.noq) (fun A Q E s k q => wpAny_bind ((looks_clsIn X₂ hcl) A _ E s k (wpAny_pure q))) rfl X₂ hal (I₂.type.andThen (looks_subIn X₂ T.veC)) (ks_ne X₂ I₂ hcl) (by decide) ?_
  have k3 : ∀ b o, h₂.get? b = some o → (h₂.push (kxs_mw "ValueError.__init__" x)).get? b = some o := fun b o e => Heap.get?_push_of_some _ e
  have hu : (h₂.push (kxs_mw "ValueError.__init__" x)).get? h₂.objs.size = some (kxs_mw "ValueError.__init__" x) := Heap.get?_push_at rfl rfl
  refine kxs_callWith (i := "ValueError.__init__") (x := x) (by rfl) ?_
  refine evalArgs_plain (Calls.spliced_cons (Calls.Constant_str (k := 0) (pos := a4) (Calls.spliced_nil ⟨hu, ?_⟩)))
  have X₃ : K.In (h₂.push (kxs_mw "ValueError.__init__" x)) := X₂.keeps k3
  have hx₃ := k3 _ _ I₂.at_
  -- the call of the bound __init__
  refine wpAny_call (codeAny_of_tree ?_)
  show wpAny _ _ (callAny (.ref h₂.objs.size) ⟨[_], []⟩) _ _ _
  simp only [callAny]
  refine wpAny_bind (wpAny_load hu ?_)
  simp only [kxs_mw, show (Value.type "method-wrapper" == Value.type "method" || Value.type "method-wrapper" == Value.type "builtin_function_or_method" || Value.type "method-wrapper" == Value.type "method-wrapper") = true by decide, if_true]
  refine KFB.if_so (by decide) ?_
  refine wpAny_bind (check_bound_init F.excBase_ValueError.toExcCallFacts (X₃ _ _ hC) hx₃ rfl ?_)
  refine wpAny_bind (wpAny_pure (wpAny_pure ?_))
  refine ⟨plainId_quiet F.excBase_ValueError.init.plain _, codeAny_builtin F.excBase_ValueError.initEntry ?_⟩
  refine exc_init_tree (cls := .ref C) (t0 := t0) (dv := none) (c2 := .none) (c3 := .none) (b4 := .bool false) hx₃ (one_size _) fun h₄ k4 e4 _ => ?_
  have hLx : hp.objs.size ≠ x := Nat.ne_of_gt (Heap.lt_size hx)
  have k14 : ∀ b o, b ≠ x → h₁.get? b = some o → h₄.get? b = some o := fun b o nb e => k4 b o nb (k3 _ _ (k2 _ _ e))
  have X₄ : K.In h₄ := fun a o e => k14 a o (fun z => by rw [z, hnx] at e; cases e) (X₁ a o e)
  have hn4 : h₄.Ns hp.objs.size (fun y => List.lookup y [(("line" : Str), v2), (("text" : Str), v1), (("self" : Str), Value.ref x)]) := hn1.at fun o e => k14 _ o hLx e
  have sz4 : hp.objs.size ≤ h₄.objs.size := by
    obtain ⟨oL, _, _, hL, _⟩ := hn4
    exact Nat.le_of_lt (Heap.lt_size hL)
  refine ks_wpAt_execs_cons (ks_wpAt_Assign_Attr ?_)
  refine wpAt_of_wpAny (wpAny_Name (wpAny_loadName_local rfl lk1 hn4 hv1 ?_) (by decide))
  refine wpAny_Name (wpAny_loadName_local rfl lka hn4 hself ?_) (by decide)
  refine set_plain X₄ (od := none) ⟨e4, rfl, rfl, trivial⟩ T.sa ?_
  refine exc_osa X₄ e4 hcl (show refsVE (.ref C :: bm) = true from hbm) rfl T.no_text (fun h₅ tk₅ dx k5' dn dne hx₅ hn₅ => ?_)
  have k15 : ∀ b o, b ≠ x → h₁.get? b = some o → h₅.get? b = some o := fun b o nb e => k5' b o nb (k14 b o nb e)
  have X₅ : K.In h₅ := fun a o e => k15 a o (fun z => by rw [z, hnx] at e; cases e) (X₁ a o e)
  have hn5 : h₅.Ns hp.objs.size (fun y => List.lookup y [(("line" : Str), v2), (("text" : Str), v1), (("self" : Str), Value.ref x)]) := hn1.at fun o e => k15 _ o hLx e
  have dK : K.lookup dx = none := by
    cases e : K.lookup dx with
    | none => rfl
    | some o => exact absurd (Heap.lt_size (X₄ _ _ e)) (Nat.not_lt.mpr dn)
  obtain ⟨oD5, ho5, _⟩ := L2.lookIn_ns hn₅
  show PySem.wpAt _ _ _ (execs [_] _) _ _ _
  refine ks_wpAt_execs_cons (ks_wpAt_Assign_Attr ?_)
  refine wpAt_of_wpAny (wpAny_Name (wpAny_loadName_local rfl lk2 hn5 hv2 ?_) (by decide))
  refine wpAny_Name (wpAny_loadName_local rfl lka hn5 hself ?_) (by decide)
  refine set_plain X₅ (od := some oD5) ⟨hx₅, rfl, rfl, ho5⟩ T.sa ?_
  refine PySem.OEX.osa_old (nl := ["text"]) X₅ hx₅ hn₅ (fun y hy => by
      by_cases e : y = "text"
      · subst e; exact List.mem_cons_self
      · exact absurd (if_neg e) hy) (by decide) hcl (show refsVE (.ref C :: bm) = true from hbm) rfl T.no_line fun h₆ tk₆ k6 hn6 => ?_
  show PySem.wpAt _ _ _ (execs [] _) _ _ _
  refine wpAt_of_wpAny (wpAny_execs_nil ?_)
  exact hq h₆ tk₆ dx _ ⟨fun b o nb e => k6 b o (fun z => by subst z; exact absurd (Heap.lt_size (k14 _ _ nb (k _ _ e))) (Nat.not_lt.mpr dn)) (k15 b o nb (k b o e)), k6 x _ (Ne.symm dne) hx₅, Nat.le_trans sz4 dn, dne, hn6⟩
theorem made2 {rest : List Value} {kw : List (Str × Value)} (T : Txt2 P K mg C cn tx) {v1 v2 : Value} (X : K.In s.heap) {mb : Str → Option Value} (Gm : s.heap.Ns mainGlobals mg) (Gb : s.heap.Ns builtinsNs mb) (hbs : mb "super" = some (.type "super")) (hlim : s.heap.NoLimit) (hroom : A.depth + 1 < recursionLimit) (hrest : rest.length ≤ sizeLine) (hbd : ∀ (body : List Stmt) (qual : Str) (p1 p2 p3 : Pos) (doc pm ct cdv : Value) (an : Option Addr) (cc x : Addr), bindArgs (ksFn "__init__" qual (xA2 p1 p2 p3) body xS2 .none .none doc pm an cdv ct cc) ⟨.ref x :: rest, kw⟩ = pure [(("self" : Str), .ref x), ("text", v1), ("line", v2)])
    (hq : ∀ h' tk e d, OwnMade2 s.heap h' e C d v1 v2 → R (.ok (.ret (.ref e))) { s with heap := h', toks := tk }) :
    codeAny (model P w) A (.call (.ref C) ⟨rest, kw⟩) R s := by
  obtain ⟨nm, q, N, bs, bm, sn, sub, ab, col, dd, k0, k1, k2, k3, k5, hC, hbm⟩ := T.cls
  obtain ⟨fI, cda, cc, oc, od, doc, pm, an, ct, osl, qual, p1, p2, p3, a1, a2, a3, a4, a5, a6, q1, q2, q3, q4, q5, q6, q7, q8, ccl, cl, cdd, cld, vs, ccs, csl, file, tf, iC, tI, _⟩ := T.fn
  obtain ⟨hp, g, dr, tk, os⟩ := s
  have k : ∀ b o, hp.get? b = some o → ((hp.push (kdv_tup rest)).push (excO C hp.objs.size)).get? b = some o := fun b o e => Heap.get?_push_of_some _ (Heap.get?_push_of_some _ e)
  have hget : ((hp.push (kdv_tup rest)).push (excO C hp.objs.size)).get? (hp.objs.size + 1) = some (excO C hp.objs.size) := by heap_get
  have hnx : K.lookup (hp.objs.size + 1) = none := by
    cases e : K.lookup (hp.objs.size + 1) with
    | none => rfl
    | some o =>
      have z : hp.get? (hp.objs.size + 1) = some o := X _ _ e
      exact absurd (Nat.lt_of_succ_lt (Heap.lt_size z)) (Nat.lt_irrefl _)
  refine call_own_kw F.excBase_ValueError (fun X => refsVE_contains X bm hbm) (X _ _ hC) (looks_findIn X iC) (fun self => bind_fn X self tI) hrest ?_
  refine init_run2 (s := ⟨(hp.push (kdv_tup rest)).push (excO C hp.objs.size), g, dr, tk, os⟩) T iC (X.keeps k) (Gm.keeps k) (Gb.keeps k) hbs (hlim.keeps k) (fun b q1 p1 p2 p3 d1 m1 c1 c2 a1 c3 => hbd b q1 p1 p2 p3 d1 m1 c1 c2 a1 c3 _) hget hnx ?_ fun h' tk' dx t1 ⟨k', hx, dn, dne, hns⟩ => ?_
  · show A.depth + 1 < recursionLimit
    exact hroom
  · have old : ∀ b o, hp.get? b = some o → h'.get? b = some o := fun b o e => k' b o (Nat.ne_of_lt (Nat.lt_succ_of_lt (Heap.lt_size e))) (k b o e)
    have z : hp.objs.size + 1 + 1 ≤ dx := by
      first
        | (simpa only [Heap.size_push] using dn)
        | exact dn
        | (have q := dn; rw [Heap.size_push, Heap.size_push] at q; exact q)
    exact ⟨rfl, hq h' tk' (hp.objs.size + 1) dx ⟨old, Nat.le_succ _, ⟨_, hx⟩, Nat.le_trans (Nat.le_trans (Nat.le_succ _) (Nat.le_succ _)) z, dne, hns⟩⟩
end
end FX
set_option Elab.async false
set_option linter.all false
set_option maxRecDepth 100000
set_option maxHeartbeats 2000000
set_option autoImplicit false
/-! the two-field error's lambda; making errors without a field, with two -/
namespace LamX
open PySem PySem.Spec PyProof.Rows L2
def lookB2 (vn fld fl2 : Str) (a1 a2 b1 b2 a3 : Pos) : Expr := .List [.Attribute (.Name vn a1) fld a2, .Attribute (.Name vn b1) fl2 b2] a3
/-- its object -/
def LkO2 (q vn fld fl2 : Str) (f c' : Addr) : HO := .ext fun h => ∃ (p1 a1 a2 b1 b2 a3 : Pos) (pm ctv : Value), h.get? f = some (PySem.W.kla_obj "<lambda>" q (lamA vn p1) (lookB2 vn fld fl2 a1 a2 b1 b2 a3) (lookS vn) [] pm c' ctv)
end LamX
namespace L2
open PySem PySem.Spec PyProof.Rows
section
variable {X : Cx} {C : Addr} {cn tx : Str}
theorem two_rel {v v2 : V} {v' v2' : Value} (r : RelV v v') (r2 : RelV v2 v2') (f : Str) : RelO (List.lookup f [(("line" : Str), v2), ("text", v)]) (if f = "line" then some v2' else if f = "text" then some v' else none) := by
  rw [lookup_put]
  by_cases h : f = "line"
  · rw [if_pos h, if_pos h]; exact r2
  · rw [if_neg h, if_neg h]
    exact relO_one r f
end
end L2
set_option Elab.async false
set_option linter.all false
set_option maxRecDepth 100000
set_option maxHeartbeats 2000000
set_option autoImplicit false
namespace T
open PySem PySem.Spec PyProof.Rows L2 LamX
open PySem.W (Frag)
/-- lambda vn: [vn.fld] -/
structure Lk where
  q : Str
  vn : Str
  flds : List Str
def LkOs (q vn : Str) : List Str → Addr → Addr → HO
  | [a], f, c' => LkO q vn a f c'
  | [a, b], f, c' => LkO2 q vn a b f c'
  | _, _, _ => .ext fun _ => False
instance : Rp Lk := ⟨fun K F v x => ∃ f c', v = .ref f ∧ F f = some (LkOs x.q x.vn x.flds f c') ∧ F c' = some (CodeO c' x.q), fun s ⟨f, c', h1, h2, h3⟩ => ⟨f, c', h1, s _ _ h2, s _ _ h3⟩⟩
/-- two errors, how to read them, what is due -/
structure Row where
  a : EV
  b : EV
  l : Lk
  due : List (Vid D)
instance : Rp Row := ⟨fun K F v x => ∃ t v1 v2 v3 v4, v = .ref t ∧ F t = some (.tup [v1, v2, v3, v4]) ∧ Rp.rp K F v1 x.a ∧ Rp.rp K F v2 x.b ∧ Rp.rp K F v3 x.l ∧ Rp.rp K F v4 x.due,
  fun s ⟨t, v1, v2, v3, v4, h0, h, h1, h2, h3, h4⟩ => ⟨t, v1, v2, v3, v4, h0, s _ _ h, Rp.mono s h1, Rp.mono s h2, Rp.mono s h3, Rp.mono s h4⟩⟩
section
variable {B : Bs} {F F' : Hp} {Γ Γ' Γ2 : List Sl} {C C' C1 C2 C3 : Cs} {τ : List TV} {σ : St} {ws : List V} {H H' : Hp} {x y z : TV} {c : Ct} {b b' : Bool}
variable {ta tc te : TE} {ca : TA} {D' : EndT} {ts tu tw tb : TS} {wi : TI} {g : TG} {t u : TT} {js vs : List Nat}
theorem ev_altL (h : Ev B ta Γ C x C1) : Ev B (tOrE ta tc) Γ C x C1 := fun τ σ ws H st Q q => .inl (h τ σ ws H st Q q)
theorem ev_altR (h : Ev B tc Γ C x C1) : Ev B (tOrE ta tc) Γ C x C1 := fun τ σ ws H st Q q => .inr (h τ σ ws H st Q q)
end
end T
set_option Elab.async false
set_option linter.all false
set_option maxRecDepth 100000
set_option maxHeartbeats 2000000
set_option autoImplicit false
namespace T
open PySem PySem.Spec PyProof.Rows L2 LamX
open PySem.W (Frag)
instance (i j : Int) : Decidable (CDivW i j) := inferInstanceAs (Decidable (_ ∧ _))
def fdivWO (i j : Int) : Option Int := if CDivW i j then some (i / j) else none
theorem fdivWO_some {i j r : Int} (h : fdivWO i j = some r) : r = i / j ∧ CDivW i j := by
  unfold fdivWO at h
  split at h
  · cases h; exact ⟨rfl, by assumption⟩
  · cases h
section
variable {B : Bs} {F F' : Hp} {Γ Γ' Γ2 : List Sl} {C C' C1 C2 C3 : Cs} {τ : List TV} {σ : St} {ws : List V} {H H' : Hp} {x y z : TV} {c : Ct} {b b' : Bool}
variable {ta tc te : TE} {ca : TA} {D' : EndT} {ts tu tw tb : TS} {wi : TI} {g : TG} {t u : TT} {js vs : List Nat}
theorem os_fdivW {i j : Int} (h : CDivW i j) : OpS B C (rI CDivW fun i j => .int (i / j)) (tv i) (tv j) (tv (i / j)) := os_I h fun _ _ => rfl
/-- dict(a list of pairs) -/
def dOf {κ α : Type} [DecidableEq κ] (xs : List (κ × α)) : List (κ × α) := xs.foldl (fun acc p => dput acc p.1 p.2) []
theorem merge_ok {κ α : Type} [Kv κ] [DecidableEq κ] [Rp α] {K : Frag} {F : Hp} : ∀ {ms : List (Key × V)} {xs : List (κ × α)} {ps : List (Key × V)} {kvs : List (κ × α)}, All2 (KvOk K F) ms xs → All2 (KvOk K F) ps kvs → All2 (KvOk K F) (mergeK ps ms) (xs.foldl (fun acc p => dput acc p.1 p.2) kvs)
  | _, _, _, _, .nil, h => h
  | m :: ms, x :: xs, _, _, .cons r t, h => by
    obtain ⟨k, v⟩ := m
    obtain ⟨r1, r2⟩ := r
    dsimp only at r1 r2
    subst r1
    show All2 (KvOk K F) (mergeK (putK _ (Ky.key x.1) v) ms) (xs.foldl (fun acc p => dput acc p.1 p.2) (dput _ x.1 x.2))
    exact merge_ok t (put_ok h r2)
theorem pairs_split {κ α : Type} [Kv κ] [DecidableEq κ] [Rp α] {K : Frag} {F H : Hp} (sF : Sub F H) : ∀ {vs : List V} {xs : List (κ × α)}, All2 (Rp.rp K F) vs xs → ∃ (ps : List Addr) (ms : List (Key × V)), vs = ps.map V.ref ∧ Paired (fun p kv => SqT K H p [kV kv.1, kv.2]) ps ms ∧ All2 (KvOk K F) ms xs
  | _, _, .nil => ⟨[], [], rfl, .nil, .nil⟩
  | _, _, .cons h t => by
    obtain ⟨ps, ms, rfl, h1, h2⟩ := pairs_split sF t
    obtain ⟨a, v1, v2, rfl, e, r1, r2⟩ := h
    have e1 := Sc.val r1
    subst e1
    refine ⟨a :: ps, (Ky.key _, v2) :: ms, rfl, .cons ?_ h1, .cons ⟨rfl, r2⟩ h2⟩
    show SqT K H a [kV (Ky.key _), v2]
    rw [← Kv.kv]
    exact .inl (.inl (sF _ _ e))
theorem cn_dictP {κ α : Type} [Kv κ] [DecidableEq κ] [Rp α] {xs : List (κ × α)} (h : Ls B C x xs) : CbN B C (fun xs H Q => ∃ (a : Addr) (ps : List Addr) (kvs : List (Key × V)), xs = [.ref a] ∧ SqL B.K H a (ps.map V.ref) ∧ Paired (fun p kv => SqT B.K H p [kV kv.1, kv.2]) ps kvs ∧ ∀ p, H p = none → Q (.ref p) (upd H p (.dK (mergeK [] kvs)))) [x] (.dct (dOf xs)) := fun F H vs hf hv Q q => by
  cases hv with
  | cons h1 h2 =>
    cases h2
    obtain ⟨a, us, rfl, hr, r⟩ := h F H _ hf h1
    obtain ⟨ps, ms, rfl, g1, g2⟩ := pairs_split hf.sub r
    exact ⟨a, ps, ms, rfl, .inl hr, g1, fun p hp => q p _ hp ⟨_, rfl, merge_ok g2 .nil⟩⟩
end
end T
set_option Elab.async false
set_option linter.all false
set_option maxRecDepth 100000
set_option maxHeartbeats 2000000
set_option autoImplicit false
namespace T
open PySem PySem.Spec PyProof.Rows L2 RZ
open PySem.W (Frag)
section
variable {B : Bs} {F F' : Hp} {Γ Γ' Γ2 : List Sl} {C C' C1 C2 C3 : Cs} {τ : List TV} {σ : St} {ws : List V} {H H' : Hp} {x y z : TV} {c : Ct} {b b' : Bool}
variable {ta tc te to : TE} {ca : TA} {D' : EndT} {ts tu tw tb : TS} {wi : TI} {g : TG} {t u : TT} {js vs : List Nat}
/-! ### texts: parts, joins -/
def rSplit1 : V → List V → Hp → VK → Prop := fun x xs H Q => ∃ a b, x = .str a ∧ xs = [.str b] ∧ (b.length == 0) = false ∧ a.length + 2 ≤ sizeLine ∧ rNewStrs (Txt.split a b) H Q
def splitO (a b : Str) : Option (List Str) := if (b.length == 0) = false ∧ a.length + 2 ≤ sizeLine then some (Txt.split a b) else none
theorem splitO_some {a b : Str} {r : List Str} (h : splitO a b = some r) : Txt.split a b = r ∧ (b.length == 0) = false ∧ a.length + 2 ≤ sizeLine := by
  unfold splitO at h
  split at h
  · cases h
    exact ⟨rfl, by assumption⟩
  · cases h
theorem strs_all2 {K : Frag} {F : Hp} : ∀ ys : List Str, All2 (Rp.rp K F) (ys.map V.str) ys
  | [] => .nil
  | y :: ys => .cons rfl (strs_all2 ys)
theorem all2_strs {K : Frag} {F : Hp} : ∀ {vs : List V} {ys : List Str}, All2 (Rp.rp K F) vs ys → vs = ys.map V.str
  | _, _, .nil => rfl
  | _, _, .cons a r => by
    obtain rfl := a
    rw [all2_strs r]
    rfl
theorem evn_split {a s : Str} {r : List Str} (h : splitO a s = some r) (ho : Ev B to Γ C (tv a) C1) (he : Ev B te Γ C1 (tv s) C2) : EvN B (tM1 rSplit1 to te) Γ C (.lst r) C2 := fun τ σ ws H st Q q =>
  ho τ σ ws H st _ fun v H1 s1 => by
    obtain ⟨rfl, hb, hz⟩ := splitO_some h
    obtain ⟨F1, s2, hv⟩ := s1.pop
    obtain rfl : v = .str a := hv
    refine ⟨⟨a, rfl⟩, he _ σ _ H1 s1 _ fun w H2 s3 => ?_⟩
    obtain ⟨F, s4, hw⟩ := s3.pop
    obtain rfl : w = .str s := hw
    obtain ⟨F5, s5, _⟩ := ST.pop (⟨F, s4⟩ : ST B Γ C2 (tv a :: τ) σ (.str a :: ws) H2)
    exact ⟨a, s, rfl, rfl, hb, hz, fun p hp => q p _ (s5.hf.free hp).2.2 (s5.hf.free hp).2.1 ⟨F5, (s5.hf.cell (c := .lst (Txt.split a s)) hp ⟨_, rfl, strs_all2 _⟩).1, s5.slots, s5.temps⟩⟩
def rJoin1 (K : Frag) : V → List V → Hp → VK → Prop := fun x xs H Q => ∃ a p, ∃ ys : List Str, x = .str a ∧ xs = [.ref p] ∧ (SqL K H p (ys.map V.str) ∨ SqT K H p (ys.map V.str)) ∧ (ys.map (·.length)).sum + ys.length * a.length ≤ 16777216 ∧ Q (.str (Txt.join a ys)) H
def joinL (a : Str) (ys : List Str) : Option Str := if (ys.map (·.length)).sum + ys.length * a.length ≤ 16777216 then some (Txt.join a ys) else none
theorem joinL_some {a r : Str} {ys : List Str} (h : joinL a ys = some r) : r = Txt.join a ys ∧ (ys.map (·.length)).sum + ys.length * a.length ≤ 16777216 := by
  unfold joinL at h
  split at h
  · cases h
    exact ⟨rfl, by assumption⟩
  · cases h
theorem ev_joinL {a r : Str} {ys : List Str} (h : joinL a ys = some r) (ho : Ev B to Γ C (tv a) C1) (he : Ev B te Γ C1 x C2) (hl : Ls B C2 x ys) : Ev B (tM1 (rJoin1 B.K) to te) Γ C (tv r) C2 := fun τ σ ws H st Q q =>
  ho τ σ ws H st _ fun v H1 s1 => by
    obtain ⟨rfl, hz⟩ := joinL_some h
    obtain ⟨F1, s2, hv⟩ := s1.pop
    obtain rfl : v = .str a := hv
    refine ⟨⟨a, rfl⟩, he _ σ _ H1 s1 _ fun w H2 s3 => ?_⟩
    obtain ⟨F, s4, hw⟩ := s3.pop
    obtain ⟨p, us, rfl, hs, r⟩ := hl F H2 _ s4.hf hw
    obtain rfl := all2_strs r
    obtain ⟨F5, s5, _⟩ := ST.pop (⟨F, s4⟩ : ST B Γ C2 (tv a :: τ) σ (.str a :: ws) H2)
    exact ⟨a, p, ys, rfl, rfl, .inl (.inl hs), hz, q _ H2 (ST.push s5 rfl)⟩
/-! slices of texts -/
theorem ev_sliceS {tl th : TO} {lo hi : Option Int} {a : Str} (hz : a.length ≤ sizeLine) (h : Ev B te Γ C (tv a) C1) (h1 : EvO B tl Γ C1 lo C2) (h2 : EvO B th Γ C2 hi C3) : Ev B (tSl rSlS te tl th) Γ C (tv (cutS a lo hi)) C3 := fun τ σ ws H st Q q =>
  h τ σ ws H st _ fun v H1 s1 => h1 _ σ _ H1 s1 _ fun H2 s2 => h2 _ σ _ H2 s2 _ fun H3 s3 => by
    obtain ⟨F, s4, hv⟩ := s3.pop
    obtain rfl : v = .str a := hv
    exact ⟨a, rfl, hz, q _ H3 (ST.push s4 rfl)⟩
def cutSO (a : Str) (lo hi : Option Int) : Option Str := if a.length ≤ sizeLine then some (cutS a lo hi) else none
theorem cutSO_some {a r : Str} {lo hi : Option Int} (h : cutSO a lo hi = some r) : r = cutS a lo hi ∧ a.length ≤ sizeLine := by
  unfold cutSO at h
  split at h
  · cases h
    exact ⟨rfl, by assumption⟩
  · cases h
/-! a text some times -/
def mulS (a : Str) (n : Nat) : Str := ⟨(List.replicate n a.cps).foldl (· ++ ·) #[]⟩
def rMulS : R2 := fun x y H Q => ∃ (a : Str) (n : Int), x = .str a ∧ y = .int n ∧ 2 ≤ n ∧ n ≤ 1000 ∧ 0 < a.length ∧ a.length ≤ 1000 ∧ Q (.str (mulS a n.toNat)) H
theorem op_mulS {X : Cx} : OpR X (binaryOp .Mult) rMulS := by
  intro pins s σ H x y v u Q I rx ry h
  obtain ⟨a, n, rfl, rfl, h1, h2, h3, h4, q⟩ := h
  obtain ⟨t, rfl⟩ := rx
  obtain ⟨t', rfl⟩ := ry
  have e : (n == 1 || a.length == 0) = false := by
    have e1 : (n == 1) = false := by rw [beq_eq_false_iff_ne]; omega
    have e2 : (a.length == 0) = false := by rw [beq_eq_false_iff_ne]; omega
    rw [e1, e2]
    rfl
  have hm : a.length * n.toNat ≤ 1000 * 1000 := Nat.mul_le_mul h4 (by omega)
  have hd : (2 ^ 63 - 1 : Int) / 1000 ≤ (2 ^ 63 - 1) / n := by
    have : (2 ^ 63 - 1 : Int) / 1000 * n ≤ 2 ^ 63 - 1 := by
      have : (2 ^ 63 - 1 : Int) / 1000 * n ≤ (2 ^ 63 - 1 : Int) / 1000 * 1000 := by omega
      omega
    exact (Int.le_ediv_iff_mul_le (by omega)).mpr this
  refine PySem.P.mul_str (by rw [decide_eq_false (by omega), decide_eq_false (by omega)]; rfl) (fun _ _ => by omega) (fun _ _ => ?_) ?_
  · show decide (_ > _) = false
    exact decide_eq_false (by show ¬ (_ > sizeLine); rw [sizeLine_eq]; omega)
  · rw [if_neg (by omega), if_neg (by rw [e]; decide)]
    refine ⟨?_, ?_⟩
    · have hl : ∀ (k : Nat) (acc : Array Nat), ((List.replicate k a.cps).foldl (· ++ ·) acc).size = acc.size + k * a.cps.size := by
        intro k
        induction k with
        | zero => intro acc; simp
        | succ k ih =>
          intro acc
          rw [List.replicate_succ, List.foldl_cons, ih, Array.size_append, Nat.succ_mul]
          omega
      show ((List.replicate n.toNat a.cps).foldl (· ++ ·) #[]).size ≤ sizeLine
      rw [hl, sizeLine_eq]
      have hm2 : a.cps.size * n.toNat ≤ 1000 * 1000 := hm
      rw [Nat.mul_comm]
      show 0 + _ ≤ _
      omega
    · exact ⟨.str (mulS a n.toNat), H, I.tok _, ⟨_, rfl⟩, q⟩
def mulSO (a : Str) (n : Int) : Option Str := if 2 ≤ n ∧ n ≤ 1000 ∧ 0 < a.length ∧ a.length ≤ 1000 then some (mulS a n.toNat) else none
theorem mulSO_some {a r : Str} {n : Int} (h : mulSO a n = some r) : r = mulS a n.toNat ∧ 2 ≤ n ∧ n ≤ 1000 ∧ 0 < a.length ∧ a.length ≤ 1000 := by
  unfold mulSO at h
  split at h
  · cases h
    exact ⟨rfl, by assumption⟩
  · cases h
theorem os_mulS {a r : Str} {n : Int} (h : mulSO a n = some r) : OpS B C rMulS (tv a) (tv n) (tv r) := fun F H v w hf hv hw Q q => by
  obtain ⟨rfl, h1, h2, h3, h4⟩ := mulSO_some h
  obtain rfl : v = .str a := hv
  obtain rfl : w = .int n := hw
  exact ⟨a, n, rfl, rfl, h1, h2, h3, h4, q _ rfl⟩
/-! an item taken out of a list -/
def popO {α : Type} (xs : List α) (i : Int) : Option (α × List α) := if 0 ≤ i ∧ i < 2 ^ 62 then (xs[i.toNat]?).bind fun x => some (x, xs.eraseIdx i.toNat) else none
theorem popO_some {α : Type} {xs : List α} {i : Int} {r : α × List α} (h : popO xs i = some r) : 0 ≤ i ∧ i < 2 ^ 62 ∧ xs[i.toNat]? = some r.1 ∧ r.2 = xs.eraseIdx i.toNat := by
  unfold popO at h
  split at h
  · obtain ⟨x, h1, h2⟩ := bind_some h
    cases h2
    exact ⟨by omega, by omega, h1, rfl⟩
  · cases h
theorem All2.eraseIdx {α β : Type _} {R : α → β → Prop} : ∀ {as : List α} {bs : List β} (i : Nat), All2 R as bs → All2 R (as.eraseIdx i) (bs.eraseIdx i)
  | _, _, _, .nil => .nil
  | _, _, 0, .cons _ t => t
  | _, _, i + 1, .cons h t => .cons h (All2.eraseIdx i t)
theorem ev_popAt {α : Type} [Rp α] {p : Addr} {k : Nat} {xs ys : List α} {i : Int} {r : α × List α} (h : popO xs i = some r) (ho : Ev B ta Γ C (tv (Ptr.mk p)) C1) (ha : EvA B ca Γ C1 [tv i] C2) (hk1 : C1[k]? = some (p, .lst ys)) (hk : C2[k]? = some (p, .lst xs)) :
    Ev B (tBM B.K "list" rPopAt ta ca) Γ C (tv r.1) (C2.set k (p, .lst r.2)) := fun τ σ ws H st Q q =>
  ho τ σ ws H st _ fun v H1 s1 => by
    obtain ⟨F, s2, hv⟩ := s1.pop
    obtain rfl : v = .ref p := hv
    obtain ⟨i0, i1, hx, hr⟩ := popO_some h
    obtain ⟨_, ⟨o, h2, vs, rfl, h3⟩, _⟩ := s2.hf.cells _ (List.mem_of_getElem? hk1)
    refine ⟨.inl ⟨rfl, vs, .inl (.inl h2)⟩, ha τ σ ws H1 ⟨F, s2⟩ _ fun us H2 s3 hl => ?_⟩
    obtain ⟨F3, s4, hv4⟩ := EvA.out s3 hl
    cases hv4 with
    | cons g1 g2 =>
      cases g2
      obtain ⟨_, ⟨o, h5, vs5, rfl, h6⟩, _⟩ := s4.hf.cells _ (List.mem_of_getElem? hk)
      have h6' : All2 (Rp.rp B.K F3) vs5 xs := h6
      obtain ⟨w, hw, rw'⟩ := h6'.get hx
      have hlt := (List.getElem?_eq_some_iff.mp hw).1
      have hsx : seqIndex? i vs5.length = some i.toNat := by
        have e : (if i < 0 then i + (vs5.length : Int) else i) = i := if_neg (by omega)
        have e2 : (decide (0 ≤ i) && decide (i < (vs5.length : Int))) = true := by
          rw [decide_eq_true i0, decide_eq_true (show i < (vs5.length : Int) by omega)]
          rfl
        unfold seqIndex?
        simp only [e]
        rw [if_pos e2]
      refine ⟨p, vs5, i, i.toNat, w, rfl, by rw [g1], h5, by omega, by omega, hsx, hw, q _ _ (ST.push (x := tv r.1) ⟨s4.hf.write (c' := .lst r.2) hk ⟨_, rfl, ?_⟩, s4.slots, s4.temps⟩ rw')⟩
      rw [hr]
      exact h6'.eraseIdx _
end
end T
set_option Elab.async false
set_option linter.all false
set_option maxRecDepth 100000
set_option maxHeartbeats 2000000
set_option autoImplicit false
namespace T
open PySem PySem.Spec PyProof.Rows L2 RZ
open PySem.W (Frag)
/-! ### while, with its turns counted -/
def whileO {S : Type} (t : S → Option Bool) (f : S → Option S) : Nat → S → Option S
  | 0, _ => none
  | n + 1, s => (t s).bind fun b => if b = true then (f s).bind fun s' => whileO t f n s' else some s
section
variable {B : Bs} {F F' : Hp} {Γ Γ' Γ2 : List Sl} {C C' C1 C2 C3 : Cs} {τ : List TV} {σ : St} {ws : List V} {H H' : Hp} {x y z : TV} {c : Ct} {b b' : Bool}
variable {ta tc' te to : TE} {ca : TA} {D : EndT} {ts tu tw tb : TS} {wi : TI} {g : TG} {tc : TT} {js vs : List Nat}
theorem ss_whileO {S : Type} {t : S → Option Bool} {f : S → Option S} {n : Nat} {s0 s1 : S} (hf : whileO t f n s0 = some s1) (Γf : S → List Sl) (Cf : S → Cs) (w0 : Wk Γ (Γf s0)) (c0 : C = Cf s0)
    (ht : ∀ s b, t s = some b → EvT B tc (Γf s) (Cf s) b (Cf s))
    (hs : ∀ s s', t s = some true → f s = some s' → Ss B tb (Γf s) (Cf s) (loopE B D (Γf s') (Cf s')))
    (hd : Ss B tu (Γf s1) (Cf s1) D) : Ss B (tSeq (tWhile tc tb) tu) Γ C D := by
  subst c0
  intro τ σ ws H st E im
  have st0 : ST B (Γf s0) (Cf s0) τ σ ws H := st.weak w0
  refine ⟨fun m σ H => ∃ s, whileO t f m s = some s1 ∧ ST B (Γf s) (Cf s) τ σ ws H, ⟨n, s0, hf, st0⟩, ?_⟩
  rintro m σ2 H2 ⟨s, hm, st2⟩
  cases m with
  | zero => cases hm
  | succ m =>
    obtain ⟨b, hb, h1⟩ := bind_some (show (t s).bind _ = some s1 from hm)
    refine ht s b hb τ σ2 ws H2 st2 _ fun H3 st3 => ?_
    cases b with
    | false =>
      rw [if_neg Bool.false_ne_true] at h1 ⊢
      cases h1
      exact hd τ σ2 ws H3 st3 E im
    | true =>
      rw [if_pos rfl] at h1 ⊢
      obtain ⟨s', hs', h2⟩ := bind_some h1
      refine ⟨fun σ' H' => ST B (Γf s') (Cf s') τ σ' ws H', fun σ' H' z => ⟨m, Nat.lt_succ_self m, s', h2, z⟩, ?_⟩
      exact hs s s' hb hs' τ σ2 ws H3 st3 _ ⟨fun σ H z => z, im.rt, fun _ _ z => z.elim, fun σ H z => z⟩
end
end T
set_option Elab.async false
set_option linter.all false
set_option maxRecDepth 100000
set_option maxHeartbeats 2000000
set_option autoImplicit false
/-! several except clauses that name the exception -/
namespace L2N
open PySem PySem.Spec PyProof.Rows L2
def wManyAs (K : PySem.W.Frag) (i : Nat) (Wout : WX) (D : Ends) : List (Value × (Addr → Value → Option Addr → TS)) → WX
  | [] => Wout
  | p :: r => wAs K p.1 i p.2 (wManyAs K i Wout D r) D
inductive HdsAs (X : Cx) (n : Str) : List ExceptHandler → List (Value × (Addr → Value → Option Addr → TS)) → Prop
  | nil : HdsAs X n [] []
  | cons {x : Str} {c : Value} {ts : Addr → Value → Option Addr → TS} {b₀ : Stmt} {suite : List Stmt} {np pos' : Pos} {hds : List ExceptHandler} {l : List (Value × (Addr → Value → Option Addr → TS))} (hc : Names X x c)
      (hsu : ∀ (a : Addr) (oe : Obj) (cls : Value) (d : Option Addr) (pn : List (Addr × Obj)), Zn cls d oe → (∃ vs, oe.data = .fields vs) → PSs (X.suite a ((a, oe) :: pn)) (b₀ :: suite) (ts a cls d)) (r : HdsAs X n hds l) :
      HdsAs X n (.ExceptHandler (some (.Name x np)) (some n) (b₀ :: suite) pos' :: hds) ((c, ts) :: l)
section
variable {X : Cx} {n : Str} {i : Nat} {body : List Stmt} {h₀ : ExceptHandler} {hds : List ExceptHandler} {l : List (Value × (Addr → Value → Option Addr → TS))} {pos : Pos} {tb : WX → TS} {Wout : WX}
theorem ps_try_manyAs (hs : X.stack = X.env :: X.outer) (hf : X.env.frame = some X.env.locals) (hN : X.N.Nodup) (hi : X.N[i]? = some n) (hln : X.env.kindOf n = some .local) (tk : Takes X Wout)
    (hb : ∀ (W : WX) (pn : List (Addr × Obj)) (xe : Value → Shared → Prop), Takes (X.tr pn xe) W → PassesOwn (model X.prog X.w) X.A X.env xe → PSs (X.tr pn xe) body (tb W))
    (hh : HdsAs X n (h₀ :: hds) l) : PS X (.Try body (h₀ :: hds) [] [] pos) (fun D σ H => tb (wManyAs X.K i Wout D l) D σ H) := by
  refine ⟨fun pins s σ H D I h => ?_⟩
  have okX := I.ok; have hfr : X.A.frames = some (X.env :: X.outer) := by rw [okX.frames, hs]
  have hloc : Loc X.env.scope n := .inl hln
  refine wpAny_Try_except ?_
  refine wpAny_mono ((hb (wManyAs X.K i Wout D l) (X.pn ++ pins) (fun e s₁ => wpAny (model X.prog X.w) X.A (noteFrame e X.env) (fun _ s₂ => wpAny (model X.prog X.w) X.A (setFlight e none) (fun _ s₃ =>
    wpAny (model X.prog X.w) X.A (handleBy e X.env (h₀ :: hds)) (SP X pins D) X.xe s₃) X.xe s₂) X.xe s₁) (fun u s' xx => ?_) PassesOwn.looking).run [] s σ H D (I.toTry _) h) (fun f s1 hsp => ?_) (fun e s1 he => he)
  · obtain ⟨a, B, sI, pins', σ', H', cls, d, rfl, Jt, nb, up, sky, na, os, ag, ww⟩ := xx; have J : Inv X pins σ' H' sI := Jt.ofTry okX
    have sky2 : Sky B (X.env :: X.outer) a (Zn cls d) X.env.locals s'.heap := hs ▸ sky
    show wpAny (model X.prog X.w) X.A (noteFrame (.ref a) X.env) _ _ _; refine Sky.land Zn.steady hfr hf sky2 fun h3 fl3 up3 => ?_; have J3 : Inv X pins σ' H' { s' with heap := h3 } := J.landed nb fl3.1 (up.trans up3) os ag; obtain ⟨oe3, vs3, he3, hz3, hd3⟩ := fl3.there
    have noFrame : a ∉ frs (X.env :: X.outer) := fun hm => by obtain ⟨_, o', e', hnf⟩ := fl3.2.2.1.mem hm; rw [he3] at e'; cases e'; exact hnf _ hd3
    have nL : a ≠ X.env.locals := fun z => noFrame (List.mem_filterMap.mpr ⟨X.env, List.mem_cons_self, by rw [hf, z]⟩); have nF : a ∉ X.fs := fun hm => by obtain ⟨e, he, q⟩ := List.mem_filterMap.mp hm; exact noFrame (List.mem_filterMap.mpr ⟨e, List.mem_cons_of_mem _ he, q⟩)
    have S3 := J3.suite he3 hd3 na nL nF; have goes : ∀ {hds' : List ExceptHandler} {l' : List (Value × (Addr → Value → Option Addr → TS))}, HdsAs X n hds' l' → wManyAs X.K i Wout D l' cls d σ' H' →
        wpAny (model X.prog X.w) X.A (handleBy (.ref a) X.env hds') (SP X pins D) X.xe { s' with heap := h3 } := by
      intro hds' l' hk; induction hk with
      | nil =>
        intro ww; refine wpAny_handleBy_nil ?_; obtain ⟨k1, k2, k3, oe, vs, T, oT, ts', he, hz, hd, h1, hr⟩ := id fl3
        unfold PySem.passOn; refine wpAny_bind (wpAny_field he hd h1 ?_); rw [if_neg (show ¬ ((Value.ref T == Value.none) = true) from by simp)]
        have fin : wpAny (model X.prog X.w) X.A (setFlight (.ref a) X.env.frame) (fun _ s4 => wpAny (model X.prog X.w) X.A (throw (.ref a) : Sem Flow) (SP X pins D) X.xe s4) X.xe { s' with heap := h3 } := by rw [hf]; refine HandSPX.setFlight_upZ fl3 fun h4 hh4 up4 => wpAny_throw (tk _ _ ?_); exact ⟨a, B, sI, pins, σ', H', cls, d, rfl, J, nb, (up.trans up3).trans up4, .inr (.inr (by rw [hs]; exact hh4)), na, os, ag, ww⟩
        first | exact wpAny_bind (wpAny_pure (wpAny_bind fin)) | exact wpAny_bind fin
      | @cons x c ts b₀ suite np pos' hds2 l2 hc hsu r ih =>
        intro ww; obtain ⟨b, hb1, hyes, hno⟩ := ww; refine wpAny_handleBy_cons (codeAny_handlers_test ?_) (by intro q; cases q)
        have LT : PySem.W.Looks (model X.prog X.w) h3 (typeOf (.ref a)) cls := fun A Q E s k q => wpAny_typeOf_ref (k _ _ he3) (by rw [hz3.1]; exact q)
        have LM := PySem.W.exm_one (M := model X.prog X.w) (J3.kIn) LT hb1; have testC : ∀ {Q : Value → Shared → Prop} {E : Value → Shared → Prop}, Q c { s' with heap := h3 } → wpAny (model X.prog X.w) (X.A.mark (some (.ref a))) (eval (.Name x np) X.env) Q E { s' with heap := h3 } := fun {Q E} q => by
          obtain ⟨hg, hdbg, hm | ⟨hm, hv, hnn⟩⟩ := hc; · exact ld_glob (X := X.suite a ((a, oe3) :: (X.pn ++ pins))) S3 hg hm q hdbg
          · exact ld_blt (X := X.suite a ((a, oe3) :: (X.pn ++ pins))) S3 hg hm hv q hnn hdbg
        refine testC (LM.here ?_)
        cases b with
        | true =>
          refine codeAny_handlers_suite_as ?_; refine HandSPX.lands_againZ fl3 fun h4 fl4 up4 => ?_; have J4 : Inv X pins σ' H' { s' with heap := h4 } := J.landed nb fl4.1 ((up.trans up3).trans up4) os ag; obtain ⟨oe4, vs4, he4, hz4, hd4⟩ := fl4.there; have S4 := J4.suite he4 hd4 na nL nF
          refine store_ok (X := X.suite a ((a, oe4) :: (X.pn ++ pins))) (v := .ref a) S4 hN hi hloc rfl (fun s5 S5 => ?_) (.inr hln); refine wpAny_mono ((hsu a oe4 cls d (X.pn ++ pins) hz4 ⟨_, hd4⟩).run [] s5 _ H' _ S5 (hyes rfl a na)) (fun f s6 hsp => ?_) (fun _ _ z => False.elim z)
          have endOf : ∀ {σ6 : St} {H6 : Hp} {Q : Shared → Prop}, Inv (X.suite a ((a, oe4) :: (X.pn ++ pins))) [] σ6 H6 s6 → (∀ s7, Inv X pins (σ6.set i none) H6 s7 → Q s7) →
              wpAny (model X.prog X.w) X.A (do bindName X.env n .none; unbindBehindTheSuite X.env n pos') (fun _ s7 => Q s7) X.xe s6 := fun {σ6 H6 Q} S6 hq => gone_ok (S6.unsuite okX) hN hi hln hq
          cases f with
          | next => obtain ⟨σ6, H6, S6, q6⟩ := hsp; exact endOf S6 fun s7 J7 => ⟨_, _, J7, q6⟩
          | brk => obtain ⟨σ6, H6, S6, q6⟩ := hsp; exact endOf S6 fun s7 J7 => ⟨_, _, J7, q6⟩
          | cont => obtain ⟨σ6, H6, S6, q6⟩ := hsp; exact endOf S6 fun s7 J7 => ⟨_, _, J7, q6⟩
          | ret u => obtain ⟨v6, σ6, H6, S6, r6, q6⟩ := hsp; exact endOf S6 fun s7 J7 => ⟨_, _, _, J7, r6, q6⟩
        | false => show wpAny _ X.A (handleBy (.ref a) X.env hds2) _ _ _; exact ih (hno rfl)
    exact goes hh ww
  · cases f with
    | next => obtain ⟨σ', H', J', q⟩ := hsp; exact wpAny_execs_nil ⟨σ', H', J'.ofTry okX, q⟩
    | brk => obtain ⟨σ', H', J', q⟩ := hsp; exact ⟨σ', H', J'.ofTry okX, q⟩
    | cont => obtain ⟨σ', H', J', q⟩ := hsp; exact ⟨σ', H', J'.ofTry okX, q⟩
    | ret u => obtain ⟨v, σ', H', J', r, q⟩ := hsp; exact ⟨v, σ', H', J'.ofTry okX, r, q⟩
end
end L2N
/-! errors of two fields: raised, read -/
namespace L2
open PySem PySem.Spec PyProof.Rows RZ
section
variable {X : Cx} {C : Addr} {cn tx : Str}
def tMkF2 (C : Addr) (ta : TA) : St → Hp → XK → Prop := fun σ H Q => ta σ H fun vs H1 => ∃ v v2, vs = [v, v2] ∧ ∀ d, H1 d = none → Q (.ref C) (some d) (upd H1 d (.xd [("line", v2), ("text", v)]))
theorem pmk_f2 {a a' : Expr} {ta : TA} {p pos : Pos} {k : Nat} (T : FX.Txt2 X.prog X.K X.mg C cn tx) (hr : Room k X.A) (ha : PA X [a, a'] ta) (hg : Gl X cn) (hdb : (cn == ("__debug__" : Str)) = false := by decide)
    (he : starEach (a :: [a']) X.env = (false, eval a X.env) :: starEach [a'] X.env := by rfl) (hpl : (backTo pos (starEach [a'] X.env)).any (·.1) = false := by rfl) :
    L2N.PMk X (.Call (.Name cn p) [a, a'] [] pos) (tMkF2 C ta) := by
  intro pins s σ H Q I h
  refine wpAny_Call_Name_kw (ld_glob I hg T.gC ?_ hdb)
  refine PySem.W.callWith_K (h₀ := X.base) I.ok.mod.kin T.kC (thn (ha.run pos pins s σ H _ I h) fun us s1 hh => ?_) he hpl
  obtain ⟨vs, H1, I1, r1, v, v2, ev, q1⟩ := hh
  subst ev
  refine ⟨I1.kIn, ?_⟩
  obtain ⟨v', v2', ews, rv, rv2⟩ : ∃ v' v2', us = [v', v2'] ∧ RelV v v' ∧ RelV v2 v2' := by
    cases r1 with
    | cons rv rn => cases rn with
      | cons rv2 rn => cases rn; exact ⟨_, _, rfl, rv, rv2⟩
  subst ews
  show wpAny _ _ (call (.ref C) [v', v2']) _ _ _
  have hlim := I1.nolimit
  obtain ⟨mb, hb1, hb2⟩ := I1.mod.blt
  have Gm := I1.mod.glob.keeps I1.bk
  have Gb := hb1.keeps I1.bk
  have hbs : mb "super" = some (.type "super") := (hb2 "super" (by decide)).trans (by decide +kernel)
  obtain ⟨hp, g, dr, tk, os⟩ := s1
  refine wpAny_call (FX.made2 T I1.kIn Gm Gb hbs hlim (by have := hr.dp; omega) (by show 2 ≤ sizeLine; rw [sizeLine_eq]; decide) (fun _ _ _ _ _ _ _ _ _ _ _ _ => rfl) fun h' tk' e d M => ?_)
  show L2N.MkP X pins σ Q (.ref e) ⟨h', g, dr, tk', os⟩
  obtain ⟨t1, hoe⟩ := M.obj
  have hns := M.ns
  obtain ⟨G', g1, g2⟩ := restrict h' fun b => decide (b ≠ e)
  have gk : ∀ b, b ≠ e → G'.get? b = h'.get? b := fun b hb => g1 b (decide_eq_true hb)
  have ge : G'.get? e = none := g2 e (by simp)
  have old : ∀ b o, hp.get? b = some o → G'.get? b = some o := fun b o q => (gk b (Nat.ne_of_lt (Nat.lt_of_lt_of_le (Heap.lt_size q) M.new))).trans (M.keep b o q)
  have ob : ObjOk X.prog X.w (upd H1 d (.xd [("line", v2), ("text", v)])) G' d (.xd [("line", v2), ("text", v)]) :=
    ⟨_, hns.at (fun o q => (gk d M.dne).trans q), fun f => two_rel rv rv2 f⟩
  have J : Inv X pins σ (upd H1 d (.xd [("line", v2), ("text", v)])) ⟨G', g, dr, tk', os⟩ := I1.laid (t' := tk') old M.dbig ob
  refine ⟨e, _, _, ⟨G', g, dr, tk', os⟩, _, .ref C, some d, rfl, J, fun b o q => ?_, ge, hoe, ⟨rfl, rfl, fun vs e => by cases e; rfl⟩, rfl, rfl, ?_, rfl, I1.bare, raises_own T.exC T.tyC, q1 d (I1.hok.fresh M.dbig)⟩
  · by_cases hb : b = e
    · have q' : G'.get? b = some o := q
      rw [hb, ge] at q'; cases q'
    · exact (gk b hb).symm.trans q
  · rw [upd_ne (Ne.symm M.dne)]
    exact I1.hok.fresh M.new
def tRaiseF2 (C : Addr) (ta : TA) (W : WX) : TS := fun _ σ H => tMkF2 C ta σ H fun cls d H' => W cls d σ H'
theorem ps_raiseF2 {a a' : Expr} {ta : TA} {W : WX} {p pos pos2 : Pos} {k : Nat} (hc : X.calm = true) (T : FX.Txt2 X.prog X.K X.mg C cn tx) (hr : Room k X.A) (tk : L2N.Takes X W) (ha : PA X [a, a'] ta) (hg : Gl X cn) (hdb : (cn == ("__debug__" : Str)) = false := by decide)
    (he : starEach (a :: [a']) X.env = (false, eval a X.env) :: starEach [a'] X.env := by rfl) (hpl : (backTo pos (starEach [a'] X.env)).any (·.1) = false := by rfl) :
    PS X (.Raise (some (.Call (.Name cn p) [a, a'] [] pos)) none pos2) (tRaiseF2 C ta W) := L2N.ps_raise hc tk (pmk_f2 T hr ha hg hdb he hpl)
/-- e.fld of it, in the suite -/
def tByX (C : Addr) (fld : Str) (a : Addr) (cls : Value) (d : Option Addr) (te : TE) : TE := fun σ H Q => te σ H fun x H1 => x = .ref a ∧ cls = .ref C ∧ ∃ (dd : Addr) (fs : List (Str × V)) (v : V), d = some dd ∧ H1 dd = some (.xd fs) ∧ fs.lookup fld = some v ∧ Q v H1
theorem pe_byX {fld : Str} {a : Addr} {oe : Obj} {cls : Value} {d : Option Addr} {pn : List (Addr × Obj)} {e : Expr} {te : TE} {pos : Pos} (T : FX.Txt2 X.prog X.K X.mg C cn tx) (hno : PySem.W.findIn X.K (.ref C) fld = some none) (hz : L2N.Zn cls d oe) (hf : ∃ vs, oe.data = .fields vs) (he : PE (X.suite a ((a, oe) :: pn)) e te)
    (hb : attributeBase e fld X.env (eval e X.env) = eval e X.env := by rfl) :
    PE (X.suite a ((a, oe) :: pn)) (.Attribute e fld pos) (tByX C fld a cls d te) := by
  refine ⟨fun pins s σ H Q I h => ?_⟩
  refine attr_of hb (thn (he.run pins s σ H _ I h) fun u s1 hh => ?_)
  obtain ⟨x, H1, I1, rx, ex, ec, dd, fs, v, ed, ea, l, q⟩ := hh
  subst ex
  obtain rfl : u = Value.ref a := rx
  subst ec
  subst ed
  obtain ⟨ha, _⟩ := I1.pin (a, oe) (List.mem_append_left _ List.mem_cons_self)
  obtain ⟨vs, hd⟩ := hf
  have hx : ObjOk X.prog X.w H1 s1.heap dd (.xd fs) := I1.hok dd _ ea
  obtain ⟨mA, hns, hr⟩ := hx
  obtain ⟨od, ho, hl⟩ := lookIn_ns hns
  obtain ⟨u, hu, ru⟩ := RelO.some_of (v := v) (o := mA fld) (by rw [← l]; exact hr fld)
  have J : PySem.W.InstAt s1.heap a oe C (some od) := ⟨ha, hz.1, by unfold PySem.W.notCls; rw [hd] <;> rfl, by rw [hz.2.1]; exact ho⟩
  exact HandSPX.exc_get I1.kIn J T.ga T.gg T.exC (PySem.W.findObj_own T.hdC hno rfl (by rw [hl, hu])) (handed_of ru) ⟨v, H1, I1.tok _, ru, q⟩
end
end L2
set_option Elab.async false
set_option linter.all false
set_option maxRecDepth 100000
set_option maxHeartbeats 2000000
set_option autoImplicit false
namespace T
open PySem PySem.Spec PyProof.Rows L2
open PySem.W (Frag)
/-! ### exceptions -/
/-- an error of the class at C that keeps its fields -/
structure Ef where
  C : Addr
  fs : List (Str × TV)
def efOk (K : Frag) (F : Hp) (e : Ef) (cls : Value) (d : Option Addr) : Prop := cls = .ref e.C ∧ ∃ dd fs, d = some dd ∧ F dd = some (.xd fs) ∧ All2 (FldOk K F) fs e.fs
theorem efOk.mono {K : Frag} {F F' : Hp} {e : Ef} {cls : Value} {d : Option Addr} (s : Same F F') (h : efOk K F e cls d) : efOk K F' e cls d :=
  let ⟨h1, dd, v, h2, h3, h4⟩ := h; ⟨h1, dd, v, h2, s _ _ h3, h4.mono fun _ _ q => q.mono s⟩
/-- where an error leaves a def -/
def RetF (B : Bs) (e : Ef) (C : Cs) : XK := fun cls d H => ∃ F, HF B F C H ∧ efOk B.K F e cls d
/-- where an error is thrown -/
def RchF (B : Bs) (Γ : List Sl) (C : Cs) (e : Ef) (τ : List TV) (ws : List V) : Value → Option Addr → St → Hp → Prop := fun cls d σ H => ∃ F, SF B F Γ C τ σ ws H ∧ efOk B.K F e cls d
abbrev SpecF := List TV → Cs → Ef → Cs → Prop
def SpF (X : SpecF) (K : Frag) (vs : List V) (H : Hp) (E : XK) : Prop := ∃ F args C e C', X args C e C' ∧ C'.map (·.1) = C.map (·.1) ∧ Entry K F args C vs H ∧ ∀ cls d H', RetF (Bs.at K H F C) e C' cls d H' → E cls d H'
def SpVF (S : SpecV) (X : SpecF) (K : Frag) : Sp := fun vs H Q E => SpV S K vs H Q E ∨ SpF X K vs H E
def SpNY (S : SpecN) (X : SpecF) (K : Frag) : Sp := fun vs H Q E => SpN S K vs H Q E ∨ SpF X K vs H E
/-- an expression that throws e -/
def EvF (B : Bs) (t : WX → TE) (Γ : List Sl) (C : Cs) (e : Ef) (C' : Cs) : Prop :=
  ∀ τ σ ws H, ST B Γ C τ σ ws H → ∀ (W : WX) (Q : VK), (∀ cls d H', RchF B Γ C' e τ ws cls d σ H' → W cls d σ H') → t W σ H Q
/-- statements that throw e -/
def SsF (B : Bs) (t : WX → TS) (Γ : List Sl) (C : Cs) (e : Ef) (Γ' : List Sl) (C' : Cs) : Prop :=
  ∀ τ σ ws H, ST B Γ C τ σ ws H → ∀ (W : WX) (E : Ends), (∀ cls d σ' H', RchF B Γ' C' e τ ws cls d σ' H' → W cls d σ' H') → t W E σ H
section
variable {B : Bs} {F F' : Hp} {Γ Γ' Γ2 : List Sl} {C C' C1 C2 C3 R : Cs} {τ : List TV} {σ : St} {ws : List V} {H H' : Hp} {x y z : TV} {c d : Ct}
variable {ta tb' te td ty : TE} {ca : TA} {D : EndT} {ts tu tw tb : TS} {wi : TI} {g : TG} {e : Ef}
theorem HF.enterF (h : HF B F (C ++ R) H) {e : Ef} {cls : Value} {d : Option Addr} (hk : C'.map (·.1) = C.map (·.1)) (hr : RetF (Bs.at B.K H F C) e C' cls d H') : ∃ F', HF B F' (C' ++ R) H' ∧ Same F F' ∧ efOk B.K F' e cls d := by
  obtain ⟨F', h1, h2⟩ := hr
  exact ⟨F', h.leave (N := []) (C' := C') h1 hk (fun _ z => nomatch z), h1.base, h2⟩
/-- a call that throws -/
theorem evf_callA {S : SpecV} {X : SpecF} {xs : List TV} {Cp Cp' R : Cs} (ha : EvA B ca Γ C xs C1) (hp : C1.Perm (Cp ++ R)) (hp' : (Cp' ++ R).Perm C2) (hk : Cp'.map (·.1) = Cp.map (·.1)) (hX : X xs Cp e Cp') : EvF B (fun W => tCallS (SpVF S X B.K) (WE W) ca) Γ C e C2 := fun τ σ ws H st W Q q =>
  ha τ σ ws H st _ fun vs H1 s1 hl => by
    obtain ⟨F, s2, hv⟩ := EvA.out s1 hl
    refine .inr ⟨F, xs, Cp, e, Cp', hX, hk, ⟨hv, (s2.hf.perm hp).enter⟩, fun cls d H' hr => ?_⟩
    obtain ⟨F', h1, h2, h3⟩ := (s2.hf.perm hp).enterF hk hr
    exact q cls d H' ⟨F', (s2.to h2 (h1.perm hp')), h3⟩
theorem evf_call {S : SpecV} {X : SpecF} {xs : List TV} (ha : EvA B ca Γ C xs C1) (hX : X xs [] e []) : EvF B (fun W => tCallS (SpVF S X B.K) (WE W) ca) Γ C e C1 := evf_callA (Cp := []) (Cp' := []) (R := C1) ha (.refl _) (.refl _) rfl hX
theorem evf_callAN {S : SpecN} {X : SpecF} {xs : List TV} {Cp Cp' R : Cs} (ha : EvA B ca Γ C xs C1) (hp : C1.Perm (Cp ++ R)) (hp' : (Cp' ++ R).Perm C2) (hk : Cp'.map (·.1) = Cp.map (·.1)) (hX : X xs Cp e Cp') : EvF B (fun W => tCallS (SpNY S X B.K) (WE W) ca) Γ C e C2 := fun τ σ ws H st W Q q =>
  ha τ σ ws H st _ fun vs H1 s1 hl => by
    obtain ⟨F, s2, hv⟩ := EvA.out s1 hl
    refine .inr ⟨F, xs, Cp, e, Cp', hX, hk, ⟨hv, (s2.hf.perm hp).enter⟩, fun cls d H' hr => ?_⟩
    obtain ⟨F', h1, h2, h3⟩ := (s2.hf.perm hp).enterF hk hr
    exact q cls d H' ⟨F', (s2.to h2 (h1.perm hp')), h3⟩
theorem evf_callN {S : SpecN} {X : SpecF} {xs : List TV} (ha : EvA B ca Γ C xs C1) (hX : X xs [] e []) : EvF B (fun W => tCallS (SpNY S X B.K) (WE W) ca) Γ C e C1 := evf_callAN (Cp := []) (Cp' := []) (R := C1) ha (.refl _) (.refl _) rfl hX
/-- .. that does not -/
theorem ev_callVF {S : SpecV} {X : SpecF} {E : St → XK} {xs : List TV} (ha : EvA B ca Γ C xs C1) (hS : S xs [] x []) : Ev B (tCallS (SpVF S X B.K) E ca) Γ C x C1 := fun τ σ ws H st Q q =>
  ha τ σ ws H st _ fun vs H1 s1 hl => .inl (by
    obtain ⟨F, s2, hv⟩ := EvA.out s1 hl
    have hfp := s2.hf.perm (C' := ([] : Cs) ++ C1) (.refl _)
    refine ⟨F, xs, [], x, [], hS, rfl, ⟨hv, hfp.enter⟩, fun v H' ⟨F', h1, h2⟩ => ?_⟩
    have := hfp.leave (N := []) (C' := []) h1 rfl (fun _ z => nomatch z)
    exact q v H' (ST.push (s2.to h1.base this) h2))
theorem evn_callNY {S : SpecN} {X : SpecF} {E : St → XK} {xs : List TV} (ha : EvA B ca Γ C xs C1) (hS : S xs [] c []) : EvN B (tCallS (SpNY S X B.K) E ca) Γ C c C1 := fun τ σ ws H st Q q =>
  ha τ σ ws H st _ fun vs H1 s1 hl => .inl (by
    obtain ⟨F, s2, hv⟩ := EvA.out s1 hl
    have hfp := s2.hf.perm (C' := ([] : Cs) ++ C1) (.refl _)
    refine ⟨F, xs, [], c, [], hS, rfl, ⟨hv, hfp.enter⟩, fun v H' ⟨p, F', e, hB, hP, h1⟩ => ?_⟩
    subst e
    have hpn : H1 p = none := hB
    have := hfp.leave (N := [(p, c)]) (C' := []) h1 rfl (fun z hz => by
      obtain rfl := List.mem_singleton.mp hz
      exact hpn)
    exact q p H' (s2.hf.free hpn).2.2 (s2.hf.free hpn).2.1 ⟨F', this, s2.slots.slots_mono h1.base, s2.temps.temps_mono h1.base⟩)
/-- a statement that throws, in a def's body -/
theorem leaveF {E : XK} (s : C'.Sublist C) (hE : ∀ cls d H, RetF B e C' cls d H → E cls d H) {cls : Value} {d : Option Addr} (h : RchF B Γ C e τ ws cls d σ H) : WD E cls d σ H :=
  let ⟨F, h1, h2⟩ := h; hE cls d H ⟨F, h1.hf.sublist s, h2⟩
theorem ss_setF {E : XK} {t : WX → TE} (h : EvF B t Γ C e C1) (s : C'.Sublist C1) (hE : ∀ cls d H, RetF B e C' cls d H → E cls d H) : Ss B (tSeq (tAsg (t (WD E)) g) tu) Γ C D := fun τ σ ws H st E' im =>
  h τ σ ws H st (WD E) _ fun cls d H' hr => leaveF s hE hr
/-- a def that may throw -/
theorem body_vf {S : SpecV} {X : SpecF} {K : Frag} {t : TS} {N : List Str} {vs : List V} {H : Hp} {Q : VK} {E : XK} (hS : SpVF S X K vs H Q E)
    (h : ∀ B args C r C', B.K = K → B.P = C.map (·.1) → S args C r C' → Ss B t (args.map some ++ List.replicate (N.length - args.length) none) C (endV B r C'))
    (hx : ∀ B args C e C', B.K = K → B.P = C.map (·.1) → X args C e C' → (∀ cls d H', RetF B e C' cls d H' → E cls d H') → Ss B t (args.map some ++ List.replicate (N.length - args.length) none) C endX) : t { nx := fun _ H' => Q .non H', rt := Q } (L2.start N vs) H := by
  rcases hS with hS | ⟨F, args, C, e, C', hs, hk, en, q⟩
  · exact body_v hS h
  · exact hx (Bs.at K H F C) args C e C' rfl rfl hs q [] (L2.start N vs) [] H ⟨F, en.hf, start_ok en.vals, .nil⟩ _ ⟨fun _ _ z => z.elim, fun _ _ z => z.elim, fun _ _ z => z.elim, fun _ _ z => z.elim⟩
theorem body_nf {S : SpecN} {X : SpecF} {K : Frag} {t : TS} {N : List Str} {vs : List V} {H : Hp} {Q : VK} {E : XK} (hS : SpNY S X K vs H Q E)
    (h : ∀ B args C r C', B.K = K → B.P = C.map (·.1) → S args C r C' → Ss B t (args.map some ++ List.replicate (N.length - args.length) none) C (endN B r C'))
    (hx : ∀ B args C e C', B.K = K → B.P = C.map (·.1) → X args C e C' → (∀ cls d H', RetF B e C' cls d H' → E cls d H') → Ss B t (args.map some ++ List.replicate (N.length - args.length) none) C endX) : t { nx := fun _ H' => Q .non H', rt := Q } (L2.start N vs) H := by
  rcases hS with hS | ⟨F, args, C, e, C', hs, hk, en, q⟩
  · exact body_n hS h
  · exact hx (Bs.at K H F C) args C e C' rfl rfl hs q [] (L2.start N vs) [] H ⟨F, en.hf, start_ok en.vals, .nil⟩ _ ⟨fun _ _ z => z.elim, fun _ _ z => z.elim, fun _ _ z => z.elim, fun _ _ z => z.elim⟩
theorem len_vf {S : SpecV} {X : SpecF} {K : Frag} {n : Nat} (h : ∀ args C r C', S args C r C' → args.length = n) (hx : ∀ args C r C', X args C r C' → args.length = n) : ∀ vs H Q E, SpVF S X K vs H Q E → vs.length = n := fun vs H Q E hs =>
  hs.elim (len_v h vs H Q E) fun ⟨F, args, C, r, C', hs, _, en, _⟩ => en.vals.length.trans (hx _ _ _ _ hs)
theorem len_nf {S : SpecN} {X : SpecF} {K : Frag} {n : Nat} (h : ∀ args C r C', S args C r C' → args.length = n) (hx : ∀ args C r C', X args C r C' → args.length = n) : ∀ vs H Q E, SpNY S X K vs H Q E → vs.length = n := fun vs H Q E hs =>
  hs.elim (len_n h vs H Q E) fun ⟨F, args, C, r, C', hs, _, en, _⟩ => en.vals.length.trans (hx _ _ _ _ hs)
/-! a statement that raises -/
theorem ssf_raise {Cc : Addr} {fld : Str} (h : EvA B ca Γ C [x] C1) : ∀ τ σ ws H, ST B Γ C τ σ ws H → ∀ (W : WX) (E : Ends), (∀ cls d H', RchF B Γ C1 ⟨Cc, [(fld, x)]⟩ τ ws cls d σ H' → W cls d σ H') → tRaiseF Cc fld ca W E σ H := fun τ σ ws H st W E q =>
  h τ σ ws H st _ fun vs H1 s1 hl => by
    obtain ⟨F, s2, hv⟩ := EvA.out s1 hl
    cases hv with
    | cons h1 h2 =>
      cases h2
      refine ⟨_, rfl, fun dd hd => q _ _ _ ?_⟩
      obtain ⟨hf, sF, sH⟩ := s2.hf.laid (o := .xd [(fld, _)]) hd
      exact ⟨_, s2.to sF hf, rfl, dd, _, rfl, upd_same, .cons ⟨rfl, h1.mono sF⟩ .nil⟩
theorem ssf_raise2 {Cc : Addr} (h : EvA B ca Γ C [x, y] C1) : ∀ τ σ ws H, ST B Γ C τ σ ws H → ∀ (W : WX) (E : Ends), (∀ cls d H', RchF B Γ C1 ⟨Cc, [("line", y), ("text", x)]⟩ τ ws cls d σ H' → W cls d σ H') → tRaiseF2 Cc ca W E σ H := fun τ σ ws H st W E q =>
  h τ σ ws H st _ fun vs H1 s1 hl => by
    obtain ⟨F, s2, hv⟩ := EvA.out s1 hl
    cases hv with
    | cons h1 h2 =>
      cases h2 with
      | cons h2 h3 =>
        cases h3
        refine ⟨_, _, rfl, fun dd hd => q _ _ _ ?_⟩
        obtain ⟨hf, sF, sH⟩ := s2.hf.laid (o := .xd [("line", _), ("text", _)]) hd
        exact ⟨_, s2.to sF hf, rfl, dd, _, rfl, upd_same, .cons ⟨rfl, h2.mono sF⟩ (.cons ⟨rfl, h1.mono sF⟩ .nil)⟩
/-! try -/
/-- the error that a suite holds -/
structure Exf where
  a : Addr
  dd : Addr
  ok : Frag → Hp → List (Str × V) → Prop
  mo : ∀ {K : Frag} {F F' : Hp} {v : List (Str × V)}, Same F F' → ok K F v → ok K F' v
abbrev exf (a dd : Addr) (fs : List (Str × TV)) : Exf := ⟨a, dd, fun K F v => All2 (FldOk K F) v fs, fun s h => h.mono fun _ _ q => q.mono s⟩
instance : Rp Exf := ⟨fun K F v e => v = .ref e.a ∧ ∃ w, F e.dd = some (.xd w) ∧ e.ok K F w, fun {_ _ _ _ e} s h => ⟨h.1, let ⟨w, h1, h2⟩ := h.2; ⟨w, s _ _ h1, e.mo s h2⟩⟩⟩
/-- the body throws: a call, its value told, dropped, returned -/
theorem ssf_ret {t : WX → TE} (h : EvF B t Γ C e C1) : SsF B (fun W => tRet (t W)) Γ C e Γ C1 := fun τ σ ws H st W E q => h τ σ ws H st W _ fun cls d H' hr => q cls d σ H' hr
abbrev tTryM (K : Frag) (i : Nat) (l : List (Value × (Addr → Value → Option Addr → TS))) (tb : WX → TS) (Wout : WX) : TS := fun D σ H => tb (L2N.wManyAs K i Wout D l) D σ H
/-- the clause that takes it -/
theorem ss_tryM {i : Nat} {tb : WX → TS} {l1 l2 : List (Value × (Addr → Value → Option Addr → TS))} {Cc : Value} {ts : Addr → Value → Option Addr → TS} {Wout : WX} (hb : SsF B tb Γ C e Γ' C1) (hn : ∀ p ∈ l1, PySem.W.exmOne B.K (.ref e.C) p.1 = some false) (he : PySem.W.exmOne B.K (.ref e.C) Cc = some true)
    (hs : ∀ a dd, Ss B (ts a (.ref e.C) (some dd)) (Γ'.set i (some (tv (exf a dd e.fs)))) C1 (endS D i)) : Ss B (tTryM B.K i (l1 ++ (Cc, ts) :: l2) tb Wout) Γ C D := fun τ σ ws H st E im =>
  hb τ σ ws H st _ _ fun cls d σ' H' ⟨F, s1, h1, dd, v, h2, h3, h4⟩ => by
    subst h1 h2
    induction l1 with
    | nil =>
      refine ⟨true, he, fun _ a _ => ?_, fun z => nomatch z⟩
      refine hs a dd τ (σ'.set i (some (.ref a))) ws H' ⟨F, s1.hf, ?_, s1.temps⟩ _ ⟨fun σ H h => im.nx _ _ h, im.rt, fun σ H h => im.bk _ _ h, fun σ H h => im.ct _ _ h⟩
      exact s1.slots.set (fun t q => by cases q; exact ⟨_, rfl, rfl, v, h3, h4⟩) i
    | cons p l1 ih => exact ⟨false, hn p List.mem_cons_self, fun z => (nomatch z), fun _ => ih fun q hq => hn q (List.mem_cons_of_mem _ hq)⟩
theorem fld_get {K : Frag} {F : Hp} {f : Str} {x : TV} : ∀ {vs : List (Str × V)} {fs : List (Str × TV)}, All2 (FldOk K F) vs fs → fs.lookup f = some x → ∃ w, vs.lookup f = some w ∧ x.ok K F w
  | _, _, .nil, h => nomatch h
  | (a, v) :: vs, (b, y) :: fs, .cons h r, e => by
    obtain ⟨h1, h2⟩ := h
    have h1' : a = b := h1
    subst h1'
    rw [List.lookup_cons] at e ⊢
    cases q : f == a with
    | true =>
      rw [q] at e
      cases e
      exact ⟨v, rfl, h2⟩
    | false =>
      rw [q] at e
      exact fld_get r e
/-- what the error keeps -/
theorem ev_byX {Cc a dd : Addr} {fld : Str} {fs : List (Str × TV)} {i : Nat} (hi : Γ[i]? = some (some (tv (exf a dd fs)))) (hl : fs.lookup fld = some x) : Ev B (tByX Cc fld a (.ref Cc) (some dd) (tVar i)) Γ C x C := fun τ σ ws H st Q q => by
  obtain ⟨F, s⟩ := st
  obtain ⟨s1, h1, h2⟩ := s.slots.get hi
  obtain ⟨v, rfl, rfl, w, h4, h5⟩ := h2 _ rfl
  obtain ⟨u, h6, h7⟩ := fld_get h5 hl
  exact ⟨_, h1, rfl, rfl, dd, w, u, rfl, s.hf.sub _ _ h4, h6, q u H (ST.push s h7)⟩
theorem ev_byF1 {Cc a dd : Addr} {fld : Str} {i : Nat} (hi : Γ[i]? = some (some (tv (exf a dd [(fld, x)])))) : Ev B (tByF Cc fld a (.ref Cc) (some dd) (tVar i)) Γ C x C := fun τ σ ws H st Q q => by
  obtain ⟨F, s⟩ := st
  obtain ⟨s1, h1, h2⟩ := s.slots.get hi
  obtain ⟨v, rfl, rfl, w, h4, h5⟩ := h2 _ rfl
  cases h5 with
  | @cons p _ _ _ g r =>
    cases r
    obtain ⟨g1, g2⟩ := g
    obtain ⟨p1, p2⟩ := p
    have g1' : p1 = fld := g1
    subst g1'
    exact ⟨_, h1, rfl, rfl, dd, _, rfl, s.hf.sub _ _ h4, q _ H (ST.push s g2)⟩
end
end T
set_option Elab.async false
set_option linter.all false
set_option maxRecDepth 100000
set_option maxHeartbeats 2000000
set_option autoImplicit false
/-! a lambda without parameters, handed to a def beside another thing -/
namespace LamX
open PySem PySem.Spec PyProof.Rows L2
section
variable {X : Cx} {pins : List (Addr × Obj)} {σ : L2.St} {H HZ : Hp} {s s1 : Shared}
/-- the lambda is made: the table, the code object told -/
theorem lam_make5 {c P : Addr} {q : Str} {params : Arguments} {body : Expr} {scope : Scope} {pos : Pos} {E : Value → Shared → Prop} {Q : Value → Shared → Prop} {ps : Array Value} (I : Inv X pins σ H s) (TB : TabB X.base X.mg c P) (hcode : X.env.code = .ref c) (hq : q = X.env.qual ++ "<lambda>")
    (hP : H P = some (.tbl ps)) (ht : TriplesOk ps.toList) (ha : ∀ (pos : Pos) (cv : Value), codeAmong pos ps.toList = some cv → ∃ c, cv = .ref c ∧ H c = some (CodeO c q)) (hdef : defaultsOf params X.env = ([], [])) (hfree : ∀ y ∈ scope.names, y.2 = .free → ∃ c, X.env.cells.lookup y.1 = some c)
    (h : ∀ (f c' : Addr) (pm ctv : Value) (H1 : Hp) (s' : Shared), Inv X pins σ H1 s' → Look1 H P q ps c' H1 → s'.heap.get? f = some (PySem.W.kla_obj "<lambda>" q params body scope (cloFrom X.env.cells scope.names []) pm c' ctv) → H1 f = none → s.heap.objs.size ≤ f → f ∉ frs X.stack → H1 c' = some (CodeO c' q) → Q (.ref f) s') :
    wpAny (model X.prog X.w) X.A (eval (.Lambda params body scope pos) X.env) Q E s := by
  subst hq
  refine PySem.W.kla_eval hdef ?_
  have bP : s.heap.BuiltinsAt X.mg P := TB.bm.keeps I.bk
  have hP' : s.heap.get? P = some { cls := .none, data := .fields ps } := I.hok P _ hP
  have nofr : ∀ f, s.heap.objs.size ≤ f → f ∉ frs X.stack := fun f hf z => (List.mem_cons.mp (I.stkSub _ z)).elim (fun e => Nat.lt_irrefl _ (Nat.lt_of_lt_of_le (e ▸ I.lt) hf)) (I.nofs hf)
  cases hc : codeAmong pos ps.toList with
  | none =>
    refine PySem.W.kla_makeFunction (mg := X.mg) (c := c) (P := P) (ps := ps) (closure_ok hfree) I.ok.glob (I.mod.glob.keeps I.bk) hcode (TB.code.keeps I.bk) hP' ht hc TB.gP bP fun c' ctv h' tk hx hge hlt hrec htb => ?_
    obtain ⟨c2, oc, vs, t, e2, hoc, hd, hv⟩ := hrec; cases e2
    have hsz : s.heap.objs.size ≤ h'.objs.size := Nat.le_trans hge (Nat.le_of_lt hlt); have nC : H c' = none := I.hok.fresh hge
    have I1 := inv_table (t' := tk) (more := #[rawInt pos.line, rawInt pos.col, .ref c']) (h' := h'.push (PySem.W.kla_obj "<lambda>" (X.env.qual ++ "<lambda>") params body scope (cloFrom X.env.cells scope.names []) ((X.mg "__name__").getD .none) c' ctv)) I hP
      (fun b o hb e => Heap.get?_push_of_some _ (hx b o hb e)) (Heap.get?_push_of_some _ htb) hge ⟨oc, vs, t, Heap.get?_push_of_some _ hoc, hd, hv⟩
    have eL : (ps ++ #[rawInt pos.line, rawInt pos.col, .ref c']).toList = ps.toList ++ [rawInt pos.line, rawInt pos.col, .ref c'] := by simp
    refine h h'.objs.size c' ((X.mg "__name__").getD .none) ctv _ _ I1 (.inr ⟨_, by rw [eL]; exact PySem.TriplesOk_snoc _ _ _ _ ht, fun p' cv hcv => ?_, nC, rfl⟩) (Heap.get?_push_size _ rfl) ?_ hsz (nofr _ hsz) upd_same
    · rw [eL] at hcv; exact among_app _ ht hcv
    · have n1 : h'.objs.size ≠ c' := Nat.ne_of_gt hlt; have n2 : h'.objs.size ≠ P := Nat.ne_of_gt (Nat.lt_of_lt_of_le (Heap.lt_size hP') hsz)
      rw [upd_ne n1, upd_ne n2]; exact I.hok.fresh hsz
  | some cv =>
    obtain ⟨c', e, hco⟩ := ha pos cv hc
    subst e
    refine PySem.W.kla_makeFunctionHit (mg := X.mg) (c := c) (P := P) (ps := ps) (closure_ok hfree) I.ok.glob (I.mod.glob.keeps I.bk) hcode (TB.code.keeps I.bk) hP' ht hc bP fun ctv h' tk hx hsz => ?_
    have I1 : Inv X pins σ H { s with heap := h'.push (PySem.W.kla_obj "<lambda>" (X.env.qual ++ "<lambda>") params body scope (cloFrom X.env.cells scope.names []) ((X.mg "__name__").getD .none) c' ctv), toks := tk } := I.kept fun b o e => Heap.get?_push_of_some _ (hx b o e)
    exact h h'.objs.size c' ((X.mg "__name__").getD .none) ctv H _ I1 (.inl ⟨rfl, pos, hc⟩) (Heap.get?_push_size _ rfl) (I.hok.fresh hsz) hsz (nofr _ hsz) hco
theorem Inv.pinF {f : Addr} {o : Obj} {sz : Nat} (I : Inv X pins σ H s) (e : s.heap.get? f = some o) (n : H f = none) (nl : f ≠ X.env.locals) (nf : f ∉ X.fs) (nc : ∀ v, o.data ≠ .cell v) : Inv X ((f, o) :: pins) σ H s :=
  ⟨I.ok, I.os, I.bare, I.base, I.loc, I.cell, I.free, I.freeC, fun p hp => by
    rcases List.mem_append.mp hp with h | h
    · exact I.pin p (List.mem_append_left _ h)
    · rcases List.mem_cons.mp h with rfl | h
      · exact ⟨e, n, nl, nf, nc⟩
      · exact I.pin p (List.mem_append_right _ h), I.hok, I.len⟩
theorem Inv.unpin {p : Addr × Obj} (I : Inv X (p :: pins) σ H s) : Inv X pins σ H s ∧ s.heap.get? p.1 = some p.2 ∧ H p.1 = none :=
  ⟨⟨I.ok, I.os, I.bare, I.base, I.loc, I.cell, I.free, I.freeC, fun q hq => I.pin q ((List.mem_append.mp hq).elim (fun h => List.mem_append_left _ h) fun h => List.mem_append_right _ (List.mem_cons_of_mem _ h)), I.hok, I.len⟩,
    let z := I.pin p (List.mem_append_right _ List.mem_cons_self); ⟨z.1, z.2.1⟩⟩
end
/-- the context of the lambda's body -/
def lamCxN (X : Cx) (A : Around) (outer : List Env) (s : Shared) (H : Hp) (E : XK) (scope : Scope) (f c' : Addr) : Cx :=
  { lamCx X A outer s H E scope f c' with
    xe := fun e s' => wpAny (model X.prog X.w) (A.deeper (lamEnv X scope s.heap.objs.size f c')) (leaving (lamEnv X scope s.heap.objs.size f c') e) (fun _ s'' => L2N.CX X.prog X.w outer H s E e s'') (fun e' s'' => L2N.CX X.prog X.w outer H s E e' s'') s' }
section
variable {X : Cx} {pins : List (Addr × Obj)} {σ : L2.St} {H HZ : Hp} {s s1 : Shared}
theorem lam_startN {A : Around} {outer : List Env} {E : XK} {scope : Scope} {f c' : Addr} {h₁ : Heap} {tk : Nat} (I : Inv X pins σ H s) (L : LamS X.env.scope scope) (e0 : Env0 X.prog X.w X.K X.mg X.base A outer s1 HZ) (hd : A.handled = none)
    (un : Un (frs X.stack) [] H HZ s.heap s1.heap) (hns : h₁.Ns s1.heap.objs.size fun y => ([] : List (Str × Value)).reverse.lookup y) (kp : ∀ b o, s1.heap.get? b = some o → h₁.get? b = some o) :
    Inv (lamCxN X A outer s1 HZ E scope f c') [] σ HZ { s1 with heap := h₁, toks := tk } :=
  let J := lam_start2 (E := E) (f := f) (c' := c') (tk := tk) I L e0 hd un hns kp
  ⟨⟨J.ok.mod, J.ok.kind, J.ok.glob, J.ok.blt, J.ok.above, J.ok.inj, J.ok.has, J.ok.cab, J.ok.hd, J.ok.frames, J.ok.stk, J.ok.exf, J.ok.bs, J.ok.bsz, J.ok.noex, J.ok.exfs, J.ok.funs, J.ok.frf⟩, J.os, J.bare, J.base, J.loc, J.cell, J.free, J.freeC, J.pin, J.hok, J.len⟩
theorem lam_takes {A : Around} {outer : List Env} {E : XK} {scope : Scope} {f c' : Addr} : L2N.Takes (lamCxN X A outer s H E scope f c') (fun cls d _ H => E cls d H) := L2N.takes_of rfl rfl rfl rfl
/-- x(), in the def that got the lambda -/
theorem pe_actN {CXg : CXT} {Eg : XK} {Ng : List Str} {qg : Str} {sg : Scope} {g f c' : Addr} {cdg pm ctv : Value} {params : Arguments} {body : Expr} {scope : Scope} {k i : Nat} {a q : Str} {pn : List (Addr × Obj)} {xe : Value → Shared → Prop} {W : WX} {tb : XK → TE} {p1 p2 : Pos}
    (I : Inv X pins σ H s) (L : LamS X.env.scope scope) (hq : q = X.env.qual ++ "<lambda>") (hf : s.heap.get? f = some (PySem.W.kla_obj "<lambda>" q params body scope (cloFrom X.env.cells scope.names []) pm c' ctv)) (hfn : H f = none) (hfr : f ∉ frs X.stack)
    (hbind : bindArgs (PySem.W.kla_fn "<lambda>" q params body scope (cloFrom X.env.cells scope.names []) pm (.ref c') ctv) ⟨[], []⟩ = pure [])
    (tk : L2N.Takes ((cxOf CXg X.prog X.w X.K X.mg X.base Ng qg sg g cdg X.A X.stack s H Eg).tr pn xe) W) (hr : Room (k + 1) (X.A.deeper (envOfC qg sg s.heap.objs.size g cdg)))
    (hbody : ∀ (A : Around) (outer : List Env) (s : Shared) (H : Hp) (E : XK), Room k (A.deeper (lamEnv X scope s.heap.objs.size f c')) → PE (lamCxN X A outer s H E scope f c') body (tb E))
    (hN : Ng[i]? = some a) (hv : Vis sg a) (hd : (a == ("__debug__" : Str)) = false := by decide) (hcd : (a == ("__classdict__" : Str)) = false := by decide) :
    PE ((cxOf CXg X.prog X.w X.K X.mg X.base Ng qg sg g cdg X.A X.stack s H Eg).tr pn xe) (.Call (.Name a p1) [] [] p2)
      (fun σZ HZ Q => σZ[i]? = some (some (.ref f)) ∧ HZ c' = some (CodeO c' q) ∧ tb (WE W σZ) σ HZ Q) := by
  subst hq
  refine ⟨fun pinsZ sZ σZ HZ Q IZ h => ?_⟩
  obtain ⟨hs, hc, ht⟩ := h
  refine wpAny_Call_Name_kw (thn ((pe_var (pos := p1) (i := i) hN hv hd hcd).run pinsZ sZ σZ HZ (fun v H1 => v = .ref f ∧ H1 = HZ) IZ ⟨.ref f, hs, rfl, rfl⟩) fun u s1 ⟨v, H1, I1, r1, q1⟩ => ?_)
  obtain ⟨ev, eH⟩ := q1; subst ev; rw [eH] at I1; obtain rfl : u = Value.ref f := r1
  have of1 : s1.heap.get? f = some (PySem.W.kla_obj "<lambda>" (X.env.qual ++ "<lambda>") params body scope (cloFrom X.env.cells scope.names []) pm c' ctv) := I1.base.keep f _ hf hfn hfr (fun z => nomatch (show f ∈ ([] : List Addr) from z))
  refine PySem.W.callWith_F0 ⟨_, _, _, _, of1⟩ ?_; have un : Un (frs X.stack) [] H HZ s.heap s1.heap := I1.base
  obtain ⟨⟨oc, vs, t, hoc, hdc, hvc⟩, _, _⟩ := I1.hok c' _ hc
  have rc : codeAny (model X.prog X.w) (X.A.deeper (envOfC qg sg s.heap.objs.size g cdg)) (.call (.ref f) ⟨[], []⟩) (CR (L2N.CX X.prog X.w) (envOfC qg sg s.heap.objs.size g cdg :: X.stack) X.prog X.w HZ s1 Q (WE W σZ)) s1 := by
    refine PySem.W.kla_callFunE hr.depth of1 rfl L.co L.gen rfl ⟨c', oc, vs, t, rfl, hoc, hdc, hvc⟩ ?_
    rw [hbind]
    refine wpAny_pure (wpAny_newFunctionEnv (fun y hy => (L.own y hy).2) (fun y hy => absurd hy (by simp)) (fun h₁ hns hsb => ⟨I1.nolimit.fresh _ hsb, ?_⟩) L.kind)
    show codeAny _ _ (.expr body (lamEnv X scope s1.heap.objs.size f c')) _ _
    have kp : ∀ b o, s1.heap.get? b = some o → h₁.get? b = some o := fun b o e => hsb.extBut b o (Nat.ne_of_lt (Heap.lt_size e)) (Heap.get?_push_of_some _ e)
    have J : Inv (lamCxN X (X.A.deeper (envOfC qg sg s.heap.objs.size g cdg)) (envOfC qg sg s.heap.objs.size g cdg :: X.stack) s1 HZ (WE W σZ) scope f c') [] σ HZ { s1 with heap := h₁, toks := s1.toks + ([] : List (Str × Value)).length } :=
      lam_startN I L I1.env0 hr.hd un hns kp
    refine PySem.W.kla_codeExpr (wpAny_mono ((hbody _ _ s1 HZ _ (hr.deeper _)).run [] _ _ HZ Q J ht) (fun v s' hq => ?_) fun e s' hq => hq)
    obtain ⟨w', H', J', rv, q⟩ := hq
    exact ⟨w', H', J'.os, J'.bare, J'.base, J'.hok, rv, q⟩
  have hx := L2N.passAt tk σZ
  refine wpAny_call (codeAny_mono rc fun r s' hq => ?_)
  cases r with
  | error e => exact hx pinsZ HZ s1 e s' I1 hq
  | ok fl =>
    cases fl with
    | ret u => exact I1.after hq
    | next => exact False.elim hq
    | brk => exact False.elim hq
    | cont => exact False.elim hq
end
/-- the def that calls what it got: a calls it, the other thing is v -/
def GivesTo2 (X : Cx) (k : Nat) (Ng : List Str) (x : Str) (sg : Scope) (g : Addr) (cdg : Value) (bg : List Stmt) (a : Str) (q : Str) (TT : (XK → Hp → VK → Prop) → Addr → Addr → V → Hp → VK → Prop) : Prop :=
  ∀ (f c' : Addr) (v : V) (s : Shared) (H : Hp) (Q : VK) (tl : XK → Hp → VK → Prop), Room k (X.A.deeper (envOfC x sg s.heap.objs.size g cdg)) →
    (∀ (W : WX) (pn : List (Addr × Obj)) (xe : Value → Shared → Prop) (p1 p2 : Pos), L2N.Takes ((cxOf C8.CX0 X.prog X.w X.K X.mg X.base Ng x sg g cdg X.A X.stack s H C8.E0).tr pn xe) W →
      PE ((cxOf C8.CX0 X.prog X.w X.K X.mg X.base Ng x sg g cdg X.A X.stack s H C8.E0).tr pn xe) (.Call (.Name a p1) [] [] p2) (fun σZ HZ Q => σZ[0]? = some (some (.ref f)) ∧ HZ c' = some (CodeO c' q) ∧ tl (WE W σZ) HZ Q)) →
    TT tl f c' v H Q →
    ∃ t, PSs (cxOf C8.CX0 X.prog X.w X.K X.mg X.base Ng x sg g cdg X.A X.stack s H C8.E0) bg t ∧ t { nx := fun _ H' => Q .non H', rt := Q } (L2.start Ng [.ref f, v]) H
def tLam2 (P : Addr) (q : Str) (ti : TE) (TT : (XK → Hp → VK → Prop) → Addr → Addr → V → Hp → VK → Prop) (t : XK → TE) : TE := fun σ H Q => ∃ ps, TabAt H P q ps ∧ ∀ (H2 : Hp) (f c' : Addr), Look1 H P q ps c' H2 → ti σ H2 fun v H3 => TT (fun E H' Q' => t E σ H' Q') f c' v H3 Q
section
variable {X : Cx}
/-- x(lambda: body, e) -/
theorem pe_lamcall2 {TT : (XK → Hp → VK → Prop) → Addr → Addr → V → Hp → VK → Prop} {x a a2 q : Str} {g c P : Addr} {k : Nat} {pg : Arguments} {bg : List Stmt} {sg : Scope} {dV kV doc pm cdv ct oc : Value} {an od : Option Addr} {osl : Array (Option Value)} {Ng : List Str}
    {params : Arguments} {body e2 : Expr} {scope : Scope} {ti : TE} {t : XK → TE} {p lpos pos : Pos} (hg : Gl X x) (hm : X.mg x = some (.ref g)) (hk : PySem.W.keepIn X.K (.ref g) = true)
    (lk : X.K.lookup g = some ⟨oc, od, .func (PySem.W.fnOf x x pg bg sg dV kV doc pm an cdv ct), osl⟩) (hcg : PySem.W.codeIn X.K cdv x = true) (hb : L2.Binds X.K (PySem.W.fnOf x x pg bg sg dV kV doc pm an cdv ct) [a, a2] []) (Sg : FnScope Ng [a, a2] sg) (hNg : Ng[0]? = some a) (hva : Vis sg a)
    (hG : GivesTo2 X (k + 1) Ng x sg g cdv bg a q TT) (hq : q = X.env.qual ++ "<lambda>")
    (TB : TabB X.base X.mg c P) (hcode : X.env.code = .ref c) (hr : Room (k + 2) X.A) (L : LamS X.env.scope scope) (hdef : defaultsOf params X.env = ([], []))
    (hbind : ∀ (q : Str) (cl : List (Str × Addr)) (pm cv ctv : Value), bindArgs (PySem.W.kla_fn "<lambda>" q params body scope cl pm cv ctv) ⟨[], []⟩ = pure [])
    (hi : PE X e2 ti)
    (hbody : ∀ (A : Around) (outer : List Env) (s : Shared) (H : Hp) (E : XK) (f c' : Addr), Room k (A.deeper (lamEnv X scope s.heap.objs.size f c')) → PE (lamCxN X A outer s H E scope f c') body (t E))
    (hst : starEach [e2] X.env = (false, eval e2 X.env) :: starEach [] X.env := by rfl)
    (hdb : (x == ("__debug__" : Str)) = false := by decide) (hd : (a == ("__debug__" : Str)) = false := by decide) (hcd : (a == ("__classdict__" : Str)) = false := by decide) :
    PE X (.Call (.Name x p) [.Lambda params body scope lpos, e2] [] pos) (tLam2 P q ti TT t) := by
  refine ⟨fun pins s σ H Q I h => ?_⟩
  obtain ⟨ps, ⟨hP, ht, ha⟩, h⟩ := h
  refine wpAny_Call_Name_kw (ld_glob I hg hm ?_ hdb)
  have hst1 : starEach (.Lambda params body scope lpos :: [e2]) X.env = (false, eval (.Lambda params body scope lpos) X.env) :: starEach [e2] X.env := rfl
  refine PySem.W.callWith_K (h₀ := X.base) I.ok.mod.kin hk ?_ hst1 (by rw [hst]; rfl)
  rw [hst1, hst]
  show wpAny _ _ (spliced ((false, eval (.Lambda params body scope lpos) X.env) :: (false, eval e2 X.env) :: backTo pos (starEach [] X.env))) _ _ s
  refine Calls.spliced_cons (lam_make5 I TB hcode hq hP ht ha hdef (L.has I.ok) fun f c' pm' ctv H1 s' I1 l1 hf hfn hsz hfr hco => ?_)
  have I2 := Inv.pinF (sz := 0) I1 hf hfn (fun z => Nat.lt_irrefl _ (Nat.lt_of_lt_of_le (z ▸ I.lt) hsz)) (I.nofs hsz) (fun v z => by cases z)
  refine Calls.spliced_cons (thn (hi.run _ s' σ H1 _ I2 (h H1 f c' l1)) fun u s2 hh => ?_)
  obtain ⟨v, H3, I3, rv, hTT⟩ := hh
  obtain ⟨I4, hf4, hn4⟩ := Inv.unpin I3
  refine Calls.spliced_nil ⟨I4.kIn, ?_⟩
  have rc : codeAny (model X.prog X.w) X.A (.call (.ref g) ⟨[.ref f, u], []⟩) (CR C8.CX0 X.stack X.prog X.w H3 s2 Q C8.E0) s2 := by
    refine run_ofS (N := Ng) (ps := [a, a2]) (us := [.ref f, u]) (vs := [.ref f, v]) lk hcg Sg hr I4.env0 (hb s2 [.ref f, u] I4.kIn rfl) (.cons rfl (.cons rv .nil)) rfl fun hr' => ?_
    exact hG f c' v s2 H3 Q (fun E H' Q' => t E σ H' Q') hr' (fun W pn xe p1 p2 tk => pe_actN (i := 0) I4 L hq hf4 hn4 hfr (hbind _ _ _ _ _) tk hr' (fun A outer s H E hr2 => hbody A outer s H E f c' hr2) hNg hva hd hcd) hTT
  refine wpAny_call (codeAny_mono rc fun r s2 hq => ?_)
  cases r with
  | error e => exact (show False from hq).elim
  | ok fl =>
    cases fl with
    | ret u => exact I4.after hq
    | next => exact False.elim hq
    | brk => exact False.elim hq
    | cont => exact False.elim hq
end
end LamX
set_option Elab.async false
set_option linter.all false
set_option maxRecDepth 100000
set_option maxHeartbeats 2000000
set_option autoImplicit false
/-! x(lambda: .., thing), where the lambda throws: over what stands and cells -/
namespace T
open PySem PySem.Spec PyProof.Rows L2 LamX
open PySem.W (Frag)
/-- query() in the def that got the lambda f -/
def tAct (f c' : Addr) (q : Str) (tl : XK → Hp → VK → Prop) (W : WX) : TE := fun σZ HZ Q => σZ[0]? = some (some (.ref f)) ∧ HZ c' = some (CodeO c' q) ∧ tl (WE W σZ) HZ Q
abbrev WX0 (E : XK) : WX := fun cls d _ H => E cls d H
section
variable {B : Bs} {F F' : Hp} {Γ Γ' Γ2 Γ0 Γm : List Sl} {C C' C1 C2 C3 R : Cs} {τ : List TV} {σ σm : St} {ws : List V} {H H' : Hp} {x y z : TV} {c d : Ct} {e : Ef}
variable {ta tb' te td ty ti : TE} {ca : TA} {D : EndT} {ts tu tw : TS} {wi : TI} {g : TG}
theorem evf_act {tb : WX → TE} {f c' : Addr} {q : Str} (hm : All2 (slOk B.K B.F) σm Γm) (hb : EvF B tb Γm C e C) (h0 : Γ0[0]? = some (some (tv (Ptr.mk f)))) (hc : B.F c' = some (CodeO c' q)) :
    EvF B (tAct f c' q fun E H Q => tb (WX0 E) σm H Q) Γ0 C e C := fun τ σZ ws H ⟨F, s⟩ W Q hw => by
  obtain ⟨v, e1, e2⟩ := s.slots.get h0
  obtain ⟨u, rfl, e3⟩ := e2 _ rfl
  obtain rfl : u = .ref f := e3
  refine ⟨e1, s.hf.sub _ _ (s.hf.base _ _ hc), ?_⟩
  obtain ⟨vs, g1, g2⟩ := slots_temps s.slots
  refine hb ((Γ0.filterMap id) ++ τ) σm (vs ++ ws) H ⟨F, s.hf, hm.slots_mono s.hf.base, g1.append s.temps⟩ (WX0 (WE W σZ)) Q fun cls d H' ⟨F', s', ok⟩ => ?_
  obtain ⟨a1, a2⟩ := s'.temps.split g1.length
  exact hw cls d H' ⟨F', ⟨s'.hf, g2 _ a1, a2⟩, ok⟩
/-- a code object that stands -/
structure Cod where
  c : Addr
  q : Str
instance : Rp Cod := ⟨fun K F v x => F x.c = some (CodeO x.c x.q), fun s h => s _ _ h⟩
theorem evn_lam2 {P : Addr} {q : Str} {k : Nat} {tb : WX → TE} {TTb : (WX → TE) → TS} {N : List Str} (hk : C[k]? = some (P, .tab q)) (hi : Ev B ti Γ C x C) (hb : ∀ B' : Bs, B'.K = B.K → EvF B' tb Γ C e C)
    (hs : ∀ (B' : Bs) (f : Addr), B'.K = B.K → ∀ act : WX → TE, EvF B' act ([tv (Ptr.mk f), x].map some ++ List.replicate (N.length - 2) none) C e C → Ss B' (TTb act) ([tv (Ptr.mk f), x].map some ++ List.replicate (N.length - 2) none) C (endN B' c C)) :
    EvN B (tLam2 P q ti (fun tl f c' v H Q => TTb (tAct f c' q tl) { nx := fun _ H' => Q .non H', rt := Q } (L2.start N [.ref f, v]) H) (fun E => tb (WX0 E))) Γ C c C := fun τ σ ws H ⟨F, s⟩ Q qq => by
  obtain ⟨_, ⟨o, hP, ps, rfl, ht, hc⟩, _⟩ := s.hf.cells _ (List.mem_of_getElem? hk)
  have hP' : H P = some (.tbl ps) := hP
  refine ⟨ps, ⟨hP, ht, fun p cv hcv => ?_⟩, fun H2 f c' l => ?_⟩
  · obtain ⟨c, g1, g2⟩ := hc p cv hcv
    exact ⟨c, g1, s.hf.sub _ _ g2⟩
  · have key : ∃ F2, SF B F2 Γ C τ σ ws H2 ∧ Same F F2 ∧ F2 c' = some (CodeO c' q) := by
      rcases l with ⟨rfl, pos, hpos⟩ | ⟨ps', t1, t2, t3, rfl⟩
      · obtain ⟨c, g1, g2⟩ := hc pos _ hpos
        cases g1
        exact ⟨F, s, Same.refl F, g2⟩
      · obtain ⟨hf2, sF, sH⟩ := s.hf.laid (o := CodeO c' q) t3
        have hw := hf2.write (c' := .tab q) (o' := .tbl ps') hk ⟨ps', rfl, t1, fun p cv hcv => by
          rcases t2 p cv hcv with z | z
          · obtain ⟨c, g1, g2⟩ := hc p cv z
            exact ⟨c, g1, sF _ _ g2⟩
          · exact ⟨c', z, upd_same⟩⟩
        have ncP : c' ≠ P := fun z => by rw [z, hP'] at t3; cases t3
        have eH : upd (upd H c' (CodeO c' q)) P (.tbl ps') = upd (upd H P (.tbl ps')) c' (CodeO c' q) := by
          funext b
          by_cases b1 : b = P
          · subst b1; rw [upd_same, upd_ne (Ne.symm ncP), upd_same]
          · rw [upd_ne b1]
            by_cases b2 : b = c'
            · subst b2; rw [upd_same, upd_same]
            · rw [upd_ne b2, upd_ne b2, upd_ne b1]
        have eC : C.set k (P, .tab q) = C := by
          apply List.ext_getElem?
          intro j
          by_cases hj : k = j
          · subst hj
            rw [List.getElem?_set_self (List.getElem?_eq_some_iff.mp hk).1, hk]
          · rw [List.getElem?_set_ne hj]
        rw [eC, eH] at hw
        exact ⟨_, ⟨hw, s.slots.slots_mono sF, s.temps.temps_mono sF⟩, sF, upd_same⟩
    obtain ⟨F2, s2, sF, hc3⟩ := key
    refine hi (tv (Cod.mk c' q) :: τ) σ (.non :: ws) H2 ⟨F2, s2.hf, s2.slots, .cons hc3 s2.temps⟩ _ fun v H3 ⟨F3, s3⟩ => ?_
    cases s3.temps with
    | cons hv t3 => cases t3 with
      | cons hc4 t4 =>
        have hfp := s3.hf.perm (C' := C ++ []) (by rw [List.append_nil])
        have en : HF (Bs.at B.K H3 F3 C) F3 C H3 := hfp.enter
        have hact : EvF (Bs.at B.K H3 F3 C) (tAct f c' q fun E H' Q' => tb (WX0 E) σ H' Q') ([tv (Ptr.mk f), x].map some ++ List.replicate (N.length - 2) none) C e C :=
          evf_act (B := Bs.at B.K H3 F3 C) s3.slots (hb _ rfl) rfl hc4
        refine hs (Bs.at B.K H3 F3 C) f rfl _ hact [] (L2.start N [.ref f, v]) [] H3 ⟨F3, en, start_ok (.cons rfl (.cons hv .nil)), .nil⟩ _ ⟨fun _ _ z => z.elim, fun u H4 ⟨p, F', e, hB, hP, h1⟩ => ?_, fun _ _ z => z.elim, fun _ _ z => z.elim⟩
        subst e
        have hpn : H3 p = none := hB
        have := hfp.leave (N := [(p, c)]) (C' := C) h1 rfl (fun z hz => by
          obtain rfl := List.mem_singleton.mp hz
          exact hpn)
        have t2 : HF B F' ((p, c) :: C) H4 := by
          have z : [(p, c)] ++ (C ++ []) = (p, c) :: C := by simp
          rw [z] at this
          exact this
        exact qq p H4 (s3.hf.free hpn).2.2 (s3.hf.free hpn).2.1 ⟨F', t2, s3.slots.slots_mono h1.base, t4.temps_mono h1.base⟩
/-- [w, query()] throws as query() does -/
theorem evf_told {w : Str} {act : WX → TE} (h : EvF B act Γ C e C) : EvF B (fun W => tLst (tCons (tC (.str w)) (tCons (act W) tNil))) Γ C e C := fun τ σ ws H st W Q q => h τ σ ws H st W _ q
end
end T
set_option Elab.async false
set_option linter.all false
set_option maxRecDepth 100000
set_option maxHeartbeats 2000000
set_option autoImplicit false
/-! things that are a list or a tuple, read -/
namespace L2
open PySem PySem.Spec PyProof.Rows
theorem pi_alt {X : Cx} {tg e : Expr} {t u : TI} (h1 : PI X tg e t) (h2 : PI X tg e u) : PI X tg e (T.tOrI t u) := ⟨fun pins s σ H R I h => h.elim (h1.run pins s σ H R I) (h2.run pins s σ H R I)⟩
end L2
namespace T
open PySem PySem.Spec PyProof.Rows L2 RZ
open PySem.W (Frag)
def D.seq? : D → Option (List D) | .lst xs => some xs | .tup xs => some xs | _ => none
theorem D.seq?_some {d : D} {xs : List D} (h : d.seq? = some xs) : d.items = xs ∧ d.isSeq = true := by
  cases d <;> cases h <;> exact ⟨rfl, rfl⟩
def D.strs? : List D → Option (List Str)
  | [] => some []
  | d :: ds => (d.str?).bind fun s => (D.strs? ds).bind fun r => some (s :: r)
theorem D.strs?_ok {K : Frag} {F : Hp} : ∀ {vs : List V} {ds : List D} {ys : List Str}, D.strs? ds = some ys → All2 (Rp.rp K F) vs ds → All2 (Rp.rp K F) vs ys
  | _, [], _, h, .nil => by cases h; exact .nil
  | _, d :: ds, ys, h, .cons a r => by
    obtain ⟨s, h1, h2⟩ := bind_some (show (d.str?).bind _ = some ys from h)
    obtain ⟨q, h3, h4⟩ := bind_some h2
    cases h4
    have a' : DOk K F _ d := a
    cases a' <;> cases h1
    exact .cons rfl (D.strs?_ok h3 r)
section
variable {B : Bs} {F F' : Hp} {Γ Γ' Γ2 : List Sl} {C C' C1 C2 C3 : Cs} {τ : List TV} {σ : St} {ws : List V} {H H' : Hp} {x y z : TV} {c c' : Ct} {b b' : Bool} {d : D}
variable {ta tb tc te to : TE} {ca : TA} {D' : EndT} {ts tu tw : TS} {wi : TI} {g : TG} {t u : TT} {js vs : List Nat}
theorem ev_ixD {xs : List D} {r : D} {i : Int} (hd : Dyn x d) (h : d.seq? = some xs) (hr : L2.atI xs i = some r) (ho : Ev B ta Γ C x C1) (hi : Ev B tb Γ C1 (tv i) C2) : Ev B (tOrE (tOp (rIxL B.K) ta tb) (tOp (rIxT B.K) ta tb)) Γ C (tv r) C2 := by
  cases d <;> cases h
  · exact ev_altL (ev_op (ev_lst? hd rfl ho) hi (os_ix ls_val hr))
  · exact ev_altR (ev_op (ev_tup? hd rfl ho) hi (os_ixT lt_val hr))
theorem ei_seqD {xs : List D} (hd : Dyn x d) (h : d.seq? = some xs) (ho : Ev B te Γ C x C1) : EvI B (tOrI (iList B.K te) (iTup B.K te)) Γ C xs C1 := by
  cases d <;> cases h
  · exact fun τ σ ws H st R q => .inl (ei_list (ev_lst? hd rfl ho) τ σ ws H st R q)
  · exact fun τ σ ws H st R q => .inr (ei_tup (ev_tup? hd rfl ho) τ σ ws H st R q)
theorem cs_lenD3 {xs : List D} (hd : Dyn x d) (h : d.seq? = some xs) : CbS B C (rLen B.K) [x] (tv (xs.length : Int)) := by
  obtain ⟨h1, h2⟩ := D.seq?_some h
  subst h1
  exact cs_lenD2 hd h2
theorem cn_listD2 {xs : List D} (hd : Dyn x d) (h : d.seq? = some xs) : CbN B C (rListOf B.K) [x] (.lst xs) := fun F H vs hf hv Q q => by
  cases hv with
  | cons h1 h2 =>
    cases h2
    have := hd _ _ _ h1
    cases d <;> cases h
    · cases this with | lst e r => exact ⟨_, _, rfl, .inl (.inl (.inl (hf.sub _ _ e))), fun l hl => q l _ hl ⟨_, rfl, r.all2⟩⟩
    · cases this with | tup e r => exact ⟨_, _, rfl, .inr (.inl (.inl (hf.sub _ _ e))), fun l hl => q l _ hl ⟨_, rfl, r.all2⟩⟩
/-- a cell seen another way -/
theorem HF.retype {p : Addr} (h : HF B F ((p, c) :: C) H) (hc : ∀ F o, c.ho B.K F o → c'.ho B.K F o) : HF B F ((p, c') :: C) H :=
  ⟨h.sub, h.base, h.new, h.old, fun q hq => by
    rcases List.mem_cons.mp hq with rfl | hq
    · obtain ⟨h1, ⟨o, h2, h3⟩, h4⟩ := h.cells (p, c) List.mem_cons_self
      exact ⟨h1, ⟨o, h2, hc _ _ h3⟩, h4⟩
    · exact h.cells q (List.mem_cons_of_mem _ hq), h.nd, h.pal, h.pb⟩
theorem evn_as (h : EvN B te Γ C c C1) (hc : ∀ F o, c.ho B.K F o → c'.ho B.K F o) : EvN B te Γ C c' C1 := fun τ σ ws H st Q q => h τ σ ws H st Q fun p H' h1 h2 ⟨F, s⟩ => q p H' h1 h2 ⟨F, s.hf.retype hc, s.slots, s.temps⟩
theorem evn_strs {xs : List D} {ys : List Str} (h : EvN B te Γ C (.lst xs) C1) (e : D.strs? xs = some ys) : EvN B te Γ C (.lst ys) C1 := evn_as h fun F o ⟨vs, h1, h2⟩ => ⟨vs, h1, D.strs?_ok e h2⟩
/-- a tuple of texts of the written part -/
theorem lt_k {a : Addr} {ys : List Str} (h : SqT B.K (fun _ => none) a (ys.map V.str)) : Lt B C (tv (Ptr.mk a)) ys := fun F H v hf hv => by
  obtain rfl : v = .ref a := hv
  refine ⟨a, _, rfl, h.elim (fun h => ?_) .inr, strs_all2 ys⟩
  rcases h with h | ⟨o, h⟩ <;> cases h
end
end T
set_option Elab.async false
set_option linter.all false
set_option maxRecDepth 100000
set_option maxHeartbeats 2000000
set_option autoImplicit false
/-! a call that changes one cell and reads others; a test that changes cells where it is reached -/
namespace L2
open PySem PySem.Spec PyProof.Rows
theorem pe_popAt {X : Cx} {K : PySem.W.Frag} {o e : Expr} {es : List Expr} {to : TE} {t : TA} {apos cpos : Pos} (hK : X.K = K) (ho : PE X o to) (ha : PA X (e :: es) t)
    (hbase : attributeBase o "pop" X.env (eval o X.env) = eval o X.env := by rfl)
    (hfew : ((backTo cpos (starEach (e :: es) X.env)).all (fun x => !x.1) && (backToKw cpos (keywordEach [] X.env)).all (fun x => x.1.isSome)
      && decide ((e :: es).length + ([] : List Keyword).length + (if ([] : List Keyword).isEmpty then 0 else 1) < 30)) = true := by rfl)
    (hline : (apos.endLine == cpos.line) = true := by rfl) (hs : starEach (e :: es) X.env = (false, eval e X.env) :: starEach es X.env := by rfl) (hplain : (backTo cpos (starEach es X.env)).any (·.1) = false := by rfl) :
    PE X (.Call (.Attribute o "pop" apos) (e :: es) [] cpos) (tBM K "list" rPopAt to t) := by
  subst hK
  exact pe_bm PySem.F.plainAttrs_list PySem.F.slot_list_pop PySem.F.type_list_pop mt_popAt ho ha hbase hfew hline hs hplain
end L2
namespace T
open PySem PySem.Spec PyProof.Rows L2 RZ
open PySem.W (Frag)
/-- contents that need no heap -/
def FlC (c : Ct) : Prop := ∀ K F F' o, c.ho K F o → c.ho K F' o
theorem flC_lst {α : Type} [Fl α] {xs : List α} : FlC (.lst xs) := fun K F F' o ⟨vs, h1, h2⟩ => ⟨vs, h1, h2.mono fun _ _ q => Fl.fl q⟩
section
variable {B : Bs} {F F' : Hp} {Γ Γ' Γ2 : List Sl} {C C' C1 C2 C3 R : Cs} {τ : List TV} {σ : St} {ws : List V} {H H' : Hp} {x y z : TV} {c c' : Ct} {b b' : Bool} {d : D}
variable {ta tb tc te to : TE} {ca : TA} {D' : EndT} {ts tu tw : TS} {wi : TI} {g : TG} {t u : TT} {js vs : List Nat}
theorem HF.readEntry1 {a : Addr} (h : HF B F ((a, c) :: R) H) {xs ys : List TV} {vs : List V} (hv : All2 (TV.ok B.K F) vs xs) (w : All2 (Vw R) xs ys) : Entry B.K (lockAll R F H) ys [(a, c)] vs H := by
  have hR : HF B F R H := h.drop
  have nd := h.nd
  have na : a ∉ R.map (·.1) := fun z => by
    have := List.nodup_cons.mp nd
    exact this.1 z
  obtain ⟨hFa, ⟨o, ho1, ho2⟩, hB⟩ := h.cells (a, c) List.mem_cons_self
  have hla : lockAll R F H a = F a := by unfold lockAll; rw [if_neg na]
  refine ⟨?_, ?_⟩
  · induction hv generalizing ys with
    | nil => cases w; exact .nil
    | cons a r ih => cases w with | cons b w => exact .cons (b.ok hR a) (ih w)
  · refine { sub := hR.subAll, base := Same.refl _, new := fun b o e n => ?_, old := fun _ _ e _ => e, cells := fun p hp => ?_, nd := List.nodup_cons.mpr ⟨by simp, .nil⟩, pal := fun b hb => ?_, pb := fun b hb => ?_ }
    · have n' : lockAll R F H b = none := n
      rw [n'] at e
      cases e
    · obtain rfl := List.mem_singleton.mp hp
      exact ⟨hla.trans hFa, ⟨o, ho1, ho2.mono hR.same⟩, .inl (List.mem_singleton.mpr rfl)⟩
    · obtain rfl := List.mem_singleton.mp hb
      show H b ≠ none
      have ho1' : H b = some o := ho1
      rw [ho1']
      exact fun z => by cases z
    · obtain rfl := List.mem_singleton.mp hb
      show H b ≠ none
      have ho1' : H b = some o := ho1
      rw [ho1']
      exact fun z => by cases z
theorem HF.readBack1 {a : Addr} (h : HF B F ((a, c) :: R) H) (hc : FlC c') {F' : Hp} (h' : HF (Bs.at B.K H (lockAll R F H) [(a, c)]) F' [(a, c')] H') : HF B F ((a, c') :: R) H' := by
  have old : ∀ b o, H b = some o → b ≠ a → H' b = some o := fun b o e n => h'.old b o e (fun z => n (List.mem_singleton.mp z))
  have nd := List.nodup_cons.mp h.nd
  obtain ⟨hFa, ⟨o, ho1, ho2⟩, hB⟩ := h.cells (a, c) List.mem_cons_self
  obtain ⟨_, ⟨o', ho3, ho4⟩, _⟩ := h'.cells (a, c') List.mem_cons_self
  have nF : ∀ b o, F b = some o → b ≠ a := fun b o e z => by rw [z, hFa] at e; cases e
  refine ⟨fun b o e => old _ _ (h.sub b o e) (nF b o e), h.base, h.new, fun b o e hb => ?_, fun p hp => ?_, h.nd, fun b hb z => ?_, h.pb⟩
  · by_cases hba : b = a
    · subst hba
      rcases hB with q | q
      · exact absurd q hb
      · have q' : B.H b = none := q
        rw [q'] at e
        cases e
    · exact old _ _ (h.old b o e hb) hba
  · rcases List.mem_cons.mp hp with rfl | hp
    · exact ⟨hFa, ⟨o', ho3, hc _ _ _ _ ho4⟩, hB⟩
    · obtain ⟨h1, ⟨o2, h2, h3⟩, h4⟩ := h.cells p (List.mem_cons_of_mem _ hp)
      have npa : p.1 ≠ a := fun z => nd.1 (List.mem_map.mpr ⟨p, hp, z⟩)
      exact ⟨h1, ⟨o2, old _ _ h2 npa, h3⟩, h4⟩
  · by_cases hba : b = a
    · subst hba
      have ho3' : H' b = some o' := ho3
      rw [ho3'] at z
      cases z
    · cases q : H b with
      | none => exact h.pal b hb q
      | some o =>
        rw [old _ _ q hba] at z; cases z
theorem ev_call1R {S : SpecV} {α : Type} [Fl α] {v : α} {xs ys : List TV} {E : XK} {a : Addr} {k : Nat} (ha : EvA B ca Γ C xs C1) (hk : C1[k]? = some (a, c)) (hw : All2 (Vw (C1.eraseIdx k)) xs ys) (hc : FlC c') (hS : S ys [(a, c)] (tv v) [(a, c')]) :
    Ev B (tCall (SpV S B.K) [] E ca) Γ C (tv v) (C1.set k (a, c')) := fun τ σ ws H st Q q =>
  ha τ σ ws H st _ fun vs H1 s1 hl => by
    obtain ⟨F, s2, hv⟩ := EvA.out s1 hl
    show SpV S B.K (vs ++ []) H1 Q E
    rw [List.append_nil]
    have hp := s2.hf.perm (perm_at (c' := c') hk).1
    refine ⟨lockAll (C1.eraseIdx k) F H1, ys, [(a, c)], tv v, [(a, c')], hS, rfl, hp.readEntry1 hv hw, fun v H' ⟨F', h1, h2⟩ => ?_⟩
    exact q v H' (ST.push ⟨(hp.readBack1 hc h1).perm (perm_at (c' := c') hk).2, s2.slots, s2.temps⟩ (Fl.fl h2))
theorem ev_dy (hd : Dyn x d) (h : Ev B te Γ C x C1) : Ev B te Γ C (tv d) C1 := fun τ σ ws H st Q q =>
  h τ σ ws H st Q fun v H' s => by
    obtain ⟨F, s2, hv⟩ := s.pop
    exact q _ H' (ST.push s2 (hd _ _ _ hv))
theorem ss_raiseSF {Cc : Addr} {fld : Str} {E : XK} (h : EvA B ca Γ C [x] C1) (s : C'.Sublist C1) (hE : ∀ cls d H, RetF B ⟨Cc, [(fld, x)]⟩ C' cls d H → E cls d H) : Ss B (tSeq (tRaiseF Cc fld ca (WD E)) tu) Γ C D' := fun τ σ ws H st E' im =>
  ssf_raise h τ σ ws H st (WD E) _ fun cls d H' hr => leaveF s hE hr
theorem ss_raiseSF2 {Cc : Addr} {E : XK} (h : EvA B ca Γ C [x, y] C1) (s : C'.Sublist C1) (hE : ∀ cls d H, RetF B ⟨Cc, [("line", y), ("text", x)]⟩ C' cls d H → E cls d H) : Ss B (tSeq (tRaiseF2 Cc ca (WD E)) tu) Γ C D' := fun τ σ ws H st E' im =>
  ssf_raise2 h τ σ ws H st (WD E) _ fun cls d H' hr => leaveF s hE hr
/-- a tuple of two taken apart -/
theorem ss_pairT {α β : Type} [Rp α] [Rp β] {q : α × β} {i j : Nat} (h : Ev B te Γ C (tv q) C1) (k : Ss B tu ((Γ.set i (some (tv q.1))).set j (some (tv q.2))) C1 D') : Ss B (tSeq (tAsg te (gTup B.K 2 (gCons (gName i) (gCons (gName j) gNil)))) tu) Γ C D' := ss_setG h tg_pair k
theorem ev_neg {n : Int} (h : Ev B te Γ C (tv n) C1) : Ev B (tUn (rU fun i => .int (-i)) te) Γ C (tv (-n)) C1 := ev_un h (us_U fun _ _ => rfl)
/-- fewer cells behind it -/
theorem ev_less (h : Ev B te Γ C x C1) (s : C2.Sublist C1) : Ev B te Γ C x C2 := fun τ σ ws H st Q q => h τ σ ws H st Q fun v H' ⟨F, s'⟩ => q v H' ⟨F, s'.hf.sublist s, s'.slots, s'.temps⟩
/-- t and u, where u changes cells -/
theorem et_andS2 {S : Type} {r : Bool × S} (Cf : S → Cs) (h1 : EvT B t Γ C b C1) (h2 : b = true → EvT B u Γ C1 r.1 (Cf r.2)) (h3 : b = false → r.1 = false ∧ C1 = Cf r.2) : EvT B (tAnd t u) Γ C r.1 (Cf r.2) := fun τ σ ws H st Q q => h1 τ σ ws H st _ fun H1 s1 => by
  cases b with
  | true =>
    rw [if_pos rfl]
    exact h2 rfl τ σ ws H1 s1 Q q
  | false =>
    rw [if_neg Bool.false_ne_true]
    obtain ⟨e1, e2⟩ := h3 rfl
    rw [← e1]
    exact q H1 (e2 ▸ s1)
end
end T
set_option Elab.async false
set_option linter.all false
set_option maxRecDepth 100000
set_option maxHeartbeats 2000000
set_option autoImplicit false
/-! lists of flat things: == of two equal ones -/
namespace T
open PySem PySem.Spec PyProof.Rows L2 RZ
open PySem.W (Frag)
def D.encF : D → PyData | .str s => .str s | .bl b => .bool b | .int n => .int n | _ => .none
def D.fltOk : D → Bool | .str s => PyData.canLay0 (.str s) | .bl _ => true | .int _ => true | _ => false
theorem dpF {K : Frag} {F : Hp} : ∀ {vs : List V} {xs : List D}, xs.all D.fltOk = true → All2 (Rp.rp K F) vs xs → DpAll K F vs (xs.map D.encF)
  | _, _, _, .nil => .nil
  | _, x :: xs, h, .cons a r => by
    rw [List.all_cons, Bool.and_eq_true] at h
    have a' : DOk K F _ x := a
    refine .cons ?_ (dpF h.2 r)
    cases a' with
    | str s => exact .str _
    | bl b => exact .bl _
    | int n => exact .int _
    | non => cases h.1
    | lst _ _ => cases h.1
    | tup _ _ => cases h.1
    | dct _ _ => cases h.1
theorem layF : ∀ {xs : List D}, xs.all D.fltOk = true → PyData.canLayAll0 (xs.map D.encF) = true ∧ PyData.depthAll (xs.map D.encF) = 0 ∧ PyData.eqvAll (xs.map D.encF) (xs.map D.encF) = true
  | [], _ => by simp [PyData.canLayAll0, PyData.depthAll, PyData.eqvAll]
  | x :: xs, h => by
    rw [List.all_cons, Bool.and_eq_true] at h
    obtain ⟨h1, h2, h3⟩ := layF h.2
    cases x <;> simp_all [D.fltOk, D.encF, PyData.canLayAll0, PyData.depthAll, PyData.eqvAll, PyData.canLay0, PyData.depth, PyData.eqv]
section
variable {B : Bs} {C : Cs}
theorem shF {xs : List D} (h : xs.all D.fltOk = true) : SeqAt.shaped (.list (xs.map D.encF)) = true := by
  obtain ⟨h1, h2, h3⟩ := layF h
  unfold SeqAt.shaped
  simp [PyData.canLay0, PyData.depth, h1, h2]
theorem os_eqF {xs : List D} (h : xs.all D.fltOk = true) : OpS B C (rEqD B.K) (tv xs) (tv xs) (tv true) := fun F H v w hf hv hw Q q => by
  obtain ⟨a, us, rfl, e1, r1⟩ := hv
  obtain ⟨b, ws, rfl, e2, r2⟩ := hw
  refine ⟨.list (xs.map D.encF), .list (xs.map D.encF), .lst (hf.sub.sqL (.inl (.inl e1))) ?_, .lst (hf.sub.sqL (.inl (.inl e2))) ?_, shF h, shF h, ?_⟩
  · exact hf.sub.dpAll _ _ (dpF h r1)
  · exact hf.sub.dpAll _ _ (dpF h r2)
  · have : PyData.eqv (.list (xs.map D.encF)) (.list (xs.map D.encF)) = true := by simp [PyData.eqv, (layF h).2.2]
    rw [this]
    exact q _ rfl
theorem os_neF {xs : List D} (h : xs.all D.fltOk = true) : OpS B C (rNeD B.K) (tv xs) (tv xs) (tv false) := fun F H v w hf hv hw Q q => by
  obtain ⟨a, us, rfl, e1, r1⟩ := hv
  obtain ⟨b, ws, rfl, e2, r2⟩ := hw
  refine ⟨.list (xs.map D.encF), .list (xs.map D.encF), .lst (hf.sub.sqL (.inl (.inl e1))) ?_, .lst (hf.sub.sqL (.inl (.inl e2))) ?_, shF h, shF h, ?_⟩
  · exact hf.sub.dpAll _ _ (dpF h r1)
  · exact hf.sub.dpAll _ _ (dpF h r2)
  · have : PyData.eqv (.list (xs.map D.encF)) (.list (xs.map D.encF)) = true := by simp [PyData.eqv, (layF h).2.2]
    rw [this]
    exact q _ rfl
end
end T
set_option Elab.async false
set_option linter.all false
set_option maxRecDepth 100000
set_option maxHeartbeats 2000000
set_option autoImplicit false
/-! repr of lists and tuples -/
namespace L2
open PySem PySem.Spec PyProof.Rows
def rRepr (K : PySem.W.Frag) : List V → Hp → VK → Prop := fun xs H Q => ∃ (a : Addr) (d : PyData), xs = [.ref a] ∧ Dp K H (.ref a) d ∧ d.showable = true ∧ d.hasDict = false ∧ d.depth ≤ 40 ∧ d.shown.length ≤ sizeLine ∧ Q (.str d.shown) H
theorem call_reprD {X : Cx} (hG : X.A.guards = some []) (hu : X.A.units + 64 < cLine) : CallR X (.builtin "repr") (rRepr X.K) := by
  intro pins s σ H xs us Q I r h
  obtain ⟨a, d, rfl, hd, hs, hh, hdep, hz, q⟩ := h
  obtain ⟨u, rfl, ru⟩ := vals1 r
  obtain ⟨as, rd⟩ := Dp.reads I d _ u hd ru
  obtain rfl : u = Value.ref a := ru
  exact repr_of_reads' rd hs (fun z => by rw [hh] at z; cases z) hG (by omega) (fun _ _ e => e) (fun h' u tk hk => ⟨.str d.shown, H, I.kept (t' := tk) hk, ⟨u, rfl⟩, q⟩) hz
end L2
namespace T
open PySem PySem.Spec PyProof.Rows L2 RZ
open PySem.W (Frag)
mutual
def D.pd : D → PyData
  | .non => .none
  | .bl b => .bool b
  | .int n => .int n
  | .str s => .str s
  | .lst ds => .list (D.pdAll ds)
  | .tup ds => .tuple (D.pdAll ds)
  | .dct _ => .none
def D.pdAll : List D → List PyData
  | [] => []
  | d :: ds => d.pd :: D.pdAll ds
end
mutual
theorem D.pd_dict : ∀ d : D, d.pd.hasDict = false
  | .non => rfl
  | .bl _ => rfl
  | .int _ => rfl
  | .str _ => rfl
  | .lst ds => by rw [D.pd, PyData.hasDict]; exact D.pd_dictAll ds
  | .tup ds => by rw [D.pd, PyData.hasDict]; exact D.pd_dictAll ds
  | .dct _ => rfl
theorem D.pd_dictAll : ∀ ds : List D, PyData.hasDictAll (D.pdAll ds) = false
  | [] => rfl
  | d :: ds => by rw [D.pdAll, PyData.hasDictAll, D.pd_dict d, D.pd_dictAll ds]; rfl
end
mutual
theorem D.pd_dp {K : Frag} {F : Hp} : ∀ {v : V} (d : D), d.nod = true → DOk K F v d → Dp K F v d.pd
  | _, .non, _, h => by cases h; exact .non
  | _, .bl b, _, h => by cases h; exact .bl b
  | _, .int n, _, h => by cases h; exact .int n
  | _, .str x, _, h => by cases h; exact .str x
  | _, .lst ds, hn, h => by
    cases h with
    | lst e r =>
      have hn' : (decide (ds.length ≤ 1000000) && D.nodAll ds) = true := hn
      rw [Bool.and_eq_true] at hn'
      exact .lst (.inl (.inl e)) (D.pd_dpAll ds hn'.2 r)
  | _, .tup ds, hn, h => by
    cases h with
    | tup e r =>
      have hn' : (decide (ds.length ≤ 1000000) && D.nodAll ds) = true := hn
      rw [Bool.and_eq_true] at hn'
      exact .tup (.inl (.inl e)) (D.pd_dpAll ds hn'.2 r)
  | _, .dct kvs, hn, _ => by cases hn
theorem D.pd_dpAll {K : Frag} {F : Hp} : ∀ {vs : List V} (ds : List D), D.nodAll ds = true → DsOk K F vs ds → DpAll K F vs (D.pdAll ds)
  | _, [], _, h => by cases h; exact .nil
  | _, d :: ds, hn, h => by
    cases h with
    | cons a r =>
      have hn' : (d.nod && D.nodAll ds) = true := hn
      rw [Bool.and_eq_true] at hn'
      exact .cons (D.pd_dp d hn'.1 a) (D.pd_dpAll ds hn'.2 r)
end
def reprO (d : D) : Option Str := if d.isSeq = true ∧ d.nod = true ∧ d.pd.showable = true ∧ d.pd.depth ≤ 40 ∧ d.pd.shown.length ≤ sizeLine then some d.pd.shown else none
theorem reprO_some {d : D} {r : Str} (h : reprO d = some r) : r = d.pd.shown ∧ d.isSeq = true ∧ d.nod = true ∧ d.pd.showable = true ∧ d.pd.depth ≤ 40 ∧ d.pd.shown.length ≤ sizeLine := by
  unfold reprO at h
  split at h
  · cases h
    exact ⟨rfl, by assumption⟩
  · cases h
theorem cs_repr {B : Bs} {C : Cs} {x : TV} {d : D} {r : Str} (hd : Dyn x d) (h : reprO d = some r) : CbS B C (rRepr B.K) [x] (tv r) := fun F H vs hf hv Q q => by
  obtain ⟨rfl, h1, h2, h3, h4, h5⟩ := reprO_some h
  cases hv with
  | cons a b =>
    cases b
    have o := hd _ _ _ a
    have dp := hf.sub.dp _ _ (D.pd_dp d h2 o)
    cases o with
    | @lst p vs ds e rr => exact ⟨p, _, rfl, dp, h3, D.pd_dict _, h4, h5, q _ rfl⟩
    | @tup p vs ds e rr => exact ⟨p, _, rfl, dp, h3, D.pd_dict _, h4, h5, q _ rfl⟩
    | _ => cases h1
end T
set_option Elab.async false
set_option linter.all false
set_option maxRecDepth 100000
set_option maxHeartbeats 2000000
set_option autoImplicit false
namespace T
open PySem PySem.Spec PyProof.Rows L2 RZ
open PySem.W (Frag)
theorem All2.rep {α β : Type _} {R : α → β → Prop} {as : List α} {bs : List β} (h : All2 R as bs) : ∀ n : Nat, All2 R (List.replicate n as).flatten (List.replicate n bs).flatten
  | 0 => .nil
  | n + 1 => by
    rw [List.replicate_succ, List.replicate_succ, List.flatten_cons, List.flatten_cons]
    exact h.append (All2.rep h n)
def repL {α : Type} (xs : List α) (n : Int) : Option (List α) := if 0 ≤ n ∧ n < 2 ^ 62 ∧ xs.length * n.toNat ≤ 1000000 then some (List.replicate n.toNat xs).flatten else none
theorem repL_some {α : Type} {xs r : List α} {n : Int} (h : repL xs n = some r) : r = (List.replicate n.toNat xs).flatten ∧ 0 ≤ n ∧ n < 2 ^ 62 ∧ xs.length * n.toNat ≤ 1000000 := by
  unfold repL at h
  split at h
  · cases h
    exact ⟨rfl, by assumption⟩
  · cases h
def catT {α : Type} (xs ys : List α) : Option (List α) := if xs ≠ [] ∧ ys ≠ [] ∧ xs.length + ys.length ≤ 1000000 then some (xs ++ ys) else none
section
variable {B : Bs} {F F' : Hp} {Γ Γ' Γ2 : List Sl} {C C' C1 C2 C3 : Cs} {τ : List TV} {σ : St} {ws : List V} {H H' : Hp} {x y z : TV} {c c' : Ct} {b b' : Bool} {d : D}
variable {ta tb tc te to : TE} {ca : TA} {D' : EndT} {ts tu tw : TS} {wi : TI} {g : TG} {t u : TT} {js vs : List Nat}
theorem on_rep {α : Type} [Rp α] {xs r : List α} {n : Int} (h : repL xs n = some r) : OpN B C rRep (tv xs) (tv n) (.lst r) := fun F H v w hf hv hw Q q => by
  obtain ⟨rfl, h0, h1, h2⟩ := repL_some h
  obtain ⟨a, us, rfl, e, rr⟩ := hv
  obtain rfl : w = .int n := hw
  have hl : us.length = xs.length := rr.length
  exact ⟨a, n, us, rfl, rfl, hf.sub _ _ e, by omega, by omega, by rw [hl, sizeLine_eq]; omega, fun p hp => q p _ hp ⟨_, rfl, All2.rep rr _⟩⟩
theorem ev_catT {α : Type} [Rp α] {xs ys r : List α} (h : catT xs ys = some r) (ha : Ev B ta Γ C (tv (Tp.mk xs)) C1) (hb : Ev B tb Γ C1 (tv (Tp.mk ys)) C2) : Ev B (tOp (rCatT B.K) ta tb) Γ C (tv (Tp.mk r)) C2 := fun τ σ ws H st Q q =>
  ha τ σ ws H st _ fun v H1 s1 => hb _ σ _ H1 s1 _ fun w H2 ⟨F, s2⟩ => by
    unfold catT at h
    split at h
    · rename_i hc
      cases h
      obtain ⟨n1, n2, hz⟩ := hc
      cases s2.temps with
      | cons hw t1 => cases t1 with
        | cons hv t2 =>
          obtain ⟨b, us2, rfl, e2, r2⟩ := hw
          obtain ⟨a, us1, rfl, e1, r1⟩ := hv
          have l1 : us1.length = xs.length := r1.length
          have l2 : us2.length = ys.length := r2.length
          refine ⟨a, b, us1, us2, rfl, rfl, .inl (.inl (s2.hf.sub _ _ e1)), .inl (.inl (s2.hf.sub _ _ e2)), fun z => n1 (List.eq_nil_of_length_eq_zero (by rw [← l1, z]; rfl)), by rw [l1, l2, sizeLine_eq]; omega, fun z => (n2 (List.eq_nil_of_length_eq_zero (by rw [← l2, z]; rfl))).elim, fun _ p hp => ?_⟩
          obtain ⟨hf, sF, sH⟩ := s2.hf.laid (o := .tup (us1 ++ us2)) hp
          exact q _ _ ⟨_, hf, s2.slots.slots_mono sF, .cons ⟨p, _, rfl, upd_same, (r1.append r2).mono fun _ _ q => Rp.mono sF q⟩ (t2.temps_mono sF)⟩
    · cases h
end
end T
set_option Elab.async false
set_option linter.all false
set_option maxRecDepth 100000
set_option maxHeartbeats 2000000
set_option autoImplicit false
namespace HT2
open PySem PySem.Spec PyProof.Rows HotX L2 RZ
section
variable {prog : Program} {w : World} {A : Around} {E : Value → Shared → Prop} {s : Shared}
abbrev Keeps (h h' : Heap) : Prop := ∀ b o, h.get? b = some o → h'.get? b = some o
/-- an iterator's end, told while an exception is handled -/
theorem stop_hot {α : Type} {x1 : Addr} {Q : α → Shared → Prop} (hot : HotAt A x1 s.heap) (hE : ∀ h' e, Keeps s.heap h' → (∃ o, h'.get? e = some o ∧ o.cls = .type "StopIteration") → E (.ref e) { s with heap := h' }) :
    wpAny (model prog w) A (newExc (.type "StopIteration") [] >>= fun e => (raiseNew e : Sem α)) Q E s := by
  obtain ⟨hh, o1, vs1, h1, d1, c1⟩ := hot
  refine wpAny_bind ?_
  unfold newExc newTuple
  refine wpAny_bind (wpAny_newObj_type (wpAny_bind (m := firstArgMember _ _) (wpAny_of_eq (a := Value.none) (by first | rfl | (unfold firstArgMember; rfl)) (wpAny_newObj_type ?_ (by size_fits)))) (by size_fits))
  refine raiseNew_hot ⟨hh, o1, vs1, Heap.get?_push_of_some _ (Heap.get?_push_of_some _ h1), d1, c1⟩ (Nat.ne_of_lt (Heap.lt_size (Heap.get?_push_of_some _ h1))) (Heap.get?_push_size _ rfl) rfl (by simp; omega) ?_
  refine hE _ _ (fun b o e => ?_) ⟨_, Heap.get?_update_self _ (Heap.get?_push_size _ rfl) rfl, rfl⟩
  rw [Heap.get?_update_other _ _ (Nat.ne_of_gt (Heap.lt_size (Heap.get?_push_of_some _ e)))]
  exact Heap.get?_push_of_some _ (Heap.get?_push_of_some _ e)
theorem listEnd_core {it a x1 : Addr} {i : Nat} {items : Array Value} {o : Obj} {Q : Fin → Shared → Prop} (hot : HotAt A x1 s.heap) (ni : it ≠ x1) (ho : s.heap.get? it = some o) (hd : o.data = .fields #[.ref a, .int i 0]) (hl : s.heap.IsList a items) (hx : items[i]? = none)
    (hE : ∀ h' e, Heap.ExtBut it s.heap h' → (∃ o, h'.get? e = some o ∧ o.cls = .type "StopIteration") → E (.ref e) { s with heap := h' }) : wpAny (model prog w) A (Builtin.«list_iterator.__next__» ⟨[.ref it], []⟩) Q E s := by
  obtain ⟨hh, o1, vs1, h1, d1, c1⟩ := hot; obtain ⟨ol, hol, _, nl, hdl⟩ := hl
  show wpAny _ _ (field (.ref it) 0 >>= _) _ _ s; refine wpAny_bind (wpAny_field ho hd (x := .ref a) rfl ?_)
  show wpAny _ _ (if (Value.ref a == Value.none) = true then _ else _) _ _ s; rw [if_neg (by exact Bool.false_ne_true)]
  show wpAny _ _ (field (.ref it) 1 >>= _) _ _ s; refine wpAny_bind (wpAny_field ho hd (x := .int i 0) rfl ?_)
  show wpAny _ _ (seqItems? (.ref a) >>= _) _ _ s; refine wpAny_bind (wpAny_seqItems hol hdl ?_); simp only [Int.toNat_natCast, hx]
  refine wpAny_bind (wpAny_rule (wpAny_bind (wpAny_setField ho hd (by simp) ?_)))
  refine stop_hot ⟨hh, o1, vs1, (by rw [Heap.get?_update_other _ _ ni]; exact h1), d1, c1⟩ fun h' e k he => hE h' e (fun b ob hb z => k b ob ?_) he
  show (s.heap.update it _).get? b = some ob; rw [Heap.get?_update_other _ _ (Ne.symm hb)]; exact z
theorem tupleEnd_core {it a x1 : Addr} {i : Nat} {items : Array Value} {o : Obj} {Q : Fin → Shared → Prop} (hot : HotAt A x1 s.heap) (ni : it ≠ x1) (ho : s.heap.get? it = some o) (hd : o.data = .fields #[.ref a, .int i 0]) (hl : s.heap.IsTuple a items) (hx : items[i]? = none)
    (hE : ∀ h' e, Heap.ExtBut it s.heap h' → (∃ o, h'.get? e = some o ∧ o.cls = .type "StopIteration") → E (.ref e) { s with heap := h' }) : wpAny (model prog w) A (Builtin.«tuple_iterator.__next__» ⟨[.ref it], []⟩) Q E s := by
  obtain ⟨hh, o1, vs1, h1, d1, c1⟩ := hot; obtain ⟨ol, hol, _, nl, hdl⟩ := hl
  show wpAny _ _ (field (.ref it) 0 >>= _) _ _ s; refine wpAny_bind (wpAny_field ho hd (x := .ref a) rfl ?_)
  show wpAny _ _ (if (Value.ref a == Value.none) = true then _ else _) _ _ s; rw [if_neg (by exact Bool.false_ne_true)]
  show wpAny _ _ (field (.ref it) 1 >>= _) _ _ s; refine wpAny_bind (wpAny_field ho hd (x := .int i 0) rfl ?_)
  show wpAny _ _ (seqItems? (.ref a) >>= _) _ _ s; refine wpAny_bind (wpAny_seqItems hol hdl ?_); simp only [Int.toNat_natCast, hx]
  refine wpAny_bind (wpAny_rule (wpAny_bind (wpAny_setField ho hd (by simp) ?_)))
  refine stop_hot ⟨hh, o1, vs1, (by rw [Heap.get?_update_other _ _ ni]; exact h1), d1, c1⟩ fun h' e k he => hE h' e (fun b ob hb z => k b ob ?_) he
  show (s.heap.update it _).get? b = some ob; rw [Heap.get?_update_other _ _ (Ne.symm hb)]; exact z
theorem nextOf_listH {it a x1 : Addr} {i : Nat} {items : Array Value} {Q : Value → Shared → Prop} (hot : HotAt A x1 s.heap) (ni : it ≠ x1) (hit : s.heap.IsListIter it a i) (hl : s.heap.IsList a items) (hx : items[i]? = none)
    (hE : ∀ h' e, Heap.ExtBut it s.heap h' → (∃ o, h'.get? e = some o ∧ o.cls = .type "StopIteration") → E (.ref e) { s with heap := h' }) : wpAny (model prog w) A (Builtin.SmallTypes.nextOf (.ref it)) Q E s := by
  obtain ⟨o, ho, hc, hd⟩ := id hit; unfold Builtin.SmallTypes.nextOf
  exact wpAny_bind (wpAny_callSpecial?_slot (name := Str.ofString "__next__") hit.typeIs slot_listiter_next (wpAny_call_entry slot_listiter_next hit.typeIs entry_listiter_next (listEnd_core (A := A.in1) hot ni ho hd hl hx hE) (args_listiter_next _)))
theorem pyNext_listH {it a x1 : Addr} {i : Nat} {items : Array Value} {Q : Option Value → Shared → Prop} (hot : HotAt A x1 s.heap) (ni : it ≠ x1) (hit : s.heap.IsListIter it a i) (hl : s.heap.IsList a items) (hx : items[i]? = none)
    (hQ : ∀ h', Heap.ExtBut it s.heap h' → Q none { s with heap := h' }) : wpAny (model prog w) A (pyNext (.ref it)) Q E s := by
  obtain ⟨o, ho, hc, hd⟩ := id hit; unfold pyNext
  refine wpAny_bind (wpAny_attempt (wpAny_callSpecial?_slot (name := Str.ofString "__next__") hit.typeIs slot_listiter_next (wpAny_call_entry slot_listiter_next hit.typeIs entry_listiter_next (listEnd_core (A := A.in1) hot ni ho hd hl hx fun h' e k ⟨oe, he, hce⟩ => ?_) (args_listiter_next _))))
  exact wpAny_bind (wpAny_isInstance (T := "StopIteration") (b := true) ⟨oe, he, hce⟩ isSubtype_stop (wpAny_pure (hQ _ k)))
theorem nextOf_tupleH {it a x1 : Addr} {i : Nat} {items : Array Value} {Q : Value → Shared → Prop} (hot : HotAt A x1 s.heap) (ni : it ≠ x1) (hit : s.heap.IsTupleIter it a i) (hl : s.heap.IsTuple a items) (hx : items[i]? = none)
    (hE : ∀ h' e, Heap.ExtBut it s.heap h' → (∃ o, h'.get? e = some o ∧ o.cls = .type "StopIteration") → E (.ref e) { s with heap := h' }) : wpAny (model prog w) A (Builtin.SmallTypes.nextOf (.ref it)) Q E s := by
  obtain ⟨o, ho, hc, hd⟩ := id hit; unfold Builtin.SmallTypes.nextOf
  exact wpAny_bind (wpAny_callSpecial?_slot (name := Str.ofString "__next__") hit.typeIs PySem.F.slot_tuple_iterator_next (wpAny_call_entry PySem.F.slot_tuple_iterator_next hit.typeIs PySem.F.entry_tuple_iterator_next (tupleEnd_core (A := A.in1) hot ni ho hd hl hx hE) (PySem.F.args_tuple_iterator_next_1 _)))
theorem pyNext_tupleH {it a x1 : Addr} {i : Nat} {items : Array Value} {Q : Option Value → Shared → Prop} (hot : HotAt A x1 s.heap) (ni : it ≠ x1) (hit : s.heap.IsTupleIter it a i) (hl : s.heap.IsTuple a items) (hx : items[i]? = none)
    (hQ : ∀ h', Heap.ExtBut it s.heap h' → Q none { s with heap := h' }) : wpAny (model prog w) A (pyNext (.ref it)) Q E s := by
  obtain ⟨o, ho, hc, hd⟩ := id hit; unfold pyNext
  refine wpAny_bind (wpAny_attempt (wpAny_callSpecial?_slot (name := Str.ofString "__next__") hit.typeIs PySem.F.slot_tuple_iterator_next (wpAny_call_entry PySem.F.slot_tuple_iterator_next hit.typeIs PySem.F.entry_tuple_iterator_next (tupleEnd_core (A := A.in1) hot ni ho hd hl hx fun h' e k ⟨oe, he, hce⟩ => ?_) (PySem.F.args_tuple_iterator_next_1 _))))
  exact wpAny_bind (wpAny_isInstance (T := "StopIteration") (b := true) ⟨oe, he, hce⟩ isSubtype_stop (wpAny_pure (hQ _ k)))
theorem HotAt.but {h h' : Heap} {x1 : Addr} (hot : HotAt A x1 h) (k : ∀ o, h.get? x1 = some o → h'.get? x1 = some o) : HotAt A x1 h' := by
  obtain ⟨hh, o1, vs1, h1, d1, c1⟩ := hot
  exact ⟨hh, o1, vs1, k _ h1, d1, c1⟩
theorem zipEnd_listH {z TI TO i1 i2 l1 l2 x1 : Addr} {k1 : Nat} {xs : Array Value} {a b : Value} {Q : Fin → Shared → Prop} (hot : HotAt A x1 s.heap) (nz : z ≠ x1) (ni : i1 ≠ x1) (D : ZipApart z TI TO i1 i2 l1 l2) (hz : IsZip s.heap z TI TO .none) (hTI : IsPair s.heap TI (.ref i1) (.ref i2)) (hTO : IsPair s.heap TO a b)
    (h1 : s.heap.IsListIter i1 l1 k1) (hl1 : s.heap.IsList l1 xs) (hend : xs[k1]? = none) (hE : ∀ h' e, (∀ c o, c ≠ z → c ≠ i1 → s.heap.get? c = some o → h'.get? c = some o) → (∃ o, h'.get? e = some o ∧ o.cls = .type "StopIteration") → E (.ref e) { s with heap := h' }) :
    wpAny (model prog w) A (Builtin.«zip.__next__» ⟨[.ref z], []⟩) Q E s := by
  show wpAny _ _ (field (.ref z) 2 >>= _) _ _ _; refine wpAny_bind (wpAny_field hz rfl (x := .bool false) rfl ?_)
  show wpAny _ _ (field (.ref z) 3 >>= _) _ _ _; refine wpAny_bind (wpAny_field hz rfl (x := .ref TI) rfl (wpAny_bind (wpAny_seqItems hTI rfl ?_)))
  show wpAny _ _ (Builtin.SmallTypes.ownedTupleIsFree (.ref z) >>= _) _ _ _; refine wpAny_bind ?_; unfold Builtin.SmallTypes.ownedTupleIsFree
  refine wpAny_bind (wpAny_field hz rfl (x := .none) rfl (wpAny_pure ?_)); simp only [if_true]
  refine wpAny_bind (wpAny_rule (wpAny_bind (wpAny_field hz rfl (x := .ref TO) rfl (wpAny_bind (wpAny_setField_rec hz (by simp) fun g₁ hz₁ hs₁ => ?_)))))
  replace hz₁ : IsZip g₁ z TI TO .ellipsis := hz₁; refine wpAny_bind ?_
  simp only [List.zipIdx_cons, List.zipIdx_nil, List.forIn_cons, List.forIn_nil]; refine wpAny_bind (wpAny_bind (wpAny_onRaise ?_))
  show wpAny _ _ (Builtin.SmallTypes.nextOf (.ref i1) >>= _) _ _ _
  refine wpAny_bind (nextOf_listH (s := { s with heap := g₁ }) (HotAt.but hot fun o e => hs₁.extBut _ _ (Ne.symm nz) e) ni (h1.extBut hs₁.extBut D.i1z) (hl1.extBut hs₁.extBut D.l1z) hend fun g₂ e hs₂ ⟨oe, hoe, hce⟩ => ?_)
  have hz₂ : IsZip g₂ z TI TO .ellipsis := hs₂ _ _ D.i1z.symm hz₁
  have hez : e ≠ z := fun x => by rw [x, show g₂.get? z = _ from hz₂] at hoe; cases hoe; simp at hce
  exact wpAny_setField_rec hz₂ (by simp) fun g₃ _ hs₃ => hE g₃ e (fun c o c1 c3 x => hs₃.extBut _ _ c1 (hs₂ _ _ c3 (hs₁.extBut _ _ c1 x))) ⟨oe, hs₃.extBut _ _ hez hoe, hce⟩
theorem pyNext_zip_listH {z TI TO i1 i2 l1 l2 x1 : Addr} {k1 : Nat} {xs : Array Value} {a b : Value} {Q : Option Value → Shared → Prop} (hot : HotAt A x1 s.heap) (nz : z ≠ x1) (ni : i1 ≠ x1) (D : ZipApart z TI TO i1 i2 l1 l2) (hz : IsZip s.heap z TI TO .none) (hTI : IsPair s.heap TI (.ref i1) (.ref i2)) (hTO : IsPair s.heap TO a b)
    (h1 : s.heap.IsListIter i1 l1 k1) (hl1 : s.heap.IsList l1 xs) (hend : xs[k1]? = none) (hQ : ∀ h', (∀ c o, c ≠ z → c ≠ i1 → s.heap.get? c = some o → h'.get? c = some o) → Q none { s with heap := h' }) : wpAny (model prog w) A (pyNext (.ref z)) Q E s := by
  have hT : s.TypeIs (.ref z) "zip" := ⟨_, hz, rfl⟩; unfold pyNext
  refine wpAny_bind (wpAny_attempt (wpAny_callSpecial?_slot (name := Str.ofString "__next__") hT PySem.F.slot_zip_next (wpAny_call_entry PySem.F.slot_zip_next hT PySem.F.entry_zip_next (zipEnd_listH (A := A.in1) hot nz ni D hz hTI hTO h1 hl1 hend fun h' e hk ⟨oe, he, hce⟩ => ?_) (PySem.F.args_zip_next_1 _))))
  exact wpAny_bind (wpAny_isInstance (T := "StopIteration") (b := true) ⟨oe, he, hce⟩ isSubtype_stop (wpAny_pure (hQ _ hk)))
theorem zipEnd_tupleH {z TI TO i1 i2 l1 l2 x1 : Addr} {k1 : Nat} {xs : Array Value} {a b : Value} {Q : Fin → Shared → Prop} (hot : HotAt A x1 s.heap) (nz : z ≠ x1) (ni : i1 ≠ x1) (D : ZipApart z TI TO i1 i2 l1 l2) (hz : IsZip s.heap z TI TO .none) (hTI : IsPair s.heap TI (.ref i1) (.ref i2)) (hTO : IsPair s.heap TO a b)
    (h1 : s.heap.IsTupleIter i1 l1 k1) (hl1 : s.heap.IsTuple l1 xs) (hend : xs[k1]? = none) (hE : ∀ h' e, (∀ c o, c ≠ z → c ≠ i1 → s.heap.get? c = some o → h'.get? c = some o) → (∃ o, h'.get? e = some o ∧ o.cls = .type "StopIteration") → E (.ref e) { s with heap := h' }) :
    wpAny (model prog w) A (Builtin.«zip.__next__» ⟨[.ref z], []⟩) Q E s := by
  show wpAny _ _ (field (.ref z) 2 >>= _) _ _ _; refine wpAny_bind (wpAny_field hz rfl (x := .bool false) rfl ?_)
  show wpAny _ _ (field (.ref z) 3 >>= _) _ _ _; refine wpAny_bind (wpAny_field hz rfl (x := .ref TI) rfl (wpAny_bind (wpAny_seqItems hTI rfl ?_)))
  show wpAny _ _ (Builtin.SmallTypes.ownedTupleIsFree (.ref z) >>= _) _ _ _; refine wpAny_bind ?_; unfold Builtin.SmallTypes.ownedTupleIsFree
  refine wpAny_bind (wpAny_field hz rfl (x := .none) rfl (wpAny_pure ?_)); simp only [if_true]
  refine wpAny_bind (wpAny_rule (wpAny_bind (wpAny_field hz rfl (x := .ref TO) rfl (wpAny_bind (wpAny_setField_rec hz (by simp) fun g₁ hz₁ hs₁ => ?_)))))
  replace hz₁ : IsZip g₁ z TI TO .ellipsis := hz₁; refine wpAny_bind ?_
  simp only [List.zipIdx_cons, List.zipIdx_nil, List.forIn_cons, List.forIn_nil]; refine wpAny_bind (wpAny_bind (wpAny_onRaise ?_))
  show wpAny _ _ (Builtin.SmallTypes.nextOf (.ref i1) >>= _) _ _ _
  refine wpAny_bind (nextOf_tupleH (s := { s with heap := g₁ }) (HotAt.but hot fun o e => hs₁.extBut _ _ (Ne.symm nz) e) ni (h1.extBut hs₁.extBut D.i1z) (hl1.extBut hs₁.extBut D.l1z) hend fun g₂ e hs₂ ⟨oe, hoe, hce⟩ => ?_)
  have hz₂ : IsZip g₂ z TI TO .ellipsis := hs₂ _ _ D.i1z.symm hz₁
  have hez : e ≠ z := fun x => by rw [x, show g₂.get? z = _ from hz₂] at hoe; cases hoe; simp at hce
  exact wpAny_setField_rec hz₂ (by simp) fun g₃ _ hs₃ => hE g₃ e (fun c o c1 c3 x => hs₃.extBut _ _ c1 (hs₂ _ _ c3 (hs₁.extBut _ _ c1 x))) ⟨oe, hs₃.extBut _ _ hez hoe, hce⟩
theorem pyNext_zip_tupleH {z TI TO i1 i2 l1 l2 x1 : Addr} {k1 : Nat} {xs : Array Value} {a b : Value} {Q : Option Value → Shared → Prop} (hot : HotAt A x1 s.heap) (nz : z ≠ x1) (ni : i1 ≠ x1) (D : ZipApart z TI TO i1 i2 l1 l2) (hz : IsZip s.heap z TI TO .none) (hTI : IsPair s.heap TI (.ref i1) (.ref i2)) (hTO : IsPair s.heap TO a b)
    (h1 : s.heap.IsTupleIter i1 l1 k1) (hl1 : s.heap.IsTuple l1 xs) (hend : xs[k1]? = none) (hQ : ∀ h', (∀ c o, c ≠ z → c ≠ i1 → s.heap.get? c = some o → h'.get? c = some o) → Q none { s with heap := h' }) : wpAny (model prog w) A (pyNext (.ref z)) Q E s := by
  have hT : s.TypeIs (.ref z) "zip" := ⟨_, hz, rfl⟩; unfold pyNext
  refine wpAny_bind (wpAny_attempt (wpAny_callSpecial?_slot (name := Str.ofString "__next__") hT PySem.F.slot_zip_next (wpAny_call_entry PySem.F.slot_zip_next hT PySem.F.entry_zip_next (zipEnd_tupleH (A := A.in1) hot nz ni D hz hTI hTO h1 hl1 hend fun h' e hk ⟨oe, he, hce⟩ => ?_) (PySem.F.args_zip_next_1 _))))
  exact wpAny_bind (wpAny_isInstance (T := "StopIteration") (b := true) ⟨oe, he, hce⟩ isSubtype_stop (wpAny_pure (hQ _ hk)))
end
end HT2
set_option Elab.async false
set_option linter.all false
set_option maxRecDepth 100000
set_option maxHeartbeats 2000000
set_option autoImplicit false
namespace HT2
open PySem PySem.Spec PyProof.Rows HotX L2 RZ L2H
section
variable {prog : Program} {w : World} {A : Around} {E : Value → Shared → Prop} {s : Shared}
/-- a list walked while an exception is handled -/
theorem walks_listH {x1 : Addr} (I ax : Addr) (hne : ax ≠ I) (nx : I ≠ x1) (items : Array Value) (hA : A.handled = some (.ref x1)) :
    Walks prog w A I [I, ax, x1] [I] items.size (fun i v => items[i]? = some v) (fun i h => h.IsListIter I ax i ∧ h.IsList ax items ∧ HotAt A x1 h) where
  sub := fun b hb => by rw [List.mem_singleton] at hb; subst hb; exact List.mem_cons_self
  frame := fun _ _ _ ⟨a, b, c⟩ k => ⟨a.at fun o e => k I (by simp) o e, b.at fun o e => k ax (by simp) o e, HotAt.but c fun o e => k x1 (by simp) o e⟩
  item := fun i s Q E hi ⟨a, b, c⟩ hQ => by
    refine wpAny_pyNext_list_item a b (x := items[i]) (Array.getElem?_eq_getElem hi) fun g hit sb => hQ _ g s.toks (Array.getElem?_eq_getElem hi) ⟨hit, b.extBut sb.extBut hne, HotAt.but c fun o e => sb.extBut _ _ nx.symm e⟩ fun b o hb e => sb.extBut b o (fun h => hb (by rw [h]; exact List.mem_singleton_self _)) e
  done := fun s Q E ⟨a, b, c⟩ hQ => pyNext_listH c nx a b (Array.getElem?_eq_none (Nat.le_refl _)) fun g he => hQ g s.toks fun b o hb e => he b o (fun h => hb (by rw [h]; exact List.mem_singleton_self _)) e
  self := fun _ _ _ _ st hQ => wpAny_pyIter_listiter st.1 hQ
/-- a tuple unpacked -/
theorem unpackH {x1 t : Addr} {items : Array Value} {targets : List (Bool × (Value → Sem Unit))} {Q : Unit → Shared → Prop} (hot : HotAt A x1 s.heap) (ht : IsTup s.heap t items) (hn : targets.length = items.size) (hstar : targets.findIdx? (·.1) = none)
    (h : ∀ h', Heap.ExtBut s.heap.objs.size s.heap h' → wpAny (model prog w) A (assignInOrder (targets.map (·.2)) items.toList) Q E { s with heap := h' }) : wpAny (model prog w) A (unpack (.ref t) targets) Q E s := by
  have hlt : t ≠ s.heap.objs.size := by obtain ⟨o, ho, _⟩ := id ht; exact Nat.ne_of_lt (Heap.lt_size ho)
  have hx1 : s.heap.objs.size ≠ x1 := by obtain ⟨_, o, _, ho, _⟩ := id hot; exact Nat.ne_of_gt (Heap.lt_size ho)
  unfold unpack; rw [hn, hstar]
  refine wpAny_bind (wpAny_holding ?_); unfold unpackItems; refine wpAny_bind ?_; unfold notIterableAtAll
  refine wpAny_bind (wpAny_specialOf ht.typeIs slot_tuple_iter.lookup (wpAny_pure ?_)); simp only [Bool.false_eq_true, if_false]
  refine wpAny_bind (wpAny_holding (iter_tuple ht (wpAny_bind (wpAny_holding (draw_tuple hlt items.size 0 _ _ ⟨_, Heap.get?_push_size _ rfl, rfl, rfl⟩ (ht.push _) (by omega) fun g₁ hit₁ hs₁ => ?_)))))
  have hall : List.take items.size (List.drop 0 items.toList) = items.toList := List.take_of_length_le (by simp)
  rw [hall, if_neg (by simp)]
  have ht₁ : IsTup g₁ t items := (ht.push _).extBut hs₁.extBut hlt
  refine wpAny_bind (wpAny_holding (pyNext_tupleH (x1 := x1) (s := { s with heap := g₁ }) (HotAt.but hot fun o e => hs₁.extBut _ _ hx1.symm (Heap.get?_push_of_some _ e)) hx1 hit₁ ht₁ (by simp) fun g₂ he₂ => ?_))
  simp only [Option.isSome_none, Bool.false_eq_true, if_false]
  exact wpAny_pure (h g₂ fun b o hb e => he₂ b o hb (hs₁.extBut b o hb (Heap.get?_push_of_some _ e)))
end
section
variable {X : Cx} {pos : Pos}
theorem pg_tupH {es : List Expr} {k : Nat} {t : TGs} {n : Nat} (hc : HotC X) (h : PGs X es t) (hn : (assignEach es X.env).length = n := by rfl) (hst : (assignEach es X.env).findIdx? (·.1) = none := by rfl) : PG X (.Tuple es k pos) (gTup X.K n t) := by
  refine ⟨fun pins s σ H v u Q I r hw => ?_⟩; obtain ⟨a, xs, rfl, hq, hl, hw⟩ := hw; cases r
  obtain ⟨its, rv, ht, hz⟩ := I.tuple hq; obtain ⟨x1, hot⟩ := hc.at I
  rw [assign_Tuple]
  refine wpAny_bind (wpAny_standAt (unpackH hot ht (by simp [hn, ← hl, rv.length]) hst fun g hx => ?_))
  have I1 : Inv X pins σ H { s with heap := g } := I.kept (t' := s.toks) fun b o e => hx b o (Nat.ne_of_lt (Heap.lt_size e)) e
  exact h.run pins _ σ H xs _ Q I1 (by simpa using rv) hw
theorem cr_allH (hc : HotC X) : CallR X (.builtin "all") (rAll X.K) := by
  intro pins s σ H vs us Q I r h; obtain ⟨a, bs, rfl, hs, q⟩ := h
  obtain ⟨its, rv, hl, _⟩ := I.list hs; rw [Vals.ref1 r]; have hb := rv.bls; obtain ⟨x1, hot⟩ := hc.at I
  have hx1 : s.heap.objs.size ≠ x1 := by obtain ⟨_, o, _, ho, _⟩ := id hot; exact Nat.ne_of_gt (Heap.lt_size ho)
  refine call_all_walk (iter_any hl.isList fun s₂ e2 st hne => ?_); subst e2
  refine ⟨_, _, _, _, _, _, _, rfl, walks_listH (A := X.A.in1) (x1 := x1) _ a hne hx1 its.toArray hot.1, ⟨st.1, st.2, HotAt.but (A := X.A) hot fun o e => Heap.get?_push_of_some _ e⟩, truth_bools hb, fun g tk hk => ?_⟩
  refine ⟨.bl _, H, I.kept fun b o eo => hk b o (fun hmem => ?_) (Heap.get?_push_of_some _ eo), ?_, q⟩
  · rw [List.mem_singleton] at hmem; exact absurd (hmem ▸ Heap.lt_size eo) (Nat.lt_irrefl _)
  · show Value.bool _ = Value.bool _; rw [← L2.all_range, hb, List.size_toArray, List.length_map]
end
end HT2
set_option Elab.async false
set_option linter.all false
set_option maxRecDepth 100000
set_option maxHeartbeats 2000000
set_option autoImplicit false
namespace HT2
open PySem PySem.Spec PyProof.Rows HotX L2 RZ L2H
section
variable {prog : Program} {w : World} {A : Around} {E : Value → Shared → Prop} {s : Shared}
theorem zipOver_listH {z TI TO i1 i2 l1 l2 x1 : Addr} {k1 k2 : Nat} {xs ys : Array Value} {a b : Value} {Q : Option Value → Shared → Prop} (hot : HotAt A x1 s.heap) (nz : ∀ c ∈ [z, TI, TO, i1, i2], c ≠ x1) (D : ZipApart z TI TO i1 i2 l1 l2) (hz : IsZip s.heap z TI TO .none) (hTI : IsPair s.heap TI (.ref i1) (.ref i2)) (hTO : IsPair s.heap TO a b)
    (h1 : s.heap.IsListIter i1 l1 k1) (h2 : s.heap.IsListIter i2 l2 k2) (hl1 : s.heap.IsList l1 xs) (hl2 : s.heap.IsList l2 ys) (hend : xs[k1]? = none ∨ ys[k2]? = none) (hQ : ∀ h', (∀ c o, c ≠ z → c ≠ TO → c ≠ i1 → c ≠ i2 → s.heap.get? c = some o → h'.get? c = some o) → Q none { s with heap := h' }) : wpAny (model prog w) A (pyNext (.ref z)) Q E s := by
  cases hx : xs[k1]? with
  | none => exact pyNext_zip_listH hot (nz z (by simp)) (nz i1 (by simp)) D hz hTI hTO h1 hl1 hx fun g hg => hQ g fun c o c1 _ c3 _ x => hg c o c1 c3 x
  | some x =>
    have hy : ys[k2]? = none := by rcases hend with h | h; (rw [hx] at h; cases h); exact h
    have hT : s.TypeIs (.ref z) "zip" := ⟨_, hz, rfl⟩; unfold pyNext
    refine wpAny_bind (wpAny_attempt (wpAny_callSpecial?_slot (name := Str.ofString "__next__") hT PySem.F.slot_zip_next (wpAny_call_entry PySem.F.slot_zip_next hT PySem.F.entry_zip_next ?_ (PySem.F.args_zip_next_1 _))))
    show wpAny _ _ (field (.ref z) 2 >>= _) _ _ _; refine wpAny_bind (wpAny_field hz rfl (x := .bool false) rfl ?_)
    show wpAny _ _ (field (.ref z) 3 >>= _) _ _ _; refine wpAny_bind (wpAny_field hz rfl (x := .ref TI) rfl (wpAny_bind (wpAny_seqItems hTI rfl ?_)))
    show wpAny _ _ (Builtin.SmallTypes.ownedTupleIsFree (.ref z) >>= _) _ _ _; refine wpAny_bind ?_; unfold Builtin.SmallTypes.ownedTupleIsFree
    refine wpAny_bind (wpAny_field hz rfl (x := .none) rfl (wpAny_pure ?_)); simp only [if_true]
    refine wpAny_bind (wpAny_rule (wpAny_bind (wpAny_field hz rfl (x := .ref TO) rfl (wpAny_bind (wpAny_setField_rec hz (by simp) fun g₁ hz₁ hs₁ => ?_)))))
    replace hz₁ : IsZip g₁ z TI TO .ellipsis := hz₁; refine wpAny_bind ?_
    simp only [List.zipIdx_cons, List.zipIdx_nil, List.forIn_cons, List.forIn_nil]; refine wpAny_bind (wpAny_bind (wpAny_onRaise ?_))
    show wpAny _ _ (Builtin.SmallTypes.nextOf (.ref i1) >>= _) _ _ _
    refine wpAny_bind (wpAny_nextOf_list_item (h1.extBut hs₁.extBut D.i1z) (hl1.extBut hs₁.extBut D.l1z) hx fun g₂ h1₂ hs₂ => wpAny_pure ?_)
    have hTO₂ : IsPair g₂ TO a b := hs₂.extBut _ _ D.TOi1 (hs₁.extBut _ _ D.TOz hTO)
    refine wpAny_bind (wpAny_seqItems hTO₂ rfl (wpAny_bind (wpAny_updateSeq_pair hTO₂ fun g₃ hTO₃ hs₃ => wpAny_bind (wpAny_letGo (wpAny_pure ?_)))))
    refine wpAny_bind (wpAny_bind (wpAny_onRaise ?_)); show wpAny _ _ (Builtin.SmallTypes.nextOf (.ref i2) >>= _) _ _ _
    have e2 := ((h2.extBut hs₁.extBut D.i2z).extBut hs₂.extBut D.i12.symm).extBut hs₃.extBut D.TOi2.symm
    have e3 := ((hl2.extBut hs₁.extBut D.l2z).extBut hs₂.extBut D.l2i1).extBut hs₃.extBut D.l2TO
    refine wpAny_bind (nextOf_listH (s := { s with heap := g₃ }) (HotAt.but hot fun o e => hs₃.extBut _ _ (nz TO (by simp)).symm (hs₂.extBut _ _ (nz i1 (by simp)).symm (hs₁.extBut _ _ (nz z (by simp)).symm e))) (nz i2 (by simp)) e2 e3 hy fun g₄ e hs₄ ⟨oe, hoe, hce⟩ => ?_)
    have hz₄ : IsZip g₄ z TI TO .ellipsis := hs₄ _ _ D.i2z.symm (hs₃.extBut _ _ D.TOz.symm (hs₂.extBut _ _ D.i1z.symm hz₁))
    have hez : e ≠ z := fun x => by rw [x, show g₄.get? z = _ from hz₄] at hoe; cases hoe; simp at hce
    refine wpAny_setField_rec hz₄ (by simp) fun g₅ _ hs₅ => ?_
    exact wpAny_bind (wpAny_isInstance (T := "StopIteration") (b := true) ⟨oe, hs₅.extBut _ _ hez hoe, hce⟩ isSubtype_stop (wpAny_pure (hQ _ fun c o c1 c2 c3 c4 x => hs₅.extBut _ _ c1 (hs₄ _ _ c4 (hs₃.extBut _ _ c2 (hs₂.extBut _ _ c3 (hs₁.extBut _ _ c1 x)))))))
theorem zipOver_tupleH {z TI TO i1 i2 l1 l2 x1 : Addr} {k1 k2 : Nat} {xs ys : Array Value} {a b : Value} {Q : Option Value → Shared → Prop} (hot : HotAt A x1 s.heap) (nz : ∀ c ∈ [z, TI, TO, i1, i2], c ≠ x1) (D : ZipApart z TI TO i1 i2 l1 l2) (hz : IsZip s.heap z TI TO .none) (hTI : IsPair s.heap TI (.ref i1) (.ref i2)) (hTO : IsPair s.heap TO a b)
    (h1 : s.heap.IsTupleIter i1 l1 k1) (h2 : s.heap.IsTupleIter i2 l2 k2) (hl1 : s.heap.IsTuple l1 xs) (hl2 : s.heap.IsTuple l2 ys) (hend : xs[k1]? = none ∨ ys[k2]? = none) (hQ : ∀ h', (∀ c o, c ≠ z → c ≠ TO → c ≠ i1 → c ≠ i2 → s.heap.get? c = some o → h'.get? c = some o) → Q none { s with heap := h' }) : wpAny (model prog w) A (pyNext (.ref z)) Q E s := by
  cases hx : xs[k1]? with
  | none => exact pyNext_zip_tupleH hot (nz z (by simp)) (nz i1 (by simp)) D hz hTI hTO h1 hl1 hx fun g hg => hQ g fun c o c1 _ c3 _ x => hg c o c1 c3 x
  | some x =>
    have hy : ys[k2]? = none := by rcases hend with h | h; (rw [hx] at h; cases h); exact h
    have hT : s.TypeIs (.ref z) "zip" := ⟨_, hz, rfl⟩; unfold pyNext
    refine wpAny_bind (wpAny_attempt (wpAny_callSpecial?_slot (name := Str.ofString "__next__") hT PySem.F.slot_zip_next (wpAny_call_entry PySem.F.slot_zip_next hT PySem.F.entry_zip_next ?_ (PySem.F.args_zip_next_1 _))))
    show wpAny _ _ (field (.ref z) 2 >>= _) _ _ _; refine wpAny_bind (wpAny_field hz rfl (x := .bool false) rfl ?_)
    show wpAny _ _ (field (.ref z) 3 >>= _) _ _ _; refine wpAny_bind (wpAny_field hz rfl (x := .ref TI) rfl (wpAny_bind (wpAny_seqItems hTI rfl ?_)))
    show wpAny _ _ (Builtin.SmallTypes.ownedTupleIsFree (.ref z) >>= _) _ _ _; refine wpAny_bind ?_; unfold Builtin.SmallTypes.ownedTupleIsFree
    refine wpAny_bind (wpAny_field hz rfl (x := .none) rfl (wpAny_pure ?_)); simp only [if_true]
    refine wpAny_bind (wpAny_rule (wpAny_bind (wpAny_field hz rfl (x := .ref TO) rfl (wpAny_bind (wpAny_setField_rec hz (by simp) fun g₁ hz₁ hs₁ => ?_)))))
    replace hz₁ : IsZip g₁ z TI TO .ellipsis := hz₁; refine wpAny_bind ?_
    simp only [List.zipIdx_cons, List.zipIdx_nil, List.forIn_cons, List.forIn_nil]; refine wpAny_bind (wpAny_bind (wpAny_onRaise ?_))
    show wpAny _ _ (Builtin.SmallTypes.nextOf (.ref i1) >>= _) _ _ _
    refine wpAny_bind (nextOf_tuple_item (h1.extBut hs₁.extBut D.i1z) (hl1.extBut hs₁.extBut D.l1z) hx fun g₂ h1₂ hs₂ => wpAny_pure ?_)
    have hTO₂ : IsPair g₂ TO a b := hs₂.extBut _ _ D.TOi1 (hs₁.extBut _ _ D.TOz hTO)
    refine wpAny_bind (wpAny_seqItems hTO₂ rfl (wpAny_bind (wpAny_updateSeq_pair hTO₂ fun g₃ hTO₃ hs₃ => wpAny_bind (wpAny_letGo (wpAny_pure ?_)))))
    refine wpAny_bind (wpAny_bind (wpAny_onRaise ?_)); show wpAny _ _ (Builtin.SmallTypes.nextOf (.ref i2) >>= _) _ _ _
    have e2 := ((h2.extBut hs₁.extBut D.i2z).extBut hs₂.extBut D.i12.symm).extBut hs₃.extBut D.TOi2.symm
    have e3 := ((hl2.extBut hs₁.extBut D.l2z).extBut hs₂.extBut D.l2i1).extBut hs₃.extBut D.l2TO
    refine wpAny_bind (nextOf_tupleH (s := { s with heap := g₃ }) (HotAt.but hot fun o e => hs₃.extBut _ _ (nz TO (by simp)).symm (hs₂.extBut _ _ (nz i1 (by simp)).symm (hs₁.extBut _ _ (nz z (by simp)).symm e))) (nz i2 (by simp)) e2 e3 hy fun g₄ e hs₄ ⟨oe, hoe, hce⟩ => ?_)
    have hz₄ : IsZip g₄ z TI TO .ellipsis := hs₄ _ _ D.i2z.symm (hs₃.extBut _ _ D.TOz.symm (hs₂.extBut _ _ D.i1z.symm hz₁))
    have hez : e ≠ z := fun x => by rw [x, show g₄.get? z = _ from hz₄] at hoe; cases hoe; simp at hce
    refine wpAny_setField_rec hz₄ (by simp) fun g₅ _ hs₅ => ?_
    exact wpAny_bind (wpAny_isInstance (T := "StopIteration") (b := true) ⟨oe, hs₅.extBut _ _ hez hoe, hce⟩ isSubtype_stop (wpAny_pure (hQ _ fun c o c1 c2 c3 c4 x => hs₅.extBut _ _ c1 (hs₄ _ _ c4 (hs₃.extBut _ _ c2 (hs₂.extBut _ _ c3 (hs₁.extBut _ _ c1 x)))))))
end
end HT2
set_option Elab.async false
set_option linter.all false
set_option maxRecDepth 100000
set_option maxHeartbeats 2000000
set_option autoImplicit false
namespace HT2
open PySem PySem.Spec PyProof.Rows HotX L2 RZ L2H
theorem hotPin {X : Cx} {pins : List (Addr × Obj)} {σ : L2.St} {H : Hp} {s : Shared} (c : HotC X) (I : Inv X pins σ H s) : ∃ x1, HotAt X.A x1 s.heap ∧ ∀ b, FpOk X pins H b → b ≠ x1 := by
  obtain ⟨p, ⟨hh, v1, e1, c1⟩, hp⟩ := c
  exact ⟨p.1, ⟨hh, p.2, v1, (I.pin p (List.mem_append_left _ hp)).1, e1, c1⟩, fun b hb z => hb.2.2.2.2.2 p (List.mem_append_left _ hp) z.symm⟩
theorem turnH_list {P : Program} {w : World} {K : PySem.W.Frag} {elts : List Expr} {kk : Nat} {tpos : Pos} {a b z TI TO i1 i2 : Addr} (D : ZipApart z TI TO i1 i2 a b) :
    TurnH P w K (.Tuple elts kk tpos) (Itz K a b) [z, TI, TO, i1, i2] z (fun i h => IsZip h z TI TO .none ∧ IsPair h TI (.ref i1) (.ref i2) ∧ (∃ x y, IsPair h TO x y) ∧ h.IsListIter i1 a i ∧ h.IsListIter i2 b i) where
  mem := List.mem_cons_self
  obj := fun i h st c hc => by
    obtain ⟨hz, hTI, ⟨x, y, hTO⟩, ⟨o1, e1, _, d1⟩, ⟨o2, e2, _, d2⟩⟩ := st
    simp only [List.mem_cons, List.not_mem_nil, or_false] at hc
    rcases hc with rfl | rfl | rfl | rfl | rfl
    · exact ⟨_, hz, fun v q => (by cases q)⟩
    · exact ⟨_, hTI, fun v q => (by cases q)⟩
    · exact ⟨_, hTO, fun v q => (by cases q)⟩
    · exact ⟨o1, e1, fun v q => by rw [d1] at q; cases q⟩
    · exact ⟨o2, e2, fun v q => by rw [d2] at q; cases q⟩
  keep := fun i h h' ⟨hz, hTI, ⟨x, y, hTO⟩, h1, h2⟩ k => ⟨k z (by simp) _ hz, k TI (by simp) _ hTI, ⟨x, y, k TO (by simp) _ hTO⟩, h1.at fun o q => k i1 (by simp) o q, h2.at fun o q => k i2 (by simp) o q⟩
  item := by
    intro X hP hw hK hc i pins s σ H E I hf ⟨hz, hTI, ⟨x0, y0, hTO⟩, h1, h2⟩ ⟨xs, ys, x, y, hqx, hqy, hx, hy⟩; subst hP hw hK
    obtain ⟨its, rv, p, _⟩ := I.list hqx; obtain ⟨its2, rv2, p2, _⟩ := I.list hqy
    obtain ⟨u, hu, ru⟩ := rv.get hx; obtain ⟨u2, hu2, ru2⟩ := rv2.get hy; have hzl : z < s.heap.objs.size := Heap.lt_size hz
    refine wpAny_pyNext_zip_item D hz hTI hTO h1 h2 p.isList p2.isList (x := u) (y := u2) (by simpa using hu) (by simpa using hu2) fun g z' TO' h1' h2' hT hsz hk => ⟨_, rfl, wpAny_letOwnedTupleGo_zip (s := { s with heap := g }) z' fun g2 z2 sb => ?_⟩
    have hT2 : g2.get? s.heap.objs.size = some { cls := .type "tuple", data := .seq #[u, u2] } := (sb.2 _ (Nat.ne_of_gt hzl)).trans hT
    have new : ObjOk X.prog X.w (upd H s.heap.objs.size (.tup [x, y])) g2 s.heap.objs.size (.tup [x, y]) := ⟨by show 2 ≤ sizeLine; decide, [u, u2], .cons ru (.cons ru2 .nil), ⟨_, hT2, rfl, _, rfl⟩⟩
    have I1 : Inv X pins σ (upd H s.heap.objs.size (.tup [x, y])) { s with heap := g2 } := I.turnedNew (t' := s.toks) (ch := [z, TI, TO, i1, i2]) (fun c o hb q => by
      simp only [List.mem_cons, List.not_mem_nil, or_false, not_or] at hb
      exact (sb.2 c hb.1).trans (hk c o hb.1 hb.2.2.1 hb.2.2.2.1 hb.2.2.2.2 q)) hf (Nat.le_refl _) new
    refine ⟨.ref s.heap.objs.size, _, I1, rfl, ⟨_, x, y, rfl, I.hok.fresh (Nat.le_refl _), rfl, fun l hl => ?_, fun l hl => ?_⟩, ⟨z2, (sb.2 _ D.TIz).trans (hk _ _ D.TIz D.TITO D.TIi1 D.TIi2 hTI), ⟨u, u2, (sb.2 _ D.TOz).trans TO'⟩, h1'.at fun o q => (sb.2 _ D.i1z).trans q, h2'.at fun o q => (sb.2 _ D.i2z).trans q⟩, fun c hcm => ?_⟩
    · rw [I.list_inj hl hqx]; exact hx
    · rw [I.list_inj hl hqy]; exact hy
    · have hlt : c < s.heap.objs.size := by
        obtain ⟨_, e1, _⟩ := h1; obtain ⟨_, e2, _⟩ := h2; simp only [List.mem_cons, List.not_mem_nil, or_false] at hcm
        rcases hcm with rfl | rfl | rfl | rfl | rfl
        · exact hzl
        · exact Heap.lt_size hTI
        · exact Heap.lt_size hTO
        · exact Heap.lt_size e1
        · exact Heap.lt_size e2
      rw [upd_ne (Nat.ne_of_lt hlt)]; exact (hf c hcm).1
  done := by
    intro X hP hw hK hc i pins s σ H E I hf ⟨hz, hTI, ⟨x0, y0, hTO⟩, h1, h2⟩ ⟨xs, ys, hqx, hqy, hend⟩; subst hP hw hK
    obtain ⟨its, rv, p, _⟩ := I.list hqx; obtain ⟨its2, rv2, p2, _⟩ := I.list hqy; have l1 := rv.length; have l2 := rv2.length
    obtain ⟨x1, hot, ne⟩ := hotPin hc I
    have he : its.toArray[i]? = none ∨ its2.toArray[i]? = none := by rcases hend with q | q <;> first | exact .inl (by simp; omega) | exact .inr (by simp; omega)
    refine zipOver_listH hot (fun c hc => ne c (hf c hc)) D hz hTI hTO h1 h2 p.isList p2.isList he fun g hk => ⟨rfl, I.turnedL (t' := s.toks) (ch := [z, TI, TO, i1, i2]) (fun c o hb q => ?_) hf⟩
    simp only [List.mem_cons, List.not_mem_nil, or_false, not_or] at hb
    exact hk c o hb.1 hb.2.2.1 hb.2.2.2.1 hb.2.2.2.2 q
  self := fun A i s Q E st h => wpAny_pyIter_zip st.1 h
theorem turnH_tuple {P : Program} {w : World} {K : PySem.W.Frag} {elts : List Expr} {kk : Nat} {tpos : Pos} {a b z TI TO i1 i2 : Addr} (D : ZipApart z TI TO i1 i2 a b) :
    TurnH P w K (.Tuple elts kk tpos) (ItzT K a b) [z, TI, TO, i1, i2] z (fun i h => IsZip h z TI TO .none ∧ IsPair h TI (.ref i1) (.ref i2) ∧ (∃ x y, IsPair h TO x y) ∧ h.IsTupleIter i1 a i ∧ h.IsTupleIter i2 b i) where
  mem := List.mem_cons_self
  obj := fun i h st c hc => by
    obtain ⟨hz, hTI, ⟨x, y, hTO⟩, ⟨o1, e1, _, d1⟩, ⟨o2, e2, _, d2⟩⟩ := st
    simp only [List.mem_cons, List.not_mem_nil, or_false] at hc
    rcases hc with rfl | rfl | rfl | rfl | rfl
    · exact ⟨_, hz, fun v q => (by cases q)⟩
    · exact ⟨_, hTI, fun v q => (by cases q)⟩
    · exact ⟨_, hTO, fun v q => (by cases q)⟩
    · exact ⟨o1, e1, fun v q => by rw [d1] at q; cases q⟩
    · exact ⟨o2, e2, fun v q => by rw [d2] at q; cases q⟩
  keep := fun i h h' ⟨hz, hTI, ⟨x, y, hTO⟩, h1, h2⟩ k => ⟨k z (by simp) _ hz, k TI (by simp) _ hTI, ⟨x, y, k TO (by simp) _ hTO⟩, h1.at fun o q => k i1 (by simp) o q, h2.at fun o q => k i2 (by simp) o q⟩
  item := by
    intro X hP hw hK hc i pins s σ H E I hf ⟨hz, hTI, ⟨x0, y0, hTO⟩, h1, h2⟩ ⟨xs, ys, x, y, hqx, hqy, hx, hy⟩; subst hP hw hK
    obtain ⟨its, rv, p, _⟩ := I.tuple hqx; obtain ⟨its2, rv2, p2, _⟩ := I.tuple hqy
    obtain ⟨u, hu, ru⟩ := rv.get hx; obtain ⟨u2, hu2, ru2⟩ := rv2.get hy; have hzl : z < s.heap.objs.size := Heap.lt_size hz
    refine pyNext_zipT_item D hz hTI hTO h1 h2 p p2 (x := u) (y := u2) (by simpa using hu) (by simpa using hu2) fun g z' TO' h1' h2' hT hsz hk => ⟨_, rfl, wpAny_letOwnedTupleGo_zip (s := { s with heap := g }) z' fun g2 z2 sb => ?_⟩
    have hT2 : g2.get? s.heap.objs.size = some { cls := .type "tuple", data := .seq #[u, u2] } := (sb.2 _ (Nat.ne_of_gt hzl)).trans hT
    have new : ObjOk X.prog X.w (upd H s.heap.objs.size (.tup [x, y])) g2 s.heap.objs.size (.tup [x, y]) := ⟨by show 2 ≤ sizeLine; decide, [u, u2], .cons ru (.cons ru2 .nil), ⟨_, hT2, rfl, _, rfl⟩⟩
    have I1 : Inv X pins σ (upd H s.heap.objs.size (.tup [x, y])) { s with heap := g2 } := I.turnedNew (t' := s.toks) (ch := [z, TI, TO, i1, i2]) (fun c o hb q => by
      simp only [List.mem_cons, List.not_mem_nil, or_false, not_or] at hb
      exact (sb.2 c hb.1).trans (hk c o hb.1 hb.2.2.1 hb.2.2.2.1 hb.2.2.2.2 q)) hf (Nat.le_refl _) new
    refine ⟨.ref s.heap.objs.size, _, I1, rfl, ⟨_, x, y, rfl, I.hok.fresh (Nat.le_refl _), rfl, fun l hl => ?_, fun l hl => ?_⟩, ⟨z2, (sb.2 _ D.TIz).trans (hk _ _ D.TIz D.TITO D.TIi1 D.TIi2 hTI), ⟨u, u2, (sb.2 _ D.TOz).trans TO'⟩, h1'.at fun o q => (sb.2 _ D.i1z).trans q, h2'.at fun o q => (sb.2 _ D.i2z).trans q⟩, fun c hcm => ?_⟩
    · rw [I.tuple_inj hl hqx]; exact hx
    · rw [I.tuple_inj hl hqy]; exact hy
    · have hlt : c < s.heap.objs.size := by
        obtain ⟨_, e1, _⟩ := h1; obtain ⟨_, e2, _⟩ := h2; simp only [List.mem_cons, List.not_mem_nil, or_false] at hcm
        rcases hcm with rfl | rfl | rfl | rfl | rfl
        · exact hzl
        · exact Heap.lt_size hTI
        · exact Heap.lt_size hTO
        · exact Heap.lt_size e1
        · exact Heap.lt_size e2
      rw [upd_ne (Nat.ne_of_lt hlt)]; exact (hf c hcm).1
  done := by
    intro X hP hw hK hc i pins s σ H E I hf ⟨hz, hTI, ⟨x0, y0, hTO⟩, h1, h2⟩ ⟨xs, ys, hqx, hqy, hend⟩; subst hP hw hK
    obtain ⟨its, rv, p, _⟩ := I.tuple hqx; obtain ⟨its2, rv2, p2, _⟩ := I.tuple hqy; have l1 := rv.length; have l2 := rv2.length
    obtain ⟨x1, hot, ne⟩ := hotPin hc I
    have he : its.toArray[i]? = none ∨ its2.toArray[i]? = none := by rcases hend with q | q <;> first | exact .inl (by simp; omega) | exact .inr (by simp; omega)
    refine zipOver_tupleH hot (fun c hc => ne c (hf c hc)) D hz hTI hTO h1 h2 p p2 he fun g hk => ⟨rfl, I.turnedL (t' := s.toks) (ch := [z, TI, TO, i1, i2]) (fun c o hb q => ?_) hf⟩
    simp only [List.mem_cons, List.not_mem_nil, or_false, not_or] at hb
    exact hk c o hb.1 hb.2.2.1 hb.2.2.2.1 hb.2.2.2.2 q
  self := fun A i s Q E st h => wpAny_pyIter_zip st.1 h
end HT2
set_option Elab.async false
set_option linter.all false
set_option maxRecDepth 100000
set_option maxHeartbeats 2000000
set_option autoImplicit false
namespace HT2
open PySem PySem.Spec PyProof.Rows HotX L2 RZ L2H
/-- the block of a comprehension that runs while an exception is handled -/
abbrev blkH (X : Cx) (s : Shared) (H : Hp) (scope : Scope) (cenv : Env) (fp : List Addr) : Cx := (X.blk s H scope cenv fp).tr X.pn (fun _ _ => False)
theorem inv_tr {X : Cx} {pins : List (Addr × Obj)} {σ : L2.St} {H : Hp} {s : Shared} {pn : List (Addr × Obj)} {xe : Value → Shared → Prop} (I : Inv X pins σ H s)
    (hp : ∀ p ∈ pn ++ pins, s.heap.get? p.1 = some p.2 ∧ H p.1 = none ∧ p.1 ≠ X.env.locals ∧ p.1 ∉ X.fs ∧ ∀ v, p.2.data ≠ .cell v) : Inv (X.tr pn xe) pins σ H s :=
  { ok := ⟨I.ok.mod, I.ok.kind, I.ok.glob, I.ok.blt, I.ok.above, I.ok.inj, I.ok.has, I.ok.cab, I.ok.hd, I.ok.frames, I.ok.stk, I.ok.exf, I.ok.bs, I.ok.bsz, I.ok.noex, I.ok.exfs, I.ok.funs, I.ok.frf⟩
    os := I.os, bare := I.bare, base := I.base, loc := I.loc, cell := I.cell, free := I.free, freeC := I.freeC, pin := hp, hok := I.hok, len := I.len }
section
variable {X : Cx}
theorem lc_coreH {pins : List (Addr × Obj)} {s : Shared} {σ : L2.St} {H : Hp} {Q : VK} {elt tg iter : Expr} {ifs : List Expr} {scope : Scope} {own : List (Str × Nat)} {pos pos' : Pos} {wi : TI} {g : TG} {tt : TT} {te : TE} {use : Option (Value → Sem Unit)} {Qf : Value → Shared → Prop}
    (hc : HotC X) (hN : X.N.Nodup) (I : Inv X pins σ H s) (hi : PIH X tg iter wi) (ok : BlkOk X.N X.env.scope scope own)
    (hg : ∀ (s : Shared) (H : Hp) (C : Addr) (cl : List (Str × Addr)) (fp : List Addr), PG (blkH X s H scope (compEnvC scope cl C X.env) fp) tg g) (ht : ∀ (s : Shared) (H : Hp) (C : Addr) (cl : List (Str × Addr)) (fp : List Addr), PTs (blkH X s H scope (compEnvC scope cl C X.env) fp) ifs tt)
    (he : ∀ (s : Shared) (H : Hp) (C : Addr) (cl : List (Str × Addr)) (fp : List Addr), PE (blkH X s H scope (compEnvC scope cl C X.env) fp) elt te) (hs : ∀ x, foldedSetIterable iter X.env x = pure x) (h : tLc wi g tt te (own.map (·.2)) σ H Q)
    (hRR : ∀ D C s' m H', Inv X pins σ H' s' → Q (.ref D) H' → s'.heap.Ns C m → FpOk X pins H' C → compPost (model X.prog X.w) X.A X.xe use Qf (.ref D) C (.ok .next) s') :
    wpAny (model X.prog X.w) X.A (comprehension (.ListComp elt [⟨tg, iter, ifs, 0⟩] scope pos) scope X.env pos' (newList []) false (eval iter X.env) use) Qf X.xe s := by
  have hfree : ∀ y ∈ scope.names, y.2 = .free → ∃ c, X.env.cells.lookup y.1 = some c := fun y hy e => (ok.free y hy e).elim (fun k => I.ok.has _ (.inl k)) fun k => I.ok.has _ (.inr k)
  refine wpAny_comprehension_free (use := use) rfl hs (closure_ok hfree) ok.kind (fun y hy e => by rw [ok.uniq y hy, e]) (thn (hi.run pins s σ H _ I h) fun xv s1 hx => thn hx fun itv s2 h2 => ?_)
  obtain ⟨it, fp, tn, J, H2, rfl, I2, T, st2, f2, q⟩ := h2
  refine wpAny_newObj_type (newEnv_comp ?_) (by show 0 ≤ sizeLine; decide); generalize hD : s2.heap.objs.size = D
  have hDn : H2 D = none := I2.hok.fresh (Nat.le_of_eq hD); obtain ⟨W, ⟨m0, w0⟩, turn⟩ := q D hDn
  generalize hs3 : ({ s2 with heap := s2.heap.push { cls := .type "list", data := .seq ([] : List Value).toArray } } : Shared) = s3
  have I3 : Inv X pins σ (upd H2 D (.lst [])) s3 := by
    rw [← hs3]; refine I2.laid (t' := s2.toks) (fun b o e => Heap.get?_push_of_some _ e) (Nat.le_of_eq hD) ⟨Nat.zero_le _, [], 0, .nil, ?_⟩; rw [← hD]; exact Heap.get?_push_size _ rfl
  have h3 : s3.heap = s2.heap.push { cls := .type "list", data := .seq ([] : List Value).toArray } := by rw [← hs3]
  have f3 : ∀ b ∈ fp, FpOk X pins (upd H2 D (.lst [])) b ∧ b < s3.heap.objs.size := fun b hb => by
    obtain ⟨o, e, _⟩ := T.obj _ _ st2 b hb; have hlt := Heap.lt_size e
    refine ⟨⟨?_, (f2 b hb).2⟩, by rw [h3, Heap.size_push]; exact Nat.lt_succ_of_lt hlt⟩; rw [upd_ne (by rw [← hD]; exact Nat.ne_of_lt hlt)]; exact (f2 b hb).1
  have st3 : tn 0 s3.heap := T.keep _ _ _ st2 fun b _ o e => by rw [h3]; exact Heap.get?_push_of_some _ e
  have I4b := block_start I3 ok hN f3
  have pg := hg s3 (upd H2 D (.lst [])) s3.heap.objs.size (cellsFrom (s3.heap.objs.size + 1) scope.names (cloFrom X.env.cells scope.names [])) fp
  have pt := ht s3 (upd H2 D (.lst [])) s3.heap.objs.size (cellsFrom (s3.heap.objs.size + 1) scope.names (cloFrom X.env.cells scope.names [])) fp
  have pe := he s3 (upd H2 D (.lst [])) s3.heap.objs.size (cellsFrom (s3.heap.objs.size + 1) scope.names (cloFrom X.env.cells scope.names [])) fp
  show codeAny _ _ (.compStart (.ListComp elt [⟨tg, iter, ifs, 0⟩] scope pos) 0 (.ref it) (.ref D) (compEnvC scope (cellsFrom (s3.heap.objs.size + 1) scope.names (cloFrom X.env.cells scope.names [])) s3.heap.objs.size X.env)) (compPost _ _ X.xe use Qf (.ref D) s3.heap.objs.size) { s3 with heap := pushCells (s3.heap.push { cls := .type "dict", data := .dict #[] }) scope.names }
  have kp4 : ∀ b o, s3.heap.get? b = some o → (pushCells (s3.heap.push { cls := .type "dict", data := .dict #[] }) scope.names).get? b = some o := fun b o e => pushCells_keeps _ _ _ _ (Heap.get?_push_of_some _ e)
  have nfp : ∀ b ∈ fp, (upd H2 D (.lst [])) b = none := fun b hb => (f3 b hb).1.1
  generalize hce : compEnvC scope (cellsFrom (s3.heap.objs.size + 1) scope.names (cloFrom X.env.cells scope.names [])) s3.heap.objs.size X.env = ce at I4b pg pt pe ⊢
  have cL : ce.locals = s3.heap.objs.size := by subst hce; rfl
  generalize hH3 : upd H2 D (.lst []) = H3 at I3 I4b pg pt pe w0 nfp f3
  generalize hs4 : ({ s3 with heap := pushCells (s3.heap.push { cls := .type "dict", data := .dict #[] }) scope.names } : Shared) = s4 at I4b ⊢
  have st4 : tn 0 s4.heap := T.keep _ _ _ st3 fun b _ o e => by rw [← hs4]; exact kp4 _ _ e
  have I4 : Inv (blkH X s3 H3 scope ce fp) [] (wipe σ (own.map (·.2))) H3 s4 := inv_tr I4b fun p hp => by
    rw [List.append_nil] at hp; obtain ⟨p1, p2, p3, p4, p5⟩ := I3.pin p (List.mem_append_left _ hp)
    refine ⟨by rw [← hs4]; exact kp4 _ _ p1, p2, by show p.1 ≠ ce.locals; rw [cL]; exact Nat.ne_of_lt (Heap.lt_size p1), fun z => ?_, p5⟩
    rcases List.mem_cons.mp (I3.stkSub _ z) with e | e
    · exact p3 e
    · exact p4 e
  have hc' : HotC (blkH X s3 H3 scope ce fp) := hc
  have stat : ∀ {σ' : L2.St} {H' : Hp} {s' : Shared}, Inv (blkH X s3 H3 scope ce fp) [] σ' H' s' → (∀ b ∈ fp, H' b = none) → ∀ b ∈ fp, FpOk (blkH X s3 H3 scope ce fp) [] H' b := fun {σ' H' s'} I' hn b hb =>
    ⟨hn b hb, (I'.ok.exf b hb).1, I'.ok.exfs b hb, .inl hb, fun x c e => (I'.ok.exf b hb).2 x c e, fun p hp => (f3 b hb).1.2.2.2.2.2 p (by rw [List.append_nil] at hp; exact List.mem_append_left _ hp)⟩
  have loop : codeAny (model X.prog X.w) X.A (.compLoop (.ListComp elt [⟨tg, iter, ifs, 0⟩] scope pos) 0 (.ref it) (.ref D) ce) (compPost (model X.prog X.w) X.A X.xe use Qf (.ref D) s3.heap.objs.size) s4 := by
    refine compLoop_any (fun n s' => ∃ i H', Inv (blkH X s3 H3 scope ce fp) [] (wipe σ (own.map (·.2))) H' s' ∧ tn i s'.heap ∧ (∀ b ∈ fp, H' b = none) ∧ W i n H') ?_ m0 ⟨0, H3, I4, st4, nfp, w0⟩
    rintro n s5 ⟨i, H5, I5, st5, n5, w5⟩; rcases turn i n H5 w5 with ⟨stop, qq⟩ | ⟨go, Nx, hNx, step⟩
    · refine thnF (T.done (blkH X s3 H3 scope ce fp) rfl rfl rfl hc' i [] s5 _ H5 (fun _ _ => False) I5 (stat I5 n5) st5 stop) fun r s6 ⟨hr, I6⟩ => ?_; subst hr
      have I7 : Inv X pins σ H5 s6 := I3.call' (ch := fp) I6.os I6.base I6.hok I6.bare fun b hb => let z := (f3 b hb).1.2; ⟨z.2.2.1, z.1, z.2.2.2.1, z.2.2.2.2⟩
      have nC : H5 s3.heap.objs.size = none := by have z : H5 ce.locals = none := I6.free; rw [cL] at z; exact z
      obtain ⟨m, hn, _⟩ := I6.loc; have hn : s6.heap.Ns ce.locals m := hn; rw [cL] at hn
      exact hRR D s3.heap.objs.size s6 m H5 I7 qq hn (I3.fpOk (Nat.le_refl _) nC)
    · refine thnF (T.item (blkH X s3 H3 scope ce fp) rfl rfl rfl hc' i [] s5 _ H5 (fun _ _ => False) I5 (stat I5 n5) st5 go) fun r s6 ⟨u, hr, h6⟩ => ?_; subst hr
      refine thnF h6 fun _ s7 ⟨x, H7, I7, r7, y7, st7, n7⟩ => ?_; have I7' := I7.pinned (stat I7 n7) (T.obj _ _ st7)
      refine thnF (pg.run _ s7 _ H7 x u _ I7' r7 (step x H7 y7)) fun _ s8 ⟨σ8, H8, I8, hw8, q8⟩ => thnF (pt.run _ s8 σ8 H8 _ I8 q8) fun b s9 ⟨H9, I9, q9⟩ => ?_
      have fin : ∀ {s' : Shared} {H' : Hp}, Inv (blkH X s3 H3 scope ce fp) ([] ++ pinsAt fp s7.heap) σ8 H' s' → Nx H' → ∃ m, m < n ∧ ∃ i H', Inv (blkH X s3 H3 scope ce fp) [] (wipe σ (own.map (·.2))) H' s' ∧ tn i s'.heap ∧ (∀ b ∈ fp, H' b = none) ∧ W i m H' := fun {s' H'} I' nx => by
        obtain ⟨m', hm, w'⟩ := hNx H' nx
        have pin' : ∀ b ∈ fp, ∀ o, s7.heap.get? b = some o → s'.heap.get? b = some o ∧ H' b = none := fun b hb o e => let z := I'.pin (b, o) (List.mem_append_right _ (List.mem_append_right _ (mem_pinsAt hb e))); ⟨z.1, z.2.1⟩
        refine ⟨m', hm, i + 1, H', (I'.unpinned (pins := [])).weak (by rw [← hw8, wipe_length]) (fun j v e => ?_), T.keep _ _ _ st7 fun b hb o e => (pin' b hb o e).1, fun b hb => ?_, w'⟩
        · rw [← hw8] at e; exact (wipe_some e).1
        · obtain ⟨o, e, _⟩ := T.obj _ _ st7 b hb; exact (pin' b hb o e).2
      cases b with
      | false => simp only [Bool.false_eq_true, if_false] at q9 ⊢; exact fin I9 q9
      | true =>
        simp only [if_true] at q9 ⊢
        refine thnF (pe.run _ s9 σ8 H9 _ I9 q9) fun z s10 ⟨yv, H10, I10, r10, acc, hD10, hz10, nx⟩ => ?_
        exact app_ok (X := blkH X s3 H3 scope ce fp) I10 hD10 hz10 r10 fun s11 I11 => fin I11 nx
  exact codeAny_compStart_list loop (T.self X.A 0 _ _ _ st4 loop)
end
end HT2
set_option Elab.async false
set_option linter.all false
set_option maxRecDepth 100000
set_option maxHeartbeats 2000000
set_option autoImplicit false
namespace HT2
open PySem PySem.Spec PyProof.Rows HotX L2 RZ L2H
section
variable {X : Cx}
theorem pe_lcH {elt tg iter : Expr} {ifs : List Expr} {scope : Scope} {own : List (Str × Nat)} {pos : Pos} {wi : TI} {g : TG} {tt : TT} {te : TE} (hc : HotC X) (hN : X.N.Nodup) (hi : PIH X tg iter wi) (ok : BlkOk X.N X.env.scope scope own)
    (hg : ∀ (s : Shared) (H : Hp) (C : Addr) (cl : List (Str × Addr)) (fp : List Addr), PG (blkH X s H scope (compEnvC scope cl C X.env) fp) tg g) (ht : ∀ (s : Shared) (H : Hp) (C : Addr) (cl : List (Str × Addr)) (fp : List Addr), PTs (blkH X s H scope (compEnvC scope cl C X.env) fp) ifs tt)
    (he : ∀ (s : Shared) (H : Hp) (C : Addr) (cl : List (Str × Addr)) (fp : List Addr), PE (blkH X s H scope (compEnvC scope cl C X.env) fp) elt te) (hs : ∀ x, foldedSetIterable iter X.env x = pure x := by intro _; rfl) : PE X (.ListComp elt [⟨tg, iter, ifs, 0⟩] scope pos) (tLc wi g tt te (own.map (·.2))) := by
  refine ⟨fun pins s σ H Q I h => ?_⟩; rw [eval_ListComp]
  refine lc_coreH hc hN I hi ok hg ht he hs h fun D C s' m H' I' q hn f => ⟨m, hn, fun h'' sb => ?_⟩
  exact ⟨.ref D, H', I'.turned (t' := s'.toks) (fun b o hb e => (sb.2 b hb).trans e) f.1 f.2.1 f.2.2.2.1 f.2.2.2.2.1 f.2.2.2.2.2, rfl, q⟩
theorem pi_zipAH {e e2 : Expr} {ta : TA} {p pos tpos : Pos} {elts : List Expr} {kk : Nat} (hg : Gl X "zip") (hm : X.mg "zip" = none) (ha : PA X [e, e2] ta) (hs : starEach [e, e2] X.env = (false, eval e X.env) :: starEach [e2] X.env := by rfl) (hpl : (backTo pos (starEach [e2] X.env)).any (·.1) = false := by rfl) :
    PIH X (.Tuple elts kk tpos) (.Call (.Name "zip" p) [e, e2] [] pos) (iZipA X.K ta) := by
  refine ⟨fun pins s σ H R I h => ?_⟩
  refine Call_ (ld_blt I hg hm PyProof.Rows.boot_zip (PyProof.Rows.callWith_type1 (thn (ha.run pos pins s σ H _ I h) fun us s1 ⟨vs, H1, I1, r1, a, b, xs, ys, ex, q1⟩ => ?_) hs hpl)); subst ex
  cases r1 with
  | cons r rr => cases rr with
    | cons r' rr =>
      cases rr; cases r; cases r'
      generalize hz0 : s1.heap.objs.size = z0 at *
      have fresh5 : ∀ c, c ∈ [z0 + 4, z0 + 2, z0 + 3, z0, z0 + 1] → FpOk X pins H1 c := fun c hcm => by
        have hle : s1.heap.objs.size ≤ c := by simp only [List.mem_cons, List.not_mem_nil, or_false] at hcm; rw [hz0]; rcases hcm with z | z | z | z | z <;> (rw [z]; first | exact Nat.le_add_right _ _ | exact Nat.le_refl _)
        exact I1.fpOk hle (I1.hok.fresh hle)
      rcases q1 with ⟨hqx, hqy, q⟩ | ⟨hqx, hqy, q⟩
      · obtain ⟨its, rv, p1, _⟩ := I1.list hqx; obtain ⟨its2, rv2, p2, _⟩ := I1.list hqy; have la : a < z0 := by rw [← hz0]; exact p1.lt
        have lb : b < z0 := by rw [← hz0]; exact p2.lt
        refine call_zip_2 p1.isList p2.isList fun g hz hTI hTO h1 h2 hsz hk => wpAny_pyIter_zip hz ?_; rw [hz0] at *
        exact ⟨z0 + 4, [z0 + 4, z0 + 2, z0 + 3, z0, z0 + 1], _, _, H1, rfl, I1.kept (t' := s1.toks) hk, turnH_list (PySem.W.ktu_apart z0 a b la lb), ⟨hz, hTI, ⟨_, _, hTO⟩, h1, h2⟩, fresh5, q⟩
      · obtain ⟨its, rv, p1, _⟩ := I1.tuple hqx; obtain ⟨its2, rv2, p2, _⟩ := I1.tuple hqy; obtain ⟨o1, ho1, _⟩ := id p1; obtain ⟨o2, ho2, _⟩ := id p2; have la : a < z0 := by rw [← hz0]; exact Heap.lt_size ho1
        have lb : b < z0 := by rw [← hz0]; exact Heap.lt_size ho2
        refine call_zipT (show s1.heap.IsTuple a its.toArray from p1) (show s1.heap.IsTuple b its2.toArray from p2) fun g hz hTI hTO h1 h2 hsz hk => wpAny_pyIter_zip hz ?_; rw [hz0] at *
        exact ⟨z0 + 4, [z0 + 4, z0 + 2, z0 + 3, z0, z0 + 1], _, _, H1, rfl, I1.kept (t' := s1.toks) hk, turnH_tuple (PySem.W.ktu_apart z0 a b la lb), ⟨hz, hTI, ⟨_, _, hTO⟩, h1, h2⟩, fresh5, q⟩
end
end HT2
set_option Elab.async false
set_option linter.all false
set_option maxRecDepth 100000
set_option maxHeartbeats 2000000
set_option autoImplicit false
namespace HT2
open PySem PySem.Spec PyProof.Rows HotX L2 RZ L2H PySem.W
section
variable {prog : Program} {w : World} {A : Around} {E : Value → Shared → Prop} {s : Shared} {K : Type} [DecidableEq K] {knd : KeyKind prog w K}
/-- the items of an empty dict end -/
theorem itemsEndH {it d x1 : Addr} {ep : Nat} {ok ov : Value} {Q : Option Value → Shared → Prop} (hot : HotAt A x1 s.heap) (ni : it ≠ x1) (hit : IsItemIter s.heap it d 0 0 ep ok ov) (hm : s.heap.DictRaw d #[] ep)
    (hQ : ∀ h', Heap.ExtBut it s.heap h' → Q none { s with heap := h' }) : wpAny (model prog w) A (pyNext (.ref it)) Q E s := by
  obtain ⟨od, hod, hcd, hdd⟩ := id hm; have hT : s.TypeIs (.ref it) "dict_itemiterator" := ⟨_, hit, rfl⟩; unfold pyNext
  refine wpAny_bind (wpAny_attempt (wpAny_callSpecial?_slot (name := Str.ofString "__next__") hT PySem.F.slot_dict_itemiterator_next (wpAny_call_entry PySem.F.slot_dict_itemiterator_next hT PySem.F.entry_dict_itemiterator_next ?_ (PySem.F.args_dict_itemiterator_next_1 _))))
  refine wpAny_bind (wpAny_pure (wpAny_bind (wpAny_bind ?_)))
  first | refine wpAny_bind (wpAny_typeNameOfWhole_itemiter hT (wpAny_pure (wpAny_bind (wpAny_fieldsOf hit rfl ?_)))) | refine wpAny_bind (wpAny_typeNameOf_itemiter hT (wpAny_pure (wpAny_bind (wpAny_fieldsOf hit rfl ?_))))
  have hown : Builtin.Dict_items.ownsTuple "dict_itemiterator" = true := by decide
  simp only [hown, if_true]; show wpAny _ _ (if (Value.ref d == Value.none) = true then _ else _) _ _ s; rw [if_neg (by exact Bool.false_ne_true)]
  refine wpAny_bind (wpAny_pure (wpAny_bind (wpAny_dictEntries hod hdd ?_))); rw [if_neg (by simp)]
  refine wpAny_bind (wpAny_pure (wpAny_bind (wpAny_dictEpoch hod hdd ?_))); rw [if_neg (by simp)]; refine wpAny_pure ?_
  simp only [show ¬ (((0 : Nat) : Int) < 0) from by omega, if_false, Int.toNat_natCast, Array.getElem?_eq_none (show (#[] : Array DictEntry).size ≤ 0 from Nat.le_refl _)]
  refine wpAny_bind ?_
  first | refine wpAny_bind (wpAny_typeNameOfWhole_itemiter hT (wpAny_pure ?_)) | refine wpAny_bind (wpAny_typeNameOf_itemiter hT (wpAny_pure ?_))
  show wpAny _ _ (setField (.ref it) 2 .none >>= _) _ _ s; refine wpAny_bind (wpAny_setField hit rfl (by simp) ?_)
  refine stop_hot (A := A.in1) (HotAt.but (A := A) hot fun o e => by rw [Heap.get?_update_other _ _ ni]; exact e) fun h' e k ⟨oe, he, hce⟩ => ?_
  refine wpAny_bind (wpAny_isInstance (T := "StopIteration") (b := true) ⟨oe, he, hce⟩ isSubtype_stop (wpAny_pure (hQ _ fun b ob hb z => k b ob ?_)))
  show (s.heap.update it _).get? b = some ob; rw [Heap.get?_update_other _ _ (Ne.symm hb)]; exact z
end
end HT2
set_option Elab.async false
set_option linter.all false
set_option maxRecDepth 100000
set_option maxHeartbeats 2000000
set_option autoImplicit false
namespace HT2
open PySem PySem.Spec PyProof.Rows HotX L2 RZ L2H PySem.W
section
variable {prog : Program} {w : World} {A : Around} {E : Value → Shared → Prop} {s : Shared}
/-- list(d.items()), d empty -/
theorem listItemsH {r d x1 : Addr} {ep : Nat} {Q : Value → Shared → Prop} (hot : HotAt A x1 s.heap) (hv : s.heap.IsItemsView r d) (hm : s.heap.DictRaw d #[] ep)
    (hQ : ∀ h' tk c, Keeps s.heap h' → h'.get? s.heap.objs.size = some { cls := .type "list", dict := none, data := .seq #[] c, slots := #[] } → Q (.ref s.heap.objs.size) { s with heap := h', toks := tk }) : wpAny (model prog w) A (call (.type "list") [.ref r]) Q E s := by
  refine callType_codes (Q₁ := fun obj s₁ => obj = .ref s.heap.objs.size ∧ s₁ = { s with heap := s.heap.push { cls := .type "list", data := .seq #[] } }) PySem.F.called_list (PySem.F.typeCall_list_1 _) PySem.F.entry_list_init (code_list_new _ ⟨rfl, rfl⟩) fun obj s₁ h₁ => ?_
  obtain ⟨rfl, rfl⟩ := h₁
  obtain ⟨ov, hov, hcv, hdv⟩ := id hv; obtain ⟨od, hod, hcd, hdd⟩ := id hm; obtain ⟨hh, o1, vs1, g1, d1, c1⟩ := id hot
  generalize hS0 : s.heap.objs.size = S at *
  have lt : ∀ b o, s.heap.get? b = some o → b < S := fun b o e => by rw [← hS0]; exact Heap.lt_size e
  have hS : (s.heap.push { cls := .type "list", data := .seq #[] }).get? S = some { cls := .type "list", data := .seq #[] } := by rw [← hS0]; exact Heap.get?_push_size _ rfl
  refine ⟨⟨_, hS, rfl⟩, PySem.F.args_list_init_2 _ _, ?_⟩
  show wpAny _ _ (do let old ← Builtin.List.listItems (.ref S); Builtin.List.listUpdate (.ref S) (fun _ => #[]); letGo old.toList.reverse; Builtin.List.listExtendWith (.ref S) (.ref r) .none) _ _ _
  refine wpAny_bind ?_; unfold Builtin.List.listItems; refine wpAny_bind (wpAny_seqItems hS rfl (wpAny_pure ?_))
  show wpAny _ _ (updateSeq S (fun _ => #[]) >>= fun _ => letGo (#[] : Array Value).toList.reverse >>= fun _ => Builtin.List.listExtendWith (.ref S) (.ref r) .none) _ _ _
  refine wpAny_bind (wpAny_updateSeq hS rfl ?_); have hS₂ := Heap.get?_update_self (Obj.mapSeq (fun _ => (#[] : Array Value))) hS rfl
  refine wpAny_bind (wpAny_letGo ?_)
  generalize hH2 : (s.heap.push { cls := .type "list", data := .seq #[] }).update S (Obj.mapSeq (fun _ => (#[] : Array Value))) = h2 at *
  have k2 : Keeps s.heap h2 := fun b o e => by rw [← hH2, Heap.get?_update_other _ _ (Nat.ne_of_gt (lt b o e))]; exact Heap.get?_push_of_some _ e
  unfold Builtin.List.listExtendWith
  have hv2 : h2.IsItemsView r d := ⟨ov, k2 _ _ hov, hcv, hdv⟩
  have hm2 : h2.DictRaw d #[] ep := ⟨od, k2 _ _ hod, hcd, hdd⟩
  refine wpAny_bind (wpAny_typeOf (T := "dict_items") (s := { s with heap := h2 }) hv2.typeIs ?_)
  have e1 : Builtin.List.listSameRef (.ref S) (.ref r) = false := by simp [Builtin.List.listSameRef, Nat.ne_of_gt (lt r _ hov)]
  simp only [e1, show (Value.type "dict_items" == Value.type "list") = false from by decide, show (Value.type "dict_items" == Value.type "tuple") = false from by decide, Bool.or_false, Bool.false_eq_true, if_false]
  refine wpAny_bind (wpAny_pyIter_items_raw (s := { s with heap := h2 }) hv2 hm2 ?_)
  generalize hI0 : h2.objs.size = I at *
  have lI : ∀ b o, h2.get? b = some o → b < I := fun b o e => by rw [← hI0]; exact Heap.lt_size e
  have key : ∀ (h : Heap) (c tk : Nat), (∀ b o, b ≠ S → (h2.push { cls := .type "dict_itemiterator", data := .fields #[.none, .bool false, .ref d, .int 0 0, .int (0 : Nat) 0, .int ep 0, .none, .none] }).get? b = some o → h.get? b = some o) → h.get? S = some { cls := .type "list", dict := none, data := .seq #[] c, slots := #[] } →
      codeAny (model prog w) A.in1 (.builtin "list.extend.loop" ⟨[.ref S, .ref I, .none], []⟩) (wants (fun r s₂ => r = Value.none ∧ Q (.ref S) s₂) E) { s with heap := h, toks := tk } := by
    intro h c tk hk hSc
    refine codeAny_builtin PySem.F.entry_extend_loop ?_; rw [Around.under_plainId PySem.F.plain_extend_loop _]
    show wpAny _ A.in1.in1 (pyNext (.ref I) >>= _) _ _ _
    have hSI : I ≠ S := Nat.ne_of_gt (lI S _ hS₂)
    have hit : IsItemIter h I d 0 0 ep .none .none := hk I _ hSI (by rw [← hI0]; exact Heap.get?_push_size _ rfl)
    refine wpAny_bind (itemsEndH (A := A.in1.in1) (x1 := x1) (s := { s with heap := h, toks := tk }) ⟨hh, o1, vs1, hk _ _ (Nat.ne_of_lt (lt _ _ g1)) (Heap.get?_push_of_some _ (k2 _ _ g1)), d1, c1⟩ (Nat.ne_of_gt (lI _ _ (k2 _ _ g1))) hit ⟨od, hk _ _ (Nat.ne_of_lt (lt _ _ hod)) (Heap.get?_push_of_some _ (k2 _ _ hod)), hcd, hdd⟩ fun h' he => ?_)
    exact wpAny_pure ⟨rfl, hQ h' tk c (fun b o e => he b o (Nat.ne_of_lt (lI _ _ (k2 _ _ e))) (hk b o (Nat.ne_of_lt (lt _ _ e)) (Heap.get?_push_of_some _ (k2 _ _ e)))) (he S _ hSI.symm hSc)⟩
  have hS₁ := Heap.get?_push_of_some { cls := .type "dict_itemiterator", data := .fields #[.none, .bool false, .ref d, .int 0 0, .int (0 : Nat) 0, .int ep 0, .none, .none] } hS₂
  refine wpAny_bind (wpAny_holding (kdx_hint ⟨ov, Heap.get?_push_of_some _ (k2 _ _ hov), hcv⟩ ?_))
  refine wpAny_ite_split (fun _ => ?_) (fun _ => wpAny_pure ⟨plainId_quiet PySem.F.plain_extend_loop _, ?_⟩)
  · refine wpAny_bind (wpAny_rule (wpAny_bind ?_))
    show wpAny _ _ (updateSeq S (·.push .none) >>= fun _ => updateSeq S (·.pop)) _ _ _
    refine wpAny_bind (wpAny_updateSeq hS₁ rfl ?_); have hS₃ := Heap.get?_update_self (Obj.mapSeq (·.push Value.none)) hS₁ rfl
    refine wpAny_updateSeq (hz := by seq_fits) hS₃ rfl ?_; have hS₄ := Heap.get?_update_self (Obj.mapSeq (·.pop)) hS₃ rfl
    refine wpAny_pure ⟨plainId_quiet PySem.F.plain_extend_loop _, key _ _ _ (fun b o hb e => ?_) hS₄⟩
    exact (Heap.get?_update_other _ _ (Ne.symm hb)).trans ((Heap.get?_update_other _ _ (Ne.symm hb)).trans e)
  · exact key _ _ _ (fun b o _ e => e) hS₁
end
end HT2
set_option Elab.async false
set_option linter.all false
set_option maxRecDepth 100000
set_option maxHeartbeats 2000000
set_option autoImplicit false
namespace HT2
open PySem PySem.Spec PyProof.Rows HotX L2 RZ L2H PySem.W
/-- list(e.items()), e an empty dict -/
def tLi0 (te : TE) : TE := fun σ H Q => te σ H fun x H1 => ∃ d, x = .ref d ∧ H1 d = some (.dK []) ∧ ∀ p, H1 p = none → Q (.ref p) (upd H1 p (.lst []))
section
variable {X : Cx} {e : Expr} {te : TE} {p apos cpos pos : Pos}
theorem pe_listItemsH (hc : HotC X) (he : PE X e te) (hg : Gl X "list") (hm : X.mg "list" = none) (hv : bootBuiltins "list" = some (.type "list")) (hbase : attributeBase e "items" X.env (eval e X.env) = eval e X.env := by rfl) (hline : (apos.endLine == cpos.line) = true := by rfl)
    (hs : starEach [.Call (.Attribute e "items" apos) [] [] cpos] X.env = (false, eval (.Call (.Attribute e "items" apos) [] [] cpos) X.env) :: starEach [] X.env := by rfl) : PE X (.Call (.Name "list" p) [.Call (.Attribute e "items" apos) [] [] cpos] [] pos) (tLi0 te) := by
  refine ⟨fun pins s σ H Q I hq => wpAny_Call_Name_kw (ld_blt I hg hm hv (PyProof.Rows.callWith_type1 ?_ hs rfl))⟩
  rw [hs]; show wpAny _ _ (spliced ((false, eval (.Call (.Attribute e "items" apos) [] [] cpos) X.env) :: backTo pos (starEach [] X.env))) _ _ s; refine Calls.spliced_cons ?_
  refine wpAny_Call_method (T := "dict") (id := "dict.items") hbase rfl hline PySem.F.plainAttrs_dict PySem.F.slot_dict_items PySem.F.type_dict_items (thn (he.run pins s σ H _ I hq) fun u s1 ⟨x, H1, I1, rx, d, ex, hd, q⟩ => ?_); subst ex
  obtain rfl : u = Value.ref d := rx
  obtain ⟨hz, hs0, vs, kv, hdo⟩ := I1.hok d _ hd; have lk := Paired.length kv
  obtain ⟨es, ep, hraw, hes, _⟩ := hdo.raw
  obtain rfl : es = #[] := Array.eq_empty_of_size_eq_zero (by rw [hes, ← lk]; rfl)
  have I2 : Inv X pins σ H1 { s1 with heap := s1.heap.push { cls := .type "dict_items", data := .fields #[.ref d] } } := I1.kept (t' := s1.toks) fun b ob q => Heap.get?_push_of_some _ q
  refine ⟨hdo.typeIs, hdo.mapOf.noDict, ?_⟩; show wpAny _ _ (callWith cpos (.builtin "dict.items") [.ref d] [] []) _ X.xe s1
  refine method_meetsIn PySem.F.slot_dict_items PySem.F.entry_dict_items rfl (PySem.evalArgs_none ⟨rfl, hdo.typeIs, PySem.F.args_dict_items_1 _, _, meets_dict_items (mixKind X.prog X.w) d hs0, ⟨vs, hdo⟩, Calls.spliced_nil ?_⟩)
  obtain ⟨x1, hot⟩ := hc.at I2
  refine listItemsH hot ⟨_, Heap.get?_push_size _ rfl, rfl, rfl⟩ (hraw.at fun o e => Heap.get?_push_of_some _ e) fun g tk c hk hS => ?_
  exact ⟨.ref _, _, I2.laid (t' := tk) (o := .lst []) hk (Nat.le_refl _) ⟨Nat.zero_le _, [], c, .nil, hS⟩, rfl, q _ (I2.hok.fresh (Nat.le_refl _))⟩
end
end HT2
set_option Elab.async false
set_option linter.all false
set_option maxRecDepth 100000
set_option maxHeartbeats 2000000
set_option autoImplicit false
namespace T
open PySem PySem.Spec PyProof.Rows L2
section
variable {B : Bs} {Γ : List Sl} {C C1 : Cs} {x : TV} {te : TE}
theorem evn_li0 (hd : Dyn x (.dct [])) (h : Ev B te Γ C x C1) : EvN B (HT2.tLi0 te) Γ C (.lst ([] : List D)) C1 := fun τ σ ws H st Q q =>
  h τ σ ws H st _ fun v H1 s1 => by
    obtain ⟨F, s2, hv⟩ := s1.pop
    have o := hd _ _ _ hv
    cases o with
    | @dct a us _ e rr =>
      cases rr
      exact ⟨a, rfl, s2.hf.sub _ _ e, fun p hp => q p _ (s2.hf.free hp).2.2 (s2.hf.free hp).2.1 ⟨F, (s2.hf.cell (c := .lst ([] : List D)) hp ⟨[], rfl, .nil⟩).1, s2.slots, s2.temps⟩⟩
end
end T
set_option Elab.async false
set_option linter.all false
set_option maxRecDepth 100000
set_option maxHeartbeats 4000000
set_option autoImplicit false
namespace K59
open PySem PySem.Spec PyProof.Rows L2 T
open PySem.W (Frag)
def topS (i : Nat) : Stmt := PySem.Challenge.pw_eachfive_k59_whole_texts_of_steps.main.body.getD i (.Pass ⟨0, 0, 0, 0⟩)
variable {P : Program} {w : World} {K : PySem.W.Frag} {mg : Str → Option Value} {base : Heap}
/-! _law_same: two equal things -/
abbrev s__law_same : Stmt := topS 28
abbrev N__law_same : List Str := ["found", "due", "is_alike", "one", "other"]
theorem sc__law_same : FnScope N__law_same ["found", "due"] (defScope s__law_same) := ⟨rfl, rfl, rfl, by decide +kernel, rfl, by decide +kernel, by decide +kernel⟩
def S_same (n : Nat) : SpecV := fun args C r C' => ∃ (t1 t2 : TV) (d : D), args = [t1, t2] ∧ C = [] ∧ Dyn t1 d ∧ Dyn t2 d ∧ d.nod = true ∧ d.dp < n ∧ r = tv true ∧ C' = []
structure Z__law_same (K : Frag) (mg : Str → Option Value) where
  n_isinstance : mg "isinstance" = none
  n_dict : mg "dict" = none
  n_list : mg "list" = none
  n_tuple : mg "tuple" = none
  n_bool : mg "bool" = none
  n_int : mg "int" = none
  n_str : mg "str" = none
  n_len : mg "len" = none
  n_all : mg "all" = none
  n_zip : mg "zip" = none
theorem w__law_same {f : Addr} {fd : FuncData} (Z : Z__law_same K mg) (F : Fun K "_law_same" "_law_same" s__law_same f fd) (b : Binds K fd ["found", "due"] []) (g : mg "_law_same" = some (.ref f)) : ∀ n, FnOk P w K mg base CX0 n f fd ["found", "due"] (SpV (S_same n) K)
  | 0 => ⟨fun _ _ _ _ ⟨_, _, _, _, _, ⟨_, _, _, _, _, _, _, _, h, _⟩, _⟩ => by omega, fun _ _ _ _ _ _ _ _ _ _ _ _ _ ⟨_, _, _, _, _, ⟨_, _, _, _, _, _, _, _, h, _⟩, _⟩ => by omega⟩
  | n + 1 => by
    have ih : FnOk P w K mg base CX0 n f fd ["found", "due"] (SpV (S_same n) K) := w__law_same Z F b g n
    refine F.ok sc__law_same (len_v fun args C r C' h => by obtain ⟨_, _, _, rfl, _⟩ := h; rfl) (fun cdv A outer s H vs Q E hr h => ?_)
    have nd := sc__law_same.nd
    refine ⟨_, (pss_cons (ps_if (pt_val (pe_callB call_isi (by rfl) Z.n_isinstance (by decide +kernel) (pa_cons (pv 1) (pa_cons (pe_bltn (v := .ty "dict") (by rfl) Z.n_dict (by decide +kernel) rfl) pa_nil)))) pss_no pss_nil)
      (pss_cons (ps_if (pt_val (pe_callB call_isiT (by rfl) Z.n_isinstance (by decide +kernel) (pa_cons (pv 1) (pa_cons (pe_tup (pa_cons (pe_bltn (v := .ty "list") (by rfl) Z.n_list (by decide +kernel) rfl) (pa_cons (pe_bltn (v := .ty "tuple") (by rfl) Z.n_tuple (by decide +kernel) rfl) pa_nil))) pa_nil))))
        (pss_cons (ps_if (PW.pt (pw_or (pt_cmpR op_ne (pe_callB call_isi (by rfl) Z.n_isinstance (by decide +kernel) (pa_cons (pv 0) (pa_cons (pe_bltn (v := .ty "list") (by rfl) Z.n_list (by decide +kernel) rfl) pa_nil))) (pe_callB call_isi (by rfl) Z.n_isinstance (by decide +kernel) (pa_cons (pv 1) (pa_cons (pe_bltn (v := .ty "list") (by rfl) Z.n_list (by decide +kernel) rfl) pa_nil))) (nomark _))
            (pw_or1 (pt_cmpR op_ne (pe_callB call_isi (by rfl) Z.n_isinstance (by decide +kernel) (pa_cons (pv 0) (pa_cons (pe_bltn (v := .ty "tuple") (by rfl) Z.n_tuple (by decide +kernel) rfl) pa_nil))) (pe_callB call_isi (by rfl) Z.n_isinstance (by decide +kernel) (pa_cons (pv 1) (pa_cons (pe_bltn (v := .ty "tuple") (by rfl) Z.n_tuple (by decide +kernel) rfl) pa_nil))) (nomark _))))) pss_no pss_nil)
        (pss_one (ps_ret (pe_and (pe_cmpR op_eq (pe_callB call_len_seq (by rfl) Z.n_len (by decide +kernel) (pa_cons (pv 0) pa_nil)) (pe_callB call_len_seq (by rfl) Z.n_len (by decide +kernel) (pa_cons (pv 1) pa_nil)) (nomark _))
          (pe_one (pe_callB (cr_all rfl) (by rfl) Z.n_all (by decide +kernel) (pa_cons (by exact (pe_lc (own := [("one", 3), ("other", 4)]) (g := gTup K 2 (gCons (gName 3) (gCons (gName 4) gNil))) rfl nd (RZ.pi_zipA rfl Z.n_zip (pa_cons (pv 0) (pa_cons (pv 1) pa_nil))) (blkOk_by (own := [("one", 3), ("other", 4)]) (N := N__law_same) (sc := defScope s__law_same) (by decide +kernel))
            (fun _ _ _ _ _ => pg_tup rfl (pgs_cons (pg_name (i := 3) nd rfl (by first | exact .inl rfl | exact .inr rfl)) (pgs_cons (pg_name (i := 4) nd rfl (by first | exact .inl rfl | exact .inr rfl)) pgs_nil))) (fun _ _ _ _ _ => pts_nil)
            (fun _ _ _ _ _ => pe_call ih hr (by rfl) g F.kp b .nil pass0 (pa_cons (pv 3) (pa_cons (pv 4) pa_nil))))) pa_nil))))))) pss_nil)
      (pss_cons (ps_set (i := 2) nd rfl (by first | exact .inl rfl | exact .inr rfl) (pe_and (pe_cmpR op_eq (pe_callB call_isi (by rfl) Z.n_isinstance (by decide +kernel) (pa_cons (pv 0) (pa_cons (pe_bltn (v := .ty "bool") (by rfl) Z.n_bool (by decide +kernel) rfl) pa_nil))) (pe_callB call_isi (by rfl) Z.n_isinstance (by decide +kernel) (pa_cons (pv 1) (pa_cons (pe_bltn (v := .ty "bool") (by rfl) Z.n_bool (by decide +kernel) rfl) pa_nil))) (nomark _))
          (pe_one (pe_cmpR op_eq (pe_callB call_isi (by rfl) Z.n_isinstance (by decide +kernel) (pa_cons (pv 0) (pa_cons (pe_bltn (v := .ty "int") (by rfl) Z.n_int (by decide +kernel) rfl) pa_nil))) (pe_callB call_isi (by rfl) Z.n_isinstance (by decide +kernel) (pa_cons (pv 1) (pa_cons (pe_bltn (v := .ty "int") (by rfl) Z.n_int (by decide +kernel) rfl) pa_nil))) (nomark _)))))
      (pss_cons (ps_if (PW.pt (pw_or (pt_val (pe_callB call_isiT (by rfl) Z.n_isinstance (by decide +kernel) (pa_cons (pv 0) (pa_cons (pe_tup (pa_cons (pe_bltn (v := .ty "dict") (by rfl) Z.n_dict (by decide +kernel) rfl) (pa_cons (pe_bltn (v := .ty "list") (by rfl) Z.n_list (by decide +kernel) rfl) (pa_cons (pe_bltn (v := .ty "tuple") (by rfl) Z.n_tuple (by decide +kernel) rfl) pa_nil)))) pa_nil))))
          (pw_or (pt_not (pt_val (pv 2))) (pw_or1 (pt_cmpR op_ne (pe_callB call_isi (by rfl) Z.n_isinstance (by decide +kernel) (pa_cons (pv 0) (pa_cons (pe_bltn (v := .ty "str") (by rfl) Z.n_str (by decide +kernel) rfl) pa_nil))) (pe_callB call_isi (by rfl) Z.n_isinstance (by decide +kernel) (pa_cons (pv 1) (pa_cons (pe_bltn (v := .ty "str") (by rfl) Z.n_str (by decide +kernel) rfl) pa_nil))) (nomark _)))))) pss_no pss_nil)
      (pss_one (ps_ret (pe_ifExp (pt_cmpR op_isN (pv 1) pe_non (nomark _)) (pe_cmpR op_isN (pv 0) pe_non (nomark _)) (pe_cmpR op_eq (pv 0) (pv 1) (nomark _))))))))), ?_⟩
    refine body_v h fun B args C r C' hK hP hS => ?_
    obtain ⟨t1, t2, d, rfl, rfl, y1, y2, hn, hdp, rfl, rfl⟩ := hS
    subst hK
    have isi0 : ∀ {n : String} {q : D → Bool}, IsK n q → ∀ {Γ : List Sl}, Γ[0]? = some (some t1) → Ev B (tCB (rIsi B.K) (tCons (tVar 0) (tCons (tC (.ty n)) tNil))) Γ [] (tv (q d)) [] := fun hk => fun hg => ev_cb (ea_cons (ev_var hg) (ea_cons ev_ty ea_nil)) (cs_isi y1 hk)
    have isi1 : ∀ {n : String} {q : D → Bool}, IsK n q → ∀ {Γ : List Sl}, Γ[1]? = some (some t2) → Ev B (tCB (rIsi B.K) (tCons (tVar 1) (tCons (tC (.ty n)) tNil))) Γ [] (tv (q d)) [] := fun hk => fun hg => ev_cb (ea_cons (ev_var hg) (ea_cons ev_ty ea_nil)) (cs_isi y2 hk)
    have nodct : d.isDct = false := by cases d <;> first | rfl | (simp [D.nod] at hn; done)
    refine ss_if (et_B (isi1 isk_dct rfl)) (fun c => by rw [nodct] at c; cases c) fun _ => ?_
    refine ss_skip ?_
    refine ss_if (et_B (ev_cb (ea_cons (ev_var rfl) (ea_cons (ev_tps (xs := [Ty.mk "list", Ty.mk "tuple"]) (ea_cons ev_ty (ea_cons ev_ty ea_nil)) (szn (by decide))) ea_nil)) (cs_isiT y2 (.cons isk_lst (.cons isk_tup .nil))))) (fun c => ?_) fun c => ?_
    · have hs : d.isSeq = true := by cases d <;> first | rfl | (simp [D.isLst, D.isTup] at c; done)
      refine ss_assoc ?_
      refine ss_if (et_or (et_test (ev_op (isi0 isk_lst rfl) (isi1 isk_lst rfl) os_ne)) fun _ => et_test (ev_op (isi0 isk_tup rfl) (isi1 isk_tup rfl) os_ne)) (fun c => by simp at c) fun _ => ?_
      refine ss_skip ?_
      refine ss_retS ?_
      have hl : lcL (fun (_ : D × D) => some true) (fun (_ : D × D) => some true) (d.items.zip d.items) = some ((d.items.zip d.items).map fun _ => true) := lcL_const (by have := (D.items_nod hn).2; rw [List.length_zip]; omega)
      refine ss_retV (ev_eq (ev_andV (ev_op (ev_cb (ea_cons (ev_var rfl) ea_nil) (cs_lenD2 y1 hs)) (ev_cb (ea_cons (ev_var rfl) ea_nil) (cs_lenD2 y2 hs)) os_eq) fun _ => (ev_cb (ea_cons (ev_of (evn_lcL hl (ei_zipA y1 y2 hs rfl (ea_cons (ev_var rfl) (ea_cons (ev_var rfl) ea_nil))) (js := [3, 4]) (by decide) (fun a b ha hb => ⟨_, tg_pair, fun _ m => et_is et_yes (some_eq hb), fun _ y hy _ m => ?_⟩))) ea_nil) (cs_all ls_val))) ?_) (List.nil_sublist _)
      · cases hy
        obtain ⟨e1, e2⟩ := zip_self ha
        exact ev_call (ea_cons (ev_var rfl) (ea_cons (ev_var rfl) ea_nil)) ⟨_, _, a.1, rfl, rfl, dyn_of, by rw [e1]; exact dyn_of, D.nod_mem e2 (D.items_nod hn).1, by have := D.items_dp e2; omega, rfl, rfl⟩
      · simp
    · refine ss_skip ?_
      have hs : d.isSeq = false := by cases d <;> first | rfl | (simp [D.isLst, D.isTup] at c; done)
      refine ss_set (ev_andV (ev_op (isi0 isk_bool rfl) (isi1 isk_bool rfl) os_eq) fun _ => ev_op (isi0 isk_int rfl) (isi1 isk_int rfl) os_eq) ?_
      refine ss_if (et_or (et_B (ev_cb (ea_cons (ev_var rfl) (ea_cons (ev_tps (xs := [Ty.mk "dict", Ty.mk "list", Ty.mk "tuple"]) (ea_cons ev_ty (ea_cons ev_ty (ea_cons ev_ty ea_nil))) (szn (by decide))) ea_nil)) (cs_isiT y1 (.cons isk_dct (.cons isk_lst (.cons isk_tup .nil)))))) fun _ => et_or (et_not (et_B (ev_var rfl))) fun _ => et_test (ev_op (isi0 isk_str rfl) (isi1 isk_str rfl) os_ne)) (fun c => ?_) fun _ => ?_
      · exfalso
        cases d <;> simp [D.isLst, D.isTup, D.isDct, D.isSeq, D.nod] at c hs hn
      · refine ss_skip ?_
        refine ss_end ?_
        refine ss_retS ?_
        refine ss_retV (ev_if (et_test (ev_op (ev_var rfl) ev_non (os_isNone y2))) (fun c => ev_eq (ev_op (ev_var rfl) ev_non (os_isNone y1)) c) fun c => ev_op (ev_var rfl) (ev_var rfl) (os_eqFlat y1 y2 hs hn)) (List.nil_sublist _)
def S_sameE (n : Nat) : SpecV := fun args C r C' => ∃ (t1 t2 : TV) (d : D), args = [t1, t2] ∧ C = [] ∧ Dyn t1 d ∧ Dyn t2 d ∧ ((d.nod = true ∧ d.dp < n) ∨ (d = .dct [] ∧ 3 ≤ n)) ∧ r = tv true ∧ C' = []
theorem hh__law_same {f : Addr} {fd : FuncData} (Z : Z__law_same K mg) (F : Fun K "_law_same" "_law_same" s__law_same f fd) (b : Binds K fd ["found", "due"] []) (g : mg "_law_same" = some (.ref f)) : ∀ n, L2H.FnH P w K mg base CX0 n f fd ["found", "due"] (SpV (S_sameE n) K)
  | 0 => ⟨fun _ _ _ _ ⟨_, _, _, _, _, ⟨_, _, _, _, _, _, _, h, _⟩, _⟩ => by omega, fun _ _ _ _ _ _ _ _ _ _ _ _ _ _ _ _ ⟨_, _, _, _, _, ⟨_, _, _, _, _, _, _, h, _⟩, _⟩ => by omega⟩
  | n + 1 => by
    have ih : L2H.FnH P w K mg base CX0 n f fd ["found", "due"] (SpV (S_sameE n) K) := hh__law_same Z F b g n
    refine F.okH sc__law_same (len_v fun args C r C' h => by obtain ⟨_, _, _, rfl, _⟩ := h; rfl) (fun cdv A outer s H vs Q E p hot hr h => ?_)
    have nd := sc__law_same.nd
    have hc : L2H.HotC (L2H.cxH CX0 P w K mg base N__law_same "_law_same" (defScope s__law_same) f cdv A outer s H E p) := ⟨p, hot, List.mem_cons_self⟩
    refine ⟨_, (pss_cons (ps_if (pt_val (pe_callB call_isi (by rfl) Z.n_isinstance (by decide +kernel) (pa_cons (pv 1) (pa_cons (pe_bltn (v := .ty "dict") (by rfl) Z.n_dict (by decide +kernel) rfl) pa_nil)))) (pss_one (ps_ret (pe_and (pe_callB call_isi (by rfl) Z.n_isinstance (by decide +kernel) (pa_cons (pv 0) (pa_cons (pe_bltn (v := .ty "dict") (by rfl) Z.n_dict (by decide +kernel) rfl) pa_nil))) (pe_one (L2H.pe_callH ih hr hc (by rfl) g F.kp b (fun σ pins H s e s' I c => pass0 pins σ H s e s' I c) (pa_cons (HT2.pe_listItemsH hc (pv 0) (by rfl) Z.n_list (by decide +kernel)) (pa_cons (HT2.pe_listItemsH hc (pv 1) (by rfl) Z.n_list (by decide +kernel)) pa_nil))))))) pss_nil)
      (pss_cons (ps_if (pt_val (pe_callB call_isiT (by rfl) Z.n_isinstance (by decide +kernel) (pa_cons (pv 1) (pa_cons (pe_tup (pa_cons (pe_bltn (v := .ty "list") (by rfl) Z.n_list (by decide +kernel) rfl) (pa_cons (pe_bltn (v := .ty "tuple") (by rfl) Z.n_tuple (by decide +kernel) rfl) pa_nil))) pa_nil))))
        (pss_cons (ps_if (PW.pt (pw_or (pt_cmpR op_ne (pe_callB call_isi (by rfl) Z.n_isinstance (by decide +kernel) (pa_cons (pv 0) (pa_cons (pe_bltn (v := .ty "list") (by rfl) Z.n_list (by decide +kernel) rfl) pa_nil))) (pe_callB call_isi (by rfl) Z.n_isinstance (by decide +kernel) (pa_cons (pv 1) (pa_cons (pe_bltn (v := .ty "list") (by rfl) Z.n_list (by decide +kernel) rfl) pa_nil))) (nomark _))
            (pw_or1 (pt_cmpR op_ne (pe_callB call_isi (by rfl) Z.n_isinstance (by decide +kernel) (pa_cons (pv 0) (pa_cons (pe_bltn (v := .ty "tuple") (by rfl) Z.n_tuple (by decide +kernel) rfl) pa_nil))) (pe_callB call_isi (by rfl) Z.n_isinstance (by decide +kernel) (pa_cons (pv 1) (pa_cons (pe_bltn (v := .ty "tuple") (by rfl) Z.n_tuple (by decide +kernel) rfl) pa_nil))) (nomark _))))) pss_no pss_nil)
        (pss_one (ps_ret (pe_and (pe_cmpR op_eq (pe_callB call_len_seq (by rfl) Z.n_len (by decide +kernel) (pa_cons (pv 0) pa_nil)) (pe_callB call_len_seq (by rfl) Z.n_len (by decide +kernel) (pa_cons (pv 1) pa_nil)) (nomark _))
          (pe_one (pe_callB (HT2.cr_allH hc) (by rfl) Z.n_all (by decide +kernel) (pa_cons (by exact (HT2.pe_lcH (own := [("one", 3), ("other", 4)]) (g := gTup K 2 (gCons (gName 3) (gCons (gName 4) gNil))) hc nd (HT2.pi_zipAH rfl Z.n_zip (pa_cons (pv 0) (pa_cons (pv 1) pa_nil))) (blkOk_by (own := [("one", 3), ("other", 4)]) (N := N__law_same) (sc := defScope s__law_same) (by decide +kernel))
            (fun _ _ _ _ _ => HT2.pg_tupH hc (pgs_cons (pg_name (i := 3) nd rfl (by first | exact .inl rfl | exact .inr rfl)) (pgs_cons (pg_name (i := 4) nd rfl (by first | exact .inl rfl | exact .inr rfl)) pgs_nil))) (fun _ _ _ _ _ => pts_nil)
            (fun _ _ _ _ _ => L2H.pe_callH ih hr hc (by rfl) g F.kp b (fun σ pins H s e s' I c => pass0 pins σ H s e s' I c) (pa_cons (pv 3) (pa_cons (pv 4) pa_nil))))) pa_nil))))))) pss_nil)
      (pss_cons (ps_set (i := 2) nd rfl (by first | exact .inl rfl | exact .inr rfl) (pe_and (pe_cmpR op_eq (pe_callB call_isi (by rfl) Z.n_isinstance (by decide +kernel) (pa_cons (pv 0) (pa_cons (pe_bltn (v := .ty "bool") (by rfl) Z.n_bool (by decide +kernel) rfl) pa_nil))) (pe_callB call_isi (by rfl) Z.n_isinstance (by decide +kernel) (pa_cons (pv 1) (pa_cons (pe_bltn (v := .ty "bool") (by rfl) Z.n_bool (by decide +kernel) rfl) pa_nil))) (nomark _))
          (pe_one (pe_cmpR op_eq (pe_callB call_isi (by rfl) Z.n_isinstance (by decide +kernel) (pa_cons (pv 0) (pa_cons (pe_bltn (v := .ty "int") (by rfl) Z.n_int (by decide +kernel) rfl) pa_nil))) (pe_callB call_isi (by rfl) Z.n_isinstance (by decide +kernel) (pa_cons (pv 1) (pa_cons (pe_bltn (v := .ty "int") (by rfl) Z.n_int (by decide +kernel) rfl) pa_nil))) (nomark _)))))
      (pss_cons (ps_if (PW.pt (pw_or (pt_val (pe_callB call_isiT (by rfl) Z.n_isinstance (by decide +kernel) (pa_cons (pv 0) (pa_cons (pe_tup (pa_cons (pe_bltn (v := .ty "dict") (by rfl) Z.n_dict (by decide +kernel) rfl) (pa_cons (pe_bltn (v := .ty "list") (by rfl) Z.n_list (by decide +kernel) rfl) (pa_cons (pe_bltn (v := .ty "tuple") (by rfl) Z.n_tuple (by decide +kernel) rfl) pa_nil)))) pa_nil))))
          (pw_or (pt_not (pt_val (pv 2))) (pw_or1 (pt_cmpR op_ne (pe_callB call_isi (by rfl) Z.n_isinstance (by decide +kernel) (pa_cons (pv 0) (pa_cons (pe_bltn (v := .ty "str") (by rfl) Z.n_str (by decide +kernel) rfl) pa_nil))) (pe_callB call_isi (by rfl) Z.n_isinstance (by decide +kernel) (pa_cons (pv 1) (pa_cons (pe_bltn (v := .ty "str") (by rfl) Z.n_str (by decide +kernel) rfl) pa_nil))) (nomark _)))))) pss_no pss_nil)
      (pss_one (ps_ret (pe_ifExp (pt_cmpR op_isN (pv 1) pe_non (nomark _)) (pe_cmpR op_isN (pv 0) pe_non (nomark _)) (pe_cmpR op_eq (pv 0) (pv 1) (nomark _))))))))), ?_⟩
    refine body_v h fun B args C r C' hK hP hS => ?_
    obtain ⟨t1, t2, d, rfl, rfl, y1, y2, hdis, rfl, rfl⟩ := hS
    subst hK
    have isi0 : ∀ {n : String} {q : D → Bool}, IsK n q → ∀ {Γ : List Sl}, Γ[0]? = some (some t1) → Ev B (tCB (rIsi B.K) (tCons (tVar 0) (tCons (tC (.ty n)) tNil))) Γ [] (tv (q d)) [] := fun hk => fun hg => ev_cb (ea_cons (ev_var hg) (ea_cons ev_ty ea_nil)) (cs_isi y1 hk)
    have isi1 : ∀ {n : String} {q : D → Bool}, IsK n q → ∀ {Γ : List Sl}, Γ[1]? = some (some t2) → Ev B (tCB (rIsi B.K) (tCons (tVar 1) (tCons (tC (.ty n)) tNil))) Γ [] (tv (q d)) [] := fun hk => fun hg => ev_cb (ea_cons (ev_var hg) (ea_cons ev_ty ea_nil)) (cs_isi y2 hk)
    rcases hdis with ⟨hn, hdp⟩ | ⟨rfl, h2⟩
    case inr =>
      refine ss_if (et_B (isi1 isk_dct rfl)) (fun _ => ?_) (fun c => by cases c)
      refine ss_retS ?_
      exact ss_retV (ev_andV (isi0 isk_dct rfl) fun _ => ev_callS (ea_cons (ev_of (evn_li0 y1 (ev_var rfl))) (ea_cons (ev_of (evn_li0 y2 (ev_var rfl))) ea_nil)) ⟨_, _, .lst [], rfl, rfl, dyn_of, dyn_of, .inl ⟨rfl, by show _ < _; simp [D.dp, D.dpAll]; omega⟩, rfl, rfl⟩) (List.nil_sublist _)
    have nodct : d.isDct = false := by cases d <;> first | rfl | (simp [D.nod] at hn; done)
    refine ss_if (et_B (isi1 isk_dct rfl)) (fun c => by rw [nodct] at c; cases c) fun _ => ?_
    refine ss_skip ?_
    refine ss_if (et_B (ev_cb (ea_cons (ev_var rfl) (ea_cons (ev_tps (xs := [Ty.mk "list", Ty.mk "tuple"]) (ea_cons ev_ty (ea_cons ev_ty ea_nil)) (szn (by decide))) ea_nil)) (cs_isiT y2 (.cons isk_lst (.cons isk_tup .nil))))) (fun c => ?_) fun c => ?_
    · have hs : d.isSeq = true := by cases d <;> first | rfl | (simp [D.isLst, D.isTup] at c; done)
      refine ss_assoc ?_
      refine ss_if (et_or (et_test (ev_op (isi0 isk_lst rfl) (isi1 isk_lst rfl) os_ne)) fun _ => et_test (ev_op (isi0 isk_tup rfl) (isi1 isk_tup rfl) os_ne)) (fun c => by simp at c) fun _ => ?_
      refine ss_skip ?_
      refine ss_retS ?_
      have hl : lcL (fun (_ : D × D) => some true) (fun (_ : D × D) => some true) (d.items.zip d.items) = some ((d.items.zip d.items).map fun _ => true) := lcL_const (by have := (D.items_nod hn).2; rw [List.length_zip]; omega)
      refine ss_retV (ev_eq (ev_andV (ev_op (ev_cb (ea_cons (ev_var rfl) ea_nil) (cs_lenD2 y1 hs)) (ev_cb (ea_cons (ev_var rfl) ea_nil) (cs_lenD2 y2 hs)) os_eq) fun _ => (ev_cb (ea_cons (ev_of (evn_lcL hl (ei_zipA y1 y2 hs rfl (ea_cons (ev_var rfl) (ea_cons (ev_var rfl) ea_nil))) (js := [3, 4]) (by decide) (fun a b ha hb => ⟨_, tg_pair, fun _ m => et_is et_yes (some_eq hb), fun _ y hy _ m => ?_⟩))) ea_nil) (cs_all ls_val))) ?_) (List.nil_sublist _)
      · cases hy
        obtain ⟨e1, e2⟩ := zip_self ha
        exact ev_callS (ea_cons (ev_var rfl) (ea_cons (ev_var rfl) ea_nil)) ⟨_, _, a.1, rfl, rfl, dyn_of, by rw [e1]; exact dyn_of, .inl ⟨D.nod_mem e2 (D.items_nod hn).1, by have := D.items_dp e2; omega⟩, rfl, rfl⟩
      · simp
    · refine ss_skip ?_
      have hs : d.isSeq = false := by cases d <;> first | rfl | (simp [D.isLst, D.isTup] at c; done)
      refine ss_set (ev_andV (ev_op (isi0 isk_bool rfl) (isi1 isk_bool rfl) os_eq) fun _ => ev_op (isi0 isk_int rfl) (isi1 isk_int rfl) os_eq) ?_
      refine ss_if (et_or (et_B (ev_cb (ea_cons (ev_var rfl) (ea_cons (ev_tps (xs := [Ty.mk "dict", Ty.mk "list", Ty.mk "tuple"]) (ea_cons ev_ty (ea_cons ev_ty (ea_cons ev_ty ea_nil))) (szn (by decide))) ea_nil)) (cs_isiT y1 (.cons isk_dct (.cons isk_lst (.cons isk_tup .nil)))))) fun _ => et_or (et_not (et_B (ev_var rfl))) fun _ => et_test (ev_op (isi0 isk_str rfl) (isi1 isk_str rfl) os_ne)) (fun c => ?_) fun _ => ?_
      · exfalso
        cases d <;> simp [D.isLst, D.isTup, D.isDct, D.isSeq, D.nod] at c hs hn
      · refine ss_skip ?_
        refine ss_end ?_
        refine ss_retS ?_
        refine ss_retV (ev_if (et_test (ev_op (ev_var rfl) ev_non (os_isNone y2))) (fun c => ev_eq (ev_op (ev_var rfl) ev_non (os_isNone y1)) c) fun c => ev_op (ev_var rfl) (ev_var rfl) (os_eqFlat y1 y2 hs hn)) (List.nil_sublist _)
abbrev s__law_very : Stmt := topS 27
abbrev N__law_very : List Str := ["kept", "thing", "found"]
theorem sc__law_very : FnScope N__law_very ["kept", "thing"] (defScope s__law_very) := ⟨rfl, rfl, rfl, by decide +kernel, rfl, by decide +kernel, by decide +kernel⟩
/-- the very object: a flat thing, a list, an empty dict, a tuple that is not deep -/
def veryOkT : D → Bool
  | .tup ds => (D.tup ds).nod && decide ((D.tup ds).dp < 4)
  | .lst ds => decide (ds.length ≤ 1000000)
  | .dct kvs => kvs.isEmpty
  | _ => true
def S_veryT : SpecV := fun args C r C' => ∃ (t1 t2 : TV) (v : V) (d : D), args = [t1, t2] ∧ C = [] ∧ Dyn t1 d ∧ Dyn t2 d ∧ (∀ K F u, t1.ok K F u → u = v) ∧ (∀ K F u, t2.ok K F u → u = v) ∧ veryOkT d = true ∧ r = tv true ∧ C' = []
theorem hv__law_very {f f2 : Addr} {fd fd2 : FuncData} (Z : Z__law_same K mg) (F : Fun K "_law_very" "_law_very" s__law_very f fd) (F2 : Fun K "_law_same" "_law_same" s__law_same f2 fd2) (b : Binds K fd2 ["found", "due"] []) (g : mg "_law_same" = some (.ref f2)) : L2H.FnH P w K mg base CX0 5 f fd ["kept", "thing"] (SpV S_veryT K) := by
  refine F.okH sc__law_very (len_v fun args C r C' h => by obtain ⟨_, _, _, _, rfl, _⟩ := h; rfl) (fun cdv A outer s H vs Q E p hot hr h => ?_)
  have nd := sc__law_very.nd
  have hu : (A.deeper (envOfC "_law_very" (defScope s__law_very) s.heap.objs.size f cdv)).units + 1 < cLine := by have := hr.un; omega
  have hc : L2H.HotC (L2H.cxH CX0 P w K mg base N__law_very "_law_very" (defScope s__law_very) f cdv A outer s H E p) := ⟨p, hot, List.mem_cons_self⟩
  refine ⟨_, (pss_cons (ps_if (pt_val (pe_callB call_isi (by rfl) Z.n_isinstance (by decide +kernel) (pa_cons (pv 1) (pa_cons (pe_bltn (v := .ty "list") (by rfl) Z.n_list (by decide +kernel) rfl) pa_nil))))
        (pss_cons (ps_expr (pe_bm PySem.F.plainAttrs_list PySem.F.slot_list_append PySem.F.type_list_append mt_append (pv 1) (pa_cons pe_str pa_nil)))
        (pss_cons (ps_set (i := 2) nd rfl (by first | exact .inl rfl | exact .inr rfl) (pe_and (pe_callB call_isi (by rfl) Z.n_isinstance (by decide +kernel) (pa_cons (pv 0) (pa_cons (pe_bltn (v := .ty "list") (by rfl) Z.n_list (by decide +kernel) rfl) pa_nil)))
          (pe_and (pe_cmpR op_eq (pe_callB call_len_seq (by rfl) Z.n_len (by decide +kernel) (pa_cons (pv 0) pa_nil)) (pe_callB call_len_seq (by rfl) Z.n_len (by decide +kernel) (pa_cons (pv 1) pa_nil)) (nomark _))
          (pe_one (pe_cmpR op_eq (pe_ix ix_list (pv 0) (pe_un un_neg pe_int) (fun _ _ => rfl)) pe_str (nomark _))))))
        (pss_cons (ps_expr (pe_bm0 PySem.F.plainAttrs_list PySem.F.slot_list_pop PySem.F.type_list_pop mt_pop (pv 1)))
        (pss_one (ps_ret (pv 2)))))) pss_nil)
      (pss_cons (ps_if (pt_val (pe_callB call_isi (by rfl) Z.n_isinstance (by decide +kernel) (pa_cons (pv 1) (pa_cons (pe_bltn (v := .ty "dict") (by rfl) Z.n_dict (by decide +kernel) rfl) pa_nil))))
        (pss_cons (ps_dput hu (pv 1) pe_str pe_int rfl)
        (pss_cons (ps_set (i := 2) nd rfl (by first | exact .inl rfl | exact .inr rfl) (pe_and (pe_callB call_isi (by rfl) Z.n_isinstance (by decide +kernel) (pa_cons (pv 0) (pa_cons (pe_bltn (v := .ty "dict") (by rfl) Z.n_dict (by decide +kernel) rfl) pa_nil)))
          (pe_and (pe_cmpR op_eq (pe_callB cr_lenD (by rfl) Z.n_len (by decide +kernel) (pa_cons (pv 0) pa_nil)) (pe_callB cr_lenD (by rfl) Z.n_len (by decide +kernel) (pa_cons (pv 1) pa_nil)) (nomark _))
          (pe_one (pe_cmpR op_eq (pe_dget1 hu (pv 0) pe_str ⟨rfl, rfl, rfl, rfl⟩) pe_int (nomark _))))))
        (pss_cons (ps_expr (pe_dpop1 (pv 1) pe_str ⟨rfl, rfl, rfl, rfl⟩))
        (pss_one (ps_ret (pv 2)))))) pss_nil)
      (pss_cons (ps_if (PW.pt (pw_or (pt_val (pe_callB call_isiT (by rfl) Z.n_isinstance (by decide +kernel) (pa_cons (pv 1) (pa_cons (pe_tup (pa_cons (pe_bltn (v := .ty "tuple") (by rfl) Z.n_tuple (by decide +kernel) rfl) (pa_cons (pe_bltn (v := .ty "str") (by rfl) Z.n_str (by decide +kernel) rfl) (pa_cons (pe_bltn (v := .ty "bool") (by rfl) Z.n_bool (by decide +kernel) rfl) (pa_cons (pe_bltn (v := .ty "int") (by rfl) Z.n_int (by decide +kernel) rfl) pa_nil))))) pa_nil))))
          (pw_or1 (pt_cmpR op_isN (pv 1) pe_non (nomark _)))))
        (pss_one (ps_ret (L2H.pe_callH (hh__law_same (P := P) (w := w) (base := base) Z F2 b g 4) hr hc (by rfl) g F2.kp b (fun σ pins H s e s' I c => pass0 pins σ H s e s' I c) (pa_cons (pv 0) (pa_cons (pv 1) pa_nil))))) pss_nil)
      pss_no))), ?_⟩
  refine body_v h fun B args C r C' hK hP hS => ?_
  obtain ⟨t1, t2, v, d, rfl, rfl, y1, y2, i1, i2, vo, rfl, rfl⟩ := hS
  subst hK
  have isi1 : ∀ {n : String} {q : D → Bool}, IsK n q → ∀ {Γ : List Sl}, Γ[1]? = some (some t2) → Ev B (tCB (rIsi B.K) (tCons (tVar 1) (tCons (tC (.ty n)) tNil))) Γ [] (tv (q d)) [] := fun hk => fun hg => ev_cb (ea_cons (ev_var hg) (ea_cons ev_ty ea_nil)) (cs_isi y2 hk)
  have late : ∀ x : V, x = .str " late " → scal x (.str " late ") = true := fun x e => by subst e; simp [scal]
  have hres : ∀ (H : Hp) (a : Addr) (o u : HO), H a = some o → upd (upd H a u) a o = H := fun H a o u e => by
    funext b
    by_cases hb : b = a
    · subst hb; rw [upd_same, e]
    · rw [upd_ne hb, upd_ne hb]
  cases hd : d with
  | lst ds =>
    intro τ σ ws H1 ⟨F1, st⟩ E1 im
    obtain ⟨s0, e0, k0⟩ := st.slots.get (i := 0) (b := some t1) rfl
    obtain ⟨s1, e1, k1⟩ := st.slots.get (i := 1) (b := some t2) rfl
    obtain ⟨u0, rfl, o0⟩ := k0 _ rfl
    obtain ⟨u1, rfl, o1⟩ := k1 _ rfl
    obtain rfl := i1 _ _ _ o0
    obtain rfl := i2 _ _ _ o1
    have o := y2 _ _ _ o1
    rw [hd] at o
    cases o with
    | @lst a us _ e rr =>
      have hH : H1 a = some (.lst us) := st.hf.sub _ _ e
      have hl : us.length ≤ 1000000 := by
        have := rr.all2.length
        rw [hd] at vo
        simp [veryOkT] at vo
        have z : us.length = ds.length := this
        omega
      refine ⟨.ref a, e1, .ref a, .ty "list", .type "list", .type "list", true, rfl, .ty _, .base (.lst hH), kit_ty (by decide +kernel), true, rfl, ?_⟩
      refine ifT rfl ?_
      refine ⟨.ref a, e1, Or.inl ⟨rfl, us, .inl (.inl hH)⟩, a, us, .str " late ", rfl, rfl, hH, by rw [sizeLine_eq]; omega, ?_⟩
      refine ⟨.ref a, e0, .ref a, .ty "list", .type "list", .type "list", true, rfl, .ty _, .base (.lst upd_same), kit_ty (by decide +kernel), true, rfl, ?_⟩
      refine ifT rfl ?_
      refine ⟨.ref a, e0, a, us ++ [.str " late "], rfl, .inl (.inl (.inl upd_same)), .ref a, e1, a, us ++ [.str " late "], rfl, .inl (.inl (.inl upd_same)), by simp [scal], _, rfl, ?_⟩
      refine ifT (by simp) ?_
      refine ⟨.ref a, e0, 1, rfl, a, us ++ [.str " late "], -1, .str " late ", rfl, rfl, .inl (.inl upd_same), ?_, by simp [scal], ?_⟩
      · exact T.atI_lastT _ _
      · have e1' : (σ.set 2 (some (.bl (decide (V.str " late " = V.str " late ")))))[1]? = some (some (.ref a)) := by rw [List.getElem?_set_ne (by decide)]; exact e1
        refine ⟨.ref a, e1', Or.inl ⟨rfl, us ++ [.str " late "], .inl (.inl upd_same)⟩, a, us ++ [.str " late "], .str " late ", rfl, rfl, upd_same, by simp, ?_⟩
        rw [List.dropLast_concat, hres _ _ _ _ hH]
        refine ⟨.bl true, ?_, ?_⟩
        · rw [List.getElem?_set_self (by have := (List.getElem?_eq_some_iff.mp e1).1; have := st.slots.length; simp at this; omega)]
          simp
        · exact im.rt _ _ ⟨F1, st.hf, rfl⟩
  | dct kvs =>
    refine ss_if (et_B (isi1 isk_lst rfl)) (fun c => by rw [hd] at c; cases c) fun _ => ?_
    refine ss_skip ?_
    intro τ σ ws H1 ⟨F1, st⟩ E1 im
    obtain ⟨s0, e0, k0⟩ := st.slots.get (i := 0) (b := some t1) rfl
    obtain ⟨s1, e1, k1⟩ := st.slots.get (i := 1) (b := some t2) rfl
    obtain ⟨u0, rfl, o0⟩ := k0 _ rfl
    obtain ⟨u1, rfl, o1⟩ := k1 _ rfl
    obtain rfl := i1 _ _ _ o0
    obtain rfl := i2 _ _ _ o1
    have o := y2 _ _ _ o1
    rw [hd] at o vo
    have ek : kvs = [] := by cases kvs with
      | nil => rfl
      | cons p q => cases vo
    subst ek
    cases o with
    | @dct a us _ e rr =>
      cases rr
      have hH : H1 a = some (.dK []) := st.hf.sub _ _ e
      have hlt : ([] : List (Key × V)).length < sizeLine := by rw [sizeLine_eq]; decide
      refine ⟨.ref a, e1, .ref a, .ty "dict", .type "dict", .type "dict", true, rfl, .ty _, .base (.dK hH), kit_ty (by decide +kernel), true, rfl, ?_⟩
      refine ifT rfl ?_
      refine ⟨.ref a, e1, a, _, rfl, DPut.k (k := .inr " late ") (v := .int 7) hH hlt, ?_⟩
      have hP : upd H1 a (.dK (putK [] (.inr " late " : Key) (V.int 7))) a = some (.dK [((.inr " late " : Key), V.int 7)]) := upd_same
      refine ⟨.ref a, e0, .ref a, .ty "dict", .type "dict", .type "dict", true, rfl, .ty _, .base (.dK hP), kit_ty (by decide +kernel), true, rfl, ?_⟩
      refine ifT rfl ?_
      refine ⟨.ref a, e0, a, rfl, _, .inl hP, .ref a, e1, a, rfl, _, .inl hP, by simp [scal], _, rfl, ?_⟩
      refine ifT (by simp) ?_
      refine ⟨.ref a, e0, a, rfl, .inl ⟨_, .inl hP⟩, some (.int 7), ?_, by simp [scal], ?_⟩
      · have z := DGet.k (k := (.inr " late " : Key)) hP
        have e3 : valV [((.inr " late " : Key), V.int 7)] (.inr " late ") = some (.int 7) := valV_pos rfl
        rw [e3] at z
        exact z
      · have e1' : (σ.set 2 (some (.bl (decide ((some (V.int 7)).getD V.non = V.int 7)))))[1]? = some (some (.ref a)) := by rw [List.getElem?_set_ne (by decide)]; exact e1
        refine ⟨.ref a, e1', a, rfl, .inl ⟨_, .inl hP⟩, _, .inr " late ", .int 7, hP, rfl, valV_pos rfl, ?_⟩
        have e4 : dropK [((.inr " late " : Key), V.int 7)] (.inr " late ") = [] := by simp [dropK]
        rw [e4, hres _ _ _ _ hH]
        refine ⟨.bl true, ?_, ?_⟩
        · rw [List.getElem?_set_self (by have := (List.getElem?_eq_some_iff.mp e1).1; have := st.slots.length; simp at this; omega)]
          simp
        · exact im.rt _ _ ⟨F1, st.hf, rfl⟩
  | tup ds =>
    refine ss_if (et_B (isi1 isk_lst rfl)) (fun c => by rw [hd] at c; cases c) fun _ => ?_
    refine ss_skip ?_
    refine ss_if (et_B (isi1 isk_dct rfl)) (fun c => by rw [hd] at c; cases c) fun _ => ?_
    refine ss_skip ?_
    refine ss_if (et_or (et_B (ev_cb (ea_cons (ev_var rfl) (ea_cons (ev_tps (xs := [Ty.mk "tuple", Ty.mk "str", Ty.mk "bool", Ty.mk "int"]) (ea_cons ev_ty (ea_cons ev_ty (ea_cons ev_ty (ea_cons ev_ty ea_nil)))) (szn (by decide))) ea_nil)) (cs_isiT y2 (.cons isk_tup (.cons isk_str (.cons isk_bool (.cons isk_int .nil))))))) fun _ => et_test (ev_op (ev_var rfl) ev_non (os_isNone y2))) (fun _ => ?_) (fun c => by rw [hd] at c; cases c)
    refine ss_retS ?_
    exact ss_retV (ev_callS (ea_cons (ev_var rfl) (ea_cons (ev_var rfl) ea_nil)) ⟨_, _, d, rfl, rfl, y1, y2, .inl (by rw [hd] at vo ⊢; simpa [veryOkT] using vo), rfl, rfl⟩) (List.nil_sublist _)
  | _ =>
    refine ss_if (et_B (isi1 isk_lst rfl)) (fun c => by rw [hd] at c; cases c) fun _ => ?_
    refine ss_skip ?_
    refine ss_if (et_B (isi1 isk_dct rfl)) (fun c => by rw [hd] at c; cases c) fun _ => ?_
    refine ss_skip ?_
    refine ss_if (et_or (et_B (ev_cb (ea_cons (ev_var rfl) (ea_cons (ev_tps (xs := [Ty.mk "tuple", Ty.mk "str", Ty.mk "bool", Ty.mk "int"]) (ea_cons ev_ty (ea_cons ev_ty (ea_cons ev_ty (ea_cons ev_ty ea_nil)))) (szn (by decide))) ea_nil)) (cs_isiT y2 (.cons isk_tup (.cons isk_str (.cons isk_bool (.cons isk_int .nil))))))) fun _ => et_test (ev_op (ev_var rfl) ev_non (os_isNone y2))) (fun _ => ?_) (fun c => by rw [hd] at c; cases c)
    refine ss_retS ?_
    exact ss_retV (ev_callS (ea_cons (ev_var rfl) (ea_cons (ev_var rfl) ea_nil)) ⟨_, _, d, rfl, rfl, y1, y2, .inl ⟨by rw [hd]; rfl, by rw [hd]; show 0 < 4; decide⟩, rfl, rfl⟩) (List.nil_sublist _)
end K59
set_option Elab.async false
set_option linter.all false
set_option maxRecDepth 100000
set_option maxHeartbeats 4000000
set_option autoImplicit false
namespace K59
open PySem PySem.Spec PyProof.Rows L2 T
open PySem.W (Frag)
variable {P : Program} {w : World} {K : PySem.W.Frag} {mg : Str → Option Value} {base : Heap}
def D.isD0 : D → Bool | .dct [] => true | _ => false
theorem D.isD0_eq {d : D} (h : D.isD0 d = true) : d = .dct [] := by
  cases d with
  | dct kvs => cases kvs with | nil => rfl | cons _ _ => cases h
  | _ => cases h
def metT (o : Option Int) (n : Int) (d : D) : Option Bool := if o = some n ∧ ((d.nod && decide (d.dp < 6)) || D.isD0 d) = true then some true else none
theorem metT_some {o : Option Int} {n : Int} {d : D} {r : Bool} (h : metT o n d = some r) : o = some n ∧ r = true ∧ ((d.nod = true ∧ d.dp < 6) ∨ d = .dct []) := by
  unfold metT at h
  split at h
  · rename_i q
    cases h
    refine ⟨q.1, rfl, ?_⟩
    have q2 := q.2
    rw [Bool.or_eq_true, Bool.and_eq_true, decide_eq_true_eq] at q2
    exact q2.imp id D.isD0_eq
  · cases h
def metS (o : Option Int) (d : D) : Option Bool := if o = some 0 ∧ veryOkT d = true then some true else none
theorem metS_some {o : Option Int} {d : D} {r : Bool} (h : metS o d = some r) : o = some 0 ∧ r = true ∧ veryOkT d = true := by
  unfold metS at h
  split at h
  · rename_i q
    cases h
    exact ⟨q.1, rfl, q.2⟩
  · cases h
abbrev s_is_list : Stmt := topS 3
abbrev N_is_list : List Str := ["thing"]
theorem sc_is_list : FnScope N_is_list ["thing"] (defScope s_is_list) := ⟨rfl, rfl, rfl, by decide +kernel, rfl, by decide +kernel, by decide +kernel⟩
def m_is_list (v_thing : D) : Option Bool :=
  some (D.isLst v_thing || (D.isTup v_thing || false))
def S_is_list : SpecV := fun args C r C' => ∃ (t_thing : TV) (v_thing : D) (res : Bool), args = [t_thing] ∧ C = [] ∧ Dyn t_thing v_thing ∧ m_is_list v_thing = some res ∧ r = tv res ∧ C' = []
abbrev s_is_name : Stmt := topS 4
abbrev N_is_name : List Str := ["thing", "sign"]
theorem sc_is_name : FnScope N_is_name ["thing"] (defScope s_is_name) := ⟨rfl, rfl, rfl, by decide +kernel, rfl, by decide +kernel, by decide +kernel⟩
def m_is_name (v_thing : D) : Option Bool :=
  (orO (!(D.isStr v_thing)) ((D.str? v_thing).bind fun x1 =>
  (lenS x1).bind fun x3 =>
  some (!((decide ((1 : Int) ≤ x3)) && (decide (x3 ≤ (8 : Int))))))).bind fun b5 =>
  if b5 = true then
  some false
  else
  (D.str? v_thing).bind fun x15 =>
  (strAt x15 (0 : Int)).bind fun x17 =>
  (signO x17 (Str.ofString "abcdefghijklmnopqrstuvwxyz")).bind fun x19 =>
  if (!x19) = true then
  some false
  else
  (D.str? v_thing).bind fun x28 =>
  (lcL (fun (_ : Str) => some true) (fun (a30 : Str) => (signO a30 (Str.ofString "abcdefghijklmnopqrstuvwxyz0123456789")).bind fun x32 =>
  some x32) (x28.cps.toList.map oneS)).bind fun l40 =>
  some (l40.all id)
def S_is_name : SpecV := fun args C r C' => ∃ (t_thing : TV) (v_thing : D) (res : Bool), args = [t_thing] ∧ C = [] ∧ Dyn t_thing v_thing ∧ m_is_name v_thing = some res ∧ r = tv res ∧ C' = []
abbrev s_is_step : Stmt := topS 13
abbrev N_is_step : List Str := ["thing", "name"]
theorem sc_is_step : FnScope N_is_step ["thing"] (defScope s_is_step) := ⟨rfl, rfl, rfl, by decide +kernel, rfl, by decide +kernel, by decide +kernel⟩
def m_is_step (v_thing : D) : Option Bool :=
  (m_is_list v_thing).bind fun x1 =>
  (orO (!x1) ((D.seq? v_thing).bind fun x3 =>
  (orO (!decide ((x3.length : Int) = (2 : Int))) ((D.seq? v_thing).bind fun x5 =>
  (L2.atI x5 (0 : Int)).bind fun x7 =>
  (D.seq? v_thing).bind fun x9 =>
  (L2.atI x9 (0 : Int)).bind fun x11 =>
  some (!(D.isStr x11)))).bind fun b13 =>
  some b13)).bind fun b20 =>
  if b20 = true then
  some false
  else
  (D.seq? v_thing).bind fun x31 =>
  (L2.atI x31 (0 : Int)).bind fun x33 =>
  (D.str? x33).bind fun x35 =>
  if decide (x35 ∈ ([Str.ofString "turn", Str.ofString "put", Str.ofString "take"] : List Str)) = true then
  (D.seq? v_thing).bind fun x42 =>
  (L2.atI x42 (1 : Int)).bind fun x44 =>
  (m_is_name x44).bind fun x46 =>
  some x46
  else
  (D.seq? v_thing).bind fun x53 =>
  (L2.atI x53 (0 : Int)).bind fun x55 =>
  (D.str? x55).bind fun x57 =>
  (orO (!decide (x57 = (Str.ofString "eight"))) ((D.seq? v_thing).bind fun x59 =>
  (L2.atI x59 (1 : Int)).bind fun x61 =>
  (m_is_list x61).bind fun x63 =>
  (orO (!x63) ((D.seq? v_thing).bind fun x65 =>
  (L2.atI x65 (1 : Int)).bind fun x67 =>
  (D.seq? x67).bind fun x69 =>
  some (!decide ((x69.length : Int) = (8 : Int))))).bind fun b71 =>
  some b71)).bind fun b77 =>
  if b77 = true then
  some false
  else
  (D.seq? v_thing).bind fun x92 =>
  (L2.atI x92 (1 : Int)).bind fun x94 =>
  (D.seq? x94).bind fun x96 =>
  (lcL (fun (_ : D) => some true) (fun (a98 : D) => (m_is_name a98).bind fun x100 =>
  some x100) x96).bind fun l108 =>
  if (!(l108.all id)) = true then
  some false
  else
  (D.seq? v_thing).bind fun x119 =>
  (L2.atI x119 (1 : Int)).bind fun x121 =>
  (D.seq? x121).bind fun x123 =>
  (dcO (fun (_ : D) => some true) (fun (a125 : D) => (D.str? a125).bind fun x127 =>
  some x127) (fun (a125 : D) => some true) [] x123).bind fun d135 =>
  some (decide (((Dc.mk d135).l.length : Int) = (8 : Int)))
def S_is_step : SpecV := fun args C r C' => ∃ (t_thing : TV) (v_thing : D) (res : Bool), args = [t_thing] ∧ C = [] ∧ Dyn t_thing v_thing ∧ m_is_step v_thing = some res ∧ r = tv res ∧ C' = []
abbrev s_are_steps : Stmt := topS 14
abbrev N_are_steps : List Str := ["thing", "step"]
theorem sc_are_steps : FnScope N_are_steps ["thing"] (defScope s_are_steps) := ⟨rfl, rfl, rfl, by decide +kernel, rfl, by decide +kernel, by decide +kernel⟩
def m_are_steps (v_thing : D) : Option Bool :=
  (m_is_list v_thing).bind fun x1 =>
  (andO x1 ((D.seq? v_thing).bind fun x3 =>
  (andO (decide ((x3.length : Int) ≤ (300 : Int))) ((D.seq? v_thing).bind fun x5 =>
  (lcL (fun (_ : D) => some true) (fun (a7 : D) => (m_is_step a7).bind fun x9 =>
  some x9) x5).bind fun l17 =>
  some (l17.all id))).bind fun b20 =>
  some b20)).bind fun b25 =>
  some b25
def S_are_steps : SpecV := fun args C r C' => ∃ (t_thing : TV) (v_thing : D) (res : Bool), args = [t_thing] ∧ C = [] ∧ Dyn t_thing v_thing ∧ m_are_steps v_thing = some res ∧ r = tv res ∧ C' = []
abbrev s_line_of : Stmt := topS 17
abbrev N_line_of : List Str := ["words"]
theorem sc_line_of : FnScope N_line_of ["words"] (defScope s_line_of) := ⟨rfl, rfl, rfl, by decide +kernel, rfl, by decide +kernel, by decide +kernel⟩
def m_line_of (v_words : (List Str)) : Option Str :=
  (joinL (Str.ofString " ") v_words).bind fun x1 =>
  (catS x1 (Str.ofString "\n")).bind fun x3 =>
  some x3
def S_line_of : SpecV := fun args C r C' => ∃ (v_words : (List Str)) (res : Str), args = [tv v_words] ∧ C = [] ∧ m_line_of v_words = some res ∧ r = tv res ∧ C' = []
abbrev s_step_in : Stmt := topS 20
abbrev N_step_in : List Str := ["words", "step"]
theorem sc_step_in : FnScope N_step_in ["words"] (defScope s_step_in) := ⟨rfl, rfl, rfl, by decide +kernel, rfl, by decide +kernel, by decide +kernel⟩
def m_step_in (v_words : (List Str)) : Option D :=
  (L2.atI v_words (0 : Int)).bind fun x1 =>
  (if (decide (x1 = (Str.ofString "eight"))) = true then some (AsD.toD (((Str.ofString "eight"), (Tp.mk (cutL v_words (some (1 : Int)) none))) : (Str × (Tp Str)))) else some (AsD.toD ((Tp.mk v_words) : (Tp Str)))).bind fun x3 =>
  (m_is_step x3).bind fun x11 =>
  (if x11 = true then some x3 else some (AsD.toD (() : Unit))).bind fun x13 =>
  some x13
def S_step_in : SpecV := fun args C r C' => ∃ (v_words : (List Str)) (res : D), args = [tv v_words] ∧ C = [] ∧ m_step_in v_words = some res ∧ r = tv res ∧ C' = []
abbrev s_parts_of : Stmt := topS 18
abbrev N_parts_of : List Str := ["text", "parts"]
theorem sc_parts_of : FnScope N_parts_of ["text"] (defScope s_parts_of) := ⟨rfl, rfl, rfl, by decide +kernel, rfl, by decide +kernel, by decide +kernel⟩
def m_parts_of (v_text : D) : Option ((List Str) × Str) :=
  if (!(D.isStr v_text)) = true then
  none
  else
  (D.str? v_text).bind fun x5 =>
  (splitO x5 (Str.ofString "\n")).bind fun x7 =>
  (L2.atI x7 (-(1 : Int))).bind fun x11 =>
  some ((cutL x7 none (some (-(1 : Int)))), x11)
def S_parts_of : SpecV := fun args C r C' => ∃ (t_text : TV) (v_text : D) (res : ((List Str) × Str)), args = [t_text] ∧ C = [] ∧ Dyn t_text v_text ∧ m_parts_of v_text = some res ∧ r = tv res ∧ C' = []
def x_parts_of (v_text : D) : Option Int :=
  if (!(D.isStr v_text)) = true then
  some (0 : Int)
  else
  (D.str? v_text).bind fun x5 =>
  (splitO x5 (Str.ofString "\n")).bind fun x7 =>
  none
def X_parts_of (C_BadText : Addr) : SpecF := fun args C e C' => ∃ (t_text : TV) (v_text : D) (k : Int), args = [t_text] ∧ C = [] ∧ Dyn t_text v_text ∧ x_parts_of v_text = some k ∧ e = ⟨C_BadText, [("line", tv k), ("text", t_text)]⟩ ∧ C' = []
abbrev s_steps_text : Stmt := topS 19
abbrev N_steps_text : List Str := ["steps", "step"]
theorem sc_steps_text : FnScope N_steps_text ["steps"] (defScope s_steps_text) := ⟨rfl, rfl, rfl, by decide +kernel, rfl, by decide +kernel, by decide +kernel⟩
def m_steps_text (v_steps : D) : Option Str :=
  (m_are_steps v_steps).bind fun x1 =>
  if (!x1) = true then
  none
  else
  (D.seq? v_steps).bind fun x8 =>
  (lcL (fun (_ : D) => some true) (fun (a10 : D) => (D.seq? a10).bind fun x12 =>
  (L2.atI x12 (0 : Int)).bind fun x14 =>
  (D.seq? a10).bind fun x16 =>
  (L2.atI x16 (0 : Int)).bind fun x18 =>
  (D.str? x18).bind fun x20 =>
  (if (decide (x20 = (Str.ofString "eight"))) = true then (D.seq? a10).bind fun x22 =>
  (L2.atI x22 (1 : Int)).bind fun x24 =>
  (D.seq? x24).bind fun x26 =>
  some x26 else (D.seq? a10).bind fun x28 =>
  (L2.atI x28 (1 : Int)).bind fun x30 =>
  some ([x30] : List D)).bind fun x32 =>
  (catO ([x14] : List D) x32).bind fun x43 =>
  (D.strs? x43).bind fun x45 =>
  (m_line_of x45).bind fun x47 =>
  some x47) x8).bind fun l55 =>
  (joinL (Str.ofString "") l55).bind fun x66 =>
  some x66
def S_steps_text : SpecV := fun args C r C' => ∃ (t_steps : TV) (v_steps : D) (res : Str), args = [t_steps] ∧ C = [] ∧ Dyn t_steps v_steps ∧ m_steps_text v_steps = some res ∧ r = tv res ∧ C' = []
def x_steps_text (v_steps : D) : Option Int :=
  (m_are_steps v_steps).bind fun x1 =>
  if (!x1) = true then
  some (0 : Int)
  else
  none
def X_steps_text (C_BadSteps : Addr) : SpecF := fun args C e C' => ∃ (t_steps : TV) (v_steps : D) (k : Int), args = [t_steps] ∧ C = [] ∧ Dyn t_steps v_steps ∧ x_steps_text v_steps = some k ∧ e = ⟨C_BadSteps, [("steps", t_steps)]⟩ ∧ C' = []
abbrev s_read_steps : Stmt := topS 21
abbrev N_read_steps : List Str := ["text", "lines", "rest", "told", "index", "line", "step"]
theorem sc_read_steps : FnScope N_read_steps ["text"] (defScope s_read_steps) := ⟨rfl, rfl, rfl, by decide +kernel, rfl, by decide +kernel, by decide +kernel⟩
def m_read_steps (v_text : D) : Option (List D) :=
  (m_parts_of v_text).bind fun x1 =>
  (foldO (fun (s5 : (List D)) (a7 : (Int × Str)) =>
  (splitO a7.2 (Str.ofString " ")).bind fun x11 =>
  (m_step_in x11).bind fun x13 =>
  if ((decide ((300 : Int) ≤ a7.1)) || (D.isNon x13)) = true then
  none
  else
  (appO s5 x13).bind fun x21 =>
  some x21) ([] : List D) (enumL 0 x1.1)).bind fun (s24 : (List D)) =>
  if (!decide (x1.2 = (Str.ofString ""))) = true then
  none
  else
  some s24
def S_read_steps : SpecN := fun args C r C' => ∃ (t_text : TV) (v_text : D) (res : (List D)), args = [t_text] ∧ C = [] ∧ Dyn t_text v_text ∧ m_read_steps v_text = some res ∧ r = .lst res ∧ C' = []
def x_read_steps (v_text : D) : Option Int :=
  if (!(D.isStr v_text)) = true then some 0 else
  (m_parts_of v_text).bind fun x1 =>
  (foldR (ρ := Int) (fun (s5 : (List D)) (a7 : (Int × Str)) =>
  (splitO a7.2 (Str.ofString " ")).bind fun x14 =>
  (m_step_in x14).bind fun x16 =>
  if ((decide ((300 : Int) ≤ a7.1)) || (D.isNon x16)) = true then
  some (.error a7.1)
  else
  (appO s5 x16).bind fun x24 =>
  some (.ok x24)) ([] : List D) (enumL 0 x1.1)).bind fun r11 => match r11 with
  | .error q33 => some q33
  | .ok s27 =>
  if (!decide (x1.2 = (Str.ofString ""))) = true then
  some (x1.1.length : Int)
  else
  none
def X_read_steps (C_BadText : Addr) : SpecF := fun args C e C' => ∃ (t_text : TV) (v_text : D) (k : Int), args = [t_text] ∧ C = [] ∧ Dyn t_text v_text ∧ x_read_steps v_text = some k ∧ e = ⟨C_BadText, [("line", tv k), ("text", t_text)]⟩ ∧ C' = []
abbrev s__law_spring : Stmt := topS 23
abbrev N__law_spring : List Str := ["script", "turn", "cell", "mix", "at", "one"]
theorem sc__law_spring : FnScope N__law_spring ["script", "turn"] (defScope s__law_spring) := ⟨rfl, rfl, rfl, by decide +kernel, rfl, by decide +kernel, by decide +kernel⟩
def m__law_spring (v_script : Sq) (v_turn : Int) : Option (List Int) :=
  (if (decide (v_turn < (v_script.l.length : Int))) = true then (L2.atI v_script.l v_turn).bind fun x1 =>
  some x1 else (mulO (7 : Int) v_turn).bind fun x3 =>
  some (x3 + (v_script.l.length : Int))).bind fun x5 =>
  (mulO (97 : Int) v_turn).bind fun x13 =>
  (some ((1009 : Int) + x13)).bind fun v15 =>
  (foldO (fun (s20 : Int) (a22 : (Int × Int)) =>
  (mulO s20 (69069 : Int)).bind fun x26 =>
  (mulO (5 : Int) a22.1).bind fun x28 =>
  (modO (((x26 + a22.2) + x28) + (1 : Int)) (2147483629 : Int)).bind fun x30 =>
  some x30) v15 (enumL 0 (cutL v_script.l none (some (63 : Int))))).bind fun (s35 : Int) =>
  (powO (10 : Int) (18 : Int)).bind fun x38 =>
  (if (decide (x38 ≤ x5)) = true then some x5 else some (0 : Int)).bind fun x40 =>
  (mulO x5 (31 : Int)).bind fun x46 =>
  (modO (s35 + x46) (2147483647 : Int)).bind fun x48 =>
  some ([x40, x48, (0 : Int)] : List Int)
def S__law_spring : SpecN := fun args C r C' => ∃ (v_script : Sq) (v_turn : Int) (res : (List Int)), args = [tv v_script, tv v_turn] ∧ C = [] ∧ m__law_spring v_script v_turn = some res ∧ r = .lst res ∧ C' = []
abbrev s__law_draw : Stmt := topS 24
abbrev N__law_draw : List Str := ["spring", "many", "digit", "mixed"]
theorem sc__law_draw : FnScope N__law_draw ["spring", "many"] (defScope s__law_draw) := ⟨rfl, rfl, rfl, by decide +kernel, rfl, by decide +kernel, by decide +kernel⟩
def m__law_draw (v_spring : (List Int)) (v_many : Int) : Option (Int × (List Int)) :=
  (L2.atI v_spring (0 : Int)).bind fun x1 =>
  if (decide ((0 : Int) < x1)) = true then
  (L2.atI v_spring (0 : Int)).bind fun x6 =>
  (modO x6 v_many).bind fun x8 =>
  (L2.atI v_spring (0 : Int)).bind fun x12 =>
  (fdivWO x12 v_many).bind fun x14 =>
  (setO v_spring (0 : Int) x14).bind fun l16 =>
  some (x8, l16)
  else
  (L2.atI v_spring (2 : Int)).bind fun x23 =>
  (setO v_spring (2 : Int) (x23 + (1 : Int))).bind fun l25 =>
  (L2.atI l25 (1 : Int)).bind fun x29 =>
  (L2.atI l25 (2 : Int)).bind fun x31 =>
  (mulO (6364137 : Int) x31).bind fun x33 =>
  (powO ((x29 + x33) + (1442695 : Int)) (3 : Int)).bind fun x35 =>
  (modO x35 (2147483647 : Int)).bind fun x37 =>
  (mulO x37 (48271 : Int)).bind fun x44 =>
  (L2.atI l25 (2 : Int)).bind fun x46 =>
  (mulO (11 : Int) x46).bind fun x48 =>
  (powO (x44 + x48) (3 : Int)).bind fun x50 =>
  (modO x50 (2147483629 : Int)).bind fun x52 =>
  (fdivWO x52 (8 : Int)).bind fun x54 =>
  (modO x54 v_many).bind fun x56 =>
  some (x56, l25)
def S__law_draw : SpecV := fun args C r C' => ∃ (p_spring : Addr) (v_spring : (List Int)) (v_many : Int) (res : Int) (w_spring : (List Int)), args = [tv (Ptr.mk p_spring), tv v_many] ∧ C = [(p_spring, .lst v_spring)] ∧ m__law_draw v_spring v_many = some (res, w_spring) ∧ r = tv res ∧ C' = [(p_spring, .lst w_spring)]
def pickS (sp : List Int) (zs : List Str) : Option (Str × List Int) := (m__law_draw sp (zs.length : Int)).bind fun q => if 0 ≤ q.1 ∧ q.1 < 2 ^ 63 then (zs[q.1.toNat]?).bind fun z => some (z, q.2) else none
theorem pickS_some {sp : List Int} {zs : List Str} {r : Str × List Int} (h : pickS sp zs = some r) : ∃ q, m__law_draw sp (zs.length : Int) = some (q, r.2) ∧ 0 ≤ q ∧ q < 2 ^ 63 ∧ zs[q.toNat]? = some r.1 := by
  obtain ⟨q, h1, h2⟩ := bind_some h
  split at h2
  · obtain ⟨z, h3, h4⟩ := bind_some h2
    cases h4
    exact ⟨q.1, h1, by omega, by omega, h3⟩
  · cases h2
def repO (x y z : Str) : Option Str := if (y == z) = false ∧ x.length + (x.length + 1) * z.length ≤ 16777216 then some (Txt.replace x y z) else none
theorem repO_some {x y z r : Str} (h : repO x y z = some r) : r = Txt.replace x y z ∧ (y == z) = false ∧ x.length + (x.length + 1) * z.length ≤ 16777216 := by
  unfold repO at h
  split at h
  · cases h
    exact ⟨rfl, by assumption⟩
  · cases h
abbrev s__law_pick : Stmt := topS 25
abbrev N__law_pick : List Str := ["spring", "some"]
theorem sc__law_pick : FnScope N__law_pick ["spring", "some"] (defScope s__law_pick) := ⟨rfl, rfl, rfl, by decide +kernel, rfl, by decide +kernel, by decide +kernel⟩
def m__law_pick {α : Type} (v_spring : (List Int)) (v_some : (List α)) : Option (α × (List Int)) :=
  (m__law_draw v_spring (v_some.length : Int)).bind fun x1 =>
  (L2.atI v_some x1.1).bind fun x3 =>
  some (x3, x1.2)
def S__law_pick : SpecV := fun args C r C' => ∃ (α : Type) (_ : Rp α) (p_spring : Addr) (v_spring : (List Int)) (v_some : (List α)) (res : α) (w_spring : (List Int)), args = [tv (Ptr.mk p_spring), tv v_some] ∧ C = [(p_spring, .lst v_spring)] ∧ m__law_pick v_spring v_some = some (res, w_spring) ∧ r = tv res ∧ C' = [(p_spring, .lst w_spring)]
abbrev s__law_mixed : Stmt := topS 26
abbrev N__law_mixed : List Str := ["spring", "some", "left", "k"]
theorem sc__law_mixed : FnScope N__law_mixed ["spring", "some"] (defScope s__law_mixed) := ⟨rfl, rfl, rfl, by decide +kernel, rfl, by decide +kernel, by decide +kernel⟩
def m__law_mixed {α : Type} (v_spring : (List Int)) (v_some : (List α)) : Option ((List α) × (List Int)) :=
  (some v_some).bind fun left1 =>
  (rngO 0 (left1.length : Int)).bind fun r5 =>
  (lcSL (fun (s8 : ((List Int) × (List α))) (a7 : Int) => (m__law_draw s8.1 (s8.2.length : Int)).bind fun x11 =>
  (popO s8.2 x11.1).bind fun x13 =>
  some (x13.1, (x11.2, x13.2))) (v_spring, left1) r5).bind fun l15 =>
  some (l15.1, l15.2.1)
def S__law_mixed : SpecN := fun args C r C' => ∃ (α : Type) (_ : Rp α) (p_spring : Addr) (v_spring : (List Int)) (v_some : (List α)) (res : (List α)) (w_spring : (List Int)), args = [tv (Ptr.mk p_spring), tv v_some] ∧ C = [(p_spring, .lst v_spring)] ∧ m__law_mixed v_spring v_some = some (res, w_spring) ∧ r = .lst res ∧ C' = [(p_spring, .lst w_spring)]
abbrev s__law_w_name : Stmt := topS 30
abbrev N__law_w_name : List Str := ["spring", "letters", "told", "k"]
theorem sc__law_w_name : FnScope N__law_w_name ["spring"] (defScope s__law_w_name) := ⟨rfl, rfl, rfl, by decide +kernel, rfl, by decide +kernel, by decide +kernel⟩
def m__law_w_name (v_spring : (List Int)) : Option (Str × (List Int)) :=
  (some (Str.ofString "abcdefghijklmnopqrstuvwxyz0123456789")).bind fun letters1 =>
  (m__law_draw v_spring (26 : Int)).bind fun x4 =>
  (strAt letters1 x4.1).bind fun x6 =>
  (m__law_pick x4.2 ([(0 : Int), (1 : Int), (1 : Int), (2 : Int), (3 : Int), (7 : Int)] : List Int)).bind fun x10 =>
  (rngO 0 x10.1).bind fun r12 =>
  (foldO (fun (s16 : ((List Int) × Str)) (a18 : Int) =>
  (m__law_draw s16.1 (36 : Int)).bind fun x22 =>
  (strAt letters1 x22.1).bind fun x24 =>
  (catS s16.2 x24).bind fun x26 =>
  some (x22.2, x26)) (x10.2, x6) r12).bind fun (s31 : ((List Int) × Str)) =>
  some (s31.2, s31.1)
def S__law_w_name : SpecV := fun args C r C' => ∃ (p_spring : Addr) (v_spring : (List Int)) (res : Str) (w_spring : (List Int)), args = [tv (Ptr.mk p_spring)] ∧ C = [(p_spring, .lst v_spring)] ∧ m__law_w_name v_spring = some (res, w_spring) ∧ r = tv res ∧ C' = [(p_spring, .lst w_spring)]
abbrev s__law_w_names : Stmt := topS 31
abbrev N__law_w_names : List Str := ["spring", "many", "told", "k", "one", "at"]
theorem sc__law_w_names : FnScope N__law_w_names ["spring", "many"] (defScope s__law_w_names) := ⟨rfl, rfl, rfl, by decide +kernel, rfl, by decide +kernel, by decide +kernel⟩
def m__law_w_names (v_spring : (List Int)) (v_many : Int) : Option ((List Str) × (List Int)) :=
  (rngO 0 v_many).bind fun r2 =>
  (foldO (fun (s5 : ((List Int) × (List Str))) (a7 : Int) =>
  (m__law_w_name s5.1).bind fun x11 =>
  (some x11.1).bind fun one13 =>
  (if (!s5.2.isEmpty) = true then (m__law_draw x11.2 (4 : Int)).bind fun x17 =>
  some ((decide (x17.1 = (0 : Int))), x17.2) else some (false, x11.2)).bind fun r19 =>
  ((if r19.1 = true then
  (m__law_pick r19.2 s5.2).bind fun x32 =>
  (cutSO x32.1 none (some (7 : Int))).bind fun x34 =>
  (m__law_pick x32.2 ([(Str.ofString "a"), (Str.ofString "m"), (Str.ofString "z"), (Str.ofString "0"), (Str.ofString "9")] : List Str)).bind fun x36 =>
  (catS x34 x36.1).bind fun x38 =>
  some (x36.2, x38)
  else
  some (r19.2, one13))).bind fun (s28 : ((List Int) × Str)) =>
  (some (0 : Int)).bind fun at47 =>
  (whileO (fun (s50 : (Str × Int)) => some (decide (s50.1 ∈ s5.2))) (fun (s50 : (Str × Int)) =>
  (modO s50.2 (26 : Int)).bind fun x55 =>
  (strAt (Str.ofString "abcdefghijklmnopqrstuvwxyz") x55).bind fun x57 =>
  (fdivWO s50.2 (26 : Int)).bind fun x59 =>
  (strO (x59 + a7)).bind fun x61 =>
  (catS x57 x61).bind fun x63 =>
  (some (s50.2 + (1 : Int))).bind fun at70 =>
  some (x63, at70)) 64 (s28.2, at47)).bind fun (s73 : (Str × Int)) =>
  (appO s5.2 s73.1).bind fun x76 =>
  some (s28.1, x76)) (v_spring, ([] : List Str)) r2).bind fun (s79 : ((List Int) × (List Str))) =>
  some (s79.2, s79.1)
def S__law_w_names : SpecN := fun args C r C' => ∃ (p_spring : Addr) (v_spring : (List Int)) (v_many : Int) (res : (List Str)) (w_spring : (List Int)), args = [tv (Ptr.mk p_spring), tv v_many] ∧ C = [(p_spring, .lst v_spring)] ∧ m__law_w_names v_spring v_many = some (res, w_spring) ∧ r = .lst res ∧ C' = [(p_spring, .lst w_spring)]
abbrev s__law_x_name : Stmt := topS 41
abbrev N__law_x_name : List Str := ["word", "letters", "sign"]
theorem sc__law_x_name : FnScope N__law_x_name ["word"] (defScope s__law_x_name) := ⟨rfl, rfl, rfl, by decide +kernel, rfl, by decide +kernel, by decide +kernel⟩
def m__law_x_name (v_word : Str) : Option Bool :=
  (some (Str.ofString "abcdefghijklmnopqrstuvwxyz")).bind fun letters1 =>
  (lenS v_word).bind fun x4 =>
  (orO (!((decide ((1 : Int) ≤ x4)) && (decide (x4 ≤ (8 : Int))))) ((strAt v_word (0 : Int)).bind fun x6 =>
  (signO x6 letters1).bind fun x8 =>
  some (!x8))).bind fun b10 =>
  if b10 = true then
  some false
  else
  (lcL (fun (_ : Str) => some true) (fun (a21 : Str) => (signO a21 letters1).bind fun x23 =>
  (orO x23 ((signO a21 (Str.ofString "0123456789")).bind fun x25 =>
  some x25)).bind fun b27 =>
  some b27) (v_word.cps.toList.map oneS)).bind fun l37 =>
  some (l37.all id)
def S__law_x_name : SpecV := fun args C r C' => ∃ (v_word : Str) (res : Bool), args = [tv v_word] ∧ C = [] ∧ m__law_x_name v_word = some res ∧ r = tv res ∧ C' = []
abbrev s__law_x_step : Stmt := topS 42
abbrev N__law_x_step : List Str := ["words", "word"]
theorem sc__law_x_step : FnScope N__law_x_step ["words"] (defScope s__law_x_step) := ⟨rfl, rfl, rfl, by decide +kernel, rfl, by decide +kernel, by decide +kernel⟩
def m__law_x_step (v_words : (List Str)) : Option D :=
  (lcL (fun (_ : Str) => some true) (fun (a1 : Str) => (m__law_x_name a1).bind fun x3 =>
  some x3) (cutL v_words (some (1 : Int)) none)).bind fun l11 =>
  if (!(l11.all id)) = true then
  some (AsD.toD (() : Unit))
  else
  (L2.atI v_words (0 : Int)).bind fun x19 =>
  if ((decide (x19 ∈ ([(Str.ofString "turn"), (Str.ofString "put"), (Str.ofString "take")] : List Str))) && (decide ((v_words.length : Int) = (2 : Int)))) = true then
  (L2.atI v_words (0 : Int)).bind fun x24 =>
  (L2.atI v_words (1 : Int)).bind fun x26 =>
  some (AsD.toD ((x24, x26) : (Str × Str)))
  else
  (L2.atI v_words (0 : Int)).bind fun x32 =>
  (andO (decide (x32 = (Str.ofString "eight"))) ((andO (decide ((v_words.length : Int) = (9 : Int))) ((lcL (fun (_ : Str) => some true) (fun (a34 : Str) => some (a34, (1 : Int))) (cutL v_words (some (1 : Int)) none)).bind fun l42 =>
  some (decide (((Dc.mk (dOf l42)).l.length : Int) = (8 : Int))))).bind fun b44 =>
  some b44)).bind fun b48 =>
  if b48 = true then
  some (AsD.toD (((Str.ofString "eight"), (Tp.mk (cutL v_words (some (1 : Int)) none))) : (Str × (Tp Str))))
  else
  some (AsD.toD (() : Unit))
def S__law_x_step : SpecV := fun args C r C' => ∃ (v_words : (List Str)) (res : D), args = [tv v_words] ∧ C = [] ∧ m__law_x_step v_words = some res ∧ r = tv res ∧ C' = []
abbrev s__law_x_read : Stmt := topS 43
abbrev N__law_x_read : List Str := ["text", "lines", "rest", "found", "at", "line", "step"]
theorem sc__law_x_read : FnScope N__law_x_read ["text"] (defScope s__law_x_read) := ⟨rfl, rfl, rfl, by decide +kernel, rfl, by decide +kernel, by decide +kernel⟩
def m__law_x_read (v_text : D) : Option D :=
  if (!(D.isStr v_text)) = true then
  some (AsD.toD ((0 : Int) : Int))
  else
  (D.str? v_text).bind fun x5 =>
  (splitO x5 (Str.ofString "\n")).bind fun x7 =>
  (L2.atI x7 (-(1 : Int))).bind fun x11 =>
  (some (cutL x7 none (some (-(1 : Int))))).bind fun v13 =>
  (foldR (ρ := D) (fun (s18 : (List D)) (a20 : (Int × Str)) =>
  (splitO a20.2 (Str.ofString " ")).bind fun x27 =>
  (m__law_x_step x27).bind fun x29 =>
  if ((decide ((299 : Int) < a20.1)) || (D.isNon x29)) = true then
  some (.error (AsD.toD (a20.1 : Int)))
  else
  (appO s18 x29).bind fun x37 =>
  some (.ok x37)) ([] : List D) (enumL 0 v13)).bind fun r24 => match r24 with
  | .error q49 => some q49
  | .ok s40 =>
  (if (!decide (x11 = (Str.ofString ""))) = true then some (AsD.toD ((v13.length : Int) : Int)) else some (AsD.toD (s40 : (List D)))).bind fun x42 =>
  some x42
def S__law_x_read : SpecV := fun args C r C' => ∃ (t_text : TV) (v_text : D) (res : D), args = [t_text] ∧ C = [] ∧ Dyn t_text v_text ∧ m__law_x_read v_text = some res ∧ r = tv res ∧ C' = []
abbrev s__law_x_asked : Stmt := topS 46
abbrev N__law_x_asked : List Str := ["text", "due", "told"]
theorem sc__law_x_asked : FnScope N__law_x_asked ["text"] (defScope s__law_x_asked) := ⟨rfl, rfl, rfl, by decide +kernel, rfl, by decide +kernel, by decide +kernel⟩
noncomputable def m__law_x_asked (v_text : Str) : Option Bool :=
  (m__law_x_read (AsD.toD (v_text : Str))).bind fun x1 =>
  if (D.isInt x1) = true then
  (D.int? x1).bind fun x6 =>
  (metT (x_read_steps (AsD.toD (v_text : Str))) x6 (AsD.toD (v_text : Str))).bind fun b8 =>
  some b8
  else
  (m_read_steps (AsD.toD (v_text : Str))).bind fun x14 =>
  (m_read_steps (AsD.toD (v_text : Str))).bind fun x18 =>
  (sameO (AsD.toD (([x14, x18] : List (List D)) : (List (List D)))) (AsD.toD (([x1, x1] : List D) : (List D)))).bind fun b20 =>
  if (!b20) = true then
  some false
  else
  (appO x14 (AsD.toD ((Str.ofString "late") : Str))).bind fun x28 =>
  (m_read_steps (AsD.toD (v_text : Str))).bind fun x31 =>
  (m_read_steps (AsD.toD (v_text : Str))).bind fun x33 =>
  (m_steps_text (AsD.toD (x33 : (List D)))).bind fun x35 =>
  (sameO (AsD.toD (([(AsD.toD (x31 : (List D))), (AsD.toD (x35 : Str))] : List D) : (List D))) (AsD.toD (([x1, (AsD.toD (v_text : Str))] : List D) : (List D)))).bind fun b37 =>
  some b37
def S__law_x_asked (P_tab : Addr) : SpecV := fun args C r C' => ∃ (v_text : Str) (res : Bool), args = [tv v_text] ∧ C = [(P_tab, .tab "_law_x_asked.<locals>.<lambda>")] ∧ m__law_x_asked v_text = some res ∧ r = tv res ∧ C' = [(P_tab, .tab "_law_x_asked.<locals>.<lambda>")]
abbrev s__law_loose : Stmt := topS 29
abbrev N__law_loose : List Str := ["spring", "thing", "found", "part", "key"]
theorem sc__law_loose : FnScope N__law_loose ["spring", "thing"] (defScope s__law_loose) := ⟨rfl, rfl, rfl, by decide +kernel, rfl, by decide +kernel, by decide +kernel⟩
def m__law_loose : Nat → List Int → D → Option (D × List Int)
  | 0, _, _ => none
  | n + 1, v_spring, v_thing =>
  if (D.isDct v_thing) = true then
  none
  else
  if (!(D.isLst v_thing || (D.isTup v_thing || false))) = true then
  some (v_thing, v_spring)
  else
  (D.seq? v_thing).bind fun x9 =>
  (lcSL (fun (s12 : (List Int)) (a11 : D) => (m__law_loose n s12 a11).bind fun x15 =>
  some (x15.1, x15.2)) v_spring x9).bind fun l17 =>
  (some l17.1).bind fun found24 =>
  (m__law_draw l17.2 (2 : Int)).bind fun x29 =>
  (if (decide ((0 : Int) < x29.1)) = true then some (AsD.toD (found24 : (List D))) else some (AsD.toD ((Tp.mk found24) : (Tp D)))).bind fun x31 =>
  some (x31, x29.2)
def S__law_loose (n : Nat) : SpecV := fun args C r C' => ∃ (p_spring : Addr) (v_spring : (List Int)) (t_thing : TV) (v_thing : D) (res : D) (w_spring : (List Int)), args = [tv (Ptr.mk p_spring), t_thing] ∧ C = [(p_spring, .lst v_spring)] ∧ Dyn t_thing v_thing ∧ m__law_loose n v_spring v_thing = some (res, w_spring) ∧ r = tv res ∧ C' = [(p_spring, .lst w_spring)]
abbrev s__law_x_bent : Stmt := topS 45
abbrev N__law_x_bent : List Str := ["spring", "text", "lines", "way", "at", "words", "place", "spot"]
theorem sc__law_x_bent : FnScope N__law_x_bent ["spring", "text"] (defScope s__law_x_bent) := ⟨rfl, rfl, rfl, by decide +kernel, rfl, by decide +kernel, by decide +kernel⟩
def m__law_x_bent (v_spring : (List Int)) (v_text : Str) : Option (Str × (List Int)) :=
  (splitO v_text (Str.ofString "\n")).bind fun x1 =>
  (m__law_draw v_spring (11 : Int)).bind fun x4 =>
  (some x4.1).bind fun v6 =>
  (m__law_draw x4.2 (x1.length : Int)).bind fun x11 =>
  (some x11.1).bind fun at13 =>
  (L2.atI x1 at13).bind fun x17 =>
  (splitO x17 (Str.ofString " ")).bind fun x19 =>
  (m__law_draw x11.2 (x19.length : Int)).bind fun x24 =>
  (some x24.1).bind fun place26 =>
  if (decide (v6 = (0 : Int))) = true then
  (popO x1 at13).bind fun x32 =>
  (joinL (Str.ofString "\n") x32.2).bind fun x35 =>
  some (x35, x24.2)
  else
  if (decide (v6 = (1 : Int))) = true then
  (L2.atI x1 at13).bind fun x42 =>
  (m__law_pick x24.2 ([(Str.ofString " "), (Str.ofString "	"), (Str.ofString " a"), (Str.ofString "z")] : List Str)).bind fun x44 =>
  (catS x42 x44.1).bind fun x46 =>
  (setO x1 at13 x46).bind fun l48 =>
  (joinL (Str.ofString "\n") l48).bind fun x54 =>
  some (x54, x44.2)
  else
  if (decide (v6 = (2 : Int))) = true then
  (pickS x24.2 ([Str.ofString " ", Str.ofString ""] : List Str)).bind fun x61 =>
  (L2.atI x1 at13).bind fun x63 =>
  (pickS x61.2 ([Str.ofString "  ", Str.ofString "	", Str.ofString ","] : List Str)).bind fun x65 =>
  (repO x63 (Str.ofString " ") x65.1).bind fun x67 =>
  (catS x61.1 x67).bind fun x69 =>
  (setO x1 at13 x69).bind fun l71 =>
  (joinL (Str.ofString "\n") l71).bind fun x79 =>
  some (x79, x65.2)
  else
  if (decide (v6 < (6 : Int))) = true then
  (mulSO (Str.ofString "a") (9 : Int)).bind fun x86 =>
  (L2.atI x19 place26).bind fun x88 =>
  (catS x88 (Str.ofString "x")).bind fun x90 =>
  (L2.atI x19 place26).bind fun x92 =>
  (cutSO x92 none (some (-(1 : Int)))).bind fun x94 =>
  (L2.atI x19 (-(1 : Int))).bind fun x96 =>
  (m__law_pick x24.2 ([(Str.ofString "A"), (Str.ofString ""), (Str.ofString "a"), (Str.ofString "turn"), (Str.ofString "put"), (Str.ofString "take"), (Str.ofString "eight"), (Str.ofString "9a"), x86, x90, x94, x96] : List Str)).bind fun x98 =>
  (setO x19 place26 x98.1).bind fun l100 =>
  (joinL (Str.ofString " ") l100).bind fun x110 =>
  (setO x1 at13 x110).bind fun l112 =>
  (joinL (Str.ofString "\n") l112).bind fun x116 =>
  some (x116, x98.2)
  else
  if (decide (v6 = (6 : Int))) = true then
  (cutSO v_text none (some (-(1 : Int)))).bind fun x123 =>
  some (x123, x24.2)
  else
  if (decide (v6 = (7 : Int))) = true then
  (m__law_pick x24.2 ([(Str.ofString "\n"), (Str.ofString "a"), (Str.ofString " "), (Str.ofString "turn a")] : List Str)).bind fun x130 =>
  (catS v_text x130.1).bind fun x132 =>
  some (x132, x130.2)
  else
  if (decide (v6 = (8 : Int))) = true then
  (popO x19 place26).bind fun x140 =>
  (joinL (Str.ofString " ") x140.2).bind fun x143 =>
  (setO x1 at13 x143).bind fun l145 =>
  (joinL (Str.ofString "\n") l145).bind fun x149 =>
  some (x149, x24.2)
  else
  if (decide (v6 = (9 : Int))) = true then
  (m__law_mixed x24.2 (cutL x19 (some (1 : Int)) none)).bind fun x156 =>
  (catO (cutL x19 none (some (1 : Int))) x156.1).bind fun x158 =>
  (joinL (Str.ofString " ") x158).bind fun x160 =>
  (setO x1 at13 x160).bind fun l162 =>
  (joinL (Str.ofString "\n") l162).bind fun x168 =>
  some (x168, x156.2)
  else
  (lenS v_text).bind fun x173 =>
  (m__law_draw x24.2 (x173 + (1 : Int))).bind fun x175 =>
  (some x175.1).bind fun spot177 =>
  (cutSO v_text none (some spot177)).bind fun x182 =>
  (m__law_pick x175.2 ([(Str.ofString ""), (Str.ofString "a"), (Str.ofString "0"), (Str.ofString " "), (Str.ofString "\n"), (Str.ofString "-")] : List Str)).bind fun x184 =>
  (catS x182 x184.1).bind fun x186 =>
  (m__law_draw x184.2 (2 : Int)).bind fun x188 =>
  (cutSO v_text (some (spot177 + x188.1)) none).bind fun x190 =>
  (catS x186 x190).bind fun x192 =>
  some (x192, x188.2)
def S__law_x_bent : SpecV := fun args C r C' => ∃ (p_spring : Addr) (v_spring : (List Int)) (v_text : Str) (res : Str) (w_spring : (List Int)), args = [tv (Ptr.mk p_spring), tv v_text] ∧ C = [(p_spring, .lst v_spring)] ∧ m__law_x_bent v_spring v_text = some (res, w_spring) ∧ r = tv res ∧ C' = [(p_spring, .lst w_spring)]
abbrev s_law : Stmt := topS 47
abbrev N_law : List Str := ["script", "turn", "spring", "names", "steps", "k", "word", "text", "own", "kept", "eight", "bad", "thing", "many", "step"]
theorem sc_law : FnScope N_law ["script"] (defScope s_law) := ⟨rfl, rfl, rfl, by decide +kernel, rfl, by decide +kernel, by decide +kernel⟩
noncomputable def m_law (v_script : Sq) : Option Bool :=
  (rngO 0 (5 : Int)).bind fun r1 =>
  (foldO (fun (s4 : Unit) (a6 : Int) =>
  (m__law_spring v_script a6).bind fun x10 =>
  (m__law_w_names x10 (24 : Int)).bind fun x14 =>
  (some x14.1).bind fun v16 =>
  (m__law_pick x14.2 ([(0 : Int), (1 : Int), (4 : Int), (20 : Int)] : List Int)).bind fun x21 =>
  (rngO 0 x21.1).bind fun r23 =>
  (foldO (fun (s27 : ((List Int) × (List D))) (a29 : Int) =>
  (m__law_pick s27.1 ([(Str.ofString "turn"), (Str.ofString "put"), (Str.ofString "take"), (Str.ofString "eight")] : List Str)).bind fun x33 =>
  (some x33.1).bind fun word35 =>
  (if (decide (word35 = (Str.ofString "eight"))) = true then (m__law_mixed x33.2 v16).bind fun x39 =>
  some ((AsD.toD ((Tp.mk (cutL x39.1 none (some (8 : Int)))) : (Tp Str))), x39.2) else (m__law_pick x33.2 v16).bind fun x41 =>
  some ((AsD.toD (x41.1 : Str)), x41.2)).bind fun r43 =>
  (appO s27.2 (AsD.toD ((word35, r43.1) : (Str × D)))).bind fun x51 =>
  some (r43.2, x51)) (x21.2, ([] : List D)) r23).bind fun (s55 : ((List Int) × (List D))) =>
  (lcL (fun (_ : D) => some true) (fun (a58 : D) => (D.seq? a58).bind fun x60 =>
  (L2.atI x60 (0 : Int)).bind fun x62 =>
  (D.seq? a58).bind fun x64 =>
  (L2.atI x64 (0 : Int)).bind fun x66 =>
  (D.str? x66).bind fun x68 =>
  (if (decide (x68 = (Str.ofString "eight"))) = true then (D.seq? a58).bind fun x70 =>
  (L2.atI x70 (1 : Int)).bind fun x72 =>
  (D.seq? x72).bind fun x74 =>
  some x74 else (D.seq? a58).bind fun x76 =>
  (L2.atI x76 (1 : Int)).bind fun x78 =>
  some ([x78] : List D)).bind fun x80 =>
  (catO ([x62] : List D) x80).bind fun x91 =>
  (D.strs? x91).bind fun x93 =>
  (joinL (Str.ofString " ") x93).bind fun x95 =>
  (catS x95 (Str.ofString "\n")).bind fun x97 =>
  some x97) s55.2).bind fun l105 =>
  (joinL (Str.ofString "") l105).bind fun x117 =>
  (m__law_loose 4 s55.1 (AsD.toD (s55.2 : (List D)))).bind fun x121 =>
  (some x121.1).bind fun own123 =>
  (reprO own123).bind fun x127 =>
  (m_steps_text own123).bind fun x130 =>
  (m_steps_text own123).bind fun x132 =>
  (sameO (AsD.toD (([x130, x132] : List Str) : (List Str))) (AsD.toD (([x117, x117] : List Str) : (List Str)))).bind fun b134 =>
  (orO (!b134) ((reprO own123).bind fun x136 =>
  (orO (!decide (x136 = x127)) ((m__law_x_asked x117).bind fun x138 =>
  some (!x138))).bind fun b140 =>
  some b140)).bind fun b144 =>
  (chk (!b144)).bind fun u153 =>
  (rngO 0 (24 : Int)).bind fun r156 =>
  (foldO (fun (s159 : (List Int)) (a161 : Int) =>
  (m__law_x_bent s159 x117).bind fun x165 =>
  (m__law_x_asked x165.1).bind fun x167 =>
  (chk (!(!x167))).bind fun u171 =>
  some x165.2) x121.2 r156).bind fun (s174 : (List Int)) =>
  (some (cutL v16 none (some (8 : Int)))).bind fun eight177 =>
  (repL ([((Str.ofString "take"), (Str.ofString "a"))] : List (Str × Str)) (301 : Int)).bind fun x180 =>
  (some ([(AsD.toD (() : Unit)), (AsD.toD ((0 : Int) : Int)), (AsD.toD ((Str.ofString "") : Str)), (AsD.toD ((Str.ofString "ab") : Str)), (D.dct []), (AsD.toD (true : Bool)), (AsD.toD (([()] : List Unit) : (List Unit))), (AsD.toD (([(Tp.mk ([(Str.ofString "turn")] : List Str))] : List (Tp Str)) : (List (Tp Str)))), (AsD.toD (([((Str.ofString "put"), (Str.ofString "A"))] : List (Str × Str)) : (List (Str × Str)))), (AsD.toD (x180 : (List (Str × Str)))), (AsD.toD (((Str.ofString "turn"), (Str.ofString "a")) : (Str × Str))), (AsD.toD (([((Str.ofString "eight"), (cutL eight177 none (some (7 : Int))))] : List (Str × (List Str))) : (List (Str × (List Str)))))] : List D)).bind fun bad182 =>
  (catO (cutL eight177 none (some (7 : Int))) (cutL eight177 none (some (1 : Int)))).bind fun x186 =>
  (catT (Tp.mk ([(Str.ofString "eight")] : List Str)).l (Tp.mk eight177).l).bind fun x188 =>
  (catO bad182 ([(AsD.toD (([((Str.ofString "eight"), x186)] : List (Str × (List Str))) : (List (Str × (List Str))))), (AsD.toD (([(Tp.mk x188)] : List (Tp Str)) : (List (Tp Str)))), (AsD.toD (([(AsD.toD (((Str.ofString "turn"), (Str.ofString "a")) : (Str × Str))), (AsD.toD (([(Str.ofString "turn")] : List Str) : (List Str)))] : List D) : (List D)))] : List D)).bind fun x190 =>
  (foldO (fun (s195 : Unit) (a197 : D) =>
  (metS (x_steps_text a197) a197).bind fun b202 =>
  (chk (!(!b202))).bind fun u205 =>
  some ()) () x190).bind fun (s208 : Unit) =>
  (foldO (fun (s211 : Unit) (a213 : D) =>
  (metT (x_read_steps a213) (0 : Int) a213).bind fun b217 =>
  (chk (!(!b217))).bind fun u220 =>
  some ()) () ([(AsD.toD (() : Unit)), (AsD.toD ((0 : Int) : Int)), (AsD.toD (true : Bool)), (AsD.toD (([x117] : List Str) : (List Str))), (AsD.toD ((Tp.mk ([x117] : List Str)) : (Tp Str))), (D.dct [])] : List D)).bind fun (s223 : Unit) =>
  some ()) () r1).bind fun (s228 : Unit) =>
  (mulSO (Str.ofString "eight a b c d e f g h\n") (300 : Int)).bind fun x231 =>
  (m_read_steps (AsD.toD (x231 : Str))).bind fun x234 =>
  (orO (!decide ((x234.length : Int) = (300 : Int))) ((catS x231 (Str.ofString "turn x\n")).bind fun x236 =>
  (metT (x_read_steps (AsD.toD (x236 : Str))) (300 : Int) (AsD.toD (x236 : Str))).bind fun b238 =>
  some (!b238))).bind fun b240 =>
  (chk (!b240)).bind fun u247 =>
  (m_steps_text (AsD.toD (([(AsD.toD (((Str.ofString "take"), (Str.ofString "x")) : (Str × Str))), (AsD.toD (([(AsD.toD ((Str.ofString "eight") : Str)), (AsD.toD (([(Str.ofString "h"), (Str.ofString "b"), (Str.ofString "c"), (Str.ofString "d"), (Str.ofString "e"), (Str.ofString "f"), (Str.ofString "g"), (Str.ofString "a")] : List Str) : (List Str)))] : List D) : (List D)))] : List D) : (List D)))).bind fun x250 =>
  (m_read_steps (AsD.toD ((Str.ofString "") : Str))).bind fun x252 =>
  (sameO (AsD.toD (([(AsD.toD (x250 : Str)), (AsD.toD (x252 : (List D)))] : List D) : (List D))) (AsD.toD (([(AsD.toD ((Str.ofString "take x\neight h b c d e f g a\n") : Str)), (AsD.toD (([] : List Str) : (List Str)))] : List D) : (List D)))).bind fun b254 =>
  some b254
def S_law (P_law : Addr) (P__law_x_asked : Addr) : SpecV := fun args C r C' => ∃ (v_script : Sq) (res : Bool), args = [tv v_script] ∧ C = [(P_law, .tab "law.<locals>.<lambda>"), (P__law_x_asked, .tab "_law_x_asked.<locals>.<lambda>")] ∧ m_law v_script = some res ∧ r = tv res ∧ C' = [(P_law, .tab "law.<locals>.<lambda>"), (P__law_x_asked, .tab "_law_x_asked.<locals>.<lambda>")]
abbrev s__law_x_met : Stmt := topS 44
abbrev N__law_x_met : List Str := ["query", "thing", "e"]
theorem sc__law_x_met : FnScope N__law_x_met ["query", "thing"] (defScope s__law_x_met) := ⟨rfl, rfl, rfl, by decide +kernel, rfl, by decide +kernel, by decide +kernel⟩
structure Facts (P : Program) (K : Frag) (mg : Str → Option Value) (base : Heap) where
  n_all : mg "all" = none
  g_HUNDREDS_steps : ∃ t, mg "HUNDREDS_steps" = some (.int (300 : Int) t)
  g_HUNDREDS_texts : ∃ t, mg "HUNDREDS_texts" = some (.int (300 : Int) t)
  g_LETTERS : ∃ t, mg "LETTERS" = some (.str (Str.ofString "abcdefghijklmnopqrstuvwxyz") t)
  g_SIGNS : ∃ t, mg "SIGNS" = some (.str (Str.ofString "abcdefghijklmnopqrstuvwxyz0123456789") t)
  n_dict : mg "dict" = none
  n_enumerate : mg "enumerate" = none
  C_BadSteps : Addr
  E_BadSteps : FX.Txt P K mg C_BadSteps "BadSteps" "steps" "no steps"
  C_BadText : Addr
  E_BadText : FX.Txt2 P K mg C_BadText "BadText" "no such text"
  n_int : mg "int" = none
  n_isinstance : mg "isinstance" = none
  n_len : mg "len" = none
  n_list : mg "list" = none
  n_range : mg "range" = none
  n_repr : mg "repr" = none
  n_str : mg "str" = none
  a_WORDS : Addr
  g_WORDS : mg "WORDS" = some (.ref a_WORDS)
  t_WORDS : SqT K (fun _ => none) a_WORDS (([Str.ofString "turn", Str.ofString "put", Str.ofString "take"] : List Str).map V.str)
  n_tuple : mg "tuple" = none
  f_is_list : Addr
  fd_is_list : FuncData
  F_is_list : Fun K "is_list" "is_list" s_is_list f_is_list fd_is_list
  b_is_list : Binds K fd_is_list ["thing"] []
  g_is_list : mg "is_list" = some (.ref f_is_list)
  f_is_name : Addr
  fd_is_name : FuncData
  F_is_name : Fun K "is_name" "is_name" s_is_name f_is_name fd_is_name
  b_is_name : Binds K fd_is_name ["thing"] []
  g_is_name : mg "is_name" = some (.ref f_is_name)
  f_is_step : Addr
  fd_is_step : FuncData
  F_is_step : Fun K "is_step" "is_step" s_is_step f_is_step fd_is_step
  b_is_step : Binds K fd_is_step ["thing"] []
  g_is_step : mg "is_step" = some (.ref f_is_step)
  f_are_steps : Addr
  fd_are_steps : FuncData
  F_are_steps : Fun K "are_steps" "are_steps" s_are_steps f_are_steps fd_are_steps
  b_are_steps : Binds K fd_are_steps ["thing"] []
  g_are_steps : mg "are_steps" = some (.ref f_are_steps)
  f_line_of : Addr
  fd_line_of : FuncData
  F_line_of : Fun K "line_of" "line_of" s_line_of f_line_of fd_line_of
  b_line_of : Binds K fd_line_of ["words"] []
  g_line_of : mg "line_of" = some (.ref f_line_of)
  f_step_in : Addr
  fd_step_in : FuncData
  F_step_in : Fun K "step_in" "step_in" s_step_in f_step_in fd_step_in
  b_step_in : Binds K fd_step_in ["words"] []
  g_step_in : mg "step_in" = some (.ref f_step_in)
  f_parts_of : Addr
  fd_parts_of : FuncData
  F_parts_of : Fun K "parts_of" "parts_of" s_parts_of f_parts_of fd_parts_of
  b_parts_of : Binds K fd_parts_of ["text"] []
  g_parts_of : mg "parts_of" = some (.ref f_parts_of)
  f_steps_text : Addr
  fd_steps_text : FuncData
  F_steps_text : Fun K "steps_text" "steps_text" s_steps_text f_steps_text fd_steps_text
  b_steps_text : Binds K fd_steps_text ["steps"] []
  g_steps_text : mg "steps_text" = some (.ref f_steps_text)
  kw_steps_text : KwB K fd_steps_text ["steps"]
  f_read_steps : Addr
  fd_read_steps : FuncData
  F_read_steps : Fun K "read_steps" "read_steps" s_read_steps f_read_steps fd_read_steps
  b_read_steps : Binds K fd_read_steps ["text"] []
  g_read_steps : mg "read_steps" = some (.ref f_read_steps)
  kw_read_steps : KwB K fd_read_steps ["text"]
  f__law_spring : Addr
  fd__law_spring : FuncData
  F__law_spring : Fun K "_law_spring" "_law_spring" s__law_spring f__law_spring fd__law_spring
  b__law_spring : Binds K fd__law_spring ["script", "turn"] []
  g__law_spring : mg "_law_spring" = some (.ref f__law_spring)
  f__law_draw : Addr
  fd__law_draw : FuncData
  F__law_draw : Fun K "_law_draw" "_law_draw" s__law_draw f__law_draw fd__law_draw
  b__law_draw : Binds K fd__law_draw ["spring", "many"] []
  g__law_draw : mg "_law_draw" = some (.ref f__law_draw)
  f__law_pick : Addr
  fd__law_pick : FuncData
  F__law_pick : Fun K "_law_pick" "_law_pick" s__law_pick f__law_pick fd__law_pick
  b__law_pick : Binds K fd__law_pick ["spring", "some"] []
  g__law_pick : mg "_law_pick" = some (.ref f__law_pick)
  f__law_mixed : Addr
  fd__law_mixed : FuncData
  F__law_mixed : Fun K "_law_mixed" "_law_mixed" s__law_mixed f__law_mixed fd__law_mixed
  b__law_mixed : Binds K fd__law_mixed ["spring", "some"] []
  g__law_mixed : mg "_law_mixed" = some (.ref f__law_mixed)
  f__law_w_name : Addr
  fd__law_w_name : FuncData
  F__law_w_name : Fun K "_law_w_name" "_law_w_name" s__law_w_name f__law_w_name fd__law_w_name
  b__law_w_name : Binds K fd__law_w_name ["spring"] []
  g__law_w_name : mg "_law_w_name" = some (.ref f__law_w_name)
  f__law_w_names : Addr
  fd__law_w_names : FuncData
  F__law_w_names : Fun K "_law_w_names" "_law_w_names" s__law_w_names f__law_w_names fd__law_w_names
  b__law_w_names : Binds K fd__law_w_names ["spring", "many"] []
  g__law_w_names : mg "_law_w_names" = some (.ref f__law_w_names)
  f__law_x_name : Addr
  fd__law_x_name : FuncData
  F__law_x_name : Fun K "_law_x_name" "_law_x_name" s__law_x_name f__law_x_name fd__law_x_name
  b__law_x_name : Binds K fd__law_x_name ["word"] []
  g__law_x_name : mg "_law_x_name" = some (.ref f__law_x_name)
  f__law_x_step : Addr
  fd__law_x_step : FuncData
  F__law_x_step : Fun K "_law_x_step" "_law_x_step" s__law_x_step f__law_x_step fd__law_x_step
  b__law_x_step : Binds K fd__law_x_step ["words"] []
  g__law_x_step : mg "_law_x_step" = some (.ref f__law_x_step)
  f__law_x_read : Addr
  fd__law_x_read : FuncData
  F__law_x_read : Fun K "_law_x_read" "_law_x_read" s__law_x_read f__law_x_read fd__law_x_read
  b__law_x_read : Binds K fd__law_x_read ["text"] []
  g__law_x_read : mg "_law_x_read" = some (.ref f__law_x_read)
  f__law_loose : Addr
  fd__law_loose : FuncData
  F__law_loose : Fun K "_law_loose" "_law_loose" s__law_loose f__law_loose fd__law_loose
  b__law_loose : Binds K fd__law_loose ["spring", "thing"] []
  g__law_loose : mg "_law_loose" = some (.ref f__law_loose)
  f__law_x_asked : Addr
  fd__law_x_asked : FuncData
  F__law_x_asked : Fun K "_law_x_asked" "_law_x_asked" s__law_x_asked f__law_x_asked fd__law_x_asked
  b__law_x_asked : Binds K fd__law_x_asked ["text"] []
  g__law_x_asked : mg "_law_x_asked" = some (.ref f__law_x_asked)
  c__law_x_asked : Addr
  P__law_x_asked : Addr
  TB__law_x_asked : LamX.TabB base mg c__law_x_asked P__law_x_asked
  cd__law_x_asked : codeAt K f__law_x_asked = some (.ref c__law_x_asked)
  f_law : Addr
  fd_law : FuncData
  F_law : Fun K "law" "law" s_law f_law fd_law
  b_law : Binds K fd_law ["script"] []
  g_law : mg "law" = some (.ref f_law)
  c_law : Addr
  P_law : Addr
  TB_law : LamX.TabB base mg c_law P_law
  cd_law : codeAt K f_law = some (.ref c_law)
  f__law_x_bent : Addr
  fd__law_x_bent : FuncData
  F__law_x_bent : Fun K "_law_x_bent" "_law_x_bent" s__law_x_bent f__law_x_bent fd__law_x_bent
  b__law_x_bent : Binds K fd__law_x_bent ["spring", "text"] []
  g__law_x_bent : mg "_law_x_bent" = some (.ref f__law_x_bent)
  f__law_same : Addr
  fd__law_same : FuncData
  F__law_same : Fun K "_law_same" "_law_same" s__law_same f__law_same fd__law_same
  b__law_same : Binds K fd__law_same ["found", "due"] []
  g__law_same : mg "_law_same" = some (.ref f__law_same)
  f__law_very : Addr
  fd__law_very : FuncData
  F__law_very : Fun K "_law_very" "_law_very" s__law_very f__law_very fd__law_very
  b__law_very : Binds K fd__law_very ["kept", "thing"] []
  g__law_very : mg "_law_very" = some (.ref f__law_very)
  f__law_x_met : Addr
  fd__law_x_met : FuncData
  F__law_x_met : Fun K "_law_x_met" "_law_x_met" s__law_x_met f__law_x_met fd__law_x_met
  b__law_x_met : Binds K fd__law_x_met ["query", "thing"] []
  g__law_x_met : mg "_law_x_met" = some (.ref f__law_x_met)
  zsame : Z__law_same K mg
  ex_tt : PySem.W.exmOne K (.ref C_BadText) (.ref C_BadText) = some true
  ex_ts : PySem.W.exmOne K (.ref C_BadSteps) (.ref C_BadText) = some false
  ex_ss : PySem.W.exmOne K (.ref C_BadSteps) (.ref C_BadSteps) = some true
end K59
set_option Elab.async false
set_option linter.all false
set_option maxRecDepth 100000
set_option maxHeartbeats 2000000
set_option autoImplicit false
namespace T
open PySem PySem.Spec PyProof.Rows L2
open PySem.W (Frag TotalLe dataLe keyToks keyToksAll sort_pairwise sortLe_total)
/-! ### sorts by data: unlike things have unlike signs -/
class Inj (α : Type) [Dat α] : Prop where
  inj : ∀ {x y : α} {l m : List (Int ⊕ List Nat)}, keyToks (Dat.enc x) ++ l = keyToks (Dat.enc y) ++ m → x = y ∧ l = m
instance : Inj Int := ⟨fun {x y l m} h => by
  have h : (Sum.inl x : Int ⊕ List Nat) :: l = Sum.inl y :: m := by
    have e : ∀ z : Int, keyToks (Dat.enc z) = [Sum.inl z] := fun z => by show keyToks (.int z) = _; rw [keyToks]
    rwa [e, e] at h
  injection h with h1 h2
  injection h1 with h1
  exact ⟨h1, h2⟩⟩
instance : Inj Str := ⟨fun {x y l m} h => by
  have h : (Sum.inr x.cps.toList : Int ⊕ List Nat) :: l = Sum.inr y.cps.toList :: m := by
    have e : ∀ z : Str, keyToks (Dat.enc z) = [Sum.inr z.cps.toList] := fun z => by show keyToks (.str z) = _; rw [keyToks]
    rwa [e, e] at h
  injection h with h1 h2
  injection h1 with h1
  exact ⟨PySem.W.str_of_cps h1, h2⟩⟩
theorem toks_inj {α : Type} [Dat α] [Inj α] : ∀ (xs ys : List α) (l m : List (Int ⊕ List Nat)), keyToksAll (xs.map Dat.enc) ++ l = keyToksAll (ys.map Dat.enc) ++ m → xs = ys ∧ l = m
  | [], [], l, m, h => by
    rw [List.map_nil, keyToksAll] at h
    exact ⟨rfl, (List.cons.inj h).2⟩
  | [], y :: ys, l, m, h => by
    rw [List.map_nil, List.map_cons, keyToksAll, keyToksAll] at h
    have := (List.cons.inj h).1
    injection this with this
    exact absurd this (by decide)
  | x :: xs, [], l, m, h => by
    rw [List.map_nil, List.map_cons, keyToksAll, keyToksAll] at h
    have := (List.cons.inj h).1
    injection this with this
    exact absurd this (by decide)
  | x :: xs, y :: ys, l, m, h => by
    rw [List.map_cons, List.map_cons, keyToksAll, keyToksAll, List.cons_append, List.cons_append, List.append_assoc, List.append_assoc] at h
    obtain ⟨e1, e2⟩ := Inj.inj (List.cons.inj h).2
    obtain ⟨e3, e4⟩ := toks_inj xs ys l m e2
    rw [e1, e3]
    exact ⟨rfl, e4⟩
instance {α : Type} [Dat α] [Inj α] : Inj (List α) := ⟨fun {x y l m} h => by
  have e : ∀ z : List α, keyToks (Dat.enc z) = keyToksAll (z.map Dat.enc) := fun z => by show keyToks (.list _) = _; rw [keyToks]
  rw [e, e] at h
  exact toks_inj _ _ _ _ h⟩
instance {α : Type} [Dat α] [Inj α] : Inj (Tp α) := ⟨fun {x y l m} h => by
  have e : ∀ z : Tp α, keyToks (Dat.enc z) = keyToksAll (z.l.map Dat.enc) := fun z => by show keyToks (.tuple _) = _; rw [keyToks]
  rw [e, e] at h
  obtain ⟨e1, e2⟩ := toks_inj _ _ _ _ h
  cases x; cases y
  exact ⟨congrArg Tp.mk e1, e2⟩⟩
/-! ### the words of the mirrors, run -/
theorem foldO_inv {α σ : Type} {f : σ → α → Option σ} (I : List α → σ → Prop) : ∀ (xs pre : List α) (s : σ), I pre s →
    (∀ p a s, (∃ q, pre ++ xs = p ++ a :: q) → I p s → ∃ s', f s a = some s' ∧ I (p ++ [a]) s') → ∃ r, foldO f s xs = some r ∧ I (pre ++ xs) r
  | [], pre, s, h, _ => ⟨s, rfl, by rwa [List.append_nil]⟩
  | a :: xs, pre, s, h, hs => by
    obtain ⟨s', e, h'⟩ := hs pre a s ⟨xs, rfl⟩ h
    obtain ⟨r, e2, h2⟩ := foldO_inv I xs (pre ++ [a]) s' h' fun p b s hp hI => hs p b s (by rwa [List.append_assoc, List.singleton_append] at hp) hI
    refine ⟨r, ?_, by rwa [List.append_assoc, List.singleton_append] at h2⟩
    show (f s a).bind _ = _
    rw [e]
    exact e2
/-- each turn done -/
theorem foldO_ok {α σ : Type} {f : σ → α → Option σ} (I : List α → σ → Prop) {xs : List α} {s : σ} (h0 : I [] s)
    (hs : ∀ p a s, (∃ q, xs = p ++ a :: q) → I p s → ∃ s', f s a = some s' ∧ I (p ++ [a]) s') : ∃ r, foldO f s xs = some r ∧ I xs r := by
  have := foldO_inv (f := f) I xs [] s h0 (by simpa using hs)
  simpa using this
theorem lcO_run {α β : Type} {t : α → Option Bool} {e : α → Option β} {p : α → Bool} {g : α → β} : ∀ (xs : List α), (∀ a ∈ xs, t a = some (p a)) → (∀ a ∈ xs, p a = true → e a = some (g a)) → lcO t e xs = some ((xs.filter p).map g)
  | [], _, _ => rfl
  | a :: xs, ht, he => by
    have ih := lcO_run xs (fun b hb => ht b (List.mem_cons_of_mem _ hb)) (fun b hb => he b (List.mem_cons_of_mem _ hb))
    unfold lcO
    rw [ht a List.mem_cons_self]
    cases hp : p a with
    | true =>
      rw [List.filter_cons_of_pos hp, List.map_cons, ← Option.bind_some (f := fun l => some (g a :: l)), ← ih]
      simp [he a List.mem_cons_self hp]
      try rfl
    | false =>
      rw [List.filter_cons_of_neg (by rw [hp]; exact Bool.false_ne_true), ← ih]
      simp
theorem lcL_pure {α β : Type} {t : α → Option Bool} {e : α → Option β} {p : α → Bool} {g : α → β} {xs : List α} (ht : ∀ a ∈ xs, t a = some (p a)) (he : ∀ a ∈ xs, p a = true → e a = some (g a)) (hl : xs.length ≤ 1000000) : lcL t e xs = some ((xs.filter p).map g) := by
  unfold lcL
  rw [lcO_run xs ht he]
  show lim _ = _
  unfold lim
  rw [if_pos]
  have := List.length_filter_le p xs
  rw [List.length_map, sizeLine_eq]
  omega
theorem mem_rng {a lo hi : Int} : a ∈ rng lo hi ↔ lo ≤ a ∧ a < hi := by
  unfold rng
  constructor
  · intro h
    obtain ⟨i, hi, rfl⟩ := List.mem_map.mp h
    have := List.mem_range.mp hi
    omega
  · intro h
    refine List.mem_map.mpr ⟨(a - lo).toNat, List.mem_range.mpr (by omega), by omega⟩
theorem rngO_small {lo hi : Int} (h1 : -1000000 ≤ lo) (h2 : lo ≤ 1000000) (h3 : -1000000 ≤ hi) (h4 : hi ≤ 1000000) : rngO lo hi = some (rng lo hi) := by
  unfold rngO
  rw [if_pos (by omega)]
theorem dput_keys {κ α : Type} [DecidableEq κ] {kvs : List (κ × α)} {k : κ} {v : α} : (dput kvs k v).map (·.1) = if k ∈ kvs.map (·.1) then kvs.map (·.1) else kvs.map (·.1) ++ [k] := by
  unfold dput
  by_cases h : k ∈ kvs.map (·.1)
  · have h2 : (kvs.any fun kv => decide (kv.1 = k)) = true := by
      obtain ⟨kv, h1, h2⟩ := List.mem_map.mp h
      exact List.any_eq_true.mpr ⟨kv, h1, decide_eq_true h2⟩
    rw [if_pos h2, if_pos h, List.map_map]
    refine List.map_congr_left fun kv _ => ?_
    show (if kv.1 = k then (kv.1, v) else kv).1 = kv.1
    split <;> rfl
  · have h2 : ¬ (kvs.any fun kv => decide (kv.1 = k)) = true := fun z => by
      obtain ⟨kv, h1, h2⟩ := List.any_eq_true.mp z
      exact h (List.mem_map.mpr ⟨kv, h1, of_decide_eq_true h2⟩)
    rw [if_neg h2, if_neg h, List.map_append]
    rfl
theorem dput_length {κ α : Type} [DecidableEq κ] {kvs : List (κ × α)} {k : κ} {v : α} : (dput kvs k v).length ≤ kvs.length + 1 := by
  have := congrArg List.length (dput_keys (kvs := kvs) (k := k) (v := v))
  split at this <;> simp at this <;> omega
end T
set_option Elab.async false
set_option linter.all false
set_option maxRecDepth 100000
set_option maxHeartbeats 4000000
set_option autoImplicit false
namespace K59
open PySem PySem.Spec PyProof.Rows L2 T
/-! ### draws -/
theorem mulO_l {i j : Int} (h1 : -(2 ^ 64) < i) (h2 : i < 2 ^ 64) : mulO i j = some (i * j) := if_pos (.inl ⟨h1, h2⟩)
theorem mulO_r {i j : Int} (h1 : -(2 ^ 64) < j) (h2 : j < 2 ^ 64) : mulO i j = some (i * j) := if_pos (.inr ⟨h1, h2⟩)
theorem modO_p {i j : Int} (h : 0 < j) : modO i j = some (i % j) := if_pos h
theorem fdivWO_p {i j : Int} (h : 0 < j) (h2 : j.natAbs < 2 ^ 200) : fdivWO i j = some (i / j) := if_pos (wide_div h h2 (by decide) (by decide))
theorem powO_p {i j : Int} (h : 0 ≤ j) (h2 : j ≤ 1000000) (h3 : i.natAbs < 2 ^ 64) : powO i j = some (i ^ j.toNat) := if_pos ⟨h, h2, h3⟩
/-- a spring that was drawn from at most k times without its great cell -/
def Spr (s : List Int) (k : Int) : Prop := ∃ a b c, s = [a, b, c] ∧ 0 ≤ a ∧ 0 ≤ b ∧ b < 2147483647 ∧ 0 ≤ c ∧ c ≤ k
theorem Spr.mono {s : List Int} {k n : Int} (h : Spr s k) (hk : k ≤ n) : Spr s n := by
  obtain ⟨a, b, c, e, h1, h2, h3, h4, h5⟩ := h
  exact ⟨a, b, c, e, h1, h2, h3, h4, by omega⟩
theorem spring_ok (sc : Sq) {t : Int} (h0 : 0 ≤ t) (h1 : t < 5) : ∃ s, m__law_spring sc t = some s ∧ Spr s 0 := by
  obtain ⟨cell, e1⟩ : ∃ cell, (if (decide (t < (sc.l.length : Int))) = true then (L2.atI sc.l t).bind fun x1 =>
      some x1 else (mulO (7 : Int) t).bind fun x3 =>
      some (x3 + (sc.l.length : Int))) = some cell := by
    by_cases h : t < (sc.l.length : Int)
    · rw [if_pos (decide_eq_true h)]
      unfold L2.atI L2.ixN
      rw [if_pos h0, if_pos h, Option.bind_some, List.getElem?_eq_getElem (by omega)]
      exact ⟨_, rfl⟩
    · rw [if_neg (by simpa using h), mulO_l (by decide) (by decide)]
      exact ⟨_, rfl⟩
  obtain ⟨mix, e2, _⟩ := foldO_ok (f := fun (s20 : Int) (a22 : (Int × Int)) =>
    (mulO s20 (69069 : Int)).bind fun x26 =>
    (mulO (5 : Int) a22.1).bind fun x28 =>
    (modO (((x26 + a22.2) + x28) + (1 : Int)) (2147483629 : Int)).bind fun x30 =>
    some x30) (xs := enumL 0 (cutL sc.l none (some (63 : Int)))) (s := 1009 + 97 * t) (fun _ _ => True) trivial (by
      intro p a s _ _
      exact ⟨_, by rw [mulO_r (by decide) (by decide), Option.bind_some, mulO_l (by decide) (by decide), Option.bind_some, modO_p (by decide), Option.bind_some], trivial⟩)
  refine ⟨[if 1000000000000000000 ≤ cell then cell else 0, (mix + cell * 31) % 2147483647, 0], ?_, ⟨_, _, _, rfl, ?_, Int.emod_nonneg _ (by decide), Int.emod_lt_of_pos _ (by decide), by decide, by decide⟩⟩
  · unfold m__law_spring
    rw [e1, Option.bind_some, mulO_l (by decide) (by decide), Option.bind_some, Option.bind_some, e2, Option.bind_some, powO_p (by decide) (by decide) (by decide), Option.bind_some]
    have e3 : (10 : Int) ^ (18 : Int).toNat = 1000000000000000000 := by decide
    rw [e3]
    by_cases h : (1000000000000000000 : Int) ≤ cell
    · rw [if_pos (decide_eq_true h), if_pos h, Option.bind_some, mulO_r (by decide) (by decide), Option.bind_some, modO_p (by decide)]
      rfl
    · rw [if_neg (by simpa using h), if_neg h, Option.bind_some, mulO_r (by decide) (by decide), Option.bind_some, modO_p (by decide)]
      rfl
  · split <;> omega
theorem draw_ok {s : List Int} {k many : Int} (hs : Spr s k) (hk : k ≤ 1000000) (hm : 0 < many) (hm2 : many.natAbs < 2 ^ 200) : ∃ d s', m__law_draw s many = some (d, s') ∧ 0 ≤ d ∧ d < many ∧ Spr s' (k + 1) := by
  obtain ⟨a, b, c, rfl, ha, hb, hb2, hc, hck⟩ := hs
  unfold m__law_draw
  have g0 : L2.atI [a, b, c] (0 : Int) = some a := rfl
  have g2 : L2.atI [a, b, c] (2 : Int) = some c := rfl
  have s0 : ∀ x, setO [a, b, c] (0 : Int) x = some [x, b, c] := fun _ => rfl
  have s2 : ∀ x, setO [a, b, c] (2 : Int) x = some [a, b, x] := fun _ => rfl
  rw [g0, Option.bind_some]
  by_cases h : 0 < a
  · rw [if_pos (decide_eq_true h), Option.bind_some, modO_p hm, Option.bind_some, Option.bind_some, fdivWO_p hm hm2, Option.bind_some, s0, Option.bind_some]
    exact ⟨_, _, rfl, Int.emod_nonneg _ (by omega), Int.emod_lt_of_pos _ hm, _, _, _, rfl, Int.ediv_nonneg ha (by omega), hb, hb2, hc, by omega⟩
  · have g1' : L2.atI [a, b, c + 1] (1 : Int) = some b := rfl
    have g2' : L2.atI [a, b, c + 1] (2 : Int) = some (c + 1) := rfl
    rw [if_neg (by simpa using h), g2, Option.bind_some, s2, Option.bind_some, g1', Option.bind_some, g2', Option.bind_some, mulO_l (by decide) (by decide), Option.bind_some, powO_p (by decide) (by decide) (by omega), Option.bind_some, modO_p (by decide), Option.bind_some]
    have m1 := Int.emod_nonneg ((b + 6364137 * (c + 1) + 1442695) ^ (3 : Int).toNat) (show (2147483647 : Int) ≠ 0 by decide)
    have m2 := Int.emod_lt_of_pos ((b + 6364137 * (c + 1) + 1442695) ^ (3 : Int).toNat) (show (0 : Int) < 2147483647 by decide)
    generalize (b + 6364137 * (c + 1) + 1442695) ^ (3 : Int).toNat % 2147483647 = mixed at m1 m2 ⊢
    rw [mulO_r (by decide) (by decide), Option.bind_some, Option.bind_some, mulO_l (by decide) (by decide), Option.bind_some, powO_p (by decide) (by decide) (by omega), Option.bind_some, modO_p (by decide), Option.bind_some, fdivWO_p (by decide) (by decide), Option.bind_some, modO_p hm, Option.bind_some]
    exact ⟨_, _, rfl, Int.emod_nonneg _ (by omega), Int.emod_lt_of_pos _ hm, _, _, _, rfl, ha, hb, hb2, by omega, by omega⟩
theorem pick_ok {α : Type} {s : List Int} {k : Int} {xs : List α} (hs : Spr s k) (hk : k ≤ 1000000) (h0 : 0 < xs.length) (h1 : xs.length < 1000000) : ∃ x s', m__law_pick s xs = some (x, s') ∧ x ∈ xs ∧ Spr s' (k + 1) := by
  obtain ⟨d, s', e, d0, d1, hs'⟩ := draw_ok (many := (xs.length : Int)) hs hk (by omega) (by omega)
  unfold m__law_pick
  rw [e, Option.bind_some]
  have e2 : L2.atI xs d = xs[d.toNat]? := by
    unfold L2.atI L2.ixN
    rw [if_pos d0, if_pos d1]
    rfl
  have hlt : d.toNat < xs.length := by omega
  refine ⟨xs[d.toNat], s', ?_, List.getElem_mem hlt, hs'⟩
  show (L2.atI xs d).bind _ = _
  rw [e2, List.getElem?_eq_getElem hlt]
  rfl
theorem atI_nat {α : Type} {xs : List α} {d : Int} (h0 : 0 ≤ d) (h1 : d < xs.length) : L2.atI xs d = xs[d.toNat]? := by
  unfold L2.atI L2.ixN
  rw [if_pos h0, if_pos h1]
  rfl
theorem foldO_unit {α : Type} {f : Unit → α → Option Unit} : ∀ (xs : List α), (∀ a ∈ xs, f () a = some ()) → foldO f () xs = some ()
  | [], _ => rfl
  | x :: xs, h => by
    show (f () x).bind _ = _
    rw [h x List.mem_cons_self, Option.bind_some]
    exact foldO_unit xs fun a ha => h a (List.mem_cons_of_mem _ ha)
theorem pickS_ok {s : List Int} {k : Int} {zs : List Str} (hs : Spr s k) (hk : k ≤ 1000000) (h0 : 0 < zs.length) (h1 : zs.length < 1000000) : ∃ x s', pickS s zs = some (x, s') ∧ x ∈ zs ∧ Spr s' (k + 1) := by
  obtain ⟨d, s', e, d0, d1, hs'⟩ := draw_ok (many := (zs.length : Int)) hs hk (by omega) (by omega)
  have hlt : d.toNat < zs.length := by omega
  refine ⟨zs[d.toNat], s', ?_, List.getElem_mem hlt, hs'⟩
  unfold pickS
  rw [e, Option.bind_some]
  show (if 0 ≤ d ∧ d < 2 ^ 63 then _ else _) = _
  rw [if_pos ⟨d0, by omega⟩]
  show (zs[d.toNat]?).bind _ = _
  rw [List.getElem?_eq_getElem hlt]
  rfl
theorem perm_erase {α : Type} : ∀ {l : List α} {i : Nat} (h : i < l.length), (l[i] :: l.eraseIdx i).Perm l
  | x :: l, 0, _ => .refl _
  | x :: l, i + 1, h => by
    have h' : i < l.length := by rw [List.length_cons] at h; omega
    show (l[i] :: x :: l.eraseIdx i).Perm (x :: l)
    exact (List.Perm.swap _ _ _).trans ((perm_erase h').cons x)
/-- some things in a drawn order -/
theorem mix_ok {α : Type} : ∀ (r : List Int) {left : List α} {s : List Int} {k : Int}, Spr s k → k + r.length ≤ 1000000 → r.length = left.length → left.length < 1000000 → ∃ ys s', lcS (fun (s8 : ((List Int) × (List α))) (a7 : Int) => (m__law_draw s8.1 (s8.2.length : Int)).bind fun x11 =>
    (popO s8.2 x11.1).bind fun x13 =>
    some (x13.1, (x11.2, x13.2))) (s, left) r = some (ys, (s', [])) ∧ ys.Perm left ∧ Spr s' (k + r.length)
  | [], left, s, k, hs, hk, hl, _ => by
    have : left = [] := List.eq_nil_of_length_eq_zero hl.symm
    subst this
    exact ⟨[], s, rfl, .refl _, hs.mono (by simp)⟩
  | x :: r, left, s, k, hs, hk, hl, hz => by
    rw [List.length_cons] at hk hl
    obtain ⟨d, s1, e, d0, d1, hs1⟩ := draw_ok (many := (left.length : Int)) hs (by omega) (by omega) (by omega)
    have hlt : d.toNat < left.length := by omega
    have ep : popO left d = some (left[d.toNat], left.eraseIdx d.toNat) := by
      unfold popO
      rw [if_pos ⟨d0, by omega⟩, List.getElem?_eq_getElem hlt]
      rfl
    have hl2 : r.length = (left.eraseIdx d.toNat).length := by rw [List.length_eraseIdx_of_lt hlt]; omega
    obtain ⟨ys, s2, e2, hp, hs2⟩ := mix_ok r (left := left.eraseIdx d.toNat) hs1 (by omega) hl2 (by omega)
    refine ⟨left[d.toNat] :: ys, s2, ?_, (hp.cons _).trans (perm_erase hlt), hs2.mono (by rw [List.length_cons]; omega)⟩
    show ((m__law_draw s (left.length : Int)).bind _).bind _ = _
    rw [e, Option.bind_some]
    show ((popO left d).bind _).bind _ = _
    rw [ep, Option.bind_some, Option.bind_some]
    show (lcS _ (s1, left.eraseIdx d.toNat) r).bind _ = _
    rw [e2]
    rfl
theorem mixed_ok {α : Type} {s : List Int} {k : Int} {xs : List α} (hs : Spr s k) (hk : k + xs.length ≤ 1000000) (hz : xs.length < 1000000) : ∃ ys s', m__law_mixed s xs = some (ys, s') ∧ ys.Perm xs ∧ Spr s' (k + xs.length) := by
  have hr : (rng 0 (xs.length : Int)).length = xs.length := by rw [rng_length]; omega
  obtain ⟨ys, s', e, hp, hs'⟩ := mix_ok (rng 0 (xs.length : Int)) hs (by omega) hr hz
  refine ⟨ys, s', ?_, hp, by rw [hr] at hs'; exact hs'⟩
  unfold m__law_mixed
  rw [Option.bind_some, rngO_small (by omega) (by omega) (by omega) (by omega), Option.bind_some]
  unfold lcSL
  rw [e, Option.bind_some, if_pos (by have := hp.length_eq; show ys.length ≤ _; rw [sizeLine_eq]; omega), Option.bind_some]
end K59
set_option Elab.async false
set_option linter.all false
set_option maxRecDepth 100000
set_option maxHeartbeats 2000000
set_option autoImplicit false
namespace T
open PySem PySem.Spec PyProof.Rows L2
end T
namespace T
end T
set_option Elab.async false
set_option linter.all false
set_option maxRecDepth 100000
set_option maxHeartbeats 4000000
set_option autoImplicit false
namespace K59
open PySem PySem.Spec PyProof.Rows L2 T
/-! ### names -/
def LET : List Nat := (Str.ofString "abcdefghijklmnopqrstuvwxyz").cps.toList
def DIG : List Nat := (Str.ofString "0123456789").cps.toList
def SIG : List Nat := (Str.ofString "abcdefghijklmnopqrstuvwxyz0123456789").cps.toList
theorem sig_eq : SIG = LET ++ DIG := by decide +kernel
def nameB (w : Str) : Bool := match w.cps.toList with
  | [] => false
  | c :: cs => decide (cs.length ≤ 7) && (decide (c ∈ LET) && (c :: cs).all fun x => decide (x ∈ SIG))
theorem nameB_nil {w : Str} (h : w.cps.toList = []) : nameB w = false := by unfold nameB; rw [h]
theorem nameB_cons {w : Str} {c : Nat} {cs : List Nat} (h : w.cps.toList = c :: cs) : nameB w = (decide (cs.length ≤ 7) && (decide (c ∈ LET) && (c :: cs).all fun x => decide (x ∈ SIG))) := by unfold nameB; rw [h]
theorem sign_one (c : Nat) (z : Str) : signO (oneS c) z = some (decide (c ∈ z.cps.toList)) := rfl
theorem len_list (w : Str) : w.length = w.cps.toList.length := rfl
theorem lenS_ok {w : Str} (hz : w.length ≤ 1000000) : lenS w = some (w.length : Int) := if_pos (by rw [sizeLine_eq]; omega)
theorem strAt0 {w : Str} {c : Nat} {cs : List Nat} (hz : w.length ≤ 1000000) (h : w.cps.toList = c :: cs) : T.strAt w (0 : Int) = some (oneS c) := by
  unfold T.strAt
  rw [if_pos (by rw [sizeLine_eq]; omega), h]
  have : L2.atI (c :: cs) (0 : Int) = some c := by
    rw [atI_nat (by decide) (by rw [List.length_cons]; omega)]
    rfl
  rw [this]
  rfl
theorem lcL_all1 {α β : Type} {e : α → Option β} {g : α → β} {xs : List α} (he : ∀ a ∈ xs, e a = some (g a)) (hl : xs.length ≤ 1000000) : lcL (fun _ => some true) e xs = some (xs.map g) := by
  rw [lcL_pure (p := fun _ => true) (g := g) (fun _ _ => rfl) (fun a ha _ => he a ha) hl, List.filter_eq_self.mpr (fun _ _ => rfl)]
theorem all_map_id {α : Type} (f : α → Bool) (xs : List α) : (xs.map f).all id = xs.all f := by
  induction xs with
  | nil => rfl
  | cons x xs ih => rw [List.map_cons, List.all_cons, List.all_cons, ih]; rfl
theorem signs_ok (Z : Str) (l : List Nat) (hl : l.length ≤ 1000000) {e : Str → Option Bool} {p : Nat → Bool} (he : ∀ c, e (oneS c) = some (p c)) : ∃ l40, lcL (fun (_ : Str) => some true) e (l.map oneS) = some l40 ∧ l40.all id = l.all p := by
  refine ⟨(l.map oneS).map fun w => match w.cps.toList with | [c] => p c | _ => false, lcL_all1 (fun a ha => ?_) (by rw [List.length_map]; exact hl), ?_⟩
  · obtain ⟨c, _, rfl⟩ := List.mem_map.mp ha
    exact he c
  · rw [all_map_id, List.all_map]
    rfl
theorem is_name_str {w : Str} (hz : w.length ≤ 1000000) : m_is_name (.str w) = some (nameB w) := by
  unfold m_is_name
  have e1 : D.isStr (.str w) = true := rfl
  have e2 : D.str? (.str w) = some w := rfl
  rw [e1, e2, Option.bind_some, lenS_ok hz, Option.bind_some]
  show ((some (!((decide ((1 : Int) ≤ (w.length : Int))) && (decide ((w.length : Int) ≤ (8 : Int)))))).bind _) = _
  rw [Option.bind_some]
  cases h : w.cps.toList with
  | nil =>
    rw [nameB_nil h]
    have h0 : w.length = 0 := by rw [len_list, h]; rfl
    rw [if_pos (by rw [h0]; decide)]
  | cons c cs =>
    rw [nameB_cons h]
    have hl : w.length = cs.length + 1 := by rw [len_list, h]; rfl
    by_cases h7 : cs.length ≤ 7
    · rw [if_neg (by rw [hl]; simp; omega), Option.bind_some, strAt0 hz h, Option.bind_some, sign_one, Option.bind_some]
      rw [decide_eq_true h7, Bool.true_and]
      show (if (!decide (c ∈ LET)) = true then _ else _) = _
      by_cases hc : c ∈ LET
      · rw [if_neg (by rw [decide_eq_true hc]; decide), Option.bind_some, decide_eq_true hc, Bool.true_and]
        obtain ⟨l40, e3, e4⟩ := signs_ok w (c :: cs) (by rw [List.length_cons]; omega) (e := fun (a30 : Str) => (signO a30 (Str.ofString "abcdefghijklmnopqrstuvwxyz0123456789")).bind fun x32 => some x32) (p := fun x => decide (x ∈ SIG)) (fun c => rfl)
        rw [h, e3, Option.bind_some, e4]
      · rw [if_pos (by rw [decide_eq_false hc]; rfl), decide_eq_false hc]
        rfl
    · rw [if_pos (by rw [hl]; simp; omega), decide_eq_false h7]
      rfl
theorem x_name_ok {w : Str} (hz : w.length ≤ 1000000) : m__law_x_name w = some (nameB w) := by
  unfold m__law_x_name
  rw [Option.bind_some, lenS_ok hz, Option.bind_some]
  cases h : w.cps.toList with
  | nil =>
    rw [nameB_nil h]
    have h0 : w.length = 0 := by rw [len_list, h]; rfl
    rw [h0]
    rfl
  | cons c cs =>
    rw [nameB_cons h]
    have hl : w.length = cs.length + 1 := by rw [len_list, h]; rfl
    by_cases h7 : cs.length ≤ 7
    · have e0 : (!((decide ((1 : Int) ≤ (w.length : Int))) && (decide ((w.length : Int) ≤ (8 : Int))))) = false := by rw [hl]; simp; omega
      rw [e0, strAt0 hz h, Option.bind_some, sign_one, Option.bind_some]
      rw [decide_eq_true h7, Bool.true_and]
      show (if (!decide (c ∈ LET)) = true then _ else _) = _
      by_cases hc : c ∈ LET
      · rw [if_neg (by rw [decide_eq_true hc]; decide), decide_eq_true hc, Bool.true_and]
        obtain ⟨l40, e3, e4⟩ := signs_ok w (c :: cs) (by rw [List.length_cons]; omega) (e := fun (a21 : Str) => (signO a21 (Str.ofString "abcdefghijklmnopqrstuvwxyz")).bind fun x23 => (orO x23 ((signO a21 (Str.ofString "0123456789")).bind fun x25 => some x25)).bind fun b27 => some b27) (p := fun x => decide (x ∈ SIG)) (fun c => by
          show (orO (decide (c ∈ LET)) (some (decide (c ∈ DIG)))).bind (fun b => some b) = _
          rw [sig_eq]
          by_cases h1 : c ∈ LET
          · rw [decide_eq_true h1, decide_eq_true (List.mem_append_left _ h1)]; rfl
          · rw [decide_eq_false h1]
            show some (decide (c ∈ DIG)) = _
            by_cases h2 : c ∈ DIG
            · rw [decide_eq_true h2, decide_eq_true (List.mem_append_right _ h2)]
            · rw [decide_eq_false h2, decide_eq_false (fun z => (List.mem_append.mp z).elim h1 h2)])
        rw [e3, Option.bind_some, e4]
      · rw [if_pos (by rw [decide_eq_false hc]; rfl), decide_eq_false hc]
        rfl
    · have e0 : (!((decide ((1 : Int) ≤ (w.length : Int))) && (decide ((w.length : Int) ≤ (8 : Int))))) = true := by rw [hl]; simp; omega
      rw [e0, decide_eq_false h7]
      rfl
theorem nameB_len {w : Str} (h : nameB w = true) : 1 ≤ w.length ∧ w.length ≤ 8 := by
  unfold nameB at h
  rw [len_list]
  cases e : w.cps.toList with
  | nil => rw [e] at h; cases h
  | cons c cs =>
    rw [e] at h
    simp only [Bool.and_eq_true, decide_eq_true_eq] at h
    rw [List.length_cons]
    omega
end K59
set_option Elab.async false
set_option linter.all false
set_option maxRecDepth 100000
set_option maxHeartbeats 4000000
set_option autoImplicit false
namespace K59
open PySem PySem.Spec PyProof.Rows L2 T
/-! ### unlike words -/
def ddup {κ : Type} [DecidableEq κ] (acc : List κ) (l : List κ) : List κ := l.foldl (fun acc k => if k ∈ acc then acc else acc ++ [k]) acc
theorem ddup_len {κ : Type} [DecidableEq κ] : ∀ (l acc : List κ), acc.Nodup → (ddup acc l).length ≤ acc.length + l.length ∧ ((ddup acc l).length = acc.length + l.length ↔ (acc ++ l).Nodup)
  | [], acc, h => ⟨by simp [ddup], by simpa [ddup] using h⟩
  | k :: l, acc, h => by
    show (ddup (if k ∈ acc then acc else acc ++ [k]) l).length ≤ _ ∧ ((ddup (if k ∈ acc then acc else acc ++ [k]) l).length = _ ↔ _)
    by_cases hk : k ∈ acc
    · rw [if_pos hk]
      obtain ⟨h1, _⟩ := ddup_len l acc h
      rw [List.length_cons]
      refine ⟨by omega, fun e => by omega, fun z => ?_⟩
      have := (List.nodup_append.mp z).2.2 k hk k List.mem_cons_self
      exact absurd rfl this
    · rw [if_neg hk]
      have hn : (acc ++ [k]).Nodup := List.nodup_append.mpr ⟨h, by simp, fun a ha b hb => by obtain rfl := List.mem_singleton.mp hb; exact fun e => hk (e ▸ ha)⟩
      obtain ⟨h1, h2⟩ := ddup_len l (acc ++ [k]) hn
      rw [List.length_append, List.length_singleton] at h1 h2
      rw [List.length_cons]
      refine ⟨by omega, ?_⟩
      rw [show acc.length + (l.length + 1) = acc.length + 1 + l.length by omega, h2, List.append_assoc]
      rfl
theorem dOf_keys {κ α : Type} [DecidableEq κ] : ∀ (xs acc : List (κ × α)), (xs.foldl (fun acc p => dput acc p.1 p.2) acc).map (·.1) = ddup (acc.map (·.1)) (xs.map (·.1))
  | [], acc => rfl
  | x :: xs, acc => by
    rw [List.foldl_cons, dOf_keys xs, dput_keys, List.map_cons]
    rfl
theorem dcO_keys : ∀ (ws : List Str) (acc : List (Str × Bool)), acc.length + ws.length ≤ 1000 → ∃ r, dcO (fun (_ : D) => some true) (fun (a125 : D) => (D.str? a125).bind fun x127 => some x127) (fun (a125 : D) => some true) acc (ws.map D.str) = some r ∧ r.map (·.1) = ddup (acc.map (·.1)) ws
  | [], acc, _ => ⟨acc, rfl, rfl⟩
  | w :: ws, acc, h => by
    rw [List.length_cons] at h
    have hl := dput_length (kvs := acc) (k := w) (v := true)
    obtain ⟨r, h1, h2⟩ := dcO_keys ws (dput acc w true) (by omega)
    refine ⟨r, ?_, ?_⟩
    · show ((putO acc w true).bind fun acc => dcO _ _ _ acc (ws.map D.str)) = _
      have : putO acc w true = some (dput acc w true) := by
        unfold putO
        rw [if_pos (by rw [sizeLine_eq]; omega)]
      rw [this, Option.bind_some]
      exact h1
    · rw [h2, dput_keys]
      rfl
theorem dcO_eight {ws : List Str} (h : ws.length = 8) : ∃ r, dcO (fun (_ : D) => some true) (fun (a125 : D) => (D.str? a125).bind fun x127 => some x127) (fun (a125 : D) => some true) [] (ws.map D.str) = some r ∧ decide (((Dc.mk r).l.length : Int) = (8 : Int)) = decide ws.Nodup := by
  obtain ⟨r, h1, h2⟩ := dcO_keys ws [] (by rw [h]; decide)
  refine ⟨r, h1, ?_⟩
  have e : r.length = (ddup [] ws).length := by
    have := congrArg List.length h2
    rw [List.length_map] at this
    exact this
  obtain ⟨h3, h4⟩ := ddup_len ws [] .nil
  rw [List.length_nil, Nat.zero_add, List.nil_append] at h4
  show decide ((r.length : Int) = (8 : Int)) = _
  rw [e]
  apply decide_eq_decide.mpr
  rw [← h4, h]
  omega
/-! ### is_step -/
abbrev W3 : List Str := [Str.ofString "turn", Str.ofString "put", Str.ofString "take"]
theorem is_list_seq {d : D} {xs : List D} (h : d.seq? = some xs) : m_is_list d = some true := by
  unfold m_is_list
  cases d <;> cases h <;> rfl
theorem is_list_no {d : D} (h : d.seq? = none) : m_is_list d = some false := by
  unfold m_is_list
  cases d <;> first | rfl | cases h
theorem is_step_no {d : D} (h : d.seq? = none) : m_is_step d = some false := by
  unfold m_is_step
  rw [is_list_no h]
  rfl
theorem is_step_len {d : D} {xs : List D} (h : d.seq? = some xs) (hl : xs.length ≠ 2) : m_is_step d = some false := by
  unfold m_is_step
  rw [is_list_seq h, Option.bind_some]
  have e : (!decide ((xs.length : Int) = (2 : Int))) = true := by rw [Bool.not_eq_true', decide_eq_false_iff_not]; omega
  rw [h, Option.bind_some, e]
  rfl
theorem is_step_word {d x1 : D} {w : Str} (h : d.seq? = some [.str w, x1]) (hw : w ∈ W3) : m_is_step d = (m_is_name x1).bind fun b => some b := by
  unfold m_is_step
  rw [is_list_seq h, Option.bind_some, h, Option.bind_some]
  have a0 : L2.atI [D.str w, x1] (0 : Int) = some (.str w) := rfl
  have a1 : L2.atI [D.str w, x1] (1 : Int) = some x1 := rfl
  have e2 : D.str? (.str w) = some w := rfl
  have e3 : D.isStr (.str w) = true := rfl
  simp only [Option.bind_some, a0, a1, e2, e3]
  show (if decide (w ∈ W3) = true then _ else _) = _
  rw [if_pos (decide_eq_true hw)]
theorem is_step_none {d x1 : D} {w : Str} (h : d.seq? = some [.str w, x1]) (hw : w ∉ W3) (he : w ≠ Str.ofString "eight") : m_is_step d = some false := by
  unfold m_is_step
  rw [is_list_seq h, Option.bind_some, h, Option.bind_some]
  have a0 : L2.atI [D.str w, x1] (0 : Int) = some (.str w) := rfl
  have e2 : D.str? (.str w) = some w := rfl
  have e3 : D.isStr (.str w) = true := rfl
  simp only [Option.bind_some, a0, e2, e3]
  show (if decide (w ∈ W3) = true then _ else _) = _
  rw [if_neg (by simpa using hw), decide_eq_false he]
  rfl
theorem eight_no : Str.ofString "eight" ∉ W3 := by decide +kernel
theorem is_step_eight {d x1 : D} (h : d.seq? = some [.str (Str.ofString "eight"), x1]) : m_is_step d = match x1.seq? with
    | none => some false
    | some ys => if ys.length ≠ 8 then some false else
      (lcL (fun (_ : D) => some true) (fun (a98 : D) => (m_is_name a98).bind fun x100 => some x100) ys).bind fun l108 => if (!(l108.all id)) = true then some false else
      (dcO (fun (_ : D) => some true) (fun (a125 : D) => (D.str? a125).bind fun x127 => some x127) (fun (a125 : D) => some true) [] ys).bind fun d135 => some (decide (((Dc.mk d135).l.length : Int) = (8 : Int))) := by
  unfold m_is_step
  rw [is_list_seq h, Option.bind_some, h, Option.bind_some]
  have a0 : L2.atI [D.str (Str.ofString "eight"), x1] (0 : Int) = some (.str (Str.ofString "eight")) := rfl
  have a1 : L2.atI [D.str (Str.ofString "eight"), x1] (1 : Int) = some x1 := rfl
  have e2 : D.str? (.str (Str.ofString "eight")) = some (Str.ofString "eight") := rfl
  have e3 : D.isStr (.str (Str.ofString "eight")) = true := rfl
  have e9 : decide (Str.ofString "eight" ∈ ([Str.ofString "turn", Str.ofString "put", Str.ofString "take"] : List Str)) = false := decide_eq_false eight_no
  simp only [Option.bind_some, a0, a1, e2, e3, e9]
  cases hx : x1.seq? with
  | none =>
    rw [is_list_no hx]
    rfl
  | some ys =>
    rw [is_list_seq hx]
    simp only [Option.bind_some]
    have key : ∀ {A B : Option Bool}, ys.length = 8 → (if ys.length ≠ 8 then A else B) = B := fun h8 => if_neg (fun z => z h8)
    have key2 : ∀ {A B : Option Bool}, ys.length ≠ 8 → (if ys.length ≠ 8 then A else B) = A := fun h8 => if_pos h8
    by_cases h8 : ys.length = 8
    · have e8 : (decide ((ys.length : Int) = (8 : Int))) = true := by rw [decide_eq_true_eq]; omega
      simp only [e8, Bool.not_true]
      exact (key h8).symm
    · have e8 : (decide ((ys.length : Int) = (8 : Int))) = false := by rw [decide_eq_false_iff_not]; omega
      simp only [e8, Bool.not_false]
      exact (key2 h8).symm
theorem is_step_names {d x1 : D} {ws : List Str} (h : d.seq? = some [.str (Str.ofString "eight"), x1]) (hx : x1.seq? = some (ws.map D.str)) (hl : ws.length = 8) (hz : ∀ w ∈ ws, w.length ≤ 1000000) : m_is_step d = some (ws.all nameB && decide ws.Nodup) := by
  rw [is_step_eight h, hx]
  show (if (ws.map D.str).length ≠ 8 then _ else _) = _
  rw [if_neg (by rw [List.length_map, hl]; exact fun z => z rfl)]
  have e1 : lcL (fun (_ : D) => some true) (fun (a98 : D) => (m_is_name a98).bind fun x100 => some x100) (ws.map D.str) = some ((ws.map D.str).map fun d => match d with | .str w => nameB w | _ => false) := lcL_all1 (fun a ha => by
    obtain ⟨w, hw, rfl⟩ := List.mem_map.mp ha
    rw [is_name_str (hz w hw)]
    rfl) (by rw [List.length_map, hl]; decide)
  rw [e1, Option.bind_some, all_map_id, List.all_map]
  have e2 : (ws.all ((fun d => match d with | D.str w => nameB w | _ => false) ∘ D.str)) = ws.all nameB := rfl
  rw [e2]
  cases hn : ws.all nameB with
  | false => rfl
  | true =>
    obtain ⟨r, h1, h2⟩ := dcO_eight hl
    rw [if_neg (by decide), h1, Option.bind_some, h2]
    rfl
end K59
set_option Elab.async false
set_option linter.all false
set_option maxRecDepth 100000
set_option maxHeartbeats 4000000
set_option autoImplicit false
namespace K59
open PySem PySem.Spec PyProof.Rows L2 T
/-! ### texts and their parts -/
abbrev SP : Str := Str.ofString " "
abbrev NL : Str := Str.ofString "\n"
theorem sp_len : SP.length = 1 := by decide +kernel
theorem nl_len : NL.length = 1 := by decide +kernel
theorem join_len (y : Str) : ∀ (ps : List Str) (p : Str), (Str.join y (p :: ps)).length + y.length = ((p :: ps).map (·.length)).sum + (ps.length + 1) * y.length
  | [], p => by
    show p.length + y.length = _
    simp
  | q :: ps, p => by
    have ih := join_len y ps q
    show (p ++ y ++ Str.join y (q :: ps)).length + y.length = _
    rw [Str.length_append, Str.length_append, List.map_cons, List.sum_cons, List.length_cons]
    have e : (ps.length + 1 + 1) * y.length = (ps.length + 1) * y.length + y.length := Nat.succ_mul _ _
    omega
theorem tjoin (y : Str) (ps : List Str) : Txt.join y ps = Str.join y ps := StrLaws.glued_eq_join y ps
theorem split_cons (x y : Str) : ∃ p ps, Txt.split x y = p :: ps := by
  have := split_pos x y
  cases h : Txt.split x y with
  | nil => rw [h] at this; simp at this
  | cons p ps => exact ⟨p, ps, rfl⟩
theorem split_len {x y : Str} (hy : y.length = 1) : ((Txt.split x y).map (·.length)).sum + (Txt.split x y).length = x.length + 1 := by
  obtain ⟨p, ps, e⟩ := split_cons x y
  have h := join_len y ps p
  rw [← e, StrLaws.join_split, hy] at h
  rw [e] at h ⊢
  rw [List.length_cons]
  omega
theorem mem_sum_le : ∀ {ps : List Str} {p : Str}, p ∈ ps → p.length ≤ (ps.map (·.length)).sum
  | q :: ps, p, h => by
    rw [List.map_cons, List.sum_cons]
    rcases List.mem_cons.mp h with rfl | h
    · omega
    · have := mem_sum_le h; omega
theorem split_mem {x y p : Str} (hy : y.length = 1) (h : p ∈ Txt.split x y) : p.length ≤ x.length := by
  have h1 := split_len (x := x) hy
  have h2 := mem_sum_le h
  have h3 := split_pos x y
  omega
theorem split_count {x y : Str} (hy : y.length = 1) : (Txt.split x y).length ≤ x.length + 1 := by
  have h1 := split_len (x := x) hy
  omega
theorem splitO_ok {x y : Str} (hy : y.length = 1) (hx : x.length ≤ 1000000) : splitO x y = some (Txt.split x y) := if_pos ⟨by rw [hy]; rfl, by rw [sizeLine_eq]; omega⟩
theorem joinL_ok {y : Str} {ps : List Str} (h : (ps.map (·.length)).sum + ps.length * y.length ≤ 16777216) : joinL y ps = some (Str.join y ps) := by
  rw [joinL, if_pos h, tjoin]
/-! ### the step of words -/
theorem cut1 {α : Type} (x : α) (r : List α) : cutL (x :: r) (some (1 : Int)) none = r := by
  unfold cutL
  have e : HT.sIx (x :: r).length 0 (some (1 : Int)) = 1 := by
    have := HT.sIx_nat (x :: r).length 0 1
    rw [List.length_cons] at this ⊢
    exact this.trans (by omega)
  rw [e, HT.sIx_none]
  show r.take _ = r
  exact List.take_of_length_le (by rw [List.length_cons]; omega)
theorem at0 {α : Type} (w : α) (r : List α) : L2.atI (w :: r) (0 : Int) = some w := by
  rw [atI_nat (by decide) (by rw [List.length_cons]; omega)]
  rfl
theorem seq_tup (xs : List D) : D.seq? (.tup xs) = some xs := rfl
def stW : List Str → D
  | [] => .non
  | w :: r => if w = Str.ofString "eight" then (if r.length = 8 ∧ r.all nameB = true ∧ r.Nodup then .tup [.str w, .tup (r.map D.str)] else .non)
    else if w ∈ W3 ∧ r.length = 1 ∧ r.all nameB = true then .tup ((w :: r).map D.str) else .non
abbrev E8 : Str := Str.ofString "eight"
theorem stW_cons (w : Str) (r : List Str) : stW (w :: r) = if w = E8 then (if r.length = 8 ∧ r.all nameB = true ∧ r.Nodup then .tup [.str w, .tup (r.map D.str)] else .non)
    else if w ∈ W3 ∧ r.length = 1 ∧ r.all nameB = true then .tup ((w :: r).map D.str) else .non := rfl
theorem stW_e1 {r : List Str} (h : r.length = 8 ∧ r.all nameB = true ∧ r.Nodup) : stW (E8 :: r) = .tup [.str E8, .tup (r.map D.str)] := by
  rw [stW_cons, if_pos rfl, if_pos h]
theorem stW_e0 {r : List Str} (h : ¬ (r.length = 8 ∧ r.all nameB = true ∧ r.Nodup)) : stW (E8 :: r) = .non := by
  rw [stW_cons, if_pos rfl, if_neg h]
theorem stW_w1 {w : Str} {r : List Str} (he : w ≠ E8) (h : w ∈ W3 ∧ r.length = 1 ∧ r.all nameB = true) : stW (w :: r) = .tup ((w :: r).map D.str) := by
  rw [stW_cons, if_neg he, if_pos h]
theorem stW_w0 {w : Str} {r : List Str} (he : w ≠ E8) (h : ¬ (w ∈ W3 ∧ r.length = 1 ∧ r.all nameB = true)) : stW (w :: r) = .non := by
  rw [stW_cons, if_neg he, if_neg h]
theorem step_in_ok {w : Str} {r : List Str} (hz : ∀ x ∈ w :: r, x.length ≤ 1000000) : m_step_in (w :: r) = some (stW (w :: r)) := by
  unfold m_step_in
  have a0 : L2.atI (w :: r) (0 : Int) = some w := at0 w r
  rw [a0, Option.bind_some, cut1]
  have hr : ∀ x ∈ r, x.length ≤ 1000000 := fun x h => hz x (List.mem_cons_of_mem _ h)
  have tail : ∀ (d : D) (b : Bool), m_is_step d = some b → ((m_is_step d).bind fun x11 => (if x11 = true then some d else some (AsD.toD (() : Unit))).bind fun x13 => some x13) = some (if b = true then d else .non) := fun d b e => by
    rw [e, Option.bind_some]
    cases b <;> rfl
  by_cases he : w = Str.ofString "eight"
  · rw [if_pos (decide_eq_true he), Option.bind_some]
    have ed : (AsD.toD (((Str.ofString "eight"), (Tp.mk r)) : (Str × (Tp Str)))) = D.tup [.str (Str.ofString "eight"), .tup (r.map D.str)] := rfl
    rw [ed]
    subst he
    by_cases hl : r.length = 8
    · rw [tail _ _ (is_step_names (seq_tup _) (seq_tup _) hl hr)]
      by_cases hc : r.all nameB = true ∧ r.Nodup
      · rw [stW_e1 ⟨hl, hc⟩, hc.1, decide_eq_true hc.2]
        rfl
      · rw [stW_e0 (fun z => hc z.2), if_neg (by rw [Bool.and_eq_true, decide_eq_true_eq]; exact hc)]
    · have : m_is_step (D.tup [.str (Str.ofString "eight"), .tup (r.map D.str)]) = some false := by
        rw [is_step_eight (seq_tup _), seq_tup]
        have key : ∀ {A B : Option Bool}, (if (r.map D.str).length ≠ 8 then A else B) = A := if_pos (by rw [List.length_map]; exact hl)
        exact key
      rw [tail _ _ this, stW_e0 (fun z => hl z.1)]
      rfl
  · have e3 : (decide (w = Str.ofString "eight")) = false := decide_eq_false he
    rw [e3, if_neg (by decide), Option.bind_some]
    have ed : (AsD.toD ((Tp.mk (w :: r)) : (Tp Str))) = D.tup ((w :: r).map D.str) := rfl
    rw [ed]
    by_cases hl : r.length = 1
    · obtain ⟨x, rfl⟩ := List.length_eq_one_iff.mp hl
      by_cases hw : w ∈ W3
      · have : m_is_step (D.tup (([w, x] : List Str).map D.str)) = some (nameB x) := by
          rw [is_step_word (x1 := .str x) (w := w) rfl hw, is_name_str (hr x List.mem_cons_self)]
          rfl
        rw [tail _ _ this]
        cases hn : nameB x with
        | true => rw [if_pos rfl, stW_w1 he ⟨hw, hl, by simp [hn]⟩]
        | false => rw [if_neg (by decide), stW_w0 he (fun z => by have := z.2.2; simp [hn] at this)]
      · rw [tail _ _ (is_step_none (x1 := .str x) (w := w) rfl hw he), stW_w0 he (fun z => hw z.1)]
        rfl
    · rw [tail _ _ (is_step_len (seq_tup _) (by rw [List.length_map, List.length_cons]; omega)), stW_w0 he (fun z => hl z.2.1)]
      rfl
theorem dist_ok (r : List Str) : decide (((Dc.mk (dOf (r.map fun w => (w, (1 : Int))))).l.length : Int) = (8 : Int)) = decide ((ddup [] r).length = 8) := by
  have e : (dOf (r.map fun w => (w, (1 : Int)))).length = (ddup [] r).length := by
    have := congrArg List.length (dOf_keys (r.map fun w => (w, (1 : Int))) [])
    rw [List.length_map] at this
    unfold dOf
    rw [this, List.map_map]
    simp [Function.comp_def]
  show decide (((dOf (r.map fun w => (w, (1 : Int)))).length : Int) = (8 : Int)) = _
  rw [e]
  apply decide_eq_decide.mpr
  omega
theorem x_step_ok {w : Str} {r : List Str} (hz : ∀ x ∈ w :: r, x.length ≤ 1000000) (hn : r.length ≤ 1000000) : m__law_x_step (w :: r) = some (stW (w :: r)) := by
  unfold m__law_x_step
  rw [cut1]
  have hr : ∀ x ∈ r, x.length ≤ 1000000 := fun x h => hz x (List.mem_cons_of_mem _ h)
  have e1 : lcL (fun (_ : Str) => some true) (fun (a1 : Str) => (m__law_x_name a1).bind fun x3 => some x3) r = some (r.map nameB) := lcL_all1 (fun a ha => by rw [x_name_ok (hr a ha)]; rfl) hn
  rw [e1, Option.bind_some, all_map_id]
  by_cases ha : r.all nameB = true
  · rw [if_neg (by rw [ha]; decide)]
    have a0 : L2.atI (w :: r) (0 : Int) = some w := at0 w r
    rw [a0, Option.bind_some]
    have e2 : lcL (fun (_ : Str) => some true) (fun (a34 : Str) => some (a34, (1 : Int))) r = some (r.map fun w => (w, (1 : Int))) := lcL_all1 (fun _ _ => rfl) hn
    by_cases hw : w ∈ W3 ∧ r.length = 1
    · obtain ⟨x, rfl⟩ := List.length_eq_one_iff.mp hw.2
      have he : w ≠ Str.ofString "eight" := fun z => eight_no (z ▸ hw.1)
      rw [if_pos (by rw [Bool.and_eq_true, decide_eq_true_eq, decide_eq_true_eq]; exact ⟨hw.1, rfl⟩), Option.bind_some, stW_w1 he ⟨hw.1, hw.2, ha⟩]
      rfl
    · rw [if_neg (by
        rw [Bool.and_eq_true, decide_eq_true_eq, decide_eq_true_eq, List.length_cons]
        exact fun z => hw ⟨z.1, by have := z.2; omega⟩), Option.bind_some, e2, Option.bind_some, dist_ok]
      by_cases he : w = Str.ofString "eight"
      · rw [decide_eq_true he]
        subst he
        by_cases hl : r.length = 8
        · have el : (decide (((Str.ofString "eight" :: r).length : Int) = (9 : Int))) = true := by rw [decide_eq_true_eq, List.length_cons]; omega
          rw [el]
          obtain ⟨h1, h2⟩ := ddup_len r [] .nil
          rw [List.length_nil, Nat.zero_add, List.nil_append, hl] at h2
          show (if decide ((ddup [] r).length = 8) = true then _ else _) = _
          by_cases hd : r.Nodup
          · rw [if_pos (decide_eq_true (h2.mpr hd)), stW_e1 ⟨hl, ha, hd⟩]
            rfl
          · rw [if_neg (by rw [decide_eq_true_eq]; exact fun z => hd (h2.mp z)), stW_e0 (fun z => hd z.2.2)]
            rfl
        · have el : (decide (((Str.ofString "eight" :: r).length : Int) = (9 : Int))) = false := by rw [decide_eq_false_iff_not, List.length_cons]; omega
          rw [el, stW_e0 (fun z => hl z.1)]
          rfl
      · rw [decide_eq_false he, stW_w0 he (fun z => hw ⟨z.1, z.2.1⟩)]
        rfl
  · rw [if_pos (by rw [Bool.not_eq_true] at ha; rw [ha]; rfl)]
    by_cases he : w = Str.ofString "eight"
    · subst he
      rw [stW_e0 (fun z => ha z.2.1)]
      rfl
    · rw [stW_w0 he (fun z => ha z.2.2)]
      rfl
end K59
set_option Elab.async false
set_option linter.all false
set_option maxRecDepth 100000
set_option maxHeartbeats 4000000
set_option autoImplicit false
namespace K59
open PySem PySem.Spec PyProof.Rows L2 T
/-! ### readers -/
def lnW (l : Str) : D := stW (Txt.split l SP)
def rdL : Nat → List D → List Str → Except Nat (List D)
  | _, acc, [] => .ok acc
  | n, acc, l :: ls => if 300 ≤ n ∨ (lnW l).isNon = true then .error n else rdL (n + 1) (acc ++ [lnW l]) ls
theorem words_ok {l : Str} (hl : l.length ≤ 900000) : ∃ w r, Txt.split l SP = w :: r ∧ (∀ x ∈ w :: r, x.length ≤ 1000000) ∧ r.length ≤ 1000000 := by
  obtain ⟨w, r, e⟩ := split_cons l SP
  have hc := split_count (x := l) sp_len
  refine ⟨w, r, e, fun x hx => ?_, ?_⟩
  · have := split_mem (x := l) (p := x) sp_len (e ▸ hx)
    omega
  · rw [e, List.length_cons] at hc
    omega
theorem st_in {l : Str} (hl : l.length ≤ 900000) : m_step_in (Txt.split l SP) = some (lnW l) := by
  obtain ⟨w, r, e, h1, h2⟩ := words_ok hl
  unfold lnW
  rw [e, step_in_ok h1]
theorem st_x {l : Str} (hl : l.length ≤ 900000) : m__law_x_step (Txt.split l SP) = some (lnW l) := by
  obtain ⟨w, r, e, h1, h2⟩ := words_ok hl
  unfold lnW
  rw [e, x_step_ok h1 h2]
theorem app_ok {α : Type} {xs : List α} {x : α} (h : xs.length ≤ 1000000) : appO xs x = some (xs ++ [x]) := if_pos (by rw [sizeLine_eq]; omega)
theorem or_eq {n : Nat} {d : D} : ((decide ((299 : Int) < (n : Int))) || (D.isNon d)) = true ↔ (300 ≤ n ∨ d.isNon = true) := by
  rw [Bool.or_eq_true, decide_eq_true_eq]
  constructor
  · exact fun z => z.imp (fun q => by omega) id
  · exact fun z => z.imp (fun q => by omega) id
theorem or_eq2 {n : Nat} {d : D} : ((decide ((300 : Int) ≤ (n : Int))) || (D.isNon d)) = true ↔ (300 ≤ n ∨ d.isNon = true) := by
  rw [Bool.or_eq_true, decide_eq_true_eq]
  constructor
  · exact fun z => z.imp (fun q => by omega) id
  · exact fun z => z.imp (fun q => by omega) id
theorem x_fold : ∀ (ls : List Str) (n : Nat) (acc : List D), (∀ l ∈ ls, l.length ≤ 900000) → acc.length + ls.length ≤ 1000000 →
    foldR (ρ := D) (fun (s18 : (List D)) (a20 : (Int × Str)) =>
  (splitO a20.2 (Str.ofString " ")).bind fun x27 =>
  (m__law_x_step x27).bind fun x29 =>
  if ((decide ((299 : Int) < a20.1)) || (D.isNon x29)) = true then
  some (.error (AsD.toD (a20.1 : Int)))
  else
  (appO s18 x29).bind fun x37 =>
  some (.ok x37)) acc (enumL n ls) = some (match rdL n acc ls with | .error k => .error (.int (k : Int)) | .ok s => .ok s)
  | [], _, _, _, _ => rfl
  | l :: ls, n, acc, hl, hn => by
    have h0 := hl l List.mem_cons_self
    rw [List.length_cons] at hn
    show Option.bind (Option.bind (splitO l (Str.ofString " ")) _) _ = _
    rw [splitO_ok sp_len (by omega), Option.bind_some, st_x h0, Option.bind_some]
    by_cases hc : 300 ≤ n ∨ (lnW l).isNon = true
    · rw [if_pos (or_eq.mpr hc), Option.bind_some]
      have : rdL n acc (l :: ls) = .error n := if_pos hc
      rw [this]
      rfl
    · rw [if_neg (fun z => hc (or_eq.mp z)), app_ok (by omega), Option.bind_some, Option.bind_some]
      have : rdL n acc (l :: ls) = rdL (n + 1) (acc ++ [lnW l]) ls := if_neg hc
      rw [this]
      exact x_fold ls (n + 1) _ (fun a ha => hl a (List.mem_cons_of_mem _ ha)) (by rw [List.length_append, List.length_singleton]; omega)
theorem p_fold : ∀ (ls : List Str) (n : Nat) (acc : List D), (∀ l ∈ ls, l.length ≤ 900000) → acc.length + ls.length ≤ 1000000 →
    foldO (fun (s5 : (List D)) (a7 : (Int × Str)) =>
  (splitO a7.2 (Str.ofString " ")).bind fun x11 =>
  (m_step_in x11).bind fun x13 =>
  if ((decide ((300 : Int) ≤ a7.1)) || (D.isNon x13)) = true then
  none
  else
  (appO s5 x13).bind fun x21 =>
  some x21) acc (enumL n ls) = (match rdL n acc ls with | .error _ => none | .ok s => some s)
  | [], _, _, _, _ => rfl
  | l :: ls, n, acc, hl, hn => by
    have h0 := hl l List.mem_cons_self
    rw [List.length_cons] at hn
    show Option.bind (Option.bind (splitO l (Str.ofString " ")) _) _ = _
    rw [splitO_ok sp_len (by omega), Option.bind_some, st_in h0, Option.bind_some]
    by_cases hc : 300 ≤ n ∨ (lnW l).isNon = true
    · rw [if_pos (or_eq2.mpr hc)]
      have : rdL n acc (l :: ls) = .error n := if_pos hc
      rw [this]
      rfl
    · rw [if_neg (fun z => hc (or_eq2.mp z)), app_ok (by omega), Option.bind_some, Option.bind_some]
      have : rdL n acc (l :: ls) = rdL (n + 1) (acc ++ [lnW l]) ls := if_neg hc
      rw [this]
      exact p_fold ls (n + 1) _ (fun a ha => hl a (List.mem_cons_of_mem _ ha)) (by rw [List.length_append, List.length_singleton]; omega)
theorem q_fold : ∀ (ls : List Str) (n : Nat) (acc : List D), (∀ l ∈ ls, l.length ≤ 900000) → acc.length + ls.length ≤ 1000000 →
    foldR (ρ := Int) (fun (s5 : (List D)) (a7 : (Int × Str)) =>
  (splitO a7.2 (Str.ofString " ")).bind fun x14 =>
  (m_step_in x14).bind fun x16 =>
  if ((decide ((300 : Int) ≤ a7.1)) || (D.isNon x16)) = true then
  some (.error a7.1)
  else
  (appO s5 x16).bind fun x24 =>
  some (.ok x24)) acc (enumL n ls) = some (match rdL n acc ls with | .error k => .error (k : Int) | .ok s => .ok s)
  | [], _, _, _, _ => rfl
  | l :: ls, n, acc, hl, hn => by
    have h0 := hl l List.mem_cons_self
    rw [List.length_cons] at hn
    show Option.bind (Option.bind (splitO l (Str.ofString " ")) _) _ = _
    rw [splitO_ok sp_len (by omega), Option.bind_some, st_in h0, Option.bind_some]
    by_cases hc : 300 ≤ n ∨ (lnW l).isNon = true
    · rw [if_pos (or_eq2.mpr hc), Option.bind_some]
      have : rdL n acc (l :: ls) = .error n := if_pos hc
      rw [this]
    · rw [if_neg (fun z => hc (or_eq2.mp z)), app_ok (by omega), Option.bind_some, Option.bind_some]
      have : rdL n acc (l :: ls) = rdL (n + 1) (acc ++ [lnW l]) ls := if_neg hc
      rw [this]
      exact q_fold ls (n + 1) _ (fun a ha => hl a (List.mem_cons_of_mem _ ha)) (by rw [List.length_append, List.length_singleton]; omega)
theorem rdL_ok : ∀ {ls : List Str} {n : Nat} {acc s : List D}, rdL n acc ls = .ok s → s = acc ++ ls.map lnW ∧ (∀ l ∈ ls, (lnW l).isNon = false) ∧ (ls = [] ∨ n + ls.length ≤ 300)
  | [], _, _, _, h => by
    cases h
    exact ⟨by simp, (fun _ h => absurd h List.not_mem_nil), Or.inl rfl⟩
  | l :: ls, n, acc, s, h => by
    by_cases hc : 300 ≤ n ∨ (lnW l).isNon = true
    · rw [rdL, if_pos hc] at h
      cases h
    · rw [rdL, if_neg hc] at h
      obtain ⟨h1, h2, h3⟩ := rdL_ok h
      rw [not_or, Bool.not_eq_true] at hc
      refine ⟨by rw [h1, List.map_cons, List.append_assoc]; rfl, fun a ha => ?_, .inr ?_⟩
      · rcases List.mem_cons.mp ha with rfl | ha
        · exact hc.2
        · exact h2 a ha
      · rw [List.length_cons]
        rcases h3 with rfl | h3
        · rw [List.length_nil]; omega
        · omega
theorem rdL_count : ∀ {ls : List Str} {n : Nat} {acc : List D}, (∀ l ∈ ls, (lnW l).isNon = false) → (ls = [] ∨ n + ls.length ≤ 300) → rdL n acc ls = .ok (acc ++ ls.map lnW)
  | [], _, _, _, _ => by rw [rdL]; simp
  | l :: ls, n, acc, h, hn => by
    have hn2 : n + (l :: ls).length ≤ 300 := hn.elim (fun z => by cases z) id
    rw [List.length_cons] at hn2
    rw [rdL, if_neg (by rw [not_or, h l List.mem_cons_self]; exact ⟨by omega, by decide⟩), rdL_count (fun a ha => h a (List.mem_cons_of_mem _ ha)) (.inr (by omega)), List.map_cons, List.append_assoc]
    rfl
/-! ### whole texts -/
def rdP (ls : List Str) (x : Str) : Except Nat (List D) := match rdL 0 [] ls with
  | .error k => .error k
  | .ok s => if x = Str.ofString "" then .ok s else .error ls.length
theorem cutm1 {α : Type} (ls : List α) (x : α) : cutL (ls ++ [x]) none (some (-(1 : Int))) = ls := by
  unfold cutL
  have e : HT.sIx (ls ++ [x]).length (ls ++ [x]).length (some (-(1 : Int))) = ls.length := by
    show (if (-(1 : Int)) < 0 then (-(1 : Int) + ((ls ++ [x]).length : Int)).toNat else min (-(1 : Int)).toNat (ls ++ [x]).length) = _
    rw [if_pos (by decide), List.length_append, List.length_singleton]
    omega
  rw [e, HT.sIx_none, List.drop_zero, Nat.sub_zero, List.take_left]
theorem last_split (x y : Str) : ∃ ls l, Txt.split x y = ls ++ [l] := by
  obtain ⟨p, ps, e⟩ := split_cons x y
  refine ⟨(p :: ps).dropLast, (p :: ps).getLast (by simp), ?_⟩
  rw [e, List.dropLast_concat_getLast]
theorem lines_ok {t : Str} {ls : List Str} {x : Str} (ht : t.length ≤ 900000) (e : Txt.split t NL = ls ++ [x]) : (∀ l ∈ ls, l.length ≤ 900000) ∧ ls.length ≤ 900000 := by
  have hc := split_count (x := t) nl_len
  refine ⟨fun l hl => ?_, ?_⟩
  · have := split_mem (x := t) (p := l) nl_len (by rw [e]; exact List.mem_append_left _ hl)
    omega
  · rw [e, List.length_append, List.length_singleton] at hc
    omega
theorem isStr_f (t : Str) : ¬ ((!(D.isStr (.str t))) = true) := Bool.false_ne_true
theorem x_read_ok {t : Str} {ls : List Str} {x : Str} (ht : t.length ≤ 900000) (e : Txt.split t NL = ls ++ [x]) : m__law_x_read (.str t) = some (match rdP ls x with | .error k => .int (k : Int) | .ok s => .lst s) := by
  obtain ⟨h1, h2⟩ := lines_ok ht e
  unfold m__law_x_read
  rw [if_neg (isStr_f t)]
  show (splitO t NL).bind _ = _
  rw [splitO_ok nl_len (by omega), e, Option.bind_some, atI_lastT, Option.bind_some, cutm1, Option.bind_some, x_fold ls 0 [] h1 (by rw [List.length_nil]; omega), Option.bind_some]
  unfold rdP
  cases rdL 0 [] ls with
  | error k => rfl
  | ok s =>
    by_cases hx : x = Str.ofString ""
    · have e1 : (!decide (x = Str.ofString "")) = false := by rw [decide_eq_true hx]; rfl
      simp only [e1, if_pos hx]
      show some (D.lst (s.map AsD.toD)) = some (D.lst s)
      rw [show s.map AsD.toD = s from List.map_id s]
    · have e1 : (!decide (x = Str.ofString "")) = true := by rw [decide_eq_false hx]; rfl
      simp only [e1, if_neg hx]
      rfl
theorem parts_ok {t : Str} {ls : List Str} {x : Str} (ht : t.length ≤ 900000) (e : Txt.split t NL = ls ++ [x]) : m_parts_of (.str t) = some (ls, x) := by
  unfold m_parts_of
  rw [if_neg (isStr_f t)]
  show (splitO t NL).bind _ = _
  rw [splitO_ok nl_len (by omega), e, Option.bind_some, atI_lastT, Option.bind_some, cutm1]
theorem read_ok {t : Str} {ls : List Str} {x : Str} (ht : t.length ≤ 900000) (e : Txt.split t NL = ls ++ [x]) : m_read_steps (.str t) = (match rdP ls x with | .error _ => none | .ok s => some s) := by
  obtain ⟨h1, h2⟩ := lines_ok ht e
  unfold m_read_steps
  rw [parts_ok ht e, Option.bind_some, p_fold ls 0 [] h1 (by rw [List.length_nil]; omega)]
  unfold rdP
  cases rdL 0 [] ls with
  | error k => rfl
  | ok s =>
    by_cases hx : x = Str.ofString ""
    · have e1 : (!decide (x = Str.ofString "")) = false := by rw [decide_eq_true hx]; rfl
      simp only [e1, if_pos hx]
      rfl
    · have e1 : (!decide (x = Str.ofString "")) = true := by rw [decide_eq_false hx]; rfl
      simp only [e1, if_neg hx]
      rfl
theorem xread_ok {t : Str} {ls : List Str} {x : Str} (ht : t.length ≤ 900000) (e : Txt.split t NL = ls ++ [x]) : x_read_steps (.str t) = (match rdP ls x with | .error k => some (k : Int) | .ok _ => none) := by
  obtain ⟨h1, h2⟩ := lines_ok ht e
  unfold x_read_steps
  rw [if_neg (isStr_f t), parts_ok ht e, Option.bind_some, q_fold ls 0 [] h1 (by rw [List.length_nil]; omega)]
  unfold rdP
  cases rdL 0 [] ls with
  | error k => rfl
  | ok s =>
    by_cases hx : x = Str.ofString ""
    · have e1 : (!decide (x = Str.ofString "")) = false := by rw [decide_eq_true hx]; rfl
      simp only [e1, if_pos hx]
      rfl
    · have e1 : (!decide (x = Str.ofString "")) = true := by rw [decide_eq_false hx]; rfl
      simp only [e1, if_neg hx]
      rfl
end K59
set_option Elab.async false
set_option linter.all false
set_option maxRecDepth 100000
set_option maxHeartbeats 4000000
set_option autoImplicit false
namespace K59
open PySem PySem.Spec PyProof.Rows L2 T
/-! ### steps, their words, their texts -/
def StepW (d : D) (w : Str) (r : List Str) : Prop := ∃ x, d.seq? = some [.str w, x] ∧ ((w = E8 ∧ x.seq? = some (r.map D.str)) ∨ (w ≠ E8 ∧ ∃ y, x = .str y ∧ r = [y]))
def GoodW (w : Str) (r : List Str) : Prop := (w = E8 ∧ r.length = 8 ∧ r.all nameB = true ∧ r.Nodup) ∨ (w ∈ W3 ∧ r.length = 1 ∧ r.all nameB = true)
theorem w3_ne {w : Str} (h : w ∈ W3) : w ≠ E8 := fun z => by subst z; exact eight_no h
theorem good_of {w : Str} {r : List Str} (h : (stW (w :: r)).isNon = false) : GoodW w r := by
  by_cases he : w = E8
  · subst he
    by_cases hc : r.length = 8 ∧ r.all nameB = true ∧ r.Nodup
    · exact .inl ⟨rfl, hc⟩
    · rw [stW_e0 hc] at h
      cases h
  · by_cases hc : w ∈ W3 ∧ r.length = 1 ∧ r.all nameB = true
    · exact .inr hc
    · rw [stW_w0 he hc] at h
      cases h
theorem good_step {w : Str} {r : List Str} (h : GoodW w r) : StepW (stW (w :: r)) w r ∧ (stW (w :: r)).isNon = false := by
  rcases h with ⟨rfl, h⟩ | h
  · rw [stW_e1 h]
    exact ⟨⟨_, rfl, .inl ⟨rfl, rfl⟩⟩, rfl⟩
  · rw [stW_w1 (w3_ne h.1) h]
    obtain ⟨y, rfl⟩ := List.length_eq_one_iff.mp h.2.1
    exact ⟨⟨_, rfl, .inr ⟨w3_ne h.1, y, rfl, rfl⟩⟩, rfl⟩
theorem all_names {r : List Str} (h : r.all nameB = true) : ∀ x ∈ r, 1 ≤ x.length ∧ x.length ≤ 8 := fun x hx => nameB_len (List.all_eq_true.mp h x hx)
theorem good_r {w : Str} {r : List Str} (h : GoodW w r) : r.length ≤ 8 ∧ ∀ x ∈ r, 1 ≤ x.length ∧ x.length ≤ 8 := by
  rcases h with ⟨rfl, h1, h2, _⟩ | ⟨_, h1, h2⟩
  · exact ⟨by omega, all_names h2⟩
  · exact ⟨by omega, all_names h2⟩
theorem w4_len : ∀ w ∈ (E8 :: W3), w.length ≤ 5 := by decide +kernel
theorem good_w {w : Str} {r : List Str} (h : GoodW w r) : w.length ≤ 5 := by
  rcases h with ⟨rfl, _⟩ | ⟨h, _⟩
  · exact w4_len _ List.mem_cons_self
  · exact w4_len _ (List.mem_cons_of_mem _ h)
theorem sum_le : ∀ {r : List Str} {b : Nat}, (∀ x ∈ r, x.length ≤ b) → (r.map (·.length)).sum ≤ r.length * b
  | [], _, _ => Nat.zero_le _
  | x :: r, b, h => by
    rw [List.map_cons, List.sum_cons, List.length_cons, Nat.succ_mul]
    have := sum_le (r := r) fun y hy => h y (List.mem_cons_of_mem _ hy)
    have := h x List.mem_cons_self
    omega
theorem good_sum {w : Str} {r : List Str} (h : GoodW w r) : ((w :: r).map (·.length)).sum ≤ 69 := by
  have h1 := good_w h
  obtain ⟨h2, h3⟩ := good_r h
  have h4 := sum_le (r := r) (b := 8) fun x hx => (h3 x hx).2
  rw [List.map_cons, List.sum_cons]
  omega
def lineT (w : Str) (r : List Str) : Str := Str.join SP (w :: r) ++ NL
theorem lineT_len {w : Str} {r : List Str} (h : GoodW w r) : (lineT w r).length ≤ 78 := by
  have h1 := good_sum h
  have h2 := join_len SP r w
  rw [sp_len] at h2
  have h3 := (good_r h).1
  unfold lineT
  rw [Str.length_append, nl_len]
  omega
theorem join_w {w : Str} {r : List Str} (h : GoodW w r) : joinL SP (w :: r) = some (Str.join SP (w :: r)) := joinL_ok (by
  have h1 := good_sum h
  have h3 := (good_r h).1
  rw [sp_len, List.length_cons]
  omega)
theorem cat_w {w : Str} {r : List Str} (h : GoodW w r) : catS (Str.join SP (w :: r)) NL = some (lineT w r) := if_pos (by
  have h1 := lineT_len h
  unfold lineT at h1
  rw [Str.length_append] at h1
  rw [sizeLine_eq]
  omega)
theorem line_of_ok {w : Str} {r : List Str} (h : GoodW w r) : m_line_of (w :: r) = some (lineT w r) := by
  unfold m_line_of
  show (joinL SP (w :: r)).bind _ = _
  rw [join_w h, Option.bind_some]
  show (catS (Str.join SP (w :: r)) NL).bind _ = _
  rw [cat_w h]
  rfl
theorem strs_map : ∀ ws : List Str, D.strs? (ws.map D.str) = some ws
  | [] => rfl
  | w :: ws => by
    show ((D.str? (.str w)).bind fun s => (D.strs? (ws.map D.str)).bind fun r => some (s :: r)) = _
    rw [strs_map ws]
    rfl
theorem catO_ok {α : Type} {xs ys : List α} (h : xs.length + ys.length ≤ 1000000) : catO xs ys = some (xs ++ ys) := if_pos (by rw [sizeLine_eq]; omega)
theorem at1 {α : Type} (a b : α) (r : List α) : L2.atI (a :: b :: r) (1 : Int) = some b := by
  rw [atI_nat (by decide) (by rw [List.length_cons, List.length_cons]; omega)]
  rfl
theorem lam_ok {k : List Str → Option Str} {d : D} {w : Str} {r : List Str} (h : StepW d w r) (hr : r.length ≤ 8) : ((D.seq? d).bind fun x12 =>
  (L2.atI x12 (0 : Int)).bind fun x14 =>
  (D.seq? d).bind fun x16 =>
  (L2.atI x16 (0 : Int)).bind fun x18 =>
  (D.str? x18).bind fun x20 =>
  (if (decide (x20 = (Str.ofString "eight"))) = true then (D.seq? d).bind fun x22 =>
  (L2.atI x22 (1 : Int)).bind fun x24 =>
  (D.seq? x24).bind fun x26 =>
  some x26 else (D.seq? d).bind fun x28 =>
  (L2.atI x28 (1 : Int)).bind fun x30 =>
  some ([x30] : List D)).bind fun x32 =>
  (catO ([x14] : List D) x32).bind fun x43 =>
  (D.strs? x43).bind fun x45 => k x45) = k (w :: r) := by
  obtain ⟨x, h1, h2⟩ := h
  have e0 : D.str? (.str w) = some w := rfl
  rw [h1, Option.bind_some, at0, Option.bind_some, Option.bind_some, at0, Option.bind_some, e0, Option.bind_some]
  rcases h2 with ⟨rfl, h2⟩ | ⟨h2, y, rfl, rfl⟩
  · rw [if_pos (decide_eq_true rfl), Option.bind_some, at1, Option.bind_some, h2, Option.bind_some, Option.bind_some, catO_ok (by rw [List.length_map, List.length_singleton]; omega), Option.bind_some]
    show (D.strs? ((E8 :: r).map D.str)).bind _ = _
    rw [strs_map]
    rfl
  · rw [if_neg (by rw [decide_eq_true_eq]; exact h2), Option.bind_some, at1, Option.bind_some, Option.bind_some, catO_ok (by rw [List.length_singleton, List.length_singleton]; decide), Option.bind_some]
    show (D.strs? (([w, y] : List Str).map D.str)).bind _ = _
    rw [strs_map]
    rfl
theorem is_step_good {d : D} {w : Str} {r : List Str} (h : StepW d w r) (g : GoodW w r) : m_is_step d = some true := by
  obtain ⟨x, h1, h2⟩ := h
  have hz : ∀ y ∈ r, y.length ≤ 1000000 := fun y hy => by have := (good_r g).2 y hy; omega
  rcases h2 with ⟨rfl, h2⟩ | ⟨h2, y, rfl, rfl⟩
  · rcases g with ⟨_, g1, g2, g3⟩ | g
    · rw [is_step_names h1 h2 g1 hz, g2, decide_eq_true g3]
      rfl
    · exact absurd rfl (w3_ne g.1)
  · rcases g with ⟨g, _⟩ | g
    · exact absurd g h2
    · rw [is_step_word h1 g.1, is_name_str (hz y List.mem_cons_self)]
      have := g.2.2
      rw [List.all_cons, List.all_nil, Bool.and_true] at this
      rw [this]
      rfl
inductive Steps : List D → List (Str × List Str) → Prop
  | nil : Steps [] []
  | cons {d : D} {w : Str} {r : List Str} {ds : List D} {ps : List (Str × List Str)} : StepW d w r → GoodW w r → Steps ds ps → Steps (d :: ds) ((w, r) :: ps)
theorem Steps.len {ds : List D} {ps : List (Str × List Str)} (h : Steps ds ps) : ds.length = ps.length := by
  induction h with
  | nil => rfl
  | cons _ _ _ ih => rw [List.length_cons, List.length_cons, ih]
theorem Steps.good {ds : List D} {ps : List (Str × List Str)} (h : Steps ds ps) : ∀ p ∈ ps, GoodW p.1 p.2 := by
  induction h with
  | nil => exact fun _ h => absurd h List.not_mem_nil
  | cons _ g _ ih => exact fun p hp => (List.mem_cons.mp hp).elim (fun e => by rw [e]; exact g) (ih p)
theorem Steps.lc {β : Type} {e : D → Option β} {f : Str × List Str → β} {ds : List D} {ps : List (Str × List Str)} (h : Steps ds ps) (he : ∀ d w r, StepW d w r → GoodW w r → e d = some (f (w, r))) (hl : ds.length ≤ 1000000) : lcL (fun _ => some true) e ds = some (ps.map f) := by
  have : ∀ {ds : List D} {ps : List (Str × List Str)}, Steps ds ps → lcO (fun _ => some true) e ds = some (ps.map f) := by
    intro ds ps h
    induction h with
    | nil => rfl
    | cons a g _ ih =>
      rw [lcO, Option.bind_some, if_pos rfl, he _ _ _ a g, Option.bind_some, ih]
      rfl
  unfold lcL
  rw [this h, Option.bind_some, lim, if_pos (by rw [List.length_map, ← h.len, sizeLine_eq]; omega)]
def textOf (ps : List (Str × List Str)) : Str := Str.join (Str.ofString "") (ps.map fun p => lineT p.1 p.2)
theorem empty_len : (Str.ofString "").length = 0 := by decide +kernel
theorem text_join {ps : List (Str × List Str)} (hg : ∀ p ∈ ps, GoodW p.1 p.2) (hl : ps.length ≤ 300) : joinL (Str.ofString "") (ps.map fun p => lineT p.1 p.2) = some (textOf ps) := joinL_ok (by
  have := sum_le (r := ps.map fun p => lineT p.1 p.2) (b := 78) fun x hx => by
    obtain ⟨p, hp, rfl⟩ := List.mem_map.mp hx
    exact lineT_len (hg p hp)
  rw [List.length_map] at this ⊢
  rw [empty_len]
  omega)
theorem are_steps_ok {d : D} {ds : List D} {ps : List (Str × List Str)} (hd : d.seq? = some ds) (h : Steps ds ps) (hl : ds.length ≤ 300) : m_are_steps d = some true := by
  unfold m_are_steps
  rw [is_list_seq hd, Option.bind_some, hd]
  have e := h.lc (e := fun (a7 : D) => (m_is_step a7).bind fun x9 => some x9) (f := fun _ => true) (fun d w r a g => by rw [is_step_good a g]; rfl) (by omega)
  simp only [Option.bind_some, decide_eq_true (show (ds.length : Int) ≤ (300 : Int) by omega)]
  rw [e]
  show (andO true (andO true (some ((ps.map fun _ => true).all id)))).bind _ = _
  have : (ps.map fun _ => true).all id = true := by rw [List.all_map]; exact List.all_eq_true.mpr fun _ _ => rfl
  rw [this]
  rfl
theorem steps_text_ok {d : D} {ds : List D} {ps : List (Str × List Str)} (hd : d.seq? = some ds) (h : Steps ds ps) (hl : ds.length ≤ 300) : m_steps_text d = some (textOf ps) := by
  unfold m_steps_text
  rw [are_steps_ok hd h hl, Option.bind_some, if_neg (by decide), hd, Option.bind_some, h.lc (f := fun p => lineT p.1 p.2) (fun d w r a g => by
    refine (lam_ok (k := fun x45 => (m_line_of x45).bind fun x47 => some x47) a (good_r g).1).trans ?_
    rw [line_of_ok g]
    rfl) (by omega), Option.bind_some, text_join h.good (by rw [← h.len]; omega)]
  rfl
/-! ### there and back -/
theorem join_nil : ∀ (x : Str) (r : List Str), Str.join (Str.ofString "") (x :: r) = x ++ Str.join (Str.ofString "") r
  | x, [] => by
    show x = x ++ Str.empty
    rw [Str.append_empty]
  | x, y :: r => by
    show x ++ Str.ofString "" ++ Str.join _ (y :: r) = _
    rw [show Str.ofString "" = Str.empty by rfl, Str.append_empty]
theorem ends_join : ∀ ls : List Str, Str.join (Str.ofString "") (ls.map fun l => l ++ NL) = Str.join NL (ls ++ [Str.ofString ""])
  | [] => rfl
  | l :: ls => by
    rw [List.map_cons, join_nil, ends_join ls, List.cons_append]
    cases ls with
    | nil =>
      show l ++ NL ++ Str.ofString "" = l ++ NL ++ Str.ofString ""
      rfl
    | cons m ls => rfl
theorem line_words {l : Str} (h : (lnW l).isNon = false) : ∃ w r, GoodW w r ∧ StepW (lnW l) w r ∧ lineT w r = l ++ NL := by
  obtain ⟨w, r, e⟩ := split_cons l SP
  unfold lnW at h ⊢
  rw [e] at h ⊢
  have g := good_of h
  refine ⟨w, r, g, (good_step g).1, ?_⟩
  unfold lineT
  rw [← e, StrLaws.join_split]
theorem lines_steps : ∀ {ls : List Str}, (∀ l ∈ ls, (lnW l).isNon = false) → ∃ ps, Steps (ls.map lnW) ps ∧ (ps.map fun p => lineT p.1 p.2) = ls.map fun l => l ++ NL
  | [], _ => ⟨[], .nil, rfl⟩
  | l :: ls, h => by
    obtain ⟨ps, h1, h2⟩ := lines_steps (ls := ls) fun a ha => h a (List.mem_cons_of_mem _ ha)
    obtain ⟨w, r, g, a, e⟩ := line_words (h l List.mem_cons_self)
    exact ⟨(w, r) :: ps, .cons a g h1, by rw [List.map_cons, List.map_cons, h2, e]⟩
theorem back_ok {t : Str} {ls : List Str} (e : Txt.split t NL = ls ++ [Str.ofString ""]) (h : ∀ l ∈ ls, (lnW l).isNon = false) (hl : ls.length ≤ 300) : m_steps_text (.lst (ls.map lnW)) = some t := by
  obtain ⟨ps, h1, h2⟩ := lines_steps h
  rw [steps_text_ok (d := .lst (ls.map lnW)) rfl h1 (by rw [List.length_map]; omega)]
  unfold textOf
  rw [h2, ends_join, ← e, StrLaws.join_split]
end K59
set_option Elab.async false
set_option linter.all false
set_option maxRecDepth 100000
set_option maxHeartbeats 4000000
set_option autoImplicit false
namespace K59
open PySem PySem.Spec PyProof.Rows L2 T
theorem nod_strs : ∀ ws : List Str, D.nodAll (ws.map D.str) = true
  | [] => rfl
  | w :: ws => by rw [List.map_cons, D.nodAll, nod_strs ws]; rfl
theorem dp_strs : ∀ ws : List Str, D.dpAll (ws.map D.str) = 0
  | [] => rfl
  | w :: ws => by rw [List.map_cons, D.dpAll, dp_strs ws]; rfl
theorem nod_tup {ds : List D} (h : D.nodAll ds = true) (hl : ds.length ≤ 1000000) : (D.tup ds).nod = true := by
  show (decide (ds.length ≤ 1000000) && D.nodAll ds) = true
  rw [h, decide_eq_true hl]
  rfl
theorem nod_lst {ds : List D} (h : D.nodAll ds = true) (hl : ds.length ≤ 1000000) : (D.lst ds).nod = true := by
  show (decide (ds.length ≤ 1000000) && D.nodAll ds) = true
  rw [h, decide_eq_true hl]
  rfl
theorem nod_all : ∀ {ds : List D}, (∀ d ∈ ds, d.nod = true) → D.nodAll ds = true
  | [], _ => rfl
  | d :: ds, h => by
    rw [D.nodAll, h d List.mem_cons_self, nod_all fun x hx => h x (List.mem_cons_of_mem _ hx)]
    rfl
theorem dp_all {k : Nat} : ∀ {ds : List D}, (∀ d ∈ ds, d.dp ≤ k) → D.dpAll ds ≤ k
  | [], _ => Nat.zero_le _
  | d :: ds, h => by
    rw [D.dpAll]
    exact Nat.max_le.mpr ⟨h d List.mem_cons_self, dp_all fun x hx => h x (List.mem_cons_of_mem _ hx)⟩
theorem dp_lst {k : Nat} {ds : List D} (h : ∀ d ∈ ds, d.dp ≤ k) : (D.lst ds).dp ≤ k + 1 := Nat.succ_le_succ (dp_all h)
theorem dp_tup {k : Nat} {ds : List D} (h : ∀ d ∈ ds, d.dp ≤ k) : (D.tup ds).dp ≤ k + 1 := Nat.succ_le_succ (dp_all h)
theorem len2 {α : Type} {a b : α} : ([a, b] : List α).length ≤ 1000000 := by show 2 ≤ 1000000; decide
theorem stW_nod {w : Str} {r : List Str} (g : GoodW w r) : (stW (w :: r)).nod = true ∧ (stW (w :: r)).dp ≤ 2 := by
  have hr := (good_r g).1
  rcases g with ⟨rfl, h⟩ | h
  · rw [stW_e1 h]
    refine ⟨nod_tup (nod_all fun d hd => ?_) len2, dp_tup fun d hd => ?_⟩
    · rcases List.mem_cons.mp hd with rfl | hd
      · rfl
      · obtain rfl := List.mem_singleton.mp hd
        exact nod_tup (nod_strs r) (by rw [List.length_map]; omega)
    · rcases List.mem_cons.mp hd with rfl | hd
      · exact Nat.zero_le _
      · obtain rfl := List.mem_singleton.mp hd
        show D.dpAll (r.map D.str) + 1 ≤ 1
        rw [dp_strs]
        exact Nat.le_refl _
  · rw [stW_w1 (w3_ne h.1) h]
    refine ⟨nod_tup (nod_strs _) (by rw [List.length_map, List.length_cons]; omega), ?_⟩
    show D.dpAll ((w :: r).map D.str) + 1 ≤ 2
    rw [dp_strs]
    decide
theorem lnW_nod {l : Str} (h : (lnW l).isNon = false) : (lnW l).nod = true ∧ (lnW l).dp ≤ 2 := by
  obtain ⟨w, r, e⟩ := split_cons l SP
  unfold lnW at h ⊢
  rw [e] at h ⊢
  exact stW_nod (good_of h)
theorem toD_lst (s : List D) : AsD.toD s = D.lst s := congrArg D.lst (List.map_id s)
theorem sameO_ok {d : D} (h : d.nod = true) (h2 : d.dp < 6) : sameO d d = some true := if_pos ⟨rfl, h, h2⟩
theorem two_eq (s t : List D) : AsD.toD ([s, t] : List (List D)) = D.lst [.lst s, .lst t] := by
  show D.lst [AsD.toD s, AsD.toD t] = _
  rw [toD_lst, toD_lst]
theorem twoD_eq (s t : D) : AsD.toD ([s, t] : List D) = D.lst [s, t] := rfl
theorem metT_ok {n : Int} {d : D} (h : (d.nod = true ∧ d.dp < 6) ∨ d = .dct []) : metT (some n) n d = some true := by
  unfold metT
  rw [if_pos]
  refine ⟨rfl, ?_⟩
  rcases h with ⟨h1, h2⟩ | rfl
  · rw [h1, decide_eq_true h2]; rfl
  · rfl
theorem two_nod {s t : D} (h : s.nod = true ∧ s.dp ≤ 3) (h2 : t.nod = true ∧ t.dp ≤ 3) : sameO (D.lst [s, t]) (D.lst [s, t]) = some true := sameO_ok (nod_lst (nod_all fun d hd => by
    rcases List.mem_cons.mp hd with rfl | hd
    · exact h.1
    · obtain rfl := List.mem_singleton.mp hd; exact h2.1) len2) (Nat.lt_of_le_of_lt (dp_lst (k := 3) fun d hd => by
    rcases List.mem_cons.mp hd with rfl | hd
    · exact h.2
    · obtain rfl := List.mem_singleton.mp hd; exact h2.2) (by decide))
theorem x_asked_ok {t : Str} (ht : t.length ≤ 900000) : m__law_x_asked t = some true := by
  obtain ⟨ls, x, e⟩ := last_split t NL
  unfold m__law_x_asked
  have e0 : (AsD.toD (t : Str)) = D.str t := rfl
  have xr := x_read_ok ht e
  have er := read_ok ht e
  have ex := xread_ok ht e
  rw [e0]
  cases hp : rdP ls x with
  | error k =>
    rw [hp] at ex xr
    have xr' : m__law_x_read (.str t) = some (.int (k : Int)) := xr
    have ex' : x_read_steps (.str t) = some (k : Int) := ex
    have e1 : (D.int (k : Int)).isInt = true := rfl
    have e2 : (D.int (k : Int)).int? = some (k : Int) := rfl
    rw [xr', Option.bind_some, e1, if_pos rfl, e2, Option.bind_some, ex', metT_ok (.inl ⟨rfl, by show 0 < 6; decide⟩)]
    rfl
  | ok s =>
    rw [hp] at er xr
    have xr' : m__law_x_read (.str t) = some (.lst s) := xr
    have er' : m_read_steps (.str t) = some s := er
    have e1 : (D.lst s).isInt = false := rfl
    rw [xr', Option.bind_some, e1, if_neg Bool.false_ne_true, er', Option.bind_some, Option.bind_some, two_eq, twoD_eq]
    have hs : (ls.map lnW = s ∧ x = Str.ofString "") ∧ (∀ l ∈ ls, (lnW l).isNon = false) ∧ ls.length ≤ 300 := by
      unfold rdP at hp
      cases hr : rdL 0 [] ls with
      | error k => rw [hr] at hp; cases hp
      | ok s' =>
        rw [hr] at hp
        obtain ⟨h1, h2, h3⟩ := rdL_ok hr
        by_cases hx : x = Str.ofString ""
        · have : (if x = Str.ofString "" then Except.ok s' else Except.error ls.length : Except Nat (List D)) = .ok s := hp
          rw [if_pos hx] at this
          cases this
          refine ⟨⟨by rw [h1]; rfl, hx⟩, h2, ?_⟩
          rcases h3 with rfl | h3
          · exact Nat.zero_le _
          · omega
        · have : (if x = Str.ofString "" then Except.ok s' else Except.error ls.length : Except Nat (List D)) = .ok s := hp
          rw [if_neg hx] at this
          cases this
    obtain ⟨⟨hs1, rfl⟩, h2, h3⟩ := hs
    have n1 : ∀ d ∈ s, d.nod = true ∧ d.dp ≤ 2 := fun d hd => by
      rw [← hs1] at hd
      obtain ⟨l, hl, rfl⟩ := List.mem_map.mp hd
      exact lnW_nod (h2 l hl)
    have sl : s.length ≤ 300 := by rw [← hs1, List.length_map]; exact h3
    have n2 : (D.lst s).nod = true := nod_lst (nod_all fun d hd => (n1 d hd).1) (by omega)
    have n3 : (D.lst s).dp ≤ 3 := dp_lst fun d hd => (n1 d hd).2
    rw [two_nod ⟨n2, n3⟩ ⟨n2, n3⟩, Option.bind_some, if_neg (by decide), app_ok (by omega), Option.bind_some, Option.bind_some, Option.bind_some, toD_lst]
    have bk := back_ok e h2 h3
    rw [hs1] at bk
    rw [bk, Option.bind_some, twoD_eq, twoD_eq]
    show ((sameO (D.lst [.lst s, .str t]) (D.lst [.lst s, .str t])).bind _) = _
    rw [two_nod ⟨n2, n3⟩ ⟨rfl, Nat.zero_le _⟩]
    rfl
end K59
set_option Elab.async false
set_option linter.all false
set_option maxRecDepth 100000
set_option maxHeartbeats 4000000
set_option autoImplicit false
namespace K59
open PySem PySem.Spec PyProof.Rows L2 T
/-! ### drawn names -/
def cstep (k at_ : Int) : Option Str := (modO at_ (26 : Int)).bind fun x55 =>
  (strAt (Str.ofString "abcdefghijklmnopqrstuvwxyz") x55).bind fun x57 =>
  (fdivWO at_ (26 : Int)).bind fun x59 =>
  (strO (x59 + k)).bind fun x61 =>
  (catS x57 x61).bind fun x63 => some x63
theorem cands_ok : ((List.range 24).all fun k => (List.range 26).all fun i => match cstep (k : Int) (i : Int) with | some w => nameB w | none => false) = true := by decide +kernel
theorem cands_nd : ((List.range 24).all fun k => decide ((List.range 26).map fun (i : Nat) => cstep (k : Int) (i : Int)).Nodup) = true := by decide +kernel
end K59
set_option Elab.async false
set_option linter.all false
set_option maxRecDepth 100000
set_option maxHeartbeats 4000000
set_option autoImplicit false
namespace K59
open PySem PySem.Spec PyProof.Rows L2 T
theorem app_list (a b : Str) : (a ++ b).cps.toList = a.cps.toList ++ b.cps.toList := Array.toList_append
theorem nameB_app {w : Str} {c : Nat} (h : nameB w = true) (hl : w.length ≤ 7) (hc : c ∈ SIG) : nameB (w ++ oneS c) = true := by
  have h1 := nameB_len h
  rw [len_list] at hl h1
  cases e : w.cps.toList with
  | nil => rw [e] at h1; simp at h1
  | cons d ds =>
    rw [nameB_cons e] at h
    have e2 : (w ++ oneS c).cps.toList = d :: (ds ++ [c]) := by rw [app_list, e]; rfl
    rw [nameB_cons e2]
    rw [e, List.length_cons] at hl
    simp only [Bool.and_eq_true, decide_eq_true_eq, List.all_eq_true] at h ⊢
    refine ⟨by rw [List.length_append, List.length_singleton]; omega, h.2.1, fun x hx => ?_⟩
    rcases List.mem_cons.mp hx with rfl | hx
    · exact h.2.2 _ List.mem_cons_self
    · rcases List.mem_append.mp hx with hx | hx
      · exact h.2.2 _ (List.mem_cons_of_mem _ hx)
      · obtain rfl := List.mem_singleton.mp hx
        exact hc
theorem cut7_list (w : Str) : (cutS w none (some (7 : Int))).cps.toList = w.cps.toList.take 7 := by
  unfold cutS
  rw [HT.sIx_none]
  have := HT.sIx_nat w.length w.length 7
  rw [show ((7 : Nat) : Int) = (7 : Int) from rfl] at this
  rw [this]
  show (w.cps.toList.drop 0).take (min 7 w.length - 0) = _
  rw [List.drop_zero, Nat.sub_zero]
  rcases Nat.le_total 7 w.length with h | h
  · rw [Nat.min_eq_left h]
  · rw [Nat.min_eq_right h, List.take_of_length_le (by rw [len_list]; exact Nat.le_refl _), List.take_of_length_le (by rw [← len_list]; exact h)]
theorem nameB_cut {w : Str} (h : nameB w = true) : nameB (cutS w none (some (7 : Int))) = true ∧ (cutS w none (some (7 : Int))).length ≤ 7 := by
  have h1 := nameB_len h
  refine ⟨?_, by rw [len_list, cut7_list, List.length_take]; omega⟩
  cases e : w.cps.toList with
  | nil => rw [len_list, e] at h1; simp at h1
  | cons d ds =>
    rw [nameB_cons e] at h
    have e2 : (cutS w none (some (7 : Int))).cps.toList = d :: ds.take 6 := by rw [cut7_list, e]; rfl
    rw [nameB_cons e2]
    simp only [Bool.and_eq_true, decide_eq_true_eq, List.all_eq_true] at h ⊢
    refine ⟨by rw [List.length_take]; omega, h.2.1, fun x hx => ?_⟩
    rcases List.mem_cons.mp hx with rfl | hx
    · exact h.2.2 _ List.mem_cons_self
    · exact h.2.2 _ (List.mem_cons_of_mem _ (List.mem_of_mem_take hx))
theorem LET_len : LET.length = 26 := by decide +kernel
theorem SIG_len : SIG.length = 36 := by decide +kernel
theorem sgl_len : (Str.ofString "abcdefghijklmnopqrstuvwxyz0123456789").length ≤ 1000000 := by decide +kernel
theorem strAt_sig {d : Int} (h0 : 0 ≤ d) (h1 : d < 36) : ∃ c, strAt (Str.ofString "abcdefghijklmnopqrstuvwxyz0123456789") d = some (oneS c) ∧ c ∈ SIG ∧ (d < 26 → c ∈ LET) := by
  have hl : d.toNat < SIG.length := by rw [SIG_len]; omega
  refine ⟨SIG[d.toNat], ?_, List.getElem_mem hl, fun h => ?_⟩
  · unfold T.strAt
    rw [if_pos (by have := sgl_len; rw [sizeLine_eq]; omega)]
    show (L2.atI SIG d).map oneS = _
    rw [atI_nat h0 (by rw [SIG_len]; omega), List.getElem?_eq_getElem hl]
    rfl
  · have h2 : d.toNat < LET.length := by rw [LET_len]; omega
    have : SIG[d.toNat] = (LET ++ DIG)[d.toNat]'(by rw [List.length_append]; omega) := by simp only [sig_eq]
    rw [this, List.getElem_append_left h2]
    exact List.getElem_mem h2
theorem nameB_one {c : Nat} (h : c ∈ LET) : nameB (oneS c) = true := by
  have e : (oneS c).cps.toList = c :: [] := rfl
  rw [nameB_cons e]
  have hs : c ∈ SIG := by rw [sig_eq]; exact List.mem_append_left _ h
  simp [h, hs]
theorem catS_ok {a b : Str} (h : a.length + b.length ≤ 1000000) : catS a b = some (a ++ b) := if_pos (by rw [sizeLine_eq]; omega)
theorem one_len (c : Nat) : (oneS c).length = 1 := rfl
theorem name_fold : ∀ (r : List Int) {s : List Int} {k : Int} {w : Str}, Spr s k → k + r.length ≤ 1000000 → nameB w = true → w.length + r.length ≤ 8 →
    ∃ w' s', foldO (fun (s16 : ((List Int) × Str)) (a18 : Int) =>
  (m__law_draw s16.1 (36 : Int)).bind fun x22 =>
  (strAt (Str.ofString "abcdefghijklmnopqrstuvwxyz0123456789") x22.1).bind fun x24 =>
  (catS s16.2 x24).bind fun x26 =>
  some (x22.2, x26)) (s, w) r = some (s', w') ∧ nameB w' = true ∧ Spr s' (k + r.length)
  | [], s, k, w, hs, _, hn, _ => ⟨w, s, rfl, hn, hs.mono (by simp)⟩
  | x :: r, s, k, w, hs, hk, hn, hl => by
    rw [List.length_cons] at hk hl
    obtain ⟨d, s1, e, d0, d1, hs1⟩ := draw_ok (many := 36) hs (by omega) (by decide) (by decide)
    obtain ⟨c, e2, hc, _⟩ := strAt_sig d0 d1
    obtain ⟨w', s', e3, hn', hs'⟩ := name_fold r (w := w ++ oneS c) hs1 (by omega) (nameB_app hn (by omega) hc) (by rw [Str.length_append, one_len]; omega)
    refine ⟨w', s', ?_, hn', hs'.mono (by rw [List.length_cons]; omega)⟩
    show Option.bind (Option.bind (m__law_draw s (36 : Int)) _) _ = _
    rw [e, Option.bind_some]
    show Option.bind (Option.bind (strAt _ d) _) _ = _
    rw [e2, Option.bind_some]
    show Option.bind (Option.bind (catS w (oneS c)) _) _ = _
    rw [catS_ok (by rw [one_len]; omega), Option.bind_some, Option.bind_some]
    exact e3
theorem w_name_ok {s : List Int} {k : Int} (hs : Spr s k) (hk : k ≤ 900000) : ∃ w s', m__law_w_name s = some (w, s') ∧ nameB w = true ∧ Spr s' (k + 9) := by
  obtain ⟨d, s1, e, d0, d1, hs1⟩ := draw_ok (many := 26) hs (by omega) (by decide) (by decide)
  obtain ⟨c, e2, _, hc⟩ := strAt_sig d0 (by omega)
  obtain ⟨n, s2, e3, hn, hs2⟩ := pick_ok (xs := ([(0 : Int), (1 : Int), (1 : Int), (2 : Int), (3 : Int), (7 : Int)] : List Int)) hs1 (by omega) (by decide) (by decide)
  have n7 : 0 ≤ n ∧ n ≤ 7 := by
    simp only [List.mem_cons, List.not_mem_nil, or_false] at hn
    omega
  have hr : ((rng 0 n).length : Int) = n := by rw [rng_length]; omega
  obtain ⟨w', s', e4, hn', hs'⟩ := name_fold (rng 0 n) (w := oneS c) hs2 (by omega) (nameB_one (hc d1)) (by rw [one_len]; omega)
  refine ⟨w', s', ?_, hn', hs'.mono (by omega)⟩
  unfold m__law_w_name
  rw [Option.bind_some, e, Option.bind_some]
  show (strAt _ d).bind _ = _
  rw [e2, Option.bind_some]
  show (m__law_pick s1 _).bind _ = _
  rw [e3, Option.bind_some]
  show (rngO 0 n).bind _ = _
  rw [rngO_small (by omega) (by omega) (by omega) (by omega), Option.bind_some]
  show (foldO _ (s2, oneS c) (rng 0 n)).bind _ = _
  rw [e4]
  rfl
end K59
set_option Elab.async false
set_option linter.all false
set_option maxRecDepth 100000
set_option maxHeartbeats 4000000
set_option autoImplicit false
namespace K59
open PySem PySem.Spec PyProof.Rows L2 T
/-! ### unlike names -/
theorem nodup_le {α : Type} [DecidableEq α] : ∀ {l m : List α}, l.Nodup → (∀ x ∈ l, x ∈ m) → l.length ≤ m.length
  | [], _, _, _ => Nat.zero_le _
  | a :: l, m, hn, hs => by
    have ha := hs a List.mem_cons_self
    obtain ⟨h1, h2⟩ := List.nodup_cons.mp hn
    have := nodup_le (l := l) (m := m.erase a) h2 fun x hx => (List.mem_erase_of_ne (fun z => h1 (by subst z; exact hx))).mpr (hs x (List.mem_cons_of_mem _ hx))
    rw [List.length_erase_of_mem ha] at this
    have hp : 0 < m.length := List.length_pos_of_mem ha
    rw [List.length_cons]
    omega
theorem cand_ok {k i : Nat} (hk : k < 24) (hi : i < 26) : ∃ w, cstep (k : Int) (i : Int) = some w ∧ nameB w = true := by
  have h := List.all_eq_true.mp (List.all_eq_true.mp cands_ok k (List.mem_range.mpr hk)) i (List.mem_range.mpr hi)
  cases e : cstep (k : Int) (i : Int) with
  | none => rw [e] at h; cases h
  | some w => rw [e] at h; exact ⟨w, rfl, h⟩
theorem cand_free {k : Nat} (hk : k < 24) {told : List Str} (hl : told.length < 26) : ∃ j, j < 26 ∧ ∀ w, cstep (k : Int) ((j : Nat) : Int) = some w → w ∉ told := by
  apply Classical.byContradiction
  intro hc
  have h1 := of_decide_eq_true (List.all_eq_true.mp cands_nd k (List.mem_range.mpr hk))
  have h2 := nodup_le (m := told.map some) h1 fun x hx => by
    obtain ⟨i, hi, rfl⟩ := List.mem_map.mp hx
    obtain ⟨w, e, _⟩ := cand_ok hk (List.mem_range.mp hi)
    rw [e]
    refine List.mem_map.mpr ⟨w, ?_, rfl⟩
    apply Classical.byContradiction
    intro hw
    exact hc ⟨i, List.mem_range.mp hi, fun w' e' => by rw [e] at e'; cases e'; exact hw⟩
  rw [List.length_map, List.length_map, List.length_range] at h2
  omega
abbrev WF (a7 : Int) : Str × Int → Option (Str × Int) := fun (s50 : (Str × Int)) =>
  (modO s50.2 (26 : Int)).bind fun x55 =>
  (strAt (Str.ofString "abcdefghijklmnopqrstuvwxyz") x55).bind fun x57 =>
  (fdivWO s50.2 (26 : Int)).bind fun x59 =>
  (strO (x59 + a7)).bind fun x61 =>
  (catS x57 x61).bind fun x63 =>
  (some (s50.2 + (1 : Int))).bind fun at70 =>
  some (x63, at70)
theorem wf_ok {a7 at_ : Int} {one w : Str} (h : cstep a7 at_ = some w) : WF a7 (one, at_) = some (w, at_ + 1) := by
  unfold cstep at h
  obtain ⟨x1, e1, h⟩ := bind_some h
  obtain ⟨x2, e2, h⟩ := bind_some h
  obtain ⟨x3, e3, h⟩ := bind_some h
  obtain ⟨x4, e4, h⟩ := bind_some h
  obtain ⟨x5, e5, h⟩ := bind_some h
  cases h
  unfold WF
  rw [e1, Option.bind_some, e2, Option.bind_some, e3, Option.bind_some, e4, Option.bind_some, e5, Option.bind_some, Option.bind_some]
theorem while_ok {k : Nat} (hk : k < 24) (told : List Str) : ∀ (d at_ fuel : Nat) (one : Str), nameB one = true → d + at_ = 26 → d < fuel → (one ∉ told ∨ ∃ j, at_ ≤ j ∧ j < 26 ∧ ∀ w, cstep (k : Int) ((j : Nat) : Int) = some w → w ∉ told) →
    ∃ w t, whileO (fun (s50 : (Str × Int)) => some (decide (s50.1 ∈ told))) (WF (k : Int)) fuel (one, (at_ : Int)) = some (w, t) ∧ nameB w = true ∧ w ∉ told
  | d, at_, 0, one, _, _, hf, _ => by omega
  | d, at_, fuel + 1, one, hn, hd, hf, h => by
    by_cases ho : one ∈ told
    · obtain ⟨j, j1, j2, j3⟩ := h.resolve_left (fun z => z ho)
      obtain ⟨w, ew, hw⟩ := cand_ok hk (show at_ < 26 by omega)
      cases d with
      | zero => omega
      | succ d =>
        obtain ⟨w', t, e, r⟩ := while_ok hk told d (at_ + 1) fuel w hw (by omega) (by omega) (by
          by_cases hj : j = at_
          · subst hj
            exact .inl (j3 w ew)
          · exact .inr ⟨j, by omega, j2, j3⟩)
        refine ⟨w', t, ?_, r⟩
        show (if decide (one ∈ told) = true then (WF (k : Int) (one, (at_ : Int))).bind fun s' => whileO _ _ fuel s' else some (one, (at_ : Int))) = _
        rw [if_pos (decide_eq_true ho), wf_ok ew, Option.bind_some]
        exact e
    · refine ⟨one, (at_ : Int), ?_, hn, ho⟩
      show (if decide (one ∈ told) = true then (WF (k : Int) (one, (at_ : Int))).bind fun s' => whileO _ _ fuel s' else some (one, (at_ : Int))) = _
      rw [if_neg (by rw [decide_eq_true_eq]; exact ho)]
theorem five_ok : ∀ w ∈ ([(Str.ofString "a"), (Str.ofString "m"), (Str.ofString "z"), (Str.ofString "0"), (Str.ofString "9")] : List Str), ∃ c, w = oneS c ∧ c ∈ SIG := by
  intro w h
  simp only [List.mem_cons, List.not_mem_nil, or_false] at h
  rcases h with rfl | rfl | rfl | rfl | rfl
  · exact ⟨97, rfl, by decide +kernel⟩
  · exact ⟨109, rfl, by decide +kernel⟩
  · exact ⟨122, rfl, by decide +kernel⟩
  · exact ⟨48, rfl, by decide +kernel⟩
  · exact ⟨57, rfl, by decide +kernel⟩
/-- names told so far -/
structure Nms (told : List Str) : Prop where
  nm : ∀ w ∈ told, nameB w = true
  nd : told.Nodup
theorem Nms.snoc {told : List Str} {w : Str} (h : Nms told) (hw : nameB w = true) (hn : w ∉ told) : Nms (told ++ [w]) :=
  ⟨fun x hx => (List.mem_append.mp hx).elim (h.nm x) fun hx => by obtain rfl := List.mem_singleton.mp hx; exact hw, List.nodup_append.mpr ⟨h.nd, by simp, fun a ha b hb => by obtain rfl := List.mem_singleton.mp hb; exact fun e => hn (e ▸ ha)⟩⟩
abbrev NF : (List Int) × (List Str) → Int → Option ((List Int) × (List Str)) := (fun (s5 : ((List Int) × (List Str))) (a7 : Int) =>
  (m__law_w_name s5.1).bind fun x11 =>
  (some x11.1).bind fun one13 =>
  (if (!s5.2.isEmpty) = true then (m__law_draw x11.2 (4 : Int)).bind fun x17 =>
  some ((decide (x17.1 = (0 : Int))), x17.2) else some (false, x11.2)).bind fun r19 =>
  ((if r19.1 = true then
  (m__law_pick r19.2 s5.2).bind fun x32 =>
  (cutSO x32.1 none (some (7 : Int))).bind fun x34 =>
  (m__law_pick x32.2 ([(Str.ofString "a"), (Str.ofString "m"), (Str.ofString "z"), (Str.ofString "0"), (Str.ofString "9")] : List Str)).bind fun x36 =>
  (catS x34 x36.1).bind fun x38 =>
  some (x36.2, x38)
  else
  some (r19.2, one13))).bind fun (s28 : ((List Int) × Str)) =>
  (some (0 : Int)).bind fun at47 =>
  (whileO (fun (s50 : (Str × Int)) => some (decide (s50.1 ∈ s5.2))) (fun (s50 : (Str × Int)) =>
  (modO s50.2 (26 : Int)).bind fun x55 =>
  (strAt (Str.ofString "abcdefghijklmnopqrstuvwxyz") x55).bind fun x57 =>
  (fdivWO s50.2 (26 : Int)).bind fun x59 =>
  (strO (x59 + a7)).bind fun x61 =>
  (catS x57 x61).bind fun x63 =>
  (some (s50.2 + (1 : Int))).bind fun at70 =>
  some (x63, at70)) 64 (s28.2, at47)).bind fun (s73 : (Str × Int)) =>
  (appO s5.2 s73.1).bind fun x76 =>
  some (s28.1, x76))
theorem nf_ok {s : List Int} {told : List Str} {k : Int} {i : Nat} (hs : Spr s k) (hk : k ≤ 800000) (ht : Nms told) (hl : told.length < 24) (hi : i < 24) : ∃ w s', NF (s, told) (i : Int) = some (s', told ++ [w]) ∧ nameB w = true ∧ w ∉ told ∧ Spr s' (k + 12) := by
  obtain ⟨one, s1, e1, hn, hs1⟩ := w_name_ok hs (by omega)
  have two : ∃ b s2, (if (!told.isEmpty) = true then (m__law_draw s1 (4 : Int)).bind fun x17 => some ((decide (x17.1 = (0 : Int))), x17.2) else some (false, s1)) = some (b, s2) ∧ (b = true → told ≠ []) ∧ Spr s2 (k + 10) := by
    by_cases he : told = []
    · subst he
      exact ⟨false, s1, rfl, fun z => (Bool.noConfusion z), hs1.mono (by omega)⟩
    · obtain ⟨d, s2, e, d0, d1, hs2⟩ := draw_ok (many := 4) hs1 (by omega) (by decide) (by decide)
      refine ⟨decide (d = 0), s2, ?_, fun _ => he, hs2.mono (by omega)⟩
      rw [if_pos (by rw [Bool.not_eq_true', List.isEmpty_eq_false_iff]; exact he), e]
      rfl
  obtain ⟨b, s2, e2, hb, hs2⟩ := two
  have three : ∃ w s3, (if b = true then
      (m__law_pick s2 told).bind fun x32 =>
      (cutSO x32.1 none (some (7 : Int))).bind fun x34 =>
      (m__law_pick x32.2 ([(Str.ofString "a"), (Str.ofString "m"), (Str.ofString "z"), (Str.ofString "0"), (Str.ofString "9")] : List Str)).bind fun x36 =>
      (catS x34 x36.1).bind fun x38 =>
      some (x36.2, x38)
      else
      some (s2, one)) = some (s3, w) ∧ nameB w = true ∧ Spr s3 (k + 12) := by
    cases b with
    | false => exact ⟨one, s2, rfl, hn, hs2.mono (by omega)⟩
    | true =>
      obtain ⟨x, s3, e3, hx, hs3⟩ := pick_ok (xs := told) hs2 (by omega) (List.length_pos_iff.mpr (hb rfl)) (by omega)
      obtain ⟨y, s4, e4, hy, hs4⟩ := pick_ok (xs := ([(Str.ofString "a"), (Str.ofString "m"), (Str.ofString "z"), (Str.ofString "0"), (Str.ofString "9")] : List Str)) hs3 (by omega) (by decide) (by decide)
      obtain ⟨c, rfl, hc⟩ := five_ok y hy
      obtain ⟨h1, h2⟩ := nameB_cut (ht.nm x hx)
      have h3 := nameB_len (ht.nm x hx)
      refine ⟨cutS x none (some (7 : Int)) ++ oneS c, s4, ?_, nameB_app h1 h2 hc, hs4.mono (by omega)⟩
      rw [if_pos rfl, e3, Option.bind_some]
      show (cutSO x none (some (7 : Int))).bind _ = _
      rw [cutSO, if_pos (by rw [sizeLine_eq]; omega), Option.bind_some]
      show (m__law_pick s3 _).bind _ = _
      rw [e4, Option.bind_some]
      show (catS _ (oneS c)).bind _ = _
      rw [catS_ok (by rw [one_len]; omega)]
      rfl
  obtain ⟨w, s3, e3, hw, hs3⟩ := three
  obtain ⟨j, j1, j2⟩ := cand_free hi (told := told) (by omega)
  obtain ⟨w', t, e4, hw', hn'⟩ := while_ok hi told 26 0 64 w hw rfl (by decide) (.inr ⟨j, Nat.zero_le _, j1, j2⟩)
  refine ⟨w', s3, ?_, hw', hn', hs3⟩
  show (m__law_w_name s).bind _ = _
  rw [e1, Option.bind_some, Option.bind_some]
  show (if (!told.isEmpty) = true then (m__law_draw s1 (4 : Int)).bind fun x17 => some ((decide (x17.1 = (0 : Int))), x17.2) else some (false, s1)).bind _ = _
  rw [e2, Option.bind_some]
  refine (congrArg (fun o => Option.bind o _) e3).trans ?_
  rw [Option.bind_some, Option.bind_some]
  refine (congrArg (fun o => Option.bind o _) e4).trans ?_
  rw [Option.bind_some]
  show (appO told w').bind _ = _
  rw [app_ok (by omega)]
  rfl
theorem names_fold : ∀ (n i : Nat) {s : List Int} {told : List Str} {k : Int}, Spr s k → k + 12 * n ≤ 800000 → Nms told → told.length = i → i + n ≤ 24 →
    ∃ told' s', foldO NF (s, told) ((List.range' i n).map fun (j : Nat) => (j : Int)) = some (s', told') ∧ Nms told' ∧ told'.length = i + n ∧ Spr s' (k + 12 * n)
  | 0, i, s, told, k, hs, _, ht, hl, _ => ⟨told, s, rfl, ht, hl, hs.mono (by simp)⟩
  | n + 1, i, s, told, k, hs, hk, ht, hl, hi => by
    obtain ⟨w, s1, e1, hw, hn, hs1⟩ := nf_ok (i := i) hs (by omega) ht (by omega) (by omega)
    obtain ⟨t', s2, e2, h1, h2, h3⟩ := names_fold n (i + 1) hs1 (by omega) (ht.snoc hw hn) (by rw [List.length_append, List.length_singleton, hl]) (by omega)
    refine ⟨t', s2, ?_, h1, by omega, h3.mono (by omega)⟩
    rw [List.range'_succ, List.map_cons, foldO, e1, Option.bind_some]
    exact e2
theorem rng24 : rng 0 (24 : Int) = (List.range' 0 24).map fun (j : Nat) => (j : Int) := by decide +kernel
theorem w_names_ok {s : List Int} {k : Int} (hs : Spr s k) (hk : k ≤ 700000) : ∃ told s', m__law_w_names s (24 : Int) = some (told, s') ∧ Nms told ∧ told.length = 24 ∧ Spr s' (k + 288) := by
  obtain ⟨told, s', e, h1, h2, h3⟩ := names_fold 24 0 (told := []) hs (by omega) ⟨fun _ h => absurd h List.not_mem_nil, .nil⟩ rfl (by decide)
  refine ⟨told, s', ?_, h1, by omega, h3.mono (by omega)⟩
  unfold m__law_w_names
  rw [rngO_small (by decide) (by decide) (by decide) (by decide), Option.bind_some, rng24]
  refine (congrArg (fun o => Option.bind o _) e).trans ?_
  rfl
end K59
set_option Elab.async false
set_option linter.all false
set_option maxRecDepth 100000
set_option maxHeartbeats 4000000
set_option autoImplicit false
namespace K59
open PySem PySem.Spec PyProof.Rows L2 T
/-! ### drawn steps -/
def Shp (d : D) (w : Str) (r : List Str) : Prop := (w = E8 ∧ d = .tup [.str w, .tup (r.map D.str)]) ∨ (w ≠ E8 ∧ ∃ y, r = [y] ∧ d = .tup [.str w, .str y])
theorem Shp.st {d : D} {w : Str} {r : List Str} (h : Shp d w r) : StepW d w r := by
  rcases h with ⟨h1, rfl⟩ | ⟨h1, y, rfl, rfl⟩
  · exact ⟨_, rfl, .inl ⟨h1, rfl⟩⟩
  · exact ⟨_, rfl, .inr ⟨h1, y, rfl, rfl⟩⟩
inductive Shps : List D → List (Str × List Str) → Prop
  | nil : Shps [] []
  | cons {d : D} {w : Str} {r : List Str} {ds : List D} {ps : List (Str × List Str)} : Shp d w r → GoodW w r → Shps ds ps → Shps (d :: ds) ((w, r) :: ps)
theorem Shps.st {ds : List D} {ps : List (Str × List Str)} (h : Shps ds ps) : Steps ds ps := by
  induction h with
  | nil => exact .nil
  | cons a g _ ih => exact .cons a.st g ih
theorem Shps.snoc {ds : List D} {ps : List (Str × List Str)} {d : D} {w : Str} {r : List Str} (h : Shps ds ps) (a : Shp d w r) (g : GoodW w r) : Shps (ds ++ [d]) (ps ++ [(w, r)]) := by
  induction h with
  | nil => exact .cons a g .nil
  | cons a' g' _ ih => exact .cons a' g' ih
theorem cut8 {α : Type} {xs : List α} (h : 8 ≤ xs.length) : cutL xs none (some (8 : Int)) = xs.take 8 := by
  unfold cutL
  rw [HT.sIx_none]
  have := HT.sIx_nat xs.length xs.length 8
  rw [show ((8 : Nat) : Int) = (8 : Int) from rfl] at this
  rw [this, List.drop_zero, Nat.sub_zero, Nat.min_eq_left h]
abbrev SF (v16 : List Str) : ((List Int) × (List D)) → Int → Option ((List Int) × (List D)) := (fun (s27 : ((List Int) × (List D))) (a29 : Int) =>
  (m__law_pick s27.1 ([(Str.ofString "turn"), (Str.ofString "put"), (Str.ofString "take"), (Str.ofString "eight")] : List Str)).bind fun x33 =>
  (some x33.1).bind fun word35 =>
  (if (decide (word35 = (Str.ofString "eight"))) = true then (m__law_mixed x33.2 v16).bind fun x39 =>
  some ((AsD.toD ((Tp.mk (cutL x39.1 none (some (8 : Int)))) : (Tp Str))), x39.2) else (m__law_pick x33.2 v16).bind fun x41 =>
  some ((AsD.toD (x41.1 : Str)), x41.2)).bind fun r43 =>
  (appO s27.2 (AsD.toD ((word35, r43.1) : (Str × D)))).bind fun x51 =>
  some (r43.2, x51))
theorem all_of {r : List Str} (h : ∀ x ∈ r, nameB x = true) : r.all nameB = true := List.all_eq_true.mpr h
theorem sf_ok {v16 : List Str} {s : List Int} {k : Int} {ds : List D} {i : Int} (hv : Nms v16) (hl : v16.length = 24) (hs : Spr s k) (hk : k ≤ 700000) (hd : ds.length ≤ 1000) : ∃ d w r s', SF v16 (s, ds) i = some (s', ds ++ [d]) ∧ Shp d w r ∧ GoodW w r ∧ Spr s' (k + 25) := by
  obtain ⟨w, s1, e1, hw, hs1⟩ := pick_ok (xs := ([(Str.ofString "turn"), (Str.ofString "put"), (Str.ofString "take"), (Str.ofString "eight")] : List Str)) hs (by omega) (by decide) (by decide)
  by_cases he : w = E8
  · obtain ⟨ys, s2, e2, hp, hs2⟩ := mixed_ok (xs := v16) hs1 (by omega) (by omega)
    have hyl : ys.length = 24 := by rw [hp.length_eq, hl]
    refine ⟨.tup [.str w, .tup ((ys.take 8).map D.str)], w, ys.take 8, s2, ?_, .inl ⟨he, rfl⟩, .inl ⟨he, by rw [List.length_take]; omega, all_of fun x hx => hv.nm x (hp.mem_iff.mp (List.mem_of_mem_take hx)), (List.take_sublist 8 ys).nodup (hp.symm.nodup hv.nd)⟩, hs2.mono (by omega)⟩
    show (m__law_pick s _).bind _ = _
    rw [e1, Option.bind_some, Option.bind_some, if_pos (decide_eq_true he)]
    show Option.bind (Option.bind (m__law_mixed s1 v16) _) _ = _
    rw [e2, Option.bind_some, Option.bind_some, cut8 (by show 8 ≤ ys.length; omega)]
    show (appO ds _).bind _ = _
    rw [app_ok (by omega)]
    rfl
  · obtain ⟨y, s2, e2, hy, hs2⟩ := pick_ok (xs := v16) hs1 (by omega) (by omega) (by omega)
    have hw3 : w ∈ W3 := by
      simp only [List.mem_cons, List.not_mem_nil, or_false] at hw ⊢
      rcases hw with h | h | h | h
      · exact .inl h
      · exact .inr (.inl h)
      · exact .inr (.inr h)
      · exact absurd h he
    refine ⟨.tup [.str w, .str y], w, [y], s2, ?_, .inr ⟨he, y, rfl, rfl⟩, .inr ⟨hw3, rfl, by rw [List.all_cons, hv.nm y hy]; rfl⟩, hs2.mono (by omega)⟩
    show (m__law_pick s _).bind _ = _
    rw [e1, Option.bind_some, Option.bind_some, if_neg (by rw [decide_eq_true_eq]; exact he)]
    show Option.bind (Option.bind (m__law_pick s1 v16) _) _ = _
    rw [e2, Option.bind_some, Option.bind_some]
    show (appO ds _).bind _ = _
    rw [app_ok (by omega)]
    rfl
theorem steps_fold {v16 : List Str} (hv : Nms v16) (hl : v16.length = 24) : ∀ (r : List Int) {s : List Int} {k : Int} {ds : List D} {ps : List (Str × List Str)}, Spr s k → k + 25 * r.length ≤ 700000 → Shps ds ps → ds.length + r.length ≤ 1000 →
    ∃ ds' ps' s', foldO (SF v16) (s, ds) r = some (s', ds') ∧ Shps ds' ps' ∧ ds'.length = ds.length + r.length ∧ Spr s' (k + 25 * r.length)
  | [], s, k, ds, ps, hs, _, h, _ => ⟨ds, ps, s, rfl, h, rfl, hs.mono (by simp)⟩
  | x :: r, s, k, ds, ps, hs, hk, h, hd => by
    rw [List.length_cons] at hk hd
    obtain ⟨d, w, ws, s1, e1, a, g, hs1⟩ := sf_ok (i := x) hv hl hs (by omega) (show ds.length ≤ 1000 by omega)
    obtain ⟨ds', ps', s2, e2, h1, h2, h3⟩ := steps_fold hv hl r hs1 (by omega) (h.snoc a g) (by rw [List.length_append, List.length_singleton]; omega)
    refine ⟨ds', ps', s2, ?_, h1, by rw [h2, List.length_append, List.length_singleton, List.length_cons]; omega, h3.mono (by rw [List.length_cons]; omega)⟩
    rw [foldO, e1, Option.bind_some]
    exact e2
/-! ### lists and tuples exchanged -/
structure OkD (k b : Nat) (d : D) : Prop where
  nod : d.nod = true
  dp : d.dp ≤ k
  sh : d.pd.showable = true
  lv : d.pd.leavesShort 8 = true
  de : d.pd.depth ≤ k
  bu : d.pd.bulk ≤ b
def Sml (x : Str) : Prop := x.length ≤ 8 ∧ ∀ c ∈ x.cps.toList, c < 16 ^ 8
theorem OkD.str {x : Str} (h : Sml x) (k : Nat) : OkD k 8 (.str x) := ⟨rfl, Nat.zero_le _, by simp only [D.pd, PyData.showable], by simp only [D.pd, PyData.leavesShort, List.all_eq_true, decide_eq_true_eq]; exact h.2, by simp only [D.pd, PyData.depth]; exact Nat.zero_le _, by simp only [D.pd, PyData.bulk]; exact h.1⟩
theorem OkD.mono {k b k' b' : Nat} {d : D} (h : OkD k b d) (hk : k ≤ k') (hb : b ≤ b') : OkD k' b' d := ⟨h.nod, Nat.le_trans h.dp hk, h.sh, h.lv, Nat.le_trans h.de hk, Nat.le_trans h.bu hb⟩
theorem OkD.all {k b : Nat} : ∀ {ds : List D}, (∀ d ∈ ds, OkD k b d) → PyData.showableAll (D.pdAll ds) = true ∧ PyData.leavesShortAll 8 (D.pdAll ds) = true ∧ PyData.depthAll (D.pdAll ds) ≤ k ∧ PyData.bulkAll (D.pdAll ds) ≤ ds.length * (b + 1)
  | [], _ => ⟨rfl, rfl, Nat.zero_le _, Nat.zero_le _⟩
  | d :: ds, h => by
    obtain ⟨h1, h2, h3, h4⟩ := OkD.all (ds := ds) fun x hx => h x (List.mem_cons_of_mem _ hx)
    have g := h d List.mem_cons_self
    rw [D.pdAll, PyData.showableAll, PyData.leavesShortAll, PyData.depthAll, PyData.bulkAll, g.sh, g.lv, h1, h2, List.length_cons, Nat.succ_mul]
    have := g.bu
    exact ⟨rfl, rfl, Nat.max_le.mpr ⟨g.de, h3⟩, by omega⟩
theorem OkD.lst {k b : Nat} {ds : List D} (h : ∀ d ∈ ds, OkD k b d) (hl : ds.length ≤ 1000000) : OkD (k + 1) (ds.length * (b + 1)) (.lst ds) := by
  obtain ⟨h1, h2, h3, h4⟩ := OkD.all h
  exact ⟨nod_lst (nod_all fun d hd => (h d hd).nod) hl, dp_lst fun d hd => (h d hd).dp, by rw [D.pd, PyData.showable]; exact h1, by rw [D.pd, PyData.leavesShort]; exact h2, by rw [D.pd, PyData.depth]; omega, by rw [D.pd, PyData.bulk]; exact h4⟩
theorem OkD.tup {k b : Nat} {ds : List D} (h : ∀ d ∈ ds, OkD k b d) (hl : ds.length ≤ 1000000) : OkD (k + 1) (ds.length * (b + 1)) (.tup ds) := by
  obtain ⟨h1, h2, h3, h4⟩ := OkD.all h
  exact ⟨nod_tup (nod_all fun d hd => (h d hd).nod) hl, dp_tup fun d hd => (h d hd).dp, by rw [D.pd, PyData.showable]; exact h1, by rw [D.pd, PyData.leavesShort]; exact h2, by rw [D.pd, PyData.depth]; omega, by rw [D.pd, PyData.bulk]; exact h4⟩
inductive Rel2 (R : D → D → Prop) : List D → List D → Prop
  | nil : Rel2 R [] []
  | cons {x y : D} {xs ys : List D} : R x y → Rel2 R xs ys → Rel2 R (x :: xs) (y :: ys)
theorem Rel2.len {R : D → D → Prop} {xs ys : List D} (h : Rel2 R xs ys) : ys.length = xs.length := by
  induction h with
  | nil => rfl
  | cons _ _ ih => rw [List.length_cons, List.length_cons, ih]
theorem Rel2.mem {R : D → D → Prop} {P : D → Prop} (hp : ∀ x y, R x y → P y) {xs ys : List D} (h : Rel2 R xs ys) : ∀ y ∈ ys, P y := by
  induction h with
  | nil => exact fun _ h => absurd h List.not_mem_nil
  | cons a _ ih => exact fun y hy => (List.mem_cons.mp hy).elim (fun e => by rw [e]; exact hp _ _ a) (ih y)
theorem lcS_rel {e : List Int → D → Option (D × List Int)} {R : D → D → Prop} {c : Nat} : ∀ {xs : List D}, (∀ x ∈ xs, ∀ s k, Spr s k → k + c ≤ 900000 → ∃ x' s', e s x = some (x', s') ∧ R x x' ∧ Spr s' (k + c)) → ∀ {s k}, Spr s k → k + c * xs.length ≤ 900000 →
    ∃ ys s', lcS e s xs = some (ys, s') ∧ Rel2 R xs ys ∧ Spr s' (k + c * xs.length)
  | [], _, s, k, hs, _ => ⟨[], s, rfl, .nil, hs.mono (by simp)⟩
  | x :: xs, h, s, k, hs, hk => by
    have ee : (c : Int) * ((x :: xs).length : Int) = c * xs.length + c := by
      rw [List.length_cons]
      have : ((xs.length + 1 : Nat) : Int) = (xs.length : Int) + 1 := by omega
      rw [this, Int.mul_add, Int.mul_one]
    rw [ee] at hk ⊢
    have h0 : (0 : Int) ≤ (c : Int) * (xs.length : Int) := Int.mul_nonneg (by omega) (by omega)
    obtain ⟨x', s1, e1, r1, hs1⟩ := h x List.mem_cons_self s k hs (by omega)
    obtain ⟨ys, s2, e2, r2, hs2⟩ := lcS_rel (fun a ha => h a (List.mem_cons_of_mem _ ha)) hs1 (by omega)
    refine ⟨x' :: ys, s2, ?_, .cons r1 r2, hs2.mono (by omega)⟩
    show (e s x).bind _ = _
    rw [e1, Option.bind_some]
    show (lcS e s1 xs).bind _ = _
    rw [e2]
    rfl
theorem loose_str {n : Nat} {s : List Int} {x : Str} : m__law_loose (n + 1) s (.str x) = some (.str x, s) := by
  rw [m__law_loose]
  rfl
theorem seq_or {d : D} {xs : List D} (h : d.seq? = some xs) : d.isDct = false ∧ (D.isLst d || (D.isTup d || false)) = true := by
  cases d <;> first | exact ⟨rfl, rfl⟩ | cases h
theorem loose_seq {n : Nat} {d : D} {xs : List D} {R : D → D → Prop} {c : Nat} (hd : d.seq? = some xs) (hl : xs.length ≤ 1000) (h : ∀ x ∈ xs, ∀ s k, Spr s k → k + c ≤ 900000 → ∃ x' s', m__law_loose n s x = some (x', s') ∧ R x x' ∧ Spr s' (k + c)) {s : List Int} {k : Int} (hs : Spr s k) (hk : k + c * xs.length ≤ 900000) :
    ∃ d' ys s', m__law_loose (n + 1) s d = some (d', s') ∧ (d' = .lst ys ∨ d' = .tup ys) ∧ Rel2 R xs ys ∧ Spr s' (k + c * xs.length + 1) := by
  obtain ⟨ys, s1, e1, r1, hs1⟩ := lcS_rel (e := fun (s12 : (List Int)) (a11 : D) => (m__law_loose n s12 a11).bind fun x15 => some (x15.1, x15.2)) (R := R) (fun x hx s k hs hk => by
    obtain ⟨x', s', e, r⟩ := h x hx s k hs hk
    exact ⟨x', s', by rw [e]; rfl, r⟩) hs hk
  obtain ⟨q, s2, e2, q0, q1, hs2⟩ := draw_ok (many := 2) hs1 (by omega) (by decide) (by decide)
  obtain ⟨h1, h2⟩ := seq_or hd
  refine ⟨if (decide ((0 : Int) < q)) = true then .lst ys else .tup ys, ys, s2, ?_, ?_, r1, hs2⟩
  · rw [m__law_loose, h1, if_neg Bool.false_ne_true, h2, if_neg (by decide), hd, Option.bind_some]
    unfold lcSL
    rw [e1, Option.bind_some, if_pos (by have := r1.len; show ys.length ≤ _; rw [sizeLine_eq]; omega), Option.bind_some, Option.bind_some]
    show (m__law_draw s1 (2 : Int)).bind _ = _
    rw [e2, Option.bind_some, toD_lst]
    have : (AsD.toD (Tp.mk ys) : D) = .tup ys := congrArg D.tup (List.map_id ys)
    rw [this]
    by_cases hq : decide ((0 : Int) < q) = true
    · rw [if_pos hq]; exact congrArg some (by rw [if_pos hq])
    · rw [if_neg hq]; exact congrArg some (by rw [if_neg hq])
  · by_cases hq : decide ((0 : Int) < q) = true
    · exact .inl (if_pos hq)
    · exact .inr (if_neg hq)
end K59
set_option Elab.async false
set_option linter.all false
set_option maxRecDepth 100000
set_option maxHeartbeats 4000000
set_option autoImplicit false
namespace K59
open PySem PySem.Spec PyProof.Rows L2 T
theorem sig_small : ∀ c ∈ SIG, c < 16 ^ 8 := by decide +kernel
theorem sml_name {x : Str} (h : nameB x = true) : Sml x := by
  have h1 := nameB_len h
  refine ⟨h1.2, fun c hc => ?_⟩
  cases e : x.cps.toList with
  | nil => rw [e] at hc; exact absurd hc List.not_mem_nil
  | cons d ds =>
    rw [nameB_cons e] at h
    simp only [Bool.and_eq_true, decide_eq_true_eq, List.all_eq_true] at h
    rw [e] at hc
    exact sig_small c (h.2.2 c hc)
theorem w4_sml : ∀ w ∈ (E8 :: W3), (w.cps.toList.all fun c => decide (c < 16 ^ 8)) = true := by decide +kernel
theorem sml_word {w : Str} {r : List Str} (h : GoodW w r) : Sml w := by
  refine ⟨Nat.le_trans (good_w h) (by decide), fun c hc => ?_⟩
  have : w ∈ (E8 :: W3) := by
    rcases h with ⟨rfl, _⟩ | ⟨h, _⟩
    · exact List.mem_cons_self
    · exact List.mem_cons_of_mem _ h
  exact of_decide_eq_true (List.all_eq_true.mp (w4_sml w this) c hc)
theorem good_names {w : Str} {r : List Str} (h : GoodW w r) : ∀ x ∈ r, nameB x = true := by
  rcases h with ⟨_, _, h, _⟩ | ⟨_, _, h⟩
  · exact List.all_eq_true.mp h
  · exact List.all_eq_true.mp h
theorem Rel2.eqs {R : D → D → Prop} (h : ∀ x y, R x y → y = x) {xs ys : List D} (r : Rel2 R xs ys) : ys = xs := by
  induction r with
  | nil => rfl
  | cons a _ ih => rw [ih, h _ _ a]
theorem loose_inner {n : Nat} {r : List Str} (hr : ∀ x ∈ r, Sml x) (hl : r.length ≤ 8) {s : List Int} {k : Int} (hs : Spr s k) (hk : k ≤ 899999) :
    ∃ y s', m__law_loose (n + 2) s (.tup (r.map D.str)) = some (y, s') ∧ y.seq? = some (r.map D.str) ∧ OkD 1 72 y ∧ Spr s' (k + 1) := by
  obtain ⟨y, ys, s', e, hy, r2, hs'⟩ := loose_seq (n := n + 1) (d := .tup (r.map D.str)) (xs := r.map D.str) (R := fun x x' => x' = x) (c := 0) rfl (by rw [List.length_map]; omega) (fun x hx s k hs _ => by
    obtain ⟨z, _, rfl⟩ := List.mem_map.mp hx
    exact ⟨.str z, s, loose_str, rfl, by simpa using hs⟩) hs (by simp; omega)
  obtain rfl := r2.eqs fun _ _ h => h
  have ok : ∀ d ∈ r.map D.str, OkD 0 8 d := fun d hd => by
    obtain ⟨z, hz, rfl⟩ := List.mem_map.mp hd
    exact OkD.str (hr z hz) 0
  have hl2 : (r.map D.str).length ≤ 8 := by rw [List.length_map]; exact hl
  have hb : (r.map D.str).length * (8 + 1) ≤ 72 := by omega
  refine ⟨y, s', e, ?_, ?_, by simpa using hs'⟩
  · rcases hy with rfl | rfl <;> rfl
  · rcases hy with rfl | rfl
    · exact (OkD.lst ok (by omega)).mono (Nat.le_refl _) hb
    · exact (OkD.tup ok (by omega)).mono (Nat.le_refl _) hb
theorem loose_step {n : Nat} {d : D} {w : Str} {r : List Str} (h : Shp d w r) (g : GoodW w r) {s : List Int} {k : Int} (hs : Spr s k) (hk : k ≤ 899997) :
    ∃ d' s', m__law_loose (n + 3) s d = some (d', s') ∧ StepW d' w r ∧ OkD 2 146 d' ∧ Spr s' (k + 3) := by
  have hrs : ∀ x ∈ r, Sml x := fun x hx => sml_name (good_names g x hx)
  have key : ∃ x, d = .tup [.str w, x] ∧ ((w = E8 ∧ x = .tup (r.map D.str)) ∨ (w ≠ E8 ∧ ∃ y, x = .str y ∧ r = [y])) := by
    rcases h with ⟨h1, rfl⟩ | ⟨h1, y, rfl, rfl⟩
    · exact ⟨_, rfl, .inl ⟨h1, rfl⟩⟩
    · exact ⟨_, rfl, .inr ⟨h1, y, rfl, rfl⟩⟩
  obtain ⟨x, rfl, hx⟩ := key
  obtain ⟨d', ys, s', e, hd', r2, hs'⟩ := loose_seq (n := n + 2) (d := .tup [.str w, x]) (xs := [.str w, x]) (R := fun a a' => ((∃ z, a = .str z ∧ a' = .str z) ∨ (a = .tup (r.map D.str) ∧ a'.seq? = some (r.map D.str))) ∧ OkD 1 72 a') (c := 1) rfl (by rw [List.length_cons, List.length_cons, List.length_nil]; decide) (fun a ha s k hs hk => by
    have str : ∀ z, Sml z → a = .str z → ∃ x' s', m__law_loose (n + 2) s a = some (x', s') ∧ (((∃ z, a = .str z ∧ x' = .str z) ∨ (a = .tup (r.map D.str) ∧ x'.seq? = some (r.map D.str))) ∧ OkD 1 72 x') ∧ Spr s' (k + ((1 : Nat) : Int)) := by
      rintro z hz rfl
      exact ⟨.str z, s, loose_str, ⟨.inl ⟨z, rfl, rfl⟩, (OkD.str hz 1).mono (Nat.le_refl _) (by decide)⟩, hs.mono (by omega)⟩
    rcases List.mem_cons.mp ha with ha | ha
    · exact str w (sml_word g) ha
    · have ha := List.mem_singleton.mp ha
      rcases hx with ⟨_, hx⟩ | ⟨_, y, hx, rfl⟩
      · rw [ha, hx]
        obtain ⟨y, s', e, e2, o, hs'⟩ := loose_inner (n := n) hrs (good_r g).1 hs (by omega)
        exact ⟨y, s', e, ⟨.inr ⟨rfl, e2⟩, o⟩, hs'⟩
      · exact str y (hrs y List.mem_cons_self) (ha.trans hx)) hs (by show k + (1 : Int) * (2 : Int) ≤ 900000; omega)
  have ok := r2.mem (P := OkD 1 72) fun _ _ h => h.2
  cases r2 with
  | cons a1 r3 => cases r3 with
    | cons a2 r4 => cases r4 with
      | nil =>
        rename_i y1 y2
        have e1 : y1 = .str w := by
          rcases a1.1 with ⟨z, h1, h2⟩ | ⟨h1, _⟩
          · cases h1; exact h2
          · cases h1
        subst e1
        have hseq : d'.seq? = some [.str w, y2] := by rcases hd' with rfl | rfl <;> rfl
        refine ⟨d', s', e, ⟨y2, hseq, ?_⟩, ?_, hs'.mono (by show k + (1 : Int) * (2 : Int) + 1 ≤ k + 3; omega)⟩
        · rcases hx with ⟨h1, rfl⟩ | ⟨h1, y, rfl, rfl⟩
          · rcases a2.1 with ⟨z, h2, _⟩ | ⟨_, h2⟩
            · cases h2
            · exact .inl ⟨h1, h2⟩
          · rcases a2.1 with ⟨z, h2, h3⟩ | ⟨h2, _⟩
            · cases h2; exact .inr ⟨h1, y, h3, rfl⟩
            · cases h2
        · have := (OkD.lst ok (by rw [List.length_cons, List.length_cons, List.length_nil]; decide))
          have := (OkD.tup ok (by rw [List.length_cons, List.length_cons, List.length_nil]; decide))
          rcases hd' with rfl | rfl <;> assumption
theorem Rel2.steps {ds ys : List D} {ps : List (Str × List Str)} {P : D → Prop} (r : Rel2 (fun x x' => (∀ w r, Shp x w r → GoodW w r → StepW x' w r) ∧ P x') ds ys) (h : Shps ds ps) : Steps ys ps := by
  induction h generalizing ys with
  | nil => cases r; exact .nil
  | cons a g _ ih =>
    cases r with
    | cons b r => exact .cons (b.1 _ _ a g) g (ih r)
theorem Shps.mem {ds : List D} {ps : List (Str × List Str)} (h : Shps ds ps) : ∀ d ∈ ds, ∃ w r, Shp d w r ∧ GoodW w r := by
  induction h with
  | nil => exact fun _ h => absurd h List.not_mem_nil
  | cons a g _ ih => exact fun x hx => (List.mem_cons.mp hx).elim (fun e => by rw [e]; exact ⟨_, _, a, g⟩) (ih x)
theorem shp_inj {d : D} {w w' : Str} {r r' : List Str} (h : Shp d w r) (h' : Shp d w' r') : w = w' ∧ r = r' := by
  have inj : ∀ {r r' : List Str}, r.map D.str = r'.map D.str → r = r' := fun {r r'} e => by
    have := strs_map r
    rw [e, strs_map r'] at this
    cases this
    rfl
  rcases h with ⟨h1, rfl⟩ | ⟨h1, y, rfl, rfl⟩ <;> rcases h' with ⟨h2, e⟩ | ⟨h2, y', rfl, e⟩
  · injection e with e; injection e with e1 e2; injection e1 with e1; injection e2 with e2 _; injection e2 with e2
    exact ⟨e1, inj e2⟩
  · injection e with e; injection e with e1 e2; injection e2 with e2 _; cases e2
  · injection e with e; injection e with e1 e2; injection e2 with e2 _; cases e2
  · injection e with e; injection e with e1 e2; injection e1 with e1; injection e2 with e2 _; injection e2 with e2
    exact ⟨e1, by rw [e2]⟩
theorem loose_list {ds : List D} {ps : List (Str × List Str)} (h : Shps ds ps) (hl : ds.length ≤ 20) {s : List Int} {k : Int} (hs : Spr s k) (hk : k ≤ 600000) :
    ∃ own ys s', m__law_loose 4 s (.lst ds) = some (own, s') ∧ own.seq? = some ys ∧ Steps ys ps ∧ OkD 3 2940 own ∧ Spr s' (k + 61) := by
  obtain ⟨own, ys, s', e, hy, r2, hs'⟩ := loose_seq (n := 3) (d := .lst ds) (xs := ds) (R := fun x x' => (∀ w r, Shp x w r → GoodW w r → StepW x' w r) ∧ OkD 2 146 x') (c := 3) rfl (by omega) (fun x hx s k hs hk => by
    obtain ⟨w, r, a, g⟩ := h.mem x hx
    obtain ⟨d', s', e, st, ok, hs'⟩ := loose_step (n := 0) a g hs (by omega)
    exact ⟨d', s', e, ⟨fun w' r' a' _ => by obtain ⟨rfl, rfl⟩ := shp_inj a a'; exact st, ok⟩, hs'⟩) hs (by omega)
  have ok := r2.mem (P := OkD 2 146) fun _ _ h => h.2
  have hyl : ys.length ≤ 20 := by rw [r2.len]; exact hl
  refine ⟨own, ys, s', e, ?_, r2.steps h, ?_, hs'.mono (by omega)⟩
  · rcases hy with rfl | rfl <;> rfl
  · rcases hy with rfl | rfl
    · exact (OkD.lst ok (by omega)).mono (Nat.le_refl _) (by omega)
    · exact (OkD.tup ok (by omega)).mono (Nat.le_refl _) (by omega)
theorem repr_ok {own : D} {ys : List D} (h : OkD 3 2940 own) (hs : own.seq? = some ys) : reprO own = some own.pd.shown := by
  unfold reprO
  have h1 := PyData.shown_le_bulk 8 (by decide) own.pd h.lv
  have h2 := h.bu
  have h3 : own.isSeq = true := by cases own <;> first | rfl | cases hs
  exact if_pos ⟨h3, h.nod, h.sh, Nat.le_trans h.de (by decide), by rw [sizeLine_eq]; omega⟩
theorem textOf_len {ps : List (Str × List Str)} (hg : ∀ p ∈ ps, GoodW p.1 p.2) : (textOf ps).length ≤ 78 * ps.length := by
  induction ps with
  | nil => exact Nat.le_of_eq (by decide +kernel)
  | cons p ps ih =>
    have h1 := ih fun q hq => hg q (List.mem_cons_of_mem _ hq)
    have h2 := lineT_len (hg p List.mem_cons_self)
    have e : textOf (p :: ps) = lineT p.1 p.2 ++ textOf ps := join_nil _ _
    rw [e, Str.length_append, List.length_cons]
    omega
end K59
set_option Elab.async false
set_option linter.all false
set_option maxRecDepth 100000
set_option maxHeartbeats 4000000
set_option autoImplicit false
namespace K59
open PySem PySem.Spec PyProof.Rows L2 T
/-! ### bent texts -/
def Wt (ls : List Str) : Nat := (ls.map (·.length)).sum + ls.length
theorem Wt_cons (x : Str) (ls : List Str) : Wt (x :: ls) = x.length + 1 + Wt ls := by
  unfold Wt
  rw [List.map_cons, List.sum_cons, List.length_cons]
  omega
theorem Wt_split {x y : Str} (hy : y.length = 1) : Wt (Txt.split x y) = x.length + 1 := split_len hy
theorem Wt_erase : ∀ (ls : List Str) (i : Nat), Wt (ls.eraseIdx i) ≤ Wt ls
  | [], _ => Nat.le_refl _
  | x :: ls, 0 => by rw [List.eraseIdx_zero, List.tail_cons, Wt_cons]; omega
  | x :: ls, i + 1 => by
    rw [List.eraseIdx_cons_succ, Wt_cons, Wt_cons]
    have := Wt_erase ls i
    omega
theorem Wt_set : ∀ (ls : List Str) (i : Nat) (x : Str), Wt (ls.set i x) ≤ Wt ls + x.length
  | [], _, _ => by rw [List.set_nil]; omega
  | y :: ls, 0, x => by rw [List.set_cons_zero, Wt_cons, Wt_cons]; omega
  | y :: ls, i + 1, x => by
    rw [List.set_cons_succ, Wt_cons, Wt_cons]
    have := Wt_set ls i x
    omega
theorem Wt_mem {x : Str} {ls : List Str} (h : x ∈ ls) : x.length + 1 ≤ Wt ls := by
  induction ls with
  | nil => exact absurd h List.not_mem_nil
  | cons y ls ih =>
    rw [Wt_cons]
    rcases List.mem_cons.mp h with rfl | h
    · omega
    · have := ih h; omega
theorem Wt_perm {xs ys : List Str} (h : xs.Perm ys) : Wt xs = Wt ys := by
  induction h with
  | nil => rfl
  | cons x _ ih => rw [Wt_cons, Wt_cons, ih]
  | swap x y l => rw [Wt_cons, Wt_cons, Wt_cons, Wt_cons]; omega
  | trans _ _ a b => rw [a, b]
theorem Wt_len (ls : List Str) : ls.length ≤ Wt ls := by unfold Wt; omega
theorem join_W {y : Str} {ls : List Str} (hy : y.length = 1) (h : Wt ls ≤ 1000000) : joinL y ls = some (Str.join y ls) ∧ (Str.join y ls).length ≤ Wt ls := by
  have h2 := StrLaws.join_length_le y ls
  unfold Wt at h ⊢
  rw [hy] at h2
  exact ⟨joinL_ok (by rw [hy]; omega), by omega⟩
theorem setO_ok {α : Type} {xs : List α} {i : Int} {v : α} (h0 : 0 ≤ i) (h1 : i < xs.length) : setO xs i v = some (xs.set i.toNat v) := by
  unfold setO L2.ixN
  rw [if_pos h0, if_pos h1]
  rfl
theorem popO_ok {α : Type} {xs : List α} {i : Int} (h0 : 0 ≤ i) (h1 : i < xs.length) (h2 : xs.length ≤ 1000000) : ∃ x, popO xs i = some (x, xs.eraseIdx i.toNat) := by
  have hlt : i.toNat < xs.length := by omega
  refine ⟨xs[i.toNat], ?_⟩
  unfold popO
  rw [if_pos ⟨h0, by omega⟩, List.getElem?_eq_getElem hlt]
  rfl
theorem atI_ok {α : Type} {xs : List α} {i : Int} (h0 : 0 ≤ i) (h1 : i < xs.length) : ∃ x, L2.atI xs i = some x ∧ x ∈ xs := by
  have hlt : i.toNat < xs.length := by omega
  exact ⟨xs[i.toNat], by rw [atI_nat h0 h1, List.getElem?_eq_getElem hlt], List.getElem_mem hlt⟩
theorem cutS_len (z : Str) (lo hi : Option Int) : (cutS z lo hi).length ≤ z.length := by
  rw [len_list, len_list]
  unfold cutS
  show ((z.cps.toList.drop _).take _).length ≤ _
  rw [List.length_take, List.length_drop]
  omega
theorem cutSO_ok {z : Str} {lo hi : Option Int} (h : z.length ≤ 1000000) : cutSO z lo hi = some (cutS z lo hi) := if_pos (by rw [sizeLine_eq]; omega)
theorem rep_len (x z : Str) (hz : z.length ≤ 2) : (Txt.replace x SP z).length ≤ 3 * (x.length + 1) := by
  have e : Txt.replace x SP z = Str.join z (Txt.split x SP) := StrLaws.replace_one x z 32
  rw [e]
  have h := StrLaws.join_length_le z (Txt.split x SP)
  have h2 := Wt_split (x := x) sp_len
  unfold Wt at h2
  have h3 : (Txt.split x SP).length * z.length ≤ (Txt.split x SP).length * 2 := Nat.mul_le_mul_left _ hz
  omega
theorem rep_ok {x z : Str} (hz : z ∈ ([Str.ofString "  ", Str.ofString "	", Str.ofString ","] : List Str)) (hx : x.length ≤ 100000) : repO x SP z = some (Txt.replace x SP z) ∧ (Txt.replace x SP z).length ≤ 3 * (x.length + 1) := by
  have h1 : (SP == z) = false ∧ z.length ≤ 2 := by
    simp only [List.mem_cons, List.not_mem_nil, or_false] at hz
    rcases hz with rfl | rfl | rfl <;> exact ⟨by decide +kernel, by decide +kernel⟩
  have h3 : (x.length + 1) * z.length ≤ (x.length + 1) * 2 := Nat.mul_le_mul_left _ h1.2
  exact ⟨if_pos ⟨h1.1, by omega⟩, rep_len x z h1.2⟩
theorem cut01 {α : Type} (x : α) (r : List α) : cutL (x :: r) none (some (1 : Int)) = [x] := by
  unfold cutL
  rw [HT.sIx_none]
  have := HT.sIx_nat (x :: r).length (x :: r).length 1
  rw [show ((1 : Nat) : Int) = (1 : Int) from rfl] at this
  rw [this, List.drop_zero, Nat.sub_zero, List.length_cons, Nat.min_eq_left (by omega)]
  rfl
theorem mul9 : mulSO (Str.ofString "a") (9 : Int) = some (Str.ofString "aaaaaaaaa") := by decide +kernel
theorem len_of {n : Nat} {zs : List Str} (h : (zs.all fun z => decide (z.length ≤ n)) = true) : ∀ z ∈ zs, z.length ≤ n := fun z hz => of_decide_eq_true (List.all_eq_true.mp h z hz)
theorem bent_ok {t : Str} {s : List Int} {k : Int} (ht : t.length ≤ 5000) (hs : Spr s k) (hk : k ≤ 600000) : ∃ t' s', m__law_x_bent s t = some (t', s') ∧ t'.length ≤ 100000 ∧ Spr s' (k + 6000) := by
  obtain ⟨way, s1, e1, w0, w1, hs1⟩ := draw_ok (many := 11) hs (by omega) (by decide) (by decide)
  have W1 := Wt_split (x := t) nl_len
  have N1 := Wt_len (Txt.split t NL)
  have P1 := split_pos t NL
  generalize hls : Txt.split t NL = ls at W1 N1 P1
  obtain ⟨at_, s2, e2, a0, a1, hs2⟩ := draw_ok (many := (ls.length : Int)) hs1 (by omega) (by omega) (by omega)
  obtain ⟨line, e3, hline⟩ := atI_ok a0 a1
  have lline := Wt_mem hline
  have W2 := Wt_split (x := line) sp_len
  have N2 := Wt_len (Txt.split line SP)
  have P2 := split_pos line SP
  generalize hws : Txt.split line SP = ws at W2 N2 P2
  obtain ⟨place, s3, e4, p0, p1, hs3⟩ := draw_ok (many := (ws.length : Int)) hs2 (by omega) (by omega) (by omega)
  have es1 : splitO t (Str.ofString "\n") = some ls := by rw [splitO_ok nl_len (by omega), hls]
  have es2 : splitO line (Str.ofString " ") = some ws := by rw [splitO_ok sp_len (by omega), hws]
  -- a line put in its place
  have fin : ∀ (x : Str) (f : Str → Option (Str × List Int)) (s' : List Int), x.length ≤ 30000 → (∀ r, f r = some (r, s')) → Spr s' (k + 6000) → ∃ t' s'', ((setO ls at_ x).bind fun l => (joinL (Str.ofString "\n") l).bind f) = some (t', s'') ∧ t'.length ≤ 100000 ∧ Spr s'' (k + 6000) := by
    intro x f s' hx hf hs'
    have w := Wt_set ls at_.toNat x
    obtain ⟨j1, j2⟩ := join_W (y := NL) (ls := ls.set at_.toNat x) nl_len (by omega)
    refine ⟨_, s', ?_, Nat.le_trans j2 (by omega), hs'⟩
    rw [setO_ok a0 a1, Option.bind_some]
    show (joinL NL _).bind _ = _
    rw [j1, Option.bind_some, hf]
  unfold m__law_x_bent
  rw [es1, Option.bind_some, e1, Option.bind_some, Option.bind_some]
  show ∃ t' s', (m__law_draw s1 (ls.length : Int)).bind _ = _ ∧ _
  rw [e2, Option.bind_some, Option.bind_some]
  show ∃ t' s', (L2.atI ls at_).bind _ = _ ∧ _
  rw [e3, Option.bind_some, es2, Option.bind_some]
  show ∃ t' s', (m__law_draw s2 (ws.length : Int)).bind _ = _ ∧ _
  rw [e4, Option.bind_some, Option.bind_some]
  dsimp only
  have cases_ : way = 0 ∨ way = 1 ∨ way = 2 ∨ (3 ≤ way ∧ way < 6) ∨ way = 6 ∨ way = 7 ∨ way = 8 ∨ way = 9 ∨ way = 10 := by omega
  rcases cases_ with rfl | rfl | rfl | ⟨v3, v6⟩ | rfl | rfl | rfl | rfl | rfl
  · rw [if_pos (by simp)]
    obtain ⟨x, ep⟩ := popO_ok a0 a1 (by omega)
    have w := Wt_erase ls at_.toNat
    obtain ⟨j1, j2⟩ := join_W (y := NL) (ls := ls.eraseIdx at_.toNat) nl_len (by omega)
    refine ⟨_, s3, ?_, Nat.le_trans j2 (by omega), hs3.mono (by omega)⟩
    rw [ep, Option.bind_some]
    show (joinL NL _).bind _ = _
    rw [j1]
    rfl
  · rw [if_neg (by rw [decide_eq_true_eq]; omega), if_pos (by simp)]
    obtain ⟨z, s4, e5, hz, hs4⟩ := pick_ok (xs := ([(Str.ofString " "), (Str.ofString "	"), (Str.ofString " a"), (Str.ofString "z")] : List Str)) hs3 (by omega) (by decide) (by decide)
    have lz := len_of (n := 2) (by decide +kernel) z hz
    rw [Option.bind_some]
    show ∃ t' s', (m__law_pick s3 _).bind _ = _ ∧ _
    rw [e5, Option.bind_some]
    show ∃ t' s', (catS line z).bind _ = _ ∧ _
    rw [catS_ok (by omega), Option.bind_some]
    exact fin _ _ s4 (by rw [Str.length_append]; omega) (fun _ => rfl) (hs4.mono (by omega))
  · rw [if_neg (by rw [decide_eq_true_eq]; omega), if_neg (by rw [decide_eq_true_eq]; omega), if_pos (by simp)]
    obtain ⟨y, s4, e5, hy, hs4⟩ := pickS_ok (zs := ([Str.ofString " ", Str.ofString ""] : List Str)) hs3 (by omega) (by decide) (by decide)
    obtain ⟨z, s5, e6, hz, hs5⟩ := pickS_ok (zs := ([Str.ofString "  ", Str.ofString "	", Str.ofString ","] : List Str)) hs4 (by omega) (by decide) (by decide)
    have ly := len_of (n := 1) (by decide +kernel) y hy
    obtain ⟨r1, r2⟩ := rep_ok (x := line) hz (by omega)
    show ∃ t' s', (pickS s3 _).bind _ = _ ∧ _
    rw [e5, Option.bind_some]
    rw [Option.bind_some]
    show ∃ t' s', (pickS s4 _).bind _ = _ ∧ _
    rw [e6, Option.bind_some]
    show ∃ t' s', (repO line SP z).bind _ = _ ∧ _
    rw [r1, Option.bind_some]
    show ∃ t' s', (catS y _).bind _ = _ ∧ _
    rw [catS_ok (by omega), Option.bind_some]
    exact fin _ _ s5 (by rw [Str.length_append]; omega) (fun _ => rfl) (hs5.mono (by omega))
  · rw [if_neg (by rw [decide_eq_true_eq]; omega), if_neg (by rw [decide_eq_true_eq]; omega), if_neg (by rw [decide_eq_true_eq]; omega), if_pos (by rw [decide_eq_true_eq]; omega)]
    obtain ⟨wd, e5, hwd⟩ := atI_ok p0 p1
    have lwd := Wt_mem hwd
    obtain ⟨i0, wl, ew⟩ := last_split line SP
    rw [hws] at ew
    have hwl : wl ∈ ws := by rw [ew]; exact List.mem_append_right _ List.mem_cons_self
    have lwl := Wt_mem hwl
    have e6 : L2.atI ws (-(1 : Int)) = some wl := by rw [ew]; exact atI_lastT _ _
    have l1 : (Str.ofString "x").length = 1 := by decide +kernel
    have lc := cutS_len wd none (some (-(1 : Int)))
    obtain ⟨z, s4, e7, hz, hs4⟩ := pick_ok (xs := ([(Str.ofString "A"), (Str.ofString ""), (Str.ofString "a"), (Str.ofString "turn"), (Str.ofString "put"), (Str.ofString "take"), (Str.ofString "eight"), (Str.ofString "9a"), (Str.ofString "aaaaaaaaa"), (wd ++ Str.ofString "x"), (cutS wd none (some (-(1 : Int)))), wl] : List Str)) hs3 (by omega) (by show 0 < 12; decide) (by show 12 < 1000000; decide)
    have lz : z.length ≤ t.length + 10 := by
      have h9 := len_of (n := 9) (zs := ([(Str.ofString "A"), (Str.ofString ""), (Str.ofString "a"), (Str.ofString "turn"), (Str.ofString "put"), (Str.ofString "take"), (Str.ofString "eight"), (Str.ofString "9a"), (Str.ofString "aaaaaaaaa")] : List Str)) (by decide +kernel)
      rcases List.mem_append.mp (show z ∈ ([(Str.ofString "A"), (Str.ofString ""), (Str.ofString "a"), (Str.ofString "turn"), (Str.ofString "put"), (Str.ofString "take"), (Str.ofString "eight"), (Str.ofString "9a"), (Str.ofString "aaaaaaaaa")] : List Str) ++ [(wd ++ Str.ofString "x"), (cutS wd none (some (-(1 : Int)))), wl] from hz) with h | h
      · have := h9 z h; omega
      · simp only [List.mem_cons, List.not_mem_nil, or_false] at h
        rcases h with rfl | rfl | rfl
        · rw [Str.length_append, l1]; omega
        · omega
        · omega
    have w := Wt_set ws place.toNat z
    obtain ⟨j1, j2⟩ := join_W (y := SP) (ls := ws.set place.toNat z) sp_len (by omega)
    show ∃ t' s', (mulSO (Str.ofString "a") (9 : Int)).bind _ = _ ∧ _
    rw [mul9, Option.bind_some]
    show ∃ t' s', (L2.atI ws place).bind _ = _ ∧ _
    rw [e5, Option.bind_some]
    show ∃ t' s', (catS wd (Str.ofString "x")).bind _ = _ ∧ _
    rw [catS_ok (by rw [l1]; omega), Option.bind_some]
    rw [Option.bind_some]
    show ∃ t' s', (cutSO wd none (some (-(1 : Int)))).bind _ = _ ∧ _
    rw [cutSO_ok (by omega), Option.bind_some]
    show ∃ t' s', (L2.atI ws (-(1 : Int))).bind _ = _ ∧ _
    rw [e6, Option.bind_some]
    show ∃ t' s', (m__law_pick s3 _).bind _ = _ ∧ _
    rw [e7, Option.bind_some]
    show ∃ t' s', (setO ws place z).bind _ = _ ∧ _
    rw [setO_ok p0 p1, Option.bind_some]
    show ∃ t' s', (joinL SP _).bind _ = _ ∧ _
    rw [j1, Option.bind_some]
    exact fin _ _ s4 (by omega) (fun _ => rfl) (hs4.mono (by omega))
  · rw [if_neg (by rw [decide_eq_true_eq]; omega), if_neg (by rw [decide_eq_true_eq]; omega), if_neg (by rw [decide_eq_true_eq]; omega), if_neg (by rw [decide_eq_true_eq]; omega), if_pos (by simp)]
    have lc := cutS_len t none (some (-(1 : Int)))
    refine ⟨cutS t none (some (-(1 : Int))), s3, ?_, ?_, hs3.mono (by omega)⟩
    · show (cutSO t none (some (-(1 : Int)))).bind _ = _
      rw [cutSO_ok (by omega)]
      rfl
    · omega
  · rw [if_neg (by rw [decide_eq_true_eq]; omega), if_neg (by rw [decide_eq_true_eq]; omega), if_neg (by rw [decide_eq_true_eq]; omega), if_neg (by rw [decide_eq_true_eq]; omega), if_neg (by rw [decide_eq_true_eq]; omega), if_pos (by simp)]
    obtain ⟨z, s4, e5, hz, hs4⟩ := pick_ok (xs := ([(Str.ofString "\n"), (Str.ofString "a"), (Str.ofString " "), (Str.ofString "turn a")] : List Str)) hs3 (by omega) (by decide) (by decide)
    have lz := len_of (n := 6) (by decide +kernel) z hz
    refine ⟨t ++ z, s4, ?_, ?_, hs4.mono (by omega)⟩
    · show (m__law_pick s3 _).bind _ = _
      rw [e5, Option.bind_some]
      show (catS t z).bind _ = _
      rw [catS_ok (by omega)]
      rfl
    · rw [Str.length_append]; omega
  · rw [if_neg (by rw [decide_eq_true_eq]; omega), if_neg (by rw [decide_eq_true_eq]; omega), if_neg (by rw [decide_eq_true_eq]; omega), if_neg (by rw [decide_eq_true_eq]; omega), if_neg (by rw [decide_eq_true_eq]; omega), if_neg (by rw [decide_eq_true_eq]; omega), if_pos (by simp)]
    obtain ⟨x, ep⟩ := popO_ok p0 p1 (by omega)
    have w := Wt_erase ws place.toNat
    obtain ⟨j1, j2⟩ := join_W (y := SP) (ls := ws.eraseIdx place.toNat) sp_len (by omega)
    show ∃ t' s', (popO ws place).bind _ = _ ∧ _
    rw [ep, Option.bind_some]
    show ∃ t' s', (joinL SP _).bind _ = _ ∧ _
    rw [j1, Option.bind_some]
    exact fin _ _ s3 (by omega) (fun _ => rfl) (hs3.mono (by omega))
  · rw [if_neg (by rw [decide_eq_true_eq]; omega), if_neg (by rw [decide_eq_true_eq]; omega), if_neg (by rw [decide_eq_true_eq]; omega), if_neg (by rw [decide_eq_true_eq]; omega), if_neg (by rw [decide_eq_true_eq]; omega), if_neg (by rw [decide_eq_true_eq]; omega), if_neg (by rw [decide_eq_true_eq]; omega), if_pos (by simp)]
    obtain ⟨w0', wr, ew⟩ := split_cons line SP
    rw [hws] at ew
    subst ew
    rw [Wt_cons] at W2
    have nr := Wt_len wr
    obtain ⟨ys, s4, e5, hp, hs4⟩ := mixed_ok (xs := wr) hs3 (by omega) (by omega)
    have wp := Wt_perm hp
    have wj := Wt_cons w0' ys
    obtain ⟨j1, j2⟩ := join_W (y := SP) (ls := w0' :: ys) sp_len (by omega)
    rw [cut1, cut01]
    show ∃ t' s', (m__law_mixed s3 wr).bind _ = _ ∧ _
    rw [e5, Option.bind_some]
    show ∃ t' s', (catO [w0'] ys).bind _ = _ ∧ _
    rw [catO_ok (by have := hp.length_eq; rw [List.length_singleton]; omega), Option.bind_some]
    show ∃ t' s', (joinL SP (w0' :: ys)).bind _ = _ ∧ _
    rw [j1, Option.bind_some]
    exact fin _ _ s4 (by omega) (fun _ => rfl) (hs4.mono (by omega))
  · rw [if_neg (by rw [decide_eq_true_eq]; omega), if_neg (by rw [decide_eq_true_eq]; omega), if_neg (by rw [decide_eq_true_eq]; omega), if_neg (by rw [decide_eq_true_eq]; omega), if_neg (by rw [decide_eq_true_eq]; omega), if_neg (by rw [decide_eq_true_eq]; omega), if_neg (by rw [decide_eq_true_eq]; omega), if_neg (by rw [decide_eq_true_eq]; omega)]
    obtain ⟨spot, s4, e5, q0, q1, hs4⟩ := draw_ok (many := (t.length : Int) + 1) hs3 (by omega) (by omega) (by omega)
    obtain ⟨z, s5, e6, hz, hs5⟩ := pick_ok (xs := ([(Str.ofString ""), (Str.ofString "a"), (Str.ofString "0"), (Str.ofString " "), (Str.ofString "\n"), (Str.ofString "-")] : List Str)) hs4 (by omega) (by decide) (by decide)
    have lz := len_of (n := 1) (by decide +kernel) z hz
    obtain ⟨o, s6, e7, o0, o1, hs6⟩ := draw_ok (many := 2) hs5 (by omega) (by decide) (by decide)
    have lc1 := cutS_len t none (some spot)
    have lc2 := cutS_len t (some (spot + o)) none
    refine ⟨cutS t none (some spot) ++ z ++ cutS t (some (spot + o)) none, s6, ?_, ?_, hs6.mono (by omega)⟩
    · show (lenS t).bind _ = _
      rw [lenS_ok (by omega), Option.bind_some]
      show (m__law_draw s3 ((t.length : Int) + 1)).bind _ = _
      rw [e5, Option.bind_some, Option.bind_some]
      show (cutSO t none (some spot)).bind _ = _
      rw [cutSO_ok (by omega), Option.bind_some]
      show (m__law_pick s4 _).bind _ = _
      rw [e6, Option.bind_some]
      show (catS _ z).bind _ = _
      rw [catS_ok (by omega), Option.bind_some]
      show (m__law_draw s5 (2 : Int)).bind _ = _
      rw [e7, Option.bind_some]
      show (cutSO t (some (spot + o)) none).bind _ = _
      rw [cutSO_ok (by omega), Option.bind_some]
      show (catS (cutS t none (some spot) ++ z) _).bind _ = _
      rw [catS_ok (by rw [Str.length_append]; omega)]
      rfl
    · rw [Str.length_append, Str.length_append]; omega
end K59
set_option Elab.async false
set_option linter.all false
set_option maxRecDepth 100000
set_option maxHeartbeats 4000000
set_option autoImplicit false
namespace K59
open PySem PySem.Spec PyProof.Rows L2 T
/-! ### the text of three hundred lines -/
def LCH : List Nat := (Str.ofString "eight a b c d e f g h").cps.toList
def TCH : List Nat := (Str.ofString "turn x").cps.toList
def manyC : List Nat := (List.replicate 300 (LCH ++ [10])).flatten
theorem foldl_app : ∀ (n : Nat) (a acc : Array Nat), ((List.replicate n a).foldl (· ++ ·) acc).toList = acc.toList ++ (List.replicate n a.toList).flatten
  | 0, a, acc => by simp
  | n + 1, a, acc => by
    rw [List.replicate_succ, List.foldl_cons, foldl_app n, Array.toList_append, List.replicate_succ, List.flatten_cons, List.append_assoc]
theorem many_eq : mulS (Str.ofString "eight a b c d e f g h\n") 300 = SX.S manyC := by
  apply Str.ext'
  apply Array.toList_inj.mp
  show ((List.replicate 300 _).foldl (· ++ ·) #[]).toList = manyC
  rw [foldl_app]
  rfl
theorem spl_many : TL.spl [10] 0 [] manyC = List.replicate 300 LCH ++ [[]] := by decide +kernel
theorem spl_more : TL.spl [10] 0 [] (manyC ++ (TCH ++ [10])) = (List.replicate 300 LCH ++ [TCH]) ++ [[]] := by decide +kernel
theorem nl_S : NL = SX.S [10] := by decide +kernel
theorem sp_S : SP = SX.S [32] := by decide +kernel
theorem emp_S : Str.ofString "" = SX.S [] := by decide +kernel
theorem split_many : Txt.split (SX.S manyC) NL = (List.replicate 300 LCH).map SX.S ++ [Str.ofString ""] := by
  rw [nl_S, SX.split_S (by decide) (by decide), spl_many, List.map_append, emp_S]
  rfl
theorem split_more : Txt.split (SX.S (manyC ++ (TCH ++ [10]))) NL = (List.replicate 300 LCH ++ [TCH]).map SX.S ++ [Str.ofString ""] := by
  rw [nl_S, SX.split_S (by decide) (by decide), spl_more, List.map_append, emp_S]
  rfl
theorem lnW_L : (lnW (SX.S LCH)).isNon = false := by
  unfold lnW
  rw [sp_S, SX.split_S (by decide) (by decide)]
  decide +kernel
theorem rdL_app {ms : List Str} : ∀ {ls : List Str} {n : Nat} {acc : List D}, (∀ l ∈ ls, (lnW l).isNon = false) → n + ls.length ≤ 300 → rdL n acc (ls ++ ms) = rdL (n + ls.length) (acc ++ ls.map lnW) ms
  | [], n, acc, _, _ => by simp
  | l :: ls, n, acc, h, hn => by
    rw [List.length_cons] at hn
    rw [List.cons_append, rdL, if_neg (by rw [not_or, h l List.mem_cons_self]; exact ⟨by omega, by decide⟩), rdL_app (fun a ha => h a (List.mem_cons_of_mem _ ha)) (by omega), List.map_cons, List.append_assoc, List.length_cons, show n + 1 + ls.length = n + (ls.length + 1) by omega]
    rfl
theorem lines_L : ∀ l ∈ (List.replicate 300 LCH).map SX.S, (lnW l).isNon = false := fun l hl => by
  obtain ⟨c, hc, rfl⟩ := List.mem_map.mp hl
  rw [(List.mem_replicate.mp hc).2]
  exact lnW_L
theorem lines_len : ((List.replicate 300 LCH).map SX.S).length = 300 := by rw [List.length_map, List.length_replicate]
theorem many_len : manyC.length = 6600 := by decide +kernel
theorem S_len (l : List Nat) : (SX.S l).length = l.length := rfl
theorem read_many : ∃ r, m_read_steps (.str (SX.S manyC)) = some r ∧ r.length = 300 := by
  refine ⟨((List.replicate 300 LCH).map SX.S).map lnW, ?_, by rw [List.length_map, lines_len]⟩
  rw [read_ok (by rw [S_len, many_len]; decide) split_many]
  have : rdP ((List.replicate 300 LCH).map SX.S) (Str.ofString "") = .ok (((List.replicate 300 LCH).map SX.S).map lnW) := by
    unfold rdP
    rw [rdL_count lines_L (.inr (by rw [lines_len]; decide))]
    rfl
  rw [this]
theorem xread_more : x_read_steps (.str (SX.S (manyC ++ (TCH ++ [10])))) = some (300 : Int) := by
  rw [xread_ok (by rw [S_len, List.length_append, many_len]; decide) split_more]
  have : rdP ((List.replicate 300 LCH ++ [TCH]).map SX.S) (Str.ofString "") = .error 300 := by
    unfold rdP
    rw [List.map_append, rdL_app lines_L (by rw [lines_len]; decide), lines_len]
    rfl
  rw [this]
  rfl
theorem more_eq : SX.S manyC ++ Str.ofString "turn x\n" = SX.S (manyC ++ (TCH ++ [10])) := by
  apply Str.ext'
  apply Array.toList_inj.mp
  show (_ ++ _ : Array Nat).toList = _
  rw [Array.toList_append]
  rfl
/-! ### the last comparison -/
theorem last_text : m_steps_text (AsD.toD (([(AsD.toD (((Str.ofString "take"), (Str.ofString "x")) : (Str × Str))), (AsD.toD (([(AsD.toD ((Str.ofString "eight") : Str)), (AsD.toD (([(Str.ofString "h"), (Str.ofString "b"), (Str.ofString "c"), (Str.ofString "d"), (Str.ofString "e"), (Str.ofString "f"), (Str.ofString "g"), (Str.ofString "a")] : List Str) : (List Str)))] : List D) : (List D)))] : List D) : (List D))) = some (Str.ofString "take x\neight h b c d e f g a\n") := by
  have h : Steps [D.tup [.str (Str.ofString "take"), .str (Str.ofString "x")], D.lst [.str E8, .lst (([(Str.ofString "h"), (Str.ofString "b"), (Str.ofString "c"), (Str.ofString "d"), (Str.ofString "e"), (Str.ofString "f"), (Str.ofString "g"), (Str.ofString "a")] : List Str).map D.str)]]
      [(Str.ofString "take", [Str.ofString "x"]), (E8, [(Str.ofString "h"), (Str.ofString "b"), (Str.ofString "c"), (Str.ofString "d"), (Str.ofString "e"), (Str.ofString "f"), (Str.ofString "g"), (Str.ofString "a")])] :=
    .cons ⟨_, rfl, .inr ⟨by decide +kernel, _, rfl, rfl⟩⟩ (.inr ⟨by decide +kernel, rfl, by decide +kernel⟩) (.cons ⟨_, rfl, .inl ⟨rfl, rfl⟩⟩ (.inl ⟨rfl, rfl, by decide +kernel, by decide +kernel⟩) .nil)
  refine (steps_text_ok (d := .lst _) rfl h (by decide)).trans (congrArg some ?_)
  decide +kernel
theorem read_empty : m_read_steps (.str (Str.ofString "")) = some [] := by
  have e : Txt.split (Str.ofString "") NL = [] ++ [Str.ofString ""] := by
    rw [nl_S, emp_S, SX.split_S (by decide) (by decide)]
    rfl
  rw [read_ok (by decide +kernel) e]
  rfl
end K59
set_option Elab.async false
set_option linter.all false
set_option maxRecDepth 100000
set_option maxHeartbeats 4000000
set_option autoImplicit false
namespace K59
open PySem PySem.Spec PyProof.Rows L2 T
/-! ### what are no steps -/
theorem are_no {d : D} (h : d.seq? = none) : m_are_steps d = some false := by
  unfold m_are_steps
  rw [is_list_no h]
  rfl
theorem are_long {d : D} {ds : List D} (h : d.seq? = some ds) (hl : 300 < ds.length) : m_are_steps d = some false := by
  unfold m_are_steps
  rw [is_list_seq h, Option.bind_some, h]
  simp only [Option.bind_some, decide_eq_false (show ¬ (ds.length : Int) ≤ (300 : Int) by omega)]
  rfl
theorem are_bad {d : D} {ds : List D} (h : d.seq? = some ds) (hl : ds.length ≤ 300) (hs : ∀ x ∈ ds, ∃ b, m_is_step x = some b) (hx : ∃ x ∈ ds, m_is_step x = some false) : m_are_steps d = some false := by
  unfold m_are_steps
  rw [is_list_seq h, Option.bind_some, h]
  have e : lcL (fun (_ : D) => some true) (fun (a7 : D) => (m_is_step a7).bind fun x9 => some x9) ds = some (ds.map fun x => (m_is_step x).getD false) := lcL_all1 (fun a ha => by
    obtain ⟨b, e⟩ := hs a ha
    rw [e]
    rfl) (by omega)
  simp only [Option.bind_some, decide_eq_true (show (ds.length : Int) ≤ (300 : Int) by omega)]
  rw [e]
  obtain ⟨x, hx1, hx2⟩ := hx
  have : (ds.map fun x => (m_is_step x).getD false).all id = false := by
    rw [List.all_map]
    cases hc : ds.all (id ∘ fun x => (m_is_step x).getD false) with
    | false => rfl
    | true =>
      have := List.all_eq_true.mp hc x hx1
      simp only [Function.comp_apply, hx2] at this
      cases this
  show (andO true (andO true (some ((ds.map fun x => (m_is_step x).getD false).all id)))).bind _ = _
  rw [this]
  rfl
theorem metS_ok {d : D} (h : m_are_steps d = some false) (hv : veryOkT d = true) : metS (x_steps_text d) d = some true := by
  have e : x_steps_text d = some 0 := by
    unfold x_steps_text
    rw [h]
    rfl
  unfold metS
  rw [e, if_pos ⟨rfl, hv⟩]
theorem one_bad {x : D} (h : m_is_step x = some false) : m_are_steps (.lst [x]) = some false := are_bad rfl (by rw [List.length_singleton]; decide) (fun y hy => by obtain rfl := List.mem_singleton.mp hy; exact ⟨_, h⟩) ⟨x, List.mem_cons_self, h⟩
theorem cutk {α : Type} {xs : List α} {k : Nat} (h : k ≤ xs.length) : cutL xs none (some (k : Int)) = xs.take k := by
  unfold cutL
  rw [HT.sIx_none, HT.sIx_nat, List.drop_zero, Nat.sub_zero, Nat.min_eq_left h]
theorem nameB_t : nameB (Str.ofString "a") = true := by decide +kernel
theorem nameB_A : nameB (Str.ofString "A") = false := by decide +kernel
theorem bad_all {ws : List Str} {many : List (Str × Str)} (hn : ∀ w ∈ ws, nameB w = true) (hd : ws.Nodup) (hl : ws.length = 8) (hm : many.length = 301) : ∀ a ∈ ([(AsD.toD (() : Unit)), (AsD.toD ((0 : Int) : Int)), (AsD.toD ((Str.ofString "") : Str)), (AsD.toD ((Str.ofString "ab") : Str)), (D.dct []), (AsD.toD (true : Bool)), (AsD.toD (([()] : List Unit) : (List Unit))), (AsD.toD (([(Tp.mk ([(Str.ofString "turn")] : List Str))] : List (Tp Str)) : (List (Tp Str)))), (AsD.toD (([((Str.ofString "put"), (Str.ofString "A"))] : List (Str × Str)) : (List (Str × Str)))), (AsD.toD (many : (List (Str × Str)))), (AsD.toD (((Str.ofString "turn"), (Str.ofString "a")) : (Str × Str))),
    (AsD.toD (([((Str.ofString "eight"), ws.take 7)] : List (Str × (List Str))) : (List (Str × (List Str)))))] : List D) ++
    ([(AsD.toD (([((Str.ofString "eight"), ws.take 7 ++ ws.take 1)] : List (Str × (List Str))) : (List (Str × (List Str))))), (AsD.toD (([(Tp.mk ([Str.ofString "eight"] ++ ws))] : List (Tp Str)) : (List (Tp Str)))), (AsD.toD (([(AsD.toD (((Str.ofString "turn"), (Str.ofString "a")) : (Str × Str))), (AsD.toD (([(Str.ofString "turn")] : List Str) : (List Str)))] : List D) : (List D)))] : List D), metS (x_steps_text a) a = some true := by
  have tT : Str.ofString "turn" ∈ W3 := List.mem_cons_self
  intro a ha
  simp only [List.mem_append, List.mem_cons, List.not_mem_nil, or_false] at ha
  rcases ha with (rfl | rfl | rfl | rfl | rfl | rfl | rfl | rfl | rfl | rfl | rfl | rfl) | (rfl | rfl | rfl)
  · exact metS_ok (are_no rfl) rfl
  · exact metS_ok (are_no rfl) rfl
  · exact metS_ok (are_no rfl) rfl
  · exact metS_ok (are_no rfl) rfl
  · exact metS_ok (are_no rfl) rfl
  · exact metS_ok (are_no rfl) rfl
  · exact metS_ok (one_bad (x := .non) (is_step_no rfl)) rfl
  · exact metS_ok (one_bad (x := .tup [.str (Str.ofString "turn")]) (is_step_len rfl (by rw [List.length_singleton]; decide))) rfl
  · refine metS_ok (one_bad (x := .tup [.str (Str.ofString "put"), .str (Str.ofString "A")]) ?_) rfl
    rw [is_step_word rfl (by decide +kernel), is_name_str (by decide +kernel), nameB_A]
    rfl
  · refine metS_ok (are_long (ds := many.map AsD.toD) rfl (by rw [List.length_map, hm]; decide)) ?_
    show decide ((many.map AsD.toD).length ≤ 1000000) = true
    rw [List.length_map, hm]
    decide
  · refine metS_ok (are_bad (ds := [.str (Str.ofString "turn"), .str (Str.ofString "a")]) rfl (by rw [List.length_cons, List.length_singleton]; decide) (fun x hx => ?_) ⟨_, List.mem_cons_self, is_step_no rfl⟩) ?_
    · rcases List.mem_cons.mp hx with rfl | hx
      · exact ⟨_, is_step_no rfl⟩
      · obtain rfl := List.mem_singleton.mp hx
        exact ⟨_, is_step_no rfl⟩
    · decide +kernel
  · refine metS_ok (one_bad (x := .tup [.str (Str.ofString "eight"), .lst ((ws.take 7).map AsD.toD)]) ?_) rfl
    rw [is_step_eight rfl]
    have key : ∀ {A B : Option Bool}, (if ((ws.take 7).map (AsD.toD : Str → D)).length ≠ 8 then A else B) = A := if_pos (by rw [List.length_map, List.length_take, hl]; decide)
    exact key
  · refine metS_ok (one_bad (x := .tup [.str (Str.ofString "eight"), .lst ((ws.take 7 ++ ws.take 1).map D.str)]) ?_) rfl
    rw [is_step_names rfl rfl (by rw [List.length_append, List.length_take, List.length_take, hl]; rfl) (fun w hw => by
      have h1 : w ∈ ws := (List.mem_append.mp hw).elim List.mem_of_mem_take List.mem_of_mem_take
      have := nameB_len (hn w h1)
      omega)]
    have : ¬ (ws.take 7 ++ ws.take 1).Nodup := fun z => by
      cases ws with
      | nil => cases hl
      | cons w r => exact (List.nodup_append.mp z).2.2 w List.mem_cons_self w List.mem_cons_self rfl
    rw [decide_eq_false this, Bool.and_false]
  · refine metS_ok (one_bad (x := .tup (([Str.ofString "eight"] ++ ws).map D.str)) (is_step_len rfl ?_)) rfl
    rw [List.length_map, List.length_append, List.length_singleton, hl]
    decide
  · have g : m_is_step (.tup [.str (Str.ofString "turn"), .str (Str.ofString "a")]) = some true := by
      rw [is_step_word rfl tT, is_name_str (by decide +kernel), nameB_t]
      rfl
    have b : m_is_step (.lst [.str (Str.ofString "turn")]) = some false := is_step_len rfl (by rw [List.length_singleton]; decide)
    refine metS_ok (are_bad (ds := [.tup [.str (Str.ofString "turn"), .str (Str.ofString "a")], .lst [.str (Str.ofString "turn")]]) rfl (by rw [List.length_cons, List.length_singleton]; decide) (fun x hx => ?_) ⟨_, List.mem_cons_of_mem _ List.mem_cons_self, b⟩) rfl
    rcases List.mem_cons.mp hx with rfl | hx
    · exact ⟨_, g⟩
    · obtain rfl := List.mem_singleton.mp hx
      exact ⟨_, b⟩
end K59
set_option Elab.async false
set_option linter.all false
set_option maxRecDepth 100000
set_option maxHeartbeats 4000000
set_option autoImplicit false
namespace K59
open PySem PySem.Spec PyProof.Rows L2 T
/-! ### the whole law -/
theorem bents {t : Str} (ht : t.length ≤ 5000) : ∀ (r : List Int) {s : List Int} {k : Int}, Spr s k → k + 6000 * r.length ≤ 600000 → ∃ s', foldO (fun (s159 : (List Int)) (a161 : Int) =>
  (m__law_x_bent s159 t).bind fun x165 =>
  (m__law_x_asked x165.1).bind fun x167 =>
  (chk (!(!x167))).bind fun u171 =>
  some x165.2) s r = some s'
  | [], s, k, _, _ => ⟨s, rfl⟩
  | x :: r, s, k, hs, hk => by
    rw [List.length_cons] at hk
    obtain ⟨t', s1, e1, h1, hs1⟩ := bent_ok ht hs (by omega)
    obtain ⟨s2, e2⟩ := bents ht r hs1 (by omega)
    refine ⟨s2, ?_⟩
    show Option.bind (Option.bind (m__law_x_bent s t) _) _ = _
    rw [e1, Option.bind_some]
    show Option.bind (Option.bind (m__law_x_asked t') _) _ = _
    rw [x_asked_ok (by omega), Option.bind_some]
    exact e2
theorem rep301 {x : Str × Str} : (List.replicate (301 : Int).toNat [x]).flatten.length = 301 := by
  rw [List.length_flatten, List.map_replicate, List.sum_replicate_nat]
  rfl
theorem texts_lam {ds : List D} {ps : List (Str × List Str)} (h : Steps ds ps) (hl : ds.length ≤ 1000) : lcL (fun (_ : D) => some true) (fun (a58 : D) => (D.seq? a58).bind fun x60 =>
  (L2.atI x60 (0 : Int)).bind fun x62 =>
  (D.seq? a58).bind fun x64 =>
  (L2.atI x64 (0 : Int)).bind fun x66 =>
  (D.str? x66).bind fun x68 =>
  (if (decide (x68 = (Str.ofString "eight"))) = true then (D.seq? a58).bind fun x70 =>
  (L2.atI x70 (1 : Int)).bind fun x72 =>
  (D.seq? x72).bind fun x74 =>
  some x74 else (D.seq? a58).bind fun x76 =>
  (L2.atI x76 (1 : Int)).bind fun x78 =>
  some ([x78] : List D)).bind fun x80 =>
  (catO ([x62] : List D) x80).bind fun x91 =>
  (D.strs? x91).bind fun x93 =>
  (joinL (Str.ofString " ") x93).bind fun x95 =>
  (catS x95 (Str.ofString "\n")).bind fun x97 =>
  some x97) ds = some (ps.map fun p => lineT p.1 p.2) := h.lc (f := fun p => lineT p.1 p.2) (fun d w r a g => by
    refine (lam_ok (k := fun x93 => (joinL (Str.ofString " ") x93).bind fun x95 => (catS x95 (Str.ofString "\n")).bind fun x97 => some x97) a (good_r g).1).trans ?_
    show (joinL SP (w :: r)).bind _ = _
    rw [join_w g, Option.bind_some]
    show (catS _ NL).bind _ = _
    rw [cat_w g]
    rfl) (by omega)
theorem pick4 {n : Int} (h : n ∈ ([(0 : Int), (1 : Int), (4 : Int), (20 : Int)] : List Int)) : 0 ≤ n ∧ n ≤ 20 := by
  simp only [List.mem_cons, List.not_mem_nil, or_false] at h
  omega
theorem asked6 (t : Str) : ∀ a ∈ ([(AsD.toD (() : Unit)), (AsD.toD ((0 : Int) : Int)), (AsD.toD (true : Bool)), (AsD.toD (([t] : List Str) : (List Str))), (AsD.toD ((Tp.mk ([t] : List Str)) : (Tp Str))), (D.dct [])] : List D), metT (x_read_steps a) (0 : Int) a = some true := by
  intro a ha
  simp only [List.mem_cons, List.not_mem_nil, or_false] at ha
  rcases ha with rfl | rfl | rfl | rfl | rfl | rfl
  · exact metT_ok (.inl ⟨rfl, by show 0 < 6; decide⟩)
  · exact metT_ok (.inl ⟨rfl, by show 0 < 6; decide⟩)
  · exact metT_ok (.inl ⟨rfl, by show 0 < 6; decide⟩)
  · exact metT_ok (.inl ⟨rfl, by show 1 < 6; decide⟩)
  · exact metT_ok (.inl ⟨rfl, by show 1 < 6; decide⟩)
  · exact metT_ok (.inr rfl)
theorem orF (o : Option Bool) : orO (!true) o = o := rfl
theorem chkT : chk (!(!true)) = some () := rfl
theorem chkF : chk (!false) = some () := rfl
theorem orE : orO (!decide (((300 : Nat) : Int) = (300 : Int))) (some (!true)) = some false := rfl
theorem m_law_true (sc : Sq) : m_law sc = some true := by
  unfold m_law
  rw [rngO_small (by decide) (by decide) (by decide) (by decide), Option.bind_some]
  refine (congrArg (fun o => Option.bind o _) (foldO_unit (rng 0 (5 : Int)) fun a ha => ?_)).trans ?_
  · obtain ⟨a0, a1⟩ := mem_rng.mp ha
    obtain ⟨s0, e0, hs0⟩ := spring_ok sc a0 a1
    obtain ⟨names, s1, e1, hn, hnl, hs1⟩ := w_names_ok hs0 (by decide)
    obtain ⟨n, s2, e2, hn2, hs2⟩ := pick_ok (xs := ([(0 : Int), (1 : Int), (4 : Int), (20 : Int)] : List Int)) hs1 (by decide) (by decide) (by decide)
    obtain ⟨n0, n20⟩ := pick4 hn2
    have hr : ((rng 0 n).length : Int) = n := by rw [rng_length]; omega
    obtain ⟨ds, ps, s3, e3, h3, hl3, hs3⟩ := steps_fold hn hnl (rng 0 n) (ds := []) hs2 (by omega) .nil (by rw [List.length_nil]; omega)
    have hdl : ds.length ≤ 20 := by rw [hl3, List.length_nil]; omega
    have e4 := texts_lam h3.st (by omega)
    have hpl : ps.length ≤ 20 := by rw [← h3.st.len]; exact hdl
    have hg := h3.st.good
    have e5 := text_join hg (by omega)
    have ht : (textOf ps).length ≤ 5000 := by have := textOf_len hg; omega
    obtain ⟨own, ys, s4, e6, hy, hst, ok, hs4⟩ := loose_list h3 hdl hs3 (by omega)
    have e7 := repr_ok ok hy
    have e8 := steps_text_ok hy hst (by rw [hst.len]; omega)
    obtain ⟨s5, e9⟩ := bents ht (rng 0 (24 : Int)) hs4 (by rw [rng_length]; show _ + 6000 * ((24 : Nat) : Int) ≤ 600000; omega)
    have hbad := bad_all (ws := names.take 8) (many := (List.replicate (301 : Int).toNat [((Str.ofString "take"), (Str.ofString "a"))]).flatten) (fun w hw => hn.nm w (List.mem_of_mem_take hw)) ((List.take_sublist 8 names).nodup hn.nd) (by rw [List.length_take, hnl]; rfl) rep301
    have hel : (names.take 8).length = 8 := by rw [List.length_take, hnl]; rfl
    show (m__law_spring sc a).bind _ = _
    rw [e0, Option.bind_some]
    show (m__law_w_names s0 (24 : Int)).bind _ = _
    rw [e1, Option.bind_some, Option.bind_some]
    show (m__law_pick s1 _).bind _ = _
    rw [e2, Option.bind_some]
    show (rngO 0 n).bind _ = _
    rw [rngO_small (by omega) (by omega) (by omega) (by omega), Option.bind_some]
    refine (congrArg (fun o => Option.bind o _) e3).trans ?_
    rw [Option.bind_some]
    refine (congrArg (fun o => Option.bind o _) e4).trans ?_
    rw [Option.bind_some, e5, Option.bind_some]
    show (m__law_loose 4 s3 (AsD.toD ds)).bind _ = _
    rw [toD_lst, e6, Option.bind_some, Option.bind_some]
    show (reprO own).bind _ = _
    rw [e7, Option.bind_some, e8, Option.bind_some, Option.bind_some]
    show (sameO (D.lst [.str (textOf ps), .str (textOf ps)]) (D.lst [.str (textOf ps), .str (textOf ps)])).bind _ = _
    rw [two_nod ⟨rfl, Nat.zero_le _⟩ ⟨rfl, Nat.zero_le _⟩, Option.bind_some]
    have ea := x_asked_ok (t := textOf ps) (by omega)
    rw [Option.bind_some, ea, Option.bind_some, decide_eq_true (rfl : own.pd.shown = own.pd.shown)]
    rw [orF, orF, Option.bind_some, Option.bind_some, chkT, Option.bind_some]
    show ((rngO 0 (24 : Int)).bind _) = _
    rw [rngO_small (by decide) (by decide) (by decide) (by decide), Option.bind_some]
    refine (congrArg (fun o => Option.bind o _) e9).trans ?_
    rw [Option.bind_some, Option.bind_some]
    show (repL _ (301 : Int)).bind _ = _
    have e10 : repL ([((Str.ofString "take"), (Str.ofString "a"))] : List (Str × Str)) (301 : Int) = some (List.replicate (301 : Int).toNat [((Str.ofString "take"), (Str.ofString "a"))]).flatten := if_pos ⟨by decide, by decide, by rw [List.length_singleton]; decide⟩
    rw [e10, Option.bind_some, Option.bind_some]
    have c8 : cutL names none (some (8 : Int)) = names.take 8 := cut8 (by omega)
    have c7 : cutL (names.take 8) none (some (7 : Int)) = (names.take 8).take 7 := cutk (k := 7) (by omega)
    have c1 : cutL (names.take 8) none (some (1 : Int)) = (names.take 8).take 1 := cutk (k := 1) (by omega)
    rw [c8, c7, c1]
    rw [catO_ok (by simp only [List.length_take]; omega), Option.bind_some]
    have hne : names.take 8 ≠ [] := fun z => by rw [z] at hel; cases hel
    have e11 : catT ([Str.ofString "eight"] : List Str) (names.take 8) = some ([Str.ofString "eight"] ++ names.take 8) := if_pos ⟨List.cons_ne_nil _ _, hne, by rw [hel, List.length_singleton]; decide⟩
    show (catT ([Str.ofString "eight"] : List Str) (names.take 8)).bind _ = _
    rw [e11, Option.bind_some]
    rw [catO_ok (by show 12 + 3 ≤ 1000000; decide), Option.bind_some]
    refine (congrArg (fun o => Option.bind o _) (foldO_unit _ fun b hb => ?_)).trans ?_
    · show (metS (x_steps_text b) b).bind _ = _
      rw [hbad b hb]
      rfl
    rw [Option.bind_some]
    refine (congrArg (fun o => Option.bind o _) (foldO_unit _ fun b hb => ?_)).trans ?_
    · show (metT (x_read_steps b) (0 : Int) b).bind _ = _
      rw [asked6 _ b hb]
      rfl
    rfl
  · rw [Option.bind_some]
    have e1 : mulSO (Str.ofString "eight a b c d e f g h\n") (300 : Int) = some (SX.S manyC) := by
      rw [mulSO, if_pos ⟨by decide, by decide, by decide +kernel, by decide +kernel⟩]
      exact congrArg some many_eq
    rw [e1, Option.bind_some]
    obtain ⟨r, e2, hr⟩ := read_many
    show (m_read_steps (.str (SX.S manyC))).bind _ = _
    rw [e2, Option.bind_some, hr]
    have e3 : catS (SX.S manyC) (Str.ofString "turn x\n") = some (SX.S (manyC ++ (TCH ++ [10]))) := by
      rw [catS_ok (by rw [S_len, many_len]; decide +kernel), more_eq]
    rw [e3, Option.bind_some]
    show (orO (!decide (((300 : Nat) : Int) = (300 : Int))) ((metT (x_read_steps (.str (SX.S (manyC ++ (TCH ++ [10]))))) (300 : Int) (.str (SX.S (manyC ++ (TCH ++ [10]))))).bind _)).bind _ = _
    rw [xread_more, metT_ok (.inl ⟨rfl, by show 0 < 6; decide⟩), Option.bind_some]
    rw [orE, Option.bind_some, chkF, Option.bind_some]
    show (m_steps_text _).bind _ = _
    rw [last_text, Option.bind_some]
    show (m_read_steps (.str (Str.ofString ""))).bind _ = _
    rw [read_empty, Option.bind_some]
    show (sameO (D.lst [.str (Str.ofString "take x\neight h b c d e f g a\n"), .lst []]) (D.lst [.str (Str.ofString "take x\neight h b c d e f g a\n"), .lst []])).bind _ = _
    rw [two_nod ⟨rfl, Nat.zero_le _⟩ ⟨rfl, by decide⟩]
    rfl
end K59
set_option Elab.async false
set_option linter.all false
set_option maxRecDepth 100000
set_option maxHeartbeats 4000000
set_option autoImplicit false
namespace K59
open PySem PySem.Spec PyProof.Rows L2 T LamX
open PySem.W (Frag)
variable {P : Program} {w : World} {K : PySem.W.Frag} {mg : Str → Option Value} {base : Heap}
theorem w_is_list (A : Facts P K mg base) : FnOk P w K mg base CX0 (0 + 1) A.f_is_list A.fd_is_list ["thing"] (SpV (S_is_list) K) := by
  refine A.F_is_list.ok sc_is_list (len_v (fun args C r C' h => by obtain ⟨_, _, _, rfl, _⟩ := h; rfl)) (fun cdv AA outer s H vs Q E hr h => ?_)
  have nd := sc_is_list.nd
  refine ⟨_, (pss_one (ps_ret (pe_callB (r := rIsiT K) call_isiT (by rfl) A.n_isinstance (by decide +kernel) (pa_cons (pv 0) (pa_cons (pe_tup (pa_cons (pe_bltn (v := .ty "list") (by rfl) A.n_list (by decide +kernel) rfl) (pa_cons (pe_bltn (v := .ty "tuple") (by rfl) A.n_tuple (by decide +kernel) rfl) pa_nil))) pa_nil))))), ?_⟩
  refine body_v h fun B args C r C' hK hP hS => ?_
  obtain ⟨t_thing, v_thing, res, rfl, rfl, y_thing, g0, rfl, rfl⟩ := hS
  subst hK
  refine ss_end ?_
  refine ss_retS ?_
  cases g0
  exact ss_retVG (ev_cb (ea_cons (ev_var rfl) (ea_cons (ev_tps (xs := [Ty.mk "list", Ty.mk "tuple"]) (ea_cons ev_ty (ea_cons ev_ty ea_nil)) (szn (by decide))) ea_nil)) (cs_isiT y_thing (.cons isk_lst (.cons isk_tup .nil)))) (.slnil) rfl
theorem w_is_name (A : Facts P K mg base) : FnOk P w K mg base CX0 (0 + 1) A.f_is_name A.fd_is_name ["thing"] (SpV (S_is_name) K) := by
  refine A.F_is_name.ok sc_is_name (len_v (fun args C r C' h => by obtain ⟨_, _, _, rfl, _⟩ := h; rfl)) (fun cdv AA outer s H vs Q E hr h => ?_)
  have nd := sc_is_name.nd
  refine ⟨_, (pss_cons (ps_if (PW.pt (pw_or (pt_not (pt_val (pe_callB (r := rIsi K) call_isi (by rfl) A.n_isinstance (by decide +kernel) (pa_cons (pv 0) (pa_cons (pe_bltn (v := .ty "str") (by rfl) A.n_str (by decide +kernel) rfl) pa_nil))))) (pw_or1 (pt_not (pt_chain op_le op_le pe_int (pe_callB call_len_str (by rfl) A.n_len (by decide +kernel) (pa_cons (pv 0) pa_nil)) pe_int))))) (pss_one (ps_ret pe_bl)) pss_nil)
      (pss_cons (ps_if (pt_cmpR op_notIn_sign (pe_ix ix_str (pv 0) pe_int (fun _ _ => rfl)) (pe_glob (v := .str (Str.ofString "abcdefghijklmnopqrstuvwxyz")) (by rfl) (A.g_LETTERS).choose_spec ⟨_, rfl⟩) (by rfl)) (pss_one (ps_ret pe_bl)) pss_nil)
      (pss_one (ps_ret (pe_callB (r := rAll K) (cr_all rfl) (by rfl) A.n_all (by decide +kernel) (pa_cons (pe_lc (own := [("sign", 1)]) (g := gName 1) rfl nd (pi_str (pv 0)) (blkOk_by (own := [("sign", 1)]) (N := N_is_name) (sc := defScope s_is_name) (by decide +kernel)) (fun _ _ _ _ _ => pg_name (i := 1) nd rfl (by first | exact .inl rfl | exact .inr rfl)) (fun _ _ _ _ _ => pts_nil) (fun _ _ _ _ _ => (pe_cmpR op_in_sign (pv 1) (pe_glob (v := .str (Str.ofString "abcdefghijklmnopqrstuvwxyz0123456789")) (by rfl) (A.g_SIGNS).choose_spec ⟨_, rfl⟩) (by rfl)))) pa_nil)))))), ?_⟩
  refine body_v h fun B args C r C' hK hP hS => ?_
  obtain ⟨t_thing, v_thing, res, rfl, rfl, y_thing, g0, rfl, rfl⟩ := hS
  subst hK
  obtain ⟨b5, h6, g10⟩ := bind_some g0
  refine ss_if (et_orO h6 (et_not (et_B (ev_cb (ea_cons (ev_var rfl) (ea_cons ev_ty ea_nil)) (cs_isi y_thing isk_str)))) fun _ g7 => by
        obtain ⟨x1, h2, g8⟩ := bind_some g7
        obtain ⟨x3, h4, g9⟩ := bind_some g8
        exact et_is (et_not (et_test (ev_chain' ev_int (ev_eq (ev_cb (ea_cons (ev_str? y_thing h2 (ev_var rfl)) ea_nil) (cs_lenS (lenS_some h4).2)) (lenS_some h4).1.symm) os_le (fun _ => ev_int) os_le))) (some_eq g9)) (fun c11 => ?_) (fun c13 => ?_)
  · have g12 := if_t g10 c11
    refine ss_retS ?_
    cases g12
    exact ss_retVG ev_bl (.slnil) rfl
  · have g14 := if_f g10 c13
    refine ss_skip ?_
    obtain ⟨x15, h16, g21⟩ := bind_some g14
    obtain ⟨x17, h18, g22⟩ := bind_some g21
    obtain ⟨x19, h20, g23⟩ := bind_some g22
    refine ss_if (et_test (ev_op (ev_op (ev_str? y_thing h16 (ev_var rfl)) ev_int (os_ixS h18)) ev_str (os_notSign h20))) (fun c24 => ?_) (fun c26 => ?_)
    · have g25 := if_t g23 c24
      refine ss_retS ?_
      cases g25
      exact ss_retVG ev_bl (.slnil) rfl
    · have g27 := if_f g23 c26
      refine ss_skip ?_
      refine ss_end ?_
      refine ss_retS ?_
      obtain ⟨x28, h29, g43⟩ := bind_some g27
      obtain ⟨l40, h41, g44⟩ := bind_some g43
      cases g44
      exact ss_retVG (ev_cb (ea_cons (ev_of (evn_lcL h41 (ei_str (ev_str? y_thing h29 (ev_var rfl))) (js := [1]) (by decide) (fun a30 b34 _ h35 => ⟨_, tg_name, fun _ m31 => et_is et_yes (some_eq h35), fun _ y36 h37 _ m31 => by
          obtain ⟨x32, h33, g42⟩ := bind_some h37
          exact ev_eq (ev_op (ev_var rfl) ev_str (os_sign h33)) (some_eq g42)⟩))) ea_nil) (cs_all (ls_val))) (.slnil) rfl
theorem w_is_step (A : Facts P K mg base) : FnOk P w K mg base CX0 (1 + 1) A.f_is_step A.fd_is_step ["thing"] (SpV (S_is_step) K) := by
  refine A.F_is_step.ok sc_is_step (len_v (fun args C r C' h => by obtain ⟨_, _, _, rfl, _⟩ := h; rfl)) (fun cdv AA outer s H vs Q E hr h => ?_)
  have nd := sc_is_step.nd
  have hr1 : Room 1 _ := hr.mono (by decide)
  refine ⟨_, (pss_cons (ps_if (PW.pt (pw_or (pt_not (pt_val (pe_call (w_is_list (P := P) (w := w) A) hr1 (by rfl) A.g_is_list A.F_is_list.kp A.b_is_list .nil pass0 (pa_cons (pv 0) pa_nil)))) (pw_or (pt_cmpR op_ne (pe_callB (r := T.rLen K) call_len_seq (by rfl) A.n_len (by decide +kernel) (pa_cons (pv 0) pa_nil)) pe_int (nomark _)) (pw_or1 (pt_not (pt_val (pe_callB (r := rIsi K) call_isi (by rfl) A.n_isinstance (by decide +kernel) (pa_cons (pe_alt (pe_ix (r := rIxL K) ix_list (pv 0) pe_int (fun _ _ => rfl)) (pe_ix (r := rIxT K) ix_tup (pv 0) pe_int (fun _ _ => rfl))) (pa_cons (pe_bltn (v := .ty "str") (by rfl) A.n_str (by decide +kernel) rfl) pa_nil))))))))) (pss_one (ps_ret pe_bl)) pss_nil)
      (pss_cons (ps_if (pt_cmpR (r := rIn K false) op_in_seq (pe_alt (pe_ix (r := rIxL K) ix_list (pv 0) pe_int (fun _ _ => rfl)) (pe_ix (r := rIxT K) ix_tup (pv 0) pe_int (fun _ _ => rfl))) (pe_glob (v := .ref A.a_WORDS) (by rfl) A.g_WORDS rfl) (by rfl)) (pss_one (ps_ret (pe_call (w_is_name (P := P) (w := w) A) hr1 (by rfl) A.g_is_name A.F_is_name.kp A.b_is_name .nil pass0 (pa_cons (pe_alt (pe_ix (r := rIxL K) ix_list (pv 0) pe_int (fun _ _ => rfl)) (pe_ix (r := rIxT K) ix_tup (pv 0) pe_int (fun _ _ => rfl))) pa_nil)))) pss_nil)
      (pss_cons (ps_if (PW.pt (pw_or (pt_cmpR op_ne (pe_alt (pe_ix (r := rIxL K) ix_list (pv 0) pe_int (fun _ _ => rfl)) (pe_ix (r := rIxT K) ix_tup (pv 0) pe_int (fun _ _ => rfl))) pe_str (nomark _)) (pw_or (pt_not (pt_val (pe_call (w_is_list (P := P) (w := w) A) hr1 (by rfl) A.g_is_list A.F_is_list.kp A.b_is_list .nil pass0 (pa_cons (pe_alt (pe_ix (r := rIxL K) ix_list (pv 0) pe_int (fun _ _ => rfl)) (pe_ix (r := rIxT K) ix_tup (pv 0) pe_int (fun _ _ => rfl))) pa_nil)))) (pw_or1 (pt_cmpR op_ne (pe_callB (r := T.rLen K) call_len_seq (by rfl) A.n_len (by decide +kernel) (pa_cons (pe_alt (pe_ix (r := rIxL K) ix_list (pv 0) pe_int (fun _ _ => rfl)) (pe_ix (r := rIxT K) ix_tup (pv 0) pe_int (fun _ _ => rfl))) pa_nil)) pe_int (nomark _)))))) (pss_one (ps_ret pe_bl)) pss_nil)
      (pss_cons (ps_if (pt_not (pt_val (pe_callB (r := rAll K) (cr_all rfl) (by rfl) A.n_all (by decide +kernel) (pa_cons (pe_lc (own := [("name", 1)]) (g := gName 1) rfl nd (pi_alt (pi_list (pe_alt (pe_ix (r := rIxL K) ix_list (pv 0) pe_int (fun _ _ => rfl)) (pe_ix (r := rIxT K) ix_tup (pv 0) pe_int (fun _ _ => rfl))) : PI _ _ _ (iList K _)) (pi_tup (pe_alt (pe_ix (r := rIxL K) ix_list (pv 0) pe_int (fun _ _ => rfl)) (pe_ix (r := rIxT K) ix_tup (pv 0) pe_int (fun _ _ => rfl))) : PI _ _ _ (iTup K _))) (blkOk_by (own := [("name", 1)]) (N := N_is_step) (sc := defScope s_is_step) (by decide +kernel)) (fun _ _ _ _ _ => pg_name (i := 1) nd rfl (by first | exact .inl rfl | exact .inr rfl)) (fun _ _ _ _ _ => pts_nil) (fun _ _ _ _ _ => (pe_call (w_is_name (P := P) (w := w) A) hr1 (by rfl) A.g_is_name A.F_is_name.kp A.b_is_name .nil pass0 (pa_cons (pv 1) pa_nil)))) pa_nil)))) (pss_one (ps_ret pe_bl)) pss_nil)
      (pss_one (ps_ret (pe_cmpR op_eq (pe_callB cr_lenD (by rfl) A.n_len (by decide +kernel) (pa_cons (pe_frz (pe_dc (own := [("name", 1)]) (g := gName 1) rfl nd (pi_alt (pi_list (pe_alt (pe_ix (r := rIxL K) ix_list (pv 0) pe_int (fun _ _ => rfl)) (pe_ix (r := rIxT K) ix_tup (pv 0) pe_int (fun _ _ => rfl))) : PI _ _ _ (iList K _)) (pi_tup (pe_alt (pe_ix (r := rIxL K) ix_list (pv 0) pe_int (fun _ _ => rfl)) (pe_ix (r := rIxT K) ix_tup (pv 0) pe_int (fun _ _ => rfl))) : PI _ _ _ (iTup K _))) (blkOk_by (own := [("name", 1)]) (N := N_is_step) (sc := defScope s_is_step) (by decide +kernel)) (fun _ _ _ _ _ => pg_name (i := 1) nd rfl (by first | exact .inl rfl | exact .inr rfl)) (fun _ _ _ _ _ => pts_nil) (fun _ _ _ _ _ => (pv 1)) (fun _ _ _ _ _ => pe_bl))) pa_nil)) pe_int (nomark _)))))))), ?_⟩
  refine body_v h fun B args C r C' hK hP hS => ?_
  obtain ⟨t_thing, v_thing, res, rfl, rfl, y_thing, g0, rfl, rfl⟩ := hS
  subst hK
  obtain ⟨x1, h2, g25⟩ := bind_some g0
  obtain ⟨b20, h21, g26⟩ := bind_some g25
  refine ss_if (et_orO h21 (et_not (et_B (ev_call (ea_cons (ev_var rfl) ea_nil) ⟨t_thing, v_thing, _, rfl, rfl, y_thing, h2, rfl, rfl⟩))) fun _ g22 => by
        obtain ⟨x3, h4, g23⟩ := bind_some g22
        obtain ⟨b13, h14, g24⟩ := bind_some g23
        exact et_is (et_orO h14 (et_test (ev_op (ev_cb (ea_cons (ev_var rfl) ea_nil) (cs_lenD3 y_thing h4)) ev_int os_ne)) fun _ g15 => by
        obtain ⟨x5, h6, g16⟩ := bind_some g15
        obtain ⟨x7, h8, g17⟩ := bind_some g16
        obtain ⟨x9, h10, g18⟩ := bind_some g17
        obtain ⟨x11, h12, g19⟩ := bind_some g18
        exact et_is (et_not (et_B (ev_cb (ea_cons (ev_ixD y_thing h10 h12 (ev_var rfl) ev_int) (ea_cons ev_ty ea_nil)) (cs_isi dyn_of isk_str)))) (some_eq g19)) (some_eq g24)) (fun c27 => ?_) (fun c29 => ?_)
  · have g28 := if_t g26 c27
    refine ss_retS ?_
    cases g28
    exact ss_retVG ev_bl (.slnil) rfl
  · have g30 := if_f g26 c29
    refine ss_skip ?_
    obtain ⟨x31, h32, g37⟩ := bind_some g30
    obtain ⟨x33, h34, g38⟩ := bind_some g37
    obtain ⟨x35, h36, g39⟩ := bind_some g38
    refine ss_if (et_test (ev_op (ev_str? dyn_of h36 (ev_ixD y_thing h32 h34 (ev_var rfl) ev_int)) ev_cls (os_inT (lt_k A.t_WORDS)))) (fun c40 => ?_) (fun c51 => ?_)
    · have g41 := if_t g39 c40
      refine ss_retS ?_
      obtain ⟨x42, h43, g48⟩ := bind_some g41
      obtain ⟨x44, h45, g49⟩ := bind_some g48
      obtain ⟨x46, h47, g50⟩ := bind_some g49
      cases g50
      exact ss_retVG (ev_call (ea_cons (ev_ixD y_thing h43 h45 (ev_var rfl) ev_int) ea_nil) ⟨(tv (x44 : D)), x44, _, rfl, rfl, dyn_of, h47, rfl, rfl⟩) (.slnil) rfl
    · have g52 := if_f g39 c51
      refine ss_skip ?_
      obtain ⟨x53, h54, g84⟩ := bind_some g52
      obtain ⟨x55, h56, g85⟩ := bind_some g84
      obtain ⟨x57, h58, g86⟩ := bind_some g85
      obtain ⟨b77, h78, g87⟩ := bind_some g86
      refine ss_if (et_orO h78 (et_test (ev_op (ev_str? dyn_of h58 (ev_ixD y_thing h54 h56 (ev_var rfl) ev_int)) ev_str os_ne)) fun _ g79 => by
        obtain ⟨x59, h60, g80⟩ := bind_some g79
        obtain ⟨x61, h62, g81⟩ := bind_some g80
        obtain ⟨x63, h64, g82⟩ := bind_some g81
        obtain ⟨b71, h72, g83⟩ := bind_some g82
        exact et_is (et_orO h72 (et_not (et_B (ev_call (ea_cons (ev_ixD y_thing h60 h62 (ev_var rfl) ev_int) ea_nil) ⟨(tv (x61 : D)), x61, _, rfl, rfl, dyn_of, h64, rfl, rfl⟩))) fun _ g73 => by
        obtain ⟨x65, h66, g74⟩ := bind_some g73
        obtain ⟨x67, h68, g75⟩ := bind_some g74
        obtain ⟨x69, h70, g76⟩ := bind_some g75
        exact et_is (et_test (ev_op (ev_cb (ea_cons (ev_ixD y_thing h66 h68 (ev_var rfl) ev_int) ea_nil) (cs_lenD3 dyn_of h70)) ev_int os_ne)) (some_eq g76)) (some_eq g83)) (fun c88 => ?_) (fun c90 => ?_)
      · have g89 := if_t g87 c88
        refine ss_retS ?_
        cases g89
        exact ss_retVG ev_bl (.slnil) rfl
      · have g91 := if_f g87 c90
        refine ss_skip ?_
        obtain ⟨x92, h93, g111⟩ := bind_some g91
        obtain ⟨x94, h95, g112⟩ := bind_some g111
        obtain ⟨x96, h97, g113⟩ := bind_some g112
        obtain ⟨l108, h109, g114⟩ := bind_some g113
        refine ss_if (et_not (et_B (ev_cb (ea_cons (ev_of (evn_lcL h109 (ei_seqD dyn_of h97 (ev_ixD y_thing h93 h95 (ev_var rfl) ev_int)) (js := [1]) (by decide) (fun a98 b102 _ h103 => ⟨_, tg_name, fun _ m99 => et_is et_yes (some_eq h103), fun _ y104 h105 _ m99 => by
          obtain ⟨x100, h101, g110⟩ := bind_some h105
          exact ev_eq (ev_call (ea_cons (ev_var rfl) ea_nil) ⟨(tv (a98 : D)), a98, _, rfl, rfl, dyn_of, h101, rfl, rfl⟩) (some_eq g110)⟩))) ea_nil) (cs_all (ls_val))))) (fun c115 => ?_) (fun c117 => ?_)
        · have g116 := if_t g114 c115
          refine ss_retS ?_
          cases g116
          exact ss_retVG ev_bl (.slnil) rfl
        · have g118 := if_f g114 c117
          refine ss_skip ?_
          refine ss_end ?_
          refine ss_retS ?_
          obtain ⟨x119, h120, g138⟩ := bind_some g118
          obtain ⟨x121, h122, g139⟩ := bind_some g138
          obtain ⟨x123, h124, g140⟩ := bind_some g139
          obtain ⟨d135, h136, g141⟩ := bind_some g140
          cases g141
          exact ss_retVG (ev_op (ev_cb (ea_cons (ev_ofD (evn_dcO h136 (ei_seqD dyn_of h124 (ev_ixD y_thing h120 h122 (ev_var rfl) ev_int)) (js := [1]) (by decide) (fun a125 b129 _ h130 => ⟨_, tg_name, fun _ m126 => et_is et_yes (some_eq h130), fun _ k133 h134 _ m126 => by
          obtain ⟨x127, h128, g137⟩ := bind_some h134
          exact ev_eq (ev_str? dyn_of h128 (ev_var rfl)) (some_eq g137), fun _ y131 h132 _ m126 => ev_eq ev_bl (some_eq h132)⟩))) ea_nil) (cs_lenD (dv_val))) ev_int os_eq) (.slnil) rfl
theorem w_are_steps (A : Facts P K mg base) : FnOk P w K mg base CX0 (2 + 1) A.f_are_steps A.fd_are_steps ["thing"] (SpV (S_are_steps) K) := by
  refine A.F_are_steps.ok sc_are_steps (len_v (fun args C r C' h => by obtain ⟨_, _, _, rfl, _⟩ := h; rfl)) (fun cdv AA outer s H vs Q E hr h => ?_)
  have nd := sc_are_steps.nd
  have hr1 : Room 1 _ := hr.mono (by decide)
  have hr2 : Room 2 _ := hr.mono (by decide)
  refine ⟨_, (pss_one (ps_ret (pe_and (pe_call (w_is_list (P := P) (w := w) A) hr1 (by rfl) A.g_is_list A.F_is_list.kp A.b_is_list .nil pass0 (pa_cons (pv 0) pa_nil)) (pe_and (pe_cmpR op_le (pe_callB (r := T.rLen K) call_len_seq (by rfl) A.n_len (by decide +kernel) (pa_cons (pv 0) pa_nil)) (pe_glob (v := .int (300 : Int)) (by rfl) (A.g_HUNDREDS_steps).choose_spec ⟨_, rfl⟩) (nomark _)) (pe_one (pe_callB (r := rAll K) (cr_all rfl) (by rfl) A.n_all (by decide +kernel) (pa_cons (pe_lc (own := [("step", 1)]) (g := gName 1) rfl nd (pi_alt (pi_list (pv 0) : PI _ _ _ (iList K _)) (pi_tup (pv 0) : PI _ _ _ (iTup K _))) (blkOk_by (own := [("step", 1)]) (N := N_are_steps) (sc := defScope s_are_steps) (by decide +kernel)) (fun _ _ _ _ _ => pg_name (i := 1) nd rfl (by first | exact .inl rfl | exact .inr rfl)) (fun _ _ _ _ _ => pts_nil) (fun _ _ _ _ _ => (pe_call (w_is_step (P := P) (w := w) A) hr2 (by rfl) A.g_is_step A.F_is_step.kp A.b_is_step .nil pass0 (pa_cons (pv 1) pa_nil)))) pa_nil))))))), ?_⟩
  refine body_v h fun B args C r C' hK hP hS => ?_
  obtain ⟨t_thing, v_thing, res, rfl, rfl, y_thing, g0, rfl, rfl⟩ := hS
  subst hK
  refine ss_end ?_
  refine ss_retS ?_
  obtain ⟨x1, h2, g30⟩ := bind_some g0
  obtain ⟨b25, h26, g31⟩ := bind_some g30
  cases g31
  exact ss_retVG (ev_andO h26 (ev_call (ea_cons (ev_var rfl) ea_nil) ⟨t_thing, v_thing, _, rfl, rfl, y_thing, h2, rfl, rfl⟩) fun _ g27 => by
        obtain ⟨x3, h4, g28⟩ := bind_some g27
        obtain ⟨b20, h21, g29⟩ := bind_some g28
        exact ev_eq (ev_andO h21 (ev_op (ev_cb (ea_cons (ev_var rfl) ea_nil) (cs_lenD3 y_thing h4)) ev_int os_le) fun _ g22 => by
        obtain ⟨x5, h6, g23⟩ := bind_some g22
        obtain ⟨l17, h18, g24⟩ := bind_some g23
        exact ev_eq (ev_cb (ea_cons (ev_of (evn_lcL h18 (ei_seqD y_thing h6 (ev_var rfl)) (js := [1]) (by decide) (fun a7 b11 _ h12 => ⟨_, tg_name, fun _ m8 => et_is et_yes (some_eq h12), fun _ y13 h14 _ m8 => by
          obtain ⟨x9, h10, g19⟩ := bind_some h14
          exact ev_eq (ev_call (ea_cons (ev_var rfl) ea_nil) ⟨(tv (a7 : D)), a7, _, rfl, rfl, dyn_of, h10, rfl, rfl⟩) (some_eq g19)⟩))) ea_nil) (cs_all (ls_val))) (some_eq g24)) (some_eq g29)) (.slnil) rfl
theorem w_line_of (A : Facts P K mg base) : FnOk P w K mg base CX0 (0 + 1) A.f_line_of A.fd_line_of ["words"] (SpV (S_line_of) K) := by
  refine A.F_line_of.ok sc_line_of (len_v (fun args C r C' h => by obtain ⟨_, _, rfl, _⟩ := h; rfl)) (fun cdv AA outer s H vs Q E hr h => ?_)
  have nd := sc_line_of.nd
  refine ⟨_, (pss_one (ps_ret (pe_op op_add_str (pe_m1 (r := rJoin1 K) PySem.F.slot_str_join PySem.F.type_str_join mt_join pe_str (pv 0)) pe_str))), ?_⟩
  refine body_v h fun B args C r C' hK hP hS => ?_
  obtain ⟨v_words, res, rfl, rfl, g0, rfl, rfl⟩ := hS
  subst hK
  refine ss_end ?_
  refine ss_retS ?_
  obtain ⟨x1, h2, g5⟩ := bind_some g0
  obtain ⟨x3, h4, g6⟩ := bind_some g5
  cases g6
  exact ss_retVG (ev_eq (ev_op (ev_joinL h2 ev_str (ev_var rfl) (ls_val)) ev_str (os_addS (catS_some h4).2)) (catS_some h4).1.symm) (.slnil) rfl
theorem w_step_in (A : Facts P K mg base) : FnOk P w K mg base CX0 (2 + 1) A.f_step_in A.fd_step_in ["words"] (SpV (S_step_in) K) := by
  refine A.F_step_in.ok sc_step_in (len_v (fun args C r C' h => by obtain ⟨_, _, rfl, _⟩ := h; rfl)) (fun cdv AA outer s H vs Q E hr h => ?_)
  have nd := sc_step_in.nd
  have hr1 : Room 1 _ := hr.mono (by decide)
  have hr2 : Room 2 _ := hr.mono (by decide)
  refine ⟨_, (pss_cons (ps_set (i := 1) nd rfl (by first | exact .inl rfl | exact .inr rfl) (pe_ifExp (pt_cmpR op_eq (pe_ix (r := rIxL K) ix_list (pv 0) pe_int (fun _ _ => rfl)) pe_str (nomark _)) (pe_tup (pa_cons pe_str (pa_cons (pe_callTy (r := T.rTupOf K) call_tuple_of (by rfl) A.n_tuple (by decide +kernel) (pa_cons (pe_slice (r := rSlL K) sl_list (pv 0) (po_some pe_int) po_none) pa_nil)) pa_nil))) (pe_callTy (r := T.rTupOf K) call_tuple_of (by rfl) A.n_tuple (by decide +kernel) (pa_cons (pv 0) pa_nil))))
      (pss_one (ps_ret (pe_ifExp (pt_val (pe_call (w_is_step (P := P) (w := w) A) hr2 (by rfl) A.g_is_step A.F_is_step.kp A.b_is_step .nil pass0 (pa_cons (pv 1) pa_nil))) (pv 1) pe_non)))), ?_⟩
  refine body_v h fun B args C r C' hK hP hS => ?_
  obtain ⟨v_words, res, rfl, rfl, g0, rfl, rfl⟩ := hS
  subst hK
  obtain ⟨x1, h2, g9⟩ := bind_some g0
  obtain ⟨x3, h4, g10⟩ := bind_some g9
  refine ss_set (ev_if (et_test (ev_op (ev_op (ev_var rfl) ev_int (os_ix (ls_val) h2)) ev_str os_eq)) (fun c5 => by
        have g6 := if_t h4 c5
        
        exact ev_eq (ev_toD (ev_pair (ea_cons ev_str (ea_cons (ev_tupleOf (ea_cons (ev_of (evn_slice (ev_var rfl) (ls_val) (eo_some ev_int) eo_none)) ea_nil) (ls_val)) ea_nil)))) (some_eq g6)) (fun c7 => by
        have g8 := if_f h4 c7
        
        exact ev_eq (ev_toD (ev_tupleOf (ea_cons (ev_var rfl) ea_nil) (ls_val))) (some_eq g8))) ?_
  refine ss_end ?_
  refine ss_retS ?_
  obtain ⟨x11, h12, g19⟩ := bind_some g10
  obtain ⟨x13, h14, g20⟩ := bind_some g19
  cases g20
  exact ss_retVG (ev_if (et_B (ev_call (ea_cons (ev_var rfl) ea_nil) ⟨(tv (x3 : D)), x3, _, rfl, rfl, dyn_of, h12, rfl, rfl⟩)) (fun c15 => by
        have g16 := if_t h14 c15
        
        exact ev_eq (ev_var rfl) (some_eq g16)) (fun c17 => by
        have g18 := if_f h14 c17
        
        exact ev_eq (ev_toD ev_non) (some_eq g18))) (.slnil) rfl
theorem w_parts_of (A : Facts P K mg base) : FnOk P w K mg base (L2N.CX P w) (0 + 1) A.f_parts_of A.fd_parts_of ["text"] (SpVF (S_parts_of) (X_parts_of A.C_BadText) K) := by
  refine A.F_parts_of.okN sc_parts_of (len_vf (fun args C r C' h => by obtain ⟨_, _, _, rfl, _⟩ := h; rfl) (fun args C r C' h => by obtain ⟨_, _, _, rfl, _⟩ := h; rfl)) (fun cdv AA outer s H vs Q E hr h => ?_)
  have nd := sc_parts_of.nd
  refine ⟨_, (pss_cons (ps_if (pt_not (pt_val (pe_callB (r := rIsi K) call_isi (by rfl) A.n_isinstance (by decide +kernel) (pa_cons (pv 0) (pa_cons (pe_bltn (v := .ty "str") (by rfl) A.n_str (by decide +kernel) rfl) pa_nil))))) (pss_one (ps_raiseF2 rfl A.E_BadText hr (L2N.takes_of rfl rfl rfl rfl) (pa_cons (pv 0) (pa_cons pe_int pa_nil)) (by rfl))) pss_nil)
      (pss_cons (ps_set (i := 1) nd rfl (by first | exact .inl rfl | exact .inr rfl) (pe_m1 (r := rSplit1) PySem.F.slot_str_split PySem.F.type_str_split mt_split (pv 0) pe_str))
      (pss_one (ps_ret (pe_tup (pa_cons (pe_slice (r := rSlL K) sl_list (pv 1) po_none (po_some (pe_un un_neg pe_int))) (pa_cons (pe_ix (r := rIxL K) ix_list (pv 1) (pe_un un_neg pe_int) (fun _ _ => rfl)) pa_nil))))))), ?_⟩
  refine body_vf h (fun B args C r C' hK hP hS => ?_) (fun B args C e C' hK hP hS hE => ?_)
  · obtain ⟨t_text, v_text, res, rfl, rfl, y_text, g0, rfl, rfl⟩ := hS
    subst hK
    refine ss_if (et_not (et_B (ev_cb (ea_cons (ev_var rfl) (ea_cons ev_ty ea_nil)) (cs_isi y_text isk_str)))) (fun c1 => ?_) (fun c3 => ?_)
    · have g2 := if_t g0 c1
      cases g2
    · have g4 := if_f g0 c3
      refine ss_skip ?_
      obtain ⟨x5, h6, g9⟩ := bind_some g4
      obtain ⟨x7, h8, g10⟩ := bind_some g9
      refine ss_set (ev_of (evn_split h8 (ev_str? y_text h6 (ev_var rfl)) ev_str)) ?_
      refine ss_end ?_
      refine ss_retS ?_
      obtain ⟨x11, h12, g13⟩ := bind_some g10
      cases g13
      exact ss_retVG (ev_pair (ea_cons (ev_of (evn_slice (ev_var rfl) (ls_val) eo_none (eo_some (ev_neg ev_int)))) (ea_cons (ev_op (ev_var rfl) (ev_neg ev_int) (os_ix (ls_val) h12)) ea_nil))) (.slnil) rfl
  · obtain ⟨t_text, v_text, k, rfl, rfl, y_text, g0, he, rfl⟩ := hS
    subst hK
    have hE0 := hE
    clear hE
    refine ss_if (et_not (et_B (ev_cb (ea_cons (ev_var rfl) (ea_cons ev_ty ea_nil)) (cs_isi y_text isk_str)))) (fun c1 => ?_) (fun c3 => ?_)
    · have g2 := if_t g0 c1
      cases g2
      cases he
      exact ss_raiseSF2 (ea_cons (ev_var rfl) (ea_cons ev_int ea_nil)) (List.nil_sublist _) hE0
    · have g4 := if_f g0 c3
      refine ss_skip ?_
      obtain ⟨x5, h6, g9⟩ := bind_some g4
      obtain ⟨x7, h8, g10⟩ := bind_some g9
      refine ss_set (ev_of (evn_split h8 (ev_str? y_text h6 (ev_var rfl)) ev_str)) ?_
      refine ss_end ?_
      cases g10
theorem w_steps_text (A : Facts P K mg base) : FnOk P w K mg base (L2N.CX P w) (3 + 1) A.f_steps_text A.fd_steps_text ["steps"] (SpVF (S_steps_text) (X_steps_text A.C_BadSteps) K) := by
  refine A.F_steps_text.okN sc_steps_text (len_vf (fun args C r C' h => by obtain ⟨_, _, _, rfl, _⟩ := h; rfl) (fun args C r C' h => by obtain ⟨_, _, _, rfl, _⟩ := h; rfl)) (fun cdv AA outer s H vs Q E hr h => ?_)
  have nd := sc_steps_text.nd
  have hr1 : Room 1 _ := hr.mono (by decide)
  have hr2 : Room 2 _ := hr.mono (by decide)
  have hr3 : Room 3 _ := hr.mono (by decide)
  refine ⟨_, (pss_cons (ps_if (pt_not (pt_val (pe_call (w_are_steps (P := P) (w := w) A) hr3 (by rfl) A.g_are_steps A.F_are_steps.kp A.b_are_steps .nil pass0 (pa_cons (pv 0) pa_nil)))) (pss_one (ps_raiseF rfl A.E_BadSteps hr (L2N.takes_of rfl rfl rfl rfl) (pa_cons (pv 0) pa_nil) (by rfl))) pss_nil)
      (pss_one (ps_ret (pe_m1 (r := rJoin1 K) PySem.F.slot_str_join PySem.F.type_str_join mt_join pe_str (pe_lc (own := [("step", 1)]) (g := gName 1) rfl nd (pi_alt (pi_list (pv 0) : PI _ _ _ (iList K _)) (pi_tup (pv 0) : PI _ _ _ (iTup K _))) (blkOk_by (own := [("step", 1)]) (N := N_steps_text) (sc := defScope s_steps_text) (by decide +kernel)) (fun _ _ _ _ _ => pg_name (i := 1) nd rfl (by first | exact .inl rfl | exact .inr rfl)) (fun _ _ _ _ _ => pts_nil) (fun _ _ _ _ _ => (pe_call (w_line_of (P := P) (w := w) A) hr1 (by rfl) A.g_line_of A.F_line_of.kp A.b_line_of .nil pass0 (pa_cons (pe_op op_catL (pe_lst (pa_cons (pe_alt (pe_ix (r := rIxL K) ix_list (pv 1) pe_int (fun _ _ => rfl)) (pe_ix (r := rIxT K) ix_tup (pv 1) pe_int (fun _ _ => rfl))) pa_nil)) (pe_ifExp (pt_cmpR op_eq (pe_alt (pe_ix (r := rIxL K) ix_list (pv 1) pe_int (fun _ _ => rfl)) (pe_ix (r := rIxT K) ix_tup (pv 1) pe_int (fun _ _ => rfl))) pe_str (nomark _)) (pe_callTy (r := T.rListOf K) call_list_of (by rfl) A.n_list (by decide +kernel) (pa_cons (pe_alt (pe_ix (r := rIxL K) ix_list (pv 1) pe_int (fun _ _ => rfl)) (pe_ix (r := rIxT K) ix_tup (pv 1) pe_int (fun _ _ => rfl))) pa_nil)) (pe_lst (pa_cons (pe_alt (pe_ix (r := rIxL K) ix_list (pv 1) pe_int (fun _ _ => rfl)) (pe_ix (r := rIxT K) ix_tup (pv 1) pe_int (fun _ _ => rfl))) pa_nil)))) pa_nil)))))))), ?_⟩
  refine body_vf h (fun B args C r C' hK hP hS => ?_) (fun B args C e C' hK hP hS hE => ?_)
  · obtain ⟨t_steps, v_steps, res, rfl, rfl, y_steps, g0, rfl, rfl⟩ := hS
    subst hK
    obtain ⟨x1, h2, g3⟩ := bind_some g0
    refine ss_if (et_not (et_B (ev_call (ea_cons (ev_var rfl) ea_nil) ⟨t_steps, v_steps, _, rfl, rfl, y_steps, h2, rfl, rfl⟩))) (fun c4 => ?_) (fun c6 => ?_)
    · have g5 := if_t g3 c4
      cases g5
    · have g7 := if_f g3 c6
      refine ss_skip ?_
      refine ss_end ?_
      refine ss_retS ?_
      obtain ⟨x8, h9, g68⟩ := bind_some g7
      obtain ⟨l55, h56, g69⟩ := bind_some g68
      obtain ⟨x66, h67, g70⟩ := bind_some g69
      cases g70
      exact ss_retVG (ev_joinL h67 ev_str (ev_of (evn_lcL h56 (ei_seqD y_steps h9 (ev_var rfl)) (js := [1]) (by decide) (fun a10 b49 _ h50 => ⟨_, tg_name, fun _ m11 => et_is et_yes (some_eq h50), fun _ y51 h52 _ m11 => by
            obtain ⟨x12, h13, g57⟩ := bind_some h52
            obtain ⟨x14, h15, g58⟩ := bind_some g57
            obtain ⟨x16, h17, g59⟩ := bind_some g58
            obtain ⟨x18, h19, g60⟩ := bind_some g59
            obtain ⟨x20, h21, g61⟩ := bind_some g60
            obtain ⟨x32, h33, g62⟩ := bind_some g61
            obtain ⟨x43, h44, g63⟩ := bind_some g62
            obtain ⟨x45, h46, g64⟩ := bind_some g63
            obtain ⟨x47, h48, g65⟩ := bind_some g64
            exact ev_eq (ev_call (ea_cons (ev_of (evn_strs (evn_eq (evn_op (ev_of (evn_lst (xs := ([x14] : List D)) (ea_cons (ev_ixD dyn_of h13 h15 (ev_var rfl) ev_int) ea_nil) (szn (by show 1 ≤ 1000; decide)))) (ev_if (et_test (ev_op (ev_str? dyn_of h21 (ev_ixD dyn_of h17 h19 (ev_var rfl) ev_int)) ev_str os_eq)) (fun c34 => by
          have g35 := if_t h33 c34
          obtain ⟨x22, h23, g36⟩ := bind_some g35
          obtain ⟨x24, h25, g37⟩ := bind_some g36
          obtain ⟨x26, h27, g38⟩ := bind_some g37
          exact ev_eq (ev_of (evn_cb (ea_cons (ev_ixD dyn_of h23 h25 (ev_var rfl) ev_int) ea_nil) (cn_listD2 dyn_of h27))) (some_eq g38)) (fun c39 => by
          have g40 := if_f h33 c39
          obtain ⟨x28, h29, g41⟩ := bind_some g40
          obtain ⟨x30, h31, g42⟩ := bind_some g41
          exact ev_eq (ev_of (evn_lst (xs := ([x30] : List D)) (ea_cons (ev_ixD dyn_of h29 h31 (ev_var rfl) ev_int) ea_nil) (szn (by show 1 ≤ 1000; decide)))) (some_eq g42))) (on_cat (ls_val) (ls_val) (catO_some h44).2)) (catO_some h44).1.symm) h46)) ea_nil) ⟨x45, _, rfl, rfl, h48, rfl, rfl⟩) (some_eq g65)⟩))) (ls_val)) (.slnil) rfl
  · obtain ⟨t_steps, v_steps, k, rfl, rfl, y_steps, g0, he, rfl⟩ := hS
    subst hK
    have hE0 := hE
    clear hE
    obtain ⟨x1, h2, g3⟩ := bind_some g0
    refine ss_if (et_not (et_B (ev_call (ea_cons (ev_var rfl) ea_nil) ⟨t_steps, v_steps, _, rfl, rfl, y_steps, h2, rfl, rfl⟩))) (fun c4 => ?_) (fun c6 => ?_)
    · have g5 := if_t g3 c4
      cases g5
      cases he
      exact ss_raiseSF (ea_cons (ev_var rfl) ea_nil) (List.nil_sublist _) hE0
    · have g7 := if_f g3 c6
      refine ss_skip ?_
      refine ss_end ?_
      cases g7
theorem w_read_steps (A : Facts P K mg base) : FnOk P w K mg base (L2N.CX P w) (3 + 1) A.f_read_steps A.fd_read_steps ["text"] (SpNY (S_read_steps) (X_read_steps A.C_BadText) K) := by
  refine A.F_read_steps.okN sc_read_steps (len_nf (fun args C r C' h => by obtain ⟨_, _, _, rfl, _⟩ := h; rfl) (fun args C r C' h => by obtain ⟨_, _, _, rfl, _⟩ := h; rfl)) (fun cdv AA outer s H vs Q E hr h => ?_)
  have nd := sc_read_steps.nd
  have hr1 : Room 1 _ := hr.mono (by decide)
  have hr2 : Room 2 _ := hr.mono (by decide)
  have hr3 : Room 3 _ := hr.mono (by decide)
  refine ⟨_, (pss_cons (ps_asg (pe_callS (w_parts_of (P := P) (w := w) A) hr1 (by rfl) A.g_parts_of A.F_parts_of.kp A.b_parts_of (fun σ => L2N.passAt (L2N.takes_of rfl rfl rfl rfl) σ) (pa_cons (pv 0) pa_nil)) (pg_tup rfl (pgs_cons (pg_name (i := 1) nd rfl (by first | exact .inl rfl | exact .inr rfl)) (pgs_cons (pg_name (i := 2) nd rfl (by first | exact .inl rfl | exact .inr rfl)) pgs_nil))))
      (pss_cons (ps_set (i := 3) nd rfl (by first | exact .inl rfl | exact .inr rfl) (pe_lst pa_nil))
      (pss_cons (ps_for (by passes_own) rfl (pi_enum (by rfl) A.n_enumerate (pa_cons (pv 1) pa_nil)) (pg_tup rfl (pgs_cons (pg_name (i := 4) nd rfl (by first | exact .inl rfl | exact .inr rfl)) (pgs_cons (pg_name (i := 5) nd rfl (by first | exact .inl rfl | exact .inr rfl)) pgs_nil))) (pss_cons (ps_set (i := 6) nd rfl (by first | exact .inl rfl | exact .inr rfl) (pe_call (w_step_in (P := P) (w := w) A) hr3 (by rfl) A.g_step_in A.F_step_in.kp A.b_step_in .nil pass0 (pa_cons (pe_m1 (r := rSplit1) PySem.F.slot_str_split PySem.F.type_str_split mt_split (pv 5) pe_str) pa_nil)))
      (pss_cons (ps_if (PW.pt (pw_or (pt_cmpR op_ge (pv 4) (pe_glob (v := .int (300 : Int)) (by rfl) (A.g_HUNDREDS_texts).choose_spec ⟨_, rfl⟩) (nomark _)) (pw_or1 (pt_cmpR op_isN (pv 6) pe_non (nomark _))))) (pss_one (ps_raiseF2 rfl A.E_BadText hr (L2N.takes_of rfl rfl rfl rfl) (pa_cons (pv 0) (pa_cons (pv 4) pa_nil)) (by rfl))) pss_nil)
      (pss_one (ps_expr (pe_bm PySem.F.plainAttrs_list PySem.F.slot_list_append PySem.F.type_list_append mt_append (pv 3) (pa_cons (pv 6) pa_nil)))))))
      (pss_cons (ps_if (pt_cmpR op_ne (pv 2) pe_str (nomark _)) (pss_one (ps_raiseF2 rfl A.E_BadText hr (L2N.takes_of rfl rfl rfl rfl) (pa_cons (pv 0) (pa_cons (pe_callB (r := T.rLen K) call_len_seq (by rfl) A.n_len (by decide +kernel) (pa_cons (pv 1) pa_nil)) pa_nil)) (by rfl))) pss_nil)
      (pss_one (ps_ret (pv 3))))))), ?_⟩
  refine body_nf h (fun B args C r C' hK hP hS => ?_) (fun B args C e C' hK hP hS hE => ?_)
  · obtain ⟨t_text, v_text, res, rfl, rfl, y_text, g0, rfl, rfl⟩ := hS
    subst hK
    obtain ⟨x1, h2, g3⟩ := bind_some g0
    refine ss_pairT (ev_callVF (ea_cons (ev_var rfl) ea_nil) ⟨t_text, v_text, _, rfl, rfl, y_text, h2, rfl, rfl⟩) ?_
    refine ss_setN (evn_lst (xs := ([] : List D)) ea_nil (szn (by show 0 ≤ 1000; decide))) fun p4 hp_p4 => ?_
    obtain ⟨s24, h25, g26⟩ := bind_some g3
    refine ss_forO (js := [4, 5]) h25 (fun (s5 : (List D)) => [some t_text, some (tv (x1.1 : (List Str))), some (tv (x1.2 : Str)), some (tv (Ptr.mk p4)), none, none, none]) (fun (s5 : (List D)) => [(p4, Ct.lst (s5 : (List D)))]) (ei_enum (ea_cons (ev_var rfl) ea_nil) fun _ _ _ hf h => en_val hf h) (.cons (.inr rfl) (.cons (.inr rfl) (.cons (.inr rfl) (.cons (.inr rfl) (.cons (.inl rfl) (.cons (.inl rfl) (.cons (.inl rfl) .nil))))))) rfl ?_ ?_
    · intro s5 a7 s6 h8 g9
      refine ⟨_, tg_pair, ?_⟩
      obtain ⟨x11, h12, g15⟩ := bind_some g9
      obtain ⟨x13, h14, g16⟩ := bind_some g15
      refine ss_set (ev_call (ea_cons (ev_of (evn_split h12 (ev_var rfl) ev_str)) ea_nil) ⟨x11, _, rfl, rfl, h14, rfl, rfl⟩) ?_
      refine ss_if (et_or (et_test (ev_op (ev_var rfl) ev_int os_ge)) fun _ => (et_test (ev_op (ev_var rfl) ev_non (os_isNonD dyn_of)))) (fun c17 => ?_) (fun c19 => ?_)
      · have g18 := if_t g16 c17
        cases g18
      · have g20 := if_f g16 c19
        refine ss_skip ?_
        refine ss_end ?_
        obtain ⟨x21, h22, g23⟩ := bind_some g20
        refine ss_drop (ev_appO (k := 0) (ev_var rfl) (ea_cons (ev_var rfl) ea_nil) rfl rfl h22) ?_
        cases g23
        exact ss_goal (.cons (.inr rfl) (.cons (.inr rfl) (.cons (.inr rfl) (.cons (.inr rfl) (.cons (.inl rfl) (.cons (.inl rfl) (.cons (.inl rfl) .nil))))))) (.cons₂ _ .slnil)
    · refine ss_if (et_test (ev_op (ev_var rfl) ev_str os_ne)) (fun c27 => ?_) (fun c29 => ?_)
      · have g28 := if_t g26 c27
        cases g28
      · have g30 := if_f g26 c29
        refine ss_skip ?_
        refine ss_end ?_
        refine ss_retS ?_
        cases g30
        exact ss_retNG (evn_own (k := 0) rfl rfl hp_p4) (.slnil) rfl
  · obtain ⟨t_text, v_text, k, rfl, rfl, y_text, g0, he, rfl⟩ := hS
    subst hK
    have hE0 := hE
    clear hE
    by_cases hn : (!(D.isStr v_text)) = true
    · have g1 := if_t g0 hn
      cases g1
      cases he
      exact ss_setF (evf_call (ea_cons (ev_var rfl) ea_nil) ⟨t_text, v_text, 0, rfl, rfl, y_text, if_pos hn, rfl, rfl⟩) (List.nil_sublist _) hE0
    · replace g0 := if_f g0 (by simpa using hn)
      obtain ⟨x1, h2, g3⟩ := bind_some g0
      refine ss_pairT (ev_callVF (ea_cons (ev_var rfl) ea_nil) ⟨t_text, v_text, _, rfl, rfl, y_text, h2, rfl, rfl⟩) ?_
      refine ss_setN (evn_lst (xs := ([] : List D)) ea_nil (szn (by show 0 ≤ 1000; decide))) fun p4 hp_p4 => ?_
      obtain ⟨r11, h12, g13⟩ := bind_some g3
      refine ss_forR (js := [4, 5]) h12 (fun (s5 : (List D)) => [some t_text, some (tv (x1.1 : (List Str))), some (tv (x1.2 : Str)), some (tv (Ptr.mk p4)), none, none, none]) (fun (s5 : (List D)) => [(p4, Ct.lst (s5 : (List D)))]) (ei_enum (ea_cons (ev_var rfl) ea_nil) fun _ _ _ hf h => en_val hf h) (.cons (.inr rfl) (.cons (.inr rfl) (.cons (.inr rfl) (.cons (.inr rfl) (.cons (.inl rfl) (.cons (.inl rfl) (.cons (.inl rfl) .nil))))))) rfl ?_ ?_
      · intro s5 a7 e10 h8 g9
        refine ⟨_, tg_pair, fun s6 he_ => ?_, fun q33 he_ hr_ => ?_⟩
        · subst he_
          obtain ⟨x14, h15, g18⟩ := bind_some g9
          obtain ⟨x16, h17, g19⟩ := bind_some g18
          refine ss_set (ev_call (ea_cons (ev_of (evn_split h15 (ev_var rfl) ev_str)) ea_nil) ⟨x14, _, rfl, rfl, h17, rfl, rfl⟩) ?_
          refine ss_if (et_or (et_test (ev_op (ev_var rfl) ev_int os_ge)) fun _ => (et_test (ev_op (ev_var rfl) ev_non (os_isNonD dyn_of)))) (fun c20 => ?_) (fun c22 => ?_)
          · have g21 := if_t g19 c20
            cases some_eq g21
          · have g23 := if_f g19 c22
            refine ss_skip ?_
            refine ss_end ?_
            obtain ⟨x24, h25, g26⟩ := bind_some g23
            refine ss_drop (ev_appO (k := 0) (ev_var rfl) (ea_cons (ev_var rfl) ea_nil) rfl rfl h25) ?_
            cases some_eq g26
            exact ss_goal (.cons (.inr rfl) (.cons (.inr rfl) (.cons (.inr rfl) (.cons (.inr rfl) (.cons (.inl rfl) (.cons (.inl rfl) (.cons (.inl rfl) .nil))))))) (.cons₂ _ .slnil)
        · subst he_
          obtain ⟨x14, h15, g18⟩ := bind_some g9
          obtain ⟨x16, h17, g19⟩ := bind_some g18
          refine ss_set (ev_call (ea_cons (ev_of (evn_split h15 (ev_var rfl) ev_str)) ea_nil) ⟨x14, _, rfl, rfl, h17, rfl, rfl⟩) ?_
          refine ss_if (et_or (et_test (ev_op (ev_var rfl) ev_int os_ge)) fun _ => (et_test (ev_op (ev_var rfl) ev_non (os_isNonD dyn_of)))) (fun c20 => ?_) (fun c22 => ?_)
          · have g21 := if_t g19 c20
            cases some_eq g21
            subst hr_
            cases g13
            cases he
            exact ss_raiseSF2 (ea_cons (ev_var rfl) (ea_cons (ev_var rfl) ea_nil)) (List.nil_sublist _) hE0
          · have g23 := if_f g19 c22
            refine ss_skip ?_
            refine ss_end ?_
            obtain ⟨x24, h25, g26⟩ := bind_some g23
            refine ss_drop (ev_appO (k := 0) (ev_var rfl) (ea_cons (ev_var rfl) ea_nil) rfl rfl h25) ?_
            cases some_eq g26
      · intro s27 he_
        subst he_
        have g28 := g13
        refine ss_if (et_test (ev_op (ev_var rfl) ev_str os_ne)) (fun c29 => ?_) (fun c31 => ?_)
        · have g30 := if_t g28 c29
          cases g30
          cases he
          exact ss_raiseSF2 (ea_cons (ev_var rfl) (ea_cons (ev_cb (ea_cons (ev_var rfl) ea_nil) (cs_len (ls_val))) ea_nil)) (List.nil_sublist _) hE0
        · have g32 := if_f g28 c31
          refine ss_skip ?_
          refine ss_end ?_
          cases g32
theorem w__law_spring (A : Facts P K mg base) : FnOk P w K mg base CX0 (0 + 1) A.f__law_spring A.fd__law_spring ["script", "turn"] (SpN (S__law_spring) K) := by
  refine A.F__law_spring.ok sc__law_spring (len_n (fun args C r C' h => by obtain ⟨_, _, _, rfl, _⟩ := h; rfl)) (fun cdv AA outer s H vs Q E hr h => ?_)
  have nd := sc__law_spring.nd
  refine ⟨_, (pss_cons (ps_par (i := 2) (j := 3) rfl nd rfl rfl (by decide) rfl rfl (pa_cons (pe_ifExp (pt_cmpR op_lt (pv 1) (pe_callB (r := T.rLen K) call_len_seq (by rfl) A.n_len (by decide +kernel) (pa_cons (pv 0) pa_nil)) (nomark _)) (pe_ix (r := rIxL K) ix_list (pv 0) (pv 1) (fun _ _ => rfl)) (pe_op op_add (pe_op op_mul pe_int (pv 1)) (pe_callB (r := T.rLen K) call_len_seq (by rfl) A.n_len (by decide +kernel) (pa_cons (pv 0) pa_nil)))) (pa_cons (pe_op op_add pe_int (pe_op op_mul pe_int (pv 1))) pa_nil)) rfl)
      (pss_cons (ps_for PassesOwn.never rfl (pi_enum (by rfl) A.n_enumerate (pa_cons (pe_slice (r := rSlL K) sl_list (pv 0) po_none (po_some pe_int)) pa_nil)) (pg_tup rfl (pgs_cons (pg_name (i := 4) nd rfl (by first | exact .inl rfl | exact .inr rfl)) (pgs_cons (pg_name (i := 5) nd rfl (by first | exact .inl rfl | exact .inr rfl)) pgs_nil))) (pss_one (ps_set (i := 3) nd rfl (by first | exact .inl rfl | exact .inr rfl) (pe_op op_mod (pe_callTy call_int1 (by rfl) A.n_int (by decide +kernel) (pa_cons (pe_op op_add (pe_op op_add (pe_op op_add (pe_op op_mul (pv 3) pe_int) (pv 5)) (pe_op op_mul pe_int (pv 4))) pe_int) pa_nil)) pe_int))))
      (pss_one (ps_ret (pe_lst (pa_cons (pe_ifExp (pt_cmpR op_ge (pv 2) (pe_op op_pow pe_int pe_int) (nomark _)) (pv 2) pe_int) (pa_cons (pe_op op_mod (pe_callTy call_int1 (by rfl) A.n_int (by decide +kernel) (pa_cons (pe_op op_add (pv 3) (pe_op op_mul (pv 2) pe_int)) pa_nil)) pe_int) (pa_cons pe_int pa_nil)))))))), ?_⟩
  refine body_n h fun B args C r C' hK hP hS => ?_
  obtain ⟨v_script, v_turn, res, rfl, rfl, g0, rfl, rfl⟩ := hS
  subst hK
  obtain ⟨x5, h6, g17⟩ := bind_some g0
  obtain ⟨x13, h14, g18⟩ := bind_some g17
  obtain ⟨v15, h16, g19⟩ := bind_some g18
  refine ss_parX (eax_cons (ev_if (et_test (ev_op (ev_var rfl) (ev_cb (ea_cons (ev_var rfl) ea_nil) cs_lenQ) os_lt)) (fun c7 => by
        have g8 := if_t h6 c7
        obtain ⟨x1, h2, g9⟩ := bind_some g8
        exact ev_eq (ev_op (ev_var rfl) (ev_var rfl) (os_ixQ h2)) (some_eq g9)) (fun c10 => by
        have g11 := if_f h6 c10
        obtain ⟨x3, h4, g12⟩ := bind_some g11
        exact ev_eq (ev_op (ev_eq (ev_op ev_int (ev_var rfl) (os_mul (mulO_some h4).2)) (mulO_some h4).1.symm) (ev_cb (ea_cons (ev_var rfl) ea_nil) cs_lenQ) os_add) (some_eq g12))) (eax_cons (ev_eq (ev_op ev_int (ev_eq (ev_op ev_int (ev_var rfl) (os_mul (mulO_some h14).2)) (mulO_some h14).1.symm) os_add) (some_eq h16)) eax_nil)) (fun _ _ _ hk54 => ?_) (fun _ _ hk54 => by obtain ⟨_, rfl, _, rfl, rfl, rfl⟩ := hk54; rfl)
  obtain ⟨_, e55, hk54⟩ := hk54
  cases e55
  obtain ⟨_, e55, hk54⟩ := hk54
  cases e55
  obtain ⟨_, rfl⟩ := hk54
  obtain ⟨s35, h36, g37⟩ := bind_some g19
  refine ss_forO (js := [4, 5]) h36 (fun (s20 : Int) => [some (tv (v_script : Sq)), some (tv (v_turn : Int)), some (tv (x5 : Int)), some (tv (s20 : Int)), none, none]) (fun (s20 : Int) => []) (ei_enum (ea_cons (ev_of (evn_sliceQ (ev_var rfl) eo_none (eo_some ev_int))) ea_nil) fun _ _ _ hf h => en_val hf h) (.cons (.inr rfl) (.cons (.inr rfl) (.cons (.inr rfl) (.cons (.inr rfl) (.cons (.inl rfl) (.cons (.inl rfl) .nil)))))) rfl ?_ ?_
  · intro s20 a22 s21 h23 g24
    refine ⟨_, tg_pair, ?_⟩
    refine ss_end ?_
    obtain ⟨x26, h27, g32⟩ := bind_some g24
    obtain ⟨x28, h29, g33⟩ := bind_some g32
    obtain ⟨x30, h31, g34⟩ := bind_some g33
    refine ss_set (ev_eq (ev_op (ev_cb (ea_cons (ev_op (ev_op (ev_op (ev_eq (ev_op (ev_var rfl) ev_int (os_mul (mulO_some h27).2)) (mulO_some h27).1.symm) (ev_var rfl) os_add) (ev_eq (ev_op ev_int (ev_var rfl) (os_mul (mulO_some h29).2)) (mulO_some h29).1.symm) os_add) ev_int os_add) ea_nil) cs_int) ev_int (os_mod (modO_some h31).2)) (modO_some h31).1.symm) ?_
    cases g34
    exact ss_goal (.cons (.inr rfl) (.cons (.inr rfl) (.cons (.inr rfl) (.cons (.inr rfl) (.cons (.inl rfl) (.cons (.inl rfl) .nil)))))) .slnil
  · refine ss_end ?_
    refine ss_retS ?_
    obtain ⟨x38, h39, g50⟩ := bind_some g37
    obtain ⟨x40, h41, g51⟩ := bind_some g50
    obtain ⟨x46, h47, g52⟩ := bind_some g51
    obtain ⟨x48, h49, g53⟩ := bind_some g52
    cases g53
    exact ss_retNG (evn_lst (xs := ([x40, x48, (0 : Int)] : List Int)) (ea_cons (ev_if (et_test (ev_op (ev_var rfl) (ev_eq (ev_op ev_int ev_int (os_pow (powO_some h39).2)) (powO_some h39).1.symm) os_ge)) (fun c42 => by
        have g43 := if_t h41 c42
        
        exact ev_eq (ev_var rfl) (some_eq g43)) (fun c44 => by
        have g45 := if_f h41 c44
        
        exact ev_eq ev_int (some_eq g45))) (ea_cons (ev_eq (ev_op (ev_cb (ea_cons (ev_op (ev_var rfl) (ev_eq (ev_op (ev_var rfl) ev_int (os_mul (mulO_some h47).2)) (mulO_some h47).1.symm) os_add) ea_nil) cs_int) ev_int (os_mod (modO_some h49).2)) (modO_some h49).1.symm) (ea_cons ev_int ea_nil))) (szn (by show 3 ≤ 1000; decide))) (.slnil) rfl
theorem w__law_draw (A : Facts P K mg base) : FnOk P w K mg base CX0 (0 + 1) A.f__law_draw A.fd__law_draw ["spring", "many"] (SpV (S__law_draw) K) := by
  refine A.F__law_draw.ok sc__law_draw (len_v (fun args C r C' h => by obtain ⟨_, _, _, _, _, rfl, _⟩ := h; rfl)) (fun cdv AA outer s H vs Q E hr h => ?_)
  have nd := sc__law_draw.nd
  refine ⟨_, (pss_cons (ps_if (pt_cmpR op_gt (pe_ix (r := rIxL K) ix_list (pv 0) pe_int (fun _ _ => rfl)) pe_int (nomark _)) (pss_cons (ps_set (i := 2) nd rfl (by first | exact .inl rfl | exact .inr rfl) (pe_op op_mod (pe_callTy call_int1 (by rfl) A.n_int (by decide +kernel) (pa_cons (pe_ix (r := rIxL K) ix_list (pv 0) pe_int (fun _ _ => rfl)) pa_nil)) (pv 1)))
      (pss_cons (ps_asg (pe_op op_fdivW (pe_ix (r := rIxL K) ix_list (pv 0) pe_int (fun _ _ => rfl)) (pv 1)) (pg_sub (pv 0) pe_int set_list (by intros; rfl)))
      (pss_one (ps_ret (pv 2))))) pss_nil)
      (pss_cons (ps_asg (pe_op op_add (pe_ix (r := rIxL K) ix_list (pv 0) pe_int (fun _ _ => rfl)) pe_int) (pg_sub (pv 0) pe_int set_list (by intros; rfl)))
      (pss_cons (ps_set (i := 3) nd rfl (by first | exact .inl rfl | exact .inr rfl) (pe_op op_mod (pe_op op_pow (pe_callTy call_int1 (by rfl) A.n_int (by decide +kernel) (pa_cons (pe_op op_add (pe_op op_add (pe_ix (r := rIxL K) ix_list (pv 0) pe_int (fun _ _ => rfl)) (pe_op op_mul pe_int (pe_ix (r := rIxL K) ix_list (pv 0) pe_int (fun _ _ => rfl)))) pe_int) pa_nil)) pe_int) pe_int))
      (pss_one (ps_ret (pe_op op_mod (pe_op op_fdivW (pe_op op_mod (pe_op op_pow (pe_callTy call_int1 (by rfl) A.n_int (by decide +kernel) (pa_cons (pe_op op_add (pe_op op_mul (pv 3) pe_int) (pe_op op_mul pe_int (pe_ix (r := rIxL K) ix_list (pv 0) pe_int (fun _ _ => rfl)))) pa_nil)) pe_int) pe_int) pe_int) (pv 1))))))), ?_⟩
  refine body_v h fun B args C r C' hK hP hS => ?_
  obtain ⟨p_spring, v_spring, v_many, res, w_spring, rfl, rfl, g0, rfl, rfl⟩ := hS
  subst hK
  obtain ⟨x1, h2, g3⟩ := bind_some g0
  refine ss_if (et_test (ev_op (ev_op (ev_var rfl) ev_int (os_ix (ls_cell List.mem_cons_self) h2)) ev_int os_gt)) (fun c4 => ?_) (fun c21 => ?_)
  · have g5 := if_t g3 c4
    refine ss_assoc ?_
    obtain ⟨x6, h7, g10⟩ := bind_some g5
    obtain ⟨x8, h9, g11⟩ := bind_some g10
    refine ss_set (ev_eq (ev_op (ev_cb (ea_cons (ev_op (ev_var rfl) ev_int (os_ix (ls_cell List.mem_cons_self) h7)) ea_nil) cs_int) (ev_var rfl) (os_mod (modO_some h9).2)) (modO_some h9).1.symm) ?_
    refine ss_assoc ?_
    obtain ⟨x12, h13, g18⟩ := bind_some g11
    obtain ⟨x14, h15, g19⟩ := bind_some g18
    obtain ⟨l16, h17, g20⟩ := bind_some g19
    refine ss_iset (k := 0) (ev_eq (ev_op (ev_op (ev_var rfl) ev_int (os_ix (ls_cell List.mem_cons_self) h13)) (ev_var rfl) (os_fdivW (fdivWO_some h15).2)) (fdivWO_some h15).1.symm) (ev_var rfl) ev_int rfl h17 ?_
    refine ss_retS ?_
    cases g20
    exact ss_retVG (ev_var rfl) ((.cons₂ _ .slnil)) rfl
  · have g22 := if_f g3 c21
    refine ss_skip ?_
    obtain ⟨x23, h24, g27⟩ := bind_some g22
    obtain ⟨l25, h26, g28⟩ := bind_some g27
    refine ss_iset (k := 0) (ev_op (ev_op (ev_var rfl) ev_int (os_ix (ls_cell List.mem_cons_self) h24)) ev_int os_add) (ev_var rfl) ev_int rfl h26 ?_
    obtain ⟨x29, h30, g39⟩ := bind_some g28
    obtain ⟨x31, h32, g40⟩ := bind_some g39
    obtain ⟨x33, h34, g41⟩ := bind_some g40
    obtain ⟨x35, h36, g42⟩ := bind_some g41
    obtain ⟨x37, h38, g43⟩ := bind_some g42
    refine ss_set (ev_eq (ev_op (ev_eq (ev_op (ev_cb (ea_cons (ev_op (ev_op (ev_op (ev_var rfl) ev_int (os_ix (ls_cell List.mem_cons_self) h30)) (ev_eq (ev_op ev_int (ev_op (ev_var rfl) ev_int (os_ix (ls_cell List.mem_cons_self) h32)) (os_mul (mulO_some h34).2)) (mulO_some h34).1.symm) os_add) ev_int os_add) ea_nil) cs_int) ev_int (os_pow (powO_some h36).2)) (powO_some h36).1.symm) ev_int (os_mod (modO_some h38).2)) (modO_some h38).1.symm) ?_
    refine ss_end ?_
    refine ss_retS ?_
    obtain ⟨x44, h45, g58⟩ := bind_some g43
    obtain ⟨x46, h47, g59⟩ := bind_some g58
    obtain ⟨x48, h49, g60⟩ := bind_some g59
    obtain ⟨x50, h51, g61⟩ := bind_some g60
    obtain ⟨x52, h53, g62⟩ := bind_some g61
    obtain ⟨x54, h55, g63⟩ := bind_some g62
    obtain ⟨x56, h57, g64⟩ := bind_some g63
    cases g64
    exact ss_retVG (ev_eq (ev_op (ev_eq (ev_op (ev_eq (ev_op (ev_eq (ev_op (ev_cb (ea_cons (ev_op (ev_eq (ev_op (ev_var rfl) ev_int (os_mul (mulO_some h45).2)) (mulO_some h45).1.symm) (ev_eq (ev_op ev_int (ev_op (ev_var rfl) ev_int (os_ix (ls_cell List.mem_cons_self) h47)) (os_mul (mulO_some h49).2)) (mulO_some h49).1.symm) os_add) ea_nil) cs_int) ev_int (os_pow (powO_some h51).2)) (powO_some h51).1.symm) ev_int (os_mod (modO_some h53).2)) (modO_some h53).1.symm) ev_int (os_fdivW (fdivWO_some h55).2)) (fdivWO_some h55).1.symm) (ev_var rfl) (os_mod (modO_some h57).2)) (modO_some h57).1.symm) ((.cons₂ _ .slnil)) rfl
theorem w__law_pick (A : Facts P K mg base) : FnOk P w K mg base CX0 (1 + 1) A.f__law_pick A.fd__law_pick ["spring", "some"] (SpV (S__law_pick) K) := by
  refine A.F__law_pick.ok sc__law_pick (len_v (fun args C r C' h => by obtain ⟨_, _, _, _, _, _, _, rfl, _⟩ := h; rfl)) (fun cdv AA outer s H vs Q E hr h => ?_)
  have nd := sc__law_pick.nd
  have hr1 : Room 1 _ := hr.mono (by decide)
  refine ⟨_, (pss_one (ps_ret (pe_ix (r := rIxL K) ix_list (pv 1) (pe_call (w__law_draw (P := P) (w := w) A) hr1 (by rfl) A.g__law_draw A.F__law_draw.kp A.b__law_draw .nil pass0 (pa_cons (pv 0) (pa_cons (pe_callB (r := T.rLen K) call_len_seq (by rfl) A.n_len (by decide +kernel) (pa_cons (pv 1) pa_nil)) pa_nil))) (fun _ _ => rfl)))), ?_⟩
  refine body_v h fun B args C r C' hK hP hS => ?_
  obtain ⟨α, iα, p_spring, v_spring, v_some, res, w_spring, rfl, rfl, g0, rfl, rfl⟩ := hS
  subst hK
  refine ss_end ?_
  refine ss_retS ?_
  obtain ⟨x1, h2, g5⟩ := bind_some g0
  obtain ⟨x3, h4, g6⟩ := bind_some g5
  cases g6
  exact ss_retVG (ev_op (ev_var rfl) (ev_call1 (k := 0) (ea_cons (ev_var rfl) (ea_cons (ev_cb (ea_cons (ev_var rfl) ea_nil) (cs_len (ls_val))) ea_nil)) rfl ⟨p_spring, v_spring, (v_some.length : Int), x1.1, x1.2, rfl, rfl, h2, rfl, rfl⟩) (os_ix (ls_val) h4)) ((.cons₂ _ .slnil)) rfl
theorem w__law_mixed (A : Facts P K mg base) : FnOk P w K mg base CX0 (1 + 1) A.f__law_mixed A.fd__law_mixed ["spring", "some"] (SpN (S__law_mixed) K) := by
  refine A.F__law_mixed.ok sc__law_mixed (len_n (fun args C r C' h => by obtain ⟨_, _, _, _, _, _, _, rfl, _⟩ := h; rfl)) (fun cdv AA outer s H vs Q E hr h => ?_)
  have nd := sc__law_mixed.nd
  have hr1 : Room 1 _ := hr.mono (by decide)
  refine ⟨_, (pss_cons (ps_set (i := 2) nd rfl (by first | exact .inl rfl | exact .inr rfl) (pe_callTy (r := T.rListOf K) call_list_of (by rfl) A.n_list (by decide +kernel) (pa_cons (pv 1) pa_nil)))
      (pss_one (ps_ret (by exact (pe_lc (own := [("k", 3)]) (g := gName 3) rfl nd (pi_range1 rfl A.n_range (pa_cons (pe_callB (r := T.rLen K) call_len_seq (by rfl) A.n_len (by decide +kernel) (pa_cons (pv 2) pa_nil)) pa_nil)) (blkOk_by (own := [("k", 3)]) (N := N__law_mixed) (sc := defScope s__law_mixed) (by decide +kernel)) (fun _ _ _ _ _ => pg_name (i := 3) nd rfl (by first | exact .inl rfl | exact .inr rfl)) (fun _ _ _ _ _ => pts_nil) (fun _ _ _ _ _ => (pe_popAt (K := K) rfl (pv 2) (pa_cons (pe_call (w__law_draw (P := P) (w := w) A) hr1 (by rfl) A.g__law_draw A.F__law_draw.kp A.b__law_draw .nil pass0 (pa_cons (pv 0) (pa_cons (pe_callB (r := T.rLen K) call_len_seq (by rfl) A.n_len (by decide +kernel) (pa_cons (pv 2) pa_nil)) pa_nil))) pa_nil)))))))), ?_⟩
  refine body_n h fun B args C r C' hK hP hS => ?_
  obtain ⟨α, iα, p_spring, v_spring, v_some, res, w_spring, rfl, rfl, g0, rfl, rfl⟩ := hS
  subst hK
  obtain ⟨left1, h2, g3⟩ := bind_some g0
  refine ss_setN (evn_eq (evn_cb (ea_cons (ev_var rfl) ea_nil) (cn_list (ls_val))) (some_eq h2)) fun p4 hp_p4 => ?_
  refine ss_end ?_
  refine ss_retS ?_
  obtain ⟨r5, h6, g23⟩ := bind_some g3
  obtain ⟨l15, h16, g24⟩ := bind_some g23
  cases g24
  exact ss_retNG (evn_lcS h16 (fun (s8 : ((List Int) × (List α))) => [(p4, Ct.lst (s8.2 : (List α))), (p_spring, Ct.lst (s8.1 : (List Int)))]) (ei_rngO1 (ea_cons (ev_cb (ea_cons (ev_var rfl) ea_nil) (cs_len (ls_cell List.mem_cons_self))) ea_nil) h6) rfl (js := [3]) (by decide) (fun s8 a7 y17 s19 p9 acc10 h20 h18 => by
          obtain ⟨x11, h12, g21⟩ := bind_some h18
          obtain ⟨x13, h14, g22⟩ := bind_some g21
          cases g22
          exact ⟨_, tg_name, (ev_popAt (k := 1) h14 (ev_var rfl) (ea_cons (ev_call1 (k := 2) (ea_cons (ev_var rfl) (ea_cons (ev_cb (ea_cons (ev_var rfl) ea_nil) (cs_len (ls_cell (List.mem_cons_of_mem _ List.mem_cons_self)))) ea_nil)) rfl ⟨p_spring, s8.1, (s8.2.length : Int), x11.1, x11.2, rfl, rfl, h12, rfl, rfl⟩) ea_nil) rfl rfl)⟩)) ((.cons _ (.cons₂ _ .slnil))) rfl
theorem w__law_w_name (A : Facts P K mg base) : FnOk P w K mg base CX0 (2 + 1) A.f__law_w_name A.fd__law_w_name ["spring"] (SpV (S__law_w_name) K) := by
  refine A.F__law_w_name.ok sc__law_w_name (len_v (fun args C r C' h => by obtain ⟨_, _, _, _, rfl, _⟩ := h; rfl)) (fun cdv AA outer s H vs Q E hr h => ?_)
  have nd := sc__law_w_name.nd
  have hr1 : Room 1 _ := hr.mono (by decide)
  have hr2 : Room 2 _ := hr.mono (by decide)
  refine ⟨_, (pss_cons (ps_set (i := 1) nd rfl (by first | exact .inl rfl | exact .inr rfl) pe_str)
      (pss_cons (ps_set (i := 2) nd rfl (by first | exact .inl rfl | exact .inr rfl) (pe_ix ix_str (pv 1) (pe_call (w__law_draw (P := P) (w := w) A) hr1 (by rfl) A.g__law_draw A.F__law_draw.kp A.b__law_draw .nil pass0 (pa_cons (pv 0) (pa_cons pe_int pa_nil))) (fun _ _ => rfl)))
      (pss_cons (ps_for PassesOwn.never rfl (pi_range1 rfl A.n_range (pa_cons (pe_call (w__law_pick (P := P) (w := w) A) hr2 (by rfl) A.g__law_pick A.F__law_pick.kp A.b__law_pick .nil pass0 (pa_cons (pv 0) (pa_cons (pe_lst (pa_cons pe_int (pa_cons pe_int (pa_cons pe_int (pa_cons pe_int (pa_cons pe_int (pa_cons pe_int pa_nil))))))) pa_nil))) pa_nil)) (pg_name (i := 3) nd rfl (by first | exact .inl rfl | exact .inr rfl)) (pss_one (ps_set (i := 2) nd rfl (by first | exact .inl rfl | exact .inr rfl) (pe_op op_add_str (pv 2) (pe_ix ix_str (pv 1) (pe_call (w__law_draw (P := P) (w := w) A) hr1 (by rfl) A.g__law_draw A.F__law_draw.kp A.b__law_draw .nil pass0 (pa_cons (pv 0) (pa_cons pe_int pa_nil))) (fun _ _ => rfl))))))
      (pss_one (ps_ret (pv 2)))))), ?_⟩
  refine body_v h fun B args C r C' hK hP hS => ?_
  obtain ⟨p_spring, v_spring, res, w_spring, rfl, rfl, g0, rfl, rfl⟩ := hS
  subst hK
  obtain ⟨letters1, h2, g3⟩ := bind_some g0
  refine ss_set (ev_eq ev_str (some_eq h2)) ?_
  obtain ⟨x4, h5, g8⟩ := bind_some g3
  obtain ⟨x6, h7, g9⟩ := bind_some g8
  refine ss_set (ev_op (ev_var rfl) (ev_call1 (k := 0) (ea_cons (ev_var rfl) (ea_cons ev_int ea_nil)) rfl ⟨p_spring, v_spring, (26 : Int), x4.1, x4.2, rfl, rfl, h5, rfl, rfl⟩) (os_ixS h7)) ?_
  obtain ⟨x10, h11, g14⟩ := bind_some g9
  obtain ⟨r12, h13, g15⟩ := bind_some g14
  obtain ⟨s31, h32, g33⟩ := bind_some g15
  refine ss_forO (js := [3]) h32 (fun (s16 : ((List Int) × Str)) => [some (tv (Ptr.mk p_spring)), some (tv (letters1 : Str)), some (tv (s16.2 : Str)), none]) (fun (s16 : ((List Int) × Str)) => [(p_spring, Ct.lst (s16.1 : (List Int)))]) (ei_rngO1 (ea_cons (ev_call1 (k := 0) (ea_cons (ev_var rfl) (ea_cons (ev_of (evn_lst (xs := ([(0 : Int), (1 : Int), (1 : Int), (2 : Int), (3 : Int), (7 : Int)] : List Int)) (ea_cons ev_int (ea_cons ev_int (ea_cons ev_int (ea_cons ev_int (ea_cons ev_int (ea_cons ev_int ea_nil)))))) (szn (by show 6 ≤ 1000; decide)))) ea_nil)) rfl ⟨Int, inferInstance, p_spring, x4.2, ([(0 : Int), (1 : Int), (1 : Int), (2 : Int), (3 : Int), (7 : Int)] : List Int), x10.1, x10.2, rfl, rfl, h11, rfl, rfl⟩) ea_nil) h13) (.cons (.inr rfl) (.cons (.inr rfl) (.cons (.inr rfl) (.cons (.inl rfl) .nil)))) rfl ?_ ?_
  · intro s16 a18 s17 h19 g20
    refine ⟨_, tg_name, ?_⟩
    refine ss_end ?_
    obtain ⟨x22, h23, g28⟩ := bind_some g20
    obtain ⟨x24, h25, g29⟩ := bind_some g28
    obtain ⟨x26, h27, g30⟩ := bind_some g29
    refine ss_set (ev_eq (ev_op (ev_var rfl) (ev_op (ev_var rfl) (ev_call1 (k := 0) (ea_cons (ev_var rfl) (ea_cons ev_int ea_nil)) rfl ⟨p_spring, s16.1, (36 : Int), x22.1, x22.2, rfl, rfl, h23, rfl, rfl⟩) (os_ixS h25)) (os_addS (catS_some h27).2)) (catS_some h27).1.symm) ?_
    cases g30
    exact ss_goal (.cons (.inr rfl) (.cons (.inr rfl) (.cons (.inr rfl) (.cons (.inl rfl) .nil)))) (.cons₂ _ .slnil)
  · refine ss_end ?_
    refine ss_retS ?_
    cases g33
    exact ss_retVG (ev_var rfl) ((.cons₂ _ .slnil)) rfl
theorem w__law_w_names (A : Facts P K mg base) : FnOk P w K mg base CX0 (3 + 1) A.f__law_w_names A.fd__law_w_names ["spring", "many"] (SpN (S__law_w_names) K) := by
  refine A.F__law_w_names.ok sc__law_w_names (len_n (fun args C r C' h => by obtain ⟨_, _, _, _, _, rfl, _⟩ := h; rfl)) (fun cdv AA outer s H vs Q E hr h => ?_)
  have nd := sc__law_w_names.nd
  have hr1 : Room 1 _ := hr.mono (by decide)
  have hr2 : Room 2 _ := hr.mono (by decide)
  have hr3 : Room 3 _ := hr.mono (by decide)
  refine ⟨_, (pss_cons (ps_set (i := 2) nd rfl (by first | exact .inl rfl | exact .inr rfl) (pe_lst pa_nil))
      (pss_cons (ps_for PassesOwn.never rfl (pi_range1 rfl A.n_range (pa_cons (pv 1) pa_nil)) (pg_name (i := 3) nd rfl (by first | exact .inl rfl | exact .inr rfl)) (pss_cons (ps_set (i := 4) nd rfl (by first | exact .inl rfl | exact .inr rfl) (pe_call (w__law_w_name (P := P) (w := w) A) hr3 (by rfl) A.g__law_w_name A.F__law_w_name.kp A.b__law_w_name .nil pass0 (pa_cons (pv 0) pa_nil)))
      (pss_cons (ps_if (PW.pt (pw_and (pt_truth (pv 2) (by intro _; rfl) : PT _ _ (tTruK K _)) (pw_and1 (pt_cmpR op_eq (pe_call (w__law_draw (P := P) (w := w) A) hr1 (by rfl) A.g__law_draw A.F__law_draw.kp A.b__law_draw .nil pass0 (pa_cons (pv 0) (pa_cons pe_int pa_nil))) pe_int (nomark _))))) (pss_one (ps_set (i := 4) nd rfl (by first | exact .inl rfl | exact .inr rfl) (pe_op op_add_str (pe_slice sl_str (pe_call (w__law_pick (P := P) (w := w) A) hr2 (by rfl) A.g__law_pick A.F__law_pick.kp A.b__law_pick .nil pass0 (pa_cons (pv 0) (pa_cons (pv 2) pa_nil))) po_none (po_some pe_int)) (pe_call (w__law_pick (P := P) (w := w) A) hr2 (by rfl) A.g__law_pick A.F__law_pick.kp A.b__law_pick .nil pass0 (pa_cons (pv 0) (pa_cons (pe_lst (pa_cons pe_str (pa_cons pe_str (pa_cons pe_str (pa_cons pe_str (pa_cons pe_str pa_nil)))))) pa_nil)))))) pss_nil)
      (pss_cons (ps_set (i := 5) nd rfl (by first | exact .inl rfl | exact .inr rfl) pe_int)
      (pss_cons (ps_while PassesOwn.never (pt_cmpR (r := rIn K false) op_in_seq (pv 4) (pv 2) (by rfl)) (pss_cons (ps_set (i := 4) nd rfl (by first | exact .inl rfl | exact .inr rfl) (pe_op op_add_str (pe_ix ix_str pe_str (pe_op op_mod (pv 5) pe_int) (fun _ _ => rfl)) (pe_callTy call_str_int (by rfl) A.n_str (by decide +kernel) (pa_cons (pe_op op_add (pe_op op_fdivW (pv 5) pe_int) (pv 3)) pa_nil))))
      (pss_one (ps_set (i := 5) nd rfl (by first | exact .inl rfl | exact .inr rfl) (pe_op op_add (pv 5) pe_int)))))
      (pss_one (ps_expr (pe_bm PySem.F.plainAttrs_list PySem.F.slot_list_append PySem.F.type_list_append mt_append (pv 2) (pa_cons (pv 4) pa_nil)))))))))
      (pss_one (ps_ret (pv 2))))), ?_⟩
  refine body_n h fun B args C r C' hK hP hS => ?_
  obtain ⟨p_spring, v_spring, v_many, res, w_spring, rfl, rfl, g0, rfl, rfl⟩ := hS
  subst hK
  refine ss_setN (evn_lst (xs := ([] : List Str)) ea_nil (szn (by show 0 ≤ 1000; decide))) fun p1 hp_p1 => ?_
  obtain ⟨r2, h3, g4⟩ := bind_some g0
  obtain ⟨s79, h80, g81⟩ := bind_some g4
  refine ss_forO (js := [3]) h80 (fun (s5 : ((List Int) × (List Str))) => [some (tv (Ptr.mk p_spring)), some (tv (v_many : Int)), some (tv (Ptr.mk p1)), none, none, none]) (fun (s5 : ((List Int) × (List Str))) => [(p1, Ct.lst (s5.2 : (List Str))), (p_spring, Ct.lst (s5.1 : (List Int)))]) (ei_rngO1 (ea_cons (ev_var rfl) ea_nil) h3) (.cons (.inr rfl) (.cons (.inr rfl) (.cons (.inr rfl) (.cons (.inl rfl) (.cons (.inl rfl) (.cons (.inl rfl) .nil)))))) rfl ?_ ?_
  · intro s5 a7 s6 h8 g9
    refine ⟨_, tg_name, ?_⟩
    obtain ⟨x11, h12, g15⟩ := bind_some g9
    obtain ⟨one13, h14, g16⟩ := bind_some g15
    refine ss_set (ev_eq (ev_call1 (k := 1) (ea_cons (ev_var rfl) ea_nil) rfl ⟨p_spring, s5.1, x11.1, x11.2, rfl, rfl, h12, rfl, rfl⟩) (some_eq h14)) ?_
    obtain ⟨r19, h20, g27⟩ := bind_some g16
    obtain ⟨s28, h29, g46⟩ := bind_some g27
    refine ss_ifJ h29 (fun (s28 : ((List Int) × Str)) => [some (tv (Ptr.mk p_spring)), some (tv (v_many : Int)), some (tv (Ptr.mk p1)), some (tv (a7 : Int)), some (tv (s28.2 : Str)), none]) (fun (s28 : ((List Int) × Str)) => [(p1, Ct.lst (s5.2 : (List Str))), (p_spring, Ct.lst (s28.1 : (List Int)))]) (et_andS2 (fun (s21 : (List Int)) => [(p1, Ct.lst (s5.2 : (List Str))), (p_spring, Ct.lst (s21 : (List Int)))]) (et_truL (ev_var rfl) (ls_cell List.mem_cons_self)) (fun c22 => by
        have g23 := if_t h20 c22
        obtain ⟨x17, h18, g26⟩ := bind_some g23
        cases g26
        exact (et_test (ev_op (ev_call1 (k := 1) (ea_cons (ev_var rfl) (ea_cons ev_int ea_nil)) rfl ⟨p_spring, x11.2, (4 : Int), x17.1, x17.2, rfl, rfl, h18, rfl, rfl⟩) ev_int os_eq))) (fun c24 => by
        have g25 := if_f h20 c24
        cases g25
        exact ⟨rfl, rfl⟩)) (fun c30 g31 => ?_) (fun c44 g45 => ?_) ?_
    · refine ss_end ?_
      obtain ⟨x32, h33, g40⟩ := bind_some g31
      obtain ⟨x34, h35, g41⟩ := bind_some g40
      obtain ⟨x36, h37, g42⟩ := bind_some g41
      obtain ⟨x38, h39, g43⟩ := bind_some g42
      refine ss_set (ev_eq (ev_op (ev_eq (ev_sliceS (cutSO_some h35).2 (ev_call1R (k := 1) (ea_cons (ev_var rfl) (ea_cons (ev_var rfl) ea_nil)) rfl (.cons .val (.cons (.lst (List.mem_cons_self)) .nil)) flC_lst ⟨Str, inferInstance, p_spring, r19.2, s5.2, x32.1, x32.2, rfl, rfl, h33, rfl, rfl⟩) eo_none (eo_some ev_int)) (cutSO_some h35).1.symm) (ev_call1 (k := 1) (ea_cons (ev_var rfl) (ea_cons (ev_of (evn_lst (xs := ([(Str.ofString "a"), (Str.ofString "m"), (Str.ofString "z"), (Str.ofString "0"), (Str.ofString "9")] : List Str)) (ea_cons ev_str (ea_cons ev_str (ea_cons ev_str (ea_cons ev_str (ea_cons ev_str ea_nil))))) (szn (by show 5 ≤ 1000; decide)))) ea_nil)) rfl ⟨Str, inferInstance, p_spring, x32.2, ([(Str.ofString "a"), (Str.ofString "m"), (Str.ofString "z"), (Str.ofString "0"), (Str.ofString "9")] : List Str), x36.1, x36.2, rfl, rfl, h37, rfl, rfl⟩) (os_addS (catS_some h39).2)) (catS_some h39).1.symm) ?_
      cases g43
      exact ss_join (.cons (.inr rfl) (.cons (.inr rfl) (.cons (.inr rfl) (.cons (.inr rfl) (.cons (.inr rfl) (.cons (.inl rfl) .nil)))))) (.cons₂ _ (.cons₂ _ .slnil))
    · cases g45
      exact ss_join (.cons (.inr rfl) (.cons (.inr rfl) (.cons (.inr rfl) (.cons (.inr rfl) (.cons (.inr rfl) (.cons (.inl rfl) .nil)))))) (.cons₂ _ (.cons₂ _ .slnil))
    · obtain ⟨at47, h48, g49⟩ := bind_some g46
      refine ss_set (ev_eq ev_int (some_eq h48)) ?_
      obtain ⟨s73, h74, g75⟩ := bind_some g49
      refine ss_whileO h74 (fun (s50 : (Str × Int)) => [some (tv (Ptr.mk p_spring)), some (tv (v_many : Int)), some (tv (Ptr.mk p1)), some (tv (a7 : Int)), some (tv (s50.1 : Str)), some (tv (s50.2 : Int))]) (fun (s50 : (Str × Int)) => [(p1, Ct.lst (s5.2 : (List Str))), (p_spring, Ct.lst (s28.1 : (List Int)))]) (.cons (.inr rfl) (.cons (.inr rfl) (.cons (.inr rfl) (.cons (.inr rfl) (.cons (.inr rfl) (.cons (.inr rfl) .nil)))))) rfl ?_ ?_ ?_
      · intro s50 b53 h52
        exact et_is (et_test (ev_op (ev_var rfl) (ev_var rfl) (os_in (ls_cell List.mem_cons_self)))) (some_eq h52)
      · intro s50 s51 _ g54
        obtain ⟨x55, h56, g65⟩ := bind_some g54
        obtain ⟨x57, h58, g66⟩ := bind_some g65
        obtain ⟨x59, h60, g67⟩ := bind_some g66
        obtain ⟨x61, h62, g68⟩ := bind_some g67
        obtain ⟨x63, h64, g69⟩ := bind_some g68
        refine ss_set (ev_eq (ev_op (ev_op ev_str (ev_eq (ev_op (ev_var rfl) ev_int (os_mod (modO_some h56).2)) (modO_some h56).1.symm) (os_ixS h58)) (ev_eq (ev_cb (ea_cons (ev_op (ev_eq (ev_op (ev_var rfl) ev_int (os_fdivW (fdivWO_some h60).2)) (fdivWO_some h60).1.symm) (ev_var rfl) os_add) ea_nil) (cs_strI (strO_some h62).2)) (strO_some h62).1.symm) (os_addS (catS_some h64).2)) (catS_some h64).1.symm) ?_
        refine ss_end ?_
        obtain ⟨at70, h71, g72⟩ := bind_some g69
        refine ss_set (ev_eq (ev_op (ev_var rfl) ev_int os_add) (some_eq h71)) ?_
        cases g72
        exact ss_goal (.cons (.inr rfl) (.cons (.inr rfl) (.cons (.inr rfl) (.cons (.inr rfl) (.cons (.inr rfl) (.cons (.inr rfl) .nil)))))) (.cons₂ _ (.cons₂ _ .slnil))
      · refine ss_end ?_
        obtain ⟨x76, h77, g78⟩ := bind_some g75
        refine ss_drop (ev_appO (k := 0) (ev_var rfl) (ea_cons (ev_var rfl) ea_nil) rfl rfl h77) ?_
        cases g78
        exact ss_goal (.cons (.inr rfl) (.cons (.inr rfl) (.cons (.inr rfl) (.cons (.inl rfl) (.cons (.inl rfl) (.cons (.inl rfl) .nil)))))) (.cons₂ _ (.cons₂ _ .slnil))
  · refine ss_end ?_
    refine ss_retS ?_
    cases g81
    exact ss_retNG (evn_own (k := 0) rfl rfl hp_p1) ((.cons₂ _ .slnil)) rfl
theorem w__law_x_name (A : Facts P K mg base) : FnOk P w K mg base CX0 (0 + 1) A.f__law_x_name A.fd__law_x_name ["word"] (SpV (S__law_x_name) K) := by
  refine A.F__law_x_name.ok sc__law_x_name (len_v (fun args C r C' h => by obtain ⟨_, _, rfl, _⟩ := h; rfl)) (fun cdv AA outer s H vs Q E hr h => ?_)
  have nd := sc__law_x_name.nd
  refine ⟨_, (pss_cons (ps_set (i := 1) nd rfl (by first | exact .inl rfl | exact .inr rfl) pe_str)
      (pss_cons (ps_if (PW.pt (pw_or (pt_not (pt_chain op_le op_le pe_int (pe_callB call_len_str (by rfl) A.n_len (by decide +kernel) (pa_cons (pv 0) pa_nil)) pe_int)) (pw_or1 (pt_cmpR op_notIn_sign (pe_ix ix_str (pv 0) pe_int (fun _ _ => rfl)) (pv 1) (by rfl))))) (pss_one (ps_ret pe_bl)) pss_nil)
      (pss_one (ps_ret (pe_callB (r := rAll K) (cr_all rfl) (by rfl) A.n_all (by decide +kernel) (pa_cons (pe_lc (own := [("sign", 2)]) (g := gName 2) rfl nd (pi_str (pv 0)) (blkOk_by (own := [("sign", 2)]) (N := N__law_x_name) (sc := defScope s__law_x_name) (by decide +kernel)) (fun _ _ _ _ _ => pg_name (i := 2) nd rfl (by first | exact .inl rfl | exact .inr rfl)) (fun _ _ _ _ _ => pts_nil) (fun _ _ _ _ _ => (pe_or (pe_cmpR op_in_sign (pv 2) (pv 1) (by rfl)) (pe_one (pe_cmpR op_in_sign (pv 2) pe_str (by rfl)))))) pa_nil)))))), ?_⟩
  refine body_v h fun B args C r C' hK hP hS => ?_
  obtain ⟨v_word, res, rfl, rfl, g0, rfl, rfl⟩ := hS
  subst hK
  obtain ⟨letters1, h2, g3⟩ := bind_some g0
  refine ss_set (ev_eq ev_str (some_eq h2)) ?_
  obtain ⟨x4, h5, g15⟩ := bind_some g3
  obtain ⟨b10, h11, g16⟩ := bind_some g15
  refine ss_if (et_orO h11 (et_not (et_test (ev_chain' ev_int (ev_eq (ev_cb (ea_cons (ev_var rfl) ea_nil) (cs_lenS (lenS_some h5).2)) (lenS_some h5).1.symm) os_le (fun _ => ev_int) os_le))) fun _ g12 => by
        obtain ⟨x6, h7, g13⟩ := bind_some g12
        obtain ⟨x8, h9, g14⟩ := bind_some g13
        exact et_is (et_test (ev_op (ev_op (ev_var rfl) ev_int (os_ixS h7)) (ev_var rfl) (os_notSign h9))) (some_eq g14)) (fun c17 => ?_) (fun c19 => ?_)
  · have g18 := if_t g16 c17
    refine ss_retS ?_
    cases g18
    exact ss_retVG ev_bl (.slnil) rfl
  · have g20 := if_f g16 c19
    refine ss_skip ?_
    refine ss_end ?_
    refine ss_retS ?_
    obtain ⟨l37, h38, g41⟩ := bind_some g20
    cases g41
    exact ss_retVG (ev_cb (ea_cons (ev_of (evn_lcL h38 (ei_str (ev_var rfl)) (js := [2]) (by decide) (fun a21 b31 _ h32 => ⟨_, tg_name, fun _ m22 => et_is et_yes (some_eq h32), fun _ y33 h34 _ m22 => by
          obtain ⟨x23, h24, g39⟩ := bind_some h34
          obtain ⟨b27, h28, g40⟩ := bind_some g39
          exact ev_eq (ev_orO h28 (ev_op (ev_var rfl) (ev_var rfl) (os_sign h24)) fun _ g29 => by
        obtain ⟨x25, h26, g30⟩ := bind_some g29
        exact ev_eq (ev_op (ev_var rfl) ev_str (os_sign h26)) (some_eq g30)) (some_eq g40)⟩))) ea_nil) (cs_all (ls_val))) (.slnil) rfl
theorem w__law_x_step (A : Facts P K mg base) : FnOk P w K mg base CX0 (1 + 1) A.f__law_x_step A.fd__law_x_step ["words"] (SpV (S__law_x_step) K) := by
  refine A.F__law_x_step.ok sc__law_x_step (len_v (fun args C r C' h => by obtain ⟨_, _, rfl, _⟩ := h; rfl)) (fun cdv AA outer s H vs Q E hr h => ?_)
  have nd := sc__law_x_step.nd
  have hr1 : Room 1 _ := hr.mono (by decide)
  refine ⟨_, (pss_cons (ps_if (pt_not (pt_val (pe_callB (r := rAll K) (cr_all rfl) (by rfl) A.n_all (by decide +kernel) (pa_cons (pe_lc (own := [("word", 1)]) (g := gName 1) rfl nd (pi_list (pe_slice (r := rSlL K) sl_list (pv 0) (po_some pe_int) po_none) : PI _ _ _ (iList K _)) (blkOk_by (own := [("word", 1)]) (N := N__law_x_step) (sc := defScope s__law_x_step) (by decide +kernel)) (fun _ _ _ _ _ => pg_name (i := 1) nd rfl (by first | exact .inl rfl | exact .inr rfl)) (fun _ _ _ _ _ => pts_nil) (fun _ _ _ _ _ => (pe_call (w__law_x_name (P := P) (w := w) A) hr1 (by rfl) A.g__law_x_name A.F__law_x_name.kp A.b__law_x_name .nil pass0 (pa_cons (pv 1) pa_nil)))) pa_nil)))) (pss_one (ps_ret pe_non)) pss_nil)
      (pss_cons (ps_if (PW.pt (pw_and (pt_cmpR (r := rIn K false) op_in_seq (pe_ix (r := rIxL K) ix_list (pv 0) pe_int (fun _ _ => rfl)) (pe_lst (pa_cons pe_str (pa_cons pe_str (pa_cons pe_str pa_nil)))) (by rfl)) (pw_and1 (pt_cmpR op_eq (pe_callB (r := T.rLen K) call_len_seq (by rfl) A.n_len (by decide +kernel) (pa_cons (pv 0) pa_nil)) pe_int (nomark _))))) (pss_one (ps_ret (pe_tup (pa_cons (pe_ix (r := rIxL K) ix_list (pv 0) pe_int (fun _ _ => rfl)) (pa_cons (pe_ix (r := rIxL K) ix_list (pv 0) pe_int (fun _ _ => rfl)) pa_nil))))) pss_nil)
      (pss_cons (ps_if (PW.pt (pw_and (pt_cmpR op_eq (pe_ix (r := rIxL K) ix_list (pv 0) pe_int (fun _ _ => rfl)) pe_str (nomark _)) (pw_and (pt_cmpR op_eq (pe_callB (r := T.rLen K) call_len_seq (by rfl) A.n_len (by decide +kernel) (pa_cons (pv 0) pa_nil)) pe_int (nomark _)) (pw_and1 (pt_cmpR op_eq (pe_callB cr_lenD (by rfl) A.n_len (by decide +kernel) (pa_cons (pe_frz (pe_callTy (call_dictP rfl) (by rfl) A.n_dict (by decide +kernel) (pa_cons (pe_lc (own := [("word", 1)]) (g := gName 1) rfl nd (pi_list (pe_slice (r := rSlL K) sl_list (pv 0) (po_some pe_int) po_none) : PI _ _ _ (iList K _)) (blkOk_by (own := [("word", 1)]) (N := N__law_x_step) (sc := defScope s__law_x_step) (by decide +kernel)) (fun _ _ _ _ _ => pg_name (i := 1) nd rfl (by first | exact .inl rfl | exact .inr rfl)) (fun _ _ _ _ _ => pts_nil) (fun _ _ _ _ _ => (pe_tup (pa_cons (pv 1) (pa_cons pe_int pa_nil))))) pa_nil))) pa_nil)) pe_int (nomark _)))))) (pss_one (ps_ret (pe_tup (pa_cons pe_str (pa_cons (pe_callTy (r := T.rTupOf K) call_tuple_of (by rfl) A.n_tuple (by decide +kernel) (pa_cons (pe_slice (r := rSlL K) sl_list (pv 0) (po_some pe_int) po_none) pa_nil)) pa_nil))))) pss_nil)
      (pss_one (ps_ret pe_non))))), ?_⟩
  refine body_v h fun B args C r C' hK hP hS => ?_
  obtain ⟨v_words, res, rfl, rfl, g0, rfl, rfl⟩ := hS
  subst hK
  obtain ⟨l11, h12, g14⟩ := bind_some g0
  refine ss_if (et_not (et_B (ev_cb (ea_cons (ev_of (evn_lcL h12 (ei_list (ev_of (evn_slice (ev_var rfl) (ls_val) (eo_some ev_int) eo_none))) (js := [1]) (by decide) (fun a1 b5 _ h6 => ⟨_, tg_name, fun _ m2 => et_is et_yes (some_eq h6), fun _ y7 h8 _ m2 => by
          obtain ⟨x3, h4, g13⟩ := bind_some h8
          exact ev_eq (ev_call (ea_cons (ev_var rfl) ea_nil) ⟨a1, _, rfl, rfl, h4, rfl, rfl⟩) (some_eq g13)⟩))) ea_nil) (cs_all (ls_val))))) (fun c15 => ?_) (fun c17 => ?_)
  · have g16 := if_t g14 c15
    refine ss_retS ?_
    cases g16
    exact ss_retVG (ev_toD ev_non) (.slnil) rfl
  · have g18 := if_f g14 c17
    refine ss_skip ?_
    obtain ⟨x19, h20, g21⟩ := bind_some g18
    refine ss_if (et_and (et_test (ev_op (ev_op (ev_var rfl) ev_int (os_ix (ls_val) h20)) (ev_of (evn_lst (xs := ([(Str.ofString "turn"), (Str.ofString "put"), (Str.ofString "take")] : List Str)) (ea_cons ev_str (ea_cons ev_str (ea_cons ev_str ea_nil))) (szn (by show 3 ≤ 1000; decide)))) (os_in (ls_val)))) fun _ => (et_test (ev_op (ev_cb (ea_cons (ev_var rfl) ea_nil) (cs_len (ls_val))) ev_int os_eq))) (fun c22 => ?_) (fun c30 => ?_)
    · have g23 := if_t g21 c22
      refine ss_retS ?_
      obtain ⟨x24, h25, g28⟩ := bind_some g23
      obtain ⟨x26, h27, g29⟩ := bind_some g28
      cases g29
      exact ss_retVG (ev_toD (ev_pair (ea_cons (ev_op (ev_var rfl) ev_int (os_ix (ls_val) h25)) (ea_cons (ev_op (ev_var rfl) ev_int (os_ix (ls_val) h27)) ea_nil)))) (.slnil) rfl
    · have g31 := if_f g21 c30
      refine ss_skip ?_
      obtain ⟨x32, h33, g52⟩ := bind_some g31
      obtain ⟨b48, h49, g53⟩ := bind_some g52
      refine ss_if (et_andO h49 (et_test (ev_op (ev_op (ev_var rfl) ev_int (os_ix (ls_val) h33)) ev_str os_eq)) fun _ g50 => by
        obtain ⟨b44, h45, g51⟩ := bind_some g50
        exact et_is (et_andO h45 (et_test (ev_op (ev_cb (ea_cons (ev_var rfl) ea_nil) (cs_len (ls_val))) ev_int os_eq)) fun _ g46 => by
        obtain ⟨l42, h43, g47⟩ := bind_some g46
        exact et_is (et_test (ev_op (ev_cb (ea_cons (ev_ofD (evn_cb (ea_cons (ev_of (evn_lcL h43 (ei_list (ev_of (evn_slice (ev_var rfl) (ls_val) (eo_some ev_int) eo_none))) (js := [1]) (by decide) (fun a34 b36 _ h37 => ⟨_, tg_name, fun _ m35 => et_is et_yes (some_eq h37), fun _ y38 h39 _ m35 => ev_eq (ev_pair (ea_cons (ev_var rfl) (ea_cons ev_int ea_nil))) (some_eq h39)⟩))) ea_nil) (cn_dictP (ls_val)))) ea_nil) (cs_lenD (dv_val))) ev_int os_eq)) (some_eq g47)) (some_eq g51)) (fun c54 => ?_) (fun c56 => ?_)
      · have g55 := if_t g53 c54
        refine ss_retS ?_
        cases g55
        exact ss_retVG (ev_toD (ev_pair (ea_cons ev_str (ea_cons (ev_tupleOf (ea_cons (ev_of (evn_slice (ev_var rfl) (ls_val) (eo_some ev_int) eo_none)) ea_nil) (ls_val)) ea_nil)))) (.slnil) rfl
      · have g57 := if_f g53 c56
        refine ss_skip ?_
        refine ss_end ?_
        refine ss_retS ?_
        cases g57
        exact ss_retVG (ev_toD ev_non) (.slnil) rfl
theorem w__law_x_read (A : Facts P K mg base) : FnOk P w K mg base CX0 (2 + 1) A.f__law_x_read A.fd__law_x_read ["text"] (SpV (S__law_x_read) K) := by
  refine A.F__law_x_read.ok sc__law_x_read (len_v (fun args C r C' h => by obtain ⟨_, _, _, rfl, _⟩ := h; rfl)) (fun cdv AA outer s H vs Q E hr h => ?_)
  have nd := sc__law_x_read.nd
  have hr1 : Room 1 _ := hr.mono (by decide)
  have hr2 : Room 2 _ := hr.mono (by decide)
  refine ⟨_, (pss_cons (ps_if (pt_not (pt_val (pe_callB (r := rIsi K) call_isi (by rfl) A.n_isinstance (by decide +kernel) (pa_cons (pv 0) (pa_cons (pe_bltn (v := .ty "str") (by rfl) A.n_str (by decide +kernel) rfl) pa_nil))))) (pss_one (ps_ret pe_int)) pss_nil)
      (pss_cons (ps_set (i := 1) nd rfl (by first | exact .inl rfl | exact .inr rfl) (pe_m1 (r := rSplit1) PySem.F.slot_str_split PySem.F.type_str_split mt_split (pv 0) pe_str))
      (pss_cons (ps_par3 (i := 2) (j := 1) (l := 3) rfl nd rfl rfl rfl (by decide) (by decide) (by decide) rfl rfl rfl (pa_cons (pe_ix (r := rIxL K) ix_list (pv 1) (pe_un un_neg pe_int) (fun _ _ => rfl)) (pa_cons (pe_slice (r := rSlL K) sl_list (pv 1) po_none (po_some (pe_un un_neg pe_int))) (pa_cons (pe_lst pa_nil) pa_nil))) rfl)
      (pss_cons (ps_for PassesOwn.never rfl (pi_enum (by rfl) A.n_enumerate (pa_cons (pv 1) pa_nil)) (pg_tup rfl (pgs_cons (pg_name (i := 4) nd rfl (by first | exact .inl rfl | exact .inr rfl)) (pgs_cons (pg_name (i := 5) nd rfl (by first | exact .inl rfl | exact .inr rfl)) pgs_nil))) (pss_cons (ps_set (i := 6) nd rfl (by first | exact .inl rfl | exact .inr rfl) (pe_call (w__law_x_step (P := P) (w := w) A) hr2 (by rfl) A.g__law_x_step A.F__law_x_step.kp A.b__law_x_step .nil pass0 (pa_cons (pe_m1 (r := rSplit1) PySem.F.slot_str_split PySem.F.type_str_split mt_split (pv 5) pe_str) pa_nil)))
      (pss_cons (ps_if (PW.pt (pw_or (pt_cmpR op_gt (pv 4) pe_int (nomark _)) (pw_or1 (pt_cmpR op_isN (pv 6) pe_non (nomark _))))) (pss_one (ps_ret (pv 4))) pss_nil)
      (pss_one (ps_expr (pe_bm PySem.F.plainAttrs_list PySem.F.slot_list_append PySem.F.type_list_append mt_append (pv 3) (pa_cons (pv 6) pa_nil)))))))
      (pss_one (ps_ret (pe_ifExp (pt_cmpR op_ne (pv 2) pe_str (nomark _)) (pe_callB (r := T.rLen K) call_len_seq (by rfl) A.n_len (by decide +kernel) (pa_cons (pv 1) pa_nil)) (pv 3)))))))), ?_⟩
  refine body_v h fun B args C r C' hK hP hS => ?_
  obtain ⟨t_text, v_text, res, rfl, rfl, y_text, g0, rfl, rfl⟩ := hS
  subst hK
  refine ss_if (et_not (et_B (ev_cb (ea_cons (ev_var rfl) (ea_cons ev_ty ea_nil)) (cs_isi y_text isk_str)))) (fun c1 => ?_) (fun c3 => ?_)
  · have g2 := if_t g0 c1
    refine ss_retS ?_
    cases g2
    exact ss_retVG (ev_toD ev_int) (.slnil) rfl
  · have g4 := if_f g0 c3
    refine ss_skip ?_
    obtain ⟨x5, h6, g9⟩ := bind_some g4
    obtain ⟨x7, h8, g10⟩ := bind_some g9
    refine ss_set (ev_of (evn_split h8 (ev_str? y_text h6 (ev_var rfl)) ev_str)) ?_
    obtain ⟨x11, h12, g16⟩ := bind_some g10
    obtain ⟨v13, h14, g17⟩ := bind_some g16
    refine ss_par3X (eax_cons (ev_op (ev_var rfl) (ev_neg ev_int) (os_ix (ls_val) h12)) (eax_cons (ev_eq (ev_of (evn_slice (ev_var rfl) (ls_val) eo_none (eo_some (ev_neg ev_int)))) (some_eq h14)) (eax_consN (evn_lst (xs := ([] : List D)) ea_nil (szn (by show 0 ≤ 1000; decide))) fun p15 hp_p15 => eax_nil))) (fun _ _ _ _ hk50 => ?_) (fun _ _ hk50 => by obtain ⟨_, rfl, _, rfl, _, _, _, rfl, rfl, rfl⟩ := hk50; rfl)
    obtain ⟨_, e51, hk50⟩ := hk50
    cases e51
    obtain ⟨_, e51, hk50⟩ := hk50
    cases e51
    obtain ⟨p15, _, hp_p15, e51, hk50⟩ := hk50
    cases e51
    obtain ⟨_, rfl⟩ := hk50
    obtain ⟨r24, h25, g26⟩ := bind_some g17
    refine ss_forR (js := [4, 5]) h25 (fun (s18 : (List D)) => [some t_text, some (tv (v13 : (List Str))), some (tv (x11 : Str)), some (tv (Ptr.mk p15)), none, none, none]) (fun (s18 : (List D)) => [(p15, Ct.lst (s18 : (List D)))]) (ei_enum (ea_cons (ev_var rfl) ea_nil) fun _ _ _ hf h => en_val hf h) (.cons (.inr rfl) (.cons (.inr rfl) (.cons (.inr rfl) (.cons (.inr rfl) (.cons (.inl rfl) (.cons (.inl rfl) (.cons (.inl rfl) .nil))))))) rfl ?_ ?_
    · intro s18 a20 e23 h21 g22
      refine ⟨_, tg_pair, fun s19 he_ => ?_, fun q49 he_ hr_ => ?_⟩
      · subst he_
        obtain ⟨x27, h28, g31⟩ := bind_some g22
        obtain ⟨x29, h30, g32⟩ := bind_some g31
        refine ss_set (ev_call (ea_cons (ev_of (evn_split h28 (ev_var rfl) ev_str)) ea_nil) ⟨x27, _, rfl, rfl, h30, rfl, rfl⟩) ?_
        refine ss_if (et_or (et_test (ev_op (ev_var rfl) ev_int os_gt)) fun _ => (et_test (ev_op (ev_var rfl) ev_non (os_isNonD dyn_of)))) (fun c33 => ?_) (fun c35 => ?_)
        · have g34 := if_t g32 c33
          refine ss_retS ?_
          cases some_eq g34
        · have g36 := if_f g32 c35
          refine ss_skip ?_
          refine ss_end ?_
          obtain ⟨x37, h38, g39⟩ := bind_some g36
          refine ss_drop (ev_appO (k := 0) (ev_var rfl) (ea_cons (ev_var rfl) ea_nil) rfl rfl h38) ?_
          cases some_eq g39
          exact ss_goal (.cons (.inr rfl) (.cons (.inr rfl) (.cons (.inr rfl) (.cons (.inr rfl) (.cons (.inl rfl) (.cons (.inl rfl) (.cons (.inl rfl) .nil))))))) (.cons₂ _ .slnil)
      · subst he_
        obtain ⟨x27, h28, g31⟩ := bind_some g22
        obtain ⟨x29, h30, g32⟩ := bind_some g31
        refine ss_set (ev_call (ea_cons (ev_of (evn_split h28 (ev_var rfl) ev_str)) ea_nil) ⟨x27, _, rfl, rfl, h30, rfl, rfl⟩) ?_
        refine ss_if (et_or (et_test (ev_op (ev_var rfl) ev_int os_gt)) fun _ => (et_test (ev_op (ev_var rfl) ev_non (os_isNonD dyn_of)))) (fun c33 => ?_) (fun c35 => ?_)
        · have g34 := if_t g32 c33
          refine ss_retS ?_
          cases some_eq g34
          subst hr_
          cases g26
          exact ss_retVG (ev_toD (ev_var rfl)) ((.cons _ .slnil)) rfl
        · have g36 := if_f g32 c35
          refine ss_skip ?_
          refine ss_end ?_
          obtain ⟨x37, h38, g39⟩ := bind_some g36
          refine ss_drop (ev_appO (k := 0) (ev_var rfl) (ea_cons (ev_var rfl) ea_nil) rfl rfl h38) ?_
          cases some_eq g39
    · intro s40 he_
      subst he_
      have g41 := g26
      refine ss_end ?_
      refine ss_retS ?_
      obtain ⟨x42, h43, g48⟩ := bind_some g41
      cases g48
      exact ss_retVG (ev_if (et_test (ev_op (ev_var rfl) ev_str os_ne)) (fun c44 => by
        have g45 := if_t h43 c44
        
        exact ev_eq (ev_less (ev_toD (ev_cb (ea_cons (ev_var rfl) ea_nil) (cs_len (ls_val)))) (.cons _ .slnil)) (some_eq g45)) (fun c46 => by
        have g47 := if_f h43 c46
        
        exact ev_eq (ev_toD (ev_of (evn_own (k := 0) rfl rfl hp_p15))) (some_eq g47))) (.slnil) rfl
theorem w__law_loose (A : Facts P K mg base) : ∀ n, FnOk P w K mg base CX0 (n + 1) A.f__law_loose A.fd__law_loose ["spring", "thing"] (SpV (S__law_loose n) K)
  | 0 => ⟨fun _ _ _ _ ⟨_, _, _, _, _, ⟨_, _, _, _, _, _, _, _, _, h, _⟩, _⟩ => (by cases h), fun _ _ _ _ _ _ _ _ _ _ _ _ _ ⟨_, _, _, _, _, ⟨_, _, _, _, _, _, _, _, _, h, _⟩, _⟩ => (by cases h)⟩
  | n + 1 => by
    have ih : FnOk P w K mg base CX0 (n + 1) A.f__law_loose A.fd__law_loose ["spring", "thing"] (SpV (S__law_loose n) K) := w__law_loose A n
    refine A.F__law_loose.ok sc__law_loose (len_v (fun args C r C' h => by obtain ⟨_, _, _, _, _, _, rfl, _⟩ := h; rfl)) (fun cdv AA outer s H vs Q E hr h => ?_)
    have nd := sc__law_loose.nd
    have hr1 : Room 1 _ := hr.mono (by omega)
    refine ⟨_, (pss_cons (ps_if (pt_val (pe_callB (r := rIsi K) call_isi (by rfl) A.n_isinstance (by decide +kernel) (pa_cons (pv 1) (pa_cons (pe_bltn (v := .ty "dict") (by rfl) A.n_dict (by decide +kernel) rfl) pa_nil)))) (pss_one ps_no) pss_nil)
        (pss_cons (ps_if (pt_not (pt_val (pe_callB (r := rIsiT K) call_isiT (by rfl) A.n_isinstance (by decide +kernel) (pa_cons (pv 1) (pa_cons (pe_tup (pa_cons (pe_bltn (v := .ty "list") (by rfl) A.n_list (by decide +kernel) rfl) (pa_cons (pe_bltn (v := .ty "tuple") (by rfl) A.n_tuple (by decide +kernel) rfl) pa_nil))) pa_nil))))) (pss_one (ps_ret (pv 1))) pss_nil)
        (pss_cons (ps_setLc (i := 2) (own := [("part", 3)]) (g := gName 3) rfl nd rfl rfl (sw_true rfl rfl rfl (by decide +kernel)) (pi_alt (pi_list (pv 1) : PI _ _ _ (iList K _)) (pi_tup (pv 1) : PI _ _ _ (iTup K _))) (blkOk_by (own := [("part", 3)]) (N := N__law_loose) (sc := defScope s__law_loose) (by decide +kernel)) (fun _ _ _ _ _ => pg_name (i := 3) nd rfl (by first | exact .inl rfl | exact .inr rfl)) (fun _ _ _ _ _ => pts_nil) (fun _ _ _ _ _ => (pe_call ih hr (by rfl) A.g__law_loose A.F__law_loose.kp A.b__law_loose .nil pass0 (pa_cons (pv 0) (pa_cons (pv 3) pa_nil)))))
        (pss_one (ps_ret (pe_ifExp (pt_cmpR op_gt (pe_call (w__law_draw (P := P) (w := w) A) hr1 (by rfl) A.g__law_draw A.F__law_draw.kp A.b__law_draw .nil pass0 (pa_cons (pv 0) (pa_cons pe_int pa_nil))) pe_int (nomark _)) (pv 2) (pe_callTy (r := T.rTupOf K) call_tuple_of (by rfl) A.n_tuple (by decide +kernel) (pa_cons (pv 2) pa_nil)))))))), ?_⟩
    refine body_v h fun B args C r C' hK hP hS => ?_
    obtain ⟨p_spring, v_spring, t_thing, v_thing, res, w_spring, rfl, rfl, y_thing, g0, rfl, rfl⟩ := hS
    subst hK
    refine ss_if (et_B (ev_cb (ea_cons (ev_var rfl) (ea_cons ev_ty ea_nil)) (cs_isi y_thing isk_dct))) (fun c1 => ?_) (fun c3 => ?_)
    · have g2 := if_t g0 c1
      cases g2
    · have g4 := if_f g0 c3
      refine ss_skip ?_
      refine ss_if (et_not (et_B (ev_cb (ea_cons (ev_var rfl) (ea_cons (ev_tps (xs := [Ty.mk "list", Ty.mk "tuple"]) (ea_cons ev_ty (ea_cons ev_ty ea_nil)) (szn (by decide))) ea_nil)) (cs_isiT y_thing (.cons isk_lst (.cons isk_tup .nil)))))) (fun c5 => ?_) (fun c7 => ?_)
      · have g6 := if_t g4 c5
        refine ss_retS ?_
        cases g6
        exact ss_retVG (ev_dy y_thing (ev_var rfl)) ((.cons₂ _ .slnil)) rfl
      · have g8 := if_f g4 c7
        refine ss_skip ?_
        obtain ⟨x9, h10, g26⟩ := bind_some g8
        obtain ⟨l17, h18, g27⟩ := bind_some g26
        obtain ⟨found24, h25, g28⟩ := bind_some g27
        refine ss_set (ev_eq (ev_of (evn_lcS h18 (fun (s12 : (List Int)) => [(p_spring, Ct.lst (s12 : (List Int)))]) (ei_seqD y_thing h10 (ev_var rfl)) rfl (js := [3]) (by decide) (fun s12 a11 y19 s21 p13 acc14 h22 h20 => by
            obtain ⟨x15, h16, g23⟩ := bind_some h20
            cases g23
            exact ⟨_, tg_name, (ev_call1 (k := 1) (ea_cons (ev_var rfl) (ea_cons (ev_var rfl) ea_nil)) rfl ⟨p_spring, s12, (tv (a11 : D)), a11, x15.1, x15.2, rfl, rfl, dyn_of, h16, rfl, rfl⟩)⟩))) (some_eq h25)) ?_
        refine ss_end ?_
        refine ss_retS ?_
        obtain ⟨x29, h30, g37⟩ := bind_some g28
        obtain ⟨x31, h32, g38⟩ := bind_some g37
        cases g38
        exact ss_retVG (ev_if (et_test (ev_op (ev_call1 (k := 0) (ea_cons (ev_var rfl) (ea_cons ev_int ea_nil)) rfl ⟨p_spring, l17.2, (2 : Int), x29.1, x29.2, rfl, rfl, h30, rfl, rfl⟩) ev_int os_gt)) (fun c33 => by
          have g34 := if_t h32 c33
          
          exact ev_eq (ev_toD (ev_var rfl)) (some_eq g34)) (fun c35 => by
          have g36 := if_f h32 c35
          
          exact ev_eq (ev_toD (ev_tupleOf (ea_cons (ev_var rfl) ea_nil) (ls_val))) (some_eq g36))) ((.cons₂ _ .slnil)) rfl
end K59
set_option Elab.async false
set_option linter.all false
set_option maxRecDepth 100000
set_option maxHeartbeats 4000000
set_option autoImplicit false
namespace K59
open PySem PySem.Spec PyProof.Rows L2 T
open PySem.W (Frag)
variable {P : Program} {w : World} {K : PySem.W.Frag} {mg : Str → Option Value} {base : Heap}
open LamX
def tMetT (K : Frag) (C1 : Addr) : Addr → Value → Option Addr → TS := fun a cls d => tRet (tLst (tCons (tC (.str "text")) (tCons (tOrV (tCallS (SpV (S_sameE 6) K) (fun _ => E0) (tCons (tByX C1 "text" a cls d (tVar 2)) (tCons (tVar 1) tNil))) (tCallS (SpV S_veryT K) (fun _ => E0) (tCons (tByX C1 "text" a cls d (tVar 2)) (tCons (tVar 1) tNil)))) (tCons (tByX C1 "line" a cls d (tVar 2)) tNil))))
def tMetS (K : Frag) (C2 : Addr) : Addr → Value → Option Addr → TS := fun a cls d => tRet (tLst (tCons (tC (.str "steps")) (tCons (tCallS (SpV S_veryT K) (fun _ => E0) (tCons (tByF C2 "steps" a cls d (tVar 2)) (tCons (tVar 1) tNil))) tNil)))
def tMetB (K : Frag) (C1 C2 : Addr) (act : WX → TE) : TS := tTryM K 2 [(.ref C1, tMetT K C1), (.ref C2, tMetS K C2)] (fun W => tRet (tLst (tCons (tC (.str "told")) (tCons (act W) tNil)))) (fun _ _ _ _ => False)
abbrev ttMet (K : Frag) (C1 C2 : Addr) (q : Str) : (XK → Hp → VK → Prop) → Addr → Addr → V → Hp → VK → Prop := fun tl f c' v H Q => tMetB K C1 C2 (tAct f c' q tl) { nx := fun _ H' => Q .non H', rt := Q } (L2.start N__law_x_met [.ref f, v]) H
theorem met_gives {X : Cx} (A : Facts X.prog X.K X.mg X.base) {q : Str} {g : Addr} {cdg : Value} {k : Nat} (hk : 6 ≤ k) : GivesTo2 X k N__law_x_met "_law_x_met" (defScope s__law_x_met) g cdg (defBody s__law_x_met) "query" q (ttMet X.K A.C_BadText A.C_BadSteps q) := by
  intro f c' v s H Q tl hr act h
  have nd := sc__law_x_met.nd
  have hr6 := hr.mono (show 6 ≤ k from hk)
  have hr5 := hr.mono (show 5 ≤ k by omega)
  have same := hh__law_same (P := X.prog) (w := X.w) (base := X.base) A.zsame A.F__law_same A.b__law_same A.g__law_same 6
  have very := hv__law_very (P := X.prog) (w := X.w) (base := X.base) A.zsame A.F__law_very A.F__law_same A.b__law_same A.g__law_same
  refine ⟨_, pss_one (L2N.ps_try_manyAs (i := 2) (l := [(.ref A.C_BadText, tMetT X.K A.C_BadText), (.ref A.C_BadSteps, tMetS X.K A.C_BadSteps)]) rfl rfl nd rfl rfl takes0N (fun W pn xe tk _ => pss_one (ps_ret (pe_lst (pa_cons pe_str (pa_cons (act W pn xe _ _ tk) pa_nil)))))
    (.cons ⟨rfl, by decide, .inl A.E_BadText.gC⟩ (fun a oe cls d pn hz hf => pss_one (ps_ret (pe_lst (pa_cons pe_str (pa_cons (pe_or
        (by exact (L2H.pe_callH same ⟨hr6.dp, hr6.un⟩ (let ⟨vs, e⟩ := hf; ⟨(a, oe), ⟨rfl, vs, e, hz.2.2 vs e⟩, List.mem_cons_self⟩) (by rfl) A.g__law_same A.F__law_same.kp A.b__law_same (fun σ pins H s e s' I c => pass0 pins σ H s e s' I c) (pa_cons (pe_byX A.E_BadText A.E_BadText.no_text hz hf (pv 2)) (pa_cons (pv 1) pa_nil))))
        (pe_one (by exact (L2H.pe_callH very ⟨hr5.dp, hr5.un⟩ (let ⟨vs, e⟩ := hf; ⟨(a, oe), ⟨rfl, vs, e, hz.2.2 vs e⟩, List.mem_cons_self⟩) (by rfl) A.g__law_very A.F__law_very.kp A.b__law_very (fun σ pins H s e s' I c => pass0 pins σ H s e s' I c) (pa_cons (pe_byX A.E_BadText A.E_BadText.no_text hz hf (pv 2)) (pa_cons (pv 1) pa_nil))))))
        (pa_cons (pe_byX A.E_BadText A.E_BadText.no_line hz hf (pv 2)) pa_nil))))))
    (.cons ⟨rfl, by decide, .inl A.E_BadSteps.gC⟩ (fun a oe cls d pn hz hf => pss_one (ps_ret (pe_lst (pa_cons pe_str (pa_cons
        (by exact (L2H.pe_callH very ⟨hr5.dp, hr5.un⟩ (let ⟨vs, e⟩ := hf; ⟨(a, oe), ⟨rfl, vs, e, hz.2.2 vs e⟩, List.mem_cons_self⟩) (by rfl) A.g__law_very A.F__law_very.kp A.b__law_very (fun σ pins H s e s' I c => pass0 pins σ H s e s' I c) (pa_cons (pe_byF A.E_BadSteps hz hf (pv 2)) (pa_cons (pv 1) pa_nil))))
        pa_nil))))) .nil))), h⟩
/-- _law_x_met(lambda: body, e2) -/
theorem pe_met {X : Cx} (A : Facts X.prog X.K X.mg X.base) {c P : Addr} {q : Str} {k : Nat} {params : Arguments} {body e2 : Expr} {scope : Scope} {ti : TE} {t : XK → TE} {p lpos pos : Pos} (hg : Gl X "_law_x_met") (hq : q = X.env.qual ++ "<lambda>")
    (TB : TabB X.base X.mg c P) (hcode : X.env.code = .ref c) (hk : 5 ≤ k) (hr : Room (k + 2) X.A) (L : LamS X.env.scope scope) (hdef : defaultsOf params X.env = ([], []))
    (hbind : ∀ (q : Str) (cl : List (Str × Addr)) (pm cv ctv : Value), bindArgs (PySem.W.kla_fn "<lambda>" q params body scope cl pm cv ctv) ⟨[], []⟩ = pure [])
    (hi : PE X e2 ti) (hbody : ∀ (A : Around) (outer : List Env) (s : Shared) (H : Hp) (E : XK) (f c' : Addr), Room k (A.deeper (lamEnv X scope s.heap.objs.size f c')) → PE (lamCxN X A outer s H E scope f c') body (t E))
    (hst : starEach [e2] X.env = (false, eval e2 X.env) :: starEach [] X.env := by rfl) :
    PE X (.Call (.Name "_law_x_met" p) [.Lambda params body scope lpos, e2] [] pos) (tLam2 P q ti (ttMet X.K A.C_BadText A.C_BadSteps q) t) := by
  obtain ⟨oc, od, kV, doc, pm, an, cdv, ct, osl, e, lk, hcd⟩ := A.F__law_x_met.ex
  have hb := A.b__law_x_met
  rw [e] at hb lk
  exact pe_lamcall2 (k := k) hg A.g__law_x_met A.F__law_x_met.kp lk hcd hb sc__law_x_met rfl (.inl rfl) (met_gives A (by omega)) hq TB hcode hr L hdef hbind hi hbody hst
section
variable {B : Bs} {Γ : List Sl} {C : Cs} {x : TV} {d : D} {ti : TE}
/-- a text's error -/
theorem evn_metT (A : Facts P K mg base) (hK : B.K = K) {Pt : Addr} {q : Str} {k : Nat} {tb : WX → TE} {x' : TV} {n : Int} (hk : C[k]? = some (Pt, .tab q)) (hi : Ev B ti Γ C x C) (h1 : Dyn x d) (h2 : Dyn x' d) (hd : (d.nod = true ∧ d.dp < 6) ∨ d = .dct [])
    (hb : ∀ B' : Bs, B'.K = B.K → EvF B' tb Γ C ⟨A.C_BadText, [("line", tv n), ("text", x')]⟩ C) :
    EvN B (tLam2 Pt q ti (ttMet K A.C_BadText A.C_BadSteps q) (fun E => tb (WX0 E))) Γ C (.lst [D.str "text", D.bl true, D.int n]) C := by
  refine evn_lam2 (N := N__law_x_met) hk hi hb fun B' f hK' act hact => ?_
  have hK2 : B'.K = K := hK'.trans hK
  subst hK2
  unfold tMetB
  refine ss_tryM (l1 := []) (ssf_ret (evf_told hact)) (fun _ h => nomatch h) A.ex_tt fun a dd => ?_
  unfold tMetT
  refine ss_retNG (evn_lst (xs := [D.str "text", D.bl true, D.int n]) (ea_cons (ev_toD (a := ("text" : Str)) ev_str) (ea_cons (ev_toD (a := true) (ev_eq (ev_orV (b' := true) (ev_callS (ea_cons (ev_byX rfl rfl) (ea_cons (ev_var rfl) ea_nil)) ⟨x', x, d, rfl, rfl, h2, h1, hd.imp id fun z => ⟨z, by decide⟩, rfl, rfl⟩) fun z => by cases z) rfl)) (ea_cons (ev_toD (a := n) (ev_byX rfl rfl)) ea_nil))) (szn (by show 3 ≤ 1000; decide))) (.refl _) rfl
/-- steps' error -/
theorem evn_metS (A : Facts P K mg base) (hK : B.K = K) {Pt : Addr} {q : Str} {k : Nat} {tb : WX → TE} {v : Vid D} (hk : C[k]? = some (Pt, .tab q)) (hi : Ev B ti Γ C (tv v) C) (hd : veryOkT v.x = true)
    (hb : ∀ B' : Bs, B'.K = B.K → EvF B' tb Γ C ⟨A.C_BadSteps, [("steps", tv v)]⟩ C) :
    EvN B (tLam2 Pt q ti (ttMet K A.C_BadText A.C_BadSteps q) (fun E => tb (WX0 E))) Γ C (.lst [D.str "steps", D.bl true]) C := by
  refine evn_lam2 (N := N__law_x_met) hk hi hb fun B' f hK' act hact => ?_
  have hK2 : B'.K = K := hK'.trans hK
  subst hK2
  unfold tMetB
  refine ss_tryM (l1 := [(.ref A.C_BadText, _)]) (ssf_ret (evf_told hact)) (fun p h => by obtain rfl := List.mem_singleton.mp h; exact A.ex_ts) A.ex_ss fun a dd => ?_
  unfold tMetS
  refine ss_retNG (evn_lst (xs := [D.str "steps", D.bl true]) (ea_cons (ev_toD (a := ("steps" : Str)) ev_str) (ea_cons (ev_toD (a := true) (ev_callS (ea_cons (ev_byF1 rfl) (ea_cons (ev_var rfl) ea_nil)) ⟨_, _, v.v, v.x, rfl, rfl, dyn_vid, dyn_vid, fun K F u h => h.1, fun K F u h => h.1, hd, rfl, rfl⟩)) ea_nil)) (szn (by show 2 ≤ 1000; decide))) (.refl _) rfl
end
section
theorem flt_text {n : Int} : ([D.str "text", D.bl true, D.int n] : List D).all D.fltOk = true := by
  have h : D.fltOk (D.str "text") = true := by decide +kernel
  rw [List.all_cons, h]
  rfl
theorem flt_steps : ([D.str "steps", D.bl true] : List D).all D.fltOk = true := by decide +kernel
theorem evf_callNK {B : Bs} {K : Frag} {S : SpecN} {X : SpecF} {ca : TA} {Γ : List Sl} {C C1 : Cs} {e : Ef} {xs : List TV} (hK : B.K = K) (ha : EvA B ca Γ C xs C1) (hX : X xs [] e []) : EvF B (fun W => tCallS (SpNY S X K) (WE W) ca) Γ C e C1 := by
  subst hK
  exact evf_callN ha hX
theorem evf_callVK {B : Bs} {K : Frag} {S : SpecV} {X : SpecF} {ca : TA} {Γ : List Sl} {C C1 : Cs} {e : Ef} {xs : List TV} (hK : B.K = K) (ha : EvA B ca Γ C xs C1) (hX : X xs [] e []) : EvF B (fun W => tCallS (SpVF S X K) (WE W) ca) Γ C e C1 := by
  subst hK
  exact evf_call ha hX
end
end K59
set_option Elab.async false
set_option linter.all false
set_option maxRecDepth 100000
set_option maxHeartbeats 4000000
set_option autoImplicit false
namespace K59
open PySem PySem.Spec PyProof.Rows L2 T LamX
open PySem.W (Frag)
variable {P : Program} {w : World} {K : PySem.W.Frag} {mg : Str → Option Value} {base : Heap}
theorem spv_mono {S : SpecV} {K : Frag} {vs : List V} {H : Hp} {Q Q' : VK} {E E' : XK} (h : SpV S K vs H Q E) (f : ∀ v H', Q v H' → Q' v H') : SpV S K vs H Q' E' := by
  obtain ⟨F, args, C, r, C', hs, hk, en, q⟩ := h
  exact ⟨F, args, C, r, C', hs, hk, en, fun v H' hr => f v H' (q v H' hr)⟩
/-- _law_pick(spring, a list whose object is told): the very item -/
theorem pick_run (A : Facts P K mg base) {A0 : Around} {outer : List Env} {s : Shared} {H : Hp} {Q : VK} {v0 : V} {u0 : Value} {l : Addr} {o : Obj} {vs : List V} {its : Array Value} {n : Nat} (hr : Room 2 A0) (e0 : Env0 P w K mg base A0 outer s H) (r0 : RelV v0 u0)
    (hl : H l = some (.frz o (.lst vs))) (hc : o.cls = .type "list") (hd : o.data = .seq its n)
    (h : SpV (S__law_draw) K ([v0, .int (vs.length : Int)] ++ []) H (fun v H' => ∃ (i : Int) (x : V), v = .int i ∧ 0 ≤ i ∧ i < 2 ^ 63 ∧ vs[i.toNat]? = some x ∧ H' l = some (.frz o (.lst vs)) ∧ Q x H') E0) :
    codeAny (model P w) A0 (.call (.ref A.f__law_pick) ⟨[u0, .ref l], []⟩) (fun r s' => ∃ u, r = .ok (.ret u) ∧ u ∈ its.toList ∧ CE outer P w H s Q u s') s := by
  obtain ⟨oc, od, kV, doc, pm, an, cdv, ct, osl, e, lk, hcd⟩ := A.F__law_pick.ex
  have hb := A.b__law_pick
  rw [e] at hb lk
  have S := sc__law_pick
  have KX : K.In s.heap := e0.mod.kin.keeps fun b o e => (e0.bs b o e).1
  have lim : s.heap.NoLimit := e0.mod.nolimit.keeps fun b o e => (e0.bs b o e).1
  have hkind : ∀ y ∈ (["spring", "some"] : List Str).zip [u0, Value.ref l], (defScope s__law_pick).names.lookup y.1 = some .local ∨ ((defScope s__law_pick).names.lookup y.1 = some .cell ∧ ((cellsFrom (s.heap.objs.size + 1) (defScope s__law_pick).names []).lookup y.1).isSome = true) := fun ⟨n, v⟩ hy => by
    rcases S.par n (List.of_mem_zip hy).1 with q | q
    · exact .inl q
    · exact .inr ⟨q, PySem.W.cellsFrom_some _ _ _ (.inl q)⟩
  refine codeAny_call_function hr.depth (KX _ _ lk) rfl S.co S.gen rfl (PySem.W.codeRec_of KX hcd) (hb s [u0, .ref l] KX rfl _ _ _ _ ?_)
  refine wpAny_newFunctionEnv_cells S.kind hkind fun env he s1 x => ?_
  subst he
  refine ⟨lim.keeps x.toInCall.keep, codeAny_func ?_⟩
  have hr1 : Room 1 (A0.deeper (envOfC "_law_pick" (defScope s__law_pick) s.heap.objs.size A.f__law_pick cdv)) := hr.deeper _
  have I : Inv (cxOf CX0 P w K mg base N__law_pick "_law_pick" (defScope s__law_pick) A.f__law_pick cdv A0 outer s H E0) [] (L2.start N__law_pick [v0, .ref l]) H s1 := inv_start S hr.hd e0 rfl (.cons r0 (.cons rfl .nil)) x
  have pe : ∀ {p1 p2 p3 p4 p5 p6 : Pos}, PE (cxOf CX0 P w K mg base N__law_pick "_law_pick" (defScope s__law_pick) A.f__law_pick cdv A0 outer s H E0) (.Call (.Name "_law_draw" p1) [.Name "spring" p2, .Call (.Name "len" p3) [.Name "some" p4] [] p5] [] p6) _ := fun {p1 p2 p3 p4 p5 p6} =>
    pe_call (w__law_draw (P := P) (w := w) A) hr1 (by rfl) A.g__law_draw A.F__law_draw.kp A.b__law_draw .nil pass0 (pa_cons (pv 0) (pa_cons (pe_callB (r := T.rLen K) call_len_seq (by rfl) A.n_len (by decide +kernel) (pa_cons (pv 1) pa_nil)) pa_nil))
  have key : wpAny (model P w) (A0.deeper (envOfC "_law_pick" (defScope s__law_pick) s.heap.objs.size A.f__law_pick cdv)) (execs (defBody s__law_pick) (envOfC "_law_pick" (defScope s__law_pick) s.heap.objs.size A.f__law_pick cdv)) (fun fl s' => ∃ u, fl = Flow.ret u ∧ u ∈ its.toList ∧ CE outer P w H s Q u s') (cxOf CX0 P w K mg base N__law_pick "_law_pick" (defScope s__law_pick) A.f__law_pick cdv A0 outer s H E0).xe s1 := by
    refine wpAny_execs_cons (wpAny_Return_some (Subscript_ (raw_name (X := cxOf CX0 P w K mg base N__law_pick "_law_pick" (defScope s__law_pick) A.f__law_pick cdv A0 outer s H E0) (i := 1) (v := .ref l) rfl (.inl rfl) I rfl (fun u r => ?_))))
    obtain rfl : u = Value.ref l := r
    refine thn (pe.run [] s1 _ H _ I ⟨v0, rfl, .ref l, rfl, l, vs, rfl, .inl (.inl (.inr ⟨o, hl⟩)), h⟩) fun iu s2 hh => ?_
    obtain ⟨v, H2, I2, rv, i, y, ev, h0, h1, hx, hl2, hQ⟩ := hh
    subst ev
    obtain ⟨ti, rfl⟩ := rv
    have ob := I2.hok l _ hl2
    obtain ⟨g1, hz, us, n2, vu, g2⟩ := ob
    rw [g1] at g2
    have g3 := Option.some.inj g2
    rw [g3] at hd
    have g4 : (Data.seq us.toArray n2) = Data.seq its n := hd
    obtain ⟨y', gy, ry⟩ := vu.get hx
    have e1 : us.toArray = its := by injection g4
    subst e1
    refine item_listR ⟨o, g1, hc, n2, by rw [g3]⟩ h0 h1 (by simpa using gy) ?_ rfl
    exact ⟨y', rfl, by simpa using List.mem_of_getElem? gy, y, H2, I2.os, I2.bare, I2.base, I2.hok, ry, hQ⟩
  refine wpAny_mono key (fun fl s' hq => ?_) (fun e s' hq => ?_)
  · obtain ⟨u, rfl, hq⟩ := hq
    exact ⟨u, rfl, hq⟩
  · exact wpAny_mono hq (fun _ _ z => z.elim) (fun _ _ z => z.elim)
/-- written texts -/
inductive Lits : List Expr → List Str → Prop
  | nil : Lits [] []
  | cons {z : Str} {k : Nat} {p : Pos} {es : List Expr} {zs : List Str} : Lits es zs → Lits (.Constant (.str z) k p :: es) (z :: zs)
def litVals : List Str → Nat → List Value
  | [], _ => []
  | z :: zs, t => .str z t :: litVals zs (t + 1)
theorem litVals_mem {u : Value} : ∀ {zs : List Str} {t : Nat}, u ∈ litVals zs t → ∃ z tz, u = .str z tz ∧ t ≤ tz
  | [], _, h => nomatch h
  | z :: zs, t, h => by
    rcases List.mem_cons.mp h with rfl | h
    · exact ⟨z, t, rfl, Nat.le_refl _⟩
    · obtain ⟨z', tz, e, h2⟩ := litVals_mem h
      exact ⟨z', tz, e, by omega⟩
theorem litVals_vals : ∀ (zs : List Str) (t : Nat), Vals (zs.map V.str) (litVals zs t)
  | [], _ => .nil
  | z :: zs, t => .cons ⟨t, rfl⟩ (litVals_vals zs (t + 1))
theorem lits_run {M : Model} {A : Around} {E : Value → Shared → Prop} {env : Env} {pos : Pos} {es : List Expr} {zs : List Str} (L : Lits es zs) : ∀ {s : Shared} {Q : List Value → Shared → Prop}, Q (litVals zs s.toks) { s with toks := s.toks + zs.length } → wpAny M A (spliced (backTo pos (starEach es env))) Q E s := by
  induction L with
  | nil => exact fun h => Calls.spliced_nil h
  | @cons z k p es zs _ ih =>
    intro s Q h
    show wpAny _ _ (spliced ((false, eval (.Constant (.str z) k p) env) :: backTo pos (starEach es env))) _ _ s
    refine Calls.spliced_cons (Calls.Constant_str (ih ?_))
    have e : s.toks + 1 + zs.length = s.toks + (z :: zs).length := by rw [List.length_cons]; omega
    show Q (.str z s.toks :: litVals zs (s.toks + 1)) { s with toks := s.toks + 1 + zs.length }
    rw [e]
    exact h
/-- _law_pick(x, written texts) -/
def tPickL (K : Frag) (i : Nat) (zs : List Str) : TE := fun σ H Q => ∀ (l : Addr) (o : Obj), H l = none → tCall (SpV S__law_draw K) [] E0 (tCons (tVar i) (tCons (tC (.int (zs.length : Int))) tNil)) σ (upd H l (.frz o (.lst (zs.map V.str))))
  (fun v H' => ∃ (k : Int) (z : Str), v = .int k ∧ 0 ≤ k ∧ k < 2 ^ 63 ∧ zs[k.toNat]? = some z ∧ H' l = some (.frz o (.lst (zs.map V.str))) ∧ Q (.str z) H')
theorem pel_pick {X : Cx} (A : Facts X.prog X.K X.mg X.base) (hr : Room 2 X.A) {i : Nat} {x : Str} {es : List Expr} {zs : List Str} {p p2 p3 lp : Pos} (hNi : X.N[i]? = some x) (hv : Vis X.env.scope x) (hg : Gl X "_law_pick") (L : Lits es zs) (hlen : zs.length ≤ 1000)
    (hd : (x == ("__debug__" : Str)) = false := by decide) (hcd : (x == ("__classdict__" : Str)) = false := by decide)
    {pins : List (Addr × Obj)} {s : Shared} {σ : L2.St} {H : Hp} {Q : VK} (I : Inv X pins σ H s) (h : tPickL X.K i zs σ H Q) :
    wpAny (model X.prog X.w) X.A (eval (.Call (.Name "_law_pick" p) [.Name x p2, .List es lp] [] p3) X.env) (fun u s' => (∃ z tz, u = .str z tz ∧ s.toks ≤ tz) ∧ s.toks + zs.length ≤ s'.toks ∧ EP X pins σ Q u s') X.xe s := by
  refine wpAny_Call_Name_kw (ld_glob I hg A.g__law_pick ?_ (by decide))
  refine PySem.W.callWith_K (h₀ := X.base) I.ok.mod.kin A.F__law_pick.kp ?_ rfl rfl
  show wpAny _ _ (spliced ((false, eval (.Name x p2) X.env) :: (false, eval (.List es lp) X.env) :: [])) _ _ s
  obtain ⟨v0, hσ, _⟩ := h s.heap.objs.size { cls := .none, data := .plain } (I.hok.fresh (Nat.le_refl _))
  refine Calls.spliced_cons (raw_name hNi hv I hσ (fun u0 r0 => ?_) hd hcd)
  refine Calls.spliced_cons (wpAny_List_spliced (lits_run L ?_))
  have hz : zs.length ≤ sizeLine := by rw [sizeLine_eq]; omega
  have lv : (litVals zs s.toks).length = zs.length := by have := (litVals_vals zs s.toks).length; rw [List.length_map] at this; exact this.symm
  refine ⟨by rw [lv]; exact hz, Calls.spliced_nil ?_⟩
  have fr : H s.heap.objs.size = none := I.hok.fresh (Nat.le_refl _)
  have I2 := I.laid (t' := s.toks + zs.length) (a := s.heap.objs.size) (h' := s.heap.push { cls := .type "list", data := .seq (litVals zs s.toks).toArray }) (o := .frz { cls := .type "list", data := .seq (litVals zs s.toks).toArray } (.lst (zs.map V.str))) (fun b u e => Heap.get?_push_of_some _ e) (Nat.le_refl _)
    ⟨Heap.get?_push_size _ rfl, by rw [List.length_map]; exact hz, litVals zs s.toks, _, litVals_vals zs s.toks, Heap.get?_push_size _ rfl⟩
  refine ⟨I2.kIn, ?_⟩
  obtain ⟨v1, hσ1, hsp⟩ := h s.heap.objs.size { cls := .type "list", data := .seq (litVals zs s.toks).toArray } fr
  rw [hσ] at hσ1
  cases hσ1
  have rc := pick_run (w := X.w) A (Q := Q) hr I2.env0 r0 (its := (litVals zs s.toks).toArray) upd_same rfl rfl (by
    have e : ((zs.map V.str).length : Int) = (zs.length : Int) := by rw [List.length_map]
    rw [e]
    refine spv_mono (E := E0) hsp fun v H' ⟨k, z, h1, h2, h3, h4, h5, h6⟩ => ⟨k, .str z, h1, h2, h3, by rw [List.getElem?_map, h4]; rfl, h5, h6⟩)
  refine wpAny_mono (PySem.wpAny_toks (Q := fun u s' => (∃ z tz, u = Value.str z tz ∧ s.toks ≤ tz) ∧ EP X pins σ Q u s') (wpAny_call (codeAny_mono rc fun r s' hq => ?_))) (fun u s' hq => ?_) (fun _ _ z => z.2)
  rotate_left 1
  · obtain ⟨h1, ⟨z, tz, e, h2⟩, h3⟩ := hq
    exact ⟨⟨z, tz, e, h2⟩, h1, h3⟩
  · obtain ⟨u, rfl, hm, hq⟩ := hq
    exact ⟨litVals_mem (by simpa using hm), I2.after hq⟩
/-- o.replace(y, _law_pick(x, written texts)) -/
def tRepP (K : Frag) (y : Str) (i : Nat) (zs : List Str) (to : TE) : TE := fun σ H Q => to σ H fun v H1 => ∃ x, v = .str x ∧ tPickL K i zs σ H1 fun w H2 => ∃ z, w = .str z ∧ (y == z) = false ∧ x.length + (x.length + 1) * z.length ≤ 16777216 ∧ Q (.str (Txt.replace x y z)) H2
theorem pet_rep {X : Cx} (A : Facts X.prog X.K X.mg X.base) (hr : Room 2 X.A) {i j : Nat} {x y : Str} {es : List Expr} {zs : List Str} {oe : Expr} {to : TE} {p p2 p3 p4 lp c0 ap : Pos} (hNi : X.N[i]? = some x) (hv : Vis X.env.scope x) (hg : Gl X "_law_pick") (L : Lits es zs) (hlen : zs.length ≤ 1000) (ho : PE X oe to)
    (hd : (x == ("__debug__" : Str)) = false := by decide) (hcd : (x == ("__classdict__" : Str)) = false := by decide)
    (hbase : attributeBase oe "replace" X.env (eval oe X.env) = eval oe X.env := by rfl) (hline : (ap.endLine == p4.line) = true := by rfl) :
    PET X (.Call (.Attribute oe "replace" ap) [.Constant (.str y) j c0, .Call (.Name "_law_pick" p) [.Name x p2, .List es lp] [] p3] [] p4) (tRepP X.K y i zs to) := by
  intro pins s σ H Q h0 I h
  have hst : starEach [.Constant (.str y) j c0, .Call (.Name "_law_pick" p) [.Name x p2, .List es lp] [] p3] X.env = [(false, eval (.Constant (.str y) j c0) X.env), (false, eval (.Call (.Name "_law_pick" p) [.Name x p2, .List es lp] [] p3) X.env)] := rfl
  refine PySem.Call_method2 hbase hst hline (wpAny_mono (PySem.wpAny_toks (ho.run pins s σ H _ I h)) (fun v s1 hq => ?_) (fun _ _ z => z.2))
  obtain ⟨hk, xv, H1, I1, rx, x0, ex, hp⟩ := hq
  subst ex
  obtain ⟨tx, rfl⟩ := rx
  refine ⟨"str", _, F.plainAttrs_str, F.slot_str_replace, F.type_str_replace, typeIs_str _ _ _, (fun _ e => nomatch e), Calls.callWith_builtin rfl (Calls.evalArgs_plain (Calls.spliced_cons (Calls.Constant_str ?_)))⟩
  refine Calls.spliced_cons (wpAny_mono (pel_pick A hr hNi hv hg L hlen hd hcd (I1.tok (s1.toks + 1)) hp) (fun u s2 hq => ?_) (fun _ _ z => z))
  obtain ⟨⟨z, tz, rfl, h1⟩, h2, w, H2, I2, rw', z', ew, hyz, hb, q⟩ := hq
  subst ew
  obtain ⟨t, e⟩ := rw'
  cases e
  have h1' : s1.toks + 1 ≤ tz := h1
  have n1 : s1.toks ≠ 0 := by omega
  have n2 : tz ≠ 0 := Nat.ne_of_gt (Nat.lt_of_lt_of_le (Nat.succ_pos _) h1')
  have n3 : s1.toks ≠ tz := Nat.ne_of_lt h1'
  exact Calls.spliced_nil (PySem.SC.replace n1 n2 n3 hyz hb fun t' k => ⟨.str (Txt.replace x0 y z), H2, I2.tok k, ⟨t', rfl⟩, q⟩)
/-- _law_pick(x, written texts) op b, behind which a token is out -/
theorem pe_opPick {X : Cx} (A : Facts X.prog X.K X.mg X.base) (hr : Room 2 X.A) {i : Nat} {x : Str} {es : List Expr} {zs : List Str} {b : Expr} {tb : TE} {op : Operator} {r : R2} {p p2 p3 lp pos : Pos} (hNi : X.N[i]? = some x) (hv : Vis X.env.scope x) (hg : Gl X "_law_pick") (L : Lits es zs) (hlen : zs.length ≤ 1000) (h1 : 1 ≤ zs.length)
    (ho : OpR X (binaryOp op) r) (hb : PET X b tb) (hd : (x == ("__debug__" : Str)) = false := by decide) (hcd : (x == ("__classdict__" : Str)) = false := by decide) :
    PE X (.BinOp (.Call (.Name "_law_pick" p) [.Name x p2, .List es lp] [] p3) op b pos) (tOp r (tPickL X.K i zs) tb) := by
  refine ⟨fun pins s σ H Q I h => wpAny_BinOp (wpAny_mono (pel_pick A hr hNi hv hg L hlen hd hcd I h) (fun v s1 hq => ?_) (fun _ _ z => z))⟩
  obtain ⟨_, ht, vx, H1, I1, r1, q1⟩ := hq
  refine thn (hb pins s1 σ H1 _ (by omega) I1 q1) fun u s2 ⟨y, H2, I2, r2, q2⟩ => ?_
  exact ho pins s2 σ H2 vx y v u Q I2 r1 r2 q2
/-- an object that stands -/
structure AtO where
  a : Addr
  o : HO
instance : Rp AtO := ⟨fun K F v x => F x.a = some x.o, fun s h => s _ _ h⟩
section
variable {B : Bs} {Γ : List Sl} {C C1 : Cs} {to : TE} {sp : Addr} {spv : List Int} {i k : Nat}
theorem ev_pickS {zs : List Str} {r : Str × List Int} (hi : Γ[i]? = some (some (tv (Ptr.mk sp)))) (hk : C[k]? = some (sp, .lst spv)) (h : pickS spv zs = some r) : Ev B (tPickL B.K i zs) Γ C (tv r.1) (C.set k (sp, .lst r.2)) := fun τ σ ws H ⟨F, s⟩ Q qq l o hl => by
  obtain ⟨q, hm, h0, h1, hz⟩ := pickS_some h
  obtain ⟨hf, sF, sH⟩ := s.hf.laid (o := .frz o (.lst (zs.map V.str))) hl
  have ev : Ev B (tCall (SpV S__law_draw B.K) [] E0 (tCons (tVar i) (tCons (tC (.int (zs.length : Int))) tNil))) Γ C (tv q) (C.set k (sp, .lst r.2)) := ev_call1 (ea_cons (ev_var hi) (ea_cons ev_int ea_nil)) hk ⟨sp, spv, _, q, r.2, rfl, rfl, hm, rfl, rfl⟩
  refine ev (tv (AtO.mk l (.frz o (.lst (zs.map V.str)))) :: τ) σ (.non :: ws) _ ⟨_, hf, s.slots.slots_mono sF, .cons upd_same (s.temps.temps_mono sF)⟩ _ fun v H' ⟨F', s'⟩ => ?_
  cases s'.temps with
  | cons hv t1 => cases t1 with
    | cons hL t2 => exact ⟨q, r.1, hv, h0, h1, hz, s'.hf.sub _ _ hL, qq _ H' ⟨F', s'.hf, s'.slots, .cons rfl t2⟩⟩
theorem ev_repS {x y : Str} {zs : List Str} {r : Str × List Int} {w : Str} (ho : Ev B to Γ C (tv x) C1) (hi : Γ[i]? = some (some (tv (Ptr.mk sp)))) (hk : C1[k]? = some (sp, .lst spv)) (h : pickS spv zs = some r) (hw : repO x y r.1 = some w) : Ev B (tRepP B.K y i zs to) Γ C (tv w) (C1.set k (sp, .lst r.2)) := fun τ σ ws H st Q qq =>
  ho τ σ ws H st _ fun v H1 ⟨F1, s1⟩ => by
    obtain ⟨rfl, hy, hb⟩ := repO_some hw
    cases s1.temps with
    | cons hv t1 =>
      obtain rfl : v = .str x := hv
      refine ⟨x, rfl, ev_pickS (B := B) hi hk h τ σ ws H1 ⟨F1, s1.hf, s1.slots, t1⟩ _ fun u H2 ⟨F2, s2⟩ => ?_⟩
      cases s2.temps with
      | cons hu t2 =>
        obtain rfl : u = .str r.1 := hu
        exact ⟨r.1, rfl, hy, hb, qq _ H2 ⟨F2, s2.hf, s2.slots, .cons rfl t2⟩⟩
end
end K59
set_option Elab.async false
set_option linter.all false
set_option maxRecDepth 100000
set_option maxHeartbeats 2000000
set_option autoImplicit false
/-! a def that is called where no repr is under way -/
namespace L2
open PySem PySem.Spec PyProof.Rows
theorem guards_deeper {A : Around} {env : Env} (h : A.guards = some []) : (A.deeper env).guards = some [] := by
  unfold Around.deeper
  simp_all
def FnOkG (P : Program) (w : World) (K : PySem.W.Frag) (mg : Str → Option Value) (base : Heap) (k : Nat) (f : Addr) (fd : FuncData) (ps : List Str) (sp : Sp) : Prop :=
  ∀ (A : Around) (outer : List Env) (s : Shared) (H : Hp) (args : Args) (us : List Value) (vs : List V) (Q : VK) (E : XK), A.guards = some [] → Room k A → Env0 P w K mg base A outer s H → BindsTo s fd args (ps.zip us) → Vals vs us → sp vs H Q E →
    codeAny (model P w) A (.call (.ref f) args) (CR CX0 outer P w H s Q E) s
theorem Fun.okCG {P : Program} {w : World} {K : PySem.W.Frag} {mg : Str → Option Value} {base : Heap} {x qual : Str} {st : Stmt} {f : Addr} {fd : FuncData} {N ps : List Str} {k : Nat} {sp : Sp} (F : Fun K x qual st f fd) (S : FnScope N ps (defScope st)) (len : ∀ vs H Q E, sp vs H Q E → vs.length = ps.length)
    (hbody : ∀ (cdv : Value) (A : Around) (outer : List Env) (s : Shared) (H : Hp) (vs : List V) (Q : VK) (E : XK), codeAt K f = some cdv → (A.deeper (envOfC qual (defScope st) s.heap.objs.size f cdv)).guards = some [] → Room k (A.deeper (envOfC qual (defScope st) s.heap.objs.size f cdv)) → sp vs H Q E →
      ∃ t, PSs (cxOf CX0 P w K mg base N qual (defScope st) f cdv A outer s H E).nox (defBody st) t ∧ t { nx := fun _ H' => Q .non H', rt := Q } (start N vs) H) : FnOkG P w K mg base (k + 1) f fd ps sp := by
  obtain ⟨oc, od, kV, doc, pm, an, cdv, ct, osl, rfl, lk, hcd⟩ := F.ex
  intro A outer s H args us vs Q E hg hr e0 hb r hs
  refine LamX.run_ofS (CX := CX0) lk hcd S hr e0 hb r (len _ _ _ _ hs) fun hr' => ?_
  obtain ⟨t, h, q⟩ := hbody cdv A outer s H vs Q E (by unfold codeAt; rw [lk]) (guards_deeper hg) hr' hs
  exact ⟨t, h.nox, q⟩
end L2
set_option Elab.async false
set_option linter.all false
set_option maxRecDepth 100000
set_option maxHeartbeats 4000000
set_option autoImplicit false
namespace K59
open PySem PySem.Spec PyProof.Rows L2 T LamX
open PySem.W (Frag)
variable {P : Program} {w : World} {K : PySem.W.Frag} {mg : Str → Option Value} {base : Heap}
theorem w__law_x_asked (A : Facts P K mg base) : FnOk P w K mg base CX0 (7 + 1) A.f__law_x_asked A.fd__law_x_asked ["text"] (SpV (S__law_x_asked A.P__law_x_asked) K) := by
  refine A.F__law_x_asked.okC sc__law_x_asked (len_v (fun args C r C' h => by obtain ⟨_, _, rfl, _⟩ := h; rfl)) (fun cdv AA outer s H vs Q E hcd0 hr h => ?_)
  have nd := sc__law_x_asked.nd
  obtain rfl : cdv = .ref A.c__law_x_asked := Option.some.inj (hcd0.symm.trans A.cd__law_x_asked)
  have hr1 : Room 1 _ := hr.mono (by decide)
  have hr2 : Room 2 _ := hr.mono (by decide)
  have hr3 : Room 3 _ := hr.mono (by decide)
  have hr4 : Room 4 _ := hr.mono (by decide)
  have hr5 : Room 5 _ := hr.mono (by decide)
  have hr6 : Room 6 _ := hr.mono (by decide)
  have hr7 : Room 7 _ := hr.mono (by decide)
  refine ⟨_, (pss_cons (ps_set (i := 1) nd rfl (by first | exact .inl rfl | exact .inr rfl) (pe_call (w__law_x_read (P := P) (w := w) A) hr3 (by rfl) A.g__law_x_read A.F__law_x_read.kp A.b__law_x_read .nil pass0 (pa_cons (pv 0) pa_nil)))
      (pss_cons (ps_if (pt_val (pe_callB (r := rIsi K) call_isi (by rfl) A.n_isinstance (by decide +kernel) (pa_cons (pv 1) (pa_cons (pe_bltn (v := .ty "int") (by rfl) A.n_int (by decide +kernel) rfl) pa_nil)))) (pss_one (ps_ret (pe_cmpR (r := rEqD K) (op_eqD hr.units) (pe_met (k := 5) (q := "_law_x_asked.<locals>.<lambda>") A (by rfl) rfl A.TB__law_x_asked rfl (by decide) hr7 (lamS_by (sc := defScope s__law_x_asked) (by decide +kernel)) rfl (fun _ _ _ _ _ => rfl) (pv 0) (fun A' outer s H E f c' hq1 => by exact (pe_callS (w_read_steps (P := P) (w := w) A) (hq1.mono (by decide)) (by rfl) A.g_read_steps A.F_read_steps.kp A.b_read_steps (fun σ => L2N.passAt lam_takes σ) (pa_cons (pv 0) pa_nil)))) (pe_lst (pa_cons pe_str (pa_cons pe_bl (pa_cons (pv 1) pa_nil)))) (nomark _)))) pss_nil)
      (pss_cons (ps_set (i := 2) nd rfl (by first | exact .inl rfl | exact .inr rfl) (pe_callS (w_read_steps (P := P) (w := w) A) hr4 (by rfl) A.g_read_steps A.F_read_steps.kp A.b_read_steps (fun σ => passN σ) (pa_cons (pv 0) pa_nil)))
      (pss_cons (ps_if (pt_not (pt_val (pe_call (w__law_same (P := P) (w := w) (base := base) A.zsame A.F__law_same A.b__law_same A.g__law_same 6) hr6 (by rfl) A.g__law_same A.F__law_same.kp A.b__law_same .nil pass0 (pa_cons (pe_lst (pa_cons (pv 2) (pa_cons (pe_callKw (w_read_steps (P := P) (w := w) A) hr4 (by rfl) A.g_read_steps A.F_read_steps.kp A.kw_read_steps (fun σ => passN σ) (pk_cons (pv 0) pk_nil)) pa_nil))) (pa_cons (pe_lst (pa_cons (pv 1) (pa_cons (pv 1) pa_nil))) pa_nil))))) (pss_one (ps_ret pe_bl)) pss_nil)
      (pss_cons (ps_expr (pe_bm PySem.F.plainAttrs_list PySem.F.slot_list_append PySem.F.type_list_append mt_append (pv 2) (pa_cons pe_str pa_nil)))
      (pss_one (ps_ret (pe_call (w__law_same (P := P) (w := w) (base := base) A.zsame A.F__law_same A.b__law_same A.g__law_same 6) hr6 (by rfl) A.g__law_same A.F__law_same.kp A.b__law_same .nil pass0 (pa_cons (pe_lst (pa_cons (pe_callS (w_read_steps (P := P) (w := w) A) hr4 (by rfl) A.g_read_steps A.F_read_steps.kp A.b_read_steps (fun σ => passN σ) (pa_cons (pv 0) pa_nil)) (pa_cons (pe_callS (w_steps_text (P := P) (w := w) A) hr4 (by rfl) A.g_steps_text A.F_steps_text.kp A.b_steps_text (fun σ => passN σ) (pa_cons (pe_callS (w_read_steps (P := P) (w := w) A) hr4 (by rfl) A.g_read_steps A.F_read_steps.kp A.b_read_steps (fun σ => passN σ) (pa_cons (pv 0) pa_nil)) pa_nil)) pa_nil))) (pa_cons (pe_lst (pa_cons (pv 1) (pa_cons (pv 0) pa_nil))) pa_nil)))))))))), ?_⟩
  refine body_v h fun B args C r C' hK hP hS => ?_
  obtain ⟨v_text, res, rfl, rfl, g0, rfl, rfl⟩ := hS
  subst hK
  obtain ⟨x1, h2, g3⟩ := bind_some g0
  refine ss_set (ev_call (ea_cons (ev_var rfl) ea_nil) ⟨(tv (v_text : Str)), (AsD.toD (v_text : Str)), _, rfl, rfl, dyn_of, h2, rfl, rfl⟩) ?_
  refine ss_if (et_B (ev_cb (ea_cons (ev_var rfl) (ea_cons ev_ty ea_nil)) (cs_isi dyn_of isk_int))) (fun c4 => ?_) (fun c12 => ?_)
  · have g5 := if_t g3 c4
    refine ss_retS ?_
    obtain ⟨x6, h7, g10⟩ := bind_some g5
    obtain ⟨b8, h9, g11⟩ := bind_some g10
    cases g11
    exact ss_retVG (ev_eq (ev_op (ev_of (evn_metT A rfl (k := 0) rfl (ev_var rfl) dyn_of dyn_of (metT_some h9).2.2 (fun B' hK => evf_callNK hK (ea_cons (ev_var rfl) ea_nil) ⟨(tv (v_text : Str)), (AsD.toD (v_text : Str)), x6, rfl, rfl, dyn_of, (metT_some h9).1, rfl, rfl⟩))) (ev_of (evn_lst (xs := [D.str "text", D.bl true, D.int x6]) (ea_cons (ev_toD ev_str) (ea_cons (ev_toD ev_bl) (ea_cons (ev_toD (ev_int? dyn_of h7 (ev_var rfl))) ea_nil))) (szn (by show 3 ≤ 1000; decide)))) (os_eqF flt_text)) (metT_some h9).2.1.symm) ((.cons₂ _ .slnil)) rfl
  · have g13 := if_f g3 c12
    refine ss_skip ?_
    obtain ⟨x14, h15, g16⟩ := bind_some g13
    refine ss_setN (evn_callNY (ea_cons (ev_var rfl) ea_nil) ⟨(tv (v_text : Str)), (AsD.toD (v_text : Str)), _, rfl, rfl, dyn_of, h15, rfl, rfl⟩) fun p17 hp_p17 => ?_
    obtain ⟨x18, h19, g22⟩ := bind_some g16
    obtain ⟨b20, h21, g23⟩ := bind_some g22
    refine ss_if (et_not (et_B (ev_lock (.cons .std (.cons .std (.cons (.lst (List.mem_cons_self)) .nil))) fun H0 F0 => (ev_eq (ev_callR (ea_cons (ev_of (evn_lst (xs := ([x14, x18] : List (List D))) (ea_cons (ev_var rfl) (ea_cons (ev_of (evn_callNY (ea_cons (ev_var rfl) ea_nil) ⟨(tv (v_text : Str)), (AsD.toD (v_text : Str)), _, rfl, rfl, dyn_of, h19, rfl, rfl⟩)) ea_nil)) (szn (by show 2 ≤ 1000; decide)))) (ea_cons (ev_of (evn_lst (xs := ([x1, x1] : List D)) (ea_cons (ev_var rfl) (ea_cons (ev_var rfl) ea_nil)) (szn (by show 2 ≤ 1000; decide)))) ea_nil)) (.cons .val (.cons .val .nil)) ⟨_, _, (AsD.toD (([x14, x18] : List (List D)) : (List (List D)))), rfl, rfl, dyn_of, (sameO_some h21).2.1 ▸ dyn_of, (sameO_some h21).2.2.1, (sameO_some h21).2.2.2, rfl, rfl⟩) (sameO_some h21).1.symm)))) (fun c24 => ?_) (fun c26 => ?_)
    · have g25 := if_t g23 c24
      refine ss_retS ?_
      cases g25
      exact ss_retVG ev_bl ((.cons _ (.cons₂ _ .slnil))) rfl
    · have g27 := if_f g23 c26
      refine ss_skip ?_
      obtain ⟨x28, h29, g30⟩ := bind_some g27
      refine ss_drop (ev_appO (k := 0) (ev_var rfl) (ea_cons (ev_toD ev_str) ea_nil) rfl rfl h29) ?_
      refine ss_end ?_
      refine ss_retS ?_
      obtain ⟨x31, h32, g39⟩ := bind_some g30
      obtain ⟨x33, h34, g40⟩ := bind_some g39
      obtain ⟨x35, h36, g41⟩ := bind_some g40
      obtain ⟨b37, h38, g42⟩ := bind_some g41
      cases g42
      exact ss_retVG (ev_eq (ev_callR (ea_cons (ev_of (evn_lst (xs := ([(AsD.toD (x31 : (List D))), (AsD.toD (x35 : Str))] : List D)) (ea_cons (ev_toD (ev_of (evn_callNY (ea_cons (ev_var rfl) ea_nil) ⟨(tv (v_text : Str)), (AsD.toD (v_text : Str)), _, rfl, rfl, dyn_of, h32, rfl, rfl⟩))) (ea_cons (ev_toD (ev_callVF (ea_cons (ev_of (evn_callNY (ea_cons (ev_var rfl) ea_nil) ⟨(tv (v_text : Str)), (AsD.toD (v_text : Str)), _, rfl, rfl, dyn_of, h34, rfl, rfl⟩)) ea_nil) ⟨(tv (x33 : (List D))), (AsD.toD (x33 : (List D))), _, rfl, rfl, dyn_of, h36, rfl, rfl⟩)) ea_nil)) (szn (by show 2 ≤ 1000; decide)))) (ea_cons (ev_of (evn_lst (xs := ([x1, (AsD.toD (v_text : Str))] : List D)) (ea_cons (ev_var rfl) (ea_cons (ev_toD (ev_var rfl)) ea_nil)) (szn (by show 2 ≤ 1000; decide)))) ea_nil)) (.cons .val (.cons .val .nil)) ⟨_, _, (AsD.toD (([(AsD.toD (x31 : (List D))), (AsD.toD (x35 : Str))] : List D) : (List D))), rfl, rfl, dyn_of, (sameO_some h38).2.1 ▸ dyn_of, (sameO_some h38).2.2.1, (sameO_some h38).2.2.2, rfl, rfl⟩) (sameO_some h38).1.symm) ((.cons _ (.cons₂ _ .slnil))) rfl
theorem w__law_x_bent (A : Facts P K mg base) : FnOk P w K mg base CX0 (2 + 1) A.f__law_x_bent A.fd__law_x_bent ["spring", "text"] (SpV (S__law_x_bent) K) := by
  refine A.F__law_x_bent.ok sc__law_x_bent (len_v (fun args C r C' h => by obtain ⟨_, _, _, _, _, rfl, _⟩ := h; rfl)) (fun cdv AA outer s H vs Q E hr h => ?_)
  have nd := sc__law_x_bent.nd
  have hr1 : Room 1 _ := hr.mono (by decide)
  have hr2 : Room 2 _ := hr.mono (by decide)
  refine ⟨_, (pss_cons (ps_par (i := 2) (j := 3) rfl nd rfl rfl (by decide) rfl rfl (pa_cons (pe_m1 (r := rSplit1) PySem.F.slot_str_split PySem.F.type_str_split mt_split (pv 1) pe_str) (pa_cons (pe_call (w__law_draw (P := P) (w := w) A) hr1 (by rfl) A.g__law_draw A.F__law_draw.kp A.b__law_draw .nil pass0 (pa_cons (pv 0) (pa_cons pe_int pa_nil))) pa_nil)) rfl)
      (pss_cons (ps_set (i := 4) nd rfl (by first | exact .inl rfl | exact .inr rfl) (pe_call (w__law_draw (P := P) (w := w) A) hr1 (by rfl) A.g__law_draw A.F__law_draw.kp A.b__law_draw .nil pass0 (pa_cons (pv 0) (pa_cons (pe_callB (r := T.rLen K) call_len_seq (by rfl) A.n_len (by decide +kernel) (pa_cons (pv 2) pa_nil)) pa_nil))))
      (pss_cons (ps_set (i := 5) nd rfl (by first | exact .inl rfl | exact .inr rfl) (pe_m1 (r := rSplit1) PySem.F.slot_str_split PySem.F.type_str_split mt_split (pe_ix (r := rIxL K) ix_list (pv 2) (pv 4) (fun _ _ => rfl)) pe_str))
      (pss_cons (ps_set (i := 6) nd rfl (by first | exact .inl rfl | exact .inr rfl) (pe_call (w__law_draw (P := P) (w := w) A) hr1 (by rfl) A.g__law_draw A.F__law_draw.kp A.b__law_draw .nil pass0 (pa_cons (pv 0) (pa_cons (pe_callB (r := T.rLen K) call_len_seq (by rfl) A.n_len (by decide +kernel) (pa_cons (pv 5) pa_nil)) pa_nil))))
      (pss_cons (ps_if (pt_cmpR op_eq (pv 3) pe_int (nomark _)) (pss_one (ps_expr (pe_popAt (K := K) rfl (pv 2) (pa_cons (pv 4) pa_nil)))) (pss_one (ps_if (pt_cmpR op_eq (pv 3) pe_int (nomark _)) (pss_one (ps_asg (pe_op op_add_str (pe_ix (r := rIxL K) ix_list (pv 2) (pv 4) (fun _ _ => rfl)) (pe_call (w__law_pick (P := P) (w := w) A) hr2 (by rfl) A.g__law_pick A.F__law_pick.kp A.b__law_pick .nil pass0 (pa_cons (pv 0) (pa_cons (pe_lst (pa_cons pe_str (pa_cons pe_str (pa_cons pe_str (pa_cons pe_str pa_nil))))) pa_nil)))) (pg_sub (pv 2) (pv 4) set_list (by intros; rfl)))) (pss_one (ps_if (pt_cmpR op_eq (pv 3) pe_int (nomark _)) (pss_one (ps_asg (pe_opPick (i := 0) (zs := ([Str.ofString " ", Str.ofString ""] : List Str)) A hr2 rfl (.inl rfl) (by rfl) (.cons (.cons .nil)) (by decide) (by decide) op_add_str (pet_rep (i := 0) (zs := ([Str.ofString "  ", Str.ofString "	", Str.ofString ","] : List Str)) A hr2 rfl (.inl rfl) (by rfl) (.cons (.cons (.cons .nil))) (by decide) (pe_ix (r := rIxL K) ix_list (pv 2) (pv 4) (fun _ _ => rfl)))) (pg_sub (pv 2) (pv 4) set_list (by intros; rfl)))) (pss_one (ps_if (pt_cmpR op_lt (pv 3) pe_int (nomark _)) (pss_cons (ps_asg (pe_call (w__law_pick (P := P) (w := w) A) hr2 (by rfl) A.g__law_pick A.F__law_pick.kp A.b__law_pick .nil pass0 (pa_cons (pv 0) (pa_cons (pe_lst (pa_cons pe_str (pa_cons pe_str (pa_cons pe_str (pa_cons pe_str (pa_cons pe_str (pa_cons pe_str (pa_cons pe_str (pa_cons pe_str (pa_cons (pe_op op_mulS pe_str pe_int) (pa_cons (pe_op op_add_str (pe_ix (r := rIxL K) ix_list (pv 5) (pv 6) (fun _ _ => rfl)) pe_str) (pa_cons (pe_slice sl_str (pe_ix (r := rIxL K) ix_list (pv 5) (pv 6) (fun _ _ => rfl)) po_none (po_some (pe_un un_neg pe_int))) (pa_cons (pe_ix (r := rIxL K) ix_list (pv 5) (pe_un un_neg pe_int) (fun _ _ => rfl)) pa_nil))))))))))))) pa_nil))) (pg_sub (pv 5) (pv 6) set_list (by intros; rfl)))
      (pss_one (ps_asg (pe_m1 (r := rJoin1 K) PySem.F.slot_str_join PySem.F.type_str_join mt_join pe_str (pv 5)) (pg_sub (pv 2) (pv 4) set_list (by intros; rfl))))) (pss_one (ps_if (pt_cmpR op_eq (pv 3) pe_int (nomark _)) (pss_one (ps_ret (pe_slice sl_str (pv 1) po_none (po_some (pe_un un_neg pe_int))))) (pss_one (ps_if (pt_cmpR op_eq (pv 3) pe_int (nomark _)) (pss_one (ps_ret (pe_op op_add_str (pv 1) (pe_call (w__law_pick (P := P) (w := w) A) hr2 (by rfl) A.g__law_pick A.F__law_pick.kp A.b__law_pick .nil pass0 (pa_cons (pv 0) (pa_cons (pe_lst (pa_cons pe_str (pa_cons pe_str (pa_cons pe_str (pa_cons pe_str pa_nil))))) pa_nil)))))) (pss_one (ps_if (pt_cmpR op_eq (pv 3) pe_int (nomark _)) (pss_cons (ps_expr (pe_popAt (K := K) rfl (pv 5) (pa_cons (pv 6) pa_nil)))
      (pss_one (ps_asg (pe_m1 (r := rJoin1 K) PySem.F.slot_str_join PySem.F.type_str_join mt_join pe_str (pv 5)) (pg_sub (pv 2) (pv 4) set_list (by intros; rfl))))) (pss_one (ps_if (pt_cmpR op_eq (pv 3) pe_int (nomark _)) (pss_one (ps_asg (pe_m1 (r := rJoin1 K) PySem.F.slot_str_join PySem.F.type_str_join mt_join pe_str (pe_op op_catL (pe_slice (r := rSlL K) sl_list (pv 5) po_none (po_some pe_int)) (pe_call (w__law_mixed (P := P) (w := w) A) hr2 (by rfl) A.g__law_mixed A.F__law_mixed.kp A.b__law_mixed .nil pass0 (pa_cons (pv 0) (pa_cons (pe_slice (r := rSlL K) sl_list (pv 5) (po_some pe_int) po_none) pa_nil))))) (pg_sub (pv 2) (pv 4) set_list (by intros; rfl)))) (pss_cons (ps_set (i := 7) nd rfl (by first | exact .inl rfl | exact .inr rfl) (pe_call (w__law_draw (P := P) (w := w) A) hr1 (by rfl) A.g__law_draw A.F__law_draw.kp A.b__law_draw .nil pass0 (pa_cons (pv 0) (pa_cons (pe_op op_add (pe_callB call_len_str (by rfl) A.n_len (by decide +kernel) (pa_cons (pv 1) pa_nil)) pe_int) pa_nil))))
      (pss_one (ps_ret (pe_op op_add_str (pe_op op_add_str (pe_slice sl_str (pv 1) po_none (po_some (pv 7))) (pe_call (w__law_pick (P := P) (w := w) A) hr2 (by rfl) A.g__law_pick A.F__law_pick.kp A.b__law_pick .nil pass0 (pa_cons (pv 0) (pa_cons (pe_lst (pa_cons pe_str (pa_cons pe_str (pa_cons pe_str (pa_cons pe_str (pa_cons pe_str (pa_cons pe_str pa_nil))))))) pa_nil)))) (pe_slice sl_str (pv 1) (po_some (pe_op op_add (pv 7) (pe_call (w__law_draw (P := P) (w := w) A) hr1 (by rfl) A.g__law_draw A.F__law_draw.kp A.b__law_draw .nil pass0 (pa_cons (pv 0) (pa_cons pe_int pa_nil))))) po_none))))))))))))))))))))
      (pss_one (ps_ret (pe_m1 (r := rJoin1 K) PySem.F.slot_str_join PySem.F.type_str_join mt_join pe_str (pv 2))))))))), ?_⟩
  refine body_v h fun B args C r C' hK hP hS => ?_
  obtain ⟨p_spring, v_spring, v_text, res, w_spring, rfl, rfl, g0, rfl, rfl⟩ := hS
  subst hK
  obtain ⟨x1, h2, g8⟩ := bind_some g0
  obtain ⟨x4, h5, g9⟩ := bind_some g8
  obtain ⟨v6, h7, g10⟩ := bind_some g9
  refine ss_parX (eax_consN (evn_split h2 (ev_var rfl) ev_str) fun p3 hp_p3 => (eax_cons (ev_eq (ev_call1 (k := 1) (ea_cons (ev_var rfl) (ea_cons ev_int ea_nil)) rfl ⟨p_spring, v_spring, (11 : Int), x4.1, x4.2, rfl, rfl, h5, rfl, rfl⟩) (some_eq h7)) eax_nil)) (fun _ _ _ hk200 => ?_) (fun _ _ hk200 => by obtain ⟨_, _, _, rfl, _, rfl, rfl, rfl⟩ := hk200; rfl)
  obtain ⟨p3, _, hp_p3, e201, hk200⟩ := hk200
  cases e201
  obtain ⟨_, e201, hk200⟩ := hk200
  cases e201
  obtain ⟨_, rfl⟩ := hk200
  obtain ⟨x11, h12, g15⟩ := bind_some g10
  obtain ⟨at13, h14, g16⟩ := bind_some g15
  refine ss_set (ev_eq (ev_call1 (k := 1) (ea_cons (ev_var rfl) (ea_cons (ev_cb (ea_cons (ev_var rfl) ea_nil) (cs_len (ls_cell List.mem_cons_self))) ea_nil)) rfl ⟨p_spring, x4.2, (x1.length : Int), x11.1, x11.2, rfl, rfl, h12, rfl, rfl⟩) (some_eq h14)) ?_
  obtain ⟨x17, h18, g21⟩ := bind_some g16
  obtain ⟨x19, h20, g22⟩ := bind_some g21
  refine ss_setN (evn_split h20 (ev_op (ev_var rfl) (ev_var rfl) (os_ix (ls_cell List.mem_cons_self) h18)) ev_str) fun p23 hp_p23 => ?_
  obtain ⟨x24, h25, g28⟩ := bind_some g22
  obtain ⟨place26, h27, g29⟩ := bind_some g28
  refine ss_set (ev_eq (ev_call1 (k := 2) (ea_cons (ev_var rfl) (ea_cons (ev_cb (ea_cons (ev_var rfl) ea_nil) (cs_len (ls_cell List.mem_cons_self))) ea_nil)) rfl ⟨p_spring, x11.2, (x19.length : Int), x24.1, x24.2, rfl, rfl, h25, rfl, rfl⟩) (some_eq h27)) ?_
  refine ss_if (et_test (ev_op (ev_var rfl) ev_int os_eq)) (fun c30 => ?_) (fun c38 => ?_)
  · have g31 := if_t g29 c30
    obtain ⟨x32, h33, g34⟩ := bind_some g31
    refine ss_drop (ev_popAt (k := 1) h33 (ev_var rfl) (ea_cons (ev_var rfl) ea_nil) rfl rfl) ?_
    refine ss_end ?_
    refine ss_retS ?_
    obtain ⟨x35, h36, g37⟩ := bind_some g34
    cases g37
    exact ss_retVG (ev_joinL h36 ev_str (ev_var rfl) (ls_cell (List.mem_cons_of_mem _ List.mem_cons_self))) ((.cons _ (.cons _ (.cons₂ _ .slnil)))) rfl
  · have g39 := if_f g29 c38
    refine ss_if (et_test (ev_op (ev_var rfl) ev_int os_eq)) (fun c40 => ?_) (fun c57 => ?_)
    · have g41 := if_t g39 c40
      obtain ⟨x42, h43, g50⟩ := bind_some g41
      obtain ⟨x44, h45, g51⟩ := bind_some g50
      obtain ⟨x46, h47, g52⟩ := bind_some g51
      obtain ⟨l48, h49, g53⟩ := bind_some g52
      refine ss_iset (k := 1) (ev_eq (ev_op (ev_op (ev_var rfl) (ev_var rfl) (os_ix (ls_cell (List.mem_cons_of_mem _ List.mem_cons_self)) h43)) (ev_call1 (k := 2) (ea_cons (ev_var rfl) (ea_cons (ev_of (evn_lst (xs := ([(Str.ofString " "), (Str.ofString "	"), (Str.ofString " a"), (Str.ofString "z")] : List Str)) (ea_cons ev_str (ea_cons ev_str (ea_cons ev_str (ea_cons ev_str ea_nil)))) (szn (by show 4 ≤ 1000; decide)))) ea_nil)) rfl ⟨Str, inferInstance, p_spring, x24.2, ([(Str.ofString " "), (Str.ofString "	"), (Str.ofString " a"), (Str.ofString "z")] : List Str), x44.1, x44.2, rfl, rfl, h45, rfl, rfl⟩) (os_addS (catS_some h47).2)) (catS_some h47).1.symm) (ev_var rfl) (ev_var rfl) rfl h49 ?_
      refine ss_end ?_
      refine ss_retS ?_
      obtain ⟨x54, h55, g56⟩ := bind_some g53
      cases g56
      exact ss_retVG (ev_joinL h55 ev_str (ev_var rfl) (ls_cell (List.mem_cons_of_mem _ List.mem_cons_self))) ((.cons _ (.cons _ (.cons₂ _ .slnil)))) rfl
    · have g58 := if_f g39 c57
      refine ss_if (et_test (ev_op (ev_var rfl) ev_int os_eq)) (fun c59 => ?_) (fun c82 => ?_)
      · have g60 := if_t g58 c59
        obtain ⟨x61, h62, g73⟩ := bind_some g60
        obtain ⟨x63, h64, g74⟩ := bind_some g73
        obtain ⟨x65, h66, g75⟩ := bind_some g74
        obtain ⟨x67, h68, g76⟩ := bind_some g75
        obtain ⟨x69, h70, g77⟩ := bind_some g76
        obtain ⟨l71, h72, g78⟩ := bind_some g77
        refine ss_iset (k := 1) (ev_eq (ev_op (ev_pickS (k := 2) rfl rfl h62) (ev_repS (k := 2) (ev_op (ev_var rfl) (ev_var rfl) (os_ix (ls_cell (List.mem_cons_of_mem _ List.mem_cons_self)) h64)) rfl rfl h66 h68) (os_addS (catS_some h70).2)) (catS_some h70).1.symm) (ev_var rfl) (ev_var rfl) rfl h72 ?_
        refine ss_end ?_
        refine ss_retS ?_
        obtain ⟨x79, h80, g81⟩ := bind_some g78
        cases g81
        exact ss_retVG (ev_joinL h80 ev_str (ev_var rfl) (ls_cell (List.mem_cons_of_mem _ List.mem_cons_self))) ((.cons _ (.cons _ (.cons₂ _ .slnil)))) rfl
      · have g83 := if_f g58 c82
        refine ss_if (et_test (ev_op (ev_var rfl) ev_int os_lt)) (fun c84 => ?_) (fun c119 => ?_)
        · have g85 := if_t g83 c84
          refine ss_assoc ?_
          obtain ⟨x86, h87, g102⟩ := bind_some g85
          obtain ⟨x88, h89, g103⟩ := bind_some g102
          obtain ⟨x90, h91, g104⟩ := bind_some g103
          obtain ⟨x92, h93, g105⟩ := bind_some g104
          obtain ⟨x94, h95, g106⟩ := bind_some g105
          obtain ⟨x96, h97, g107⟩ := bind_some g106
          obtain ⟨x98, h99, g108⟩ := bind_some g107
          obtain ⟨l100, h101, g109⟩ := bind_some g108
          refine ss_iset (k := 0) (ev_call1 (k := 2) (ea_cons (ev_var rfl) (ea_cons (ev_of (evn_lst (xs := ([(Str.ofString "A"), (Str.ofString ""), (Str.ofString "a"), (Str.ofString "turn"), (Str.ofString "put"), (Str.ofString "take"), (Str.ofString "eight"), (Str.ofString "9a"), x86, x90, x94, x96] : List Str)) (ea_cons ev_str (ea_cons ev_str (ea_cons ev_str (ea_cons ev_str (ea_cons ev_str (ea_cons ev_str (ea_cons ev_str (ea_cons ev_str (ea_cons (ev_op ev_str ev_int (os_mulS h87)) (ea_cons (ev_eq (ev_op (ev_op (ev_var rfl) (ev_var rfl) (os_ix (ls_cell List.mem_cons_self) h89)) ev_str (os_addS (catS_some h91).2)) (catS_some h91).1.symm) (ea_cons (ev_eq (ev_sliceS (cutSO_some h95).2 (ev_op (ev_var rfl) (ev_var rfl) (os_ix (ls_cell List.mem_cons_self) h93)) eo_none (eo_some (ev_neg ev_int))) (cutSO_some h95).1.symm) (ea_cons (ev_op (ev_var rfl) (ev_neg ev_int) (os_ix (ls_cell List.mem_cons_self) h97)) ea_nil)))))))))))) (szn (by show 12 ≤ 1000; decide)))) ea_nil)) rfl ⟨Str, inferInstance, p_spring, x24.2, ([(Str.ofString "A"), (Str.ofString ""), (Str.ofString "a"), (Str.ofString "turn"), (Str.ofString "put"), (Str.ofString "take"), (Str.ofString "eight"), (Str.ofString "9a"), x86, x90, x94, x96] : List Str), x98.1, x98.2, rfl, rfl, h99, rfl, rfl⟩) (ev_var rfl) (ev_var rfl) rfl h101 ?_
          obtain ⟨x110, h111, g114⟩ := bind_some g109
          obtain ⟨l112, h113, g115⟩ := bind_some g114
          refine ss_iset (k := 1) (ev_joinL h111 ev_str (ev_var rfl) (ls_cell List.mem_cons_self)) (ev_var rfl) (ev_var rfl) rfl h113 ?_
          refine ss_end ?_
          refine ss_retS ?_
          obtain ⟨x116, h117, g118⟩ := bind_some g115
          cases g118
          exact ss_retVG (ev_joinL h117 ev_str (ev_var rfl) (ls_cell (List.mem_cons_of_mem _ List.mem_cons_self))) ((.cons _ (.cons _ (.cons₂ _ .slnil)))) rfl
        · have g120 := if_f g83 c119
          refine ss_if (et_test (ev_op (ev_var rfl) ev_int os_eq)) (fun c121 => ?_) (fun c126 => ?_)
          · have g122 := if_t g120 c121
            refine ss_retS ?_
            obtain ⟨x123, h124, g125⟩ := bind_some g122
            cases g125
            exact ss_retVG (ev_eq (ev_sliceS (cutSO_some h124).2 (ev_var rfl) eo_none (eo_some (ev_neg ev_int))) (cutSO_some h124).1.symm) ((.cons _ (.cons _ (.cons₂ _ .slnil)))) rfl
          · have g127 := if_f g120 c126
            refine ss_if (et_test (ev_op (ev_var rfl) ev_int os_eq)) (fun c128 => ?_) (fun c136 => ?_)
            · have g129 := if_t g127 c128
              refine ss_retS ?_
              obtain ⟨x130, h131, g134⟩ := bind_some g129
              obtain ⟨x132, h133, g135⟩ := bind_some g134
              cases g135
              exact ss_retVG (ev_eq (ev_op (ev_var rfl) (ev_call1 (k := 2) (ea_cons (ev_var rfl) (ea_cons (ev_of (evn_lst (xs := ([(Str.ofString "\n"), (Str.ofString "a"), (Str.ofString " "), (Str.ofString "turn a")] : List Str)) (ea_cons ev_str (ea_cons ev_str (ea_cons ev_str (ea_cons ev_str ea_nil)))) (szn (by show 4 ≤ 1000; decide)))) ea_nil)) rfl ⟨Str, inferInstance, p_spring, x24.2, ([(Str.ofString "\n"), (Str.ofString "a"), (Str.ofString " "), (Str.ofString "turn a")] : List Str), x130.1, x130.2, rfl, rfl, h131, rfl, rfl⟩) (os_addS (catS_some h133).2)) (catS_some h133).1.symm) ((.cons _ (.cons _ (.cons₂ _ .slnil)))) rfl
            · have g137 := if_f g127 c136
              refine ss_if (et_test (ev_op (ev_var rfl) ev_int os_eq)) (fun c138 => ?_) (fun c152 => ?_)
              · have g139 := if_t g137 c138
                refine ss_assoc ?_
                obtain ⟨x140, h141, g142⟩ := bind_some g139
                refine ss_drop (ev_popAt (k := 0) h141 (ev_var rfl) (ea_cons (ev_var rfl) ea_nil) rfl rfl) ?_
                obtain ⟨x143, h144, g147⟩ := bind_some g142
                obtain ⟨l145, h146, g148⟩ := bind_some g147
                refine ss_iset (k := 1) (ev_joinL h144 ev_str (ev_var rfl) (ls_cell List.mem_cons_self)) (ev_var rfl) (ev_var rfl) rfl h146 ?_
                refine ss_end ?_
                refine ss_retS ?_
                obtain ⟨x149, h150, g151⟩ := bind_some g148
                cases g151
                exact ss_retVG (ev_joinL h150 ev_str (ev_var rfl) (ls_cell (List.mem_cons_of_mem _ List.mem_cons_self))) ((.cons _ (.cons _ (.cons₂ _ .slnil)))) rfl
              · have g153 := if_f g137 c152
                refine ss_if (et_test (ev_op (ev_var rfl) ev_int os_eq)) (fun c154 => ?_) (fun c171 => ?_)
                · have g155 := if_t g153 c154
                  obtain ⟨x156, h157, g164⟩ := bind_some g155
                  obtain ⟨x158, h159, g165⟩ := bind_some g164
                  obtain ⟨x160, h161, g166⟩ := bind_some g165
                  obtain ⟨l162, h163, g167⟩ := bind_some g166
                  refine ss_iset (k := 1) (ev_joinL h161 ev_str (ev_of (evn_eq (evn_op (ev_of (evn_slice (ev_var rfl) (ls_cell List.mem_cons_self) eo_none (eo_some ev_int))) (ev_of (evn_call1 (k := 2) (ea_cons (ev_var rfl) (ea_cons (ev_of (evn_slice (ev_var rfl) (ls_cell List.mem_cons_self) (eo_some ev_int) eo_none)) ea_nil)) rfl ⟨Str, inferInstance, p_spring, x24.2, (cutL x19 (some (1 : Int)) none), x156.1, x156.2, rfl, rfl, h157, rfl, rfl⟩)) (on_cat (ls_val) (ls_val) (catO_some h159).2)) (catO_some h159).1.symm)) (ls_val)) (ev_var rfl) (ev_var rfl) rfl h163 ?_
                  refine ss_end ?_
                  refine ss_retS ?_
                  obtain ⟨x168, h169, g170⟩ := bind_some g167
                  cases g170
                  exact ss_retVG (ev_joinL h169 ev_str (ev_var rfl) (ls_cell (List.mem_cons_of_mem _ List.mem_cons_self))) ((.cons _ (.cons _ (.cons₂ _ .slnil)))) rfl
                · have g172 := if_f g153 c171
                  refine ss_assoc ?_
                  obtain ⟨x173, h174, g179⟩ := bind_some g172
                  obtain ⟨x175, h176, g180⟩ := bind_some g179
                  obtain ⟨spot177, h178, g181⟩ := bind_some g180
                  refine ss_set (ev_eq (ev_call1 (k := 2) (ea_cons (ev_var rfl) (ea_cons (ev_op (ev_eq (ev_cb (ea_cons (ev_var rfl) ea_nil) (cs_lenS (lenS_some h174).2)) (lenS_some h174).1.symm) ev_int os_add) ea_nil)) rfl ⟨p_spring, x24.2, (x173 + (1 : Int)), x175.1, x175.2, rfl, rfl, h176, rfl, rfl⟩) (some_eq h178)) ?_
                  refine ss_retS ?_
                  obtain ⟨x182, h183, g194⟩ := bind_some g181
                  obtain ⟨x184, h185, g195⟩ := bind_some g194
                  obtain ⟨x186, h187, g196⟩ := bind_some g195
                  obtain ⟨x188, h189, g197⟩ := bind_some g196
                  obtain ⟨x190, h191, g198⟩ := bind_some g197
                  obtain ⟨x192, h193, g199⟩ := bind_some g198
                  cases g199
                  exact ss_retVG (ev_eq (ev_op (ev_eq (ev_op (ev_eq (ev_sliceS (cutSO_some h183).2 (ev_var rfl) eo_none (eo_some (ev_var rfl))) (cutSO_some h183).1.symm) (ev_call1 (k := 2) (ea_cons (ev_var rfl) (ea_cons (ev_of (evn_lst (xs := ([(Str.ofString ""), (Str.ofString "a"), (Str.ofString "0"), (Str.ofString " "), (Str.ofString "\n"), (Str.ofString "-")] : List Str)) (ea_cons ev_str (ea_cons ev_str (ea_cons ev_str (ea_cons ev_str (ea_cons ev_str (ea_cons ev_str ea_nil)))))) (szn (by show 6 ≤ 1000; decide)))) ea_nil)) rfl ⟨Str, inferInstance, p_spring, x175.2, ([(Str.ofString ""), (Str.ofString "a"), (Str.ofString "0"), (Str.ofString " "), (Str.ofString "\n"), (Str.ofString "-")] : List Str), x184.1, x184.2, rfl, rfl, h185, rfl, rfl⟩) (os_addS (catS_some h187).2)) (catS_some h187).1.symm) (ev_eq (ev_sliceS (cutSO_some h191).2 (ev_var rfl) (eo_some (ev_op (ev_var rfl) (ev_call1 (k := 2) (ea_cons (ev_var rfl) (ea_cons ev_int ea_nil)) rfl ⟨p_spring, x184.2, (2 : Int), x188.1, x188.2, rfl, rfl, h189, rfl, rfl⟩) os_add)) eo_none) (cutSO_some h191).1.symm) (os_addS (catS_some h193).2)) (catS_some h193).1.symm) ((.cons _ (.cons _ (.cons₂ _ .slnil)))) rfl
theorem w_law (A : Facts P K mg base) : FnOkG P w K mg base (8 + 1) A.f_law A.fd_law ["script"] (SpV (S_law A.P_law A.P__law_x_asked) K) := by
  refine A.F_law.okCG sc_law (len_v (fun args C r C' h => by obtain ⟨_, _, rfl, _⟩ := h; rfl)) (fun cdv AA outer s H vs Q E hcd0 hG hr h => ?_)
  have nd := sc_law.nd
  obtain rfl : cdv = .ref A.c_law := Option.some.inj (hcd0.symm.trans A.cd_law)
  have hr1 : Room 1 _ := hr.mono (by decide)
  have hr2 : Room 2 _ := hr.mono (by decide)
  have hr3 : Room 3 _ := hr.mono (by decide)
  have hr4 : Room 4 _ := hr.mono (by decide)
  have hr5 : Room 5 _ := hr.mono (by decide)
  have hr6 : Room 6 _ := hr.mono (by decide)
  have hr7 : Room 7 _ := hr.mono (by decide)
  have hr8 : Room 8 _ := hr.mono (by decide)
  refine ⟨_, (pss_cons (ps_for PassesOwn.never rfl (pi_range1 rfl A.n_range (pa_cons pe_int pa_nil)) (pg_name (i := 1) nd rfl (by first | exact .inl rfl | exact .inr rfl)) (pss_cons (ps_set (i := 2) nd rfl (by first | exact .inl rfl | exact .inr rfl) (pe_call (w__law_spring (P := P) (w := w) A) hr1 (by rfl) A.g__law_spring A.F__law_spring.kp A.b__law_spring .nil pass0 (pa_cons (pv 0) (pa_cons (pv 1) pa_nil))))
      (pss_cons (ps_par (i := 3) (j := 4) rfl nd rfl rfl (by decide) rfl rfl (pa_cons (pe_call (w__law_w_names (P := P) (w := w) A) hr4 (by rfl) A.g__law_w_names A.F__law_w_names.kp A.b__law_w_names .nil pass0 (pa_cons (pv 2) (pa_cons pe_int pa_nil))) (pa_cons (pe_lst pa_nil) pa_nil)) rfl)
      (pss_cons (ps_for PassesOwn.never rfl (pi_range1 rfl A.n_range (pa_cons (pe_call (w__law_pick (P := P) (w := w) A) hr2 (by rfl) A.g__law_pick A.F__law_pick.kp A.b__law_pick .nil pass0 (pa_cons (pv 2) (pa_cons (pe_lst (pa_cons pe_int (pa_cons pe_int (pa_cons pe_int (pa_cons pe_int pa_nil))))) pa_nil))) pa_nil)) (pg_name (i := 5) nd rfl (by first | exact .inl rfl | exact .inr rfl)) (pss_cons (ps_set (i := 6) nd rfl (by first | exact .inl rfl | exact .inr rfl) (pe_call (w__law_pick (P := P) (w := w) A) hr2 (by rfl) A.g__law_pick A.F__law_pick.kp A.b__law_pick .nil pass0 (pa_cons (pv 2) (pa_cons (pe_lst (pa_cons pe_str (pa_cons pe_str (pa_cons pe_str (pa_cons pe_str pa_nil))))) pa_nil))))
      (pss_one (ps_expr (pe_bm PySem.F.plainAttrs_list PySem.F.slot_list_append PySem.F.type_list_append mt_append (pv 4) (pa_cons (pe_tup (pa_cons (pv 6) (pa_cons (pe_ifExp (pt_cmpR op_eq (pv 6) pe_str (nomark _)) (pe_callTy (r := T.rTupOf K) call_tuple_of (by rfl) A.n_tuple (by decide +kernel) (pa_cons (pe_slice (r := rSlL K) sl_list (pe_call (w__law_mixed (P := P) (w := w) A) hr2 (by rfl) A.g__law_mixed A.F__law_mixed.kp A.b__law_mixed .nil pass0 (pa_cons (pv 2) (pa_cons (pv 3) pa_nil))) po_none (po_some pe_int)) pa_nil)) (pe_call (w__law_pick (P := P) (w := w) A) hr2 (by rfl) A.g__law_pick A.F__law_pick.kp A.b__law_pick .nil pass0 (pa_cons (pv 2) (pa_cons (pv 3) pa_nil)))) pa_nil))) pa_nil))))))
      (pss_cons (ps_set (i := 7) nd rfl (by first | exact .inl rfl | exact .inr rfl) (pe_m1 (r := rJoin1 K) PySem.F.slot_str_join PySem.F.type_str_join mt_join pe_str (pe_lc (own := [("step", 14)]) (g := gName 14) rfl nd (pi_list (pv 4) : PI _ _ _ (iList K _)) (blkOk_by (own := [("step", 14)]) (N := N_law) (sc := defScope s_law) (by decide +kernel)) (fun _ _ _ _ _ => pg_name (i := 14) nd rfl (by first | exact .inl rfl | exact .inr rfl)) (fun _ _ _ _ _ => pts_nil) (fun _ _ _ _ _ => (pe_op op_add_str (pe_m1 (r := rJoin1 K) PySem.F.slot_str_join PySem.F.type_str_join mt_join pe_str (pe_op op_catL (pe_lst (pa_cons (pe_alt (pe_ix (r := rIxL K) ix_list (pv 14) pe_int (fun _ _ => rfl)) (pe_ix (r := rIxT K) ix_tup (pv 14) pe_int (fun _ _ => rfl))) pa_nil)) (pe_ifExp (pt_cmpR op_eq (pe_alt (pe_ix (r := rIxL K) ix_list (pv 14) pe_int (fun _ _ => rfl)) (pe_ix (r := rIxT K) ix_tup (pv 14) pe_int (fun _ _ => rfl))) pe_str (nomark _)) (pe_callTy (r := T.rListOf K) call_list_of (by rfl) A.n_list (by decide +kernel) (pa_cons (pe_alt (pe_ix (r := rIxL K) ix_list (pv 14) pe_int (fun _ _ => rfl)) (pe_ix (r := rIxT K) ix_tup (pv 14) pe_int (fun _ _ => rfl))) pa_nil)) (pe_lst (pa_cons (pe_alt (pe_ix (r := rIxL K) ix_list (pv 14) pe_int (fun _ _ => rfl)) (pe_ix (r := rIxT K) ix_tup (pv 14) pe_int (fun _ _ => rfl))) pa_nil))))) pe_str)))))
      (pss_cons (ps_set (i := 8) nd rfl (by first | exact .inl rfl | exact .inr rfl) (pe_call (w__law_loose (P := P) (w := w) A 4) hr5 (by rfl) A.g__law_loose A.F__law_loose.kp A.b__law_loose .nil pass0 (pa_cons (pv 2) (pa_cons (pv 4) pa_nil))))
      (pss_cons (ps_set (i := 9) nd rfl (by first | exact .inl rfl | exact .inr rfl) (pe_callB (r := rRepr K) (call_reprD hG hr.units) (by rfl) A.n_repr (by decide +kernel) (pa_cons (pv 8) pa_nil)))
      (pss_cons (ps_if (PW.pt (pw_or (pt_not (pt_val (pe_call (w__law_same (P := P) (w := w) (base := base) A.zsame A.F__law_same A.b__law_same A.g__law_same 6) hr6 (by rfl) A.g__law_same A.F__law_same.kp A.b__law_same .nil pass0 (pa_cons (pe_lst (pa_cons (pe_callS (w_steps_text (P := P) (w := w) A) hr4 (by rfl) A.g_steps_text A.F_steps_text.kp A.b_steps_text (fun σ => passN σ) (pa_cons (pv 8) pa_nil)) (pa_cons (pe_callKw (w_steps_text (P := P) (w := w) A) hr4 (by rfl) A.g_steps_text A.F_steps_text.kp A.kw_steps_text (fun σ => passN σ) (pk_cons (pv 8) pk_nil)) pa_nil))) (pa_cons (pe_lst (pa_cons (pv 7) (pa_cons (pv 7) pa_nil))) pa_nil))))) (pw_or (pt_cmpR op_ne (pe_callB (r := rRepr K) (call_reprD hG hr.units) (by rfl) A.n_repr (by decide +kernel) (pa_cons (pv 8) pa_nil)) (pv 9) (nomark _)) (pw_or1 (pt_not (pt_val (pe_call (w__law_x_asked (P := P) (w := w) A) hr8 (by rfl) A.g__law_x_asked A.F__law_x_asked.kp A.b__law_x_asked .nil pass0 (pa_cons (pv 7) pa_nil)))))))) pss_no pss_nil)
      (pss_cons (ps_for PassesOwn.never rfl (pi_range1 rfl A.n_range (pa_cons pe_int pa_nil)) (pg_name (i := 5) nd rfl (by first | exact .inl rfl | exact .inr rfl)) (pss_one (ps_if (pt_not (pt_val (pe_call (w__law_x_asked (P := P) (w := w) A) hr8 (by rfl) A.g__law_x_asked A.F__law_x_asked.kp A.b__law_x_asked .nil pass0 (pa_cons (pe_call (w__law_x_bent (P := P) (w := w) A) hr3 (by rfl) A.g__law_x_bent A.F__law_x_bent.kp A.b__law_x_bent .nil pass0 (pa_cons (pv 2) (pa_cons (pv 7) pa_nil))) pa_nil)))) pss_no pss_nil)))
      (pss_cons (ps_set (i := 10) nd rfl (by first | exact .inl rfl | exact .inr rfl) (pe_slice (r := rSlL K) sl_list (pv 3) po_none (po_some pe_int)))
      (pss_cons (ps_set (i := 11) nd rfl (by first | exact .inl rfl | exact .inr rfl) (pe_lst (pa_cons pe_non (pa_cons pe_int (pa_cons pe_str (pa_cons pe_str (pa_cons (pe_dnewK) (pa_cons pe_bl (pa_cons (pe_lst (pa_cons pe_non pa_nil)) (pa_cons (pe_lst (pa_cons (pe_tup (pa_cons pe_str pa_nil)) pa_nil)) (pa_cons (pe_lst (pa_cons (pe_tup (pa_cons pe_str (pa_cons pe_str pa_nil))) pa_nil)) (pa_cons (pe_op op_rep (pe_lst (pa_cons (pe_tup (pa_cons pe_str (pa_cons pe_str pa_nil))) pa_nil)) pe_int) (pa_cons (pe_tup (pa_cons pe_str (pa_cons pe_str pa_nil))) (pa_cons (pe_lst (pa_cons (pe_tup (pa_cons pe_str (pa_cons (pe_slice (r := rSlL K) sl_list (pv 10) po_none (po_some pe_int)) pa_nil))) pa_nil)) pa_nil))))))))))))))
      (pss_cons (ps_for PassesOwn.never rfl (pi_list (pe_op op_catL (pv 11) (pe_lst (pa_cons (pe_lst (pa_cons (pe_tup (pa_cons pe_str (pa_cons (pe_op op_catL (pe_slice (r := rSlL K) sl_list (pv 10) po_none (po_some pe_int)) (pe_slice (r := rSlL K) sl_list (pv 10) po_none (po_some pe_int))) pa_nil))) pa_nil)) (pa_cons (pe_lst (pa_cons (pe_op op_catT (pe_tup (pa_cons pe_str pa_nil)) (pe_callTy (r := T.rTupOf K) call_tuple_of (by rfl) A.n_tuple (by decide +kernel) (pa_cons (pv 10) pa_nil))) pa_nil)) (pa_cons (pe_lst (pa_cons (pe_tup (pa_cons pe_str (pa_cons pe_str pa_nil))) (pa_cons (pe_lst (pa_cons pe_str pa_nil)) pa_nil))) pa_nil))))) : PI _ _ _ (iList K _)) (pg_name (i := 12) nd rfl (by first | exact .inl rfl | exact .inr rfl)) (pss_one (ps_if (pt_cmpR (r := rNeD K) (op_neD hr.units) (pe_met (k := 5) (q := "law.<locals>.<lambda>") A (by rfl) rfl A.TB_law rfl (by decide) hr7 (lamS_by (sc := defScope s_law) (by decide +kernel)) rfl (fun _ _ _ _ _ => rfl) (pv 12) (fun A' outer s H E f c' hq1 => by exact (pe_callS (w_steps_text (P := P) (w := w) A) (hq1.mono (by decide)) (by rfl) A.g_steps_text A.F_steps_text.kp A.b_steps_text (fun σ => L2N.passAt lam_takes σ) (pa_cons (pv 12) pa_nil)))) (pe_lst (pa_cons pe_str (pa_cons pe_bl pa_nil))) (nomark _)) pss_no pss_nil)))
      (pss_one (ps_for PassesOwn.never rfl (pi_list (pe_lst (pa_cons pe_non (pa_cons pe_int (pa_cons pe_bl (pa_cons (pe_lst (pa_cons (pv 7) pa_nil)) (pa_cons (pe_tup (pa_cons (pv 7) pa_nil)) (pa_cons (pe_dnewK) pa_nil))))))) : PI _ _ _ (iList K _)) (pg_name (i := 12) nd rfl (by first | exact .inl rfl | exact .inr rfl)) (pss_one (ps_if (pt_cmpR (r := rNeD K) (op_neD hr.units) (pe_met (k := 5) (q := "law.<locals>.<lambda>") A (by rfl) rfl A.TB_law rfl (by decide) hr7 (lamS_by (sc := defScope s_law) (by decide +kernel)) rfl (fun _ _ _ _ _ => rfl) (pv 12) (fun A' outer s H E f c' hq1 => by exact (pe_callS (w_read_steps (P := P) (w := w) A) (hq1.mono (by decide)) (by rfl) A.g_read_steps A.F_read_steps.kp A.b_read_steps (fun σ => L2N.passAt lam_takes σ) (pa_cons (pv 12) pa_nil)))) (pe_lst (pa_cons pe_str (pa_cons pe_bl (pa_cons pe_int pa_nil)))) (nomark _)) pss_no pss_nil))))))))))))))))
      (pss_cons (ps_set (i := 13) nd rfl (by first | exact .inl rfl | exact .inr rfl) (pe_op op_mulS pe_str pe_int))
      (pss_cons (ps_if (PW.pt (pw_or (pt_cmpR op_ne (pe_callB (r := T.rLen K) call_len_seq (by rfl) A.n_len (by decide +kernel) (pa_cons (pe_callS (w_read_steps (P := P) (w := w) A) hr4 (by rfl) A.g_read_steps A.F_read_steps.kp A.b_read_steps (fun σ => passN σ) (pa_cons (pv 13) pa_nil)) pa_nil)) pe_int (nomark _)) (pw_or1 (pt_cmpR (r := rNeD K) (op_neD hr.units) (pe_met (k := 5) (q := "law.<locals>.<lambda>") A (by rfl) rfl A.TB_law rfl (by decide) hr7 (lamS_by (sc := defScope s_law) (by decide +kernel)) rfl (fun _ _ _ _ _ => rfl) (pe_op op_add_str (pv 13) pe_str) (fun A' outer s H E f c' hq1 => by exact (pe_callS (w_read_steps (P := P) (w := w) A) (hq1.mono (by decide)) (by rfl) A.g_read_steps A.F_read_steps.kp A.b_read_steps (fun σ => L2N.passAt lam_takes σ) (pa_cons (pe_op op_add_str (pv 13) pe_str) pa_nil)))) (pe_lst (pa_cons pe_str (pa_cons pe_bl (pa_cons pe_int pa_nil)))) (nomark _))))) pss_no pss_nil)
      (pss_one (ps_ret (pe_call (w__law_same (P := P) (w := w) (base := base) A.zsame A.F__law_same A.b__law_same A.g__law_same 6) hr6 (by rfl) A.g__law_same A.F__law_same.kp A.b__law_same .nil pass0 (pa_cons (pe_lst (pa_cons (pe_callS (w_steps_text (P := P) (w := w) A) hr4 (by rfl) A.g_steps_text A.F_steps_text.kp A.b_steps_text (fun σ => passN σ) (pa_cons (pe_lst (pa_cons (pe_tup (pa_cons pe_str (pa_cons pe_str pa_nil))) (pa_cons (pe_lst (pa_cons pe_str (pa_cons (pe_lst (pa_cons pe_str (pa_cons pe_str (pa_cons pe_str (pa_cons pe_str (pa_cons pe_str (pa_cons pe_str (pa_cons pe_str (pa_cons pe_str pa_nil))))))))) pa_nil))) pa_nil))) pa_nil)) (pa_cons (pe_callS (w_read_steps (P := P) (w := w) A) hr4 (by rfl) A.g_read_steps A.F_read_steps.kp A.b_read_steps (fun σ => passN σ) (pa_cons pe_str pa_nil)) pa_nil))) (pa_cons (pe_lst (pa_cons pe_str (pa_cons (pe_lst pa_nil) pa_nil))) pa_nil)))))))), ?_⟩
  refine body_v h fun B args C r C' hK hP hS => ?_
  obtain ⟨v_script, res, rfl, rfl, g0, rfl, rfl⟩ := hS
  subst hK
  obtain ⟨r1, h2, g3⟩ := bind_some g0
  obtain ⟨s228, h229, g230⟩ := bind_some g3
  refine ss_forO (js := [1]) h229 (fun (s4 : Unit) => [some (tv (v_script : Sq)), none, none, none, none, none, none, none, none, none, none, none, none, none, none]) (fun (s4 : Unit) => [(A.P_law, Ct.tab "law.<locals>.<lambda>"), (A.P__law_x_asked, Ct.tab "_law_x_asked.<locals>.<lambda>")]) (ei_rngO1 (ea_cons ev_int ea_nil) h2) (.cons (.inr rfl) (.cons (.inl rfl) (.cons (.inl rfl) (.cons (.inl rfl) (.cons (.inl rfl) (.cons (.inl rfl) (.cons (.inl rfl) (.cons (.inl rfl) (.cons (.inl rfl) (.cons (.inl rfl) (.cons (.inl rfl) (.cons (.inl rfl) (.cons (.inl rfl) (.cons (.inl rfl) (.cons (.inl rfl) .nil))))))))))))))) rfl ?_ ?_
  · intro s4 a6 s5 h7 g8
    refine ⟨_, tg_name, ?_⟩
    obtain ⟨x10, h11, g12⟩ := bind_some g8
    refine ss_setN (evn_call (ea_cons (ev_var rfl) (ea_cons (ev_var rfl) ea_nil)) ⟨v_script, a6, _, rfl, rfl, h11, rfl, rfl⟩) fun p13 hp_p13 => ?_
    obtain ⟨x14, h15, g19⟩ := bind_some g12
    obtain ⟨v16, h17, g20⟩ := bind_some g19
    refine ss_parX (eax_cons (ev_eq (ev_of (evn_call1 (k := 0) (ea_cons (ev_var rfl) (ea_cons ev_int ea_nil)) rfl ⟨p13, x10, (24 : Int), x14.1, x14.2, rfl, rfl, h15, rfl, rfl⟩)) (some_eq h17)) (eax_consN (evn_lst (xs := ([] : List D)) ea_nil (szn (by show 0 ≤ 1000; decide))) fun p18 hp_p18 => eax_nil)) (fun _ _ _ hk226 => ?_) (fun _ _ hk226 => by obtain ⟨_, rfl, _, _, _, rfl, rfl, rfl⟩ := hk226; rfl)
    obtain ⟨_, e227, hk226⟩ := hk226
    cases e227
    obtain ⟨p18, _, hp_p18, e227, hk226⟩ := hk226
    cases e227
    obtain ⟨_, rfl⟩ := hk226
    obtain ⟨x21, h22, g25⟩ := bind_some g20
    obtain ⟨r23, h24, g26⟩ := bind_some g25
    obtain ⟨s55, h56, g57⟩ := bind_some g26
    refine ss_forO (js := [5]) h56 (fun (s27 : ((List Int) × (List D))) => [some (tv (v_script : Sq)), some (tv (a6 : Int)), some (tv (Ptr.mk p13)), some (tv (v16 : (List Str))), some (tv (Ptr.mk p18)), none, none, none, none, none, none, none, none, none, none]) (fun (s27 : ((List Int) × (List D))) => [(p18, Ct.lst (s27.2 : (List D))), (p13, Ct.lst (s27.1 : (List Int))), (A.P_law, Ct.tab "law.<locals>.<lambda>"), (A.P__law_x_asked, Ct.tab "_law_x_asked.<locals>.<lambda>")]) (ei_rngO1 (ea_cons (ev_call1 (k := 1) (ea_cons (ev_var rfl) (ea_cons (ev_of (evn_lst (xs := ([(0 : Int), (1 : Int), (4 : Int), (20 : Int)] : List Int)) (ea_cons ev_int (ea_cons ev_int (ea_cons ev_int (ea_cons ev_int ea_nil)))) (szn (by show 4 ≤ 1000; decide)))) ea_nil)) rfl ⟨Int, inferInstance, p13, x14.2, ([(0 : Int), (1 : Int), (4 : Int), (20 : Int)] : List Int), x21.1, x21.2, rfl, rfl, h22, rfl, rfl⟩) ea_nil) h24) (.cons (.inr rfl) (.cons (.inr rfl) (.cons (.inr rfl) (.cons (.inr rfl) (.cons (.inr rfl) (.cons (.inl rfl) (.cons (.inl rfl) (.cons (.inl rfl) (.cons (.inl rfl) (.cons (.inl rfl) (.cons (.inl rfl) (.cons (.inl rfl) (.cons (.inl rfl) (.cons (.inl rfl) (.cons (.inl rfl) .nil))))))))))))))) rfl ?_ ?_
    · intro s27 a29 s28 h30 g31
      refine ⟨_, tg_name, ?_⟩
      obtain ⟨x33, h34, g37⟩ := bind_some g31
      obtain ⟨word35, h36, g38⟩ := bind_some g37
      refine ss_set (ev_eq (ev_call1 (k := 1) (ea_cons (ev_var rfl) (ea_cons (ev_of (evn_lst (xs := ([(Str.ofString "turn"), (Str.ofString "put"), (Str.ofString "take"), (Str.ofString "eight")] : List Str)) (ea_cons ev_str (ea_cons ev_str (ea_cons ev_str (ea_cons ev_str ea_nil)))) (szn (by show 4 ≤ 1000; decide)))) ea_nil)) rfl ⟨Str, inferInstance, p13, s27.1, ([(Str.ofString "turn"), (Str.ofString "put"), (Str.ofString "take"), (Str.ofString "eight")] : List Str), x33.1, x33.2, rfl, rfl, h34, rfl, rfl⟩) (some_eq h36)) ?_
      refine ss_end ?_
      obtain ⟨r43, h44, g53⟩ := bind_some g38
      obtain ⟨x51, h52, g54⟩ := bind_some g53
      refine ss_drop (ev_appO (k := 0) (ev_var rfl) (ea_cons (ev_toD (ev_pair (ea_cons (ev_var rfl) (ea_cons (ev_if (x := tv (r43.1 : D)) (C2 := [(p18, Ct.lst (s27.2 : (List D))), (p13, Ct.lst (r43.2 : (List Int))), (A.P_law, Ct.tab "law.<locals>.<lambda>"), (A.P__law_x_asked, Ct.tab "_law_x_asked.<locals>.<lambda>")]) (et_test (ev_op (ev_var rfl) ev_str os_eq)) (fun c45 => by
        have g46 := if_t h44 c45
        obtain ⟨x39, h40, g47⟩ := bind_some g46
        cases g47
        exact (ev_toD (ev_tupleOf (ea_cons (ev_of (evn_slice (ev_of (evn_call1 (k := 1) (ea_cons (ev_var rfl) (ea_cons (ev_var rfl) ea_nil)) rfl ⟨Str, inferInstance, p13, x33.2, v16, x39.1, x39.2, rfl, rfl, h40, rfl, rfl⟩)) (ls_val) eo_none (eo_some ev_int))) ea_nil) (ls_val)))) (fun c48 => by
        have g49 := if_f h44 c48
        obtain ⟨x41, h42, g50⟩ := bind_some g49
        cases g50
        exact (ev_toD (ev_call1 (k := 1) (ea_cons (ev_var rfl) (ea_cons (ev_var rfl) ea_nil)) rfl ⟨Str, inferInstance, p13, x33.2, v16, x41.1, x41.2, rfl, rfl, h42, rfl, rfl⟩)))) ea_nil)))) ea_nil) rfl rfl h52) ?_
      cases g54
      exact ss_goal (.cons (.inr rfl) (.cons (.inr rfl) (.cons (.inr rfl) (.cons (.inr rfl) (.cons (.inr rfl) (.cons (.inl rfl) (.cons (.inl rfl) (.cons (.inl rfl) (.cons (.inl rfl) (.cons (.inl rfl) (.cons (.inl rfl) (.cons (.inl rfl) (.cons (.inl rfl) (.cons (.inl rfl) (.cons (.inl rfl) .nil))))))))))))))) (.cons₂ _ (.cons₂ _ (.cons₂ _ (.cons₂ _ .slnil))))
    · refine ss_frz (i := 4) (k := 0) rfl rfl hp_p18 ?_
      obtain ⟨l105, h106, g119⟩ := bind_some g57
      obtain ⟨x117, h118, g120⟩ := bind_some g119
      refine ss_set (ev_joinL h118 ev_str (ev_of (evn_lcL h106 (ei_list (ev_var rfl)) (js := [14]) (by decide) (fun a58 b99 _ h100 => ⟨_, tg_name, fun _ m59 => et_is et_yes (some_eq h100), fun _ y101 h102 _ m59 => by
          obtain ⟨x60, h61, g107⟩ := bind_some h102
          obtain ⟨x62, h63, g108⟩ := bind_some g107
          obtain ⟨x64, h65, g109⟩ := bind_some g108
          obtain ⟨x66, h67, g110⟩ := bind_some g109
          obtain ⟨x68, h69, g111⟩ := bind_some g110
          obtain ⟨x80, h81, g112⟩ := bind_some g111
          obtain ⟨x91, h92, g113⟩ := bind_some g112
          obtain ⟨x93, h94, g114⟩ := bind_some g113
          obtain ⟨x95, h96, g115⟩ := bind_some g114
          obtain ⟨x97, h98, g116⟩ := bind_some g115
          exact ev_eq (ev_eq (ev_op (ev_joinL h96 ev_str (ev_of (evn_strs (evn_eq (evn_op (ev_of (evn_lst (xs := ([x62] : List D)) (ea_cons (ev_ixD dyn_of h61 h63 (ev_var rfl) ev_int) ea_nil) (szn (by show 1 ≤ 1000; decide)))) (ev_if (et_test (ev_op (ev_str? dyn_of h69 (ev_ixD dyn_of h65 h67 (ev_var rfl) ev_int)) ev_str os_eq)) (fun c82 => by
        have g83 := if_t h81 c82
        obtain ⟨x70, h71, g84⟩ := bind_some g83
        obtain ⟨x72, h73, g85⟩ := bind_some g84
        obtain ⟨x74, h75, g86⟩ := bind_some g85
        exact ev_eq (ev_of (evn_cb (ea_cons (ev_ixD dyn_of h71 h73 (ev_var rfl) ev_int) ea_nil) (cn_listD2 dyn_of h75))) (some_eq g86)) (fun c87 => by
        have g88 := if_f h81 c87
        obtain ⟨x76, h77, g89⟩ := bind_some g88
        obtain ⟨x78, h79, g90⟩ := bind_some g89
        exact ev_eq (ev_of (evn_lst (xs := ([x78] : List D)) (ea_cons (ev_ixD dyn_of h77 h79 (ev_var rfl) ev_int) ea_nil) (szn (by show 1 ≤ 1000; decide)))) (some_eq g90))) (on_cat (ls_val) (ls_val) (catO_some h92).2)) (catO_some h92).1.symm) h94)) (ls_val)) ev_str (os_addS (catS_some h98).2)) (catS_some h98).1.symm) (some_eq g116)⟩))) (ls_val)) ?_
      obtain ⟨x121, h122, g125⟩ := bind_some g120
      obtain ⟨own123, h124, g126⟩ := bind_some g125
      refine ss_set (ev_eq (ev_call1 (k := 0) (ea_cons (ev_var rfl) (ea_cons (ev_var rfl) ea_nil)) rfl ⟨p13, s55.1, (tv (s55.2 : (List D))), (AsD.toD (s55.2 : (List D))), x121.1, x121.2, rfl, rfl, dyn_of, h122, rfl, rfl⟩) (some_eq h124)) ?_
      obtain ⟨x127, h128, g129⟩ := bind_some g126
      refine ss_set (ev_cb (ea_cons (ev_var rfl) ea_nil) (cs_repr dyn_of h128)) ?_
      obtain ⟨x130, h131, g149⟩ := bind_some g129
      obtain ⟨x132, h133, g150⟩ := bind_some g149
      obtain ⟨b134, h135, g151⟩ := bind_some g150
      obtain ⟨b144, h145, g152⟩ := bind_some g151
      obtain ⟨u153, h154, g155⟩ := bind_some g152
      refine ss_if (et_orO h145 (et_not (et_B (ev_eq (ev_callR (ea_cons (ev_of (evn_lst (xs := ([x130, x132] : List Str)) (ea_cons (ev_callVF (ea_cons (ev_var rfl) ea_nil) ⟨(tv (own123 : D)), own123, _, rfl, rfl, dyn_of, h131, rfl, rfl⟩) (ea_cons (ev_callVF (ea_cons (ev_var rfl) ea_nil) ⟨(tv (own123 : D)), own123, _, rfl, rfl, dyn_of, h133, rfl, rfl⟩) ea_nil)) (szn (by show 2 ≤ 1000; decide)))) (ea_cons (ev_of (evn_lst (xs := ([x117, x117] : List Str)) (ea_cons (ev_var rfl) (ea_cons (ev_var rfl) ea_nil)) (szn (by show 2 ≤ 1000; decide)))) ea_nil)) (.cons .val (.cons .val .nil)) ⟨_, _, (AsD.toD (([x130, x132] : List Str) : (List Str))), rfl, rfl, dyn_of, (sameO_some h135).2.1 ▸ dyn_of, (sameO_some h135).2.2.1, (sameO_some h135).2.2.2, rfl, rfl⟩) (sameO_some h135).1.symm))) fun _ g146 => by
        obtain ⟨x136, h137, g147⟩ := bind_some g146
        obtain ⟨b140, h141, g148⟩ := bind_some g147
        exact et_is (et_orO h141 (et_test (ev_op (ev_cb (ea_cons (ev_var rfl) ea_nil) (cs_repr dyn_of h137)) (ev_var rfl) os_ne)) fun _ g142 => by
        obtain ⟨x138, h139, g143⟩ := bind_some g142
        exact et_is (et_not (et_B (ev_call1 (k := 2) (ea_cons (ev_var rfl) ea_nil) rfl ⟨x117, _, rfl, rfl, h139, rfl, rfl⟩))) (some_eq g143)) (some_eq g148)) (fun c => (nchk h154 c).elim) fun _ => ?_
      refine ss_skip ?_
      obtain ⟨r156, h157, g158⟩ := bind_some g155
      obtain ⟨s174, h175, g176⟩ := bind_some g158
      refine ss_forO (js := [5]) h175 (fun (s159 : (List Int)) => [some (tv (v_script : Sq)), some (tv (a6 : Int)), some (tv (Ptr.mk p13)), some (tv (v16 : (List Str))), some (tv (s55.2 : (List D))), none, none, some (tv (x117 : Str)), some (tv (own123 : D)), some (tv (x127 : Str)), none, none, none, none, none]) (fun (s159 : (List Int)) => [(p13, Ct.lst (s159 : (List Int))), (A.P_law, Ct.tab "law.<locals>.<lambda>"), (A.P__law_x_asked, Ct.tab "_law_x_asked.<locals>.<lambda>")]) (ei_rngO1 (ea_cons ev_int ea_nil) h157) (.cons (.inr rfl) (.cons (.inr rfl) (.cons (.inr rfl) (.cons (.inr rfl) (.cons (.inr rfl) (.cons (.inl rfl) (.cons (.inl rfl) (.cons (.inr rfl) (.cons (.inr rfl) (.cons (.inr rfl) (.cons (.inl rfl) (.cons (.inl rfl) (.cons (.inl rfl) (.cons (.inl rfl) (.cons (.inl rfl) .nil))))))))))))))) rfl ?_ ?_
      · intro s159 a161 s160 h162 g163
        refine ⟨_, tg_name, ?_⟩
        refine ss_end ?_
        obtain ⟨x165, h166, g169⟩ := bind_some g163
        obtain ⟨x167, h168, g170⟩ := bind_some g169
        obtain ⟨u171, h172, g173⟩ := bind_some g170
        refine ss_if (et_not (et_B (ev_call1 (k := 2) (ea_cons (ev_call1 (k := 0) (ea_cons (ev_var rfl) (ea_cons (ev_var rfl) ea_nil)) rfl ⟨p13, s159, x117, x165.1, x165.2, rfl, rfl, h166, rfl, rfl⟩) ea_nil) rfl ⟨x165.1, _, rfl, rfl, h168, rfl, rfl⟩))) (fun c => (nchk h172 c).elim) fun _ => ?_
        refine ss_skip ?_
        cases g173
        exact ss_goal (.cons (.inr rfl) (.cons (.inr rfl) (.cons (.inr rfl) (.cons (.inr rfl) (.cons (.inr rfl) (.cons (.inl rfl) (.cons (.inl rfl) (.cons (.inr rfl) (.cons (.inr rfl) (.cons (.inr rfl) (.cons (.inl rfl) (.cons (.inl rfl) (.cons (.inl rfl) (.cons (.inl rfl) (.cons (.inl rfl) .nil))))))))))))))) (.cons₂ _ (.cons₂ _ (.cons₂ _ .slnil)))
      · obtain ⟨eight177, h178, g179⟩ := bind_some g176
        refine ss_set (ev_eq (ev_of (evn_slice (ev_var rfl) (ls_val) eo_none (eo_some ev_int))) (some_eq h178)) ?_
        obtain ⟨x180, h181, g184⟩ := bind_some g179
        obtain ⟨bad182, h183, g185⟩ := bind_some g184
        refine ss_set (ev_eq (ev_of (evn_lst (xs := ([(AsD.toD (() : Unit)), (AsD.toD ((0 : Int) : Int)), (AsD.toD ((Str.ofString "") : Str)), (AsD.toD ((Str.ofString "ab") : Str)), (D.dct []), (AsD.toD (true : Bool)), (AsD.toD (([()] : List Unit) : (List Unit))), (AsD.toD (([(Tp.mk ([(Str.ofString "turn")] : List Str))] : List (Tp Str)) : (List (Tp Str)))), (AsD.toD (([((Str.ofString "put"), (Str.ofString "A"))] : List (Str × Str)) : (List (Str × Str)))), (AsD.toD (x180 : (List (Str × Str)))), (AsD.toD (((Str.ofString "turn"), (Str.ofString "a")) : (Str × Str))), (AsD.toD (([((Str.ofString "eight"), (cutL eight177 none (some (7 : Int))))] : List (Str × (List Str))) : (List (Str × (List Str)))))] : List D)) (ea_cons (ev_toD ev_non) (ea_cons (ev_toD ev_int) (ea_cons (ev_toD ev_str) (ea_cons (ev_toD ev_str) (ea_cons (ev_dnil (evn_newK (κ := Str) (α := Int))) (ea_cons (ev_toD ev_bl) (ea_cons (ev_toD (ev_of (evn_lst (xs := ([()] : List Unit)) (ea_cons ev_non ea_nil) (szn (by show 1 ≤ 1000; decide))))) (ea_cons (ev_toD (ev_of (evn_lst (xs := ([(Tp.mk ([(Str.ofString "turn")] : List Str))] : List (Tp Str))) (ea_cons (ev_tps (xs := ([(Str.ofString "turn")] : List Str)) (ea_cons ev_str ea_nil) (szn (by show 1 ≤ 1000; decide))) ea_nil) (szn (by show 1 ≤ 1000; decide))))) (ea_cons (ev_toD (ev_of (evn_lst (xs := ([((Str.ofString "put"), (Str.ofString "A"))] : List (Str × Str))) (ea_cons (ev_pair (ea_cons ev_str (ea_cons ev_str ea_nil))) ea_nil) (szn (by show 1 ≤ 1000; decide))))) (ea_cons (ev_toD (ev_of (evn_op (ev_of (evn_lst (xs := ([((Str.ofString "take"), (Str.ofString "a"))] : List (Str × Str))) (ea_cons (ev_pair (ea_cons ev_str (ea_cons ev_str ea_nil))) ea_nil) (szn (by show 1 ≤ 1000; decide)))) ev_int (on_rep h181)))) (ea_cons (ev_toD (ev_pair (ea_cons ev_str (ea_cons ev_str ea_nil)))) (ea_cons (ev_toD (ev_of (evn_lst (xs := ([((Str.ofString "eight"), (cutL eight177 none (some (7 : Int))))] : List (Str × (List Str)))) (ea_cons (ev_pair (ea_cons ev_str (ea_cons (ev_of (evn_slice (ev_var rfl) (ls_val) eo_none (eo_some ev_int))) ea_nil))) ea_nil) (szn (by show 1 ≤ 1000; decide))))) ea_nil)))))))))))) (szn (by show 12 ≤ 1000; decide)))) (some_eq h183)) ?_
        obtain ⟨x186, h187, g192⟩ := bind_some g185
        obtain ⟨x188, h189, g193⟩ := bind_some g192
        obtain ⟨x190, h191, g194⟩ := bind_some g193
        obtain ⟨s208, h209, g210⟩ := bind_some g194
        refine ss_forO (js := [12]) h209 (fun (s195 : Unit) => [some (tv (v_script : Sq)), some (tv (a6 : Int)), some (tv (Ptr.mk p13)), some (tv (v16 : (List Str))), some (tv (s55.2 : (List D))), none, none, some (tv (x117 : Str)), some (tv (own123 : D)), some (tv (x127 : Str)), some (tv (eight177 : (List Str))), some (tv (bad182 : (List D))), none, none, none]) (fun (s195 : Unit) => [(p13, Ct.lst (s174 : (List Int))), (A.P_law, Ct.tab "law.<locals>.<lambda>"), (A.P__law_x_asked, Ct.tab "_law_x_asked.<locals>.<lambda>")]) (ei_list (ev_of (evn_eq (evn_op (ev_var rfl) (ev_of (evn_lst (xs := ([(AsD.toD (([((Str.ofString "eight"), x186)] : List (Str × (List Str))) : (List (Str × (List Str))))), (AsD.toD (([(Tp.mk x188)] : List (Tp Str)) : (List (Tp Str)))), (AsD.toD (([(AsD.toD (((Str.ofString "turn"), (Str.ofString "a")) : (Str × Str))), (AsD.toD (([(Str.ofString "turn")] : List Str) : (List Str)))] : List D) : (List D)))] : List D)) (ea_cons (ev_toD (ev_of (evn_lst (xs := ([((Str.ofString "eight"), x186)] : List (Str × (List Str)))) (ea_cons (ev_pair (ea_cons ev_str (ea_cons (ev_of (evn_eq (evn_op (ev_of (evn_slice (ev_var rfl) (ls_val) eo_none (eo_some ev_int))) (ev_of (evn_slice (ev_var rfl) (ls_val) eo_none (eo_some ev_int))) (on_cat (ls_val) (ls_val) (catO_some h187).2)) (catO_some h187).1.symm)) ea_nil))) ea_nil) (szn (by show 1 ≤ 1000; decide))))) (ea_cons (ev_toD (ev_of (evn_lst (xs := ([(Tp.mk x188)] : List (Tp Str))) (ea_cons (ev_catT h189 (ev_tps (xs := ([(Str.ofString "eight")] : List Str)) (ea_cons ev_str ea_nil) (szn (by show 1 ≤ 1000; decide))) (ev_tupleOf (ea_cons (ev_var rfl) ea_nil) (ls_val))) ea_nil) (szn (by show 1 ≤ 1000; decide))))) (ea_cons (ev_toD (ev_of (evn_lst (xs := ([(AsD.toD (((Str.ofString "turn"), (Str.ofString "a")) : (Str × Str))), (AsD.toD (([(Str.ofString "turn")] : List Str) : (List Str)))] : List D)) (ea_cons (ev_toD (ev_pair (ea_cons ev_str (ea_cons ev_str ea_nil)))) (ea_cons (ev_toD (ev_of (evn_lst (xs := ([(Str.ofString "turn")] : List Str)) (ea_cons ev_str ea_nil) (szn (by show 1 ≤ 1000; decide))))) ea_nil)) (szn (by show 2 ≤ 1000; decide))))) ea_nil))) (szn (by show 3 ≤ 1000; decide)))) (on_cat (ls_val) (ls_val) (catO_some h191).2)) (catO_some h191).1.symm))) (.cons (.inr rfl) (.cons (.inr rfl) (.cons (.inr rfl) (.cons (.inr rfl) (.cons (.inr rfl) (.cons (.inl rfl) (.cons (.inl rfl) (.cons (.inr rfl) (.cons (.inr rfl) (.cons (.inr rfl) (.cons (.inr rfl) (.cons (.inr rfl) (.cons (.inl rfl) (.cons (.inl rfl) (.cons (.inl rfl) .nil))))))))))))))) rfl ?_ ?_
        · intro s195 a197 s196 h198 g199
          refine ⟨_, tg_name, ?_⟩
          refine ss_end ?_
          refine ss_vid (i := 12) rfl fun vd201 => ?_
          obtain ⟨b202, h203, g204⟩ := bind_some g199
          obtain ⟨u205, h206, g207⟩ := bind_some g204
          refine ss_if (et_test (ev_eq (ev_op (ev_of (evn_metS A rfl (k := 1) rfl (ev_var rfl) (v := Vid.mk _ _) (metS_some h203).2.2 (fun B' hK => evf_callVK hK (ea_cons (ev_var rfl) ea_nil) ⟨(tv (Vid.mk vd201 a197)), a197, 0, rfl, rfl, dyn_vid, (metS_some h203).1, rfl, rfl⟩))) (ev_of (evn_lst (xs := [D.str "steps", D.bl true]) (ea_cons (ev_toD ev_str) (ea_cons (ev_toD ev_bl) ea_nil)) (szn (by show 2 ≤ 1000; decide)))) (os_neF flt_steps)) (by rw [(metS_some h203).2.1]; rfl))) (fun c => (nchk h206 c).elim) fun _ => ?_
          refine ss_skip ?_
          cases g207
          exact ss_goal (.cons (.inr rfl) (.cons (.inr rfl) (.cons (.inr rfl) (.cons (.inr rfl) (.cons (.inr rfl) (.cons (.inl rfl) (.cons (.inl rfl) (.cons (.inr rfl) (.cons (.inr rfl) (.cons (.inr rfl) (.cons (.inr rfl) (.cons (.inr rfl) (.cons (.inl rfl) (.cons (.inl rfl) (.cons (.inl rfl) .nil))))))))))))))) (.cons₂ _ (.cons₂ _ (.cons₂ _ .slnil)))
        · refine ss_end ?_
          obtain ⟨s223, h224, g225⟩ := bind_some g210
          refine ss_forO (js := [12]) h224 (fun (s211 : Unit) => [some (tv (v_script : Sq)), some (tv (a6 : Int)), some (tv (Ptr.mk p13)), some (tv (v16 : (List Str))), some (tv (s55.2 : (List D))), none, none, some (tv (x117 : Str)), some (tv (own123 : D)), some (tv (x127 : Str)), some (tv (eight177 : (List Str))), some (tv (bad182 : (List D))), none, none, none]) (fun (s211 : Unit) => [(p13, Ct.lst (s174 : (List Int))), (A.P_law, Ct.tab "law.<locals>.<lambda>"), (A.P__law_x_asked, Ct.tab "_law_x_asked.<locals>.<lambda>")]) (ei_list (ev_of (evn_lst (xs := ([(AsD.toD (() : Unit)), (AsD.toD ((0 : Int) : Int)), (AsD.toD (true : Bool)), (AsD.toD (([x117] : List Str) : (List Str))), (AsD.toD ((Tp.mk ([x117] : List Str)) : (Tp Str))), (D.dct [])] : List D)) (ea_cons (ev_toD ev_non) (ea_cons (ev_toD ev_int) (ea_cons (ev_toD ev_bl) (ea_cons (ev_toD (ev_of (evn_lst (xs := ([x117] : List Str)) (ea_cons (ev_var rfl) ea_nil) (szn (by show 1 ≤ 1000; decide))))) (ea_cons (ev_toD (ev_tps (xs := ([x117] : List Str)) (ea_cons (ev_var rfl) ea_nil) (szn (by show 1 ≤ 1000; decide)))) (ea_cons (ev_dnil (evn_newK (κ := Str) (α := Int))) ea_nil)))))) (szn (by show 6 ≤ 1000; decide))))) (.cons (.inr rfl) (.cons (.inr rfl) (.cons (.inr rfl) (.cons (.inr rfl) (.cons (.inr rfl) (.cons (.inl rfl) (.cons (.inl rfl) (.cons (.inr rfl) (.cons (.inr rfl) (.cons (.inr rfl) (.cons (.inr rfl) (.cons (.inr rfl) (.cons (.inl rfl) (.cons (.inl rfl) (.cons (.inl rfl) .nil))))))))))))))) rfl ?_ ?_
          · intro s211 a213 s212 h214 g215
            refine ⟨_, tg_name, ?_⟩
            refine ss_end ?_
            obtain ⟨b217, h218, g219⟩ := bind_some g215
            obtain ⟨u220, h221, g222⟩ := bind_some g219
            refine ss_if (et_test (ev_eq (ev_op (ev_of (evn_metT A rfl (k := 1) rfl (ev_var rfl) dyn_of dyn_of (metT_some h218).2.2 (fun B' hK => evf_callNK hK (ea_cons (ev_var rfl) ea_nil) ⟨(tv (a213 : D)), a213, (0 : Int), rfl, rfl, dyn_of, (metT_some h218).1, rfl, rfl⟩))) (ev_of (evn_lst (xs := [D.str "text", D.bl true, D.int (0 : Int)]) (ea_cons (ev_toD ev_str) (ea_cons (ev_toD ev_bl) (ea_cons (ev_toD ev_int) ea_nil))) (szn (by show 3 ≤ 1000; decide)))) (os_neF flt_text)) (by rw [(metT_some h218).2.1]; rfl))) (fun c => (nchk h221 c).elim) fun _ => ?_
            refine ss_skip ?_
            cases g222
            exact ss_goal (.cons (.inr rfl) (.cons (.inr rfl) (.cons (.inr rfl) (.cons (.inr rfl) (.cons (.inr rfl) (.cons (.inl rfl) (.cons (.inl rfl) (.cons (.inr rfl) (.cons (.inr rfl) (.cons (.inr rfl) (.cons (.inr rfl) (.cons (.inr rfl) (.cons (.inl rfl) (.cons (.inl rfl) (.cons (.inl rfl) .nil))))))))))))))) (.cons₂ _ (.cons₂ _ (.cons₂ _ .slnil)))
          · cases g225
            exact ss_goal (.cons (.inr rfl) (.cons (.inl rfl) (.cons (.inl rfl) (.cons (.inl rfl) (.cons (.inl rfl) (.cons (.inl rfl) (.cons (.inl rfl) (.cons (.inl rfl) (.cons (.inl rfl) (.cons (.inl rfl) (.cons (.inl rfl) (.cons (.inl rfl) (.cons (.inl rfl) (.cons (.inl rfl) (.cons (.inl rfl) .nil))))))))))))))) (.cons _ (.cons₂ _ (.cons₂ _ .slnil)))
  · obtain ⟨x231, h232, g233⟩ := bind_some g230
    refine ss_set (ev_op ev_str ev_int (os_mulS h232)) ?_
    obtain ⟨x234, h235, g245⟩ := bind_some g233
    obtain ⟨b240, h241, g246⟩ := bind_some g245
    obtain ⟨u247, h248, g249⟩ := bind_some g246
    refine ss_if (et_orO h241 (et_test (ev_op (ev_cb (ea_cons (ev_of (evn_callNY (ea_cons (ev_var rfl) ea_nil) ⟨(tv (x231 : Str)), (AsD.toD (x231 : Str)), _, rfl, rfl, dyn_of, h235, rfl, rfl⟩)) ea_nil) (cs_len (ls_val))) ev_int os_ne)) fun _ g242 => by
        obtain ⟨x236, h237, g243⟩ := bind_some g242
        obtain ⟨b238, h239, g244⟩ := bind_some g243
        exact et_is (et_test (ev_eq (ev_op (ev_of (evn_metT A rfl (k := 0) rfl (ev_eq (ev_op (ev_var rfl) ev_str (os_addS (catS_some h237).2)) (catS_some h237).1.symm) dyn_of dyn_of (metT_some h239).2.2 (fun B' hK => evf_callNK hK (ea_cons (ev_eq (ev_op (ev_var rfl) ev_str (os_addS (catS_some h237).2)) (catS_some h237).1.symm) ea_nil) ⟨(tv (x236 : Str)), (AsD.toD (x236 : Str)), (300 : Int), rfl, rfl, dyn_of, (metT_some h239).1, rfl, rfl⟩))) (ev_of (evn_lst (xs := [D.str "text", D.bl true, D.int (300 : Int)]) (ea_cons (ev_toD ev_str) (ea_cons (ev_toD ev_bl) (ea_cons (ev_toD ev_int) ea_nil))) (szn (by show 3 ≤ 1000; decide)))) (os_neF flt_text)) (by rw [(metT_some h239).2.1]; rfl))) (some_eq g244)) (fun c => (nchk h248 c).elim) fun _ => ?_
    refine ss_skip ?_
    refine ss_end ?_
    refine ss_retS ?_
    obtain ⟨x250, h251, g256⟩ := bind_some g249
    obtain ⟨x252, h253, g257⟩ := bind_some g256
    obtain ⟨b254, h255, g258⟩ := bind_some g257
    cases g258
    exact ss_retVG (ev_eq (ev_callR (ea_cons (ev_of (evn_lst (xs := ([(AsD.toD (x250 : Str)), (AsD.toD (x252 : (List D)))] : List D)) (ea_cons (ev_toD (ev_callVF (ea_cons (ev_of (evn_lst (xs := ([(AsD.toD (((Str.ofString "take"), (Str.ofString "x")) : (Str × Str))), (AsD.toD (([(AsD.toD ((Str.ofString "eight") : Str)), (AsD.toD (([(Str.ofString "h"), (Str.ofString "b"), (Str.ofString "c"), (Str.ofString "d"), (Str.ofString "e"), (Str.ofString "f"), (Str.ofString "g"), (Str.ofString "a")] : List Str) : (List Str)))] : List D) : (List D)))] : List D)) (ea_cons (ev_toD (ev_pair (ea_cons ev_str (ea_cons ev_str ea_nil)))) (ea_cons (ev_toD (ev_of (evn_lst (xs := ([(AsD.toD ((Str.ofString "eight") : Str)), (AsD.toD (([(Str.ofString "h"), (Str.ofString "b"), (Str.ofString "c"), (Str.ofString "d"), (Str.ofString "e"), (Str.ofString "f"), (Str.ofString "g"), (Str.ofString "a")] : List Str) : (List Str)))] : List D)) (ea_cons (ev_toD ev_str) (ea_cons (ev_toD (ev_of (evn_lst (xs := ([(Str.ofString "h"), (Str.ofString "b"), (Str.ofString "c"), (Str.ofString "d"), (Str.ofString "e"), (Str.ofString "f"), (Str.ofString "g"), (Str.ofString "a")] : List Str)) (ea_cons ev_str (ea_cons ev_str (ea_cons ev_str (ea_cons ev_str (ea_cons ev_str (ea_cons ev_str (ea_cons ev_str (ea_cons ev_str ea_nil)))))))) (szn (by show 8 ≤ 1000; decide))))) ea_nil)) (szn (by show 2 ≤ 1000; decide))))) ea_nil)) (szn (by show 2 ≤ 1000; decide)))) ea_nil) ⟨(tv (([(AsD.toD (((Str.ofString "take"), (Str.ofString "x")) : (Str × Str))), (AsD.toD (([(AsD.toD ((Str.ofString "eight") : Str)), (AsD.toD (([(Str.ofString "h"), (Str.ofString "b"), (Str.ofString "c"), (Str.ofString "d"), (Str.ofString "e"), (Str.ofString "f"), (Str.ofString "g"), (Str.ofString "a")] : List Str) : (List Str)))] : List D) : (List D)))] : List D) : (List D))), (AsD.toD (([(AsD.toD (((Str.ofString "take"), (Str.ofString "x")) : (Str × Str))), (AsD.toD (([(AsD.toD ((Str.ofString "eight") : Str)), (AsD.toD (([(Str.ofString "h"), (Str.ofString "b"), (Str.ofString "c"), (Str.ofString "d"), (Str.ofString "e"), (Str.ofString "f"), (Str.ofString "g"), (Str.ofString "a")] : List Str) : (List Str)))] : List D) : (List D)))] : List D) : (List D))), _, rfl, rfl, dyn_of, h251, rfl, rfl⟩)) (ea_cons (ev_toD (ev_of (evn_callNY (ea_cons ev_str ea_nil) ⟨(tv ((Str.ofString "") : Str)), (AsD.toD ((Str.ofString "") : Str)), _, rfl, rfl, dyn_of, h253, rfl, rfl⟩))) ea_nil)) (szn (by show 2 ≤ 1000; decide)))) (ea_cons (ev_of (evn_lst (xs := ([(AsD.toD ((Str.ofString "take x\neight h b c d e f g a\n") : Str)), (AsD.toD (([] : List Str) : (List Str)))] : List D)) (ea_cons (ev_toD ev_str) (ea_cons (ev_toD (ev_of (evn_lst (xs := ([] : List Str)) ea_nil (szn (by show 0 ≤ 1000; decide))))) ea_nil)) (szn (by show 2 ≤ 1000; decide)))) ea_nil)) (.cons .val (.cons .val .nil)) ⟨_, _, (AsD.toD (([(AsD.toD (x250 : Str)), (AsD.toD (x252 : (List D)))] : List D) : (List D))), rfl, rfl, dyn_of, (sameO_some h255).2.1 ▸ dyn_of, (sameO_some h255).2.2.1, (sameO_some h255).2.2.2, rfl, rfl⟩) (sameO_some h255).1.symm) ((.cons₂ _ (.cons₂ _ .slnil))) rfl
end K59
set_option Elab.async false
set_option linter.all false
set_option maxRecDepth 100000
set_option maxHeartbeats 2000000
namespace LamG
open PySem PySem.Spec PyProof.Rows L2 LamX
theorem law_callG {PP : Program} {ww : World} {KK : PySem.W.Frag} {mG mB : Str → Option Value} {kN : Nat} {fAt aS : Addr} {tabs : List (Addr × Addr)} {fDat : FuncData} {xN : Str} {spc : Sp} {sA : Shared} {items : List Value} {nums : List Int}
    (inK : KK.In sA.heap) (nsM : sA.heap.Ns mainGlobals mG) (nsB : sA.heap.Ns builtinsNs mB) (nsB2 : ∀ xN : Str, xN ≠ "__name__" → mB xN = bootBuiltins xN) (lim0 : sA.heap.NoLimit) (noG : sA.gens = #[])
    (tabE : ∀ pr ∈ tabs, sA.heap.get? pr.2 = some { cls := .none, data := .fields #[] }) (tabN : ∀ pr ∈ tabs, KK.lookup pr.2 = none) (C : ∀ pr ∈ tabs, PySem.W.CodeHd sA.heap pr.1 pr.2)
    (bMod : ∃ (bMo : Addr) (obB : Obj), mG "__builtins__" = some (.ref bMo) ∧ bMo ≠ builtinsNs ∧ sA.heap.get? bMo = some obB ∧ obB.cls = .type "module" ∧ obB.dict = some builtinsNs ∧ obB.data = .plain)
    (isA : sA.heap.get? aS = some { cls := .type "list", data := .seq items.toArray }) (intA : IntsAre items nums) (lenA : nums.length ≤ sizeLine) (roomA : Room kN callerA)
    (okF : ∀ base : Heap, KK.In base → base.Ns mainGlobals mG → (∀ pr ∈ tabs, TabB base mG pr.1 pr.2) → L2.FnOkG PP ww KK mG base kN fAt fDat [xN] spc) (bindF : ∀ (s : Shared) (u : Value), BindsTo s fDat ⟨[u], []⟩ [(xN, u)])
    (spF : ∀ HH : Hp, (∀ pr ∈ tabs, HH pr.2 = some (.tbl #[])) → SqL KK HH aS (nums.map V.int) → spc [.ref aS] HH (fun v _ => v = .bl true) fun _ _ _ => False) :
    codeAny (model PP ww) callerA (.call (.ref fAt) ⟨[.ref aS], []⟩) (fun r s' => r = .ok (.ret (.bool true)) ∧ OldK sA.heap s'.heap ∧ s'.os = sA.os ∧ AllBare s'.gens) sA := by
  have valA := vals_ints intA
  have sizeA := intA.length
  have tabAt : ∀ ad : Addr, ad ∈ tabs.map (·.2) → sA.heap.get? ad = some { cls := .none, data := .fields #[] } := fun ad nsB => by
    obtain ⟨pr, pIn, eq⟩ := List.mem_map.mp nsB
    rw [← eq]
    exact tabE pr pIn
  have aOut : aS ∉ tabs.map (·.2) := fun zz => by
    have qq := tabAt aS zz
    rw [isA] at qq
    have z' : Data.seq items.toArray _ = Data.fields #[] := congrArg Obj.data (Option.some.inj qq)
    cases z'
  have tabMem : ∀ pr ∈ tabs, pr.2 ∈ tabs.map (·.2) := fun pr pIn => List.mem_map.mpr ⟨pr, pIn, rfl⟩
  have main : ∀ HH : Hp, (∀ pr ∈ tabs, HH pr.2 = some (.tbl #[])) → (∀ ad, HH ad = none ∨ ad ∈ tabs.map (·.2) ∨ ∃ ob1 xs, HH ad = some (.frz ob1 (.lst xs))) → SqL KK HH aS (nums.map V.int) → HOk PP ww HH sA.heap → (∀ ad, HH ad ≠ none → ad = aS ∨ ad ∈ tabs.map (·.2)) → (HH aS ≠ none → KK.lookup aS = none) →
      codeAny (model PP ww) callerA (.call (.ref fAt) ⟨[.ref aS], []⟩) (fun r s' => r = .ok (.ret (.bool true)) ∧ OldK sA.heap s'.heap ∧ s'.os = sA.os ∧ AllBare s'.gens) sA := by
    intro HH tH onlyH seqH okH whichH freeK
    have baseAt : ∀ {ad : Addr} {ob1 : Obj}, sA.heap.get? ad = some ob1 → HH ad = none → (hidT sA.heap HH).get? ad = some ob1 := fun eq n => hidT_get eq n
    have noSeq : ∀ {ad : Addr} {ob1 : Obj}, sA.heap.get? ad = some ob1 → (∀ items n, ob1.data ≠ .seq items n) → ob1.data ≠ .fields #[] → HH ad = none := fun {ad ob1} eq h1 h2 => by
      cases qq : HH ad with
      | none => rfl
      | some u =>
        rcases whichH ad (by rw [qq]; simp) with e' | e'
        · rw [e', isA] at eq
          cases eq
          exact (h1 _ _ rfl).elim
        · rw [tabAt ad e'] at eq
          cases eq
          exact (h2 rfl).elim
    have noDict : ∀ {ad : Addr} {ob1 : Obj} {entS : Array DictEntry} {entP : Nat}, sA.heap.get? ad = some ob1 → ob1.data = .dict entS entP → HH ad = none := fun {ad ob1 entS entP} eq d => by
      refine noSeq eq (fun items n zz => ?_) fun zz => ?_
      · rw [d] at zz
        cases zz
      · rw [d] at zz
        cases zz
    have nsBase : ∀ {ad : Addr} {m : Str → Option Value}, sA.heap.Ns ad m → (hidT sA.heap HH).Ns ad m := fun {ad m} ⟨ob1, entS, entP, eq, d, r⟩ => ⟨ob1, entS, entP, baseAt eq (noDict eq d), d, r⟩
    have inBase : KK.In (hidT sA.heap HH) := fun ad ob1 eq => baseAt (inK ad ob1 eq) (by
      cases qq : HH ad with
      | none => rfl
      | some u =>
        rcases whichH ad (by rw [qq]; simp) with e' | e'
        · rw [e'] at eq qq
          rw [freeK (by rw [qq]; simp)] at eq
          cases eq
        · obtain ⟨pr, pIn, entP⟩ := List.mem_map.mp e'
          rw [← entP, tabN pr pIn] at eq
          cases eq)
    have modB : L2.Mod KK mG (hidT sA.heap HH) := ⟨inBase, nsBase nsM, ⟨mB, nsBase nsB, nsB2⟩, let ⟨mc, h1, h2⟩ := lim0; ⟨mc, nsBase h1, h2⟩⟩
    have tabB : ∀ pr ∈ tabs, TabB (hidT sA.heap HH) mG pr.1 pr.2 := fun pr pIn => by
      have hTp := tabE pr pIn
      refine ⟨?_, ?_, fun zz => ?_⟩
      · obtain ⟨ob1, usS, file, tf, flags, tg, inF, text, tt, e1, r1, r2, r3, r4, r5, r6, r7, r8, hne⟩ := C pr pIn
        refine ⟨ob1, usS, file, tf, flags, tg, inF, text, tt, baseAt e1 (noSeq e1 (fun items n zz => ?_) fun zz => ?_), r1, r2, r3, r4, r5, r6, r7, r8, hne⟩
        · rw [r2] at zz
          cases zz
        · rw [r2] at zz
          cases zz
          simp at r3
      · obtain ⟨bMo, obB, b1, b2, b3, b4, b5, b6⟩ := bMod
        have nG : bMo ≠ mainGlobals := fun qq => by
          obtain ⟨ob1, entS, entP, eq, dHd, _⟩ := nsM
          rw [qq, eq] at b3
          cases b3
          rw [dHd] at b6
          cases b6
        have nP : bMo ≠ pr.2 := fun qq => by
          rw [qq, hTp] at b3
          cases b3
          cases b6
        refine ⟨bMo, obB, b1, b2, nG, nP, baseAt b3 (noSeq b3 (fun items n zz => ?_) fun zz => ?_), b4, b5, b6⟩
        · rw [b6] at zz
          cases zz
        · rw [b6] at zz
          cases zz
      · obtain ⟨ob1, entS, entP, eq, dHd, _⟩ := nsM
        rw [zz, hTp] at eq
        cases eq
        cases dHd
    have env0 : Env0 PP ww KK mG (hidT sA.heap HH) callerA [] sA HH := ⟨rfl, modB, fun ad ob1 eq => of_hidT eq, Nat.le_of_eq (hidT_size _ _), trivial, fun ad nsB => absurd (show ad ∈ ([] : List Addr) from nsB) (by simp), okH, .of_eq noG⟩
    refine codeAny_mono (okF _ inBase (nsBase nsM) tabB callerA [] sA HH ⟨[.ref aS], []⟩ [.ref aS] [.ref aS] _ _ rfl roomA env0 (bindF sA (.ref aS)) (.cons rfl .nil) (spF HH tH seqH)) fun r s' h => ?_
    cases r with
    | error eq => exact False.elim h
    | ok fl =>
      cases fl with
      | next => exact False.elim h
      | brk => exact False.elim h
      | cont => exact False.elim h
      | ret u =>
        obtain ⟨v, H', osS, bareS, under, hok', r', qq⟩ := h
        have q' : v = .bl true := qq
        subst q'
        obtain rfl : u = Value.bool true := r'
        have kept : ∀ ad ob1, ad ∉ tabs.map (·.2) → sA.heap.get? ad = some ob1 → s'.heap.get? ad = some ob1 := fun ad ob1 nb eq => by
          cases qq : HH ad with
          | none => exact under.keep ad ob1 eq qq (by intro zz; exact absurd (show ad ∈ ([] : List Addr) from zz) (by simp)) (by simp)
          | some u =>
            rcases onlyH ad with zz | zz | ⟨obB, xs, zz⟩
            · rw [qq] at zz; cases zz
            · exact absurd zz nb
            · have z2 := under.frzs ad obB _ zz
              obtain ⟨e1, _⟩ := okH ad _ zz
              obtain ⟨e2, _⟩ := hok' ad _ z2
              rw [eq] at e1; cases e1
              exact e2
        have grew : ∀ pr ∈ tabs, ∃ more : Array Value, s'.heap.get? pr.2 = some { cls := .none, data := .fields more } := fun pr pIn => by
          obtain ⟨more, zz⟩ := under.tbls pr.2 #[] (tH pr pIn)
          exact ⟨_, hok' pr.2 _ zz⟩
        refine ⟨rfl, ⟨fun ad ob1 eq => ?_, fun ad ob1 eq => ?_⟩, osS, bareS⟩
        · by_cases nsB : ad ∈ tabs.map (·.2)
          · obtain ⟨pr, pIn, entP⟩ := List.mem_map.mp nsB
            obtain ⟨more, hm⟩ := grew pr pIn
            rw [← entP] at eq ⊢
            rw [tabE pr pIn] at eq
            cases eq
            exact .inr (.inl ⟨((C pr pIn).tab (tabE pr pIn)).isCodeTable, rfl, #[], more, rfl, by rw [Array.empty_append]; exact hm⟩)
          · exact .inl (kept ad ob1 nsB eq)
        · by_cases nsB : ad ∈ tabs.map (·.2)
          · obtain ⟨pr, pIn, entP⟩ := List.mem_map.mp nsB
            obtain ⟨more, hm⟩ := grew pr pIn
            rw [← entP]
            exact ⟨_, hm⟩
          · exact ⟨ob1, kept ad ob1 nsB eq⟩
  cases hk : KK.lookup aS with
  | some ob1 =>
    have eq := inK aS ob1 hk
    rw [isA] at eq
    cases eq
    refine main (fun ad => if ad ∈ tabs.map (·.2) then some (.tbl #[]) else none) (fun pr pIn => if_pos (tabMem pr pIn)) (fun ad => ?_) (.inr ⟨_, items.toArray, _, hk, rfl, rfl, rfl, by rw [List.size_toArray, sizeA]; exact lenA, by simpa using valA⟩) (fun ad u zz => ?_) (fun ad zz => ?_) fun zz => absurd (show (if aS ∈ tabs.map (·.2) then some (HO.tbl #[]) else none) = none from if_neg aOut) zz
    · by_cases nsB : ad ∈ tabs.map (·.2)
      · exact .inr (.inl nsB)
      · exact .inl (if_neg nsB)
    · by_cases nsB : ad ∈ tabs.map (·.2)
      · have z' := (if_pos nsB).symm.trans zz
        cases z'
        exact tabAt ad nsB
      · have z' := (if_neg nsB).symm.trans zz
        cases z'
    · by_cases nsB : ad ∈ tabs.map (·.2)
      · exact .inr nsB
      · exact absurd (if_neg nsB) zz
  | none =>
    refine main (fun ad => if ad = aS then some (.frz { cls := .type "list", data := .seq items.toArray } (.lst (nums.map V.int))) else if ad ∈ tabs.map (·.2) then some (.tbl #[]) else none) (fun pr pIn => (if_neg (show ¬ pr.2 = aS from fun zz => aOut (by rw [← zz]; exact tabMem pr pIn))).trans (if_pos (tabMem pr pIn))) (fun ad => ?_)
      (.inl (.inr ⟨{ cls := .type "list", data := .seq items.toArray }, if_pos rfl⟩)) (fun ad u zz => ?_) (fun ad zz => ?_) fun _ => hk
    · by_cases nsB : ad = aS
      · exact .inr (.inr ⟨_, _, if_pos nsB⟩)
      · by_cases nsB3 : ad ∈ tabs.map (·.2)
        · exact .inr (.inl nsB3)
        · exact .inl ((if_neg nsB).trans (if_neg nsB3))
    · by_cases nsB : ad = aS
      · have z' := (if_pos nsB).symm.trans zz
        cases z'
        rw [nsB]
        exact ⟨isA, by rw [List.length_map]; exact lenA, items, _, valA, isA⟩
      · have z1 := (if_neg nsB).symm.trans zz
        by_cases nsB3 : ad ∈ tabs.map (·.2)
        · have z' := (if_pos nsB3).symm.trans z1
          cases z'
          exact tabAt ad nsB3
        · have z' := (if_neg nsB3).symm.trans z1
          cases z'
    · by_cases nsB : ad = aS
      · exact .inl nsB
      · by_cases nsB3 : ad ∈ tabs.map (·.2)
        · exact .inr nsB3
        · exact absurd ((if_neg nsB).trans (if_neg nsB3)) zz
def LawAtG (l : PySem.W.OpenLaw) (ww : World) (KK : PySem.W.Frag) (kN n : Nat) (xN : Str) (mG : Str → Option Value) (fAt : Addr) (h : Heap) : Prop :=
  ∃ (fDat : FuncData) (tabs : List (Addr × Addr)) (spc : Sp), (∀ pr ∈ tabs, h.get? pr.2 = some { cls := .none, data := .fields #[] }) ∧ (∀ pr ∈ tabs, KK.lookup pr.2 = none) ∧ (∀ pr ∈ tabs, PySem.W.CodeHd h pr.1 pr.2) ∧ (∀ (s : Shared) (u : Value), BindsTo s fDat ⟨[u], []⟩ [(xN, u)]) ∧
    (∀ (HH : Hp) (aS : Addr) (nums : List Int), nums.length ≤ n → (∀ zz ∈ nums, Builtin.Int.intBits zz ≤ 1048576) → (∀ pr ∈ tabs, HH pr.2 = some (.tbl #[])) → SqL KK HH aS (nums.map V.int) → spc [.ref aS] HH (fun v _ => v = .bl true) fun _ _ _ => False) ∧
    ∀ base : Heap, KK.In base → base.Ns mainGlobals mG → (∀ pr ∈ tabs, TabB base mG pr.1 pr.2) → L2.FnOkG l.prog ww KK mG base kN fAt fDat [xN] spc
theorem walk_ofG {l : PySem.W.OpenLaw} {n kN : Nat} {qq : Program} {loose : List Str} {XP : (Str → Option Value) → Heap → Prop} {YP : World → Heap → Prop} {d : DefRec} {KK : Params → PySem.W.Frag} {xN : Str}
    (hn : l.most = some n) (hn2 : n ≤ sizeLine) (hdf : d.params.defaults = []) (roomA : Room kN callerA) (hY : ∀ (ww : World) (h : Heap), YP ww h → (KK ww.params).In h)
    (okF : ∀ (ww : World) (mG : Str → Option Value) (fAt : Addr) (h : Heap), YP ww h → (KK ww.params).In h → h.Ns mainGlobals mG → mG d.name = some (.ref fAt) → LawAtG l ww (KK ww.params) kN n xN mG fAt h) :
    PySem.W.WalkO qq loose XP YP l.row.toRowW d [] (fun f items => PySem.call f items) := by
  refine Att.attach_callB hn hdf fun ww s₀ sA mG mB fAt ob1 pm cd doc aS items nums G Y ho dHd hcd hmg hobj hints hlen hbits noG => ?_
  have inK := hY ww _ Y
  obtain ⟨fDat, tabs, spc, tabE, tabN, C, nsB, spF, hF⟩ := okF ww mG fAt _ Y inK G.T.g hmg
  exact law_callG inK G.T.g G.T.b G.T.builtins G.T.nolimit noG tabE tabN C G.T.bmain hobj hints (Nat.le_trans hlen hn2) roomA hF nsB (fun HH tH seqH => spF HH aS nums hlen hbits tH seqH)
end LamG
set_option Elab.async false
open PySem PySem.W PyProof.Rows
theorem K59.fun_both {K : Frag} {h : Heap} {mg : Str → Option Value} (X : K.In h) (G : h.Ns mainGlobals mg) {x qual : Str} {st : Stmt} {f : Addr} {oc : Value} {od an : Option Addr} {osl : Array (Option Value)} {kV doc pm cdv ct : Value}
   (a : nsIn K mainGlobals x = some (some (.ref f)))
   (l : K.lookup f = some ⟨oc, od, .func (PySem.W.fnOf x qual (L2.defArgs st) (L2.defBody st) (L2.defScope st) .none kV doc pm an cdv ct), osl⟩)
   (c : PySem.W.codeIn K cdv qual = true) (k : PySem.W.keepIn K (.ref f) = true) : ∃ f fd, mg x = some (.ref f) ∧ L2.Fun K x qual st f fd :=
  ⟨_, _, mg_of X G a, L2.fun_mk l c k⟩
open FX PySem.Calls PySem.HandSPX in
theorem K59.bad1_mk {P : Program} {K : Frag} {h : Heap} {mg : Str → Option Value} (X : K.In h) (G : h.Ns mainGlobals mg) {C : Addr} {cn fld tx : Str}
   {nm q : Str} {N : Addr} {bs bm : List Value} {sn : List Str} {sub : List Value} {ab : Bool} {col : Option Bool} {dd : Option Addr} {k0 k1 k2 k3 k5 : Option Value}
   {fI cda cc : Addr} {oc : Value} {od : Option Addr} {doc pm : Value} {an : Option Addr} {ct : Value} {osl : Array (Option Value)} {qual : Str} {p1 p2 a1 a2 a3 a4 a5 a6 q1 q2 q3 q4 : Pos} {ccl cl : Value} {cdd cld : Option Addr} {vs : Array Value} {ccs csl : Array (Option Value)} {file : Str} {tf : Tok}
   (aC : nsIn K mainGlobals cn = some (some (.ref C)))
   (xL : K.lookup C = some (excClassObj nm q C N bs bm true sn sub ab col dd k0 k1 k2 k3 k5 "ValueError.__new__")) (hbm : refsVE bm = true)
   (sa : findIn K (.ref C) "__setattr__" = some (some (.builtin "object.__setattr__"))) (ga : findIn K (.ref C) "__getattribute__" = some (some (.builtin "BaseException.__getattribute__"))) (gg : findIn K (.ref C) "__getattr__" = some none) (noN : findIn K (.ref C) fld = some none) (kC : keepIn K (.ref C) = true)
   (exC : subIn K (.ref C) (.type "BaseException") = some true) (veC : subIn K (.ref C) (.type "ValueError") = some true) (tyC : typeIn K (.ref C) = some (.type "type")) (hdC : hasDictIn K C = true) (mro : mroIn K C (.ref C) = some true)
   (sup : ks_superIn K C C "__init__" = some (some (.builtin "ValueError.__init__"))) (ms : mg "super" = none) (noq : nsIn K cStatics "thirdparty.any" = some none)
   (i1 : findIn K (.ref C) "__init__" = some (some (.ref fI))) (t1 : typeIn K (.ref fI) = some (.type "function"))
   (l1 : K.lookup fI = some ⟨oc, od, .func (ksFn "__init__" qual (xA fld p1 p2) (xB fld tx a1 a2 a3 a4 a5 a6 q1 q2 q3 q4) (xS fld) .none .none doc pm an (.ref cda) ct cc), osl⟩) (c1 : codeIn K (.ref cda) qual = true)
   (l2 : K.lookup cda = some ⟨ccl, cdd, .fields vs, ccs⟩) (l3 : vs[2]? = some (.str file tf)) (l4 : ((P.main.file : Str) == file) = true) (l5 : K.lookup cc = some ⟨cl, cld, .cell (some (.ref C)), csl⟩) (l6 : (a3.endLine == a5.line) = true)
   (nsl : (fld == ("self" : Str)) = false) (nss : (fld == ("super" : Str)) = false) (nsc : (fld == ("__class__" : Str)) = false) (nsd : (fld == ("__debug__" : Str)) = false) (top : (P.main.scope.names.lookup ("super" : Str)).isSome = false)
   (bd : ∀ (body : List Stmt) (qual : Str) (p1 p2 : Pos) (doc pm ct cdv : Value) (an : Option Addr) (cc : Addr) (x v : Value), bindArgs (ksFn "__init__" qual (xA fld p1 p2) body (xS fld) .none .none doc pm an cdv ct cc) ⟨[x, v], []⟩ = pure [(("self" : Str), x), (fld, v)])
   : FX.Txt P K mg C cn fld tx :=
  ⟨⟨_, _, _, _, _, _, _, _, _, _, _, _, _, _, _, xL, hbm⟩, mg_of X G aC, sa, ga, gg, noN, kC, exC, veC, tyC, hdC, mro, sup, ms, noq, nsl, nss, nsc, nsd, top, bd,
    ⟨_, _, _, _, _, _, _, _, _, _, _, _, _, _, _, _, _, _, _, _, _, _, _, _, _, _, _, _, _, _, _, _,  i1, t1, l1, c1, l2, l3, l4, l5, l6⟩⟩
open FX PySem.Calls PySem.HandSPX in
theorem K59.bad2_mk {P : Program} {K : Frag} {h : Heap} {mg : Str → Option Value} (X : K.In h) (G : h.Ns mainGlobals mg) {C : Addr} {cn tx : Str}
   {nm q : Str} {N : Addr} {bs bm : List Value} {sn : List Str} {sub : List Value} {ab : Bool} {col : Option Bool} {dd : Option Addr} {k0 k1 k2 k3 k5 : Option Value}
   {fI cda cc : Addr} {oc : Value} {od : Option Addr} {doc pm : Value} {an : Option Addr} {ct : Value} {osl : Array (Option Value)} {qual : Str} {p1 p2 p3 a1 a2 a3 a4 a5 a6 q1 q2 q3 q4 q5 q6 q7 q8 : Pos} {ccl cl : Value} {cdd cld : Option Addr} {vs : Array Value} {ccs csl : Array (Option Value)} {file : Str} {tf : Tok}
   (aC : nsIn K mainGlobals cn = some (some (.ref C)))
   (xL : K.lookup C = some (excClassObj nm q C N bs bm true sn sub ab col dd k0 k1 k2 k3 k5 "ValueError.__new__")) (hbm : refsVE bm = true)
   (sa : findIn K (.ref C) "__setattr__" = some (some (.builtin "object.__setattr__"))) (ga : findIn K (.ref C) "__getattribute__" = some (some (.builtin "BaseException.__getattribute__"))) (gg : findIn K (.ref C) "__getattr__" = some none) (no_text : findIn K (.ref C) "text" = some none) (no_line : findIn K (.ref C) "line" = some none) (kC : keepIn K (.ref C) = true)
   (exC : subIn K (.ref C) (.type "BaseException") = some true) (veC : subIn K (.ref C) (.type "ValueError") = some true) (tyC : typeIn K (.ref C) = some (.type "type")) (hdC : hasDictIn K C = true) (mro : mroIn K C (.ref C) = some true)
   (sup : ks_superIn K C C "__init__" = some (some (.builtin "ValueError.__init__"))) (ms : mg "super" = none) (noq : nsIn K cStatics "thirdparty.any" = some none)
   (i1 : findIn K (.ref C) "__init__" = some (some (.ref fI))) (t1 : typeIn K (.ref fI) = some (.type "function"))
   (l1 : K.lookup fI = some ⟨oc, od, .func (ksFn "__init__" qual (xA2 p1 p2 p3) (xB2 tx a1 a2 a3 a4 a5 a6 q1 q2 q3 q4 q5 q6 q7 q8) xS2 .none .none doc pm an (.ref cda) ct cc), osl⟩) (c1 : codeIn K (.ref cda) qual = true)
   (l2 : K.lookup cda = some ⟨ccl, cdd, .fields vs, ccs⟩) (l3 : vs[2]? = some (.str file tf)) (l4 : ((P.main.file : Str) == file) = true) (l5 : K.lookup cc = some ⟨cl, cld, .cell (some (.ref C)), csl⟩) (l6 : (a3.endLine == a5.line) = true)
   (top : (P.main.scope.names.lookup ("super" : Str)).isSome = false)
   : FX.Txt2 P K mg C cn tx :=
  ⟨⟨_, _, _, _, _, _, _, _, _, _, _, _, _, _, _, xL, hbm⟩, mg_of X G aC, sa, ga, gg, no_text, no_line, kC, exC, veC, tyC, hdC, mro, sup, ms, noq, top,
    ⟨_, _, _, _, _, _, _, _, _, _, _, _, _, _, _, _, _, _, _, _, _, _, _, _, _, _, _, _, _, _, _, _, _, _, _, _, _,  i1, t1, l1, c1, l2, l3, l4, l5, l6⟩⟩
theorem K59.lam_mk {K : Frag} {h : Heap} {mg : Str → Option Value} (X : K.In h) (G : h.Ns mainGlobals mg) {n : Str} {st : Stmt} {f c P : Addr} {oc : Value} {od an : Option Addr} {osl : Array (Option Value)} {kV doc pm ct : Value}
   (a : nsIn K mainGlobals n = some (some (.ref f)))
   (l : K.lookup f = some ⟨oc, od, .func (PySem.W.fnOf n n (L2.defArgs st) (L2.defBody st) (L2.defScope st) .none kV doc pm an (.ref c) ct), osl⟩)
   (cd : PySem.W.codeIn K (.ref c) n = true) (k : PySem.W.keepIn K (.ref f) = true) (hd : codeHdIn K c P = true) : ∃ f fd c, mg n = some (.ref f) ∧ L2.Fun K n n st f fd ∧ L2.codeAt K f = some (.ref c) ∧ CodeHd h c P :=
  ⟨_, _, _, mg_of X G a, L2.fun_mk l cd k, by unfold L2.codeAt; rw [l], codeHd_of_K X hd⟩
theorem K59.bind1 {K : Frag} {x qual : Str} {st : Stmt} {f : Addr} {fd : FuncData} {p : Str} (F : L2.Fun K x qual st f fd)
   (h : ∀ (kV doc pm : Value) (an : Option Addr) (cdv ct : Value) (u : Value), bindArgs (PySem.W.fnOf x qual (L2.defArgs st) (L2.defBody st) (L2.defScope st) .none kV doc pm an cdv ct) ⟨[u], []⟩ = pure [(p, u)]) : ∀ (s : Shared) (u : Value), BindsTo s fd ⟨[u], []⟩ [(p, u)] := by
  obtain ⟨oc, od, kV, doc, pm, an, cdv, ct, osl, rfl, lk, hcd⟩ := F.ex
  exact fun s u => BindsTo.of_eq (h kV doc pm an cdv ct u)
open T L2 in
theorem K59.start {K : Frag} {H : Hp} {a : Addr} {ns : List Int} {T4 : List (Addr × Str)} (nd : (T4.map (·.1)).Nodup) (ht : ∀ p ∈ T4, H p.1 = some (.tbl #[])) (hs : SqL K H a (ns.map V.int)) : Entry K (fun b => if b ∈ T4.map (·.1) then none else H b) [tv (Sq.mk ns)] (T4.map fun p => (p.1, .tab p.2)) [.ref a] H := by
  have hF : ∀ b, b ∉ T4.map (·.1) → (if b ∈ T4.map (·.1) then none else H b) = H b := fun b hb => if_neg hb
  have hno : ∀ b o, H b = some o → (∀ ps, o ≠ .tbl ps) → b ∉ T4.map (·.1) := fun b o h n z => by
    obtain ⟨p, hp, rfl⟩ := List.mem_map.mp z
    rw [ht p hp] at h
    cases h
    exact n _ rfl
  have keys : (T4.map fun p => (p.1, Ct.tab p.2)).map (·.1) = T4.map (·.1) := by rw [List.map_map]; rfl
  refine ⟨.cons ⟨a, rfl, ?_⟩ .nil, ⟨fun b o h => ?_, fun _ _ h => h, fun b o h1 h2 => ?_, fun b o h _ => h, fun p hp => ?_, by rw [keys]; exact nd, fun b hb => ?_, fun b hb => ?_⟩⟩
  · rcases hs with (h | ⟨o, h⟩) | h
    · exact .inl (.inl ((hF a (hno _ _ h (fun ps z => by cases z))).trans h))
    · exact .inl (.inr ⟨o, (hF a (hno _ _ h (fun ps z => by cases z))).trans h⟩)
    · exact .inr h
  · by_cases e : b ∈ T4.map (·.1)
    · have h' := h
      simp only [if_pos e] at h'
      cases h'
    · have h' := h
      simp only [if_neg e] at h'
      exact h'
  · have h3 := h2.symm.trans h1
    cases h3
  · obtain ⟨q, hq, rfl⟩ := List.mem_map.mp hp
    exact ⟨if_pos (List.mem_map.mpr ⟨q, hq, rfl⟩), ⟨_, ht q hq, #[], rfl, trivial, fun pos cv h => (by cases h)⟩, .inl (List.mem_map.mpr ⟨_, hp, rfl⟩)⟩
  · have hb' : b ∈ T4.map (·.1) := by rw [← keys]; exact hb
    obtain ⟨q, hq, rfl⟩ := List.mem_map.mp hb'
    rw [ht q hq]
    exact fun z => by cases z
  · have hb' : b ∈ T4.map (·.1) := by rw [← keys]; exact hb
    obtain ⟨q, hq, rfl⟩ := List.mem_map.mp hb'
    show H q.1 ≠ none
    rw [ht q hq]
    exact fun z => by cases z
theorem K59.kw1 {K : Frag} {x qual : Str} {st : Stmt} {f : Addr} {fd : FuncData} {p : Str} (F : L2.Fun K x qual st f fd)
   (h : ∀ (kV doc pm : Value) (an : Option Addr) (cdv ct : Value) (u : Value), bindArgs (PySem.W.fnOf x qual (L2.defArgs st) (L2.defBody st) (L2.defScope st) .none kV doc pm an cdv ct) ⟨[], [(p, u)]⟩ = pure [(p, u)]) : L2.KwB K fd [p] := by
  obtain ⟨oc, od, kV, doc, pm, an, cdv, ct, osl, rfl, lk, hcd⟩ := F.ex
  intro s us _ hl
  match us, hl with
  | [u], _ => exact BindsTo.of_eq (h kV doc pm an cdv ct u)
theorem K59.words {K : Frag} {a : Addr} {t1 t2 t3 : Tok} {od : Option Addr} {n : Nat} {osl : Array (Option Value)} (l : K.lookup a = some ⟨.type "tuple", od, .seq #[.str "turn" t1, .str "put" t2, .str "take" t3] n, osl⟩) :
   L2.SqT K (fun _ => none) a (([Str.ofString "turn", Str.ofString "put", Str.ofString "take"] : List Str).map L2.V.str) :=
  .inr ⟨_, _, _, l, rfl, rfl, by show 3 ≤ sizeLine; rw [sizeLine_eq]; decide, .cons ⟨_, rfl⟩ (.cons ⟨_, rfl⟩ (.cons ⟨_, rfl⟩ .nil))⟩
open K59 in
theorem K59.fin {l : OpenLaw} {w : World} {K : Frag} {mg : Str → Option Value} {fa : Addr} {h : Heap} (hmg : mg "law" = some (.ref fa))
  (hT : ∀ P ∈ [275, 268], h.get? P = some (tabObj #[])) (nT : ∀ P ∈ [275, 268], K.lookup P = none)
  (n_all : mg "all" = none)
  (n_dict : mg "dict" = none)
  (n_enumerate : mg "enumerate" = none)
  (n_int : mg "int" = none)
  (n_isinstance : mg "isinstance" = none)
  (n_len : mg "len" = none)
  (n_list : mg "list" = none)
  (n_range : mg "range" = none)
  (n_repr : mg "repr" = none)
  (n_str : mg "str" = none)
  (n_tuple : mg "tuple" = none)
  (n_zip : mg "zip" = none)
  (n_bool : mg "bool" = none)
  (g_HUNDREDS_steps : ∃ t, mg "HUNDREDS_steps" = some (.int (300 : Int) t))
  (g_HUNDREDS_texts : ∃ t, mg "HUNDREDS_texts" = some (.int (300 : Int) t))
  (g_LETTERS : ∃ t, mg "LETTERS" = some (.str (Str.ofString "abcdefghijklmnopqrstuvwxyz") t))
  (g_SIGNS : ∃ t, mg "SIGNS" = some (.str (Str.ofString "abcdefghijklmnopqrstuvwxyz0123456789") t))
  (E_BadSteps : FX.Txt l.prog K mg 58 "BadSteps" "steps" "no steps")
  (E_BadText : FX.Txt2 l.prog K mg 79 "BadText" "no such text")
  (g_WORDS : mg "WORDS" = some (.ref 82))
  (t_WORDS : L2.SqT K (fun _ => none) 82 (([Str.ofString "turn", Str.ofString "put", Str.ofString "take"] : List Str).map L2.V.str))
  (ex_tt : PySem.W.exmOne K (.ref 79) (.ref 79) = some true)
  (ex_ts : PySem.W.exmOne K (.ref 58) (.ref 79) = some false)
  (ex_ss : PySem.W.exmOne K (.ref 58) (.ref 58) = some true)
  (h_is_list : ∃ f fd, mg "is_list" = some (.ref f) ∧ L2.Fun K "is_list" "is_list" K59.s_is_list f fd)
  (h_is_name : ∃ f fd, mg "is_name" = some (.ref f) ∧ L2.Fun K "is_name" "is_name" K59.s_is_name f fd)
  (h_is_step : ∃ f fd, mg "is_step" = some (.ref f) ∧ L2.Fun K "is_step" "is_step" K59.s_is_step f fd)
  (h_are_steps : ∃ f fd, mg "are_steps" = some (.ref f) ∧ L2.Fun K "are_steps" "are_steps" K59.s_are_steps f fd)
  (h_line_of : ∃ f fd, mg "line_of" = some (.ref f) ∧ L2.Fun K "line_of" "line_of" K59.s_line_of f fd)
  (h_step_in : ∃ f fd, mg "step_in" = some (.ref f) ∧ L2.Fun K "step_in" "step_in" K59.s_step_in f fd)
  (h_parts_of : ∃ f fd, mg "parts_of" = some (.ref f) ∧ L2.Fun K "parts_of" "parts_of" K59.s_parts_of f fd)
  (h_steps_text : ∃ f fd, mg "steps_text" = some (.ref f) ∧ L2.Fun K "steps_text" "steps_text" K59.s_steps_text f fd)
  (h_read_steps : ∃ f fd, mg "read_steps" = some (.ref f) ∧ L2.Fun K "read_steps" "read_steps" K59.s_read_steps f fd)
  (h__law_spring : ∃ f fd, mg "_law_spring" = some (.ref f) ∧ L2.Fun K "_law_spring" "_law_spring" K59.s__law_spring f fd)
  (h__law_draw : ∃ f fd, mg "_law_draw" = some (.ref f) ∧ L2.Fun K "_law_draw" "_law_draw" K59.s__law_draw f fd)
  (h__law_pick : ∃ f fd, mg "_law_pick" = some (.ref f) ∧ L2.Fun K "_law_pick" "_law_pick" K59.s__law_pick f fd)
  (h__law_mixed : ∃ f fd, mg "_law_mixed" = some (.ref f) ∧ L2.Fun K "_law_mixed" "_law_mixed" K59.s__law_mixed f fd)
  (h__law_w_name : ∃ f fd, mg "_law_w_name" = some (.ref f) ∧ L2.Fun K "_law_w_name" "_law_w_name" K59.s__law_w_name f fd)
  (h__law_w_names : ∃ f fd, mg "_law_w_names" = some (.ref f) ∧ L2.Fun K "_law_w_names" "_law_w_names" K59.s__law_w_names f fd)
  (h__law_x_name : ∃ f fd, mg "_law_x_name" = some (.ref f) ∧ L2.Fun K "_law_x_name" "_law_x_name" K59.s__law_x_name f fd)
  (h__law_x_step : ∃ f fd, mg "_law_x_step" = some (.ref f) ∧ L2.Fun K "_law_x_step" "_law_x_step" K59.s__law_x_step f fd)
  (h__law_x_read : ∃ f fd, mg "_law_x_read" = some (.ref f) ∧ L2.Fun K "_law_x_read" "_law_x_read" K59.s__law_x_read f fd)
  (h__law_loose : ∃ f fd, mg "_law_loose" = some (.ref f) ∧ L2.Fun K "_law_loose" "_law_loose" K59.s__law_loose f fd)
  (h__law_x_bent : ∃ f fd, mg "_law_x_bent" = some (.ref f) ∧ L2.Fun K "_law_x_bent" "_law_x_bent" K59.s__law_x_bent f fd)
  (h__law_same : ∃ f fd, mg "_law_same" = some (.ref f) ∧ L2.Fun K "_law_same" "_law_same" K59.s__law_same f fd)
  (h__law_very : ∃ f fd, mg "_law_very" = some (.ref f) ∧ L2.Fun K "_law_very" "_law_very" K59.s__law_very f fd)
  (h__law_x_met : ∃ f fd, mg "_law_x_met" = some (.ref f) ∧ L2.Fun K "_law_x_met" "_law_x_met" K59.s__law_x_met f fd)
  (h_law : ∃ f fd c, mg "law" = some (.ref f) ∧ L2.Fun K "law" "law" K59.s_law f fd ∧ L2.codeAt K f = some (.ref c) ∧ CodeHd h c 275)
  (h__law_x_asked : ∃ f fd c, mg "_law_x_asked" = some (.ref f) ∧ L2.Fun K "_law_x_asked" "_law_x_asked" K59.s__law_x_asked f fd ∧ L2.codeAt K f = some (.ref c) ∧ CodeHd h c 268) : LamG.LawAtG l w K 9 63 "script" mg fa h := by
  obtain ⟨f_is_list, fd_is_list, g_is_list, F_is_list⟩ := h_is_list
  have b_is_list := F_is_list.binds (ps := ["thing"]) fun _ _ _ _ _ _ us hl => match us, hl with | [_], _ => rfl
  obtain ⟨f_is_name, fd_is_name, g_is_name, F_is_name⟩ := h_is_name
  have b_is_name := F_is_name.binds (ps := ["thing"]) fun _ _ _ _ _ _ us hl => match us, hl with | [_], _ => rfl
  obtain ⟨f_is_step, fd_is_step, g_is_step, F_is_step⟩ := h_is_step
  have b_is_step := F_is_step.binds (ps := ["thing"]) fun _ _ _ _ _ _ us hl => match us, hl with | [_], _ => rfl
  obtain ⟨f_are_steps, fd_are_steps, g_are_steps, F_are_steps⟩ := h_are_steps
  have b_are_steps := F_are_steps.binds (ps := ["thing"]) fun _ _ _ _ _ _ us hl => match us, hl with | [_], _ => rfl
  obtain ⟨f_line_of, fd_line_of, g_line_of, F_line_of⟩ := h_line_of
  have b_line_of := F_line_of.binds (ps := ["words"]) fun _ _ _ _ _ _ us hl => match us, hl with | [_], _ => rfl
  obtain ⟨f_step_in, fd_step_in, g_step_in, F_step_in⟩ := h_step_in
  have b_step_in := F_step_in.binds (ps := ["words"]) fun _ _ _ _ _ _ us hl => match us, hl with | [_], _ => rfl
  obtain ⟨f_parts_of, fd_parts_of, g_parts_of, F_parts_of⟩ := h_parts_of
  have b_parts_of := F_parts_of.binds (ps := ["text"]) fun _ _ _ _ _ _ us hl => match us, hl with | [_], _ => rfl
  obtain ⟨f_steps_text, fd_steps_text, g_steps_text, F_steps_text⟩ := h_steps_text
  have b_steps_text := F_steps_text.binds (ps := ["steps"]) fun _ _ _ _ _ _ us hl => match us, hl with | [_], _ => rfl
  obtain ⟨f_read_steps, fd_read_steps, g_read_steps, F_read_steps⟩ := h_read_steps
  have b_read_steps := F_read_steps.binds (ps := ["text"]) fun _ _ _ _ _ _ us hl => match us, hl with | [_], _ => rfl
  obtain ⟨f__law_spring, fd__law_spring, g__law_spring, F__law_spring⟩ := h__law_spring
  have b__law_spring := F__law_spring.binds (ps := ["script", "turn"]) fun _ _ _ _ _ _ us hl => match us, hl with | [_, _], _ => rfl
  obtain ⟨f__law_draw, fd__law_draw, g__law_draw, F__law_draw⟩ := h__law_draw
  have b__law_draw := F__law_draw.binds (ps := ["spring", "many"]) fun _ _ _ _ _ _ us hl => match us, hl with | [_, _], _ => rfl
  obtain ⟨f__law_pick, fd__law_pick, g__law_pick, F__law_pick⟩ := h__law_pick
  have b__law_pick := F__law_pick.binds (ps := ["spring", "some"]) fun _ _ _ _ _ _ us hl => match us, hl with | [_, _], _ => rfl
  obtain ⟨f__law_mixed, fd__law_mixed, g__law_mixed, F__law_mixed⟩ := h__law_mixed
  have b__law_mixed := F__law_mixed.binds (ps := ["spring", "some"]) fun _ _ _ _ _ _ us hl => match us, hl with | [_, _], _ => rfl
  obtain ⟨f__law_w_name, fd__law_w_name, g__law_w_name, F__law_w_name⟩ := h__law_w_name
  have b__law_w_name := F__law_w_name.binds (ps := ["spring"]) fun _ _ _ _ _ _ us hl => match us, hl with | [_], _ => rfl
  obtain ⟨f__law_w_names, fd__law_w_names, g__law_w_names, F__law_w_names⟩ := h__law_w_names
  have b__law_w_names := F__law_w_names.binds (ps := ["spring", "many"]) fun _ _ _ _ _ _ us hl => match us, hl with | [_, _], _ => rfl
  obtain ⟨f__law_x_name, fd__law_x_name, g__law_x_name, F__law_x_name⟩ := h__law_x_name
  have b__law_x_name := F__law_x_name.binds (ps := ["word"]) fun _ _ _ _ _ _ us hl => match us, hl with | [_], _ => rfl
  obtain ⟨f__law_x_step, fd__law_x_step, g__law_x_step, F__law_x_step⟩ := h__law_x_step
  have b__law_x_step := F__law_x_step.binds (ps := ["words"]) fun _ _ _ _ _ _ us hl => match us, hl with | [_], _ => rfl
  obtain ⟨f__law_x_read, fd__law_x_read, g__law_x_read, F__law_x_read⟩ := h__law_x_read
  have b__law_x_read := F__law_x_read.binds (ps := ["text"]) fun _ _ _ _ _ _ us hl => match us, hl with | [_], _ => rfl
  obtain ⟨f__law_loose, fd__law_loose, g__law_loose, F__law_loose⟩ := h__law_loose
  have b__law_loose := F__law_loose.binds (ps := ["spring", "thing"]) fun _ _ _ _ _ _ us hl => match us, hl with | [_, _], _ => rfl
  obtain ⟨f__law_x_bent, fd__law_x_bent, g__law_x_bent, F__law_x_bent⟩ := h__law_x_bent
  have b__law_x_bent := F__law_x_bent.binds (ps := ["spring", "text"]) fun _ _ _ _ _ _ us hl => match us, hl with | [_, _], _ => rfl
  obtain ⟨f__law_same, fd__law_same, g__law_same, F__law_same⟩ := h__law_same
  have b__law_same := F__law_same.binds (ps := ["found", "due"]) fun _ _ _ _ _ _ us hl => match us, hl with | [_, _], _ => rfl
  obtain ⟨f__law_very, fd__law_very, g__law_very, F__law_very⟩ := h__law_very
  have b__law_very := F__law_very.binds (ps := ["kept", "thing"]) fun _ _ _ _ _ _ us hl => match us, hl with | [_, _], _ => rfl
  obtain ⟨f__law_x_met, fd__law_x_met, g__law_x_met, F__law_x_met⟩ := h__law_x_met
  have b__law_x_met := F__law_x_met.binds (ps := ["query", "thing"]) fun _ _ _ _ _ _ us hl => match us, hl with | [_, _], _ => rfl
  obtain ⟨f_law, fd_law, c_law, g_law, F_law, cd_law, hd_law⟩ := h_law
  have b_law := F_law.binds (ps := ["script"]) fun _ _ _ _ _ _ us hl => match us, hl with | [_], _ => rfl
  obtain ⟨f__law_x_asked, fd__law_x_asked, c__law_x_asked, g__law_x_asked, F__law_x_asked, cd__law_x_asked, hd__law_x_asked⟩ := h__law_x_asked
  have b__law_x_asked := F__law_x_asked.binds (ps := ["text"]) fun _ _ _ _ _ _ us hl => match us, hl with | [_], _ => rfl
  have kw_steps_text := K59.kw1 (p := "steps") F_steps_text fun _ _ _ _ _ _ _ => rfl
  have kw_read_steps := K59.kw1 (p := "text") F_read_steps fun _ _ _ _ _ _ _ => rfl
  have hA : ∀ base : Heap, LamX.TabB base mg c_law 275 → LamX.TabB base mg c__law_x_asked 268 → ∃ A : K59.Facts l.prog K mg base, A.f_law = f_law ∧ A.fd_law = fd_law ∧ A.P_law = 275 ∧ A.P__law_x_asked = 268 := fun base TB_law TB__law_x_asked => ⟨{
    n_all := n_all,
    n_dict := n_dict,
    n_enumerate := n_enumerate,
    n_int := n_int,
    n_isinstance := n_isinstance,
    n_len := n_len,
    n_list := n_list,
    n_range := n_range,
    n_repr := n_repr,
    n_str := n_str,
    n_tuple := n_tuple,
    g_HUNDREDS_steps := g_HUNDREDS_steps,
    g_HUNDREDS_texts := g_HUNDREDS_texts,
    g_LETTERS := g_LETTERS,
    g_SIGNS := g_SIGNS,
    C_BadSteps := 58,
    E_BadSteps := E_BadSteps,
    C_BadText := 79,
    E_BadText := E_BadText,
    a_WORDS := 82,
    g_WORDS := g_WORDS,
    t_WORDS := t_WORDS,
    ex_tt := ex_tt,
    ex_ts := ex_ts,
    ex_ss := ex_ss,
    kw_steps_text := kw_steps_text,
    kw_read_steps := kw_read_steps,
    c_law := c_law,
    P_law := 275,
    TB_law := TB_law,
    cd_law := cd_law,
    c__law_x_asked := c__law_x_asked,
    P__law_x_asked := 268,
    TB__law_x_asked := TB__law_x_asked,
    cd__law_x_asked := cd__law_x_asked,
    f_is_list := f_is_list,
    fd_is_list := fd_is_list,
    F_is_list := F_is_list,
    b_is_list := b_is_list,
    g_is_list := g_is_list,
    f_is_name := f_is_name,
    fd_is_name := fd_is_name,
    F_is_name := F_is_name,
    b_is_name := b_is_name,
    g_is_name := g_is_name,
    f_is_step := f_is_step,
    fd_is_step := fd_is_step,
    F_is_step := F_is_step,
    b_is_step := b_is_step,
    g_is_step := g_is_step,
    f_are_steps := f_are_steps,
    fd_are_steps := fd_are_steps,
    F_are_steps := F_are_steps,
    b_are_steps := b_are_steps,
    g_are_steps := g_are_steps,
    f_line_of := f_line_of,
    fd_line_of := fd_line_of,
    F_line_of := F_line_of,
    b_line_of := b_line_of,
    g_line_of := g_line_of,
    f_step_in := f_step_in,
    fd_step_in := fd_step_in,
    F_step_in := F_step_in,
    b_step_in := b_step_in,
    g_step_in := g_step_in,
    f_parts_of := f_parts_of,
    fd_parts_of := fd_parts_of,
    F_parts_of := F_parts_of,
    b_parts_of := b_parts_of,
    g_parts_of := g_parts_of,
    f_steps_text := f_steps_text,
    fd_steps_text := fd_steps_text,
    F_steps_text := F_steps_text,
    b_steps_text := b_steps_text,
    g_steps_text := g_steps_text,
    f_read_steps := f_read_steps,
    fd_read_steps := fd_read_steps,
    F_read_steps := F_read_steps,
    b_read_steps := b_read_steps,
    g_read_steps := g_read_steps,
    f__law_spring := f__law_spring,
    fd__law_spring := fd__law_spring,
    F__law_spring := F__law_spring,
    b__law_spring := b__law_spring,
    g__law_spring := g__law_spring,
    f__law_draw := f__law_draw,
    fd__law_draw := fd__law_draw,
    F__law_draw := F__law_draw,
    b__law_draw := b__law_draw,
    g__law_draw := g__law_draw,
    f__law_pick := f__law_pick,
    fd__law_pick := fd__law_pick,
    F__law_pick := F__law_pick,
    b__law_pick := b__law_pick,
    g__law_pick := g__law_pick,
    f__law_mixed := f__law_mixed,
    fd__law_mixed := fd__law_mixed,
    F__law_mixed := F__law_mixed,
    b__law_mixed := b__law_mixed,
    g__law_mixed := g__law_mixed,
    f__law_w_name := f__law_w_name,
    fd__law_w_name := fd__law_w_name,
    F__law_w_name := F__law_w_name,
    b__law_w_name := b__law_w_name,
    g__law_w_name := g__law_w_name,
    f__law_w_names := f__law_w_names,
    fd__law_w_names := fd__law_w_names,
    F__law_w_names := F__law_w_names,
    b__law_w_names := b__law_w_names,
    g__law_w_names := g__law_w_names,
    f__law_x_name := f__law_x_name,
    fd__law_x_name := fd__law_x_name,
    F__law_x_name := F__law_x_name,
    b__law_x_name := b__law_x_name,
    g__law_x_name := g__law_x_name,
    f__law_x_step := f__law_x_step,
    fd__law_x_step := fd__law_x_step,
    F__law_x_step := F__law_x_step,
    b__law_x_step := b__law_x_step,
    g__law_x_step := g__law_x_step,
    f__law_x_read := f__law_x_read,
    fd__law_x_read := fd__law_x_read,
    F__law_x_read := F__law_x_read,
    b__law_x_read := b__law_x_read,
    g__law_x_read := g__law_x_read,
    f__law_loose := f__law_loose,
    fd__law_loose := fd__law_loose,
    F__law_loose := F__law_loose,
    b__law_loose := b__law_loose,
    g__law_loose := g__law_loose,
    f__law_x_bent := f__law_x_bent,
    fd__law_x_bent := fd__law_x_bent,
    F__law_x_bent := F__law_x_bent,
    b__law_x_bent := b__law_x_bent,
    g__law_x_bent := g__law_x_bent,
    f__law_same := f__law_same,
    fd__law_same := fd__law_same,
    F__law_same := F__law_same,
    b__law_same := b__law_same,
    g__law_same := g__law_same,
    f__law_very := f__law_very,
    fd__law_very := fd__law_very,
    F__law_very := F__law_very,
    b__law_very := b__law_very,
    g__law_very := g__law_very,
    f__law_x_met := f__law_x_met,
    fd__law_x_met := fd__law_x_met,
    F__law_x_met := F__law_x_met,
    b__law_x_met := b__law_x_met,
    g__law_x_met := g__law_x_met,
    f_law := f_law,
    fd_law := fd_law,
    F_law := F_law,
    b_law := b_law,
    g_law := g_law,
    f__law_x_asked := f__law_x_asked,
    fd__law_x_asked := fd__law_x_asked,
    F__law_x_asked := F__law_x_asked,
    b__law_x_asked := b__law_x_asked,
    g__law_x_asked := g__law_x_asked,
    zsame := ⟨n_isinstance, n_dict, n_list, n_tuple, n_bool, n_int, n_str, n_len, n_all, n_zip⟩ }, rfl, rfl, rfl, rfl⟩
  have e : f_law = fa := by
    rw [g_law] at hmg
    exact (by injection (Option.some.inj hmg))
  subst e
  have both : ∀ {Q : Addr × Addr → Prop}, Q (c_law, 275) → Q (c__law_x_asked, 268) → ∀ p ∈ ([(c_law, 275), (c__law_x_asked, 268)] : List (Addr × Addr)), Q p := fun q0 q1 p hp => by
    simp only [List.mem_cons, List.not_mem_nil, or_false] at hp
    rcases hp with rfl | rfl <;> assumption
  refine ⟨fd_law, [(c_law, 275), (c__law_x_asked, 268)], T.SpV (K59.S_law 275 268) K, both (hT 275 (by decide)) (hT 268 (by decide)), both (nT 275 (by decide)) (nT 268 (by decide)), both hd_law hd__law_x_asked, K59.bind1 F_law fun _ _ _ _ _ _ _ => rfl, ?_, ?_⟩
  · intro H a ns hl hb ht hs
    have h4 : ∀ p ∈ ([(275, "law.<locals>.<lambda>"), (268, "_law_x_asked.<locals>.<lambda>")] : List (Addr × Str)), H p.1 = some (.tbl #[]) := fun p hp => by
      simp only [List.mem_cons, List.not_mem_nil, or_false] at hp
      rcases hp with rfl | rfl
      · exact ht (c_law, 275) (by simp)
      · exact ht (c__law_x_asked, 268) (by simp)
    exact ⟨_, _, _, _, _, ⟨⟨ns⟩, true, rfl, rfl, K59.m_law_true _, rfl, rfl⟩, rfl, K59.start (T4 := [(275, "law.<locals>.<lambda>"), (268, "_law_x_asked.<locals>.<lambda>")]) (by decide) h4 hs, fun v H' h => by
      obtain ⟨F', _, hv⟩ := h
      exact hv⟩
  · intro base KB GB TB
    obtain ⟨A, e1, e2, p0, p1⟩ := hA base (TB (c_law, 275) (by simp)) (TB (c__law_x_asked, 268) (by simp))
    have := K59.w_law (w := w) A
    rw [e1, e2, p0, p1] at this
    exact this
set_option maxRecDepth 100000 in
set_option maxHeartbeats 0 in
theorem PySem.Challenge.cw_eachfive_k59_whole_texts_of_steps_holds : PySem.Challenge.rw_eachfive_k59_whole_texts_of_steps.Holds := by
  refine K59.hd ?_
  k_fill
  refine LamG.walk_ofG (l := PySem.Challenge.rw_eachfive_k59_whole_texts_of_steps) (n := 63) (kN := 9) (xN := "script") (by first | rfl | decide +kernel) (by decide) rfl ⟨rfl, by decide, by decide⟩ (fun w h Y => PySem.W.km_in_of Y) ?F
  case F =>
    intro w mg fa h Y KX G hmg
    have ms : mg "super" = none := mg_none_of KX G (by k_is)
    refine K59.fin hmg ?_ ?_ ?_ ?_ ?_ ?_ ?_ ?_ ?_ ?_ ?_ ?_ ?_ ?_ ?_ ?_ ?_ ?_ ?_ ?_ ?_ ?_ ?_ ?_ ?_ ?_ ?_ ?_ ?_ ?_ ?_ ?_ ?_ ?_ ?_ ?_ ?_ ?_ ?_ ?_ ?_ ?_ ?_ ?_ ?_ ?_ ?_ ?_ ?_ ?_ ?_
    · exact fun P hP => PySem.W.km_tabs_of Y P (by simp only [List.mem_cons, List.not_mem_nil, or_false] at hP; rcases hP with rfl | rfl <;> first | decide | simp)
    · intro P hP; simp at hP; rcases hP with rfl | rfl <;> first | rfl | k_is | kernel_rfl
    · exact mg_none_of KX G (by k_is)
    · exact mg_none_of KX G (by k_is)
    · exact mg_none_of KX G (by k_is)
    · exact mg_none_of KX G (by k_is)
    · exact mg_none_of KX G (by k_is)
    · exact mg_none_of KX G (by k_is)
    · exact mg_none_of KX G (by k_is)
    · exact mg_none_of KX G (by k_is)
    · exact mg_none_of KX G (by k_is)
    · exact mg_none_of KX G (by k_is)
    · exact mg_none_of KX G (by k_is)
    · exact mg_none_of KX G (by k_is)
    · exact mg_none_of KX G (by k_is)
    · exact ⟨_, mg_of KX G (by k_is)⟩
    · exact ⟨_, mg_of KX G (by k_is)⟩
    · exact ⟨_, mg_of KX G (by k_is)⟩
    · exact ⟨_, mg_of KX G (by k_is)⟩
    · exact K59.bad1_mk (P := PySem.Challenge.rw_eachfive_k59_whole_texts_of_steps.prog) (C := 58) (cn := "BadSteps") (fld := "steps") (tx := "no steps") KX G (by k_is) (by k_is) (by first | k_is | kernel_rfl | rfl | decide +kernel) (by first | k_is | kernel_rfl | rfl | decide +kernel) (by first | k_is | kernel_rfl | rfl | decide +kernel) (by first | k_is | kernel_rfl | rfl | decide +kernel) (by first | k_is | kernel_rfl | rfl | decide +kernel) (by first | k_is | kernel_rfl | rfl | decide +kernel) (by first | k_is | kernel_rfl | rfl | decide +kernel) (by first | k_is | kernel_rfl | rfl | decide +kernel) (by first | k_is | kernel_rfl | rfl | decide +kernel) (by first | k_is | kernel_rfl | rfl | decide +kernel) (by first | k_is | kernel_rfl | rfl | decide +kernel) (by first | k_is | kernel_rfl | rfl | decide +kernel) ms (by first | k_is | kernel_rfl | rfl | decide +kernel) (by k_is) (by first | k_is | kernel_rfl | rfl | decide +kernel) (by k_is) (by first | k_is | kernel_rfl | rfl | decide +kernel) (by k_is) (by rfl) (by first | k_is | kernel_rfl | rfl | decide +kernel) (by k_is) (by first | k_is | kernel_rfl | rfl | decide +kernel) (by first | k_is | kernel_rfl | rfl | decide +kernel) (by first | k_is | kernel_rfl | rfl | decide +kernel) (by first | k_is | kernel_rfl | rfl | decide +kernel) (by first | k_is | kernel_rfl | rfl | decide +kernel) (by first | k_is | kernel_rfl | rfl | decide +kernel) (fun _ _ _ _ _ _ _ _ _ _ _ _ => rfl)
    · exact K59.bad2_mk (P := PySem.Challenge.rw_eachfive_k59_whole_texts_of_steps.prog) (C := 79) (cn := "BadText") (tx := "no such text") KX G (by k_is) (by k_is) (by first | k_is | kernel_rfl | rfl | decide +kernel) (by first | k_is | kernel_rfl | rfl | decide +kernel) (by first | k_is | kernel_rfl | rfl | decide +kernel) (by first | k_is | kernel_rfl | rfl | decide +kernel) (by first | k_is | kernel_rfl | rfl | decide +kernel) (by first | k_is | kernel_rfl | rfl | decide +kernel) (by first | k_is | kernel_rfl | rfl | decide +kernel) (by first | k_is | kernel_rfl | rfl | decide +kernel) (by first | k_is | kernel_rfl | rfl | decide +kernel) (by first | k_is | kernel_rfl | rfl | decide +kernel) (by first | k_is | kernel_rfl | rfl | decide +kernel) (by first | k_is | kernel_rfl | rfl | decide +kernel) (by first | k_is | kernel_rfl | rfl | decide +kernel) ms (by first | k_is | kernel_rfl | rfl | decide +kernel) (by k_is) (by first | k_is | kernel_rfl | rfl | decide +kernel) (by k_is) (by first | k_is | kernel_rfl | rfl | decide +kernel) (by k_is) (by rfl) (by first | k_is | kernel_rfl | rfl | decide +kernel) (by k_is) (by first | k_is | kernel_rfl | rfl | decide +kernel) (by first | k_is | kernel_rfl | rfl | decide +kernel)
    · exact mg_of KX G (by k_is)
    · exact K59.words (by k_is)
    · kernel_rfl
    · kernel_rfl
    · kernel_rfl
    · exact K59.fun_both (x := "is_list") (qual := "is_list") (st := K59.s_is_list) KX G (by k_is) (by k_is) (by k_is) (by k_is)
    · exact K59.fun_both (x := "is_name") (qual := "is_name") (st := K59.s_is_name) KX G (by k_is) (by k_is) (by k_is) (by k_is)
    · exact K59.fun_both (x := "is_step") (qual := "is_step") (st := K59.s_is_step) KX G (by k_is) (by k_is) (by k_is) (by k_is)
    · exact K59.fun_both (x := "are_steps") (qual := "are_steps") (st := K59.s_are_steps) KX G (by k_is) (by k_is) (by k_is) (by k_is)
    · exact K59.fun_both (x := "line_of") (qual := "line_of") (st := K59.s_line_of) KX G (by k_is) (by k_is) (by k_is) (by k_is)
    · exact K59.fun_both (x := "step_in") (qual := "step_in") (st := K59.s_step_in) KX G (by k_is) (by k_is) (by k_is) (by k_is)
    · exact K59.fun_both (x := "parts_of") (qual := "parts_of") (st := K59.s_parts_of) KX G (by k_is) (by k_is) (by k_is) (by k_is)
    · exact K59.fun_both (x := "steps_text") (qual := "steps_text") (st := K59.s_steps_text) KX G (by k_is) (by k_is) (by k_is) (by k_is)
    · exact K59.fun_both (x := "read_steps") (qual := "read_steps") (st := K59.s_read_steps) KX G (by k_is) (by k_is) (by k_is) (by k_is)
    · exact K59.fun_both (x := "_law_spring") (qual := "_law_spring") (st := K59.s__law_spring) KX G (by k_is) (by k_is) (by k_is) (by k_is)
    · exact K59.fun_both (x := "_law_draw") (qual := "_law_draw") (st := K59.s__law_draw) KX G (by k_is) (by k_is) (by k_is) (by k_is)
    · exact K59.fun_both (x := "_law_pick") (qual := "_law_pick") (st := K59.s__law_pick) KX G (by k_is) (by k_is) (by k_is) (by k_is)
    · exact K59.fun_both (x := "_law_mixed") (qual := "_law_mixed") (st := K59.s__law_mixed) KX G (by k_is) (by k_is) (by k_is) (by k_is)
    · exact K59.fun_both (x := "_law_w_name") (qual := "_law_w_name") (st := K59.s__law_w_name) KX G (by k_is) (by k_is) (by k_is) (by k_is)
    · exact K59.fun_both (x := "_law_w_names") (qual := "_law_w_names") (st := K59.s__law_w_names) KX G (by k_is) (by k_is) (by k_is) (by k_is)
    · exact K59.fun_both (x := "_law_x_name") (qual := "_law_x_name") (st := K59.s__law_x_name) KX G (by k_is) (by k_is) (by k_is) (by k_is)
    · exact K59.fun_both (x := "_law_x_step") (qual := "_law_x_step") (st := K59.s__law_x_step) KX G (by k_is) (by k_is) (by k_is) (by k_is)
    · exact K59.fun_both (x := "_law_x_read") (qual := "_law_x_read") (st := K59.s__law_x_read) KX G (by k_is) (by k_is) (by k_is) (by k_is)
    · exact K59.fun_both (x := "_law_loose") (qual := "_law_loose") (st := K59.s__law_loose) KX G (by k_is) (by k_is) (by k_is) (by k_is)
    · exact K59.fun_both (x := "_law_x_bent") (qual := "_law_x_bent") (st := K59.s__law_x_bent) KX G (by k_is) (by k_is) (by k_is) (by k_is)
    · exact K59.fun_both (x := "_law_same") (qual := "_law_same") (st := K59.s__law_same) KX G (by k_is) (by k_is) (by k_is) (by k_is)
    · exact K59.fun_both (x := "_law_very") (qual := "_law_very") (st := K59.s__law_very) KX G (by k_is) (by k_is) (by k_is) (by k_is)
    · exact K59.fun_both (x := "_law_x_met") (qual := "_law_x_met") (st := K59.s__law_x_met) KX G (by k_is) (by k_is) (by k_is) (by k_is)
    · exact K59.lam_mk (n := "law") (st := K59.s_law) (P := 275) KX G (by k_is) (by k_is) (by k_is) (by k_is) (by kernel_rfl)
    · exact K59.lam_mk (n := "_law_x_asked") (st := K59.s__law_x_asked) (P := 268) KX G (by k_is) (by k_is) (by k_is) (by k_is) (by kernel_rfl)
