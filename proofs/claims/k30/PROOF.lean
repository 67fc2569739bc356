import PyProof.Rows.All
import Wide.All
import OpenK.AllK
import Wide.FinOn
import HandS.ForMost
import HandS.Exc
import HandS.Lambda
import HandS.Wide
import HandS.WideMore
import HandS.Style
import HandS.Strs
import KE.LtData
import KE.DataEq
import HandS.IsInst
import HandS.TupLen
import HandS.NoneIn
import HandS.DictTup
import HandS.Walk
import HandS.Zip
import HandS.Comp
import HandS.ExcOwn
import HandS.CallSlots
import HandS.Defaults
import HandS.MakeKwOnly
import HandS.WordsExc
import HandS.DictComp
import HandS.ExcInit
import HandS.ExcField
import HandS.TryMany
import KE.GoesEnum
import PyProof.ReprRoads
import HandS.EndTab
import HandS.HeadHook4
import HandS.HeadWalk
import KE.GoesComp
import PySem.Challenge.RW_joinedanew_k30_whole_lines_and_turns
import HandS.Codes
import PyProof.StrLawsRepr
import HandS.HeadEnd
import HandS.HeadHook1
import HandS.HeadHook2
import HandS.HeadHook3
import HandS.Head0
import HandS.Head1
import HandS.Head2
set_option Elab.async false
set_option linter.all false
set_option maxRecDepth 100000
namespace PF
open PySem PySem.Spec PyProof.Rows L2

inductive Ty where
  | non | bool | int | str | list | tuple | dict
  deriving DecidableEq, Inhabited
def Ty.name : Ty → String
  | .non => "NoneType"
  | .bool => "bool"
  | .int => "int"
  | .str => "str"
  | .list => "list"
  | .tuple => "tuple"
  | .dict => "dict"
/-- values: data as trees, and references to what is changed -/
inductive W where
  | non | bl (b : Bool) | int (i : Int) | str (x : Str)
  | tup (ws : List W) | lst (ws : List W) | dct (kvs : List (W × W)) | ins (c : Str) (fs : List (Str × W))
  | ref (n : Nat) | glo (x : Str) | scr (ws : List W) | typ (t : Ty)
  deriving Inhabited

/-- an object that may be changed -/
inductive O where
  | lst (ws : List W) | dct (kvs : List (W × W)) | ins (c : Str) (fs : List (Str × W)) | lck (o : O)
  deriving Inhabited

abbrev AH := List O

def keyW : W → Option Key
  | .int i => some (.inl i)
  | .str x => some (.inr x)
  | _ => none
def keysW : List W → Option (List Key)
  | [] => some []
  | w :: r => match keyW w, keysW r with
    | some k, some ks => some (k :: ks)
    | _, _ => none
def tupW : W → Option (List Key)
  | .tup ws => keysW ws
  | _ => none

/-- the fixed part of a context -/
structure Cn where
  K : PySem.W.Frag
  mg : Str → Option Value
  T : List (Addr × Str)

/-- the addresses of what is tracked; those that are kept back -/
structure Rh where
  tr : List Addr
  rs : List Addr
instance : Membership Addr Rh := ⟨fun ρ p => p ∈ ρ.tr ∨ p ∈ ρ.rs⟩
theorem Rh.mem_iff {p : Addr} {ρ : Rh} : p ∈ ρ ↔ p ∈ ρ.tr ∨ p ∈ ρ.rs := Iff.rfl
def Rh.add (ρ : Rh) (p : Addr) : Rh := ⟨ρ.tr ++ [p], ρ.rs⟩
def Rh.res (ρ : Rh) (p : Addr) : Rh := ⟨ρ.tr, p :: ρ.rs⟩

/-- no table -/
abbrev NT (o : HO) : Prop := ∀ ps, o ≠ .tbl ps
/-- none of ours as yet -/
def Nw (H : Hp) (p : Addr) : Prop := ∀ o, H p = some o → ¬ NT o
theorem Nw.of {H : Hp} {p : Addr} (h : H p = none) : Nw H p := fun o e => by rw [h] at e; cases e
/-- locked for good -/
def Fz (H : Hp) (p : Addr) (u : HO) : Prop := ∃ o, H p = some (.frz o u)
theorem Fz.rd {H : Hp} {p : Addr} {u : HO} (h : Fz H p u) : Rd H p u := .inr h
mutual
inductive RV (Γ : Cn) (ρ : Rh) (H : Hp) : W → V → Prop
  | non : RV Γ ρ H .non .non
  | bl (b : Bool) : RV Γ ρ H (.bl b) (.bl b)
  | int (i : Int) : RV Γ ρ H (.int i) (.int i)
  | str (x : Str) : RV Γ ρ H (.str x) (.str x)
  | tup {ws : List W} {vs : List V} {p : Addr} (np : p ∉ ρ) (h : H p = some (.tup vs)) (r : RVs Γ ρ H ws vs) : RV Γ ρ H (.tup ws) (.ref p)
  | lst {ws : List W} {vs : List V} {p : Addr} (np : p ∉ ρ) (h : H p = some (.lst vs)) (r : RVs Γ ρ H ws vs) : RV Γ ρ H (.lst ws) (.ref p)
  | dK {kvs : List (W × W)} {kk : List (Key × V)} {p : Addr} (np : p ∉ ρ) (h : Fz H p (.dK kk)) (r : RKs Γ ρ H kvs kk) : RV Γ ρ H (.dct kvs) (.ref p)
  | dT {kvs : List (W × W)} {kk : List (List Key × V)} {p : Addr} (np : p ∉ ρ) (h : Fz H p (.dT kk)) (r : RTs Γ ρ H kvs kk) : RV Γ ρ H (.dct kvs) (.ref p)
  | ins {c : Str} {fs : List (Str × W)} {vfs : List (Str × V)} {C dx p : Addr} (np : p ∉ ρ) (g : Γ.mg c = some (.ref C)) (h : H p = some (.ins C dx vfs)) (r : RFs Γ ρ H fs vfs) : RV Γ ρ H (.ins c fs) (.ref p)
  | ref {n : Nat} {p : Addr} (h : ρ.tr[n]? = some p) : RV Γ ρ H (.ref n) (.ref p)
  | glo {x : Str} {p : Addr} (g : Γ.mg x = some (.ref p)) : RV Γ ρ H (.glo x) (.ref p)
  | typ (t : Ty) : RV Γ ρ H (.typ t) (.ty t.name)
  | scr {ws : List W} {vs : List V} {p : Addr} (h : SqL Γ.K H p vs) (np : (p ∉ ρ ∧ ∃ o, H p = some o ∧ NT o) ∨ ∀ H', SqL Γ.K H' p vs) (r : RVs Γ ρ H ws vs) : RV Γ ρ H (.scr ws) (.ref p)
inductive RVs (Γ : Cn) (ρ : Rh) (H : Hp) : List W → List V → Prop
  | nil : RVs Γ ρ H [] []
  | cons {w : W} {v : V} {ws : List W} {vs : List V} (a : RV Γ ρ H w v) (r : RVs Γ ρ H ws vs) : RVs Γ ρ H (w :: ws) (v :: vs)
inductive RKs (Γ : Cn) (ρ : Rh) (H : Hp) : List (W × W) → List (Key × V) → Prop
  | nil : RKs Γ ρ H [] []
  | cons {k w : W} {kk : Key} {v : V} {ws : List (W × W)} {vs : List (Key × V)} (e : keyW k = some kk) (a : RV Γ ρ H w v) (r : RKs Γ ρ H ws vs) : RKs Γ ρ H ((k, w) :: ws) ((kk, v) :: vs)
inductive RTs (Γ : Cn) (ρ : Rh) (H : Hp) : List (W × W) → List (List Key × V) → Prop
  | nil : RTs Γ ρ H [] []
  | cons {k w : W} {kk : List Key} {v : V} {ws : List (W × W)} {vs : List (List Key × V)} (e : tupW k = some kk) (a : RV Γ ρ H w v) (r : RTs Γ ρ H ws vs) : RTs Γ ρ H ((k, w) :: ws) ((kk, v) :: vs)
inductive RFs (Γ : Cn) (ρ : Rh) (H : Hp) : List (Str × W) → List (Str × V) → Prop
  | nil : RFs Γ ρ H [] []
  | cons {f : Str} {w : W} {v : V} {ws : List (Str × W)} {vs : List (Str × V)} (a : RV Γ ρ H w v) (r : RFs Γ ρ H ws vs) : RFs Γ ρ H ((f, w) :: ws) ((f, v) :: vs)
end

/-- what was made stays -/
structure Ext (ρ : Rh) (H : Hp) (ρ' : Rh) (H' : Hp) : Prop where
  pre : ∃ more, ρ'.tr = ρ.tr ++ more ∧ ∀ p ∈ more, Nw H p
  rs : ∃ more, ρ'.rs = more ++ ρ.rs ∧ ∀ p ∈ more, Nw H p
  keep : ∀ p o, H p = some o → p ∉ ρ.tr → NT o → H' p = some o
  dom : ∀ p o, H p = some o → NT o → ∃ o', H' p = some o' ∧ NT o'

section
variable {Γ : Cn} {ρ ρ' ρ'' : Rh} {H H' H'' : Hp}
theorem Ext.refl : Ext ρ H ρ H := ⟨⟨[], by simp, by simp⟩, ⟨[], by simp, by simp⟩, fun _ _ h _ _ => h, fun _ o h t => ⟨o, h, t⟩⟩
theorem Ext.notin (e : Ext ρ H ρ' H') {p : Addr} {o : HO} (h : H p = some o) (t : NT o) (n : p ∉ ρ) : p ∉ ρ' := by
  obtain ⟨⟨m, e1, hm⟩, ⟨m2, e2, hm2⟩, _, _⟩ := e
  intro hp
  rcases Rh.mem_iff.mp hp with hp | hp
  · rw [e1] at hp
    rcases List.mem_append.mp hp with hp | hp
    · exact n (.inl hp)
    · exact hm p hp o h t
  · rw [e2] at hp
    rcases List.mem_append.mp hp with hp | hp
    · exact hm2 p hp o h t
    · exact n (.inr hp)
theorem Ext.notinT (e : Ext ρ H ρ' H') {p : Addr} {o : HO} (h : H p = some o) (t : NT o) (n : p ∉ ρ.tr) : p ∉ ρ'.tr := fun hp => by
  obtain ⟨m, e1, hm⟩ := e.pre
  rw [e1] at hp
  rcases List.mem_append.mp hp with hp | hp
  · exact n hp
  · exact hm p hp o h t
theorem Ext.new (a : Ext ρ H ρ' H') {p : Addr} (n : Nw H' p) : Nw H p := fun o e t => by
  obtain ⟨o', e', t'⟩ := a.dom p o e t
  exact n o' e' t'
theorem Ext.trans (a : Ext ρ H ρ' H') (b : Ext ρ' H' ρ'' H'') : Ext ρ H ρ'' H'' := by
  refine ⟨?_, ?_, fun p o h n t => b.keep p o (a.keep p o h n t) (a.notinT h t n) t, fun p o h t => ?_⟩
  · obtain ⟨m1, e1, h1⟩ := a.pre
    obtain ⟨m2, e2, h2⟩ := b.pre
    refine ⟨m1 ++ m2, by rw [e2, e1, List.append_assoc], fun p hp => ?_⟩
    rcases List.mem_append.mp hp with hp | hp
    · exact h1 p hp
    · exact a.new (h2 p hp)
  · obtain ⟨m1, e1, h1⟩ := a.rs
    obtain ⟨m2, e2, h2⟩ := b.rs
    refine ⟨m2 ++ m1, by rw [e2, e1, List.append_assoc], fun p hp => ?_⟩
    rcases List.mem_append.mp hp with hp | hp
    · exact a.new (h2 p hp)
    · exact h1 p hp
  · obtain ⟨o', e', t'⟩ := a.dom p o h t
    exact b.dom p o' e' t'
theorem Ext.get (e : Ext ρ H ρ' H') {n : Nat} {p : Addr} (h : ρ.tr[n]? = some p) : ρ'.tr[n]? = some p := by
  obtain ⟨⟨m, e1, hm⟩, _⟩ := e
  have := (List.getElem?_eq_some_iff.mp h).1
  rw [e1, List.getElem?_append_left this]; exact h
/-- what is not to be changed stays; those that are kept back may be changed by whoever keeps them -/
structure Wk (ρ : Rh) (H : Hp) (ρ' : Rh) (H' : Hp) : Prop where
  keep : ∀ p o, H p = some o → p ∉ ρ → NT o → H' p = some o
  notin : ∀ p o, H p = some o → NT o → p ∉ ρ → p ∉ ρ'
  get : ∀ (n : Nat) (p : Addr), ρ.tr[n]? = some p → ρ'.tr[n]? = some p
  dom : ∀ p o, H p = some o → NT o → ∃ o', H' p = some o' ∧ NT o'
theorem Ext.wk (e : Ext ρ H ρ' H') : Wk ρ H ρ' H' := ⟨fun p o h n t => e.keep p o h (fun z => n (.inl z)) t, fun p o h t n => e.notin h t n, fun n p h => e.get h, e.dom⟩
theorem Wk.rd (e : Wk ρ H ρ' H') {p : Addr} {u : HO} (h : Rd H p u) (n : p ∉ ρ) (t : NT u) : Rd H' p u ∧ p ∉ ρ' := by
  rcases h with h | ⟨o, h⟩
  · exact ⟨.inl (e.keep _ _ h n t), e.notin _ _ h t n⟩
  · exact ⟨.inr ⟨o, e.keep _ _ h n (fun _ z => by cases z)⟩, e.notin _ _ h (fun _ z => by cases z) n⟩
theorem Wk.fz (e : Wk ρ H ρ' H') {p : Addr} {u : HO} (h : Fz H p u) (n : p ∉ ρ) : Fz H' p u ∧ p ∉ ρ' := by
  obtain ⟨o, h⟩ := h
  exact ⟨⟨o, e.keep _ _ h n (fun _ z => by cases z)⟩, e.notin _ _ h (fun _ z => by cases z) n⟩
theorem Wk.sq {K : PySem.W.Frag} (e : Wk ρ H ρ' H') {p : Addr} {vs : List V} (h : SqL K H p vs) (n : p ∉ ρ ∧ ∃ o, H p = some o ∧ NT o) : SqL K H' p vs := by
  rcases h with h | h
  · exact .inl (e.rd h n.1 (fun _ z => by cases z)).1
  · exact .inr h

mutual
theorem RV.wk (e : Wk ρ H ρ' H') : ∀ {w : W} {v : V}, RV Γ ρ H w v → RV Γ ρ' H' w v
  | _, _, .non => .non
  | _, _, .bl b => .bl b
  | _, _, .int i => .int i
  | _, _, .str x => .str x
  | _, _, .tup np h r => .tup (e.notin _ _ h (fun _ z => by cases z) np) (e.keep _ _ h np (fun _ z => by cases z)) (RVs.wk e r)
  | _, _, .lst np h r => .lst (e.notin _ _ h (fun _ z => by cases z) np) (e.keep _ _ h np (fun _ z => by cases z)) (RVs.wk e r)
  | _, _, .dK np h r => let ⟨a, b⟩ := e.fz h np; .dK b a (RKs.wk e r)
  | _, _, .dT np h r => let ⟨a, b⟩ := e.fz h np; .dT b a (RTs.wk e r)
  | _, _, .ins np g h r => .ins (e.notin _ _ h (fun _ z => by cases z) np) g (e.keep _ _ h np (fun _ z => by cases z)) (RFs.wk e r)
  | _, _, .ref h => .ref (e.get _ _ h)
  | _, _, .glo g => .glo g
  | _, _, .typ t => .typ t
  | _, _, .scr h (.inl np) r => .scr (e.sq h np) (.inl (let ⟨n, o, q, t⟩ := np; ⟨e.notin _ _ q t n, e.dom _ _ q t⟩)) (RVs.wk e r)
  | _, _, .scr h (.inr k) r => .scr (k _) (.inr k) (RVs.wk e r)
theorem RVs.wk (e : Wk ρ H ρ' H') : ∀ {w : List W} {v : List V}, RVs Γ ρ H w v → RVs Γ ρ' H' w v
  | _, _, .nil => .nil
  | _, _, .cons a r => .cons (RV.wk e a) (RVs.wk e r)
theorem RKs.wk (e : Wk ρ H ρ' H') : ∀ {w : List (W × W)} {v : List (Key × V)}, RKs Γ ρ H w v → RKs Γ ρ' H' w v
  | _, _, .nil => .nil
  | _, _, .cons k a r => .cons k (RV.wk e a) (RKs.wk e r)
theorem RTs.wk (e : Wk ρ H ρ' H') : ∀ {w : List (W × W)} {v : List (List Key × V)}, RTs Γ ρ H w v → RTs Γ ρ' H' w v
  | _, _, .nil => .nil
  | _, _, .cons k a r => .cons k (RV.wk e a) (RTs.wk e r)
theorem RFs.wk (e : Wk ρ H ρ' H') : ∀ {w : List (Str × W)} {v : List (Str × V)}, RFs Γ ρ H w v → RFs Γ ρ' H' w v
  | _, _, .nil => .nil
  | _, _, .cons a r => .cons (RV.wk e a) (RFs.wk e r)
end
theorem RV.ext (e : Ext ρ H ρ' H') {w : W} {v : V} (r : RV Γ ρ H w v) : RV Γ ρ' H' w v := r.wk e.wk
theorem RVs.ext (e : Ext ρ H ρ' H') {w : List W} {v : List V} (r : RVs Γ ρ H w v) : RVs Γ ρ' H' w v := r.wk e.wk
theorem RKs.ext (e : Ext ρ H ρ' H') {w : List (W × W)} {v : List (Key × V)} (r : RKs Γ ρ H w v) : RKs Γ ρ' H' w v := r.wk e.wk
theorem RTs.ext (e : Ext ρ H ρ' H') {w : List (W × W)} {v : List (List Key × V)} (r : RTs Γ ρ H w v) : RTs Γ ρ' H' w v := r.wk e.wk
theorem RFs.ext (e : Ext ρ H ρ' H') {w : List (Str × W)} {v : List (Str × V)} (r : RFs Γ ρ H w v) : RFs Γ ρ' H' w v := r.wk e.wk
end

/-- an object and its description -/
inductive RO (Γ : Cn) (ρ : Rh) (H : Hp) (p : Addr) : O → HO → Prop
  | lst {ws : List W} {vs : List V} (r : RVs Γ ρ H ws vs) : RO Γ ρ H p (.lst ws) (.lst vs)
  | dK {kvs : List (W × W)} {kk : List (Key × V)} (r : RKs Γ ρ H kvs kk) : RO Γ ρ H p (.dct kvs) (.dK kk)
  | dT {kvs : List (W × W)} {kk : List (List Key × V)} (r : RTs Γ ρ H kvs kk) : RO Γ ρ H p (.dct kvs) (.dT kk)
  | ins {c : Str} {fs : List (Str × W)} {vfs : List (Str × V)} {C dx : Addr} (g : Γ.mg c = some (.ref C)) (r : RFs Γ ρ H fs vfs) : RO Γ ρ H p (.ins c fs) (.ins C dx vfs)
  | lck {o : O} {ob : Obj} {u : HO} (r : RO Γ ρ H p o u) : RO Γ ρ H p (.lck o) (.frz ob u)
theorem RO.wk {Γ : Cn} {ρ ρ' : Rh} {H H' : Hp} {p : Addr} (e : Wk ρ H ρ' H') {o : O} {u : HO} (r : RO Γ ρ H p o u) : RO Γ ρ' H' p o u := by
  induction r with
  | lst r => exact .lst (r.wk e)
  | dK r => exact .dK (r.wk e)
  | dT r => exact .dT (r.wk e)
  | ins g r => exact .ins g (r.wk e)
  | lck r ih => exact .lck ih
theorem RO.ext {Γ : Cn} {ρ ρ' : Rh} {H H' : Hp} {p : Addr} (e : Ext ρ H ρ' H') {o : O} {u : HO} (r : RO Γ ρ H p o u) : RO Γ ρ' H' p o u := r.wk e.wk

structure Rep (Γ : Cn) (ρ : Rh) (h : AH) (H : Hp) : Prop where
  nd : ρ.tr.Nodup
  len : ρ.tr.length = h.length
  obj : ∀ (n : Nat) (o : O) (p : Addr), h[n]? = some o → ρ.tr[n]? = some p → ∃ u, H p = some u ∧ RO Γ ρ H p o u
  dj : ∀ p ∈ ρ.rs, p ∉ ρ.tr ∧ ∃ o, H p = some o ∧ NT o
  tabs : LamX.Tabs Γ.T H

theorem nodup_at : ∀ {l : List Addr}, l.Nodup → ∀ {i j : Nat}, l[i]? = l[j]? → i < l.length → i = j
  | a :: l, hn, 0, 0, _, _ => rfl
  | a :: l, hn, 0, j + 1, e, _ => by
    simp only [List.getElem?_cons_zero, List.getElem?_cons_succ] at e
    exact absurd (List.mem_of_getElem? e.symm) (List.nodup_cons.mp hn).1
  | a :: l, hn, i + 1, 0, e, _ => by
    simp only [List.getElem?_cons_zero, List.getElem?_cons_succ] at e
    exact absurd (List.mem_of_getElem? e) (List.nodup_cons.mp hn).1
  | a :: l, hn, i + 1, j + 1, e, hl => by
    simp only [List.getElem?_cons_succ] at e
    rw [nodup_at (List.nodup_cons.mp hn).2 e (by simpa using hl)]
section
variable {Γ : Cn} {ρ ρ' : Rh} {h h' : AH} {H H' : Hp}
theorem Rep.at (R : Rep Γ ρ h H) {n : Nat} {o : O} (e : h[n]? = some o) : ∃ (p : Addr) (u : HO), ρ.tr[n]? = some p ∧ H p = some u ∧ RO Γ ρ H p o u := by
  have hn : n < ρ.tr.length := by rw [R.len]; exact (List.getElem?_eq_some_iff.mp e).1
  obtain ⟨u, a, b⟩ := R.obj n o ρ.tr[n] e (List.getElem?_eq_getElem hn)
  exact ⟨ρ.tr[n], u, List.getElem?_eq_getElem hn, a, b⟩
theorem Rep.mem (R : Rep Γ ρ h H) {p : Addr} (hp : p ∈ ρ.tr) : ∃ (n : Nat) (o : O) (u : HO), h[n]? = some o ∧ ρ.tr[n]? = some p ∧ H p = some u ∧ RO Γ ρ H p o u := by
  obtain ⟨n, hn, e⟩ := List.mem_iff_getElem.mp hp
  have hn' : n < h.length := by rw [← R.len]; exact hn
  have e2 : ρ.tr[n]? = some p := by rw [List.getElem?_eq_getElem hn, e]
  obtain ⟨u, a, b⟩ := R.obj n h[n] p (List.getElem?_eq_getElem hn') e2
  exact ⟨n, h[n], u, List.getElem?_eq_getElem hn', e2, a, b⟩
theorem RO.notbl {p : Addr} {o : O} {u : HO} (r : RO Γ ρ H p o u) : ∀ ps, u ≠ .tbl ps := by
  intro ps z
  cases r <;> cases z
theorem RO.noext {p : Addr} {o : O} {u : HO} (r : RO Γ ρ H p o u) : ∀ φ, u ≠ .ext φ := by
  intro ps z
  cases r <;> cases z
/-- a new address is none of ours -/
theorem Rep.new (R : Rep Γ ρ h H) {p : Addr} (hp : H p = none) : p ∉ ρ := fun m => by
  rcases Rh.mem_iff.mp m with m | m
  · obtain ⟨_, _, u, _, _, e, _⟩ := R.mem m
    rw [hp] at e; cases e
  · obtain ⟨_, o, e, _⟩ := R.dj p m
    rw [hp] at e; cases e
/-- a new object that is not to be changed -/
theorem Ext.fresh {p : Addr} {o : HO} (hp : H p = none) : Ext ρ H ρ (upd H p o) := by
  have k : ∀ q u, H q = some u → upd H p o q = some u := fun q u e => by
    rw [upd_ne (ne_of_none e hp)]; exact e
  exact ⟨⟨[], by simp, by simp⟩, ⟨[], by simp, by simp⟩, fun q u e _ _ => k q u e, fun q u e t => ⟨u, k q u e, t⟩⟩
theorem Ext.freshR {p : Addr} {o : HO} (hp : H p = none) : Ext ρ H (ρ.add p) (upd H p o) := by
  have k : ∀ q u, H q = some u → upd H p o q = some u := fun q u e => by
    rw [upd_ne (ne_of_none e hp)]; exact e
  exact ⟨⟨[p], rfl, fun q hq => by rw [List.mem_singleton.mp hq]; exact .of hp⟩, ⟨[], by simp [Rh.add], by simp⟩, fun q u e _ _ => k q u e, fun q u e t => ⟨u, k q u e, t⟩⟩
theorem tabs_fresh {T : List (Addr × Str)} {p : Addr} {o : HO} (hp : H p = none) (t : LamX.Tabs T H) : LamX.Tabs T (upd H p o) := t.ext fun q u e => by
  rw [upd_ne (ne_of_none e hp)]; exact e
theorem tabs_write {p : Addr} {u u' : HO} {T : List (Addr × Str)} (e : H p = some u) (t : NT u) (nx : ∀ φ, u ≠ .ext φ) (t1 : LamX.Tabs T H) : LamX.Tabs T (upd H p u') := by
  intro x hx
  obtain ⟨ps, h1, h2, h3⟩ := t1 x hx
  refine ⟨ps, ?_, h2, fun pos cv hc => ?_⟩
  · have : x.1 ≠ p := fun z => by rw [z, e] at h1; exact t ps (Option.some.inj h1)
    rw [upd_ne this]; exact h1
  · obtain ⟨c, e1, e2⟩ := h3 pos cv hc
    refine ⟨c, e1, ?_⟩
    have : c ≠ p := fun z => by rw [z, e] at e2; exact nx _ (Option.some.inj e2)
    rw [upd_ne this]; exact e2
theorem Rep.fresh (R : Rep Γ ρ h H) {p : Addr} {o : HO} (hp : H p = none) : Rep Γ ρ h (upd H p o) := by
  have E : Ext ρ H ρ (upd H p o) := Ext.fresh hp
  refine ⟨R.nd, R.len, fun n ob q e1 e2 => ?_, fun q hq => ⟨(R.dj q hq).1, let ⟨o, e, t⟩ := (R.dj q hq).2; E.dom _ _ e t⟩, tabs_fresh hp R.tabs⟩
  obtain ⟨u, a, b⟩ := R.obj n ob q e1 e2
  exact ⟨u, by rw [upd_ne (ne_of_none a hp)]; exact a, b.ext E⟩
theorem Rep.freshR (R : Rep Γ ρ h H) {p : Addr} {o : O} {u : HO} (hp : H p = none) (r : RO Γ (ρ.add p) (upd H p u) p o u) : Rep Γ (ρ.add p) (h ++ [o]) (upd H p u) := by
  have E : Ext ρ H (ρ.add p) (upd H p u) := Ext.freshR hp
  refine ⟨?_, by simp [Rh.add, R.len], fun n ob q e1 e2 => ?_, fun q hq => ?_, tabs_fresh hp R.tabs⟩
  · show (ρ.tr ++ [p]).Nodup
    rw [List.nodup_append]
    refine ⟨R.nd, by simp, fun a ha b hb => ?_⟩
    rw [List.mem_singleton] at hb
    subst hb
    intro z; subst z
    exact R.new hp (.inl ha)
  · have e2 : (ρ.tr ++ [p])[n]? = some q := e2
    by_cases hn : n < h.length
    · rw [List.getElem?_append_left hn] at e1
      rw [List.getElem?_append_left (by rw [R.len]; exact hn)] at e2
      obtain ⟨u', a, b⟩ := R.obj n ob q e1 e2
      exact ⟨u', by rw [upd_ne (ne_of_none a hp)]; exact a, b.ext E⟩
    · rw [List.getElem?_append_right (by omega)] at e1
      rw [List.getElem?_append_right (by rw [R.len]; omega)] at e2
      have : n - h.length = 0 := by
        have := (List.getElem?_eq_some_iff.mp e1).1
        simp only [List.length_singleton] at this
        omega
      rw [R.len] at e2
      rw [this] at e1 e2
      simp only [List.getElem?_cons_zero, Option.some.injEq] at e1 e2
      subst e1 e2
      exact ⟨u, upd_same, r⟩
  · obtain ⟨n1, o', e', t'⟩ := R.dj q hq
    refine ⟨fun m => ?_, E.dom _ _ e' t'⟩
    rcases List.mem_append.mp m with m | m
    · exact n1 m
    · rw [List.mem_singleton] at m
      subst m
      rw [hp] at e'; cases e'
/-- one of ours is changed -/
theorem Ext.write {p : Addr} {u u' : HO} (hm : p ∈ ρ.tr) (e : H p = some u) (t : NT u) (nx : ∀ φ, u ≠ .ext φ) (t' : NT u' := by intro _ z; cases z) : Ext ρ H ρ (upd H p u') := by
  refine ⟨⟨[], by simp, by simp⟩, ⟨[], by simp, by simp⟩, fun q o e1 n1 _ => ?_, fun q o e1 t1 => ?_⟩
  · have : q ≠ p := fun z => n1 (z ▸ hm)
    rw [upd_ne this]; exact e1
  · by_cases hq : q = p
    · subst hq; exact ⟨u', upd_same, t'⟩
    · exact ⟨o, by rw [upd_ne hq]; exact e1, t1⟩
theorem Rh.at_mem {n : Nat} {p : Addr} (hp : ρ.tr[n]? = some p) : p ∈ ρ.tr := List.mem_of_getElem? hp
theorem Rep.write (R : Rep Γ ρ h H) {n : Nat} {p : Addr} {o o' : O} {u u' : HO} (hp : ρ.tr[n]? = some p) (ho : h[n]? = some o) (e : H p = some u) (r0 : RO Γ ρ H p o u)
    (r : RO Γ ρ (upd H p u') p o' u') : Ext ρ H ρ (upd H p u') ∧ Rep Γ ρ (h.set n o') (upd H p u') := by
  have E : Ext ρ H ρ (upd H p u') := Ext.write (Rh.at_mem hp) e r0.notbl r0.noext r.notbl
  refine ⟨E, R.nd, by simp [R.len], fun m ob q e1 e2 => ?_, fun q hq => ⟨(R.dj q hq).1, let ⟨o, e, t⟩ := (R.dj q hq).2; E.dom _ _ e t⟩, tabs_write e r0.notbl r0.noext R.tabs⟩
  by_cases hm : m = n
  · subst hm
    rw [hp] at e2
    cases e2
    rw [List.getElem?_set_self (List.getElem?_eq_some_iff.mp ho).1] at e1
    cases e1
    exact ⟨u', upd_same, r⟩
  · rw [List.getElem?_set_ne (fun z => hm z.symm)] at e1
    obtain ⟨u2, a, b⟩ := R.obj m ob q e1 e2
    have hq : q ≠ p := fun z => by
      subst z
      obtain ⟨h2, e4⟩ := List.getElem?_eq_some_iff.mp e2
      exact hm (nodup_at R.nd (e2.trans hp.symm) h2)
    exact ⟨u2, by rw [upd_ne hq]; exact a, b.ext E⟩
/-- one that is kept back is changed -/
theorem Wk.write {p : Addr} {u u' : HO} (hp : p ∈ ρ.rs) (e : H p = some u) (t' : NT u' := by intro _ z; cases z) : Wk ρ H ρ (upd H p u') :=
  ⟨fun q o e1 n _ => by
    have : q ≠ p := fun z => n (.inr (z ▸ hp))
    rw [upd_ne this]; exact e1, fun _ _ _ _ n => n, fun _ _ h => h, fun q o e1 t1 => by
    by_cases hq : q = p
    · subst hq; exact ⟨u', upd_same, t'⟩
    · exact ⟨o, by rw [upd_ne hq]; exact e1, t1⟩⟩
theorem Rep.writeR (R : Rep Γ ρ h H) {p : Addr} {u u' : HO} (hp : p ∈ ρ.rs) (e : H p = some u) (t : ∀ ps, u ≠ .tbl ps) (nx : ∀ φ, u ≠ .ext φ) (t' : NT u' := by intro _ z; cases z) : Rep Γ ρ h (upd H p u') := by
  have E : Wk ρ H ρ (upd H p u') := Wk.write hp e t'
  refine ⟨R.nd, R.len, fun n ob q e1 e2 => ?_, fun q hq => ⟨(R.dj q hq).1, let ⟨o, e, t⟩ := (R.dj q hq).2; E.dom _ _ e t⟩, tabs_write e t nx R.tabs⟩
  obtain ⟨u2, a, b⟩ := R.obj n ob q e1 e2
  have hq : q ≠ p := fun z => by
    subst z
    exact (R.dj q hp).1 (List.mem_of_getElem? e2)
  exact ⟨u2, by rw [upd_ne hq]; exact a, b.wk E⟩
/-- .. seen from where it was not yet -/
theorem Ext.writeN {ρ0 : Rh} {H0 : Hp} {p : Addr} {u u' : HO} (x : Ext ρ0 H0 ρ H) (n : Nw H0 p) (e : H p = some u) (t : ∀ ps, u ≠ .tbl ps) (nx : ∀ φ, u ≠ .ext φ) (t' : NT u' := by intro _ z; cases z) : Ext ρ0 H0 ρ (upd H p u') := by
  have ne : ∀ q o, H0 q = some o → NT o → q ≠ p := fun q o h t z => n o (z ▸ h) t
  refine ⟨x.pre, x.rs, fun q o h m t => ?_, fun q o h t => ?_⟩
  · rw [upd_ne (ne q o h t)]; exact x.keep q o h m t
  · rw [upd_ne (ne q o h t)]; exact x.dom q o h t
end

/-! ### keeping back -/
section
variable {Γ : Cn} {ρ ρ2 : Rh} {H : Hp} {D : Addr}
/-- a new object is kept back -/
theorem Ext.res {o : HO} (hD : H D = none) : Ext ρ H (ρ.res D) (upd H D o) := by
  have k : ∀ q u, H q = some u → upd H D o q = some u := fun q u e => by
    rw [upd_ne (ne_of_none e hD)]; exact e
  exact ⟨⟨[], by simp [Rh.res], by simp⟩, ⟨[D], rfl, fun q hq => by rw [List.mem_singleton.mp hq]; exact .of hD⟩, fun q u e _ _ => k q u e, fun q u e t => ⟨u, k q u e, t⟩⟩
theorem Rep.res {h : AH} {o : HO} (R : Rep Γ ρ h H) (hD : H D = none) (t' : NT o := by intro _ z; cases z) : Rep Γ (ρ.res D) h (upd H D o) := by
  have E0 : Ext ρ H (ρ.res D) (upd H D o) := Ext.res hD
  refine ⟨R.nd, R.len, fun n ob q e1 e2 => ?_, fun q hq => ?_, tabs_fresh hD R.tabs⟩
  · obtain ⟨u, a, b⟩ := R.obj n ob q e1 e2
    exact ⟨u, by rw [upd_ne (ne_of_none a hD)]; exact a, b.ext E0⟩
  · rcases List.mem_cons.mp hq with e | hq
    · subst e
      exact ⟨fun m => R.new hD (.inl m), o, upd_same, t'⟩
    · exact ⟨(R.dj q hq).1, let ⟨o, e, t⟩ := (R.dj q hq).2; E0.dom _ _ e t⟩
/-- fewer are kept back -/
structure Sub (ρ2 ρ : Rh) : Prop where
  tr : ρ2.tr = ρ.tr
  rs : ∀ p ∈ ρ2.rs, p ∈ ρ.rs
theorem Sub.notin (u : Sub ρ2 ρ) {p : Addr} (n : p ∉ ρ) : p ∉ ρ2 := fun m => by
  rcases Rh.mem_iff.mp m with m | m
  · exact n (.inl (by rw [← u.tr]; exact m))
  · exact n (.inr (u.rs p m))
mutual
theorem RV.sub (u : Sub ρ2 ρ) : ∀ {w : W} {v : V}, RV Γ ρ H w v → RV Γ ρ2 H w v
  | _, _, .non => .non
  | _, _, .bl b => .bl b
  | _, _, .int i => .int i
  | _, _, .str x => .str x
  | _, _, .tup np h r => .tup (u.notin np) h (RVs.sub u r)
  | _, _, .lst np h r => .lst (u.notin np) h (RVs.sub u r)
  | _, _, .dK np h r => .dK (u.notin np) h (RKs.sub u r)
  | _, _, .dT np h r => .dT (u.notin np) h (RTs.sub u r)
  | _, _, .ins np g h r => .ins (u.notin np) g h (RFs.sub u r)
  | _, _, .ref h => .ref (by rw [u.tr]; exact h)
  | _, _, .glo g => .glo g
  | _, _, .typ t => .typ t
  | _, _, .scr h np r => .scr h (np.imp (fun np => ⟨u.notin np.1, np.2⟩) id) (RVs.sub u r)
theorem RVs.sub (u : Sub ρ2 ρ) : ∀ {w : List W} {v : List V}, RVs Γ ρ H w v → RVs Γ ρ2 H w v
  | _, _, .nil => .nil
  | _, _, .cons a r => .cons (RV.sub u a) (RVs.sub u r)
theorem RKs.sub (u : Sub ρ2 ρ) : ∀ {w : List (W × W)} {v : List (Key × V)}, RKs Γ ρ H w v → RKs Γ ρ2 H w v
  | _, _, .nil => .nil
  | _, _, .cons k a r => .cons k (RV.sub u a) (RKs.sub u r)
theorem RTs.sub (u : Sub ρ2 ρ) : ∀ {w : List (W × W)} {v : List (List Key × V)}, RTs Γ ρ H w v → RTs Γ ρ2 H w v
  | _, _, .nil => .nil
  | _, _, .cons k a r => .cons k (RV.sub u a) (RTs.sub u r)
theorem RFs.sub (u : Sub ρ2 ρ) : ∀ {w : List (Str × W)} {v : List (Str × V)}, RFs Γ ρ H w v → RFs Γ ρ2 H w v
  | _, _, .nil => .nil
  | _, _, .cons a r => .cons (RV.sub u a) (RFs.sub u r)
end
theorem RO.sub (s : Sub ρ2 ρ) {p : Addr} {o : O} {u : HO} (r : RO Γ ρ H p o u) : RO Γ ρ2 H p o u := by
  induction r with
  | lst r => exact .lst (r.sub s)
  | dK r => exact .dK (r.sub s)
  | dT r => exact .dT (r.sub s)
  | ins g r => exact .ins g (r.sub s)
  | lck r ih => exact .lck ih
theorem Rep.sub {h : AH} (s : Sub ρ2 ρ) (R : Rep Γ ρ h H) : Rep Γ ρ2 h H :=
  ⟨by rw [s.tr]; exact R.nd, by rw [s.tr]; exact R.len, fun n ob q e1 e2 => let ⟨u, a, b⟩ := R.obj n ob q e1 (by rw [← s.tr]; exact e2); ⟨u, a, b.sub s⟩, fun q hq => by rw [s.tr]; exact R.dj q (s.rs q hq), R.tabs⟩
/-- back to what was kept back at the start -/
def Rh.back (ρ ρ2 : Rh) : Rh := ⟨ρ2.tr, ρ.rs⟩
theorem Ext.sub {H' : Hp} (e : Ext ρ H ρ2 H') : Sub (ρ.back ρ2) ρ2 := ⟨rfl, fun p hp => by
  obtain ⟨m, q, _⟩ := e.rs
  rw [q]
  exact List.mem_append_right _ hp⟩
theorem Ext.back {H' : Hp} (e : Ext ρ H ρ2 H') : Ext ρ H (ρ.back ρ2) H' := ⟨e.pre, ⟨[], by simp [Rh.back], by simp⟩, e.keep, e.dom⟩
end

/-! ### results -/
inductive Res (α : Type) where
  | ok (a : α) (h : AH)
  | exc (c : Str) (fs : List (Str × W)) (h : AH)
  | bad
abbrev M (α : Type) := AH → Res α
def Res.bind {α β : Type} (r : Res α) (f : α → M β) : Res β := match r with
  | .ok a h => f a h
  | .exc c fs h => .exc c fs h
  | .bad => .bad

inductive RExc (Γ : Cn) (ρ : Rh) (H : Hp) (c : Str) (fs : List (Str × W)) : Value → Option Addr → Prop
  | mk {C dp : Addr} {vfs : List (Str × V)} (g : Γ.mg c = some (.ref C)) (np : dp ∉ ρ) (h : H dp = some (.xd vfs)) (r : RFs Γ ρ H fs vfs) : RExc Γ ρ H c fs (.ref C) (some dp)

abbrev Env := List (Option W)
def REnv (Γ : Cn) (ρ : Rh) (H : Hp) (env : Env) (σ : L2.St) : Prop :=
  env.length = σ.length ∧ ∀ (i : Nat) (w : W), env[i]? = some (some w) → ∃ v, σ[i]? = some (some v) ∧ RV Γ ρ H w v

section
variable {Γ : Cn} {ρ ρ' : Rh} {h h' : AH} {H H' : Hp} {env : Env} {σ : L2.St}
theorem REnv.ext (e : Ext ρ H ρ' H') (r : REnv Γ ρ H env σ) : REnv Γ ρ' H' env σ :=
  ⟨r.1, fun i w q => let ⟨v, a, b⟩ := r.2 i w q; ⟨v, a, b.ext e⟩⟩
theorem RFs.lookup {fs : List (Str × W)} {vfs : List (Str × V)} {f : Str} : RFs Γ ρ H fs vfs → ∀ {w : W}, fs.lookup f = some w → ∃ v, vfs.lookup f = some v ∧ RV Γ ρ H w v
  | .nil, _, e => by simp at e
  | .cons (f := g) (w := w0) a r, w, e => by
    by_cases hg : (f == g) = true
    · simp only [List.lookup, hg] at e ⊢
      cases e; exact ⟨_, rfl, a⟩
    · simp only [List.lookup, hg] at e ⊢
      exact RFs.lookup r e
theorem REnv.set (r : REnv Γ ρ H env σ) {i : Nat} {w : W} {v : V} (a : RV Γ ρ H w v) : REnv Γ ρ H (env.set i (some w)) (σ.set i (some v)) := by
  refine ⟨by simp [r.1], fun j w' e => ?_⟩
  by_cases hj : i = j
  · subst hj
    by_cases hl : i < env.length
    · rw [List.getElem?_set_self hl] at e
      cases e
      exact ⟨v, by rw [List.getElem?_set_self (by rw [← r.1]; exact hl)], a⟩
    · rw [List.getElem?_eq_none (by simpa using hl)] at e; cases e
  · rw [List.getElem?_set_ne hj] at e ⊢
    exact r.2 j w' e
def wipeW (env : Env) : List Nat → Env
  | [] => env
  | v :: vs => (wipeW env vs).set v none
theorem REnv.unset (r : REnv Γ ρ H env σ) (i : Nat) : REnv Γ ρ H (env.set i none) (σ.set i none) := by
  refine ⟨by simp [r.1], fun j w' e => ?_⟩
  by_cases hj : i = j
  · subst hj
    by_cases hl : i < env.length
    · rw [List.getElem?_set_self hl] at e; cases e
    · rw [List.getElem?_eq_none (by simpa using hl)] at e; cases e
  · rw [List.getElem?_set_ne hj] at e ⊢
    exact r.2 j w' e
theorem REnv.wipe (r : REnv Γ ρ H env σ) : ∀ vs : List Nat, REnv Γ ρ H (wipeW env vs) (L2.wipe σ vs)
  | [] => r
  | v :: vs => (REnv.wipe r vs).unset v
end

/-- what is wanted of an exception -/
abbrev XW := Value → Option Addr → Hp → Prop
/-- the outcome of an expression -/
def Out (Γ : Cn) (ρ : Rh) (H : Hp) (r : Res W) (Q : VK) (E : XW) : Prop := match r with
  | .ok w h' => ∀ ρ' H' v, Ext ρ H ρ' H' → Rep Γ ρ' h' H' → RV Γ ρ' H' w v → Q v H'
  | .exc c fs h' => ∀ ρ' H' cls d, Ext ρ H ρ' H' → Rep Γ ρ' h' H' → RExc Γ ρ' H' c fs cls d → E cls d H'
  | .bad => False
abbrev EF := Env → M W
def tE (Γ : Cn) (Wx : WX) (f : EF) : TE := fun σ H Q => ∃ (ρ : Rh) (h : AH) (env : Env), Rep Γ ρ h H ∧ REnv Γ ρ H env σ ∧ Out Γ ρ H (f env h) Q (fun cls d H' => Wx cls d σ H')
/-- arguments -/
def OutL (Γ : Cn) (ρ : Rh) (H : Hp) (r : Res (List W)) (Q : List V → Hp → Prop) (E : XW) : Prop := match r with
  | .ok w h' => ∀ ρ' H' v, Ext ρ H ρ' H' → Rep Γ ρ' h' H' → RVs Γ ρ' H' w v → Q v H'
  | .exc c fs h' => ∀ ρ' H' cls d, Ext ρ H ρ' H' → Rep Γ ρ' h' H' → RExc Γ ρ' H' c fs cls d → E cls d H'
  | .bad => False
abbrev LF := Env → M (List W)
def tA (Γ : Cn) (Wx : WX) (f : LF) : TA := fun σ H Q => ∃ (ρ : Rh) (h : AH) (env : Env), Rep Γ ρ h H ∧ REnv Γ ρ H env σ ∧ OutL Γ ρ H (f env h) Q (fun cls d H' => Wx cls d σ H')
/-- tests -/
def OutB (Γ : Cn) (ρ : Rh) (H : Hp) (r : Res Bool) (Q : Bool → Hp → Prop) (E : XW) : Prop := match r with
  | .ok w h' => ∀ ρ' H', Ext ρ H ρ' H' → Rep Γ ρ' h' H' → Q w H'
  | .exc c fs h' => ∀ ρ' H' cls d, Ext ρ H ρ' H' → Rep Γ ρ' h' H' → RExc Γ ρ' H' c fs cls d → E cls d H'
  | .bad => False
abbrev BF := Env → M Bool
def tT (Γ : Cn) (Wx : WX) (f : BF) : TT := fun σ H Q => ∃ (ρ : Rh) (h : AH) (env : Env), Rep Γ ρ h H ∧ REnv Γ ρ H env σ ∧ OutB Γ ρ H (f env h) Q (fun cls d H' => Wx cls d σ H')

/-! ### statements -/
inductive SRes where
  | nx (env : Env) (h : AH) | rt (w : W) (h : AH) | bk (env : Env) (h : AH) | ct (env : Env) (h : AH)
  | exc (c : Str) (fs : List (Str × W)) (env : Env) (h : AH) | bad
abbrev SF := Env → AH → SRes
def OutS (Γ : Cn) (ρ : Rh) (H : Hp) (r : SRes) (D : Ends) (Wx : WX) : Prop := match r with
  | .nx env h' => ∀ ρ' H' σ', Ext ρ H ρ' H' → Rep Γ ρ' h' H' → REnv Γ ρ' H' env σ' → D.nx σ' H'
  | .bk env h' => ∀ ρ' H' σ', Ext ρ H ρ' H' → Rep Γ ρ' h' H' → REnv Γ ρ' H' env σ' → D.bk σ' H'
  | .ct env h' => ∀ ρ' H' σ', Ext ρ H ρ' H' → Rep Γ ρ' h' H' → REnv Γ ρ' H' env σ' → D.ct σ' H'
  | .rt w h' => ∀ ρ' H' v, Ext ρ H ρ' H' → Rep Γ ρ' h' H' → RV Γ ρ' H' w v → D.rt v H'
  | .exc c fs env h' => ∀ ρ' H' σ' cls d, Ext ρ H ρ' H' → Rep Γ ρ' h' H' → REnv Γ ρ' H' env σ' → RExc Γ ρ' H' c fs cls d → Wx cls d σ' H'
  | .bad => False
def tS (Γ : Cn) (Wx : WX) (f : SF) : TS := fun D σ H => ∃ (ρ : Rh) (h : AH) (env : Env), Rep Γ ρ h H ∧ REnv Γ ρ H env σ ∧ OutS Γ ρ H (f env h) D Wx

abbrev Cx.cn (X : Cx) (T : List (Addr × Str)) : Cn := ⟨X.K, X.mg, T⟩
/-- e does what f tells -/
abbrev EE (X : Cx) (T : List (Addr × Str)) (Wx : WX) (e : Expr) (f : EF) : Prop := PE X e (tE (Cx.cn X T) Wx f)
abbrev EA (X : Cx) (T : List (Addr × Str)) (Wx : WX) (es : List Expr) (f : LF) : Prop := PA X es (tA (Cx.cn X T) Wx f)
abbrev ET (X : Cx) (T : List (Addr × Str)) (Wx : WX) (e : Expr) (f : BF) : Prop := PT X e (tT (Cx.cn X T) Wx f)
abbrev ES (X : Cx) (T : List (Addr × Str)) (Wx : WX) (st : Stmt) (f : SF) : Prop := PS X st (tS (Cx.cn X T) Wx f)
abbrev ESs (X : Cx) (T : List (Addr × Str)) (Wx : WX) (st : List Stmt) (f : SF) : Prop := PSs X st (tS (Cx.cn X T) Wx f)

theorem PE.imp {X : Cx} {e : Expr} {t t' : TE} (p : PE X e t) (h : ∀ σ H Q, t' σ H Q → t σ H Q) : PE X e t' := ⟨fun pins s σ H Q I q => p.run pins s σ H Q I (h _ _ _ q)⟩
theorem PA.imp {X : Cx} {e : List Expr} {t t' : TA} (p : PA X e t) (h : ∀ σ H Q, t' σ H Q → t σ H Q) : PA X e t' := ⟨fun pos pins s σ H Q I q => p.run pos pins s σ H Q I (h _ _ _ q)⟩
theorem PT.imp {X : Cx} {e : Expr} {t t' : TT} (p : PT X e t) (h : ∀ σ H Q, t' σ H Q → t σ H Q) : PT X e t' := ⟨fun pins s σ H Q I q => p.run pins s σ H Q I (h _ _ _ q)⟩
theorem PS.imp {X : Cx} {e : Stmt} {t t' : TS} (p : PS X e t) (h : ∀ D σ H, t' D σ H → t D σ H) : PS X e t' := ⟨fun pins s σ H D I q => p.run pins s σ H D I (h _ _ _ q)⟩
theorem PSs.imp {X : Cx} {e : List Stmt} {t t' : TS} (p : PSs X e t) (h : ∀ D σ H, t' D σ H → t D σ H) : PSs X e t' := ⟨fun pins s σ H D I q => p.run pins s σ H D I (h _ _ _ q)⟩

section
variable {Γ : Cn} {ρ ρ1 : Rh} {h : AH} {H H1 : Hp} {Q : VK} {E E' : XW}
/-- an outcome seen from further on -/
theorem Out.from (e : Ext ρ H ρ1 H1) {r : Res W} (o : Out Γ ρ H r Q E) : Out Γ ρ1 H1 r Q E := by
  cases r with
  | ok w h' => exact fun ρ' H' v x R rv => o ρ' H' v (e.trans x) R rv
  | exc c fs h' => exact fun ρ' H' cls d x R rv => o ρ' H' cls d (e.trans x) R rv
  | bad => exact o
theorem OutL.from (e : Ext ρ H ρ1 H1) {r : Res (List W)} {Q : List V → Hp → Prop} (o : OutL Γ ρ H r Q E) : OutL Γ ρ1 H1 r Q E := by
  cases r with
  | ok w h' => exact fun ρ' H' v x R rv => o ρ' H' v (e.trans x) R rv
  | exc c fs h' => exact fun ρ' H' cls d x R rv => o ρ' H' cls d (e.trans x) R rv
  | bad => exact o
theorem OutB.from (e : Ext ρ H ρ1 H1) {r : Res Bool} {Q : Bool → Hp → Prop} (o : OutB Γ ρ H r Q E) : OutB Γ ρ1 H1 r Q E := by
  cases r with
  | ok w h' => exact fun ρ' H' x R => o ρ' H' (e.trans x) R
  | exc c fs h' => exact fun ρ' H' cls d x R rv => o ρ' H' cls d (e.trans x) R rv
  | bad => exact o
theorem OutS.from (e : Ext ρ H ρ1 H1) {r : SRes} {D : Ends} {Wx : WX} (o : OutS Γ ρ H r D Wx) : OutS Γ ρ1 H1 r D Wx := by
  cases r with
  | nx env h' => exact fun ρ' H' v x R rv => o ρ' H' v (e.trans x) R rv
  | bk env h' => exact fun ρ' H' v x R rv => o ρ' H' v (e.trans x) R rv
  | ct env h' => exact fun ρ' H' v x R rv => o ρ' H' v (e.trans x) R rv
  | rt w h' => exact fun ρ' H' v x R rv => o ρ' H' v (e.trans x) R rv
  | exc c fs env h' => exact fun ρ' H' σ' cls d x R re rv => o ρ' H' σ' cls d (e.trans x) R re rv
  | bad => exact o
end
end PF
set_option Elab.async false
set_option linter.all false
set_option maxRecDepth 100000
namespace PF
open PySem PySem.Spec PyProof.Rows L2

section
variable {Γ : Cn} {ρ ρ1 : Rh} {h : AH} {H H1 : Hp} {Q Q' : VK} {E E' : XW}
theorem Out.imp {r : Res W} (o : Out Γ ρ H r Q E) (k : ∀ v H1, Q v H1 → Q' v H1) : Out Γ ρ H r Q' E := by
  cases r with
  | ok w h' => exact fun ρ' H' v x R rv => k _ _ (o ρ' H' v x R rv)
  | exc c fs h' => exact o
  | bad => exact o
theorem OutL.imp {r : Res (List W)} {Q Q' : List V → Hp → Prop} (o : OutL Γ ρ H r Q E) (k : ∀ v H1, Q v H1 → Q' v H1) : OutL Γ ρ H r Q' E := by
  cases r with
  | ok w h' => exact fun ρ' H' v x R rv => k _ _ (o ρ' H' v x R rv)
  | exc c fs h' => exact o
  | bad => exact o
theorem OutB.imp {r : Res Bool} {Q Q' : Bool → Hp → Prop} (o : OutB Γ ρ H r Q E) (k : ∀ v H1, Q v H1 → Q' v H1) : OutB Γ ρ H r Q' E := by
  cases r with
  | ok w h' => exact fun ρ' H' x R => k _ _ (o ρ' H' x R)
  | exc c fs h' => exact o
  | bad => exact o
/-- what is known behind a part -/
structure Aft (Γ : Cn) (ρ : Rh) (H : Hp) (w : W) (h1 : AH) (v : V) (H1 : Hp) (P : Rh → Prop) : Prop where
  ex : ∃ ρ1, Ext ρ H ρ1 H1 ∧ Rep Γ ρ1 h1 H1 ∧ RV Γ ρ1 H1 w v ∧ P ρ1
theorem Out.bind {r : Res W} {k : W → M W} (o : Out Γ ρ H (r.bind k) Q E) :
    Out Γ ρ H r (fun v H1 => ∃ ρ1 h1 w1, Ext ρ H ρ1 H1 ∧ Rep Γ ρ1 h1 H1 ∧ RV Γ ρ1 H1 w1 v ∧ Out Γ ρ1 H1 (k w1 h1) Q E) E := by
  cases r with
  | ok w h' => exact fun ρ' H' v x R rv => ⟨ρ', h', w, x, R, rv, Out.from x o⟩
  | exc c fs h' => exact o
  | bad => exact o
theorem Out.bindL {r : Res (List W)} {k : List W → M W} (o : Out Γ ρ H (r.bind k) Q E) :
    OutL Γ ρ H r (fun v H1 => ∃ ρ1 h1 w1, Ext ρ H ρ1 H1 ∧ Rep Γ ρ1 h1 H1 ∧ RVs Γ ρ1 H1 w1 v ∧ Out Γ ρ1 H1 (k w1 h1) Q E) E := by
  cases r with
  | ok w h' => exact fun ρ' H' v x R rv => ⟨ρ', h', w, x, R, rv, Out.from x o⟩
  | exc c fs h' => exact o
  | bad => exact o
theorem Out.bindB {r : Res Bool} {k : Bool → M W} (o : Out Γ ρ H (r.bind k) Q E) :
    OutB Γ ρ H r (fun b H1 => ∃ ρ1 h1, Ext ρ H ρ1 H1 ∧ Rep Γ ρ1 h1 H1 ∧ Out Γ ρ1 H1 (k b h1) Q E) E := by
  cases r with
  | ok w h' => exact fun ρ' H' x R => ⟨ρ', h', x, R, Out.from x o⟩
  | exc c fs h' => exact o
  | bad => exact o
theorem OutL.bind {r : Res W} {k : W → M (List W)} {Q : List V → Hp → Prop} (o : OutL Γ ρ H (r.bind k) Q E) :
    Out Γ ρ H r (fun v H1 => ∃ ρ1 h1 w1, Ext ρ H ρ1 H1 ∧ Rep Γ ρ1 h1 H1 ∧ RV Γ ρ1 H1 w1 v ∧ OutL Γ ρ1 H1 (k w1 h1) Q E) E := by
  cases r with
  | ok w h' => exact fun ρ' H' v x R rv => ⟨ρ', h', w, x, R, rv, OutL.from x o⟩
  | exc c fs h' => exact o
  | bad => exact o
theorem OutL.bindL {r : Res (List W)} {k : List W → M (List W)} {Q : List V → Hp → Prop} (o : OutL Γ ρ H (r.bind k) Q E) :
    OutL Γ ρ H r (fun v H1 => ∃ ρ1 h1 w1, Ext ρ H ρ1 H1 ∧ Rep Γ ρ1 h1 H1 ∧ RVs Γ ρ1 H1 w1 v ∧ OutL Γ ρ1 H1 (k w1 h1) Q E) E := by
  cases r with
  | ok w h' => exact fun ρ' H' v x R rv => ⟨ρ', h', w, x, R, rv, OutL.from x o⟩
  | exc c fs h' => exact o
  | bad => exact o
theorem OutB.bind {r : Res W} {k : W → M Bool} {Q : Bool → Hp → Prop} (o : OutB Γ ρ H (r.bind k) Q E) :
    Out Γ ρ H r (fun v H1 => ∃ ρ1 h1 w1, Ext ρ H ρ1 H1 ∧ Rep Γ ρ1 h1 H1 ∧ RV Γ ρ1 H1 w1 v ∧ OutB Γ ρ1 H1 (k w1 h1) Q E) E := by
  cases r with
  | ok w h' => exact fun ρ' H' v x R rv => ⟨ρ', h', w, x, R, rv, OutB.from x o⟩
  | exc c fs h' => exact o
  | bad => exact o
theorem OutB.bindB {r : Res Bool} {k : Bool → M Bool} {Q : Bool → Hp → Prop} (o : OutB Γ ρ H (r.bind k) Q E) :
    OutB Γ ρ H r (fun b H1 => ∃ ρ1 h1, Ext ρ H ρ1 H1 ∧ Rep Γ ρ1 h1 H1 ∧ OutB Γ ρ1 H1 (k b h1) Q E) E := by
  cases r with
  | ok w h' => exact fun ρ' H' x R => ⟨ρ', h', x, R, OutB.from x o⟩
  | exc c fs h' => exact o
  | bad => exact o
end

/-! ### functions -/
def opt (o : Option W) : M W := fun h => match o with | some w => .ok w h | none => .bad
def fVar (i : Nat) : EF := fun env h => match env[i]? with | some (some w) => .ok w h | _ => .bad
def fC (w : W) : EF := fun _ h => .ok w h
def fBad : EF := fun _ _ => .bad
def fOp1 (g : AH → W → Option W) (fa : EF) : EF := fun env h => (fa env h).bind fun a h1 => opt (g h1 a) h1
def fOp2 (g : AH → W → W → Option W) (fa fb : EF) : EF := fun env h => (fa env h).bind fun a h1 => (fb env h1).bind fun b h2 => opt (g h2 a b) h2
def fIf (fc : BF) (fa fb : EF) : EF := fun env h => (fc env h).bind fun b h1 => if b = true then fa env h1 else fb env h1
def truthB : W → Option Bool
  | .bl b => some b
  | _ => none
def optB (o : Option Bool) : M Bool := fun h => match o with | some w => .ok w h | none => .bad
def bVal (fa : EF) : BF := fun env h => (fa env h).bind fun a h1 => optB (truthB a) h1
def bNot (fa : BF) : BF := fun env h => (fa env h).bind fun a h1 => .ok (!a) h1
def bAnd (fa fb : BF) : BF := fun env h => (fa env h).bind fun a h1 => if a = true then fb env h1 else .ok false h1
def bOr (fa fb : BF) : BF := fun env h => (fa env h).bind fun a h1 => if a = true then .ok true h1 else fb env h1
def notW : AH → W → Option W
  | _, .bl b => some (.bl (!b))
  | _, _ => none
def fAnd (fa fb : EF) : EF := fun env h => (fa env h).bind fun a h1 => match a with | .bl true => fb env h1 | .bl false => .ok (.bl false) h1 | _ => .bad
def fOr (fa fb : EF) : EF := fun env h => (fa env h).bind fun a h1 => match a with | .bl false => fb env h1 | .bl true => .ok (.bl true) h1 | _ => .bad
def lNil : LF := fun _ h => .ok [] h
def lCons (fa : EF) (fr : LF) : LF := fun env h => (fa env h).bind fun a h1 => (fr env h1).bind fun r h2 => .ok (a :: r) h2
def fTup (fl : LF) : EF := fun env h => (fl env h).bind fun ws h1 => if ws.length ≤ sizeLine then .ok (.tup ws) h1 else .bad
/-- a list that is not to be changed; one that is -/
def fLst (fl : LF) : EF := fun env h => (fl env h).bind fun ws h1 => if ws.length ≤ sizeLine then .ok (.lst ws) h1 else .bad
def fLstR (fl : LF) : EF := fun env h => (fl env h).bind fun ws h1 => if ws.length ≤ sizeLine then .ok (.ref h1.length) (h1 ++ [.lst ws]) else .bad

/-! ### value rules -/
def OutO (Γ : Cn) (ρ : Rh) (h : AH) (H : Hp) (o : Option W) (Q : VK) : Prop := match o with
  | some w => ∀ ρ' H' v, Ext ρ H ρ' H' → Rep Γ ρ' h H' → RV Γ ρ' H' w v → Q v H'
  | none => False
def r2 (Γ : Cn) (g : AH → W → W → Option W) : R2 := fun x y H Q => ∃ ρ h a b, Rep Γ ρ h H ∧ RV Γ ρ H a x ∧ RV Γ ρ H b y ∧ OutO Γ ρ h H (g h a b) Q
def r1 (Γ : Cn) (g : AH → W → Option W) : V → Hp → VK → Prop := fun x H Q => ∃ ρ h a, Rep Γ ρ h H ∧ RV Γ ρ H a x ∧ OutO Γ ρ h H (g h a) Q
def rL (Γ : Cn) (g : AH → List W → Option W) : List V → Hp → VK → Prop := fun xs H Q => ∃ ρ h ws, Rep Γ ρ h H ∧ RVs Γ ρ H ws xs ∧ OutO Γ ρ h H (g h ws) Q
theorem Out.opt {Γ : Cn} {ρ : Rh} {h : AH} {H : Hp} {o : Option W} {Q : VK} {E : XW} (x : Out Γ ρ H (opt o h) Q E) : OutO Γ ρ h H o Q := by
  cases o with
  | some w => exact x
  | none => exact x
theorem OutO.here {Γ : Cn} {ρ : Rh} {h : AH} {H : Hp} {w : W} {v : V} {Q : VK} (x : OutO Γ ρ h H (some w) Q) (R : Rep Γ ρ h H) (r : RV Γ ρ H w v) : Q v H := x ρ H v .refl R r
theorem OutO.sm {Γ : Cn} {ρ : Rh} {h : AH} {H : Hp} {o : Option W} {Q : VK} (x : OutO Γ ρ h H o Q) : ∃ w, o = some w := by
  cases o with
  | some w => exact ⟨w, rfl⟩
  | none => exact x.elim

section
variable {X : Cx} {T : List (Addr × Str)} {Wx : WX} {pos : Pos} {a b c : Expr} {fa fb fc : EF} {rest es : List Expr} {fl : LF}
theorem ee_var {i : Nat} {x : Str} (hN : X.N[i]? = some x := by rfl) (hv : Vis X.env.scope x := by first | exact Or.inl rfl | exact Or.inr (Or.inl rfl) | exact Or.inr (Or.inr rfl)) (hd : (x == ("__debug__" : Str)) = false := by decide)
    (hcd : (x == ("__classdict__" : Str)) = false := by decide) : EE X T Wx (.Name x pos) (fVar i) := by
  refine PE.imp (pe_var hN hv hd hcd) fun σ H Q hq => ?_
  obtain ⟨ρ, h, env, R, re, o⟩ := hq
  unfold fVar at o
  cases q : env[i]? with
  | none => rw [q] at o; exact o.elim
  | some z =>
    cases z with
    | none => rw [q] at o; exact o.elim
    | some w =>
      rw [q] at o
      obtain ⟨v, e, r⟩ := re.2 i w q
      exact ⟨v, e, o ρ H v .refl R r⟩
theorem ee_c {w : W} {v : V} {e : Expr} (p : PE X e (tC v)) (r : ∀ ρ H, RV (Cx.cn X T) ρ H w v) : EE X T Wx e (fC w) := by
  refine PE.imp p fun σ H Q hq => ?_
  obtain ⟨ρ, h, env, R, re, o⟩ := hq
  exact o ρ H v .refl R (r ρ H)
theorem ee_int {i j} : EE X T Wx (.Constant (.int i) j pos) (fC (.int i)) := ee_c pe_int fun _ _ => .int i
theorem ee_str {i j} : EE X T Wx (.Constant (.str i) j pos) (fC (.str i)) := ee_c pe_str fun _ _ => .str i
theorem ee_bl {i j} : EE X T Wx (.Constant (.bool i) j pos) (fC (.bl i)) := ee_c pe_bl fun _ _ => .bl i
theorem ee_non {j} : EE X T Wx (.Constant .none j pos) (fC .non) := ee_c pe_non fun _ _ => .non
/-- a str constant of the module -/
theorem ee_globS {x y : Str} {t : Tok} (hg : Gl X x) (hm : X.mg x = some (.str y t)) (hd : (x == ("__debug__" : Str)) = false := by decide) : EE X T Wx (.Name x pos) (fC (.str y)) := ee_c (pe_glob (v := .str y) hg hm ⟨t, rfl⟩ hd) fun _ _ => .str y
theorem ee_glo {x : Str} {p : Addr} (hg : Gl X x) (hm : X.mg x = some (.ref p)) (hd : (x == ("__debug__" : Str)) = false := by decide) : EE X T Wx (.Name x pos) (fC (.glo x)) := ee_c (pe_glob (v := .ref p) hg hm rfl hd) fun _ _ => .glo hm
theorem ee_bad {e : Expr} : EE X T Wx e fBad := ⟨fun _ _ _ _ _ _ hq => by
  obtain ⟨_, _, _, _, _, o⟩ := hq
  exact o.elim⟩
abbrev Op2 (X : Cx) (T : List (Addr × Str)) (f : Value → Value → Sem Value) (g : AH → W → W → Option W) : Prop := OpR X f (r2 (Cx.cn X T) g)
abbrev Op1 (X : Cx) (T : List (Addr × Str)) (f : Value → Sem Value) (g : AH → W → Option W) : Prop := UnR X f (r1 (Cx.cn X T) g)
theorem t2_of {g : AH → W → W → Option W} {σ : L2.St} {H : Hp} {Q : VK} (hq : tE (Cx.cn X T) Wx (fOp2 g fa fb) σ H Q) : tOp (r2 (Cx.cn X T) g) (tE (Cx.cn X T) Wx fa) (tE (Cx.cn X T) Wx fb) σ H Q := by
  obtain ⟨ρ, h, env, R, re, o⟩ := hq
  refine ⟨ρ, h, env, R, re, o.bind.imp fun v1 H1 hq1 => ?_⟩
  obtain ⟨ρ1, h1, w1, e1, R1, rv1, o1⟩ := hq1
  refine ⟨ρ1, h1, env, R1, re.ext e1, o1.bind.imp fun v2 H2 hq2 => ?_⟩
  obtain ⟨ρ2, h2, w2, e2, R2, rv2, o2⟩ := hq2
  exact ⟨ρ2, h2, w1, w2, R2, rv1.ext e2, rv2, o2.opt⟩
theorem ee_op {op : Operator} {g : AH → W → W → Option W} (ho : Op2 X T (binaryOp op) g) (ha : EE X T Wx a fa) (hb : EE X T Wx b fb) : EE X T Wx (.BinOp a op b pos) (fOp2 g fa fb) :=
  PE.imp (pe_op ho ha hb) fun σ H Q hq => t2_of hq
theorem ee_cmp {op : CmpOp} {g : AH → W → W → Option W} (ho : Op2 X T (compareOp op) g) (ha : EE X T Wx a fa) (hb : EE X T Wx b fb) (hm : behindInMarks op b = false) : EE X T Wx (.Compare a [op] [b] pos) (fOp2 g fa fb) :=
  PE.imp (pe_cmpR ho ha hb hm) fun σ H Q hq => t2_of hq
theorem ee_un {op : UnaryOp} {g : AH → W → Option W} (ho : Op1 X T (unaryOp op) g) (ha : EE X T Wx a fa) : EE X T Wx (.UnaryOp op a pos) (fOp1 g fa) := by
  refine PE.imp (pe_un ho ha) fun σ H Q hq => ?_
  obtain ⟨ρ, h, env, R, re, o⟩ := hq
  refine ⟨ρ, h, env, R, re, o.bind.imp fun v1 H1 hq1 => ?_⟩
  obtain ⟨ρ1, h1, w1, e1, R1, rv1, o1⟩ := hq1
  exact ⟨ρ1, h1, w1, R1, rv1, o1.opt⟩
theorem ee_not (ha : EE X T Wx a fa) : EE X T Wx (.UnaryOp .Not a pos) (fOp1 notW fa) := by
  refine PE.imp (pe_not ha) fun σ H Q hq => ?_
  obtain ⟨ρ, h, env, R, re, o⟩ := hq
  refine ⟨ρ, h, env, R, re, o.bind.imp fun v1 H1 hq1 => ?_⟩
  obtain ⟨ρ1, h1, w1, e1, R1, rv1, o1⟩ := hq1
  cases rv1 <;> first
    | exact ⟨_, rfl, o1 ρ1 H1 _ .refl R1 (.bl _)⟩
    | exact o1.elim
theorem ee_and1 {op} (ha : EE X T Wx a fa) : EE X T Wx (.BoolOp op [a] pos) fa := pe_one ha
theorem ee_and (ha : EE X T Wx a fa) (hb : EE X T Wx (.BoolOp .And (b :: rest) pos) fb) : EE X T Wx (.BoolOp .And (a :: b :: rest) pos) (fAnd fa fb) := by
  refine PE.imp (pe_and ha hb) fun σ H Q hq => ?_
  obtain ⟨ρ, h, env, R, re, o⟩ := hq
  refine ⟨ρ, h, env, R, re, o.bind.imp fun v1 H1 hq1 => ?_⟩
  obtain ⟨ρ1, h1, w1, e1, R1, rv1, o1⟩ := hq1
  cases rv1 <;> first
    | (rename_i d; cases d with
        | true => exact ⟨_, rfl, ρ1, h1, env, R1, re.ext e1, o1⟩
        | false => exact ⟨_, rfl, o1 ρ1 H1 _ .refl R1 (.bl _)⟩)
    | exact o1.elim
theorem ee_or (ha : EE X T Wx a fa) (hb : EE X T Wx (.BoolOp .Or (b :: rest) pos) fb) : EE X T Wx (.BoolOp .Or (a :: b :: rest) pos) (fOr fa fb) := by
  refine PE.imp (pe_or ha hb) fun σ H Q hq => ?_
  obtain ⟨ρ, h, env, R, re, o⟩ := hq
  refine ⟨ρ, h, env, R, re, o.bind.imp fun v1 H1 hq1 => ?_⟩
  obtain ⟨ρ1, h1, w1, e1, R1, rv1, o1⟩ := hq1
  cases rv1 <;> first
    | (rename_i d; cases d with
        | false => exact ⟨_, rfl, ρ1, h1, env, R1, re.ext e1, o1⟩
        | true => exact ⟨_, rfl, o1 ρ1 H1 _ .refl R1 (.bl _)⟩)
    | exact o1.elim

/-! ### tests -/
theorem et_val (ha : EE X T Wx a fa) (he : ∀ whole, isTrue a X.env whole = (do let v ← whole; standAt a.pos; holding [v] (truthy v)) := by intro _; rfl) : ET X T Wx a (bVal fa) := by
  refine PT.imp (pt_val ha he) fun σ H Q hq => ?_
  obtain ⟨ρ, h, env, R, re, o⟩ := hq
  refine ⟨ρ, h, env, R, re, o.bind.imp fun v1 H1 hq1 => ?_⟩
  obtain ⟨ρ1, h1, w1, e1, R1, rv1, o1⟩ := hq1
  cases rv1 <;> first
    | exact ⟨_, rfl, o1 ρ1 H1 .refl R1⟩
    | exact o1.elim
theorem et_cmp {op : CmpOp} {g : AH → W → W → Option W} (ho : Op2 X T (compareOp op) g) (ha : EE X T Wx a fa) (hb : EE X T Wx b fb) (hm : behindInMarks op b = false) : ET X T Wx (.Compare a [op] [b] pos) (bVal (fOp2 g fa fb)) := by
  refine PT.imp (pt_cmpR ho ha hb hm) fun σ H Q hq => ?_
  obtain ⟨ρ, h, env, R, re, o⟩ := hq
  refine t2_of (Wx := Wx) ⟨ρ, h, env, R, re, o.bind.imp fun v1 H1 hq1 => ?_⟩
  obtain ⟨ρ1, h1, w1, e1, R1, rv1, o1⟩ := hq1
  cases rv1 <;> first
    | exact ⟨_, rfl, o1 ρ1 H1 .refl R1⟩
    | exact o1.elim
theorem et_not {fa : BF} (ha : ET X T Wx a fa) : ET X T Wx (.UnaryOp .Not a pos) (bNot fa) := by
  refine PT.imp (pt_not ha) fun σ H Q hq => ?_
  obtain ⟨ρ, h, env, R, re, o⟩ := hq
  refine ⟨ρ, h, env, R, re, o.bindB.imp fun v1 H1 hq1 => ?_⟩
  obtain ⟨ρ1, h1, e1, R1, o1⟩ := hq1
  exact o1 ρ1 H1 .refl R1
abbrev EW (X : Cx) (T : List (Addr × Str)) (Wx : WX) (e : Expr) (f : BF) : Prop := PW X e (tT (Cx.cn X T) Wx f)
theorem PW.imp {X : Cx} {e : Expr} {t t' : TT} (p : PW X e t) (h : ∀ σ H Q, t' σ H Q → t σ H Q) : PW X e t' := ⟨fun wh pins s σ H Q I q => p.run wh pins s σ H Q I (h _ _ _ q)⟩
theorem ew_and1 {fa : BF} (ha : ET X T Wx a fa) : EW X T Wx (.BoolOp .And [a] pos) fa := pw_and1 ha
theorem ew_or1 {fa : BF} (ha : ET X T Wx a fa) : EW X T Wx (.BoolOp .Or [a] pos) fa := pw_or1 ha
theorem ew_and {fa fb : BF} (ha : ET X T Wx a fa) (hb : EW X T Wx (.BoolOp .And (b :: rest) pos) fb) : EW X T Wx (.BoolOp .And (a :: b :: rest) pos) (bAnd fa fb) := by
  refine PW.imp (pw_and ha hb) fun σ H Q hq => ?_
  obtain ⟨ρ, h, env, R, re, o⟩ := hq
  refine ⟨ρ, h, env, R, re, o.bindB.imp fun v1 H1 hq1 => ?_⟩
  obtain ⟨ρ1, h1, e1, R1, o1⟩ := hq1
  cases v1 with
  | true => exact ⟨ρ1, h1, env, R1, re.ext e1, o1⟩
  | false => exact o1 ρ1 H1 .refl R1
theorem ew_or {fa fb : BF} (ha : ET X T Wx a fa) (hb : EW X T Wx (.BoolOp .Or (b :: rest) pos) fb) : EW X T Wx (.BoolOp .Or (a :: b :: rest) pos) (bOr fa fb) := by
  refine PW.imp (pw_or ha hb) fun σ H Q hq => ?_
  obtain ⟨ρ, h, env, R, re, o⟩ := hq
  refine ⟨ρ, h, env, R, re, o.bindB.imp fun v1 H1 hq1 => ?_⟩
  obtain ⟨ρ1, h1, e1, R1, o1⟩ := hq1
  cases v1 with
  | false => exact ⟨ρ1, h1, env, R1, re.ext e1, o1⟩
  | true => exact o1 ρ1 H1 .refl R1
theorem et_w {fa : BF} (ha : EW X T Wx a fa) : ET X T Wx a fa := PW.pt ha
theorem ee_if {fc : BF} (hc : ET X T Wx c fc) (ha : EE X T Wx a fa) (hb : EE X T Wx b fb) : EE X T Wx (.IfExp c a b pos) (fIf fc fa fb) := by
  refine PE.imp (pe_ifExp hc ha hb) fun σ H Q hq => ?_
  obtain ⟨ρ, h, env, R, re, o⟩ := hq
  refine ⟨ρ, h, env, R, re, o.bindB.imp fun v1 H1 hq1 => ?_⟩
  obtain ⟨ρ1, h1, e1, R1, o1⟩ := hq1
  cases v1 with
  | true => exact ⟨ρ1, h1, env, R1, re.ext e1, o1⟩
  | false => exact ⟨ρ1, h1, env, R1, re.ext e1, o1⟩

/-! ### arguments, displays -/
theorem ea_nil : EA X T Wx [] lNil := by
  refine PA.imp pa_nil fun σ H Q hq => ?_
  obtain ⟨ρ, h, env, R, re, o⟩ := hq
  exact o ρ H [] .refl R .nil
theorem ea_cons (ha : EE X T Wx a fa) (hr : EA X T Wx es fl) (hs : starEach (a :: es) X.env = (false, eval a X.env) :: starEach es X.env := by rfl) : EA X T Wx (a :: es) (lCons fa fl) := by
  refine PA.imp (pa_cons ha hr hs) fun σ H Q hq => ?_
  obtain ⟨ρ, h, env, R, re, o⟩ := hq
  refine ⟨ρ, h, env, R, re, o.bind.imp fun v1 H1 hq1 => ?_⟩
  obtain ⟨ρ1, h1, w1, e1, R1, rv1, o1⟩ := hq1
  refine ⟨ρ1, h1, env, R1, re.ext e1, o1.bindL.imp fun v2 H2 hq2 => ?_⟩
  obtain ⟨ρ2, h2, w2, e2, R2, rv2, o2⟩ := hq2
  exact o2 ρ2 H2 _ .refl R2 (.cons (rv1.ext e2) rv2)
theorem RVs.length {Γ : Cn} {ρ : Rh} {H : Hp} : ∀ {ws : List W} {vs : List V}, RVs Γ ρ H ws vs → ws.length = vs.length
  | _, _, .nil => rfl
  | _, _, .cons _ r => by simp [RVs.length r]
theorem ee_tup {x1} (hl : EA X T Wx es fl) : EE X T Wx (.Tuple es x1 pos) (fTup fl) := by
  refine PE.imp (pe_tup hl) fun σ H Q hq => ?_
  obtain ⟨ρ, h, env, R, re, o⟩ := hq
  refine ⟨ρ, h, env, R, re, o.bindL.imp fun v1 H1 hq1 => ?_⟩
  obtain ⟨ρ1, h1, w1, e1, R1, rv1, o1⟩ := hq1
  by_cases hz : w1.length ≤ sizeLine
  · rw [if_pos hz] at o1
    refine ⟨by rw [← rv1.length]; exact hz, fun p hp => ?_⟩
    exact o1 ρ1 _ _ (.fresh hp) (R1.fresh hp) (.tup (R1.new hp) upd_same (rv1.ext (.fresh hp)))
  · rw [if_neg hz] at o1; exact o1.elim
theorem ee_lst (hl : EA X T Wx es fl) : EE X T Wx (.List es pos) (fLst fl) := by
  refine PE.imp (pe_lst hl) fun σ H Q hq => ?_
  obtain ⟨ρ, h, env, R, re, o⟩ := hq
  refine ⟨ρ, h, env, R, re, o.bindL.imp fun v1 H1 hq1 => ?_⟩
  obtain ⟨ρ1, h1, w1, e1, R1, rv1, o1⟩ := hq1
  by_cases hz : w1.length ≤ sizeLine
  · rw [if_pos hz] at o1
    refine ⟨by rw [← rv1.length]; exact hz, fun p hp => ?_⟩
    exact o1 ρ1 _ _ (.fresh hp) (R1.fresh hp) (.lst (R1.new hp) upd_same (rv1.ext (.fresh hp)))
  · rw [if_neg hz] at o1; exact o1.elim
theorem ee_lstR (hl : EA X T Wx es fl) : EE X T Wx (.List es pos) (fLstR fl) := by
  refine PE.imp (pe_lst hl) fun σ H Q hq => ?_
  obtain ⟨ρ, h, env, R, re, o⟩ := hq
  refine ⟨ρ, h, env, R, re, o.bindL.imp fun v1 H1 hq1 => ?_⟩
  obtain ⟨ρ1, h1, w1, e1, R1, rv1, o1⟩ := hq1
  by_cases hz : w1.length ≤ sizeLine
  · rw [if_pos hz] at o1
    refine ⟨by rw [← rv1.length]; exact hz, fun p hp => ?_⟩
    have ex : Ext ρ1 H1 (ρ1.add p) (upd H1 p (.lst v1)) := .freshR hp
    exact o1 (ρ1.add p) _ _ ex (R1.freshR hp (.lst (rv1.ext ex))) (.ref (by rw [← R1.len]; show (ρ1.tr ++ [p])[ρ1.tr.length]? = _; simp))
  · rw [if_neg hz] at o1; exact o1.elim
end
end PF
set_option Elab.async false
set_option linter.all false
set_option maxRecDepth 100000
set_option maxHeartbeats 1000000
namespace PF
open PySem PySem.Spec PyProof.Rows L2

/-! ### reading a value -/
def seqL (h : AH) : W → Option (List W)
  | .lst ws => some ws
  | .ref n => match h[n]? with | some (.lst ws) => some ws | _ => none
  | _ => none
def seqT : W → Option (List W)
  | .tup ws => some ws
  | _ => none
def seqA (h : AH) : W → Option (List W)
  | .tup ws => some ws
  | .lst ws => some ws
  | .ref n => match h[n]? with | some (.lst ws) => some ws | _ => none
  | _ => none
mutual
def dataW : W → Option PyData
  | .non => some .none
  | .bl b => some (.bool b)
  | .int i => some (.int i)
  | .str x => some (.str x)
  | .tup ws => (datasW ws).map .tuple
  | .lst ws => (datasW ws).map .list
  | _ => none
def datasW : List W → Option (List PyData)
  | [] => some []
  | w :: r => match dataW w, datasW r with
    | some d, some ds => some (d :: ds)
    | _, _ => none
end
def dataH (h : AH) : W → Option PyData
  | .ref n => match h[n]? with | some (.lst ws) => (datasW ws).map .list | _ => none
  | w => dataW w

section
variable {Γ : Cn} {ρ : Rh} {h : AH} {H : Hp}
theorem seqL_ok (R : Rep Γ ρ h H) {w : W} {v : V} {ws : List W} (r : RV Γ ρ H w v) (e : seqL h w = some ws) : ∃ p vs, v = .ref p ∧ H p = some (.lst vs) ∧ RVs Γ ρ H ws vs := by
  cases r with
  | lst np hr r => cases e; exact ⟨_, _, rfl, hr, r⟩
  | @ref n p hp =>
    unfold seqL at e
    dsimp only at e
    split at e
    · rename_i ws' q
      cases e
      obtain ⟨u, a, b⟩ := R.obj n _ p q hp
      cases b with
      | lst r => exact ⟨p, _, rfl, a, r⟩
    · cases e
  | _ => cases e
theorem seqT_ok {w : W} {v : V} {ws : List W} (r : RV Γ ρ H w v) (e : seqT w = some ws) : ∃ p vs, v = .ref p ∧ H p = some (.tup vs) ∧ RVs Γ ρ H ws vs := by
  cases r with
  | tup np hr r => cases e; exact ⟨_, _, rfl, hr, r⟩
  | _ => cases e
theorem seqA_ok (R : Rep Γ ρ h H) {w : W} {v : V} {ws : List W} (r : RV Γ ρ H w v) (e : seqA h w = some ws) : ∃ p vs, v = .ref p ∧ (H p = some (.lst vs) ∨ H p = some (.tup vs)) ∧ RVs Γ ρ H ws vs := by
  cases r with
  | tup np hr r => cases e; exact ⟨_, _, rfl, .inr hr, r⟩
  | lst np hr r => cases e; exact ⟨_, _, rfl, .inl hr, r⟩
  | @ref n p hp =>
    unfold seqA at e
    dsimp only at e
    split at e
    · rename_i ws' q
      cases e
      obtain ⟨u, a, b⟩ := R.obj n _ p q hp
      cases b with
      | lst r => exact ⟨p, _, rfl, .inl a, r⟩
    · cases e
  | _ => cases e
mutual
theorem dataW_ok {K : PySem.W.Frag} : ∀ {w : W} {v : V} {d : PyData}, RV Γ ρ H w v → dataW w = some d → Dp K H v d
  | .non, _, _, .non, e => by cases e; exact .non
  | .bl b, _, _, .bl _, e => by cases e; exact .bl b
  | .int i, _, _, .int _, e => by cases e; exact .int i
  | .str x, _, _, .str _, e => by cases e; exact .str x
  | .tup ws, _, _, .tup np hr r, e => by
    unfold dataW at e
    obtain ⟨ds, e1, e2⟩ := Option.map_eq_some_iff.mp e
    subst e2
    exact .tup (.of hr) (datasW_ok r e1)
  | .lst ws, _, _, .lst np hr r, e => by
    unfold dataW at e
    obtain ⟨ds, e1, e2⟩ := Option.map_eq_some_iff.mp e
    subst e2
    exact .lst (.of hr) (datasW_ok r e1)
  | .dct _, _, _, _, e => by unfold dataW at e; cases e
  | .ins _ _, _, _, _, e => by unfold dataW at e; cases e
  | .ref _, _, _, _, e => by unfold dataW at e; cases e
  | .glo _, _, _, _, e => by unfold dataW at e; cases e
  | .scr _, _, _, _, e => by unfold dataW at e; cases e
  | .typ _, _, _, _, e => by unfold dataW at e; cases e
theorem datasW_ok {K : PySem.W.Frag} : ∀ {w : List W} {v : List V} {d : List PyData}, RVs Γ ρ H w v → datasW w = some d → DpAll K H v d
  | [], _, _, .nil, e => by cases e; exact .nil
  | w :: r, _, d, .cons a b, e => by
    unfold datasW at e
    split at e
    · rename_i e1 e2
      cases e
      exact .cons (dataW_ok a e1) (datasW_ok b e2)
    · cases e
end
theorem dataH_ok {K : PySem.W.Frag} (R : Rep Γ ρ h H) {w : W} {v : V} {d : PyData} (r : RV Γ ρ H w v) (e : dataH h w = some d) : Dp K H v d := by
  cases w with
  | ref n =>
    cases r with
    | ref hp =>
    rename_i p
    unfold dataH at e
    dsimp only at e
    split at e
    · rename_i ws q
      obtain ⟨ds, e1, e2⟩ := Option.map_eq_some_iff.mp e
      subst e2
      obtain ⟨u, a, b⟩ := R.obj n _ p q hp
      cases b with
      | lst r => exact .lst (.of a) (datasW_ok r e1)
    · cases e
  | _ => exact dataW_ok r e
end

def isNone : PyData → Bool
  | .none => true
  | _ => false
theorem RVs.append {Γ : Cn} {ρ : Rh} {H : Hp} : ∀ {ws us : List W} {vs zs : List V}, RVs Γ ρ H ws vs → RVs Γ ρ H us zs → RVs Γ ρ H (ws ++ us) (vs ++ zs)
  | _, _, _, _, .nil, r => r
  | _, _, _, _, .cons a b, r => .cons a (RVs.append b r)
mutual
theorem dataW_plain : ∀ {w : W} {d : PyData}, dataW w = some d → d.plain = true
  | .non, _, e => by cases e; rfl
  | .bl b, _, e => by cases e; rfl
  | .int i, _, e => by cases e; rfl
  | .str x, _, e => by cases e; rfl
  | .tup ws, _, e => by
    unfold dataW at e
    obtain ⟨ds, e1, e2⟩ := Option.map_eq_some_iff.mp e
    subst e2
    exact datasW_plain e1
  | .lst ws, _, e => by
    unfold dataW at e
    obtain ⟨ds, e1, e2⟩ := Option.map_eq_some_iff.mp e
    subst e2
    exact datasW_plain e1
  | .dct _, _, e => by unfold dataW at e; cases e
  | .ins _ _, _, e => by unfold dataW at e; cases e
  | .ref _, _, e => by unfold dataW at e; cases e
  | .glo _, _, e => by unfold dataW at e; cases e
  | .scr _, _, e => by unfold dataW at e; cases e
  | .typ _, _, e => by unfold dataW at e; cases e
theorem datasW_plain : ∀ {w : List W} {d : List PyData}, datasW w = some d → PyData.plainAll d = true
  | [], _, e => by cases e; rfl
  | w :: r, d, e => by
    unfold datasW at e
    split at e
    · rename_i e1 e2
      cases e
      unfold PyData.plainAll
      rw [dataW_plain e1, datasW_plain e2]
      rfl
    · cases e
end
theorem dataH_plain {h : AH} {w : W} {d : PyData} (e : dataH h w = some d) : d.plain = true := by
  cases w with
  | ref n =>
    unfold dataH at e
    dsimp only at e
    split at e
    · obtain ⟨ds, e1, e2⟩ := Option.map_eq_some_iff.mp e
      subst e2
      exact datasW_plain e1
    · cases e
  | _ => exact dataW_plain e

/-! ### operators -/
def addW (h : AH) (a b : W) : Option W := match a, b with
  | .int i, .int j => some (.int (i + j))
  | .str x, .str y => if x.length + y.length ≤ sizeLine then some (.str (x ++ y)) else none
  | .tup xs, .tup ys => if xs.length + ys.length ≤ sizeLine ∧ xs ≠ [] ∧ ys ≠ [] then some (.tup (xs ++ ys)) else none
  | a, b => match seqL h a, seqL h b with
    | some xs, some ys => if xs.length + ys.length ≤ sizeLine then some (.lst (xs ++ ys)) else none
    | _, _ => none
def subW (_ : AH) (a b : W) : Option W := match a, b with
  | .int i, .int j => some (.int (i - j))
  | _, _ => none
/-- a bound on the size of ints: below 2 ^ n -/
def wideN : Nat := 400000
def mulW (_ : AH) (a b : W) : Option W := match a, b with
  | .int i, .int j => if (i.natAbs.log2 < wideN ∧ j.natAbs.log2 < wideN) then some (.int (i * j)) else none
  | _, _ => none
def fdivW (_ : AH) (a b : W) : Option W := match a, b with
  | .int i, .int j => if j ≠ 0 ∧ j.natAbs < 1073741824 then some (.int (i.fdiv j)) else none
  | _, _ => none
def modW (_ : AH) (a b : W) : Option W := match a, b with
  | .int i, .int j => if j ≠ 0 then some (.int (i.fmod j)) else none
  | _, _ => none
def powW (_ : AH) (a b : W) : Option W := match a, b with
  | .int i, .int j => if 0 ≤ j ∧ j ≤ 1000000 ∧ i.natAbs < 2 ^ 64 then some (.int (i ^ j.toNat)) else none
  | _, _ => none
def negW (_ : AH) (a : W) : Option W := match a with
  | .int i => some (.int (-i))
  | _ => none
/-- how deep data may be that is compared -/
def deepN : Nat := 60
def eqW (h : AH) (a b : W) : Option W := match dataH h a, dataH h b with
  | some d, some e => if min d.depth e.depth ≤ deepN then some (.bl (PyData.eqv d e)) else none
  | _, _ => none
def neW (h : AH) (a b : W) : Option W := match dataH h a, dataH h b with
  | some d, some e => if min d.depth e.depth ≤ deepN then some (.bl (!PyData.eqv d e)) else none
  | _, _ => none
def ltW (h : AH) (a b : W) : Option W := match dataH h a, dataH h b with
  | some d, some e => if d.depth ≤ deepN ∧ PySem.W.alike d e = true ∧ isNone d = false then some (.bl (PySem.W.dataLt d e)) else none
  | _, _ => none
def inStr (c z : Str) : Option Bool := match c with
  | ⟨⟨[k]⟩⟩ => some (decide (k ∈ z.cps.toList))
  | _ => none
def inW (h : AH) (a b : W) : Option W := match a, b with
  | .str c, .str z => (inStr c z).map .bl
  | a, b => match seqA h b, dataH h a with
    | some ws, some d => match datasW ws with
      | some ds => if min (PyData.depthAll ds) d.depth ≤ deepN then some (.bl (ds.any fun y => PyData.eqv y d)) else none
      | none => none
    | _, _ => none
def notInW (h : AH) (a b : W) : Option W := match a, b with
  | .str c, .str z => (inStr c z).map fun k => .bl (!k)
  | a, b => match seqA h b, dataH h a with
    | some ws, some d => match datasW ws with
      | some ds => if min (PyData.depthAll ds) d.depth ≤ deepN then some (.bl (!ds.any fun y => PyData.eqv y d)) else none
      | none => none
    | _, _ => none
def isN (_ : AH) (a b : W) : Option W := match a, b with
  | .non, .non => some (.bl true)
  | _, .non => some (.bl false)
  | _, _ => none
def notN (_ : AH) (a b : W) : Option W := match a, b with
  | .non, .non => some (.bl false)
  | _, .non => some (.bl true)
  | _, _ => none
def ltI (_ : AH) (a b : W) : Option W := match a, b with
  | .int i, .int j => some (.bl (decide (i < j)))
  | _, _ => none
def leI (_ : AH) (a b : W) : Option W := match a, b with
  | .int i, .int j => some (.bl (decide (i ≤ j)))
  | _, _ => none
def gtI (_ : AH) (a b : W) : Option W := match a, b with
  | .int i, .int j => some (.bl (decide (j < i)))
  | _, _ => none
def geI (_ : AH) (a b : W) : Option W := match a, b with
  | .int i, .int j => some (.bl (decide (j ≤ i)))
  | _, _ => none

section
variable {X : Cx} {T : List (Addr × Str)} {Wx : WX}
/-- an operator rule by cases -/
theorem op_of {f : Value → Value → Sem Value} {r : R2} {g : AH → W → W → Option W} (ho : OpR X f r)
    (k : ∀ ρ h H a b x y w, Rep (Cx.cn X T) ρ h H → RV (Cx.cn X T) ρ H a x → RV (Cx.cn X T) ρ H b y → g h a b = some w → ∀ Q : VK, OutO (Cx.cn X T) ρ h H (some w) Q → r x y H Q) : Op2 X T f g := by
  intro pins s σ H x y v u Q I rx ry hq
  obtain ⟨ρ, h, a, b, R, ra, rb, o⟩ := hq
  obtain ⟨w, e⟩ := o.sm
  exact ho pins s σ H x y v u Q I rx ry (k ρ h H a b x y w R ra rb e Q (by rw [e] at o; exact o))
theorem op_subW : Op2 X T (binaryOp .Sub) subW := op_of op_sub fun ρ h H a b x y w R ra rb e Q o => by
  unfold subW at e
  split at e
  · cases ra; cases rb; cases e; exact ⟨_, _, rfl, rfl, o.here R (.int _)⟩
  · cases e
theorem op_fdivW : Op2 X T (binaryOp .FloorDiv) fdivW := op_of op_fdivN fun ρ h H a b x y w R ra rb e Q o => by
  unfold fdivW at e
  split at e
  · split at e
    · rename_i hc
      cases ra; cases rb; cases e; exact ⟨_, _, rfl, rfl, hc, o.here R (.int _)⟩
    · cases e
  · cases e
theorem op_modW : Op2 X T (binaryOp .Mod) modW := op_of op_modN fun ρ h H a b x y w R ra rb e Q o => by
  unfold modW at e
  split at e
  · split at e
    · rename_i hc
      cases ra; cases rb; cases e; exact ⟨_, _, rfl, rfl, hc, o.here R (.int _)⟩
    · cases e
  · cases e
theorem op_powW : Op2 X T (binaryOp .Pow) powW := op_of op_pow fun ρ h H a b x y w R ra rb e Q o => by
  unfold powW at e
  split at e
  · split at e
    · rename_i hc
      cases ra; cases rb; cases e; exact ⟨_, _, rfl, rfl, hc, o.here R (.int _)⟩
    · cases e
  · cases e
theorem un_negW : Op1 X T (unaryOp .USub) negW := by
  intro pins s σ H x v Q I rx hq
  obtain ⟨ρ, h, a, R, ra, o⟩ := hq
  obtain ⟨w, e⟩ := o.sm
  rw [e] at o
  unfold negW at e
  split at e
  · cases ra; cases e
    exact un_neg pins s σ H _ v Q I rx ⟨_, rfl, o.here R (.int _)⟩
  · cases e
/-- an operator rule at the machine -/
theorem op_raw {f : Value → Value → Sem Value} {g : AH → W → W → Option W}
    (k : ∀ (pins : List (Addr × Obj)) (s : Shared) (σ : L2.St) (H : Hp) (x y : V) (v u : Value) (ρ : Rh) (h : AH) (a b w : W), Inv X pins σ H s → RelV x v → RelV y u → Rep (Cx.cn X T) ρ h H → RV (Cx.cn X T) ρ H a x → RV (Cx.cn X T) ρ H b y →
      g h a b = some w → ∀ Q : VK, OutO (Cx.cn X T) ρ h H (some w) Q → wpAny (model X.prog X.w) X.A (f v u) (EP X pins σ Q) X.xe s) : Op2 X T f g := by
  intro pins s σ H x y v u Q I rx ry hq
  obtain ⟨ρ, h, a, b, R, ra, rb, o⟩ := hq
  obtain ⟨w, e⟩ := o.sm
  exact k pins s σ H x y v u ρ h a b w I rx ry R ra rb e Q (by rw [e] at o; exact o)
theorem op_eqW (hu : X.A.units + 64 < cLine) : Op2 X T (compareOp .Eq) eqW := op_raw fun pins s σ H x y v u ρ h a b w I rx ry R ra rb e Q o => by
  unfold eqW at e
  split at e
  · rename_i d1 d2 e1 e2
    split at e
    · rename_i hc
      cases e
      obtain ⟨as, r1⟩ := Dp.reads I _ x v (dataH_ok R ra e1) rx
      obtain ⟨bs, r2⟩ := Dp.reads I _ y u (dataH_ok R rb e2) ry
      exact PySem.SeqAt.eq_plain r1 r2 (dataH_plain e1) (dataH_plain e2) (by unfold deepN at hc; omega) ⟨.bl _, H, I, rfl, o.here R (.bl _)⟩
    · cases e
  · cases e
theorem op_neW (hu : X.A.units + 64 < cLine) : Op2 X T (compareOp .NotEq) neW := op_raw fun pins s σ H x y v u ρ h a b w I rx ry R ra rb e Q o => by
  unfold neW at e
  split at e
  · rename_i d1 d2 e1 e2
    split at e
    · rename_i hc
      cases e
      obtain ⟨as, r1⟩ := Dp.reads I _ x v (dataH_ok R ra e1) rx
      obtain ⟨bs, r2⟩ := Dp.reads I _ y u (dataH_ok R rb e2) ry
      exact PySem.SeqAt.ne_plain r1 r2 (dataH_plain e1) (dataH_plain e2) (by unfold deepN at hc; omega) ⟨.bl _, H, I, rfl, o.here R (.bl _)⟩
    · cases e
  · cases e
theorem op_ltW (hu : X.A.units + 64 < cLine) : Op2 X T (compareOp .Lt) ltW := op_raw fun pins s σ H x y v u ρ h a b w I rx ry R ra rb e Q o => by
  unfold ltW at e
  split at e
  · rename_i d1 d2 e1 e2
    split at e
    · rename_i hc
      cases e
      obtain ⟨as, r1⟩ := Dp.reads I _ x v (dataH_ok R ra e1) rx
      obtain ⟨bs, r2⟩ := Dp.reads I _ y u (dataH_ok R rb e2) ry
      refine PySem.W.rcLt_alike d1 d2 X.A s v u as bs r1 r2 hc.2.1 (fun z => by subst z; cases hc.2.2) ?_ X.prog X.w X.xe _ ⟨.bl _, H, I, rfl, o.here R (.bl _)⟩
      have h0 := hc.1
      have h1 := Nat.min_le_left d1.depth d2.depth
      unfold deepN at h0
      omega
    · cases e
  · cases e
theorem inStr_ok {c z : Str} {k : Bool} (e : inStr c z = some k) : ∃ n, c = ⟨#[n]⟩ ∧ k = decide (n ∈ z.cps.toList) := by
  unfold inStr at e
  split at e
  · rename_i n
    cases e
    exact ⟨n, rfl, rfl⟩
  · cases e
theorem op_inW (hu : X.A.units + 64 < cLine) : Op2 X T (compareOp .In) inW := op_raw fun pins s σ H x y v u ρ h a b w I rx ry R ra rb e Q o => by
  unfold inW at e
  split at e
  · cases ra; cases rb
    obtain ⟨k, e1, e2⟩ := Option.map_eq_some_iff.mp e
    subst e2
    obtain ⟨n, e3, e4⟩ := inStr_ok e1
    subst e3 e4
    exact op_in_sign pins s σ H _ _ v u Q I rx ry ⟨n, _, rfl, rfl, o.here R (.bl _)⟩
  · split at e
    · rename_i ws d e1 e2
      split at e
      · rename_i ds e3
        split at e
        · rename_i hc
          cases e
          obtain ⟨bs, r2⟩ := Dp.reads I _ x v (dataH_ok R ra e2) rx
          obtain ⟨p, vs, ep, hp, rs⟩ := seqA_ok R rb e1
          subst ep
          cases ry
          have h64 : X.A.units + 1 + min (PyData.depthAll ds) d.depth < cLine := by unfold deepN at hc; omega
          rcases hp with hp | hp
          · obtain ⟨as, r1⟩ := Dp.reads I (.list ds) (.ref p) (.ref p) (.lst (.of hp) (datasW_ok rs e3)) rfl
            exact PySem.SeqAt.in_list_data r1 r2 (datasW_plain e3) (dataH_plain e2) h64 ⟨.bl _, H, I, rfl, o.here R (.bl _)⟩
          · obtain ⟨as, r1⟩ := Dp.reads I (.tuple ds) (.ref p) (.ref p) (.tup (.of hp) (datasW_ok rs e3)) rfl
            exact PySem.SeqAt.in_tuple_data r1 r2 (datasW_plain e3) (dataH_plain e2) h64 ⟨.bl _, H, I, rfl, o.here R (.bl _)⟩
        · cases e
      · cases e
    · cases e
theorem op_notInW (hu : X.A.units + 64 < cLine) : Op2 X T (compareOp .NotIn) notInW := op_raw fun pins s σ H x y v u ρ h a b w I rx ry R ra rb e Q o => by
  unfold notInW at e
  split at e
  · cases ra; cases rb
    obtain ⟨k, e1, e2⟩ := Option.map_eq_some_iff.mp e
    subst e2
    obtain ⟨n, e3, e4⟩ := inStr_ok e1
    subst e3 e4
    exact op_notIn_sign pins s σ H _ _ v u Q I rx ry ⟨n, _, rfl, rfl, o.here R (.bl _)⟩
  · split at e
    · rename_i ws d e1 e2
      split at e
      · rename_i ds e3
        split at e
        · rename_i hc
          cases e
          obtain ⟨bs, r2⟩ := Dp.reads I _ x v (dataH_ok R ra e2) rx
          obtain ⟨p, vs, ep, hp, rs⟩ := seqA_ok R rb e1
          subst ep
          cases ry
          have h64 : X.A.units + 1 + min (PyData.depthAll ds) d.depth < cLine := by unfold deepN at hc; omega
          rcases hp with hp | hp
          · obtain ⟨as, r1⟩ := Dp.reads I (.list ds) (.ref p) (.ref p) (.lst (.of hp) (datasW_ok rs e3)) rfl
            exact PySem.SeqAt.notIn_list_data r1 r2 (datasW_plain e3) (dataH_plain e2) h64 ⟨.bl _, H, I, rfl, o.here R (.bl _)⟩
          · obtain ⟨as, r1⟩ := Dp.reads I (.tuple ds) (.ref p) (.ref p) (.tup (.of hp) (datasW_ok rs e3)) rfl
            exact PySem.SeqAt.notIn_tuple_data r1 r2 (datasW_plain e3) (dataH_plain e2) h64 ⟨.bl _, H, I, rfl, o.here R (.bl _)⟩
        · cases e
      · cases e
    · cases e
theorem op_mulWW : Op2 X T (binaryOp .Mult) mulW := op_of L2.op_mulW fun ρ h H a b x y w R ra rb e Q o => by
  unfold mulW at e
  split at e
  · split at e
    · rename_i hc
      cases ra; cases rb; cases e
      refine ⟨_, _, rfl, rfl, ?_, o.here R (.int _)⟩
      unfold wideN at hc
      unfold CMulW
      omega
    · cases e
  · cases e
theorem op_addW : Op2 X T (binaryOp .Add) addW := op_raw fun pins s σ H x y v u ρ h a b w I rx ry R ra rb e Q o => by
  unfold addW at e
  split at e
  · cases ra; cases rb; cases e
    exact op_add pins s σ H _ _ v u Q I rx ry ⟨_, _, rfl, rfl, o.here R (.int _)⟩
  · split at e
    · rename_i hc
      cases ra; cases rb; cases e
      exact op_add_str pins s σ H _ _ v u Q I rx ry ⟨_, _, rfl, rfl, hc, o.here R (.str _)⟩
    · cases e
  · split at e
    · rename_i xs ys hc
      cases e
      obtain ⟨p, vs, e1, h1, r1⟩ := seqT_ok ra rfl
      obtain ⟨q, us, e2, h2, r2⟩ := seqT_ok rb rfl
      subst e1 e2
      have l1 := r1.length
      have l2 := r2.length
      refine op_catT pins s σ H _ _ v u Q I rx ry ⟨p, q, vs, us, rfl, rfl, .of h1, .of h2, fun z => ?_, by omega, fun z => ?_, fun _ c hc' => ?_⟩
      · subst z; exact hc.2.1 (List.length_eq_zero_iff.mp l1)
      · subst z; exact absurd (List.length_eq_zero_iff.mp l2) hc.2.2
      · exact o ρ _ _ (.fresh hc') (R.fresh hc') (.tup (R.new hc') upd_same ((r1.append r2).ext (.fresh hc')))
    · cases e
  · split at e
    · rename_i xs ys e1 e2
      split at e
      · rename_i hc
        cases e
        obtain ⟨p, vs, ep, h1, r1⟩ := seqL_ok R ra e1
        obtain ⟨q, us, eq, h2, r2⟩ := seqL_ok R rb e2
        subst ep eq
        have l1 := r1.length
        have l2 := r2.length
        refine op_cat pins s σ H _ _ v u Q I rx ry ⟨p, q, vs, us, rfl, rfl, h1, h2, by omega, fun c hc' => ?_⟩
        exact o ρ _ _ (.fresh hc') (R.fresh hc') (.lst (R.new hc') upd_same ((r1.append r2).ext (.fresh hc')))
      · cases e
    · cases e
theorem op_isW : Op2 X T (compareOp .Is) isN := op_of op_isN fun ρ h H a b x y w R ra rb e Q o => by
  unfold isN at e
  split at e
  · cases ra; cases rb; cases e; exact ⟨rfl, o.here R (.bl _)⟩
  · rename_i hn
    cases rb; cases e
    refine ⟨rfl, ?_⟩
    have : decide (x = V.non) = false := decide_eq_false fun z => by subst z; cases ra; exact hn rfl
    rw [this]
    exact o.here R (.bl _)
  · cases e
theorem op_notW : Op2 X T (compareOp .IsNot) notN := op_of op_notN fun ρ h H a b x y w R ra rb e Q o => by
  unfold notN at e
  split at e
  · cases ra; cases rb; cases e; exact ⟨rfl, o.here R (.bl _)⟩
  · rename_i hn
    cases rb; cases e
    refine ⟨rfl, ?_⟩
    have : decide (x = V.non) = false := decide_eq_false fun z => by subst z; cases ra; exact hn rfl
    rw [this]
    exact o.here R (.bl _)
  · cases e
theorem op_ltI : Op2 X T (compareOp .Lt) ltI := op_of op_lt fun ρ h H a b x y w R ra rb e Q o => by
  unfold ltI at e
  split at e
  · cases ra; cases rb; cases e; exact ⟨_, _, rfl, rfl, o.here R (.bl _)⟩
  · cases e
theorem op_leI : Op2 X T (compareOp .LtE) leI := op_of op_le fun ρ h H a b x y w R ra rb e Q o => by
  unfold leI at e
  split at e
  · cases ra; cases rb; cases e; exact ⟨_, _, rfl, rfl, o.here R (.bl _)⟩
  · cases e
theorem op_gtI : Op2 X T (compareOp .Gt) gtI := op_of op_gt fun ρ h H a b x y w R ra rb e Q o => by
  unfold gtI at e
  split at e
  · cases ra; cases rb; cases e; exact ⟨_, _, rfl, rfl, o.here R (.bl _)⟩
  · cases e
theorem op_geI : Op2 X T (compareOp .GtE) geI := op_of op_ge fun ρ h H a b x y w R ra rb e Q o => by
  unfold geI at e
  split at e
  · cases ra; cases rb; cases e; exact ⟨_, _, rfl, rfl, o.here R (.bl _)⟩
  · cases e
end
end PF
set_option Elab.async false
set_option linter.all false
set_option maxRecDepth 100000
set_option maxHeartbeats 1000000
namespace PF
open PySem PySem.Spec PyProof.Rows L2

/-! ### types -/
def isTab (a b : Ty) : Bool := decide (a = b) || (decide (a = .bool) && decide (b = .int))
theorem kitB_tab : ∀ a b : Ty, kitB a.name b.name = some (isTab a b) := by
  intro a b
  cases a <;> cases b <;> decide +kernel
def tyW (h : AH) : W → Option Ty
  | .non => some .non
  | .bl _ => some .bool
  | .int _ => some .int
  | .str _ => some .str
  | .tup _ => some .tuple
  | .lst _ => some .list
  | .dct _ => some .dict
  | .ref n => match h[n]? with | some (.lst _) => some .list | some (.dct _) => some .dict | some (.lck (.dct _)) => some .dict | _ => none
  | _ => none
def tysW : List W → Option (List Ty)
  | [] => some []
  | .typ t :: r => (tysW r).map (t :: ·)
  | _ :: _ => none
def isiW (h : AH) : List W → Option W
  | [x, .typ t] => (tyW h x).map fun a => .bl (isTab a t)
  | [x, .tup ts] => match tyW h x, tysW ts with
    | some a, some l => some (.bl (l.any (isTab a)))
    | _, _ => none
  | _ => none
section
variable {X : Cx} {T : List (Addr × Str)} {Wx : WX}
theorem kit_dict {a : Addr} {K : PySem.W.Frag} {h : Heap} {o : Obj} (e : h.get? a = some o) (c : o.cls = .type "dict") : ∃ P : Heap → Prop, PySem.W.KitX K (.ref a) (.type "dict") P ∧ P h ∧ Value.ref a ≠ .builtin "__main__.__loader__#opaque" :=
  ⟨_, PySem.W.kitx_dict, ⟨o, e, c⟩, fun z => nomatch z⟩
theorem kit_w {pins : List (Addr × Obj)} {s : Shared} {σ : L2.St} {H : Hp} {ρ : Rh} {h : AH} {w : W} {v : V} {u : Value} {t : Ty} (I : Inv X pins σ H s) (R : Rep (Cx.cn X T) ρ h H) (r : RV (Cx.cn X T) ρ H w v) (e : tyW h w = some t) (rv : RelV v u) :
    ∃ P : Heap → Prop, PySem.W.KitX X.K u (.type t.name) P ∧ P s.heap ∧ u ≠ .builtin "__main__.__loader__#opaque" := by
  have dd : ∀ (p : Addr) (kk : List (Key × V)), Rd H p (.dK kk) → ∃ o, s.heap.get? p = some o ∧ o.cls = .type "dict" := fun p kk hr => by
    obtain ⟨_, _, vs, _, o, es, ep, h1, h2, _⟩ := (show ObjOk X.prog X.w H s.heap p (.dK kk) from hr.ok I.hok)
    exact ⟨o, h1, h2.1⟩
  have dt : ∀ (p : Addr) (kk : List (List Key × V)), Rd H p (.dT kk) → ∃ o, s.heap.get? p = some o ∧ o.cls = .type "dict" := fun p kk hr => by
    obtain ⟨_, _, vs, _, o, es, ep, h1, h2, _⟩ := (show ObjOk X.prog X.w H s.heap p (.dT kk) from hr.ok I.hok)
    exact ⟨o, h1, h2.1⟩
  cases r with
  | non => cases e; exact kit_of I rv (.base .non)
  | bl b => cases e; exact kit_of I rv (.base (.bl b))
  | int b => cases e; exact kit_of I rv (.base (.int b))
  | str b => cases e; exact kit_of I rv (.base (.str b))
  | tup np hr r => cases e; exact kit_of I rv (.base (.tup hr))
  | lst np hr r => cases e; exact kit_of I rv (.base (.lst hr))
  | dK np hr r =>
    cases e; cases rv
    obtain ⟨o, a, b⟩ := dd _ _ hr.rd
    exact kit_dict a b
  | dT np hr r =>
    cases e; cases rv
    obtain ⟨o, a, b⟩ := dt _ _ hr.rd
    exact kit_dict a b
  | @ref n p hp =>
    cases rv
    unfold tyW at e
    dsimp only at e
    split at e
    · rename_i ws q
      cases e
      obtain ⟨uo, a, b⟩ := R.obj n _ p q hp
      cases b with
      | lst r => exact kit_of (x := .ref p) I rfl (.base (.lst a))
    · rename_i ws q
      cases e
      obtain ⟨uo, a, b⟩ := R.obj n _ p q hp
      cases b with
      | dK r =>
        obtain ⟨o, a, b⟩ := dd _ _ (.inl a)
        exact kit_dict a b
      | dT r =>
        obtain ⟨o, a, b⟩ := dt _ _ (.inl a)
        exact kit_dict a b
    · rename_i ws q
      cases e
      obtain ⟨uo, a, b⟩ := R.obj n _ p q hp
      cases b with
      | lck r =>
        cases r with
        | dK r =>
          obtain ⟨o, a, b⟩ := dd _ _ (.inr ⟨_, a⟩)
          exact kit_dict a b
        | dT r =>
          obtain ⟨o, a, b⟩ := dt _ _ (.inr ⟨_, a⟩)
          exact kit_dict a b
    · cases e
  | _ => cases e
abbrev CallW (X : Cx) (T : List (Addr × Str)) (f : Value) (g : AH → List W → Option W) : Prop := CallR X f (rL (Cx.cn X T) g)
theorem call_raw {f : Value} {g : AH → List W → Option W}
    (k : ∀ (pins : List (Addr × Obj)) (s : Shared) (σ : L2.St) (H : Hp) (xs : List V) (us : List Value) (ρ : Rh) (h : AH) (ws : List W) (w : W), Inv X pins σ H s → Vals xs us → Rep (Cx.cn X T) ρ h H → RVs (Cx.cn X T) ρ H ws xs →
      g h ws = some w → ∀ Q : VK, OutO (Cx.cn X T) ρ h H (some w) Q → wpAny (model X.prog X.w) X.A (call f us) (EP X pins σ Q) X.xe s) : CallW X T f g := by
  intro pins s σ H xs us Q I r hq
  obtain ⟨ρ, h, ws, R, rs, o⟩ := hq
  obtain ⟨w, e⟩ := o.sm
  exact k pins s σ H xs us ρ h ws w I r R rs e Q (by rw [e] at o; exact o)
theorem tys_ok {ρ : Rh} {H : Hp} {Γ : Cn} : ∀ {ts : List W} {vs : List V} {us : List Value} {l : List Ty}, RVs Γ ρ H ts vs → Vals vs us → tysW ts = some l → us = l.map fun t => .type t.name
  | [], _, _, _, .nil, .nil, e => by cases e; rfl
  | .typ t :: r, _, _, _, .cons a b, .cons c d, e => by
    unfold tysW at e
    obtain ⟨l', e1, e2⟩ := Option.map_eq_some_iff.mp e
    subst e2
    cases a
    cases c
    rw [tys_ok b d e1]
    rfl
  | .non :: _, _, _, _, _, _, e => by cases e
  | .bl _ :: _, _, _, _, _, _, e => by cases e
  | .int _ :: _, _, _, _, _, _, e => by cases e
  | .str _ :: _, _, _, _, _, _, e => by cases e
  | .tup _ :: _, _, _, _, _, _, e => by cases e
  | .lst _ :: _, _, _, _, _, _, e => by cases e
  | .dct _ :: _, _, _, _, _, _, e => by cases e
  | .ins _ _ :: _, _, _, _, _, _, e => by cases e
  | .ref _ :: _, _, _, _, _, _, e => by cases e
  | .glo _ :: _, _, _, _, _, _, e => by cases e
  | .scr _ :: _, _, _, _, _, _, e => by cases e
theorem kitAny_tab {K : PySem.W.Frag} {a : Ty} : ∀ l : List Ty, PySem.W.kitAny K (.type a.name) (l.map fun t => .type t.name) = some (l.any (isTab a))
  | [] => rfl
  | t :: l => by
    have h1 : PySem.W.kitOne K (.type a.name) (.type t.name) = some (isTab a t) := kit_ty (kitB_tab a t)
    refine kitAny_cons h1 (fun e => ?_) (fun e => ?_)
    · rw [kitAny_tab l, List.any_cons, e]; rfl
    · rw [List.any_cons, e]; rfl
theorem call_isiW : CallW X T (.builtin "isinstance") isiW := call_raw fun pins s σ H xs us ρ h ws w I r R rs e Q o => by
  unfold isiW at e
  split at e
  · obtain ⟨a, e1, e2⟩ := Option.map_eq_some_iff.mp e
    subst e2
    cases rs with
    | cons ra rs =>
      cases rs with
      | cons rb rs =>
        cases rs
        cases rb
        obtain ⟨u1, u2, rfl, r1, r2⟩ := vals2 r
        cases r2
        obtain ⟨P, Z, p, hx⟩ := kit_w I R ra e1 r1
        exact PySem.W.kia_one Z I.kIn p (kit_ty (kitB_tab _ _)) hx fun tk => ⟨.bl _, H, I.tok tk, rfl, o.here R (.bl _)⟩
  · split at e
    · rename_i a l e1 e2
      cases e
      cases rs with
      | cons ra rs =>
        cases rs with
        | cons rb rs =>
          cases rs
          obtain ⟨tp, vs, ep, ht, rt⟩ := seqT_ok rb rfl
          subst ep
          obtain ⟨u1, u2, rfl, r1, r2⟩ := vals2 r
          cases r2
          obtain ⟨P, Z, p, hx⟩ := kit_w I R ra e1 r1
          obtain ⟨_, its, rv, ob, h1, h2, n, h3⟩ := (show ObjOk X.prog X.w H s.heap tp (.tup vs) from I.hok tp _ ht)
          have e3 := tys_ok rt rv e2
          subst e3
          obtain ⟨oc, od, dt, sl⟩ := ob
          simp only at h2 h3
          subst h2 h3
          exact PySem.W.kia_tup Z I.kIn p h1 (kitAny_tab l) hx fun tk => ⟨.bl _, H, I.tok tk, rfl, o.here R (.bl _)⟩
    · cases e
  · cases e

/-! ### calls of built-ins -/
def fCall (g : AH → List W → Option W) (fl : LF) : EF := fun env h => (fl env h).bind fun ws h1 => opt (g h1 ws) h1
variable {pos p : Pos} {x : Str} {e : Expr} {es : List Expr} {fl : LF} {g : AH → List W → Option W} {id Tn : String}
theorem tcb_of {σ : L2.St} {H : Hp} {Q : VK} (hq : tE (Cx.cn X T) Wx (fCall g fl) σ H Q) : tCB (rL (Cx.cn X T) g) (tA (Cx.cn X T) Wx fl) σ H Q := by
  obtain ⟨ρ, h, env, R, re, o⟩ := hq
  refine ⟨ρ, h, env, R, re, o.bindL.imp fun v1 H1 hq1 => ?_⟩
  obtain ⟨ρ1, h1, w1, e1, R1, rv1, o1⟩ := hq1
  exact ⟨ρ1, h1, w1, R1, rv1, o1.opt⟩
theorem ee_callB (hc : CallW X T (.builtin id) g) (hg : Gl X x) (hm : X.mg x = none) (hv : bootBuiltins x = some (.builtin id)) (ha : EA X T Wx (e :: es) fl) (hn : x ≠ "__name__" := by decide) (hdb : (x == ("__debug__" : Str)) = false := by decide)
    (he : starEach (e :: es) X.env = (false, eval e X.env) :: starEach es X.env := by rfl) (hpl : (backTo pos (starEach es X.env)).any (·.1) = false := by rfl) : EE X T Wx (.Call (.Name x p) (e :: es) [] pos) (fCall g fl) :=
  PE.imp (pe_callB hc hg hm hv ha hn hdb he hpl) fun _ _ _ hq => tcb_of hq
theorem ee_callTy (hc : CallW X T (.type Tn) g) (hg : Gl X x) (hm : X.mg x = none) (hv : bootBuiltins x = some (.type Tn)) (ha : EA X T Wx (e :: es) fl) (hn : x ≠ "__name__" := by decide) (hdb : (x == ("__debug__" : Str)) = false := by decide)
    (he : starEach (e :: es) X.env = (false, eval e X.env) :: starEach es X.env := by rfl) (hpl : (backTo pos (starEach es X.env)).any (·.1) = false := by rfl) : EE X T Wx (.Call (.Name x p) (e :: es) [] pos) (fCall g fl) :=
  PE.imp (pe_callTy hc hg hm hv ha hn hdb he hpl) fun _ _ _ hq => tcb_of hq
/-- a built-in type as a value -/
theorem ee_ty {t : Ty} (hg : Gl X x) (hm : X.mg x = none) (hv : bootBuiltins x = some (.type t.name)) (hn : x ≠ "__name__" := by decide) (hd : (x == ("__debug__" : Str)) = false := by decide) : EE X T Wx (.Name x pos) (fC (.typ t)) :=
  ee_c (pe_bltn (v := .ty t.name) hg hm hv rfl hn hd) fun _ _ => .typ t

def lenW (h : AH) : List W → Option W
  | [.str z] => if z.length ≤ sizeLine then some (.int z.length) else none
  | [.dct kvs] => some (.int kvs.length)
  | [.ref n] => match h[n]? with | some (.lst ws) => some (.int ws.length) | some (.dct kvs) => some (.int kvs.length) | some (.lck (.dct kvs)) => some (.int kvs.length) | _ => none
  | [w] => (seqA h w).map fun ws => .int ws.length
  | _ => none
theorem RKs.length {Γ : Cn} {ρ : Rh} {H : Hp} : ∀ {a : List (W × W)} {b : List (Key × V)}, RKs Γ ρ H a b → a.length = b.length
  | _, _, .nil => rfl
  | _, _, .cons _ _ r => by simp [RKs.length r]
theorem RTs.length {Γ : Cn} {ρ : Rh} {H : Hp} : ∀ {a : List (W × W)} {b : List (List Key × V)}, RTs Γ ρ H a b → a.length = b.length
  | _, _, .nil => rfl
  | _, _, .cons _ _ r => by simp [RTs.length r]
theorem len_seq {pins : List (Addr × Obj)} {s : Shared} {σ : L2.St} {H : Hp} {p : Addr} {vs : List V} {Q : VK} (I : Inv X pins σ H s) (hp : H p = some (.lst vs) ∨ H p = some (.tup vs)) (q : Q (.int vs.length) H) :
    wpAny (model X.prog X.w) X.A (call (.builtin "len") [.ref p]) (EP X pins σ Q) X.xe s :=
  call_len_seq pins s σ H [.ref p] [.ref p] Q I (.cons rfl .nil) ⟨p, vs, rfl, hp.imp .of .of, q⟩
theorem len_dct {pins : List (Addr × Obj)} {s : Shared} {σ : L2.St} {H : Hp} {p : Addr} {n : Nat} {Q : VK} (I : Inv X pins σ H s) (hp : (∃ kk, Rd H p (.dK kk) ∧ kk.length = n) ∨ ∃ kk, Rd H p (.dT kk) ∧ kk.length = n) (q : Q (.int n) H) :
    wpAny (model X.prog X.w) X.A (call (.builtin "len") [.ref p]) (EP X pins σ Q) X.xe s := by
  rcases hp with ⟨kk, hp, e⟩ | ⟨kk, hp, e⟩
  · subst e
    exact d_len I hp fun t s' I' => ⟨.int kk.length, H, I', ⟨t, rfl⟩, q⟩
  · subst e
    obtain ⟨z, hd, ys, rel, dd⟩ := dt_rd I.hok hp
    have hl : kk.length = ys.length := Paired.length rel
    have hz : sizeLine = 16777216 := sizeLine_eq
    exact PySem.call_len_dictH hd dd (by omega) ⟨.int kk.length, H, I.tok _, ⟨_, by rw [hl]⟩, q⟩
theorem call_lenW : CallW X T (.builtin "len") lenW := call_raw fun pins s σ H xs us ρ h ws w I r R rs e Q o => by
  unfold lenW at e
  split at e
  · split at e
    · rename_i z hz
      cases e
      cases rs with
      | cons a b =>
        cases b; cases a
        exact call_len_str pins s σ H _ us Q I r ⟨z, rfl, hz, o.here R (.int _)⟩
    · cases e
  · cases e
    cases rs with
    | cons a b =>
      cases b
      obtain ⟨u, rfl, rx⟩ := vals1 r
      cases a with
      | dK np hr rr => cases rx; exact len_dct I (.inl ⟨_, hr.rd, rr.length.symm⟩) (o.here R (.int _))
      | dT np hr rr => cases rx; exact len_dct I (.inr ⟨_, hr.rd, rr.length.symm⟩) (o.here R (.int _))
  · rename_i n
    cases rs with
    | cons a b =>
      cases b
      obtain ⟨u, rfl, rx⟩ := vals1 r
      cases a with
      | ref hp =>
        cases rx
        split at e
        · rename_i q
          cases e
          obtain ⟨uo, a, b⟩ := R.obj n _ _ q hp
          cases b with
          | lst r => exact len_seq I (.inl a) (by rw [← r.length]; exact o.here R (.int _))
        · rename_i q
          cases e
          obtain ⟨uo, a, b⟩ := R.obj n _ _ q hp
          cases b with
          | dK r => exact len_dct I (.inl ⟨_, .inl a, r.length.symm⟩) (o.here R (.int _))
          | dT r => exact len_dct I (.inr ⟨_, .inl a, r.length.symm⟩) (o.here R (.int _))
        · rename_i q
          cases e
          obtain ⟨uo, a, b⟩ := R.obj n _ _ q hp
          cases b with
          | lck r =>
            cases r with
            | dK r => exact len_dct I (.inl ⟨_, .inr ⟨_, a⟩, r.length.symm⟩) (o.here R (.int _))
            | dT r => exact len_dct I (.inr ⟨_, .inr ⟨_, a⟩, r.length.symm⟩) (o.here R (.int _))
        · cases e
  · obtain ⟨ws', e1, e2⟩ := Option.map_eq_some_iff.mp e
    subst e2
    cases rs with
    | cons a b =>
      cases b
      obtain ⟨u, rfl, rx⟩ := vals1 r
      obtain ⟨p, vs, ep, hp, rr⟩ := seqA_ok R a e1
      subst ep
      cases rx
      exact len_seq I hp (by rw [← rr.length]; exact o.here R (.int _))
  · cases e

/-- list(x), tuple(x) as new things that are not changed -/
def listW (h : AH) : List W → Option W
  | [.scr ws] => some (.lst ws)
  | [w] => (seqA h w).map .lst
  | _ => none
def tupleW (h : AH) : List W → Option W
  | [w] => (seqA h w).map .tup
  | _ => none
theorem RVs.fresh_lst {Γ : Cn} {ρ : Rh} {h : AH} {H : Hp} {ws : List W} {vs : List V} {p : Addr} {Q : VK} (R : Rep Γ ρ h H) (r : RVs Γ ρ H ws vs) (hp : H p = none) (o : OutO Γ ρ h H (some (.lst ws)) Q) : Q (.ref p) (upd H p (.lst vs)) :=
  o ρ _ _ (.fresh hp) (R.fresh hp) (.lst (R.new hp) upd_same (r.ext (.fresh hp)))
theorem RVs.fresh_tup {Γ : Cn} {ρ : Rh} {h : AH} {H : Hp} {ws : List W} {vs : List V} {p : Addr} {Q : VK} (R : Rep Γ ρ h H) (r : RVs Γ ρ H ws vs) (hp : H p = none) (o : OutO Γ ρ h H (some (.tup ws)) Q) : Q (.ref p) (upd H p (.tup vs)) :=
  o ρ _ _ (.fresh hp) (R.fresh hp) (.tup (R.new hp) upd_same (r.ext (.fresh hp)))
theorem call_listW : CallW X T (.type "list") listW := call_raw fun pins s σ H xs us ρ h ws w I r R rs e Q o => by
  unfold listW at e
  split at e
  · cases e
    cases rs with
    | cons a b =>
      cases b
      cases a with
      | scr hs np rr => exact call_list_of pins s σ H _ us Q I r ⟨_, _, rfl, .inl hs, fun l hl => rr.fresh_lst R hl o⟩
  · obtain ⟨ws', e1, e2⟩ := Option.map_eq_some_iff.mp e
    subst e2
    cases rs with
    | cons a b =>
      cases b
      obtain ⟨p, vs, ep, hp, rr⟩ := seqA_ok R a e1
      subst ep
      exact call_list_of pins s σ H _ us Q I r ⟨_, _, rfl, hp.imp .of .of, fun l hl => rr.fresh_lst R hl o⟩
  · cases e
theorem tup_notin {Γ : Cn} {ρ : Rh} {h : AH} {H : Hp} {w : W} {p : Addr} {ws : List W} {vs : List V} (R : Rep Γ ρ h H) (r : RV Γ ρ H w (.ref p)) (e : seqA h w = some ws) (hp : H p = some (.tup vs)) : p ∉ ρ := by
  cases r with
  | tup np _ _ => exact np
  | lst _ h' _ => rw [hp] at h'; cases h'
  | @ref n _ hr =>
    unfold seqA at e
    dsimp only at e
    split at e
    · rename_i q
      obtain ⟨u, a, b⟩ := R.obj n _ p q hr
      rw [hp] at a
      cases a
      cases b
    · cases e
  | _ => cases e
theorem call_tupleW : CallW X T (.type "tuple") tupleW := call_raw fun pins s σ H xs us ρ h ws w I r R rs e Q o => by
  unfold tupleW at e
  split at e
  · rename_i w0
    obtain ⟨ws', e1, e2⟩ := Option.map_eq_some_iff.mp e
    subst e2
    cases rs with
    | cons a b =>
      cases b
      obtain ⟨p, vs, ep, hp, rr⟩ := seqA_ok R a e1
      subst ep
      refine call_tuple_of pins s σ H _ us Q I r ⟨p, vs, rfl, ?_⟩
      rcases hp with hp | hp
      · exact .inl ⟨.of hp, fun l hl => rr.fresh_tup R hl o⟩
      · refine .inr ⟨.of hp, ?_⟩
        have : p ∉ ρ := tup_notin R a e1 hp
        exact o.here R (.tup this hp rr)
  · cases e
def absW (_ : AH) : List W → Option W
  | [.int i] => some (.int (if i < 0 then -i else i))
  | _ => none
theorem call_absW : CallW X T (.builtin "abs") absW := call_raw fun pins s σ H xs us ρ h ws w I r R rs e Q o => by
  unfold absW at e
  split at e
  · cases e
    cases rs with
    | cons a b =>
      cases b; cases a
      exact call_abs pins s σ H _ us Q I r ⟨_, rfl, o.here R (.int _)⟩
  · cases e
def intW (_ : AH) : List W → Option W
  | [.int i] => some (.int i)
  | _ => none
theorem call_intW : CallW X T (.type "int") intW := call_raw fun pins s σ H xs us ρ h ws w I r R rs e Q o => by
  unfold intW at e
  split at e
  · cases e
    cases rs with
    | cons a b =>
      cases b; cases a
      exact call_int1 pins s σ H _ us Q I r (.inl ⟨_, rfl, o.here R (.int _)⟩)
  · cases e

/-! ### subscripts -/
def dctOf (h : AH) : W → Option (List (W × W))
  | .dct kvs => some kvs
  | .ref n => match h[n]? with | some (.dct kvs) => some kvs | some (.lck (.dct kvs)) => some kvs | _ => none
  | _ => none
/-- the first entry with a key -/
def valW (kvs : List (W × W)) (k : W) : Option W := match keyW k with
  | some kk => (kvs.find? fun e => decide (keyW e.1 = some kk)).map (·.2)
  | none => match tupW k with
    | some kk => (kvs.find? fun e => decide (tupW e.1 = some kk)).map (·.2)
    | none => none
def ixW (h : AH) (a b : W) : Option W := match a, b with
  | .str z, .int i => if z.length ≤ sizeLine then (atI z.cps.toList i).map fun c => .str ⟨#[c]⟩ else none
  | a, b => match seqA h a, b with
    | some ws, .int i => atI ws i
    | _, _ => none
theorem RVs.get {Γ : Cn} {ρ : Rh} {H : Hp} : ∀ {ws : List W} {vs : List V} {i : Nat} {w : W}, RVs Γ ρ H ws vs → ws[i]? = some w → ∃ v, vs[i]? = some v ∧ RV Γ ρ H w v
  | _, _, _, _, .nil, e => by simp at e
  | _, _, 0, _, .cons a _, e => by simp at e; subst e; exact ⟨_, rfl, a⟩
  | _, _, i + 1, w, .cons _ r, e => by
    obtain ⟨v, h1, h2⟩ := RVs.get (i := i) (w := w) r (by simpa using e)
    exact ⟨v, by simpa using h1, h2⟩
theorem RVs.atI {Γ : Cn} {ρ : Rh} {H : Hp} {ws : List W} {vs : List V} {i : Int} {w : W} (r : RVs Γ ρ H ws vs) (e : atI ws i = some w) : ∃ v, L2.atI vs i = some v ∧ RV Γ ρ H w v := by
  unfold L2.atI at e ⊢
  rw [← r.length]
  obtain ⟨j, e1, e2⟩ := Option.bind_eq_some_iff.mp e
  obtain ⟨v, e3, e4⟩ := r.get e2
  exact ⟨v, by rw [e1]; exact e3, e4⟩
/-- o[i] by values -/
abbrev IxW (X : Cx) (T : List (Addr × Str)) (g : AH → W → W → Option W) : Prop := IxR X (r2 (Cx.cn X T) g)
theorem ix_W : IxW X T ixW := by
  intro value slice pins s σ H x y v u Q I rx ry hq hs
  obtain ⟨ρ, h, a, b, R, ra, rb, o⟩ := hq
  obtain ⟨w, e⟩ := o.sm
  rw [e] at o
  unfold ixW at e
  split at e
  · split at e
    · rename_i hz
      obtain ⟨c, e1, e2⟩ := Option.map_eq_some_iff.mp e
      subst e2
      cases ra; cases rb
      exact ix_str value slice pins s σ H _ _ v u Q I rx ry ⟨_, _, c, rfl, rfl, hz, e1, o.here R (.str _)⟩ hs
    · cases e
  · split at e
    · rename_i i e1 _
      cases rb
      obtain ⟨p, vs, ep, hp, rr⟩ := seqA_ok R ra e1
      subst ep
      obtain ⟨v', e2, r2⟩ := rr.atI e
      rcases hp with hp | hp
      · exact ix_list value slice pins s σ H _ _ v u Q I rx ry ⟨p, vs, i, v', rfl, rfl, .of hp, e2, o.here R r2⟩ hs
      · exact ix_tup value slice pins s σ H _ _ v u Q I rx ry ⟨p, vs, i, v', rfl, rfl, .of hp, e2, o.here R r2⟩ hs
    · cases e
variable {a b : Expr} {fa fb : EF}
theorem ee_ix (ha : EE X T Wx a fa) (hb : EE X T Wx b fb) (hs : PlainIx b) : EE X T Wx (.Subscript a b pos) (fOp2 ixW fa fb) :=
  PE.imp (pe_ix ix_W ha hb hs) fun _ _ _ hq => t2_of hq
def PF_ : Type := Env → M (Option Int)
def OutP (Γ : Cn) (ρ : Rh) (H : Hp) (r : Res (Option Int)) (Q : Option Int → Hp → Prop) (E : XW) : Prop := match r with
  | .ok w h' => ∀ ρ' H', Ext ρ H ρ' H' → Rep Γ ρ' h' H' → Q w H'
  | .exc c fs h' => ∀ ρ' H' cls d, Ext ρ H ρ' H' → Rep Γ ρ' h' H' → RExc Γ ρ' H' c fs cls d → E cls d H'
  | .bad => False
def tP (Γ : Cn) (Wx : WX) (f : Env → M (Option Int)) : TO := fun σ H Q => ∃ (ρ : Rh) (h : AH) (env : Env), Rep Γ ρ h H ∧ REnv Γ ρ H env σ ∧ OutP Γ ρ H (f env h) Q (fun cls d H' => Wx cls d σ H')
abbrev EP_ (X : Cx) (T : List (Addr × Str)) (Wx : WX) (e : Option Expr) (f : Env → M (Option Int)) : Prop := PO X e (tP (Cx.cn X T) Wx f)
theorem PO.imp {X : Cx} {e : Option Expr} {t t' : TO} (p : PO X e t) (h : ∀ σ H Q, t' σ H Q → t σ H Q) : PO X e t' := ⟨fun pins s σ H Q I q => p.run pins s σ H Q I (h _ _ _ q)⟩
def pNone : Env → M (Option Int) := fun _ h => .ok none h
def intOf : W → Option Int
  | .int i => some i
  | _ => none
def pSome (fa : EF) : Env → M (Option Int) := fun env h => (fa env h).bind fun a h1 => match intOf a with | some i => .ok (some i) h1 | none => .bad
theorem ep_none : EP_ X T Wx none pNone := PO.imp po_none fun σ H Q hq => by
  obtain ⟨ρ, h, env, R, re, o⟩ := hq
  exact o ρ H .refl R
theorem ep_some (ha : EE X T Wx a fa) : EP_ X T Wx (some a) (pSome fa) := PO.imp (po_some ha) fun σ H Q hq => by
  obtain ⟨ρ, h, env, R, re, o⟩ := hq
  refine ⟨ρ, h, env, R, re, ?_⟩
  unfold pSome at o
  cases q : fa env h with
  | bad => rw [q] at o; exact o.elim
  | exc c fs h' => rw [q] at o; exact o
  | ok w h' =>
    rw [q] at o
    intro ρ' H' v x R' rv
    unfold Res.bind at o
    dsimp only at o
    cases rv <;> first
      | exact ⟨_, rfl, o ρ' H' x R'⟩
      | exact (show False from o).elim
theorem OutP.bind {Γ : Cn} {ρ : Rh} {H : Hp} {Q : VK} {E : XW} {r : Res (Option Int)} {k : Option Int → M W} (o : Out Γ ρ H (r.bind k) Q E) :
    OutP Γ ρ H r (fun v H1 => ∃ ρ1 h1, Ext ρ H ρ1 H1 ∧ Rep Γ ρ1 h1 H1 ∧ Out Γ ρ1 H1 (k v h1) Q E) E := by
  cases r with
  | ok w h' => exact fun ρ' H' x R => ⟨ρ', h', x, R, Out.from x o⟩
  | exc c fs h' => exact o
  | bad => exact o
theorem OutP.imp {Γ : Cn} {ρ : Rh} {H : Hp} {E : XW} {r : Res (Option Int)} {Q Q' : Option Int → Hp → Prop} (o : OutP Γ ρ H r Q E) (k : ∀ v H1, Q v H1 → Q' v H1) : OutP Γ ρ H r Q' E := by
  cases r with
  | ok w h' => exact fun ρ' H' x R => k _ _ (o ρ' H' x R)
  | exc c fs h' => exact o
  | bad => exact o
def cutL {α : Type} (xs : List α) (lo hi : Option Int) : List α := (xs.drop (HT.sIx xs.length 0 lo)).take (HT.sIx xs.length xs.length hi - HT.sIx xs.length 0 lo)
def sliceW (h : AH) (w : W) (lo hi : Option Int) : Option W := match w with
  | .str z => if z.length ≤ sizeLine then some (.str (cutS z lo hi)) else none
  | w => (seqL h w).map fun ws => .lst (cutL ws lo hi)
def fSlice (fa : EF) (fl fh : Env → M (Option Int)) : EF := fun env h => (fa env h).bind fun a h1 => (fl env h1).bind fun l h2 => (fh env h2).bind fun u h3 => opt (sliceW h3 a l u) h3
theorem RVs.drop {Γ : Cn} {ρ : Rh} {H : Hp} : ∀ {ws : List W} {vs : List V} (n : Nat), RVs Γ ρ H ws vs → RVs Γ ρ H (ws.drop n) (vs.drop n)
  | _, _, 0, r => r
  | _, _, _ + 1, .nil => .nil
  | _, _, n + 1, .cons _ r => RVs.drop n r
theorem RVs.take {Γ : Cn} {ρ : Rh} {H : Hp} : ∀ {ws : List W} {vs : List V} (n : Nat), RVs Γ ρ H ws vs → RVs Γ ρ H (ws.take n) (vs.take n)
  | _, _, 0, _ => .nil
  | _, _, _ + 1, .nil => .nil
  | _, _, n + 1, .cons a r => .cons a (RVs.take n r)
theorem RVs.cut {Γ : Cn} {ρ : Rh} {H : Hp} {ws : List W} {vs : List V} (r : RVs Γ ρ H ws vs) (lo hi : Option Int) : RVs Γ ρ H (cutL ws lo hi) (cutV vs lo hi) := by
  unfold cutL cutV
  rw [← r.length]
  exact (r.drop _).take _
def rSlW (Γ : Cn) : V → Option Int → Option Int → Hp → VK → Prop := fun x lo hi H Q => ∃ ρ h a, Rep Γ ρ h H ∧ RV Γ ρ H a x ∧ OutO Γ ρ h H (sliceW h a lo hi) Q
theorem sl_W : SlR X (rSlW (Cx.cn X T)) := by
  intro pins s σ H x v vl vu lo hi sl Q I rx hs pl pu hq
  obtain ⟨ρ, h, a, R, ra, o⟩ := hq
  obtain ⟨w, e⟩ := o.sm
  rw [e] at o
  unfold sliceW at e
  split at e
  · split at e
    · rename_i hz
      cases e
      cases ra
      exact sl_str pins s σ H _ v vl vu lo hi sl Q I rx hs pl pu ⟨_, rfl, hz, o.here R (.str _)⟩
    · cases e
  · obtain ⟨ws', e1, e2⟩ := Option.map_eq_some_iff.mp e
    subst e2
    obtain ⟨p, vs, ep, hp, rr⟩ := seqL_ok R ra e1
    subst ep
    exact sl_list pins s σ H _ v vl vu lo hi sl Q I rx hs pl pu ⟨p, vs, rfl, .of hp, fun q hq => (rr.cut lo hi).fresh_lst R hq o⟩
theorem ee_slice {lo hi : Option Expr} {p2 : Pos} {fl fh : Env → M (Option Int)} (ha : EE X T Wx a fa) (hl : EP_ X T Wx lo fl) (hh : EP_ X T Wx hi fh) : EE X T Wx (.Subscript a (.Slice lo hi none p2) pos) (fSlice fa fl fh) := by
  refine PE.imp (pe_slice (sl_W (T := T)) ha hl hh) fun σ H Q hq => ?_
  obtain ⟨ρ, h, env, R, re, o⟩ := hq
  refine ⟨ρ, h, env, R, re, o.bind.imp fun v1 H1 hq1 => ?_⟩
  obtain ⟨ρ1, h1, w1, e1, R1, rv1, o1⟩ := hq1
  refine ⟨ρ1, h1, env, R1, re.ext e1, (OutP.bind o1).imp fun v2 H2 hq2 => ?_⟩
  obtain ⟨ρ2, h2, e2, R2, o2⟩ := hq2
  refine ⟨ρ2, h2, env, R2, (re.ext e1).ext e2, (OutP.bind o2).imp fun v3 H3 hq3 => ?_⟩
  obtain ⟨ρ3, h3, e3, R3, o3⟩ := hq3
  exact ⟨ρ3, h3, w1, R3, (rv1.ext e2).ext e3, o3.opt⟩
/-- x[::-1] of a list -/
def revW (h : AH) (w : W) : Option W := (seqL h w).map fun ws => .lst ws.reverse
theorem RVs.rev {Γ : Cn} {ρ : Rh} {H : Hp} : ∀ {ws : List W} {vs : List V}, RVs Γ ρ H ws vs → RVs Γ ρ H ws.reverse vs.reverse
  | _, _, .nil => .nil
  | _, _, .cons a r => by
    rw [List.reverse_cons, List.reverse_cons]
    exact (RVs.rev r).append (.cons a .nil)
theorem ee_rev {k : Nat} {p1 p2 p3 : Pos} (ha : EE X T Wx a fa) : EE X T Wx (.Subscript a (.Slice none none (some (.UnaryOp .USub (.Constant (.int 1) k p1) p2)) p3) pos) (fOp1 revW fa) := by
  refine PE.imp (pe_revL ha) fun σ H Q hq => ?_
  obtain ⟨ρ, h, env, R, re, o⟩ := hq
  refine ⟨ρ, h, env, R, re, o.bind.imp fun v1 H1 hq1 => ?_⟩
  obtain ⟨ρ1, h1, w1, e1, R1, rv1, o1⟩ := hq1
  have o2 := o1.opt
  obtain ⟨w, e⟩ := o2.sm
  rw [e] at o2
  unfold revW at e
  obtain ⟨ws', e3, e4⟩ := Option.map_eq_some_iff.mp e
  subst e4
  obtain ⟨p, vs, ep, hp, rr⟩ := seqL_ok R1 rv1 e3
  subst ep
  exact ⟨p, vs, rfl, .of hp, fun q hq => rr.rev.fresh_lst R1 hq o2⟩
end
end PF
set_option Elab.async false
set_option linter.all false
set_option maxRecDepth 100000
set_option maxHeartbeats 1000000
namespace PF
open PySem PySem.Spec PyProof.Rows L2

section
variable {Γ : Cn} {ρ : Rh} {h : AH} {H : Hp} {n : Nat} {p : Addr}
/-- a list of ours is written -/
theorem Rep.setL (R : Rep Γ ρ h H) (hp : ρ.tr[n]? = some p) {ws us : List W} {vs : List V} (hh : h[n]? = some (.lst ws)) (r : RVs Γ ρ H us vs) :
    Ext ρ H ρ (upd H p (.lst vs)) ∧ Rep Γ ρ (h.set n (.lst us)) (upd H p (.lst vs)) := by
  obtain ⟨u, a, b⟩ := R.obj n _ p hh hp
  have e : Ext ρ H ρ (upd H p (.lst vs)) := Ext.write (Rh.at_mem hp) a b.notbl b.noext
  exact R.write hp hh a b (.lst (r.ext e))
theorem Rep.lstAt (R : Rep Γ ρ h H) (hp : ρ.tr[n]? = some p) {ws : List W} (hh : h[n]? = some (.lst ws)) : ∃ vs, H p = some (.lst vs) ∧ RVs Γ ρ H ws vs := by
  obtain ⟨u, a, b⟩ := R.obj n _ p hh hp
  cases b with
  | lst r => exact ⟨_, a, r⟩
end

/-! ### methods -/
abbrev MF := W → List W → M W
def rM (Γ : Cn) (g : MF) : V → List V → Hp → VK → Prop := fun x xs H Q => ∃ ρ h a ws, Rep Γ ρ h H ∧ RV Γ ρ H a x ∧ RVs Γ ρ H ws xs ∧ Out Γ ρ H (g a ws h) Q (fun _ _ _ => False)
def noX (r : Res W) : Res W := match r with
  | .exc _ _ _ => .bad
  | r => r
theorem Out.noX {Γ : Cn} {ρ : Rh} {H : Hp} {r : Res W} {Q : VK} {E E' : XW} (o : Out Γ ρ H (noX r) Q E) : Out Γ ρ H r Q E' := by
  cases r with
  | ok w h => exact o
  | exc c f h => exact (show False from o).elim
  | bad => exact o
/-- the receiver is a list, a text -/
def isLst (h : AH) (w : W) : Bool := (seqL h w).isSome
def isStr (_ : AH) : W → Bool
  | .str _ => true
  | _ => false
def fM0 (ty : AH → W → Bool) (g : MF) (fo : EF) : EF := fun env h => (fo env h).bind fun o h1 => if ty h1 o = true then noX (g o [] h1) else .bad
def fM (ty : AH → W → Bool) (g : MF) (fo : EF) (fl : LF) : EF := fun env h => (fo env h).bind fun o h1 => if ty h1 o = true then (fl env h1).bind fun ws h2 => noX (g o ws h2) else .bad
abbrev MtW (X : Cx) (T : List (Addr × Str)) (id : String) (g : MF) : Prop := MtR X id (rM (Cx.cn X T) g)
section
variable {X : Cx} {T : List (Addr × Str)} {Wx : WX} {pos apos cpos : Pos} {o e : Expr} {es : List Expr} {fo : EF} {fl : LF} {Tn id : String} {name : Str} {g : MF} {ty : AH → W → Bool}
def TyOk (X : Cx) (T : List (Addr × Str)) (Tn : String) (ty : AH → W → Bool) : Prop := ∀ ρ h H w v, Rep (Cx.cn X T) ρ h H → RV (Cx.cn X T) ρ H w v → ty h w = true → tyV X.K Tn v H
theorem ty_list : TyOk X T "list" isLst := fun ρ h H w v R r e => by
  unfold isLst at e
  obtain ⟨ws, e⟩ := Option.isSome_iff_exists.mp e
  obtain ⟨p, vs, ep, hp, _⟩ := seqL_ok R r e
  subst ep
  exact .inl ⟨rfl, vs, .of hp⟩
theorem ty_str : TyOk X T "str" isStr := fun ρ h H w v R r e => by
  cases r <;> first | rfl | cases e
theorem ee_m0 (tk : TyOk X T Tn ty) (pa : PlainAttrs Tn) (slot : Slot Tn name id) (hty : typeOf (.builtin id) = pure (.type "method_descriptor")) (hm : MtW X T id g) (ho : EE X T Wx o fo)
    (hbase : attributeBase o name X.env (eval o X.env) = eval o X.env := by rfl) (hline : (apos.endLine == cpos.line) = true := by rfl) : EE X T Wx (.Call (.Attribute o name apos) [] [] cpos) (fM0 ty g fo) := by
  refine PE.imp (pe_bm0 pa slot hty hm ho hbase hline) fun σ H Q hq => ?_
  obtain ⟨ρ, h, env, R, re, oo⟩ := hq
  refine ⟨ρ, h, env, R, re, oo.bind.imp fun v1 H1 hq1 => ?_⟩
  obtain ⟨ρ1, h1, w1, e1, R1, rv1, o1⟩ := hq1
  by_cases ht : ty h1 w1 = true
  · rw [if_pos ht] at o1
    exact ⟨tk _ _ _ _ _ R1 rv1 ht, ρ1, h1, w1, [], R1, rv1, .nil, o1.noX⟩
  · rw [if_neg ht] at o1; exact o1.elim
theorem ee_m (tk : TyOk X T Tn ty) (pa : PlainAttrs Tn) (slot : Slot Tn name id) (hty : typeOf (.builtin id) = pure (.type "method_descriptor")) (hm : MtW X T id g) (ho : EE X T Wx o fo) (ha : EA X T Wx (e :: es) fl)
    (hbase : attributeBase o name X.env (eval o X.env) = eval o X.env := by rfl)
    (hfew : ((backTo cpos (starEach (e :: es) X.env)).all (fun x => !x.1) && (backToKw cpos (keywordEach [] X.env)).all (fun x => x.1.isSome)
      && decide ((e :: es).length + ([] : List Keyword).length + (if ([] : List Keyword).isEmpty then 0 else 1) < 30)) = true := by rfl)
    (hline : (apos.endLine == cpos.line) = true := by rfl) (hs : starEach (e :: es) X.env = (false, eval e X.env) :: starEach es X.env := by rfl) (hplain : (backTo cpos (starEach es X.env)).any (·.1) = false := by rfl) :
    EE X T Wx (.Call (.Attribute o name apos) (e :: es) [] cpos) (fM ty g fo fl) := by
  refine PE.imp (pe_bm pa slot hty hm ho ha hbase hfew hline hs hplain) fun σ H Q hq => ?_
  obtain ⟨ρ, h, env, R, re, oo⟩ := hq
  refine ⟨ρ, h, env, R, re, oo.bind.imp fun v1 H1 hq1 => ?_⟩
  obtain ⟨ρ1, h1, w1, e1, R1, rv1, o1⟩ := hq1
  by_cases ht : ty h1 w1 = true
  · rw [if_pos ht] at o1
    refine ⟨tk _ _ _ _ _ R1 rv1 ht, ρ1, h1, env, R1, re.ext e1, o1.bindL.imp fun v2 H2 hq2 => ?_⟩
    obtain ⟨ρ2, h2, w2, e2, R2, rv2, o2⟩ := hq2
    exact ⟨ρ2, h2, w1, w2, R2, rv1.ext e2, rv2, o2.noX⟩
  · rw [if_neg ht] at o1; exact o1.elim
/-- a method rule by cases -/
theorem mt_raw
    (k : ∀ (pins : List (Addr × Obj)) (s : Shared) (σ : L2.St) (H : Hp) (x : V) (xs : List V) (v : Value) (us : List Value) (ρ : Rh) (h : AH) (a : W) (ws : List W), Inv X pins σ H s → RelV x v → Vals xs us → Rep (Cx.cn X T) ρ h H → RV (Cx.cn X T) ρ H a x → RVs (Cx.cn X T) ρ H ws xs →
      ∀ Q : VK, Out (Cx.cn X T) ρ H (g a ws h) Q (fun _ _ _ => False) → wpAny (model X.prog X.w) X.A (call (.builtin id) (v :: us)) (EP X pins σ Q) X.xe s) : MtW X T id g := by
  intro pins s σ H x xs v us Q I rx rs hq
  obtain ⟨ρ, h, a, ws, R, ra, rw', o⟩ := hq
  exact k pins s σ H x xs v us ρ h a ws I rx rs R ra rw' Q o

def mAppend : MF := fun o ws h => match o, ws with
  | .ref n, [y] => match h[n]? with
    | some (.lst xs) => if xs.length < sizeLine then .ok .non (h.set n (.lst (xs ++ [y]))) else .bad
    | _ => .bad
  | _, _ => .bad
theorem mt_appendW : MtW X T "list.append" mAppend := mt_raw fun pins s σ H x xs v us ρ h a ws I rx rs R ra rws Q oo => by
  unfold mAppend at oo
  split at oo
  · split at oo
    · rename_i n y xs' q
      split at oo
      · rename_i hz
        cases ra with
        | ref hp =>
          cases rws with
          | cons ry rn =>
            cases rn
            obtain ⟨vs, h1, h2⟩ := R.lstAt hp q
            refine mt_append pins s σ H _ _ v us Q I rx rs ⟨_, vs, _, rfl, rfl, h1, by rw [← h2.length]; exact hz, ?_⟩
            obtain ⟨e1, R1⟩ := R.setL hp q (h2.append (.cons ry .nil))
            exact oo ρ _ _ e1 R1 .non
      · exact oo.elim
    · exact oo.elim
  · exact oo.elim
def mExtend : MF := fun o ws h => match o, ws with
  | .ref n, [y] => match h[n]?, seqL h y with
    | some (.lst xs), some ys => if xs.length + ys.length ≤ sizeLine then .ok .non (h.set n (.lst (xs ++ ys))) else .bad
    | _, _ => .bad
  | _, _ => .bad
theorem mt_extendW : MtW X T "list.extend" mExtend := mt_raw fun pins s σ H x xs v us ρ h a ws I rx rs R ra rws Q oo => by
  unfold mExtend at oo
  split at oo
  · split at oo
    · rename_i n y xs' ys q e2
      split at oo
      · rename_i hz
        cases ra with
        | ref hp =>
          cases rws with
          | cons ry rn =>
            cases rn
            obtain ⟨vs, h1, h2⟩ := R.lstAt hp q
            obtain ⟨b, us', ep, h3, h4⟩ := seqL_ok R ry e2
            subst ep
            refine mt_extend pins s σ H _ _ v us Q I rx rs ⟨_, b, vs, us', rfl, rfl, h1, h3, by rw [← h2.length, ← h4.length]; exact hz, ?_⟩
            obtain ⟨e1, R1⟩ := R.setL hp q (h2.append h4)
            exact oo ρ _ _ e1 R1 .non
      · exact oo.elim
    · exact oo.elim
  · exact oo.elim
def mPopAt : MF := fun o ws h => match o, ws with
  | .ref n, [.int i] => match h[n]? with
    | some (.lst xs) => if -(2 ^ 63) ≤ i ∧ i < 2 ^ 63 then match seqIndex? i xs.length with
        | some k => match xs[k]? with
          | some y => .ok y (h.set n (.lst (xs.eraseIdx k)))
          | none => .bad
        | none => .bad
      else .bad
    | _ => .bad
  | _, _ => .bad
theorem RVs.erase {ρ : Rh} {H : Hp} {Γ : Cn} : ∀ {ws : List W} {vs : List V} (k : Nat), RVs Γ ρ H ws vs → RVs Γ ρ H (ws.eraseIdx k) (vs.eraseIdx k)
  | _, _, _, .nil => .nil
  | _, _, 0, .cons _ r => r
  | _, _, k + 1, .cons a r => .cons a (RVs.erase k r)
theorem mt_popAtW : MtW X T "list.pop" mPopAt := mt_raw fun pins s σ H x xs v us ρ h a ws I rx rs R ra rws Q oo => by
  unfold mPopAt at oo
  split at oo
  · split at oo
    · rename_i n i _ xs' q
      split at oo
      · rename_i hz
        split at oo
        · rename_i k hk
          split at oo
          · rename_i y hy
            cases ra with
            | ref hp =>
              cases rws with
              | cons ry rn =>
                cases rn; cases ry
                obtain ⟨vs, h1, h2⟩ := R.lstAt hp q
                obtain ⟨v', h3, h4⟩ := h2.get hy
                refine mt_popAt pins s σ H _ _ v us Q I rx rs ⟨_, vs, i, k, v', rfl, rfl, h1, hz.1, hz.2, by rw [← h2.length]; exact hk, h3, ?_⟩
                obtain ⟨e1, R1⟩ := R.setL hp q (h2.erase k)
                exact oo ρ _ _ e1 R1 (h4.ext e1)
          · exact oo.elim
        · exact oo.elim
      · exact oo.elim
    · exact oo.elim
  · exact oo.elim
def mPop : MF := fun o ws h => match o, ws with
  | .ref n, [] => match h[n]? with
    | some (.lst xs) => match xs[xs.length - 1]? with
      | some y => .ok y (h.set n (.lst xs.dropLast))
      | none => .bad
    | _ => .bad
  | _, _ => .bad
theorem RVs.dropLast {ρ : Rh} {H : Hp} {Γ : Cn} : ∀ {ws : List W} {vs : List V}, RVs Γ ρ H ws vs → RVs Γ ρ H ws.dropLast vs.dropLast
  | _, _, .nil => .nil
  | _, _, .cons _ .nil => .nil
  | _, _, .cons a (.cons b r) => .cons a (RVs.dropLast (.cons b r))
theorem mt_popW : MtW X T "list.pop" mPop := mt_raw fun pins s σ H x xs v us ρ h a ws I rx rs R ra rws Q oo => by
  unfold mPop at oo
  split at oo
  · split at oo
    · rename_i n xs' q
      split at oo
      · rename_i y hy
        cases ra with
        | ref hp =>
          cases rws
          obtain ⟨vs, h1, h2⟩ := R.lstAt hp q
          obtain ⟨v', h3, h4⟩ := h2.get hy
          refine mt_pop pins s σ H _ _ v us Q I rx rs ⟨_, vs, v', rfl, rfl, h1, by rw [← h2.length]; exact h3, ?_⟩
          obtain ⟨e1, R1⟩ := R.setL hp q h2.dropLast
          exact oo ρ _ _ e1 R1 (h4.ext e1)
      · exact oo.elim
    · exact oo.elim
  · exact oo.elim
def strsW : List W → Option (List Str)
  | [] => some []
  | .str x :: r => (strsW r).map (x :: ·)
  | _ :: _ => none
theorem strs_ok {ρ : Rh} {H : Hp} {Γ : Cn} : ∀ {ws : List W} {vs : List V} {l : List Str}, RVs Γ ρ H ws vs → strsW ws = some l → vs = l.map V.str
  | _, _, _, .nil, e => by cases e; rfl
  | .str x :: r, _, _, .cons a b, e => by
    unfold strsW at e
    obtain ⟨l', e1, e2⟩ := Option.map_eq_some_iff.mp e
    subst e2
    cases a
    rw [strs_ok b e1]
    rfl
  | .non :: _, _, _, _, e => by cases e
  | .bl _ :: _, _, _, _, e => by cases e
  | .int _ :: _, _, _, _, e => by cases e
  | .typ _ :: _, _, _, _, e => by cases e
  | .tup _ :: _, _, _, _, e => by cases e
  | .lst _ :: _, _, _, _, e => by cases e
  | .dct _ :: _, _, _, _, e => by cases e
  | .ins _ _ :: _, _, _, _, e => by cases e
  | .ref _ :: _, _, _, _, e => by cases e
  | .glo _ :: _, _, _, _, e => by cases e
  | .scr _ :: _, _, _, _, e => by cases e
def mJoin : MF := fun o ws h => match o, ws with
  | .str a, [y] => match seqA h y with
    | some ys => match strsW ys with
      | some l => if (l.map (·.length)).sum + l.length * a.length ≤ 16777216 then .ok (.str (Txt.join a l)) h else .bad
      | none => .bad
    | none => .bad
  | _, _ => .bad
theorem mt_joinW : MtW X T "str.join" mJoin := mt_raw fun pins s σ H x xs v us ρ h a ws I rx rs R ra rws Q oo => by
  unfold mJoin at oo
  split at oo
  · split at oo
    · rename_i a' y ys e1
      split at oo
      · rename_i l e2
        split at oo
        · rename_i hz
          cases ra
          cases rws with
          | cons ry rn =>
            cases rn
            obtain ⟨p, vs, ep, hp, rr⟩ := seqA_ok R ry e1
            subst ep
            have := strs_ok rr e2
            subst this
            exact mt_join pins s σ H _ _ v us Q I rx rs ⟨_, p, l, rfl, rfl, hp.imp .of .of, hz, oo ρ H _ .refl R (.str _)⟩
        · exact oo.elim
      · exact oo.elim
    · exact oo.elim
  · exact oo.elim
end
end PF
set_option Elab.async false
set_option linter.all false
set_option maxRecDepth 100000
set_option maxHeartbeats 1000000
namespace PF
open PySem PySem.Spec PyProof.Rows L2

def isK (w : W) : Bool := (keyW w).isSome
def isT (w : W) : Bool := (tupW w).isSome
def findK (kvs : List (W × W)) (k : Key) : Option W := (kvs.find? fun e => decide (keyW e.1 = some k)).map (·.2)
def findT (kvs : List (W × W)) (k : List Key) : Option W := (kvs.find? fun e => decide (tupW e.1 = some k)).map (·.2)
/-- what stands at a key; none: not told -/
def lookW (kvs : List (W × W)) (k : W) : Option (Option W) := match keyW k with
  | some kk => if kvs.all (fun e => isK e.1) = true then some (findK kvs kk) else none
  | none => match tupW k with
    | some kk => if kvs.all (fun e => isT e.1) = true then some (findT kvs kk) else none
    | none => none
def putKW (kvs : List (W × W)) (k : Key) (kw v : W) : List (W × W) :=
  if kvs.any (fun e => decide (keyW e.1 = some k)) then kvs.map (fun e => if keyW e.1 = some k then (e.1, v) else e) else kvs ++ [(kw, v)]
def putTW (kvs : List (W × W)) (k : List Key) (kw v : W) : List (W × W) :=
  if kvs.any (fun e => decide (tupW e.1 = some k)) then kvs.map (fun e => if tupW e.1 = some k then (e.1, v) else e) else kvs ++ [(kw, v)]
def putW (kvs : List (W × W)) (k v : W) : Option (List (W × W)) := match keyW k with
  | some kk => if kvs.all (fun e => isK e.1) = true then some (putKW kvs kk k v) else none
  | none => match tupW k with
    | some kk => if kvs.all (fun e => isT e.1) = true then some (putTW kvs kk k v) else none
    | none => none

section
variable {Γ : Cn} {ρ : Rh} {h : AH} {H : Hp}
/-- a dict that can be read -/
inductive DR (Γ : Cn) (ρ : Rh) (H : Hp) (p : Addr) (kvs : List (W × W)) : Prop
  | k {kk : List (Key × V)} (h : Rd H p (.dK kk)) (r : RKs Γ ρ H kvs kk) : DR Γ ρ H p kvs
  | t {kk : List (List Key × V)} (h : Rd H p (.dT kk)) (r : RTs Γ ρ H kvs kk) : DR Γ ρ H p kvs
theorem dctOf_ok (R : Rep Γ ρ h H) {w : W} {v : V} {kvs : List (W × W)} (r : RV Γ ρ H w v) (e : dctOf h w = some kvs) : ∃ p, v = .ref p ∧ DR Γ ρ H p kvs := by
  cases r with
  | dK np hr r => cases e; exact ⟨_, rfl, .k hr.rd r⟩
  | dT np hr r => cases e; exact ⟨_, rfl, .t hr.rd r⟩
  | @ref n p hp =>
    unfold dctOf at e
    dsimp only at e
    split at e
    · rename_i q
      cases e
      obtain ⟨u, a, b⟩ := R.obj n _ p q hp
      cases b with
      | dK r => exact ⟨p, rfl, .k (.inl a) r⟩
      | dT r => exact ⟨p, rfl, .t (.inl a) r⟩
    · rename_i q
      cases e
      obtain ⟨u, a, b⟩ := R.obj n _ p q hp
      cases b with
      | lck r =>
        cases r with
        | dK r => exact ⟨p, rfl, .k (.inr ⟨_, a⟩) r⟩
        | dT r => exact ⟨p, rfl, .t (.inr ⟨_, a⟩) r⟩
    · cases e
  | _ => cases e
theorem RKs.find : ∀ {kvs : List (W × W)} {kk : List (Key × V)} (k : Key), RKs Γ ρ H kvs kk → (findK kvs k = none ∧ valV kk k = none) ∨ ∃ w v, findK kvs k = some w ∧ valV kk k = some v ∧ RV Γ ρ H w v
  | _, _, k, .nil => .inl ⟨rfl, rfl⟩
  | _, _, k, .cons (k := k0) (kk := k1) (w := w0) (v := v0) (ws := ws) (vs := vs) e a r => by
    by_cases hk : k1 = k
    · subst hk
      refine .inr ⟨w0, v0, ?_, ?_, a⟩
      · unfold findK
        rw [List.find?_cons_of_pos (by simpa using e)]
        rfl
      · unfold valV
        rw [List.find?_cons_of_pos (by simp)]
        rfl
    · have e1 : findK ((k0, w0) :: ws) k = findK ws k := by
        unfold findK
        rw [List.find?_cons_of_neg (by simpa [e] using hk)]
      have e2 : valV ((k1, v0) :: vs) k = valV vs k := by
        unfold valV
        rw [List.find?_cons_of_neg (by simpa using hk)]
      rw [e1, e2]
      exact RKs.find k r
theorem RTs.find : ∀ {kvs : List (W × W)} {kk : List (List Key × V)} (k : List Key), RTs Γ ρ H kvs kk → (findT kvs k = none ∧ valV kk k = none) ∨ ∃ w v, findT kvs k = some w ∧ valV kk k = some v ∧ RV Γ ρ H w v
  | _, _, k, .nil => .inl ⟨rfl, rfl⟩
  | _, _, k, .cons (k := k0) (kk := k1) (w := w0) (v := v0) (ws := ws) (vs := vs) e a r => by
    by_cases hk : k1 = k
    · subst hk
      refine .inr ⟨w0, v0, ?_, ?_, a⟩
      · unfold findT
        rw [List.find?_cons_of_pos (by simpa using e)]
        rfl
      · unfold valV
        rw [List.find?_cons_of_pos (by simp)]
        rfl
    · have e1 : findT ((k0, w0) :: ws) k = findT ws k := by
        unfold findT
        rw [List.find?_cons_of_neg (by simpa [e] using hk)]
      have e2 : valV ((k1, v0) :: vs) k = valV vs k := by
        unfold valV
        rw [List.find?_cons_of_neg (by simpa using hk)]
      rw [e1, e2]
      exact RTs.find k r
theorem RKs.notT {kvs : List (W × W)} {kk : List (Key × V)} (r : RKs Γ ρ H kvs kk) (e : kvs.all (fun e => isT e.1) = true) : kvs = [] ∧ kk = [] := by
  cases r with
  | nil => exact ⟨rfl, rfl⟩
  | @cons k w _ _ _ _ e1 a r =>
    simp only [List.all_cons, Bool.and_eq_true] at e
    obtain ⟨e, _⟩ := e
    unfold isT at e
    cases k <;> first | cases e | cases e1
theorem RTs.notK {kvs : List (W × W)} {kk : List (List Key × V)} (r : RTs Γ ρ H kvs kk) (e : kvs.all (fun e => isK e.1) = true) : kvs = [] ∧ kk = [] := by
  cases r with
  | nil => exact ⟨rfl, rfl⟩
  | @cons k w _ _ _ _ e1 a r =>
    simp only [List.all_cons, Bool.and_eq_true] at e
    obtain ⟨e, _⟩ := e
    unfold isK at e
    cases k <;> first | cases e1 | cases e
theorem key_at {k : W} {y : V} {kk : Key} (r : RV Γ ρ H k y) (e : keyW k = some kk) : y = kV kk := by
  cases r <;> first | (cases e; rfl) | cases e
theorem keys_at : ∀ {ws : List W} {vs : List V} {ks : List Key}, RVs Γ ρ H ws vs → keysW ws = some ks → vs = ks.map kV
  | _, _, _, .nil, e => by cases e; rfl
  | _, _, _, .cons a r, e => by
    unfold keysW at e
    split at e
    · rename_i k ks e1 e2
      cases e
      rw [key_at a e1, keys_at r e2]
      rfl
    · cases e
theorem tup_at {k : W} {y : V} {ks : List Key} (r : RV Γ ρ H k y) (e : tupW k = some ks) : ∃ b, y = .ref b ∧ H b = some (.tup (ks.map kV)) := by
  cases r with
  | tup np h r =>
    rw [keys_at r e] at h
    exact ⟨_, rfl, h⟩
  | _ => cases e
end

section
variable {X : Cx} {T : List (Addr × Str)} {Wx : WX} {pins : List (Addr × Obj)} {s : Shared} {σ : L2.St} {H : Hp} {ρ : Rh} {h : AH}
/-- a dict with int and text keys; one with tuples -/
def DKs (X : Cx) (H : Hp) (s : Shared) (a : Addr) (kk : List (Key × V)) : Prop := kk.length ≤ sizeLine ∧ (a == sysModules) = false ∧ ∃ vs, KV kk vs ∧ s.heap.DictOf (mixKind X.prog X.w) a vs
def DTs (X : Cx) (H : Hp) (s : Shared) (a : Addr) (kk : List (List Key × V)) : Prop := kk.length ≤ sizeLine ∧ (a == sysModules) = false ∧ ∃ xs, KT H kk xs ∧ s.heap.DictOfH (tupleKind (mixKind X.prog X.w)) a xs
theorem DKs.toT {a : Addr} (d : DKs X H s a []) : DTs X H s a [] := by
  obtain ⟨z, hd, vs, r, o, es, ep, h1, h2, h3, h4, h5, h6⟩ := d
  cases r
  have e : es.toList = [] := by
    cases q : es.toList with
    | nil => rfl
    | cons x l => rw [q] at h5; cases h5
  exact ⟨z, hd, [], .nil, o, es, ep, h1, h2, h3, e, (fun x hx => nomatch hx), by simp⟩
theorem DTs.toK {a : Addr} (d : DTs X H s a []) : DKs X H s a [] := by
  obtain ⟨z, hd, vs, r, o, es, ep, h1, h2, h3, h4, h5, h6⟩ := d
  cases r
  have e : es.toList = [] := h4
  have e2 : es = #[] := by simpa using e
  subst e2
  exact ⟨z, hd, [], .nil, o, #[], ep, h1, h2, h3, (fun x hx => by simp at hx), .nil, by simp⟩
theorem DR.asK {a : Addr} {kvs : List (W × W)} (I : Inv X pins σ H s) (d : DR (Cx.cn X T) ρ H a kvs) (e : kvs.all (fun e => isK e.1) = true) : ∃ kk, RKs (Cx.cn X T) ρ H kvs kk ∧ DKs X H s a kk := by
  cases d with
  | k h r => exact ⟨_, r, dk_rd I.hok h⟩
  | t h r =>
    obtain ⟨e1, e2⟩ := r.notK e
    subst e1 e2
    exact ⟨[], .nil, DTs.toK (dt_rd I.hok h)⟩
theorem DR.asT {a : Addr} {kvs : List (W × W)} (I : Inv X pins σ H s) (d : DR (Cx.cn X T) ρ H a kvs) (e : kvs.all (fun e => isT e.1) = true) : ∃ kk, RTs (Cx.cn X T) ρ H kvs kk ∧ DTs X H s a kk := by
  cases d with
  | t h r => exact ⟨_, r, dt_rd I.hok h⟩
  | k h r =>
    obtain ⟨e1, e2⟩ := r.notT e
    subst e1 e2
    exact ⟨[], .nil, DKs.toT (dk_rd I.hok h)⟩
theorem DR.typeIs {a : Addr} {kvs : List (W × W)} (I : Inv X pins σ H s) (d : DR (Cx.cn X T) ρ H a kvs) : s.TypeIs (.ref a) "dict" := by
  cases d with
  | k h r => obtain ⟨_, _, vs, _, dd⟩ := dk_rd I.hok h; exact dd.typeIs
  | t h r => obtain ⟨_, _, vs, _, dd⟩ := dt_rd I.hok h; exact dd.typeIs
/-- a look into a dict: what stands there, in three forms -/
theorem look_in {A : Around} {E : Value → Shared → Prop} {Q : Value → Shared → Prop} {a : Addr} {kvs : List (W × W)} {k : W} {y : V} {u : Value} {ow : Option W} (hu : A.units + 1 < cLine) (I : Inv X pins σ H s) (R : Rep (Cx.cn X T) ρ h H) (d : DR (Cx.cn X T) ρ H a kvs) (rk : RV (Cx.cn X T) ρ H k y) (ry : RelV y u) (e : lookW kvs k = some ow)
    (q : ∀ s', Inv X pins σ H s' → Q (.bool ow.isSome) s') : wpAny (model X.prog X.w) A (compareOp .In u (.ref a)) Q E s := by
  unfold lookW at e
  split at e
  · rename_i kk ek
    split at e
    · rename_i ha
      cases e
      obtain ⟨ks, r, _, hd, vs, rel, dd⟩ := d.asK I ha
      have := key_at rk ek
      subst this
      refine wpAny_in_of (kV_is ry) hd dd.mapOf ?_
      rw [← (rel.val kk).isSome_eq]
      rcases r.find kk with ⟨e1, e2⟩ | ⟨w, v, e1, e2, _⟩ <;> (rw [e2]; rw [e1] at q; exact q _ (I.tok _))
    · cases e
  · split at e
    · rename_i kk ek
      split at e
      · rename_i ha
        cases e
        obtain ⟨ks, r, _, hd, xs, rel, dd⟩ := d.asT I ha
        obtain ⟨b, eb, hb⟩ := tup_at rk ek
        subst eb
        cases ry
        refine wpAny_in_heap (tupleKind_room_in1 hu) (key_of I.hok hb) hd dd ?_
        have z := (rel.val kk).isSome_eq
        rw [Option.isSome_map] at z
        rw [← z]
        rcases r.find kk with ⟨e1, e2⟩ | ⟨w, v, e1, e2, _⟩ <;> (rw [e2]; rw [e1] at q; exact q _ (I.tok _))
      · cases e
    · cases e
theorem look_notIn {A : Around} {E : Value → Shared → Prop} {Q : Value → Shared → Prop} {a : Addr} {kvs : List (W × W)} {k : W} {y : V} {u : Value} {ow : Option W} (hu : A.units + 1 < cLine) (I : Inv X pins σ H s) (R : Rep (Cx.cn X T) ρ h H) (d : DR (Cx.cn X T) ρ H a kvs) (rk : RV (Cx.cn X T) ρ H k y) (ry : RelV y u) (e : lookW kvs k = some ow)
    (q : ∀ s', Inv X pins σ H s' → Q (.bool (!ow.isSome)) s') : wpAny (model X.prog X.w) A (compareOp .NotIn u (.ref a)) Q E s := by
  unfold lookW at e
  split at e
  · rename_i kk ek
    split at e
    · rename_i ha
      cases e
      obtain ⟨ks, r, _, hd, vs, rel, dd⟩ := d.asK I ha
      have := key_at rk ek
      subst this
      refine wpAny_notIn_of (kV_is ry) hd dd.mapOf ?_
      rw [← (rel.val kk).isSome_eq]
      rcases r.find kk with ⟨e1, e2⟩ | ⟨w, v, e1, e2, _⟩ <;> (rw [e2]; rw [e1] at q; exact q _ (I.tok _))
    · cases e
  · split at e
    · rename_i kk ek
      split at e
      · rename_i ha
        cases e
        obtain ⟨ks, r, _, hd, xs, rel, dd⟩ := d.asT I ha
        obtain ⟨b, eb, hb⟩ := tup_at rk ek
        subst eb
        cases ry
        refine wpAny_notIn_heap (tupleKind_room_in1 hu) (key_of I.hok hb) hd dd ?_
        have z := (rel.val kk).isSome_eq
        rw [Option.isSome_map] at z
        rw [← z]
        rcases r.find kk with ⟨e1, e2⟩ | ⟨w, v, e1, e2, _⟩ <;> (rw [e2]; rw [e1] at q; exact q _ (I.tok _))
      · cases e
    · cases e
theorem look_get {A : Around} {E : Value → Shared → Prop} {Q : Value → Shared → Prop} {a : Addr} {kvs : List (W × W)} {k w : W} {y : V} {u : Value} (hu : A.units + 1 < cLine) (I : Inv X pins σ H s) (R : Rep (Cx.cn X T) ρ h H) (d : DR (Cx.cn X T) ρ H a kvs) (rk : RV (Cx.cn X T) ρ H k y) (ry : RelV y u) (e : lookW kvs k = some (some w))
    (q : ∀ v u' s', Inv X pins σ H s' → RV (Cx.cn X T) ρ H w v → RelV v u' → Q u' s') : wpAny (model X.prog X.w) A (getItem (.ref a) u) Q E s := by
  unfold lookW at e
  split at e
  · rename_i kk ek
    split at e
    · rename_i ha
      obtain ⟨ks, r, _, hd, vs, rel, dd⟩ := d.asK I ha
      have := key_at rk ek
      subst this
      rcases r.find kk with ⟨e1, e2⟩ | ⟨w1, v, e1, e2, rv⟩
      · rw [e1] at e; cases e
      · rw [e1] at e
        cases e
        obtain ⟨w', hw, rw'⟩ := RelO.some_of (v := v) (o := valueAt vs kk) (by rw [← e2]; exact rel.val kk)
        exact wpAny_getItem_of (kV_is ry) dd.mapOf hw (q v w' _ (I.tok _) rv rw')
    · cases e
  · split at e
    · rename_i kk ek
      split at e
      · rename_i ha
        obtain ⟨ks, r, _, hd, xs, rel, dd⟩ := d.asT I ha
        obtain ⟨b, eb, hb⟩ := tup_at rk ek
        subst eb
        cases ry
        rcases r.find kk with ⟨e1, e2⟩ | ⟨w1, v, e1, e2, rv⟩
        · rw [e1] at e; cases e
        · rw [e1] at e
          cases e
          obtain ⟨w', hw, rw'⟩ := RelO.some_of (v := v) (o := (atKey xs kk).map (·.2)) (by rw [← e2]; exact rel.val kk)
          obtain ⟨p, hp, hp2⟩ := Option.map_eq_some_iff.mp hw
          refine wpAny_getItem_heap (tupleKind_room_in1 hu) (key_of I.hok hb) dd hp ?_
          rw [hp2]
          exact q v w' _ (I.tok _) rv rw'
      · cases e
    · cases e
/-- in, not in, of any kind of thing -/
def inA (h : AH) (a b : W) : Option W := match dctOf h b with
  | some kvs => (lookW kvs a).map fun o => .bl o.isSome
  | none => inW h a b
def notInA (h : AH) (a b : W) : Option W := match dctOf h b with
  | some kvs => (lookW kvs a).map fun o => .bl (!o.isSome)
  | none => notInW h a b
theorem op_inA (hu : X.A.units + 64 < cLine) : Op2 X T (compareOp .In) inA := op_raw fun pins s σ H x y v u ρ h a b w I rx ry R ra rb e Q o => by
  unfold inA at e
  split at e
  · rename_i kvs e1
    obtain ⟨ow, e2, e3⟩ := Option.map_eq_some_iff.mp e
    subst e3
    obtain ⟨p, ep, d⟩ := dctOf_ok R rb e1
    subst ep
    cases ry
    exact look_in (by omega) I R d ra rx e2 fun s' I' => ⟨.bl _, H, I', rfl, o.here R (.bl _)⟩
  · exact op_inW hu pins s σ H x y v u Q I rx ry ⟨ρ, h, a, b, R, ra, rb, by rw [e]; exact o⟩
theorem op_notInA (hu : X.A.units + 64 < cLine) : Op2 X T (compareOp .NotIn) notInA := op_raw fun pins s σ H x y v u ρ h a b w I rx ry R ra rb e Q o => by
  unfold notInA at e
  split at e
  · rename_i kvs e1
    obtain ⟨ow, e2, e3⟩ := Option.map_eq_some_iff.mp e
    subst e3
    obtain ⟨p, ep, d⟩ := dctOf_ok R rb e1
    subst ep
    cases ry
    exact look_notIn (by omega) I R d ra rx e2 fun s' I' => ⟨.bl _, H, I', rfl, o.here R (.bl _)⟩
  · exact op_notInW hu pins s σ H x y v u Q I rx ry ⟨ρ, h, a, b, R, ra, rb, by rw [e]; exact o⟩
/-- a[b] of any kind of thing -/
def ixA (h : AH) (a b : W) : Option W := match dctOf h a with
  | some kvs => match lookW kvs b with
    | some (some w) => some w
    | _ => none
  | none => ixW h a b
theorem ix_A (hu : X.A.units + 64 < cLine) : IxW X T ixA := by
  intro value slice pins s σ H x y v u Q I rx ry hq hs
  obtain ⟨ρ, h, a, b, R, ra, rb, o⟩ := hq
  obtain ⟨w, e⟩ := o.sm
  rw [e] at o
  unfold ixA at e
  split at e
  · rename_i kvs e1
    split at e
    · rename_i w1 e2
      cases e
      obtain ⟨p, ep, d⟩ := dctOf_ok R ra e1
      subst ep
      cases rx
      exact tail_any (d.typeIs I) PySem.F.slot_dict_getitem.lookup (look_get (by omega) I R d rb ry e2 fun v' u' s' I' rv' rr => ⟨v', H, I', rr, o.here R rv'⟩) hs
    · cases e
  · exact ix_W value slice pins s σ H x y v u Q I rx ry ⟨ρ, h, a, b, R, ra, rb, by rw [e]; exact o⟩ hs
variable {a b : Expr} {fa fb : EF} {pos : Pos}
theorem ee_ixA (hu : X.A.units + 64 < cLine) (ha : EE X T Wx a fa) (hb : EE X T Wx b fb) (hs : PlainIx b) : EE X T Wx (.Subscript a b pos) (fOp2 ixA fa fb) :=
  PE.imp (pe_ix (ix_A hu) ha hb hs) fun _ _ _ hq => t2_of hq
end
end PF
set_option Elab.async false
set_option linter.all false
set_option maxRecDepth 100000
set_option maxHeartbeats 1000000
namespace PF
open PySem PySem.Spec PyProof.Rows L2

/-! ### stores -/
def setW (o i v : W) (h : AH) : Option AH := match o with
  | .ref n => match h[n]? with
    | some (.lst xs) => match i with
      | .int k => match ixN xs.length k with
        | some j => some (h.set n (.lst (xs.set j v)))
        | none => none
      | _ => none
    | some (.dct kvs) => if kvs.length < sizeLine then (putW kvs i v).map fun kvs' => h.set n (.dct kvs') else none
    | _ => none
  | _ => none

section
variable {Γ : Cn} {ρ : Rh} {h : AH} {H : Hp}
theorem RVs.set {w : W} {v : V} (a : RV Γ ρ H w v) : ∀ {ws : List W} {vs : List V} (i : Nat), RVs Γ ρ H ws vs → RVs Γ ρ H (ws.set i w) (vs.set i v)
  | _, _, _, .nil => .nil
  | _, _, 0, .cons _ r => .cons a r
  | _, _, i + 1, .cons b r => .cons b (RVs.set a i r)
theorem RKs.any (k : Key) : ∀ {kvs : List (W × W)} {kk : List (Key × V)}, RKs Γ ρ H kvs kk → (kvs.any fun e => decide (keyW e.1 = some k)) = (kk.any fun kv => decide (kv.1 = k))
  | _, _, .nil => rfl
  | _, _, .cons e a r => by
    rw [List.any_cons, List.any_cons, RKs.any k r, e]
    simp
theorem RKs.map {k : Key} {w : W} {v : V} (b : RV Γ ρ H w v) : ∀ {kvs : List (W × W)} {kk : List (Key × V)}, RKs Γ ρ H kvs kk → RKs Γ ρ H (kvs.map fun e => if keyW e.1 = some k then (e.1, w) else e) (kk.map fun kv => if kv.1 = k then (kv.1, v) else kv)
  | _, _, .nil => .nil
  | _, _, .cons (k := k0) (kk := k1) e a r => by
    rw [List.map_cons, List.map_cons]
    by_cases hk : k1 = k
    · subst hk
      rw [if_pos e, if_pos rfl]
      exact .cons e b (RKs.map b r)
    · rw [if_neg (by rw [e]; simpa using hk), if_neg hk]
      exact .cons e a (RKs.map b r)
theorem RKs.snoc {k w : W} {kk : Key} {v : V} (e : keyW k = some kk) (b : RV Γ ρ H w v) : ∀ {kvs : List (W × W)} {ks : List (Key × V)}, RKs Γ ρ H kvs ks → RKs Γ ρ H (kvs ++ [(k, w)]) (ks ++ [(kk, v)])
  | _, _, .nil => .cons e b .nil
  | _, _, .cons e1 a r => .cons e1 a (RKs.snoc e b r)
theorem RKs.put {k w : W} {kk : Key} {v : V} (e : keyW k = some kk) (b : RV Γ ρ H w v) {kvs : List (W × W)} {ks : List (Key × V)} (r : RKs Γ ρ H kvs ks) : RKs Γ ρ H (putKW kvs kk k w) (putK ks kk v) := by
  unfold putKW putK
  rw [r.any kk]
  split
  · exact r.map b
  · exact r.snoc e b
theorem RTs.any (k : List Key) : ∀ {kvs : List (W × W)} {kk : List (List Key × V)}, RTs Γ ρ H kvs kk → (kvs.any fun e => decide (tupW e.1 = some k)) = (kk.any fun kv => decide (kv.1 = k))
  | _, _, .nil => rfl
  | _, _, .cons e a r => by
    rw [List.any_cons, List.any_cons, RTs.any k r, e]
    simp
theorem RTs.map {k : List Key} {w : W} {v : V} (b : RV Γ ρ H w v) : ∀ {kvs : List (W × W)} {kk : List (List Key × V)}, RTs Γ ρ H kvs kk → RTs Γ ρ H (kvs.map fun e => if tupW e.1 = some k then (e.1, w) else e) (kk.map fun kv => if kv.1 = k then (kv.1, v) else kv)
  | _, _, .nil => .nil
  | _, _, .cons (k := k0) (kk := k1) e a r => by
    rw [List.map_cons, List.map_cons]
    by_cases hk : k1 = k
    · subst hk
      rw [if_pos e, if_pos rfl]
      exact .cons e b (RTs.map b r)
    · rw [if_neg (by rw [e]; simpa using hk), if_neg hk]
      exact .cons e a (RTs.map b r)
theorem RTs.snoc {k w : W} {kk : List Key} {v : V} (e : tupW k = some kk) (b : RV Γ ρ H w v) : ∀ {kvs : List (W × W)} {ks : List (List Key × V)}, RTs Γ ρ H kvs ks → RTs Γ ρ H (kvs ++ [(k, w)]) (ks ++ [(kk, v)])
  | _, _, .nil => .cons e b .nil
  | _, _, .cons e1 a r => .cons e1 a (RTs.snoc e b r)
theorem RTs.put {k w : W} {kk : List Key} {v : V} (e : tupW k = some kk) (b : RV Γ ρ H w v) {kvs : List (W × W)} {ks : List (List Key × V)} (r : RTs Γ ρ H kvs ks) : RTs Γ ρ H (putTW kvs kk k w) (putK ks kk v) := by
  unfold putTW putK
  rw [r.any kk]
  split
  · exact r.map b
  · exact r.snoc e b
end
section
variable {X : Cx} {T : List (Addr × Str)} {Wx : WX} {pins : List (Addr × Obj)} {s : Shared} {σ : L2.St} {H : Hp} {ρ : Rh} {h : AH}
/-- an object is told otherwise -/
theorem relabel {a : Addr} {u u' : HO} (I : Inv X pins σ H s) (e : H a = some u) (m : Mut (some u)) (heo : ∃ o, s.heap.get? a = some o) (ok : ObjOk X.prog X.w (upd H a u') s.heap a u') : Inv X pins σ (upd H a u') s :=
  I.write (x := a) (e := a) (h' := s.heap) (t' := s.toks) (by rw [e]; exact m) (.inl rfl) (fun b u _ z => z) heo ok
theorem relabel_T {a : Addr} (I : Inv X pins σ H s) (e : H a = some (.dK [])) : Inv X pins σ (upd H a (.dT [])) s := by
  obtain ⟨z, hd, vs, r, o, es, ep, h1, h2, h3, h4, h5, h6⟩ := dk_of I.hok e
  cases r
  have e' : es.toList = [] := by
    cases q : es.toList with
    | nil => rfl
    | cons x l => rw [q] at h5; cases h5
  exact relabel I e True.intro ⟨o, h1⟩ ⟨z, hd, [], .nil, o, es, ep, h1, h2, h3, e', by simp⟩
theorem relabel_K {a : Addr} (I : Inv X pins σ H s) (e : H a = some (.dT [])) : Inv X pins σ (upd H a (.dK [])) s := by
  obtain ⟨o, h1⟩ : ∃ o, s.heap.get? a = some o := by
    obtain ⟨_, _, _, _, o, _, _, h1, _⟩ := dt_of I.hok e
    exact ⟨o, h1⟩
  have d : DKs X H s a [] := DTs.toK (dt_of I.hok e)
  exact relabel I e True.intro ⟨o, h1⟩ d
def tSetW (Γ : Cn) : TSet := fun o i v H Q => ∃ ρ h ow iw w, Rep Γ ρ h H ∧ RV Γ ρ H ow o ∧ RV Γ ρ H iw i ∧ RV Γ ρ H w v ∧ ∃ h', setW ow iw w h = some h' ∧ ∀ H', Ext ρ H ρ H' → Rep Γ ρ h' H' → Q H'
theorem set_W (hu : X.A.units + 64 < cLine) : PSet X (tSetW (Cx.cn X T)) := by
  intro pins s σ H o i v ov iv u Q I ro ri rv hq
  obtain ⟨ρ, h, ow, iw, w, R, wo, wi, wv, h', e, q⟩ := hq
  unfold setW at e
  split at e
  · split at e
    · rename_i n xs hn
      split at e
      · rename_i k
        split at e
        · rename_i j hj
          cases e
          cases wo with
          | ref hp =>
            cases wi
            obtain ⟨vs, h1, h2⟩ := R.lstAt hp hn
            refine set_list pins s σ H _ _ v ov iv u Q I ro ri rv ⟨_, vs, k, j, rfl, rfl, h1, by rw [← h2.length]; exact hj, ?_⟩
            obtain ⟨e1, R1⟩ := R.setL hp hn (h2.set wv j)
            exact q _ e1 R1
        · cases e
      · cases e
    · rename_i n _ kvs hn
      split at e
      · rename_i hz
        obtain ⟨kvs', e1, e2⟩ := Option.map_eq_some_iff.mp e
        subst e2
        cases wo with
        | @ref _ p hp =>
          cases ro
          obtain ⟨uo, a, b⟩ := R.obj n _ p hn hp
          unfold putW at e1
          split at e1
          · rename_i kk ek
            split at e1
            · rename_i ha
              cases e1
              have := key_at wi ek
              subst this
              cases b with
              | @dK _ ks r =>
                have hz' : ks.length < sizeLine := by rw [← r.length]; exact hz
                have fin : Ext ρ H ρ (upd H p (.dK (putK ks kk v))) ∧ Rep (Cx.cn X T) ρ (h.set n (.dct (putKW kvs kk iw w))) (upd H p (.dK (putK ks kk v))) := by
                  have x : Ext ρ H ρ (upd H p (.dK (putK ks kk v))) := Ext.write (Rh.at_mem hp) a (fun _ z => by cases z) (fun _ z => by cases z)
                  exact R.write hp hn a (.dK r) (.dK ((r.put ek wv).ext x))
                exact d_setItem (by omega) I (DPut.k a hz') ri rv fun s' I' => ⟨_, I', q _ fin.1 fin.2⟩
              | @dT _ ks r =>
                obtain ⟨z1, z2⟩ := r.notK ha
                subst z1 z2
                have fin : Ext ρ H ρ (upd H p (.dK (putK [] kk v))) ∧ Rep (Cx.cn X T) ρ (h.set n (.dct (putKW [] kk iw w))) (upd H p (.dK (putK [] kk v))) := by
                  have x : Ext ρ H ρ (upd H p (.dK (putK [] kk v))) := Ext.write (Rh.at_mem hp) a (fun _ z => by cases z) (fun _ z => by cases z)
                  exact R.write hp hn a (.dT r) (.dK ((RKs.put ek wv .nil).ext x))
                refine d_setItem (by omega) (relabel_K I a) (DPut.k (kvs := []) upd_same (by rw [sizeLine_eq]; decide)) ri rv fun s' I' => ?_
                rw [upd_upd] at I'
                exact ⟨_, I', q _ fin.1 fin.2⟩
            · cases e1
          · split at e1
            · rename_i kk ek
              split at e1
              · rename_i ha
                cases e1
                obtain ⟨c, ec, hc⟩ := tup_at wi ek
                subst ec
                have nc : c ≠ p := fun z => by
                  subst z
                  rw [hc] at a
                  cases a
                  cases b
                cases b with
                | @dT _ ks r =>
                  have hz' : ks.length < sizeLine := by rw [← r.length]; exact hz
                  have fin : Ext ρ H ρ (upd H p (.dT (putK ks kk v))) ∧ Rep (Cx.cn X T) ρ (h.set n (.dct (putTW kvs kk iw w))) (upd H p (.dT (putK ks kk v))) := by
                    have x : Ext ρ H ρ (upd H p (.dT (putK ks kk v))) := Ext.write (Rh.at_mem hp) a (fun _ z => by cases z) (fun _ z => by cases z)
                    exact R.write hp hn a (.dT r) (.dT ((r.put ek wv).ext x))
                  exact d_setItem (by omega) I (DPut.t a hc hz') ri rv fun s' I' => ⟨_, I', q _ fin.1 fin.2⟩
                | @dK _ ks r =>
                  obtain ⟨z1, z2⟩ := r.notT ha
                  subst z1 z2
                  have fin : Ext ρ H ρ (upd H p (.dT (putK [] kk v))) ∧ Rep (Cx.cn X T) ρ (h.set n (.dct (putTW [] kk iw w))) (upd H p (.dT (putK [] kk v))) := by
                    have x : Ext ρ H ρ (upd H p (.dT (putK [] kk v))) := Ext.write (Rh.at_mem hp) a (fun _ z => by cases z) (fun _ z => by cases z)
                    exact R.write hp hn a (.dK r) (.dT ((RTs.put ek wv .nil).ext x))
                  refine d_setItem (by omega) (relabel_T I a) (DPut.t (kvs := []) upd_same (by rw [upd_ne nc]; exact hc) (by rw [sizeLine_eq]; decide)) ri rv fun s' I' => ?_
                  rw [upd_upd] at I'
                  exact ⟨_, I', q _ fin.1 fin.2⟩
              · cases e1
            · cases e1
      · cases e
    · cases e
  · cases e
end

/-! ### targets -/
/-- a target: what it does with a value -/
abbrev GF := W → Env → M Env
abbrev SRel := L2.St → L2.St → Prop
/-- nothing said; the own names of a comprehension alone are changed -/
def SAny : SRel := fun _ _ => True
def SOwn (vs : List Nat) : SRel := fun σ σ' => L2.wipe σ' vs = L2.wipe σ vs
structure STr (S : SRel) : Prop where
  rf : ∀ a, S a a
  tr : ∀ a b c, S a b → S b c → S a c
theorem SAny.ok : STr SAny := ⟨fun _ => True.intro, fun _ _ _ _ _ => True.intro⟩
theorem SOwn.ok (vs : List Nat) : STr (SOwn vs) := ⟨fun _ => rfl, fun _ _ _ a b => Eq.trans b a⟩
def OutG (Γ : Cn) (S : SRel) (σ : L2.St) (ρ : Rh) (H : Hp) (r : Res Env) (Q : L2.St → Hp → Prop) : Prop := match r with
  | .ok env h' => ∀ ρ' H' σ', S σ σ' → Ext ρ H ρ' H' → Rep Γ ρ' h' H' → REnv Γ ρ' H' env σ' → Q σ' H'
  | _ => False
def tG (Γ : Cn) (S : SRel) (g : GF) : TG := fun v σ H Q => ∃ (ρ : Rh) (h : AH) (env : Env) (w : W), Rep Γ ρ h H ∧ REnv Γ ρ H env σ ∧ RV Γ ρ H w v ∧ OutG Γ S σ ρ H (g w env h) Q
abbrev GsF := List W → Env → M Env
def tGs (Γ : Cn) (S : SRel) (g : GsF) : TGs := fun vs σ H Q => ∃ (ρ : Rh) (h : AH) (env : Env) (ws : List W), Rep Γ ρ h H ∧ REnv Γ ρ H env σ ∧ RVs Γ ρ H ws vs ∧ OutG Γ S σ ρ H (g ws env h) Q
abbrev EG (X : Cx) (T : List (Addr × Str)) (S : SRel) (e : Expr) (g : GF) : Prop := PG X e (tG (Cx.cn X T) S g)
abbrev EGs (X : Cx) (T : List (Addr × Str)) (S : SRel) (e : List Expr) (g : GsF) : Prop := PGs X e (tGs (Cx.cn X T) S g)
theorem PG.imp {X : Cx} {e : Expr} {t t' : TG} (p : PG X e t) (h : ∀ v σ H Q, t' v σ H Q → t v σ H Q) : PG X e t' := ⟨fun pins s σ H v u Q I r q => p.run pins s σ H v u Q I r (h _ _ _ _ q)⟩
theorem PGs.imp {X : Cx} {e : List Expr} {t t' : TGs} (p : PGs X e t) (h : ∀ v σ H Q, t' v σ H Q → t v σ H Q) : PGs X e t' := ⟨fun pins s σ H v u Q I r q => p.run pins s σ H v u Q I r (h _ _ _ _ q)⟩
theorem OutG.from {Γ : Cn} {S : SRel} {σ : L2.St} {ρ ρ1 : Rh} {H H1 : Hp} {Q : L2.St → Hp → Prop} (e : Ext ρ H ρ1 H1) {r : Res Env} (o : OutG Γ S σ ρ H r Q) : OutG Γ S σ ρ1 H1 r Q := by
  cases r with
  | ok env h' => exact fun ρ' H' v s x R rv => o ρ' H' v s (e.trans x) R rv
  | exc c fs h' => exact o
  | bad => exact o
theorem OutG.imp {Γ : Cn} {S : SRel} {σ : L2.St} {ρ : Rh} {H : Hp} {Q Q' : L2.St → Hp → Prop} {r : Res Env} (o : OutG Γ S σ ρ H r Q) (k : ∀ σ H, Q σ H → Q' σ H) : OutG Γ S σ ρ H r Q' := by
  cases r with
  | ok env h' => exact fun ρ' H' v s x R rv => k _ _ (o ρ' H' v s x R rv)
  | exc c fs h' => exact o
  | bad => exact o
theorem OutG.bind {Γ : Cn} {S : SRel} (st : STr S) {σ : L2.St} {ρ : Rh} {H : Hp} {Q : L2.St → Hp → Prop} {r : Res Env} {k : Env → M Env} (o : OutG Γ S σ ρ H (r.bind k) Q) :
    OutG Γ S σ ρ H r (fun σ1 H1 => ∃ ρ1 h1 env1, Ext ρ H ρ1 H1 ∧ Rep Γ ρ1 h1 H1 ∧ REnv Γ ρ1 H1 env1 σ1 ∧ OutG Γ S σ1 ρ1 H1 (k env1 h1) Q) := by
  cases r with
  | ok env h' =>
    refine fun ρ' H' σ' s x R re => ⟨ρ', h', env, x, R, re, ?_⟩
    have o' : OutG Γ S σ ρ H (k env h') Q := o
    cases q : k env h' with
    | ok e2 h2 =>
      rw [q] at o'
      exact fun ρ2 H2 σ2 s2 x2 R2 re2 => o' ρ2 H2 σ2 (st.tr _ _ _ s s2) (x.trans x2) R2 re2
    | exc c fs h2 => rw [q] at o'; exact o'
    | bad => rw [q] at o'; exact o'
  | exc c fs h' => exact o
  | bad => exact o
/-- an expression within a target -/
theorem OutG.bindE {Γ : Cn} {S : SRel} {σ : L2.St} {ρ : Rh} {H : Hp} {Q : L2.St → Hp → Prop} {E : XW} {r : Res W} {k : W → M Env} (o : OutG Γ S σ ρ H (r.bind k) Q) :
    Out Γ ρ H r (fun v H1 => ∃ ρ1 h1 w1, Ext ρ H ρ1 H1 ∧ Rep Γ ρ1 h1 H1 ∧ RV Γ ρ1 H1 w1 v ∧ OutG Γ S σ ρ1 H1 (k w1 h1) Q) E := by
  cases r with
  | ok w h' => exact fun ρ' H' v x R rv => ⟨ρ', h', w, x, R, rv, OutG.from x o⟩
  | exc c fs h' => exact (show False from o).elim
  | bad => exact o
def gN (i : Nat) : GF := fun w env h => .ok (env.set i (some w)) h
def gsNil : GsF := fun ws env h => match ws with
  | [] => .ok env h
  | _ => .bad
def gsCons (g : GF) (gs : GsF) : GsF := fun ws env h => match ws with
  | w :: r => (g w env h).bind fun env1 h1 => gs r env1 h1
  | [] => .bad
/-- (a, b, ..) = a tuple; a list -/
def gT (n : Nat) (gs : GsF) : GF := fun w env h => match seqT w with
  | some ws => if ws.length = n then gs ws env h else .bad
  | none => .bad
def gLst (n : Nat) (gs : GsF) : GF := fun w env h => match seqL h w with
  | some ws => if ws.length = n then gs ws env h else .bad
  | none => .bad
def gSubW (fo fi : EF) : GF := fun w env h => (fo env h).bind fun o h1 => (fi env h1).bind fun i h2 => match setW o i w h2 with
  | some h3 => .ok env h3
  | none => .bad
section
variable {X : Cx} {T : List (Addr × Str)} {Wx : WX} {pos : Pos}
theorem eg_name {S : SRel} {i : Nat} {x : Str} (hN : X.N.Nodup) (hi : X.N[i]? = some x) (hx : Loc X.env.scope x) (hS : ∀ σ v, S σ (σ.set i (some v))) (hf : X.fn x = true ∨ X.env.scope.names.lookup x = some .local := by first | exact .inl rfl | exact .inr rfl | assumption) : EG X T S (.Name x pos) (gN i) :=
  PG.imp (pg_name hN hi hx hf) fun v σ H Q hq => by
    obtain ⟨ρ, h, env, w, R, re, rv, o⟩ := hq
    exact o ρ H _ (hS _ _) .refl R (re.set rv)
theorem egs_nil {S : SRel} (st : STr S) : EGs X T S [] gsNil := PGs.imp pgs_nil fun vs σ H Q hq => by
  obtain ⟨ρ, h, env, w, R, re, rv, o⟩ := hq
  cases rv with
  | nil => exact ⟨rfl, o ρ H _ (st.rf _) .refl R re⟩
  | cons _ _ => exact (show False from o).elim
theorem egs_cons {S : SRel} (st : STr S) {e : Expr} {es : List Expr} {g : GF} {gs : GsF} (h1 : EG X T S e g) (h2 : EGs X T S es gs) (hs : (assignEach (e :: es) X.env).map (·.2) = assign e X.env :: (assignEach es X.env).map (·.2) := by rfl) : EGs X T S (e :: es) (gsCons g gs) :=
  PGs.imp (pgs_cons h1 h2 hs) fun vs σ H Q hq => by
    obtain ⟨ρ, h, env, w, R, re, rv, o⟩ := hq
    cases rv with
    | nil => exact (show False from o).elim
    | cons a r =>
      refine ⟨_, _, rfl, ρ, h, env, _, R, re, a, (OutG.bind st o).imp fun σ' H' hq' => ?_⟩
      obtain ⟨ρ1, h1, env1, e1, R1, re1, o1⟩ := hq'
      exact ⟨ρ1, h1, env1, _, R1, re1, r.ext e1, o1⟩
theorem eg_tup {S : SRel} {es : List Expr} {k n : Nat} {gs : GsF} (hc : X.calm = true) (hs : EGs X T S es gs) (hn : (assignEach es X.env).length = n := by rfl) (hst : (assignEach es X.env).findIdx? (·.1) = none := by rfl) : EG X T S (.Tuple es k pos) (gT n gs) :=
  PG.imp (pg_tup hc hs hn hst) fun v σ H Q hq => by
    obtain ⟨ρ, h, env, w, R, re, rv, o⟩ := hq
    unfold gT at o
    split at o
    · rename_i ws e
      split at o
      · rename_i hl
        obtain ⟨p, vs, ep, hp, rr⟩ := seqT_ok rv e
        exact ⟨p, vs, ep, .of hp, by rw [← rr.length]; exact hl, ρ, h, env, ws, R, re, rr, o⟩
      · exact (show False from o).elim
    · exact (show False from o).elim
theorem eg_sub {S : SRel} (st : STr S) {o i : Expr} {fo fi : EF} (hu : X.A.units + 64 < cLine) (ho : EE X T Wx o fo) (hi : EE X T Wx i fi)
    (ha : ∀ v, assign (.Subscript o i pos) X.env v = (do
      let ov ← holding [v] (eval o X.env)
      let iv ← holding [v, ov] (eval i X.env)
      standAt pos
      holding [v, ov, iv] (setItem ov iv v)
      release [v, ov, iv] []) := by intro _; rfl) : EG X T S (.Subscript o i pos) (gSubW fo fi) :=
  PG.imp (pg_sub ho hi (set_W (T := T) hu) ha) fun v σ H Q hq => by
    obtain ⟨ρ, h, env, w, R, re, rv, oo⟩ := hq
    refine ⟨ρ, h, env, R, re, (OutG.bindE oo).imp fun v1 H1 hq1 => ?_⟩
    obtain ⟨ρ1, h1, w1, e1, R1, rv1, o1⟩ := hq1
    refine ⟨ρ1, h1, env, R1, re.ext e1, (OutG.bindE o1).imp fun v2 H2 hq2 => ?_⟩
    obtain ⟨ρ2, h2, w2, e2, R2, rv2, o2⟩ := hq2
    split at o2
    · rename_i h3 e3
      exact ⟨ρ2, h2, w1, w2, w, R2, rv1.ext e2, rv2, (rv.ext e1).ext e2, h3, e3, fun H' x R' => o2 ρ2 H' σ (st.rf _) x R' (((re.ext e1).ext e2).ext x)⟩
    · exact (show False from o2).elim
end

/-! ### statements -/
def bindS {α : Type} (r : Res α) (env : Env) (k : α → AH → SRes) : SRes := match r with
  | .ok a h => k a h
  | .exc c fs h => .exc c fs env h
  | .bad => .bad
def sNext : SF := fun env h => .nx env h
def sSeq (f g : SF) : SF := fun env h => match f env h with
  | .nx env1 h1 => g env1 h1
  | r => r
def sExpr (fe : EF) : SF := fun env h => bindS (fe env h) env fun _ h1 => .nx env h1
def sRet (fe : EF) : SF := fun env h => bindS (fe env h) env fun w h1 => .rt w h1
def sRetN : SF := fun _ h => .rt .non h
def sIf (fc : BF) (f g : SF) : SF := fun env h => bindS (fc env h) env fun b h1 => if b = true then f env h1 else g env h1
def sAsg (fe : EF) (g : GF) : SF := fun env h => bindS (fe env h) env fun w h1 => match g w env h1 with
  | .ok env2 h2 => .nx env2 h2
  | _ => .bad
def sBad : SF := fun _ _ => .bad
def sBreak : SF := fun env h => .bk env h
section
variable {Γ : Cn} {ρ ρ1 : Rh} {H H1 : Hp} {D D' : Ends} {Wx : WX}
theorem OutS.bindE {r : Res W} {env : Env} {σ : L2.St} {k : W → AH → SRes} (re : REnv Γ ρ H env σ) (o : OutS Γ ρ H (bindS r env k) D Wx) :
    Out Γ ρ H r (fun v H1 => ∃ ρ1 h1 w1, Ext ρ H ρ1 H1 ∧ Rep Γ ρ1 h1 H1 ∧ RV Γ ρ1 H1 w1 v ∧ OutS Γ ρ1 H1 (k w1 h1) D Wx) (fun cls d H' => Wx cls d σ H') := by
  cases r with
  | ok w h' => exact fun ρ' H' v x R rv => ⟨ρ', h', w, x, R, rv, OutS.from x o⟩
  | exc c fs h' => exact fun ρ' H' cls d x R rx => o ρ' H' σ cls d x R (re.ext x) rx
  | bad => exact o
theorem OutS.bindB {r : Res Bool} {env : Env} {σ : L2.St} {k : Bool → AH → SRes} (re : REnv Γ ρ H env σ) (o : OutS Γ ρ H (bindS r env k) D Wx) :
    OutB Γ ρ H r (fun b H1 => ∃ ρ1 h1, Ext ρ H ρ1 H1 ∧ Rep Γ ρ1 h1 H1 ∧ OutS Γ ρ1 H1 (k b h1) D Wx) (fun cls d H' => Wx cls d σ H') := by
  cases r with
  | ok w h' => exact fun ρ' H' x R => ⟨ρ', h', x, R, OutS.from x o⟩
  | exc c fs h' => exact fun ρ' H' cls d x R rx => o ρ' H' σ cls d x R (re.ext x) rx
  | bad => exact o
end
section
variable {X : Cx} {T : List (Addr × Str)} {Wx : WX} {pos : Pos} {e : Expr} {fe : EF} {st : Stmt} {rest : List Stmt} {f g : SF}
theorem ess_nil : ESs X T Wx [] sNext := PSs.imp pss_nil fun D σ H hq => by
  obtain ⟨ρ, h, env, R, re, o⟩ := hq
  exact o ρ H σ .refl R re
theorem ess_cons (h1 : ES X T Wx st f) (h2 : ESs X T Wx rest g) : ESs X T Wx (st :: rest) (sSeq f g) := PSs.imp (pss_cons h1 h2) fun D σ H hq => by
  obtain ⟨ρ, h, env, R, re, o⟩ := hq
  refine ⟨ρ, h, env, R, re, ?_⟩
  unfold sSeq at o
  cases q : f env h with
  | nx env1 h1 =>
    rw [q] at o
    exact fun ρ' H' σ' x R' re' => ⟨ρ', h1, env1, R', re', OutS.from x o⟩
  | rt w h1 => rw [q] at o; exact o
  | bk env1 h1 => rw [q] at o; exact o
  | ct env1 h1 => rw [q] at o; exact o
  | exc c fs env1 h1 => rw [q] at o; exact o
  | bad => rw [q] at o; exact o
theorem ess_one (h1 : ES X T Wx st f) : ESs X T Wx [st] f := PSs.imp (pss_one h1) fun _ _ _ h => h
theorem es_expr (he : EE X T Wx e fe) (hs : swapsWith e none pos.line X.env = pure false := by rfl) : ES X T Wx (.Expr e pos) (sExpr fe) := PS.imp (ps_expr he hs) fun D σ H hq => by
  obtain ⟨ρ, h, env, R, re, o⟩ := hq
  refine ⟨ρ, h, env, R, re, (OutS.bindE re o).imp fun v H1 hq1 => ?_⟩
  obtain ⟨ρ1, h1, w1, e1, R1, rv1, o1⟩ := hq1
  exact o1 ρ1 H1 σ .refl R1 (re.ext e1)
theorem es_ret (he : EE X T Wx e fe) : ES X T Wx (.Return (some e) pos) (sRet fe) := PS.imp (ps_ret he) fun D σ H hq => by
  obtain ⟨ρ, h, env, R, re, o⟩ := hq
  refine ⟨ρ, h, env, R, re, (OutS.bindE re o).imp fun v H1 hq1 => ?_⟩
  obtain ⟨ρ1, h1, w1, e1, R1, rv1, o1⟩ := hq1
  exact o1 ρ1 H1 v .refl R1 rv1
theorem es_retN : ES X T Wx (.Return none pos) sRetN := PS.imp ps_retN fun D σ H hq => by
  obtain ⟨ρ, h, env, R, re, o⟩ := hq
  exact o ρ H .non .refl R .non
theorem es_if {c : Expr} {a b : List Stmt} {fc : BF} (hc : ET X T Wx c fc) (ha : ESs X T Wx a f) (hb : ESs X T Wx b g) : ES X T Wx (.If c a b pos) (sIf fc f g) := PS.imp (ps_if hc ha hb) fun D σ H hq => by
  obtain ⟨ρ, h, env, R, re, o⟩ := hq
  refine ⟨ρ, h, env, R, re, (OutS.bindB re o).imp fun v H1 hq1 => ?_⟩
  obtain ⟨ρ1, h1, e1, R1, o1⟩ := hq1
  cases v with
  | true => exact ⟨ρ1, h1, env, R1, re.ext e1, o1⟩
  | false => exact ⟨ρ1, h1, env, R1, re.ext e1, o1⟩
theorem es_bad : ES X T Wx st sBad := ⟨fun _ _ _ _ _ _ hq => by
  obtain ⟨_, _, _, _, _, o⟩ := hq
  exact (show False from o).elim⟩
theorem ess_bad : ESs X T Wx rest sBad := ⟨fun _ _ _ _ _ _ hq => by
  obtain ⟨_, _, _, _, _, o⟩ := hq
  exact (show False from o).elim⟩
theorem es_break : ES X T Wx (.Break pos) sBreak := PS.imp ps_break fun D σ H hq => by
  obtain ⟨ρ, h, env, R, re, o⟩ := hq
  exact o ρ H σ .refl R re
theorem tAsg_of {gt : GF} {D : Ends} {σ : L2.St} {H : Hp} (hq : tS (Cx.cn X T) Wx (sAsg fe gt) D σ H) : tAsg (tE (Cx.cn X T) Wx fe) (tG (Cx.cn X T) SAny gt) D σ H := by
  obtain ⟨ρ, h, env, R, re, o⟩ := hq
  refine ⟨ρ, h, env, R, re, (OutS.bindE re o).imp fun v H1 hq1 => ?_⟩
  obtain ⟨ρ1, h1, w1, e1, R1, rv1, o1⟩ := hq1
  refine ⟨ρ1, h1, env, w1, R1, re.ext e1, rv1, ?_⟩
  cases q : gt w1 env h1 with
  | ok env2 h2 => rw [q] at o1; exact fun ρ' H' σ' _ x R' re' => o1 ρ' H' σ' x R' re'
  | exc c fs h2 => rw [q] at o1; exact o1
  | bad => rw [q] at o1; exact o1
theorem es_asg {tg : Expr} {gt : GF} (he : EE X T Wx e fe) (hg : EG X T SAny tg gt) (hs : swapsWithSole [tg] e pos.line X.env = pure false := by rfl) (hw : swappedStores [tg] e X.env = pure none := by rfl)
    (h1 : (assignEach [tg] X.env).map (·.2) = [assign tg X.env] := by rfl) : ES X T Wx (.Assign [tg] e pos) (sAsg fe gt) := PS.imp (ps_asg he hg hs hw h1) fun D σ H hq => tAsg_of hq
/-- name = e -/
theorem es_set {i : Nat} {x : Str} {pos' : Pos} (hN : X.N.Nodup) (hi : X.N[i]? = some x) (hx : Loc X.env.scope x) (he : EE X T Wx e fe) (hs : swapsWith e (some (.Name x pos')) pos.line X.env = pure false := by rfl) (hf : X.fn x = true ∨ X.env.scope.names.lookup x = some .local := by first | exact .inl rfl | exact .inr rfl | assumption) :
    ES X T Wx (.Assign [.Name x pos'] e pos) (sAsg fe (gN i)) := PS.imp (ps_set hN hi hx he hs hf) fun D σ H hq => by
  obtain ⟨ρ, h, env, R, re, o⟩ := hq
  refine ⟨ρ, h, env, R, re, (OutS.bindE re o).imp fun v H1 hq1 => ?_⟩
  obtain ⟨ρ1, h1, w1, e1, R1, rv1, o1⟩ := hq1
  exact o1 ρ1 H1 _ .refl R1 ((re.ext e1).set rv1)
end
end PF
set_option Elab.async false
set_option linter.all false
set_option maxRecDepth 100000
set_option maxHeartbeats 1000000
namespace PF
open PySem PySem.Spec PyProof.Rows L2

/-- what is walked: the items, and what must hold of the heap all the while -/
structure ItR where
  items : List W
  guard : AH → Prop
abbrev IF_ := Env → M ItR
def IterOk (Γ : Cn) (ρ0 : Rh) (H0 : Hp) (J : It) (it : ItR) : Prop := ∀ ρ h H, Ext ρ0 H0 ρ H → Rep Γ ρ h H → it.guard h →
  (∀ i, i < it.items.length → J.go i H) ∧ J.stop it.items.length H ∧ ∀ i x H' w, it.items[i]? = some w → J.yld i H x H' → Ext ρ H ρ H' ∧ Rep Γ ρ h H' ∧ RV Γ ρ H' w x
def OutI (Γ : Cn) (ρ : Rh) (H : Hp) (r : Res ItR) (R : It → Hp → Prop) (E : XW) : Prop := match r with
  | .ok it h' => ∀ ρ' H' J, Ext ρ H ρ' H' → Rep Γ ρ' h' H' → IterOk Γ ρ' H' J it → R J H'
  | .exc c fs h' => ∀ ρ' H' cls d, Ext ρ H ρ' H' → Rep Γ ρ' h' H' → RExc Γ ρ' H' c fs cls d → E cls d H'
  | .bad => False
def tI (Γ : Cn) (Wx : WX) (f : IF_) : TI := fun σ H R => ∃ (ρ : Rh) (h : AH) (env : Env), Rep Γ ρ h H ∧ REnv Γ ρ H env σ ∧ OutI Γ ρ H (f env h) R (fun cls d H' => Wx cls d σ H')
abbrev EI (X : Cx) (T : List (Addr × Str)) (Wx : WX) (tg e : Expr) (f : IF_) : Prop := PI X tg e (tI (Cx.cn X T) Wx f)
theorem PI.imp {X : Cx} {tg e : Expr} {t t' : TI} (p : PI X tg e t) (h : ∀ σ H R, t' σ H R → t σ H R) : PI X tg e t' := ⟨fun pins s σ H Q I q => p.run pins s σ H Q I (h _ _ _ q)⟩
theorem PI.or {X : Cx} {tg e : Expr} {t t' : TI} (p : PI X tg e t) (p' : PI X tg e t') : PI X tg e (fun σ H R => t σ H R ∨ t' σ H R) := ⟨fun pins s σ H Q I q => q.elim (fun q => p.run pins s σ H Q I q) fun q => p'.run pins s σ H Q I q⟩
theorem OutI.bind {Γ : Cn} {ρ : Rh} {H : Hp} {R : It → Hp → Prop} {E : XW} {r : Res W} {k : W → M ItR} (o : OutI Γ ρ H (r.bind k) R E) :
    Out Γ ρ H r (fun v H1 => ∃ ρ1 h1 w1, Ext ρ H ρ1 H1 ∧ Rep Γ ρ1 h1 H1 ∧ RV Γ ρ1 H1 w1 v ∧ OutI Γ ρ1 H1 (k w1 h1) R E ∧ r = .ok w1 h1) E := by
  cases r with
  | ok w h' =>
    refine fun ρ' H' v x R rv => ⟨ρ', h', w, x, R, rv, ?_, rfl⟩
    have o' : OutI Γ ρ H (k w h') _ E := o
    cases q : k w h' with
    | ok it h2 => rw [q] at o'; exact fun ρ2 H2 J x2 => o' ρ2 H2 J (x.trans x2)
    | exc c fs h2 => rw [q] at o'; exact fun ρ2 H2 cls d x2 => o' ρ2 H2 cls d (x.trans x2)
    | bad => rw [q] at o'; exact o'
  | exc c fs h' => exact o
  | bad => exact o
theorem OutI.bindL {Γ : Cn} {ρ : Rh} {H : Hp} {R : It → Hp → Prop} {E : XW} {r : Res (List W)} {k : List W → M ItR} (o : OutI Γ ρ H (r.bind k) R E) :
    OutL Γ ρ H r (fun v H1 => ∃ ρ1 h1 w1, Ext ρ H ρ1 H1 ∧ Rep Γ ρ1 h1 H1 ∧ RVs Γ ρ1 H1 w1 v ∧ OutI Γ ρ1 H1 (k w1 h1) R E) E := by
  cases r with
  | ok w h' =>
    refine fun ρ' H' v x R rv => ⟨ρ', h', w, x, R, rv, ?_⟩
    have o' : OutI Γ ρ H (k w h') _ E := o
    cases q : k w h' with
    | ok it h2 => rw [q] at o'; exact fun ρ2 H2 J x2 => o' ρ2 H2 J (x.trans x2)
    | exc c fs h2 => rw [q] at o'; exact fun ρ2 H2 cls d x2 => o' ρ2 H2 cls d (x.trans x2)
    | bad => rw [q] at o'; exact o'
  | exc c fs h' => exact o
  | bad => exact o
/-- the guard of a thing that is walked: it stays a list of the same -/
def gdL (w : W) (ws : List W) : AH → Prop := match w with
  | .ref n => fun h => h[n]? = some (.lst ws)
  | _ => fun _ => True
def signs (z : Str) : List W := z.cps.toList.map fun c => .str ⟨#[c]⟩
def itSeq (h : AH) (w : W) : Option ItR := (seqA h w).map fun ws => ⟨ws, gdL w ws⟩
def itOf (h : AH) (w : W) : Option ItR := match w with
  | .str z => some ⟨signs z, fun _ => True⟩
  | w => itSeq h w
def optI (o : Option ItR) : M ItR := fun h => match o with | some w => .ok w h | none => .bad
def iVal (fe : EF) : IF_ := fun env h => (fe env h).bind fun w h1 => optI (itOf h1 w) h1
/-- a list's, a tuple's items later on -/
theorem seqL_late {Γ : Cn} {ρ ρ' : Rh} {h h' : AH} {H H' : Hp} {w : W} {a : Addr} {ws : List W} (r : RV Γ ρ H w (.ref a)) (e : seqL h w = some ws) (x : Ext ρ H ρ' H') (R' : Rep Γ ρ' h' H') (g : gdL w ws h') :
    ∃ vs, H' a = some (.lst vs) ∧ RVs Γ ρ' H' ws vs := by
  have e' : seqL h' w = some ws := by
    cases w with
    | ref n =>
      show (match h'[n]? with | some (O.lst ws) => some ws | _ => none) = some ws
      have g' : h'[n]? = some (.lst ws) := g
      rw [g']
    | lst _ => exact e
    | _ => cases e
  obtain ⟨b, vs, eb, hb, rs⟩ := seqL_ok R' (r.ext x) e'
  cases eb
  exact ⟨vs, hb, rs⟩
theorem seqT_late {Γ : Cn} {ρ ρ' : Rh} {H H' : Hp} {w : W} {a : Addr} {ws : List W} (r : RV Γ ρ H w (.ref a)) (e : seqT w = some ws) (x : Ext ρ H ρ' H') : ∃ vs, H' a = some (.tup vs) ∧ RVs Γ ρ' H' ws vs := by
  obtain ⟨b, vs, eb, hb, rs⟩ := seqT_ok (r.ext x) e
  cases eb
  exact ⟨vs, hb, rs⟩
section
variable {X : Cx} {T : List (Addr × Str)} {Wx : WX} {tg e : Expr} {fe : EF} {fl : LF} {p pos : Pos} {ρ : Rh} {h : AH} {H : Hp}
theorem sqL_fun {K : PySem.W.Frag} {H : Hp} {a : Addr} {vs ys : List V} (h : H a = some (.lst vs)) (nk : K.lookup a = none) (q : SqL K H a ys) : ys = vs := by
  rcases q with (q | ⟨o, q⟩) | ⟨o, _, _, q, _⟩
  · rw [h] at q; cases q; rfl
  · rw [h] at q; cases q
  · rw [nk] at q; cases q
theorem iter_list {w : W} {a : Addr} {ws : List W} (r : RV (Cx.cn X T) ρ H w (.ref a)) (e : seqL h w = some ws) : IterOk (Cx.cn X T) ρ H (Itl X.K a) ⟨ws, gdL w ws⟩ := by
  intro ρ1 h1 H1 x R1 g
  obtain ⟨vs, hv, rs⟩ := seqL_late r e x R1 g
  refine ⟨fun i hi => ?_, ⟨vs, .of hv, by rw [← rs.length]; exact Nat.le_refl _⟩, fun i y H2 w' hw hy => ?_⟩
  · obtain ⟨v, hv', _⟩ := rs.get (List.getElem?_eq_getElem hi)
    exact ⟨vs, v, .of hv, hv'⟩
  · obtain ⟨e2, hy⟩ := hy
    subst e2
    obtain ⟨v, hv', rv⟩ := rs.get hw
    have := hy vs (.of hv)
    rw [hv'] at this
    cases this
    exact ⟨.refl, R1, rv⟩
theorem iter_tup {w : W} {a : Addr} {ws : List W} (r : RV (Cx.cn X T) ρ H w (.ref a)) (e : seqT w = some ws) : IterOk (Cx.cn X T) ρ H (Itt X.K a) ⟨ws, fun _ => True⟩ := by
  intro ρ1 h1 H1 x R1 g
  obtain ⟨vs, hv, rs⟩ := seqT_late r e x
  refine ⟨fun i hi => ?_, ⟨vs, .of hv, by rw [← rs.length]; exact Nat.le_refl _⟩, fun i y H2 w' hw hy => ?_⟩
  · obtain ⟨v, hv', _⟩ := rs.get (List.getElem?_eq_getElem hi)
    exact ⟨vs, v, .of hv, hv'⟩
  · obtain ⟨e2, hy⟩ := hy
    subst e2
    obtain ⟨v, hv', rv⟩ := rs.get hw
    have := hy vs (.of hv)
    rw [hv'] at this
    cases this
    exact ⟨.refl, R1, rv⟩
theorem iter_str {z : Str} {Γ : Cn} : IterOk Γ ρ H (Its z) ⟨signs z, fun _ => True⟩ := by
  intro ρ1 h1 H1 x R1 g
  have hl : (signs z).length = z.cps.size := by simp [signs]
  refine ⟨fun i hi => ?_, ?_, fun i y H2 w' hw hy => ?_⟩
  · show i < z.cps.size
    rw [← hl]; exact hi
  · show z.cps.size ≤ _
    rw [← hl]; exact Nat.le_refl _
  · obtain ⟨e2, c, hc, ey⟩ := hy
    subst e2 ey
    have : w' = .str ⟨#[c]⟩ := by
      have hw2 : (signs z)[i]? = some w' := hw
      unfold signs at hw2
      rw [List.getElem?_map, Array.getElem?_toList, hc] at hw2
      exact (Option.some.inj hw2).symm
    subst this
    exact ⟨.refl, R1, .str _⟩
/-- a walk of n numbers -/
def rng (lo : Int) (n : Nat) : List W := (List.range n).map fun i => .int (lo + (i : Nat))
theorem iter_rng {lo : Int} {n : Nat} {Γ : Cn} : IterOk Γ ρ H (Itr lo n) ⟨rng lo n, fun _ => True⟩ := by
  intro ρ1 h1 H1 x R1 g
  have hl : (rng lo n).length = n := by simp [rng]
  refine ⟨fun i hi => ?_, ?_, fun i y H2 w' hw hy => ?_⟩
  · show i < n
    rw [← hl]; exact hi
  · show n ≤ (rng lo n).length
    exact Nat.le_of_eq hl.symm
  · obtain ⟨e2, ey⟩ := hy
    subst e2 ey
    have hi : i < n := by
      have := (List.getElem?_eq_some_iff.mp hw).1
      simpa [rng] using this
    have : w' = .int (lo + (i : Nat)) := by
      have hw2 : (rng lo n)[i]? = some w' := hw
      unfold rng at hw2
      rw [List.getElem?_map, List.getElem?_range hi] at hw2
      exact (Option.some.inj hw2).symm
    subst this
    exact ⟨.refl, R1, .int _⟩
theorem OutI.ok_from {Γ : Cn} {ρ ρ' : Rh} {H H' : Hp} {R : It → Hp → Prop} {E : XW} {r : Res ItR} (x : Ext ρ H ρ' H') (o : OutI Γ ρ H r R E) : OutI Γ ρ' H' r R E := by
  cases r with
  | ok it h2 => exact fun ρ2 H2 J x2 => o ρ2 H2 J (x.trans x2)
  | exc c fs h2 => exact fun ρ2 H2 cls d x2 => o ρ2 H2 cls d (x.trans x2)
  | bad => exact o
theorem ei_val (he : EE X T Wx e fe) : EI X T Wx tg e (iVal fe) := by
  refine PI.imp (PI.or (pi_list he) (PI.or (pi_tup he) (pi_str he))) fun σ H R hq => ?_
  obtain ⟨ρ, h, env, Rp, re, o⟩ := hq
  unfold iVal at o
  cases q : fe env h with
  | bad => rw [q] at o; exact (show False from o).elim
  | exc c fs h' =>
    rw [q] at o
    exact .inl ⟨ρ, h, env, Rp, re, by rw [q]; exact o⟩
  | ok w h1 =>
    rw [q] at o
    have o1 : OutI (Cx.cn X T) ρ H (optI (itOf h1 w) h1) R (fun cls d H' => Wx cls d σ H') := o
    cases hi : itOf h1 w with
    | none => rw [hi] at o1; exact (show False from o1).elim
    | some it =>
      rw [hi] at o1
      have lcase : ∀ ws, seqL h1 w = some ws → it = ⟨ws, gdL w ws⟩ := by
        intro ws e1
        cases w <;> first | (cases e1; done) | skip
        · cases e1; cases hi; rfl
        · rename_i n
          have : seqA h1 (.ref n) = some ws := e1
          unfold itOf itSeq at hi
          dsimp only at hi
          rw [this] at hi
          cases hi; rfl
      cases w with
      | str z =>
        cases hi
        refine .inr (.inr ⟨ρ, h, env, Rp, re, ?_⟩)
        rw [q]
        intro ρ' H' v x R' rv
        cases rv
        exact ⟨z, rfl, o1 ρ' H' _ x R' iter_str⟩
      | tup ws =>
        cases hi
        refine .inr (.inl ⟨ρ, h, env, Rp, re, ?_⟩)
        rw [q]
        intro ρ' H' v x R' rv
        obtain ⟨a, vs, ea, ha, rs⟩ := seqT_ok rv rfl
        subst ea
        exact ⟨a, rfl, ⟨vs, .of ha⟩, o1 ρ' H' _ x R' (iter_tup rv rfl)⟩
      | lst ws =>
        have := lcase ws rfl
        subst this
        refine .inl ⟨ρ, h, env, Rp, re, ?_⟩
        rw [q]
        intro ρ' H' v x R' rv
        obtain ⟨a, vs, ea, ha, rs⟩ := seqL_ok R' rv rfl
        subst ea
        exact ⟨a, rfl, ⟨vs, .of ha⟩, o1 ρ' H' _ x R' (iter_list (h := h1) rv rfl)⟩
      | ref n =>
        cases hs : seqL h1 (.ref n) with
        | none =>
          have : seqA h1 (.ref n) = none := hs
          unfold itOf itSeq at hi
          dsimp only at hi
          rw [this] at hi
          cases hi
        | some ws =>
          have := lcase ws hs
          subst this
          refine .inl ⟨ρ, h, env, Rp, re, ?_⟩
          rw [q]
          intro ρ' H' v x R' rv
          obtain ⟨a, vs, ea, ha, rs⟩ := seqL_ok R' rv hs
          subst ea
          exact ⟨a, rfl, ⟨vs, .of ha⟩, o1 ρ' H' _ x R' (iter_list rv hs)⟩
      | _ => cases hi
def iRange1 (fl : LF) : IF_ := fun env h => (fl env h).bind fun ws h1 => match ws with
  | [.int j] => if -(2 ^ 62) ≤ j ∧ j < 2 ^ 62 then .ok ⟨rng 0 j.toNat, fun _ => True⟩ h1 else .bad
  | _ => .bad
def iRange2 (fl : LF) : IF_ := fun env h => (fl env h).bind fun ws h1 => match ws with
  | [.int i, .int j] => if -(2 ^ 62) ≤ i ∧ i < 2 ^ 62 ∧ -(2 ^ 62) ≤ j ∧ j < 2 ^ 62 then .ok ⟨rng i (j - i).toNat, fun _ => True⟩ h1 else .bad
  | _ => .bad
theorem ei_range1 {a : Expr} (hg : Gl X "range") (hm : X.mg "range" = none) (ha : EA X T Wx [a] fl) (hs : starEach [a] X.env = [(false, eval a X.env)] := by rfl) : EI X T Wx tg (.Call (.Name "range" p) [a] [] pos) (iRange1 fl) := by
  refine PI.imp (pi_range1 hg hm ha hs) fun σ H R hq => ?_
  obtain ⟨ρ, h, env, Rp, re, o⟩ := hq
  refine ⟨ρ, h, env, Rp, re, (OutI.bindL o).imp fun v1 H1 hq1 => ?_⟩
  obtain ⟨ρ1, h1, w1, e1, R1, rv1, o1⟩ := hq1
  split at o1
  · split at o1
    · rename_i j hc
      cases rv1 with
      | cons a b =>
        cases b; cases a
        exact ⟨j, rfl, hc.1, hc.2, o1 ρ1 H1 _ .refl R1 iter_rng⟩
    · exact (show False from o1).elim
  · exact (show False from o1).elim
theorem ei_range2 {a b : Expr} (hg : Gl X "range") (hm : X.mg "range" = none) (ha : EA X T Wx [a, b] fl) (hs : starEach [a, b] X.env = [(false, eval a X.env), (false, eval b X.env)] := by rfl) (hs2 : starEach [b] X.env = [(false, eval b X.env)] := by rfl) :
    EI X T Wx tg (.Call (.Name "range" p) [a, b] [] pos) (iRange2 fl) := by
  refine PI.imp (pi_range2 hg hm ha hs hs2) fun σ H R hq => ?_
  obtain ⟨ρ, h, env, Rp, re, o⟩ := hq
  refine ⟨ρ, h, env, Rp, re, (OutI.bindL o).imp fun v1 H1 hq1 => ?_⟩
  obtain ⟨ρ1, h1, w1, e1, R1, rv1, o1⟩ := hq1
  split at o1
  · split at o1
    · rename_i i j hc
      cases rv1 with
      | cons a b =>
        cases b with
        | cons b c =>
          cases c; cases a; cases b
          exact ⟨i, j, rfl, hc, o1 ρ1 H1 _ .refl R1 iter_rng⟩
    · exact (show False from o1).elim
  · exact (show False from o1).elim
/-- pairs -/
def enumL : Nat → List W → List W
  | _, [] => []
  | i, w :: r => .tup [.int (i : Nat), w] :: enumL (i + 1) r
theorem enumL_len : ∀ (i : Nat) (ws : List W), (enumL i ws).length = ws.length
  | _, [] => rfl
  | i, _ :: r => by show (enumL (i + 1) r).length + 1 = _; rw [enumL_len (i + 1) r]; rfl
theorem enumL_get : ∀ (k i : Nat) (ws : List W), (enumL k ws)[i]? = (ws[i]?).map fun w => .tup [.int ((k + i : Nat) : Int), w]
  | _, _, [] => by simp [enumL]
  | k, 0, w :: r => by simp [enumL]
  | k, i + 1, w :: r => by
    show (enumL (k + 1) r)[i]? = _
    rw [enumL_get (k + 1) i r]
    have : k + 1 + i = k + (i + 1) := by omega
    rw [this]
    simp
def iEnumW (fl : LF) : IF_ := fun env h => (fl env h).bind fun ws h1 => match ws with
  | [w] => match seqL h1 w with
    | some l => .ok ⟨enumL 0 l, gdL w l⟩ h1
    | none => .bad
  | _ => .bad
theorem pair_new {Γ : Cn} {ρ : Rh} {h : AH} {H : Hp} {Tp : Addr} {x y : V} {wx wy : W} (R : Rep Γ ρ h H) (n : H Tp = none) (rx : RV Γ ρ H wx x) (ry : RV Γ ρ H wy y) :
    Ext ρ H ρ (upd H Tp (.tup [x, y])) ∧ Rep Γ ρ h (upd H Tp (.tup [x, y])) ∧ RV Γ ρ (upd H Tp (.tup [x, y])) (.tup [wx, wy]) (.ref Tp) := by
  have e : Ext ρ H ρ (upd H Tp (.tup [x, y])) := .fresh n
  exact ⟨e, R.fresh n, .tup (R.new n) upd_same (.cons (rx.ext e) (.cons (ry.ext e) .nil))⟩
theorem iter_enum {w : W} {a : Addr} {ws : List W} (r : RV (Cx.cn X T) ρ H w (.ref a)) (e : seqL h w = some ws) : IterOk (Cx.cn X T) ρ H (Ite X.K a) ⟨enumL 0 ws, gdL w ws⟩ := by
  intro ρ1 h1 H1 x R1 g
  obtain ⟨vs, hv, rs⟩ := seqL_late r e x R1 g
  refine ⟨fun i hi => ?_, ⟨vs, .of hv, by rw [← rs.length]; show ws.length ≤ (enumL 0 ws).length; rw [enumL_len]; exact Nat.le_refl _⟩, fun i y H2 w' hw hy => ?_⟩
  · have hi' : i < ws.length := by rw [← enumL_len 0 ws]; exact hi
    obtain ⟨v, hv', _⟩ := rs.get (List.getElem?_eq_getElem hi')
    exact ⟨vs, v, .of hv, hv'⟩
  · obtain ⟨Tp, x', ey, hn, e2, hy⟩ := hy
    subst ey e2
    have hw2 : (enumL 0 ws)[i]? = some w' := hw
    rw [enumL_get] at hw2
    obtain ⟨w0, e3, e4⟩ := Option.map_eq_some_iff.mp hw2
    subst e4
    obtain ⟨v, hv', rv⟩ := rs.get e3
    have := hy vs (.of hv)
    rw [hv'] at this
    cases this
    rw [Nat.zero_add]
    exact pair_new R1 hn (.int _) rv
theorem ei_enum {tpos : Pos} {elts : List Expr} {kk : Nat} (hg : Gl X "enumerate") (hm : X.mg "enumerate" = none) (ha : EA X T Wx [e] fl) (hs : starEach [e] X.env = [(false, eval e X.env)] := by rfl) :
    EI X T Wx (.Tuple elts kk tpos) (.Call (.Name "enumerate" p) [e] [] pos) (iEnumW fl) := by
  refine PI.imp (pi_enum hg hm ha hs) fun σ H R hq => ?_
  obtain ⟨ρ, h, env, Rp, re, o⟩ := hq
  refine ⟨ρ, h, env, Rp, re, (OutI.bindL o).imp fun v1 H1 hq1 => ?_⟩
  obtain ⟨ρ1, h1, w1, e1, R1, rv1, o1⟩ := hq1
  split at o1
  · split at o1
    · rename_i l hl
      cases rv1 with
      | cons a b =>
        cases b
        obtain ⟨c, vs, ec, hc, rs⟩ := seqL_ok R1 a hl
        subst ec
        exact ⟨c, vs, rfl, .of hc, o1 ρ1 H1 _ .refl R1 (iter_enum a hl)⟩
    · exact (show False from o1).elim
  · exact (show False from o1).elim
def zipL : List W → List W → List W
  | x :: xs, y :: ys => .tup [x, y] :: zipL xs ys
  | _, _ => []
theorem zipL_len : ∀ xs ys : List W, (zipL xs ys).length = min xs.length ys.length
  | [], _ => by simp [zipL]
  | _ :: _, [] => by simp [zipL]
  | _ :: xs, _ :: ys => by
    show (zipL xs ys).length + 1 = _
    rw [zipL_len xs ys]
    simp only [List.length_cons]
    omega
theorem zipL_get : ∀ (i : Nat) (xs ys : List W) (w : W), (zipL xs ys)[i]? = some w → ∃ x y, xs[i]? = some x ∧ ys[i]? = some y ∧ w = .tup [x, y]
  | _, [], _, _, h => by simp [zipL] at h
  | _, _ :: _, [], _, h => by simp [zipL] at h
  | 0, x :: _, y :: _, w, h => by
    simp [zipL] at h
    exact ⟨x, y, rfl, rfl, h.symm⟩
  | i + 1, _ :: xs, _ :: ys, w, h => by
    have h' : (zipL xs ys)[i]? = some w := by simpa [zipL] using h
    obtain ⟨x, y, a, b, c⟩ := zipL_get i xs ys w h'
    exact ⟨x, y, by simpa using a, by simpa using b, c⟩
def iZipW (fl : LF) : IF_ := fun env h => (fl env h).bind fun ws h1 => match ws with
  | [a, b] => match seqL h1 a, seqL h1 b with
    | some xs, some ys => .ok ⟨zipL xs ys, fun h => gdL a xs h ∧ gdL b ys h⟩ h1
    | _, _ => match seqT a, seqT b with
      | some xs, some ys => .ok ⟨zipL xs ys, fun _ => True⟩ h1
      | _, _ => .bad
  | _ => .bad
theorem iter_zip {w w2 : W} {a b : Addr} {xs ys : List W} (r : RV (Cx.cn X T) ρ H w (.ref a)) (e : seqL h w = some xs) (r2 : RV (Cx.cn X T) ρ H w2 (.ref b)) (e2 : seqL h w2 = some ys) :
    IterOk (Cx.cn X T) ρ H (Itz X.K a b) ⟨zipL xs ys, fun h => gdL w xs h ∧ gdL w2 ys h⟩ := by
  intro ρ1 h1 H1 x R1 g
  obtain ⟨vs, hv, rs⟩ := seqL_late r e x R1 g.1
  obtain ⟨us, hu, ru⟩ := seqL_late r2 e2 x R1 g.2
  refine ⟨fun i hi => ?_, ⟨vs, us, .of hv, .of hu, ?_⟩, fun i y H2 w' hw hy => ?_⟩
  · have hi' : i < min xs.length ys.length := by rw [← zipL_len xs ys]; exact hi
    obtain ⟨v, hv', _⟩ := rs.get (List.getElem?_eq_getElem (show i < xs.length by omega))
    obtain ⟨u, hu', _⟩ := ru.get (List.getElem?_eq_getElem (show i < ys.length by omega))
    exact ⟨vs, us, v, u, .of hv, .of hu, hv', hu'⟩
  · rw [← rs.length, ← ru.length]
    show xs.length ≤ (zipL xs ys).length ∨ ys.length ≤ (zipL xs ys).length
    rw [zipL_len]
    omega
  · obtain ⟨Tp, x', y', ey, hn, e3, hy1, hy2⟩ := hy
    subst ey e3
    obtain ⟨p, q, h3, h4, h5⟩ := zipL_get i xs ys w' hw
    subst h5
    obtain ⟨v, hv', rv⟩ := rs.get h3
    obtain ⟨u, hu', rv2⟩ := ru.get h4
    have t1 := hy1 vs (.of hv)
    have t2 := hy2 us (.of hu)
    rw [hv'] at t1; cases t1
    rw [hu'] at t2; cases t2
    exact pair_new R1 hn rv rv2
theorem iter_zipT {w w2 : W} {a b : Addr} {xs ys : List W} (r : RV (Cx.cn X T) ρ H w (.ref a)) (e : seqT w = some xs) (r2 : RV (Cx.cn X T) ρ H w2 (.ref b)) (e2 : seqT w2 = some ys) :
    IterOk (Cx.cn X T) ρ H (RZ.ItzT X.K a b) ⟨zipL xs ys, fun _ => True⟩ := by
  intro ρ1 h1 H1 x R1 g
  obtain ⟨vs, hv, rs⟩ := seqT_late r e x
  obtain ⟨us, hu, ru⟩ := seqT_late r2 e2 x
  refine ⟨fun i hi => ?_, ⟨vs, us, .of hv, .of hu, ?_⟩, fun i y H2 w' hw hy => ?_⟩
  · have hi' : i < min xs.length ys.length := by rw [← zipL_len xs ys]; exact hi
    obtain ⟨v, hv', _⟩ := rs.get (List.getElem?_eq_getElem (show i < xs.length by omega))
    obtain ⟨u, hu', _⟩ := ru.get (List.getElem?_eq_getElem (show i < ys.length by omega))
    exact ⟨vs, us, v, u, .of hv, .of hu, hv', hu'⟩
  · rw [← rs.length, ← ru.length]
    show xs.length ≤ (zipL xs ys).length ∨ ys.length ≤ (zipL xs ys).length
    rw [zipL_len]
    omega
  · obtain ⟨Tp, x', y', ey, hn, e3, hy1, hy2⟩ := hy
    subst ey e3
    obtain ⟨p, q, h3, h4, h5⟩ := zipL_get i xs ys w' hw
    subst h5
    obtain ⟨v, hv', rv⟩ := rs.get h3
    obtain ⟨u, hu', rv2⟩ := ru.get h4
    have t1 := hy1 vs (.of hv)
    have t2 := hy2 us (.of hu)
    rw [hv'] at t1; cases t1
    rw [hu'] at t2; cases t2
    exact pair_new R1 hn rv rv2
theorem ei_zip {tpos : Pos} {elts : List Expr} {kk : Nat} {e2 : Expr} (hg : Gl X "zip") (hm : X.mg "zip" = none) (ha : EA X T Wx [e, e2] fl) (hs : starEach [e, e2] X.env = (false, eval e X.env) :: starEach [e2] X.env := by rfl) (hpl : (backTo pos (starEach [e2] X.env)).any (·.1) = false := by rfl) :
    EI X T Wx (.Tuple elts kk tpos) (.Call (.Name "zip" p) [e, e2] [] pos) (iZipW fl) := by
  refine PI.imp (RZ.pi_zipA hg hm ha hs hpl) fun σ H R hq => ?_
  obtain ⟨ρ, h, env, Rp, re, o⟩ := hq
  refine ⟨ρ, h, env, Rp, re, (OutI.bindL o).imp fun v1 H1 hq1 => ?_⟩
  obtain ⟨ρ1, h1, w1, e1, R1, rv1, o1⟩ := hq1
  split at o1
  · split at o1
    · rename_i xs ys hx hy
      cases rv1 with
      | cons a b =>
        cases b with
        | cons b c =>
          cases c
          obtain ⟨p, vs, ep, hp, rs⟩ := seqL_ok R1 a hx
          obtain ⟨q, us, eq, hq, ru⟩ := seqL_ok R1 b hy
          subst ep eq
          exact ⟨p, q, vs, us, rfl, .inl ⟨.of hp, .of hq, o1 ρ1 H1 _ .refl R1 (iter_zip a hx b hy)⟩⟩
    · split at o1
      · rename_i xs ys hx hy
        cases rv1 with
        | cons a b =>
          cases b with
          | cons b c =>
            cases c
            obtain ⟨p, vs, ep, hp, rs⟩ := seqT_ok a hx
            obtain ⟨q, us, eq, hq, ru⟩ := seqT_ok b hy
            subst ep eq
            exact ⟨p, q, vs, us, rfl, .inr ⟨.of hp, .of hq, o1 ρ1 H1 _ .refl R1 (iter_zipT a hx b hy)⟩⟩
      · exact (show False from o1).elim
  · exact (show False from o1).elim
end
end PF
set_option Elab.async false
set_option linter.all false
set_option maxRecDepth 100000
set_option maxHeartbeats 1000000
namespace PF
open PySem PySem.Spec PyProof.Rows L2

open Classical in
/-- a for over items -/
noncomputable def forL (G : AH → Prop) (g : GF) (body : SF) : List W → SF
  | [], env, h => if G h then .nx env h else .bad
  | w :: ws, env, h => if G h then
      match g w env h with
      | .ok env1 h1 => match body env1 h1 with
        | .nx env2 h2 => forL G g body ws env2 h2
        | .ct env2 h2 => forL G g body ws env2 h2
        | .bk env2 h2 => .nx env2 h2
        | r => r
      | _ => .bad
    else .bad
noncomputable def sFor (fi : IF_) (g : GF) (body : SF) : SF := fun env h => bindS (fi env h) env fun it h1 => forL it.guard g body it.items env h1
open Classical in
/-- the items of a list comprehension -/
noncomputable def lcL (G : AH → Prop) (g : GF) (tt : BF) (te : EF) (env : Env) : List W → List W → M (List W)
  | [], acc, h => if G h then .ok acc h else .bad
  | w :: ws, acc, h => if G h then
      match g w env h with
      | .ok env1 h1 => (tt env1 h1).bind fun b h2 => if b = true then (te env1 h2).bind fun y h3 => if acc.length < sizeLine then lcL G g tt te env ws (acc ++ [y]) h3 else .bad else lcL G g tt te env ws acc h2
      | _ => .bad
    else .bad
def noXL (r : Res (List W)) : Res (List W) := match r with
  | .exc _ _ _ => .bad
  | r => r
noncomputable def lLC (fi : IF_) (g : GF) (tt : BF) (te : EF) (vs : List Nat) : LF := fun env h => (fi env h).bind fun it h1 => noXL (lcL it.guard g tt te (wipeW env vs) it.items [] h1)
/-- as a list that is not changed; that is -/
noncomputable def fLC (fi : IF_) (g : GF) (tt : BF) (te : EF) (vs : List Nat) : EF := fun env h => (lLC fi g tt te vs env h).bind fun ws h1 => .ok (.lst ws) h1
noncomputable def fLCR (fi : IF_) (g : GF) (tt : BF) (te : EF) (vs : List Nat) : EF := fun env h => (lLC fi g tt te vs env h).bind fun ws h1 => .ok (.ref h1.length) (h1 ++ [.lst ws])
def tYesW : BF := fun _ h => .ok true h

section
variable {Γ : Cn} {ρ : Rh} {h : AH} {H : Hp}
theorem OutS.bindI {Wx : WX} {D : Ends} {r : Res ItR} {env : Env} {σ : L2.St} {k : ItR → AH → SRes} (re : REnv Γ ρ H env σ) (o : OutS Γ ρ H (bindS r env k) D Wx) :
    OutI Γ ρ H r (fun J H1 => ∃ ρ1 h1 it, Ext ρ H ρ1 H1 ∧ Rep Γ ρ1 h1 H1 ∧ IterOk Γ ρ1 H1 J it ∧ OutS Γ ρ1 H1 (k it h1) D Wx) (fun cls d H' => Wx cls d σ H') := by
  cases r with
  | ok it h' => exact fun ρ' H' J x R ok => ⟨ρ', h', it, x, R, ok, OutS.from x o⟩
  | exc c fs h' => exact fun ρ' H' cls d x R rx => o ρ' H' σ cls d x R (re.ext x) rx
  | bad => exact o
theorem Out.bindI {E : XW} {Q : VK} {r : Res ItR} {k : ItR → M W} (o : Out Γ ρ H (r.bind k) Q E) :
    OutI Γ ρ H r (fun J H1 => ∃ ρ1 h1 it, Ext ρ H ρ1 H1 ∧ Rep Γ ρ1 h1 H1 ∧ IterOk Γ ρ1 H1 J it ∧ Out Γ ρ1 H1 (k it h1) Q E) E := by
  cases r with
  | ok it h' => exact fun ρ' H' J x R ok => ⟨ρ', h', it, x, R, ok, Out.from x o⟩
  | exc c fs h' => exact o
  | bad => exact o
theorem OutI.imp {R R' : It → Hp → Prop} {E : XW} {r : Res ItR} (o : OutI Γ ρ H r R E) (k : ∀ J H, R J H → R' J H) : OutI Γ ρ H r R' E := by
  cases r with
  | ok it h' => exact fun ρ' H' J x R ok => k _ _ (o ρ' H' J x R ok)
  | exc c fs h' => exact o
  | bad => exact o
theorem drop_cons {α : Type} {l : List α} {i : Nat} (h : i < l.length) : l.drop i = l[i] :: l.drop (i + 1) := List.drop_eq_getElem_cons h
theorem forL_guard {G : AH → Prop} {g : GF} {body : SF} {ws : List W} {env : Env} (o : ¬ G h) : forL G g body ws env h = .bad := by
  cases ws <;> (unfold forL; rw [if_neg o])
theorem for_turns {Wx : WX} {D : Ends} {tb : TS} {J : It} {it : ItR} {g : GF} {body : SF} {gt : TG} (hg : ∀ v σ H Q, tG Γ SAny g v σ H Q → gt v σ H Q) (hb : ∀ D σ H, tS Γ Wx body D σ H → tb D σ H)
    (ok : IterOk Γ ρ H J it) {env : Env} {σ : L2.St} (R : Rep Γ ρ h H) (re : REnv Γ ρ H env σ) (o : OutS Γ ρ H (forL it.guard g body it.items env h) D Wx) :
    ∃ W : Nat → Nat → L2.St → Hp → Prop, (∃ m, W 0 m σ H) ∧ ∀ i m σ H, W i m σ H →
      (J.stop i H ∧ D.nx σ H) ∨ (J.go i H ∧ ∃ N : L2.St → Hp → Prop, (∀ σ' H', N σ' H' → ∃ m', m' < m ∧ W (i + 1) m' σ' H') ∧ ∀ x H', J.yld i H x H' → gt x σ H' fun σ2 H2 => tb { D with nx := N, ct := N, bk := D.nx } σ2 H2) := by
  let Pv : Nat → L2.St → Hp → Prop := fun i σ1 H1 => ∃ ρ1 h1 env1, Ext ρ H ρ1 H1 ∧ Rep Γ ρ1 h1 H1 ∧ REnv Γ ρ1 H1 env1 σ1 ∧ OutS Γ ρ1 H1 (forL it.guard g body (it.items.drop i) env1 h1) D Wx
  refine ⟨fun i m σ1 H1 => m = it.items.length - i ∧ i ≤ it.items.length ∧ Pv i σ1 H1, ⟨it.items.length, by simp, Nat.zero_le _, ρ, h, env, .refl, R, re, o⟩, ?_⟩
  rintro i m σ1 H1 ⟨rfl, hi, ρ1, h1, env1, x1, R1, re1, o1⟩
  have gd : it.guard h1 := Classical.byContradiction fun z => by
    rw [forL_guard z] at o1; exact o1
  obtain ⟨k1, k2, k3⟩ := ok ρ1 h1 H1 x1 R1 gd
  by_cases hlt : i < it.items.length
  · rw [drop_cons hlt] at o1
    unfold forL at o1
    rw [if_pos gd] at o1
    refine .inr ⟨k1 i hlt, Pv (i + 1), fun σ' H' p' => ⟨it.items.length - (i + 1), by omega, rfl, hlt, p'⟩, fun v H2 hy => ?_⟩
    obtain ⟨x2, R2, rv⟩ := k3 i v H2 _ (List.getElem?_eq_getElem hlt) hy
    refine hg _ _ _ _ ⟨ρ1, h1, env1, it.items[i], R2, re1.ext x2, rv, ?_⟩
    cases q : g it.items[i] env1 h1 with
    | bad => rw [q] at o1; exact (show False from o1).elim
    | exc c fs h3 => rw [q] at o1; exact (show False from o1).elim
    | ok env3 h3 =>
      rw [q] at o1
      dsimp only at o1
      intro ρ3 H3 σ3 _ x3 R3 re3
      refine hb _ _ _ ⟨ρ3, h3, env3, R3, re3, ?_⟩
      have x13 := x2.trans x3
      cases q2 : body env3 h3 with
      | nx env4 h4 =>
        rw [q2] at o1
        exact fun ρ4 H4 σ4 x4 R4 re4 => ⟨ρ4, h4, env4, (x1.trans x13).trans x4, R4, re4, OutS.from (x13.trans x4) o1⟩
      | ct env4 h4 =>
        rw [q2] at o1
        exact fun ρ4 H4 σ4 x4 R4 re4 => ⟨ρ4, h4, env4, (x1.trans x13).trans x4, R4, re4, OutS.from (x13.trans x4) o1⟩
      | bk env4 h4 =>
        rw [q2] at o1
        exact fun ρ4 H4 σ4 x4 R4 re4 => o1 ρ4 H4 σ4 (x13.trans x4) R4 re4
      | rt w4 h4 =>
        rw [q2] at o1
        exact fun ρ4 H4 v4 x4 R4 re4 => o1 ρ4 H4 v4 (x13.trans x4) R4 re4
      | exc c fs env4 h4 =>
        rw [q2] at o1
        exact fun ρ4 H4 σ4 cls d x4 R4 re4 rx => o1 ρ4 H4 σ4 cls d (x13.trans x4) R4 re4 rx
      | bad => rw [q2] at o1; exact (show False from o1).elim
  · have e : i = it.items.length := by omega
    subst e
    rw [List.drop_length] at o1
    unfold forL at o1
    rw [if_pos gd] at o1
    exact .inl ⟨k2, o1 ρ1 H1 σ1 .refl R1 re1⟩
end
section
variable {X : Cx} {T : List (Addr × Str)} {Wx : WX} {pos : Pos} {tg iter : Expr} {body : List Stmt} {fi : IF_} {g : GF} {fb : SF}
theorem es_for (hp : PassesOwn (model X.prog X.w) X.A X.env X.xe) (hc : X.calm = true) (hi : EI X T Wx tg iter fi) (hg : EG X T SAny tg g) (hb : ESs X T Wx body fb)
    (hs : ∀ x, foldedSetIterable iter X.env x = pure x := by intro _; rfl) : ES X T Wx (.For tg iter body [] pos) (sFor fi g fb) := PS.imp (ps_for hp hc hi hg hb hs) fun D σ H hq => by
  obtain ⟨ρ, h, env, R, re, o⟩ := hq
  refine ⟨ρ, h, env, R, re, (OutS.bindI re o).imp fun J H1 hq1 => ?_⟩
  obtain ⟨ρ1, h1, it, x1, R1, ok, o1⟩ := hq1
  exact for_turns (fun _ _ _ _ h => h) (fun _ _ _ h => h) ok R1 (re.ext x1) o1

/-! ### list comprehensions -/
abbrev ETs (X : Cx) (T : List (Addr × Str)) (Wx : WX) (es : List Expr) (f : BF) : Prop := PTs X es (tT (Cx.cn X T) Wx f)
theorem PTs.imp {X : Cx} {e : List Expr} {t t' : TT} (p : PTs X e t) (h : ∀ σ H Q, t' σ H Q → t σ H Q) : PTs X e t' := ⟨fun pins s σ H Q I q => p.run pins s σ H Q I (h _ _ _ q)⟩
theorem ets_nil : ETs X T Wx [] tYesW := PTs.imp pts_nil fun σ H Q hq => by
  obtain ⟨ρ, h, env, R, re, o⟩ := hq
  exact o ρ H .refl R
theorem ets_one {c : Expr} {f : BF} (h : ET X T Wx c f) : ETs X T Wx [c] f := pts_one h
theorem wipe_set {σ : L2.St} {i : Nat} {v : V} : ∀ {vs : List Nat}, i ∈ vs → L2.wipe (σ.set i (some v)) vs = L2.wipe σ vs
  | [], h => by cases h
  | k :: vs, h => by
    unfold L2.wipe
    by_cases hk : i ∈ vs
    · rw [wipe_set hk]
    · have e : i = k := by
        rcases List.mem_cons.mp h with e | e
        · exact e
        · exact absurd e hk
      subst e
      have go : ∀ vs : List Nat, i ∉ vs → (L2.wipe (σ.set i (some v)) vs) = (L2.wipe σ vs).set i (some v) := by
        intro vs
        induction vs with
        | nil => intro _; rfl
        | cons a l ih =>
          intro hn
          unfold L2.wipe
          rw [ih (fun z => hn (List.mem_cons_of_mem _ z)), List.set_comm _ _ (fun z => hn (by simp [z]))]
      rw [go vs hk, List.set_set]
theorem lcL_guard {G : AH → Prop} {g : GF} {tt : BF} {te : EF} {ws acc : List W} {env : Env} {h : AH} (o : ¬ G h) : lcL G g tt te env ws acc h = .bad := by
  cases ws <;> (unfold lcL; rw [if_neg o])
abbrev WNo : WX := fun _ _ _ _ => False
theorem wipe_wipe (σ : L2.St) (vs : List Nat) : L2.wipe (L2.wipe σ vs) vs = L2.wipe σ vs := by
  have hl : ∀ (i : Nat), i ∈ vs → ∀ z, (L2.wipe σ vs)[i]? = some z → z = none := by
    intro i hi z hz
    cases z with
    | none => rfl
    | some v => exact absurd hi (wipe_some hz).2
  have : ∀ us : List Nat, (∀ i ∈ us, i ∈ vs) → L2.wipe (L2.wipe σ vs) us = L2.wipe σ vs := by
    intro us
    induction us with
    | nil => intro _; rfl
    | cons a l ih =>
      intro hm
      show (L2.wipe (L2.wipe σ vs) l).set a none = _
      rw [ih fun i hi => hm i (List.mem_cons_of_mem _ hi)]
      by_cases ha : a < (L2.wipe σ vs).length
      · have := hl a (hm a List.mem_cons_self) _ (List.getElem?_eq_getElem ha)
        apply List.ext_getElem?
        intro j
        by_cases hj : a = j
        · subst hj
          rw [List.getElem?_set_self ha, List.getElem?_eq_getElem ha, this]
        · rw [List.getElem?_set_ne hj]
      · exact List.set_eq_of_length_le (by omega)
  exact this vs fun i hi => hi
/-- the turns of a comprehension -/
theorem lc_turns {Γ : Cn} {ρ : Rh} {h : AH} {H : Hp} {J : It} {it : ItR} {g : GF} {tt : BF} {te : EF} {vs : List Nat} {gt : TG} {ttt : TT} {tte : TE} {Da : Addr} {Q : Hp → Prop}
    (hg : ∀ v σ H Q, tG Γ (SOwn vs) g v σ H Q → gt v σ H Q) (ht : ∀ σ H Q, tT Γ WNo tt σ H Q → ttt σ H Q) (he : ∀ σ H Q, tE Γ WNo te σ H Q → tte σ H Q)
    (ok : IterOk Γ ρ H J it) {env : Env} {σ : L2.St} (R : Rep Γ ρ h H) (re : REnv Γ ρ H env σ) (hD : H Da = none) {ws : List W} {h' : AH} (o : lcL it.guard g tt te (wipeW env vs) it.items [] h = .ok ws h')
    (k : ∀ ρ' H' us, Ext ρ H ρ' H' → Rep Γ ρ' h' H' → Da ∈ ρ'.rs → H' Da = some (.lst us) → RVs Γ ρ' H' ws us → Q H') :
    ∃ W : Nat → Nat → Hp → Prop, (∃ m, W 0 m (upd H Da (.lst []))) ∧ ∀ i m H, W i m H →
      (J.stop i H ∧ Q H) ∨ (J.go i H ∧ ∃ Nx : Hp → Prop, (∀ H', Nx H' → ∃ m', m' < m ∧ W (i + 1) m' H') ∧ ∀ x H', J.yld i H x H' → gt x (L2.wipe σ vs) H' fun σ2 H2 => L2.wipe σ2 vs = L2.wipe σ vs ∧ ttt σ2 H2 fun b H3 =>
        if b = true then tte σ2 H3 fun y H4 => ∃ acc, H4 Da = some (.lst acc) ∧ acc.length < sizeLine ∧ Nx (upd H4 Da (.lst (acc ++ [y]))) else Nx H3) := by
  let Pv : Nat → Hp → Prop := fun i H1 => ∃ ρ1 h1 acc us, Ext ρ H ρ1 H1 ∧ Rep Γ ρ1 h1 H1 ∧ Da ∈ ρ1.rs ∧ H1 Da = some (.lst us) ∧ RVs Γ ρ1 H1 acc us ∧ lcL it.guard g tt te (wipeW env vs) (it.items.drop i) acc h1 = .ok ws h'
  refine ⟨fun i m H1 => m = it.items.length - i ∧ i ≤ it.items.length ∧ Pv i H1, ⟨it.items.length, by simp, Nat.zero_le _, ρ.res Da, h, [], [], .res hD, R.res hD, List.mem_cons_self, upd_same, .nil, o⟩, ?_⟩
  rintro i m H1 ⟨rfl, hi, ρ1, h1, acc, us, x1, R1, mD, hDa, racc, o1⟩
  have nt : Da ∉ ρ1.tr := (R1.dj Da mD).1
  have gd : it.guard h1 := Classical.byContradiction fun z => by
    rw [lcL_guard z] at o1; cases o1
  obtain ⟨k1, k2, k3⟩ := ok ρ1 h1 H1 x1 R1 gd
  by_cases hlt : i < it.items.length
  · rw [drop_cons hlt] at o1
    unfold lcL at o1
    rw [if_pos gd] at o1
    refine .inr ⟨k1 i hlt, Pv (i + 1), fun H' p' => ⟨it.items.length - (i + 1), by omega, rfl, hlt, p'⟩, fun v H2 hy => ?_⟩
    obtain ⟨x2, R2, rv⟩ := k3 i v H2 _ (List.getElem?_eq_getElem hlt) hy
    refine hg _ _ _ _ ⟨ρ1, h1, wipeW env vs, it.items[i], R2, ((re.wipe vs).ext x1).ext x2, rv, ?_⟩
    cases q : g it.items[i] (wipeW env vs) h1 with
    | bad => rw [q] at o1; cases o1
    | exc c fs h3 => rw [q] at o1; cases o1
    | ok env3 h3 =>
      rw [q] at o1
      dsimp only at o1
      intro ρ3 H3 σ3 s3 x3 R3 re3
      refine ⟨(show L2.wipe σ3 vs = L2.wipe (L2.wipe σ vs) vs from s3).trans (wipe_wipe σ vs), ht _ _ _ ⟨ρ3, h3, env3, R3, re3, ?_⟩⟩
      cases q2 : tt env3 h3 with
      | bad => rw [q2] at o1; cases o1
      | exc c fs h4 => rw [q2] at o1; cases o1
      | ok b h4 =>
        rw [q2] at o1
        unfold Res.bind at o1
        dsimp only at o1
        intro ρ4 H4 x4 R4
        have x24 := (x2.trans x3).trans x4
        cases b with
        | false =>
          rw [if_neg Bool.false_ne_true] at o1 ⊢
          have kD := x24.keep Da _ hDa nt (fun _ z => by cases z)
          obtain ⟨m, e, _⟩ := x24.rs
          exact ⟨ρ4, h4, acc, us, x1.trans x24, R4, by rw [e]; exact List.mem_append_right _ mD, kD, racc.ext x24, o1⟩
        | true =>
          rw [if_pos rfl] at o1 ⊢
          refine he _ _ _ ⟨ρ4, h4, env3, R4, re3.ext x4, ?_⟩
          cases q3 : te env3 h4 with
          | bad => rw [q3] at o1; cases o1
          | exc c fs h5 => rw [q3] at o1; cases o1
          | ok y h5 =>
            rw [q3] at o1
            dsimp only at o1
            by_cases hz : acc.length < sizeLine
            · rw [if_pos hz] at o1
              intro ρ5 H5 v5 x5 R5 rv5
              have x25 := x24.trans x5
              have kD := x25.keep Da _ hDa nt (fun _ z => by cases z)
              obtain ⟨m, e, _⟩ := x25.rs
              have m5 : Da ∈ ρ5.rs := by rw [e]; exact List.mem_append_right _ mD
              have wk : Wk ρ5 H5 ρ5 (upd H5 Da (.lst (us ++ [v5]))) := Wk.write m5 kD
              refine ⟨us, kD, by rw [← racc.length]; exact hz, ρ5, h5, acc ++ [y], us ++ [v5], ?_, ?_, m5, upd_same, ?_, o1⟩
              · exact (x1.trans x25).writeN (.of hD) kD (fun _ z => by cases z) (fun _ z => by cases z)
              · exact R5.writeR m5 kD (fun _ z => by cases z) (fun _ z => by cases z)
              · exact ((racc.ext x25).append (.cons rv5 .nil)).wk wk
            · rw [if_neg hz] at o1; cases o1
  · have e : i = it.items.length := by omega
    subst e
    rw [List.drop_length] at o1
    unfold lcL at o1
    rw [if_pos gd] at o1
    cases o1
    exact .inl ⟨k2, k ρ1 H1 us x1 R1 mD hDa racc⟩
theorem WNo.ok {X : Cx} : True := True.intro
variable {elt : Expr} {ifs : List Expr} {scope : Scope} {own : List (Str × Nat)} {tt : BF} {te : EF}
theorem tLc_of {σ : L2.St} {H : Hp} {Q : VK} {vs : List Nat} {ρ : Rh} {h : AH} {env : Env} (R : Rep (Cx.cn X T) ρ h H) (re : REnv (Cx.cn X T) ρ H env σ)
    (o : OutL (Cx.cn X T) ρ H (lLC fi g tt te vs env h) (fun _ _ => True) (fun cls d H' => Wx cls d σ H'))
    (k : ∀ ρ' h' H' ws us Da, lLC fi g tt te vs env h = .ok ws h' → Ext ρ H ρ' H' → Rep (Cx.cn X T) ρ' h' H' → Da ∈ ρ'.rs → H' Da = some (.lst us) → Nw H Da → RVs (Cx.cn X T) ρ' H' ws us → Q (.ref Da) H') :
    tLc (tI (Cx.cn X T) Wx fi) (tG (Cx.cn X T) (SOwn vs) g) (tT (Cx.cn X T) WNo tt) (tE (Cx.cn X T) WNo te) vs σ H Q := by
  refine ⟨ρ, h, env, R, re, ?_⟩
  unfold lLC at o k
  cases q : fi env h with
  | bad => rw [q] at o; exact (show False from o).elim
  | exc c fs h1 => rw [q] at o; exact o
  | ok it h1 =>
    rw [q] at o k
    intro ρ1 H1 J x1 R1 ok Da hDa
    cases q2 : lcL it.guard g tt te (wipeW env vs) it.items [] h1 with
    | bad =>
      have o' : OutL (Cx.cn X T) ρ H (noXL (lcL it.guard g tt te (wipeW env vs) it.items [] h1)) _ _ := o
      rw [q2] at o'; exact (show False from o').elim
    | exc c fs h2 =>
      have o' : OutL (Cx.cn X T) ρ H (noXL (lcL it.guard g tt te (wipeW env vs) it.items [] h1)) _ _ := o
      rw [q2] at o'; exact (show False from o').elim
    | ok ws h2 =>
      refine lc_turns (fun _ _ _ _ h => h) (fun _ _ _ h => h) (fun _ _ _ h => h) ok R1 (re.ext x1) hDa q2 fun ρ2 H2 us x2 R2 mD hD2 rr => ?_
      have hn : Nw H Da := x1.new (.of hDa)
      exact k ρ2 h2 H2 ws us Da (by show noXL (lcL it.guard g tt te (wipeW env vs) it.items [] h1) = _; rw [q2]; rfl) (x1.trans x2) R2 mD hD2 hn rr
/-- a comprehension's list as a value: not to be changed -/
theorem lc_frz {σ : L2.St} {H : Hp} {Q : VK} {vs : List Nat} {ρ : Rh} {h : AH} {env : Env} (R : Rep (Cx.cn X T) ρ h H) (re : REnv (Cx.cn X T) ρ H env σ)
    (o : Out (Cx.cn X T) ρ H (fLC fi g tt te vs env h) Q (fun cls d H' => Wx cls d σ H')) : tLc (tI (Cx.cn X T) Wx fi) (tG (Cx.cn X T) (SOwn vs) g) (tT (Cx.cn X T) WNo tt) (tE (Cx.cn X T) WNo te) vs σ H Q := by
  unfold fLC at o
  refine tLc_of R re ?_ fun ρ' h' H' ws us Da e x R' mD hD hn rr => ?_
  · exact (Out.bindL o).imp fun _ _ _ => True.intro
  · rw [e] at o
    refine o _ H' _ x.back (R'.sub x.sub) (.lst (fun z => ?_) hD (rr.sub x.sub))
    rcases Rh.mem_iff.mp z with z | z
    · exact (R'.dj Da mD).1 z
    · obtain ⟨_, o', e', t'⟩ := R.dj Da z
      exact hn o' e' t'
/-- .. to be changed -/
theorem lc_ref {σ : L2.St} {H : Hp} {Q : VK} {vs : List Nat} {ρ : Rh} {h : AH} {env : Env} (R : Rep (Cx.cn X T) ρ h H) (re : REnv (Cx.cn X T) ρ H env σ)
    (o : Out (Cx.cn X T) ρ H (fLCR fi g tt te vs env h) Q (fun cls d H' => Wx cls d σ H')) : tLc (tI (Cx.cn X T) Wx fi) (tG (Cx.cn X T) (SOwn vs) g) (tT (Cx.cn X T) WNo tt) (tE (Cx.cn X T) WNo te) vs σ H Q := by
  unfold fLCR at o
  refine tLc_of R re ?_ fun ρ' h' H' ws us Da e x R' mD hD hn rr => ?_
  · exact (Out.bindL o).imp fun _ _ _ => True.intro
  · rw [e] at o
    have nt : Da ∉ ρ'.tr := (R'.dj Da mD).1
    let ρ2 : Rh := ⟨ρ'.tr ++ [Da], ρ.rs⟩
    obtain ⟨mr, er, hr⟩ := x.rs
    have wk : Wk ρ' H' ρ2 H' := by
      refine ⟨fun p o h n t => h, fun p o h t n m => ?_, fun n p h => ?_, fun p o h t => ⟨o, h, t⟩⟩
      · rcases Rh.mem_iff.mp m with m | m
        · rcases List.mem_append.mp m with m | m
          · exact n (.inl m)
          · rw [List.mem_singleton] at m
            subst m
            exact n (.inr mD)
        · exact n (.inr (by rw [er]; exact List.mem_append_right _ m))
      · show (ρ'.tr ++ [Da])[n]? = some p
        rw [List.getElem?_append_left (List.getElem?_eq_some_iff.mp h).1]; exact h
    have x2 : Ext ρ H ρ2 H' := by
      refine ⟨?_, ⟨[], by simp [ρ2], by simp⟩, x.keep, x.dom⟩
      obtain ⟨m, e1, h1⟩ := x.pre
      refine ⟨m ++ [Da], by simp [ρ2, e1], fun p hp => ?_⟩
      rcases List.mem_append.mp hp with hp | hp
      · exact h1 p hp
      · rw [List.mem_singleton] at hp
        subst hp
        exact hn
    have R2 : Rep (Cx.cn X T) ρ2 (h' ++ [.lst ws]) H' := by
      refine ⟨?_, by simp [ρ2, R'.len], fun n ob q e1 e2 => ?_, fun q hq => ?_, R'.tabs⟩
      · show (ρ'.tr ++ [Da]).Nodup
        rw [List.nodup_append]
        refine ⟨R'.nd, by simp, fun a ha b hb => ?_⟩
        rw [List.mem_singleton] at hb
        subst hb
        intro z; subst z
        exact nt ha
      · have e2 : (ρ'.tr ++ [Da])[n]? = some q := e2
        by_cases hl : n < h'.length
        · rw [List.getElem?_append_left hl] at e1
          rw [List.getElem?_append_left (by rw [R'.len]; exact hl)] at e2
          obtain ⟨u', a, b⟩ := R'.obj n ob q e1 e2
          exact ⟨u', a, b.wk wk⟩
        · rw [List.getElem?_append_right (by omega)] at e1
          rw [List.getElem?_append_right (by rw [R'.len]; omega)] at e2
          have : n - h'.length = 0 := by
            have := (List.getElem?_eq_some_iff.mp e1).1
            simp only [List.length_singleton] at this
            omega
          rw [R'.len] at e2
          rw [this] at e1 e2
          simp only [List.getElem?_cons_zero, Option.some.injEq] at e1 e2
          subst e1 e2
          exact ⟨_, hD, .lst (rr.wk wk)⟩
      · have hq' : q ∈ ρ'.rs := by rw [er]; exact List.mem_append_right _ hq
        refine ⟨fun m => ?_, (R'.dj q hq').2⟩
        rcases List.mem_append.mp m with m | m
        · exact (R'.dj q hq').1 m
        · rw [List.mem_singleton] at m
          subst m
          obtain ⟨_, o', e', t'⟩ := R.dj q hq
          exact hn o' e' t'
    exact o ρ2 H' _ x2 R2 (.ref (by show (ρ'.tr ++ [Da])[h'.length]? = some Da; rw [← R'.len]; simp))
theorem ee_lc {vs : List Nat} (hv : own.map (·.2) = vs) (hc : X.calm = true) (hN : X.N.Nodup) (hi : EI X T Wx tg iter fi) (ok : BlkOk X.N X.env.scope scope own)
    (hg : ∀ (s : Shared) (H : Hp) (C : Addr) (cl : List (Str × Addr)) (fp : List Addr), EG (X.blk s H scope (compEnvC scope cl C X.env) fp) T (SOwn vs) tg g) (ht : ∀ (s : Shared) (H : Hp) (C : Addr) (cl : List (Str × Addr)) (fp : List Addr), ETs (X.blk s H scope (compEnvC scope cl C X.env) fp) T WNo ifs tt)
    (he : ∀ (s : Shared) (H : Hp) (C : Addr) (cl : List (Str × Addr)) (fp : List Addr), EE (X.blk s H scope (compEnvC scope cl C X.env) fp) T WNo elt te) (hs : ∀ x, foldedSetIterable iter X.env x = pure x := by intro _; rfl) :
    EE X T Wx (.ListComp elt [⟨tg, iter, ifs, 0⟩] scope pos) (fLC fi g tt te vs) := by
  subst hv
  exact PE.imp (pe_lc hc hN hi ok hg ht he hs) fun σ H Q hq => by
    obtain ⟨ρ, h, env, R, re, o⟩ := hq
    exact lc_frz R re o
theorem ee_lcR {vs : List Nat} (hv : own.map (·.2) = vs) (hc : X.calm = true) (hN : X.N.Nodup) (hi : EI X T Wx tg iter fi) (ok : BlkOk X.N X.env.scope scope own)
    (hg : ∀ (s : Shared) (H : Hp) (C : Addr) (cl : List (Str × Addr)) (fp : List Addr), EG (X.blk s H scope (compEnvC scope cl C X.env) fp) T (SOwn vs) tg g) (ht : ∀ (s : Shared) (H : Hp) (C : Addr) (cl : List (Str × Addr)) (fp : List Addr), ETs (X.blk s H scope (compEnvC scope cl C X.env) fp) T WNo ifs tt)
    (he : ∀ (s : Shared) (H : Hp) (C : Addr) (cl : List (Str × Addr)) (fp : List Addr), EE (X.blk s H scope (compEnvC scope cl C X.env) fp) T WNo elt te) (hs : ∀ x, foldedSetIterable iter X.env x = pure x := by intro _; rfl) :
    EE X T Wx (.ListComp elt [⟨tg, iter, ifs, 0⟩] scope pos) (fLCR fi g tt te vs) := by
  subst hv
  exact PE.imp (pe_lc hc hN hi ok hg ht he hs) fun σ H Q hq => by
    obtain ⟨ρ, h, env, R, re, o⟩ := hq
    exact lc_ref R re o
theorem set_lc_of {i : Nat} {vs : List Nat} {f : EF} {D : Ends} {σ : L2.St} {H : Hp}
    (k : ∀ (Q : VK) (ρ : Rh) (h : AH) (env : Env), Rep (Cx.cn X T) ρ h H → REnv (Cx.cn X T) ρ H env σ → Out (Cx.cn X T) ρ H (f env h) Q (fun cls d H' => Wx cls d σ H') → tLc (tI (Cx.cn X T) Wx fi) (tG (Cx.cn X T) (SOwn vs) g) (tT (Cx.cn X T) WNo tt) (tE (Cx.cn X T) WNo te) vs σ H Q)
    (hq : tS (Cx.cn X T) Wx (sAsg f (gN i)) D σ H) : tAsg (tLc (tI (Cx.cn X T) Wx fi) (tG (Cx.cn X T) (SOwn vs) g) (tT (Cx.cn X T) WNo tt) (tE (Cx.cn X T) WNo te) vs) (gName i) D σ H := by
  obtain ⟨ρ, h, env, R, re, o⟩ := hq
  refine k _ ρ h env R re ((OutS.bindE re o).imp fun v H1 hq1 => ?_)
  obtain ⟨ρ1, h1, w1, e1, R1, rv1, o1⟩ := hq1
  exact o1 ρ1 H1 _ .refl R1 ((re.ext e1).set rv1)
/-- name = [..] on one row -/
theorem es_setLc {i : Nat} {y : Str} {py spos : Pos} {vs : List Nat} (hv : own.map (·.2) = vs) (hc : X.calm = true) (hN : X.N.Nodup) (hy : X.N[i]? = some y) (hyl : X.env.scope.names.lookup y = some .local)
    (hsw : swapsWith (.ListComp elt [⟨tg, iter, ifs, 0⟩] scope pos) (some (.Name y py)) spos.line X.env = pure true) (hi : EI X T Wx tg iter fi) (ok : BlkOk X.N X.env.scope scope own)
    (hg : ∀ (s : Shared) (H : Hp) (C : Addr) (cl : List (Str × Addr)) (fp : List Addr), EG (X.blk s H scope (compEnvC scope cl C X.env) fp) T (SOwn vs) tg g) (ht : ∀ (s : Shared) (H : Hp) (C : Addr) (cl : List (Str × Addr)) (fp : List Addr), ETs (X.blk s H scope (compEnvC scope cl C X.env) fp) T WNo ifs tt)
    (he : ∀ (s : Shared) (H : Hp) (C : Addr) (cl : List (Str × Addr)) (fp : List Addr), EE (X.blk s H scope (compEnvC scope cl C X.env) fp) T WNo elt te) (hs : ∀ x, foldedSetIterable iter X.env x = pure x := by intro _; rfl) :
    ES X T Wx (.Assign [.Name y py] (.ListComp elt [⟨tg, iter, ifs, 0⟩] scope pos) spos) (sAsg (fLC fi g tt te vs) (gN i)) := by
  subst hv
  exact PS.imp (ps_setLc hc hN hy hyl hsw hi ok hg ht he hs) fun D σ H hq => set_lc_of (fun Q ρ h env R re o => lc_frz R re o) hq
theorem es_setLcR {i : Nat} {y : Str} {py spos : Pos} {vs : List Nat} (hv : own.map (·.2) = vs) (hc : X.calm = true) (hN : X.N.Nodup) (hy : X.N[i]? = some y) (hyl : X.env.scope.names.lookup y = some .local)
    (hsw : swapsWith (.ListComp elt [⟨tg, iter, ifs, 0⟩] scope pos) (some (.Name y py)) spos.line X.env = pure true) (hi : EI X T Wx tg iter fi) (ok : BlkOk X.N X.env.scope scope own)
    (hg : ∀ (s : Shared) (H : Hp) (C : Addr) (cl : List (Str × Addr)) (fp : List Addr), EG (X.blk s H scope (compEnvC scope cl C X.env) fp) T (SOwn vs) tg g) (ht : ∀ (s : Shared) (H : Hp) (C : Addr) (cl : List (Str × Addr)) (fp : List Addr), ETs (X.blk s H scope (compEnvC scope cl C X.env) fp) T WNo ifs tt)
    (he : ∀ (s : Shared) (H : Hp) (C : Addr) (cl : List (Str × Addr)) (fp : List Addr), EE (X.blk s H scope (compEnvC scope cl C X.env) fp) T WNo elt te) (hs : ∀ x, foldedSetIterable iter X.env x = pure x := by intro _; rfl) :
    ES X T Wx (.Assign [.Name y py] (.ListComp elt [⟨tg, iter, ifs, 0⟩] scope pos) spos) (sAsg (fLCR fi g tt te vs) (gN i)) := by
  subst hv
  exact PS.imp (ps_setLc hc hN hy hyl hsw hi ok hg ht he hs) fun D σ H hq => set_lc_of (fun Q ρ h env R re o => lc_ref R re o) hq

/-! ### while -/
/-- while, so many turns at most -/
def whileN (fc : BF) (fb : SF) : Nat → SF
  | 0, _, _ => .bad
  | n + 1, env, h => bindS (fc env h) env fun b h1 => if b = true then
      match fb env h1 with
      | .nx env2 h2 => whileN fc fb n env2 h2
      | .ct env2 h2 => whileN fc fb n env2 h2
      | .bk env2 h2 => .nx env2 h2
      | r => r
    else .nx env h1
open Classical in
/-- while: what comes behind so many turns, if something does -/
noncomputable def sWhile (fc : BF) (fb : SF) : SF := fun env h => if q : ∃ n, whileN fc fb n env h ≠ .bad then whileN fc fb q.choose env h else .bad
theorem es_while {c : Expr} {body : List Stmt} {fc : BF} {fb : SF} (hp : PassesOwn (model X.prog X.w) X.A X.env X.xe) (hc : ET X T Wx c fc) (hb : ESs X T Wx body fb) : ES X T Wx (.While c body [] pos) (sWhile fc fb) := PS.imp (ps_while hp hc hb) fun D σ H hq => by
  obtain ⟨ρ, h, env, R, re, o⟩ := hq
  unfold sWhile at o
  split at o
  · rename_i q
    generalize q.choose = n at o
    refine ⟨fun m σ1 H1 => ∃ ρ1 h1 env1, Rep (Cx.cn X T) ρ1 h1 H1 ∧ REnv (Cx.cn X T) ρ1 H1 env1 σ1 ∧ OutS (Cx.cn X T) ρ1 H1 (whileN fc fb m env1 h1) D Wx, ⟨n, ρ, h, env, R, re, o⟩, ?_⟩
    rintro m σ1 H1 ⟨ρ1, h1, env1, R1, re1, o1⟩
    cases m with
    | zero => exact (show False from o1).elim
    | succ m =>
      unfold whileN at o1
      refine ⟨ρ1, h1, env1, R1, re1, (OutS.bindB re1 o1).imp fun b H2 hq2 => ?_⟩
      obtain ⟨ρ2, h2, x2, R2, o2⟩ := hq2
      cases b with
      | false =>
        rw [if_neg Bool.false_ne_true] at o2 ⊢
        exact o2 ρ2 H2 σ1 .refl R2 (re1.ext x2)
      | true =>
        rw [if_pos rfl] at o2 ⊢
        refine ⟨fun σ3 H3 => ∃ ρ3 h3 env3, Rep (Cx.cn X T) ρ3 h3 H3 ∧ REnv (Cx.cn X T) ρ3 H3 env3 σ3 ∧ OutS (Cx.cn X T) ρ3 H3 (whileN fc fb m env3 h3) D Wx, fun σ3 H3 h => ⟨m, Nat.lt_succ_self _, h⟩, ρ2, h2, env1, R2, re1.ext x2, ?_⟩
        cases q2 : fb env1 h2 with
        | nx env4 h4 =>
          rw [q2] at o2
          exact fun ρ4 H4 σ4 x4 R4 re4 => ⟨ρ4, h4, env4, R4, re4, OutS.from x4 o2⟩
        | ct env4 h4 =>
          rw [q2] at o2
          exact fun ρ4 H4 σ4 x4 R4 re4 => ⟨ρ4, h4, env4, R4, re4, OutS.from x4 o2⟩
        | bk env4 h4 =>
          rw [q2] at o2
          exact fun ρ4 H4 σ4 x4 R4 re4 => o2 ρ4 H4 σ4 x4 R4 re4
        | rt w4 h4 =>
          rw [q2] at o2
          exact fun ρ4 H4 v4 x4 R4 re4 => o2 ρ4 H4 v4 x4 R4 re4
        | exc c fs env4 h4 =>
          rw [q2] at o2
          exact fun ρ4 H4 σ4 cls d x4 R4 re4 rx => o2 ρ4 H4 σ4 cls d x4 R4 re4 rx
        | bad => rw [q2] at o2; exact (show False from o2).elim
  · exact (show False from o).elim
end
end PF
set_option Elab.async false
set_option linter.all false
set_option maxRecDepth 100000
set_option maxHeartbeats 1000000
namespace PF
open PySem PySem.Spec PyProof.Rows L2

/-! ### defs -/
abbrev DF := List W → M W
def spOf (Γ : Cn) (n : Nat) (m : DF) : Sp := fun vs H Q E => vs.length = n ∧ ∃ ρ h ws, Rep Γ ρ h H ∧ RVs Γ ρ H ws vs ∧ Out Γ ρ H (m ws h) Q E
def startW (N : Nat) (ws : List W) : Env := ws.map some ++ List.replicate (N - ws.length) none
def endS (r : SRes) : Res W := match r with
  | .nx _ h => .ok .non h
  | .rt w h => .ok w h
  | .exc c fs _ h => .exc c fs h
  | _ => .bad
def defF (N : Nat) (f : SF) : DF := fun ws h => endS (f (startW N ws) h)
section
variable {P : Program} {w : World} {K : PySem.W.Frag} {mg : Str → Option Value} {base : Heap} {T : List (Addr × Str)}
theorem REnv.start {Γ : Cn} {ρ : Rh} {H : Hp} {ws : List W} {vs : List V} (N : List Str) (r : RVs Γ ρ H ws vs) : REnv Γ ρ H (startW N.length ws) (L2.start N vs) := by
  have hl := r.length
  refine ⟨by simp [startW, L2.start, hl], fun i w e => ?_⟩
  unfold startW at e
  by_cases hi : i < ws.length
  · rw [List.getElem?_append_left (by simpa using hi), List.getElem?_map] at e
    obtain ⟨w', e1, e2⟩ := Option.map_eq_some_iff.mp e
    cases e2
    obtain ⟨v, h1, h2⟩ := r.get e1
    refine ⟨v, ?_, h2⟩
    unfold L2.start
    rw [List.getElem?_append_left (by simp; omega), List.getElem?_map, h1]
    rfl
  · rw [List.getElem?_append_right (by simpa using hi), List.getElem?_replicate] at e
    split at e <;> cases e
abbrev WxE (E : XK) : WX := fun cls d _ H => E cls d H
/-- THE RULE for a def -/
theorem def_ok {x qual : Str} {params : Arguments} {body : List Stmt} {scope : Scope} {dvs : List V} {kws : List (Str × V)} {f : Addr} {fd : FuncData} {N ps : List Str} {k : Nat} {fb : SF}
    (F : FunD K x qual params body scope dvs kws f fd) (S : FnScope N ps scope)
    (hbody : ∀ (cdv : Value) (A : Around) (outer : List PySem.Env) (s : Shared) (H : Hp) (E : XK), Room k (A.deeper (envOfC qual scope s.heap.objs.size f cdv)) →
      ESs (cxOf (L2.CX P w) P w K mg base N qual scope f cdv A outer s H E) T (WxE E) body fb) :
    FnOk P w K mg base (L2.CX P w) (k + 1) f fd ps (spOf ⟨K, mg, T⟩ ps.length (defF N.length fb)) := by
  refine F.ok S (fun vs H Q E h => h.1) fun cdv A outer s H vs Q E hr h => ⟨_, hbody cdv A outer s H E hr, ?_⟩
  obtain ⟨hl, ρ, h, ws, R, rs, o⟩ := h
  refine ⟨ρ, h, startW N.length ws, R, REnv.start N rs, ?_⟩
  unfold defF at o
  cases q : fb (startW N.length ws) h with
  | nx env h1 =>
    rw [q] at o
    exact fun ρ' H' σ' x R' re => o ρ' H' .non x R' .non
  | rt w h1 =>
    rw [q] at o
    exact fun ρ' H' v x R' rv => o ρ' H' v x R' rv
  | exc c fs env h1 =>
    rw [q] at o
    exact fun ρ' H' σ' cls d x R' re rx => o ρ' H' cls d x R' rx
  | bk env h1 => rw [q] at o; exact (show False from o).elim
  | ct env h1 => rw [q] at o; exact (show False from o).elim
  | bad => rw [q] at o; exact (show False from o).elim
/-- what is as good as another outcome -/
def Better (Γ : Cn) (h : AH) (r r' : Res W) : Prop := ∀ (ρ : Rh) (H : Hp) (Q : VK) (E : XW), Rep Γ ρ h H → Out Γ ρ H r' Q E → Out Γ ρ H r Q E
theorem Better.refl {Γ : Cn} {h : AH} {r : Res W} : Better Γ h r r := fun _ _ _ _ _ o => o
theorem Better.of_eq {Γ : Cn} {h : AH} {r r' : Res W} (e : r = r') : Better Γ h r r' := by subst e; exact .refl
theorem Better.bad {Γ : Cn} {h : AH} {r : Res W} : Better Γ h r .bad := fun _ _ _ _ _ o => (show False from o).elim
/-- a def told by a better function -/
theorem fn_better {k : Nat} {f : Addr} {fd : FuncData} {ps : List Str} {n : Nat} {m m' : DF} (F : FnOk P w K mg base (L2.CX P w) k f fd ps (spOf ⟨K, mg, T⟩ n m))
    (b : ∀ ws h, ws.length = n → Better ⟨K, mg, T⟩ h (m ws h) (m' ws h)) : FnOk P w K mg base (L2.CX P w) k f fd ps (spOf ⟨K, mg, T⟩ n m') := by
  refine F.imp fun vs H Q E h => ?_
  obtain ⟨hl, ρ, h, ws, R, rs, o⟩ := h
  exact ⟨hl, ρ, h, ws, R, rs, b ws h (by rw [rs.length]; exact hl) ρ H Q E R o⟩
end

/-! ### calls of defs -/
def fFn (m : DF) (fl : LF) : EF := fun env h => (fl env h).bind fun ws h1 => m ws h1
section
variable {X : Cx} {T : List (Addr × Str)} {Wx : WX} {k n : Nat} {f : Addr} {fd : FuncData} {ps : List Str} {m : DF} {x : Str} {p pos : Pos} {e : Expr} {es : List Expr} {fl : LF}
theorem ee_call (tk : Takes X Wx) (F : FnOk X.prog X.w X.K X.mg X.base (L2.CX X.prog X.w) k f fd ps (spOf (Cx.cn X T) n m)) (hr : Room k X.A) (hg : Gl X x) (hm : X.mg x = some (.ref f)) (hk : PySem.W.keepIn X.K (.ref f) = true) (hb : Binds X.K fd ps [])
    (ha : EA X T Wx (e :: es) fl) (hn : (e :: es).length = n := by rfl) (hdb : (x == ("__debug__" : Str)) = false := by decide) (he : starEach (e :: es) X.env = (false, eval e X.env) :: starEach es X.env := by rfl) (hpl : (backTo pos (starEach es X.env)).any (·.1) = false := by rfl)
    (hlen : ∀ env h ws h', fl env h = .ok ws h' → ws.length = (e :: es).length) : EE X T Wx (.Call (.Name x p) (e :: es) [] pos) (fFn m fl) := by
  refine PE.imp (pe_callSD F hr hg hm hk hb .nil (passAt tk) ha hdb he hpl) fun σ H Q hq => ?_
  obtain ⟨ρ, h, env, R, re, o⟩ := hq
  refine ⟨ρ, h, env, R, re, ?_⟩
  unfold fFn at o
  cases q : fl env h with
  | bad => rw [q] at o; exact (show False from o).elim
  | exc c fs h1 => rw [q] at o; exact o
  | ok ws h1 =>
    rw [q] at o
    have o' : Out (Cx.cn X T) ρ H (m ws h1) Q _ := o
    intro ρ1 H1 vs x1 R1 rs
    rw [List.append_nil]
    refine ⟨by rw [← rs.length, hlen env h ws h1 q]; exact hn, ρ1, h1, ws, R1, rs, ?_⟩
    exact Out.from x1 o'
theorem lNil_len {env : Env} {h : AH} {ws : List W} {h' : AH} (q : lNil env h = .ok ws h') : ws.length = 0 := by
  cases q; rfl
theorem lCons_len {fa : EF} {fr : LF} {k : Nat} (hr : ∀ env h ws h', fr env h = .ok ws h' → ws.length = k) {env : Env} {h : AH} {ws : List W} {h' : AH} (q : lCons fa fr env h = .ok ws h') : ws.length = k + 1 := by
  unfold lCons at q
  cases q1 : fa env h with
  | bad => rw [q1] at q; cases q
  | exc c fs h1 => rw [q1] at q; cases q
  | ok a h1 =>
    rw [q1] at q
    have q' : ((fr env h1).bind fun r h2 => Res.ok (a :: r) h2) = .ok ws h' := q
    cases q2 : fr env h1 with
    | bad => rw [q2] at q'; cases q'
    | exc c fs h2 => rw [q2] at q'; cases q'
    | ok r h2 =>
      rw [q2] at q'
      cases q'
      rw [List.length_cons, hr _ _ _ _ q2]
end
end PF
set_option Elab.async false
set_option linter.all false
set_option maxRecDepth 100000
set_option maxHeartbeats 1000000
namespace PF
open PySem PySem.Spec PyProof.Rows L2

/-! ### dict comprehensions, keys ints or texts -/
open Classical in
noncomputable def dcL (G : AH → Prop) (g : GF) (tt : BF) (tk tv : EF) (env : Env) : List W → List (W × W) → AH → Res (List (W × W))
  | [], acc, h => if G h then .ok acc h else .bad
  | w :: ws, acc, h => if G h then
      match g w env h with
      | .ok env1 h1 => (tt env1 h1).bind fun b h2 => if b = true then (tk env1 h2).bind fun k h3 => (tv env1 h3).bind fun v h4 =>
          match keyW k with
          | some kk => if acc.length < sizeLine then dcL G g tt tk tv env ws (putKW acc kk k v) h4 else .bad
          | none => .bad
        else dcL G g tt tk tv env ws acc h2
      | _ => .bad
    else .bad
noncomputable def fDC (fi : IF_) (g : GF) (tt : BF) (tk tv : EF) (vs : List Nat) : EF := fun env h => (fi env h).bind fun it h1 => match dcL it.guard g tt tk tv (wipeW env vs) it.items [] h1 with
  | .ok kvs h2 => .ok (.dct kvs) h2
  | _ => .bad
theorem dcL_guard {G : AH → Prop} {g : GF} {tt : BF} {tk tv : EF} {ws : List W} {acc : List (W × W)} {env : Env} {h : AH} (o : ¬ G h) : dcL G g tt tk tv env ws acc h = .bad := by
  cases ws <;> (unfold dcL; rw [if_neg o])
section
variable {X : Cx} {T : List (Addr × Str)} {Wx : WX} {pos : Pos} {tg iter : Expr} {fi : IF_} {g : GF}
theorem dc_turns {Γ : Cn} {ρ : Rh} {h : AH} {H : Hp} {J : It} {it : ItR} {g : GF} {tt : BF} {tk tv : EF} {vs : List Nat} {gt : TG} {ttt : TT} {ttk ttv : TE} {Da : Addr} {Q : Hp → Prop}
    (hg : ∀ v σ H Q, tG Γ (SOwn vs) g v σ H Q → gt v σ H Q) (ht : ∀ σ H Q, tT Γ WNo tt σ H Q → ttt σ H Q) (hk : ∀ σ H Q, tE Γ WNo tk σ H Q → ttk σ H Q) (he : ∀ σ H Q, tE Γ WNo tv σ H Q → ttv σ H Q)
    (ok : IterOk Γ ρ H J it) {env : Env} {σ : L2.St} (R : Rep Γ ρ h H) (re : REnv Γ ρ H env σ) (hD : H Da = none) {ws : List (W × W)} {h' : AH} (o : dcL it.guard g tt tk tv (wipeW env vs) it.items [] h = .ok ws h')
    (k : ∀ ρ' H' us, Ext ρ H ρ' H' → Rep Γ ρ' h' H' → Da ∈ ρ'.rs → H' Da = some (.dK us) → RKs Γ ρ' H' ws us → Q H') :
    ∃ W : Nat → Nat → Hp → Prop, (∃ m, W 0 m (upd H Da (.dK []))) ∧ ∀ i m H, W i m H →
      (J.stop i H ∧ Q H) ∨ (J.go i H ∧ ∃ Nx : Hp → Prop, (∀ H', Nx H' → ∃ m', m' < m ∧ W (i + 1) m' H') ∧ ∀ x H', J.yld i H x H' → gt x (L2.wipe σ vs) H' fun σ2 H2 => L2.wipe σ2 vs = L2.wipe σ vs ∧ ttt σ2 H2 fun b H3 =>
        if b = true then ttk σ2 H3 fun y H4 => ttv σ2 H4 fun z H5 => ∃ kvs k, y = kV k ∧ H5 Da = some (.dK kvs) ∧ kvs.length < sizeLine ∧ Nx (upd H5 Da (.dK (putK kvs k z))) else Nx H3) := by
  let Pv : Nat → Hp → Prop := fun i H1 => ∃ ρ1 h1 acc us, Ext ρ H ρ1 H1 ∧ Rep Γ ρ1 h1 H1 ∧ Da ∈ ρ1.rs ∧ H1 Da = some (.dK us) ∧ RKs Γ ρ1 H1 acc us ∧ dcL it.guard g tt tk tv (wipeW env vs) (it.items.drop i) acc h1 = .ok ws h'
  refine ⟨fun i m H1 => m = it.items.length - i ∧ i ≤ it.items.length ∧ Pv i H1, ⟨it.items.length, by simp, Nat.zero_le _, ρ.res Da, h, [], [], .res hD, R.res hD, List.mem_cons_self, upd_same, .nil, o⟩, ?_⟩
  rintro i m H1 ⟨rfl, hi, ρ1, h1, acc, us, x1, R1, mD, hDa, racc, o1⟩
  have nt : Da ∉ ρ1.tr := (R1.dj Da mD).1
  have gd : it.guard h1 := Classical.byContradiction fun z => by
    rw [dcL_guard z] at o1; cases o1
  obtain ⟨k1, k2, k3⟩ := ok ρ1 h1 H1 x1 R1 gd
  by_cases hlt : i < it.items.length
  · rw [drop_cons hlt] at o1
    unfold dcL at o1
    rw [if_pos gd] at o1
    refine .inr ⟨k1 i hlt, Pv (i + 1), fun H' p' => ⟨it.items.length - (i + 1), by omega, rfl, hlt, p'⟩, fun v H2 hy => ?_⟩
    obtain ⟨x2, R2, rv⟩ := k3 i v H2 _ (List.getElem?_eq_getElem hlt) hy
    refine hg _ _ _ _ ⟨ρ1, h1, wipeW env vs, it.items[i], R2, ((re.wipe vs).ext x1).ext x2, rv, ?_⟩
    cases q : g it.items[i] (wipeW env vs) h1 with
    | bad => rw [q] at o1; cases o1
    | exc c fs h3 => rw [q] at o1; cases o1
    | ok env3 h3 =>
      rw [q] at o1
      dsimp only at o1
      intro ρ3 H3 σ3 s3 x3 R3 re3
      refine ⟨(show L2.wipe σ3 vs = L2.wipe (L2.wipe σ vs) vs from s3).trans (wipe_wipe σ vs), ht _ _ _ ⟨ρ3, h3, env3, R3, re3, ?_⟩⟩
      cases q2 : tt env3 h3 with
      | bad => rw [q2] at o1; cases o1
      | exc c fs h4 => rw [q2] at o1; cases o1
      | ok b h4 =>
        rw [q2] at o1
        unfold Res.bind at o1
        dsimp only at o1
        intro ρ4 H4 x4 R4
        have x24 := (x2.trans x3).trans x4
        cases b with
        | false =>
          rw [if_neg Bool.false_ne_true] at o1 ⊢
          have kD := x24.keep Da _ hDa nt (fun _ z => by cases z)
          obtain ⟨m, e, _⟩ := x24.rs
          exact ⟨ρ4, h4, acc, us, x1.trans x24, R4, by rw [e]; exact List.mem_append_right _ mD, kD, racc.ext x24, o1⟩
        | true =>
          rw [if_pos rfl] at o1 ⊢
          refine hk _ _ _ ⟨ρ4, h4, env3, R4, re3.ext x4, ?_⟩
          cases q3 : tk env3 h4 with
          | bad => rw [q3] at o1; cases o1
          | exc c fs h5 => rw [q3] at o1; cases o1
          | ok y h5 =>
            rw [q3] at o1
            dsimp only at o1
            intro ρ5 H5 v5 x5 R5 rv5
            have x25 := x24.trans x5
            refine he _ _ _ ⟨ρ5, h5, env3, R5, (re3.ext x4).ext x5, ?_⟩
            cases q4 : tv env3 h5 with
            | bad => rw [q4] at o1; cases o1
            | exc c fs h6 => rw [q4] at o1; cases o1
            | ok z h6 =>
              rw [q4] at o1
              dsimp only at o1
              cases q5 : keyW y with
              | none => rw [q5] at o1; cases o1
              | some kk =>
                rw [q5] at o1
                dsimp only at o1
                by_cases hz : acc.length < sizeLine
                · rw [if_pos hz] at o1
                  intro ρ6 H6 v6 x6 R6 rv6
                  have x26 := x25.trans x6
                  have kD := x26.keep Da _ hDa nt (fun _ z => by cases z)
                  obtain ⟨m, e, _⟩ := x26.rs
                  have m6 : Da ∈ ρ6.rs := by rw [e]; exact List.mem_append_right _ mD
                  have wk : Wk ρ6 H6 ρ6 (upd H6 Da (.dK (putK us kk v6))) := Wk.write m6 kD
                  refine ⟨us, kk, key_at rv5 q5, kD, by rw [← racc.length]; exact hz, ρ6, h6, putKW acc kk y z, putK us kk v6, ?_, ?_, m6, upd_same, ?_, o1⟩
                  · exact (x1.trans x26).writeN (.of hD) kD (fun _ z => by cases z) (fun _ z => by cases z)
                  · exact R6.writeR m6 kD (fun _ z => by cases z) (fun _ z => by cases z)
                  · exact ((racc.ext x26).put q5 rv6).wk wk
                · rw [if_neg hz] at o1; cases o1
  · have e : i = it.items.length := by omega
    subst e
    rw [List.drop_length] at o1
    unfold dcL at o1
    rw [if_pos gd] at o1
    cases o1
    exact .inl ⟨k2, k ρ1 H1 us x1 R1 mD hDa racc⟩
/-- the made thing is locked for good -/
theorem pe_frz {X : Cx} {e : Expr} {t : TE} (p : PE X e t) : PE X e (fun σ H Q => t σ H fun v H1 => ∃ d u, v = .ref d ∧ H1 d = some u ∧ Mut (some u) ∧ ∀ od, Q v (upd H1 d (.frz od u))) := by
  refine ⟨fun pins s σ H Q I h => thn (p.run pins s σ H _ I h) fun v s1 ⟨x, H1, I1, r, d, u, ev, hd, mu, k⟩ => ?_⟩
  obtain ⟨od, I2⟩ := I1.lock hd mu
  exact ⟨x, _, I2, r, k od⟩
variable {kx vx : Expr} {ifs : List Expr} {scope : Scope} {own : List (Str × Nat)} {tt : BF} {tk tv : EF}
theorem ee_dc {vs : List Nat} (hv : own.map (·.2) = vs) (hc : X.calm = true) (hN : X.N.Nodup) (hi : EI X T Wx tg iter fi) (ok : BlkOk X.N X.env.scope scope own)
    (hg : ∀ (s : Shared) (H : Hp) (C : Addr) (cl : List (Str × Addr)) (fp : List Addr), EG (X.blk s H scope (compEnvC scope cl C X.env) fp) T (SOwn vs) tg g) (ht : ∀ (s : Shared) (H : Hp) (C : Addr) (cl : List (Str × Addr)) (fp : List Addr), ETs (X.blk s H scope (compEnvC scope cl C X.env) fp) T WNo ifs tt)
    (hk : ∀ (s : Shared) (H : Hp) (C : Addr) (cl : List (Str × Addr)) (fp : List Addr), EE (X.blk s H scope (compEnvC scope cl C X.env) fp) T WNo kx tk)
    (he : ∀ (s : Shared) (H : Hp) (C : Addr) (cl : List (Str × Addr)) (fp : List Addr), EE (X.blk s H scope (compEnvC scope cl C X.env) fp) T WNo vx tv) (hs : ∀ x, foldedSetIterable iter X.env x = pure x := by intro _; rfl) :
    EE X T Wx (.DictComp kx vx [⟨tg, iter, ifs, 0⟩] scope pos) (fDC fi g tt tk tv vs) := by
  subst hv
  refine PE.imp (pe_frz (pe_dc (wi := tI (Cx.cn X T) Wx fi) (g := tG (Cx.cn X T) (SOwn (own.map (·.2))) g) (tt := tT (Cx.cn X T) WNo tt) (tk := tE (Cx.cn X T) WNo tk) (tv := tE (Cx.cn X T) WNo tv) hc hN hi ok hg ht hk he hs)) fun σ H Q hq => ?_
  obtain ⟨ρ, h, env, R, re, o⟩ := hq
  refine ⟨ρ, h, env, R, re, ?_⟩
  unfold fDC at o
  cases q : fi env h with
  | bad => rw [q] at o; exact (show False from o).elim
  | exc c fs h1 => rw [q] at o; exact o
  | ok it h1 =>
    rw [q] at o
    intro ρ1 H1 J x1 R1 ok Da hDa
    have o' : Out (Cx.cn X T) ρ H (match dcL it.guard g tt tk tv (wipeW env (own.map (·.2))) it.items [] h1 with
      | .ok kvs h2 => .ok (.dct kvs) h2
      | _ => .bad) Q _ := o
    cases q2 : dcL it.guard g tt tk tv (wipeW env (own.map (·.2))) it.items [] h1 with
    | bad => rw [q2] at o'; exact (show False from o').elim
    | exc c fs h2 => rw [q2] at o'; exact (show False from o').elim
    | ok ws h2 =>
      rw [q2] at o'
      refine dc_turns (fun _ _ _ _ h => h) (fun _ _ _ h => h) (fun _ _ _ h => h) (fun _ _ _ h => h) ok R1 (re.ext x1) hDa q2 fun ρ2 H2 us x2 R2 mD hD2 rr => ?_
      refine ⟨Da, _, rfl, hD2, True.intro, fun od => ?_⟩
      have wk : Wk ρ2 H2 ρ2 (upd H2 Da (.frz od (.dK us))) := Wk.write mD hD2
      have R3 : Rep (Cx.cn X T) ρ2 h2 (upd H2 Da (.frz od (.dK us))) := R2.writeR mD hD2 (fun _ z => by cases z) (fun _ z => by cases z)
      have x3 : Ext ρ1 H1 ρ2 (upd H2 Da (.frz od (.dK us))) := x2.writeN (.of hDa) hD2 (fun _ z => by cases z) (fun _ z => by cases z)
      refine o' _ _ _ (x1.trans x3.back) (R3.sub x3.sub) (.dK (fun z => ?_) ⟨od, upd_same⟩ ((rr.wk wk).sub x3.sub))
      rcases Rh.mem_iff.mp z with z | z
      · exact (R2.dj Da mD).1 z
      · obtain ⟨_, o', e', _⟩ := R1.dj Da z
        rw [hDa] at e'; cases e'

/-! ### all, any -/
def boolsW : List W → Option (List Bool)
  | [] => some []
  | .bl b :: r => (boolsW r).map (b :: ·)
  | _ :: _ => none
theorem bools_ok {ρ : Rh} {H : Hp} {Γ : Cn} : ∀ {ws : List W} {vs : List V} {l : List Bool}, RVs Γ ρ H ws vs → boolsW ws = some l → vs = l.map V.bl
  | [], _, _, .nil, e => by cases e; rfl
  | w :: r, _, _, .cons a b, e => by
    cases a <;> first
      | (unfold boolsW at e
         obtain ⟨l', e1, e2⟩ := Option.map_eq_some_iff.mp e
         subst e2
         rw [bools_ok b e1]
         rfl)
      | (cases e; done)
def allW (h : AH) : List W → Option W
  | [w] => match seqL h w with
    | some ws => (boolsW ws).map fun l => .bl (l.all id)
    | none => none
  | _ => none
def anyW (h : AH) : List W → Option W
  | [w] => match seqL h w with
    | some ws => (boolsW ws).map fun l => .bl (l.any id)
    | none => none
  | _ => none
theorem call_allW (hc : X.calm = true) : CallW X T (.builtin "all") allW := call_raw fun pins s σ H xs us ρ h ws w I r R rs e Q o => by
  unfold allW at e
  split at e
  · split at e
    · rename_i ws' e1
      obtain ⟨l, e2, e3⟩ := Option.map_eq_some_iff.mp e
      subst e3
      cases rs with
      | cons a b =>
        cases b
        obtain ⟨p, vs, ep, hp, rr⟩ := seqL_ok R a e1
        subst ep
        have := bools_ok rr e2
        subst this
        exact cr_all hc pins s σ H _ us Q I r ⟨p, l, rfl, .of hp, o.here R (.bl _)⟩
    · cases e
  · cases e
theorem call_anyW (hc : X.calm = true) : CallW X T (.builtin "any") anyW := call_raw fun pins s σ H xs us ρ h ws w I r R rs e Q o => by
  unfold anyW at e
  split at e
  · split at e
    · rename_i ws' e1
      obtain ⟨l, e2, e3⟩ := Option.map_eq_some_iff.mp e
      subst e3
      cases rs with
      | cons a b =>
        cases b
        obtain ⟨p, vs, ep, hp, rr⟩ := seqL_ok R a e1
        subst ep
        have := bools_ok rr e2
        subst this
        exact cr_any hc pins s σ H _ us Q I r ⟨p, l, rfl, .of hp, o.here R (.bl _)⟩
    · cases e
  · cases e

/-! ### chains of comparisons -/
variable {a b c : Expr} {fa fb fc : EF} {g1 g2 : AH → W → W → Option W}
/-- a op1 b op2 c, of ints: all three are reckoned in turn -/
def fChain (g1 g2 : AH → W → W → Option W) (fa fb fc : EF) : EF := fun env h => (fa env h).bind fun x h1 => (fb env h1).bind fun y h2 => match g1 h2 x y with
  | some (.bl true) => (fc env h2).bind fun z h3 => opt (g2 h3 y z) h3
  | some (.bl false) => .ok (.bl false) h2
  | _ => .bad
theorem chain_of {σ : L2.St} {H : Hp} {Q : VK} (hq : tE (Cx.cn X T) Wx (fChain g1 g2 fa fb fc) σ H Q) :
    tChain (r2 (Cx.cn X T) g1) (r2 (Cx.cn X T) g2) (tE (Cx.cn X T) Wx fa) (tE (Cx.cn X T) Wx fb) (tE (Cx.cn X T) Wx fc) σ H Q := by
  obtain ⟨ρ, h, env, R, re, o⟩ := hq
  refine ⟨ρ, h, env, R, re, o.bind.imp fun v1 H1 hq1 => ?_⟩
  obtain ⟨ρ1, h1, w1, e1, R1, rv1, o1⟩ := hq1
  refine ⟨ρ1, h1, env, R1, re.ext e1, o1.bind.imp fun v2 H2 hq2 => ?_⟩
  obtain ⟨ρ2, h2, w2, e2, R2, rv2, o2⟩ := hq2
  refine ⟨ρ2, h2, w1, w2, R2, rv1.ext e2, rv2, ?_⟩
  split at o2
  · rename_i q
    rw [q]
    intro ρ3 H3 v3 x3 R3 rv3
    cases rv3
    refine ⟨true, rfl, ?_⟩
    rw [if_pos rfl]
    refine ⟨ρ3, h2, env, R3, ((re.ext e1).ext e2).ext x3, (Out.from x3 o2).bind.imp fun v4 H4 hq4 => ?_⟩
    obtain ⟨ρ4, h4, w4, x4, R4, rv4, o4⟩ := hq4
    exact ⟨ρ4, h4, w2, w4, R4, (rv2.ext x3).ext x4, rv4, o4.opt⟩
  · rename_i q
    rw [q]
    intro ρ3 H3 v3 x3 R3 rv3
    cases rv3
    refine ⟨false, rfl, ?_⟩
    rw [if_neg Bool.false_ne_true]
    exact o2 ρ3 H3 _ x3 R3 (.bl _)
  · exact (show False from o2).elim
theorem ee_chain {op op' : CmpOp} (ho : Op2 X T (compareOp op) g1) (ho' : Op2 X T (compareOp op') g2) (ha : EE X T Wx a fa) (hb : EE X T Wx b fb) (hc : EE X T Wx c fc)
    (hm : lastMarks [op, op'] [b, c] = false := by with_unfolding_all rfl) : EE X T Wx (.Compare a [op, op'] [b, c] pos) (fChain g1 g2 fa fb fc) :=
  PE.imp (pe_chain ho ho' ha hb hc hm) fun _ _ _ hq => chain_of hq
theorem et_chain {op op' : CmpOp} (ho : Op2 X T (compareOp op) g1) (ho' : Op2 X T (compareOp op') g2) (ha : EE X T Wx a fa) (hb : EE X T Wx b fb) (hc : EE X T Wx c fc)
    (hm : lastMarks [op, op'] [b, c] = false := by with_unfolding_all rfl) : ET X T Wx (.Compare a [op, op'] [b, c] pos) (bVal (fChain g1 g2 fa fb fc)) := by
  refine PT.imp (pt_chain ho ho' ha hb hc hm) fun σ H Q hq => ?_
  obtain ⟨ρ, h, env, R, re, o⟩ := hq
  refine chain_of (Wx := Wx) ⟨ρ, h, env, R, re, (OutB.bind o).imp fun v1 H1 hq1 => ?_⟩
  obtain ⟨ρ1, h1, w1, e1, R1, rv1, o1⟩ := hq1
  cases rv1 <;> first
    | exact ⟨_, rfl, o1 ρ1 H1 .refl R1⟩
    | exact (show False from o1).elim
end
end PF
set_option Elab.async false
set_option linter.all false
set_option maxRecDepth 100000
set_option maxHeartbeats 1000000
namespace PF
open PySem PySem.Spec PyProof.Rows L2

/-! ### own exceptions: C(e), one field -/
/-- __init__ of an own exception class with one field -/
def spXI (C : Addr) (f : Str) : Sp := fun vs H Q E => ∃ (a : Addr) (v : V), vs = [.ref a, v] ∧ H a = some (exo a C none) ∧ ∀ dx, H dx = none → dx ≠ a → Q .non (upd (upd H dx (exd dx [(f, v)])) a (exo a C (some dx)))
section
variable {P : Program} {w : World} {K : PySem.W.Frag} {mg : Str → Option Value} {base : Heap}
theorem xi_ok {x qual : Str} {params : Arguments} {scope : Scope} {f : Addr} {fd : FuncData} {N ps : List Str} {k : Nat} {C : Addr} {fld sN aN : Str} {p1 p2 p3 p4 : Pos}
    (F : FunD K x qual params [.Assign [.Attribute (.Name sN p1) fld p2] (.Name aN p3) p4] scope [] [] f fd) (S : FnScope N ps scope) (T : OexC K C) (hno : PySem.W.findIn K (.ref C) fld = some none)
    (hN : N = [sN, aN]) (hl : ps.length = 2) (h1 : scope.names.lookup sN = some .local) (h2 : scope.names.lookup aN = some .local) (d1 : (sN == ("__debug__" : Str)) = false := by decide) (d2 : (aN == ("__debug__" : Str)) = false := by decide)
    (c1 : (sN == ("__classdict__" : Str)) = false := by decide) (c2 : (aN == ("__classdict__" : Str)) = false := by decide) :
    FnOk P w K mg base (L2.CX P w) (k + 1) f fd ps (spXI C fld) := by
  refine F.ok S (fun vs H Q E h => by obtain ⟨a, v, e, _⟩ := h; subst e; exact hl.symm) fun cdv A outer s H vs Q E hr h => ?_
  obtain ⟨a, v, e, ha, hq⟩ := h
  subst e
  subst hN
  refine ⟨_, pss_one (ps_ost (pe_var (i := 0) rfl (.inl h1) d1 c1) (pe_var (i := 1) rfl (.inl h2) d2 c2)), ?_⟩
  refine ⟨v, rfl, .ref a, rfl, a, C, rfl, T, hno, .inl ⟨ha, fun dx hd hne => ?_⟩⟩
  exact hq dx hd hne
end
/-- raise C(e) -/
def sRaise (c f : Str) (fe : EF) : SF := fun env h => match fe env h with
  | .ok w h1 => .exc c [(f, w)] env h1
  | .exc c fs h1 => .exc c fs env h1
  | .bad => .bad
section
variable {X : Cx} {T : List (Addr × Str)} {Wx : WX} {p pos pos2 : Pos} {e : Expr} {fe : EF}
theorem es_raise {x fld : Str} {C fI : Addr} {k : Nat} {fd : FuncData} {ps : List Str} (tk : Takes X Wx) (calm : X.calm = true) (O : OexC X.K C) (iC : PySem.W.findIn X.K (.ref C) "__init__" = some (some (.ref fI))) (tI : PySem.W.typeIn X.K (.ref fI) = some (.type "function"))
    (F1 : FnOk X.prog X.w X.K X.mg X.base (L2.CX X.prog X.w) k fI fd ps (spXI C fld)) (hr : Room (k + 1) X.A) (hb : Binds X.K fd ps []) (hg : Gl X x) (hm : X.mg x = some (.ref C)) (ha : EE X T Wx e fe)
    (hdb : (x == ("__debug__" : Str)) = false := by decide) (he : starEach [e] X.env = (false, eval e X.env) :: starEach [] X.env := by rfl) (hpl : (backTo pos (starEach ([] : List Expr) X.env)).any (·.1) = false := by rfl) :
    ES X T Wx (.Raise (some (.Call (.Name x p) [e] [] pos)) none pos2) (sRaise x fld fe) := by
  refine PS.imp (ps_raise calm tk (pmk_oex O iC tI F1 hr hb .nil (passes_call tk fun _ _ _ _ z => z.elim) hg hm (ea_cons ha ea_nil he) hdb he hpl)) fun D σ H hq => ?_
  obtain ⟨ρ, h, env, R, re, o⟩ := hq
  refine ⟨ρ, h, env, R, re, ?_⟩
  unfold sRaise at o
  unfold lCons lNil
  cases q : fe env h with
  | bad => rw [q] at o; exact (show False from o).elim
  | exc c fs h1 =>
    rw [q] at o
    exact fun ρ1 H1 cls d x R1 rx => o ρ1 H1 σ cls d x R1 (re.ext x) rx
  | ok w h1 =>
    rw [q] at o
    intro ρ1 H1 vs x1 R1 rs
    cases rs with
    | cons rv rn =>
      cases rn
      rename_i v
      refine ⟨by simp, fun a na => ?_⟩
      refine ⟨a, v, rfl, upd_same, fun dx hd hne => ?_⟩
      have hd' : H1 dx = none := by rwa [upd_ne hne] at hd
      refine ⟨rfl, dx, [(fld, v)], upd_same, by rw [upd_ne hne, upd_same], hd', ?_⟩
      have eH : (upd (del (upd (upd (upd H1 a (exo a C none)) dx (exd dx [(fld, v)])) a (exo a C (some dx))) a) dx (.xd [(fld, v)])) = upd H1 dx (.xd [(fld, v)]) := by
        funext b
        by_cases hb : b = dx
        · subst hb; rw [upd_same, upd_same]
        · rw [upd_ne hb, upd_ne hb]
          by_cases hba : b = a
          · subst hba; rw [del_same, na]
          · rw [del_ne hba, upd_ne hba, upd_ne hb, upd_ne hba]
      rw [eH]
      have ex : Ext ρ1 H1 ρ1 (upd H1 dx (.xd [(fld, v)])) := .fresh hd'
      exact o ρ1 _ σ _ _ (x1.trans ex) (R1.fresh hd') ((re.ext x1).ext ex) (.mk hm (R1.new hd') upd_same (.cons (rv.ext ex) .nil))
end
end PF
set_option Elab.async false
set_option linter.all false
set_option maxRecDepth 100000
set_option maxHeartbeats 1000000
namespace PF
open PySem PySem.Spec PyProof.Rows L2

/-! ### try with several clauses, named or not -/
/-- a clause told: its class, the slot of its name, what its suite asks -/
structure Cl where
  cv : Value
  sl : Option Nat
  ts : Addr → Value → Option Addr → TS
def Cl.ends (c : Cl) (D : Ends) : Ends := match c.sl with
  | none => D
  | some i => ⟨fun σ H => D.nx (σ.set i none) H, fun v H => D.rt v H, fun σ H => D.bk (σ.set i none) H, fun σ H => D.ct (σ.set i none) H⟩
def Cl.slot (c : Cl) (a : Addr) (σ : L2.St) : L2.St := match c.sl with
  | none => σ
  | some i => σ.set i (some (.ref a))
def wCl (K : PySem.W.Frag) (Wo : WX) (D : Ends) : List Cl → WX
  | [] => Wo
  | c :: r => fun cls d σ H => ∃ b : Bool, PySem.W.exmOne K cls c.cv = some b ∧ (b = true → ∀ a, H a = none → c.ts a cls d (c.ends D) (c.slot a σ) H) ∧ (b = false → wCl K Wo D r cls d σ H)
inductive ClsOk (X : Cx) : List ExceptHandler → List Cl → Prop
  | nil : ClsOk X [] []
  | plain {x : Str} {v : Value} {ts : Addr → Value → Option Addr → TS} {st : Stmt} {sts : List Stmt} {p q : Pos} {hs : List ExceptHandler} {l : List Cl} (nm : Names X x v)
      (su : ∀ a oe cls d pn, Zc cls d oe → (∃ vs, oe.data = .fields vs) → PSs (X.suite a ((a, oe) :: pn)) (st :: sts) (ts a cls d)) (r : ClsOk X hs l) :
      ClsOk X (.ExceptHandler (some (.Name x p)) none (st :: sts) q :: hs) (⟨v, none, ts⟩ :: l)
  | named {x n : Str} {i : Nat} {v : Value} {ts : Addr → Value → Option Addr → TS} {st : Stmt} {sts : List Stmt} {p q : Pos} {hs : List ExceptHandler} {l : List Cl} (nm : Names X x v) (hi : X.N[i]? = some n) (hk : X.env.kindOf n = some .local)
      (su : ∀ a oe cls d pn, Zc cls d oe → (∃ vs, oe.data = .fields vs) → PSs (X.suite a ((a, oe) :: pn)) (st :: sts) (ts a cls d)) (r : ClsOk X hs l) :
      ClsOk X (.ExceptHandler (some (.Name x p)) (some n) (st :: sts) q :: hs) (⟨v, some i, ts⟩ :: l)
section
variable {X : Cx} {body : List Stmt} {h0 : ExceptHandler} {hs : List ExceptHandler} {l : List Cl} {pos : Pos} {tb : WX → TS} {Wo : WX}
theorem ps_tryW (st : X.stack = X.env :: X.outer) (fr : X.env.frame = some X.env.locals) (nd : X.N.Nodup) (tk : Takes X Wo)
    (hb : ∀ (Wi : WX) (pn : List (Addr × Obj)) (xe : Value → Shared → Prop), Takes (X.tr pn xe) Wi → PassesOwn (model X.prog X.w) X.A X.env xe → PSs (X.tr pn xe) body (tb Wi))
    (cl : ClsOk X (h0 :: hs) l) : PS X (.Try body (h0 :: hs) [] [] pos) (fun D σ H => tb (wCl X.K Wo D l) D σ H) := by
  constructor
  intro pins s σ H D I hq
  have ok := I.ok
  have frs0 : X.A.frames = some (X.env :: X.outer) := by rw [ok.frames, st]
  apply wpAny_Try_except
  have body_run := hb (wCl X.K Wo D l) (X.pn ++ pins)
    (fun e sa => wpAny (model X.prog X.w) X.A (noteFrame e X.env)
      (fun _ sb => wpAny (model X.prog X.w) X.A (setFlight e none)
        (fun _ sc => wpAny (model X.prog X.w) X.A (handleBy e X.env (h0 :: hs)) (SP X pins D) X.xe sc) X.xe sb) X.xe sa)
  refine wpAny_mono ((body_run ?caught PassesOwn.looking).run [] s σ H D (I.toTry _) hq) ?ended (fun _ _ z => z)
  case ended =>
    intro f s1 hf
    cases f with
    | ret u =>
      obtain ⟨v, σ1, H1, J, rv, k⟩ := hf
      exact ⟨v, σ1, H1, J.ofTry ok, rv, k⟩
    | next =>
      obtain ⟨σ1, H1, J, k⟩ := hf
      exact wpAny_execs_nil ⟨σ1, H1, J.ofTry ok, k⟩
    | brk =>
      obtain ⟨σ1, H1, J, k⟩ := hf
      exact ⟨σ1, H1, J.ofTry ok, k⟩
    | cont =>
      obtain ⟨σ1, H1, J, k⟩ := hf
      exact ⟨σ1, H1, J.ofTry ok, k⟩
  case caught =>
    rintro u s1 ⟨a, B, sI, pn1, σ1, H1, cls, d, rfl, J1, nb, up, sky, na, os, ag, wish⟩
    have J : Inv X pins σ1 H1 sI := J1.ofTry ok
    have sky1 : Sky B (X.env :: X.outer) a (Zc cls d) X.env.locals s1.heap := st ▸ sky
    change wpAny (model X.prog X.w) X.A (noteFrame (.ref a) X.env) _ _ _
    refine Sky.land Zc.steady frs0 fr sky1 fun g3 fly3 upw3 => ?_
    have K3 : Inv X pins σ1 H1 { s1 with heap := g3 } := J.landed nb fly3.1 (up.trans upw3) os ag
    obtain ⟨ob3, vs3, get3, zc3, dat3⟩ := fly3.there
    have nfr : a ∉ frs (X.env :: X.outer) := fun mem => by
      obtain ⟨_, o9, q9, n9⟩ := Heap.FunFrames.mem fly3.2.2.1 mem
      rw [get3] at q9
      exact n9 _ (Option.some.inj q9 ▸ dat3)
    have nloc : a ≠ X.env.locals := fun z => by
      refine nfr (List.mem_filterMap.mpr ⟨X.env, List.mem_cons_self, ?_⟩)
      rw [fr, z]
    have nfs : a ∉ X.fs := fun mem => by
      obtain ⟨e9, m9, q9⟩ := List.mem_filterMap.mp mem
      exact nfr (List.mem_filterMap.mpr ⟨e9, .tail _ m9, q9⟩)
    have S3 := K3.suite get3 dat3 na nloc nfs
    suffices key : ∀ {hs' : List ExceptHandler} {l' : List Cl}, ClsOk X hs' l' → wCl X.K Wo D l' cls d σ1 H1 →
        wpAny (model X.prog X.w) X.A (handleBy (.ref a) X.env hs') (SP X pins D) X.xe { s1 with heap := g3 } from key cl wish
    -- one clause's test
    have typ : PySem.W.Looks (model X.prog X.w) g3 (typeOf (.ref a)) cls := fun A Q E t k q => wpAny_typeOf_ref (k _ _ get3) (zc3.1 ▸ q)
    have tst : ∀ {x : Str} {v : Value} {p : Pos}, Names X x v → ∀ {Q : Value → Shared → Prop} {E : Value → Shared → Prop}, Q v { s1 with heap := g3 } →
        wpAny (model X.prog X.w) (X.A.mark (some (.ref a))) (eval (.Name x p) X.env) Q E { s1 with heap := g3 } := by
      rintro x v p ⟨gl, nd, own | ⟨no, bt, nn⟩⟩ Q E q
      · exact ld_glob (X := X.suite a ((a, ob3) :: (X.pn ++ pins))) S3 gl own q nd
      · exact ld_blt (X := X.suite a ((a, ob3) :: (X.pn ++ pins))) S3 gl no bt q nn nd
    intro hs' l' ck
    induction ck with
    | nil =>
      intro wi
      apply wpAny_handleBy_nil
      obtain ⟨_, _, _, oe, vs, tb1, _, _, g1, _, d1, e1, _⟩ := id fly3
      unfold PySem.passOn
      refine wpAny_bind (wpAny_field g1 d1 e1 ?_)
      have nn : ¬ ((Value.ref tb1 == Value.none) = true) := by simp
      rw [if_neg nn]
      have away : wpAny (model X.prog X.w) X.A (setFlight (.ref a) X.env.frame) (fun _ t => wpAny (model X.prog X.w) X.A (throw (.ref a) : Sem Flow) (SP X pins D) X.xe t) X.xe { s1 with heap := g3 } := by
        rw [fr]
        refine HandSPX.setFlight_upZ fly3 fun g4 held upw4 => wpAny_throw (tk _ _ ?_)
        have sky4 : Sky B X.stack a (Zc cls d) X.env.locals g4 := by
          rw [st]
          exact .inr (.inr held)
        exact ⟨a, B, sI, pins, σ1, H1, cls, d, rfl, J, nb, (up.trans upw3).trans upw4, sky4, na, os, ag, wi⟩
      first
        | exact wpAny_bind away
        | exact wpAny_bind (wpAny_pure (wpAny_bind away))
    | plain nm su r ih =>
      rintro ⟨b, eb, yes, no⟩
      have mt := PySem.W.exm_one (M := model X.prog X.w) K3.kIn typ eb
      refine wpAny_handleBy_cons (codeAny_handlers_test (tst nm (mt.here ?_))) (fun z => nomatch z)
      cases b with
      | false => exact ih (no rfl)
      | true =>
        refine codeAny_handlers_suite (HandSPX.lands_againZ fly3 fun g4 fly4 upw4 => ?_)
        have J4 : Inv X pins σ1 H1 { s1 with heap := g4 } := J.landed nb fly4.1 ((up.trans upw3).trans upw4) os ag
        obtain ⟨ob4, vs4, get4, zc4, dat4⟩ := fly4.there
        refine wpAny_mono ((su a ob4 cls d (X.pn ++ pins) zc4 ⟨_, dat4⟩).run [] _ _ H1 _ (J4.suite get4 dat4 na nloc nfs) (yes rfl a na)) (fun f t ht => ?_) (fun _ _ z => z.elim)
        cases f with
        | ret u =>
          obtain ⟨v6, σ6, H6, S6, r6, k6⟩ := ht
          exact ⟨v6, σ6, H6, S6.unsuite ok, r6, k6⟩
        | next =>
          obtain ⟨σ6, H6, S6, k6⟩ := ht
          exact ⟨σ6, H6, S6.unsuite ok, k6⟩
        | brk =>
          obtain ⟨σ6, H6, S6, k6⟩ := ht
          exact ⟨σ6, H6, S6.unsuite ok, k6⟩
        | cont =>
          obtain ⟨σ6, H6, S6, k6⟩ := ht
          exact ⟨σ6, H6, S6.unsuite ok, k6⟩
    | @named x n i v ts c0 sts p q hs2 l2 nm hi hk su r ih =>
      rintro ⟨b, eb, yes, no⟩
      have mt := PySem.W.exm_one (M := model X.prog X.w) K3.kIn typ eb
      refine wpAny_handleBy_cons (codeAny_handlers_test (tst nm (mt.here ?_))) (fun z => nomatch z)
      cases b with
      | false => exact ih (no rfl)
      | true =>
        refine codeAny_handlers_suite_as (HandSPX.lands_againZ fly3 fun g4 fly4 upw4 => ?_)
        have J4 : Inv X pins σ1 H1 { s1 with heap := g4 } := J.landed nb fly4.1 ((up.trans upw3).trans upw4) os ag
        obtain ⟨ob4, vs4, get4, zc4, dat4⟩ := fly4.there
        refine store_ok (X := X.suite a ((a, ob4) :: (X.pn ++ pins))) (v := .ref a) (J4.suite get4 dat4 na nloc nfs) nd hi (.inl hk) rfl (fun t5 S5 => ?_) (.inr hk)
        refine wpAny_mono ((su a ob4 cls d (X.pn ++ pins) zc4 ⟨_, dat4⟩).run [] t5 _ H1 _ S5 (yes rfl a na)) (fun f t ht => ?_) (fun _ _ z => z.elim)
        have gone : ∀ {σ6 : L2.St} {H6 : Hp} {Z : Shared → Prop}, Inv (X.suite a ((a, ob4) :: (X.pn ++ pins))) [] σ6 H6 t → (∀ t7, Inv X pins (σ6.set i none) H6 t7 → Z t7) →
            wpAny (model X.prog X.w) X.A (do bindName X.env n .none; unbindBehindTheSuite X.env n q) (fun _ t7 => Z t7) X.xe t :=
          fun S6 k => gone_ok (S6.unsuite ok) nd hi hk k
        cases f with
        | ret u =>
          obtain ⟨v6, σ6, H6, S6, r6, k6⟩ := ht
          exact gone S6 fun t7 J7 => ⟨v6, _, H6, J7, r6, k6⟩
        | next =>
          obtain ⟨σ6, H6, S6, k6⟩ := ht
          exact gone S6 fun t7 J7 => ⟨_, H6, J7, k6⟩
        | brk =>
          obtain ⟨σ6, H6, S6, k6⟩ := ht
          exact gone S6 fun t7 J7 => ⟨_, H6, J7, k6⟩
        | cont =>
          obtain ⟨σ6, H6, S6, k6⟩ := ht
          exact gone S6 fun t7 J7 => ⟨_, H6, J7, k6⟩
end
end PF
set_option Elab.async false
set_option linter.all false
set_option maxRecDepth 100000
set_option maxHeartbeats 1000000
namespace PF
open PySem PySem.Spec PyProof.Rows L2

/-! ### something more is known of the state -/
abbrev Gh := L2.St → Rh → Hp → Prop
def Up (G : Gh) : Prop := ∀ σ ρ H ρ' H', G σ ρ H → Ext ρ H ρ' H' → G σ ρ' H'
def tEG (Γ : Cn) (Wx : WX) (G : Gh) (f : EF) : TE := fun σ H Q => ∃ (ρ : Rh) (h : AH) (env : Env), Rep Γ ρ h H ∧ REnv Γ ρ H env σ ∧ G σ ρ H ∧ Out Γ ρ H (f env h) Q (fun cls d H' => Wx cls d σ H')
def tAG (Γ : Cn) (Wx : WX) (G : Gh) (f : LF) : TA := fun σ H Q => ∃ (ρ : Rh) (h : AH) (env : Env), Rep Γ ρ h H ∧ REnv Γ ρ H env σ ∧ G σ ρ H ∧ OutL Γ ρ H (f env h) Q (fun cls d H' => Wx cls d σ H')
def tSG (Γ : Cn) (Wx : WX) (G : Gh) (f : SF) : TS := fun D σ H => ∃ (ρ : Rh) (h : AH) (env : Env), Rep Γ ρ h H ∧ REnv Γ ρ H env σ ∧ G σ ρ H ∧ OutS Γ ρ H (f env h) D Wx
abbrev GE (X : Cx) (T : List (Addr × Str)) (Wx : WX) (G : Gh) (e : Expr) (f : EF) : Prop := PE X e (tEG (Cx.cn X T) Wx G f)
abbrev GA (X : Cx) (T : List (Addr × Str)) (Wx : WX) (G : Gh) (e : List Expr) (f : LF) : Prop := PA X e (tAG (Cx.cn X T) Wx G f)
abbrev GSs (X : Cx) (T : List (Addr × Str)) (Wx : WX) (G : Gh) (e : List Stmt) (f : SF) : Prop := PSs X e (tSG (Cx.cn X T) Wx G f)
section
variable {X : Cx} {T : List (Addr × Str)} {Wx : WX} {G : Gh} {pos : Pos} {a e : Expr} {es : List Expr} {fa : EF} {fl : LF}
theorem ge_of (h : EE X T Wx e fa) : GE X T Wx G e fa := PE.imp h fun σ H Q hq => by
  obtain ⟨ρ, h, env, R, re, _, o⟩ := hq
  exact ⟨ρ, h, env, R, re, o⟩
theorem ga_nil : GA X T Wx G [] lNil := PA.imp ea_nil fun σ H Q hq => by
  obtain ⟨ρ, h, env, R, re, _, o⟩ := hq
  exact (show tA (Cx.cn X T) Wx lNil σ H Q from ⟨ρ, h, env, R, re, o⟩)
theorem ga_cons (up : Up G) (ha : GE X T Wx G a fa) (hr : GA X T Wx G es fl) (hs : starEach (a :: es) X.env = (false, eval a X.env) :: starEach es X.env := by rfl) : GA X T Wx G (a :: es) (lCons fa fl) := by
  refine PA.imp (pa_cons ha hr hs) fun σ H Q hq => ?_
  obtain ⟨ρ, h, env, R, re, g, o⟩ := hq
  refine ⟨ρ, h, env, R, re, g, o.bind.imp fun v1 H1 hq1 => ?_⟩
  obtain ⟨ρ1, h1, w1, e1, R1, rv1, o1⟩ := hq1
  refine ⟨ρ1, h1, env, R1, re.ext e1, up _ _ _ _ _ g e1, o1.bindL.imp fun v2 H2 hq2 => ?_⟩
  obtain ⟨ρ2, h2, w2, e2, R2, rv2, o2⟩ := hq2
  exact o2 ρ2 H2 _ .refl R2 (.cons (rv1.ext e2) rv2)
theorem ge_tup {x1} (hl : GA X T Wx G es fl) : GE X T Wx G (.Tuple es x1 pos) (fTup fl) := by
  refine PE.imp (pe_tup hl) fun σ H Q hq => ?_
  obtain ⟨ρ, h, env, R, re, g, o⟩ := hq
  refine ⟨ρ, h, env, R, re, g, o.bindL.imp fun v1 H1 hq1 => ?_⟩
  obtain ⟨ρ1, h1, w1, e1, R1, rv1, o1⟩ := hq1
  by_cases hz : w1.length ≤ sizeLine
  · rw [if_pos hz] at o1
    exact ⟨by rw [← rv1.length]; exact hz, fun p hp => o1 ρ1 _ _ (.fresh hp) (R1.fresh hp) (.tup (R1.new hp) upd_same (rv1.ext (.fresh hp)))⟩
  · rw [if_neg hz] at o1; exact o1.elim
theorem ge_lst (hl : GA X T Wx G es fl) : GE X T Wx G (.List es pos) (fLst fl) := by
  refine PE.imp (pe_lst hl) fun σ H Q hq => ?_
  obtain ⟨ρ, h, env, R, re, g, o⟩ := hq
  refine ⟨ρ, h, env, R, re, g, o.bindL.imp fun v1 H1 hq1 => ?_⟩
  obtain ⟨ρ1, h1, w1, e1, R1, rv1, o1⟩ := hq1
  by_cases hz : w1.length ≤ sizeLine
  · rw [if_pos hz] at o1
    exact ⟨by rw [← rv1.length]; exact hz, fun p hp => o1 ρ1 _ _ (.fresh hp) (R1.fresh hp) (.lst (R1.new hp) upd_same (rv1.ext (.fresh hp)))⟩
  · rw [if_neg hz] at o1; exact o1.elim
theorem gs_of {sts : List Stmt} {f : SF} (h : ESs X T Wx sts f) : GSs X T Wx G sts f := PSs.imp h fun D σ H hq => by
  obtain ⟨ρ, h, env, R, re, _, o⟩ := hq
  exact ⟨ρ, h, env, R, re, o⟩
theorem gs_ret (he : GE X T Wx G e fa) : GSs X T Wx G [.Return (some e) pos] (sRet fa) := PSs.imp (pss_one (ps_ret he)) fun D σ H hq => by
  obtain ⟨ρ, h, env, R, re, g, o⟩ := hq
  refine ⟨ρ, h, env, R, re, g, (OutS.bindE re o).imp fun v H1 hq1 => ?_⟩
  obtain ⟨ρ1, h1, w1, e1, R1, rv1, o1⟩ := hq1
  exact o1 ρ1 H1 v .refl R1 rv1
end

/-! ### the exception that is being handled -/
theorem RExc.ext {Γ : Cn} {ρ ρ' : Rh} {H H' : Hp} {c : Str} {fs : List (Str × W)} {cls : Value} {d : Option Addr} (e : Ext ρ H ρ' H') (r : RExc Γ ρ H c fs cls d) : RExc Γ ρ' H' c fs cls d := by
  cases r with
  | mk g np h r => exact .mk g (e.notin h (fun _ z => by cases z) np) (e.keep _ _ h (fun z => np (.inl z)) (fun _ z => by cases z)) (r.ext e)
/-- the clause's name in slot i: the exception of class c with the fields fs -/
def GX (Γ : Cn) (i : Nat) (a : Addr) (c : Str) (fs : List (Str × W)) (cls : Value) (d : Option Addr) : Gh := fun σ ρ H => σ[i]? = some (some (.ref a)) ∧ RExc Γ ρ H c fs cls d
theorem GX.up {Γ : Cn} {i : Nat} {a : Addr} {c : Str} {fs : List (Str × W)} {cls : Value} {d : Option Addr} : Up (GX Γ i a c fs cls d) := fun _ _ _ _ _ g e => ⟨g.1, g.2.ext e⟩
section
variable {X : Cx} {T : List (Addr × Str)} {Wx : WX}
theorem ge_field {i : Nat} {n f c : Str} {a : Addr} {oe : Obj} {cls : Value} {d : Option Addr} {pn : List (Addr × Obj)} {fs : List (Str × W)} {w : W} {p1 p2 : Pos} (hz : Zc cls d oe) (hf : ∃ vs, oe.data = .fields vs) (hi : X.N[i]? = some n) (hv : Vis X.env.scope n)
    (hc : ∀ C, X.mg c = some (.ref C) → XfC X.K C ∧ PySem.W.findIn X.K (.ref C) f = some none) (hw : fs.lookup f = some w) (hd : (n == ("__debug__" : Str)) = false := by decide) (hcd : (n == ("__classdict__" : Str)) = false := by decide)
    (hb : attributeBase (.Name n p1) f X.env (eval (.Name n p1) X.env) = eval (.Name n p1) X.env := by rfl) :
    GE (X.suite a ((a, oe) :: pn)) T Wx (GX (Cx.cn X T) i a c fs cls d) (.Attribute (.Name n p1) f p2) (fC w) := by
  refine ⟨fun pins s σ H Q I hq => ?_⟩
  obtain ⟨ρ, h, env, R, re, ⟨h1, rx⟩, o⟩ := hq
  have rx' := id rx
  cases rx with
  | @mk C dp vfs g np hx r =>
    obtain ⟨T1, hno⟩ := hc C g
    refine (pe_xf (X := X) (te := fun σ H Q => ∃ v, σ[i]? = some (some v) ∧ Q v H) T1 hno hz hf (pe_var (X := X.suite a ((a, oe) :: pn)) hi hv hd hcd) hb).run pins s σ H Q I ?_
    obtain ⟨v, l, rv⟩ := r.lookup hw
    exact ⟨.ref a, h1, rfl, rfl, dp, vfs, v, rfl, hx, l, o ρ H v .refl R rv⟩
end

/-! ### the clauses -/
/-- a clause: which classes it takes, its name's slot, its suite -/
structure XC where
  p : Str → Option Bool
  sl : Option Nat
  f : Str → List (Str × W) → SF
def unS (sl : Option Nat) (r : SRes) : SRes := match sl with
  | none => match r with
    | .exc _ _ _ _ => .bad
    | r => r
  | some i => match r with
    | .nx env h => .nx (env.set i none) h
    | .bk env h => .bk (env.set i none) h
    | .ct env h => .ct (env.set i none) h
    | .rt w h => .rt w h
    | _ => .bad
def XC.run (x : XC) (c : Str) (fs : List (Str × W)) (env : Env) (h : AH) : SRes := match x.sl with
  | none => unS none (x.f c fs env h)
  | some i => if i < env.length then unS (some i) (x.f c fs (env.set i none) h) else .bad
def pick (fin : Str → List (Str × W) → SF) : List XC → Str → List (Str × W) → SF
  | [], c, fs => fin c fs
  | x :: r, c, fs => fun env h => match x.p c with
    | some true => x.run c fs env h
    | some false => pick fin r c fs env h
    | none => .bad
def xcNo : Str → List (Str × W) → SF := fun _ _ _ _ => .bad
def xcOn : Str → List (Str × W) → SF := fun c fs env h => .exc c fs env h
/-- what a clause's class takes -/
def Tk (X : Cx) (v : Value) (p : Str → Option Bool) : Prop := ∀ c b C, p c = some b → X.mg c = some (.ref C) → PySem.W.exmOne X.K (.ref C) v = some b
inductive XcOk (X : Cx) (T : List (Addr × Str)) : List ExceptHandler → List XC → Prop
  | nil : XcOk X T [] []
  | plain {x : Str} {v : Value} {pk : Str → Option Bool} {fc : Str → List (Str × W) → SF} {st : Stmt} {sts : List Stmt} {p q : Pos} {hs : List ExceptHandler} {l : List XC} (nm : Names X x v) (tk : Tk X v pk)
      (su : ∀ a oe cls d pn c fs, Zc cls d oe → (∃ vs, oe.data = .fields vs) → pk c = some true → ESs (X.suite a ((a, oe) :: pn)) T WNo (st :: sts) (fc c fs)) (r : XcOk X T hs l) :
      XcOk X T (.ExceptHandler (some (.Name x p)) none (st :: sts) q :: hs) (⟨pk, none, fc⟩ :: l)
  | named {x n : Str} {i : Nat} {v : Value} {pk : Str → Option Bool} {fc : Str → List (Str × W) → SF} {st : Stmt} {sts : List Stmt} {p q : Pos} {hs : List ExceptHandler} {l : List XC} (nm : Names X x v) (tk : Tk X v pk) (hi : X.N[i]? = some n) (hk : X.env.kindOf n = some .local)
      (su : ∀ a oe cls d pn c fs, Zc cls d oe → (∃ vs, oe.data = .fields vs) → pk c = some true → GSs (X.suite a ((a, oe) :: pn)) T WNo (GX (Cx.cn X T) i a c fs cls d) (st :: sts) (fc c fs)) (r : XcOk X T hs l) :
      XcOk X T (.ExceptHandler (some (.Name x p)) (some n) (st :: sts) q :: hs) (⟨pk, some i, fc⟩ :: l)
theorem REnv.put {Γ : Cn} {ρ : Rh} {H : Hp} {env : Env} {σ : L2.St} (r : REnv Γ ρ H env σ) (i : Nat) (v : Option V) : REnv Γ ρ H (env.set i none) (σ.set i v) := by
  refine ⟨by simp [r.1], fun j w' e => ?_⟩
  by_cases hj : i = j
  · subst hj
    by_cases hl : i < env.length
    · rw [List.getElem?_set_self hl] at e; cases e
    · rw [List.getElem?_eq_none (by simpa using hl)] at e; cases e
  · rw [List.getElem?_set_ne hj] at e ⊢
    exact r.2 j w' e
theorem clauses {X : Cx} {T : List (Addr × Str)} {hs : List ExceptHandler} {l : List XC} (ok : XcOk X T hs l) : ∃ l', ClsOk X hs l' ∧
    ∀ (fin : Str → List (Str × W) → SF) (Wo W' : WX) (D : Ends) (cls : Value) (d : Option Addr) (σ : L2.St) (H : Hp) (ρ : Rh) (h : AH) (env : Env) (c : Str) (fs : List (Str × W)), Rep (Cx.cn X T) ρ h H → RExc (Cx.cn X T) ρ H c fs cls d → env.length = X.N.length →
      (σ.length = X.N.length → REnv (Cx.cn X T) ρ H env σ) → OutS (Cx.cn X T) ρ H (pick fin l c fs env h) D W' → (OutS (Cx.cn X T) ρ H (fin c fs env h) D W' → Wo cls d σ H) → wCl X.K Wo D l' cls d σ H := by
  induction ok with
  | nil => exact ⟨[], .nil, fun fin Wo W' D cls d σ H ρ h env c fs R rx hl re o k => k o⟩
  | @plain x v pk fc st sts p q hs l nm tk su r ih =>
    obtain ⟨l', ck, ih⟩ := ih
    refine ⟨⟨v, none, fun a cls d => fun D σ H => ∃ c fs, pk c = some true ∧ (σ.length = X.N.length → tS (Cx.cn X T) WNo (fc c fs) D σ H)⟩ :: l', .plain nm (fun a oe cls d pn hz hf => ⟨fun pins s σ H D I hq => ?_⟩) ck, fun fin Wo W' D cls d σ H ρ h env c fs R rx hl re o k => ?_⟩
    · obtain ⟨c, fs, hp, h⟩ := hq
      exact (su a oe cls d pn c fs hz hf hp).run pins s σ H D I (h I.len)
    · have o' : OutS (Cx.cn X T) ρ H (match pk c with
        | some true => XC.run ⟨pk, none, fc⟩ c fs env h
        | some false => pick fin l c fs env h
        | none => .bad) D W' := o
      cases q : pk c with
      | none => rw [q] at o'; exact (show False from o').elim
      | some b =>
        have ex : PySem.W.exmOne X.K cls v = some b := by
          cases rx with
          | mk g np hx r => exact tk c b _ q g
        rw [q] at o'
        refine ⟨b, ex, fun hb a na => ?_, fun hb => ?_⟩
        · subst hb
          refine ⟨c, fs, q, fun hs => ⟨ρ, h, env, R, re hs, ?_⟩⟩
          have o2 : OutS (Cx.cn X T) ρ H (unS none (fc c fs env h)) D W' := o'
          show OutS (Cx.cn X T) ρ H (fc c fs env h) D WNo
          cases z : fc c fs env h <;> rw [z] at o2 <;> first | exact (show False from o2).elim | exact o2
        · subst hb
          exact ih fin Wo W' D cls d σ H ρ h env c fs R rx hl re o' k
  | @named x n i v pk fc st sts p q hs l nm tk hi hk su r ih =>
    obtain ⟨l', ck, ih⟩ := ih
    refine ⟨⟨v, some i, fun a cls d => fun D σ H => ∃ c fs, pk c = some true ∧ (σ.length = X.N.length → tSG (Cx.cn X T) WNo (GX (Cx.cn X T) i a c fs cls d) (fc c fs) D σ H)⟩ :: l', .named nm hi hk (fun a oe cls d pn hz hf => ⟨fun pins s σ H D I hq => ?_⟩) ck, fun fin Wo W' D cls d σ H ρ h env c fs R rx hl re o k => ?_⟩
    · obtain ⟨c, fs, hp, h⟩ := hq
      exact (su a oe cls d pn c fs hz hf hp).run pins s σ H D I (h I.len)
    · have o' : OutS (Cx.cn X T) ρ H (match pk c with
        | some true => XC.run ⟨pk, some i, fc⟩ c fs env h
        | some false => pick fin l c fs env h
        | none => .bad) D W' := o
      cases q : pk c with
      | none => rw [q] at o'; exact (show False from o').elim
      | some b =>
        have ex : PySem.W.exmOne X.K cls v = some b := by
          cases rx with
          | mk g np hx r => exact tk c b _ q g
        rw [q] at o'
        refine ⟨b, ex, fun hb a na => ?_, fun hb => ?_⟩
        · subst hb
          refine ⟨c, fs, q, fun hs => ?_⟩
          have hs' : σ.length = X.N.length := by
            have : (σ.set i (some (.ref a))).length = X.N.length := hs
            simpa using this
          have re1 := re hs'
          have o2 : OutS (Cx.cn X T) ρ H (if i < env.length then unS (some i) (fc c fs (env.set i none) h) else .bad) D W' := o'
          by_cases hi2 : i < env.length
          · rw [if_pos hi2] at o2
            refine ⟨ρ, h, env.set i none, R, re1.put i _, ⟨?_, rx⟩, ?_⟩
            · show (σ.set i (some (.ref a)))[i]? = _
              rw [List.getElem?_set_self (by rw [← re1.1]; exact hi2)]
            · show OutS (Cx.cn X T) ρ H (fc c fs (env.set i none) h) ⟨fun σ H => D.nx (σ.set i none) H, fun v H => D.rt v H, fun σ H => D.bk (σ.set i none) H, fun σ H => D.ct (σ.set i none) H⟩ WNo
              cases z : fc c fs (env.set i none) h <;> rw [z] at o2 <;> first
                | exact (show False from o2).elim
                | exact o2
                | exact fun ρ' H' σ' x R' re' => o2 ρ' H' _ x R' (re'.unset i)
          · rw [if_neg hi2] at o2; exact (show False from o2).elim
        · subst hb
          exact ih fin Wo W' D cls d σ H ρ h env c fs R rx hl re o' k

/-- try: body / except .. -/
def sTry (fb : SF) (l : List XC) : SF := fun env h => match fb env h with
  | .exc c fs env1 h1 => if env1.length = env.length then pick xcOn l c fs env1 h1 else .bad
  | r => r
section
variable {X : Cx} {T : List (Addr × Str)} {Wx : WX} {body : List Stmt} {h0 : ExceptHandler} {hs : List ExceptHandler} {l : List XC} {pos : Pos} {fb : SF}
theorem es_try (st : X.stack = X.env :: X.outer) (fr : X.env.frame = some X.env.locals) (nd : X.N.Nodup) (tk : Takes X Wx)
    (hb : ∀ (Wi : WX) (pn : List (Addr × Obj)) (xe : Value → Shared → Prop), Takes (X.tr pn xe) Wi → PassesOwn (model X.prog X.w) X.A X.env xe → ESs (X.tr pn xe) T Wi body fb)
    (cl : XcOk X T (h0 :: hs) l) : ES X T Wx (.Try body (h0 :: hs) [] [] pos) (sTry fb l) := by
  obtain ⟨l', ck, cw⟩ := clauses cl
  refine ⟨fun pins s σ H D I hq => (ps_tryW (tb := fun Wi => tS (Cx.cn X T) Wi fb) st fr nd tk hb ck).run pins s σ H D I ?_⟩
  obtain ⟨ρ, h, env, R, re, o⟩ := hq
  refine ⟨ρ, h, env, R, re, ?_⟩
  unfold sTry at o
  cases z : fb env h <;> rw [z] at o <;> first | exact o | skip
  rename_i c fs env1 h1
  have o2 : OutS (Cx.cn X T) ρ H (if env1.length = env.length then pick xcOn l c fs env1 h1 else .bad) D Wx := o
  by_cases hl : env1.length = env.length
  · rw [if_pos hl] at o2
    intro ρ' H' σ' cls d x R' re' rx
    refine cw xcOn Wx Wx D cls d σ' H' ρ' h1 env1 c fs R' rx (by rw [hl, re.1, I.len]) (fun _ => re') (OutS.from x o2) fun o3 => ?_
    exact o3 ρ' H' σ' cls d .refl R' re' rx
  · rw [if_neg hl] at o2; exact (show False from o2).elim
end

/-! ### x(lambda: e), where x tries what it got -/
def env0 (N : Nat) : Env := List.replicate N none
def metF (N : Nat) (fe : M W → EF) (l : List XC) (m : M W) : M W := fun h => match fe m (env0 N) h with
  | .ok w h1 => .ok w h1
  | .exc c fs h1 => endS (pick xcNo l c fs (env0 N) h1)
  | .bad => .bad
def fMet (mf : M W → M W) (fb : EF) : EF := fun env h => match mf (fun h' => fb env h') h with
  | .ok w h1 => .ok w h1
  | _ => .bad
/-- what is known within x: slot 0 is the lambda -/
def GAsk (Γ : Cn) (f c' : Addr) (q : Str) (m : M W) (tl : XK → Hp → VK → Prop) : Gh := fun σ ρ H => σ[0]? = some (some (.ref f)) ∧ H c' = some (LamX.CodeO c' q) ∧ c' ∉ ρ.tr ∧
  ∀ (E : XK) (Q : VK) (ρ' : Rh) (h' : AH) (H' : Hp), Ext ρ H ρ' H' → Rep Γ ρ' h' H' → Out Γ ρ' H' (m h') Q E → tl E H' Q
theorem code_nt {c' : Addr} {q : Str} : NT (LamX.CodeO c' q) := fun ps => LamX.codeO_ne ps
theorem GAsk.up {Γ : Cn} {f c' : Addr} {q : Str} {m : M W} {tl : XK → Hp → VK → Prop} : Up (GAsk Γ f c' q m tl) := fun σ ρ H ρ' H' g e =>
  ⟨g.1, e.keep _ _ g.2.1 g.2.2.1 code_nt, e.notinT g.2.1 code_nt g.2.2.1, fun E Q ρ2 h2 H2 x R o => g.2.2.2 E Q ρ2 h2 H2 (e.trans x) R o⟩
def TM (Γ : Cn) (mf : M W → M W) : (XK → Hp → VK → Prop) → Hp → VK → Prop := fun tl H Q => ∃ (ρ : Rh) (h : AH) (m : M W), Rep Γ ρ h H ∧
  (∀ (E : XK) (Q : VK) (ρ' : Rh) (h' : AH) (H' : Hp), Ext ρ H ρ' H' → Rep Γ ρ' h' H' → Out Γ ρ' H' (m h') Q E → tl E H' Q) ∧ Out Γ ρ H (mf m h) Q (fun _ _ _ => False)
theorem Rep.extN {Γ : Cn} {ρ : Rh} {h : AH} {H H1 : Hp} (R : Rep Γ ρ h H) (e : LamX.ExtN H H1) (t : LamX.Tabs Γ.T H1) : Ext ρ H ρ H1 ∧ Rep Γ ρ h H1 := by
  have x : Ext ρ H ρ H1 := ⟨⟨[], by simp, by simp⟩, ⟨[], by simp, by simp⟩, fun p o h1 _ n => e p o h1 n, fun p o h1 n => ⟨o, e p o h1 n, n⟩⟩
  refine ⟨x, R.nd, R.len, fun n o p e1 e2 => ?_, fun p hp => ?_, t⟩
  · obtain ⟨u, a, b⟩ := R.obj n o p e1 e2
    exact ⟨u, e p u a b.notbl, b.ext x⟩
  · obtain ⟨n1, o, h1, nt⟩ := R.dj p hp
    exact ⟨n1, o, e p o h1 nt, nt⟩
abbrev metCx (X : Cx) (Ng : List Str) (x : Str) (sg : Scope) (g : Addr) (cdg : Value) (s : Shared) (H : Hp) : Cx := (cxOf C8.CX0 X.prog X.w X.K X.mg X.base Ng x sg g cdg X.A X.stack s H C8.E0).nox
section
variable {X : Cx} {T : List (Addr × Str)} {Wx : WX}
theorem met_gives {Ng : List Str} {x a q : Str} {sg : Scope} {g : Addr} {cdg : Value} {e : Expr} {fe : M W → EF} {h0 : ExceptHandler} {hs : List ExceptHandler} {l : List XC} {p3 p8 : Pos} (nd : Ng.Nodup) (hN : Ng[0]? = some a)
    (hb : ∀ (s : Shared) (H : Hp) (f c' : Addr) (m : M W) (tl : XK → Hp → VK → Prop) (E : XK) (pn : List (Addr × Obj)) (xe : Value → Shared → Prop), Takes ((metCx X Ng x sg g cdg s H).tr pn xe) (WxE E) →
      (∀ p1 p2, GE ((metCx X Ng x sg g cdg s H).tr pn xe) T (WxE E) (GAsk (Cx.cn X T) f c' q m tl) (.Call (.Name a p1) [] [] p2) (fun env h => m h)) → GE ((metCx X Ng x sg g cdg s H).tr pn xe) T (WxE E) (GAsk (Cx.cn X T) f c' q m tl) e (fe m))
    (cl : ∀ s H, XcOk (metCx X Ng x sg g cdg s H) T (h0 :: hs) l) :
    LamX.GivesTo X Ng x sg g cdg [.Try [.Return (some e) p3] (h0 :: hs) [] [] p8] a q (TM (Cx.cn X T) (metF Ng.length fe l)) := by
  intro f c' s H Q tl act hc hq
  obtain ⟨ρ, h, m, R, hm, o⟩ := hq
  obtain ⟨l', ck, cw⟩ := clauses (cl s H)
  have nc : c' ∉ ρ.tr := fun mem => by
    obtain ⟨_, _, u, _, _, e1, r⟩ := R.mem mem
    rw [hc] at e1
    exact r.noext _ (Option.some.inj e1).symm
  refine ⟨_, pss_one (ps_tryW (X := metCx X Ng x sg g cdg s H) (Wo := fun _ _ _ _ => False) (tb := fun Wi D σ H' => ∃ E : XK, (∀ cls d σ' H', E cls d H' → Wi cls d σ' H') ∧ tSG (Cx.cn X T) (WxE E) (GAsk (Cx.cn X T) f c' q m tl) (sRet (fe m)) D σ H')
    rfl rfl nd takes0 (fun Wi pn xe tk _ => ⟨fun pins s' σ H' D I h' => ?_⟩) ck), ?_⟩
  · obtain ⟨E, hE, h'⟩ := h'
    have tkE : Takes ((metCx X Ng x sg g cdg s H).tr pn xe) (WxE E) := tk.imp fun cls d σ H w => hE cls d σ H w
    refine (gs_ret (hb s H f c' m tl E pn xe tkE fun p1 p2 => ?_)).run pins s' σ H' D I h'
    refine PE.imp (act (WxE E) pn xe E p1 p2 tkE fun _ _ _ _ z => z) fun σ1 H1 Q1 hq1 => ?_
    obtain ⟨ρ1, h1, env1, R1, re1, ⟨g1, g2, g3, g4⟩, o1⟩ := hq1
    exact ⟨g1, g2, g4 E Q1 ρ1 h1 H1 .refl R1 o1⟩
  · have hn : 0 < Ng.length := (List.getElem?_eq_some_iff.mp hN).1
    let D : Ends := { nx := fun _ H' => Q .non H', rt := Q }
    let E : XK := fun cls d H' => ∃ ρ' h' c fs, Rep (Cx.cn X T) ρ' h' H' ∧ RExc (Cx.cn X T) ρ' H' c fs cls d ∧ OutS (Cx.cn X T) ρ' H' (pick xcNo l c fs (env0 Ng.length) h') D WNo
    have lenS : (L2.start Ng [V.ref f]).length = Ng.length := by simp [L2.start]; omega
    have reS : ∀ {ρ' : Rh} {H' : Hp} {σ' : L2.St}, σ'.length = Ng.length → REnv (Cx.cn X T) ρ' H' (env0 Ng.length) σ' := fun {ρ' H' σ'} hl => by
      refine ⟨by simp [env0, hl], fun i w z => ?_⟩
      unfold env0 at z
      rw [List.getElem?_replicate] at z
      split at z <;> cases z
    refine ⟨E, fun cls d σ' H' hE => ?_, ρ, h, env0 Ng.length, R, reS lenS, ⟨by simp [L2.start], hc, nc, hm⟩, ?_⟩
    · obtain ⟨ρ', h', c, fs, R', rx, o'⟩ := hE
      exact cw xcNo _ WNo D cls d σ' H' ρ' h' (env0 Ng.length) c fs R' rx (by simp [env0]; rfl) (fun hl => reS hl) o' fun z => (show False from z).elim
    · show OutS (Cx.cn X T) ρ H (bindS (fe m (env0 Ng.length) h) (env0 Ng.length) fun w h1 => .rt w h1) D (WxE E)
      unfold metF at o
      cases z : fe m (env0 Ng.length) h with
      | bad => rw [z] at o; exact (show False from o).elim
      | ok w h1 => rw [z] at o; exact o
      | exc c fs h1 =>
        rw [z] at o
        have o' : Out (Cx.cn X T) ρ H (endS (pick xcNo l c fs (env0 Ng.length) h1)) Q (fun _ _ _ => False) := o
        refine fun ρ' H' σ' cls d x R' re' rx => ⟨ρ', h1, c, fs, R', rx, ?_⟩
        cases z2 : pick xcNo l c fs (env0 Ng.length) h1 with
        | bad => rw [z2] at o'; exact (show False from o').elim
        | bk _ _ => rw [z2] at o'; exact (show False from o').elim
        | ct _ _ => rw [z2] at o'; exact (show False from o').elim
        | nx _ _ =>
          rw [z2] at o'
          exact fun ρ2 H2 σ2 x2 R2 _ => o' ρ2 H2 .non (x.trans x2) R2 .non
        | rt w h2 =>
          rw [z2] at o'
          exact fun ρ2 H2 v x2 R2 rv => o' ρ2 H2 v (x.trans x2) R2 rv
        | exc c2 fs2 _ h2 =>
          rw [z2] at o'
          exact fun ρ2 H2 σ2 cls2 d2 x2 R2 _ rx2 => o' ρ2 H2 cls2 d2 (x.trans x2) R2 rx2
theorem ee_met {x a : Str} {g c P : Addr} {k : Nat} {pg : Arguments} {bg : List Stmt} {sg : Scope} {dV kV doc pm cdv ct oc : Value} {an od : Option Addr} {osl : Array (Option Value)} {Ng : List Str}
    {params : Arguments} {body : Expr} {scope : Scope} {mf : M W → M W} {fb : EF} {p lpos pos : Pos} (hg : Gl X x) (hm : X.mg x = some (.ref g)) (hk : PySem.W.keepIn X.K (.ref g) = true)
    (lk : X.K.lookup g = some ⟨oc, od, .func (PySem.W.fnOf x x pg bg sg dV kV doc pm an cdv ct), osl⟩) (hcg : PySem.W.codeIn X.K cdv x = true) (hb : L2.Binds X.K (PySem.W.fnOf x x pg bg sg dV kV doc pm an cdv ct) [a] []) (Sg : FnScope Ng [a] sg) (hNg : Ng[0]? = some a) (hva : Vis sg a)
    (hG : LamX.GivesTo X Ng x sg g cdv bg a (X.env.qual ++ "<lambda>") (TM (Cx.cn X T) mf))
    (TB : LamX.TabB X.base X.mg c P) (hcode : X.env.code = .ref c) (hmT : (P, X.env.qual ++ "<lambda>") ∈ T) (hu : ∀ p ∈ T, p.1 = P → p.2 = X.env.qual ++ "<lambda>") (hr : Room (k + 2) X.A) (L : LamX.LamS X.env.scope scope) (hdef : defaultsOf params X.env = ([], []))
    (hbind : ∀ (q : Str) (cl : List (Str × Addr)) (pm cv ctv : Value), bindArgs (PySem.W.kla_fn "<lambda>" q params body scope cl pm cv ctv) ⟨[], []⟩ = pure [])
    (hbody : ∀ (A : Around) (outer : List PySem.Env) (s : Shared) (H : Hp) (E : XK) (f c' : Addr), Room k (A.deeper (LamX.lamEnv X scope s.heap.objs.size f c')) → EE (LamX.lamCx X A outer s H E scope f c') T (WxE E) body fb)
    (hdb : (x == ("__debug__" : Str)) = false := by decide) (hd : (a == ("__debug__" : Str)) = false := by decide) (hcd : (a == ("__classdict__" : Str)) = false := by decide) :
    EE X T Wx (.Call (.Name x p) [.Lambda params body scope lpos] [] pos) (fMet mf fb) := by
  refine PE.imp (LamX.pe_lamcall (T := T) (t := fun E => tE (Cx.cn X T) (WxE E) fb) hg hm hk lk hcg hb Sg hNg hva hG TB hcode hmT hu hr L hdef hbind hbody hdb hd hcd) fun σ H Q hq => ?_
  obtain ⟨ρ, h, env, R, re, o⟩ := hq
  refine ⟨R.tabs, fun H1 eN T1 => ?_⟩
  obtain ⟨x1, R1⟩ := R.extN eN T1
  refine ⟨ρ, h, fun h' => fb env h', R1, fun E Q' ρ' h' H' x R' o' => ⟨ρ', h', env, R', re.ext (x1.trans x), o'⟩, ?_⟩
  have o1 := Out.from x1 o
  unfold fMet at o1
  cases z : mf (fun h' => fb env h') h with
  | ok w h1 => rw [z] at o1; exact o1
  | exc c fs h1 => rw [z] at o1; exact (show False from o1).elim
  | bad => rw [z] at o1; exact (show False from o1).elim
end
end PF
set_option Elab.async false
set_option linter.all false
set_option maxRecDepth 100000
set_option maxHeartbeats 1000000
namespace PF
open PySem PySem.Spec PyProof.Rows L2

/-! ### enumerate(tuple) -/
theorem meets_enumT (a : Addr) (items : Array Value) :
    Meets (Builtin.«enumerate.__new__» ⟨[.type "enumerate", .ref a], []⟩) (fun _ R s => s.heap.IsTuple a items ∧
      R (.ok (.ret (.ref (s.heap.push { cls := .type "tuple_iterator", data := .fields #[.ref a, .int 0 0] }).objs.size)))
        { s with heap := (s.heap.push { cls := .type "tuple_iterator", data := .fields #[.ref a, .int 0 0] }).push { cls := .type "enumerate", data := .fields #[.none, .bool false, .ref s.heap.objs.size, rawInt 0, .none, .none] } }) :=
  .of_wp fun prog w A R s h => by
    obtain ⟨hp, g, d, tk, os⟩ := s
    obtain ⟨ht, hr⟩ := h
    have sub := sub_enumerate
    have it1 : ∀ {B : Around} {E : Value → Shared → Prop} {Q : Value → Shared → Prop}, Q (.ref hp.objs.size) ⟨hp.push { cls := .type "tuple_iterator", data := .fields #[.ref a, .int 0 0] }, g, d, tk, os⟩ → wpAny (model prog w) B (pyIter (.ref a)) Q E ⟨hp, g, d, tk, os⟩ :=
      fun q => (begins_tuple a items).iter prog w _ _ ⟨hp, g, d, tk, os⟩ _ ht q
    wp_walk using it1
    refine wpAny_stack_any fun st => wpAny_pure ?_
    split
    · rename_i c _ _ _ _ _
      cases (c == Value.type "enumerate") <;> (wp_walk using it1; exact ⟨_, rfl, hr⟩)
    · wp_walk using it1
      exact ⟨_, rfl, hr⟩
theorem call_enumT {prog : Program} {w : World} {A : Around} {E : Value → Shared → Prop} {s : Shared} {a : Addr} {items : Array Value} {Q : Value → Shared → Prop} (ht : s.heap.IsTuple a items)
    (k : ∀ g, IsEnum g (s.heap.objs.size + 1) s.heap.objs.size 0 .none → g.IsTupleIter s.heap.objs.size a 0 → (∀ b o, s.heap.get? b = some o → g.get? b = some o) → Q (.ref (s.heap.objs.size + 1)) { s with heap := g }) :
    wpAny (model prog w) A (call (.type "enumerate") [.ref a]) Q E s := by
  refine callType_new F.called_enumerate (by decide) (F.typeCall_enumerate_1 _) (F.newCall_enumerate_1 _) (fun o => F.args_object_init_2 o _) F.entry_enumerate_new (meets_enumT a items) ⟨ht, ?_⟩
  have z1 : (s.heap.push { cls := .type "tuple_iterator", data := .fields #[.ref a, .int 0 0] }).objs.size = s.heap.objs.size + 1 := by rw [Heap.size_push]
  change _ ∧ _
  rw [z1]
  generalize hg : (s.heap.push { cls := .type "tuple_iterator", data := .fields #[.ref a, .int 0 0] }).push { cls := .type "enumerate", data := .fields #[.none, .bool false, .ref s.heap.objs.size, rawInt 0, .none, .none] } = g
  have en : IsEnum g (s.heap.objs.size + 1) s.heap.objs.size 0 .none := by
    have q := Heap.get?_push_size (s.heap.push { cls := .type "tuple_iterator", data := .fields #[.ref a, .int 0 0] }) (o := { cls := .type "enumerate", data := .fields #[.none, .bool false, .ref s.heap.objs.size, rawInt 0, .none, .none] }) rfl
    rw [z1, hg] at q
    exact q
  have ti : g.IsTupleIter s.heap.objs.size a 0 := by
    rw [← hg]
    exact ⟨_, Heap.get?_push_of_some _ (Heap.get?_push_size _ rfl), rfl, rfl⟩
  refine ⟨⟨_, en, rfl⟩, k g en ti fun b o q => ?_⟩
  rw [← hg]
  exact Heap.get?_push_of_some _ (Heap.get?_push_of_some _ q)
/-- the tuple at a, each item in a new pair -/
def ItT (K : PySem.W.Frag) (a : Addr) : It where
  go i H := ∃ (xs : List V) (x : V), SqT K H a xs ∧ xs[i]? = some x
  yld i H v H' := ∃ p x, v = .ref p ∧ H p = none ∧ H' = upd H p (.tup [.int (i : Nat), x]) ∧ ∀ xs, SqT K H a xs → xs[i]? = some x
  stop i H := ∃ xs : List V, SqT K H a xs ∧ xs.length ≤ i
theorem turn_T {P : Program} {w : World} {K : PySem.W.Frag} {elts : List Expr} {kk : Nat} {tpos : Pos} (a e it : Addr) (nea : e ≠ a) (nia : it ≠ a) :
    Turn P w K (.Tuple elts kk tpos) (ItT K a) [e, it] e (fun i g => (∃ old, IsEnum g e it ((i : Nat) : Int) old) ∧ g.IsTupleIter it a i ∧ e ≠ it) where
  mem := .head _
  obj i g st b hb := by
    obtain ⟨⟨old, he⟩, ⟨o, ho, hc, hd⟩, _⟩ := st
    rcases List.mem_cons.mp hb with z | z
    · subst z; exact ⟨_, he, fun v q => nomatch q⟩
    · rw [List.mem_singleton.mp z]; exact ⟨o, ho, fun v q => by rw [hd] at q; cases q⟩
  keep i g g' st k := by
    obtain ⟨⟨old, he⟩, hi, ne⟩ := st
    exact ⟨⟨old, k e (.head _) _ he⟩, hi.at fun o q => k it (.tail _ (.head _)) o q, ne⟩
  item := by
    intro X hP hw hK hc i pins s σ H E I hf st hg
    subst hP hw hK
    obtain ⟨⟨old, he⟩, hit, ne⟩ := st
    obtain ⟨xs, x, hq, hx⟩ := hg
    obtain ⟨its, rv, p, hz⟩ := I.tuple hq
    obtain ⟨u, hu, ru⟩ := rv.get hx
    have le : e < s.heap.objs.size := Heap.lt_size he
    have li : it < s.heap.objs.size := by obtain ⟨_, q, _⟩ := hit; exact Heap.lt_size q
    have hlt : i < its.toArray.size := by
      have := (List.getElem?_eq_some_iff.mp hu).1
      simpa using this
    have D := Draws.tuple (prog := X.prog) (w := X.w) (A := X.A.in1) (show X.A.in1.handled = none from I.ok.hd hc) it a (Ne.symm nia) its.toArray
    have St0 : s.heap.IsTupleIter it a i ∧ s.heap.IsTuple a its.toArray := ⟨hit, p⟩
    refine wpAny_pyNext_enum_itemD D he St0 hlt ne (by simp [ne, nea]) fun y g tk hy out hst hT hsz hk => ?_
    have ey : y = u := by
      have hy' : its.toArray[i]? = some y := hy
      rw [List.getElem?_toArray, hu] at hy'
      exact (Option.some.inj hy').symm
    subst ey
    refine ⟨_, rfl, wpAny_letOwnedTupleGo_enum (s := { s with heap := g, toks := tk + 1 }) out fun g2 he2 sb => ?_⟩
    have T2 : g2.get? s.heap.objs.size = some { cls := .type "tuple", data := .seq #[.int i tk, y] } := (sb.2 _ (Nat.ne_of_gt le)).trans hT
    have new : ObjOk X.prog X.w (upd H s.heap.objs.size (.tup [.int (i : Nat), x])) g2 s.heap.objs.size (.tup [.int (i : Nat), x]) :=
      ⟨by show 2 ≤ sizeLine; decide, _, .cons ⟨_, rfl⟩ (.cons ru .nil), ⟨_, T2, rfl, _, rfl⟩⟩
    have I1 : Inv X pins σ (upd H s.heap.objs.size (.tup [.int (i : Nat), x])) { s with heap := g2, toks := tk + 1 } := by
      refine I.turnedNew (ch := [e, it]) (fun b ob hb q => ?_) hf (Nat.le_refl _) new
      have nb : b ≠ e := fun z => hb (by simp [z])
      exact (sb.2 b nb).trans (hk b ob nb (fun z => hb (by simp [z])) q)
    refine ⟨.ref s.heap.objs.size, _, I1, rfl, ⟨_, x, rfl, I.hok.fresh (Nat.le_refl _), rfl, fun ys hy => ?_⟩, ⟨⟨y, ?_⟩, hst.1.at fun o q => (sb.2 it (Ne.symm ne)).trans q, ne⟩, fun b hb => ?_⟩
    · rw [I.tuple_inj hy hq]; exact hx
    · rw [show ((i + 1 : Nat) : Int) = (i : Int) + 1 by omega]; exact he2
    · have lb : b < s.heap.objs.size := by
        rcases List.mem_cons.mp hb with z | z
        · rw [z]; exact le
        · rw [List.mem_singleton.mp z]; exact li
      rw [upd_ne (Nat.ne_of_lt lb)]
      exact (hf b hb).1
  done := by
    intro X hP hw hK hc i pins s σ H E I hf st hg
    subst hP hw hK
    obtain ⟨⟨old, he⟩, hit, ne⟩ := st
    obtain ⟨xs, hq, hx⟩ := hg
    obtain ⟨its, rv, p, hz⟩ := I.tuple hq
    obtain ⟨f0, f1, f2, f3, f4, f5⟩ := hf it (.tail _ (.head _))
    have hl := rv.length
    have D0 := Draws.tuple (prog := X.prog) (w := X.w) (A := X.A.in1) (show X.A.in1.handled = none from I.ok.hd hc) it a (Ne.symm nia) its.toArray
    have D : Draws X.prog X.w X.A.in1 it [it, a] i (fun _ _ => True) (fun j g => j = i ∧ g.IsTupleIter it a i ∧ g.IsTuple a its.toArray) := {
      live := fun j g st => D0.live i g st.2
      frame := fun j g g' st k => ⟨st.1, D0.frame i g g' st.2 k⟩
      item := fun j s Q E lt st _ => absurd lt (by omega)
      done := fun s Q E st k => wpAny_nextOf_tuple_end (show X.A.in1.handled = none from I.ok.hd hc) st.2.1 st.2.2 (by simp; omega) k }
    exact wpAny_pyNext_enum_endD D he ⟨rfl, hit, p⟩ fun g eb => ⟨rfl, I.turned (t' := s.toks) (fun b o hb q => eb b o hb q) f0 f1 f3 f4 f5⟩
  self A i s Q E st h := by
    obtain ⟨⟨_, he⟩, _⟩ := st
    exact wpAny_pyIter_enum he h

def tEnumA (K : PySem.W.Frag) (ta : TA) : TI := fun σ H R => ta σ H fun vs H1 => ∃ a xs, vs = [.ref a] ∧ ((SqL K H1 a xs ∧ R (Ite K a) H1) ∨ (SqT K H1 a xs ∧ H1 a ≠ none ∧ R (ItT K a) H1))
theorem pi_enumA {X : Cx} {e : Expr} {ta : TA} {p pos tpos : Pos} {elts : List Expr} {kk : Nat} (hg : Gl X "enumerate") (hm : X.mg "enumerate" = none) (ha : PA X [e] ta) (hs : starEach [e] X.env = [(false, eval e X.env)] := by rfl) :
    PI X (.Tuple elts kk tpos) (.Call (.Name "enumerate" p) [e] [] pos) (tEnumA X.K ta) := by
  constructor
  intro pins s σ H R I hq
  refine Call_ (ld_blt I hg hm boot_enumerate (PyProof.Rows.callWith_type1 (thn (ha.run pos pins s σ H _ I hq) fun us s1 ⟨vs, H1, I1, rv, k⟩ => ?_) hs rfl))
  obtain ⟨a, xs, ev, k⟩ := k
  subst ev
  obtain ⟨u, rfl, ru⟩ := vals1 rv
  cases ru
  have new : ∀ b, b ∈ [s1.heap.objs.size + 1, s1.heap.objs.size] → FpOk X pins H1 b := fun b hb => by
    have le : s1.heap.objs.size ≤ b := by
      rcases List.mem_cons.mp hb with z | z
      · omega
      · have := List.mem_singleton.mp z; omega
    exact I1.fpOk le (I1.hok.fresh le)
  rcases k with ⟨hl, k⟩ | ⟨ht, nn, k⟩
  · obtain ⟨its, _, pl, _⟩ := I1.list hl
    refine call_enumerate_list pl.isList fun g en li _ kp => wpAny_pyIter_enum en ?_
    exact ⟨_, _, _, _, H1, rfl, I1.kept (t' := s1.toks) kp, turn_enum a (s1.heap.objs.size + 1) s1.heap.objs.size, ⟨⟨.none, en⟩, li, Nat.succ_ne_self _⟩, new, k⟩
  · obtain ⟨its, _, pt, _⟩ := I1.tuple ht
    have na : ∀ b, s1.heap.objs.size ≤ b → b ≠ a := fun b le z => by
      subst z
      exact nn (I1.hok.fresh le)
    refine call_enumT pt fun g en ti kp => wpAny_pyIter_enum en ?_
    exact ⟨_, _, _, _, H1, rfl, I1.kept (t' := s1.toks) kp, turn_T a (s1.heap.objs.size + 1) s1.heap.objs.size (na _ (Nat.le_succ _)) (na _ (Nat.le_refl _)), ⟨⟨.none, en⟩, ti, Nat.succ_ne_self _⟩, new, k⟩
/-- enumerate(a list or a tuple) -/
def iEnumA (fl : LF) : IF_ := fun env h => (fl env h).bind fun ws h1 => match ws with
  | [w] => match seqT w with
    | some l => .ok ⟨enumL 0 l, fun _ => True⟩ h1
    | none => match seqL h1 w with
      | some l => .ok ⟨enumL 0 l, gdL w l⟩ h1
      | none => .bad
  | _ => .bad
section
variable {X : Cx} {T : List (Addr × Str)} {Wx : WX} {ρ : Rh} {h : AH} {H : Hp} {p pos : Pos} {e : Expr} {fl : LF}
theorem iter_enumT {w : W} {a : Addr} {ws : List W} (r : RV (Cx.cn X T) ρ H w (.ref a)) (e : seqT w = some ws) : IterOk (Cx.cn X T) ρ H (ItT X.K a) ⟨enumL 0 ws, fun _ => True⟩ := by
  intro ρ1 h1 H1 x R1 g
  obtain ⟨vs, hv, rs⟩ := seqT_late r e x
  refine ⟨fun i hi => ?_, ⟨vs, .of hv, by rw [← rs.length]; show ws.length ≤ (enumL 0 ws).length; rw [enumL_len]; exact Nat.le_refl _⟩, fun i y H2 w' hw hy => ?_⟩
  · have hi' : i < ws.length := by rw [← enumL_len 0 ws]; exact hi
    obtain ⟨v, hv', _⟩ := rs.get (List.getElem?_eq_getElem hi')
    exact ⟨vs, v, .of hv, hv'⟩
  · obtain ⟨Tp, x', ey, hn, e2, hy⟩ := hy
    subst ey e2
    have hw2 : (enumL 0 ws)[i]? = some w' := hw
    rw [enumL_get] at hw2
    obtain ⟨w0, e3, e4⟩ := Option.map_eq_some_iff.mp hw2
    subst e4
    obtain ⟨v, hv', rv⟩ := rs.get e3
    have := hy vs (.of hv)
    rw [hv'] at this
    cases this
    rw [Nat.zero_add]
    exact pair_new R1 hn (.int _) rv
theorem ei_enumA {tpos : Pos} {elts : List Expr} {kk : Nat} (hg : Gl X "enumerate") (hm : X.mg "enumerate" = none) (ha : EA X T Wx [e] fl) (hs : starEach [e] X.env = [(false, eval e X.env)] := by rfl) :
    EI X T Wx (.Tuple elts kk tpos) (.Call (.Name "enumerate" p) [e] [] pos) (iEnumA fl) := by
  refine PI.imp (pi_enumA hg hm ha hs) fun σ H R hq => ?_
  obtain ⟨ρ, h, env, Rp, re, o⟩ := hq
  refine ⟨ρ, h, env, Rp, re, (OutI.bindL o).imp fun v1 H1 hq1 => ?_⟩
  obtain ⟨ρ1, h1, w1, e1, R1, rv1, o1⟩ := hq1
  split at o1
  · cases rv1 with
    | cons a b =>
      cases b
      split at o1
      · rename_i l hl
        obtain ⟨c, vs, ec, hc, rs⟩ := seqT_ok a hl
        subst ec
        exact ⟨c, vs, rfl, .inr ⟨.of hc, by rw [hc]; simp, o1 ρ1 H1 _ .refl R1 (iter_enumT a hl)⟩⟩
      · split at o1
        · rename_i l hl
          obtain ⟨c, vs, ec, hc, rs⟩ := seqL_ok R1 a hl
          subst ec
          exact ⟨c, vs, rfl, .inl ⟨.of hc, o1 ρ1 H1 _ .refl R1 (iter_enum a hl)⟩⟩
        · exact (show False from o1).elim
  · exact (show False from o1).elim
end
end PF
set_option Elab.async false
set_option linter.all false
set_option maxRecDepth 100000
set_option maxHeartbeats 1000000
namespace PF
open PySem PySem.Spec PyProof.Rows L2

/-! ### calls with keywords -/
def perm {α : Type} (pm : List Nat) (l : List α) : List α := pm.filterMap fun i => l[i]?
theorem RVs.perm {Γ : Cn} {ρ : Rh} {H : Hp} {ws : List W} {vs : List V} (r : RVs Γ ρ H ws vs) : ∀ pm : List Nat, RVs Γ ρ H (PF.perm pm ws) (PF.perm pm vs)
  | [] => .nil
  | i :: pm => by
    unfold PF.perm
    rw [List.filterMap_cons, List.filterMap_cons]
    cases e : ws[i]? with
    | none =>
      have : vs[i]? = none := by
        rw [List.getElem?_eq_none_iff] at e ⊢
        rw [← r.length]; exact e
      rw [this]
      exact RVs.perm r pm
    | some w =>
      obtain ⟨v, e2, rv⟩ := r.get e
      rw [e2]
      exact .cons rv (RVs.perm r pm)
theorem vals_perm {vs : List V} {us : List Value} (r : Vals vs us) : ∀ pm : List Nat, Vals (PF.perm pm vs) (PF.perm pm us)
  | [] => .nil
  | i :: pm => by
    unfold PF.perm
    rw [List.filterMap_cons, List.filterMap_cons]
    cases e : vs[i]? with
    | none =>
      have : us[i]? = none := by
        rw [List.getElem?_eq_none_iff] at e ⊢
        rw [← r.length]; exact e
      rw [this]
      exact vals_perm r pm
    | some w =>
      obtain ⟨v, e2, rv⟩ := r.get e
      rw [e2]
      exact .cons rv (vals_perm r pm)
/-- n positional values, keywords ks: together they stand in the parameters' order by pm -/
structure KB (fd : FuncData) (ps : List Str) (n : Nat) (ks : List Str) (pm : List Nat) : Prop where
  to : ∀ us ws : List Value, us.length = n → ws.length = ks.length → bindArgs fd ⟨us, ks.zip ws⟩ = pure (ps.zip (perm pm (us ++ ws)))
def fFnK (m : DF) (n j : Nat) (pm : List Nat) (fl fk : LF) : EF := fun env h => (fl env h).bind fun us h1 => (fk env h1).bind fun ws h2 => if us.length = n ∧ ws.length = j then m (perm pm (us ++ ws)) h2 else .bad
abbrev EK (X : Cx) (T : List (Addr × Str)) (Wx : WX) (kws : List Keyword) (f : LF) : Prop := PK X kws (tA (Cx.cn X T) Wx f)
section
variable {X : Cx} {T : List (Addr × Str)} {Wx : WX} {k n : Nat} {f : Addr} {fd : FuncData} {ps ks : List Str} {m : DF} {x : Str} {p pos kpos : Pos} {e a : Expr} {es : List Expr} {fl fk : LF} {fa : EF} {kws : List Keyword} {pm : List Nat} {nm : Option Str}
theorem PK.imp {t t' : TA} (p : PK X kws t) (h : ∀ σ H Q, t' σ H Q → t σ H Q) : PK X kws t' := ⟨fun pos pins s σ H Q I q => p.run pos pins s σ H Q I (h _ _ _ q)⟩
theorem ek_nil : EK X T Wx [] lNil := PK.imp pk_nil fun σ H Q hq => by
  obtain ⟨ρ, h, env, R, re, o⟩ := hq
  exact o ρ H [] .refl R .nil
theorem ek_cons (ha : EE X T Wx a fa) (hr : EK X T Wx kws fl) : EK X T Wx (⟨nm, a, kpos⟩ :: kws) (lCons fa fl) := PK.imp (pk_cons ha hr) fun σ H Q hq => by
  obtain ⟨ρ, h, env, R, re, o⟩ := hq
  refine ⟨ρ, h, env, R, re, o.bind.imp fun v1 H1 hq1 => ?_⟩
  obtain ⟨ρ1, h1, w1, e1, R1, rv1, o1⟩ := hq1
  refine ⟨ρ1, h1, env, R1, re.ext e1, o1.bindL.imp fun v2 H2 hq2 => ?_⟩
  obtain ⟨ρ2, h2, w2, e2, R2, rv2, o2⟩ := hq2
  exact o2 ρ2 H2 _ .refl R2 (.cons (rv1.ext e2) rv2)
theorem run_kw {pins : List (Addr × Obj)} {s : Shared} {σ : L2.St} {H : Hp} {Q : VK} {us ws : List Value} {vs zs : List V} (tk : Takes X Wx) (F : FnOk X.prog X.w X.K X.mg X.base (L2.CX X.prog X.w) k f fd ps (spOf (Cx.cn X T) ps.length m)) (hr : Room k X.A) (hb : KB fd ps n ks pm)
    (I : Inv X pins σ H s) (r : Vals vs us) (rz : Vals zs ws) (l1 : us.length = n) (l2 : ws.length = ks.length) (h : spOf (Cx.cn X T) ps.length m (perm pm (vs ++ zs)) H Q (WE Wx σ)) :
    wpAny (model X.prog X.w) X.A (call (.ref f) us (ks.zip ws)) (EP X pins σ Q) X.xe s := by
  have r2 := vals_perm (r.append rz) pm
  refine wpAny_call (codeAny_mono (F.run X.A X.stack s H ⟨us, ks.zip ws⟩ _ _ Q (WE Wx σ) hr I.env0 (.of_eq (hb.to us ws l1 l2)) r2 h) fun r s' hq => ?_)
  cases r with
  | error e => exact passAt tk σ pins H s e s' I hq
  | ok fl =>
    cases fl with
    | ret u => exact I.after hq
    | next => exact False.elim hq
    | brk => exact False.elim hq
    | cont => exact False.elim hq
theorem kw_sp {σ : L2.St} {ρ2 : Rh} {h1 : AH} {H2 : Hp} {us ws : List W} {vs zs : List V} {j : Nat} {Q : VK} (R2 : Rep (Cx.cn X T) ρ2 h1 H2) (r1 : RVs (Cx.cn X T) ρ2 H2 us vs) (r2 : RVs (Cx.cn X T) ρ2 H2 ws zs) (hj : j = ks.length)
    (hp : ∀ l : List W, l.length = n + j → (perm pm l).length = ps.length)
    (o : Out (Cx.cn X T) ρ2 H2 (if us.length = n ∧ ws.length = j then m (perm pm (us ++ ws)) h1 else .bad) Q (WE Wx σ)) : vs.length = n ∧ zs.length = ks.length ∧ spOf (Cx.cn X T) ps.length m (perm pm (vs ++ zs)) H2 Q (WE Wx σ) := by
  by_cases hl : us.length = n ∧ ws.length = j
  · rw [if_pos hl] at o
    have rr := (r1.append r2).perm pm
    refine ⟨by rw [← r1.length]; exact hl.1, by rw [← r2.length, ← hj]; exact hl.2, ?_, ρ2, h1, _, R2, rr, o⟩
    rw [← rr.length]
    exact hp _ (by rw [List.length_append, hl.1, hl.2])
  · rw [if_neg hl] at o; exact (show False from o).elim
theorem ee_callK (tk : Takes X Wx) (F : FnOk X.prog X.w X.K X.mg X.base (L2.CX X.prog X.w) k f fd ps (spOf (Cx.cn X T) ps.length m)) (hr : Room k X.A) (hg : Gl X x) (hm : X.mg x = some (.ref f)) (hk : PySem.W.keepIn X.K (.ref f) = true) (hb : KB fd ps n ks pm)
    (ha : EA X T Wx (e :: es) fl) (hkw : EK X T Wx kws fk) (hp : ∀ l : List W, l.length = n + ks.length → (perm pm l).length = ps.length) (hall : (backToKw pos (keywordEach kws X.env)).all (·.1.isSome) = true := by rfl) (hks : (backToKw pos (keywordEach kws X.env)).filterMap (·.1) = ks := by rfl)
    (hdb : (x == ("__debug__" : Str)) = false := by decide) (he : starEach (e :: es) X.env = (false, eval e X.env) :: starEach es X.env := by rfl)
    (hpl : ((backTo pos (starEach (e :: es) X.env)).any (·.1) || (backToKw pos (keywordEach kws X.env)).any (·.1.isNone)) = false := by rfl) : EE X T Wx (.Call (.Name x p) (e :: es) kws pos) (fFnK m n ks.length pm fl fk) := by
  refine ⟨fun pins s σ H Q I hq => ?_⟩
  obtain ⟨ρ, h, env, R, re, o⟩ := hq
  refine wpAny_Call_Name_kw (ld_glob I hg hm ?_ hdb)
  refine PySem.W.callWith_KW (h₀ := X.base) I.ok.mod.kin hk hall (thn (ha.run pos pins s σ H _ I ⟨ρ, h, env, R, re, o.bindL⟩) fun us s1 ⟨vs, H1, I1, r1, q1⟩ => ?_) hpl he
  obtain ⟨ρ1, h1, w1, e1, R1, rv1, o1⟩ := q1
  refine thn (hkw.run pos pins s1 σ H1 _ I1 ⟨ρ1, h1, env, R1, re.ext e1, o1.bindL⟩) fun ws s2 ⟨zs, H2, I2, r2, q2⟩ => ⟨I2.kIn, ?_⟩
  obtain ⟨ρ2, h2, w2, e2, R2, rv2, o2⟩ := q2
  obtain ⟨l1, l2, sp⟩ := kw_sp (ks := ks) R2 (rv1.ext e2) rv2 rfl hp o2
  rw [hks]
  exact run_kw (us := us) (vs := vs) tk F hr hb I2 r1 r2 (by rw [← r1.length]; exact l1) (by rw [← r2.length]; exact l2) sp
theorem ee_callK0 (tk : Takes X Wx) (F : FnOk X.prog X.w X.K X.mg X.base (L2.CX X.prog X.w) k f fd ps (spOf (Cx.cn X T) ps.length m)) (hr : Room k X.A) (hg : Gl X x) (hm : X.mg x = some (.ref f)) (hk : PySem.W.keepIn X.K (.ref f) = true) (hb : KB fd ps 0 ks pm)
    (hkw : EK X T Wx kws fk) (hp : ∀ l : List W, l.length = 0 + ks.length → (perm pm l).length = ps.length) (hall : (backToKw pos (keywordEach kws X.env)).all (·.1.isSome) = true := by rfl) (hks : (backToKw pos (keywordEach kws X.env)).filterMap (·.1) = ks := by rfl)
    (hdb : (x == ("__debug__" : Str)) = false := by decide) (hpl : ((backTo pos (starEach [] X.env)).any (·.1) || (backToKw pos (keywordEach kws X.env)).any (·.1.isNone)) = false := by rfl) : EE X T Wx (.Call (.Name x p) [] kws pos) (fFnK m 0 ks.length pm lNil fk) := by
  refine ⟨fun pins s σ H Q I hq => ?_⟩
  obtain ⟨ρ, h, env, R, re, o⟩ := hq
  refine wpAny_Call_Name_kw (ld_glob I hg hm ?_ hdb)
  have o0 : Out (Cx.cn X T) ρ H ((fk env h).bind fun ws h2 => if ([] : List W).length = 0 ∧ ws.length = ks.length then m (perm pm ([] ++ ws)) h2 else .bad) Q _ := o
  refine PySem.W.callWith_KW0 (h₀ := X.base) I.ok.mod.kin hk hall ?_ hpl
  refine thn (hkw.run pos pins s σ H _ I ⟨ρ, h, env, R, re, o0.bindL⟩) fun ws s2 ⟨zs, H2, I2, r2, q2⟩ => ⟨I2.kIn, ?_⟩
  obtain ⟨ρ2, h2, w2, e2, R2, rv2, o2⟩ := q2
  obtain ⟨l1, l2, sp⟩ := kw_sp (ks := ks) (us := []) (vs := []) R2 .nil rv2 rfl hp o2
  rw [hks]
  exact run_kw (us := []) (vs := []) tk F hr hb I2 .nil r2 rfl (by rw [← r2.length]; exact l2) sp
end

/-! ### new lists that may be changed -/
/-- a + b -/
def fAddR (fa fb : EF) : EF := fun env h => (fa env h).bind fun a h1 => (fb env h1).bind fun b h2 => match seqL h2 a, seqL h2 b with
  | some xs, some ys => if xs.length + ys.length ≤ sizeLine then .ok (.ref h2.length) (h2 ++ [.lst (xs ++ ys)]) else .bad
  | _, _ => .bad
theorem Rep.newL {Γ : Cn} {ρ : Rh} {h : AH} {H : Hp} {p : Addr} {ws : List W} {vs : List V} (R : Rep Γ ρ h H) (hp : H p = none) (r : RVs Γ ρ H ws vs) :
    Ext ρ H (ρ.add p) (upd H p (.lst vs)) ∧ Rep Γ (ρ.add p) (h ++ [.lst ws]) (upd H p (.lst vs)) ∧ RV Γ (ρ.add p) (upd H p (.lst vs)) (.ref h.length) (.ref p) := by
  have ex : Ext ρ H (ρ.add p) (upd H p (.lst vs)) := .freshR hp
  exact ⟨ex, R.freshR hp (.lst (r.ext ex)), .ref (by rw [← R.len]; show (ρ.tr ++ [p])[ρ.tr.length]? = _; simp)⟩
section
variable {X : Cx} {T : List (Addr × Str)} {Wx : WX} {pos p : Pos} {a b e : Expr} {fa fb : EF} {fl : LF} {es : List Expr}
theorem ee_addR (ha : EE X T Wx a fa) (hb : EE X T Wx b fb) : EE X T Wx (.BinOp a .Add b pos) (fAddR fa fb) := by
  refine PE.imp (pe_op op_cat ha hb) fun σ H Q hq => ?_
  obtain ⟨ρ, h, env, R, re, o⟩ := hq
  refine ⟨ρ, h, env, R, re, o.bind.imp fun v1 H1 hq1 => ?_⟩
  obtain ⟨ρ1, h1, w1, e1, R1, rv1, o1⟩ := hq1
  refine ⟨ρ1, h1, env, R1, re.ext e1, o1.bind.imp fun v2 H2 hq2 => ?_⟩
  obtain ⟨ρ2, h2, w2, e2, R2, rv2, o2⟩ := hq2
  split at o2
  · rename_i xs ys s1 s2
    by_cases hz : xs.length + ys.length ≤ sizeLine
    · rw [if_pos hz] at o2
      obtain ⟨p1, vs, ep, hp, r1⟩ := seqL_ok R2 (rv1.ext e2) s1
      obtain ⟨p2, us, eq, hp2, r2⟩ := seqL_ok R2 rv2 s2
      refine ⟨p1, p2, vs, us, ep, eq, hp, hp2, by rw [← r1.length, ← r2.length]; exact hz, fun c hc => ?_⟩
      obtain ⟨x1, x2, x3⟩ := R2.newL hc (r1.append r2)
      exact o2 _ _ _ x1 x2 x3
    · rw [if_neg hz] at o2; exact (show False from o2).elim
  · exact (show False from o2).elim
/-- list(a list or a tuple) -/
def fListR (fl : LF) : EF := fun env h => (fl env h).bind fun ws h1 => match ws with
  | [.scr ws] => .ok (.ref h1.length) (h1 ++ [.lst ws])
  | [w] => match seqA h1 w with
    | some xs => .ok (.ref h1.length) (h1 ++ [.lst xs])
    | none => .bad
  | _ => .bad
theorem ee_listR {x : Str} (hg : Gl X x) (hm : X.mg x = none) (hv : bootBuiltins x = some (.type "list")) (ha : EA X T Wx (e :: es) fl) (hn : x ≠ "__name__" := by decide) (hdb : (x == ("__debug__" : Str)) = false := by decide) (he : starEach (e :: es) X.env = (false, eval e X.env) :: starEach es X.env := by rfl) (hpl : (backTo pos (starEach es X.env)).any (·.1) = false := by rfl) :
    EE X T Wx (.Call (.Name x p) (e :: es) [] pos) (fListR fl) := by
  refine PE.imp (pe_callTy call_list_of hg hm hv ha hn hdb he hpl) fun σ H Q hq => ?_
  obtain ⟨ρ, h, env, R, re, o⟩ := hq
  refine ⟨ρ, h, env, R, re, o.bindL.imp fun v1 H1 hq1 => ?_⟩
  obtain ⟨ρ1, h1, w1, e1, R1, rv1, o1⟩ := hq1
  split at o1
  · rename_i ws
    cases rv1 with
    | cons a b =>
      cases b
      cases a with
      | scr hs np rr =>
        refine ⟨_, _, rfl, .inl hs, fun l hl => ?_⟩
        obtain ⟨x1, x2, x3⟩ := R1.newL hl rr
        exact o1 _ _ _ x1 x2 x3
  · split at o1
    · rename_i w hw xs hx
      cases rv1 with
      | cons a b =>
        cases b
        obtain ⟨p, vs, ep, hp, rr⟩ := seqA_ok R1 a hx
        subst ep
        refine ⟨_, _, rfl, hp.imp .of .of, fun l hl => ?_⟩
        obtain ⟨x1, x2, x3⟩ := R1.newL hl rr
        exact o1 _ _ _ x1 x2 x3
    · exact (show False from o1).elim
  · exact (show False from o1).elim
end
end PF
set_option Elab.async false
set_option linter.all false
set_option maxRecDepth 100000
set_option maxHeartbeats 1000000
namespace PF
open PySem PySem.Spec PyProof.Rows L2

/-! ### repr -/
/-- data, an empty dict, too -/
def dataE : W → Option PyData
  | .dct [] => some (.dict [])
  | w => dataW w
def datasE : List W → Option (List PyData)
  | [] => some []
  | w :: r => match dataE w, datasE r with
    | some d, some ds => some (d :: ds)
    | _, _ => none
def reprW (h : AH) : List W → Option W
  | [w] => match dataH h w with
    | some d => match d with
      | .list _ | .tuple _ => if d.showable = true ∧ d.hasDict = false ∧ d.depth ≤ deepN ∧ d.shown.length ≤ sizeLine then some (.str d.shown) else none
      | _ => none
    | none => match w with
      | .lst (w1 :: ws) => match datasE (w1 :: ws) with
        | some ds => if PyData.showableAll ds = true ∧ PyData.depthAll ds < deepN ∧ (listText (PyData.shownAll ds)).length ≤ sizeLine then some (.str (listText (PyData.shownAll ds))) else none
        | none => none
      | _ => none
  | _ => none
mutual
theorem dataW_noDict : ∀ {w : W} {d : PyData}, dataW w = some d → d.hasDict = false
  | .non, _, e => by cases e; rfl
  | .bl b, _, e => by cases e; rfl
  | .int i, _, e => by cases e; rfl
  | .str x, _, e => by cases e; rfl
  | .tup ws, _, e => by
    unfold dataW at e
    obtain ⟨ds, e1, e2⟩ := Option.map_eq_some_iff.mp e
    subst e2
    simp only [PyData.hasDict]
    exact datasW_noDict e1
  | .lst ws, _, e => by
    unfold dataW at e
    obtain ⟨ds, e1, e2⟩ := Option.map_eq_some_iff.mp e
    subst e2
    simp only [PyData.hasDict]
    exact datasW_noDict e1
  | .dct _, _, e => by unfold dataW at e; cases e
  | .ins _ _, _, e => by unfold dataW at e; cases e
  | .ref _, _, e => by unfold dataW at e; cases e
  | .glo _, _, e => by unfold dataW at e; cases e
  | .scr _, _, e => by unfold dataW at e; cases e
  | .typ _, _, e => by unfold dataW at e; cases e
theorem datasW_noDict : ∀ {ws : List W} {ds : List PyData}, datasW ws = some ds → PyData.hasDictAll ds = false
  | [], _, e => by cases e; rfl
  | w :: r, _, e => by
    unfold datasW at e
    split at e
    · rename_i e1 e2
      cases e
      simp only [PyData.hasDictAll, dataW_noDict e1, datasW_noDict e2, Bool.or_self]
    · cases e
end
section
variable {X : Cx} {T : List (Addr × Str)} {Wx : WX}
theorem dp_ref {K : PySem.W.Frag} {H : Hp} {v : V} {d : PyData} (r : Dp K H v d) (hd : (∃ xs, d = .list xs) ∨ ∃ xs, d = .tuple xs) : ∃ a, v = .ref a := by
  rcases hd with ⟨xs, e⟩ | ⟨xs, e⟩ <;> subst e <;> cases r <;> exact ⟨_, rfl⟩
theorem el_reads {pins : List (Addr × Obj)} {σ : L2.St} {H : Hp} {s : Shared} {ρ : Rh} {w : W} {v : V} {u : Value} {d : PyData} (I : Inv X pins σ H s) (r : RV (Cx.cn X T) ρ H w v) (e : dataE w = some d) (rx : RelV v u) : ∃ as, Reads s.heap u d as ∧ (d.hasDict = true → sysModules ∉ as) := by
  have key : ∀ {w : W}, RV (Cx.cn X T) ρ H w v → dataW w = some d → ∃ as, Reads s.heap u d as ∧ (d.hasDict = true → sysModules ∉ as) := fun r e => by
    obtain ⟨as, r1⟩ := Dp.reads I d v u (dataW_ok (K := X.K) r e) rx
    exact ⟨as, r1, fun z => by rw [dataW_noDict e] at z; cases z⟩
  cases w with
  | dct kvs =>
    cases kvs with
    | cons _ _ => exact key r e
    | nil =>
      cases e
      cases r with
      | @dK _ kk p np h r =>
        cases r
        cases rx
        obtain ⟨o, ho⟩ := h
        obtain ⟨ns, hd, hx, es, ep, vs, hdt, hz, _⟩ := I.frzK ho
        have hn : es.toList = [] := List.length_eq_zero_iff.mp (by rw [Array.length_toList]; exact hz)
        refine ⟨_, Reads.dict (kvs := []) hd hx.1 hdt (by rw [hn]; exact .nil) (by rw [hn]; exact .nil), fun _ hm => ?_⟩
        rcases List.mem_cons.mp hm with z | z
        · exact absurd z.symm (beq_eq_false_iff_ne.mp ns)
        · cases z
      | @dT _ kk p np h r =>
        cases r
        cases rx
        obtain ⟨o, ho⟩ := h
        obtain ⟨ns, hd, hx, es, ep, hdt, hz, _⟩ := I.frzT ho
        have hn : es.toList = [] := List.length_eq_zero_iff.mp (by rw [Array.length_toList]; exact hz)
        refine ⟨_, Reads.dict (kvs := []) hd hx.1 hdt (by rw [hn]; exact .nil) (by rw [hn]; exact .nil), fun _ hm => ?_⟩
        rcases List.mem_cons.mp hm with z | z
        · exact absurd z.symm (beq_eq_false_iff_ne.mp ns)
        · cases z
  | _ => exact key r e
theorem els_repr {pins : List (Addr × Obj)} {σ : L2.St} {H : Hp} {s : Shared} {ρ : Rh} (I : Inv X pins σ H s) : ∀ {ws : List W} {vs : List V} {us : List Value} {ds : List PyData}, RVs (Cx.cn X T) ρ H ws vs → datasE ws = some ds → Vals vs us → PyData.showableAll ds = true → (∀ t ∈ PyData.shownAll ds, t.length ≤ sizeLine) →
    (∃ as, ReadsAll s.heap us ds as) ∧ ∃ bs, ReadAtMost s.heap (PyData.depthAll ds) bs ∧ ReprAllK X.prog X.w bs s.heap (PyData.depthAll ds) us (PyData.shownAll ds)
  | [], _, _, _, .nil, e, r, _, _ => by
    cases e
    cases r
    exact ⟨⟨_, .nil⟩, [], (fun _ h => nomatch h), .nil⟩
  | w :: ws, _, _, ds0, .cons a b, e, r, hs, hz => by
    unfold datasE at e
    split at e
    · rename_i d ds e1 e2
      cases e
      cases r with
      | cons r1 r2 =>
        obtain ⟨as1, q1, n1⟩ := el_reads I a e1 r1
        have hs' : d.showable = true ∧ PyData.showableAll ds = true := by simpa [PyData.showableAll] using hs
        obtain ⟨b1, hb1, k1⟩ := ReprK.of_reads (prog := X.prog) (w := X.w) q1 hs'.1 n1 (hz _ (by simp only [PyData.shownAll]; exact List.mem_cons_self ..))
        obtain ⟨⟨as2, q2⟩, b2, hb2, k2⟩ := els_repr I b e2 r2 hs'.2 (fun t ht => hz t (by simp only [PyData.shownAll]; exact List.mem_cons_of_mem _ ht))
        refine ⟨⟨_, .cons q1 q2⟩, b1 ++ b2, ?_, ?_⟩
        · intro c hm
          simp only [PyData.depthAll]
          rcases List.mem_append.mp hm with hm | hm
          · obtain ⟨d', as', r', hd'⟩ := hb1 c hm
            exact ⟨d', as', r', Nat.le_trans hd' (Nat.le_max_left _ _)⟩
          · obtain ⟨d', as', r', hd'⟩ := hb2 c hm
            exact ⟨d', as', r', Nat.le_trans hd' (Nat.le_max_right _ _)⟩
        · simp only [PyData.depthAll, PyData.shownAll]
          exact .cons ((k1.more fun b hb => List.mem_append_left _ hb).level_le (Nat.le_max_left _ _)) (k2.more_le (fun b hb => List.mem_append_right _ hb) (Nat.le_max_right _ _))
    · cases e
theorem datasE_len : ∀ {ws : List W} {ds : List PyData}, datasE ws = some ds → ds.length = ws.length
  | [], _, e => by cases e; rfl
  | w :: ws, _, e => by
    unfold datasE at e
    split at e
    · rename_i e1 e2
      cases e
      rw [List.length_cons, List.length_cons, datasE_len e2]
    · cases e
theorem call_reprW (hg : X.A.guards = some []) (hu : X.A.units + 64 < cLine) : CallW X T (.builtin "repr") reprW := call_raw fun pins s σ H xs us ρ h ws w I r R rs e Q o => by
  unfold reprW at e
  split at e
  · rename_i w0
    split at e
    · rename_i d e1
      have key : ∀ (hd : (∃ xs, d = .list xs) ∨ ∃ xs, d = .tuple xs) (hc : d.showable = true ∧ d.hasDict = false ∧ d.depth ≤ deepN ∧ d.shown.length ≤ sizeLine) (ew : w = .str d.shown), wpAny (model X.prog X.w) X.A (call (.builtin "repr") us) (EP X pins σ Q) X.xe s := by
        intro hd hc ew
        subst ew
        cases rs with
        | cons ra rs =>
          cases rs
          obtain ⟨u, rfl, rx⟩ := vals1 r
          have dp := dataH_ok (K := X.K) R ra e1
          obtain ⟨a, ea⟩ := dp_ref dp hd
          subst ea
          cases rx
          obtain ⟨as, r1⟩ := Dp.reads I d (.ref a) (.ref a) dp rfl
          refine repr_of_reads' r1 hc.1 (fun z => by rw [hc.2.1] at z; cases z) hg (by have := hc.2.2.1; unfold deepN at this; omega) (fun b o z => z) (fun h' u tk kp => ?_) hc.2.2.2
          exact ⟨.str d.shown, H, I.kept (t' := tk) kp, ⟨u, rfl⟩, o.here R (.str _)⟩
      split at e
      · split at e
        · rename_i hc
          cases e
          exact key (.inl ⟨_, rfl⟩) hc rfl
        · cases e
      · split at e
        · rename_i hc
          cases e
          exact key (.inr ⟨_, rfl⟩) hc rfl
        · cases e
      · cases e
    · split at e
      · rename_i w1 ws
        split at e
        · rename_i ds e1
          split at e
          · rename_i hc
            cases e
            cases rs with
            | cons ra rs =>
              cases rs
              obtain ⟨u, rfl, rx⟩ := vals1 r
              cases ra with
              | @lst _ vs p np hr rr =>
                cases rx
                obtain ⟨its, rv, ⟨ob, n, ho, hcl, _, hd⟩, _⟩ := I.list (.of hr)
                obtain ⟨⟨as, q⟩, bs, hb, hk⟩ := els_repr I rr e1 rv hc.1 (fun t ht => Nat.le_trans (listText_mem_le ht) hc.2.2)
                have hna : p ∉ bs := not_mem_of_deeper (.list ho hcl hd q) (by simp only [PyData.depth]; omega) hb
                have hT : s.TypeIs (.ref p) "list" := ⟨ob, ho, hcl⟩
                cases its with
                | nil =>
                  cases rr
                  cases rv
                | cons x l =>
                  refine call_repr_slot (by omega) hT PySem.F.slot_list_repr.toG ?_
                  refine call_list_reprK (d := PyData.depthAll ds) ho hcl hd hna (by simpa using hk.length_eq) (fun i y e => hk.item i y (by simpa using e)) hg (fun b _ => Clear.nil b) (by have := hc.2.1; unfold deepN at this; show X.A.units + 1 + _ < cLine; omega) (fun b o z => z) (fun h' u tk kp => ?_) hc.2.2
                  exact ⟨_, _, rfl, ⟨.str _, H, I.kept (t' := tk) kp, ⟨u, rfl⟩, o.here R (.str _)⟩⟩
          · cases e
        · cases e
      · cases e
  · cases e
end

/-! ### unpacking a tuple or a list -/
def gAny (n : Nat) (gs : GsF) : GF := fun w env h => match seqA h w with
  | some ws => if ws.length = n then gs ws env h else .bad
  | none => .bad
theorem PG.or {X : Cx} {e : Expr} {t t' : TG} (p : PG X e t) (p' : PG X e t') : PG X e (fun v σ H Q => t v σ H Q ∨ t' v σ H Q) := ⟨fun pins s σ H v u Q I r q => q.elim (fun q => p.run pins s σ H v u Q I r q) fun q => p'.run pins s σ H v u Q I r q⟩
section
variable {X : Cx} {T : List (Addr × Str)} {Wx : WX} {pos : Pos}
theorem eg_any {S : SRel} {es : List Expr} {k n : Nat} {gs : GsF} (hc : X.calm = true) (hs : EGs X T S es gs) (hn : (assignEach es X.env).length = n := by rfl) (hst : (assignEach es X.env).findIdx? (·.1) = none := by rfl) : EG X T S (.Tuple es k pos) (gAny n gs) :=
  PG.imp (PG.or (pg_tup hc hs hn hst) (pg_unl hc hs hn hst)) fun v σ H Q hq => by
    obtain ⟨ρ, h, env, w, R, re, rv, o⟩ := hq
    unfold gAny at o
    split at o
    · rename_i ws e
      split at o
      · rename_i hl
        obtain ⟨p, vs, ep, hp, rr⟩ := seqA_ok R rv e
        rcases hp with hp | hp
        · exact .inr ⟨p, vs, ep, .of hp, by rw [← rr.length]; exact hl, ρ, h, env, ws, R, re, rr, o⟩
        · exact .inl ⟨p, vs, ep, .of hp, by rw [← rr.length]; exact hl, ρ, h, env, ws, R, re, rr, o⟩
      · exact (show False from o).elim
    · exact (show False from o).elim
/-- a, b = x, y of plain local names -/
def sPar (i j : Nat) (fl : LF) : SF := fun env h => bindS (fl env h) env fun ws h1 => match ws with
  | [v, w] => .nx ((env.set i (some v)).set j (some w)) h1
  | _ => .bad
theorem OutS.bindLs {Γ : Cn} {ρ : Rh} {H : Hp} {D : Ends} {r : Res (List W)} {env : Env} {σ : L2.St} {k : List W → AH → SRes} (re : REnv Γ ρ H env σ) (o : OutS Γ ρ H (bindS r env k) D Wx) :
    OutL Γ ρ H r (fun v H1 => ∃ ρ1 h1 w1, Ext ρ H ρ1 H1 ∧ Rep Γ ρ1 h1 H1 ∧ RVs Γ ρ1 H1 w1 v ∧ OutS Γ ρ1 H1 (k w1 h1) D Wx) (fun cls d H' => Wx cls d σ H') := by
  cases r with
  | ok w h' => exact fun ρ' H' v x R rv => ⟨ρ', h', w, x, R, rv, OutS.from x o⟩
  | exc c fs h' => exact fun ρ' H' cls d x R rx => o ρ' H' σ cls d x R (re.ext x) rx
  | bad => exact o
theorem es_par {i j : Nat} {x y : Str} {a b : Expr} {fl : LF} {px py pt : Pos} {kt k2 pt2} (hc : X.calm = true) (hN : X.N.Nodup) (hi : X.N[i]? = some x) (hj : X.N[j]? = some y) (hij : i ≠ j)
    (hx : X.env.scope.names.lookup x = some .local) (hy : X.env.scope.names.lookup y = some .local) (ha : EA X T Wx [a, b] fl)
    (hw : swappedStores [.Tuple [.Name x px, .Name y py] kt pt] (.Tuple [a, b] k2 pt2) X.env = pure (some [x, y]))
    (hs : swapsWithSole [.Tuple [.Name x px, .Name y py] kt pt] (.Tuple [a, b] k2 pt2) pos.line X.env = pure false := by rfl) :
    ES X T Wx (.Assign [.Tuple [.Name x px, .Name y py] kt pt] (.Tuple [a, b] k2 pt2) pos) (sPar i j fl) := PS.imp (ps_par hc hN hi hj hij hx hy ha hw hs) fun D σ H hq => by
  obtain ⟨ρ, h, env, R, re, o⟩ := hq
  refine ⟨ρ, h, env, R, re, (OutS.bindLs re o).imp fun v H1 hq1 => ?_⟩
  obtain ⟨ρ1, h1, w1, e1, R1, rv1, o1⟩ := hq1
  split at o1
  · cases rv1 with
    | cons a r =>
      cases r with
      | cons b r =>
        cases r
        exact ⟨_, _, rfl, o1 ρ1 H1 _ .refl R1 (((re.ext e1).set a).set b)⟩
  · exact (show False from o1).elim

/-! ### dicts: {}, their keys walked, dict of pairs -/
def fDct0 : EF := fun _ h => .ok (.dct []) h
theorem ee_dct0 : EE X T Wx (.Dict [] [] pos) fDct0 := by
  refine PE.imp (pe_frz pe_dnewK) fun σ H Q hq => ?_
  obtain ⟨ρ, h, env, R, re, o⟩ := hq
  intro p hp
  refine ⟨p, _, rfl, upd_same, True.intro, fun od => ?_⟩
  rw [upd_upd]
  exact o ρ _ _ (.fresh hp) (R.fresh hp) (.dK (R.new hp) ⟨od, upd_same⟩ .nil)
/-- the keys of a dict that is not changed -/
def iKeysW (fe : EF) : IF_ := fun env h => (fe env h).bind fun w h1 => match w with
  | .dct kvs => if kvs.all (fun e => isK e.1) = true then .ok ⟨kvs.map (·.1), fun _ => True⟩ h1 else .bad
  | _ => .bad
theorem Fz.late {ρ ρ' : Rh} {H H' : Hp} {p : Addr} {o : Obj} {u : HO} (x : Ext ρ H ρ' H') (n : p ∉ ρ) (h : H p = some (.frz o u)) : H' p = some (.frz o u) := x.keep p _ h (fun z => n (.inl z)) (fun _ z => by cases z)
theorem keyW_rv {Γ : Cn} {ρ : Rh} {H : Hp} {k : W} {kk : Key} (e : keyW k = some kk) : RV Γ ρ H k (kV kk) := by
  cases k <;> first | (cases e; constructor) | (cases e; done)
theorem RKs.keys {Γ : Cn} {ρ : Rh} {H : Hp} : ∀ {kvs : List (W × W)} {kk : List (Key × V)} {i : Nat} {w : W} {k : Key} {v : V}, RKs Γ ρ H kvs kk → (kvs.map (·.1))[i]? = some w → kk[i]? = some (k, v) → keyW w = some k
  | _, _, _, _, _, _, .nil, h, _ => by simp at h
  | _, _, 0, _, _, _, .cons e a r, h, q => by
    simp at h q
    obtain ⟨q1, q2⟩ := q
    subst h q1
    exact e
  | _, _, i + 1, _, _, _, .cons e a r, h, q => RKs.keys (i := i) r (by simpa using h) (by simpa using q)
variable {tg e : Expr} {fe : EF}
theorem ei_keys (he : EE X T Wx e fe) : EI X T Wx tg e (iKeysW fe) := by
  refine PI.imp (pi_keys he) fun σ H R hq => ?_
  obtain ⟨ρ, h, env, Rp, re, o⟩ := hq
  refine ⟨ρ, h, env, Rp, re, (OutI.bind o).imp fun v1 H1 hq1 => ?_⟩
  obtain ⟨ρ1, h1, w1, e1, R1, rv1, o1, er⟩ := hq1
  clear er
  split at o1
  · rename_i kvs
    split at o1
    · rename_i ha
      have fin : ∀ (p : Addr) (od : Obj) (kk : List (Key × V)), p ∉ ρ1 → H1 p = some (.frz od (.dK kk)) → RKs (Cx.cn X T) ρ1 H1 kvs kk → R (Itk p od kk) H1 := by
        intro p od kk np hp rk
        refine o1 ρ1 H1 _ .refl R1 fun ρ2 h2 H2 x2 R2 _ => ⟨fun i hi => ?_, ?_, fun i y H3 w' hw hy => ?_⟩
        · have hi' : i < kvs.length := by simpa using hi
          exact ⟨Fz.late x2 np hp, by rw [← rk.length]; exact hi'⟩
        · refine ⟨Fz.late x2 np hp, ?_⟩
          show kk.length ≤ (kvs.map (·.1)).length
          rw [List.length_map, rk.length]
          exact Nat.le_refl _
        · obtain ⟨e3, k, v, hk, ey⟩ := hy
          subst e3 ey
          exact ⟨.refl, R2, keyW_rv (rk.keys hw hk)⟩
      cases rv1 with
      | @dK _ kk p np hr rk =>
        obtain ⟨od, hp⟩ := hr
        exact ⟨p, od, rfl, .inl ⟨kk, hp, fin p od kk np hp rk⟩⟩
      | @dT _ kk p np hr rk =>
        obtain ⟨z1, z2⟩ := rk.notK ha
        subst z1 z2
        obtain ⟨od, hp⟩ := hr
        refine ⟨p, od, rfl, .inr ⟨[], hp, ?_⟩⟩
        refine o1 ρ1 H1 _ .refl R1 fun ρ2 h2 H2 x2 R2 _ => ⟨fun i hi => ?_, ⟨Fz.late x2 np hp, Nat.zero_le _⟩, fun i y H3 w' hw hy => ?_⟩
        · simp at hi
        · simp at hw
    · exact (show False from o1).elim
  · exact (show False from o1).elim
/-- dict of a list of pairs -/
def pairsW : List W → Option (List (W × W))
  | [] => some []
  | .tup [k, v] :: r => (pairsW r).map ((k, v) :: ·)
  | _ :: _ => none
def mergeW (acc kvs : List (W × W)) : List (W × W) := kvs.foldl (fun acc e => match keyW e.1 with | some kk => putKW acc kk e.1 e.2 | none => acc) acc
def fDictP (fl : LF) : EF := fun env h => (fl env h).bind fun ws h1 => match ws with
  | [w] => match seqL h1 w with
    | some xs => match pairsW xs with
      | some kvs => if kvs.all (fun e => isK e.1) = true then .ok (.dct (mergeW [] kvs)) h1 else .bad
      | none => .bad
    | none => .bad
  | _ => .bad
theorem RKs.merge {Γ : Cn} {ρ : Rh} {H : Hp} : ∀ {kvs : List (W × W)} {kk : List (Key × V)} {acc : List (W × W)} {ac : List (Key × V)}, RKs Γ ρ H kvs kk → RKs Γ ρ H acc ac → RKs Γ ρ H (mergeW acc kvs) (mergeK ac kk)
  | _, _, _, _, .nil, r => r
  | (k0, w0) :: _, _, acc, ac, .cons (kk := k1) e a r, q => by
    show RKs Γ ρ H (mergeW (match keyW k0 with | some kk => putKW acc kk k0 w0 | none => acc) _) (mergeK (putK ac k1 _) _)
    rw [e]
    exact RKs.merge r (q.put e a)
theorem pairs_ok {Γ : Cn} {ρ : Rh} {H : Hp} {K : PySem.W.Frag} : ∀ {ws : List W} {vs : List V} {kvs : List (W × W)}, RVs Γ ρ H ws vs → pairsW ws = some kvs → kvs.all (fun e => isK e.1) = true →
    ∃ (ps : List Addr) (kk : List (Key × V)), vs = ps.map V.ref ∧ Paired (fun p kv => SqT K H p [kV kv.1, kv.2]) ps kk ∧ RKs Γ ρ H kvs kk
  | _, _, _, .nil, e, _ => by
    cases e
    exact ⟨[], [], rfl, .nil, .nil⟩
  | w :: r, _, kvs, .cons a b, e, ha => by
    unfold pairsW at e
    split at e
    · rename_i e0; cases e0
    · rename_i k v r' e0
      cases e0
      obtain ⟨kvs', e1, e2⟩ := Option.map_eq_some_iff.mp e
      subst e2
      simp only [List.all_cons, Bool.and_eq_true] at ha
      obtain ⟨ps, kk, h1, h2, h3⟩ := pairs_ok (K := K) b e1 ha.2
      have hk := ha.1
      unfold isK at hk
      obtain ⟨k', hk⟩ := Option.isSome_iff_exists.mp hk
      cases a with
      | @tup _ us p np hp rr =>
        cases rr with
        | cons r1 rr =>
          cases rr with
          | cons r2 rr =>
            cases rr
            have := key_at r1 hk
            subst this
            exact ⟨p :: ps, (k', _) :: kk, by rw [h1]; rfl, .cons (.of hp) h2, .cons hk r2 h3⟩
    · cases e
theorem ee_dictP {x : Str} {p : Pos} {es : List Expr} {fl : LF} (hcalm : X.calm = true) (hg : Gl X x) (hm : X.mg x = none) (hv : bootBuiltins x = some (.type "dict")) (ha : EA X T Wx (e :: es) fl) (hn : x ≠ "__name__" := by decide) (hdb : (x == ("__debug__" : Str)) = false := by decide) (he : starEach (e :: es) X.env = (false, eval e X.env) :: starEach es X.env := by rfl) (hpl : (backTo pos (starEach es X.env)).any (·.1) = false := by rfl) :
    EE X T Wx (.Call (.Name x p) (e :: es) [] pos) (fDictP fl) := by
  refine PE.imp (pe_frz (pe_callTy (call_dictP hcalm) hg hm hv ha hn hdb he hpl)) fun σ H Q hq => ?_
  obtain ⟨ρ, h, env, R, re, o⟩ := hq
  refine ⟨ρ, h, env, R, re, o.bindL.imp fun v1 H1 hq1 => ?_⟩
  obtain ⟨ρ1, h1, w1, e1, R1, rv1, o1⟩ := hq1
  split at o1
  · split at o1
    · rename_i xs hx
      split at o1
      · rename_i kvs hk
        split at o1
        · rename_i ha
          cases rv1 with
          | cons a b =>
            cases b
            obtain ⟨q, vs, eq, hq, rr⟩ := seqL_ok R1 a hx
            subst eq
            obtain ⟨ps, kk, e2, e3, e4⟩ := pairs_ok (K := X.K) rr hk ha
            subst e2
            refine ⟨q, ps, kk, rfl, .of hq, e3, fun p hp => ⟨p, _, rfl, upd_same, True.intro, fun od => ?_⟩⟩
            rw [upd_upd]
            exact o1 ρ1 _ _ (.fresh hp) (R1.fresh hp) (.dK (R1.new hp) ⟨od, upd_same⟩ ((RKs.merge e4 .nil).ext (.fresh hp)))
        · exact (show False from o1).elim
      · exact (show False from o1).elim
    · exact (show False from o1).elim
  · exact (show False from o1).elim
end
end PF
set_option Elab.async false
set_option linter.all false
set_option maxRecDepth 100000
set_option maxHeartbeats 1000000
namespace PF
open PySem PySem.Spec PyProof.Rows L2

/-! ### defs called where nothing is being shown -/
structure FnG (P : Program) (w : World) (K : PySem.W.Frag) (mg : Str → Option Value) (base : Heap) (k : Nat) (f : Addr) (fd : FuncData) (ps : List Str) (sp : Sp) : Prop where
  go : ∀ (A : Around) (up : List PySem.Env) (s : Shared) (H : Hp) (args : Args) (us : List Value) (vs : List V) (Q : VK) (E : XK), Room k A → A.guards = some [] → Env0 P w K mg base A up s H →
    BindsTo s fd args (ps.zip us) → Vals vs us → sp vs H Q E → codeAny (model P w) A (.call (.ref f) args) (CR (L2.CX P w) up P w H s Q E) s
section
variable {P : Program} {w : World} {K : PySem.W.Frag} {mg : Str → Option Value} {base : Heap} {T : List (Addr × Str)}
theorem FnG.of {k : Nat} {f : Addr} {fd : FuncData} {ps : List Str} {sp : Sp} (F : FnOk P w K mg base (L2.CX P w) k f fd ps sp) : FnG P w K mg base k f fd ps sp :=
  ⟨fun A up s H args us vs Q E r _ => F.run A up s H args us vs Q E r⟩
theorem FnG.mono {j k : Nat} {f : Addr} {fd : FuncData} {ps : List Str} {sp : Sp} (F : FnG P w K mg base j f fd ps sp) (h : j ≤ k) : FnG P w K mg base k f fd ps sp :=
  ⟨fun A up s H args us vs Q E r => F.go A up s H args us vs Q E (r.mono h)⟩
/-- THE RULE for such a def; its code object is known -/
theorem def_okG {x qual : Str} {params : Arguments} {body : List Stmt} {scope : Scope} {dvs : List V} {kws : List (Str × V)} {at_ : Str × Option Str} {fd : FuncData} {N ps : List Str} {k : Nat} {fb : SF}
    (F : FunD K x qual params body scope dvs kws (He.fAd K at_) fd) (S : FnScope N ps scope)
    (hbody : ∀ (A : Around) (outer : List PySem.Env) (s : Shared) (H : Hp) (E : XK), A.guards = some [] → Room k (A.deeper (envOfC qual scope s.heap.objs.size (He.fAd K at_) (.ref (He.codeOf K at_)))) →
      ESs (cxOf (L2.CX P w) P w K mg base N qual scope (He.fAd K at_) (.ref (He.codeOf K at_)) A outer s H E) T (WxE E) body fb) :
    FnG P w K mg base (k + 1) (He.fAd K at_) fd ps (spOf ⟨K, mg, T⟩ ps.length (defF N.length fb)) := by
  obtain ⟨oc, od, dV, kV, doc, pm, an, cdv, ct, osl, rfl, lk, hcd, _, _⟩ := F.ex
  obtain ⟨c, rfl⟩ := He.codeIn_ref hcd
  have ec : He.codeOf K at_ = c := He.codeOf_eq lk rfl
  subst ec
  refine ⟨fun A up s H args us vs Q E hr hg e0 hb rv hs => ?_⟩
  refine LamX.run_ofS lk hcd S hr e0 hb rv hs.1 fun hr' => ⟨_, hbody A up s H E hg hr', ?_⟩
  obtain ⟨hl, ρ, h, ws, R, rs, o⟩ := hs
  refine ⟨ρ, h, startW N.length ws, R, REnv.start N rs, ?_⟩
  unfold defF at o
  cases q : fb (startW N.length ws) h with
  | nx env h1 =>
    rw [q] at o
    exact fun ρ' H' σ' x R' re => o ρ' H' .non x R' .non
  | rt w h1 =>
    rw [q] at o
    exact fun ρ' H' v x R' rv => o ρ' H' v x R' rv
  | exc c fs env h1 =>
    rw [q] at o
    exact fun ρ' H' σ' cls d x R' re rx => o ρ' H' cls d x R' rx
  | bk env h1 => rw [q] at o; exact (show False from o).elim
  | ct env h1 => rw [q] at o; exact (show False from o).elim
  | bad => rw [q] at o; exact (show False from o).elim
/-- a def of which nothing is told -/
theorem fn_bad {k n : Nat} {f : Addr} {fd : FuncData} {ps : List Str} (hn : n = ps.length) : FnOk P w K mg base (L2.CX P w) k f fd ps (spOf ⟨K, mg, T⟩ n fun _ _ => .bad) where
  len := fun vs H Q E h => h.1.trans hn
  run := fun A outer s H args us vs Q E _ _ _ _ h => by
    obtain ⟨_, _, _, _, _, _, o⟩ := h
    exact (show False from o).elim
end
section
variable {X : Cx} {T : List (Addr × Str)} {Wx : WX} {k n : Nat} {f : Addr} {fd : FuncData} {ps ks : List Str} {m : DF} {x : Str} {p pos kpos : Pos} {e a : Expr} {es : List Expr} {fl fk : LF} {pm : List Nat}
theorem run_pos {pins : List (Addr × Obj)} {s : Shared} {σ : L2.St} {H : Hp} {Q : VK} {us : List Value} {vs : List V} (tk : Takes X Wx) (F : FnG X.prog X.w X.K X.mg X.base k f fd ps (spOf (Cx.cn X T) ps.length m)) (hr : Room k X.A) (hgu : X.A.guards = some []) (hb : Binds X.K fd ps [])
    (I : Inv X pins σ H s) (r : Vals vs us) (l1 : us.length = ps.length) (h : spOf (Cx.cn X T) ps.length m vs H Q (WE Wx σ)) :
    wpAny (model X.prog X.w) X.A (call (.ref f) us) (EP X pins σ Q) X.xe s := by
  have hb' := hb s us I.kIn (by simpa using l1)
  rw [List.append_nil] at hb'
  refine wpAny_call (codeAny_mono (F.go X.A X.stack s H ⟨us, []⟩ us vs Q (WE Wx σ) hr hgu I.env0 hb' r h) fun r s' hq => ?_)
  cases r with
  | error e => exact passAt tk σ pins H s e s' I hq
  | ok fl =>
    cases fl with
    | ret u => exact I.after hq
    | next => exact False.elim hq
    | brk => exact False.elim hq
    | cont => exact False.elim hq
end
end PF
set_option Elab.async false
set_option linter.all false
set_option maxRecDepth 100000
set_option maxHeartbeats 1000000
namespace PF
open PySem PySem.Spec PyProof.Rows L2

/-! ### the end of a law -/
section
variable {P : Program} {w : World} {K : PySem.W.Frag} {mg : Str → Option Value}
abbrev tab0 : Obj := { cls := .none, data := .fields #[] }
/-- what is tracked at the start: the tables, and the script if it is none of the text's own -/
def H0 (K : PySem.W.Frag) (ts : List Addr) (a : Addr) (vs : List Value) (ns : List Int) : Hp := fun b =>
  if b ∈ ts then some (.tbl #[]) else if b = a ∧ K.lookup a = none then some (.frz { cls := .type "list", data := .seq vs.toArray } (.lst (ns.map V.int))) else none
structure Start (K : PySem.W.Frag) (mg : Str → Option Value) (ts : List Addr) (a : Addr) (vs : List Value) (ns : List Int) (s : Shared) : Prop where
  kin : K.In s.heap
  gl : s.heap.Ns mainGlobals mg
  bl : ∃ mb : Str → Option Value, s.heap.Ns builtinsNs mb ∧ ∀ x : Str, x ≠ "__name__" → mb x = bootBuiltins x
  lim : s.heap.NoLimit
  gens : s.gens = #[]
  tab : ∀ t ∈ ts, s.heap.get? t = some tab0
  out : ∀ t ∈ ts, K.lookup t = none
  scr : s.heap.get? a = some { cls := .type "list", data := .seq vs.toArray }
  its : IntsAre vs ns
  len : ns.length ≤ sizeLine
variable {ts : List Addr} {a : Addr} {vs : List Value} {ns : List Int} {s : Shared}
theorem Start.ne (S : Start K mg ts a vs ns s) : a ∉ ts := fun z => by
  have q := (S.tab a z).symm.trans S.scr
  have q2 : Data.fields #[] = Data.seq vs.toArray _ := congrArg Obj.data (Option.some.inj q)
  cases q2
theorem H0_cases (b : Addr) : H0 K ts a vs ns b = none ∨ (b ∈ ts ∧ H0 K ts a vs ns b = some (.tbl #[])) ∨ (b = a ∧ K.lookup a = none ∧ ∃ o xs, H0 K ts a vs ns b = some (.frz o (.lst xs))) := by
  unfold H0
  by_cases h1 : b ∈ ts
  · exact .inr (.inl ⟨h1, if_pos h1⟩)
  · by_cases h2 : b = a ∧ K.lookup a = none
    · exact .inr (.inr ⟨h2.1, h2.2, _, _, by rw [if_neg h1, if_pos h2]⟩)
    · exact .inl (by rw [if_neg h1, if_neg h2])
/-- an object of another kind is not tracked -/
theorem Start.free (S : Start K mg ts a vs ns s) {b : Addr} {o : Obj} (e : s.heap.get? b = some o) (n1 : o ≠ tab0) (n2 : b = a → K.lookup a ≠ none) : H0 K ts a vs ns b = none := by
  rcases H0_cases (K := K) (ts := ts) (a := a) (vs := vs) (ns := ns) b with h | ⟨h, _⟩ | ⟨h, hk, _⟩
  · exact h
  · exact absurd (Option.some.inj (e.symm.trans (S.tab b h))) n1
  · exact absurd hk (n2 h)
theorem Start.hidden (S : Start K mg ts a vs ns s) {b : Addr} {o : Obj} (e : s.heap.get? b = some o) (n1 : o ≠ tab0) (n2 : b = a → K.lookup a ≠ none) : (hidT s.heap (H0 K ts a vs ns)).get? b = some o :=
  hidT_get e (S.free e n1 n2)
theorem Start.notA (S : Start K mg ts a vs ns s) {b : Addr} {o : Obj} (e : s.heap.get? b = some o) (hd : ∀ xs n, o.data ≠ .seq xs n) : b = a → K.lookup a ≠ none := fun z _ => by
  subst z
  have := Option.some.inj (e.symm.trans S.scr)
  subst this
  exact hd _ _ rfl
theorem Start.names (S : Start K mg ts a vs ns s) {b : Addr} {m : Str → Option Value} (h : s.heap.Ns b m) : (hidT s.heap (H0 K ts a vs ns)).Ns b m := by
  obtain ⟨o, es, ep, e, d, r⟩ := h
  refine ⟨o, es, ep, S.hidden e (fun z => ?_) (S.notA e fun xs n z => ?_), d, r⟩
  · subst z; cases d
  · rw [d] at z; cases z
theorem Start.kinB (S : Start K mg ts a vs ns s) : K.In (hidT s.heap (H0 K ts a vs ns)) := fun b o e => by
  have e2 := S.kin b o e
  refine hidT_get e2 ?_
  rcases H0_cases (K := K) (ts := ts) (a := a) (vs := vs) (ns := ns) b with h | ⟨h, _⟩ | ⟨h, hk, _⟩
  · exact h
  · have := S.out b h
    rw [e] at this; cases this
  · subst h
    rw [e] at hk; cases hk
theorem Start.mod (S : Start K mg ts a vs ns s) : L2.Mod K mg (hidT s.heap (H0 K ts a vs ns)) := by
  obtain ⟨mb, b1, b2⟩ := S.bl
  obtain ⟨mc, l1, l2⟩ := S.lim
  exact ⟨S.kinB, S.names S.gl, ⟨mb, S.names b1, b2⟩, ⟨mc, S.names l1, l2⟩⟩
theorem Start.hok (S : Start K mg ts a vs ns s) : HOk P w (H0 K ts a vs ns) s.heap := fun b u e => by
  have ln := S.its.length
  rcases H0_cases (K := K) (ts := ts) (a := a) (vs := vs) (ns := ns) b with h | ⟨h, h2⟩ | ⟨h, hk, _, _, h2⟩
  · rw [h] at e; cases e
  · rw [h2] at e; cases e
    exact S.tab b h
  · subst h
    unfold H0 at e
    rw [if_neg S.ne, if_pos ⟨rfl, hk⟩] at e
    cases e
    exact ⟨S.scr, by rw [List.length_map]; exact S.len, vs, _, vals_ints S.its, S.scr⟩
theorem Start.sql (S : Start K mg ts a vs ns s) : SqL K (H0 K ts a vs ns) a (ns.map V.int) := by
  have ln := S.its.length
  cases hk : K.lookup a with
  | none =>
    refine .inl (.inr ⟨{ cls := .type "list", data := .seq vs.toArray }, ?_⟩)
    unfold H0
    rw [if_neg S.ne, if_pos ⟨rfl, hk⟩]
  | some o =>
    have e := (S.kin a o hk).symm.trans S.scr
    cases e
    exact .inr ⟨_, vs.toArray, _, hk, rfl, rfl, rfl, by rw [List.size_toArray, ln]; exact S.len, by simpa using vals_ints S.its⟩
theorem Start.tabB (S : Start K mg ts a vs ns s) {c t : Addr} (ht : t ∈ ts) (C : PySem.W.CodeHd s.heap c t)
    (hbm : ∃ (bm : Addr) (ob : Obj), mg "__builtins__" = some (.ref bm) ∧ bm ≠ builtinsNs ∧ s.heap.get? bm = some ob ∧ ob.cls = .type "module" ∧ ob.dict = some builtinsNs ∧ ob.data = .plain) :
    LamX.TabB (hidT s.heap (H0 K ts a vs ns)) mg c t := by
  refine ⟨?_, ?_, ?_⟩
  · obtain ⟨o, us, file, tf, flags, tg, inF, text, tt, e1, rest⟩ := C
    refine ⟨o, us, file, tf, flags, tg, inF, text, tt, S.hidden e1 (fun z => ?_) (S.notA e1 fun xs n z => ?_), rest⟩
    · obtain ⟨r1, r2, r3, _⟩ := rest
      subst z
      cases r1
    · rw [rest.2.1] at z; cases z
  · obtain ⟨bm, ob, b1, b2, b3, b4, b5, b6⟩ := hbm
    have n0 : ob ≠ tab0 := fun z => by subst z; cases b6
    refine ⟨bm, ob, b1, b2, fun z => ?_, fun z => ?_, S.hidden b3 n0 (S.notA b3 fun xs n z => ?_), b4, b5, b6⟩
    · obtain ⟨o, es, ep, e, d, _⟩ := S.gl
      subst z
      have := Option.some.inj (b3.symm.trans e)
      subst this
      rw [b6] at d; cases d
    · subst z
      exact n0 (Option.some.inj (b3.symm.trans (S.tab _ ht)))
    · rw [b6] at z; cases z
  · intro z
    obtain ⟨o, es, ep, e, d, _⟩ := S.gl
    subst z
    have := Option.some.inj (e.symm.trans (S.tab _ ht))
    subst this
    cases d
theorem Start.run (S : Start K mg ts a vs ns s) {k : Nat} {fa : Addr} {fd : FuncData} {x : Str} {sp : Sp} (hr : Room k callerA) (F : FnG P w K mg (hidT s.heap (H0 K ts a vs ns)) k fa fd [x] sp)
    (hb : BindsTo s fd ⟨[.ref a], []⟩ [(x, .ref a)]) (C : ∀ t ∈ ts, ∃ c, PySem.W.CodeHd s.heap c t) (hs : sp [.ref a] (H0 K ts a vs ns) (fun v _ => v = .bl true) fun _ _ _ => False) :
    codeAny (model P w) callerA (.call (.ref fa) ⟨[.ref a], []⟩) (fun r s' => r = .ok (.ret (.bool true)) ∧ OldK s.heap s'.heap ∧ s'.os = s.os ∧ AllBare s'.gens) s := by
  have e0 : Env0 P w K mg (hidT s.heap (H0 K ts a vs ns)) callerA [] s (H0 K ts a vs ns) :=
    { frames := rfl, mod := S.mod, bs := fun b o e => of_hidT e, bsz := Nat.le_of_eq (hidT_size _ _), funs := trivial, frf := (fun b hb => by cases (show b ∈ ([] : List Addr) from hb)), hok := S.hok, bare := .of_eq S.gens }
  refine codeAny_mono (F.go callerA [] s _ ⟨[.ref a], []⟩ [.ref a] [.ref a] _ _ hr rfl e0 hb (.cons rfl .nil) hs) fun r s' h => ?_
  match r, h with
  | .error e, h =>
    obtain ⟨_, _, _, _, _, _, _, _, _, _, _, _, z⟩ := h
    exact (show False from z).elim
  | .ok .next, h => exact (show False from h).elim
  | .ok .brk, h => exact (show False from h).elim
  | .ok .cont, h => exact (show False from h).elim
  | .ok (.ret u), h =>
    obtain ⟨v, H', os, bare, un, hok', ru, ev⟩ := h
    subst ev
    cases (show u = Value.bool true from ru)
    have kept : ∀ b o, s.heap.get? b = some o → b ∉ ts → s'.heap.get? b = some o := fun b o e nb => by
      rcases H0_cases (K := K) (ts := ts) (a := a) (vs := vs) (ns := ns) b with h | ⟨h, _⟩ | ⟨h, hk, od, xs, h2⟩
      · exact un.keep b o e h (fun z => by cases (show b ∈ ([] : List Addr) from z)) (fun z => by cases (show b ∈ ([] : List Addr) from z))
      · exact absurd h nb
      · have i1 := (S.hok (P := P) (w := w) b _ h2).1
        have i2 := (hok' b _ (un.frzs b od _ h2)).1
        rw [e] at i1; cases i1
        exact i2
    have tabs : ∀ b ∈ ts, ∃ more : Array Value, s'.heap.get? b = some { cls := .none, data := .fields more } := fun b hb => by
      obtain ⟨more, z⟩ := un.tbls b #[] (by unfold H0; rw [if_pos hb])
      exact ⟨_, hok' b _ z⟩
    refine ⟨rfl, ⟨fun b o e => ?_, fun b o e => ?_⟩, os, bare⟩
    · by_cases nb : b ∈ ts
      · obtain ⟨more, z⟩ := tabs b nb
        obtain ⟨c, hc⟩ := C b nb
        have := Option.some.inj (e.symm.trans (S.tab b nb))
        subst this
        exact .inr (.inl ⟨(hc.tab (S.tab b nb)).isCodeTable, rfl, #[], more, rfl, by rw [Array.empty_append]; exact z⟩)
      · exact .inl (kept b o e nb)
    · by_cases nb : b ∈ ts
      · obtain ⟨more, z⟩ := tabs b nb
        exact ⟨_, z⟩
      · exact ⟨o, kept b o e nb⟩
end
end PF
set_option Elab.async false
set_option linter.all false
set_option maxRecDepth 100000
set_option maxHeartbeats 1000000
namespace PF
open PySem PySem.Spec PyProof.Rows L2
theorem rvs_ints {Γ : Cn} {ρ : Rh} {H : Hp} : ∀ ns : List Int, RVs Γ ρ H (ns.map W.int) (ns.map V.int)
  | [] => .nil
  | n :: r => .cons (.int n) (rvs_ints r)
/-- what is told of the law at the head's heap -/
structure LawG (l : PySem.W.OpenLaw) (w : World) (k n : Nat) (x : Str) (mg : Str → Option Value) (fa : Addr) (h : Heap) where
  K : PySem.W.Frag
  ts : List Addr
  T : List (Addr × Str)
  fd : FuncData
  m : DF
  kin : K.In h
  tab : ∀ t ∈ ts, h.get? t = some tab0
  out : ∀ t ∈ ts, K.lookup t = none
  code : ∀ t ∈ ts, ∃ c, PySem.W.CodeHd h c t
  tt : ∀ p ∈ T, p.1 ∈ ts
  bind : ∀ (s : Shared) (u : Value), BindsTo s fd ⟨[u], []⟩ [(x, u)]
  fn : ∀ base : Heap, K.In base → base.Ns mainGlobals mg → (∀ c t, t ∈ ts → PySem.W.CodeHd h c t → LamX.TabB base mg c t) → FnG l.prog w K mg base k fa fd [x] (spOf ⟨K, mg, T⟩ 1 m)
  ok : ∀ ns : List Int, ns.length ≤ n → (∀ z ∈ ns, Builtin.Int.intBits z ≤ 1048576) → ∃ h', m [.scr (ns.map .int)] [] = .ok (.bl true) h'
theorem walk_G {l : PySem.W.OpenLaw} {n k : Nat} {q : Program} {loose : List Str} {XP : (Str → Option Value) → Heap → Prop} {YP : World → Heap → Prop} {d : DefRec} {x : Str}
    (hn : l.most = some n) (hn2 : n ≤ sizeLine) (hdf : d.params.defaults = []) (hr : Room k callerA)
    (F : ∀ (w : World) (mg : Str → Option Value) (fa : Addr) (h : Heap), YP w h → h.Ns mainGlobals mg → mg d.name = some (.ref fa) → Nonempty (LawG l w k n x mg fa h)) :
    PySem.W.WalkO q loose XP YP l.row.toRowW d [] (fun f vs => PySem.call f vs) :=
  Att.attach_callB hn hdf fun w s0 s1 mg mb fa o pm cd doc a vs ns Gr Yh ho hd hc hm hob hin hle hbi hge => by
    obtain ⟨L⟩ := F w mg fa _ Yh Gr.T.g hm
    have S : Start L.K mg L.ts a vs ns s1 := ⟨L.kin, Gr.T.g, ⟨mb, Gr.T.b, Gr.T.builtins⟩, Gr.T.nolimit, hge, L.tab, L.out, hob, hin, Nat.le_trans hle hn2⟩
    refine S.run hr (L.fn _ S.kinB (S.names Gr.T.g) fun c t ht C => S.tabB ht C Gr.T.bmain) (L.bind s1 _) L.code ?_
    obtain ⟨h', e⟩ := L.ok ns hle hbi
    have R : Rep ⟨L.K, mg, L.T⟩ ⟨[], []⟩ [] (H0 L.K L.ts a vs ns) := by
      refine ⟨.nil, rfl, fun n o p e => by simp at e, fun p hp => (by cases hp), fun p hp => LamX.TabS.nil ?_⟩
      unfold H0
      rw [if_pos (L.tt p hp)]
    refine ⟨rfl, ⟨[], []⟩, [], [.scr (ns.map .int)], R, .cons (.scr S.sql ?_ (rvs_ints ns)) .nil, ?_⟩
    · cases hk : L.K.lookup a with
      | none =>
        refine .inl ⟨fun z => (by rcases z with z | z <;> cases z), ?_⟩
        unfold H0
        rw [if_neg S.ne, if_pos ⟨rfl, hk⟩]
        exact ⟨_, rfl, fun _ z => by cases z⟩
      | some ob =>
        have e1 := (S.kin a ob hk).symm.trans S.scr
        cases e1
        refine .inr fun H' => .inr ⟨_, vs.toArray, _, hk, rfl, rfl, rfl, ?_, by simpa using vals_ints S.its⟩
        rw [List.size_toArray, S.its.length]
        exact S.len
    · rw [e]
      intro ρ' H' v _ _ rv
      cases rv
      rfl
end PF
set_option Elab.async false
set_option linter.all false
set_option maxRecDepth 100000
set_option maxHeartbeats 1000000
namespace PF
open PySem PySem.Spec PyProof.Rows L2

/-! ### what is known of a text's defs and exception classes -/
structure Def (K : PySem.W.Frag) (mg : Str → Option Value) (x : Str) (st : Stmt) where
  fd : FuncData
  F : FunD K x x (defArgs st) (defBody st) (defScope st) [] [] (He.fAd K (x, none)) fd
  g : mg x = some (.ref (He.fAd K (x, none)))
structure XDef (K : PySem.W.Frag) (mg : Str → Option Value) (x fld : Str) (st : Stmt) where
  fd : FuncData
  F : FunD K "__init__" (x ++ ".__init__") (defArgs st) (defBody st) (defScope st) [] [] (He.fAd K (x, some "__init__")) fd
  g : mg x = some (.ref (He.ga K x))
  O : OexC K (He.ga K x)
  X : XfC K (He.ga K x)
  no : PySem.W.findIn K (.ref (He.ga K x)) fld = some none
  iC : PySem.W.findIn K (.ref (He.ga K x)) "__init__" = some (some (.ref (He.fAd K (x, some "__init__"))))
  tI : PySem.W.typeIn K (.ref (He.fAd K (x, some "__init__"))) = some (.type "function")
/-- the facts of an exception class by evaluation -/
def oexO (C : Addr) : Obj → Bool
  | ⟨.type "type", _, .cls cd, sl⟩ => (match cd.mro, sl.toList with
    | .ref C' :: bm, [_, _, _, _, some (.builtin n), _] => cd.hasDict && (!cd.hasDel && (PySem.HandSPX.refsVE bm && (C' == C && n == "ValueError.__new__")))
    | _, _ => false)
  | _ => false
theorem oexO_ok {C : Addr} {o : Obj} (e : oexO C o = true) : ∃ nm q N bs bm sn sub ab col dd k0 k1 k2 k3 k5, o = excClassObj nm q C N bs bm true sn sub ab col dd k0 k1 k2 k3 k5 "ValueError.__new__" ∧ PySem.HandSPX.refsVE bm = true := by
  unfold oexO at e
  split at e
  · rename_i dd cd sl
    split at e
    · rename_i C' bm k0 k1 k2 k3 n k5 hm hs
      obtain ⟨e1, e⟩ := He.ba e
      obtain ⟨e2, e⟩ := He.ba e
      obtain ⟨e3, e⟩ := He.ba e
      obtain ⟨e4, e5⟩ := He.ba e
      have e4' : C' = C := beq_iff_eq.mp e4
      have e5' : n = "ValueError.__new__" := beq_iff_eq.mp e5
      subst e4' e5'
      obtain ⟨a1, a2, a3, a4, a5, a6, a7, a8, a9, a10, a11⟩ := cd
      dsimp only at hm e1 e2
      subst hm
      have e2' : a11 = false := by simpa using e2
      subst e1 e2'
      obtain ⟨l⟩ := sl
      have hs' : l = [k0, k1, k2, k3, some (.builtin "ValueError.__new__"), k5] := hs
      subst hs'
      exact ⟨_, _, _, _, bm, _, _, _, _, dd, k0, k1, k2, k3, k5, rfl, e3⟩
    · cases e
  · cases e
abbrev oexAt (x : Str) (K : PySem.W.Frag) : Bool := match K.lookup (He.ga K x) with
  | some o => oexO (He.ga K x) o
  | none => false
def xfacts (x fld : Str) (K : PySem.W.Frag) : Bool :=
  oexAt x K && (decide (PySem.W.findIn K (.ref (He.ga K x)) "__setattr__" = some (some (.builtin "object.__setattr__"))) &&
  (decide (PySem.W.subIn K (.ref (He.ga K x)) (.type "BaseException") = some true) && (decide (PySem.W.typeIn K (.ref (He.ga K x)) = some (.type "type")) &&
  (PySem.W.keepIn K (.ref (He.ga K x)) && (xfB K (He.ga K x) && (decide (PySem.W.findIn K (.ref (He.ga K x)) fld = some none) &&
  (decide (PySem.W.findIn K (.ref (He.ga K x)) "__init__" = some (some (.ref (He.fAd K (x, some "__init__"))))) &&
  decide (PySem.W.typeIn K (.ref (He.fAd K (x, some "__init__"))) = some (.type "function")))))))))
theorem xfacts_ok {x fld : Str} {K : PySem.W.Frag} {mg : Str → Option Value} {st : Stmt} {fd : FuncData} (e : xfacts x fld K = true) (g : mg x = some (.ref (He.ga K x)))
    (F : FunD K "__init__" (x ++ ".__init__") (defArgs st) (defBody st) (defScope st) [] [] (He.fAd K (x, some "__init__")) fd) : Nonempty (XDef K mg x fld st) := by
  unfold xfacts at e
  obtain ⟨e1, e⟩ := He.ba e
  obtain ⟨e2, e⟩ := He.ba e
  obtain ⟨e3, e⟩ := He.ba e
  obtain ⟨e4, e⟩ := He.ba e
  obtain ⟨e5, e⟩ := He.ba e
  obtain ⟨e6, e⟩ := He.ba e
  obtain ⟨e7, e⟩ := He.ba e
  obtain ⟨e8, e9⟩ := He.ba e
  have ox : OexC K (He.ga K x) := by
    refine ⟨?_, of_decide_eq_true e2, of_decide_eq_true e3, of_decide_eq_true e4, e5⟩
    cases q : K.lookup (He.ga K x) with
    | none =>
      have z : (match K.lookup (He.ga K x) with | some o => oexO (He.ga K x) o | none => false) = true := e1
      rw [q] at z; cases z
    | some o =>
      have z : (match K.lookup (He.ga K x) with | some o => oexO (He.ga K x) o | none => false) = true := e1
      rw [q] at z
      obtain ⟨nm, q1, N, bs, bm, sn, sub, ab, col, dd, k0, k1, k2, k3, k5, eo, hb⟩ := oexO_ok z
      subst eo
      exact ⟨nm, q1, N, bs, bm, sn, sub, ab, col, dd, k0, k1, k2, k3, k5, rfl, hb⟩
  exact ⟨⟨fd, F, g, ox, xfB_ok e6, of_decide_eq_true e7, of_decide_eq_true e8, of_decide_eq_true e9⟩⟩

/-! ### built-in names -/
theorem bt_isinstance : bootBuiltins "isinstance" = some (.builtin "isinstance") := by decide +kernel
theorem bt_len : bootBuiltins "len" = some (.builtin "len") := by decide +kernel
theorem bt_all : bootBuiltins "all" = some (.builtin "all") := by decide +kernel
theorem bt_any : bootBuiltins "any" = some (.builtin "any") := by decide +kernel
theorem bt_abs : bootBuiltins "abs" = some (.builtin "abs") := by decide +kernel
theorem bt_repr : bootBuiltins "repr" = some (.builtin "repr") := by decide +kernel
theorem bt_list : bootBuiltins "list" = some (.type "list") := by decide +kernel
theorem bt_tuple : bootBuiltins "tuple" = some (.type "tuple") := by decide +kernel
theorem bt_dict : bootBuiltins "dict" = some (.type "dict") := by decide +kernel
theorem bt_int : bootBuiltins "int" = some (.type "int") := by decide +kernel
theorem bt_str : bootBuiltins "str" = some (.type "str") := by decide +kernel
theorem bt_bool : bootBuiltins "bool" = some (.type "bool") := by decide +kernel
theorem bt_sorted : bootBuiltins "sorted" = some (.builtin "sorted") := by decide +kernel
theorem bt_min : bootBuiltins "min" = some (.builtin "min") := by decide +kernel
theorem bt_max : bootBuiltins "max" = some (.builtin "max") := by decide +kernel
theorem bt_sum : bootBuiltins "sum" = some (.builtin "sum") := by decide +kernel

/-! ### calls by keywords: how they bind -/
theorem kb_of {K : PySem.W.Frag} {x qual : Str} {params : Arguments} {body : List Stmt} {scope : Scope} {f : Addr} {fd : FuncData} {ps ks : List Str} {n : Nat} {pm : List Nat} (F : FunD K x qual params body scope [] [] f fd)
    (h : ∀ (kV doc pv : Value) (an : Option Addr) (cdv ct : Value) (us ws : List Value), us.length = n → ws.length = ks.length → bindArgs (PySem.W.fnOf x qual params body scope .none kV doc pv an cdv ct) ⟨us, ks.zip ws⟩ = pure (ps.zip (perm pm (us ++ ws)))) : KB fd ps n ks pm := by
  obtain ⟨oc, od, dV, kV, doc, pv, an, cdv, ct, osl, rfl, lk, hcd, hD, hK⟩ := F.ex
  rcases hD with ⟨_, rfl⟩ | ⟨e, _⟩
  · exact ⟨fun us ws h1 h2 => h kV doc pv an cdv ct us ws h1 h2⟩
  · exact absurd rfl e
/-- x(lambda: e) of a def of the text -/
theorem ee_metD {X : Cx} {qn : Str} {T : List (Addr × Str)} {Wx : WX} {x a : Str} {st : Stmt} {c P : Addr} {k : Nat} {Ng : List Str} {params : Arguments} {body : Expr} {scope : Scope} {mf : M W → M W} {fb : EF} {p lpos pos : Pos} (hq : X.env.qual = qn) (D : Def X.K X.mg x st) (hg : Gl X x) (hb : L2.Binds X.K D.fd [a] []) (Sg : FnScope Ng [a] (defScope st)) (hNg : Ng[0]? = some a) (hva : Vis (defScope st) a)
    (hG : ∀ cdv, LamX.GivesTo X Ng x (defScope st) (He.fAd X.K (x, none)) cdv (defBody st) a (qn ++ "<lambda>") (TM (Cx.cn X T) mf))
    (TB : LamX.TabB X.base X.mg c P) (hcode : X.env.code = .ref c) (hmT : (P, qn ++ "<lambda>") ∈ T) (hu : ∀ p ∈ T, p.1 = P → p.2 = qn ++ "<lambda>") (hr : Room (k + 2) X.A) (L : LamX.LamS X.env.scope scope) (hdef : defaultsOf params X.env = ([], []))
    (hbind : ∀ (q : Str) (cl : List (Str × Addr)) (pm cv ctv : Value), bindArgs (PySem.W.kla_fn "<lambda>" q params body scope cl pm cv ctv) ⟨[], []⟩ = pure [])
    (hbody : ∀ (A : Around) (outer : List PySem.Env) (s : Shared) (H : Hp) (E : XK) (f c' : Addr), Room k (A.deeper (LamX.lamEnv X scope s.heap.objs.size f c')) → EE (LamX.lamCx X A outer s H E scope f c') T (WxE E) body fb)
    (hdb : (x == ("__debug__" : Str)) = false := by decide) (hd : (a == ("__debug__" : Str)) = false := by decide) (hcd : (a == ("__classdict__" : Str)) = false := by decide) :
    EE X T Wx (.Call (.Name x p) [.Lambda params body scope lpos] [] pos) (fMet mf fb) := by
  obtain ⟨fd, F, g⟩ := D
  have kp := F.kp
  obtain ⟨oc, od, dV, kV, doc, pv, an, cdv, ct, osl, efd, lk, hcg, _, _⟩ := F.ex
  dsimp only at hb
  subst efd
  subst hq
  exact ee_met hg g kp lk hcg hb Sg hNg hva (hG cdv) TB hcode hmT hu hr L hdef hbind hbody hdb hd hcd
end PF
set_option Elab.async false
set_option linter.all false
namespace C
open PySem PySem.Spec PyProof.Rows L2 PF 
noncomputable def f_is_list : SF :=
    sRet (fCall isiW (lCons (fVar 0) (lCons (fTup (lCons (fC (.typ .list)) (lCons (fC (.typ .tuple)) (lNil)))) (lNil))))
noncomputable def m_is_list : DF := defF 1 f_is_list
noncomputable def f_is_whole : SF :=
    sRet (fAnd (fCall isiW (lCons (fVar 0) (lCons (fC (.typ .int)) (lNil)))) (fOp1 notW (fCall isiW (lCons (fVar 0) (lCons (fC (.typ .bool)) (lNil))))))
noncomputable def m_is_whole : DF := defF 1 f_is_whole
noncomputable def f_is_number : SF :=
    sRet (fAnd (fFn m_is_whole (lCons (fVar 0) (lNil))) (fOp2 geI (fVar 0) (fC (.int 0))))
noncomputable def m_is_number : DF := defF 1 f_is_number
noncomputable def f_is_row : SF :=
    sRet (fAnd (fFn m_is_list (lCons (fVar 0) (lNil))) (fOp2 eqW (fCall lenW (lCons (fVar 0) (lNil))) (fVar 1)))
noncomputable def m_is_row : DF := defF 2 f_is_row
noncomputable def f_is_name : SF :=
    sRet (fAnd (fCall isiW (lCons (fVar 0) (lCons (fC (.typ .str)) (lNil)))) (fAnd (fChain ltI ltI (fC (.int 0)) (fCall lenW (lCons (fVar 0) (lNil))) (fC (.int 9))) (fCall allW (lCons (fLC (iVal (fVar 0)) (gN 1) (tYesW) (fOp2 inA (fVar 1) (fC (.str "abcdefghijklmnopqrstuvwxyz"))) [1]) (lNil)))))
noncomputable def m_is_name : DF := defF 2 f_is_name
noncomputable def f_is_index : SF :=
    sRet (fAnd (fFn m_is_number (lCons (fVar 0) (lNil))) (fOp2 ltI (fVar 0) (fVar 1)))
noncomputable def m_is_index : DF := defF 2 f_is_index
noncomputable def f__law_stream : SF :=
    sRet (fLstR (lCons (fListR (lCons (fVar 0) (lNil))) (lCons (fC (.int 0)) (lCons (fC (.int 0)) (lCons (fC (.int 19)) (lNil))))))
noncomputable def m__law_stream : DF := defF 1 f__law_stream
noncomputable def b__law_draw_1 : SF :=
    sSeq (sAsg (fCall absW (lCons (fM isLst mPopAt (fOp2 ixA (fVar 0) (fC (.int 0))) (lCons (fC (.int 0)) (lNil))) (lNil))) (gN 2))
    (sSeq (sAsg (fOp2 modW (fCall intW (lCons (fOp2 addW (fOp2 addW (fOp2 mulW (fOp2 ixA (fVar 0) (fC (.int 3))) (fC (.int 6151))) (fVar 2)) (fC (.int 7))) (lNil))) (fC (.int 2147483629))) (gSubW (fVar 0) (fC (.int 3))))
    (sAsg (fIf (bVal (fOp2 geI (fVar 2) (fOp2 powW (fC (.int 10)) (fC (.int 18))))) (fVar 2) (fC (.int 0))) (gSubW (fVar 0) (fC (.int 1)))))
noncomputable def f__law_draw : SF :=
    sSeq (sAsg (fOp2 addW (fOp2 ixA (fVar 0) (fC (.int 2))) (fC (.int 1))) (gSubW (fVar 0) (fC (.int 2))))
    (sSeq (sWhile (bAnd (bVal (fOp2 eqW (fOp2 ixA (fVar 0) (fC (.int 1))) (fC (.int 0)))) (bVal (fOp2 neW (fOp2 ixA (fVar 0) (fC (.int 0))) (fLst (lNil))))) (b__law_draw_1))
    (sSeq (sIf (bVal (fOp2 gtI (fOp2 ixA (fVar 0) (fC (.int 1))) (fC (.int 0)))) (sSeq (sAsg (fOp2 modW (fCall intW (lCons (fOp2 ixA (fVar 0) (fC (.int 1))) (lNil))) (fVar 1)) (gN 3))
    (sSeq (sAsg (fOp2 fdivW (fOp2 ixA (fVar 0) (fC (.int 1))) (fVar 1)) (gSubW (fVar 0) (fC (.int 1))))
    (sRet (fVar 3)))) (sNext))
    (sSeq (sAsg (fOp2 modW (fCall intW (lCons (fOp2 powW (fOp2 addW (fOp2 addW (fOp2 ixA (fVar 0) (fC (.int 3))) (fOp2 mulW (fC (.int 8191)) (fOp2 ixA (fVar 0) (fC (.int 2))))) (fC (.int 50021))) (fC (.int 5))) (lNil))) (fC (.int 2147483587))) (gN 4))
    (sRet (fOp2 modW (fOp2 modW (fCall intW (lCons (fOp2 powW (fOp2 addW (fOp2 addW (fOp2 mulW (fVar 4) (fC (.int 40009))) (fOp2 mulW (fC (.int 20011)) (fOp2 ixA (fVar 0) (fC (.int 2))))) (fC (.int 31))) (fC (.int 3))) (lNil))) (fC (.int 1000000009))) (fVar 1))))))
noncomputable def m__law_draw : DF := defF 5 f__law_draw
noncomputable def f__law_pick : SF :=
    sRet (fOp2 ixA (fVar 1) (fFn m__law_draw (lCons (fVar 0) (lCons (fCall lenW (lCons (fVar 1) (lNil))) (lNil)))))
noncomputable def m__law_pick : DF := defF 2 f__law_pick
noncomputable def f__law_same (rec : DF) : SF :=
    sSeq (sIf (bVal (fCall isiW (lCons (fVar 1) (lCons (fTup (lCons (fC (.typ .list)) (lCons (fC (.typ .tuple)) (lNil)))) (lNil))))) (sSeq (sIf (bOr (bVal (fOp2 neW (fCall isiW (lCons (fVar 0) (lCons (fC (.typ .list)) (lNil)))) (fCall isiW (lCons (fVar 1) (lCons (fC (.typ .list)) (lNil)))))) (bVal (fOp2 neW (fCall isiW (lCons (fVar 0) (lCons (fC (.typ .tuple)) (lNil)))) (fCall isiW (lCons (fVar 1) (lCons (fC (.typ .tuple)) (lNil))))))) (sRet (fC (.bl false))) (sNext))
    (sRet (fAnd (fOp2 eqW (fCall lenW (lCons (fVar 0) (lNil))) (fCall lenW (lCons (fVar 1) (lNil)))) (fCall allW (lCons (fLC (iZipW (lCons (fVar 0) (lCons (fVar 1) (lNil)))) (gT 2 (gsCons (gN 2) (gsCons (gN 3) (gsNil)))) (tYesW) (fFn rec (lCons (fVar 2) (lCons (fVar 3) (lNil)))) [2, 3]) (lNil)))))) (sNext))
    (sSeq (sIf (bVal (fCall isiW (lCons (fVar 1) (lCons (fC (.typ .dict)) (lNil))))) (sRet (fBad)) (sNext))
    (sSeq (sIf (bOr (bVal (fCall isiW (lCons (fVar 1) (lCons (fC (.typ .bool)) (lNil))))) (bVal (fCall isiW (lCons (fVar 0) (lCons (fC (.typ .bool)) (lNil)))))) (sRet (fAnd (fCall isiW (lCons (fVar 1) (lCons (fC (.typ .bool)) (lNil)))) (fAnd (fCall isiW (lCons (fVar 0) (lCons (fC (.typ .bool)) (lNil)))) (fOp2 eqW (fVar 0) (fVar 1))))) (sNext))
    (sSeq (sIf (bOr (bVal (fOp2 isN (fVar 1) (fC .non))) (bVal (fOp2 isN (fVar 0) (fC .non)))) (sRet (fAnd (fOp2 isN (fVar 1) (fC .non)) (fOp2 isN (fVar 0) (fC .non)))) (sNext))
    (sSeq (sIf (bOr (bVal (fOp2 neW (fCall isiW (lCons (fVar 1) (lCons (fC (.typ .int)) (lNil)))) (fCall isiW (lCons (fVar 0) (lCons (fC (.typ .int)) (lNil)))))) (bVal (fOp2 neW (fCall isiW (lCons (fVar 1) (lCons (fC (.typ .str)) (lNil)))) (fCall isiW (lCons (fVar 0) (lCons (fC (.typ .str)) (lNil))))))) (sRet (fC (.bl false))) (sNext))
    (sRet (fAnd (fOp1 notW (fCall isiW (lCons (fVar 0) (lCons (fTup (lCons (fC (.typ .list)) (lCons (fC (.typ .tuple)) (lCons (fC (.typ .dict)) (lNil))))) (lNil))))) (fOp2 eqW (fVar 0) (fVar 1))))))))
noncomputable def m__law_same : Nat → DF
  | 0 => fun _ _ => .bad
  | n + 1 => defF 4 (f__law_same (m__law_same n))
noncomputable def f__law_loose (rec : DF) : SF :=
    sSeq (sIf (bVal (fCall isiW (lCons (fVar 1) (lCons (fTup (lCons (fC (.typ .list)) (lCons (fC (.typ .tuple)) (lNil)))) (lNil))))) (sSeq (sAsg (fLC (iVal (fVar 1)) (gN 3) (tYesW) (fFn rec (lCons (fVar 0) (lCons (fVar 3) (lNil)))) [3]) (gN 2))
    (sRet (fIf (bVal (fOp2 eqW (fFn m__law_draw (lCons (fVar 0) (lCons (fC (.int 2)) (lNil)))) (fC (.int 0)))) (fVar 2) (fCall tupleW (lCons (fVar 2) (lNil)))))) (sNext))
    (sRet (fVar 1))
noncomputable def m__law_loose : Nat → DF
  | 0 => fun _ _ => .bad
  | n + 1 => defF 4 (f__law_loose (m__law_loose n))
noncomputable def b__law_names_1 : SF :=
    sIf (bVal (fOp2 inA (fVar 5) (fVar 2))) (sAsg (fOp2 addW (fOp2 addW (fSlice (fVar 5) (pNone) (pSome (fC (.int 3)))) (fOp2 ixA (fVar 3) (fOp2 fdivW (fVar 7) (fC (.int 26))))) (fOp2 ixA (fVar 3) (fOp2 modW (fVar 7) (fC (.int 26))))) (gN 5)) (sNext)
noncomputable def b__law_names_2 : SF :=
    sSeq (sAsg (fM isStr mJoin (fC (.str "")) (lCons (fLC (iRange1 (lCons (fOp2 addW (fC (.int 1)) (fFn m__law_draw (lCons (fVar 0) (lCons (fFn m__law_pick (lCons (fVar 0) (lCons (fLst (lCons (fC (.int 1)) (lCons (fC (.int 1)) (lCons (fC (.int 3)) (lNil))))) (lNil)))) (lNil))))) (lNil))) (gN 6) (tYesW) (fFn m__law_pick (lCons (fVar 0) (lCons (fVar 3) (lNil)))) [6]) (lNil))) (gN 5))
    (sSeq (sFor (iRange1 (lCons (fOp2 addW (fCall lenW (lCons (fVar 2) (lNil))) (fC (.int 1))) (lNil))) (gN 7) (b__law_names_1))
    (sExpr (fM isLst mAppend (fVar 2) (lCons (fVar 5) (lNil)))))
noncomputable def f__law_names : SF :=
    sSeq (sAsg (fTup (lCons (fLstR (lNil)) (lCons (fC (.str "abcdefghijklmnopqrstuvwxyz")) (lNil)))) (gT 2 (gsCons (gN 2) (gsCons (gN 3) (gsNil)))))
    (sSeq (sFor (iRange1 (lCons (fVar 1) (lNil))) (gN 4) (b__law_names_2))
    (sRet (fVar 2)))
noncomputable def m__law_names : DF := defF 8 f__law_names
noncomputable def f__law_copied (rec : DF) : SF :=
    sSeq (sIf (bVal (fCall isiW (lCons (fVar 0) (lCons (fTup (lCons (fC (.typ .list)) (lCons (fC (.typ .tuple)) (lNil)))) (lNil))))) (sSeq (sAsg (fLC (iVal (fVar 0)) (gN 2) (tYesW) (fFn rec (lCons (fVar 2) (lNil))) [2]) (gN 1))
    (sRet (fIf (bVal (fCall isiW (lCons (fVar 0) (lCons (fC (.typ .list)) (lNil))))) (fVar 1) (fCall tupleW (lCons (fVar 1) (lNil)))))) (sNext))
    (sSeq (sIf (bVal (fCall isiW (lCons (fVar 0) (lCons (fC (.typ .dict)) (lNil))))) (sRet (fDictP (lCons (fLC (iKeysW (fVar 0)) (gN 3) (tYesW) (fTup (lCons (fVar 3) (lCons (fFn rec (lCons (fOp2 ixA (fVar 0) (fVar 3)) (lNil))) (lNil)))) [3]) (lNil)))) (sNext))
    (sRet (fVar 0)))
noncomputable def m__law_copied : Nat → DF
  | 0 => fun _ _ => .bad
  | n + 1 => defF 4 (f__law_copied (m__law_copied n))
noncomputable def b__law_spoilt_1 (rec : DF) : SF :=
    sExpr (fFn rec (lCons (fVar 2) (lNil)))
noncomputable def f__law_spoilt (rec : DF) : SF :=
    sSeq (sIf (bVal (fCall isiW (lCons (fVar 0) (lCons (fC (.typ .dict)) (lNil))))) (sSeq (sBad)
    (sBad)) (sNext))
    (sSeq (sIf (bVal (fCall isiW (lCons (fVar 0) (lCons (fTup (lCons (fC (.typ .list)) (lCons (fC (.typ .tuple)) (lNil)))) (lNil))))) (sFor (iVal (fVar 0)) (gN 2) (b__law_spoilt_1 rec)) (sNext))
    (sIf (bVal (fCall isiW (lCons (fVar 0) (lCons (fC (.typ .list)) (lNil))))) (sExpr (fM isLst mAppend (fVar 0) (lCons (fC (.str "late")) (lNil)))) (sNext)))
noncomputable def m__law_spoilt : Nat → DF
  | 0 => fun _ _ => .bad
  | n + 1 => defF 3 (f__law_spoilt (m__law_spoilt n))
end C
set_option Elab.async false
set_option linter.all false
namespace CL
open PySem PySem.Spec PyProof.Rows L2 PF C
noncomputable def f_is_signed : SF :=
    sRet (fAnd (fFn m_is_row (lCons (fVar 0) (lCons (fC (.int 2)) (lNil)))) (fAnd (fFn m_is_name (lCons (fOp2 ixA (fVar 0) (fC (.int 0))) (lNil))) (fAnd (fFn m_is_whole (lCons (fOp2 ixA (fVar 0) (fC (.int 1))) (lNil))) (fOp2 inA (fOp2 ixA (fVar 0) (fC (.int 1))) (fTup (lCons (fC (.int 1)) (lCons (fOp1 negW (fC (.int 1))) (lNil))))))))
noncomputable def m_is_signed : DF := defF 1 f_is_signed
noncomputable def f_turned_about : SF :=
    sRet (fLC (iVal (fOp1 revW (fVar 0))) (gT 2 (gsCons (gN 1) (gsCons (gN 2) (gsNil)))) (tYesW) (fTup (lCons (fVar 1) (lCons (fOp1 negW (fVar 2)) (lNil)))) [1, 2])
noncomputable def m_turned_about : DF := defF 3 f_turned_about
noncomputable def f_is_line : SF :=
    sSeq (sIf (bOr (bNot (bVal (fFn m_is_list (lCons (fVar 0) (lNil))))) (bNot (bVal (fCall allW (lCons (fLC (iVal (fVar 0)) (gN 1) (tYesW) (fFn m_is_signed (lCons (fVar 1) (lNil))) [1]) (lNil)))))) (sRet (fC (.bl false))) (sNext))
    (sRet (fOp2 eqW (fCall lenW (lCons (fDC (iVal (fVar 0)) (gN 1) (tYesW) (fOp2 ixA (fVar 1) (fC (.int 0))) (fC (.bl true)) [1]) (lNil))) (fCall lenW (lCons (fVar 0) (lNil)))))
noncomputable def m_is_line : DF := defF 2 f_is_line
noncomputable def f_as_line : SF :=
    sSeq (sIf (bNot (bVal (fFn m_is_line (lCons (fVar 0) (lNil))))) (sRaise "BadLine" "line" (fVar 0)) (sNext))
    (sRet (fLCR (iVal (fVar 0)) (gN 1) (tYesW) (fCall tupleW (lCons (fVar 1) (lNil))) [1]))
noncomputable def m_as_line : DF := defF 2 f_as_line
noncomputable def f_is_turn : SF :=
    sRet (fAnd (fFn m_is_row (lCons (fVar 1) (lCons (fC (.int 2)) (lNil)))) (fAnd (fCall allW (lCons (fLC (iVal (fVar 1)) (gN 2) (tYesW) (fFn m_is_index (lCons (fVar 2) (lCons (fCall lenW (lCons (fVar 0) (lNil))) (lNil)))) [2]) (lNil))) (fOp2 leI (fOp2 ixA (fVar 1) (fC (.int 0))) (fOp2 ixA (fVar 1) (fC (.int 1))))))
noncomputable def m_is_turn : DF := defF 3 f_is_turn
noncomputable def f_turned_over : SF :=
    sSeq (sAsg (fVar 1) (gAny 2 (gsCons (gN 2) (gsCons (gN 3) (gsNil)))))
    (sRet (fAddR (fOp2 addW (fSlice (fVar 0) (pNone) (pSome (fVar 2))) (fFn m_turned_about (lCons (fSlice (fVar 0) (pSome (fVar 2)) (pSome (fOp2 addW (fVar 3) (fC (.int 1))))) (lNil)))) (fSlice (fVar 0) (pSome (fOp2 addW (fVar 3) (fC (.int 1)))) (pNone))))
noncomputable def m_turned_over : DF := defF 4 f_turned_over
noncomputable def f_turned : SF :=
    sSeq (sAsg (fFn m_as_line (lCons (fVar 0) (lNil))) (gN 2))
    (sSeq (sIf (bNot (bVal (fFn m_is_turn (lCons (fVar 2) (lCons (fVar 1) (lNil)))))) (sRaise "BadTurn" "turn" (fVar 1)) (sNext))
    (sRet (fFn m_turned_over (lCons (fVar 2) (lCons (fVar 1) (lNil))))))
noncomputable def m_turned : DF := defF 3 f_turned
noncomputable def f_first_no_turn : SF :=
    sSeq (sIf (bNot (bVal (fFn m_is_list (lCons (fVar 1) (lNil))))) (sRet (fC (.int 0))) (sNext))
    (sSeq (sAsg (fLC (iEnumA (lCons (fVar 1) (lNil))) (gT 2 (gsCons (gN 3) (gsCons (gN 4) (gsNil)))) (bNot (bVal (fFn m_is_turn (lCons (fVar 0) (lCons (fVar 4) (lNil)))))) (fVar 3) [3, 4]) (gN 2))
    (sRet (fIf (bVal (fOp2 neW (fVar 2) (fLst (lNil)))) (fOp2 ixA (fVar 2) (fC (.int 0))) (fC .non))))
noncomputable def m_first_no_turn : DF := defF 5 f_first_no_turn
noncomputable def f_turns_fault : SF :=
    sRet (fFn m_first_no_turn (lCons (fFn m_as_line (lCons (fVar 0) (lNil))) (lCons (fVar 1) (lNil))))
noncomputable def m_turns_fault : DF := defF 2 f_turns_fault
noncomputable def b_behind_turns_1 : SF :=
    sAsg (fFn m_turned_over (lCons (fVar 2) (lCons (fVar 3) (lNil)))) (gN 2)
noncomputable def f_behind_turns : SF :=
    sSeq (sAsg (fVar 0) (gN 2))
    (sSeq (sFor (iVal (fVar 1)) (gN 3) (b_behind_turns_1))
    (sRet (fVar 2)))
noncomputable def m_behind_turns : DF := defF 4 f_behind_turns
noncomputable def f_turns_behind : SF :=
    sSeq (sAsg (fFn m_as_line (lCons (fVar 0) (lNil))) (gN 2))
    (sSeq (sAsg (fFn m_first_no_turn (lCons (fVar 2) (lCons (fVar 1) (lNil)))) (gN 3))
    (sSeq (sIf (bVal (fOp2 notN (fVar 3) (fC .non))) (sRaise "BadRun" "index" (fVar 3)) (sNext))
    (sRet (fFn m_behind_turns (lCons (fVar 2) (lCons (fVar 1) (lNil)))))))
noncomputable def m_turns_behind : DF := defF 4 f_turns_behind
end CL
set_option Elab.async false
set_option linter.all false
set_option maxRecDepth 100000
set_option maxHeartbeats 4000000
namespace K30
open PySem PySem.Spec PyProof.Rows L2 PF

def classBody : Stmt → List Stmt
  | .ClassDef _ _ _ b _ _ _ _ _ _ _ => b
  | _ => []
def top (i : Nat) : Stmt := PySem.Challenge.pw_joinedanew_k30_whole_lines_and_turns.main.body.getD i (.Pass ⟨0, 0, 0, 0⟩)
abbrev s_is_list : Stmt := top 2
abbrev s_is_whole : Stmt := top 3
abbrev s_is_number : Stmt := top 4
abbrev s_is_row : Stmt := top 5
abbrev s_is_name : Stmt := top 6
abbrev s_is_index : Stmt := top 7
abbrev s_is_signed : Stmt := top 15
abbrev s_turned_about : Stmt := top 16
abbrev s_is_line : Stmt := top 18
abbrev s_as_line : Stmt := top 19
abbrev s_is_turn : Stmt := top 20
abbrev s_turned_over : Stmt := top 21
abbrev s_turned : Stmt := top 22
abbrev s_first_no_turn : Stmt := top 23
abbrev s_turns_fault : Stmt := top 24
abbrev s_behind_turns : Stmt := top 25
abbrev s_turns_behind : Stmt := top 26
abbrev s__law_stream : Stmt := top 28
abbrev s__law_draw : Stmt := top 29
abbrev s__law_pick : Stmt := top 30
abbrev s__law_same : Stmt := top 31
abbrev s__law_loose : Stmt := top 32
abbrev s__law_names : Stmt := top 33
abbrev s__law_copied : Stmt := top 34
abbrev s__law_spoilt : Stmt := top 35
abbrev s__law_line : Stmt := top 36
abbrev s__law_over : Stmt := top 37
abbrev s__law_is_turn : Stmt := top 38
abbrev s__law_turn_run : Stmt := top 39
abbrev s__law_met : Stmt := top 40
abbrev s__law_odd_turn : Stmt := top 41
abbrev s_law : Stmt := top 42
abbrev s_init_BadRun : Stmt := (classBody (top 10)).getD 0 (.Pass ⟨0, 0, 0, 0⟩)
abbrev s_init_BadLine : Stmt := (classBody (top 12)).getD 0 (.Pass ⟨0, 0, 0, 0⟩)
abbrev s_init_BadTurn : Stmt := (classBody (top 13)).getD 0 (.Pass ⟨0, 0, 0, 0⟩)
structure Txt (K : PySem.W.Frag) (mg : Str → Option Value) where
  d_is_list : Def K mg "is_list" s_is_list
  d_is_whole : Def K mg "is_whole" s_is_whole
  d_is_number : Def K mg "is_number" s_is_number
  d_is_row : Def K mg "is_row" s_is_row
  d_is_name : Def K mg "is_name" s_is_name
  d_is_index : Def K mg "is_index" s_is_index
  d_is_signed : Def K mg "is_signed" s_is_signed
  d_turned_about : Def K mg "turned_about" s_turned_about
  d_is_line : Def K mg "is_line" s_is_line
  d_as_line : Def K mg "as_line" s_as_line
  d_is_turn : Def K mg "is_turn" s_is_turn
  d_turned_over : Def K mg "turned_over" s_turned_over
  d_turned : Def K mg "turned" s_turned
  d_first_no_turn : Def K mg "first_no_turn" s_first_no_turn
  d_turns_fault : Def K mg "turns_fault" s_turns_fault
  d_behind_turns : Def K mg "behind_turns" s_behind_turns
  d_turns_behind : Def K mg "turns_behind" s_turns_behind
  d__law_stream : Def K mg "_law_stream" s__law_stream
  d__law_draw : Def K mg "_law_draw" s__law_draw
  d__law_pick : Def K mg "_law_pick" s__law_pick
  d__law_same : Def K mg "_law_same" s__law_same
  d__law_loose : Def K mg "_law_loose" s__law_loose
  d__law_names : Def K mg "_law_names" s__law_names
  d__law_copied : Def K mg "_law_copied" s__law_copied
  d__law_spoilt : Def K mg "_law_spoilt" s__law_spoilt
  d__law_line : Def K mg "_law_line" s__law_line
  d__law_over : Def K mg "_law_over" s__law_over
  d__law_is_turn : Def K mg "_law_is_turn" s__law_is_turn
  d__law_turn_run : Def K mg "_law_turn_run" s__law_turn_run
  d__law_met : Def K mg "_law_met" s__law_met
  d__law_odd_turn : Def K mg "_law_odd_turn" s__law_odd_turn
  d_law : Def K mg "law" s_law
  x_BadRun : XDef K mg "BadRun" "index" s_init_BadRun
  x_BadLine : XDef K mg "BadLine" "line" s_init_BadLine
  x_BadTurn : XDef K mg "BadTurn" "turn" s_init_BadTurn
  z_abs : mg "abs" = none
  z_all : mg "all" = none
  z_bool : mg "bool" = none
  z_dict : mg "dict" = none
  z_enumerate : mg "enumerate" = none
  z_int : mg "int" = none
  z_isinstance : mg "isinstance" = none
  z_len : mg "len" = none
  z_list : mg "list" = none
  z_range : mg "range" = none
  z_repr : mg "repr" = none
  z_str : mg "str" = none
  z_tuple : mg "tuple" = none
  z_zip : mg "zip" = none
  c_LETTERS : ∃ t, mg "LETTERS" = some (.str "abcdefghijklmnopqrstuvwxyz" t)
  e_BadRun_BadTurn : PySem.W.exmOne K (.ref (He.ga K "BadRun")) (.ref (He.ga K "BadTurn")) = some false
  e_BadLine_BadTurn : PySem.W.exmOne K (.ref (He.ga K "BadLine")) (.ref (He.ga K "BadTurn")) = some false
  e_BadTurn_BadTurn : PySem.W.exmOne K (.ref (He.ga K "BadTurn")) (.ref (He.ga K "BadTurn")) = some true
  e_BadRun_BadRun : PySem.W.exmOne K (.ref (He.ga K "BadRun")) (.ref (He.ga K "BadRun")) = some true
  e_BadLine_BadRun : PySem.W.exmOne K (.ref (He.ga K "BadLine")) (.ref (He.ga K "BadRun")) = some false
  e_BadTurn_BadRun : PySem.W.exmOne K (.ref (He.ga K "BadTurn")) (.ref (He.ga K "BadRun")) = some false
section
variable {P : Program} {w : World} {K : PySem.W.Frag} {mg : Str → Option Value} {base : Heap} {T : List (Addr × Str)}
theorem si_BadRun : FnScope ["self", "index"] ["self", "index"] (defScope s_init_BadRun) := ⟨rfl, rfl, rfl, by decide +kernel, rfl, by decide +kernel, by decide +kernel⟩
theorem xi_BadRun (Z : Txt K mg) : FnOk P w K mg base (L2.CX P w) 1 (He.fAd K ("BadRun", some "__init__")) Z.x_BadRun.fd ["self", "index"] (spXI (He.ga K "BadRun") "index") := xi_ok (k := 0) Z.x_BadRun.F si_BadRun Z.x_BadRun.O Z.x_BadRun.no rfl rfl rfl rfl
theorem bi_BadRun (Z : Txt K mg) : L2.Binds K Z.x_BadRun.fd ["self", "index"] [] := Z.x_BadRun.F.bindsN fun _ _ _ _ _ _ us hl => match us, hl with | [_, _], _ => rfl
theorem si_BadLine : FnScope ["self", "line"] ["self", "line"] (defScope s_init_BadLine) := ⟨rfl, rfl, rfl, by decide +kernel, rfl, by decide +kernel, by decide +kernel⟩
theorem xi_BadLine (Z : Txt K mg) : FnOk P w K mg base (L2.CX P w) 1 (He.fAd K ("BadLine", some "__init__")) Z.x_BadLine.fd ["self", "line"] (spXI (He.ga K "BadLine") "line") := xi_ok (k := 0) Z.x_BadLine.F si_BadLine Z.x_BadLine.O Z.x_BadLine.no rfl rfl rfl rfl
theorem bi_BadLine (Z : Txt K mg) : L2.Binds K Z.x_BadLine.fd ["self", "line"] [] := Z.x_BadLine.F.bindsN fun _ _ _ _ _ _ us hl => match us, hl with | [_, _], _ => rfl
theorem si_BadTurn : FnScope ["self", "turn"] ["self", "turn"] (defScope s_init_BadTurn) := ⟨rfl, rfl, rfl, by decide +kernel, rfl, by decide +kernel, by decide +kernel⟩
theorem xi_BadTurn (Z : Txt K mg) : FnOk P w K mg base (L2.CX P w) 1 (He.fAd K ("BadTurn", some "__init__")) Z.x_BadTurn.fd ["self", "turn"] (spXI (He.ga K "BadTurn") "turn") := xi_ok (k := 0) Z.x_BadTurn.F si_BadTurn Z.x_BadTurn.O Z.x_BadTurn.no rfl rfl rfl rfl
theorem bi_BadTurn (Z : Txt K mg) : L2.Binds K Z.x_BadTurn.fd ["self", "turn"] [] := Z.x_BadTurn.F.bindsN fun _ _ _ _ _ _ us hl => match us, hl with | [_, _], _ => rfl
theorem sc_is_list : FnScope ["thing"] ["thing"] (defScope s_is_list) := ⟨rfl, rfl, rfl, by decide +kernel, rfl, by decide +kernel, by decide +kernel⟩
theorem bd_is_list (Z : Txt K mg) : L2.Binds K Z.d_is_list.fd ["thing"] [] := Z.d_is_list.F.bindsN fun _ _ _ _ _ _ us hl => match us, hl with | [_], _ => rfl
theorem sc_is_whole : FnScope ["thing"] ["thing"] (defScope s_is_whole) := ⟨rfl, rfl, rfl, by decide +kernel, rfl, by decide +kernel, by decide +kernel⟩
theorem bd_is_whole (Z : Txt K mg) : L2.Binds K Z.d_is_whole.fd ["thing"] [] := Z.d_is_whole.F.bindsN fun _ _ _ _ _ _ us hl => match us, hl with | [_], _ => rfl
theorem sc_is_number : FnScope ["thing"] ["thing"] (defScope s_is_number) := ⟨rfl, rfl, rfl, by decide +kernel, rfl, by decide +kernel, by decide +kernel⟩
theorem bd_is_number (Z : Txt K mg) : L2.Binds K Z.d_is_number.fd ["thing"] [] := Z.d_is_number.F.bindsN fun _ _ _ _ _ _ us hl => match us, hl with | [_], _ => rfl
theorem sc_is_row : FnScope ["thing", "many"] ["thing", "many"] (defScope s_is_row) := ⟨rfl, rfl, rfl, by decide +kernel, rfl, by decide +kernel, by decide +kernel⟩
theorem bd_is_row (Z : Txt K mg) : L2.Binds K Z.d_is_row.fd ["thing", "many"] [] := Z.d_is_row.F.bindsN fun _ _ _ _ _ _ us hl => match us, hl with | [_, _], _ => rfl
theorem sc_is_name : FnScope ["thing", "sign"] ["thing"] (defScope s_is_name) := ⟨rfl, rfl, rfl, by decide +kernel, rfl, by decide +kernel, by decide +kernel⟩
theorem bd_is_name (Z : Txt K mg) : L2.Binds K Z.d_is_name.fd ["thing"] [] := Z.d_is_name.F.bindsN fun _ _ _ _ _ _ us hl => match us, hl with | [_], _ => rfl
theorem sc_is_index : FnScope ["thing", "many"] ["thing", "many"] (defScope s_is_index) := ⟨rfl, rfl, rfl, by decide +kernel, rfl, by decide +kernel, by decide +kernel⟩
theorem bd_is_index (Z : Txt K mg) : L2.Binds K Z.d_is_index.fd ["thing", "many"] [] := Z.d_is_index.F.bindsN fun _ _ _ _ _ _ us hl => match us, hl with | [_, _], _ => rfl
theorem sc_is_signed : FnScope ["thing"] ["thing"] (defScope s_is_signed) := ⟨rfl, rfl, rfl, by decide +kernel, rfl, by decide +kernel, by decide +kernel⟩
theorem bd_is_signed (Z : Txt K mg) : L2.Binds K Z.d_is_signed.fd ["thing"] [] := Z.d_is_signed.F.bindsN fun _ _ _ _ _ _ us hl => match us, hl with | [_], _ => rfl
theorem sc_turned_about : FnScope ["things", "name", "sign"] ["things"] (defScope s_turned_about) := ⟨rfl, rfl, rfl, by decide +kernel, rfl, by decide +kernel, by decide +kernel⟩
theorem bd_turned_about (Z : Txt K mg) : L2.Binds K Z.d_turned_about.fd ["things"] [] := Z.d_turned_about.F.bindsN fun _ _ _ _ _ _ us hl => match us, hl with | [_], _ => rfl
theorem sc_is_line : FnScope ["thing", "one"] ["thing"] (defScope s_is_line) := ⟨rfl, rfl, rfl, by decide +kernel, rfl, by decide +kernel, by decide +kernel⟩
theorem bd_is_line (Z : Txt K mg) : L2.Binds K Z.d_is_line.fd ["thing"] [] := Z.d_is_line.F.bindsN fun _ _ _ _ _ _ us hl => match us, hl with | [_], _ => rfl
theorem sc_as_line : FnScope ["line", "one"] ["line"] (defScope s_as_line) := ⟨rfl, rfl, rfl, by decide +kernel, rfl, by decide +kernel, by decide +kernel⟩
theorem bd_as_line (Z : Txt K mg) : L2.Binds K Z.d_as_line.fd ["line"] [] := Z.d_as_line.F.bindsN fun _ _ _ _ _ _ us hl => match us, hl with | [_], _ => rfl
theorem sc_is_turn : FnScope ["line", "thing", "at"] ["line", "thing"] (defScope s_is_turn) := ⟨rfl, rfl, rfl, by decide +kernel, rfl, by decide +kernel, by decide +kernel⟩
theorem bd_is_turn (Z : Txt K mg) : L2.Binds K Z.d_is_turn.fd ["line", "thing"] [] := Z.d_is_turn.F.bindsN fun _ _ _ _ _ _ us hl => match us, hl with | [_, _], _ => rfl
theorem sc_turned_over : FnScope ["line", "turn", "begin", "end"] ["line", "turn"] (defScope s_turned_over) := ⟨rfl, rfl, rfl, by decide +kernel, rfl, by decide +kernel, by decide +kernel⟩
theorem bd_turned_over (Z : Txt K mg) : L2.Binds K Z.d_turned_over.fd ["line", "turn"] [] := Z.d_turned_over.F.bindsN fun _ _ _ _ _ _ us hl => match us, hl with | [_, _], _ => rfl
theorem sc_turned : FnScope ["line", "turn", "things"] ["line", "turn"] (defScope s_turned) := ⟨rfl, rfl, rfl, by decide +kernel, rfl, by decide +kernel, by decide +kernel⟩
theorem bd_turned (Z : Txt K mg) : L2.Binds K Z.d_turned.fd ["line", "turn"] [] := Z.d_turned.F.bindsN fun _ _ _ _ _ _ us hl => match us, hl with | [_, _], _ => rfl
theorem sc_first_no_turn : FnScope ["line", "run", "wrong", "index", "thing"] ["line", "run"] (defScope s_first_no_turn) := ⟨rfl, rfl, rfl, by decide +kernel, rfl, by decide +kernel, by decide +kernel⟩
theorem bd_first_no_turn (Z : Txt K mg) : L2.Binds K Z.d_first_no_turn.fd ["line", "run"] [] := Z.d_first_no_turn.F.bindsN fun _ _ _ _ _ _ us hl => match us, hl with | [_, _], _ => rfl
theorem sc_turns_fault : FnScope ["line", "thing"] ["line", "thing"] (defScope s_turns_fault) := ⟨rfl, rfl, rfl, by decide +kernel, rfl, by decide +kernel, by decide +kernel⟩
theorem bd_turns_fault (Z : Txt K mg) : L2.Binds K Z.d_turns_fault.fd ["line", "thing"] [] := Z.d_turns_fault.F.bindsN fun _ _ _ _ _ _ us hl => match us, hl with | [_, _], _ => rfl
theorem sc_behind_turns : FnScope ["line", "run", "now", "turn"] ["line", "run"] (defScope s_behind_turns) := ⟨rfl, rfl, rfl, by decide +kernel, rfl, by decide +kernel, by decide +kernel⟩
theorem bd_behind_turns (Z : Txt K mg) : L2.Binds K Z.d_behind_turns.fd ["line", "run"] [] := Z.d_behind_turns.F.bindsN fun _ _ _ _ _ _ us hl => match us, hl with | [_, _], _ => rfl
theorem sc_turns_behind : FnScope ["line", "run", "things", "wrong"] ["line", "run"] (defScope s_turns_behind) := ⟨rfl, rfl, rfl, by decide +kernel, rfl, by decide +kernel, by decide +kernel⟩
theorem bd_turns_behind (Z : Txt K mg) : L2.Binds K Z.d_turns_behind.fd ["line", "run"] [] := Z.d_turns_behind.F.bindsN fun _ _ _ _ _ _ us hl => match us, hl with | [_, _], _ => rfl
theorem sc__law_stream : FnScope ["script"] ["script"] (defScope s__law_stream) := ⟨rfl, rfl, rfl, by decide +kernel, rfl, by decide +kernel, by decide +kernel⟩
theorem bd__law_stream (Z : Txt K mg) : L2.Binds K Z.d__law_stream.fd ["script"] [] := Z.d__law_stream.F.bindsN fun _ _ _ _ _ _ us hl => match us, hl with | [_], _ => rfl
theorem sc__law_draw : FnScope ["stream", "many", "cell", "digit", "mixed"] ["stream", "many"] (defScope s__law_draw) := ⟨rfl, rfl, rfl, by decide +kernel, rfl, by decide +kernel, by decide +kernel⟩
theorem bd__law_draw (Z : Txt K mg) : L2.Binds K Z.d__law_draw.fd ["stream", "many"] [] := Z.d__law_draw.F.bindsN fun _ _ _ _ _ _ us hl => match us, hl with | [_, _], _ => rfl
theorem sc__law_pick : FnScope ["stream", "things"] ["stream", "things"] (defScope s__law_pick) := ⟨rfl, rfl, rfl, by decide +kernel, rfl, by decide +kernel, by decide +kernel⟩
theorem bd__law_pick (Z : Txt K mg) : L2.Binds K Z.d__law_pick.fd ["stream", "things"] [] := Z.d__law_pick.F.bindsN fun _ _ _ _ _ _ us hl => match us, hl with | [_, _], _ => rfl
theorem sc__law_same : FnScope ["found", "due", "mine", "theirs"] ["found", "due"] (defScope s__law_same) := ⟨rfl, rfl, rfl, by decide +kernel, rfl, by decide +kernel, by decide +kernel⟩
theorem bd__law_same (Z : Txt K mg) : L2.Binds K Z.d__law_same.fd ["found", "due"] [] := Z.d__law_same.F.bindsN fun _ _ _ _ _ _ us hl => match us, hl with | [_, _], _ => rfl
theorem sc__law_loose : FnScope ["stream", "thing", "some", "one"] ["stream", "thing"] (defScope s__law_loose) := ⟨rfl, rfl, rfl, by decide +kernel, rfl, by decide +kernel, by decide +kernel⟩
theorem bd__law_loose (Z : Txt K mg) : L2.Binds K Z.d__law_loose.fd ["stream", "thing"] [] := Z.d__law_loose.F.bindsN fun _ _ _ _ _ _ us hl => match us, hl with | [_, _], _ => rfl
theorem sc__law_names : FnScope ["stream", "many", "found", "signs", "k", "name", "one", "at"] ["stream", "many"] (defScope s__law_names) := ⟨rfl, rfl, rfl, by decide +kernel, rfl, by decide +kernel, by decide +kernel⟩
theorem bd__law_names (Z : Txt K mg) : L2.Binds K Z.d__law_names.fd ["stream", "many"] [] := Z.d__law_names.F.bindsN fun _ _ _ _ _ _ us hl => match us, hl with | [_, _], _ => rfl
theorem sc__law_copied : FnScope ["thing", "some", "one", "key"] ["thing"] (defScope s__law_copied) := ⟨rfl, rfl, rfl, by decide +kernel, rfl, by decide +kernel, by decide +kernel⟩
theorem bd__law_copied (Z : Txt K mg) : L2.Binds K Z.d__law_copied.fd ["thing"] [] := Z.d__law_copied.F.bindsN fun _ _ _ _ _ _ us hl => match us, hl with | [_], _ => rfl
theorem sc__law_spoilt : FnScope ["thing", "key", "part"] ["thing"] (defScope s__law_spoilt) := ⟨rfl, rfl, rfl, by decide +kernel, rfl, by decide +kernel, by decide +kernel⟩
theorem bd__law_spoilt (Z : Txt K mg) : L2.Binds K Z.d__law_spoilt.fd ["thing"] [] := Z.d__law_spoilt.F.bindsN fun _ _ _ _ _ _ us hl => match us, hl with | [_], _ => rfl
theorem sc__law_line : FnScope ["stream", "things", "odds", "names", "name"] ["stream", "things", "odds"] (defScope s__law_line) := ⟨rfl, rfl, rfl, by decide +kernel, rfl, by decide +kernel, by decide +kernel⟩
theorem bd__law_line (Z : Txt K mg) : L2.Binds K Z.d__law_line.fd ["stream", "things", "odds"] [] := Z.d__law_line.F.bindsN fun _ _ _ _ _ _ us hl => match us, hl with | [_, _, _], _ => rfl
theorem sc__law_over : FnScope ["line", "turn", "begin", "end", "name", "sign"] ["line", "turn"] (defScope s__law_over) := ⟨rfl, rfl, rfl, by decide +kernel, rfl, by decide +kernel, by decide +kernel⟩
theorem bd__law_over (Z : Txt K mg) : L2.Binds K Z.d__law_over.fd ["line", "turn"] [] := Z.d__law_over.F.bindsN fun _ _ _ _ _ _ us hl => match us, hl with | [_, _], _ => rfl
theorem sc__law_is_turn : FnScope ["line", "thing", "at"] ["line", "thing"] (defScope s__law_is_turn) := ⟨rfl, rfl, rfl, by decide +kernel, rfl, by decide +kernel, by decide +kernel⟩
theorem bd__law_is_turn (Z : Txt K mg) : L2.Binds K Z.d__law_is_turn.fd ["line", "thing"] [] := Z.d__law_is_turn.F.bindsN fun _ _ _ _ _ _ us hl => match us, hl with | [_, _], _ => rfl
theorem sc__law_turn_run : FnScope ["line", "thing", "now", "index", "turn"] ["line", "thing"] (defScope s__law_turn_run) := ⟨rfl, rfl, rfl, by decide +kernel, rfl, by decide +kernel, by decide +kernel⟩
theorem bd__law_turn_run (Z : Txt K mg) : L2.Binds K Z.d__law_turn_run.fd ["line", "thing"] [] := Z.d__law_turn_run.F.bindsN fun _ _ _ _ _ _ us hl => match us, hl with | [_, _], _ => rfl
theorem sc__law_met : FnScope ["ask", "e"] ["ask"] (defScope s__law_met) := ⟨rfl, rfl, rfl, by decide +kernel, rfl, by decide +kernel, by decide +kernel⟩
theorem bd__law_met (Z : Txt K mg) : L2.Binds K Z.d__law_met.fd ["ask"] [] := Z.d__law_met.F.bindsN fun _ _ _ _ _ _ us hl => match us, hl with | [_], _ => rfl
theorem sc__law_odd_turn : FnScope ["stream", "line", "one", "other", "odds"] ["stream", "line"] (defScope s__law_odd_turn) := ⟨rfl, rfl, rfl, by decide +kernel, rfl, by decide +kernel, by decide +kernel⟩
theorem bd__law_odd_turn (Z : Txt K mg) : L2.Binds K Z.d__law_odd_turn.fd ["stream", "line"] [] := Z.d__law_odd_turn.F.bindsN fun _ _ _ _ _ _ us hl => match us, hl with | [_, _], _ => rfl
theorem sc_law : FnScope ["script", "stream", "turn", "line", "kept", "again", "thing", "due", "handed", "was", "found", "run", "step", "begin", "at", "things", "index", "behind", "met"] ["script"] (defScope s_law) := ⟨rfl, rfl, rfl, by decide +kernel, rfl, by decide +kernel, by decide +kernel⟩
theorem bd_law (Z : Txt K mg) : L2.Binds K Z.d_law.fd ["script"] [] := Z.d_law.F.bindsN fun _ _ _ _ _ _ us hl => match us, hl with | [_], _ => rfl
end
end K30
set_option Elab.async false
set_option linter.all false
set_option maxRecDepth 100000
set_option maxHeartbeats 4000000
namespace K30
open PySem PySem.Spec PyProof.Rows L2 PF

section
variable {P : Program} {w : World} {K : PySem.W.Frag} {mg : Str → Option Value} {base : Heap} {T : List (Addr × Str)}
/-! is_list -/
noncomputable abbrev f_is_list : SF := C.f_is_list
noncomputable abbrev m_is_list : DF := C.m_is_list
theorem ok_is_list (Z : Txt K mg) : FnOk P w K mg base (L2.CX P w) 1 (He.fAd K ("is_list", none)) Z.d_is_list.fd ["thing"] (spOf ⟨K, mg, T⟩ 1 m_is_list) :=
  def_ok (k := 0) Z.d_is_list.F sc_is_list fun cdv A outer s H E hr =>
    (ess_one (es_ret (ee_callB call_isiW rfl Z.z_isinstance bt_isinstance (ea_cons (ee_var (i := 0)) (ea_cons (ee_tup (ea_cons (ee_ty (t := .list) rfl Z.z_list bt_list) (ea_cons (ee_ty (t := .tuple) rfl Z.z_tuple bt_tuple) ea_nil))) ea_nil)))))
/-! is_whole -/
noncomputable abbrev f_is_whole : SF := C.f_is_whole
noncomputable abbrev m_is_whole : DF := C.m_is_whole
theorem ok_is_whole (Z : Txt K mg) : FnOk P w K mg base (L2.CX P w) 1 (He.fAd K ("is_whole", none)) Z.d_is_whole.fd ["thing"] (spOf ⟨K, mg, T⟩ 1 m_is_whole) :=
  def_ok (k := 0) Z.d_is_whole.F sc_is_whole fun cdv A outer s H E hr =>
    (ess_one (es_ret (ee_and (ee_callB call_isiW rfl Z.z_isinstance bt_isinstance (ea_cons (ee_var (i := 0)) (ea_cons (ee_ty (t := .int) rfl Z.z_int bt_int) ea_nil))) (ee_and1 (ee_not (ee_callB call_isiW rfl Z.z_isinstance bt_isinstance (ea_cons (ee_var (i := 0)) (ea_cons (ee_ty (t := .bool) rfl Z.z_bool bt_bool) ea_nil))))))))
/-! is_number -/
noncomputable abbrev f_is_number : SF := C.f_is_number
noncomputable abbrev m_is_number : DF := C.m_is_number
theorem ok_is_number (Z : Txt K mg) : FnOk P w K mg base (L2.CX P w) 2 (He.fAd K ("is_number", none)) Z.d_is_number.fd ["thing"] (spOf ⟨K, mg, T⟩ 1 m_is_number) :=
  def_ok (k := 1) Z.d_is_number.F sc_is_number fun cdv A outer s H E hr =>
    (ess_one (es_ret (ee_and (ee_call (takes_of rfl rfl rfl rfl) (ok_is_whole Z) (hr.mono (by omega)) rfl Z.d_is_whole.g Z.d_is_whole.F.kp (bd_is_whole Z) (ea_cons (ee_var (i := 0)) ea_nil) (hlen := (fun _ _ _ _ q => lCons_len (fun _ _ _ _ q => lNil_len q) q))) (ee_and1 (ee_cmp op_geI (ee_var (i := 0)) ee_int (nomark _))))))
/-! is_row -/
noncomputable abbrev f_is_row : SF := C.f_is_row
noncomputable abbrev m_is_row : DF := C.m_is_row
theorem ok_is_row (Z : Txt K mg) : FnOk P w K mg base (L2.CX P w) 2 (He.fAd K ("is_row", none)) Z.d_is_row.fd ["thing", "many"] (spOf ⟨K, mg, T⟩ 2 m_is_row) :=
  def_ok (k := 1) Z.d_is_row.F sc_is_row fun cdv A outer s H E hr =>
    (ess_one (es_ret (ee_and (ee_call (takes_of rfl rfl rfl rfl) (ok_is_list Z) (hr.mono (by omega)) rfl Z.d_is_list.g Z.d_is_list.F.kp (bd_is_list Z) (ea_cons (ee_var (i := 0)) ea_nil) (hlen := (fun _ _ _ _ q => lCons_len (fun _ _ _ _ q => lNil_len q) q))) (ee_and1 (ee_cmp (op_eqW hr.units) (ee_callB call_lenW rfl Z.z_len bt_len (ea_cons (ee_var (i := 0)) ea_nil)) (ee_var (i := 1)) (nomark _))))))
/-! is_name -/
noncomputable abbrev f_is_name : SF := C.f_is_name
noncomputable abbrev m_is_name : DF := C.m_is_name
theorem ok_is_name (Z : Txt K mg) : FnOk P w K mg base (L2.CX P w) 1 (He.fAd K ("is_name", none)) Z.d_is_name.fd ["thing"] (spOf ⟨K, mg, T⟩ 1 m_is_name) :=
  def_ok (k := 0) Z.d_is_name.F sc_is_name fun cdv A outer s H E hr =>
    (ess_one (es_ret (ee_and (ee_callB call_isiW rfl Z.z_isinstance bt_isinstance (ea_cons (ee_var (i := 0)) (ea_cons (ee_ty (t := .str) rfl Z.z_str bt_str) ea_nil))) (ee_and (ee_chain op_ltI op_ltI ee_int (ee_callB call_lenW rfl Z.z_len bt_len (ea_cons (ee_var (i := 0)) ea_nil)) ee_int) (ee_and1 (ee_callB (call_allW rfl) rfl Z.z_all bt_all (ea_cons (ee_lc (own := [("sign", 1)]) (vs := [1]) rfl rfl sc_is_name.nd (ei_val (ee_var (i := 0))) (blkOk_by (by rfl)) (fun _ _ _ _ _ => (eg_name (i := 1) sc_is_name.nd rfl (by first | exact .inl rfl | exact .inr rfl) (fun _ _ => wipe_set (by decide)) (by first | exact .inl rfl | exact .inr rfl))) (fun _ _ _ _ _ => ets_nil) (fun _ _ _ _ _ => (ee_cmp (op_inA hr.units) (ee_var (i := 1)) (ee_globS rfl Z.c_LETTERS.choose_spec) (by rfl)))) ea_nil)))))))
/-! is_index -/
noncomputable abbrev f_is_index : SF := C.f_is_index
noncomputable abbrev m_is_index : DF := C.m_is_index
theorem ok_is_index (Z : Txt K mg) : FnOk P w K mg base (L2.CX P w) 3 (He.fAd K ("is_index", none)) Z.d_is_index.fd ["thing", "many"] (spOf ⟨K, mg, T⟩ 2 m_is_index) :=
  def_ok (k := 2) Z.d_is_index.F sc_is_index fun cdv A outer s H E hr =>
    (ess_one (es_ret (ee_and (ee_call (takes_of rfl rfl rfl rfl) (ok_is_number Z) (hr.mono (by omega)) rfl Z.d_is_number.g Z.d_is_number.F.kp (bd_is_number Z) (ea_cons (ee_var (i := 0)) ea_nil) (hlen := (fun _ _ _ _ q => lCons_len (fun _ _ _ _ q => lNil_len q) q))) (ee_and1 (ee_cmp op_ltI (ee_var (i := 0)) (ee_var (i := 1)) (nomark _))))))
/-! is_signed -/
noncomputable abbrev f_is_signed : SF := CL.f_is_signed
noncomputable abbrev m_is_signed : DF := CL.m_is_signed
theorem ok_is_signed (Z : Txt K mg) : FnOk P w K mg base (L2.CX P w) 3 (He.fAd K ("is_signed", none)) Z.d_is_signed.fd ["thing"] (spOf ⟨K, mg, T⟩ 1 m_is_signed) :=
  def_ok (k := 2) Z.d_is_signed.F sc_is_signed fun cdv A outer s H E hr =>
    (ess_one (es_ret (ee_and (ee_call (takes_of rfl rfl rfl rfl) (ok_is_row Z) (hr.mono (by omega)) rfl Z.d_is_row.g Z.d_is_row.F.kp (bd_is_row Z) (ea_cons (ee_var (i := 0)) (ea_cons ee_int ea_nil)) (hlen := (fun _ _ _ _ q => lCons_len (fun _ _ _ _ q => lCons_len (fun _ _ _ _ q => lNil_len q) q) q))) (ee_and (ee_call (takes_of rfl rfl rfl rfl) (ok_is_name Z) (hr.mono (by omega)) rfl Z.d_is_name.g Z.d_is_name.F.kp (bd_is_name Z) (ea_cons (ee_ixA hr.units (ee_var (i := 0)) ee_int (fun _ _ => rfl)) ea_nil) (hlen := (fun _ _ _ _ q => lCons_len (fun _ _ _ _ q => lNil_len q) q))) (ee_and (ee_call (takes_of rfl rfl rfl rfl) (ok_is_whole Z) (hr.mono (by omega)) rfl Z.d_is_whole.g Z.d_is_whole.F.kp (bd_is_whole Z) (ea_cons (ee_ixA hr.units (ee_var (i := 0)) ee_int (fun _ _ => rfl)) ea_nil) (hlen := (fun _ _ _ _ q => lCons_len (fun _ _ _ _ q => lNil_len q) q))) (ee_and1 (ee_cmp (op_inA hr.units) (ee_ixA hr.units (ee_var (i := 0)) ee_int (fun _ _ => rfl)) (ee_tup (ea_cons ee_int (ea_cons (ee_un un_negW ee_int) ea_nil))) (by rfl))))))))
/-! turned_about -/
noncomputable abbrev f_turned_about : SF := CL.f_turned_about
noncomputable abbrev m_turned_about : DF := CL.m_turned_about
theorem ok_turned_about (Z : Txt K mg) : FnOk P w K mg base (L2.CX P w) 1 (He.fAd K ("turned_about", none)) Z.d_turned_about.fd ["things"] (spOf ⟨K, mg, T⟩ 1 m_turned_about) :=
  def_ok (k := 0) Z.d_turned_about.F sc_turned_about fun cdv A outer s H E hr =>
    (ess_one (es_ret (ee_lc (own := [("name", 1), ("sign", 2)]) (vs := [1, 2]) rfl rfl sc_turned_about.nd (ei_val (ee_rev (ee_var (i := 0)))) (blkOk_by (by rfl)) (fun _ _ _ _ _ => (eg_tup rfl (egs_cons (SOwn.ok _) (eg_name (i := 1) sc_turned_about.nd rfl (by first | exact .inl rfl | exact .inr rfl) (fun _ _ => wipe_set (by decide)) (by first | exact .inl rfl | exact .inr rfl)) (egs_cons (SOwn.ok _) (eg_name (i := 2) sc_turned_about.nd rfl (by first | exact .inl rfl | exact .inr rfl) (fun _ _ => wipe_set (by decide)) (by first | exact .inl rfl | exact .inr rfl)) (egs_nil (SOwn.ok _)))))) (fun _ _ _ _ _ => ets_nil) (fun _ _ _ _ _ => (ee_tup (ea_cons (ee_var (i := 1)) (ea_cons (ee_un un_negW (ee_var (i := 2))) ea_nil)))))))
/-! is_line -/
noncomputable abbrev f_is_line : SF := CL.f_is_line
noncomputable abbrev m_is_line : DF := CL.m_is_line
theorem ok_is_line (Z : Txt K mg) : FnOk P w K mg base (L2.CX P w) 4 (He.fAd K ("is_line", none)) Z.d_is_line.fd ["thing"] (spOf ⟨K, mg, T⟩ 1 m_is_line) :=
  def_ok (k := 3) Z.d_is_line.F sc_is_line fun cdv A outer s H E hr =>
    (ess_cons (es_if (et_w (ew_or (et_not (et_val (ee_call (takes_of rfl rfl rfl rfl) (ok_is_list Z) (hr.mono (by omega)) rfl Z.d_is_list.g Z.d_is_list.F.kp (bd_is_list Z) (ea_cons (ee_var (i := 0)) ea_nil) (hlen := (fun _ _ _ _ q => lCons_len (fun _ _ _ _ q => lNil_len q) q))))) (ew_or1 (et_not (et_val (ee_callB (call_allW rfl) rfl Z.z_all bt_all (ea_cons (ee_lc (own := [("one", 1)]) (vs := [1]) rfl rfl sc_is_line.nd (ei_val (ee_var (i := 0))) (blkOk_by (by rfl)) (fun _ _ _ _ _ => (eg_name (i := 1) sc_is_line.nd rfl (by first | exact .inl rfl | exact .inr rfl) (fun _ _ => wipe_set (by decide)) (by first | exact .inl rfl | exact .inr rfl))) (fun _ _ _ _ _ => ets_nil) (fun _ _ _ _ _ => (ee_call LamX.takes0 (ok_is_signed Z) (hr.mono (by omega)) rfl Z.d_is_signed.g Z.d_is_signed.F.kp (bd_is_signed Z) (ea_cons (ee_var (i := 1)) ea_nil) (hlen := (fun _ _ _ _ q => lCons_len (fun _ _ _ _ q => lNil_len q) q))))) ea_nil))))))) (ess_one (es_ret ee_bl)) ess_nil)
    (ess_one (es_ret (ee_cmp (op_eqW hr.units) (ee_callB call_lenW rfl Z.z_len bt_len (ea_cons (ee_dc (own := [("one", 1)]) (vs := [1]) rfl rfl sc_is_line.nd (ei_val (ee_var (i := 0))) (blkOk_by (by rfl)) (fun _ _ _ _ _ => (eg_name (i := 1) sc_is_line.nd rfl (by first | exact .inl rfl | exact .inr rfl) (fun _ _ => wipe_set (by decide)) (by first | exact .inl rfl | exact .inr rfl))) (fun _ _ _ _ _ => ets_nil) (fun _ _ _ _ _ => (ee_ixA hr.units (ee_var (i := 1)) ee_int (fun _ _ => rfl))) (fun _ _ _ _ _ => ee_bl)) ea_nil)) (ee_callB call_lenW rfl Z.z_len bt_len (ea_cons (ee_var (i := 0)) ea_nil)) (nomark _)))))
/-! as_line -/
noncomputable abbrev f_as_line : SF := CL.f_as_line
noncomputable abbrev m_as_line : DF := CL.m_as_line
theorem ok_as_line (Z : Txt K mg) : FnOk P w K mg base (L2.CX P w) 5 (He.fAd K ("as_line", none)) Z.d_as_line.fd ["line"] (spOf ⟨K, mg, T⟩ 1 m_as_line) :=
  def_ok (k := 4) Z.d_as_line.F sc_as_line fun cdv A outer s H E hr =>
    (ess_cons (es_if (et_not (et_val (ee_call (takes_of rfl rfl rfl rfl) (ok_is_line Z) (hr.mono (by omega)) rfl Z.d_is_line.g Z.d_is_line.F.kp (bd_is_line Z) (ea_cons (ee_var (i := 0)) ea_nil) (hlen := (fun _ _ _ _ q => lCons_len (fun _ _ _ _ q => lNil_len q) q))))) (ess_one (es_raise (takes_of rfl rfl rfl rfl) rfl Z.x_BadLine.O Z.x_BadLine.iC Z.x_BadLine.tI (xi_BadLine Z) (hr.mono (by omega)) (bi_BadLine Z) rfl Z.x_BadLine.g (ee_var (i := 0)))) ess_nil)
    (ess_one (es_ret (ee_lcR (own := [("one", 1)]) (vs := [1]) rfl rfl sc_as_line.nd (ei_val (ee_var (i := 0))) (blkOk_by (by rfl)) (fun _ _ _ _ _ => (eg_name (i := 1) sc_as_line.nd rfl (by first | exact .inl rfl | exact .inr rfl) (fun _ _ => wipe_set (by decide)) (by first | exact .inl rfl | exact .inr rfl))) (fun _ _ _ _ _ => ets_nil) (fun _ _ _ _ _ => (ee_callTy call_tupleW rfl Z.z_tuple bt_tuple (ea_cons (ee_var (i := 1)) ea_nil)))))))
/-! is_turn -/
noncomputable abbrev f_is_turn : SF := CL.f_is_turn
noncomputable abbrev m_is_turn : DF := CL.m_is_turn
theorem ok_is_turn (Z : Txt K mg) : FnOk P w K mg base (L2.CX P w) 4 (He.fAd K ("is_turn", none)) Z.d_is_turn.fd ["line", "thing"] (spOf ⟨K, mg, T⟩ 2 m_is_turn) :=
  def_ok (k := 3) Z.d_is_turn.F sc_is_turn fun cdv A outer s H E hr =>
    (ess_one (es_ret (ee_and (ee_call (takes_of rfl rfl rfl rfl) (ok_is_row Z) (hr.mono (by omega)) rfl Z.d_is_row.g Z.d_is_row.F.kp (bd_is_row Z) (ea_cons (ee_var (i := 1)) (ea_cons ee_int ea_nil)) (hlen := (fun _ _ _ _ q => lCons_len (fun _ _ _ _ q => lCons_len (fun _ _ _ _ q => lNil_len q) q) q))) (ee_and (ee_callB (call_allW rfl) rfl Z.z_all bt_all (ea_cons (ee_lc (own := [("at", 2)]) (vs := [2]) rfl rfl sc_is_turn.nd (ei_val (ee_var (i := 1))) (blkOk_by (by rfl)) (fun _ _ _ _ _ => (eg_name (i := 2) sc_is_turn.nd rfl (by first | exact .inl rfl | exact .inr rfl) (fun _ _ => wipe_set (by decide)) (by first | exact .inl rfl | exact .inr rfl))) (fun _ _ _ _ _ => ets_nil) (fun _ _ _ _ _ => (ee_call LamX.takes0 (ok_is_index Z) (hr.mono (by omega)) rfl Z.d_is_index.g Z.d_is_index.F.kp (bd_is_index Z) (ea_cons (ee_var (i := 2)) (ea_cons (ee_callB call_lenW rfl Z.z_len bt_len (ea_cons (ee_var (i := 0)) ea_nil)) ea_nil)) (hlen := (fun _ _ _ _ q => lCons_len (fun _ _ _ _ q => lCons_len (fun _ _ _ _ q => lNil_len q) q) q))))) ea_nil)) (ee_and1 (ee_cmp op_leI (ee_ixA hr.units (ee_var (i := 1)) ee_int (fun _ _ => rfl)) (ee_ixA hr.units (ee_var (i := 1)) ee_int (fun _ _ => rfl)) (nomark _)))))))
/-! turned_over -/
noncomputable abbrev f_turned_over : SF := CL.f_turned_over
noncomputable abbrev m_turned_over : DF := CL.m_turned_over
theorem ok_turned_over (Z : Txt K mg) : FnOk P w K mg base (L2.CX P w) 2 (He.fAd K ("turned_over", none)) Z.d_turned_over.fd ["line", "turn"] (spOf ⟨K, mg, T⟩ 2 m_turned_over) :=
  def_ok (k := 1) Z.d_turned_over.F sc_turned_over fun cdv A outer s H E hr =>
    (ess_cons (es_asg (ee_var (i := 1)) (eg_any rfl (egs_cons SAny.ok (eg_name (i := 2) sc_turned_over.nd rfl (by first | exact .inl rfl | exact .inr rfl) (fun _ _ => True.intro) (by first | exact .inl rfl | exact .inr rfl)) (egs_cons SAny.ok (eg_name (i := 3) sc_turned_over.nd rfl (by first | exact .inl rfl | exact .inr rfl) (fun _ _ => True.intro) (by first | exact .inl rfl | exact .inr rfl)) (egs_nil SAny.ok)))))
    (ess_one (es_ret (ee_addR (ee_op op_addW (ee_slice (ee_var (i := 0)) ep_none (ep_some (ee_var (i := 2)))) (ee_call (takes_of rfl rfl rfl rfl) (ok_turned_about Z) (hr.mono (by omega)) rfl Z.d_turned_about.g Z.d_turned_about.F.kp (bd_turned_about Z) (ea_cons (ee_slice (ee_var (i := 0)) (ep_some (ee_var (i := 2))) (ep_some (ee_op op_addW (ee_var (i := 3)) ee_int))) ea_nil) (hlen := (fun _ _ _ _ q => lCons_len (fun _ _ _ _ q => lNil_len q) q)))) (ee_slice (ee_var (i := 0)) (ep_some (ee_op op_addW (ee_var (i := 3)) ee_int)) ep_none)))))
/-! turned -/
noncomputable abbrev f_turned : SF := CL.f_turned
noncomputable abbrev m_turned : DF := CL.m_turned
theorem ok_turned (Z : Txt K mg) : FnOk P w K mg base (L2.CX P w) 6 (He.fAd K ("turned", none)) Z.d_turned.fd ["line", "turn"] (spOf ⟨K, mg, T⟩ 2 m_turned) :=
  def_ok (k := 5) Z.d_turned.F sc_turned fun cdv A outer s H E hr =>
    (ess_cons (es_set (i := 2) sc_turned.nd rfl (by first | exact .inl rfl | exact .inr rfl) (ee_call (takes_of rfl rfl rfl rfl) (ok_as_line Z) (hr.mono (by omega)) rfl Z.d_as_line.g Z.d_as_line.F.kp (bd_as_line Z) (ea_cons (ee_var (i := 0)) ea_nil) (hlen := (fun _ _ _ _ q => lCons_len (fun _ _ _ _ q => lNil_len q) q))))
    (ess_cons (es_if (et_not (et_val (ee_call (takes_of rfl rfl rfl rfl) (ok_is_turn Z) (hr.mono (by omega)) rfl Z.d_is_turn.g Z.d_is_turn.F.kp (bd_is_turn Z) (ea_cons (ee_var (i := 2)) (ea_cons (ee_var (i := 1)) ea_nil)) (hlen := (fun _ _ _ _ q => lCons_len (fun _ _ _ _ q => lCons_len (fun _ _ _ _ q => lNil_len q) q) q))))) (ess_one (es_raise (takes_of rfl rfl rfl rfl) rfl Z.x_BadTurn.O Z.x_BadTurn.iC Z.x_BadTurn.tI (xi_BadTurn Z) (hr.mono (by omega)) (bi_BadTurn Z) rfl Z.x_BadTurn.g (ee_var (i := 1)))) ess_nil)
    (ess_one (es_ret (ee_call (takes_of rfl rfl rfl rfl) (ok_turned_over Z) (hr.mono (by omega)) rfl Z.d_turned_over.g Z.d_turned_over.F.kp (bd_turned_over Z) (ea_cons (ee_var (i := 2)) (ea_cons (ee_var (i := 1)) ea_nil)) (hlen := (fun _ _ _ _ q => lCons_len (fun _ _ _ _ q => lCons_len (fun _ _ _ _ q => lNil_len q) q) q)))))))
/-! first_no_turn -/
noncomputable abbrev f_first_no_turn : SF := CL.f_first_no_turn
noncomputable abbrev m_first_no_turn : DF := CL.m_first_no_turn
theorem ok_first_no_turn (Z : Txt K mg) : FnOk P w K mg base (L2.CX P w) 5 (He.fAd K ("first_no_turn", none)) Z.d_first_no_turn.fd ["line", "run"] (spOf ⟨K, mg, T⟩ 2 m_first_no_turn) :=
  def_ok (k := 4) Z.d_first_no_turn.F sc_first_no_turn fun cdv A outer s H E hr =>
    (ess_cons (es_if (et_not (et_val (ee_call (takes_of rfl rfl rfl rfl) (ok_is_list Z) (hr.mono (by omega)) rfl Z.d_is_list.g Z.d_is_list.F.kp (bd_is_list Z) (ea_cons (ee_var (i := 1)) ea_nil) (hlen := (fun _ _ _ _ q => lCons_len (fun _ _ _ _ q => lNil_len q) q))))) (ess_one (es_ret ee_int)) ess_nil)
    (ess_cons (es_setLc (i := 2) (own := [("index", 3), ("thing", 4)]) (vs := [3, 4]) rfl rfl sc_first_no_turn.nd rfl rfl (swaps_true rfl rfl rfl (by rfl)) (ei_enumA rfl Z.z_enumerate (ea_cons (ee_var (i := 1)) ea_nil)) (blkOk_by (by rfl)) (fun _ _ _ _ _ => (eg_tup rfl (egs_cons (SOwn.ok _) (eg_name (i := 3) sc_first_no_turn.nd rfl (by first | exact .inl rfl | exact .inr rfl) (fun _ _ => wipe_set (by decide)) (by first | exact .inl rfl | exact .inr rfl)) (egs_cons (SOwn.ok _) (eg_name (i := 4) sc_first_no_turn.nd rfl (by first | exact .inl rfl | exact .inr rfl) (fun _ _ => wipe_set (by decide)) (by first | exact .inl rfl | exact .inr rfl)) (egs_nil (SOwn.ok _)))))) (fun _ _ _ _ _ => (ets_one (et_not (et_val (ee_call LamX.takes0 (ok_is_turn Z) (hr.mono (by omega)) rfl Z.d_is_turn.g Z.d_is_turn.F.kp (bd_is_turn Z) (ea_cons (ee_var (i := 0)) (ea_cons (ee_var (i := 4)) ea_nil)) (hlen := (fun _ _ _ _ q => lCons_len (fun _ _ _ _ q => lCons_len (fun _ _ _ _ q => lNil_len q) q) q))))))) (fun _ _ _ _ _ => (ee_var (i := 3))))
    (ess_one (es_ret (ee_if (et_cmp (op_neW hr.units) (ee_var (i := 2)) (ee_lst ea_nil) (nomark _)) (ee_ixA hr.units (ee_var (i := 2)) ee_int (fun _ _ => rfl)) ee_non)))))
/-! turns_fault -/
noncomputable abbrev f_turns_fault : SF := CL.f_turns_fault
noncomputable abbrev m_turns_fault : DF := CL.m_turns_fault
theorem ok_turns_fault (Z : Txt K mg) : FnOk P w K mg base (L2.CX P w) 6 (He.fAd K ("turns_fault", none)) Z.d_turns_fault.fd ["line", "thing"] (spOf ⟨K, mg, T⟩ 2 m_turns_fault) :=
  def_ok (k := 5) Z.d_turns_fault.F sc_turns_fault fun cdv A outer s H E hr =>
    (ess_one (es_ret (ee_call (takes_of rfl rfl rfl rfl) (ok_first_no_turn Z) (hr.mono (by omega)) rfl Z.d_first_no_turn.g Z.d_first_no_turn.F.kp (bd_first_no_turn Z) (ea_cons (ee_call (takes_of rfl rfl rfl rfl) (ok_as_line Z) (hr.mono (by omega)) rfl Z.d_as_line.g Z.d_as_line.F.kp (bd_as_line Z) (ea_cons (ee_var (i := 0)) ea_nil) (hlen := (fun _ _ _ _ q => lCons_len (fun _ _ _ _ q => lNil_len q) q))) (ea_cons (ee_var (i := 1)) ea_nil)) (hlen := (fun _ _ _ _ q => lCons_len (fun _ _ _ _ q => lCons_len (fun _ _ _ _ q => lNil_len q) q) q)))))
/-! behind_turns -/
noncomputable abbrev b_behind_turns_1 : SF := CL.b_behind_turns_1
noncomputable abbrev f_behind_turns : SF := CL.f_behind_turns
noncomputable abbrev m_behind_turns : DF := CL.m_behind_turns
theorem ok_behind_turns (Z : Txt K mg) : FnOk P w K mg base (L2.CX P w) 3 (He.fAd K ("behind_turns", none)) Z.d_behind_turns.fd ["line", "run"] (spOf ⟨K, mg, T⟩ 2 m_behind_turns) :=
  def_ok (k := 2) Z.d_behind_turns.F sc_behind_turns fun cdv A outer s H E hr =>
    (ess_cons (es_set (i := 2) sc_behind_turns.nd rfl (by first | exact .inl rfl | exact .inr rfl) (ee_var (i := 0)))
    (ess_cons (es_for (passes_of rfl) rfl (ei_val (ee_var (i := 1))) (eg_name (i := 3) sc_behind_turns.nd rfl (by first | exact .inl rfl | exact .inr rfl) (fun _ _ => True.intro) (by first | exact .inl rfl | exact .inr rfl)) (ess_one (es_set (i := 2) sc_behind_turns.nd rfl (by first | exact .inl rfl | exact .inr rfl) (ee_call (takes_of rfl rfl rfl rfl) (ok_turned_over Z) (hr.mono (by omega)) rfl Z.d_turned_over.g Z.d_turned_over.F.kp (bd_turned_over Z) (ea_cons (ee_var (i := 2)) (ea_cons (ee_var (i := 3)) ea_nil)) (hlen := (fun _ _ _ _ q => lCons_len (fun _ _ _ _ q => lCons_len (fun _ _ _ _ q => lNil_len q) q) q))))))
    (ess_one (es_ret (ee_var (i := 2))))))
/-! turns_behind -/
noncomputable abbrev f_turns_behind : SF := CL.f_turns_behind
noncomputable abbrev m_turns_behind : DF := CL.m_turns_behind
theorem ok_turns_behind (Z : Txt K mg) : FnOk P w K mg base (L2.CX P w) 6 (He.fAd K ("turns_behind", none)) Z.d_turns_behind.fd ["line", "run"] (spOf ⟨K, mg, T⟩ 2 m_turns_behind) :=
  def_ok (k := 5) Z.d_turns_behind.F sc_turns_behind fun cdv A outer s H E hr =>
    (ess_cons (es_set (i := 2) sc_turns_behind.nd rfl (by first | exact .inl rfl | exact .inr rfl) (ee_call (takes_of rfl rfl rfl rfl) (ok_as_line Z) (hr.mono (by omega)) rfl Z.d_as_line.g Z.d_as_line.F.kp (bd_as_line Z) (ea_cons (ee_var (i := 0)) ea_nil) (hlen := (fun _ _ _ _ q => lCons_len (fun _ _ _ _ q => lNil_len q) q))))
    (ess_cons (es_set (i := 3) sc_turns_behind.nd rfl (by first | exact .inl rfl | exact .inr rfl) (ee_call (takes_of rfl rfl rfl rfl) (ok_first_no_turn Z) (hr.mono (by omega)) rfl Z.d_first_no_turn.g Z.d_first_no_turn.F.kp (bd_first_no_turn Z) (ea_cons (ee_var (i := 2)) (ea_cons (ee_var (i := 1)) ea_nil)) (hlen := (fun _ _ _ _ q => lCons_len (fun _ _ _ _ q => lCons_len (fun _ _ _ _ q => lNil_len q) q) q))))
    (ess_cons (es_if (et_cmp op_notW (ee_var (i := 3)) ee_non (nomark _)) (ess_one (es_raise (takes_of rfl rfl rfl rfl) rfl Z.x_BadRun.O Z.x_BadRun.iC Z.x_BadRun.tI (xi_BadRun Z) (hr.mono (by omega)) (bi_BadRun Z) rfl Z.x_BadRun.g (ee_var (i := 3)))) ess_nil)
    (ess_one (es_ret (ee_call (takes_of rfl rfl rfl rfl) (ok_behind_turns Z) (hr.mono (by omega)) rfl Z.d_behind_turns.g Z.d_behind_turns.F.kp (bd_behind_turns Z) (ea_cons (ee_var (i := 2)) (ea_cons (ee_var (i := 1)) ea_nil)) (hlen := (fun _ _ _ _ q => lCons_len (fun _ _ _ _ q => lCons_len (fun _ _ _ _ q => lNil_len q) q) q))))))))
/-! _law_stream -/
noncomputable abbrev f__law_stream : SF := C.f__law_stream
noncomputable abbrev m__law_stream : DF := C.m__law_stream
theorem ok__law_stream (Z : Txt K mg) : FnOk P w K mg base (L2.CX P w) 1 (He.fAd K ("_law_stream", none)) Z.d__law_stream.fd ["script"] (spOf ⟨K, mg, T⟩ 1 m__law_stream) :=
  def_ok (k := 0) Z.d__law_stream.F sc__law_stream fun cdv A outer s H E hr =>
    (ess_one (es_ret (ee_lstR (ea_cons (ee_listR rfl Z.z_list bt_list (ea_cons (ee_var (i := 0)) ea_nil)) (ea_cons ee_int (ea_cons ee_int (ea_cons ee_int ea_nil)))))))
/-! _law_draw -/
noncomputable abbrev b__law_draw_1 : SF := C.b__law_draw_1
noncomputable abbrev f__law_draw : SF := C.f__law_draw
noncomputable abbrev m__law_draw : DF := C.m__law_draw
theorem ok__law_draw (Z : Txt K mg) : FnOk P w K mg base (L2.CX P w) 1 (He.fAd K ("_law_draw", none)) Z.d__law_draw.fd ["stream", "many"] (spOf ⟨K, mg, T⟩ 2 m__law_draw) :=
  def_ok (k := 0) Z.d__law_draw.F sc__law_draw fun cdv A outer s H E hr =>
    (ess_cons (es_asg (ee_op op_addW (ee_ixA hr.units (ee_var (i := 0)) ee_int (fun _ _ => rfl)) ee_int) (eg_sub (Wx := WNo) SAny.ok hr.units (ee_var (i := 0)) ee_int))
    (ess_cons (es_while (passes_of rfl) (et_w (ew_and (et_cmp (op_eqW hr.units) (ee_ixA hr.units (ee_var (i := 0)) ee_int (fun _ _ => rfl)) ee_int (nomark _)) (ew_and1 (et_cmp (op_neW hr.units) (ee_ixA hr.units (ee_var (i := 0)) ee_int (fun _ _ => rfl)) (ee_lst ea_nil) (nomark _))))) (ess_cons (es_set (i := 2) sc__law_draw.nd rfl (by first | exact .inl rfl | exact .inr rfl) (ee_callB call_absW rfl Z.z_abs bt_abs (ea_cons (ee_m ty_list PySem.F.plainAttrs_list PySem.F.slot_list_pop PySem.F.type_list_pop mt_popAtW (ee_ixA hr.units (ee_var (i := 0)) ee_int (fun _ _ => rfl)) (ea_cons ee_int ea_nil)) ea_nil)))
    (ess_cons (es_asg (ee_op op_modW (ee_callTy call_intW rfl Z.z_int bt_int (ea_cons (ee_op op_addW (ee_op op_addW (ee_op op_mulWW (ee_ixA hr.units (ee_var (i := 0)) ee_int (fun _ _ => rfl)) ee_int) (ee_var (i := 2))) ee_int) ea_nil)) ee_int) (eg_sub (Wx := WNo) SAny.ok hr.units (ee_var (i := 0)) ee_int))
    (ess_one (es_asg (ee_if (et_cmp op_geI (ee_var (i := 2)) (ee_op op_powW ee_int ee_int) (nomark _)) (ee_var (i := 2)) ee_int) (eg_sub (Wx := WNo) SAny.ok hr.units (ee_var (i := 0)) ee_int))))))
    (ess_cons (es_if (et_cmp op_gtI (ee_ixA hr.units (ee_var (i := 0)) ee_int (fun _ _ => rfl)) ee_int (nomark _)) (ess_cons (es_set (i := 3) sc__law_draw.nd rfl (by first | exact .inl rfl | exact .inr rfl) (ee_op op_modW (ee_callTy call_intW rfl Z.z_int bt_int (ea_cons (ee_ixA hr.units (ee_var (i := 0)) ee_int (fun _ _ => rfl)) ea_nil)) (ee_var (i := 1))))
    (ess_cons (es_asg (ee_op op_fdivW (ee_ixA hr.units (ee_var (i := 0)) ee_int (fun _ _ => rfl)) (ee_var (i := 1))) (eg_sub (Wx := WNo) SAny.ok hr.units (ee_var (i := 0)) ee_int))
    (ess_one (es_ret (ee_var (i := 3)))))) ess_nil)
    (ess_cons (es_set (i := 4) sc__law_draw.nd rfl (by first | exact .inl rfl | exact .inr rfl) (ee_op op_modW (ee_callTy call_intW rfl Z.z_int bt_int (ea_cons (ee_op op_powW (ee_op op_addW (ee_op op_addW (ee_ixA hr.units (ee_var (i := 0)) ee_int (fun _ _ => rfl)) (ee_op op_mulWW ee_int (ee_ixA hr.units (ee_var (i := 0)) ee_int (fun _ _ => rfl)))) ee_int) ee_int) ea_nil)) ee_int))
    (ess_one (es_ret (ee_op op_modW (ee_op op_modW (ee_callTy call_intW rfl Z.z_int bt_int (ea_cons (ee_op op_powW (ee_op op_addW (ee_op op_addW (ee_op op_mulWW (ee_var (i := 4)) ee_int) (ee_op op_mulWW ee_int (ee_ixA hr.units (ee_var (i := 0)) ee_int (fun _ _ => rfl)))) ee_int) ee_int) ea_nil)) ee_int) (ee_var (i := 1)))))))))
/-! _law_pick -/
noncomputable abbrev f__law_pick : SF := C.f__law_pick
noncomputable abbrev m__law_pick : DF := C.m__law_pick
theorem ok__law_pick (Z : Txt K mg) : FnOk P w K mg base (L2.CX P w) 2 (He.fAd K ("_law_pick", none)) Z.d__law_pick.fd ["stream", "things"] (spOf ⟨K, mg, T⟩ 2 m__law_pick) :=
  def_ok (k := 1) Z.d__law_pick.F sc__law_pick fun cdv A outer s H E hr =>
    (ess_one (es_ret (ee_ixA hr.units (ee_var (i := 1)) (ee_call (takes_of rfl rfl rfl rfl) (ok__law_draw Z) (hr.mono (by omega)) rfl Z.d__law_draw.g Z.d__law_draw.F.kp (bd__law_draw Z) (ea_cons (ee_var (i := 0)) (ea_cons (ee_callB call_lenW rfl Z.z_len bt_len (ea_cons (ee_var (i := 1)) ea_nil)) ea_nil)) (hlen := (fun _ _ _ _ q => lCons_len (fun _ _ _ _ q => lCons_len (fun _ _ _ _ q => lNil_len q) q) q))) (fun _ _ => rfl))))
/-! _law_same -/
noncomputable abbrev f__law_same : DF → SF := C.f__law_same
noncomputable abbrev m__law_same : Nat → DF := C.m__law_same
theorem ok__law_same (Z : Txt K mg) : ∀ d : Nat, FnOk P w K mg base (L2.CX P w) (1 + d) (He.fAd K ("_law_same", none)) Z.d__law_same.fd ["found", "due"] (spOf ⟨K, mg, T⟩ 2 (m__law_same d))
  | 0 => fn_bad rfl
  | d + 1 => def_ok (k := 1 + d) Z.d__law_same.F sc__law_same fun cdv A outer s H E hr => by
    have IH := ok__law_same Z d
    exact (ess_cons (es_if (et_val (ee_callB call_isiW rfl Z.z_isinstance bt_isinstance (ea_cons (ee_var (i := 1)) (ea_cons (ee_tup (ea_cons (ee_ty (t := .list) rfl Z.z_list bt_list) (ea_cons (ee_ty (t := .tuple) rfl Z.z_tuple bt_tuple) ea_nil))) ea_nil)))) (ess_cons (es_if (et_w (ew_or (et_cmp (op_neW hr.units) (ee_callB call_isiW rfl Z.z_isinstance bt_isinstance (ea_cons (ee_var (i := 0)) (ea_cons (ee_ty (t := .list) rfl Z.z_list bt_list) ea_nil))) (ee_callB call_isiW rfl Z.z_isinstance bt_isinstance (ea_cons (ee_var (i := 1)) (ea_cons (ee_ty (t := .list) rfl Z.z_list bt_list) ea_nil))) (nomark _)) (ew_or1 (et_cmp (op_neW hr.units) (ee_callB call_isiW rfl Z.z_isinstance bt_isinstance (ea_cons (ee_var (i := 0)) (ea_cons (ee_ty (t := .tuple) rfl Z.z_tuple bt_tuple) ea_nil))) (ee_callB call_isiW rfl Z.z_isinstance bt_isinstance (ea_cons (ee_var (i := 1)) (ea_cons (ee_ty (t := .tuple) rfl Z.z_tuple bt_tuple) ea_nil))) (nomark _))))) (ess_one (es_ret ee_bl)) ess_nil)
    (ess_one (es_ret (ee_and (ee_cmp (op_eqW hr.units) (ee_callB call_lenW rfl Z.z_len bt_len (ea_cons (ee_var (i := 0)) ea_nil)) (ee_callB call_lenW rfl Z.z_len bt_len (ea_cons (ee_var (i := 1)) ea_nil)) (nomark _)) (ee_and1 (ee_callB (call_allW rfl) rfl Z.z_all bt_all (ea_cons (ee_lc (own := [("mine", 2), ("theirs", 3)]) (vs := [2, 3]) rfl rfl sc__law_same.nd (ei_zip rfl Z.z_zip (ea_cons (ee_var (i := 0)) (ea_cons (ee_var (i := 1)) ea_nil))) (blkOk_by (by rfl)) (fun _ _ _ _ _ => (eg_tup rfl (egs_cons (SOwn.ok _) (eg_name (i := 2) sc__law_same.nd rfl (by first | exact .inl rfl | exact .inr rfl) (fun _ _ => wipe_set (by decide)) (by first | exact .inl rfl | exact .inr rfl)) (egs_cons (SOwn.ok _) (eg_name (i := 3) sc__law_same.nd rfl (by first | exact .inl rfl | exact .inr rfl) (fun _ _ => wipe_set (by decide)) (by first | exact .inl rfl | exact .inr rfl)) (egs_nil (SOwn.ok _)))))) (fun _ _ _ _ _ => ets_nil) (fun _ _ _ _ _ => (ee_call LamX.takes0 IH (hr.mono (by omega)) rfl Z.d__law_same.g Z.d__law_same.F.kp (bd__law_same Z) (ea_cons (ee_var (i := 2)) (ea_cons (ee_var (i := 3)) ea_nil)) (hlen := (fun _ _ _ _ q => lCons_len (fun _ _ _ _ q => lCons_len (fun _ _ _ _ q => lNil_len q) q) q))))) ea_nil))))))) ess_nil)
    (ess_cons (es_if (et_val (ee_callB call_isiW rfl Z.z_isinstance bt_isinstance (ea_cons (ee_var (i := 1)) (ea_cons (ee_ty (t := .dict) rfl Z.z_dict bt_dict) ea_nil)))) (ess_one (es_ret ee_bad)) ess_nil)
    (ess_cons (es_if (et_w (ew_or (et_val (ee_callB call_isiW rfl Z.z_isinstance bt_isinstance (ea_cons (ee_var (i := 1)) (ea_cons (ee_ty (t := .bool) rfl Z.z_bool bt_bool) ea_nil)))) (ew_or1 (et_val (ee_callB call_isiW rfl Z.z_isinstance bt_isinstance (ea_cons (ee_var (i := 0)) (ea_cons (ee_ty (t := .bool) rfl Z.z_bool bt_bool) ea_nil))))))) (ess_one (es_ret (ee_and (ee_callB call_isiW rfl Z.z_isinstance bt_isinstance (ea_cons (ee_var (i := 1)) (ea_cons (ee_ty (t := .bool) rfl Z.z_bool bt_bool) ea_nil))) (ee_and (ee_callB call_isiW rfl Z.z_isinstance bt_isinstance (ea_cons (ee_var (i := 0)) (ea_cons (ee_ty (t := .bool) rfl Z.z_bool bt_bool) ea_nil))) (ee_and1 (ee_cmp (op_eqW hr.units) (ee_var (i := 0)) (ee_var (i := 1)) (nomark _))))))) ess_nil)
    (ess_cons (es_if (et_w (ew_or (et_cmp op_isW (ee_var (i := 1)) ee_non (nomark _)) (ew_or1 (et_cmp op_isW (ee_var (i := 0)) ee_non (nomark _))))) (ess_one (es_ret (ee_and (ee_cmp op_isW (ee_var (i := 1)) ee_non (nomark _)) (ee_and1 (ee_cmp op_isW (ee_var (i := 0)) ee_non (nomark _)))))) ess_nil)
    (ess_cons (es_if (et_w (ew_or (et_cmp (op_neW hr.units) (ee_callB call_isiW rfl Z.z_isinstance bt_isinstance (ea_cons (ee_var (i := 1)) (ea_cons (ee_ty (t := .int) rfl Z.z_int bt_int) ea_nil))) (ee_callB call_isiW rfl Z.z_isinstance bt_isinstance (ea_cons (ee_var (i := 0)) (ea_cons (ee_ty (t := .int) rfl Z.z_int bt_int) ea_nil))) (nomark _)) (ew_or1 (et_cmp (op_neW hr.units) (ee_callB call_isiW rfl Z.z_isinstance bt_isinstance (ea_cons (ee_var (i := 1)) (ea_cons (ee_ty (t := .str) rfl Z.z_str bt_str) ea_nil))) (ee_callB call_isiW rfl Z.z_isinstance bt_isinstance (ea_cons (ee_var (i := 0)) (ea_cons (ee_ty (t := .str) rfl Z.z_str bt_str) ea_nil))) (nomark _))))) (ess_one (es_ret ee_bl)) ess_nil)
    (ess_one (es_ret (ee_and (ee_not (ee_callB call_isiW rfl Z.z_isinstance bt_isinstance (ea_cons (ee_var (i := 0)) (ea_cons (ee_tup (ea_cons (ee_ty (t := .list) rfl Z.z_list bt_list) (ea_cons (ee_ty (t := .tuple) rfl Z.z_tuple bt_tuple) (ea_cons (ee_ty (t := .dict) rfl Z.z_dict bt_dict) ea_nil)))) ea_nil)))) (ee_and1 (ee_cmp (op_eqW hr.units) (ee_var (i := 0)) (ee_var (i := 1)) (nomark _)))))))))))
/-! _law_loose -/
noncomputable abbrev f__law_loose : DF → SF := C.f__law_loose
noncomputable abbrev m__law_loose : Nat → DF := C.m__law_loose
theorem ok__law_loose (Z : Txt K mg) : ∀ d : Nat, FnOk P w K mg base (L2.CX P w) (2 + d) (He.fAd K ("_law_loose", none)) Z.d__law_loose.fd ["stream", "thing"] (spOf ⟨K, mg, T⟩ 2 (m__law_loose d))
  | 0 => fn_bad rfl
  | d + 1 => def_ok (k := 2 + d) Z.d__law_loose.F sc__law_loose fun cdv A outer s H E hr => by
    have IH := ok__law_loose Z d
    exact (ess_cons (es_if (et_val (ee_callB call_isiW rfl Z.z_isinstance bt_isinstance (ea_cons (ee_var (i := 1)) (ea_cons (ee_tup (ea_cons (ee_ty (t := .list) rfl Z.z_list bt_list) (ea_cons (ee_ty (t := .tuple) rfl Z.z_tuple bt_tuple) ea_nil))) ea_nil)))) (ess_cons (es_setLc (i := 2) (own := [("one", 3)]) (vs := [3]) rfl rfl sc__law_loose.nd rfl rfl (swaps_true rfl rfl rfl (by rfl)) (ei_val (ee_var (i := 1))) (blkOk_by (by rfl)) (fun _ _ _ _ _ => (eg_name (i := 3) sc__law_loose.nd rfl (by first | exact .inl rfl | exact .inr rfl) (fun _ _ => wipe_set (by decide)) (by first | exact .inl rfl | exact .inr rfl))) (fun _ _ _ _ _ => ets_nil) (fun _ _ _ _ _ => (ee_call LamX.takes0 IH (hr.mono (by omega)) rfl Z.d__law_loose.g Z.d__law_loose.F.kp (bd__law_loose Z) (ea_cons (ee_var (i := 0)) (ea_cons (ee_var (i := 3)) ea_nil)) (hlen := (fun _ _ _ _ q => lCons_len (fun _ _ _ _ q => lCons_len (fun _ _ _ _ q => lNil_len q) q) q)))))
    (ess_one (es_ret (ee_if (et_cmp (op_eqW hr.units) (ee_call (takes_of rfl rfl rfl rfl) (ok__law_draw Z) (hr.mono (by omega)) rfl Z.d__law_draw.g Z.d__law_draw.F.kp (bd__law_draw Z) (ea_cons (ee_var (i := 0)) (ea_cons ee_int ea_nil)) (hlen := (fun _ _ _ _ q => lCons_len (fun _ _ _ _ q => lCons_len (fun _ _ _ _ q => lNil_len q) q) q))) ee_int (nomark _)) (ee_var (i := 2)) (ee_callTy call_tupleW rfl Z.z_tuple bt_tuple (ea_cons (ee_var (i := 2)) ea_nil)))))) ess_nil)
    (ess_one (es_ret (ee_var (i := 1)))))
/-! _law_names -/
noncomputable abbrev b__law_names_1 : SF := C.b__law_names_1
noncomputable abbrev b__law_names_2 : SF := C.b__law_names_2
noncomputable abbrev f__law_names : SF := C.f__law_names
noncomputable abbrev m__law_names : DF := C.m__law_names
theorem ok__law_names (Z : Txt K mg) : FnOk P w K mg base (L2.CX P w) 3 (He.fAd K ("_law_names", none)) Z.d__law_names.fd ["stream", "many"] (spOf ⟨K, mg, T⟩ 2 m__law_names) :=
  def_ok (k := 2) Z.d__law_names.F sc__law_names fun cdv A outer s H E hr =>
    (ess_cons (es_asg (ee_tup (ea_cons (ee_lstR ea_nil) (ea_cons ee_str ea_nil))) (eg_tup rfl (egs_cons SAny.ok (eg_name (i := 2) sc__law_names.nd rfl (by first | exact .inl rfl | exact .inr rfl) (fun _ _ => True.intro) (by first | exact .inl rfl | exact .inr rfl)) (egs_cons SAny.ok (eg_name (i := 3) sc__law_names.nd rfl (by first | exact .inl rfl | exact .inr rfl) (fun _ _ => True.intro) (by first | exact .inl rfl | exact .inr rfl)) (egs_nil SAny.ok)))))
    (ess_cons (es_for (passes_of rfl) rfl (ei_range1 rfl Z.z_range (ea_cons (ee_var (i := 1)) ea_nil)) (eg_name (i := 4) sc__law_names.nd rfl (by first | exact .inl rfl | exact .inr rfl) (fun _ _ => True.intro) (by first | exact .inl rfl | exact .inr rfl)) (ess_cons (es_set (i := 5) sc__law_names.nd rfl (by first | exact .inl rfl | exact .inr rfl) (ee_m ty_str PySem.F.plainAttrs_str PySem.F.slot_str_join PySem.F.type_str_join mt_joinW ee_str (ea_cons (ee_lc (own := [("one", 6)]) (vs := [6]) rfl rfl sc__law_names.nd (ei_range1 rfl Z.z_range (ea_cons (ee_op op_addW ee_int (ee_call (takes_of rfl rfl rfl rfl) (ok__law_draw Z) (hr.mono (by omega)) rfl Z.d__law_draw.g Z.d__law_draw.F.kp (bd__law_draw Z) (ea_cons (ee_var (i := 0)) (ea_cons (ee_call (takes_of rfl rfl rfl rfl) (ok__law_pick Z) (hr.mono (by omega)) rfl Z.d__law_pick.g Z.d__law_pick.F.kp (bd__law_pick Z) (ea_cons (ee_var (i := 0)) (ea_cons (ee_lst (ea_cons ee_int (ea_cons ee_int (ea_cons ee_int ea_nil)))) ea_nil)) (hlen := (fun _ _ _ _ q => lCons_len (fun _ _ _ _ q => lCons_len (fun _ _ _ _ q => lNil_len q) q) q))) ea_nil)) (hlen := (fun _ _ _ _ q => lCons_len (fun _ _ _ _ q => lCons_len (fun _ _ _ _ q => lNil_len q) q) q)))) ea_nil)) (blkOk_by (by rfl)) (fun _ _ _ _ _ => (eg_name (i := 6) sc__law_names.nd rfl (by first | exact .inl rfl | exact .inr rfl) (fun _ _ => wipe_set (by decide)) (by first | exact .inl rfl | exact .inr rfl))) (fun _ _ _ _ _ => ets_nil) (fun _ _ _ _ _ => (ee_call LamX.takes0 (ok__law_pick Z) (hr.mono (by omega)) rfl Z.d__law_pick.g Z.d__law_pick.F.kp (bd__law_pick Z) (ea_cons (ee_var (i := 0)) (ea_cons (ee_var (i := 3)) ea_nil)) (hlen := (fun _ _ _ _ q => lCons_len (fun _ _ _ _ q => lCons_len (fun _ _ _ _ q => lNil_len q) q) q))))) ea_nil)))
    (ess_cons (es_for (passes_of rfl) rfl (ei_range1 rfl Z.z_range (ea_cons (ee_op op_addW (ee_callB call_lenW rfl Z.z_len bt_len (ea_cons (ee_var (i := 2)) ea_nil)) ee_int) ea_nil)) (eg_name (i := 7) sc__law_names.nd rfl (by first | exact .inl rfl | exact .inr rfl) (fun _ _ => True.intro) (by first | exact .inl rfl | exact .inr rfl)) (ess_one (es_if (et_cmp (op_inA hr.units) (ee_var (i := 5)) (ee_var (i := 2)) (by rfl)) (ess_one (es_set (i := 5) sc__law_names.nd rfl (by first | exact .inl rfl | exact .inr rfl) (ee_op op_addW (ee_op op_addW (ee_slice (ee_var (i := 5)) ep_none (ep_some ee_int)) (ee_ixA hr.units (ee_var (i := 3)) (ee_op op_fdivW (ee_var (i := 7)) ee_int) (fun _ _ => rfl))) (ee_ixA hr.units (ee_var (i := 3)) (ee_op op_modW (ee_var (i := 7)) ee_int) (fun _ _ => rfl))))) ess_nil)))
    (ess_one (es_expr (ee_m ty_list PySem.F.plainAttrs_list PySem.F.slot_list_append PySem.F.type_list_append mt_appendW (ee_var (i := 2)) (ea_cons (ee_var (i := 5)) ea_nil)))))))
    (ess_one (es_ret (ee_var (i := 2))))))
/-! _law_copied -/
noncomputable abbrev f__law_copied : DF → SF := C.f__law_copied
noncomputable abbrev m__law_copied : Nat → DF := C.m__law_copied
theorem ok__law_copied (Z : Txt K mg) : ∀ d : Nat, FnOk P w K mg base (L2.CX P w) (1 + d) (He.fAd K ("_law_copied", none)) Z.d__law_copied.fd ["thing"] (spOf ⟨K, mg, T⟩ 1 (m__law_copied d))
  | 0 => fn_bad rfl
  | d + 1 => def_ok (k := 1 + d) Z.d__law_copied.F sc__law_copied fun cdv A outer s H E hr => by
    have IH := ok__law_copied Z d
    exact (ess_cons (es_if (et_val (ee_callB call_isiW rfl Z.z_isinstance bt_isinstance (ea_cons (ee_var (i := 0)) (ea_cons (ee_tup (ea_cons (ee_ty (t := .list) rfl Z.z_list bt_list) (ea_cons (ee_ty (t := .tuple) rfl Z.z_tuple bt_tuple) ea_nil))) ea_nil)))) (ess_cons (es_setLc (i := 1) (own := [("one", 2)]) (vs := [2]) rfl rfl sc__law_copied.nd rfl rfl (swaps_true rfl rfl rfl (by rfl)) (ei_val (ee_var (i := 0))) (blkOk_by (by rfl)) (fun _ _ _ _ _ => (eg_name (i := 2) sc__law_copied.nd rfl (by first | exact .inl rfl | exact .inr rfl) (fun _ _ => wipe_set (by decide)) (by first | exact .inl rfl | exact .inr rfl))) (fun _ _ _ _ _ => ets_nil) (fun _ _ _ _ _ => (ee_call LamX.takes0 IH (hr.mono (by omega)) rfl Z.d__law_copied.g Z.d__law_copied.F.kp (bd__law_copied Z) (ea_cons (ee_var (i := 2)) ea_nil) (hlen := (fun _ _ _ _ q => lCons_len (fun _ _ _ _ q => lNil_len q) q)))))
    (ess_one (es_ret (ee_if (et_val (ee_callB call_isiW rfl Z.z_isinstance bt_isinstance (ea_cons (ee_var (i := 0)) (ea_cons (ee_ty (t := .list) rfl Z.z_list bt_list) ea_nil)))) (ee_var (i := 1)) (ee_callTy call_tupleW rfl Z.z_tuple bt_tuple (ea_cons (ee_var (i := 1)) ea_nil)))))) ess_nil)
    (ess_cons (es_if (et_val (ee_callB call_isiW rfl Z.z_isinstance bt_isinstance (ea_cons (ee_var (i := 0)) (ea_cons (ee_ty (t := .dict) rfl Z.z_dict bt_dict) ea_nil)))) (ess_one (es_ret (ee_dictP rfl rfl Z.z_dict bt_dict (ea_cons (ee_lc (own := [("key", 3)]) (vs := [3]) rfl rfl sc__law_copied.nd (ei_keys (ee_var (i := 0))) (blkOk_by (by rfl)) (fun _ _ _ _ _ => (eg_name (i := 3) sc__law_copied.nd rfl (by first | exact .inl rfl | exact .inr rfl) (fun _ _ => wipe_set (by decide)) (by first | exact .inl rfl | exact .inr rfl))) (fun _ _ _ _ _ => ets_nil) (fun _ _ _ _ _ => (ee_tup (ea_cons (ee_var (i := 3)) (ea_cons (ee_call LamX.takes0 IH (hr.mono (by omega)) rfl Z.d__law_copied.g Z.d__law_copied.F.kp (bd__law_copied Z) (ea_cons (ee_ixA hr.units (ee_var (i := 0)) (ee_var (i := 3)) (fun _ _ => rfl)) ea_nil) (hlen := (fun _ _ _ _ q => lCons_len (fun _ _ _ _ q => lNil_len q) q))) ea_nil))))) ea_nil)))) ess_nil)
    (ess_one (es_ret (ee_var (i := 0))))))
/-! _law_spoilt -/
noncomputable abbrev b__law_spoilt_1 : DF → SF := C.b__law_spoilt_1
noncomputable abbrev f__law_spoilt : DF → SF := C.f__law_spoilt
noncomputable abbrev m__law_spoilt : Nat → DF := C.m__law_spoilt
theorem ok__law_spoilt (Z : Txt K mg) : ∀ d : Nat, FnOk P w K mg base (L2.CX P w) (1 + d) (He.fAd K ("_law_spoilt", none)) Z.d__law_spoilt.fd ["thing"] (spOf ⟨K, mg, T⟩ 1 (m__law_spoilt d))
  | 0 => fn_bad rfl
  | d + 1 => def_ok (k := 1 + d) Z.d__law_spoilt.F sc__law_spoilt fun cdv A outer s H E hr => by
    have IH := ok__law_spoilt Z d
    exact (ess_cons (es_if (et_val (ee_callB call_isiW rfl Z.z_isinstance bt_isinstance (ea_cons (ee_var (i := 0)) (ea_cons (ee_ty (t := .dict) rfl Z.z_dict bt_dict) ea_nil)))) (ess_cons es_bad
    (ess_one es_bad)) ess_nil)
    (ess_cons (es_if (et_val (ee_callB call_isiW rfl Z.z_isinstance bt_isinstance (ea_cons (ee_var (i := 0)) (ea_cons (ee_tup (ea_cons (ee_ty (t := .list) rfl Z.z_list bt_list) (ea_cons (ee_ty (t := .tuple) rfl Z.z_tuple bt_tuple) ea_nil))) ea_nil)))) (ess_one (es_for (passes_of rfl) rfl (ei_val (ee_var (i := 0))) (eg_name (i := 2) sc__law_spoilt.nd rfl (by first | exact .inl rfl | exact .inr rfl) (fun _ _ => True.intro) (by first | exact .inl rfl | exact .inr rfl)) (ess_one (es_expr (ee_call (takes_of rfl rfl rfl rfl) IH (hr.mono (by omega)) rfl Z.d__law_spoilt.g Z.d__law_spoilt.F.kp (bd__law_spoilt Z) (ea_cons (ee_var (i := 2)) ea_nil) (hlen := (fun _ _ _ _ q => lCons_len (fun _ _ _ _ q => lNil_len q) q))))))) ess_nil)
    (ess_one (es_if (et_val (ee_callB call_isiW rfl Z.z_isinstance bt_isinstance (ea_cons (ee_var (i := 0)) (ea_cons (ee_ty (t := .list) rfl Z.z_list bt_list) ea_nil)))) (ess_one (es_expr (ee_m ty_list PySem.F.plainAttrs_list PySem.F.slot_list_append PySem.F.type_list_append mt_appendW (ee_var (i := 0)) (ea_cons ee_str ea_nil)))) ess_nil))))
/-! _law_line -/
noncomputable def f__law_line : SF :=
    sSeq (sAsg (fFn m__law_names (lCons (fVar 0) (lCons (fFn m__law_draw (lCons (fVar 0) (lCons (fOp2 addW (fVar 1) (fC (.int 1))) (lNil)))) (lNil)))) (gN 3))
    (sRet (fLC (iVal (fVar 3)) (gN 4) (tYesW) (fTup (lCons (fVar 4) (lCons (fIf (bVal (fOp2 ltI (fFn m__law_draw (lCons (fVar 0) (lCons (fC (.int 10)) (lNil)))) (fVar 2))) (fOp1 negW (fC (.int 1))) (fC (.int 1))) (lNil)))) [4]))
noncomputable def m__law_line : DF := defF 5 f__law_line
theorem ok__law_line (Z : Txt K mg) : FnOk P w K mg base (L2.CX P w) 4 (He.fAd K ("_law_line", none)) Z.d__law_line.fd ["stream", "things", "odds"] (spOf ⟨K, mg, T⟩ 3 m__law_line) :=
  def_ok (k := 3) Z.d__law_line.F sc__law_line fun cdv A outer s H E hr =>
    (ess_cons (es_set (i := 3) sc__law_line.nd rfl (by first | exact .inl rfl | exact .inr rfl) (ee_call (takes_of rfl rfl rfl rfl) (ok__law_names Z) (hr.mono (by omega)) rfl Z.d__law_names.g Z.d__law_names.F.kp (bd__law_names Z) (ea_cons (ee_var (i := 0)) (ea_cons (ee_call (takes_of rfl rfl rfl rfl) (ok__law_draw Z) (hr.mono (by omega)) rfl Z.d__law_draw.g Z.d__law_draw.F.kp (bd__law_draw Z) (ea_cons (ee_var (i := 0)) (ea_cons (ee_op op_addW (ee_var (i := 1)) ee_int) ea_nil)) (hlen := (fun _ _ _ _ q => lCons_len (fun _ _ _ _ q => lCons_len (fun _ _ _ _ q => lNil_len q) q) q))) ea_nil)) (hlen := (fun _ _ _ _ q => lCons_len (fun _ _ _ _ q => lCons_len (fun _ _ _ _ q => lNil_len q) q) q))))
    (ess_one (es_ret (ee_lc (own := [("name", 4)]) (vs := [4]) rfl rfl sc__law_line.nd (ei_val (ee_var (i := 3))) (blkOk_by (by rfl)) (fun _ _ _ _ _ => (eg_name (i := 4) sc__law_line.nd rfl (by first | exact .inl rfl | exact .inr rfl) (fun _ _ => wipe_set (by decide)) (by first | exact .inl rfl | exact .inr rfl))) (fun _ _ _ _ _ => ets_nil) (fun _ _ _ _ _ => (ee_tup (ea_cons (ee_var (i := 4)) (ea_cons (ee_if (et_cmp op_ltI (ee_call LamX.takes0 (ok__law_draw Z) (hr.mono (by omega)) rfl Z.d__law_draw.g Z.d__law_draw.F.kp (bd__law_draw Z) (ea_cons (ee_var (i := 0)) (ea_cons ee_int ea_nil)) (hlen := (fun _ _ _ _ q => lCons_len (fun _ _ _ _ q => lCons_len (fun _ _ _ _ q => lNil_len q) q) q))) (ee_var (i := 2)) (nomark _)) (ee_un un_negW ee_int) ee_int) ea_nil))))))))
/-! _law_over -/
noncomputable def f__law_over : SF :=
    sSeq (sAsg (fVar 1) (gAny 2 (gsCons (gN 2) (gsCons (gN 3) (gsNil)))))
    (sRet (fOp2 addW (fOp2 addW (fSlice (fVar 0) (pNone) (pSome (fVar 2))) (fLC (iVal (fOp1 revW (fSlice (fVar 0) (pSome (fVar 2)) (pSome (fOp2 addW (fVar 3) (fC (.int 1))))))) (gT 2 (gsCons (gN 4) (gsCons (gN 5) (gsNil)))) (tYesW) (fTup (lCons (fVar 4) (lCons (fOp2 subW (fC (.int 0)) (fVar 5)) (lNil)))) [4, 5])) (fSlice (fVar 0) (pSome (fOp2 addW (fVar 3) (fC (.int 1)))) (pNone))))
noncomputable def m__law_over : DF := defF 6 f__law_over
theorem ok__law_over (Z : Txt K mg) : FnOk P w K mg base (L2.CX P w) 1 (He.fAd K ("_law_over", none)) Z.d__law_over.fd ["line", "turn"] (spOf ⟨K, mg, T⟩ 2 m__law_over) :=
  def_ok (k := 0) Z.d__law_over.F sc__law_over fun cdv A outer s H E hr =>
    (ess_cons (es_asg (ee_var (i := 1)) (eg_any rfl (egs_cons SAny.ok (eg_name (i := 2) sc__law_over.nd rfl (by first | exact .inl rfl | exact .inr rfl) (fun _ _ => True.intro) (by first | exact .inl rfl | exact .inr rfl)) (egs_cons SAny.ok (eg_name (i := 3) sc__law_over.nd rfl (by first | exact .inl rfl | exact .inr rfl) (fun _ _ => True.intro) (by first | exact .inl rfl | exact .inr rfl)) (egs_nil SAny.ok)))))
    (ess_one (es_ret (ee_op op_addW (ee_op op_addW (ee_slice (ee_var (i := 0)) ep_none (ep_some (ee_var (i := 2)))) (ee_lc (own := [("name", 4), ("sign", 5)]) (vs := [4, 5]) rfl rfl sc__law_over.nd (ei_val (ee_rev (ee_slice (ee_var (i := 0)) (ep_some (ee_var (i := 2))) (ep_some (ee_op op_addW (ee_var (i := 3)) ee_int))))) (blkOk_by (by rfl)) (fun _ _ _ _ _ => (eg_tup rfl (egs_cons (SOwn.ok _) (eg_name (i := 4) sc__law_over.nd rfl (by first | exact .inl rfl | exact .inr rfl) (fun _ _ => wipe_set (by decide)) (by first | exact .inl rfl | exact .inr rfl)) (egs_cons (SOwn.ok _) (eg_name (i := 5) sc__law_over.nd rfl (by first | exact .inl rfl | exact .inr rfl) (fun _ _ => wipe_set (by decide)) (by first | exact .inl rfl | exact .inr rfl)) (egs_nil (SOwn.ok _)))))) (fun _ _ _ _ _ => ets_nil) (fun _ _ _ _ _ => (ee_tup (ea_cons (ee_var (i := 4)) (ea_cons (ee_op op_subW ee_int (ee_var (i := 5))) ea_nil)))))) (ee_slice (ee_var (i := 0)) (ep_some (ee_op op_addW (ee_var (i := 3)) ee_int)) ep_none)))))
/-! _law_is_turn -/
noncomputable def f__law_is_turn : SF :=
    sSeq (sIf (bOr (bNot (bVal (fCall isiW (lCons (fVar 1) (lCons (fTup (lCons (fC (.typ .list)) (lCons (fC (.typ .tuple)) (lNil)))) (lNil)))))) (bVal (fOp2 neW (fCall lenW (lCons (fVar 1) (lNil))) (fC (.int 2))))) (sRet (fC (.bl false))) (sNext))
    (sSeq (sIf (bNot (bVal (fCall allW (lCons (fLC (iVal (fVar 1)) (gN 2) (tYesW) (fAnd (fCall isiW (lCons (fVar 2) (lCons (fC (.typ .int)) (lNil)))) (fAnd (fOp1 notW (fCall isiW (lCons (fVar 2) (lCons (fC (.typ .bool)) (lNil))))) (fChain leI ltI (fC (.int 0)) (fVar 2) (fCall lenW (lCons (fVar 0) (lNil)))))) [2]) (lNil))))) (sRet (fC (.bl false))) (sNext))
    (sRet (fOp2 leI (fOp2 ixA (fVar 1) (fC (.int 0))) (fOp2 ixA (fVar 1) (fC (.int 1))))))
noncomputable def m__law_is_turn : DF := defF 3 f__law_is_turn
theorem ok__law_is_turn (Z : Txt K mg) : FnOk P w K mg base (L2.CX P w) 1 (He.fAd K ("_law_is_turn", none)) Z.d__law_is_turn.fd ["line", "thing"] (spOf ⟨K, mg, T⟩ 2 m__law_is_turn) :=
  def_ok (k := 0) Z.d__law_is_turn.F sc__law_is_turn fun cdv A outer s H E hr =>
    (ess_cons (es_if (et_w (ew_or (et_not (et_val (ee_callB call_isiW rfl Z.z_isinstance bt_isinstance (ea_cons (ee_var (i := 1)) (ea_cons (ee_tup (ea_cons (ee_ty (t := .list) rfl Z.z_list bt_list) (ea_cons (ee_ty (t := .tuple) rfl Z.z_tuple bt_tuple) ea_nil))) ea_nil))))) (ew_or1 (et_cmp (op_neW hr.units) (ee_callB call_lenW rfl Z.z_len bt_len (ea_cons (ee_var (i := 1)) ea_nil)) ee_int (nomark _))))) (ess_one (es_ret ee_bl)) ess_nil)
    (ess_cons (es_if (et_not (et_val (ee_callB (call_allW rfl) rfl Z.z_all bt_all (ea_cons (ee_lc (own := [("at", 2)]) (vs := [2]) rfl rfl sc__law_is_turn.nd (ei_val (ee_var (i := 1))) (blkOk_by (by rfl)) (fun _ _ _ _ _ => (eg_name (i := 2) sc__law_is_turn.nd rfl (by first | exact .inl rfl | exact .inr rfl) (fun _ _ => wipe_set (by decide)) (by first | exact .inl rfl | exact .inr rfl))) (fun _ _ _ _ _ => ets_nil) (fun _ _ _ _ _ => (ee_and (ee_callB call_isiW rfl Z.z_isinstance bt_isinstance (ea_cons (ee_var (i := 2)) (ea_cons (ee_ty (t := .int) rfl Z.z_int bt_int) ea_nil))) (ee_and (ee_not (ee_callB call_isiW rfl Z.z_isinstance bt_isinstance (ea_cons (ee_var (i := 2)) (ea_cons (ee_ty (t := .bool) rfl Z.z_bool bt_bool) ea_nil)))) (ee_and1 (ee_chain op_leI op_ltI ee_int (ee_var (i := 2)) (ee_callB call_lenW rfl Z.z_len bt_len (ea_cons (ee_var (i := 0)) ea_nil)))))))) ea_nil)))) (ess_one (es_ret ee_bl)) ess_nil)
    (ess_one (es_ret (ee_cmp op_leI (ee_ixA hr.units (ee_var (i := 1)) ee_int (fun _ _ => rfl)) (ee_ixA hr.units (ee_var (i := 1)) ee_int (fun _ _ => rfl)) (nomark _))))))
/-! _law_turn_run -/
noncomputable def b__law_turn_run_1 : SF :=
    sSeq (sIf (bNot (bVal (fFn m__law_is_turn (lCons (fVar 0) (lCons (fVar 4) (lNil)))))) (sRet (fTup (lCons (fVar 3) (lCons (fVar 2) (lNil))))) (sNext))
    (sAsg (fFn m__law_over (lCons (fVar 2) (lCons (fVar 4) (lNil)))) (gN 2))
noncomputable def f__law_turn_run : SF :=
    sSeq (sIf (bNot (bVal (fCall isiW (lCons (fVar 1) (lCons (fTup (lCons (fC (.typ .list)) (lCons (fC (.typ .tuple)) (lNil)))) (lNil)))))) (sRet (fTup (lCons (fC (.int 0)) (lCons (fVar 0) (lNil))))) (sNext))
    (sSeq (sAsg (fCall listW (lCons (fVar 0) (lNil))) (gN 2))
    (sSeq (sFor (iEnumA (lCons (fVar 1) (lNil))) (gT 2 (gsCons (gN 3) (gsCons (gN 4) (gsNil)))) (b__law_turn_run_1))
    (sRet (fTup (lCons (fC .non) (lCons (fVar 2) (lNil)))))))
noncomputable def m__law_turn_run : DF := defF 5 f__law_turn_run
theorem ok__law_turn_run (Z : Txt K mg) : FnOk P w K mg base (L2.CX P w) 2 (He.fAd K ("_law_turn_run", none)) Z.d__law_turn_run.fd ["line", "thing"] (spOf ⟨K, mg, T⟩ 2 m__law_turn_run) :=
  def_ok (k := 1) Z.d__law_turn_run.F sc__law_turn_run fun cdv A outer s H E hr =>
    (ess_cons (es_if (et_not (et_val (ee_callB call_isiW rfl Z.z_isinstance bt_isinstance (ea_cons (ee_var (i := 1)) (ea_cons (ee_tup (ea_cons (ee_ty (t := .list) rfl Z.z_list bt_list) (ea_cons (ee_ty (t := .tuple) rfl Z.z_tuple bt_tuple) ea_nil))) ea_nil))))) (ess_one (es_ret (ee_tup (ea_cons ee_int (ea_cons (ee_var (i := 0)) ea_nil))))) ess_nil)
    (ess_cons (es_set (i := 2) sc__law_turn_run.nd rfl (by first | exact .inl rfl | exact .inr rfl) (ee_callTy call_listW rfl Z.z_list bt_list (ea_cons (ee_var (i := 0)) ea_nil)))
    (ess_cons (es_for (passes_of rfl) rfl (ei_enumA rfl Z.z_enumerate (ea_cons (ee_var (i := 1)) ea_nil)) (eg_tup rfl (egs_cons SAny.ok (eg_name (i := 3) sc__law_turn_run.nd rfl (by first | exact .inl rfl | exact .inr rfl) (fun _ _ => True.intro) (by first | exact .inl rfl | exact .inr rfl)) (egs_cons SAny.ok (eg_name (i := 4) sc__law_turn_run.nd rfl (by first | exact .inl rfl | exact .inr rfl) (fun _ _ => True.intro) (by first | exact .inl rfl | exact .inr rfl)) (egs_nil SAny.ok)))) (ess_cons (es_if (et_not (et_val (ee_call (takes_of rfl rfl rfl rfl) (ok__law_is_turn Z) (hr.mono (by omega)) rfl Z.d__law_is_turn.g Z.d__law_is_turn.F.kp (bd__law_is_turn Z) (ea_cons (ee_var (i := 0)) (ea_cons (ee_var (i := 4)) ea_nil)) (hlen := (fun _ _ _ _ q => lCons_len (fun _ _ _ _ q => lCons_len (fun _ _ _ _ q => lNil_len q) q) q))))) (ess_one (es_ret (ee_tup (ea_cons (ee_var (i := 3)) (ea_cons (ee_var (i := 2)) ea_nil))))) ess_nil)
    (ess_one (es_set (i := 2) sc__law_turn_run.nd rfl (by first | exact .inl rfl | exact .inr rfl) (ee_call (takes_of rfl rfl rfl rfl) (ok__law_over Z) (hr.mono (by omega)) rfl Z.d__law_over.g Z.d__law_over.F.kp (bd__law_over Z) (ea_cons (ee_var (i := 2)) (ea_cons (ee_var (i := 4)) ea_nil)) (hlen := (fun _ _ _ _ q => lCons_len (fun _ _ _ _ q => lCons_len (fun _ _ _ _ q => lNil_len q) q) q)))))))
    (ess_one (es_ret (ee_tup (ea_cons ee_non (ea_cons (ee_var (i := 2)) ea_nil))))))))
/-! _law_met -/
def fe__law_met (m : M W) : EF := fTup (lCons (fC (.str "told")) (lCons (fun env h => m h) lNil))
def pk__law_met_BadTurn (c : Str) : Option Bool := if c = "BadTurn" then some true else if c = "BadRun" then some false else none
def fc__law_met_BadTurn (fs : List (Str × W)) : SF := match fs.lookup ("turn" : Str) with
  | some w => sRet (fTup (lCons (fC (.str "turn")) (lCons (fC w) lNil)))
  | none => sBad
theorem tk__law_met_BadTurn {X : Cx} (Z : Txt X.K X.mg) : Tk X (.ref (He.ga X.K "BadTurn")) pk__law_met_BadTurn := fun c b C hp hm => by
  unfold pk__law_met_BadTurn at hp
  split at hp
  · rename_i e
    subst e
    cases hp
    rw [Z.x_BadTurn.g] at hm
    cases hm
    exact Z.e_BadTurn_BadTurn
  split at hp
  · rename_i e
    subst e
    cases hp
    rw [Z.x_BadRun.g] at hm
    cases hm
    exact Z.e_BadRun_BadTurn
  cases hp
theorem pc__law_met_BadTurn {c : Str} (h : pk__law_met_BadTurn c = some true) : c = "BadTurn" := by
  unfold pk__law_met_BadTurn at h
  split at h
  · first | assumption | cases h
  split at h
  · first | assumption | cases h
  cases h
theorem su__law_met_BadTurn {X : Cx} (Z : Txt X.K X.mg) {p1 p2 p3 p4 p5 : Pos} {a : Addr} {oe : Obj} {cls : Value} {d : Option Addr} {pn : List (Addr × Obj)} {c : Str} {fs : List (Str × W)} {ko k : Nat} {T : List (Addr × Str)} (hz : Zc cls d oe) (hf : ∃ vs, oe.data = .fields vs) (hi : X.N[1]? = some ("e" : Str)) (hv : Vis X.env.scope "e") (hp : pk__law_met_BadTurn c = some true)
    (hs : ∀ e2 : PySem.Expr, starEach [PySem.Expr.Constant (PySem.Const.str "turn") ko p4, e2] X.env = (false, eval (PySem.Expr.Constant (PySem.Const.str "turn") ko p4) X.env) :: starEach [e2] X.env) (hs2 : starEach [PySem.Expr.Attribute (PySem.Expr.Name "e" p1) "turn" p2] X.env = (false, eval (PySem.Expr.Attribute (PySem.Expr.Name "e" p1) "turn" p2) X.env) :: starEach [] X.env) (hb : attributeBase (.Name "e" p1) "turn" X.env (eval (.Name "e" p1) X.env) = eval (.Name "e" p1) X.env) :
    GSs (X.suite a ((a, oe) :: pn)) T WNo (GX (Cx.cn X T) 1 a c fs cls d) [.Return (some (.Tuple [PySem.Expr.Constant (PySem.Const.str "turn") ko p4, PySem.Expr.Attribute (PySem.Expr.Name "e" p1) "turn" p2] k p5)) p3] (fc__law_met_BadTurn fs) := by
  have ec := pc__law_met_BadTurn hp
  subst ec
  unfold fc__law_met_BadTurn
  split
  · rename_i w hw
    exact gs_ret (ge_tup (ga_cons GX.up (ge_of ee_str) (ga_cons GX.up (ge_field hz hf hi hv (fun C hC => by
      rw [Z.x_BadTurn.g] at hC
      cases hC
      exact ⟨Z.x_BadTurn.X, Z.x_BadTurn.no⟩) hw (by decide) (by decide) hb) ga_nil hs2) (hs _)))
  · exact gs_of ess_bad
def pk__law_met_BadRun (c : Str) : Option Bool := if c = "BadTurn" then some false else if c = "BadRun" then some true else none
def fc__law_met_BadRun (fs : List (Str × W)) : SF := match fs.lookup ("index" : Str) with
  | some w => sRet (fTup (lCons (fC (.str "run")) (lCons (fC w) lNil)))
  | none => sBad
theorem tk__law_met_BadRun {X : Cx} (Z : Txt X.K X.mg) : Tk X (.ref (He.ga X.K "BadRun")) pk__law_met_BadRun := fun c b C hp hm => by
  unfold pk__law_met_BadRun at hp
  split at hp
  · rename_i e
    subst e
    cases hp
    rw [Z.x_BadTurn.g] at hm
    cases hm
    exact Z.e_BadTurn_BadRun
  split at hp
  · rename_i e
    subst e
    cases hp
    rw [Z.x_BadRun.g] at hm
    cases hm
    exact Z.e_BadRun_BadRun
  cases hp
theorem pc__law_met_BadRun {c : Str} (h : pk__law_met_BadRun c = some true) : c = "BadRun" := by
  unfold pk__law_met_BadRun at h
  split at h
  · first | assumption | cases h
  split at h
  · first | assumption | cases h
  cases h
theorem su__law_met_BadRun {X : Cx} (Z : Txt X.K X.mg) {p1 p2 p3 p4 p5 : Pos} {a : Addr} {oe : Obj} {cls : Value} {d : Option Addr} {pn : List (Addr × Obj)} {c : Str} {fs : List (Str × W)} {ko k : Nat} {T : List (Addr × Str)} (hz : Zc cls d oe) (hf : ∃ vs, oe.data = .fields vs) (hi : X.N[1]? = some ("e" : Str)) (hv : Vis X.env.scope "e") (hp : pk__law_met_BadRun c = some true)
    (hs : ∀ e2 : PySem.Expr, starEach [PySem.Expr.Constant (PySem.Const.str "run") ko p4, e2] X.env = (false, eval (PySem.Expr.Constant (PySem.Const.str "run") ko p4) X.env) :: starEach [e2] X.env) (hs2 : starEach [PySem.Expr.Attribute (PySem.Expr.Name "e" p1) "index" p2] X.env = (false, eval (PySem.Expr.Attribute (PySem.Expr.Name "e" p1) "index" p2) X.env) :: starEach [] X.env) (hb : attributeBase (.Name "e" p1) "index" X.env (eval (.Name "e" p1) X.env) = eval (.Name "e" p1) X.env) :
    GSs (X.suite a ((a, oe) :: pn)) T WNo (GX (Cx.cn X T) 1 a c fs cls d) [.Return (some (.Tuple [PySem.Expr.Constant (PySem.Const.str "run") ko p4, PySem.Expr.Attribute (PySem.Expr.Name "e" p1) "index" p2] k p5)) p3] (fc__law_met_BadRun fs) := by
  have ec := pc__law_met_BadRun hp
  subst ec
  unfold fc__law_met_BadRun
  split
  · rename_i w hw
    exact gs_ret (ge_tup (ga_cons GX.up (ge_of ee_str) (ga_cons GX.up (ge_field hz hf hi hv (fun C hC => by
      rw [Z.x_BadRun.g] at hC
      cases hC
      exact ⟨Z.x_BadRun.X, Z.x_BadRun.no⟩) hw (by decide) (by decide) hb) ga_nil hs2) (hs _)))
  · exact gs_of ess_bad
def xl__law_met : List XC := [⟨pk__law_met_BadTurn, some 1, fun _ fs => fc__law_met_BadTurn fs⟩, ⟨pk__law_met_BadRun, some 1, fun _ fs => fc__law_met_BadRun fs⟩]
def mf__law_met : M W → M W := metF 2 fe__law_met xl__law_met
theorem gv__law_met {X : Cx} (Z : Txt X.K X.mg) {cdv : Value} {q : Str} : LamX.GivesTo X ["ask", "e"] "_law_met" (defScope s__law_met) (He.fAd X.K ("_law_met", none)) cdv (defBody s__law_met) "ask" q (TM (Cx.cn X T) mf__law_met) :=
  met_gives sc__law_met.nd rfl (fun s H f c1 m tl E pn xe tk hm => ge_tup (ga_cons GAsk.up (ge_of ee_str) (ga_cons GAsk.up (hm _ _) ga_nil))) fun s H =>
    (XcOk.named ⟨rfl, by decide, .inl Z.x_BadTurn.g⟩ (tk__law_met_BadTurn Z) rfl rfl (fun a oe cls d pn c fs hz hf hp => su__law_met_BadTurn (X := metCx X ["ask", "e"] "_law_met" (defScope s__law_met) (He.fAd X.K ("_law_met", none)) cdv s H) Z hz hf rfl (.inl rfl) hp (fun _ => rfl) rfl rfl) (XcOk.named ⟨rfl, by decide, .inl Z.x_BadRun.g⟩ (tk__law_met_BadRun Z) rfl rfl (fun a oe cls d pn c fs hz hf hp => su__law_met_BadRun (X := metCx X ["ask", "e"] "_law_met" (defScope s__law_met) (He.fAd X.K ("_law_met", none)) cdv s H) Z hz hf rfl (.inl rfl) hp (fun _ => rfl) rfl rfl) XcOk.nil))
/-! _law_odd_turn -/
noncomputable def f__law_odd_turn : SF :=
    sSeq (sPar 2 3 (lCons (fFn m__law_draw (lCons (fVar 0) (lCons (fOp2 addW (fCall lenW (lCons (fVar 1) (lNil))) (fC (.int 1))) (lNil)))) (lCons (fFn m__law_draw (lCons (fVar 0) (lCons (fOp2 addW (fCall lenW (lCons (fVar 1) (lNil))) (fC (.int 1))) (lNil)))) (lNil))))
    (sSeq (sAsg (fLst (lCons (fTup (lCons (fVar 2) (lCons (fVar 3) (lNil)))) (lCons (fTup (lCons (fVar 3) (lCons (fVar 2) (lNil)))) (lCons (fTup (lCons (fOp1 negW (fC (.int 1))) (lCons (fVar 2) (lNil)))) (lCons (fTup (lCons (fVar 2) (lNil))) (lCons (fC .non) (lCons (fC (.int 5)) (lCons (fC (.str "01")) (lCons (fTup (lCons (fVar 2) (lCons (fVar 3) (lCons (fVar 2) (lNil))))) (lCons (fTup (lCons (fC (.bl true)) (lCons (fVar 2) (lNil)))) (lCons (fTup (lCons (fC .non) (lCons (fVar 2) (lNil)))) (lNil)))))))))))) (gN 4))
    (sRet (fFn m__law_pick (lCons (fVar 0) (lCons (fVar 4) (lNil))))))
noncomputable def m__law_odd_turn : DF := defF 5 f__law_odd_turn
theorem ok__law_odd_turn (Z : Txt K mg) : FnOk P w K mg base (L2.CX P w) 3 (He.fAd K ("_law_odd_turn", none)) Z.d__law_odd_turn.fd ["stream", "line"] (spOf ⟨K, mg, T⟩ 2 m__law_odd_turn) :=
  def_ok (k := 2) Z.d__law_odd_turn.F sc__law_odd_turn fun cdv A outer s H E hr =>
    (ess_cons (es_par (i := 2) (j := 3) rfl sc__law_odd_turn.nd rfl rfl (by decide) rfl rfl (ea_cons (ee_call (takes_of rfl rfl rfl rfl) (ok__law_draw Z) (hr.mono (by omega)) rfl Z.d__law_draw.g Z.d__law_draw.F.kp (bd__law_draw Z) (ea_cons (ee_var (i := 0)) (ea_cons (ee_op op_addW (ee_callB call_lenW rfl Z.z_len bt_len (ea_cons (ee_var (i := 1)) ea_nil)) ee_int) ea_nil)) (hlen := (fun _ _ _ _ q => lCons_len (fun _ _ _ _ q => lCons_len (fun _ _ _ _ q => lNil_len q) q) q))) (ea_cons (ee_call (takes_of rfl rfl rfl rfl) (ok__law_draw Z) (hr.mono (by omega)) rfl Z.d__law_draw.g Z.d__law_draw.F.kp (bd__law_draw Z) (ea_cons (ee_var (i := 0)) (ea_cons (ee_op op_addW (ee_callB call_lenW rfl Z.z_len bt_len (ea_cons (ee_var (i := 1)) ea_nil)) ee_int) ea_nil)) (hlen := (fun _ _ _ _ q => lCons_len (fun _ _ _ _ q => lCons_len (fun _ _ _ _ q => lNil_len q) q) q))) ea_nil)) rfl)
    (ess_cons (es_set (i := 4) sc__law_odd_turn.nd rfl (by first | exact .inl rfl | exact .inr rfl) (ee_lst (ea_cons (ee_tup (ea_cons (ee_var (i := 2)) (ea_cons (ee_var (i := 3)) ea_nil))) (ea_cons (ee_tup (ea_cons (ee_var (i := 3)) (ea_cons (ee_var (i := 2)) ea_nil))) (ea_cons (ee_tup (ea_cons (ee_un un_negW ee_int) (ea_cons (ee_var (i := 2)) ea_nil))) (ea_cons (ee_tup (ea_cons (ee_var (i := 2)) ea_nil)) (ea_cons ee_non (ea_cons ee_int (ea_cons ee_str (ea_cons (ee_tup (ea_cons (ee_var (i := 2)) (ea_cons (ee_var (i := 3)) (ea_cons (ee_var (i := 2)) ea_nil)))) (ea_cons (ee_tup (ea_cons ee_bl (ea_cons (ee_var (i := 2)) ea_nil))) (ea_cons (ee_tup (ea_cons ee_non (ea_cons (ee_var (i := 2)) ea_nil))) ea_nil))))))))))))
    (ess_one (es_ret (ee_call (takes_of rfl rfl rfl rfl) (ok__law_pick Z) (hr.mono (by omega)) rfl Z.d__law_pick.g Z.d__law_pick.F.kp (bd__law_pick Z) (ea_cons (ee_var (i := 0)) (ea_cons (ee_var (i := 4)) ea_nil)) (hlen := (fun _ _ _ _ q => lCons_len (fun _ _ _ _ q => lCons_len (fun _ _ _ _ q => lNil_len q) q) q)))))))
end
end K30
set_option Elab.async false
set_option linter.all false
set_option maxRecDepth 100000
set_option maxHeartbeats 4000000
namespace K30
open PySem PySem.Spec PyProof.Rows L2 PF

section
variable {P : Program} {w : World} {K : PySem.W.Frag} {mg : Str → Option Value} {base : Heap} {T : List (Addr × Str)}
/-! law -/
noncomputable def b_law_1 : SF :=
    sSeq (sAsg (fFn m__law_odd_turn (lCons (fVar 1) (lCons (fVar 3) (lNil)))) (gN 6))
    (sSeq (sAsg (fIf (bVal (fFn m__law_is_turn (lCons (fVar 3) (lCons (fVar 6) (lNil))))) (fTup (lCons (fC (.str "told")) (lCons (fFn m__law_over (lCons (fVar 3) (lCons (fVar 6) (lNil)))) (lNil)))) (fTup (lCons (fC (.str "turn")) (lCons (fVar 6) (lNil))))) (gN 7))
    (sSeq (sAsg (fLst (lCons (fFn (m__law_loose 12) (lCons (fVar 1) (lCons (fVar 3) (lNil)))) (lCons (fFn (m__law_copied 12) (lCons (fVar 6) (lNil))) (lNil)))) (gN 8))
    (sSeq (sPar 9 10 (lCons (fCall reprW (lCons (fVar 8) (lNil))) (lCons (fLstR (lCons (fMet mf__law_met (fFn m_turned (lCons (fOp2 ixA (fVar 8) (fC (.int 0))) (lCons (fOp2 ixA (fVar 8) (fC (.int 1))) (lNil))))) (lNil))) (lNil))))
    (sSeq (sExpr (fM isLst mAppend (fVar 10) (lCons (fMet mf__law_met (fFnK m_turned 0 2 [1, 0] (lNil) (lCons (fOp2 ixA (fVar 8) (fC (.int 1))) (lCons (fCall listW (lCons (fVar 3) (lNil))) (lNil))))) (lNil))))
    (sSeq (sIf (bOr (bNot (bVal (fFn (m__law_same 12) (lCons (fVar 10) (lCons (fLst (lCons (fVar 7) (lCons (fVar 7) (lNil)))) (lNil)))))) (bVal (fOp2 neW (fCall reprW (lCons (fVar 8) (lNil))) (fVar 9)))) (sRet (fC (.bl false))) (sNext))
    (sIf (bVal (fOp2 eqW (fOp2 ixA (fVar 7) (fC (.int 0))) (fC (.str "told")))) (sSeq (sExpr (fFn (m__law_spoilt 6) (lCons (fLstR (lCons (fOp2 ixA (fOp2 ixA (fVar 10) (fC (.int 0))) (fC (.int 1))) (lCons (fOp2 ixA (fOp2 ixA (fVar 10) (fC (.int 1))) (fC (.int 1))) (lNil)))) (lNil))))
    (sIf (bNot (bVal (fFn (m__law_same 12) (lCons (fFn m_turned (lCons (fCall listW (lCons (fVar 3) (lNil))) (lCons (fVar 6) (lNil)))) (lCons (fOp2 ixA (fVar 7) (fC (.int 1))) (lNil)))))) (sRet (fC (.bl false))) (sNext))) (sNext)))))))
noncomputable def b_law_2 : SF :=
    sSeq (sAsg (fFn m__law_draw (lCons (fVar 1) (lCons (fCall lenW (lCons (fVar 3) (lNil))) (lNil)))) (gN 13))
    (sExpr (fM isLst mAppend (fVar 11) (lCons (fTup (lCons (fVar 13) (lCons (fOp2 addW (fVar 13) (fFn m__law_draw (lCons (fVar 1) (lCons (fOp2 subW (fCall lenW (lCons (fVar 3) (lNil))) (fVar 13)) (lNil))))) (lNil)))) (lNil))))
noncomputable def b_law_3 : SF :=
    sSeq (sAsg (fFn m__law_turn_run (lCons (fVar 3) (lCons (fVar 6) (lNil)))) (gT 2 (gsCons (gN 16) (gsCons (gN 17) (gsNil)))))
    (sSeq (sAsg (fLst (lCons (fFn (m__law_loose 12) (lCons (fVar 1) (lCons (fVar 3) (lNil)))) (lCons (fFn (m__law_loose 12) (lCons (fVar 1) (lCons (fFn (m__law_copied 12) (lCons (fVar 6) (lNil))) (lNil)))) (lNil)))) (gN 8))
    (sSeq (sPar 9 10 (lCons (fCall reprW (lCons (fVar 8) (lNil))) (lCons (fLst (lCons (fFn m_turns_fault (lCons (fOp2 ixA (fVar 8) (fC (.int 0))) (lCons (fOp2 ixA (fVar 8) (fC (.int 1))) (lNil)))) (lCons (fFnK m_turns_fault 0 2 [1, 0] (lNil) (lCons (fOp2 ixA (fVar 8) (fC (.int 1))) (lCons (fCall listW (lCons (fVar 3) (lNil))) (lNil)))) (lNil)))) (lNil))))
    (sSeq (sAsg (fLstR (lCons (fMet mf__law_met (fFn m_turns_behind (lCons (fOp2 ixA (fVar 8) (fC (.int 0))) (lCons (fOp2 ixA (fVar 8) (fC (.int 1))) (lNil))))) (lNil))) (gN 18))
    (sSeq (sExpr (fM isLst mAppend (fVar 18) (lCons (fMet mf__law_met (fFnK m_turns_behind 0 2 [1, 0] (lNil) (lCons (fOp2 ixA (fVar 8) (fC (.int 1))) (lCons (fCall listW (lCons (fVar 3) (lNil))) (lNil))))) (lNil))))
    (sSeq (sAsg (fIf (bVal (fOp2 isN (fVar 16) (fC .non))) (fTup (lCons (fC (.str "told")) (lCons (fVar 17) (lNil)))) (fTup (lCons (fC (.str "run")) (lCons (fVar 16) (lNil))))) (gN 7))
    (sSeq (sIf (bOr (bNot (bVal (fFn (m__law_same 12) (lCons (fVar 10) (lCons (fLst (lCons (fVar 16) (lCons (fVar 16) (lNil)))) (lNil)))))) (bOr (bNot (bVal (fFn (m__law_same 12) (lCons (fVar 18) (lCons (fLst (lCons (fVar 7) (lCons (fVar 7) (lNil)))) (lNil)))))) (bVal (fOp2 neW (fCall reprW (lCons (fVar 8) (lNil))) (fVar 9))))) (sRet (fC (.bl false))) (sNext))
    (sExpr (fFn (m__law_spoilt 6) (lCons (fIf (bVal (fOp2 isN (fVar 16) (fC .non))) (fLstR (lCons (fOp2 ixA (fOp2 ixA (fVar 18) (fC (.int 0))) (fC (.int 1))) (lCons (fOp2 ixA (fOp2 ixA (fVar 18) (fC (.int 1))) (fC (.int 1))) (lNil)))) (fLstR (lNil))) (lNil))))))))))
noncomputable def b_law_4 : SF :=
    sSeq (sAsg (fFn m__law_line (lCons (fVar 1) (lCons (fFn m__law_pick (lCons (fVar 1) (lCons (fLst (lCons (fC (.int 2)) (lCons (fC (.int 6)) (lCons (fC (.int 20)) (lNil))))) (lNil)))) (lCons (fFn m__law_pick (lCons (fVar 1) (lCons (fLst (lCons (fC (.int 0)) (lCons (fC (.int 3)) (lCons (fC (.int 5)) (lNil))))) (lNil)))) (lNil))))) (gN 3))
    (sSeq (sAsg (fCall reprW (lCons (fVar 3) (lNil))) (gN 4))
    (sSeq (sFor (iRange1 (lCons (fC (.int 6)) (lNil))) (gN 5) (b_law_1))
    (sSeq (sAsg (fLstR (lNil)) (gN 11))
    (sSeq (sFor (iRange1 (lCons (fIf (bVal (fOp2 neW (fVar 3) (fLst (lNil)))) (fFn m__law_draw (lCons (fVar 1) (lCons (fC (.int 6)) (lNil)))) (fC (.int 0))) (lNil))) (gN 12) (b_law_2))
    (sSeq (sAsg (fFn m__law_draw (lCons (fVar 1) (lCons (fOp2 addW (fCall lenW (lCons (fVar 11) (lNil))) (fC (.int 1))) (lNil)))) (gN 14))
    (sSeq (sAsg (fLst (lCons (fVar 11) (lCons (fOp2 addW (fOp2 addW (fSlice (fVar 11) (pNone) (pSome (fVar 14))) (fLst (lCons (fFn m__law_odd_turn (lCons (fVar 1) (lCons (fVar 3) (lNil)))) (lNil)))) (fSlice (fVar 11) (pSome (fVar 14)) (pNone))) (lCons (fOp1 revW (fVar 11)) (lCons (fLst (lNil)) (lCons (fC .non) (lCons (fC (.int 5)) (lCons (fC (.str "ab")) (lCons (fDct0) (lNil)))))))))) (gN 15))
    (sSeq (sFor (iVal (fVar 15)) (gN 6) (b_law_3))
    (sIf (bVal (fOp2 neW (fCall reprW (lCons (fVar 3) (lNil))) (fVar 4))) (sRet (fC (.bl false))) (sNext)))))))))
noncomputable def f_law : SF :=
    sSeq (sAsg (fFn m__law_stream (lCons (fVar 0) (lNil))) (gN 1))
    (sSeq (sFor (iRange1 (lCons (fC (.int 8)) (lNil))) (gN 2) (b_law_4))
    (sSeq (sAsg (fLst (lCons (fTup (lCons (fC (.str "a")) (lCons (fC (.int 1)) (lNil)))) (lCons (fTup (lCons (fC (.str "b")) (lCons (fOp1 negW (fC (.int 1))) (lNil)))) (lCons (fTup (lCons (fC (.str "c")) (lCons (fC (.int 1)) (lNil)))) (lNil))))) (gN 3))
    (sSeq (sAsg (fLst (lCons (fFn m_turned (lCons (fCall listW (lCons (fVar 3) (lNil))) (lCons (fTup (lCons (fC (.int 1)) (lCons (fC (.int 1)) (lNil)))) (lNil)))) (lCons (fFn m_turned (lCons (fCall listW (lCons (fVar 3) (lNil))) (lCons (fTup (lCons (fC (.int 0)) (lCons (fC (.int 1)) (lNil)))) (lNil)))) (lCons (fFn m_turns_behind (lCons (fLst (lNil)) (lCons (fLst (lNil)) (lNil)))) (lNil))))) (gN 10))
    (sRet (fFn (m__law_same 12) (lCons (fVar 10) (lCons (fLst (lCons (fLst (lCons (fTup (lCons (fC (.str "a")) (lCons (fC (.int 1)) (lNil)))) (lCons (fTup (lCons (fC (.str "b")) (lCons (fC (.int 1)) (lNil)))) (lCons (fTup (lCons (fC (.str "c")) (lCons (fC (.int 1)) (lNil)))) (lNil))))) (lCons (fLst (lCons (fTup (lCons (fC (.str "b")) (lCons (fC (.int 1)) (lNil)))) (lCons (fTup (lCons (fC (.str "a")) (lCons (fOp1 negW (fC (.int 1))) (lNil)))) (lCons (fTup (lCons (fC (.str "c")) (lCons (fC (.int 1)) (lNil)))) (lNil))))) (lCons (fLst (lNil)) (lNil))))) (lNil))))))))
noncomputable def m_law : DF := defF 19 f_law
theorem ok_law (Z : Txt K mg) (TB : LamX.TabB base mg (He.cT K ("law", none)).1 (He.cT K ("law", none)).2) (hmT : ((He.cT K ("law", none)).2, ("law" : Str) ++ ".<locals>." ++ "<lambda>") ∈ T) (hu : ∀ p ∈ T, p.1 = (He.cT K ("law", none)).2 → p.2 = ("law" : Str) ++ ".<locals>." ++ "<lambda>") :
    FnG P w K mg base 18 (He.fAd K ("law", none)) Z.d_law.fd ["script"] (spOf ⟨K, mg, T⟩ 1 m_law) :=
  def_okG (k := 17) Z.d_law.F sc_law fun A outer s H E hg hr =>
    (ess_cons (es_set (i := 1) sc_law.nd rfl (by first | exact .inl rfl | exact .inr rfl) (ee_call (takes_of rfl rfl rfl rfl) (ok__law_stream Z) (hr.mono (by omega)) rfl Z.d__law_stream.g Z.d__law_stream.F.kp (bd__law_stream Z) (ea_cons (ee_var (i := 0)) ea_nil) (hlen := (fun _ _ _ _ q => lCons_len (fun _ _ _ _ q => lNil_len q) q))))
    (ess_cons (es_for (passes_of rfl) rfl (ei_range1 rfl Z.z_range (ea_cons ee_int ea_nil)) (eg_name (i := 2) sc_law.nd rfl (by first | exact .inl rfl | exact .inr rfl) (fun _ _ => True.intro) (by first | exact .inl rfl | exact .inr rfl)) (ess_cons (es_set (i := 3) sc_law.nd rfl (by first | exact .inl rfl | exact .inr rfl) (ee_call (takes_of rfl rfl rfl rfl) (ok__law_line Z) (hr.mono (by omega)) rfl Z.d__law_line.g Z.d__law_line.F.kp (bd__law_line Z) (ea_cons (ee_var (i := 1)) (ea_cons (ee_call (takes_of rfl rfl rfl rfl) (ok__law_pick Z) (hr.mono (by omega)) rfl Z.d__law_pick.g Z.d__law_pick.F.kp (bd__law_pick Z) (ea_cons (ee_var (i := 1)) (ea_cons (ee_lst (ea_cons ee_int (ea_cons ee_int (ea_cons ee_int ea_nil)))) ea_nil)) (hlen := (fun _ _ _ _ q => lCons_len (fun _ _ _ _ q => lCons_len (fun _ _ _ _ q => lNil_len q) q) q))) (ea_cons (ee_call (takes_of rfl rfl rfl rfl) (ok__law_pick Z) (hr.mono (by omega)) rfl Z.d__law_pick.g Z.d__law_pick.F.kp (bd__law_pick Z) (ea_cons (ee_var (i := 1)) (ea_cons (ee_lst (ea_cons ee_int (ea_cons ee_int (ea_cons ee_int ea_nil)))) ea_nil)) (hlen := (fun _ _ _ _ q => lCons_len (fun _ _ _ _ q => lCons_len (fun _ _ _ _ q => lNil_len q) q) q))) ea_nil))) (hlen := (fun _ _ _ _ q => lCons_len (fun _ _ _ _ q => lCons_len (fun _ _ _ _ q => lCons_len (fun _ _ _ _ q => lNil_len q) q) q) q))))
    (ess_cons (es_set (i := 4) sc_law.nd rfl (by first | exact .inl rfl | exact .inr rfl) (ee_callB (call_reprW hg hr.units) rfl Z.z_repr bt_repr (ea_cons (ee_var (i := 3)) ea_nil)))
    (ess_cons (es_for (passes_of rfl) rfl (ei_range1 rfl Z.z_range (ea_cons ee_int ea_nil)) (eg_name (i := 5) sc_law.nd rfl (by first | exact .inl rfl | exact .inr rfl) (fun _ _ => True.intro) (by first | exact .inl rfl | exact .inr rfl)) (ess_cons (es_set (i := 6) sc_law.nd rfl (by first | exact .inl rfl | exact .inr rfl) (ee_call (takes_of rfl rfl rfl rfl) (ok__law_odd_turn Z) (hr.mono (by omega)) rfl Z.d__law_odd_turn.g Z.d__law_odd_turn.F.kp (bd__law_odd_turn Z) (ea_cons (ee_var (i := 1)) (ea_cons (ee_var (i := 3)) ea_nil)) (hlen := (fun _ _ _ _ q => lCons_len (fun _ _ _ _ q => lCons_len (fun _ _ _ _ q => lNil_len q) q) q))))
    (ess_cons (es_set (i := 7) sc_law.nd rfl (by first | exact .inl rfl | exact .inr rfl) (ee_if (et_val (ee_call (takes_of rfl rfl rfl rfl) (ok__law_is_turn Z) (hr.mono (by omega)) rfl Z.d__law_is_turn.g Z.d__law_is_turn.F.kp (bd__law_is_turn Z) (ea_cons (ee_var (i := 3)) (ea_cons (ee_var (i := 6)) ea_nil)) (hlen := (fun _ _ _ _ q => lCons_len (fun _ _ _ _ q => lCons_len (fun _ _ _ _ q => lNil_len q) q) q)))) (ee_tup (ea_cons ee_str (ea_cons (ee_call (takes_of rfl rfl rfl rfl) (ok__law_over Z) (hr.mono (by omega)) rfl Z.d__law_over.g Z.d__law_over.F.kp (bd__law_over Z) (ea_cons (ee_var (i := 3)) (ea_cons (ee_var (i := 6)) ea_nil)) (hlen := (fun _ _ _ _ q => lCons_len (fun _ _ _ _ q => lCons_len (fun _ _ _ _ q => lNil_len q) q) q))) ea_nil))) (ee_tup (ea_cons ee_str (ea_cons (ee_var (i := 6)) ea_nil)))))
    (ess_cons (es_set (i := 8) sc_law.nd rfl (by first | exact .inl rfl | exact .inr rfl) (ee_lst (ea_cons (ee_call (takes_of rfl rfl rfl rfl) (ok__law_loose Z 12) (hr.mono (by omega)) rfl Z.d__law_loose.g Z.d__law_loose.F.kp (bd__law_loose Z) (ea_cons (ee_var (i := 1)) (ea_cons (ee_var (i := 3)) ea_nil)) (hlen := (fun _ _ _ _ q => lCons_len (fun _ _ _ _ q => lCons_len (fun _ _ _ _ q => lNil_len q) q) q))) (ea_cons (ee_call (takes_of rfl rfl rfl rfl) (ok__law_copied Z 12) (hr.mono (by omega)) rfl Z.d__law_copied.g Z.d__law_copied.F.kp (bd__law_copied Z) (ea_cons (ee_var (i := 6)) ea_nil) (hlen := (fun _ _ _ _ q => lCons_len (fun _ _ _ _ q => lNil_len q) q))) ea_nil))))
    (ess_cons (es_par (i := 9) (j := 10) rfl sc_law.nd rfl rfl (by decide) rfl rfl (ea_cons (ee_callB (call_reprW hg hr.units) rfl Z.z_repr bt_repr (ea_cons (ee_var (i := 8)) ea_nil)) (ea_cons (ee_lstR (ea_cons (ee_metD (k := 15) (qn := ("law" : Str) ++ ".<locals>.") rfl Z.d__law_met rfl (bd__law_met Z) sc__law_met rfl (.inl rfl) (fun cdv => gv__law_met Z) TB rfl hmT hu (hr.mono (by omega)) (LamX.lamS_by (by rfl)) rfl (fun _ _ _ _ _ => rfl) (fun A outer s H E f c0 hr => (ee_call (takes_of rfl rfl rfl rfl) (ok_turned Z) (hr.mono (by omega)) rfl Z.d_turned.g Z.d_turned.F.kp (bd_turned Z) (ea_cons (ee_ixA hr.units (ee_var (i := 8)) ee_int (fun _ _ => rfl)) (ea_cons (ee_ixA hr.units (ee_var (i := 8)) ee_int (fun _ _ => rfl)) ea_nil)) (hlen := (fun _ _ _ _ q => lCons_len (fun _ _ _ _ q => lCons_len (fun _ _ _ _ q => lNil_len q) q) q))))) ea_nil)) ea_nil)) rfl)
    (ess_cons (es_expr (ee_m ty_list PySem.F.plainAttrs_list PySem.F.slot_list_append PySem.F.type_list_append mt_appendW (ee_var (i := 10)) (ea_cons (ee_metD (k := 15) (qn := ("law" : Str) ++ ".<locals>.") rfl Z.d__law_met rfl (bd__law_met Z) sc__law_met rfl (.inl rfl) (fun cdv => gv__law_met Z) TB rfl hmT hu (hr.mono (by omega)) (LamX.lamS_by (by rfl)) rfl (fun _ _ _ _ _ => rfl) (fun A outer s H E f c0 hr => (ee_callK0 (ks := ["turn", "line"]) (pm := [1, 0]) (takes_of rfl rfl rfl rfl) (ok_turned Z) (hr.mono (by omega)) rfl Z.d_turned.g Z.d_turned.F.kp (kb_of (ks := ["turn", "line"]) (pm := [1, 0]) Z.d_turned.F fun _ _ _ _ _ _ us ws h1 h2 => match us, ws, h1, h2 with | [], [_, _], _, _ => rfl) (ek_cons (ee_ixA hr.units (ee_var (i := 8)) ee_int (fun _ _ => rfl)) (ek_cons (ee_callTy call_listW rfl Z.z_list bt_list (ea_cons (ee_var (i := 3)) ea_nil)) ek_nil)) (fun l h => match l, h with | [_, _], _ => rfl)))) ea_nil)))
    (ess_cons (es_if (et_w (ew_or (et_not (et_val (ee_call (takes_of rfl rfl rfl rfl) (ok__law_same Z 12) (hr.mono (by omega)) rfl Z.d__law_same.g Z.d__law_same.F.kp (bd__law_same Z) (ea_cons (ee_var (i := 10)) (ea_cons (ee_lst (ea_cons (ee_var (i := 7)) (ea_cons (ee_var (i := 7)) ea_nil))) ea_nil)) (hlen := (fun _ _ _ _ q => lCons_len (fun _ _ _ _ q => lCons_len (fun _ _ _ _ q => lNil_len q) q) q))))) (ew_or1 (et_cmp (op_neW hr.units) (ee_callB (call_reprW hg hr.units) rfl Z.z_repr bt_repr (ea_cons (ee_var (i := 8)) ea_nil)) (ee_var (i := 9)) (nomark _))))) (ess_one (es_ret ee_bl)) ess_nil)
    (ess_one (es_if (et_cmp (op_eqW hr.units) (ee_ixA hr.units (ee_var (i := 7)) ee_int (fun _ _ => rfl)) ee_str (nomark _)) (ess_cons (es_expr (ee_call (takes_of rfl rfl rfl rfl) (ok__law_spoilt Z 6) (hr.mono (by omega)) rfl Z.d__law_spoilt.g Z.d__law_spoilt.F.kp (bd__law_spoilt Z) (ea_cons (ee_lstR (ea_cons (ee_ixA hr.units (ee_ixA hr.units (ee_var (i := 10)) ee_int (fun _ _ => rfl)) ee_int (fun _ _ => rfl)) (ea_cons (ee_ixA hr.units (ee_ixA hr.units (ee_var (i := 10)) ee_int (fun _ _ => rfl)) ee_int (fun _ _ => rfl)) ea_nil))) ea_nil) (hlen := (fun _ _ _ _ q => lCons_len (fun _ _ _ _ q => lNil_len q) q))))
    (ess_one (es_if (et_not (et_val (ee_call (takes_of rfl rfl rfl rfl) (ok__law_same Z 12) (hr.mono (by omega)) rfl Z.d__law_same.g Z.d__law_same.F.kp (bd__law_same Z) (ea_cons (ee_call (takes_of rfl rfl rfl rfl) (ok_turned Z) (hr.mono (by omega)) rfl Z.d_turned.g Z.d_turned.F.kp (bd_turned Z) (ea_cons (ee_callTy call_listW rfl Z.z_list bt_list (ea_cons (ee_var (i := 3)) ea_nil)) (ea_cons (ee_var (i := 6)) ea_nil)) (hlen := (fun _ _ _ _ q => lCons_len (fun _ _ _ _ q => lCons_len (fun _ _ _ _ q => lNil_len q) q) q))) (ea_cons (ee_ixA hr.units (ee_var (i := 7)) ee_int (fun _ _ => rfl)) ea_nil)) (hlen := (fun _ _ _ _ q => lCons_len (fun _ _ _ _ q => lCons_len (fun _ _ _ _ q => lNil_len q) q) q))))) (ess_one (es_ret ee_bl)) ess_nil))) ess_nil)))))))))
    (ess_cons (es_set (i := 11) sc_law.nd rfl (by first | exact .inl rfl | exact .inr rfl) (ee_lstR ea_nil))
    (ess_cons (es_for (passes_of rfl) rfl (ei_range1 rfl Z.z_range (ea_cons (ee_if (et_cmp (op_neW hr.units) (ee_var (i := 3)) (ee_lst ea_nil) (nomark _)) (ee_call (takes_of rfl rfl rfl rfl) (ok__law_draw Z) (hr.mono (by omega)) rfl Z.d__law_draw.g Z.d__law_draw.F.kp (bd__law_draw Z) (ea_cons (ee_var (i := 1)) (ea_cons ee_int ea_nil)) (hlen := (fun _ _ _ _ q => lCons_len (fun _ _ _ _ q => lCons_len (fun _ _ _ _ q => lNil_len q) q) q))) ee_int) ea_nil)) (eg_name (i := 12) sc_law.nd rfl (by first | exact .inl rfl | exact .inr rfl) (fun _ _ => True.intro) (by first | exact .inl rfl | exact .inr rfl)) (ess_cons (es_set (i := 13) sc_law.nd rfl (by first | exact .inl rfl | exact .inr rfl) (ee_call (takes_of rfl rfl rfl rfl) (ok__law_draw Z) (hr.mono (by omega)) rfl Z.d__law_draw.g Z.d__law_draw.F.kp (bd__law_draw Z) (ea_cons (ee_var (i := 1)) (ea_cons (ee_callB call_lenW rfl Z.z_len bt_len (ea_cons (ee_var (i := 3)) ea_nil)) ea_nil)) (hlen := (fun _ _ _ _ q => lCons_len (fun _ _ _ _ q => lCons_len (fun _ _ _ _ q => lNil_len q) q) q))))
    (ess_one (es_expr (ee_m ty_list PySem.F.plainAttrs_list PySem.F.slot_list_append PySem.F.type_list_append mt_appendW (ee_var (i := 11)) (ea_cons (ee_tup (ea_cons (ee_var (i := 13)) (ea_cons (ee_op op_addW (ee_var (i := 13)) (ee_call (takes_of rfl rfl rfl rfl) (ok__law_draw Z) (hr.mono (by omega)) rfl Z.d__law_draw.g Z.d__law_draw.F.kp (bd__law_draw Z) (ea_cons (ee_var (i := 1)) (ea_cons (ee_op op_subW (ee_callB call_lenW rfl Z.z_len bt_len (ea_cons (ee_var (i := 3)) ea_nil)) (ee_var (i := 13))) ea_nil)) (hlen := (fun _ _ _ _ q => lCons_len (fun _ _ _ _ q => lCons_len (fun _ _ _ _ q => lNil_len q) q) q)))) ea_nil))) ea_nil))))))
    (ess_cons (es_set (i := 14) sc_law.nd rfl (by first | exact .inl rfl | exact .inr rfl) (ee_call (takes_of rfl rfl rfl rfl) (ok__law_draw Z) (hr.mono (by omega)) rfl Z.d__law_draw.g Z.d__law_draw.F.kp (bd__law_draw Z) (ea_cons (ee_var (i := 1)) (ea_cons (ee_op op_addW (ee_callB call_lenW rfl Z.z_len bt_len (ea_cons (ee_var (i := 11)) ea_nil)) ee_int) ea_nil)) (hlen := (fun _ _ _ _ q => lCons_len (fun _ _ _ _ q => lCons_len (fun _ _ _ _ q => lNil_len q) q) q))))
    (ess_cons (es_set (i := 15) sc_law.nd rfl (by first | exact .inl rfl | exact .inr rfl) (ee_lst (ea_cons (ee_var (i := 11)) (ea_cons (ee_op op_addW (ee_op op_addW (ee_slice (ee_var (i := 11)) ep_none (ep_some (ee_var (i := 14)))) (ee_lst (ea_cons (ee_call (takes_of rfl rfl rfl rfl) (ok__law_odd_turn Z) (hr.mono (by omega)) rfl Z.d__law_odd_turn.g Z.d__law_odd_turn.F.kp (bd__law_odd_turn Z) (ea_cons (ee_var (i := 1)) (ea_cons (ee_var (i := 3)) ea_nil)) (hlen := (fun _ _ _ _ q => lCons_len (fun _ _ _ _ q => lCons_len (fun _ _ _ _ q => lNil_len q) q) q))) ea_nil))) (ee_slice (ee_var (i := 11)) (ep_some (ee_var (i := 14))) ep_none)) (ea_cons (ee_rev (ee_var (i := 11))) (ea_cons (ee_lst ea_nil) (ea_cons ee_non (ea_cons ee_int (ea_cons ee_str (ea_cons ee_dct0 ea_nil))))))))))
    (ess_cons (es_for (passes_of rfl) rfl (ei_val (ee_var (i := 15))) (eg_name (i := 6) sc_law.nd rfl (by first | exact .inl rfl | exact .inr rfl) (fun _ _ => True.intro) (by first | exact .inl rfl | exact .inr rfl)) (ess_cons (es_asg (ee_call (takes_of rfl rfl rfl rfl) (ok__law_turn_run Z) (hr.mono (by omega)) rfl Z.d__law_turn_run.g Z.d__law_turn_run.F.kp (bd__law_turn_run Z) (ea_cons (ee_var (i := 3)) (ea_cons (ee_var (i := 6)) ea_nil)) (hlen := (fun _ _ _ _ q => lCons_len (fun _ _ _ _ q => lCons_len (fun _ _ _ _ q => lNil_len q) q) q))) (eg_tup rfl (egs_cons SAny.ok (eg_name (i := 16) sc_law.nd rfl (by first | exact .inl rfl | exact .inr rfl) (fun _ _ => True.intro) (by first | exact .inl rfl | exact .inr rfl)) (egs_cons SAny.ok (eg_name (i := 17) sc_law.nd rfl (by first | exact .inl rfl | exact .inr rfl) (fun _ _ => True.intro) (by first | exact .inl rfl | exact .inr rfl)) (egs_nil SAny.ok)))))
    (ess_cons (es_set (i := 8) sc_law.nd rfl (by first | exact .inl rfl | exact .inr rfl) (ee_lst (ea_cons (ee_call (takes_of rfl rfl rfl rfl) (ok__law_loose Z 12) (hr.mono (by omega)) rfl Z.d__law_loose.g Z.d__law_loose.F.kp (bd__law_loose Z) (ea_cons (ee_var (i := 1)) (ea_cons (ee_var (i := 3)) ea_nil)) (hlen := (fun _ _ _ _ q => lCons_len (fun _ _ _ _ q => lCons_len (fun _ _ _ _ q => lNil_len q) q) q))) (ea_cons (ee_call (takes_of rfl rfl rfl rfl) (ok__law_loose Z 12) (hr.mono (by omega)) rfl Z.d__law_loose.g Z.d__law_loose.F.kp (bd__law_loose Z) (ea_cons (ee_var (i := 1)) (ea_cons (ee_call (takes_of rfl rfl rfl rfl) (ok__law_copied Z 12) (hr.mono (by omega)) rfl Z.d__law_copied.g Z.d__law_copied.F.kp (bd__law_copied Z) (ea_cons (ee_var (i := 6)) ea_nil) (hlen := (fun _ _ _ _ q => lCons_len (fun _ _ _ _ q => lNil_len q) q))) ea_nil)) (hlen := (fun _ _ _ _ q => lCons_len (fun _ _ _ _ q => lCons_len (fun _ _ _ _ q => lNil_len q) q) q))) ea_nil))))
    (ess_cons (es_par (i := 9) (j := 10) rfl sc_law.nd rfl rfl (by decide) rfl rfl (ea_cons (ee_callB (call_reprW hg hr.units) rfl Z.z_repr bt_repr (ea_cons (ee_var (i := 8)) ea_nil)) (ea_cons (ee_lst (ea_cons (ee_call (takes_of rfl rfl rfl rfl) (ok_turns_fault Z) (hr.mono (by omega)) rfl Z.d_turns_fault.g Z.d_turns_fault.F.kp (bd_turns_fault Z) (ea_cons (ee_ixA hr.units (ee_var (i := 8)) ee_int (fun _ _ => rfl)) (ea_cons (ee_ixA hr.units (ee_var (i := 8)) ee_int (fun _ _ => rfl)) ea_nil)) (hlen := (fun _ _ _ _ q => lCons_len (fun _ _ _ _ q => lCons_len (fun _ _ _ _ q => lNil_len q) q) q))) (ea_cons (ee_callK0 (ks := ["thing", "line"]) (pm := [1, 0]) (takes_of rfl rfl rfl rfl) (ok_turns_fault Z) (hr.mono (by omega)) rfl Z.d_turns_fault.g Z.d_turns_fault.F.kp (kb_of (ks := ["thing", "line"]) (pm := [1, 0]) Z.d_turns_fault.F fun _ _ _ _ _ _ us ws h1 h2 => match us, ws, h1, h2 with | [], [_, _], _, _ => rfl) (ek_cons (ee_ixA hr.units (ee_var (i := 8)) ee_int (fun _ _ => rfl)) (ek_cons (ee_callTy call_listW rfl Z.z_list bt_list (ea_cons (ee_var (i := 3)) ea_nil)) ek_nil)) (fun l h => match l, h with | [_, _], _ => rfl)) ea_nil))) ea_nil)) rfl)
    (ess_cons (es_set (i := 18) sc_law.nd rfl (by first | exact .inl rfl | exact .inr rfl) (ee_lstR (ea_cons (ee_metD (k := 15) (qn := ("law" : Str) ++ ".<locals>.") rfl Z.d__law_met rfl (bd__law_met Z) sc__law_met rfl (.inl rfl) (fun cdv => gv__law_met Z) TB rfl hmT hu (hr.mono (by omega)) (LamX.lamS_by (by rfl)) rfl (fun _ _ _ _ _ => rfl) (fun A outer s H E f c0 hr => (ee_call (takes_of rfl rfl rfl rfl) (ok_turns_behind Z) (hr.mono (by omega)) rfl Z.d_turns_behind.g Z.d_turns_behind.F.kp (bd_turns_behind Z) (ea_cons (ee_ixA hr.units (ee_var (i := 8)) ee_int (fun _ _ => rfl)) (ea_cons (ee_ixA hr.units (ee_var (i := 8)) ee_int (fun _ _ => rfl)) ea_nil)) (hlen := (fun _ _ _ _ q => lCons_len (fun _ _ _ _ q => lCons_len (fun _ _ _ _ q => lNil_len q) q) q))))) ea_nil)))
    (ess_cons (es_expr (ee_m ty_list PySem.F.plainAttrs_list PySem.F.slot_list_append PySem.F.type_list_append mt_appendW (ee_var (i := 18)) (ea_cons (ee_metD (k := 15) (qn := ("law" : Str) ++ ".<locals>.") rfl Z.d__law_met rfl (bd__law_met Z) sc__law_met rfl (.inl rfl) (fun cdv => gv__law_met Z) TB rfl hmT hu (hr.mono (by omega)) (LamX.lamS_by (by rfl)) rfl (fun _ _ _ _ _ => rfl) (fun A outer s H E f c0 hr => (ee_callK0 (ks := ["run", "line"]) (pm := [1, 0]) (takes_of rfl rfl rfl rfl) (ok_turns_behind Z) (hr.mono (by omega)) rfl Z.d_turns_behind.g Z.d_turns_behind.F.kp (kb_of (ks := ["run", "line"]) (pm := [1, 0]) Z.d_turns_behind.F fun _ _ _ _ _ _ us ws h1 h2 => match us, ws, h1, h2 with | [], [_, _], _, _ => rfl) (ek_cons (ee_ixA hr.units (ee_var (i := 8)) ee_int (fun _ _ => rfl)) (ek_cons (ee_callTy call_listW rfl Z.z_list bt_list (ea_cons (ee_var (i := 3)) ea_nil)) ek_nil)) (fun l h => match l, h with | [_, _], _ => rfl)))) ea_nil)))
    (ess_cons (es_set (i := 7) sc_law.nd rfl (by first | exact .inl rfl | exact .inr rfl) (ee_if (et_cmp op_isW (ee_var (i := 16)) ee_non (nomark _)) (ee_tup (ea_cons ee_str (ea_cons (ee_var (i := 17)) ea_nil))) (ee_tup (ea_cons ee_str (ea_cons (ee_var (i := 16)) ea_nil)))))
    (ess_cons (es_if (et_w (ew_or (et_not (et_val (ee_call (takes_of rfl rfl rfl rfl) (ok__law_same Z 12) (hr.mono (by omega)) rfl Z.d__law_same.g Z.d__law_same.F.kp (bd__law_same Z) (ea_cons (ee_var (i := 10)) (ea_cons (ee_lst (ea_cons (ee_var (i := 16)) (ea_cons (ee_var (i := 16)) ea_nil))) ea_nil)) (hlen := (fun _ _ _ _ q => lCons_len (fun _ _ _ _ q => lCons_len (fun _ _ _ _ q => lNil_len q) q) q))))) (ew_or (et_not (et_val (ee_call (takes_of rfl rfl rfl rfl) (ok__law_same Z 12) (hr.mono (by omega)) rfl Z.d__law_same.g Z.d__law_same.F.kp (bd__law_same Z) (ea_cons (ee_var (i := 18)) (ea_cons (ee_lst (ea_cons (ee_var (i := 7)) (ea_cons (ee_var (i := 7)) ea_nil))) ea_nil)) (hlen := (fun _ _ _ _ q => lCons_len (fun _ _ _ _ q => lCons_len (fun _ _ _ _ q => lNil_len q) q) q))))) (ew_or1 (et_cmp (op_neW hr.units) (ee_callB (call_reprW hg hr.units) rfl Z.z_repr bt_repr (ea_cons (ee_var (i := 8)) ea_nil)) (ee_var (i := 9)) (nomark _)))))) (ess_one (es_ret ee_bl)) ess_nil)
    (ess_one (es_expr (ee_call (takes_of rfl rfl rfl rfl) (ok__law_spoilt Z 6) (hr.mono (by omega)) rfl Z.d__law_spoilt.g Z.d__law_spoilt.F.kp (bd__law_spoilt Z) (ea_cons (ee_if (et_cmp op_isW (ee_var (i := 16)) ee_non (nomark _)) (ee_lstR (ea_cons (ee_ixA hr.units (ee_ixA hr.units (ee_var (i := 18)) ee_int (fun _ _ => rfl)) ee_int (fun _ _ => rfl)) (ea_cons (ee_ixA hr.units (ee_ixA hr.units (ee_var (i := 18)) ee_int (fun _ _ => rfl)) ee_int (fun _ _ => rfl)) ea_nil))) (ee_lstR ea_nil)) ea_nil) (hlen := (fun _ _ _ _ q => lCons_len (fun _ _ _ _ q => lNil_len q) q)))))))))))))
    (ess_one (es_if (et_cmp (op_neW hr.units) (ee_callB (call_reprW hg hr.units) rfl Z.z_repr bt_repr (ea_cons (ee_var (i := 3)) ea_nil)) (ee_var (i := 4)) (nomark _)) (ess_one (es_ret ee_bl)) ess_nil)))))))))))
    (ess_cons (es_set (i := 3) sc_law.nd rfl (by first | exact .inl rfl | exact .inr rfl) (ee_lst (ea_cons (ee_tup (ea_cons ee_str (ea_cons ee_int ea_nil))) (ea_cons (ee_tup (ea_cons ee_str (ea_cons (ee_un un_negW ee_int) ea_nil))) (ea_cons (ee_tup (ea_cons ee_str (ea_cons ee_int ea_nil))) ea_nil)))))
    (ess_cons (es_set (i := 10) sc_law.nd rfl (by first | exact .inl rfl | exact .inr rfl) (ee_lst (ea_cons (ee_call (takes_of rfl rfl rfl rfl) (ok_turned Z) (hr.mono (by omega)) rfl Z.d_turned.g Z.d_turned.F.kp (bd_turned Z) (ea_cons (ee_callTy call_listW rfl Z.z_list bt_list (ea_cons (ee_var (i := 3)) ea_nil)) (ea_cons (ee_tup (ea_cons ee_int (ea_cons ee_int ea_nil))) ea_nil)) (hlen := (fun _ _ _ _ q => lCons_len (fun _ _ _ _ q => lCons_len (fun _ _ _ _ q => lNil_len q) q) q))) (ea_cons (ee_call (takes_of rfl rfl rfl rfl) (ok_turned Z) (hr.mono (by omega)) rfl Z.d_turned.g Z.d_turned.F.kp (bd_turned Z) (ea_cons (ee_callTy call_listW rfl Z.z_list bt_list (ea_cons (ee_var (i := 3)) ea_nil)) (ea_cons (ee_tup (ea_cons ee_int (ea_cons ee_int ea_nil))) ea_nil)) (hlen := (fun _ _ _ _ q => lCons_len (fun _ _ _ _ q => lCons_len (fun _ _ _ _ q => lNil_len q) q) q))) (ea_cons (ee_call (takes_of rfl rfl rfl rfl) (ok_turns_behind Z) (hr.mono (by omega)) rfl Z.d_turns_behind.g Z.d_turns_behind.F.kp (bd_turns_behind Z) (ea_cons (ee_lst ea_nil) (ea_cons (ee_lst ea_nil) ea_nil)) (hlen := (fun _ _ _ _ q => lCons_len (fun _ _ _ _ q => lCons_len (fun _ _ _ _ q => lNil_len q) q) q))) ea_nil)))))
    (ess_one (es_ret (ee_call (takes_of rfl rfl rfl rfl) (ok__law_same Z 12) (hr.mono (by omega)) rfl Z.d__law_same.g Z.d__law_same.F.kp (bd__law_same Z) (ea_cons (ee_var (i := 10)) (ea_cons (ee_lst (ea_cons (ee_lst (ea_cons (ee_tup (ea_cons ee_str (ea_cons ee_int ea_nil))) (ea_cons (ee_tup (ea_cons ee_str (ea_cons ee_int ea_nil))) (ea_cons (ee_tup (ea_cons ee_str (ea_cons ee_int ea_nil))) ea_nil)))) (ea_cons (ee_lst (ea_cons (ee_tup (ea_cons ee_str (ea_cons ee_int ea_nil))) (ea_cons (ee_tup (ea_cons ee_str (ea_cons (ee_un un_negW ee_int) ea_nil))) (ea_cons (ee_tup (ea_cons ee_str (ea_cons ee_int ea_nil))) ea_nil)))) (ea_cons (ee_lst ea_nil) ea_nil)))) ea_nil)) (hlen := (fun _ _ _ _ q => lCons_len (fun _ _ _ _ q => lCons_len (fun _ _ _ _ q => lNil_len q) q) q)))))))))
end
end K30
set_option Elab.async false
set_option linter.all false
set_option maxRecDepth 100000
set_option maxHeartbeats 1000000
namespace PM
open PySem hiding Env
open L2 PF

/-! ### evaluation -/
section
variable {α β : Type} {a : α} {h : AH} {f : α → M β} {c : Str} {fs : List (Str × W)} {env : Env} {k : α → AH → SRes} {w : W} {b : Bool}
@[simp] theorem bind_ok : (Res.ok a h).bind f = f a h := rfl
@[simp] theorem bind_bad : (Res.bad : Res α).bind f = .bad := rfl
@[simp] theorem bind_exc : (Res.exc c fs h : Res α).bind f = .exc c fs h := rfl
@[simp] theorem bindS_ok : bindS (.ok a h) env k = k a h := rfl
@[simp] theorem bindS_exc : bindS (.exc c fs h) env k = .exc c fs env h := rfl
@[simp] theorem bindS_bad : bindS (.bad : Res α) env k = .bad := rfl
@[simp] theorem opt_some : opt (some w) h = .ok w h := rfl
@[simp] theorem opt_none : opt none h = .bad := rfl
@[simp] theorem optB_some : optB (some b) h = .ok b h := rfl
@[simp] theorem truth_bl : truthB (.bl b) = some b := rfl
end
section
variable {fa fb fc fe : EF} {fl fr : LF} {ft fu : BF} {f g : SF} {env env' : Env} {h h' : AH} {i n : Nat} {w : W} {gg : AH → W → W → Option W} {g1 : AH → W → Option W} {gl : AH → List W → Option W} {m : DF} {tg : GF} {gs : GsF}
@[simp] theorem ev_var : fVar i env h = match env[i]? with | some (some w) => .ok w h | _ => .bad := rfl
@[simp] theorem ev_c : fC w env h = .ok w h := rfl
@[simp] theorem ev_op1 : fOp1 g1 fa env h = (fa env h).bind fun a h1 => opt (g1 h1 a) h1 := rfl
@[simp] theorem ev_op2 : fOp2 gg fa fb env h = (fa env h).bind fun a h1 => (fb env h1).bind fun b h2 => opt (gg h2 a b) h2 := rfl
@[simp] theorem ev_if : fIf ft fa fb env h = (ft env h).bind fun b h1 => if b = true then fa env h1 else fb env h1 := rfl
@[simp] theorem ev_val : bVal fa env h = (fa env h).bind fun a h1 => optB (truthB a) h1 := rfl
@[simp] theorem ev_bnot : bNot ft env h = (ft env h).bind fun a h1 => .ok (!a) h1 := rfl
@[simp] theorem ev_band : bAnd ft fu env h = (ft env h).bind fun a h1 => if a = true then fu env h1 else .ok false h1 := rfl
@[simp] theorem ev_bor : bOr ft fu env h = (ft env h).bind fun a h1 => if a = true then .ok true h1 else fu env h1 := rfl
@[simp] theorem ev_and : fAnd fa fb env h = (fa env h).bind fun a h1 => match a with | .bl true => fb env h1 | .bl false => .ok (.bl false) h1 | _ => .bad := rfl
@[simp] theorem ev_or : fOr fa fb env h = (fa env h).bind fun a h1 => match a with | .bl false => fb env h1 | .bl true => .ok (.bl true) h1 | _ => .bad := rfl
@[simp] theorem ev_nil : lNil env h = .ok [] h := rfl
@[simp] theorem ev_cons : lCons fa fl env h = (fa env h).bind fun a h1 => (fl env h1).bind fun r h2 => .ok (a :: r) h2 := rfl
@[simp] theorem ev_tup : fTup fl env h = (fl env h).bind fun ws h1 => if ws.length ≤ sizeLine then .ok (.tup ws) h1 else .bad := rfl
@[simp] theorem ev_lst : fLst fl env h = (fl env h).bind fun ws h1 => if ws.length ≤ sizeLine then .ok (.lst ws) h1 else .bad := rfl
@[simp] theorem ev_lstR : fLstR fl env h = (fl env h).bind fun ws h1 => if ws.length ≤ sizeLine then .ok (.ref h1.length) (h1 ++ [.lst ws]) else .bad := rfl
@[simp] theorem ev_call : fCall gl fl env h = (fl env h).bind fun ws h1 => opt (gl h1 ws) h1 := rfl
@[simp] theorem ev_fn : fFn m fl env h = (fl env h).bind fun ws h1 => m ws h1 := rfl
@[simp] theorem ev_fnK {k j : Nat} {pm : List Nat} : fFnK m k j pm fl fr env h = (fl env h).bind fun us h1 => (fr env h1).bind fun ws h2 => if us.length = k ∧ ws.length = j then m (perm pm (us ++ ws)) h2 else .bad := rfl
@[simp] theorem ev_m0 {ty : AH → W → Bool} {mf : MF} : fM0 ty mf fa env h = (fa env h).bind fun o h1 => if ty h1 o = true then noX (mf o [] h1) else .bad := rfl
@[simp] theorem ev_m {ty : AH → W → Bool} {mf : MF} : fM ty mf fa fl env h = (fa env h).bind fun o h1 => if ty h1 o = true then (fl env h1).bind fun ws h2 => noX (mf o ws h2) else .bad := rfl
@[simp] theorem ev_chain {k1 k2 : AH → W → W → Option W} : fChain k1 k2 fa fb fc env h = (fa env h).bind fun x h1 => (fb env h1).bind fun y h2 => match k1 h2 x y with
  | some (.bl true) => (fc env h2).bind fun z h3 => opt (k2 h3 y z) h3
  | some (.bl false) => .ok (.bl false) h2
  | _ => .bad := rfl
@[simp] theorem ev_next : sNext env h = .nx env h := rfl
@[simp] theorem ev_seq : sSeq f g env h = match f env h with | .nx env1 h1 => g env1 h1 | r => r := rfl
@[simp] theorem ev_expr : sExpr fe env h = bindS (fe env h) env fun _ h1 => .nx env h1 := rfl
@[simp] theorem ev_ret : sRet fe env h = bindS (fe env h) env fun w h1 => .rt w h1 := rfl
@[simp] theorem ev_retN : sRetN env h = .rt .non h := rfl
@[simp] theorem ev_sif : sIf ft f g env h = bindS (ft env h) env fun b h1 => if b = true then f env h1 else g env h1 := rfl
@[simp] theorem ev_asg : sAsg fe tg env h = bindS (fe env h) env fun w h1 => match tg w env h1 with | .ok env2 h2 => .nx env2 h2 | _ => .bad := rfl
@[simp] theorem ev_par {i j : Nat} : sPar i j fl env h = bindS (fl env h) env fun ws h1 => match ws with | [v, w] => .nx ((env.set i (some v)).set j (some w)) h1 | _ => .bad := rfl
@[simp] theorem ev_gN : gN i w env h = .ok (env.set i (some w)) h := rfl
@[simp] theorem ev_gsub {fo fi : EF} : gSubW fo fi w env h = (fo env h).bind fun o h1 => (fi env h1).bind fun i h2 => match setW o i w h2 with | some h3 => .ok env h3 | none => .bad := rfl
@[simp] theorem ev_gsnil : gsNil [] env h = .ok env h := rfl
@[simp] theorem ev_gscons {r : List W} : gsCons tg gs (w :: r) env h = (tg w env h).bind fun env1 h1 => gs r env1 h1 := rfl
@[simp] theorem ev_gT {ws : List W} : gT n gs (.tup ws) env h = if ws.length = n then gs ws env h else .bad := rfl
@[simp] theorem ev_slice {fl fh : Env → M (Option Int)} : fSlice fa fl fh env h = (fa env h).bind fun a h1 => (fl env h1).bind fun l h2 => (fh env h2).bind fun u h3 => opt (sliceW h3 a l u) h3 := rfl
@[simp] theorem ev_pnone : pNone env h = .ok none h := rfl
@[simp] theorem ev_psome : pSome fa env h = (fa env h).bind fun a h1 => match intOf a with | some i => .ok (some i) h1 | none => .bad := rfl
@[simp] theorem ev_intOf {i : Int} : intOf (.int i) = some i := rfl
@[simp] theorem ev_raise {c f : Str} : sRaise c f fe env h = match fe env h with | .ok w h1 => .exc c [(f, w)] env h1 | .exc c fs h1 => .exc c fs env h1 | .bad => .bad := rfl
@[simp] theorem ev_dct0 : fDct0 env h = .ok (.dct []) h := rfl
@[simp] theorem ev_listR : fListR fl env h = (fl env h).bind fun ws h1 => match ws with
  | [.scr ws] => .ok (.ref h1.length) (h1 ++ [.lst ws])
  | [w] => match seqA h1 w with
    | some xs => .ok (.ref h1.length) (h1 ++ [.lst xs])
    | none => .bad
  | _ => .bad := rfl
@[simp] theorem ev_addR : fAddR fa fb env h = (fa env h).bind fun a h1 => (fb env h1).bind fun b h2 => match seqL h2 a, seqL h2 b with
  | some xs, some ys => if xs.length + ys.length ≤ sizeLine then .ok (.ref h2.length) (h2 ++ [.lst (xs ++ ys)]) else .bad
  | _, _ => .bad := rfl
@[simp] theorem ev_iVal : iVal fe env h = (fe env h).bind fun w h1 => optI (itOf h1 w) h1 := rfl
@[simp] theorem ev_noX_ok {w : W} : noX (.ok w h) = .ok w h := rfl
@[simp] theorem ev_def {N : Nat} {ws : List W} : defF N f ws h = endS (f (startW N ws) h) := rfl
@[simp] theorem ev_end_rt : endS (.rt w h) = .ok w h := rfl
@[simp] theorem ev_end_nx : endS (.nx env h) = .ok .non h := rfl
@[simp] theorem ev_end_exc {c : Str} {fs : List (Str × W)} : endS (.exc c fs env h) = .exc c fs h := rfl
@[simp] theorem ev_start {N : Nat} {ws : List W} : startW N ws = ws.map some ++ List.replicate (N - ws.length) none := rfl
end
/-! ### values -/
section
variable {h : AH} {i j : Int} {x y : Str} {n : Nat} {ws us : List W} {w : W} {b : Bool}
@[simp] theorem add_int : addW h (.int i) (.int j) = some (.int (i + j)) := rfl
@[simp] theorem sub_int : subW h (.int i) (.int j) = some (.int (i - j)) := rfl
@[simp] theorem neg_int : negW h (.int i) = some (.int (-i)) := rfl
@[simp] theorem mul_int : mulW h (.int i) (.int j) = if (i.natAbs.log2 < wideN ∧ j.natAbs.log2 < wideN) then some (.int (i * j)) else none := rfl
@[simp] theorem fdiv_int : fdivW h (.int i) (.int j) = if j ≠ 0 ∧ j.natAbs < 1073741824 then some (.int (i.fdiv j)) else none := rfl
@[simp] theorem mod_int : modW h (.int i) (.int j) = if j ≠ 0 then some (.int (i.fmod j)) else none := rfl
@[simp] theorem pow_int : powW h (.int i) (.int j) = if 0 ≤ j ∧ j ≤ 1000000 ∧ i.natAbs < 2 ^ 64 then some (.int (i ^ j.toNat)) else none := rfl
@[simp] theorem lt_int : ltI h (.int i) (.int j) = some (.bl (decide (i < j))) := rfl
@[simp] theorem le_int : leI h (.int i) (.int j) = some (.bl (decide (i ≤ j))) := rfl
@[simp] theorem gt_int : gtI h (.int i) (.int j) = some (.bl (decide (j < i))) := rfl
@[simp] theorem ge_int : geI h (.int i) (.int j) = some (.bl (decide (j ≤ i))) := rfl
@[simp] theorem not_bl : notW h (.bl b) = some (.bl (!b)) := rfl
@[simp] theorem int_int : intW h [.int i] = some (.int i) := rfl
@[simp] theorem abs_int : absW h [.int i] = some (.int (if i < 0 then -i else i)) := rfl
@[simp] theorem seqL_lst : seqL h (.lst ws) = some ws := rfl
theorem seqL_ref (e : h[n]? = some (.lst ws)) : seqL h (.ref n) = some ws := by
  show (match h[n]? with | some (.lst ws) => some ws | _ => none) = _
  rw [e]
@[simp] theorem seqA_lst : seqA h (.lst ws) = some ws := rfl
@[simp] theorem seqA_tup : seqA h (.tup ws) = some ws := rfl
theorem seqA_ref (e : h[n]? = some (.lst ws)) : seqA h (.ref n) = some ws := seqL_ref e
@[simp] theorem dctOf_lst : dctOf h (.lst ws) = none := rfl
@[simp] theorem dctOf_tup : dctOf h (.tup ws) = none := rfl
@[simp] theorem dctOf_str : dctOf h (.str x) = none := rfl
theorem dctOf_ref (e : h[n]? = some (.lst ws)) : dctOf h (.ref n) = none := by
  show (match h[n]? with | some (.dct kvs) => some kvs | some (.lck (.dct kvs)) => some kvs | _ => none) = _
  rw [e]
@[simp] theorem ix_lst : ixA h (.lst ws) (.int i) = atI ws i := rfl
@[simp] theorem ix_tup : ixA h (.tup ws) (.int i) = atI ws i := rfl
theorem ix_ref (e : h[n]? = some (.lst ws)) : ixA h (.ref n) (.int i) = atI ws i := by
  unfold ixA
  rw [dctOf_ref e]
  show (match seqA h (.ref n), W.int i with | some ws, .int i => atI ws i | _, _ => none) = _
  rw [seqA_ref e]
theorem atI_nat {α : Type} {l : List α} {k : Nat} {a : α} (e : l[k]? = some a) : atI l (k : Int) = some a := by
  have hk := (List.getElem?_eq_some_iff.mp e).1
  unfold atI ixN
  simp only [Int.ofNat_nonneg, if_true, Int.ofNat_lt, hk, Int.toNat_natCast, Option.bind_some, e]
theorem lt_one {a : W} {l : List W} : (a :: l).length ≤ sizeLine ↔ l.length + 1 ≤ sizeLine := Iff.rfl
/-- what is known of a list on the heap -/
structure AtL (h : AH) (n : Nat) (ws : List W) : Prop where
  ix : ∀ i : Int, ixA h (.ref n) (.int i) = atI ws i
  sl : seqL h (.ref n) = some ws
  sa : seqA h (.ref n) = some ws
  il : isLst h (.ref n) = true
  dc : dctOf h (.ref n) = none
  ty : tyW h (.ref n) = some .list
  ln : lenW h [.ref n] = some (.int ws.length)
  it : itOf h (.ref n) = some ⟨ws, gdL (.ref n) ws⟩
theorem At (e : h[n]? = some (.lst ws)) : AtL h n ws := by
  refine ⟨fun i => ix_ref e, seqL_ref e, seqA_ref e, ?_, dctOf_ref e, ?_, ?_, ?_⟩
  · unfold isLst; rw [seqL_ref e]; rfl
  · unfold tyW; simp only [e]
  · unfold lenW; simp only [e]
  · unfold itOf itSeq; simp only [seqA_ref e]; rfl
end
end PM
set_option Elab.async false
set_option linter.all false
set_option maxRecDepth 100000
set_option maxHeartbeats 1000000
namespace PM
open PySem hiding Env
open L2 PF

/-! ### while -/
theorem whileN_mono {fc : BF} {fb : SF} : ∀ {n : Nat} {env : Env} {h : AH}, whileN fc fb n env h ≠ .bad → whileN fc fb (n + 1) env h = whileN fc fb n env h
  | 0, _, _, z => absurd rfl z
  | n + 1, env, h, z => by
    unfold whileN at z
    rw [whileN, whileN]
    cases e : fc env h with
    | bad => rfl
    | exc c fs h1 => rfl
    | ok b h1 =>
      rw [e] at z
      simp only [bindS_ok] at z ⊢
      cases b with
      | false => rfl
      | true =>
        simp only [if_true] at z ⊢
        cases e2 : fb env h1 with
        | nx env2 h2 => rw [e2] at z; exact whileN_mono z
        | ct env2 h2 => rw [e2] at z; exact whileN_mono z
        | _ => rfl
theorem whileN_more {fc : BF} {fb : SF} {n : Nat} {env : Env} {h : AH} (z : whileN fc fb n env h ≠ .bad) : ∀ k, whileN fc fb (n + k) env h = whileN fc fb n env h
  | 0 => rfl
  | k + 1 => by
    have e := whileN_more z k
    rw [← Nat.add_assoc, whileN_mono (by rw [e]; exact z), e]
theorem sWhile_of {fc : BF} {fb : SF} {n : Nat} {env : Env} {h : AH} {r : SRes} (e : whileN fc fb n env h = r) (z : r ≠ .bad) : sWhile fc fb env h = r := by
  have hq : ∃ n, whileN fc fb n env h ≠ .bad := ⟨n, by rw [e]; exact z⟩
  unfold sWhile
  rw [dif_pos hq]
  have h1 := whileN_more hq.choose_spec n
  have h2 := whileN_more (n := n) (by rw [e]; exact z) hq.choose
  rw [Nat.add_comm] at h2
  rw [← h1, h2, e]

/-! ### the stream -/
structure Stm (s s0 c : Nat) (h : AH) : Prop where
  ne : s ≠ s0
  ex : ∃ (xs : List Int) (a b e : Int), h[s]? = some (.lst [.ref s0, .int a, .int b, .int e]) ∧ h[s0]? = some (.lst (xs.map .int)) ∧ 0 ≤ a ∧ 0 ≤ b ∧ b ≤ c ∧ 0 ≤ e ∧ e < 2147483629
/-- all but the stream stays -/
structure Sm (s s0 : Nat) (h h' : AH) : Prop where
  len : h'.length = h.length
  at_ : ∀ n, n ≠ s → n ≠ s0 → h'[n]? = h[n]?
theorem Sm.refl {s s0 : Nat} {h : AH} : Sm s s0 h h := ⟨rfl, fun _ _ _ => rfl⟩
theorem Sm.trans {s s0 : Nat} {h h1 h2 : AH} (a : Sm s s0 h h1) (b : Sm s s0 h1 h2) : Sm s s0 h h2 := ⟨b.len.trans a.len, fun n x y => (b.at_ n x y).trans (a.at_ n x y)⟩
theorem Sm.set {s s0 : Nat} {h : AH} {n : Nat} {o : O} (hn : n = s ∨ n = s0) : Sm s s0 h (h.set n o) := ⟨by simp, fun m x y => by
  rw [List.getElem?_set_ne]
  rcases hn with e | e <;> subst e
  · exact fun z => x z.symm
  · exact fun z => y z.symm⟩
theorem set_at {h : AH} {n : Nat} {o o' : O} (e : h[n]? = some o) : (h.set n o')[n]? = some o' := List.getElem?_set_self (List.getElem?_eq_some_iff.mp e).1
theorem set_off {h : AH} {n m : Nat} {o o' : O} (ne : n ≠ m) (e : h[m]? = some o) : (h.set n o')[m]? = some o := by rw [List.getElem?_set_ne ne]; exact e
theorem atI0 {α : Type} {a : α} {l : List α} : atI (a :: l) 0 = some a := atI_nat (k := 0) rfl
theorem atI1 {α : Type} {a b : α} {l : List α} : atI (a :: b :: l) 1 = some b := atI_nat (k := 1) rfl
theorem atI2 {α : Type} {a b c : α} {l : List α} : atI (a :: b :: c :: l) 2 = some c := atI_nat (k := 2) rfl
theorem atI3 {α : Type} {a b c d : α} {l : List α} : atI (a :: b :: c :: d :: l) 3 = some d := atI_nat (k := 3) rfl
theorem setW_ref {h : AH} {n j : Nat} {xs : List W} {w : W} (e : h[n]? = some (.lst xs)) (hj : j < xs.length) : setW (.ref n) (.int (j : Int)) w h = some (h.set n (.lst (xs.set j w))) := by
  unfold setW
  simp only [e]
  have : ixN xs.length (j : Int) = some j := by
    unfold ixN
    simp [hj]
  rw [this]
theorem eq_int {h : AH} {i j : Int} : eqW h (.int i) (.int j) = some (.bl (decide (i = j))) := by
  show (if min (PyData.int i).depth (PyData.int j).depth ≤ deepN then some (W.bl (PyData.eqv (.int i) (.int j))) else none) = _
  rw [if_pos (by simp [PyData.depth])]
  simp [PyData.eqv]
  try rfl
end PM
set_option Elab.async false
set_option linter.all false
set_option maxRecDepth 100000
set_option maxHeartbeats 1000000
namespace PM
open PySem hiding Env
open L2 PF

local macro_rules | `(tactic| walk_at "ev") => `(tactic| simp (config := { implicitDefEqProofs := false }) only [ev_var, ev_c, ev_op1, ev_op2, ev_if, ev_val, ev_bnot, ev_band, ev_bor, ev_and, ev_or, ev_nil, ev_cons, ev_tup, ev_lst, ev_lstR, ev_call, ev_fn, ev_fnK, ev_m0, ev_m, ev_chain, ev_next, ev_seq, ev_expr, ev_ret, ev_retN, ev_sif, ev_asg, ev_par, ev_gN, ev_gsub, ev_gsnil, ev_gscons, ev_gT, ev_slice, ev_pnone, ev_psome, ev_intOf, ev_raise, ev_dct0, ev_listR, ev_addR, ev_iVal, ev_noX_ok, ev_def, ev_end_rt, ev_end_nx, ev_end_exc, ev_start, bind_ok, bind_bad, bind_exc, bindS_ok, bindS_exc, bindS_bad, opt_some, opt_none, optB_some, truth_bl, add_int, sub_int, neg_int, mul_int, fdiv_int, mod_int, pow_int, lt_int, le_int, gt_int, ge_int, not_bl, int_int, abs_int, seqL_lst, seqA_lst, seqA_tup, dctOf_lst, dctOf_tup, dctOf_str, ix_lst, ix_tup, atI0, atI1, atI2, atI3, eq_int, List.getElem?_cons_zero, List.getElem?_cons_succ, List.set_cons_zero, List.set_cons_succ, List.map_cons, List.map_nil, List.cons_append, List.nil_append, List.append_nil, List.length_cons, List.length_nil, List.replicate_succ, List.replicate_zero, ite_true, ite_false, and_self, and_true, true_and, ne_eq, not_false_eq_true, decide_true, decide_false, Bool.false_eq_true, reduceIte, Bool.not_true, Bool.not_false, Int.reduceEq, Int.reduceNe, Int.reduceLE, Int.reduceLT, Int.reduceNeg, Int.reduceAdd, Int.reduceSub, Int.reduceMul, Int.reduceToNat, Int.reducePow, Nat.reduceAdd, Nat.reduceSub, Nat.reduceLeDiff, Nat.reduceEqDiff, not_true_eq_false, decide_eq_true_eq, decide_eq_false_iff_not, Int.not_lt, Int.not_le, *])
theorem datas_ints : ∀ xs : List Int, datasW (xs.map W.int) = some (xs.map PyData.int)
  | [] => rfl
  | x :: r => by
    show (match dataW (.int x), datasW (r.map W.int) with | some d, some ds => some (d :: ds) | _, _ => none) = _
    rw [datas_ints r]
    rfl
theorem ne_nil_ref {h : AH} {n : Nat} {ws : List W} {ds : List PyData} (e : h[n]? = some (.lst ws)) (ed : datasW ws = some ds) : neW h (.ref n) (.lst []) = some (.bl (!decide (ws = []))) := by
  have e1 : dataH h (.ref n) = some (.list ds) := by
    show (match h[n]? with | some (O.lst ws) => (datasW ws).map PyData.list | _ => none) = _
    rw [e]
    show (datasW ws).map PyData.list = _
    rw [ed]
    rfl
  unfold neW
  rw [e1]
  show (if min (PyData.list ds).depth (PyData.list []).depth ≤ deepN then some (W.bl (!PyData.eqv (.list ds) (.list []))) else none) = _
  rw [if_pos (Nat.le_trans (Nat.min_le_right _ _) (by decide))]
  cases ws with
  | nil => cases ed; rfl
  | cons w r =>
    unfold datasW at ed
    split at ed
    · cases ed; rfl
    · cases ed
theorem isLst_ref {h : AH} {n : Nat} {ws : List W} (e : h[n]? = some (.lst ws)) : isLst h (.ref n) = true := by
  unfold isLst
  rw [seqL_ref e]
  rfl
theorem pop0 {h : AH} {n : Nat} {w : W} {ws : List W} (e : h[n]? = some (.lst (w :: ws))) : mPopAt (.ref n) [.int 0] h = .ok w (h.set n (.lst ws)) := by
  unfold mPopAt
  simp only [e]
  have : seqIndex? 0 (w :: ws).length = some 0 := by
    unfold seqIndex?
    simp
  rw [this]
  simp
abbrev denv (s : Nat) (many : Int) (x : Option W) : Env := [some (.ref s), some (.int many), x, none, none]
theorem log2_lt {n k : Nat} (h : n < 2 ^ k) (hk : 0 < k) : n.log2 < k := by
  by_cases h0 : n = 0
  · subst h0; simpa using hk
  · exact (Nat.log2_lt h0).mpr h
theorem small_log {i : Int} (h : i.natAbs < 2 ^ 64) : i.natAbs.log2 < wideN := Nat.lt_of_lt_of_le (log2_lt h (by decide)) (by decide)
theorem draw_turn {h : AH} {s s0 c : Nat} {many x b e : Int} {xs : List Int} {o : Option W} (ne : s ≠ s0) (h1 : h[s]? = some (.lst [.ref s0, .int 0, .int b, .int e])) (h2 : h[s0]? = some (.lst ((x :: xs).map .int))) (hb : 0 ≤ b ∧ b ≤ c) (he : 0 ≤ e ∧ e < 2147483629) :
    ∃ a' e' o' h', C.b__law_draw_1 (denv s many o) h = .nx (denv s many o') h' ∧ Sm s s0 h h' ∧ h'[s]? = some (.lst [.ref s0, .int a', .int b, .int e']) ∧ h'[s0]? = some (.lst (xs.map .int)) ∧ 0 ≤ a' ∧ 0 ≤ e' ∧ e' < 2147483629 := by
  have p0 := pop0 (h := h) (n := s0) (w := .int x) (ws := xs.map .int) h2
  have l6 : ((6151 : Int)).natAbs.log2 < wideN := small_log (by decide)
  have le : e.natAbs.log2 < wideN := small_log (by omega)
  generalize hx : (if x < 0 then -x else x) = y
  have y0 : 0 ≤ y := by omega
  generalize hm : (e * 6151 + y + 7).fmod 2147483629 = z
  have z0 : 0 ≤ z ∧ z < 2147483629 := by
    subst hm
    rw [Int.fmod_eq_emod_of_nonneg _ (by decide)]
    omega
  obtain ⟨H1, e1⟩ : ∃ H, h.set s0 (.lst (xs.map .int)) = H := ⟨_, rfl⟩
  have g1 : H1[s]? = some (.lst [.ref s0, .int 0, .int b, .int e]) := by rw [← e1]; exact set_off (Ne.symm ne) h1
  obtain ⟨H2, e2⟩ : ∃ H, H1.set s (.lst [.ref s0, .int 0, .int b, .int z]) = H := ⟨_, rfl⟩
  have g2 : H2[s]? = some (.lst [.ref s0, .int 0, .int b, .int z]) := by rw [← e2]; exact set_at g1
  have s1 : setW (.ref s) (.int 3) (.int z) H1 = some H2 := by rw [← e2]; exact setW_ref (j := 3) g1 (by simp)
  have fin : ∀ a', 0 ≤ a' → setW (.ref s) (.int 1) (.int a') H2 = some (H2.set s (.lst [.ref s0, .int a', .int b, .int z])) := fun a' _ => setW_ref (j := 1) g2 (by simp)
  obtain ⟨i1, _, _, i4, _, _, _, _⟩ := At h1
  obtain ⟨_, _, _, j4, _, _, _, _⟩ := At h2
  obtain ⟨k1, _, _, k4, _, _, _, _⟩ := At g1
  have h10 : (10 : Int).natAbs < 2 ^ 64 := by decide
  have p18 : (10 : Int) ^ (18 : Int).toNat = 1000000000000000000 := by decide
  have hs0 := h2
  have hs2 := g2
  clear h1 h2 g1 g2 i4 k4
  have key : C.b__law_draw_1 (denv s many o) h = (if (1000000000000000000 : Int) ≤ y then SRes.nx (denv s many (some (.int y))) (H2.set s (.lst [.ref s0, .int y, .int b, .int z])) else SRes.nx (denv s many (some (.int y))) (H2.set s (.lst [.ref s0, .int 0, .int b, .int z]))) := by
    unfold C.b__law_draw_1 denv
    have p18 : (10 : Int) ^ 18 = 1000000000000000000 := by decide
    by_cases hy : 1000000000000000000 ≤ y <;> walk_at "ev"
  rw [key]
  have sm : ∀ o, Sm s s0 h (H2.set s o) := fun o => by
    rw [← e2, ← e1]
    exact ((Sm.set (.inr rfl)).trans (Sm.set (.inl rfl))).trans (Sm.set (.inl rfl))
  have q0 : ∀ o, (H2.set s o)[s0]? = some (.lst (xs.map .int)) := fun o => by
    rw [← e2, ← e1]
    exact set_off ne (set_off ne (set_at hs0))
  split
  · exact ⟨y, z, _, _, rfl, sm _, set_at hs2, q0 _, y0, z0.1, z0.2⟩
  · exact ⟨0, z, _, _, rfl, sm _, set_at hs2, q0 _, Int.le_refl _, z0.1, z0.2⟩
theorem draw_while {s s0 c : Nat} {many b : Int} (ne : s ≠ s0) (hb : 0 ≤ b ∧ b ≤ c) : ∀ (xs : List Int) (h : AH) (a e : Int) (o : Option W), h[s]? = some (.lst [.ref s0, .int a, .int b, .int e]) → h[s0]? = some (.lst (xs.map .int)) → 0 ≤ a → (0 ≤ e ∧ e < 2147483629) →
    ∃ (n : Nat) (a' e' : Int) (o' : Option W) (h' : AH) (ys : List Int), whileN (bAnd (bVal (fOp2 eqW (fOp2 ixA (fVar 0) (fC (.int 1))) (fC (.int 0)))) (bVal (fOp2 neW (fOp2 ixA (fVar 0) (fC (.int 0))) (fLst (lNil))))) C.b__law_draw_1 n (denv s many o) h = .nx (denv s many o') h' ∧ Sm s s0 h h' ∧
      h'[s]? = some (.lst [.ref s0, .int a', .int b, .int e']) ∧ h'[s0]? = some (.lst (ys.map W.int)) ∧ 0 ≤ a' ∧ 0 ≤ e' ∧ e' < 2147483629
  | [], h, a, e, o, h1, h2, ha, he => by
    obtain ⟨i1, _, _, _, _, _, _, _⟩ := At h1
    have nn := ne_nil_ref (n := s0) h2 (datas_ints [])
    refine ⟨1, a, e, o, h, [], ?_, .refl, h1, h2, ha, he.1, he.2⟩
    unfold whileN denv
    clear h1 h2
    have z0 : (0 : Nat) ≤ sizeLine := Nat.zero_le _
    by_cases hz : a = 0 <;> walk_at "ev"
  | x :: xs, h, a, e, o, h1, h2, ha, he => by
    have z0 : (0 : Nat) ≤ sizeLine := Nat.zero_le _
    by_cases hz : a = 0
    · subst hz
      obtain ⟨a', e', o', h', t1, t2, t3, t4, t5, t6, t7⟩ := draw_turn (many := many) (o := o) ne h1 h2 hb he
      obtain ⟨n, a2, e2, o2, h2', ys, w1, w2, w3, w4, w5, w6, w7⟩ := draw_while ne hb xs h' a' e' o' t3 t4 t5 ⟨t6, t7⟩
      refine ⟨n + 1, a2, e2, o2, h2', ys, ?_, t2.trans w2, w3, w4, w5, w6, w7⟩
      obtain ⟨i1, _, _, _, _, _, _, _⟩ := At h1
      have nn := ne_nil_ref (n := s0) h2 (datas_ints (x :: xs))
      unfold whileN
      have ec : (bAnd (bVal (fOp2 eqW (fOp2 ixA (fVar 0) (fC (.int 1))) (fC (.int 0)))) (bVal (fOp2 neW (fOp2 ixA (fVar 0) (fC (.int 0))) (fLst (lNil))))) (denv s many o) h = .ok true h := by
        clear h1 h2 t1 w1 t3 t4 w3 w4
        unfold denv
        walk_at "ev"
        simp
      rw [ec, bindS_ok, if_pos rfl, t1]
      exact w1
    · obtain ⟨i1, _, _, _, _, _, _, _⟩ := At h1
      refine ⟨1, a, e, o, h, x :: xs, ?_, .refl, h1, h2, ha, he.1, he.2⟩
      unfold whileN denv
      clear h1 h2
      walk_at "ev"
theorem draw_ok {h : AH} {s s0 c : Nat} {many : Int} (S : Stm s s0 c h) (m0 : 0 < many) (m1 : many < 1073741824) (hc : c < 1099511627776) :
    ∃ d h', C.m__law_draw [.ref s, .int many] h = .ok (.int d) h' ∧ 0 ≤ d ∧ d < many ∧ Stm s s0 (c + 1) h' ∧ Sm s s0 h h' := by
  obtain ⟨ne, xs, a, b, e, h1, h2, ha, b0, b1, he⟩ := S
  obtain ⟨H1, e1⟩ : ∃ H, h.set s (.lst [.ref s0, .int a, .int (b + 1), .int e]) = H := ⟨_, rfl⟩
  have g1 : H1[s]? = some (.lst [.ref s0, .int a, .int (b + 1), .int e]) := by rw [← e1]; exact set_at h1
  have g2 : H1[s0]? = some (.lst (xs.map .int)) := by rw [← e1]; exact set_off ne h2
  have s1 : setW (.ref s) (.int 2) (.int (b + 1)) h = some H1 := by rw [← e1]; exact setW_ref (j := 2) h1 (by simp)
  obtain ⟨n, a', e', o', h', ys, w1, w2, w3, w4, w5, w6, w7⟩ := draw_while (c := c + 1) (many := many) ne (b := b + 1) ⟨by omega, by omega⟩ xs H1 a e none g1 g2 ha he
  have w1' := sWhile_of w1 (fun z => nomatch z)
  have sm1 : Sm s s0 h h' := by
    have : Sm s s0 h H1 := by rw [← e1]; exact Sm.set (.inl rfl)
    exact this.trans w2
  obtain ⟨i1, _, _, _, _, _, _, _⟩ := At h1
  obtain ⟨k1, _, _, _, _, _, _, _⟩ := At w3
  have d0 : 0 ≤ a'.fmod many ∧ a'.fmod many < many := by
    rw [Int.fmod_eq_emod_of_nonneg _ (Int.le_of_lt m0)]
    exact ⟨Int.emod_nonneg _ (by omega), Int.emod_lt_of_pos _ m0⟩
  have q0 : 0 ≤ a'.fdiv many := Int.fdiv_nonneg w5 (Int.le_of_lt m0)
  have mn : ¬ many = 0 := by omega
  have ma : many.natAbs < 1073741824 := by omega
  have ww : sWhile (bAnd (bVal (fOp2 eqW (fOp2 ixA (fVar 0) (fC (.int 1))) (fC (.int 0)))) (bVal (fOp2 neW (fOp2 ixA (fVar 0) (fC (.int 0))) (fLst (lNil))))) C.b__law_draw_1 [some (.ref s), some (.int many), none, none, none] H1 = .nx [some (.ref s), some (.int many), o', none, none] h' := w1'
  by_cases hz : 0 < a'
  · obtain ⟨H2, e2⟩ : ∃ H, h'.set s (.lst [.ref s0, .int (a'.fdiv many), .int (b + 1), .int e']) = H := ⟨_, rfl⟩
    have s2 : setW (.ref s) (.int 1) (.int (a'.fdiv many)) h' = some H2 := by rw [← e2]; exact setW_ref (j := 1) w3 (by simp)
    have S2 : Stm s s0 (c + 1) H2 := ⟨ne, ys, a'.fdiv many, b + 1, e', by rw [← e2]; exact set_at w3, by rw [← e2]; exact set_off ne w4, q0, by omega, by omega, w6, w7⟩
    have sm2 : Sm s s0 h H2 := by rw [← e2]; exact sm1.trans (Sm.set (.inl rfl))
    refine ⟨a'.fmod many, H2, ?_, d0.1, d0.2, S2, sm2⟩
    unfold C.m__law_draw C.f__law_draw
    clear h1 h2 g1 g2 w1 w1' w2 w3 w4 sm1 sm2 S2
    walk_at "ev"
  · have az : a' = 0 := by omega
    subst az
    generalize hm : ((e' + 8191 * (b + 1) + 50021) ^ 5).fmod 2147483587 = mx
    have m2 : 0 ≤ mx ∧ mx < 2147483587 := by
      subst hm
      rw [Int.fmod_eq_emod_of_nonneg _ (by decide)]
      omega
    have l1 : ((8191 : Int)).natAbs.log2 < wideN := small_log (by decide)
    have l2 : (b + 1).natAbs.log2 < wideN := small_log (by omega)
    have l3 : mx.natAbs.log2 < wideN := small_log (by omega)
    have l4 : ((40009 : Int)).natAbs.log2 < wideN := small_log (by decide)
    have l5 : ((20011 : Int)).natAbs.log2 < wideN := small_log (by decide)
    have p1 : (e' + 8191 * (b + 1) + 50021).natAbs < 2 ^ 64 := by omega
    have p2 : (mx * 40009 + 20011 * (b + 1) + 31).natAbs < 2 ^ 64 := by omega
    have t5 : (5 : Int).toNat = 5 := rfl
    have t3 : (3 : Int).toNat = 3 := rfl
    generalize hr : ((mx * 40009 + 20011 * (b + 1) + 31) ^ 3).fmod 1000000009 = r
    have d2 : 0 ≤ r.fmod many ∧ r.fmod many < many := by
      rw [Int.fmod_eq_emod_of_nonneg _ (Int.le_of_lt m0)]
      exact ⟨Int.emod_nonneg _ (by omega), Int.emod_lt_of_pos _ m0⟩
    refine ⟨r.fmod many, h', ?_, d2.1, d2.2, ⟨ne, ys, 0, b + 1, e', w3, w4, Int.le_refl _, by omega, by omega, w6, w7⟩, sm1⟩
    unfold C.m__law_draw C.f__law_draw
    clear h1 h2 g1 g2 w1 w1' w2 w3 w4 sm1
    walk_at "ev"
end PM
set_option Elab.async false
set_option linter.all false
set_option maxRecDepth 100000
set_option maxHeartbeats 1000000
namespace PM
open PySem hiding Env
open L2 PF
local macro_rules | `(tactic| walk_at "ev") => `(tactic| simp (config := { implicitDefEqProofs := false }) only [ev_var, ev_c, ev_op1, ev_op2, ev_if, ev_val, ev_bnot, ev_band, ev_bor, ev_and, ev_or, ev_nil, ev_cons, ev_tup, ev_lst, ev_lstR, ev_call, ev_fn, ev_fnK, ev_m0, ev_m, ev_chain, ev_next, ev_seq, ev_expr, ev_ret, ev_retN, ev_sif, ev_asg, ev_par, ev_gN, ev_gsub, ev_gsnil, ev_gscons, ev_gT, ev_slice, ev_pnone, ev_psome, ev_intOf, ev_raise, ev_dct0, ev_listR, ev_addR, ev_iVal, ev_noX_ok, ev_def, ev_end_rt, ev_end_nx, ev_end_exc, ev_start, bind_ok, bind_bad, bind_exc, bindS_ok, bindS_exc, bindS_bad, opt_some, opt_none, optB_some, truth_bl, add_int, sub_int, neg_int, mul_int, fdiv_int, mod_int, pow_int, lt_int, le_int, gt_int, ge_int, not_bl, int_int, abs_int, seqL_lst, seqA_lst, seqA_tup, dctOf_lst, dctOf_tup, dctOf_str, ix_lst, ix_tup, atI0, atI1, atI2, atI3, eq_int, List.getElem?_cons_zero, List.getElem?_cons_succ, List.set_cons_zero, List.set_cons_succ, List.map_cons, List.map_nil, List.cons_append, List.nil_append, List.append_nil, List.length_cons, List.length_nil, List.replicate_succ, List.replicate_zero, ite_true, ite_false, and_self, and_true, true_and, ne_eq, not_false_eq_true, decide_true, decide_false, Bool.false_eq_true, reduceIte, Bool.not_true, Bool.not_false, Int.reduceEq, Int.reduceNe, Int.reduceLE, Int.reduceLT, Int.reduceNeg, Int.reduceAdd, Int.reduceSub, Int.reduceMul, Int.reduceToNat, Int.reducePow, Nat.reduceAdd, Nat.reduceSub, Nat.reduceLeDiff, Nat.reduceEqDiff, not_true_eq_false, decide_eq_true_eq, decide_eq_false_iff_not, Int.not_lt, Int.not_le, *])

/-! ### what stays: all but the stream; more may stand behind -/
structure Gr (s s0 : Nat) (h h' : AH) : Prop where
  len : h.length ≤ h'.length
  at_ : ∀ n, n < h.length → n ≠ s → n ≠ s0 → h'[n]? = h[n]?
section
variable {s s0 n : Nat} {h h1 h2 : AH} {o : O}
theorem Gr.refl : Gr s s0 h h := ⟨Nat.le_refl _, fun _ _ _ _ => rfl⟩
theorem Gr.trans (a : Gr s s0 h h1) (b : Gr s s0 h1 h2) : Gr s s0 h h2 := ⟨Nat.le_trans a.len b.len, fun n l x y => (b.at_ n (Nat.lt_of_lt_of_le l a.len) x y).trans (a.at_ n l x y)⟩
theorem Sm.gr (a : Sm s s0 h h1) : Gr s s0 h h1 := ⟨Nat.le_of_eq a.len.symm, fun n _ x y => a.at_ n x y⟩
theorem Gr.app {l : AH} : Gr s s0 h (h ++ l) := ⟨by simp, fun n hn _ _ => List.getElem?_append_left hn⟩
theorem Gr.get (g : Gr s s0 h h1) (e : h[n]? = some o) (x : n ≠ s) (y : n ≠ s0) : h1[n]? = some o := (g.at_ n (List.getElem?_eq_some_iff.mp e).1 x y).trans e
theorem Gr.setN (g : Gr s s0 h h1) (hn : h.length ≤ n) : Gr s s0 h (h1.set n o) := ⟨by rw [List.length_set]; exact g.len, fun m hm x y => by
  rw [List.getElem?_set_ne (by omega)]; exact g.at_ m hm x y⟩
theorem Stm.lt {c : Nat} (S : Stm s s0 c h) : s < h.length ∧ s0 < h.length := by
  obtain ⟨_, _, _, _, _, h1, h2, _⟩ := S
  exact ⟨(List.getElem?_eq_some_iff.mp h1).1, (List.getElem?_eq_some_iff.mp h2).1⟩
theorem Stm.app {c : Nat} {l : AH} (S : Stm s s0 c h) : Stm s s0 c (h ++ l) := by
  obtain ⟨l1, l2⟩ := S.lt
  obtain ⟨ne, xs, a, b, e, h1, h2, r⟩ := S
  exact ⟨ne, xs, a, b, e, by rw [List.getElem?_append_left l1]; exact h1, by rw [List.getElem?_append_left l2]; exact h2, r⟩
theorem Stm.setN {c : Nat} (S : Stm s s0 c h) (x : n ≠ s) (y : n ≠ s0) : Stm s s0 c (h.set n o) := by
  obtain ⟨ne, xs, a, b, e, h1, h2, r⟩ := S
  exact ⟨ne, xs, a, b, e, set_off x h1, set_off y h2, r⟩
theorem Stm.mono {c d : Nat} (S : Stm s s0 c h) (l : c ≤ d) : Stm s s0 d h := by
  obtain ⟨ne, xs, a, b, e, h1, h2, a0, b0, b1, r⟩ := S
  exact ⟨ne, xs, a, b, e, h1, h2, a0, b0, by omega, r⟩
theorem app_at {l : AH} {o : O} : (h ++ o :: l)[h.length]? = some o := by
  rw [List.getElem?_append_right (Nat.le_refl _), Nat.sub_self]
  rfl
end

/-! ### loops -/
theorem forL_inv {G : AH → Prop} {g : GF} {body : SF} (inv : List W → Env → AH → Prop) :
    ∀ (items pre : List W) (env : Env) (h : AH), inv pre env h → (∀ pre' env h, inv pre' env h → G h) →
      (∀ (p : List W) (w : W) (r : List W) (env : Env) (h : AH), pre ++ items = p ++ w :: r → inv p env h → ∃ env1 h1 env2 h2, g w env h = .ok env1 h1 ∧ body env1 h1 = .nx env2 h2 ∧ inv (p ++ [w]) env2 h2) →
      ∃ env' h', forL G g body items env h = .nx env' h' ∧ inv (pre ++ items) env' h'
  | [], pre, env, h, i, hG, _ => by
    refine ⟨env, h, ?_, by rw [List.append_nil]; exact i⟩
    unfold forL
    rw [if_pos (hG _ _ _ i)]
  | w :: ws, pre, env, h, i, hG, step => by
    obtain ⟨env1, h1, env2, h2, e1, e2, i2⟩ := step pre w ws env h rfl i
    have ea : (pre ++ [w]) ++ ws = pre ++ w :: ws := by simp
    obtain ⟨env', h', e3, i3⟩ := forL_inv inv ws (pre ++ [w]) env2 h2 i2 hG (fun p w' r env h e => step p w' r env h (ea.symm.trans e))
    refine ⟨env', h', ?_, by rw [← ea]; exact i3⟩
    unfold forL
    rw [if_pos (hG _ _ _ i), e1]
    dsimp only
    rw [e2]
    exact e3
theorem lcL_inv {G : AH → Prop} {g : GF} {tt : BF} {te : EF} {env : Env} (inv : List W → List W → AH → Prop) :
    ∀ (items pre acc : List W) (h : AH), inv pre acc h → (∀ p a h, inv p a h → G h) → acc.length + items.length ≤ sizeLine →
      (∀ (p : List W) (w : W) (r acc : List W) (h : AH), pre ++ items = p ++ w :: r → inv p acc h → ∃ env1 h1, g w env h = .ok env1 h1 ∧
        ((∃ y h2 h3, tt env1 h1 = .ok true h2 ∧ te env1 h2 = .ok y h3 ∧ inv (p ++ [w]) (acc ++ [y]) h3) ∨ (∃ h2, tt env1 h1 = .ok false h2 ∧ inv (p ++ [w]) acc h2))) →
      ∃ ys h', lcL G g tt te env items acc h = .ok ys h' ∧ inv (pre ++ items) ys h'
  | [], pre, acc, h, i, hG, _, _ => by
    refine ⟨acc, h, ?_, by rw [List.append_nil]; exact i⟩
    unfold lcL
    rw [if_pos (hG _ _ _ i)]
  | w :: ws, pre, acc, h, i, hG, hz, step => by
    obtain ⟨env1, h1, e1, st⟩ := step pre w ws acc h rfl i
    have ea : (pre ++ [w]) ++ ws = pre ++ w :: ws := by simp
    have hz' : acc.length + (ws.length + 1) ≤ sizeLine := hz
    rcases st with ⟨y, h2, h3, e2, e3, i2⟩ | ⟨h2, e2, i2⟩
    · obtain ⟨ys, h', e4, i3⟩ := lcL_inv inv ws (pre ++ [w]) (acc ++ [y]) h3 i2 hG (by rw [List.length_append]; show acc.length + 1 + _ ≤ _; omega) (fun p w' r a h e => step p w' r a h (ea.symm.trans e))
      refine ⟨ys, h', ?_, by rw [← ea]; exact i3⟩
      unfold lcL
      rw [if_pos (hG _ _ _ i), e1]
      dsimp only
      rw [e2, bind_ok, if_pos rfl, e3, bind_ok, if_pos (by omega)]
      exact e4
    · obtain ⟨ys, h', e4, i3⟩ := lcL_inv inv ws (pre ++ [w]) acc h2 i2 hG (by omega) (fun p w' r a h e => step p w' r a h (ea.symm.trans e))
      refine ⟨ys, h', ?_, by rw [← ea]; exact i3⟩
      unfold lcL
      rw [if_pos (hG _ _ _ i), e1]
      dsimp only
      rw [e2, bind_ok, if_neg (by decide)]
      exact e4
/-- a comprehension that changes nothing -/
theorem lcL_map {G : AH → Prop} {g : GF} {te : EF} {env : Env} {f : W → W} {h : AH} (hG : G h) {items acc : List W} (hz : acc.length + items.length ≤ sizeLine)
    (step : ∀ w ∈ items, ∃ env1, g w env h = .ok env1 h ∧ te env1 h = .ok (f w) h) : lcL G g tYesW te env items acc h = .ok (acc ++ items.map f) h := by
  obtain ⟨ys, h', e, i⟩ := lcL_inv (G := G) (g := g) (tt := tYesW) (te := te) (env := env) (fun p a h' => a = acc ++ p.map f ∧ h' = h) items [] acc h ⟨by simp, rfl⟩ (fun p a h' i => by rw [i.2]; exact hG) hz
    (fun p w r a h' e i => by
      obtain ⟨ea, eh⟩ := i
      subst ea eh
      obtain ⟨env1, e1, e2⟩ := step w (by rw [show items = p ++ w :: r from e]; simp)
      exact ⟨env1, _, e1, .inl ⟨f w, _, _, rfl, e2, by simp, rfl⟩⟩)
  obtain ⟨i1, i2⟩ := i
  subst i1 i2
  simpa using e
theorem lcL_filter {G : AH → Prop} {g : GF} {tt : BF} {te : EF} {env : Env} {f : W → W} {p : W → Bool} {h : AH} (hG : G h) {items acc : List W} (hz : acc.length + items.length ≤ sizeLine)
    (step : ∀ w ∈ items, ∃ env1, g w env h = .ok env1 h ∧ tt env1 h = .ok (p w) h ∧ (p w = true → te env1 h = .ok (f w) h)) : lcL G g tt te env items acc h = .ok (acc ++ (items.filter p).map f) h := by
  obtain ⟨ys, h', e, i⟩ := lcL_inv (G := G) (g := g) (tt := tt) (te := te) (env := env) (fun q a h' => a = acc ++ (q.filter p).map f ∧ h' = h) items [] acc h ⟨by simp, rfl⟩ (fun p a h' i => by rw [i.2]; exact hG) hz
    (fun q w r a h' e i => by
      obtain ⟨ea, eh⟩ := i
      subst ea eh
      obtain ⟨env1, e1, e2, e3⟩ := step w (by rw [show items = q ++ w :: r from e]; simp)
      cases hp : p w with
      | true => exact ⟨env1, _, e1, .inl ⟨f w, _, _, by rw [e2, hp], e3 hp, by simp [List.filter_append, List.filter_cons, hp], rfl⟩⟩
      | false => exact ⟨env1, _, e1, .inr ⟨_, by rw [e2, hp], by simp [List.filter_append, List.filter_cons, hp], rfl⟩⟩)
  obtain ⟨i1, i2⟩ := i
  subst i1 i2
  simpa using e
section
variable {fi : IF_} {g : GF} {tt : BF} {te : EF} {vs : List Nat} {env : Env} {h h1 h2 : AH} {it : ItR} {ws : List W} {body : SF}
theorem ev_LC (e : fi env h = .ok it h1) (e2 : lcL it.guard g tt te (wipeW env vs) it.items [] h1 = .ok ws h2) : fLC fi g tt te vs env h = .ok (.lst ws) h2 := by
  unfold fLC lLC
  rw [e, bind_ok, e2]
  rfl
theorem ev_LCR (e : fi env h = .ok it h1) (e2 : lcL it.guard g tt te (wipeW env vs) it.items [] h1 = .ok ws h2) : fLCR fi g tt te vs env h = .ok (.ref h2.length) (h2 ++ [.lst ws]) := by
  unfold fLCR lLC
  rw [e, bind_ok, e2]
  rfl
theorem ev_For (e : fi env h = .ok it h1) : sFor fi g body env h = forL it.guard g body it.items env h1 := by
  unfold sFor
  rw [e]
  rfl
end
theorem size_small {n : Nat} (h : n ≤ 1000000) : n ≤ sizeLine := by rw [sizeLine_eq]; omega

/-! ### one of some things -/
section
variable {s s0 c : Nat} {h : AH}
theorem len_lst {ws : List W} : lenW h [.lst ws] = some (.int ws.length) := rfl
theorem len_tup {ws : List W} : lenW h [.tup ws] = some (.int ws.length) := rfl
theorem len_str {z : Str} (hz : z.length ≤ sizeLine) : lenW h [.str z] = some (.int z.length) := if_pos hz
theorem int_of {d : Int} {n : Nat} (h0 : 0 ≤ d) (h1 : d < n) : ∃ k : Nat, d = k ∧ k < n := ⟨d.toNat, by omega, by omega⟩
theorem pick_ok {ws : List W} (S : Stm s s0 c h) (m0 : ws ≠ []) (m1 : ws.length < 1073741824) (hc : c < 1099511627776) :
    ∃ w h', w ∈ ws ∧ C.m__law_pick [.ref s, .lst ws] h = .ok w h' ∧ Stm s s0 (c + 1) h' ∧ Sm s s0 h h' := by
  have hp := List.length_pos_iff.mpr m0
  obtain ⟨d, h', e, d0, d1, S', sm⟩ := draw_ok S (many := ws.length) (by omega) (by omega) hc
  obtain ⟨k, ek, hk⟩ := int_of d0 d1
  subst ek
  have a := atI_nat (List.getElem?_eq_getElem hk)
  refine ⟨ws[k], h', List.getElem_mem hk, ?_, S', sm⟩
  unfold C.m__law_pick C.f__law_pick
  have l := len_lst (h := h) (ws := ws)
  walk_at "ev"
theorem pick_str {z : Str} (S : Stm s s0 c h) (m0 : 0 < z.length) (m1 : z.length < 1000000) (hc : c < 1099511627776) :
    ∃ k h', k ∈ z.cps.toList ∧ C.m__law_pick [.ref s, .str z] h = .ok (.str ⟨#[k]⟩) h' ∧ Stm s s0 (c + 1) h' ∧ Sm s s0 h h' := by
  obtain ⟨d, h', e, d0, d1, S', sm⟩ := draw_ok S (many := z.length) (by omega) (by omega) hc
  have hl : z.length = z.cps.toList.length := by show z.cps.size = _; simp
  rw [hl] at d1
  obtain ⟨k, ek, hk⟩ := int_of d0 d1
  subst ek
  have a := atI_nat (List.getElem?_eq_getElem hk)
  have hz : z.length ≤ sizeLine := size_small (by omega)
  have ei : ∀ i : Int, ixA h' (.str z) (.int i) = (atI z.cps.toList i).map fun c => .str ⟨#[c]⟩ := fun i => by
    show (if z.length ≤ sizeLine then (atI z.cps.toList i).map fun c => W.str ⟨#[c]⟩ else none) = _
    rw [if_pos hz]
  refine ⟨z.cps.toList[k], h', List.getElem_mem hk, ?_, S', sm⟩
  unfold C.m__law_pick C.f__law_pick
  have l := len_str (h := h) hz
  clear hl
  walk_at "ev"
  rfl
end
end PM
set_option Elab.async false
set_option linter.all false
set_option maxRecDepth 100000
set_option maxHeartbeats 1000000
namespace PM
open PySem hiding Env
open L2 PF
local macro_rules | `(tactic| walk_at "ev") => `(tactic| simp (config := { implicitDefEqProofs := false }) only [ev_var, ev_c, ev_op1, ev_op2, ev_if, ev_val, ev_bnot, ev_band, ev_bor, ev_and, ev_or, ev_nil, ev_cons, ev_tup, ev_lst, ev_lstR, ev_call, ev_fn, ev_fnK, ev_m0, ev_m, ev_chain, ev_next, ev_seq, ev_expr, ev_ret, ev_retN, ev_sif, ev_asg, ev_par, ev_gN, ev_gsub, ev_gsnil, ev_gscons, ev_gT, ev_slice, ev_pnone, ev_psome, ev_intOf, ev_raise, ev_dct0, ev_listR, ev_addR, ev_iVal, ev_noX_ok, ev_def, ev_end_rt, ev_end_nx, ev_end_exc, ev_start, bind_ok, bind_bad, bind_exc, bindS_ok, bindS_exc, bindS_bad, opt_some, opt_none, optB_some, truth_bl, add_int, sub_int, neg_int, mul_int, fdiv_int, mod_int, pow_int, lt_int, le_int, gt_int, ge_int, not_bl, int_int, abs_int, seqL_lst, seqA_lst, seqA_tup, dctOf_lst, dctOf_tup, dctOf_str, ix_lst, ix_tup, atI0, atI1, atI2, atI3, eq_int, List.getElem?_cons_zero, List.getElem?_cons_succ, List.set_cons_zero, List.set_cons_succ, List.map_cons, List.map_nil, List.cons_append, List.nil_append, List.append_nil, List.length_cons, List.length_nil, List.replicate_succ, List.replicate_zero, ite_true, ite_false, and_self, and_true, true_and, ne_eq, not_false_eq_true, decide_true, decide_false, Bool.false_eq_true, reduceIte, Bool.not_true, Bool.not_false, Int.reduceEq, Int.reduceNe, Int.reduceLE, Int.reduceLT, Int.reduceNeg, Int.reduceAdd, Int.reduceSub, Int.reduceMul, Int.reduceToNat, Int.reducePow, Nat.reduceAdd, Nat.reduceSub, Nat.reduceLeDiff, Nat.reduceEqDiff, not_true_eq_false, decide_eq_true_eq, decide_eq_false_iff_not, Int.not_lt, Int.not_le, *])

/-! ### names -/
def abc : Str := "abcdefghijklmnopqrstuvwxyz"
def letters : List Nat := abc.cps.toList
theorem abc_len : abc.length = 26 := by decide +kernel
theorem letters_len : letters.length = 26 := by decide +kernel
theorem letters_nodup : letters.Nodup := by decide +kernel
structure Nm (x : Str) : Prop where
  pos : 0 < x.cps.toList.length
  le : x.cps.toList.length ≤ 8
  all : ∀ c ∈ x.cps.toList, c ∈ letters
theorem str_ext {x y : Str} (h : x.cps.toList = y.cps.toList) : x = y := by
  obtain ⟨⟨a⟩⟩ := x
  obtain ⟨⟨b⟩⟩ := y
  have : a = b := h
  rw [this]
def mkS (l : List Nat) : Str := ⟨l.toArray⟩
theorem mkS_tl (l : List Nat) : (mkS l).cps.toList = l := by simp [mkS]
theorem len_tl (x : Str) : x.length = x.cps.toList.length := by show x.cps.size = _; simp
def lt (i : Nat) : Nat := letters.getD i 0
theorem lt_mem {i : Nat} (h : i < 26) : lt i ∈ letters := by
  unfold lt
  rw [List.getD_eq_getElem?_getD, List.getElem?_eq_getElem (by rw [letters_len]; exact h)]
  exact List.getElem_mem _
theorem lt_all : ∀ i j : Fin 26, lt i = lt j → i = j := by decide +kernel
theorem lt_inj {i j : Nat} (hi : i < 26) (hj : j < 26) (e : lt i = lt j) : i = j := congrArg Fin.val (lt_all ⟨i, hi⟩ ⟨j, hj⟩ e)
theorem nodup_map {α β : Type} {f : α → β} {l : List α} (hl : l.Nodup) (inj : ∀ a ∈ l, ∀ b ∈ l, f a = f b → a = b) : (l.map f).Nodup :=
  List.pairwise_map.mpr (List.Pairwise.imp_of_mem (fun {a b} ha hb ne e => ne (inj a ha b hb e)) hl)
/-- the next name tried -/
def nx (L : List Str) (nm : Str) (k : Nat) : Str := if nm ∈ L then mkS (nm.cps.toList.take 3 ++ [lt (k / 26), lt (k % 26)]) else nm
def nxs (L : List Str) (nm : Str) : Nat → Str
  | 0 => nm
  | k + 1 => nx L (nxs L nm k) k
theorem nodup_le {α : Type} [DecidableEq α] : ∀ {l L : List α}, l.Nodup → (∀ x ∈ l, x ∈ L) → l.length ≤ L.length
  | [], _, _, _ => Nat.zero_le _
  | x :: l, L, hn, hs => by
    have hx := hs x List.mem_cons_self
    have hl := List.length_erase_of_mem hx
    have hp : 0 < L.length := List.length_pos_of_mem hx
    have ih := nodup_le (l := l) (L := L.erase x) (List.nodup_cons.mp hn).2 fun y hy => by
      have hne : y ≠ x := fun e => (List.nodup_cons.mp hn).1 (e ▸ hy)
      exact (List.mem_erase_of_ne hne).mpr (hs y (List.mem_cons_of_mem _ hy))
    rw [List.length_cons]
    omega
theorem nxs_stay {L : List Str} {nm : Str} {j : Nat} (h : nxs L nm j ∉ L) : ∀ k, nxs L nm (j + k) ∉ L
  | 0 => h
  | k + 1 => by
    have ih := nxs_stay h k
    show nx L (nxs L nm (j + k)) (j + k) ∉ L
    unfold nx
    rw [if_neg ih]
    exact ih
theorem nx_hit {L : List Str} {nm : Str} {k : Nat} (h : nm ∈ L) : (nx L nm k).cps.toList = nm.cps.toList.take 3 ++ [lt (k / 26), lt (k % 26)] := by
  unfold nx
  rw [if_pos h, mkS_tl]
theorem nxs_new {L : List Str} {nm : Str} (h1 : nm.cps.toList.length ≤ 3) (hL : L.length < 600) : nxs L nm (L.length + 1) ∉ L := by
  intro hin
  have all : ∀ j, j ≤ L.length → nxs L nm j ∈ L := fun j hj => Classical.byContradiction fun z => by
    have := nxs_stay z (L.length + 1 - j)
    rw [show j + (L.length + 1 - j) = L.length + 1 by omega] at this
    exact this hin
  have tl : ∀ j, j ≤ L.length → (nxs L nm (j + 1)).cps.toList = (nxs L nm j).cps.toList.take 3 ++ [lt (j / 26), lt (j % 26)] := fun j hj => nx_hit (all j hj)
  have ge : ∀ j, j ≤ L.length → nm.cps.toList.length ≤ (nxs L nm j).cps.toList.length := by
    intro j
    induction j with
    | zero => exact fun _ => Nat.le_refl _
    | succ j ih =>
      intro hj
      have := ih (by omega)
      rw [tl j (by omega)]
      simp only [List.length_append, List.length_take, List.length_cons, List.length_nil]
      omega
  have gt : ∀ j, j < L.length → nm.cps.toList.length < (nxs L nm (j + 1)).cps.toList.length := by
    intro j hj
    have := ge j (by omega)
    rw [tl j (by omega)]
    simp only [List.length_append, List.length_take, List.length_cons, List.length_nil]
    omega
  have inj : ∀ i j, i ≤ L.length → j ≤ L.length → nxs L nm i = nxs L nm j → i = j := by
    intro i j hi hj e
    cases i with
    | zero =>
      cases j with
      | zero => rfl
      | succ j =>
        have := gt j (by omega)
        rw [← e] at this
        exact absurd this (Nat.lt_irrefl _)
    | succ i =>
      cases j with
      | zero =>
        have := gt i (by omega)
        rw [e] at this
        exact absurd this (Nat.lt_irrefl _)
      | succ j =>
        have e2 := (tl i (by omega)).symm.trans ((congrArg (fun x : Str => x.cps.toList) e).trans (tl j (by omega)))
        have e3 := (List.append_inj' e2 rfl).2
        simp only [List.cons.injEq, and_true] at e3
        have a := lt_inj (by omega) (by omega) e3.1
        have b := lt_inj (by omega) (by omega) e3.2
        omega
  have nd : ((List.range (L.length + 1)).map (nxs L nm)).Nodup := by
    refine nodup_map List.nodup_range fun i hi j hj e => ?_
    exact inj i j (by have := List.mem_range.mp hi; omega) (by have := List.mem_range.mp hj; omega) e
  have := nodup_le nd (L := L) (fun x hx => by
    obtain ⟨i, hi, e⟩ := List.mem_map.mp hx
    subst e
    exact all i (by have := List.mem_range.mp hi; omega))
  simp at this
  omega

/-! ### the loop of names -/
abbrev nenv (s : Nat) (many : Int) (n0 : Nat) (kk nm one at_ : Option W) : Env := [some (.ref s), some (.int many), some (.ref n0), some (.str abc), kk, nm, one, at_]
theorem datas_strs : ∀ L : List Str, datasW (L.map W.str) = some (L.map PyData.str)
  | [] => rfl
  | x :: r => by
    show (match dataW (.str x), datasW (r.map W.str) with | some d, some ds => some (d :: ds) | _, _ => none) = _
    rw [datas_strs r]
    rfl
theorem any_strs (x : Str) : ∀ L : List Str, ((L.map PyData.str).any fun y => PyData.eqv y (.str x)) = decide (x ∈ L)
  | [] => by simp
  | y :: r => by
    rw [List.map_cons, List.any_cons, any_strs x r]
    have : PyData.eqv (.str y) (.str x) = decide (y = x) := by
      simp [PyData.eqv]
      try rfl
    rw [this]
    by_cases e : y = x
    · subst e; simp
    · have e' : ¬ x = y := fun z => e z.symm
      simp [e, e']
theorem in_strs {h : AH} {n : Nat} {x : Str} {L : List Str} (e : h[n]? = some (.lst (L.map W.str))) : inA h (.str x) (.ref n) = some (.bl (decide (x ∈ L))) := by
  unfold inA
  rw [(At e).dc]
  show (match seqA h (.ref n), dataH h (.str x) with
    | some ws, some d => match datasW ws with
      | some ds => if min (PyData.depthAll ds) d.depth ≤ deepN then some (W.bl (ds.any fun y => PyData.eqv y d)) else none
      | none => none
    | _, _ => none) = _
  rw [(At e).sa]
  show (match datasW (L.map W.str) with
      | some ds => if min (PyData.depthAll ds) (PyData.str x).depth ≤ deepN then some (W.bl (ds.any fun y => PyData.eqv y (.str x))) else none
      | none => none) = _
  rw [datas_strs]
  show (if min (PyData.depthAll (L.map PyData.str)) 0 ≤ deepN then some (W.bl ((L.map PyData.str).any fun y => PyData.eqv y (.str x))) else none) = _
  rw [if_pos (by simp), any_strs]
theorem slice3 {h : AH} {x : Str} (hx : x.length ≤ sizeLine) : sliceW h (.str x) none (some 3) = some (.str (mkS (x.cps.toList.take 3))) := by
  show (if x.length ≤ sizeLine then some (W.str (cutS x none (some 3))) else none) = _
  rw [if_pos hx]
  have : cutS x none (some 3) = mkS (x.cps.toList.take 3) := by
    apply str_ext
    rw [mkS_tl]
    unfold cutS
    show (((x.cps.toList.drop 0).take (min 3 x.length - 0)).toArray).toList = _
    rw [List.drop_zero, Nat.sub_zero, List.toList_toArray]
    rw [len_tl]
    by_cases h : 3 ≤ x.cps.toList.length
    · rw [Nat.min_eq_left h]
    · rw [Nat.min_eq_right (by omega), List.take_of_length_le (Nat.le_refl _), List.take_of_length_le (by omega)]
  rw [this]
theorem ix_abc {h : AH} {i : Nat} (hi : i < 26) : ixA h (.str abc) (.int (i : Int)) = some (.str (mkS [lt i])) := by
  show (if abc.length ≤ sizeLine then (atI abc.cps.toList (i : Int)).map fun c => W.str ⟨#[c]⟩ else none) = _
  rw [if_pos (size_small (by rw [abc_len]; decide))]
  have hl : i < letters.length := by rw [letters_len]; exact hi
  have e : atI abc.cps.toList (i : Int) = some letters[i] := atI_nat (List.getElem?_eq_getElem hl)
  rw [e]
  have : lt i = letters[i] := by
    unfold lt
    rw [List.getD_eq_getElem?_getD, List.getElem?_eq_getElem hl]
    rfl
  rw [this]
  rfl
theorem add_S {h : AH} {a b : List Nat} (hz : a.length + b.length ≤ 1000000) : addW h (.str (mkS a)) (.str (mkS b)) = some (.str (mkS (a ++ b))) := by
  show (if (mkS a).length + (mkS b).length ≤ sizeLine then some (W.str (mkS a ++ mkS b)) else none) = _
  rw [if_pos (size_small (by rw [len_tl, len_tl, mkS_tl, mkS_tl]; exact hz))]
  have : mkS a ++ mkS b = mkS (a ++ b) := by
    apply str_ext
    rw [mkS_tl]
    show ((mkS a).cps ++ (mkS b).cps).toList = _
    rw [Array.toList_append, mkS_tl, mkS_tl]
  rw [this]
theorem names_turn {h : AH} {s n0 k : Nat} {many : Int} {kk one : Option W} {nm : Str} {L : List Str} (e : h[n0]? = some (.lst (L.map .str))) (hk : k < 676) (hn : nm.cps.toList.length ≤ 8) :
    C.b__law_names_1 (nenv s many n0 kk (some (.str nm)) one (some (.int (k : Int)))) h = .nx (nenv s many n0 kk (some (.str (nx L nm k))) one (some (.int (k : Int)))) h := by
  have ei := in_strs (x := nm) e
  unfold C.b__law_names_1 nenv
  have s3 := slice3 (h := h) (x := nm) (size_small (by rw [len_tl]; omega))
  have i1 := ix_abc (h := h) (i := k / 26) (by omega)
  have i2 := ix_abc (h := h) (i := k % 26) (by omega)
  have d1 : (k : Int).fdiv 26 = ((k / 26 : Nat) : Int) := by
    rw [Int.fdiv_eq_ediv_of_nonneg _ (by decide)]; omega
  have d2 : (k : Int).fmod 26 = ((k % 26 : Nat) : Int) := by
    rw [Int.fmod_eq_emod_of_nonneg _ (by decide)]; omega
  have a1 := add_S (h := h) (a := nm.cps.toList.take 3) (b := [lt (k / 26)]) (by simp only [List.length_take, List.length_cons, List.length_nil]; omega)
  have a2 := add_S (h := h) (a := nm.cps.toList.take 3 ++ [lt (k / 26)]) (b := [lt (k % 26)]) (by simp only [List.length_append, List.length_take, List.length_cons, List.length_nil]; omega)
  have n26 : (26 : Int).natAbs < 1073741824 := by decide
  unfold nx
  by_cases hm : nm ∈ L
  · walk_at "ev"
    simp
  · walk_at "ev"
end PM
set_option Elab.async false
set_option linter.all false
set_option maxRecDepth 100000
set_option maxHeartbeats 1000000
namespace PM
open PySem hiding Env
open L2 PF
local macro_rules | `(tactic| walk_at "ev") => `(tactic| simp (config := { implicitDefEqProofs := false }) only [ev_var, ev_c, ev_op1, ev_op2, ev_if, ev_val, ev_bnot, ev_band, ev_bor, ev_and, ev_or, ev_nil, ev_cons, ev_tup, ev_lst, ev_lstR, ev_call, ev_fn, ev_fnK, ev_m0, ev_m, ev_chain, ev_next, ev_seq, ev_expr, ev_ret, ev_retN, ev_sif, ev_asg, ev_par, ev_gN, ev_gsub, ev_gsnil, ev_gscons, ev_gT, ev_slice, ev_pnone, ev_psome, ev_intOf, ev_raise, ev_dct0, ev_listR, ev_addR, ev_iVal, ev_noX_ok, ev_def, ev_end_rt, ev_end_nx, ev_end_exc, ev_start, bind_ok, bind_bad, bind_exc, bindS_ok, bindS_exc, bindS_bad, opt_some, opt_none, optB_some, truth_bl, add_int, sub_int, neg_int, mul_int, fdiv_int, mod_int, pow_int, lt_int, le_int, gt_int, ge_int, not_bl, int_int, abs_int, seqL_lst, seqA_lst, seqA_tup, dctOf_lst, dctOf_tup, dctOf_str, ix_lst, ix_tup, atI0, atI1, atI2, atI3, eq_int, List.getElem?_cons_zero, List.getElem?_cons_succ, List.set_cons_zero, List.set_cons_succ, List.map_cons, List.map_nil, List.cons_append, List.nil_append, List.append_nil, List.length_cons, List.length_nil, List.replicate_succ, List.replicate_zero, ite_true, ite_false, and_self, and_true, true_and, ne_eq, not_false_eq_true, decide_true, decide_false, Bool.false_eq_true, reduceIte, Bool.not_true, Bool.not_false, Int.reduceEq, Int.reduceNe, Int.reduceLE, Int.reduceLT, Int.reduceNeg, Int.reduceAdd, Int.reduceSub, Int.reduceMul, Int.reduceToNat, Int.reducePow, Nat.reduceAdd, Nat.reduceSub, Nat.reduceLeDiff, Nat.reduceEqDiff, not_true_eq_false, decide_eq_true_eq, decide_eq_false_iff_not, Int.not_lt, Int.not_le, *])

theorem ev_range1 {fl : LF} {env : Env} {h : AH} : iRange1 fl env h = (fl env h).bind fun ws h1 => match ws with
  | [.int j] => if -(2 ^ 62) ≤ j ∧ j < 2 ^ 62 then .ok ⟨rng 0 j.toNat, fun _ => True⟩ h1 else .bad
  | _ => .bad := rfl
theorem in62 {x : Int} (h0 : 0 ≤ x) (h1 : x < 1000000) : -(2 ^ 62) ≤ x ∧ x < 2 ^ 62 := by
  have e : (2 : Int) ^ 62 = 4611686018427387904 := by decide
  rw [e]
  omega
theorem range_ok {fl : LF} {env : Env} {h h1 : AH} {n : Nat} (e : fl env h = .ok [.int n] h1) (hn : n < 1000000) : iRange1 fl env h = .ok ⟨rng 0 n, fun _ => True⟩ h1 := by
  rw [ev_range1, e, bind_ok]
  show (if -(2 ^ 62) ≤ (n : Int) ∧ (n : Int) < 2 ^ 62 then Res.ok (⟨rng 0 (n : Int).toNat, fun _ => True⟩ : ItR) h1 else .bad) = _
  rw [if_pos (in62 (Int.natCast_nonneg n) (by omega)), Int.toNat_natCast]
theorem rng_len {lo : Int} {n : Nat} : (rng lo n).length = n := by simp [rng]
theorem rng_split {lo : Int} {n : Nat} {p r : List W} {w : W} (e : rng lo n = p ++ w :: r) : w = .int (lo + (p.length : Nat)) ∧ p.length < n := by
  have hl := congrArg List.length e
  rw [rng_len, List.length_append, List.length_cons] at hl
  have h1 : (rng lo n)[p.length]? = some w := by rw [e]; simp
  unfold rng at h1
  rw [List.getElem?_map, List.getElem?_range (by omega)] at h1
  exact ⟨(Option.some.inj h1).symm, by omega⟩
theorem strs_sing : ∀ cs : List Nat, strsW (cs.map fun c => W.str ⟨#[c]⟩) = some (cs.map fun c => mkS [c])
  | [] => rfl
  | c :: r => by
    show (strsW (r.map fun c => W.str ⟨#[c]⟩)).map ((⟨#[c]⟩ : Str) :: ·) = _
    rw [strs_sing r]
    rfl
theorem joinL_sing : ∀ cs : List Nat, TL.joinL [] (cs.map fun c => [c]) = cs
  | [] => rfl
  | [c] => rfl
  | c :: d :: r => by
    show [c] ++ ([] ++ TL.joinL [] ((d :: r).map fun c => [c])) = _
    rw [joinL_sing (d :: r)]
    rfl
theorem join_sing (cs : List Nat) : Txt.join ("" : Str) (cs.map fun c => mkS [c]) = mkS cs := by
  have e := SX.join_S [] (cs.map fun c => [c])
  rw [joinL_sing] at e
  have e1 : (cs.map fun c => [c]).map SX.S = cs.map fun c => mkS [c] := by simp [mkS, SX.S]
  rw [e1] at e
  have e2 : ("" : Str) = SX.S [] := by decide +kernel
  rw [e2]
  exact e
theorem mjoin_ok {h : AH} {cs : List Nat} (hl : cs.length ≤ 1000) : mJoin (.str "") [.lst (cs.map fun c => W.str ⟨#[c]⟩)] h = .ok (.str (mkS cs)) h := by
  have hs : ∀ l : List Nat, ((l.map fun c => mkS [c]).map fun x : Str => x.length).sum = l.length := by
    intro l
    induction l with
    | nil => rfl
    | cons x r ih => simp only [List.map_cons, List.sum_cons, ih, List.length_cons]; show 1 + _ = _; omega
  show (match strsW (cs.map fun c => W.str ⟨#[c]⟩) with
    | some l => if (l.map fun x : Str => x.length).sum + l.length * ("" : Str).length ≤ 16777216 then Res.ok (W.str (Txt.join ("" : Str) l)) h else .bad
    | none => .bad) = _
  rw [strs_sing]
  show (if ((cs.map fun c => mkS [c]).map fun x : Str => x.length).sum + (cs.map fun c => mkS [c]).length * ("" : Str).length ≤ 16777216 then Res.ok (W.str (Txt.join ("" : Str) (cs.map fun c => mkS [c]))) h else .bad) = _
  have e0 : ("" : Str).length = 0 := by decide +kernel
  rw [hs, e0, if_pos (by omega), join_sing]
/-- some letters drawn -/
theorem letters_drawn {s s0 c : Nat} {many : Int} {n0 : Nat} {kk nm at_ : Option W} {env : Env} (henv : env = nenv s many n0 kk nm none at_) {n : Nat} (hn : n ≤ 3) {h : AH} (S : Stm s s0 c h) (hc : c + 10 < 1099511627776) :
    ∃ (cs : List Nat) (h' : AH), lcL (fun _ => True) (gN 6) tYesW (fFn C.m__law_pick (lCons (fVar 0) (lCons (fVar 3) lNil))) env (rng 0 n) [] h = .ok (cs.map fun c => W.str ⟨#[c]⟩) h' ∧ cs.length = n ∧ (∀ c ∈ cs, c ∈ letters) ∧ Stm s s0 (c + n) h' ∧ Sm s s0 h h' := by
  subst henv
  obtain ⟨ys, h', e, cs, ey, hcs, hl, S', sm⟩ := lcL_inv (G := fun _ => True) (g := gN 6) (tt := tYesW) (te := fFn C.m__law_pick (lCons (fVar 0) (lCons (fVar 3) lNil))) (env := nenv s many n0 kk nm none at_)
    (fun p a h' => ∃ cs : List Nat, a = cs.map (fun c => W.str ⟨#[c]⟩) ∧ (∀ c ∈ cs, c ∈ letters) ∧ cs.length = p.length ∧ Stm s s0 (c + p.length) h' ∧ Sm s s0 h h') (rng 0 n) [] [] h
    ⟨[], rfl, by simp, rfl, S, .refl⟩ (fun _ _ _ _ => True.intro) (by rw [rng_len]; exact size_small (by simp; omega))
    (fun p w r acc h1 ew i => by
      obtain ⟨cs, ea, hcs, hl, S1, sm1⟩ := i
      have hw := rng_split (p := p) (r := r) (w := w) ew
      obtain ⟨k, h2, hk, ek, S2, sm2⟩ := pick_str (z := abc) S1 (by rw [abc_len]; decide) (by rw [abc_len]; decide) (by omega)
      refine ⟨_, h1, rfl, .inl ⟨.str ⟨#[k]⟩, h1, h2, rfl, ?_, cs ++ [k], by rw [ea]; simp, ?_, by simp [hl], ?_, sm1.trans sm2⟩⟩
      · unfold nenv
        walk_at "ev"
      · intro x hx
        rcases List.mem_append.mp hx with hx | hx
        · exact hcs x hx
        · rw [List.mem_singleton.mp hx]; exact hk
      · rw [List.length_append]
        exact S2.mono (by simp; omega))
  subst ey
  rw [List.nil_append, rng_len] at S' hl
  exact ⟨cs, h', e, hl, hcs, S', sm⟩
theorem isStr_str {h : AH} {x : Str} : isStr h (.str x) = true := rfl
theorem append_ok {h : AH} {n : Nat} {xs : List W} {w : W} (e : h[n]? = some (.lst xs)) (hz : xs.length < sizeLine) : mAppend (.ref n) [w] h = .ok .non (h.set n (.lst (xs ++ [w]))) := by
  unfold mAppend
  simp only [e]
  rw [if_pos hz]
/-- the outer turn -/
theorem names_outer {s s0 c n0 : Nat} {many : Int} {kk nm one at_ : Option W} {L : List Str} {h : AH} (S : Stm s s0 c h) (e : h[n0]? = some (.lst (L.map .str))) (x : n0 ≠ s) (y : n0 ≠ s0) (hL : L.length < 600) (hc : c + 20 < 1099511627776) :
    ∃ (nm' at' : Option W) (h1 : AH) (new : Str), C.b__law_names_2 (nenv s many n0 kk nm one at_) h = .nx (nenv s many n0 kk nm' one at') (h1.set n0 (.lst ((L ++ [new]).map .str))) ∧ Sm s s0 h h1 ∧ Stm s s0 (c + 5) h1 ∧ Nm new ∧ new ∉ L := by
  obtain ⟨w1, h1, m1, e1, S1, sm1⟩ := pick_ok (ws := [.int 1, .int 1, .int 3]) S (by simp) (by simp) (by omega)
  obtain ⟨q, eq, q0, q1⟩ : ∃ q : Int, w1 = .int q ∧ 0 < q ∧ q ≤ 3 := by
    simp only [List.mem_cons, List.not_mem_nil, or_false, or_self_left] at m1
    rcases m1 with m | m
    · exact ⟨1, m, by decide, by decide⟩
    · exact ⟨3, m, by decide, by decide⟩
  subst eq
  obtain ⟨d, h2, e2, d0, d1, S2, sm2⟩ := draw_ok S1 (many := q) q0 (by omega) (by omega)
  obtain ⟨cs, h3, e3, l3, c3, S3, sm3⟩ := letters_drawn (many := many) (n0 := n0) (kk := kk) (nm := nm) (at_ := at_) (env := nenv s many n0 kk nm none at_) rfl (n := (1 + d).toNat) (by omega) S2 (by omega)
  have sm : Sm s s0 h h3 := (sm1.trans sm2).trans sm3
  have g3 : h3[n0]? = some (.lst (L.map .str)) := by rw [sm.at_ n0 x y]; exact e
  have f1 := forL_inv (G := fun _ => True) (g := gN 7) (body := C.b__law_names_1) (fun p env h' => h' = h3 ∧ ∃ a, env = nenv s many n0 kk (some (.str (nxs L (mkS cs) p.length))) one a) (rng 0 (L.length + 1)) []
    (nenv s many n0 kk (some (.str (mkS cs))) one at_) h3 ⟨rfl, at_, rfl⟩ (fun _ _ _ _ => True.intro) (fun p w r env h' ew i => by
      obtain ⟨eh, a, ea⟩ := i
      subst eh ea
      obtain ⟨hw, hp⟩ := rng_split (p := p) (r := r) (w := w) ew
      subst hw
      have sz : ∀ j, (nxs L (mkS cs) j).cps.toList.length ≤ 8 := fun j => by
        induction j with
        | zero => show (mkS cs).cps.toList.length ≤ 8; rw [mkS_tl]; omega
        | succ j ih =>
          show (nx L (nxs L (mkS cs) j) j).cps.toList.length ≤ 8
          unfold nx
          split
          · rw [mkS_tl]
            simp only [List.length_append, List.length_take, List.length_cons, List.length_nil]
            omega
          · exact ih
      refine ⟨_, _, nenv s many n0 kk (some (.str (nxs L (mkS cs) (p.length + 1)))) one (some (.int (0 + (p.length : Nat)))), h', rfl, ?_, rfl, some (.int (0 + (p.length : Nat))), by simp⟩
      have t := names_turn (s := s) (many := many) (kk := kk) (one := one) g3 (k := p.length) (by omega) (sz p.length)
      rw [Int.zero_add]
      exact t)
  obtain ⟨env', h', e4, eh, a, ea⟩ := f1
  subst eh ea
  rw [List.nil_append, rng_len] at e4
  have new := nxs_new (L := L) (nm := mkS cs) (by rw [mkS_tl]; omega) hL
  have gj : ∀ j, j < 676 → (0 < (nxs L (mkS cs) j).cps.toList.length ∧ (nxs L (mkS cs) j).cps.toList.length ≤ 8 ∧ ∀ x ∈ (nxs L (mkS cs) j).cps.toList, x ∈ letters) := by
    intro j
    induction j with
    | zero =>
      intro _
      show 0 < (mkS cs).cps.toList.length ∧ (mkS cs).cps.toList.length ≤ 8 ∧ ∀ x ∈ (mkS cs).cps.toList, x ∈ letters
      rw [mkS_tl]
      exact ⟨by omega, by omega, c3⟩
    | succ j ih =>
      intro hj
      obtain ⟨i1, i2, i3⟩ := ih (by omega)
      show 0 < (nx L (nxs L (mkS cs) j) j).cps.toList.length ∧ (nx L (nxs L (mkS cs) j) j).cps.toList.length ≤ 8 ∧ ∀ x ∈ (nx L (nxs L (mkS cs) j) j).cps.toList, x ∈ letters
      unfold nx
      split
      · rw [mkS_tl]
        refine ⟨by simp, ?_, fun x hx => ?_⟩
        · simp only [List.length_append, List.length_take, List.length_cons, List.length_nil]
          omega
        · rcases List.mem_append.mp hx with hx | hx
          · exact i3 x (List.mem_of_mem_take hx)
          · simp only [List.mem_cons, List.not_mem_nil, or_false] at hx
            rcases hx with hx | hx <;> subst hx
            · exact lt_mem (by omega)
            · exact lt_mem (by omega)
      · exact ⟨i1, i2, i3⟩
  obtain ⟨p1, p2, p3⟩ := gj (L.length + 1) (by omega)
  refine ⟨some (.str (nxs L (mkS cs) (L.length + 1))), a, h', nxs L (mkS cs) (L.length + 1), ?_, sm, S3.mono (by omega), ⟨p1, p2, p3⟩, new⟩
  have ap := append_ok (w := .str (nxs L (mkS cs) (L.length + 1))) g3 (by rw [List.length_map]; exact Nat.lt_of_lt_of_le (show L.length < 1000000 by omega) (size_small (Nat.le_refl _)))
  have il := (At g3).il
  have ln := (At g3).ln
  have j := mjoin_ok (h := h') (cs := cs) (by omega)
  have b1 : -4611686018427387904 ≤ 1 + d ∧ 1 + d < 4611686018427387904 := by omega
  have z3 : (3 : Nat) ≤ sizeLine := size_small (by decide)
  have ec : fLC (iRange1 (lCons (fOp2 addW (fC (.int 1)) (fFn C.m__law_draw (lCons (fVar 0) (lCons (fFn C.m__law_pick (lCons (fVar 0) (lCons (fLst (lCons (fC (.int 1)) (lCons (fC (.int 1)) (lCons (fC (.int 3)) (lNil))))) (lNil)))) (lNil))))) (lNil))) (gN 6) (tYesW) (fFn C.m__law_pick (lCons (fVar 0) (lCons (fVar 3) (lNil)))) [6] (nenv s many n0 kk nm one at_) h = .ok (.lst (cs.map fun c => W.str ⟨#[c]⟩)) h' := by
    refine ev_LC (h1 := h2) (it := ⟨rng 0 (1 + d).toNat, fun _ => True⟩) ?_ e3
    rw [ev_range1]
    unfold nenv
    clear e3 e4 sm sm1 sm2 sm3 S S1 S2 S3 g3 e
    walk_at "ev"
  have ef : sFor (iRange1 (lCons (fOp2 addW (fCall lenW (lCons (fVar 2) (lNil))) (fC (.int 1))) (lNil))) (gN 7) C.b__law_names_1 (nenv s many n0 kk (some (.str (mkS cs))) one at_) h' = .nx (nenv s many n0 kk (some (.str (nxs L (mkS cs) (L.length + 1)))) one a) h' := by
    refine (ev_For (it := ⟨rng 0 (L.length + 1), fun _ => True⟩) (h1 := h') (range_ok ?_ (by omega))).trans e4
    unfold nenv
    have ec : ((L.length + 1 : Nat) : Int) = ((L.map W.str).length : Int) + 1 := by rw [List.length_map, Int.natCast_add]; rfl
    rw [ec]
    simp only [ev_cons, ev_nil, ev_op2, ev_call, ev_var, ev_c, List.getElem?_cons_zero, List.getElem?_cons_succ, bind_ok, opt_some, ln, add_int]
  unfold C.b__law_names_2
  rw [ev_seq, ev_asg, ev_m]
  have eapp : (L ++ [nxs L (mkS cs) (L.length + 1)]).map W.str = L.map W.str ++ [.str (nxs L (mkS cs) (L.length + 1))] := by simp
  rw [eapp]
  unfold nenv at ec ef ⊢
  clear e3 e4 sm sm1 sm2 sm3 S S1 S2 S3 g3 e eapp gj p1 p2 p3 new
  have st : ∀ x : Str, isStr h (.str x) = true := fun _ => rfl
  walk_at "ev"
theorem names_ok {s s0 c : Nat} {many : Nat} {h : AH} (S : Stm s s0 c h) (hm : many < 600) (hc : c + 5000 < 1099511627776) :
    ∃ (L : List Str) (h' : AH), C.m__law_names [.ref s, .int (many : Int)] h = .ok (.ref h.length) h' ∧ h'[h.length]? = some (.lst (L.map .str)) ∧ L.length = many ∧ L.Nodup ∧ (∀ x ∈ L, Nm x) ∧ Stm s s0 (c + 5 * many) h' ∧ Gr s s0 h h' ∧ h'.length = h.length + 1 := by
  obtain ⟨l1, l2⟩ := S.lt
  have f := forL_inv (G := fun _ => True) (g := gN 4) (body := C.b__law_names_2) (fun p env h' => ∃ (L : List Str) (kk nm at' : Option W), env = nenv s many h.length kk nm none at' ∧ h'[h.length]? = some (.lst (L.map .str)) ∧ L.length = p.length ∧ L.Nodup ∧ (∀ x ∈ L, Nm x) ∧ Stm s s0 (c + 5 * p.length) h' ∧ Gr s s0 h h' ∧ h'.length = h.length + 1)
    (rng 0 many) [] (nenv s many h.length none none none none) (h ++ [.lst []]) ⟨[], none, none, none, rfl, app_at, rfl, .nil, by simp, S.app, .app, by simp⟩ (fun _ _ _ _ => True.intro) (fun p w r env h1 ew i => by
      obtain ⟨L, kk, nm, at', ee, e, hl, nd, al, S1, gr, hl1⟩ := i
      subst ee
      obtain ⟨hw, hp⟩ := rng_split (p := p) (r := r) (w := w) ew
      obtain ⟨nm', at2, h2, new, e2, sm, S2, hn, hnew⟩ := names_outer (many := many) (kk := some w) (nm := nm) (one := none) (at_ := at') S1 e (by omega) (by omega) (by omega) (by omega)
      have lh : h2.length = h.length + 1 := sm.len.trans hl1
      refine ⟨_, _, _, _, rfl, e2, L ++ [new], some w, nm', at2, rfl, List.getElem?_set_self (by omega), by simp [hl], ?_, ?_, ?_, (gr.trans sm.gr).setN (Nat.le_refl _), by simp [lh]⟩
      · rw [List.nodup_append]
        refine ⟨nd, by simp, fun a ha b hb => ?_⟩
        rw [List.mem_singleton] at hb
        subst hb
        intro z; subst z
        exact hnew ha
      · intro x hx
        rcases List.mem_append.mp hx with hx | hx
        · exact al x hx
        · rw [List.mem_singleton.mp hx]; exact hn
      · refine (S2.setN (by omega) (by omega)).mono ?_
        simp only [List.length_append, List.length_cons, List.length_nil]
        omega)
  obtain ⟨env', h', e1, L, kk, nm, at', ee, e, hl, nd, al, S1, gr, hl1⟩ := f
  subst ee
  rw [List.nil_append, rng_len] at hl S1
  refine ⟨L, h', ?_, e, hl, nd, al, S1, gr, hl1⟩
  have ef : sFor (iRange1 (lCons (fVar 1) lNil)) (gN 4) C.b__law_names_2 (nenv s many h.length none none none none) (h ++ [.lst []]) = .nx (nenv s many h.length kk nm none at') h' := by
    refine (ev_For (it := ⟨rng 0 many, fun _ => True⟩) (h1 := h ++ [.lst []]) (range_ok ?_ (by omega))).trans e1
    unfold nenv
    simp only [ev_cons, ev_nil, ev_var, List.getElem?_cons_zero, List.getElem?_cons_succ, bind_ok]
  unfold C.m__law_names C.f__law_names
  unfold nenv at ef
  have z0 : (0 : Nat) ≤ sizeLine := Nat.zero_le _
  have z2 : (0 : Nat) + 1 + 1 ≤ sizeLine := size_small (by decide)
  have z22 : (2 : Nat) ≤ sizeLine := size_small (by decide)
  have ea : fC (.str "abcdefghijklmnopqrstuvwxyz") = fC (.str abc) := rfl
  rw [ea]
  clear e1 e gr S1 S ea z2
  walk_at "ev"
end PM
set_option Elab.async false
set_option linter.all false
set_option maxRecDepth 100000
set_option maxHeartbeats 1000000
namespace PM
open PySem hiding Env
open L2 PF

/-! ### more evaluation -/
section
variable {h : AH} {x w : W} {t u v : Ty} {ws us : List W} {a b : Bool}
theorem isi1 : isiW h [x, .typ t] = (tyW h x).map fun a => .bl (isTab a t) := rfl
theorem isi2 : isiW h [x, .tup [.typ t, .typ u]] = (tyW h x).map fun a => .bl (isTab a t || (isTab a u || false)) := by
  show (match tyW h x, tysW [.typ t, .typ u] with | some a, some l => some (W.bl (l.any (isTab a))) | _, _ => none) = _
  cases tyW h x <;> rfl
theorem isi3 : isiW h [x, .tup [.typ t, .typ u, .typ v]] = (tyW h x).map fun a => .bl (isTab a t || (isTab a u || (isTab a v || false))) := by
  show (match tyW h x, tysW [.typ t, .typ u, .typ v] with | some a, some l => some (W.bl (l.any (isTab a))) | _, _ => none) = _
  cases tyW h x <;> rfl
theorem ty_non : tyW h .non = some .non := rfl
theorem ty_bl : tyW h (.bl a) = some .bool := rfl
theorem ty_int {i : Int} : tyW h (.int i) = some .int := rfl
theorem ty_strW {z : Str} : tyW h (.str z) = some .str := rfl
theorem ty_tup : tyW h (.tup ws) = some .tuple := rfl
theorem ty_lst : tyW h (.lst ws) = some .list := rfl
theorem ty_dct {kvs : List (W × W)} : tyW h (.dct kvs) = some .dict := rfl
theorem tb_ll : isTab .list .list = true := by decide
theorem tb_lt : isTab .list .tuple = false := by decide
theorem tb_tl : isTab .tuple .list = false := by decide
theorem tb_tt : isTab .tuple .tuple = true := by decide
theorem tb_nl : isTab .non .list = false := by decide
theorem tb_nt : isTab .non .tuple = false := by decide
theorem tb_nd : isTab .non .dict = false := by decide
theorem tb_nb : isTab .non .bool = false := by decide
theorem tb_ni : isTab .non .int = false := by decide
theorem tb_ns : isTab .non .str = false := by decide
theorem tb_bl : isTab .bool .list = false := by decide
theorem tb_bt : isTab .bool .tuple = false := by decide
theorem tb_bd : isTab .bool .dict = false := by decide
theorem tb_bb : isTab .bool .bool = true := by decide
theorem tb_bi : isTab .bool .int = true := by decide
theorem tb_bs : isTab .bool .str = false := by decide
theorem tb_il : isTab .int .list = false := by decide
theorem tb_it : isTab .int .tuple = false := by decide
theorem tb_id : isTab .int .dict = false := by decide
theorem tb_ib : isTab .int .bool = false := by decide
theorem tb_ii : isTab .int .int = true := by decide
theorem tb_is : isTab .int .str = false := by decide
theorem tb_sl : isTab .str .list = false := by decide
theorem tb_st : isTab .str .tuple = false := by decide
theorem tb_sd : isTab .str .dict = false := by decide
theorem tb_sb : isTab .str .bool = false := by decide
theorem tb_si : isTab .str .int = false := by decide
theorem tb_ss : isTab .str .str = true := by decide
theorem tb_ld : isTab .list .dict = false := by decide
theorem tb_lb : isTab .list .bool = false := by decide
theorem tb_li : isTab .list .int = false := by decide
theorem tb_ls : isTab .list .str = false := by decide
theorem tb_td : isTab .tuple .dict = false := by decide
theorem tb_tb : isTab .tuple .bool = false := by decide
theorem tb_ti : isTab .tuple .int = false := by decide
theorem tb_ts : isTab .tuple .str = false := by decide
theorem tb_dl : isTab .dict .list = false := by decide
theorem tb_dt : isTab .dict .tuple = false := by decide
theorem tb_dd : isTab .dict .dict = true := by decide
theorem tb_db : isTab .dict .bool = false := by decide
theorem tb_di : isTab .dict .int = false := by decide
theorem tb_ds : isTab .dict .str = false := by decide
theorem ne_bl : neW h (.bl a) (.bl b) = some (.bl (!decide (a = b))) := by cases a <;> cases b <;> rfl
theorem eq_bl : eqW h (.bl a) (.bl b) = some (.bl (decide (a = b))) := by cases a <;> cases b <;> rfl
theorem eq_str {y z : Str} : eqW h (.str y) (.str z) = some (.bl (decide (y = z))) := by
  show (if min (PyData.str y).depth (PyData.str z).depth ≤ deepN then some (W.bl (PyData.eqv (.str y) (.str z))) else none) = _
  rw [if_pos (by simp [PyData.depth])]
  simp [PyData.eqv]
  try rfl
theorem ne_str {y z : Str} : neW h (.str y) (.str z) = some (.bl (!decide (y = z))) := by
  show (if min (PyData.str y).depth (PyData.str z).depth ≤ deepN then some (W.bl (!PyData.eqv (.str y) (.str z))) else none) = _
  rw [if_pos (by simp [PyData.depth])]
  simp [PyData.eqv]
  try rfl
theorem ne_int {i j : Int} : neW h (.int i) (.int j) = some (.bl (!decide (i = j))) := by
  show (if min (PyData.int i).depth (PyData.int j).depth ≤ deepN then some (W.bl (!PyData.eqv (.int i) (.int j))) else none) = _
  rw [if_pos (by simp [PyData.depth])]
  simp [PyData.eqv]
  try rfl
theorem eq_non : eqW h .non .non = some (.bl true) := rfl
theorem isN_non : isN h .non .non = some (.bl true) := rfl
theorem isN_bl : isN h (.bl a) .non = some (.bl false) := rfl
theorem isN_int {i : Int} : isN h (.int i) .non = some (.bl false) := rfl
theorem isN_str {z : Str} : isN h (.str z) .non = some (.bl false) := rfl
theorem isN_tup : isN h (.tup ws) .non = some (.bl false) := rfl
theorem isN_lst : isN h (.lst ws) .non = some (.bl false) := rfl
theorem isN_ref {n : Nat} : isN h (.ref n) .non = some (.bl false) := rfl
theorem notN_non : notN h .non .non = some (.bl false) := rfl
theorem notN_int {i : Int} : notN h (.int i) .non = some (.bl true) := rfl
theorem map_some {α β : Type} {a : α} {f : α → β} : (some a).map f = some (f a) := rfl
end
theorem ev_zip {fl : LF} {env : Env} {h : AH} : iZipW fl env h = (fl env h).bind fun ws h1 => match ws with
  | [a, b] => match seqL h1 a, seqL h1 b with
    | some xs, some ys => .ok ⟨zipL xs ys, fun h => gdL a xs h ∧ gdL b ys h⟩ h1
    | _, _ => match seqT a, seqT b with
      | some xs, some ys => .ok ⟨zipL xs ys, fun _ => True⟩ h1
      | _, _ => .bad
  | _ => .bad := rfl
theorem bools_rep : ∀ ws : List W, boolsW (ws.map fun _ => W.bl true) = some (ws.map fun _ => true)
  | [] => rfl
  | _ :: r => by
    show (boolsW (r.map fun _ => W.bl true)).map (true :: ·) = _
    rw [bools_rep r]
    rfl
theorem all_rep {h : AH} (ws : List W) : allW h [.lst (ws.map fun _ => W.bl true)] = some (.bl true) := by
  show (boolsW (ws.map fun _ => W.bl true)).map (fun l => W.bl (l.all id)) = _
  rw [bools_rep]
  show some (W.bl ((ws.map fun _ => true).all id)) = _
  have : (ws.map fun _ => true).all id = true := by simp
  rw [this]

/-! ### what a thing is, its references read -/
inductive F2 {α β : Type} (R : α → β → Prop) : List α → List β → Prop
  | nil : F2 R [] []
  | cons {a : α} {b : β} {as : List α} {bs : List β} (r : R a b) (t : F2 R as bs) : F2 R (a :: as) (b :: bs)
theorem F2.length {α β : Type} {R : α → β → Prop} : ∀ {as : List α} {bs : List β}, F2 R as bs → as.length = bs.length
  | _, _, .nil => rfl
  | _, _, .cons _ t => by rw [List.length_cons, List.length_cons, F2.length t]
theorem F2.imp {α β : Type} {R S : α → β → Prop} (k : ∀ a b, R a b → S a b) : ∀ {as : List α} {bs : List β}, F2 R as bs → F2 S as bs
  | _, _, .nil => .nil
  | _, _, .cons r t => .cons (k _ _ r) (F2.imp k t)
theorem F2.refl {α : Type} {R : α → α → Prop} : ∀ {l : List α}, (∀ a ∈ l, R a a) → F2 R l l
  | [], _ => .nil
  | a :: l, h => .cons (h a List.mem_cons_self) (F2.refl fun b hb => h b (List.mem_cons_of_mem _ hb))
theorem F2.map2 {α β γ δ : Type} {R : γ → δ → Prop} {f : α → γ} {g : β → δ} : ∀ {as : List α} {bs : List β}, F2 (fun a b => R (f a) (g b)) as bs → F2 R (as.map f) (bs.map g)
  | _, _, .nil => .nil
  | _, _, .cons r t => .cons r (F2.map2 t)
def leafB : W → Bool
  | .non | .bl _ | .int _ | .str _ => true
  | _ => false
/-- w, read through, is u; at most k deep -/
def Dr (h : AH) : Nat → W → W → Prop
  | 0, w, u => leafB w = true ∧ w = u
  | k + 1, w, u => (leafB w = true ∧ w = u) ∨ ∃ ws us, ((w = .tup ws ∧ u = .tup us) ∨ (u = .lst us ∧ seqL h w = some ws)) ∧ us.length < 1000000 ∧ F2 (Dr h k) ws us
theorem Dr.leaf {h : AH} {w : W} (e : leafB w = true) : ∀ k, Dr h k w w
  | 0 => ⟨e, rfl⟩
  | _ + 1 => .inl ⟨e, rfl⟩
theorem Dr.up {h : AH} : ∀ {k : Nat} {w u : W}, Dr h k w u → Dr h (k + 1) w u
  | 0, _, _, d => .inl d
  | k + 1, _, _, .inl d => .inl d
  | k + 1, _, _, .inr ⟨ws, us, c, l, f⟩ => .inr ⟨ws, us, c, l, f.imp fun _ _ => Dr.up⟩
theorem Dr.more {h : AH} {k : Nat} {w u : W} (d : Dr h k w u) : ∀ j, Dr h (k + j) w u
  | 0 => d
  | j + 1 => (Dr.more d j).up
theorem Dr.tup {h : AH} {k : Nat} {ws us : List W} (l : us.length < 1000000) (f : F2 (Dr h k) ws us) : Dr h (k + 1) (.tup ws) (.tup us) := .inr ⟨ws, us, .inl ⟨rfl, rfl⟩, l, f⟩
theorem Dr.lst {h : AH} {k : Nat} {w : W} {ws us : List W} (e : seqL h w = some ws) (l : us.length < 1000000) (f : F2 (Dr h k) ws us) : Dr h (k + 1) w (.lst us) := .inr ⟨ws, us, .inr ⟨rfl, e⟩, l, f⟩
theorem sl_facts {h : AH} {w : W} {ws : List W} (e : seqL h w = some ws) : tyW h w = some .list ∧ lenW h [w] = some (.int ws.length) ∧ gdL w ws h := by
  cases w with
  | lst us => cases e; exact ⟨rfl, rfl, True.intro⟩
  | ref n =>
    have e2 : h[n]? = some (.lst ws) := by
      unfold seqL at e
      dsimp only at e
      split at e
      · rename_i q; cases e; exact q
      · cases e
    exact ⟨(At e2).ty, (At e2).ln, e2⟩
  | _ => cases e

/-! ### _law_same -/
local macro_rules | `(tactic| walk_at "ev") => `(tactic| simp (config := { implicitDefEqProofs := false }) only [ev_var, ev_c, ev_op1, ev_op2, ev_if, ev_val, ev_bnot, ev_band, ev_bor, ev_and, ev_or, ev_nil, ev_cons, ev_tup, ev_lst, ev_lstR, ev_call, ev_fn, ev_fnK, ev_m0, ev_m, ev_chain, ev_next, ev_seq, ev_expr, ev_ret, ev_retN, ev_sif, ev_asg, ev_par, ev_gN, ev_gsub, ev_gsnil, ev_gscons, ev_gT, ev_slice, ev_pnone, ev_psome, ev_intOf, ev_raise, ev_dct0, ev_listR, ev_addR, ev_iVal, ev_noX_ok, ev_def, ev_end_rt, ev_end_nx, ev_end_exc, ev_start, bind_ok, bind_bad, bind_exc, bindS_ok, bindS_exc, bindS_bad, opt_some, opt_none, optB_some, truth_bl, add_int, sub_int, neg_int, mul_int, fdiv_int, mod_int, pow_int, lt_int, le_int, gt_int, ge_int, not_bl, int_int, abs_int, seqL_lst, seqA_lst, seqA_tup, dctOf_lst, dctOf_tup, dctOf_str, ix_lst, ix_tup, atI0, atI1, atI2, atI3, eq_int, List.getElem?_cons_zero, List.getElem?_cons_succ, List.set_cons_zero, List.set_cons_succ, List.map_cons, List.map_nil, List.cons_append, List.nil_append, List.append_nil, List.length_cons, List.length_nil, List.replicate_succ, List.replicate_zero, ite_true, ite_false, and_self, and_true, true_and, ne_eq, not_false_eq_true, decide_true, decide_false, Bool.false_eq_true, reduceIte, Bool.not_true, Bool.not_false, Int.reduceEq, Int.reduceNe, Int.reduceLE, Int.reduceLT, Int.reduceNeg, Int.reduceAdd, Int.reduceSub, Int.reduceMul, Int.reduceToNat, Int.reducePow, Nat.reduceAdd, Nat.reduceSub, Nat.reduceLeDiff, Nat.reduceEqDiff, not_true_eq_false, decide_eq_true_eq, decide_eq_false_iff_not, Int.not_lt, Int.not_le, isi1, isi2, isi3, ty_non, ty_bl, ty_int, ty_strW, ty_tup, ty_lst, ty_dct, tb_ll, tb_lt, tb_tl, tb_tt, tb_nl, tb_nt, tb_nd, tb_nb, tb_ni, tb_ns, tb_bl, tb_bt, tb_bd, tb_bb, tb_bi, tb_bs, tb_il, tb_it, tb_id, tb_ib, tb_ii, tb_is, tb_sl, tb_st, tb_sd, tb_sb, tb_si, tb_ss, tb_ld, tb_lb, tb_li, tb_ls, tb_td, tb_tb, tb_ti, tb_ts, tb_dl, tb_dt, tb_dd, tb_db, tb_di, tb_ds, ne_bl, eq_bl, eq_str, ne_str, ne_int, eq_non, isN_non, isN_bl, isN_int, isN_str, isN_tup, isN_lst, isN_ref, notN_non, notN_int, map_some, len_lst, len_tup, Bool.or_false, Bool.false_or, Bool.or_true, Bool.true_or, Bool.or_self, Bool.and_true, Bool.true_and, Bool.and_false, Bool.false_and, *])
theorem zip_of {h : AH} {k : Nat} : ∀ {ws vs us : List W}, F2 (Dr h k) ws us → F2 (Dr h k) vs us → ∀ w ∈ zipL ws vs, ∃ a b u, w = .tup [a, b] ∧ Dr h k a u ∧ Dr h k b u
  | _, _, _, .nil, .nil, w, hw => by cases hw
  | _, _, _, .cons r t, .cons r2 t2, w, hw => by
    rcases List.mem_cons.mp hw with e | hw
    · exact ⟨_, _, _, e, r, r2⟩
    · exact zip_of t t2 w hw
theorem same_ok {h : AH} : ∀ (k : Nat) {w v u : W}, Dr h k w u → Dr h k v u → C.m__law_same (k + 1) [w, v] h = .ok (.bl true) h := by
  have leaf : ∀ (k : Nat) (u : W), leafB u = true → C.m__law_same (k + 1) [u, u] h = .ok (.bl true) h := by
    intro k u e
    have z2 : (2 : Nat) ≤ sizeLine := size_small (by decide)
    have z3 : (3 : Nat) ≤ sizeLine := size_small (by decide)
    unfold C.m__law_same C.f__law_same
    cases u <;> first | (cases e; done) | (
      clear e
      walk_at "ev")
  have seq : ∀ (k : Nat) (w v : W) (ws vs us : List W) (t : Ty), (∀ a b u, Dr h k a u → Dr h k b u → C.m__law_same (k + 1) [a, b] h = .ok (.bl true) h) → (t = .list ∨ t = .tuple) → tyW h w = some t → tyW h v = some t →
      lenW h [w] = some (.int ws.length) → lenW h [v] = some (.int vs.length) → (∃ G : AH → Prop, G h ∧ ∀ (fa fb : EF) (env : Env), fa env h = .ok w h → fb env h = .ok v h → iZipW (lCons fa (lCons fb lNil)) env h = .ok ⟨zipL ws vs, G⟩ h) →
      F2 (Dr h k) ws us → F2 (Dr h k) vs us → ws.length < 1000000 → C.m__law_same (k + 1 + 1) [w, v] h = .ok (.bl true) h := by
    intro k w v ws vs us t ih ht tw tv lw lv hz f1 f2 hl
    obtain ⟨G, hG, hz⟩ := hz
    have z2 : (2 : Nat) ≤ sizeLine := size_small (by decide)
    have z3 : (3 : Nat) ≤ sizeLine := size_small (by decide)
    have el : ws.length = vs.length := f1.length.trans f2.length.symm
    have e1 := hz (fVar 0) (fVar 1) [some w, some v, none, none] rfl rfl
    have e2 : fLC (iZipW (lCons (fVar 0) (lCons (fVar 1) (lNil)))) (gT 2 (gsCons (gN 2) (gsCons (gN 3) (gsNil)))) (tYesW) (fFn (C.m__law_same (k + 1)) (lCons (fVar 2) (lCons (fVar 3) (lNil)))) [2, 3] [some w, some v, none, none] h = .ok (.lst ((zipL ws vs).map fun _ => W.bl true)) h := by
      refine ev_LC e1 ((lcL_map (f := fun _ => .bl true) (acc := []) hG ?_ fun x hx => ?_).trans (by rw [List.nil_append]))
      · refine size_small ?_
        have := zipL_len ws vs
        simp only [List.length_nil, Nat.zero_add]
        rw [this]
        omega
      · obtain ⟨a, b, u, ex, d1, d2⟩ := zip_of f1 f2 x hx
        subst ex
        have := ih a b u d1 d2
        refine ⟨[some w, some v, some a, some b], rfl, ?_⟩
        simp only [ev_fn, ev_cons, ev_nil, ev_var, List.getElem?_cons_zero, List.getElem?_cons_succ, bind_ok, this]
    have ar := all_rep (h := h) (zipL ws vs)
    rw [C.m__law_same]
    unfold C.f__law_same
    rw [el] at lw
    rcases ht with e | e <;> subst e <;> (clear hz f1 f2 ih e1; walk_at "ev")
  intro k
  induction k with
  | zero =>
    rintro w v u ⟨e, e1⟩ ⟨_, e2⟩
    subst e1 e2
    exact leaf 0 _ e
  | succ k ih =>
    rintro w v u d1 d2
    rcases d1 with ⟨e, e1⟩ | ⟨ws, us, c1, l1, f1⟩
    · subst e1
      rcases d2 with ⟨_, e2⟩ | ⟨vs, us, c2, l2, f2⟩
      · subst e2
        exact leaf _ _ e
      · rcases c2 with ⟨_, e2⟩ | ⟨e2, _⟩ <;> (rw [e2] at e; cases e)
    · rcases d2 with ⟨e, e2⟩ | ⟨vs, us2, c2, l2, f2⟩
      · subst e2
        rcases c1 with ⟨_, e1⟩ | ⟨e1, _⟩ <;> (rw [e1] at e; cases e)
      · rcases c1 with ⟨e1, e2⟩ | ⟨e1, e2⟩
        · subst e1 e2
          rcases c2 with ⟨e3, e4⟩ | ⟨e3, _⟩
          · subst e3
            cases e4
            refine seq k _ _ ws vs us .tuple (fun a b u => ih) (.inr rfl) rfl rfl rfl rfl ⟨fun _ => True, True.intro, fun fa fb env ea eb => ?_⟩ f1 f2 (by rw [f1.length]; exact l1)
            rw [ev_zip, ev_cons, ea, bind_ok, ev_cons, eb, bind_ok, ev_nil, bind_ok, bind_ok, bind_ok]
            rfl
          · cases e3
        · subst e1
          rcases c2 with ⟨_, e3⟩ | ⟨e3, e4⟩
          · cases e3
          · cases e3
            obtain ⟨a1, a2, a3⟩ := sl_facts e2
            obtain ⟨b1, b2, b3⟩ := sl_facts e4
            refine seq k _ _ ws vs us .list (fun a b u => ih) (.inl rfl) a1 b1 a2 b2 ⟨fun h => gdL w ws h ∧ gdL v vs h, ⟨a3, b3⟩, fun fa fb env ea eb => ?_⟩ f1 f2 (by rw [f1.length]; exact l1)
            rw [ev_zip, ev_cons, ea, bind_ok, ev_cons, eb, bind_ok, ev_nil, bind_ok, bind_ok, bind_ok]
            show (match seqL h w, seqL h v with
              | some xs, some ys => Res.ok (⟨zipL xs ys, fun h => gdL w xs h ∧ gdL v ys h⟩ : ItR) h
              | _, _ => match seqT w, seqT v with
                | some xs, some ys => .ok ⟨zipL xs ys, fun _ => True⟩ h
                | _, _ => .bad) = _
            rw [e2, e4]
end PM
set_option Elab.async false
set_option linter.all false
set_option maxRecDepth 100000
set_option maxHeartbeats 1000000
namespace PM
open PySem hiding Env
open L2 PF
local macro_rules | `(tactic| walk_at "ev") => `(tactic| simp (config := { implicitDefEqProofs := false }) only [ev_var, ev_c, ev_op1, ev_op2, ev_if, ev_val, ev_bnot, ev_band, ev_bor, ev_and, ev_or, ev_nil, ev_cons, ev_tup, ev_lst, ev_lstR, ev_call, ev_fn, ev_fnK, ev_m0, ev_m, ev_chain, ev_next, ev_seq, ev_expr, ev_ret, ev_retN, ev_sif, ev_asg, ev_par, ev_gN, ev_gsub, ev_gsnil, ev_gscons, ev_gT, ev_slice, ev_pnone, ev_psome, ev_intOf, ev_raise, ev_dct0, ev_listR, ev_addR, ev_iVal, ev_noX_ok, ev_def, ev_end_rt, ev_end_nx, ev_end_exc, ev_start, bind_ok, bind_bad, bind_exc, bindS_ok, bindS_exc, bindS_bad, opt_some, opt_none, optB_some, truth_bl, add_int, sub_int, neg_int, mul_int, fdiv_int, mod_int, pow_int, lt_int, le_int, gt_int, ge_int, not_bl, int_int, abs_int, seqL_lst, seqA_lst, seqA_tup, dctOf_lst, dctOf_tup, dctOf_str, ix_lst, ix_tup, atI0, atI1, atI2, atI3, eq_int, List.getElem?_cons_zero, List.getElem?_cons_succ, List.set_cons_zero, List.set_cons_succ, List.map_cons, List.map_nil, List.cons_append, List.nil_append, List.append_nil, List.length_cons, List.length_nil, List.replicate_succ, List.replicate_zero, ite_true, ite_false, and_self, and_true, true_and, ne_eq, not_false_eq_true, decide_true, decide_false, Bool.false_eq_true, reduceIte, Bool.not_true, Bool.not_false, Int.reduceEq, Int.reduceNe, Int.reduceLE, Int.reduceLT, Int.reduceNeg, Int.reduceAdd, Int.reduceSub, Int.reduceMul, Int.reduceToNat, Int.reducePow, Nat.reduceAdd, Nat.reduceSub, Nat.reduceLeDiff, Nat.reduceEqDiff, not_true_eq_false, decide_eq_true_eq, decide_eq_false_iff_not, Int.not_lt, Int.not_le, isi1, isi2, isi3, ty_non, ty_bl, ty_int, ty_strW, ty_tup, ty_lst, ty_dct, tb_ll, tb_lt, tb_tl, tb_tt, tb_nl, tb_nt, tb_nd, tb_nb, tb_ni, tb_ns, tb_bl, tb_bt, tb_bd, tb_bb, tb_bi, tb_bs, tb_il, tb_it, tb_id, tb_ib, tb_ii, tb_is, tb_sl, tb_st, tb_sd, tb_sb, tb_si, tb_ss, tb_ld, tb_lb, tb_li, tb_ls, tb_td, tb_tb, tb_ti, tb_ts, tb_dl, tb_dt, tb_dd, tb_db, tb_di, tb_ds, ne_bl, eq_bl, eq_str, ne_str, ne_int, eq_non, isN_non, isN_bl, isN_int, isN_str, isN_tup, isN_lst, isN_ref, notN_non, notN_int, map_some, len_lst, len_tup, Bool.or_false, Bool.false_or, Bool.or_true, Bool.true_or, Bool.or_self, Bool.and_true, Bool.true_and, Bool.and_false, Bool.false_and, *])

/-! ### things read through, dicts too -/
def leaf2 : W → Bool
  | .non | .bl _ | .int _ | .str _ => true
  | .dct [] => true
  | _ => false
def Dc (h : AH) : Nat → W → W → Prop
  | 0, w, u => leaf2 w = true ∧ w = u
  | k + 1, w, u => (leaf2 w = true ∧ w = u) ∨ ∃ ws us, ((w = .tup ws ∧ u = .tup us) ∨ (u = .lst us ∧ seqL h w = some ws)) ∧ us.length < 1000000 ∧ F2 (Dc h k) ws us
theorem Dc.leaf {h : AH} {w : W} (e : leaf2 w = true) : ∀ k, Dc h k w w
  | 0 => ⟨e, rfl⟩
  | _ + 1 => .inl ⟨e, rfl⟩
theorem Dc.tup {h : AH} {k : Nat} {ws us : List W} (l : us.length < 1000000) (f : F2 (Dc h k) ws us) : Dc h (k + 1) (.tup ws) (.tup us) := .inr ⟨ws, us, .inl ⟨rfl, rfl⟩, l, f⟩
theorem Dc.lst {h : AH} {k : Nat} {w : W} {ws us : List W} (e : seqL h w = some ws) (l : us.length < 1000000) (f : F2 (Dc h k) ws us) : Dc h (k + 1) w (.lst us) := .inr ⟨ws, us, .inr ⟨rfl, e⟩, l, f⟩
theorem leaf2_of {w : W} (e : leafB w = true) : leaf2 w = true := by cases w <;> first | rfl | cases e
theorem Dr.dc {h : AH} : ∀ {k : Nat} {w u : W}, Dr h k w u → Dc h k w u
  | 0, _, _, d => ⟨leaf2_of d.1, d.2⟩
  | k + 1, _, _, .inl d => .inl ⟨leaf2_of d.1, d.2⟩
  | k + 1, _, _, .inr ⟨ws, us, c, l, f⟩ => .inr ⟨ws, us, c, l, f.imp fun _ _ => Dr.dc⟩
/-- frozen plain things -/
def Pl : Nat → W → Prop
  | 0, w => leaf2 w = true
  | k + 1, w => leaf2 w = true ∨ ∃ ws, (w = .tup ws ∨ w = .lst ws) ∧ ws.length < 1000000 ∧ ∀ x ∈ ws, Pl k x
theorem F2.right {α β : Type} {R : α → β → Prop} {S : β → Prop} (k : ∀ a b, R a b → S b) : ∀ {as : List α} {bs : List β}, F2 R as bs → ∀ b ∈ bs, S b
  | _, _, .nil, b, hb => by cases hb
  | _, _, .cons r t, b, hb => by
    rcases List.mem_cons.mp hb with e | hb
    · subst e; exact k _ _ r
    · exact F2.right k t b hb
theorem F2.left {α β : Type} {R : α → β → Prop} {S : α → Prop} (k : ∀ a b, R a b → S a) : ∀ {as : List α} {bs : List β}, F2 R as bs → ∀ a ∈ as, S a
  | _, _, .nil, b, hb => by cases hb
  | _, _, .cons r t, b, hb => by
    rcases List.mem_cons.mp hb with e | hb
    · subst e; exact k _ _ r
    · exact F2.left k t b hb
theorem Dc.pl {h : AH} : ∀ {k : Nat} {w u : W}, Dc h k w u → Pl k u
  | 0, _, _, d => d.2 ▸ d.1
  | k + 1, _, _, .inl d => .inl (d.2 ▸ d.1)
  | k + 1, _, _, .inr ⟨ws, us, c, l, f⟩ => .inr ⟨us, c.imp (fun c => c.2) (fun c => c.1), l, F2.right (S := Pl k) (fun _ _ r => Dc.pl r) f⟩
theorem Pl.dc {h : AH} : ∀ {k : Nat} {u : W}, Pl k u → Dc h k u u
  | 0, _, d => ⟨d, rfl⟩
  | k + 1, _, .inl d => .inl ⟨d, rfl⟩
  | k + 1, _, .inr ⟨ws, c, l, f⟩ => by
    rcases c with c | c <;> subst c
    · exact .tup l (F2.refl fun a ha => Pl.dc (f a ha))
    · exact .lst rfl l (F2.refl fun a ha => Pl.dc (f a ha))

/-! ### _law_copied -/
theorem it_of {h : AH} {w : W} {ws : List W} (e : seqL h w = some ws) : itOf h w = some ⟨ws, gdL w ws⟩ := by
  cases w with
  | lst us => cases e; rfl
  | ref n =>
    have g := (sl_facts e).2.2
    exact (At g).it
  | _ => cases e
theorem it_tup {h : AH} {ws : List W} : itOf h (.tup ws) = some ⟨ws, fun _ => True⟩ := rfl
theorem optI_some {it : ItR} {h : AH} : optI (some it) h = .ok it h := rfl
theorem tupleW_lst {h : AH} {ws : List W} : tupleW h [.lst ws] = some (.tup ws) := rfl
/-- a walk of a thing, each item told by a function of it alone -/
theorem lcL_F2 {G : AH → Prop} {g : GF} {te : EF} {env : Env} {R : W → W → Prop} {h : AH} (hG : G h) (step : ∀ a b, R a b → ∃ env1, g a env h = .ok env1 h ∧ te env1 h = .ok b h) :
    ∀ {as bs : List W} (acc : List W), F2 R as bs → acc.length + as.length ≤ sizeLine → lcL G g tYesW te env as acc h = .ok (acc ++ bs) h
  | _, _, acc, .nil, _ => by
    unfold lcL
    rw [if_pos hG, List.append_nil]
  | _, _, acc, .cons (a := a) (b := b) (as := as) (bs := bs) r t, hz => by
    obtain ⟨env1, e1, e2⟩ := step a b r
    have hz' : acc.length + (as.length + 1) ≤ sizeLine := hz
    have ih := lcL_F2 hG step (acc ++ [b]) t (by rw [List.length_append]; show acc.length + 1 + _ ≤ _; omega)
    unfold lcL
    rw [if_pos hG, e1]
    dsimp only
    show (Res.bind (.ok true h) fun b h2 => if b = true then (te env1 h2).bind fun y h3 => if acc.length < sizeLine then lcL G g tYesW te env as (acc ++ [y]) h3 else .bad else lcL G g tYesW te env as acc h2) = _
    rw [bind_ok, if_pos rfl, e2, bind_ok, if_pos (by omega), ih, List.append_assoc]
    rfl
theorem copied_ok {h : AH} : ∀ (k : Nat) {w u : W}, Dc h k w u → C.m__law_copied (k + 1) [w] h = .ok u h := by
  have z2 : (2 : Nat) ≤ sizeLine := size_small (by decide)
  have leaf : ∀ (k : Nat) (u : W), leaf2 u = true → C.m__law_copied (k + 1) [u] h = .ok u h := by
    intro k u e
    unfold C.m__law_copied C.f__law_copied
    cases u with
    | dct kvs =>
      cases kvs with
      | cons _ _ => cases e
      | nil =>
        have e2 : fLC (iKeysW (fVar 0)) (gN 3) (tYesW) (fTup (lCons (fVar 3) (lCons (fFn (C.m__law_copied k) (lCons (fOp2 ixA (fVar 0) (fVar 3)) (lNil))) (lNil)))) [3] [some (.dct []), none, none, none] h = .ok (.lst []) h := by
          refine ev_LC (it := ⟨[], fun _ => True⟩) (h1 := h) rfl ?_
          show lcL (fun _ => True) _ _ _ _ [] [] h = _
          unfold lcL
          rw [if_pos True.intro]
        have e3 : fDictP (lCons (fLC (iKeysW (fVar 0)) (gN 3) (tYesW) (fTup (lCons (fVar 3) (lCons (fFn (C.m__law_copied k) (lCons (fOp2 ixA (fVar 0) (fVar 3)) (lNil))) (lNil)))) [3]) (lNil)) [some (.dct []), none, none, none] h = .ok (.dct []) h := by
          unfold fDictP
          rw [ev_cons, e2]
          rfl
        clear e e2
        walk_at "ev"
    | _ => first | (cases e; done) | (clear e; walk_at "ev")
  have seq : ∀ (k : Nat) (w : W) (ws us : List W) (it : ItR), (∀ a u, Dc h k a u → C.m__law_copied (k + 1) [a] h = .ok u h) → (tyW h w = some .list ∨ tyW h w = some .tuple) → itOf h w = some it → it.items = ws → it.guard h →
      F2 (Dc h k) ws us → ws.length < 1000000 → C.m__law_copied (k + 1 + 1) [w] h = .ok (if tyW h w = some .list then .lst us else .tup us) h := by
    intro k w ws us it ih ht hi he hg f hl
    have e2 : fLC (iVal (fVar 0)) (gN 2) (tYesW) (fFn (C.m__law_copied (k + 1)) (lCons (fVar 2) (lNil))) [2] [some w, none, none, none] h = .ok (.lst us) h := by
      refine ev_LC (it := it) (h1 := h) ?_ ?_
      · rw [ev_iVal, ev_var]
        show (Res.ok w h).bind _ = _
        rw [bind_ok, hi, optI_some]
      · rw [he]
        refine (lcL_F2 (R := Dc h k) hg (fun a b r => ⟨[some w, none, some a, none], rfl, ?_⟩) [] f (size_small (by simp; omega))).trans (by rw [List.nil_append])
        have := ih a b r
        simp only [ev_fn, ev_cons, ev_nil, ev_var, List.getElem?_cons_zero, List.getElem?_cons_succ, bind_ok, this]
    have tl : tupleW h [.lst us] = some (.tup us) := rfl
    rw [C.m__law_copied]
    unfold C.f__law_copied
    clear hi he hg f ih
    rcases ht with ht | ht <;> walk_at "ev"
    rfl
  intro k
  induction k with
  | zero =>
    rintro w u ⟨e, e1⟩
    subst e1
    exact leaf 0 _ e
  | succ k ih =>
    rintro w u d
    rcases d with ⟨e, e1⟩ | ⟨ws, us, c, l, f⟩
    · subst e1
      exact leaf _ _ e
    · rcases c with ⟨e1, e2⟩ | ⟨e1, e2⟩
      · subst e1 e2
        have := seq k (.tup ws) ws us _ (fun a u => ih) (.inr rfl) it_tup rfl True.intro f (by rw [f.length]; exact l)
        rw [this, if_neg (by rw [ty_tup]; intro z; cases z)]
      · subst e1
        obtain ⟨a1, a2, a3⟩ := sl_facts e2
        have := seq k w ws us _ (fun a u => ih) (.inl a1) (it_of e2) rfl a3 f (by rw [f.length]; exact l)
        rw [this, if_pos a1]

/-! ### _law_loose -/
mutual
/-- how many lists and tuples -/
def nodes : W → Nat
  | .tup ws => 1 + nodesL ws
  | .lst ws => 1 + nodesL ws
  | _ => 0
def nodesL : List W → Nat
  | [] => 0
  | w :: r => nodes w + nodesL r
end
/-- w is u, lists for tuples or tuples for lists -/
def Lo : Nat → W → W → Prop
  | 0, w, u => leaf2 w = true ∧ w = u
  | k + 1, w, u => (leaf2 w = true ∧ w = u) ∨ ∃ ws us, (w = .tup ws ∨ w = .lst ws) ∧ (u = .tup us ∨ u = .lst us) ∧ us.length < 1000000 ∧ F2 (Lo k) ws us
theorem F2.snoc {α β : Type} {R : α → β → Prop} {a : α} {b : β} (r : R a b) : ∀ {as : List α} {bs : List β}, F2 R as bs → F2 R (as ++ [a]) (bs ++ [b])
  | _, _, .nil => .cons r .nil
  | _, _, .cons r0 t => .cons r0 (F2.snoc r t)
/-- a walk that draws -/
theorem lcL_draw {s s0 : Nat} {g : GF} {te : EF} {env : Env} {R S : W → W → Prop} {cost : W → Nat} (step : ∀ (a b : W) (c : Nat) (h : AH), R a b → Stm s s0 c h → c + cost b + 10 < 1099511627776 →
      ∃ env1 y h2, g a env h = .ok env1 h ∧ te env1 h = .ok y h2 ∧ S y b ∧ Stm s s0 (c + cost b) h2 ∧ Sm s s0 h h2) :
    ∀ {as bs : List W} (acc : List W) (c : Nat) (h : AH), F2 R as bs → Stm s s0 c h → c + (bs.map cost).sum + 10 < 1099511627776 → acc.length + as.length ≤ sizeLine →
      ∃ ys h2, lcL (fun _ => True) g tYesW te env as acc h = .ok (acc ++ ys) h2 ∧ F2 S ys bs ∧ Stm s s0 (c + (bs.map cost).sum) h2 ∧ Sm s s0 h h2
  | _, _, acc, c, h, .nil, T, _, _ => by
    refine ⟨[], h, ?_, .nil, T, .refl⟩
    unfold lcL
    rw [if_pos True.intro, List.append_nil]
  | _, _, acc, c, h, .cons (a := a) (b := b) (as := as) (bs := bs) r t, T, hc, hz => by
    simp only [List.map_cons, List.sum_cons] at hc ⊢
    obtain ⟨env1, y, h2, e1, e2, sy, T2, sm⟩ := step a b c h r T (by omega)
    have hz' : acc.length + (as.length + 1) ≤ sizeLine := hz
    obtain ⟨ys, h3, e3, f, T3, sm3⟩ := lcL_draw step (acc ++ [y]) (c + cost b) h2 t T2 (by omega) (by rw [List.length_append]; show acc.length + 1 + _ ≤ _; omega)
    refine ⟨y :: ys, h3, ?_, .cons sy f, T3.mono (by omega), sm.trans sm3⟩
    unfold lcL
    rw [if_pos True.intro, e1]
    dsimp only
    show (Res.bind (.ok true h) fun b h2 => if b = true then (te env1 h2).bind fun y h3 => if acc.length < sizeLine then lcL (fun _ => True) g tYesW te env as (acc ++ [y]) h3 else .bad else lcL (fun _ => True) g tYesW te env as acc h2) = _
    rw [bind_ok, if_pos rfl, e2, bind_ok, if_pos (by omega), e3, List.append_assoc]
    rfl
theorem nodesL_sum : ∀ us : List W, nodesL us = (us.map nodes).sum
  | [] => rfl
  | u :: r => by
    show nodes u + nodesL r = _
    rw [nodesL_sum r, List.map_cons, List.sum_cons]
theorem loose_ok {s s0 : Nat} : ∀ (k : Nat) {w : W} {c : Nat} {h : AH}, Pl k w → Stm s s0 c h → c + nodes w + 10 < 1099511627776 →
    ∃ w' h', C.m__law_loose (k + 1) [.ref s, w] h = .ok w' h' ∧ Lo k w' w ∧ Stm s s0 (c + nodes w) h' ∧ Sm s s0 h h' := by
  have z2 : (2 : Nat) ≤ sizeLine := size_small (by decide)
  have leaf : ∀ (k : Nat) (u : W) (h : AH), leaf2 u = true → C.m__law_loose (k + 1) [.ref s, u] h = .ok u h := by
    intro k u h e
    unfold C.m__law_loose C.f__law_loose
    cases u <;> first | (cases e; done) | (clear e; walk_at "ev")
  have n0 : ∀ u : W, leaf2 u = true → nodes u = 0 := by
    intro u e
    cases u <;> first | (cases e; done) | rfl
  intro k
  induction k with
  | zero =>
    intro w c h d T hc
    exact ⟨w, h, leaf 0 w h d, ⟨d, rfl⟩, T.mono (by omega), .refl⟩
  | succ k ih =>
    intro w c h d T hc
    rcases d with e | ⟨ws, cw, l, f⟩
    · exact ⟨w, h, leaf _ w h e, .inl ⟨e, rfl⟩, T.mono (by omega), .refl⟩
    · have hn : nodes w = 1 + (ws.map nodes).sum := by
        rcases cw with cw | cw <;> subst cw <;> (show 1 + nodesL ws = _; rw [nodesL_sum])
      have hit : itOf h w = some ⟨ws, fun _ => True⟩ := by rcases cw with cw | cw <;> subst cw <;> rfl
      have hty : tyW h w = some .list ∨ tyW h w = some .tuple := by rcases cw with cw | cw <;> subst cw; exact .inr rfl; exact .inl rfl
      obtain ⟨ys, h2, e1, f2, T2, sm2⟩ := lcL_draw (s := s) (s0 := s0) (g := gN 3) (te := fFn (C.m__law_loose (k + 1)) (lCons (fVar 0) (lCons (fVar 3) (lNil)))) (env := [some (.ref s), some w, none, none]) (R := fun a b => a = b ∧ Pl k a) (S := Lo k) (cost := nodes)
        (fun a b c h r T hc => by
          obtain ⟨e, p⟩ := r
          subst e
          obtain ⟨y, h', e2, lo, T', sm⟩ := ih p T hc
          refine ⟨[some (.ref s), some w, none, some a], y, h', rfl, ?_, lo, T', sm⟩
          simp only [ev_fn, ev_cons, ev_nil, ev_var, List.getElem?_cons_zero, List.getElem?_cons_succ, bind_ok, e2]) (as := ws) (bs := ws) [] c h (F2.refl fun a ha => ⟨rfl, f a ha⟩) T (by omega) (size_small (by simp; omega))
      rw [List.nil_append] at e1
      have e2 : fLC (iVal (fVar 1)) (gN 3) (tYesW) (fFn (C.m__law_loose (k + 1)) (lCons (fVar 0) (lCons (fVar 3) (lNil)))) [3] [some (.ref s), some w, none, none] h = .ok (.lst ys) h2 := by
        refine ev_LC (it := ⟨ws, fun _ => True⟩) (h1 := h) ?_ e1
        rw [ev_iVal, ev_var]
        show (Res.ok w h).bind _ = _
        rw [bind_ok, hit, optI_some]
      obtain ⟨d, h3, e3, d0, d1, T3, sm3⟩ := draw_ok T2 (many := 2) (by decide) (by decide) (by omega)
      have lo : ∀ w', (w' = .tup ys ∨ w' = .lst ys) → Lo (k + 1) w' w := fun w' hw => .inr ⟨ys, ws, hw, cw, l, f2⟩
      have ft : tupleW h3 [.lst ys] = some (.tup ys) := rfl
      have key : C.m__law_loose (k + 1 + 1) [.ref s, w] h = .ok (if d = 0 then .lst ys else .tup ys) h3 := by
        rw [C.m__law_loose]
        unfold C.f__law_loose
        clear T T2 T3 sm2 sm3 e1 f2 lo hit ih f
        rcases hty with hty | hty <;> by_cases hd : d = 0 <;> walk_at "ev"
      refine ⟨_, h3, key, ?_, T3.mono (by omega), sm2.trans sm3⟩
      split
      · exact lo _ (.inr rfl)
      · exact lo _ (.inl rfl)

/-! ### _law_stream, _law_spoilt -/
theorem stream_ok {ns : List Int} {h : AH} (hl : ns.length ≤ 63) : ∃ h', C.m__law_stream [.scr (ns.map .int)] h = .ok (.ref (h.length + 1)) h' ∧ h' = h ++ [.lst (ns.map .int), .lst [.ref h.length, .int 0, .int 0, .int 19]] ∧ Stm (h.length + 1) h.length 0 h' := by
  refine ⟨_, ?_, rfl, ⟨by omega, ns, 0, 0, 19, ?_, ?_, by decide, by decide, by decide, by decide, by decide⟩⟩
  · have z4 : (4 : Nat) ≤ sizeLine := size_small (by decide)
    have e : (h ++ [O.lst (ns.map .int)]).length = h.length + 1 := by simp
    have e2 : h ++ [O.lst (ns.map W.int)] ++ [.lst [.ref h.length, .int 0, .int 0, .int 19]] = h ++ [.lst (ns.map .int), .lst [.ref h.length, .int 0, .int 0, .int 19]] := by simp
    unfold C.m__law_stream C.f__law_stream
    clear hl
    walk_at "ev"
  · rw [List.getElem?_append_right (by omega)]
    simp
  · rw [List.getElem?_append_right (by omega)]
    simp
def inert : Nat → W → Prop
  | 0, w => leafB w = true
  | k + 1, w => leafB w = true ∨ ∃ ws, w = .tup ws ∧ ∀ x ∈ ws, inert k x
theorem spoilt_inert {h : AH} : ∀ (k : Nat) {w : W}, inert k w → C.m__law_spoilt (k + 1) [w] h = .ok .non h := by
  have z2 : (2 : Nat) ≤ sizeLine := size_small (by decide)
  have leaf : ∀ (k : Nat) (u : W), leafB u = true → C.m__law_spoilt (k + 1) [u] h = .ok .non h := by
    intro k u e
    unfold C.m__law_spoilt C.f__law_spoilt
    cases u <;> first | (cases e; done) | (clear e; walk_at "ev")
  intro k
  induction k with
  | zero => exact fun {w} d => leaf 0 w d
  | succ k ih =>
    intro w d
    rcases d with e | ⟨ws, ew, f⟩
    · exact leaf _ w e
    · subst ew
      obtain ⟨env', h', e1, eh, o, eo⟩ := forL_inv (G := fun _ => True) (g := gN 2) (body := C.b__law_spoilt_1 (C.m__law_spoilt (k + 1))) (fun p env h' => h' = h ∧ ∃ o, env = [some (.tup ws), none, o]) ws [] [some (.tup ws), none, none] h ⟨rfl, none, rfl⟩ (fun _ _ _ _ => True.intro)
        (fun p w r env h' ew i => by
          obtain ⟨eh, o, eo⟩ := i
          subst eh eo
          have := ih (f w (by rw [show ws = p ++ w :: r from ew]; simp))
          refine ⟨_, _, [some (.tup ws), none, some w], h', rfl, ?_, rfl, some w, rfl⟩
          unfold C.b__law_spoilt_1
          walk_at "ev")
      subst eh eo
      have e2 : sFor (iVal (fVar 0)) (gN 2) (C.b__law_spoilt_1 (C.m__law_spoilt (k + 1))) [some (.tup ws), none, none] h' = .nx [some (.tup ws), none, o] h' := (ev_For (it := ⟨ws, fun _ => True⟩) (h1 := h') rfl).trans e1
      rw [C.m__law_spoilt]
      unfold C.f__law_spoilt
      clear e1 ih f
      walk_at "ev"
theorem forL_cons {G : AH → Prop} {g : GF} {body : SF} {w : W} {ws : List W} {env env1 env2 : Env} {h h1 h2 : AH} (hG : G h) (e1 : g w env h = .ok env1 h1) (e2 : body env1 h1 = .nx env2 h2) : forL G g body (w :: ws) env h = forL G g body ws env2 h2 := by
  rw [forL, if_pos hG, e1]
  dsimp only
  rw [e2]
theorem forL_nil {G : AH → Prop} {g : GF} {body : SF} {env : Env} {h : AH} (hG : G h) : forL G g body [] env h = .nx env h := by
  rw [forL, if_pos hG]
/-- a list of things that are spoilt one behind another, then it itself -/
theorem spoilt_list {n : Nat} {ws : List W} {k : Nat} {h h' : AH} (e : h[n]? = some (.lst ws)) (e' : h'[n]? = some (.lst ws)) (hz : ws.length < 1000000)
    (run : ∀ o, ∃ o', forL (gdL (.ref n) ws) (gN 2) (C.b__law_spoilt_1 (C.m__law_spoilt k)) ws [some (.ref n), none, o] h = .nx [some (.ref n), none, o'] h') :
    C.m__law_spoilt (k + 1) [.ref n] h = .ok .non (h'.set n (.lst (ws ++ [.str "late"]))) := by
  have z2 : (2 : Nat) ≤ sizeLine := size_small (by decide)
  obtain ⟨o', e1⟩ := run none
  have e2 : sFor (iVal (fVar 0)) (gN 2) (C.b__law_spoilt_1 (C.m__law_spoilt k)) [some (.ref n), none, none] h = .nx [some (.ref n), none, o'] h' := (ev_For (it := ⟨ws, gdL (.ref n) ws⟩) (h1 := h) (by
    rw [ev_iVal, ev_var]
    show (Res.ok (W.ref n) h).bind _ = _
    rw [bind_ok, (At e).it, optI_some])).trans e1
  have ap := append_ok (w := .str "late") e' (Nat.lt_of_lt_of_le hz (size_small (Nat.le_refl _)))
  have t1 := (At e).ty
  have t2 := (At e').ty
  have t3 := (At e').il
  rw [C.m__law_spoilt]
  unfold C.f__law_spoilt
  clear e1 e e'
  walk_at "ev"
theorem spoilt_inerts {n : Nat} {ws : List W} {k : Nat} {h : AH} (e : h[n]? = some (.lst ws)) (hz : ws.length < 1000000) (f : ∀ x ∈ ws, inert k x) : C.m__law_spoilt (k + 1 + 1) [.ref n] h = .ok .non (h.set n (.lst (ws ++ [.str "late"]))) := by
  refine spoilt_list e e hz fun o => ?_
  obtain ⟨env', h', e1, eh, o', eo⟩ := forL_inv (G := gdL (.ref n) ws) (g := gN 2) (body := C.b__law_spoilt_1 (C.m__law_spoilt (k + 1))) (fun p env h' => h' = h ∧ ∃ o, env = [some (.ref n), none, o]) ws [] [some (.ref n), none, o] h ⟨rfl, o, rfl⟩ (fun _ _ h' i => by rw [i.1]; exact e)
    (fun p w r env h' ew i => by
      obtain ⟨eh, o, eo⟩ := i
      subst eh eo
      have := spoilt_inert (h := h') k (f w (by rw [show ws = p ++ w :: r from ew]; simp))
      refine ⟨_, _, [some (.ref n), none, some w], h', rfl, ?_, rfl, some w, rfl⟩
      unfold C.b__law_spoilt_1
      clear e
      walk_at "ev")
  subst eh eo
  exact ⟨o', e1⟩
/-- [a, b], two lists of such -/
theorem spoilt_two {n a b : Nat} {wa wb : List W} {k : Nat} {h : AH} (e : h[n]? = some (.lst [.ref a, .ref b])) (ea : h[a]? = some (.lst wa)) (eb : h[b]? = some (.lst wb)) (ab : a ≠ b) (na : n ≠ a) (nb : n ≠ b) (la : wa.length < 1000000) (lb : wb.length < 1000000) (fa : ∀ x ∈ wa, inert k x) (fb : ∀ x ∈ wb, inert k x) :
    C.m__law_spoilt (k + 1 + 1 + 1) [.ref n] h = .ok .non (((h.set a (.lst (wa ++ [.str "late"]))).set b (.lst (wb ++ [.str "late"]))).set n (.lst ([.ref a, .ref b] ++ [.str "late"]))) := by
  have e1 := spoilt_inerts (k := k) ea la fa
  have eb1 : (h.set a (.lst (wa ++ [.str "late"])))[b]? = some (.lst wb) := set_off ab eb
  have e2 := spoilt_inerts (k := k) eb1 lb fb
  have en1 : (h.set a (.lst (wa ++ [.str "late"])))[n]? = some (.lst [.ref a, .ref b]) := set_off (Ne.symm na) e
  have en : ((h.set a (.lst (wa ++ [.str "late"]))).set b (.lst (wb ++ [.str "late"])))[n]? = some (.lst [.ref a, .ref b]) := set_off (Ne.symm nb) en1
  refine spoilt_list e en (by simp) fun o => ⟨some (.ref b), ?_⟩
  have b1 : C.b__law_spoilt_1 (C.m__law_spoilt (k + 1 + 1)) [some (.ref n), none, some (.ref a)] h = .nx [some (.ref n), none, some (.ref a)] (h.set a (.lst (wa ++ [.str "late"]))) := by
    unfold C.b__law_spoilt_1
    clear e ea eb eb1 en1 en
    walk_at "ev"
  have b2 : C.b__law_spoilt_1 (C.m__law_spoilt (k + 1 + 1)) [some (.ref n), none, some (.ref b)] (h.set a (.lst (wa ++ [.str "late"]))) = .nx [some (.ref n), none, some (.ref b)] ((h.set a (.lst (wa ++ [.str "late"]))).set b (.lst (wb ++ [.str "late"]))) := by
    unfold C.b__law_spoilt_1
    clear e ea eb eb1 en1 en
    walk_at "ev"
  refine (forL_cons (show gdL (.ref n) [.ref a, .ref b] h from e) rfl b1).trans ?_
  refine (forL_cons (show gdL (.ref n) [.ref a, .ref b] _ from en1) rfl b2).trans ?_
  exact forL_nil (show gdL (.ref n) [.ref a, .ref b] _ from en)
end PM
set_option Elab.async false
set_option linter.all false
set_option maxRecDepth 100000
set_option maxHeartbeats 1000000
namespace PM
open PySem hiding Env
open L2 PF
local macro_rules | `(tactic| walk_at "ev") => `(tactic| simp (config := { implicitDefEqProofs := false }) only [ev_var, ev_c, ev_op1, ev_op2, ev_if, ev_val, ev_bnot, ev_band, ev_bor, ev_and, ev_or, ev_nil, ev_cons, ev_tup, ev_lst, ev_lstR, ev_call, ev_fn, ev_fnK, ev_m0, ev_m, ev_chain, ev_next, ev_seq, ev_expr, ev_ret, ev_retN, ev_sif, ev_asg, ev_par, ev_gN, ev_gsub, ev_gsnil, ev_gscons, ev_gT, ev_slice, ev_pnone, ev_psome, ev_intOf, ev_raise, ev_dct0, ev_listR, ev_addR, ev_iVal, ev_noX_ok, ev_def, ev_end_rt, ev_end_nx, ev_end_exc, ev_start, bind_ok, bind_bad, bind_exc, bindS_ok, bindS_exc, bindS_bad, opt_some, opt_none, optB_some, truth_bl, add_int, sub_int, neg_int, mul_int, fdiv_int, mod_int, pow_int, lt_int, le_int, gt_int, ge_int, not_bl, int_int, abs_int, seqL_lst, seqA_lst, seqA_tup, dctOf_lst, dctOf_tup, dctOf_str, ix_lst, ix_tup, atI0, atI1, atI2, atI3, eq_int, List.getElem?_cons_zero, List.getElem?_cons_succ, List.set_cons_zero, List.set_cons_succ, List.map_cons, List.map_nil, List.cons_append, List.nil_append, List.append_nil, List.length_cons, List.length_nil, List.replicate_succ, List.replicate_zero, ite_true, ite_false, and_self, and_true, true_and, ne_eq, not_false_eq_true, decide_true, decide_false, Bool.false_eq_true, reduceIte, Bool.not_true, Bool.not_false, Int.reduceEq, Int.reduceNe, Int.reduceLE, Int.reduceLT, Int.reduceNeg, Int.reduceAdd, Int.reduceSub, Int.reduceMul, Int.reduceToNat, Int.reducePow, Nat.reduceAdd, Nat.reduceSub, Nat.reduceLeDiff, Nat.reduceEqDiff, not_true_eq_false, decide_eq_true_eq, decide_eq_false_iff_not, Int.not_lt, Int.not_le, isi1, isi2, isi3, ty_non, ty_bl, ty_int, ty_strW, ty_tup, ty_lst, ty_dct, tb_ll, tb_lt, tb_tl, tb_tt, tb_nl, tb_nt, tb_nd, tb_nb, tb_ni, tb_ns, tb_bl, tb_bt, tb_bd, tb_bb, tb_bi, tb_bs, tb_il, tb_it, tb_id, tb_ib, tb_ii, tb_is, tb_sl, tb_st, tb_sd, tb_sb, tb_si, tb_ss, tb_ld, tb_lb, tb_li, tb_ls, tb_td, tb_tb, tb_ti, tb_ts, tb_dl, tb_dt, tb_dd, tb_db, tb_di, tb_ds, ne_bl, eq_bl, eq_str, ne_str, ne_int, eq_non, isN_non, isN_bl, isN_int, isN_str, isN_tup, isN_lst, isN_ref, notN_non, notN_int, map_some, len_lst, len_tup, Bool.or_false, Bool.false_or, Bool.or_true, Bool.true_or, Bool.or_self, Bool.and_true, Bool.true_and, Bool.and_false, Bool.false_and, *])

/-! ### repr -/
/-- shows in few signs -/
def Sw0 : W → Prop
  | .non | .bl _ => True
  | .int i => -1 ≤ i ∧ i ≤ 60
  | .str x => x.cps.toList.length ≤ 8 ∧ ∀ c ∈ x.cps.toList, c < 1000
  | _ => False
def Sw : Nat → W → Prop
  | 0, w => Sw0 w
  | k + 1, w => Sw0 w ∨ ∃ ws, (w = .tup ws ∨ w = .lst ws) ∧ ws.length ≤ 30 ∧ ∀ x ∈ ws, Sw k x
def Bn : Nat → Nat
  | 0 => 82
  | k + 1 => 30 * (Bn k + 2) + 4
theorem Bn_up (k : Nat) : Bn k ≤ Bn (k + 1) := by show Bn k ≤ 30 * (Bn k + 2) + 4; omega
theorem Bn_pos (k : Nat) : 82 ≤ Bn k := by
  induction k with
  | zero => exact Nat.le_refl _
  | succ k ih => exact Nat.le_trans ih (Bn_up k)
theorem ints_short : ∀ i : Fin 62, (toString ((i : Int) - 1) : Str).length ≤ 82 := by decide +kernel
theorem int_short {i : Int} (h : -1 ≤ i ∧ i ≤ 60) : (toString i : Str).length ≤ 82 := by
  have := ints_short ⟨(i + 1).toNat, by omega⟩
  have e : (((⟨(i + 1).toNat, by omega⟩ : Fin 62) : Nat) : Int) - 1 = i := by
    show (((i + 1).toNat : Nat) : Int) - 1 = i
    omega
  rw [e] at this
  exact this
theorem textFrom_le (ts : List Str) : ∀ (k : Nat) (acc : Str), (textFrom k acc ts).length ≤ acc.length + piled ts := by
  induction ts with
  | nil => intro k acc; exact Nat.le_refl _
  | cons t r ih =>
    intro k acc
    have h1 := ih (k + 1) (acc ++ (if k > 0 then ", " else "" : String) ++ t)
    have e : (acc ++ (if k > 0 then ", " else "" : String) ++ t).length = acc.length + (if k > 0 then 2 else 0) + t.length := by
      rw [strLen_append, strLen_append]
      congr 2
      split <;> rfl
    rw [piled_cons]
    have e2 : (if k > 0 then 2 else 0) ≤ 2 := by split <;> omega
    show (textFrom (k + 1) (acc ++ (if k > 0 then ", " else "" : String) ++ t) r).length ≤ _
    omega
theorem listText_le (ts : List Str) : (listText ts).length ≤ piled ts + 2 := by
  have := textFrom_le ts 0 "["
  have e : (("[" : String) : Str).length = 1 := rfl
  show (textFrom 0 "[" ts ++ "]").length ≤ _
  rw [strLen_append]
  have e2 : (("]" : String) : Str).length = 1 := rfl
  omega
theorem tupleText_le (ts : List Str) : (tupleText ts).length ≤ piled ts + 4 := by
  unfold tupleText
  rw [strLen_append, strLen_append]
  have e : (("(" : String) : Str).length = 1 := rfl
  have e2 : ((if ts.length == 1 then ",)" else ")" : String) : Str).length ≤ 2 := by split <;> decide
  cases ts with
  | nil => show 1 + 0 + _ ≤ 0 + 4; omega
  | cons t r =>
    have := join_length_add (t :: r) (by simp)
    omega
theorem piled_le {B : Nat} : ∀ {ts : List Str}, (∀ t ∈ ts, t.length ≤ B) → piled ts ≤ ts.length * (B + 2)
  | [], _ => Nat.zero_le _
  | t :: r, h => by
    rw [piled_cons, List.length_cons, Nat.add_mul]
    have := piled_le (ts := r) fun x hx => h x (List.mem_cons_of_mem _ hx)
    have := h t List.mem_cons_self
    omega
theorem shownAll_len : ∀ ds : List PyData, (PyData.shownAll ds).length = ds.length
  | [] => rfl
  | d :: ds => by simp only [PyData.shownAll, List.length_cons, shownAll_len ds]
/-- what is asked of data shown -/
def Fit (k : Nat) (d : PyData) : Prop := d.showable = true ∧ d.depth ≤ k + 1 ∧ d.shown.length ≤ Bn k
theorem fit_all {k : Nat} : ∀ {ds : List PyData}, (∀ d ∈ ds, Fit k d) → PyData.showableAll ds = true ∧ PyData.depthAll ds ≤ k + 1 ∧ ∀ t ∈ PyData.shownAll ds, t.length ≤ Bn k
  | [], _ => ⟨rfl, Nat.zero_le _, fun _ h => nomatch h⟩
  | d :: ds, h => by
    obtain ⟨a1, a2, a3⟩ := h d List.mem_cons_self
    obtain ⟨b1, b2, b3⟩ := fit_all (ds := ds) fun x hx => h x (List.mem_cons_of_mem _ hx)
    refine ⟨by simp only [PyData.showableAll, a1, b1, Bool.and_self], by simp only [PyData.depthAll]; omega, fun t ht => ?_⟩
    simp only [PyData.shownAll, List.mem_cons] at ht
    rcases ht with e | ht
    · subst e; exact a3
    · exact b3 t ht
theorem Fit.list {k : Nat} {ds : List PyData} (l : ds.length ≤ 30) (h : ∀ d ∈ ds, Fit k d) : Fit (k + 1) (.list ds) := by
  obtain ⟨a1, a2, a3⟩ := fit_all h
  refine ⟨by simp only [PyData.showable, a1], by simp only [PyData.depth]; omega, ?_⟩
  simp only [PyData.shown]
  have h1 := listText_le (PyData.shownAll ds)
  have h2 := piled_le a3
  rw [shownAll_len] at h2
  have h3 := Nat.mul_le_mul_right (Bn k + 2) l
  show _ ≤ 30 * (Bn k + 2) + 4
  omega
theorem Fit.tuple {k : Nat} {ds : List PyData} (l : ds.length ≤ 30) (h : ∀ d ∈ ds, Fit k d) : Fit (k + 1) (.tuple ds) := by
  obtain ⟨a1, a2, a3⟩ := fit_all h
  refine ⟨by simp only [PyData.showable, a1], by simp only [PyData.depth]; omega, ?_⟩
  simp only [PyData.shown]
  have h1 := tupleText_le (PyData.shownAll ds)
  have h2 := piled_le a3
  rw [shownAll_len] at h2
  have h3 := Nat.mul_le_mul_right (Bn k + 2) l
  show _ ≤ 30 * (Bn k + 2) + 4
  omega
theorem fit_leaf {w : W} (s : Sw0 w) (k : Nat) : ∃ d, dataW w = some d ∧ Fit k d := by
  have hb := Bn_pos k
  have sm : ∀ d : PyData, d.showable = true → d.depth = 0 → d.shown.length ≤ 82 → Fit k d := fun d a b c => ⟨a, by omega, by omega⟩
  cases w with
  | non => exact ⟨_, rfl, sm _ (by decide) (by decide) (by decide)⟩
  | bl b => exact ⟨_, rfl, sm _ (by cases b <;> decide) (by cases b <;> decide) (by cases b <;> decide)⟩
  | int i =>
    refine ⟨_, rfl, sm _ ?_ ?_ ?_⟩
    · simp only [PyData.showable]
      have s' : -1 ≤ i ∧ i ≤ 60 := s
      exact decide_eq_true (Nat.lt_of_lt_of_le (log2_lt (n := i.natAbs) (k := 64) (by omega) (by decide)) (by decide))
    · simp only [PyData.depth]
    · simp only [PyData.shown]
      exact int_short s
  | str x =>
    refine ⟨_, rfl, sm _ ?_ ?_ ?_⟩
    · simp only [PyData.showable]
    · simp only [PyData.depth]
    · simp only [PyData.shown]
      have s' : x.cps.toList.length ≤ 8 ∧ ∀ c ∈ x.cps.toList, c < 1000 := s
      have := StrLaws.reprText_len x fun c hc => Nat.lt_of_lt_of_le (s'.2 c hc) (by decide)
      have e3 := len_tl x
      omega
  | _ => exact absurd s id
theorem fit_sw : ∀ (k : Nat) {w : W}, Sw k w → ∃ d, dataW w = some d ∧ Fit k d
  | 0, w, s => fit_leaf s 0
  | k + 1, w, s => by
    rcases s with s | ⟨ws, c, l, f⟩
    · exact fit_leaf s _
    · have key : ∀ vs : List W, (∀ x ∈ vs, Sw k x) → ∃ ds, datasW vs = some ds ∧ ds.length = vs.length ∧ ∀ d ∈ ds, Fit k d := by
        intro vs hv
        induction vs with
        | nil => exact ⟨[], rfl, rfl, fun _ h => nomatch h⟩
        | cons v vs ih =>
          obtain ⟨d, e1, f1⟩ := fit_sw k (hv v List.mem_cons_self)
          obtain ⟨ds, e2, l2, f2⟩ := ih fun x hx => hv x (List.mem_cons_of_mem _ hx)
          refine ⟨d :: ds, by unfold datasW; rw [e1, e2], by rw [List.length_cons, List.length_cons, l2], fun x hx => ?_⟩
          rcases List.mem_cons.mp hx with e | hx
          · subst e; exact f1
          · exact f2 x hx
      obtain ⟨ds, e1, l1, f1⟩ := key ws f
      rcases c with c | c <;> subst c
      · exact ⟨.tuple ds, by unfold dataW; rw [e1]; rfl, .tuple (by omega) f1⟩
      · exact ⟨.list ds, by unfold dataW; rw [e1]; rfl, .list (by omega) f1⟩
/-- it shows, whatever is on the heap -/
def Rp (w : W) : Prop := ∃ z, ∀ h, reprW h [w] = some (.str z)
theorem datasE_of : ∀ {ws : List W} {ds : List PyData}, datasW ws = some ds → datasE ws = some ds
  | [], _, e => e
  | w :: ws, ds, e => by
    unfold datasW at e
    split at e
    · rename_i d ds' e1 e2
      cases e
      unfold datasE
      have : dataE w = some d := by
        unfold dataE
        split
        · unfold dataW at e1; cases e1
        · exact e1
      rw [this, datasE_of e2]
    · cases e
theorem rp_of {k : Nat} (hk : k ≤ 2) {ws : List W} (l : ws.length ≤ 30) (h : ∀ x ∈ ws, x = .dct [] ∨ Sw k x) : Rp (.lst ws) := by
  have key : ∀ vs : List W, (∀ x ∈ vs, x = .dct [] ∨ Sw k x) → ∃ ds, datasE vs = some ds ∧ ds.length = vs.length ∧ ∀ d ∈ ds, Fit k d := by
    intro vs hv
    induction vs with
    | nil => exact ⟨[], rfl, rfl, fun _ h => nomatch h⟩
    | cons v vs ih =>
      have e1 : ∃ d, dataE v = some d ∧ Fit k d := by
        rcases hv v List.mem_cons_self with e | s
        · subst e
          have hb := Bn_pos k
          refine ⟨.dict [], rfl, by decide, ?_, ?_⟩
          · have : (PyData.dict []).depth ≤ 1 := by decide
            omega
          · have : (PyData.dict []).shown.length ≤ 82 := by decide
            omega
        · obtain ⟨d, e1, f1⟩ := fit_sw k s
          refine ⟨d, ?_, f1⟩
          unfold dataE
          split
          · unfold dataW at e1; cases e1
          · exact e1
      obtain ⟨d, e1, f1⟩ := e1
      obtain ⟨ds, e2, l2, f2⟩ := ih fun x hx => hv x (List.mem_cons_of_mem _ hx)
      refine ⟨d :: ds, by unfold datasE; rw [e1, e2], by rw [List.length_cons, List.length_cons, l2], fun x hx => ?_⟩
      rcases List.mem_cons.mp hx with e | hx
      · subst e; exact f1
      · exact f2 x hx
  obtain ⟨ds, e, el, f⟩ := key ws h
  have F := Fit.list (by omega) f
  obtain ⟨F1, F2, F3⟩ := F
  obtain ⟨a1, a2, a3⟩ := fit_all f
  have hs : Bn (k + 1) ≤ sizeLine := by
    rw [sizeLine_eq]
    match k, hk with
    | 0, _ => decide
    | 1, _ => decide
    | 2, _ => decide
  have hd : k + 2 ≤ deepN := by unfold deepN; omega
  cases e2 : datasW ws with
  | some ds' =>
    have e3 := datasE_of e2
    rw [e] at e3
    cases e3
    refine ⟨(PyData.list ds).shown, fun h => ?_⟩
    have e4 : dataH h (.lst ws) = some (.list ds) := by
      show dataW (.lst ws) = _
      unfold dataW
      rw [e2]; rfl
    unfold reprW
    dsimp only
    rw [e4]
    exact if_pos ⟨F1, by simp only [PyData.hasDict]; exact datasW_noDict e2, by omega, by omega⟩
  | none =>
    refine ⟨(PyData.list ds).shown, fun h => ?_⟩
    have e4 : dataH h (.lst ws) = none := by
      show dataW (.lst ws) = _
      unfold dataW
      rw [e2]; rfl
    unfold reprW
    dsimp only
    rw [e4]
    cases ws with
    | nil => cases e2
    | cons w1 ws =>
      show (match datasE (w1 :: ws) with
        | some ds => if PyData.showableAll ds = true ∧ PyData.depthAll ds < deepN ∧ (listText (PyData.shownAll ds)).length ≤ sizeLine then some (W.str (listText (PyData.shownAll ds))) else none
        | none => none) = _
      rw [e]
      simp only [PyData.shown] at F3 ⊢
      exact if_pos ⟨a1, by omega, by omega⟩
end PM
set_option Elab.async false
set_option linter.all false
set_option maxRecDepth 100000
set_option maxHeartbeats 1000000
namespace PM
open PySem hiding Env
open L2 PF
local macro_rules | `(tactic| walk_at "ev") => `(tactic| simp (config := { implicitDefEqProofs := false }) only [ev_var, ev_c, ev_op1, ev_op2, ev_if, ev_val, ev_bnot, ev_band, ev_bor, ev_and, ev_or, ev_nil, ev_cons, ev_tup, ev_lst, ev_lstR, ev_call, ev_fn, ev_fnK, ev_m0, ev_m, ev_chain, ev_next, ev_seq, ev_expr, ev_ret, ev_retN, ev_sif, ev_asg, ev_par, ev_gN, ev_gsub, ev_gsnil, ev_gscons, ev_gT, ev_slice, ev_pnone, ev_psome, ev_intOf, ev_raise, ev_dct0, ev_listR, ev_addR, ev_iVal, ev_noX_ok, ev_def, ev_end_rt, ev_end_nx, ev_end_exc, ev_start, bind_ok, bind_bad, bind_exc, bindS_ok, bindS_exc, bindS_bad, opt_some, opt_none, optB_some, truth_bl, add_int, sub_int, neg_int, mul_int, fdiv_int, mod_int, pow_int, lt_int, le_int, gt_int, ge_int, not_bl, int_int, abs_int, seqL_lst, seqA_lst, seqA_tup, dctOf_lst, dctOf_tup, dctOf_str, ix_lst, ix_tup, atI0, atI1, atI2, atI3, eq_int, List.getElem?_cons_zero, List.getElem?_cons_succ, List.set_cons_zero, List.set_cons_succ, List.map_cons, List.map_nil, List.cons_append, List.nil_append, List.append_nil, List.length_cons, List.length_nil, List.replicate_succ, List.replicate_zero, ite_true, ite_false, and_self, and_true, true_and, ne_eq, not_false_eq_true, decide_true, decide_false, Bool.false_eq_true, reduceIte, Bool.not_true, Bool.not_false, Int.reduceEq, Int.reduceNe, Int.reduceLE, Int.reduceLT, Int.reduceNeg, Int.reduceAdd, Int.reduceSub, Int.reduceMul, Int.reduceToNat, Int.reducePow, Nat.reduceAdd, Nat.reduceSub, Nat.reduceLeDiff, Nat.reduceEqDiff, not_true_eq_false, decide_eq_true_eq, decide_eq_false_iff_not, Int.not_lt, Int.not_le, isi1, isi2, isi3, ty_non, ty_bl, ty_int, ty_strW, ty_tup, ty_lst, ty_dct, tb_ll, tb_lt, tb_tl, tb_tt, tb_nl, tb_nt, tb_nd, tb_nb, tb_ni, tb_ns, tb_bl, tb_bt, tb_bd, tb_bb, tb_bi, tb_bs, tb_il, tb_it, tb_id, tb_ib, tb_ii, tb_is, tb_sl, tb_st, tb_sd, tb_sb, tb_si, tb_ss, tb_ld, tb_lb, tb_li, tb_ls, tb_td, tb_tb, tb_ti, tb_ts, tb_dl, tb_dt, tb_dd, tb_db, tb_di, tb_ds, ne_bl, eq_bl, eq_str, ne_str, ne_int, eq_non, isN_non, isN_bl, isN_int, isN_str, isN_tup, isN_lst, isN_ref, notN_non, notN_int, map_some, len_lst, len_tup, Bool.or_false, Bool.false_or, Bool.or_true, Bool.true_or, Bool.or_self, Bool.and_true, Bool.true_and, Bool.and_false, Bool.false_and, *])

/-! ### lines -/
abbrev Pn := Str × Int
def pr (p : Pn) : W := .tup [.str p.1, .int p.2]
structure LineOk (L : List Pn) : Prop where
  nm : ∀ p ∈ L, Nm p.1
  sg : ∀ p ∈ L, p.2 = 1 ∨ p.2 = -1
  nd : (L.map (·.1)).Nodup
  le : L.length < 1000
def Pw (x : W) (p : Pn) : Prop := x = .tup [.str p.1, .int p.2] ∨ x = .lst [.str p.1, .int p.2]
def LineW (w : W) (L : List Pn) : Prop := ∃ ws, (w = .tup ws ∨ w = .lst ws) ∧ F2 Pw ws L
theorem F2.mem {α β : Type} {R : α → β → Prop} {P : β → Prop} : ∀ {as : List α} {bs : List β}, F2 R as bs → (∀ b ∈ bs, P b) → F2 (fun a b => R a b ∧ P b) as bs
  | _, _, .nil, _ => .nil
  | _, _, .cons r t, h => .cons ⟨r, h _ List.mem_cons_self⟩ (F2.mem t fun b hb => h b (List.mem_cons_of_mem _ hb))
section
variable {h : AH}
theorem in_abc {c : Nat} (hc : c ∈ letters) : inA h (.str ⟨#[c]⟩) (.str abc) = some (.bl true) := by
  show some (W.bl (decide (c ∈ letters))) = _
  rw [decide_eq_true hc]
theorem is_name_ok {x : Str} (n : Nm x) : C.m_is_name [.str x] h = .ok (.bl true) h := by
  have hz : x.length ≤ sizeLine := size_small (by rw [len_tl]; have := n.le; omega)
  have l := len_str (h := h) hz
  have q1 : (0 : Int) < x.length := by rw [len_tl]; have := n.pos; omega
  have q2 : (x.length : Int) < 9 := by rw [len_tl]; have := n.le; omega
  have e : fLC (iVal (fVar 0)) (gN 1) (tYesW) (fOp2 inA (fVar 1) (fC (.str abc))) [1] [some (.str x), none] h = .ok (.lst ((signs x).map fun _ => W.bl true)) h := by
    refine ev_LC (it := ⟨signs x, fun _ => True⟩) (h1 := h) rfl ((lcL_map (f := fun _ => .bl true) (acc := []) True.intro (size_small ?_) fun w hw => ?_).trans (by rw [List.nil_append]))
    · simp only [signs, List.length_nil, List.length_map]
      have := n.le
      omega
    · obtain ⟨c, hc, ew⟩ := List.mem_map.mp hw
      subst ew
      refine ⟨_, rfl, ?_⟩
      show (Res.ok (W.str ⟨#[c]⟩) h).bind _ = _
      rw [bind_ok, ev_c, bind_ok, in_abc (n.all c hc)]
      rfl
  have a := all_rep (h := h) (signs x)
  have ea : fC (.str "abcdefghijklmnopqrstuvwxyz") = fC (.str abc) := rfl
  unfold C.m_is_name C.f_is_name
  rw [ea]
  clear hz
  walk_at "ev"
theorem in_sign {i : Int} (s : i = 1 ∨ i = -1) : inA h (.int i) (.tup [.int 1, .int (-1)]) = some (.bl true) := by
  show (if min (PyData.depthAll [.int 1, .int (-1)]) (PyData.int i).depth ≤ deepN then some (W.bl ([PyData.int 1, PyData.int (-1)].any fun y => PyData.eqv y (.int i))) else none) = _
  rw [if_pos (by simp only [PyData.depth]; omega)]
  rcases s with s | s <;> subst s <;> simp [PyData.eqv]
theorem is_signed_ok {x : W} {p : Pn} (pw : Pw x p) (n : Nm p.1) (s : p.2 = 1 ∨ p.2 = -1) : CL.m_is_signed [x] h = .ok (.bl true) h := by
  have z2 : (2 : Nat) ≤ sizeLine := size_small (by decide)
  have e1 := is_name_ok (h := h) n
  have e2 := in_sign (h := h) s
  unfold CL.m_is_signed CL.f_is_signed C.m_is_row C.f_is_row C.m_is_list C.f_is_list C.m_is_whole C.f_is_whole
  clear n s
  rcases pw with e | e <;> subst e <;> walk_at "ev"
  all_goals rfl
def kvp (p : Pn) : W × W := (.str p.1, .bl true)
theorem kvp_new {A : List Pn} {x : Str} (hx : x ∉ A.map (·.1)) : ((A.map kvp).any fun e => decide (keyW e.1 = some (.inr x))) = false := by
  rw [List.any_eq_false]
  intro e he
  obtain ⟨q, hq, e1⟩ := List.mem_map.mp he
  subst e1
  have : q.1 ≠ x := fun z => hx (List.mem_map.mpr ⟨q, hq, z⟩)
  have h2 : keyW (kvp q).1 ≠ some (.inr x) := fun z => this (by cases z; rfl)
  simp [h2]
theorem dcL_line {w : W} : ∀ {ws : List W} {L : List Pn} (A : List Pn), F2 Pw ws L → ((A ++ L).map (·.1)).Nodup → A.length + L.length ≤ sizeLine →
    dcL (fun _ => True) (gN 1) (tYesW) (fOp2 ixA (fVar 1) (fC (.int 0))) (fC (.bl true)) [some w, none] ws (A.map kvp) h = .ok ((A ++ L).map kvp) h
  | _, _, A, .nil, _, _ => by
    unfold dcL
    rw [if_pos True.intro, List.append_nil]
  | _, _, A, .cons (a := a) (b := b) (as := as) (bs := bs) r t, nd, hz => by
    have hz' : A.length + (bs.length + 1) ≤ sizeLine := hz
    have hx : b.1 ∉ A.map (·.1) := fun z => by
      rw [List.map_append, List.nodup_append] at nd
      exact nd.2.2 _ z _ (List.mem_map.mpr ⟨b, List.mem_cons_self, rfl⟩) rfl
    have ih := dcL_line (w := w) (A ++ [b]) t (by rw [List.append_assoc]; exact nd) (by rw [List.length_append]; show A.length + 1 + _ ≤ _; omega)
    have ek : ixA h a (.int 0) = some (.str b.1) := by rcases r with r | r <;> subst r <;> rfl
    have pk : putKW (A.map kvp) (.inr b.1) (.str b.1) (.bl true) = (A ++ [b]).map kvp := by
      unfold putKW
      rw [kvp_new hx, if_neg (by decide), List.map_append]
      rfl
    unfold dcL
    rw [if_pos True.intro, ev_gN]
    dsimp only
    show (Res.bind (.ok true h) fun b1 h2 => if b1 = true then (fOp2 ixA (fVar 1) (fC (.int 0)) [some w, some a] h2).bind fun k h3 => (fC (.bl true) [some w, some a] h3).bind fun v h4 =>
          match keyW k with
          | some kk => if (A.map kvp).length < sizeLine then dcL (fun _ => True) (gN 1) (tYesW) (fOp2 ixA (fVar 1) (fC (.int 0))) (fC (.bl true)) [some w, none] as (putKW (A.map kvp) kk k v) h4 else .bad
          | none => .bad
        else dcL (fun _ => True) (gN 1) (tYesW) (fOp2 ixA (fVar 1) (fC (.int 0))) (fC (.bl true)) [some w, none] as (A.map kvp) h2) = _
    rw [bind_ok, if_pos rfl]
    simp only [ev_op2, ev_var, ev_c, List.getElem?_cons_zero, List.getElem?_cons_succ, bind_ok, ek, opt_some]
    show (if (A.map kvp).length < sizeLine then dcL (fun _ => True) (gN 1) (tYesW) (fOp2 ixA (fVar 1) (fC (.int 0))) (fC (.bl true)) [some w, none] as (putKW (A.map kvp) (.inr b.1) (.str b.1) (.bl true)) h else .bad) = _
    rw [if_pos (by rw [List.length_map]; omega), pk, ih, List.append_assoc]
    rfl
theorem len_dct {kvs : List (W × W)} : lenW h [.dct kvs] = some (.int kvs.length) := rfl
theorem is_line_ok {w : W} {L : List Pn} (lw : LineW w L) (lo : LineOk L) : CL.m_is_line [w] h = .ok (.bl true) h := by
  obtain ⟨ws, cw, f⟩ := lw
  have z2 : (2 : Nat) ≤ sizeLine := size_small (by decide)
  have hl := f.length
  have hle := lo.le
  have it : itOf h w = some ⟨ws, fun _ => True⟩ := by rcases cw with e | e <;> subst e <;> rfl
  have e0 : iVal (fVar 0) [some w, none] h = .ok ⟨ws, fun _ => True⟩ h := by
    rw [ev_iVal, ev_var]
    show (Res.ok w h).bind _ = _
    rw [bind_ok, it, optI_some]
  have e1 : fLC (iVal (fVar 0)) (gN 1) (tYesW) (fFn CL.m_is_signed (lCons (fVar 1) (lNil))) [1] [some w, none] h = .ok (.lst (ws.map fun _ => W.bl true)) h := by
    refine ev_LC e0 ((lcL_map (f := fun _ => .bl true) (acc := []) True.intro (size_small ?_) fun x hx => ?_).trans (by rw [List.nil_append]))
    · show 0 + ws.length ≤ _
      omega
    · have : ∃ p, Pw x p ∧ p ∈ L := F2.left (S := fun x => ∃ p, Pw x p ∧ p ∈ L) (fun a b r => ⟨b, r⟩) (f.mem (P := fun p => p ∈ L) fun b hb => hb) x hx
      obtain ⟨p, pw, hp⟩ := this
      refine ⟨_, rfl, ?_⟩
      show (Res.ok [x] h).bind _ = _
      rw [bind_ok]
      exact is_signed_ok pw (lo.nm p hp) (lo.sg p hp)
  have a := all_rep (h := h) ws
  have e2 : fDC (iVal (fVar 0)) (gN 1) (tYesW) (fOp2 ixA (fVar 1) (fC (.int 0))) (fC (.bl true)) [1] [some w, none] h = .ok (.dct (L.map kvp)) h := by
    unfold fDC
    rw [e0, bind_ok]
    have := dcL_line (h := h) (w := w) [] f (by rw [List.nil_append]; exact lo.nd) (size_small (by simp; omega))
    rw [List.map_nil, List.nil_append] at this
    show (match dcL (fun _ => True) (gN 1) (tYesW) (fOp2 ixA (fVar 1) (fC (.int 0))) (fC (.bl true)) [some w, none] ws [] h with
      | .ok kvs h2 => Res.ok (W.dct kvs) h2
      | _ => .bad) = _
    rw [this]
  have d1 := len_dct (h := h) (kvs := L.map kvp)
  rw [List.length_map] at d1
  have d2 : lenW h [w] = some (.int L.length) := by rcases cw with e | e <;> subst e <;> (rw [← hl]; rfl)
  have ty : tyW h w = some .list ∨ tyW h w = some .tuple := by rcases cw with e | e <;> subst e; exact .inr rfl; exact .inl rfl
  unfold CL.m_is_line CL.f_is_line C.m_is_list C.f_is_list
  clear e0 it f cw hl hle lo
  rcases ty with ty | ty <;> walk_at "ev"
/-- as_line -/
theorem as_line_ok {w : W} {L : List Pn} (lw : LineW w L) (lo : LineOk L) : CL.m_as_line [w] h = .ok (.ref h.length) (h ++ [.lst (L.map pr)]) := by
  have e1 := is_line_ok (h := h) lw lo
  obtain ⟨ws, cw, f⟩ := lw
  have hl := f.length
  have hle := lo.le
  have it : itOf h w = some ⟨ws, fun _ => True⟩ := by rcases cw with e | e <;> subst e <;> rfl
  have e0 : iVal (fVar 0) [some w, none] h = .ok ⟨ws, fun _ => True⟩ h := by
    rw [ev_iVal, ev_var]
    show (Res.ok w h).bind _ = _
    rw [bind_ok, it, optI_some]
  have f2 : F2 (fun x y => ∃ p, Pw x p ∧ y = pr p) ws (L.map pr) := by
    have := F2.map2 (R := fun x y => ∃ p, Pw x p ∧ y = pr p) (f := id) (g := pr) (f.imp fun a b r => ⟨b, r, rfl⟩)
    rw [List.map_id] at this
    exact this
  have e2 : fLCR (iVal (fVar 0)) (gN 1) (tYesW) (fCall tupleW (lCons (fVar 1) (lNil))) [1] [some w, none] h = .ok (.ref h.length) (h ++ [.lst (L.map pr)]) := by
    refine ev_LCR e0 ((lcL_F2 True.intro (fun a b r => ?_) [] f2 (size_small ?_)).trans (by rw [List.nil_append]))
    · obtain ⟨p, pw, eb⟩ := r
      subst eb
      refine ⟨_, rfl, ?_⟩
      show opt (tupleW h [a]) h = _
      rcases pw with e | e <;> subst e <;> rfl
    · show 0 + ws.length ≤ _
      omega
  unfold CL.m_as_line CL.f_as_line
  clear e0 it f f2 cw hl hle lo
  walk_at "ev"

/-! ### turns -/
def itemsW : W → Option (List W)
  | .tup ws => some ws
  | .lst ws => some ws
  | _ => none
def idxB (n : Nat) : W → Bool
  | .int i => decide (0 ≤ i) && decide (i < n)
  | _ => false
def leB : W → W → Bool
  | .int i, .int j => decide (i ≤ j)
  | _, _ => false
def turnL (n : Nat) : List W → Bool
  | [a, b] => idxB n a && idxB n b && leB a b
  | _ => false
def turnB (n : Nat) (w : W) : Bool := match itemsW w with
  | some ws => turnL n ws
  | none => false
theorem is_index_ok {x : W} {n : Nat} (e : leaf2 x = true) : C.m_is_index [x, .int n] h = .ok (.bl (idxB n x)) h := by
  unfold C.m_is_index C.f_is_index C.m_is_number C.f_is_number C.m_is_whole C.f_is_whole
  cases x with
  | int i =>
    unfold idxB
    by_cases h1 : 0 ≤ i <;> by_cases h2 : i < n <;> walk_at "ev"
    all_goals first | rfl | (simp [h1, h2]; done) | omega
  | _ => first | (cases e; done) | (clear e; walk_at "ev"; rfl)
theorem all2 {a b : Bool} : allW h [.lst [.bl a, .bl b]] = some (.bl (a && b)) := by cases a <;> cases b <;> rfl
/-- Pl 1, said otherwise -/
def Flat (w : W) : Prop := leaf2 w = true ∨ ∃ ws, (w = .tup ws ∨ w = .lst ws) ∧ ws.length < 1000000 ∧ ∀ x ∈ ws, leaf2 x = true
theorem leaf2_items {w : W} (e : leaf2 w = true) : itemsW w = none := by cases w <;> first | (cases e; done) | rfl
theorem leaf2_ty {w : W} (e : leaf2 w = true) : ∃ t, tyW h w = some t ∧ isTab t .list = false ∧ isTab t .tuple = false := by
  cases w with
  | non => exact ⟨_, rfl, by decide, by decide⟩
  | bl b => exact ⟨_, rfl, by decide, by decide⟩
  | int i => exact ⟨_, rfl, by decide, by decide⟩
  | str x => exact ⟨_, rfl, by decide, by decide⟩
  | dct kvs => exact ⟨.dict, rfl, by decide, by decide⟩
  | _ => cases e
theorem is_turn_ok {v t : W} {n : Nat} (lv : lenW h [v] = some (.int n)) (ft : Flat t) : CL.m_is_turn [v, t] h = .ok (.bl (turnB n t)) h := by
  have z2 : (2 : Nat) ≤ sizeLine := size_small (by decide)
  rcases ft with e | ⟨ws, cw, hl, hx⟩
  · have hi := leaf2_items e
    obtain ⟨ty, e1, e2, e3⟩ := leaf2_ty (h := h) e
    unfold CL.m_is_turn CL.f_is_turn C.m_is_row C.f_is_row C.m_is_list C.f_is_list turnB
    clear e lv
    walk_at "ev"
  · have ty : tyW h t = some .list ∨ tyW h t = some .tuple := by rcases cw with e | e <;> subst e; exact .inr rfl; exact .inl rfl
    have ln : lenW h [t] = some (.int ws.length) := by rcases cw with e | e <;> subst e <;> rfl
    have hi : itemsW t = some ws := by rcases cw with e | e <;> subst e <;> rfl
    by_cases h2 : ws.length = 2
    · match ws, h2 with
      | [a, b], _ =>
        have it : itOf h t = some ⟨[a, b], fun _ => True⟩ := by rcases cw with e | e <;> subst e <;> rfl
        have e0 : iVal (fVar 1) [some v, some t, none] h = .ok ⟨[a, b], fun _ => True⟩ h := by
          rw [ev_iVal, ev_var]
          show (Res.ok t h).bind _ = _
          rw [bind_ok, it, optI_some]
        have e1 : fLC (iVal (fVar 1)) (gN 2) (tYesW) (fFn C.m_is_index (lCons (fVar 2) (lCons (fCall lenW (lCons (fVar 0) (lNil))) (lNil)))) [2] [some v, some t, none] h = .ok (.lst [.bl (idxB n a), .bl (idxB n b)]) h := by
          have e2 : lcL (fun _ => True) (gN 2) (tYesW) (fFn C.m_is_index (lCons (fVar 2) (lCons (fCall lenW (lCons (fVar 0) (lNil))) (lNil)))) [some v, some t, none] [a, b] [] h = .ok ([] ++ [a, b].map fun x => .bl (idxB n x)) h := by
            refine lcL_map True.intro (size_small (by show 0 + 2 ≤ _; decide)) fun x hx2 => ⟨[some v, some t, some x], rfl, ?_⟩
            have := is_index_ok (h := h) (n := n) (hx x hx2)
            simp only [ev_fn, bind_ok, ev_cons, ev_call, ev_var, ev_nil, List.getElem?_cons_zero, List.getElem?_cons_succ, lv, opt_some]
            exact this
          exact ev_LC e0 e2
        have a2 := all2 (h := h) (a := idxB n a) (b := idxB n b)
        have i0 : ixA h t (.int 0) = some a := by rcases cw with e | e <;> subst e <;> rfl
        have i1 : ixA h t (.int 1) = some b := by rcases cw with e | e <;> subst e <;> rfl
        have ln2 : lenW h [t] = some (.int 2) := ln
        have key : idxB n a = true → idxB n b = true → leI h a b = some (.bl (leB a b)) := by
          intro q1 q2
          cases a <;> first | (cases q1; done) | skip
          cases b <;> first | (cases q2; done) | rfl
        have et : turnB n t = (idxB n a && idxB n b && leB a b) := by unfold turnB; rw [hi]; rfl
        unfold CL.m_is_turn CL.f_is_turn C.m_is_row C.f_is_row C.m_is_list C.f_is_list
        rw [et]
        clear e0 it ln hi et cw lv hx hl
        cases q1 : idxB n a <;> cases q2 : idxB n b
        all_goals (rw [q1, q2] at a2 e1)
        all_goals (try have k := key q1 q2)
        all_goals clear key
        all_goals (rcases ty with ty | ty <;> walk_at "ev")
        all_goals (try rfl)
    · have et : turnB n t = false := by
        unfold turnB; rw [hi]
        match ws, h2 with
        | [], _ => rfl
        | [_], _ => rfl
        | _ :: _ :: _ :: _, _ => rfl
        | [_, _], h2 => exact absurd rfl h2
      have e2 : ((ws.length : Nat) : Int) ≠ 2 := by omega
      unfold CL.m_is_turn CL.f_is_turn C.m_is_row C.f_is_row C.m_is_list C.f_is_list
      rw [et]
      clear hi et cw lv hx hl h2
      rcases ty with ty | ty <;> walk_at "ev"
end
end PM
set_option Elab.async false
set_option linter.all false
set_option maxRecDepth 100000
set_option maxHeartbeats 1000000
namespace PM
open PySem hiding Env
open L2 PF
section
variable {h : AH}
theorem slice_of {v : W} {ws : List W} (e : seqL h v = some ws) (lo hi : Option Int) : sliceW h v lo hi = some (.lst (cutL ws lo hi)) := by
  cases v with
  | lst us => cases e; rfl
  | ref n =>
    show (seqL h (.ref n)).map _ = _
    rw [e]; rfl
  | _ => cases e
theorem cut_to {α : Type} {ws : List α} {i : Nat} (hi : i ≤ ws.length) : cutL ws none (some (i : Int)) = ws.take i := by
  unfold cutL
  rw [HT.sIx_none, HT.sIx_nat, List.drop_zero, Nat.sub_zero, Nat.min_eq_left hi]
theorem cut_mid {α : Type} {ws : List α} {i j : Nat} (hi : i ≤ j) (hj : j ≤ ws.length) : cutL ws (some (i : Int)) (some (j : Int)) = (ws.drop i).take (j - i) := by
  unfold cutL
  rw [HT.sIx_nat, HT.sIx_nat, Nat.min_eq_left (Nat.le_trans hi hj), Nat.min_eq_left hj]
theorem cut_from {α : Type} {ws : List α} {i : Nat} (hi : i ≤ ws.length) : cutL ws (some (i : Int)) none = ws.drop i := by
  unfold cutL
  rw [HT.sIx_nat, HT.sIx_none, Nat.min_eq_left hi, List.take_of_length_le (by rw [List.length_drop]; exact Nat.le_refl _)]
theorem rev_of {ws : List W} : revW h (.lst ws) = some (.lst ws.reverse) := rfl
theorem add_lst {a b : List W} : addW h (.lst a) (.lst b) = if a.length + b.length ≤ sizeLine then some (.lst (a ++ b)) else none := rfl
theorem ev_gAny {n : Nat} {gs : GsF} {w : W} {env : Env} : gAny n gs w env h = match seqA h w with
  | some ws => if ws.length = n then gs ws env h else .bad
  | none => .bad := rfl
theorem items_seq {t : W} {ws : List W} (e : itemsW t = some ws) : seqA h t = some ws := by
  cases t with
  | tup us => cases e; rfl
  | lst us => cases e; rfl
  | _ => cases e
end
def ng (p : Pn) : Pn := (p.1, -p.2)
def overL (L : List Pn) (i j : Nat) : List Pn := L.take i ++ ((L.drop i).take (j + 1 - i)).reverse.map ng ++ L.drop (j + 1)
def twoI (t : W) : Nat × Nat := match itemsW t with
  | some [.int i, .int j] => (i.toNat, j.toNat)
  | _ => (0, 0)
def overT (L : List Pn) (t : W) : List Pn := overL L (twoI t).1 (twoI t).2
theorem over_len {L : List Pn} {i j : Nat} (h1 : i ≤ j) (h2 : j < L.length) : (overL L i j).length = L.length := by
  unfold overL
  simp only [List.length_append, List.length_take, List.length_map, List.length_reverse, List.length_drop]
  omega
theorem turnB_two {n : Nat} {t : W} (e : turnB n t = true) : ∃ i j : Nat, itemsW t = some [.int i, .int j] ∧ i ≤ j ∧ j < n ∧ twoI t = (i, j) := by
  unfold turnB at e
  split at e
  · rename_i ws hi
    unfold turnL at e
    split at e
    · rename_i a b
      rw [Bool.and_eq_true, Bool.and_eq_true] at e
      obtain ⟨⟨e1, e2⟩, e3⟩ := e
      cases a with
      | int i =>
        cases b with
        | int j =>
          simp only [idxB, leB, Bool.and_eq_true, decide_eq_true_eq] at e1 e2 e3
          refine ⟨i.toNat, j.toNat, ?_, by omega, by omega, ?_⟩
          · rw [hi, Int.toNat_of_nonneg e1.1, Int.toNat_of_nonneg e2.1]
          · unfold twoI; rw [hi]
        | _ => cases e2
      | _ => cases e1
    · cases e
  · cases e
local macro_rules | `(tactic| walk_at "ev") => `(tactic| simp (config := { implicitDefEqProofs := false }) only [ev_var, ev_c, ev_op1, ev_op2, ev_if, ev_val, ev_bnot, ev_band, ev_bor, ev_and, ev_or, ev_nil, ev_cons, ev_tup, ev_lst, ev_lstR, ev_call, ev_fn, ev_fnK, ev_m0, ev_m, ev_chain, ev_next, ev_seq, ev_expr, ev_ret, ev_retN, ev_sif, ev_asg, ev_par, ev_gN, ev_gsub, ev_gsnil, ev_gscons, ev_gT, ev_slice, ev_pnone, ev_psome, ev_intOf, ev_raise, ev_dct0, ev_listR, ev_addR, ev_iVal, ev_noX_ok, ev_def, ev_end_rt, ev_end_nx, ev_end_exc, ev_start, bind_ok, bind_bad, bind_exc, bindS_ok, bindS_exc, bindS_bad, opt_some, opt_none, optB_some, truth_bl, add_int, sub_int, neg_int, mul_int, fdiv_int, mod_int, pow_int, lt_int, le_int, gt_int, ge_int, not_bl, int_int, abs_int, seqL_lst, seqA_lst, seqA_tup, dctOf_lst, dctOf_tup, dctOf_str, ix_lst, ix_tup, atI0, atI1, atI2, atI3, eq_int, List.getElem?_cons_zero, List.getElem?_cons_succ, List.set_cons_zero, List.set_cons_succ, List.map_cons, List.map_nil, List.cons_append, List.nil_append, List.append_nil, List.length_cons, List.length_nil, List.replicate_succ, List.replicate_zero, ite_true, ite_false, and_self, and_true, true_and, ne_eq, not_false_eq_true, decide_true, decide_false, Bool.false_eq_true, reduceIte, Bool.not_true, Bool.not_false, Int.reduceEq, Int.reduceNe, Int.reduceLE, Int.reduceLT, Int.reduceNeg, Int.reduceAdd, Int.reduceSub, Int.reduceMul, Int.reduceToNat, Int.reducePow, Nat.reduceAdd, Nat.reduceSub, Nat.reduceLeDiff, Nat.reduceEqDiff, not_true_eq_false, decide_eq_true_eq, decide_eq_false_iff_not, Int.not_lt, Int.not_le, isi1, isi2, isi3, ty_non, ty_bl, ty_int, ty_strW, ty_tup, ty_lst, ty_dct, tb_ll, tb_lt, tb_tl, tb_tt, tb_nl, tb_nt, tb_nd, tb_nb, tb_ni, tb_ns, tb_bl, tb_bt, tb_bd, tb_bb, tb_bi, tb_bs, tb_il, tb_it, tb_id, tb_ib, tb_ii, tb_is, tb_sl, tb_st, tb_sd, tb_sb, tb_si, tb_ss, tb_ld, tb_lb, tb_li, tb_ls, tb_td, tb_tb, tb_ti, tb_ts, tb_dl, tb_dt, tb_dd, tb_db, tb_di, tb_ds, ne_bl, eq_bl, eq_str, ne_str, ne_int, eq_non, isN_non, isN_bl, isN_int, isN_str, isN_tup, isN_lst, isN_ref, notN_non, notN_int, map_some, len_lst, len_tup, Bool.or_false, Bool.false_or, Bool.or_true, Bool.true_or, Bool.or_self, Bool.and_true, Bool.true_and, Bool.and_false, Bool.false_and, *])
section
variable {h : AH}
theorem about_ok {M : List Pn} (hl : M.length < 1000) : CL.m_turned_about [.lst (M.map pr)] h = .ok (.lst ((M.reverse.map ng).map pr)) h := by
  have z2 : (2 : Nat) ≤ sizeLine := size_small (by decide)
  have f2 : F2 (fun x y => ∃ p, x = pr p ∧ y = pr (ng p)) (M.map pr).reverse ((M.reverse.map ng).map pr) := by
    rw [← List.map_reverse, List.map_map]
    exact F2.map2 (F2.refl fun p _ => ⟨p, rfl, rfl⟩)
  have rv := rev_of (h := h) (ws := M.map pr)
  have e0 : iVal (fOp1 revW (fVar 0)) [some (.lst (M.map pr)), none, none] h = .ok ⟨(M.map pr).reverse, fun _ => True⟩ h := by
    walk_at "ev"
    rfl
  have e : fLC (iVal (fOp1 revW (fVar 0))) (gT 2 (gsCons (gN 1) (gsCons (gN 2) (gsNil)))) (tYesW) (fTup (lCons (fVar 1) (lCons (fOp1 negW (fVar 2)) (lNil)))) [1, 2] [some (.lst (M.map pr)), none, none] h = .ok (.lst ((M.reverse.map ng).map pr)) h := by
    refine ev_LC e0 ((lcL_F2 True.intro (fun a b r => ?_) [] f2 (size_small ?_)).trans (by rw [List.nil_append]))
    · obtain ⟨p, ea, eb⟩ := r
      subst ea eb
      refine ⟨[some (.lst (M.map pr)), some (.str p.1), some (.int p.2)], rfl, ?_⟩
      clear rv e0 f2
      unfold pr ng
      walk_at "ev"
    · simp only [List.length_nil, List.length_reverse, List.length_map]
      omega
  unfold CL.m_turned_about CL.f_turned_about
  clear e0 f2 rv
  walk_at "ev"
theorem turned_over_ok {v t : W} {L : List Pn} {i j : Nat} (sv : seqL h v = some (L.map pr)) (et : itemsW t = some [.int i, .int j]) (h1 : i ≤ j) (h2 : j < L.length) (hl : L.length < 1000) :
    CL.m_turned_over [v, t] h = .ok (.ref h.length) (h ++ [.lst ((overL L i j).map pr)]) := by
  have st := items_seq (h := h) et
  have s1 := slice_of sv none (some (i : Int))
  have s2 := slice_of sv (some (i : Int)) (some ((j : Int) + 1))
  have s3 := slice_of sv (some ((j : Int) + 1)) none
  have ej : ((j : Int) + 1) = ((j + 1 : Nat) : Int) := by omega
  rw [cut_to (by rw [List.length_map]; omega), ← List.map_take] at s1
  rw [ej, cut_mid (by omega) (by rw [List.length_map]; omega), ← List.map_drop, ← List.map_take, ← ej] at s2
  rw [ej, cut_from (by rw [List.length_map]; omega), ← List.map_drop, ← ej] at s3
  have ab := about_ok (h := h) (M := (L.drop i).take (j + 1 - i)) (by simp only [List.length_take, List.length_drop]; omega)
  have ga : gAny 2 (gsCons (gN 2) (gsCons (gN 3) (gsNil))) t [some v, some t, none, none] h = .ok [some v, some t, some (.int i), some (.int j)] h := by
    rw [ev_gAny, st]
    rfl
  have ad := add_lst (h := h) (a := (L.take i).map pr) (b := (((L.drop i).take (j + 1 - i)).reverse.map ng).map pr)
  rw [if_pos (size_small (by simp only [List.length_map, List.length_take, List.length_reverse, List.length_drop]; omega)), ← List.map_append] at ad
  have z : ((L.take i ++ ((L.drop i).take (j + 1 - i)).reverse.map ng).map pr).length + ((L.drop (j + 1)).map pr).length ≤ sizeLine := size_small (by simp only [List.length_map, List.length_append, List.length_take, List.length_reverse, List.length_drop]; omega)
  have eo : (overL L i j).map pr = (L.take i ++ ((L.drop i).take (j + 1 - i)).reverse.map ng).map pr ++ (L.drop (j + 1)).map pr := by rw [← List.map_append]; rfl
  unfold CL.m_turned_over CL.f_turned_over
  rw [eo]
  clear eo ej st sv et h1 h2 hl
  walk_at "ev"
theorem turned_over_T {v t : W} {L : List Pn} {n : Nat} (sv : seqL h v = some (L.map pr)) (et : turnB n t = true) (hn : n = L.length) (hl : L.length < 1000) :
    CL.m_turned_over [v, t] h = .ok (.ref h.length) (h ++ [.lst ((overT L t).map pr)]) ∧ (overT L t).length = L.length := by
  obtain ⟨i, j, e1, e2, e3, e4⟩ := turnB_two et
  subst hn
  unfold overT
  rw [e4]
  exact ⟨turned_over_ok sv e1 e2 e3 hl, over_len e2 e3⟩
/-- turned -/
theorem turned_ok {w t : W} {L : List Pn} (lw : LineW w L) (lo : LineOk L) (ft : Flat t) : CL.m_turned [w, t] h =
    if turnB L.length t = true then .ok (.ref (h.length + 1)) (h ++ [.lst (L.map pr), .lst ((overT L t).map pr)]) else .exc "BadTurn" [("turn", t)] (h ++ [.lst (L.map pr)]) := by
  have a := as_line_ok (h := h) lw lo
  have hA := At (app_at (h := h) (o := .lst (L.map pr)) (l := []))
  have ln := hA.ln
  have it := is_turn_ok (n := L.length) (by rw [ln, List.length_map]) ft
  have hl := lo.le
  unfold CL.m_turned CL.f_turned
  cases et : turnB L.length t with
  | true =>
    have ov := (turned_over_T hA.sl et rfl hl).1
    rw [et] at it
    have e1 : h ++ [O.lst (L.map pr)] ++ [O.lst ((overT L t).map pr)] = h ++ [.lst (L.map pr), .lst ((overT L t).map pr)] := by simp
    have e2 : (h ++ [O.lst (L.map pr)]).length = h.length + 1 := by simp
    rw [e1, e2] at ov
    clear hA ln lw lo ft hl e1 e2 et
    walk_at "ev"
  | false =>
    rw [et] at it
    clear hA ln lw lo ft hl et
    walk_at "ev"

/-! ### runs -/
def firstBad (n : Nat) : List W → Option Nat
  | [] => none
  | t :: r => if turnB n t = true then (firstBad n r).map (· + 1) else some 0
def bads (n : Nat) : Nat → List W → List W
  | _, [] => []
  | k, t :: r => if turnB n t = true then bads n (k + 1) r else .int k :: bads n (k + 1) r
theorem bads_ints {n : Nat} : ∀ (k : Nat) (xs : List W), ∃ is : List Int, bads n k xs = is.map .int
  | _, [] => ⟨[], rfl⟩
  | k, t :: r => by
    obtain ⟨is, e⟩ := bads_ints (n := n) (k + 1) r
    unfold bads
    split
    · exact ⟨is, e⟩
    · exact ⟨k :: is, by rw [e]; rfl⟩
theorem bads_first {n : Nat} : ∀ (k : Nat) (xs : List W), match firstBad n xs with
    | none => bads n k xs = []
    | some m => ∃ r, bads n k xs = .int ((k + m : Nat) : Int) :: r
  | _, [] => rfl
  | k, t :: r => by
    have ih := bads_first (n := n) (k + 1) r
    unfold firstBad bads
    by_cases e : turnB n t = true
    · rw [if_pos e, if_pos e]
      cases q : firstBad n r with
      | none => rw [q] at ih; exact ih
      | some m =>
        rw [q] at ih
        obtain ⟨r', e'⟩ := ih
        exact ⟨r', by rw [e', Nat.add_assoc, Nat.add_comm 1 m]⟩
    · rw [if_neg e, if_neg e]
      exact ⟨_, rfl⟩
theorem ne_nil {ws : List W} {ds : List PyData} (ed : datasW ws = some ds) : neW h (.lst ws) (.lst []) = some (.bl (!decide (ws = []))) := by
  have e1 : dataH h (.lst ws) = some (.list ds) := by
    show dataW (.lst ws) = _
    unfold dataW
    rw [ed]
    rfl
  unfold neW
  rw [e1]
  show (if min (PyData.list ds).depth (PyData.list []).depth ≤ deepN then some (W.bl (!PyData.eqv (.list ds) (.list []))) else none) = _
  rw [if_pos (Nat.le_trans (Nat.min_le_right _ _) (by decide))]
  cases ws with
  | nil => cases ed; rfl
  | cons w ws =>
    unfold datasW at ed
    split at ed
    · cases ed
      simp [PyData.eqv]
      try rfl
    · cases ed
/-- a run: a list of things that may be turns -/
def Run (xs : List W) : Prop := xs.length < 1000 ∧ ∀ t ∈ xs, Flat t
theorem lcL_bads {v r : W} {n : Nat} {oo : Option W} {G : AH → Prop} (hG : G h) (lv : lenW h [v] = some (.int n)) : ∀ (xs : List W) (k : Nat) (acc : List W), (∀ t ∈ xs, Flat t) → acc.length + xs.length ≤ sizeLine →
    lcL G (gT 2 (gsCons (gN 3) (gsCons (gN 4) (gsNil)))) (bNot (bVal (fFn CL.m_is_turn (lCons (fVar 0) (lCons (fVar 4) (lNil)))))) (fVar 3) [some v, some r, oo, none, none] (enumL k xs) acc h = .ok (acc ++ bads n k xs) h
  | [], k, acc, _, _ => by
    show lcL _ _ _ _ _ [] acc h = _
    unfold lcL bads
    rw [if_pos hG, List.append_nil]
  | t :: xs, k, acc, hx, hz => by
    have it := is_turn_ok lv (hx t List.mem_cons_self)
    have hz' : acc.length + (xs.length + 1) ≤ sizeLine := hz
    have gt : gT 2 (gsCons (gN 3) (gsCons (gN 4) (gsNil))) (.tup [.int (k : Nat), t]) [some v, some r, oo, none, none] h = .ok [some v, some r, oo, some (.int (k : Nat)), some t] h := rfl
    have tt : bNot (bVal (fFn CL.m_is_turn (lCons (fVar 0) (lCons (fVar 4) (lNil))))) [some v, some r, oo, some (.int (k : Nat)), some t] h = .ok (!turnB n t) h := by
      clear gt hx
      walk_at "ev"
    show lcL G _ _ _ _ (.tup [.int (k : Nat), t] :: enumL (k + 1) xs) acc h = _
    unfold lcL bads
    rw [if_pos hG, gt]
    dsimp only
    rw [tt, bind_ok]
    by_cases e : turnB n t = true
    · rw [if_pos e, e, if_neg (by decide)]
      exact lcL_bads (r := r) (oo := oo) hG lv xs (k + 1) acc (fun t ht => hx t (List.mem_cons_of_mem _ ht)) (by omega)
    · have e' : turnB n t = false := by simpa using e
      rw [if_neg e, e', if_pos (by decide)]
      show (if acc.length < sizeLine then lcL G _ _ _ _ (enumL (k + 1) xs) (acc ++ [.int (k : Nat)]) h else .bad) = _
      rw [if_pos (by omega), lcL_bads (r := r) (oo := oo) hG lv xs (k + 1) (acc ++ [W.int ((k : Nat) : Int)]) (fun t ht => hx t (List.mem_cons_of_mem _ ht)) (by rw [List.length_append]; show acc.length + 1 + _ ≤ _; omega), List.append_assoc]
      rfl
/-- what a run is, or no run -/
def RunW (w : W) (o : Option (List W)) : Prop := (leaf2 w = true ∧ o = none) ∨ ∃ xs, (w = .tup xs ∨ w = .lst xs) ∧ o = some xs ∧ Run xs
def fault (n : Nat) : Option (List W) → Option Nat
  | none => some 0
  | some xs => firstBad n xs
def optW : Option Nat → W
  | none => .non
  | some k => .int (k : Nat)
theorem enum_of {w : W} {xs : List W} (c : w = .tup xs ∨ w = .lst xs) {fa : EF} {env : Env} (e : fa env h = .ok w h) : ∃ G : AH → Prop, G h ∧ iEnumA (lCons fa lNil) env h = .ok ⟨enumL 0 xs, G⟩ h := by
  rcases c with c | c <;> subst c
  · refine ⟨fun _ => True, True.intro, ?_⟩
    unfold iEnumA
    rw [ev_cons, e]
    rfl
  · refine ⟨fun _ => True, True.intro, ?_⟩
    unfold iEnumA
    rw [ev_cons, e]
    rfl
theorem first_ok {v r : W} {n : Nat} {o : Option (List W)} (lv : lenW h [v] = some (.int n)) (rw_ : RunW r o) : CL.m_first_no_turn [v, r] h = .ok (optW (fault n o)) h := by
  have z2 : (2 : Nat) ≤ sizeLine := size_small (by decide)
  have z0 : (0 : Nat) ≤ sizeLine := Nat.zero_le _
  rcases rw_ with ⟨e, eo⟩ | ⟨xs, c, eo, hx⟩
  · subst eo
    obtain ⟨ty, e1, e2, e3⟩ := leaf2_ty (h := h) e
    unfold CL.m_first_no_turn CL.f_first_no_turn C.m_is_list C.f_is_list
    clear e lv
    walk_at "ev"
    rfl
  · subst eo
    have ty : tyW h r = some .list ∨ tyW h r = some .tuple := by rcases c with e | e <;> subst e; exact .inr rfl; exact .inl rfl
    obtain ⟨G, hG, e0⟩ := enum_of (h := h) c (fa := fVar 1) (env := [some v, some r, none, none, none]) rfl
    have e1 : fLC (iEnumA (lCons (fVar 1) (lNil))) (gT 2 (gsCons (gN 3) (gsCons (gN 4) (gsNil)))) (bNot (bVal (fFn CL.m_is_turn (lCons (fVar 0) (lCons (fVar 4) (lNil)))))) (fVar 3) [3, 4] [some v, some r, none, none, none] h = .ok (.lst (bads n 0 xs)) h := by
      have hl := hx.1
      have := lcL_bads (v := v) (r := r) (oo := none) hG lv xs 0 [] hx.2 (size_small (by simp; omega))
      rw [List.nil_append] at this
      exact ev_LC e0 this
    have bf := bads_first (n := n) 0 xs
    obtain ⟨is, ei⟩ := bads_ints (n := n) 0 xs
    have nn := ne_nil (h := h) (ws := bads n 0 xs) (ds := is.map PyData.int) (by rw [ei]; exact datas_ints is)
    clear e0 ei hx c lv hG
    cases q : firstBad n xs with
    | none =>
      rw [q] at bf
      have bf' : bads n 0 xs = [] := bf
      rw [bf'] at nn e1
      have nn' : neW h (.lst []) (.lst []) = some (.bl false) := nn
      have go : optW (fault n (some xs)) = .non := by show optW (firstBad n xs) = _; rw [q]; rfl
      rw [go]
      unfold CL.m_first_no_turn CL.f_first_no_turn C.m_is_list C.f_is_list
      clear bf bf' nn q go
      rcases ty with ty | ty <;> walk_at "ev"
    | some m =>
      rw [q] at bf
      obtain ⟨r', bf'⟩ := bf
      rw [bf'] at nn e1
      have nn' : neW h (.lst (.int ((0 + m : Nat) : Int) :: r')) (.lst []) = some (.bl true) := nn
      rw [Nat.zero_add] at nn' e1
      have go : optW (fault n (some xs)) = .int (m : Nat) := by show optW (firstBad n xs) = _; rw [q]; rfl
      rw [go]
      unfold CL.m_first_no_turn CL.f_first_no_turn C.m_is_list C.f_is_list
      clear bf' nn q go
      rcases ty with ty | ty <;> walk_at "ev"
/-- turns_fault -/
theorem turns_fault_ok {w r : W} {L : List Pn} {o : Option (List W)} (lw : LineW w L) (lo : LineOk L) (ro : RunW r o) : CL.m_turns_fault [w, r] h = .ok (optW (fault L.length o)) (h ++ [.lst (L.map pr)]) := by
  have a := as_line_ok (h := h) lw lo
  have hA := At (app_at (h := h) (o := .lst (L.map pr)) (l := []))
  have ln := hA.ln
  have f := first_ok (n := L.length) (by rw [ln, List.length_map]) ro
  unfold CL.m_turns_fault CL.f_turns_fault
  clear hA ln lw lo ro
  walk_at "ev"
def runTo (L : List Pn) (xs : List W) : List Pn := xs.foldl overT L
/-- behind_turns: as many lists more as there are turns -/
theorem behind_loop {v r : W} {n : Nat} {G : AH → Prop} (hG : ∀ h, G h) (hn : n < 1000) : ∀ (xs : List W) (L : List Pn) (m : Nat) (o : Option W) (h : AH), L.length = n → h[m]? = some (.lst (L.map pr)) → firstBad n xs = none →
    ∃ m' o' h', forL G (gN 3) CL.b_behind_turns_1 xs [some v, some r, some (.ref m), o] h = .nx [some v, some r, some (.ref m'), o'] h' ∧ (∃ l, h' = h ++ l) ∧ h'[m']? = some (.lst ((runTo L xs).map pr)) ∧ (m' = m ∧ xs = [] ∨ h.length ≤ m') ∧ h'.length = h.length + xs.length
  | [], L, m, o, h, _, hm, _ => ⟨m, o, h, forL_nil (hG h), ⟨[], by simp⟩, hm, .inl ⟨rfl, rfl⟩, by simp⟩
  | t :: xs, L, m, o, h, hL, hm, hf => by
    have et : turnB n t = true ∧ firstBad n xs = none := by
      unfold firstBad at hf
      split at hf
      · rename_i e
        exact ⟨e, by simpa using hf⟩
      · cases hf
    obtain ⟨ov, ol⟩ := turned_over_T (At hm).sl et.1 hL.symm (by omega)
    obtain ⟨m', o', h', e1, ⟨l, el⟩, e2, e3, e4⟩ := behind_loop hG hn xs (overT L t) h.length (some t) (h ++ [.lst ((overT L t).map pr)]) (ol.trans hL) app_at et.2
    refine ⟨m', o', h', ?_, ⟨.lst ((overT L t).map pr) :: l, by rw [el]; simp⟩, e2, .inr ?_, ?_⟩
    · refine (forL_cons (env1 := [some v, some r, some (.ref m), some t]) (hG h) rfl ?_).trans e1
      unfold CL.b_behind_turns_1
      clear hm e1 e2 et hf
      walk_at "ev"
    · rcases e3 with ⟨e3, _⟩ | e3
      · omega
      · simp only [List.length_append, List.length_cons, List.length_nil] at e3; omega
    · rw [e4]
      simp only [List.length_append, List.length_cons, List.length_nil]
      omega
theorem turns_behind_ok {w r : W} {L : List Pn} {o : Option (List W)} (lw : LineW w L) (lo : LineOk L) (ro : RunW r o) :
    match fault L.length o with
    | some k => CL.m_turns_behind [w, r] h = .exc "BadRun" [("index", .int (k : Nat))] (h ++ [.lst (L.map pr)])
    | none => ∃ m h', CL.m_turns_behind [w, r] h = .ok (.ref m) h' ∧ (∃ l, h' = h ++ l) ∧ h'[m]? = some (.lst ((runTo L (o.getD [])).map pr)) ∧ h.length ≤ m := by
  have a := as_line_ok (h := h) lw lo
  have hA := At (app_at (h := h) (o := .lst (L.map pr)) (l := []))
  have ln := hA.ln
  have f := first_ok (n := L.length) (by rw [ln, List.length_map]) ro
  have hl := lo.le
  cases q : fault L.length o with
  | some k =>
    rw [q] at f
    have f' : CL.m_first_no_turn [.ref h.length, r] (h ++ [.lst (L.map pr)]) = .ok (.int (k : Nat)) (h ++ [.lst (L.map pr)]) := f
    show CL.m_turns_behind [w, r] h = _
    unfold CL.m_turns_behind CL.f_turns_behind
    clear hA ln lw lo ro f hl q
    walk_at "ev"
  | none =>
    rw [q] at f
    rcases ro with ⟨_, eo⟩ | ⟨xs, c, eo, hx⟩
    · subst eo; cases q
    · subst eo
      obtain ⟨m', o', h', e1, ⟨l, el⟩, e2, e3, e4⟩ := behind_loop (v := .ref h.length) (r := r) (G := fun _ => True) (fun _ => True.intro) hl xs L h.length none (h ++ [.lst (L.map pr)]) rfl app_at q
      have it : itOf (h ++ [.lst (L.map pr)]) r = some ⟨xs, fun _ => True⟩ := by rcases c with e | e <;> subst e <;> rfl
      have ef : sFor (iVal (fVar 1)) (gN 3) (CL.b_behind_turns_1) [some (.ref h.length), some r, some (.ref h.length), none] (h ++ [.lst (L.map pr)]) = .nx [some (.ref h.length), some r, some (.ref m'), o'] h' := by
        refine (ev_For (it := ⟨xs, fun _ => True⟩) (h1 := h ++ [.lst (L.map pr)]) ?_).trans e1
        rw [ev_iVal, ev_var]
        show (Res.ok r _).bind _ = _
        rw [bind_ok, it, optI_some]
      have eb : CL.m_behind_turns [.ref h.length, r] (h ++ [.lst (L.map pr)]) = .ok (.ref m') h' := by
        unfold CL.m_behind_turns CL.f_behind_turns
        clear hA ln lw lo f hl q e1 e2 it a el
        walk_at "ev"
      have f' : CL.m_first_no_turn [.ref h.length, r] (h ++ [.lst (L.map pr)]) = .ok .non (h ++ [.lst (L.map pr)]) := f
      refine ⟨m', h', ?_, ⟨.lst (L.map pr) :: l, by rw [el]; simp⟩, e2, ?_⟩
      · unfold CL.m_turns_behind CL.f_turns_behind
        clear hA ln lw lo f hl q e1 e2 it el ef
        walk_at "ev"
      · rcases e3 with ⟨e3, _⟩ | e3
        · omega
        · simp only [List.length_append, List.length_cons, List.length_nil] at e3; omega
end
end PM
set_option Elab.async false
set_option linter.all false
set_option maxRecDepth 100000
set_option maxHeartbeats 1000000
namespace PM
open PySem hiding Env
open L2 PF
local macro_rules | `(tactic| walk_at "ev") => `(tactic| simp (config := { implicitDefEqProofs := false }) only [ev_var, ev_c, ev_op1, ev_op2, ev_if, ev_val, ev_bnot, ev_band, ev_bor, ev_and, ev_or, ev_nil, ev_cons, ev_tup, ev_lst, ev_lstR, ev_call, ev_fn, ev_fnK, ev_m0, ev_m, ev_chain, ev_next, ev_seq, ev_expr, ev_ret, ev_retN, ev_sif, ev_asg, ev_par, ev_gN, ev_gsub, ev_gsnil, ev_gscons, ev_gT, ev_slice, ev_pnone, ev_psome, ev_intOf, ev_raise, ev_dct0, ev_listR, ev_addR, ev_iVal, ev_noX_ok, ev_def, ev_end_rt, ev_end_nx, ev_end_exc, ev_start, bind_ok, bind_bad, bind_exc, bindS_ok, bindS_exc, bindS_bad, opt_some, opt_none, optB_some, truth_bl, add_int, sub_int, neg_int, mul_int, fdiv_int, mod_int, pow_int, lt_int, le_int, gt_int, ge_int, not_bl, int_int, abs_int, seqL_lst, seqA_lst, seqA_tup, dctOf_lst, dctOf_tup, dctOf_str, ix_lst, ix_tup, atI0, atI1, atI2, atI3, eq_int, List.getElem?_cons_zero, List.getElem?_cons_succ, List.set_cons_zero, List.set_cons_succ, List.map_cons, List.map_nil, List.cons_append, List.nil_append, List.append_nil, List.length_cons, List.length_nil, List.replicate_succ, List.replicate_zero, ite_true, ite_false, and_self, and_true, true_and, ne_eq, not_false_eq_true, decide_true, decide_false, Bool.false_eq_true, reduceIte, Bool.not_true, Bool.not_false, Int.reduceEq, Int.reduceNe, Int.reduceLE, Int.reduceLT, Int.reduceNeg, Int.reduceAdd, Int.reduceSub, Int.reduceMul, Int.reduceToNat, Int.reducePow, Nat.reduceAdd, Nat.reduceSub, Nat.reduceLeDiff, Nat.reduceEqDiff, not_true_eq_false, decide_eq_true_eq, decide_eq_false_iff_not, Int.not_lt, Int.not_le, isi1, isi2, isi3, ty_non, ty_bl, ty_int, ty_strW, ty_tup, ty_lst, ty_dct, tb_ll, tb_lt, tb_tl, tb_tt, tb_nl, tb_nt, tb_nd, tb_nb, tb_ni, tb_ns, tb_bl, tb_bt, tb_bd, tb_bb, tb_bi, tb_bs, tb_il, tb_it, tb_id, tb_ib, tb_ii, tb_is, tb_sl, tb_st, tb_sd, tb_sb, tb_si, tb_ss, tb_ld, tb_lb, tb_li, tb_ls, tb_td, tb_tb, tb_ti, tb_ts, tb_dl, tb_dt, tb_dd, tb_db, tb_di, tb_ds, ne_bl, eq_bl, eq_str, ne_str, ne_int, eq_non, isN_non, isN_bl, isN_int, isN_str, isN_tup, isN_lst, isN_ref, notN_non, notN_int, map_some, len_lst, len_tup, Bool.or_false, Bool.false_or, Bool.or_true, Bool.true_or, Bool.or_self, Bool.and_true, Bool.true_and, Bool.and_false, Bool.false_and, *])
section
variable {h : AH}
theorem law_over_ok {t : W} {L : List Pn} {i j : Nat} (et : itemsW t = some [.int i, .int j]) (h1 : i ≤ j) (h2 : j < L.length) (hl : L.length < 1000) :
    K30.m__law_over [.lst (L.map pr), t] h = .ok (.lst ((overL L i j).map pr)) h := by
  have st := items_seq (h := h) et
  have s1 := slice_of (h := h) (v := .lst (L.map pr)) rfl none (some (i : Int))
  have s2 := slice_of (h := h) (v := .lst (L.map pr)) rfl (some (i : Int)) (some ((j : Int) + 1))
  have s3 := slice_of (h := h) (v := .lst (L.map pr)) rfl (some ((j : Int) + 1)) none
  have ej : ((j : Int) + 1) = ((j + 1 : Nat) : Int) := by omega
  rw [cut_to (by rw [List.length_map]; omega), ← List.map_take] at s1
  rw [ej, cut_mid (by omega) (by rw [List.length_map]; omega), ← List.map_drop, ← List.map_take, ← ej] at s2
  rw [ej, cut_from (by rw [List.length_map]; omega), ← List.map_drop, ← ej] at s3
  have z2 : (2 : Nat) ≤ sizeLine := size_small (by decide)
  have ga : gAny 2 (gsCons (gN 2) (gsCons (gN 3) (gsNil))) t [some (.lst (L.map pr)), some t, none, none, none, none] h = .ok [some (.lst (L.map pr)), some t, some (.int i), some (.int j), none, none] h := by
    rw [ev_gAny, st]
    rfl
  have f2 : F2 (fun x y => ∃ p, x = pr p ∧ y = pr (ng p)) (((L.drop i).take (j + 1 - i)).map pr).reverse ((((L.drop i).take (j + 1 - i)).reverse.map ng).map pr) := by
    rw [← List.map_reverse, List.map_map]
    exact F2.map2 (F2.refl fun p _ => ⟨p, rfl, rfl⟩)
  have rv := rev_of (h := h) (ws := ((L.drop i).take (j + 1 - i)).map pr)
  have e0 : iVal (fOp1 revW (fSlice (fVar 0) (pSome (fVar 2)) (pSome (fOp2 addW (fVar 3) (fC (.int 1)))))) [some (.lst (L.map pr)), some t, some (.int i), some (.int j), none, none] h = .ok ⟨(((L.drop i).take (j + 1 - i)).map pr).reverse, fun _ => True⟩ h := by
    clear f2 s1 s3 ej et st ga
    walk_at "ev"
    rfl
  have e : fLC (iVal (fOp1 revW (fSlice (fVar 0) (pSome (fVar 2)) (pSome (fOp2 addW (fVar 3) (fC (.int 1))))))) (gT 2 (gsCons (gN 4) (gsCons (gN 5) (gsNil)))) (tYesW) (fTup (lCons (fVar 4) (lCons (fOp2 subW (fC (.int 0)) (fVar 5)) (lNil)))) [4, 5] [some (.lst (L.map pr)), some t, some (.int i), some (.int j), none, none] h = .ok (.lst ((((L.drop i).take (j + 1 - i)).reverse.map ng).map pr)) h := by
    refine ev_LC e0 ((lcL_F2 True.intro (fun a b r => ?_) [] f2 (size_small ?_)).trans (by rw [List.nil_append]))
    · obtain ⟨p, ea, eb⟩ := r
      subst ea eb
      refine ⟨[some (.lst (L.map pr)), some t, some (.int i), some (.int j), some (.str p.1), some (.int p.2)], rfl, ?_⟩
      have e00 : 0 - p.2 = -p.2 := Int.zero_sub _
      clear rv e0 f2 s1 s2 s3 ej et st ga
      unfold pr ng
      walk_at "ev"
    · simp only [List.length_nil, List.length_reverse, List.length_map, List.length_take, List.length_drop]
      omega
  have ad := add_lst (h := h) (a := (L.take i).map pr) (b := (((L.drop i).take (j + 1 - i)).reverse.map ng).map pr)
  rw [if_pos (size_small (by simp only [List.length_map, List.length_take, List.length_reverse, List.length_drop]; omega)), ← List.map_append] at ad
  have ad2 := add_lst (h := h) (a := (L.take i ++ ((L.drop i).take (j + 1 - i)).reverse.map ng).map pr) (b := (L.drop (j + 1)).map pr)
  rw [if_pos (size_small (by simp only [List.length_map, List.length_append, List.length_take, List.length_reverse, List.length_drop]; omega)), ← List.map_append] at ad2
  have eo : L.take i ++ ((L.drop i).take (j + 1 - i)).reverse.map ng ++ L.drop (j + 1) = overL L i j := rfl
  rw [eo] at ad2
  unfold K30.m__law_over K30.f__law_over
  clear eo ej st et h1 h2 hl e0 f2 rv s2
  walk_at "ev"
theorem law_over_T {t : W} {L : List Pn} {n : Nat} (et : turnB n t = true) (hn : n = L.length) (hl : L.length < 1000) :
    K30.m__law_over [.lst (L.map pr), t] h = .ok (.lst ((overT L t).map pr)) h ∧ (overT L t).length = L.length := by
  obtain ⟨i, j, e1, e2, e3, e4⟩ := turnB_two et
  subst hn
  unfold overT
  rw [e4]
  exact ⟨law_over_ok e1 e2 e3 hl, over_len e2 e3⟩
theorem law_is_turn_ok {vs : List W} {t : W} (ft : Flat t) : K30.m__law_is_turn [.lst vs, t] h = .ok (.bl (turnB vs.length t)) h := by
  have z2 : (2 : Nat) ≤ sizeLine := size_small (by decide)
  rcases ft with e | ⟨ws, cw, hl, hx⟩
  · have hi := leaf2_items e
    obtain ⟨ty, e1, e2, e3⟩ := leaf2_ty (h := h) e
    unfold K30.m__law_is_turn K30.f__law_is_turn turnB
    clear e
    walk_at "ev"
  · have ty : tyW h t = some .list ∨ tyW h t = some .tuple := by rcases cw with e | e <;> subst e; exact .inr rfl; exact .inl rfl
    have ln : lenW h [t] = some (.int ws.length) := by rcases cw with e | e <;> subst e <;> rfl
    have hi : itemsW t = some ws := by rcases cw with e | e <;> subst e <;> rfl
    by_cases h2 : ws.length = 2
    · match ws, h2 with
      | [a, b], _ =>
        have it : itOf h t = some ⟨[a, b], fun _ => True⟩ := by rcases cw with e | e <;> subst e <;> rfl
        have e0 : iVal (fVar 1) [some (.lst vs), some t, none] h = .ok ⟨[a, b], fun _ => True⟩ h := by
          rw [ev_iVal, ev_var]
          show (Res.ok t h).bind _ = _
          rw [bind_ok, it, optI_some]
        have e1 : fLC (iVal (fVar 1)) (gN 2) (tYesW) (fAnd (fCall isiW (lCons (fVar 2) (lCons (fC (.typ .int)) (lNil)))) (fAnd (fOp1 notW (fCall isiW (lCons (fVar 2) (lCons (fC (.typ .bool)) (lNil))))) (fChain leI ltI (fC (.int 0)) (fVar 2) (fCall lenW (lCons (fVar 0) (lNil)))))) [2] [some (.lst vs), some t, none] h = .ok (.lst [.bl (idxB vs.length a), .bl (idxB vs.length b)]) h := by
          have e2 : lcL (fun _ => True) (gN 2) (tYesW) (fAnd (fCall isiW (lCons (fVar 2) (lCons (fC (.typ .int)) (lNil)))) (fAnd (fOp1 notW (fCall isiW (lCons (fVar 2) (lCons (fC (.typ .bool)) (lNil))))) (fChain leI ltI (fC (.int 0)) (fVar 2) (fCall lenW (lCons (fVar 0) (lNil)))))) [some (.lst vs), some t, none] [a, b] [] h = .ok ([] ++ [a, b].map fun x => .bl (idxB vs.length x)) h := by
            refine lcL_map True.intro (size_small (by show 0 + 2 ≤ _; decide)) fun x hx2 => ⟨[some (.lst vs), some t, some x], rfl, ?_⟩
            have hx3 := hx x hx2
            clear hx e0 it ln hi cw ty hl
            cases x with
            | int i =>
              unfold idxB
              by_cases q1 : 0 ≤ i <;> by_cases q2 : i < (vs.length : Nat) <;> walk_at "ev"
              all_goals first | rfl | (simp [q1, q2]; done) | omega
            | _ => first | (cases hx3; done) | (clear hx3; walk_at "ev"; rfl)
          exact ev_LC e0 e2
        have a2 := all2 (h := h) (a := idxB vs.length a) (b := idxB vs.length b)
        have i0 : ixA h t (.int 0) = some a := by rcases cw with e | e <;> subst e <;> rfl
        have i1 : ixA h t (.int 1) = some b := by rcases cw with e | e <;> subst e <;> rfl
        have ln2 : lenW h [t] = some (.int 2) := ln
        have key : idxB vs.length a = true → idxB vs.length b = true → leI h a b = some (.bl (leB a b)) := by
          intro q1 q2
          cases a <;> first | (cases q1; done) | skip
          cases b <;> first | (cases q2; done) | rfl
        have et : turnB vs.length t = (idxB vs.length a && idxB vs.length b && leB a b) := by unfold turnB; rw [hi]; rfl
        unfold K30.m__law_is_turn K30.f__law_is_turn
        rw [et]
        clear e0 it ln hi et cw hx hl
        cases q1 : idxB vs.length a <;> cases q2 : idxB vs.length b
        all_goals (rw [q1, q2] at a2 e1)
        all_goals (try have k := key q1 q2)
        all_goals clear key
        all_goals (rcases ty with ty | ty <;> walk_at "ev")
        all_goals (try rfl)
    · have et : turnB vs.length t = false := by
        unfold turnB; rw [hi]
        match ws, h2 with
        | [], _ => rfl
        | [_], _ => rfl
        | _ :: _ :: _ :: _, _ => rfl
        | [_, _], h2 => exact absurd rfl h2
      have e2 : ((ws.length : Nat) : Int) ≠ 2 := by omega
      have ne := ne_int (h := h) (i := (ws.length : Nat)) (j := 2)
      rw [decide_eq_false e2] at ne
      unfold K30.m__law_is_turn K30.f__law_is_turn
      rw [et]
      clear hi et cw hx hl h2 e2
      rcases ty with ty | ty <;> walk_at "ev"
/-- the loop of _law_turn_run -/
theorem run_loop {r : W} {L0 : List Pn} {G : AH → Prop} (hG : G h) (hl : L0.length < 1000) : ∀ (xs : List W) (k : Nat) (L : List Pn) (o3 o4 : Option W), (∀ t ∈ xs, Flat t) → L.length = L0.length →
    match firstBad L0.length xs with
    | some m => ∃ w', forL G (gT 2 (gsCons (gN 3) (gsCons (gN 4) (gsNil)))) K30.b__law_turn_run_1 (enumL k xs) [some (.lst (L0.map pr)), some r, some (.lst (L.map pr)), o3, o4] h = .rt (.tup [.int ((k + m : Nat) : Int), w']) h
    | none => ∃ o3' o4', forL G (gT 2 (gsCons (gN 3) (gsCons (gN 4) (gsNil)))) K30.b__law_turn_run_1 (enumL k xs) [some (.lst (L0.map pr)), some r, some (.lst (L.map pr)), o3, o4] h = .nx [some (.lst (L0.map pr)), some r, some (.lst ((runTo L xs).map pr)), o3', o4'] h
  | [], k, L, o3, o4, _, _ => ⟨o3, o4, forL_nil hG⟩
  | t :: xs, k, L, o3, o4, hx, hL => by
    have z2 : (2 : Nat) ≤ sizeLine := size_small (by decide)
    have it := law_is_turn_ok (h := h) (vs := L0.map pr) (hx t List.mem_cons_self)
    rw [List.length_map] at it
    have gt : gT 2 (gsCons (gN 3) (gsCons (gN 4) (gsNil))) (.tup [.int (k : Nat), t]) [some (.lst (L0.map pr)), some r, some (.lst (L.map pr)), o3, o4] h = .ok [some (.lst (L0.map pr)), some r, some (.lst (L.map pr)), some (.int (k : Nat)), some t] h := rfl
    unfold firstBad
    by_cases e : turnB L0.length t = true
    · rw [if_pos e]
      obtain ⟨ov, ol⟩ := law_over_T (h := h) e hL.symm (by omega)
      rw [e] at it
      have eb : K30.b__law_turn_run_1 [some (.lst (L0.map pr)), some r, some (.lst (L.map pr)), some (.int (k : Nat)), some t] h = .nx [some (.lst (L0.map pr)), some r, some (.lst ((overT L t).map pr)), some (.int (k : Nat)), some t] h := by
        unfold K30.b__law_turn_run_1
        clear gt hx ol e
        walk_at "ev"
      have ih := run_loop (r := r) hG hl xs (k + 1) (overT L t) (some (.int (k : Nat))) (some t) (fun t ht => hx t (List.mem_cons_of_mem _ ht)) (ol.trans hL)
      have fc := forL_cons (G := G) (g := gT 2 (gsCons (gN 3) (gsCons (gN 4) (gsNil)))) (body := K30.b__law_turn_run_1) (ws := enumL (k + 1) xs) (env2 := [some (.lst (L0.map pr)), some r, some (.lst ((overT L t).map pr)), some (.int (k : Nat)), some t]) hG gt eb
      cases q : firstBad L0.length xs with
      | some m =>
        rw [q] at ih
        obtain ⟨w', e'⟩ := ih
        refine ⟨w', (fc.trans e').trans ?_⟩
        rw [Nat.add_assoc, Nat.add_comm 1 m]
      | none =>
        rw [q] at ih
        obtain ⟨o3', o4', e'⟩ := ih
        exact ⟨o3', o4', fc.trans e'⟩
    · rw [if_neg e]
      have e' : turnB L0.length t = false := by simpa using e
      rw [e'] at it
      refine ⟨.lst (L.map pr), ?_⟩
      show forL G _ _ (.tup [.int (k : Nat), t] :: enumL (k + 1) xs) _ h = _
      unfold forL
      rw [if_pos hG, gt]
      dsimp only
      have eb : K30.b__law_turn_run_1 [some (.lst (L0.map pr)), some r, some (.lst (L.map pr)), some (.int (k : Nat)), some t] h = .rt (.tup [.int (k : Nat), .lst (L.map pr)]) h := by
        unfold K30.b__law_turn_run_1
        clear gt hx e e'
        walk_at "ev"
      rw [eb]
      rfl
/-- what is asked of a thing that may be a run, perhaps on the heap -/
def RunH (h : AH) (w : W) (o : Option (List W)) : Prop := (leaf2 w = true ∧ o = none) ∨ ∃ xs, o = some xs ∧ Run xs ∧ (tyW h w = some .list ∨ tyW h w = some .tuple) ∧ ∃ G : AH → Prop, G h ∧ ∀ (fa : EF) (env : Env), fa env h = .ok w h → iEnumA (lCons fa lNil) env h = .ok ⟨enumL 0 xs, G⟩ h
theorem RunW.runH {w : W} {o : Option (List W)} (r : RunW w o) : RunH h w o := by
  rcases r with r | ⟨xs, c, eo, hx⟩
  · exact .inl r
  · refine .inr ⟨xs, eo, hx, by rcases c with e | e <;> subst e; exact .inr rfl; exact .inl rfl, fun _ => True, True.intro, fun fa env e => ?_⟩
    rcases c with c | c <;> subst c <;> (unfold iEnumA; rw [ev_cons, e]; rfl)
theorem runH_ref {n : Nat} {xs : List W} (e : h[n]? = some (.lst xs)) (hx : Run xs) : RunH h (.ref n) (some xs) := by
  refine .inr ⟨xs, rfl, hx, .inl (At e).ty, gdL (.ref n) xs, e, fun fa env e2 => ?_⟩
  have := (At e).sl
  unfold iEnumA
  rw [ev_cons, e2, bind_ok, ev_nil, bind_ok]
  show (match seqT (.ref n) with | some l => Res.ok (⟨enumL 0 l, fun _ => True⟩ : ItR) h | none => match seqL h (.ref n) with | some l => .ok ⟨enumL 0 l, gdL (.ref n) l⟩ h | none => .bad) = _
  show (match seqL h (.ref n) with | some l => Res.ok (⟨enumL 0 l, gdL (.ref n) l⟩ : ItR) h | none => .bad) = _
  rw [this]
theorem law_turn_run_ok {r : W} {L : List Pn} {o : Option (List W)} (hl : L.length < 1000) (ro : RunH h r o) : match fault L.length o with
    | some k => ∃ w', K30.m__law_turn_run [.lst (L.map pr), r] h = .ok (.tup [.int (k : Nat), w']) h
    | none => K30.m__law_turn_run [.lst (L.map pr), r] h = .ok (.tup [.non, .lst ((runTo L (o.getD [])).map pr)]) h := by
  have z2 : (2 : Nat) ≤ sizeLine := size_small (by decide)
  have li : listW h [.lst (L.map pr)] = some (.lst (L.map pr)) := rfl
  rcases ro with ⟨e, eo⟩ | ⟨xs, eo, hx, ty, G, hG, en⟩
  · subst eo
    obtain ⟨ty, e1, e2, e3⟩ := leaf2_ty (h := h) e
    refine ⟨.lst (L.map pr), ?_⟩
    unfold K30.m__law_turn_run K30.f__law_turn_run
    clear e hl
    walk_at "ev"
    rfl
  · subst eo
    have e0 := en (fVar 1) [some (.lst (L.map pr)), some r, some (.lst (L.map pr)), none, none] rfl
    have lo := run_loop (r := r) (L0 := L) hG hl xs 0 L none none hx.2 rfl
    show match firstBad L.length xs with
      | some k => ∃ w', K30.m__law_turn_run [.lst (L.map pr), r] h = .ok (.tup [.int (k : Nat), w']) h
      | none => K30.m__law_turn_run [.lst (L.map pr), r] h = .ok (.tup [.non, .lst ((runTo L xs).map pr)]) h
    cases q : firstBad L.length xs with
    | some m =>
      rw [q] at lo
      obtain ⟨w', e1⟩ := lo
      rw [Nat.zero_add] at e1
      have ef := (ev_For e0).trans e1
      refine ⟨w', ?_⟩
      unfold K30.m__law_turn_run K30.f__law_turn_run
      clear e0 e1 q hx hl en hG
      rcases ty with ty | ty <;> walk_at "ev"
    | none =>
      rw [q] at lo
      obtain ⟨o3, o4, e1⟩ := lo
      have ef := (ev_For e0).trans e1
      show K30.m__law_turn_run [.lst (L.map pr), r] h = .ok (.tup [.non, .lst ((runTo L xs).map pr)]) h
      unfold K30.m__law_turn_run K30.f__law_turn_run
      clear e0 e1 q hx hl en hG
      rcases ty with ty | ty <;> walk_at "ev"

/-! ### _law_met -/
theorem met_told {fb : EF} {env : Env} {h' : AH} {w : W} (e : fb env h = .ok w h') : fMet K30.mf__law_met fb env h = .ok (.tup [.str "told", w]) h' := by
  unfold fMet K30.mf__law_met metF K30.fe__law_met
  have z2 : (2 : Nat) ≤ sizeLine := size_small (by decide)
  simp only [ev_tup, ev_cons, ev_c, ev_nil, bind_ok, e, List.length_cons, List.length_nil, if_pos z2]
theorem met_turn {fb : EF} {env : Env} {h' : AH} {w : W} (e : fb env h = .exc "BadTurn" [("turn", w)] h') : fMet K30.mf__law_met fb env h = .ok (.tup [.str "turn", w]) h' := by
  have z2 : (2 : Nat) ≤ sizeLine := size_small (by decide)
  have e1 : fTup (lCons (fC (.str "told")) (lCons (fun env h => fb [none] h) lNil)) = fTup (lCons (fC (.str "told")) (lCons (fun env h => fb [none] h) lNil)) := rfl
  have e2 : K30.fe__law_met (fun h' => fb env h') (env0 2) h = .exc "BadTurn" [("turn", w)] h' := by
    unfold K30.fe__law_met
    simp only [ev_tup, ev_cons, ev_c, ev_nil, bind_ok, e, bind_exc]
  have e3 : endS (pick xcNo K30.xl__law_met "BadTurn" [("turn", w)] (env0 2) h') = .ok (.tup [.str "turn", w]) h' := by
    unfold K30.xl__law_met
    have p1 : K30.pk__law_met_BadTurn "BadTurn" = some true := by decide
    unfold pick
    dsimp only
    rw [p1]
    dsimp only
    unfold XC.run
    dsimp only
    have e4 : K30.fc__law_met_BadTurn [("turn", w)] = sRet (fTup (lCons (fC (.str "turn")) (lCons (fC w) lNil))) := rfl
    rw [e4]
    simp only [ev_ret, ev_tup, ev_cons, ev_c, ev_nil, bind_ok, List.length_cons, List.length_nil, if_pos z2, bindS_ok, env0, List.length_replicate, Nat.lt_add_one, if_true]
    rfl
  unfold fMet K30.mf__law_met metF
  rw [e2]
  dsimp only
  rw [e3]
theorem met_run {fb : EF} {env : Env} {h' : AH} {w : W} (e : fb env h = .exc "BadRun" [("index", w)] h') : fMet K30.mf__law_met fb env h = .ok (.tup [.str "run", w]) h' := by
  have z2 : (2 : Nat) ≤ sizeLine := size_small (by decide)
  have e2 : K30.fe__law_met (fun h' => fb env h') (env0 2) h = .exc "BadRun" [("index", w)] h' := by
    unfold K30.fe__law_met
    simp only [ev_tup, ev_cons, ev_c, ev_nil, bind_ok, e, bind_exc]
  have e3 : endS (pick xcNo K30.xl__law_met "BadRun" [("index", w)] (env0 2) h') = .ok (.tup [.str "run", w]) h' := by
    unfold K30.xl__law_met
    have p1 : K30.pk__law_met_BadTurn "BadRun" = some false := by decide
    have p2 : K30.pk__law_met_BadRun "BadRun" = some true := by decide
    unfold pick
    dsimp only
    rw [p1]
    dsimp only
    unfold pick
    dsimp only
    rw [p2]
    dsimp only
    unfold XC.run
    dsimp only
    have e4 : K30.fc__law_met_BadRun [("index", w)] = sRet (fTup (lCons (fC (.str "run")) (lCons (fC w) lNil))) := rfl
    rw [e4]
    simp only [ev_ret, ev_tup, ev_cons, ev_c, ev_nil, bind_ok, List.length_cons, List.length_nil, if_pos z2, bindS_ok, env0, List.length_replicate, Nat.lt_add_one, if_true]
    rfl
  unfold fMet K30.mf__law_met metF
  rw [e2]
  dsimp only
  rw [e3]
end
end PM
set_option Elab.async false
set_option linter.all false
set_option maxRecDepth 100000
set_option maxHeartbeats 1000000
namespace PM
open PySem hiding Env
open L2 PF
local macro_rules | `(tactic| walk_at "ev") => `(tactic| simp (config := { implicitDefEqProofs := false }) only [ev_var, ev_c, ev_op1, ev_op2, ev_if, ev_val, ev_bnot, ev_band, ev_bor, ev_and, ev_or, ev_nil, ev_cons, ev_tup, ev_lst, ev_lstR, ev_call, ev_fn, ev_fnK, ev_m0, ev_m, ev_chain, ev_next, ev_seq, ev_expr, ev_ret, ev_retN, ev_sif, ev_asg, ev_par, ev_gN, ev_gsub, ev_gsnil, ev_gscons, ev_gT, ev_slice, ev_pnone, ev_psome, ev_intOf, ev_raise, ev_dct0, ev_listR, ev_addR, ev_iVal, ev_noX_ok, ev_def, ev_end_rt, ev_end_nx, ev_end_exc, ev_start, bind_ok, bind_bad, bind_exc, bindS_ok, bindS_exc, bindS_bad, opt_some, opt_none, optB_some, truth_bl, add_int, sub_int, neg_int, mul_int, fdiv_int, mod_int, pow_int, lt_int, le_int, gt_int, ge_int, not_bl, int_int, abs_int, seqL_lst, seqA_lst, seqA_tup, dctOf_lst, dctOf_tup, dctOf_str, ix_lst, ix_tup, atI0, atI1, atI2, atI3, eq_int, List.getElem?_cons_zero, List.getElem?_cons_succ, List.set_cons_zero, List.set_cons_succ, List.map_cons, List.map_nil, List.cons_append, List.nil_append, List.append_nil, List.length_cons, List.length_nil, List.replicate_succ, List.replicate_zero, ite_true, ite_false, and_self, and_true, true_and, ne_eq, not_false_eq_true, decide_true, decide_false, Bool.false_eq_true, reduceIte, Bool.not_true, Bool.not_false, Int.reduceEq, Int.reduceNe, Int.reduceLE, Int.reduceLT, Int.reduceNeg, Int.reduceAdd, Int.reduceSub, Int.reduceMul, Int.reduceToNat, Int.reducePow, Nat.reduceAdd, Nat.reduceSub, Nat.reduceLeDiff, Nat.reduceEqDiff, not_true_eq_false, decide_eq_true_eq, decide_eq_false_iff_not, Int.not_lt, Int.not_le, isi1, isi2, isi3, ty_non, ty_bl, ty_int, ty_strW, ty_tup, ty_lst, ty_dct, tb_ll, tb_lt, tb_tl, tb_tt, tb_nl, tb_nt, tb_nd, tb_nb, tb_ni, tb_ns, tb_bl, tb_bt, tb_bd, tb_bb, tb_bi, tb_bs, tb_il, tb_it, tb_id, tb_ib, tb_ii, tb_is, tb_sl, tb_st, tb_sd, tb_sb, tb_si, tb_ss, tb_ld, tb_lb, tb_li, tb_ls, tb_td, tb_tb, tb_ti, tb_ts, tb_dl, tb_dt, tb_dd, tb_db, tb_di, tb_ds, ne_bl, eq_bl, eq_str, ne_str, ne_int, eq_non, isN_non, isN_bl, isN_int, isN_str, isN_tup, isN_lst, isN_ref, notN_non, notN_int, map_some, len_lst, len_tup, Bool.or_false, Bool.false_or, Bool.or_true, Bool.true_or, Bool.or_self, Bool.and_true, Bool.true_and, Bool.and_false, Bool.false_and, *])
/-! ### things drawn -/
structure OddT (t : W) : Prop where
  flat : Flat t
  sw : Sw 1 t
  dr : ∀ h, Dr h 1 t t
theorem OddT.leaf {t : W} (e : leafB t = true) (s : Sw0 t) : OddT t := ⟨.inl (leaf2_of e), .inl s, fun h => .leaf e 1⟩
theorem OddT.tup {ws : List W} (l : ws.length ≤ 30) (h : ∀ x ∈ ws, leafB x = true ∧ Sw0 x) : OddT (.tup ws) :=
  ⟨.inr ⟨ws, .inl rfl, by omega, fun x hx => leaf2_of (h x hx).1⟩, .inr ⟨ws, .inl rfl, l, fun x hx => (h x hx).2⟩, fun hh => .tup (by omega) (F2.refl fun x hx => Dr.leaf (h x hx).1 0)⟩
theorem OddT.t1 {a : W} (ha : leafB a = true ∧ Sw0 a) : OddT (.tup [a]) := .tup (by simp) fun x hx => by
  rw [List.mem_singleton] at hx
  subst hx; exact ha
theorem OddT.t2 {a b : W} (ha : leafB a = true ∧ Sw0 a) (hb : leafB b = true ∧ Sw0 b) : OddT (.tup [a, b]) := .tup (by simp) fun x hx => by
  rcases List.mem_cons.mp hx with e | hx
  · subst e; exact ha
  rw [List.mem_singleton] at hx
  subst hx; exact hb
theorem OddT.t3 {a b c : W} (ha : leafB a = true ∧ Sw0 a) (hb : leafB b = true ∧ Sw0 b) (hc : leafB c = true ∧ Sw0 c) : OddT (.tup [a, b, c]) := .tup (by simp) fun x hx => by
  rcases List.mem_cons.mp hx with e | hx
  · subst e; exact ha
  rcases List.mem_cons.mp hx with e | hx
  · subst e; exact hb
  rw [List.mem_singleton] at hx
  subst hx; exact hc
theorem lf_int {i : Int} (h0 : -1 ≤ i) (h1 : i ≤ 60) : leafB (.int i) = true ∧ Sw0 (.int i) := ⟨rfl, h0, h1⟩
section
variable {s s0 c : Nat} {h : AH}
theorem odd_ok {ws : List W} (S : Stm s s0 c h) (hl : ws.length ≤ 30) (hc : c + 10 < 1099511627776) : ∃ t h', K30.m__law_odd_turn [.ref s, .lst ws] h = .ok t h' ∧ OddT t ∧ Stm s s0 (c + 3) h' ∧ Sm s s0 h h' := by
  obtain ⟨d1, h1, e1, a1, b1, S1, sm1⟩ := draw_ok S (many := (ws.length : Int) + 1) (by omega) (by omega) (by omega)
  obtain ⟨d2, h2, e2, a2, b2, S2, sm2⟩ := draw_ok S1 (many := (ws.length : Int) + 1) (by omega) (by omega) (by omega)
  obtain ⟨t, h3, ht, e3, S3, sm3⟩ := pick_ok S2 (ws := [.tup [.int d1, .int d2], .tup [.int d2, .int d1], .tup [.int (-1), .int d1], .tup [.int d1], .non, .int 5, .str "01", .tup [.int d1, .int d2, .int d1], .tup [.bl true, .int d1], .tup [.non, .int d1]]) (by simp) (by simp) (by omega)
  refine ⟨t, h3, ?_, ?_, S3, (sm1.trans sm2).trans sm3⟩
  · have l0 := len_lst (h := h) (ws := ws)
    have l1 := len_lst (h := h1) (ws := ws)
    have z1 : (1 : Nat) ≤ sizeLine := size_small (by decide)
    have z2 : (2 : Nat) ≤ sizeLine := size_small (by decide)
    have z3 : (3 : Nat) ≤ sizeLine := size_small (by decide)
    have z10 : (10 : Nat) ≤ sizeLine := size_small (by decide)
    unfold K30.m__law_odd_turn K30.f__law_odd_turn
    clear S S1 S2 S3 sm1 sm2 sm3 ht hl
    walk_at "ev"
  · have i1 := lf_int (i := d1) (by omega) (by omega)
    have i2 := lf_int (i := d2) (by omega) (by omega)
    simp only [List.mem_cons, List.not_mem_nil, or_false] at ht
    rcases ht with e | e | e | e | e | e | e | e | e | e <;> subst e
    · exact .t2 i1 i2
    · exact .t2 i2 i1
    · exact .t2 (lf_int (by decide) (by decide)) i1
    · exact .t1 i1
    · exact .leaf rfl True.intro
    · exact .leaf rfl ⟨by decide, by decide⟩
    · exact .leaf rfl ⟨by decide, by decide⟩
    · exact .t3 i1 i2 i1
    · exact .t2 ⟨rfl, True.intro⟩ i1
    · exact .t2 ⟨rfl, True.intro⟩ i1
/-- _law_line -/
theorem line_ok {things : Nat} {odds : Int} (S : Stm s s0 c h) (ht : things ≤ 20) (hc : c + 6000 < 1099511627776) :
    ∃ L h', K30.m__law_line [.ref s, .int (things : Int), .int odds] h = .ok (.lst (L.map pr)) h' ∧ LineOk L ∧ L.length ≤ 20 ∧ Stm s s0 (c + 200) h' ∧ Gr s s0 h h' := by
  obtain ⟨d, h1, e1, d0, d1, S1, sm1⟩ := draw_ok S (many := (things : Int) + 1) (by omega) (by omega) (by omega)
  obtain ⟨many, em, hm⟩ := int_of (n := things + 1) d0 (by omega)
  subst em
  obtain ⟨Ls, h2, e2, at2, ll, nd, nm, S2, gr2, hl2⟩ := names_ok S1 (many := many) (by omega) (by omega)
  obtain ⟨q1, q2⟩ := S1.lt
  have inv := lcL_inv (G := gdL (.ref h1.length) (Ls.map .str)) (g := gN 4) (tt := tYesW) (te := fTup (lCons (fVar 4) (lCons (fIf (bVal (fOp2 ltI (fFn K30.m__law_draw (lCons (fVar 0) (lCons (fC (.int 10)) (lNil)))) (fVar 2))) (fOp1 negW (fC (.int 1))) (fC (.int 1))) (lNil)))) (env := [some (.ref s), some (.int (things : Int)), some (.int odds), some (.ref h1.length), none])
    (fun p acc h' => ∃ Lp : List Pn, acc = Lp.map pr ∧ Lp.map (·.1) = Ls.take p.length ∧ (∀ q ∈ Lp, q.2 = 1 ∨ q.2 = -1) ∧ Stm s s0 (c + 1 + 5 * many + p.length) h' ∧ Gr s s0 h2 h') (Ls.map .str) [] [] h2
    ⟨[], rfl, rfl, by simp, S2.mono (by omega), .refl⟩ (fun p a h' i => by
      obtain ⟨_, _, _, _, _, g⟩ := i
      exact g.get at2 (by omega) (by omega)) (size_small (by simp; omega)) (fun p w r acc h' ew i => by
      obtain ⟨Lp, ea, en, es, Sp, gp⟩ := i
      subst ea
      have hw : (Ls.map W.str)[p.length]? = some w := by
        have ew' : Ls.map W.str = p ++ w :: r := ew
        rw [ew']
        simp
      rw [List.getElem?_map] at hw
      obtain ⟨x, hx, ex⟩ := Option.map_eq_some_iff.mp hw
      have hp := (List.getElem?_eq_some_iff.mp hx).1
      subst ex
      obtain ⟨d2, h3, e3, d20, d21, S3, sm3⟩ := draw_ok Sp (many := 10) (by decide) (by decide) (by omega)
      refine ⟨[some (.ref s), some (.int (things : Int)), some (.int odds), some (.ref h1.length), some (.str x)], h', rfl, .inl ⟨pr (x, if d2 < odds then -1 else 1), h', h3, rfl, ?_, Lp ++ [(x, if d2 < odds then -1 else 1)], by simp, ?_, ?_, ?_, gp.trans sm3.gr⟩⟩
      · have z2 : (2 : Nat) ≤ sizeLine := size_small (by decide)
        clear S S1 S2 S3 Sp sm3 e1 e2 at2 gp hx hw ew
        unfold pr
        by_cases hd : d2 < odds <;> walk_at "ev"
      · show _ = List.take (p ++ [W.str x]).length Ls
        rw [List.map_append, en, List.length_append, show [W.str x].length = 1 from rfl, List.take_add_one, hx]
        rfl
      · intro q hq
        rcases List.mem_append.mp hq with hq | hq
        · exact es q hq
        · rw [List.mem_singleton] at hq
          subst hq
          show (if d2 < odds then (-1 : Int) else 1) = 1 ∨ (if d2 < odds then (-1 : Int) else 1) = -1
          split <;> simp
      · refine S3.mono ?_
        simp only [List.length_append, List.length_cons, List.length_nil]
        omega)
  obtain ⟨ys, h', e3, Lp, ea, en, es, S3, g3⟩ := inv
  subst ea
  rw [List.nil_append, List.length_map, ll] at S3
  rw [List.nil_append, List.length_map, List.take_length] at en
  have lp : Lp.length = many := by rw [← ll, ← en, List.length_map]
  refine ⟨Lp, h', ?_, ⟨fun p hp => nm _ (by rw [← en]; exact List.mem_map.mpr ⟨p, hp, rfl⟩), es, by rw [en]; exact nd, by omega⟩, by omega, S3.mono (by omega), (sm1.gr.trans gr2).trans g3⟩
  have e4 : fLC (iVal (fVar 3)) (gN 4) (tYesW) (fTup (lCons (fVar 4) (lCons (fIf (bVal (fOp2 ltI (fFn K30.m__law_draw (lCons (fVar 0) (lCons (fC (.int 10)) (lNil)))) (fVar 2))) (fOp1 negW (fC (.int 1))) (fC (.int 1))) (lNil)))) [4] [some (.ref s), some (.int (things : Int)), some (.int odds), some (.ref h1.length), none] h2 = .ok (.lst (Lp.map pr)) h' := by
    refine ev_LC (it := ⟨Ls.map .str, gdL (.ref h1.length) (Ls.map .str)⟩) (h1 := h2) ?_ e3
    rw [ev_iVal, ev_var]
    show (Res.ok (W.ref h1.length) h2).bind _ = _
    rw [bind_ok, (At at2).it, optI_some]
  unfold K30.m__law_line K30.f__law_line
  clear S S1 S2 S3 e3 at2 gr2 g3 sm1
  walk_at "ev"
end
/-! ### loose ones -/
theorem Pl.up : ∀ {k : Nat} {w : W}, Pl k w → Pl (k + 1) w
  | 0, _, d => .inl d
  | k + 1, _, .inl d => .inl d
  | k + 1, _, .inr ⟨ws, c, l, f⟩ => .inr ⟨ws, c, l, fun x hx => Pl.up (f x hx)⟩
theorem Pl.more {k : Nat} {w : W} (p : Pl k w) : ∀ j, Pl (k + j) w
  | 0 => p
  | j + 1 => (Pl.more p j).up
theorem Flat.pl {w : W} (f : Flat w) : Pl 1 w := f
theorem lo_leaf : ∀ {k : Nat} {x y : W}, Lo k x y → leaf2 y = true → x = y
  | 0, _, _, d, _ => d.2
  | k + 1, _, _, .inl d, _ => d.2
  | k + 1, _, _, .inr ⟨ws, us, _, c, _, _⟩, e => by rcases c with c | c <;> subst c <;> cases e
theorem lo_leaves {k : Nat} : ∀ {ws us : List W}, F2 (Lo k) ws us → (∀ x ∈ us, leaf2 x = true) → ws = us
  | _, _, .nil, _ => rfl
  | _, _, .cons r t, h => by rw [lo_leaf r (h _ List.mem_cons_self), lo_leaves t fun x hx => h x (List.mem_cons_of_mem _ hx)]
theorem lo_flat {k : Nat} {x t : W} (l : Lo k x t) (f : Flat t) : itemsW x = itemsW t ∧ Flat x ∧ (Sw 1 t → Sw 1 x) := by
  rcases f with f | ⟨us, c, hl, hx⟩
  · have := lo_leaf l f
    subst this
    exact ⟨rfl, .inl f, id⟩
  · cases k with
    | zero =>
      have := l.2
      subst this
      exact ⟨rfl, .inr ⟨us, c, hl, hx⟩, id⟩
    | succ k =>
      rcases l with l | ⟨ws, us', c1, c2, hl', ff⟩
      · have := l.2
        subst this
        exact ⟨rfl, .inr ⟨us, c, hl, hx⟩, id⟩
      · have eu : us' = us := by rcases c with c | c <;> rcases c2 with c2 | c2 <;> (rw [c] at c2; cases c2 <;> rfl)
        subst eu
        have := lo_leaves ff hx
        subst this
        refine ⟨?_, .inr ⟨ws, c1, hl, hx⟩, fun sw => ?_⟩
        · have a : itemsW x = some ws := by rcases c1 with c1 | c1 <;> subst c1 <;> rfl
          have b : itemsW t = some ws := by rcases c with c | c <;> subst c <;> rfl
          rw [a, b]
        · rcases sw with sw | ⟨vs, c3, l3, f3⟩
          · rcases c with c | c <;> subst c <;> exact sw.elim
          · have : vs = ws := by rcases c with c | c <;> rcases c3 with c3 | c3 <;> (rw [c] at c3; cases c3 <;> rfl)
            subst this
            exact .inr ⟨vs, c1, l3, f3⟩
theorem lo_items {k : Nat} {n : Nat} : ∀ {ws us : List W}, F2 (Lo k) ws us → (∀ x ∈ us, Flat x) → (∀ x ∈ ws, Flat x) ∧ firstBad n ws = firstBad n us ∧ (∀ L, runTo L ws = runTo L us) ∧ ((∀ x ∈ us, Sw 1 x) → ∀ x ∈ ws, Sw 1 x)
  | _, _, .nil, _ => ⟨by simp, rfl, fun _ => rfl, fun _ => by simp⟩
  | _, _, .cons (a := a) (b := b) (as := as) (bs := bs) r t, h => by
    obtain ⟨i1, i2, i3⟩ := lo_flat r (h _ List.mem_cons_self)
    obtain ⟨j1, j2, j3, j4⟩ := lo_items (n := n) t fun x hx => h x (List.mem_cons_of_mem _ hx)
    have e1 : turnB n a = turnB n b := by unfold turnB; rw [i1]
    have e2 : ∀ L, overT L a = overT L b := fun L => by unfold overT twoI; rw [i1]
    refine ⟨fun x hx => ?_, ?_, fun L => ?_, fun sw x hx => ?_⟩
    · rcases List.mem_cons.mp hx with e | hx
      · subst e; exact i2
      · exact j1 x hx
    · unfold firstBad
      rw [e1, j2]
    · show runTo (overT L a) as = runTo (overT L b) bs
      rw [e2, j3]
    · rcases List.mem_cons.mp hx with e | hx
      · subst e; exact i3 (sw _ List.mem_cons_self)
      · exact j4 (fun x hx => sw x (List.mem_cons_of_mem _ hx)) x hx
theorem lo_line {k : Nat} {w : W} {L : List Pn} (l : Lo (k + 1 + 1) w (.lst (L.map pr))) : LineW w L := by
  rcases l with ⟨l1, l2⟩ | ⟨ws, us, c1, c2, -, f⟩
  · subst l2; cases l1
  · have eu : us = L.map pr := by rcases c2 with c2 | c2 <;> cases c2 <;> rfl
    subst eu
    refine ⟨ws, c1, ?_⟩
    clear c1 c2
    induction L generalizing ws with
    | nil => cases f; exact .nil
    | cons p L ih =>
      cases f with
      | cons r t =>
        refine .cons ?_ (ih _ t)
        rcases r with ⟨r1, r2⟩ | ⟨vs, us2, d1, d2, _, f2⟩
        · subst r2; cases r1
        · have : us2 = [.str p.1, .int p.2] := by rcases d2 with d2 | d2 <;> cases d2 <;> rfl
          subst this
          have := lo_leaves f2 (by intro x hx; rcases List.mem_cons.mp hx with e | hx; subst e; rfl; rw [List.mem_singleton] at hx; subst hx; rfl)
          subst this
          exact d1
theorem letters_lt : ∀ c ∈ letters, c < 1000 := by decide +kernel
theorem line_sw {w : W} {L : List Pn} (lw : LineW w L) (lo : LineOk L) (hl : L.length ≤ 30) : Sw 2 w := by
  obtain ⟨ws, c, f⟩ := lw
  refine .inr ⟨ws, c, by rw [f.length]; exact hl, fun x hx => ?_⟩
  have : ∃ p, Pw x p ∧ p ∈ L := F2.left (S := fun x => ∃ p, Pw x p ∧ p ∈ L) (fun a b r => ⟨b, r⟩) (f.mem (P := fun p => p ∈ L) fun b hb => hb) x hx
  obtain ⟨p, pw, hp⟩ := this
  refine .inr ⟨[.str p.1, .int p.2], pw, by simp, fun y hy => ?_⟩
  rcases List.mem_cons.mp hy with e | hy
  · subst e
    exact ⟨(lo.nm p hp).le, fun c hc => letters_lt c ((lo.nm p hp).all c hc)⟩
  · rw [List.mem_singleton] at hy
    subst hy
    show -1 ≤ p.2 ∧ p.2 ≤ 60
    rcases lo.sg p hp with e | e <;> rw [e] <;> decide
theorem line_pl {L : List Pn} (hl : L.length < 1000) : Pl 2 (.lst (L.map pr)) := by
  refine .inr ⟨_, .inr rfl, by rw [List.length_map]; omega, fun x hx => ?_⟩
  obtain ⟨p, _, e⟩ := List.mem_map.mp hx
  subst e
  refine .inr ⟨_, .inl rfl, by simp, fun y hy => ?_⟩
  rcases List.mem_cons.mp hy with e | hy
  · subst e; rfl
  · rw [List.mem_singleton] at hy
    subst hy; rfl
theorem line_dr {h : AH} {w : W} {L : List Pn} (e : seqL h w = some (L.map pr)) (hl : L.length < 1000) : Dr h 2 w (.lst (L.map pr)) :=
  .lst e (by rw [List.length_map]; omega) (F2.refl fun x hx => by
    obtain ⟨p, _, ex⟩ := List.mem_map.mp hx
    subst ex
    exact .tup (by simp) (.cons (Dr.leaf rfl 0) (.cons (Dr.leaf rfl 0) .nil)))
theorem line_inert {L : List Pn} : ∀ x ∈ L.map pr, inert 1 x := fun x hx => by
  obtain ⟨p, _, e⟩ := List.mem_map.mp hx
  subst e
  refine .inr ⟨_, rfl, fun y hy => ?_⟩
  rcases List.mem_cons.mp hy with e | hy
  · subst e; rfl
  · rw [List.mem_singleton] at hy
    subst hy; rfl
theorem nodes_leaf {w : W} (e : leaf2 w = true) : nodes w = 0 := by
  cases w <;> first | (cases e; done) | rfl
theorem nodesL_leaf : ∀ {ws : List W}, (∀ x ∈ ws, leaf2 x = true) → nodesL ws = 0
  | [], _ => rfl
  | w :: r, h => by
    show nodes w + nodesL r = 0
    rw [nodes_leaf (h w List.mem_cons_self), nodesL_leaf fun x hx => h x (List.mem_cons_of_mem _ hx)]
theorem nodes_flat {t : W} (f : Flat t) : nodes t ≤ 1 := by
  rcases f with f | ⟨ws, c, _, hx⟩
  · rw [nodes_leaf f]; omega
  · rcases c with c | c <;> subst c <;> (show 1 + nodesL ws ≤ 1; rw [nodesL_leaf hx]; exact Nat.le_refl _)
theorem nodesL_flat : ∀ {ws : List W}, (∀ x ∈ ws, Flat x) → nodesL ws ≤ ws.length
  | [], _ => Nat.le_refl _
  | w :: r, h => by
    show nodes w + nodesL r ≤ r.length + 1
    have := nodes_flat (h w List.mem_cons_self)
    have := nodesL_flat fun x hx => h x (List.mem_cons_of_mem _ hx)
    omega
theorem nodes_line {L : List Pn} : nodes (.lst (L.map pr)) ≤ 1 + L.length := by
  show 1 + nodesL (L.map pr) ≤ _
  have := nodesL_flat (ws := L.map pr) fun x hx => by
    obtain ⟨p, _, e⟩ := List.mem_map.mp hx
    subst e
    refine .inr ⟨_, .inl rfl, by simp, fun y hy => ?_⟩
    rcases List.mem_cons.mp hy with e | hy
    · subst e; rfl
    · rw [List.mem_singleton] at hy
      subst hy; rfl
  rw [List.length_map] at this
  omega
/-- a thing handed in as a run: what it reads, frozen -/
structure Thing (h : AH) (w u : W) (o : Option (List W)) : Prop where
  rh : RunH h w o
  dc : Dc h 2 w u
  sw : Sw 2 u ∨ u = .dct []
  ru : RunW u o
  nd : nodes u ≤ 100
theorem Dc.up {h : AH} : ∀ {k : Nat} {w u : W}, Dc h k w u → Dc h (k + 1) w u
  | 0, _, _, d => .inl d
  | k + 1, _, _, .inl d => .inl d
  | k + 1, _, _, .inr ⟨ws, us, c, l, f⟩ => .inr ⟨ws, us, c, l, f.imp fun _ _ => Dc.up⟩
theorem Dc.more {h : AH} {k : Nat} {w u : W} (d : Dc h k w u) : ∀ j, Dc h (k + j) w u
  | 0 => d
  | j + 1 => (Dc.more d j).up
theorem thing_list {h : AH} {w : W} {xs : List W} (e : seqL h w = some xs) (hx : ∀ x ∈ xs, OddT x) (hl : xs.length ≤ 30) : Thing h w (.lst xs) (some xs) := by
  have run : Run xs := ⟨by omega, fun x h => (hx x h).flat⟩
  refine ⟨?_, .lst e (by omega) (F2.refl fun x h1 => (hx x h1).flat.pl.dc), .inl (.inr ⟨xs, .inr rfl, hl, fun x h => (hx x h).sw⟩), .inr ⟨xs, .inr rfl, rfl, run⟩, ?_⟩
  · cases w with
    | lst us => cases e; exact RunW.runH (.inr ⟨xs, .inr rfl, rfl, run⟩)
    | ref n => exact runH_ref (sl_facts e).2.2 run
    | _ => cases e
  · show 1 + nodesL xs ≤ 100
    have := nodesL_flat run.2
    omega
theorem thing_leaf {h : AH} {w : W} (e : leaf2 w = true) (s : Sw 2 w ∨ w = .dct []) : Thing h w w none :=
  ⟨.inl ⟨e, rfl⟩, .leaf e 2, s, .inl ⟨e, rfl⟩, by rw [nodes_leaf e]; omega⟩
/-- and what it is, loosened -/
theorem lo_run {n : Nat} {k : Nat} {r u : W} {o : Option (List W)} (l : Lo k r u) (ro : RunW u o) (sw : Sw 2 u ∨ u = .dct []) :
    ∃ o', RunW r o' ∧ fault n o' = fault n o ∧ (∀ L, runTo L (o'.getD []) = runTo L (o.getD [])) ∧ (Sw 2 r ∨ r = .dct []) := by
  rcases ro with ⟨e, eo⟩ | ⟨us, c, eo, hx⟩
  · have := lo_leaf l e
    subst this
    exact ⟨none, .inl ⟨e, rfl⟩, by rw [eo], fun _ => by rw [eo], sw⟩
  · subst eo
    have same : r = u → ∃ o', RunW r o' ∧ fault n o' = fault n (some us) ∧ (∀ L, runTo L (o'.getD []) = runTo L us) ∧ (Sw 2 r ∨ r = .dct []) := fun e => by
      subst e
      exact ⟨some us, .inr ⟨us, c, rfl, hx⟩, rfl, fun _ => rfl, sw⟩
    cases k with
    | zero => exact same l.2
    | succ k =>
      rcases l with l | ⟨ws, us', c1, c2, hl', ff⟩
      · exact same l.2
      · have eu : us' = us := by rcases c with c | c <;> rcases c2 with c2 | c2 <;> (rw [c] at c2; cases c2 <;> rfl)
        subst eu
        obtain ⟨j1, j2, j3, j4⟩ := lo_items (n := n) ff hx.2
        refine ⟨some ws, .inr ⟨ws, c1, rfl, by rw [ff.length]; exact hx.1, j1⟩, j2, j3, .inl ?_⟩
        rcases sw with sw | sw
        · rcases sw with sw | ⟨vs, c3, l3, f3⟩
          · rcases c with c | c <;> subst c <;> exact sw.elim
          · have : vs = us' := by rcases c with c | c <;> rcases c3 with c3 | c3 <;> (rw [c] at c3; cases c3 <;> rfl)
            subst this
            exact .inr ⟨ws, c1, by rw [ff.length]; exact l3, j4 f3⟩
        · rcases c with c | c <;> rw [c] at sw <;> cases sw
end PM
set_option Elab.async false
set_option linter.all false
set_option maxRecDepth 100000
set_option maxHeartbeats 1000000
namespace PM
open PySem hiding Env
open L2 PF
local macro_rules | `(tactic| walk_at "ev") => `(tactic| simp (config := { implicitDefEqProofs := false }) only [ev_var, ev_c, ev_op1, ev_op2, ev_if, ev_val, ev_bnot, ev_band, ev_bor, ev_and, ev_or, ev_nil, ev_cons, ev_tup, ev_lst, ev_lstR, ev_call, ev_fn, ev_fnK, ev_m0, ev_m, ev_chain, ev_next, ev_seq, ev_expr, ev_ret, ev_retN, ev_sif, ev_asg, ev_par, ev_gN, ev_gsub, ev_gsnil, ev_gscons, ev_gT, ev_slice, ev_pnone, ev_psome, ev_intOf, ev_raise, ev_dct0, ev_listR, ev_addR, ev_iVal, ev_noX_ok, ev_def, ev_end_rt, ev_end_nx, ev_end_exc, ev_start, bind_ok, bind_bad, bind_exc, bindS_ok, bindS_exc, bindS_bad, opt_some, opt_none, optB_some, truth_bl, add_int, sub_int, neg_int, mul_int, fdiv_int, mod_int, pow_int, lt_int, le_int, gt_int, ge_int, not_bl, int_int, abs_int, seqL_lst, seqA_lst, seqA_tup, dctOf_lst, dctOf_tup, dctOf_str, ix_lst, ix_tup, atI0, atI1, atI2, atI3, eq_int, List.getElem?_cons_zero, List.getElem?_cons_succ, List.set_cons_zero, List.set_cons_succ, List.map_cons, List.map_nil, List.cons_append, List.nil_append, List.append_nil, List.length_cons, List.length_nil, List.replicate_succ, List.replicate_zero, ite_true, ite_false, and_self, and_true, true_and, ne_eq, not_false_eq_true, decide_true, decide_false, Bool.false_eq_true, reduceIte, Bool.not_true, Bool.not_false, Int.reduceEq, Int.reduceNe, Int.reduceLE, Int.reduceLT, Int.reduceNeg, Int.reduceAdd, Int.reduceSub, Int.reduceMul, Int.reduceToNat, Int.reducePow, Nat.reduceAdd, Nat.reduceSub, Nat.reduceLeDiff, Nat.reduceEqDiff, not_true_eq_false, decide_eq_true_eq, decide_eq_false_iff_not, Int.not_lt, Int.not_le, isi1, isi2, isi3, ty_non, ty_bl, ty_int, ty_strW, ty_tup, ty_lst, ty_dct, tb_ll, tb_lt, tb_tl, tb_tt, tb_nl, tb_nt, tb_nd, tb_nb, tb_ni, tb_ns, tb_bl, tb_bt, tb_bd, tb_bb, tb_bi, tb_bs, tb_il, tb_it, tb_id, tb_ib, tb_ii, tb_is, tb_sl, tb_st, tb_sd, tb_sb, tb_si, tb_ss, tb_ld, tb_lb, tb_li, tb_ls, tb_td, tb_tb, tb_ti, tb_ts, tb_dl, tb_dt, tb_dd, tb_db, tb_di, tb_ds, ne_bl, eq_bl, eq_str, ne_str, ne_int, eq_non, isN_non, isN_bl, isN_int, isN_str, isN_tup, isN_lst, isN_ref, notN_non, notN_int, map_some, len_lst, len_tup, Bool.or_false, Bool.false_or, Bool.or_true, Bool.true_or, Bool.or_self, Bool.and_true, Bool.true_and, Bool.and_false, Bool.false_and, *])
theorem Sw.up : ∀ {k : Nat} {w : W}, Sw k w → Sw (k + 1) w
  | 0, _, d => .inl d
  | k + 1, _, .inl d => .inl d
  | k + 1, _, .inr ⟨ws, c, l, f⟩ => .inr ⟨ws, c, l, fun x hx => Sw.up (f x hx)⟩
theorem seq_nx {f g : SF} {env env1 : Env} {h h1 : AH} (e : f env h = .nx env1 h1) : sSeq f g env h = g env1 h1 := by rw [ev_seq, e]
theorem app_at1 {h l : AH} {o o' : O} : (h ++ o :: o' :: l)[h.length + 1]? = some o' := by
  rw [List.getElem?_append_right (by omega)]
  simp
theorem get_app {h l : AH} {n : Nat} {o : O} (e : h[n]? = some o) : (h ++ l)[n]? = some o := by
  rw [List.getElem?_append_left (List.getElem?_eq_some_iff.mp e).1]; exact e
theorem lw_self (L : List Pn) : LineW (.lst (L.map pr)) L := by
  refine ⟨_, .inr rfl, ?_⟩
  induction L with
  | nil => exact .nil
  | cons p L ih => exact .cons (.inl rfl) ih
theorem perm2 {x y : W} : perm [1, 0] [x, y] = [y, x] := rfl
theorem list_lst {h : AH} {ws : List W} : listW h [.lst ws] = some (.lst ws) := rfl
theorem line_inert3 {L : List Pn} : ∀ x ∈ L.map pr, inert 3 x := fun x hx => by
  obtain ⟨p, _, e⟩ := List.mem_map.mp hx
  subst e
  refine .inr ⟨_, rfl, fun y hy => ?_⟩
  rcases List.mem_cons.mp hy with e | hy
  · subst e; exact .inl rfl
  · rw [List.mem_singleton] at hy
    subst hy; exact .inl rfl
theorem nes {h : AH} {z : Str} : neW h (.str z) (.str z) = some (.bl false) := by rw [ne_str, decide_eq_true rfl]; rfl
theorem eqs {h : AH} {z : Str} : eqW h (.str z) (.str z) = some (.bl true) := by rw [eq_str, decide_eq_true rfl]
theorem eq_tt {h : AH} : eqW h (.str "turn") (.str "told") = some (.bl false) := by rw [eq_str, decide_eq_false (by decide)]
theorem append2 {h : AH} {n : Nat} {w w2 : W} (e : h[n]? = some (.lst [w])) : mAppend (.ref n) [w2] h = .ok .non (h.set n (.lst [w, w2])) := append_ok e (size_small (by show 2 ≤ 1000000; decide))

section
variable {s s0 c : Nat} {h : AH} {L : List Pn} {a0 a1 a2 a3 a4 a5 a6 a7 a8 a9 a10 a11 a12 a13 a14 a15 a16 a17 a18 : Option W}
theorem b1_ok (S : Stm s s0 c h) (hc : c + 100 < 1099511627776) (lo : LineOk L) (hl : L.length ≤ 20) :
    ∃ (a6' a7' a8' a9' a10' : Option W) (h' : AH), K30.b_law_1 [a0, some (.ref s), a2, some (.lst (L.map pr)), a4, a5, a6, a7, a8, a9, a10, a11, a12, a13, a14, a15, a16, a17, a18] h = .nx [a0, some (.ref s), a2, some (.lst (L.map pr)), a4, a5, a6', a7', a8', a9', a10', a11, a12, a13, a14, a15, a16, a17, a18] h' ∧ Stm s s0 (c + 60) h' ∧ Gr s s0 h h' := by
  obtain ⟨t, h1, e1, ot, S1, sm1⟩ := odd_ok S (ws := L.map pr) (by rw [List.length_map]; omega) (by omega)
  have nl := nodes_line (L := L)
  obtain ⟨w', h2, e2, lo', S2, sm2⟩ := loose_ok 11 ((line_pl (L := L) (by omega)).more 9) S1 (by omega)
  have S2 := S2.mono (d := c + 60) (by omega)
  have e2 : C.m__law_loose 12 [.ref s, .lst (L.map pr)] h1 = .ok w' h2 := e2
  have lw1 := lo_line (k := 9) lo'
  have lw0 := lw_self L
  have e3 : C.m__law_copied 12 [t] h2 = .ok t h2 := copied_ok 11 (Pl.dc (ot.flat.pl.more 10))
  obtain ⟨z, rp⟩ := rp_of (k := 2) (by decide) (ws := [w', t]) (by show 2 ≤ 30; decide) (by
    intro x hx
    rcases List.mem_cons.mp hx with e | hx
    · subst e; exact .inr (line_sw lw1 lo (by omega))
    · rw [List.mem_singleton] at hx
      subst hx; exact .inr ot.sw.up)
  have z0 : (0 : Nat) ≤ sizeLine := Nat.zero_le _
  have z1 : (1 : Nat) ≤ sizeLine := size_small (by decide)
  have z2 : (2 : Nat) ≤ sizeLine := size_small (by decide)
  have gr2 : Gr s s0 h h2 := sm1.gr.trans sm2.gr
  obtain ⟨l21, l22⟩ := S2.lt
  have hlen := gr2.len
  have it := law_is_turn_ok (h := h1) (vs := L.map pr) ot.flat
  rw [List.length_map] at it
  have hl3 : L.length < 1000 := by omega
  cases et : turnB L.length t with
  | true =>
    rw [et] at it
    obtain ⟨ov, ol⟩ := law_over_T (h := h1) et rfl hl3
    have t1 := turned_ok (h := h2) lw1 lo ot.flat
    rw [if_pos et] at t1
    obtain ⟨h3, eh3⟩ : ∃ x, x = h2 ++ [O.lst (L.map pr), O.lst ((overT L t).map pr)] := ⟨_, rfl⟩
    rw [← eh3] at t1
    have g3 : h3[h2.length + 1]? = some (.lst ((overT L t).map pr)) := by rw [eh3]; exact app_at1
    have S3 : Stm s s0 (c + 60) h3 := by rw [eh3]; exact S2.app
    have gr3 : Gr s s0 h h3 := by rw [eh3]; exact gr2.trans .app
    obtain ⟨h4, eh4⟩ : ∃ x, x = h3 ++ [O.lst [.tup [.str "told", .ref (h2.length + 1)]]] := ⟨_, rfl⟩
    have g4 : h4[h3.length]? = some (.lst [.tup [.str "told", .ref (h2.length + 1)]]) := by rw [eh4]; exact app_at
    have S4 : Stm s s0 (c + 60) h4 := by rw [eh4]; exact S3.app
    have gr4 : Gr s s0 h h4 := by rw [eh4]; exact gr3.trans .app
    have t2 := turned_ok (h := h4) lw0 lo ot.flat
    have g34 : h4[h2.length + 1]? = some (.lst ((overT L t).map pr)) := by rw [eh4]; exact get_app g3
    rw [if_pos et] at t2
    obtain ⟨h5, eh5⟩ : ∃ x, x = h4 ++ [O.lst (L.map pr), O.lst ((overT L t).map pr)] := ⟨_, rfl⟩
    rw [← eh5] at t2
    have g35 : h5[h2.length + 1]? = some (.lst ((overT L t).map pr)) := by rw [eh5]; exact get_app g34
    have g55 : h5[h4.length + 1]? = some (.lst ((overT L t).map pr)) := by rw [eh5]; exact app_at1
    have g45 : h5[h3.length]? = some (.lst [.tup [.str "told", .ref (h2.length + 1)]]) := by rw [eh5]; exact get_app g4
    have S5 : Stm s s0 (c + 60) h5 := by rw [eh5]; exact S4.app
    have gr5 : Gr s s0 h h5 := by rw [eh5]; exact gr4.trans .app
    obtain ⟨h6, eh6⟩ : ∃ x, x = h5.set h3.length (O.lst [.tup [.str "told", .ref (h2.length + 1)], .tup [.str "told", .ref (h4.length + 1)]]) := ⟨_, rfl⟩
    have g6 : h6[h3.length]? = some (.lst [.tup [.str "told", .ref (h2.length + 1)], .tup [.str "told", .ref (h4.length + 1)]]) := by rw [eh6]; exact set_at g45
    have len3 := gr3.len
    have len23 : h2.length + 2 = h3.length := by rw [eh3]; simp
    have len4 : h4.length = h3.length + 1 := by rw [eh4]; simp
    have len5 : h5.length = h4.length + 2 := by rw [eh5]; simp
    have len6 : h6.length = h5.length := by rw [eh6]; simp
    have S6 : Stm s s0 (c + 60) h6 := by rw [eh6]; exact S5.setN (by omega) (by omega)
    have gr6 : Gr s s0 h h6 := by rw [eh6]; exact gr5.setN (by omega)
    have g36 : h6[h2.length + 1]? = some (.lst ((overT L t).map pr)) := by rw [eh6]; exact set_off (by omega) g35
    have g56 : h6[h4.length + 1]? = some (.lst ((overT L t).map pr)) := by rw [eh6]; exact set_off (by omega) g55
    have dd : Dr h6 3 (.tup [.str "told", .lst ((overT L t).map pr)]) (.tup [.str "told", .lst ((overT L t).map pr)]) := .tup (by simp) (.cons (Dr.leaf rfl 2) (.cons (line_dr rfl (by omega)) .nil))
    have dA : Dr h6 3 (.tup [.str "told", .ref (h2.length + 1)]) (.tup [.str "told", .lst ((overT L t).map pr)]) := .tup (by simp) (.cons (Dr.leaf rfl 2) (.cons (line_dr (At g36).sl (by omega)) .nil))
    have dB : Dr h6 3 (.tup [.str "told", .ref (h4.length + 1)]) (.tup [.str "told", .lst ((overT L t).map pr)]) := .tup (by simp) (.cons (Dr.leaf rfl 2) (.cons (line_dr (At g56).sl (by omega)) .nil))
    have same : C.m__law_same 12 [.ref h3.length, .lst [(.tup [.str "told", .lst ((overT L t).map pr)]), (.tup [.str "told", .lst ((overT L t).map pr)])]] h6 = .ok (.bl true) h6 := same_ok 11 ((Dr.lst (At g6).sl (by simp) (.cons dA (.cons dB .nil))).more 7) ((Dr.lst (us := [(.tup [.str "told", .lst ((overT L t).map pr)]), (.tup [.str "told", .lst ((overT L t).map pr)])]) rfl (by simp) (.cons dd (.cons dd .nil))).more 7)
    have m1 : fMet K30.mf__law_met (fFn K30.m_turned (lCons (fOp2 ixA (fVar 8) (fC (.int 0))) (lCons (fOp2 ixA (fVar 8) (fC (.int 1))) (lNil)))) [a0, some (.ref s), a2, some (.lst (L.map pr)), a4, a5, some t, some (.tup [.str "told", .lst ((overT L t).map pr)]), some (.lst [w', t]), a9, a10, a11, a12, a13, a14, a15, a16, a17, a18] h2 = .ok (.tup [.str "told", .ref (h2.length + 1)]) h3 := met_told (by
      (try clear eh3); (try clear eh4); (try clear eh5); (try clear eh6); (try clear eh7); (try clear eh8); (try clear eh9); (try clear len3); (try clear len23); (try clear len4); (try clear len5); (try clear len6); (try clear hlen); (try clear nl); (try clear et)
      walk_at "ev")
    have m2 : fMet K30.mf__law_met (fFnK K30.m_turned 0 2 [1, 0] (lNil) (lCons (fOp2 ixA (fVar 8) (fC (.int 1))) (lCons (fCall listW (lCons (fVar 3) (lNil))) (lNil)))) [a0, some (.ref s), a2, some (.lst (L.map pr)), a4, a5, some t, some (.tup [.str "told", .lst ((overT L t).map pr)]), some (.lst [w', t]), some (.str z), some (.ref h3.length), a11, a12, a13, a14, a15, a16, a17, a18] h4 = .ok (.tup [.str "told", .ref (h4.length + 1)]) h5 := met_told (by
      have pm := perm2 (x := t) (y := .lst (L.map pr))
      have li := list_lst (h := h4) (ws := L.map pr)
      (try clear eh3); (try clear eh4); (try clear eh5); (try clear eh6); (try clear eh7); (try clear eh8); (try clear eh9); (try clear len3); (try clear len23); (try clear len4); (try clear len5); (try clear len6); (try clear hlen); (try clear nl); (try clear et)
      walk_at "ev")
    have ap := append2 (w2 := .tup [.str "told", .ref (h4.length + 1)]) g45
    rw [← eh6] at ap
    have il := (At g4).il
    have q1 : ∀ g : SF, sSeq (sAsg (fFn K30.m__law_odd_turn (lCons (fVar 1) (lCons (fVar 3) (lNil)))) (gN 6)) g [a0, some (.ref s), a2, some (.lst (L.map pr)), a4, a5, a6, a7, a8, a9, a10, a11, a12, a13, a14, a15, a16, a17, a18] h = g [a0, some (.ref s), a2, some (.lst (L.map pr)), a4, a5, some t, a7, a8, a9, a10, a11, a12, a13, a14, a15, a16, a17, a18] h1 := fun g => seq_nx (by
      (try clear eh3); (try clear eh4); (try clear eh5); (try clear eh6); (try clear eh7); (try clear eh8); (try clear eh9); (try clear len3); (try clear len23); (try clear len4); (try clear len5); (try clear len6); (try clear hlen); (try clear nl); (try clear et)
      walk_at "ev")
    have q2 : ∀ g : SF, sSeq (sAsg (fIf (bVal (fFn K30.m__law_is_turn (lCons (fVar 3) (lCons (fVar 6) (lNil))))) (fTup (lCons (fC (.str "told")) (lCons (fFn K30.m__law_over (lCons (fVar 3) (lCons (fVar 6) (lNil)))) (lNil)))) (fTup (lCons (fC (.str "turn")) (lCons (fVar 6) (lNil))))) (gN 7)) g [a0, some (.ref s), a2, some (.lst (L.map pr)), a4, a5, some t, a7, a8, a9, a10, a11, a12, a13, a14, a15, a16, a17, a18] h1 = g [a0, some (.ref s), a2, some (.lst (L.map pr)), a4, a5, some t, some (.tup [.str "told", .lst ((overT L t).map pr)]), a8, a9, a10, a11, a12, a13, a14, a15, a16, a17, a18] h1 := fun g => seq_nx (by
      (try clear eh3); (try clear eh4); (try clear eh5); (try clear eh6); (try clear eh7); (try clear eh8); (try clear eh9); (try clear len3); (try clear len23); (try clear len4); (try clear len5); (try clear len6); (try clear hlen); (try clear nl); (try clear et)
      walk_at "ev")
    have q3 : ∀ g : SF, sSeq (sAsg (fLst (lCons (fFn (K30.m__law_loose 12) (lCons (fVar 1) (lCons (fVar 3) (lNil)))) (lCons (fFn (K30.m__law_copied 12) (lCons (fVar 6) (lNil))) (lNil)))) (gN 8)) g [a0, some (.ref s), a2, some (.lst (L.map pr)), a4, a5, some t, some (.tup [.str "told", .lst ((overT L t).map pr)]), a8, a9, a10, a11, a12, a13, a14, a15, a16, a17, a18] h1 = g [a0, some (.ref s), a2, some (.lst (L.map pr)), a4, a5, some t, some (.tup [.str "told", .lst ((overT L t).map pr)]), some (.lst [w', t]), a9, a10, a11, a12, a13, a14, a15, a16, a17, a18] h2 := fun g => seq_nx (by
      (try clear eh3); (try clear eh4); (try clear eh5); (try clear eh6); (try clear eh7); (try clear eh8); (try clear eh9); (try clear len3); (try clear len23); (try clear len4); (try clear len5); (try clear len6); (try clear hlen); (try clear nl); (try clear et)
      walk_at "ev")
    have q4 : ∀ g : SF, sSeq (sPar 9 10 (lCons (fCall reprW (lCons (fVar 8) (lNil))) (lCons (fLstR (lCons (fMet K30.mf__law_met (fFn K30.m_turned (lCons (fOp2 ixA (fVar 8) (fC (.int 0))) (lCons (fOp2 ixA (fVar 8) (fC (.int 1))) (lNil))))) (lNil))) (lNil)))) g [a0, some (.ref s), a2, some (.lst (L.map pr)), a4, a5, some t, some (.tup [.str "told", .lst ((overT L t).map pr)]), some (.lst [w', t]), a9, a10, a11, a12, a13, a14, a15, a16, a17, a18] h2 = g [a0, some (.ref s), a2, some (.lst (L.map pr)), a4, a5, some t, some (.tup [.str "told", .lst ((overT L t).map pr)]), some (.lst [w', t]), some (.str z), some (.ref h3.length), a11, a12, a13, a14, a15, a16, a17, a18] h4 := fun g => seq_nx (by
      have r0 := rp h2
      rw [eh4]
      (try clear eh3); (try clear eh4); (try clear eh5); (try clear eh6); (try clear eh7); (try clear eh8); (try clear eh9); (try clear len3); (try clear len23); (try clear len4); (try clear len5); (try clear len6); (try clear hlen); (try clear nl); (try clear et)
      walk_at "ev")
    have q5 : ∀ g : SF, sSeq (sExpr (fM isLst mAppend (fVar 10) (lCons (fMet K30.mf__law_met (fFnK K30.m_turned 0 2 [1, 0] (lNil) (lCons (fOp2 ixA (fVar 8) (fC (.int 1))) (lCons (fCall listW (lCons (fVar 3) (lNil))) (lNil))))) (lNil)))) g [a0, some (.ref s), a2, some (.lst (L.map pr)), a4, a5, some t, some (.tup [.str "told", .lst ((overT L t).map pr)]), some (.lst [w', t]), some (.str z), some (.ref h3.length), a11, a12, a13, a14, a15, a16, a17, a18] h4 = g [a0, some (.ref s), a2, some (.lst (L.map pr)), a4, a5, some t, some (.tup [.str "told", .lst ((overT L t).map pr)]), some (.lst [w', t]), some (.str z), some (.ref h3.length), a11, a12, a13, a14, a15, a16, a17, a18] h6 := fun g => seq_nx (by
      (try clear eh3); (try clear eh4); (try clear eh5); (try clear eh6); (try clear eh7); (try clear eh8); (try clear eh9); (try clear len3); (try clear len23); (try clear len4); (try clear len5); (try clear len6); (try clear hlen); (try clear nl); (try clear et)
      walk_at "ev")
    have q6 : ∀ g : SF, sSeq (sIf (bOr (bNot (bVal (fFn (K30.m__law_same 12) (lCons (fVar 10) (lCons (fLst (lCons (fVar 7) (lCons (fVar 7) (lNil)))) (lNil)))))) (bVal (fOp2 neW (fCall reprW (lCons (fVar 8) (lNil))) (fVar 9)))) (sRet (fC (.bl false))) (sNext)) g [a0, some (.ref s), a2, some (.lst (L.map pr)), a4, a5, some t, some (.tup [.str "told", .lst ((overT L t).map pr)]), some (.lst [w', t]), some (.str z), some (.ref h3.length), a11, a12, a13, a14, a15, a16, a17, a18] h6 = g [a0, some (.ref s), a2, some (.lst (L.map pr)), a4, a5, some t, some (.tup [.str "told", .lst ((overT L t).map pr)]), some (.lst [w', t]), some (.str z), some (.ref h3.length), a11, a12, a13, a14, a15, a16, a17, a18] h6 := fun g => seq_nx (by
      have r0 := rp h6
      have nz := nes (h := h6) (z := z)
      (try clear eh3); (try clear eh4); (try clear eh5); (try clear eh6); (try clear eh7); (try clear eh8); (try clear eh9); (try clear len3); (try clear len23); (try clear len4); (try clear len5); (try clear len6); (try clear hlen); (try clear nl); (try clear et)
      walk_at "ev")
    obtain ⟨h7, eh7⟩ : ∃ x, x = h6 ++ [O.lst [.ref (h2.length + 1), .ref (h4.length + 1)]] := ⟨_, rfl⟩
    have g7 : h7[h6.length]? = some (.lst [.ref (h2.length + 1), .ref (h4.length + 1)]) := by rw [eh7]; exact app_at
    have g37 : h7[h2.length + 1]? = some (.lst ((overT L t).map pr)) := by rw [eh7]; exact get_app g36
    have g57 : h7[h4.length + 1]? = some (.lst ((overT L t).map pr)) := by rw [eh7]; exact get_app g56
    have S7 : Stm s s0 (c + 60) h7 := by rw [eh7]; exact S6.app
    have gr7 : Gr s s0 h h7 := by rw [eh7]; exact gr6.trans .app
    have lov : ((overT L t).map pr).length < 1000000 := by rw [List.length_map, ol]; omega
    have sp := spoilt_two (k := 3) g7 g37 g57 (by omega) (by omega) (by omega) lov lov line_inert3 line_inert3
    obtain ⟨h8, eh8⟩ : ∃ x, x = ((h7.set (h2.length + 1) (.lst ((overT L t).map pr ++ [.str "late"]))).set (h4.length + 1) (.lst ((overT L t).map pr ++ [.str "late"]))).set h6.length (O.lst ([.ref (h2.length + 1), .ref (h4.length + 1)] ++ [.str "late"])) := ⟨_, rfl⟩
    rw [← eh8] at sp
    have sp : C.m__law_spoilt 6 [.ref h6.length] h7 = .ok .non h8 := sp
    have S8 : Stm s s0 (c + 60) h8 := by rw [eh8]; exact ((S7.setN (by omega) (by omega)).setN (by omega) (by omega)).setN (by omega) (by omega)
    have gr8 : Gr s s0 h h8 := by rw [eh8]; exact ((gr7.setN (by omega)).setN (by omega)).setN (by omega)
    have t3 := turned_ok (h := h8) lw0 lo ot.flat
    rw [if_pos et] at t3
    obtain ⟨h9, eh9⟩ : ∃ x, x = h8 ++ [O.lst (L.map pr), O.lst ((overT L t).map pr)] := ⟨_, rfl⟩
    rw [← eh9] at t3
    have g9 : h9[h8.length + 1]? = some (.lst ((overT L t).map pr)) := by rw [eh9]; exact app_at1
    have S9 : Stm s s0 (c + 60) h9 := by rw [eh9]; exact S8.app
    have gr9 : Gr s s0 h h9 := by rw [eh9]; exact gr8.trans .app
    have same2 : C.m__law_same 12 [.ref (h8.length + 1), .lst ((overT L t).map pr)] h9 = .ok (.bl true) h9 := same_ok 11 ((line_dr (At g9).sl (by omega)).more 9) ((line_dr rfl (by omega)).more 9)
    have ixn := (At g6).ix
    have qe := eqs (h := h6) (z := "told")
    have li := list_lst (h := h8) (ws := L.map pr)
    refine ⟨some t, some (.tup [.str "told", .lst ((overT L t).map pr)]), some (.lst [w', t]), some (.str z), some (.ref h3.length), h9, ?_, S9, gr9⟩
    unfold K30.b_law_1
    rw [q1, q2, q3, q4, q5, q6]
    rw [eh7] at sp
    (try clear eh3); (try clear eh4); (try clear eh5); (try clear eh6); (try clear eh7); (try clear eh8); (try clear eh9); (try clear len3); (try clear len23); (try clear len4); (try clear len5); (try clear len6); (try clear hlen); (try clear nl); (try clear et)
    walk_at "ev"
  | false =>
    rw [et] at it
    have t1 := turned_ok (h := h2) lw1 lo ot.flat
    rw [if_neg (by rw [et]; decide)] at t1
    obtain ⟨h3, eh3⟩ : ∃ x, x = h2 ++ [O.lst (L.map pr)] := ⟨_, rfl⟩
    rw [← eh3] at t1
    have S3 : Stm s s0 (c + 60) h3 := by rw [eh3]; exact S2.app
    have gr3 : Gr s s0 h h3 := by rw [eh3]; exact gr2.trans .app
    obtain ⟨h4, eh4⟩ : ∃ x, x = h3 ++ [O.lst [.tup [.str "turn", t]]] := ⟨_, rfl⟩
    have g4 : h4[h3.length]? = some (.lst [.tup [.str "turn", t]]) := by rw [eh4]; exact app_at
    have S4 : Stm s s0 (c + 60) h4 := by rw [eh4]; exact S3.app
    have gr4 : Gr s s0 h h4 := by rw [eh4]; exact gr3.trans .app
    have t2 := turned_ok (h := h4) lw0 lo ot.flat
    rw [if_neg (by rw [et]; decide)] at t2
    obtain ⟨h5, eh5⟩ : ∃ x, x = h4 ++ [O.lst (L.map pr)] := ⟨_, rfl⟩
    rw [← eh5] at t2
    have g45 : h5[h3.length]? = some (.lst [.tup [.str "turn", t]]) := by rw [eh5]; exact get_app g4
    have S5 : Stm s s0 (c + 60) h5 := by rw [eh5]; exact S4.app
    have gr5 : Gr s s0 h h5 := by rw [eh5]; exact gr4.trans .app
    obtain ⟨h6, eh6⟩ : ∃ x, x = h5.set h3.length (O.lst [.tup [.str "turn", t], .tup [.str "turn", t]]) := ⟨_, rfl⟩
    have g6 : h6[h3.length]? = some (.lst [.tup [.str "turn", t], .tup [.str "turn", t]]) := by rw [eh6]; exact set_at g45
    have len3 := gr3.len
    have len23 : h2.length + 1 = h3.length := by rw [eh3]; simp
    have len4 : h4.length = h3.length + 1 := by rw [eh4]; simp
    have len5 : h5.length = h4.length + 1 := by rw [eh5]; simp
    have len6 : h6.length = h5.length := by rw [eh6]; simp
    have S6 : Stm s s0 (c + 60) h6 := by rw [eh6]; exact S5.setN (by omega) (by omega)
    have gr6 : Gr s s0 h h6 := by rw [eh6]; exact gr5.setN (by omega)
    have dd : Dr h6 3 (.tup [.str "turn", t]) (.tup [.str "turn", t]) := .tup (by simp) (.cons (Dr.leaf rfl 2) (.cons ((ot.dr h6).up) .nil))
    have dA := dd
    have dB := dd
    have same : C.m__law_same 12 [.ref h3.length, .lst [(.tup [.str "turn", t]), (.tup [.str "turn", t])]] h6 = .ok (.bl true) h6 := same_ok 11 ((Dr.lst (At g6).sl (by simp) (.cons dA (.cons dB .nil))).more 7) ((Dr.lst (us := [(.tup [.str "turn", t]), (.tup [.str "turn", t])]) rfl (by simp) (.cons dd (.cons dd .nil))).more 7)
    have m1 : fMet K30.mf__law_met (fFn K30.m_turned (lCons (fOp2 ixA (fVar 8) (fC (.int 0))) (lCons (fOp2 ixA (fVar 8) (fC (.int 1))) (lNil)))) [a0, some (.ref s), a2, some (.lst (L.map pr)), a4, a5, some t, some (.tup [.str "turn", t]), some (.lst [w', t]), a9, a10, a11, a12, a13, a14, a15, a16, a17, a18] h2 = .ok (.tup [.str "turn", t]) h3 := met_turn (by
      (try clear eh3); (try clear eh4); (try clear eh5); (try clear eh6); (try clear eh7); (try clear eh8); (try clear eh9); (try clear len3); (try clear len23); (try clear len4); (try clear len5); (try clear len6); (try clear hlen); (try clear nl); (try clear et)
      walk_at "ev")
    have m2 : fMet K30.mf__law_met (fFnK K30.m_turned 0 2 [1, 0] (lNil) (lCons (fOp2 ixA (fVar 8) (fC (.int 1))) (lCons (fCall listW (lCons (fVar 3) (lNil))) (lNil)))) [a0, some (.ref s), a2, some (.lst (L.map pr)), a4, a5, some t, some (.tup [.str "turn", t]), some (.lst [w', t]), some (.str z), some (.ref h3.length), a11, a12, a13, a14, a15, a16, a17, a18] h4 = .ok (.tup [.str "turn", t]) h5 := met_turn (by
      have pm := perm2 (x := t) (y := .lst (L.map pr))
      have li := list_lst (h := h4) (ws := L.map pr)
      (try clear eh3); (try clear eh4); (try clear eh5); (try clear eh6); (try clear eh7); (try clear eh8); (try clear eh9); (try clear len3); (try clear len23); (try clear len4); (try clear len5); (try clear len6); (try clear hlen); (try clear nl); (try clear et)
      walk_at "ev")
    have ap := append2 (w2 := .tup [.str "turn", t]) g45
    rw [← eh6] at ap
    have il := (At g4).il
    have q1 : ∀ g : SF, sSeq (sAsg (fFn K30.m__law_odd_turn (lCons (fVar 1) (lCons (fVar 3) (lNil)))) (gN 6)) g [a0, some (.ref s), a2, some (.lst (L.map pr)), a4, a5, a6, a7, a8, a9, a10, a11, a12, a13, a14, a15, a16, a17, a18] h = g [a0, some (.ref s), a2, some (.lst (L.map pr)), a4, a5, some t, a7, a8, a9, a10, a11, a12, a13, a14, a15, a16, a17, a18] h1 := fun g => seq_nx (by
      (try clear eh3); (try clear eh4); (try clear eh5); (try clear eh6); (try clear eh7); (try clear eh8); (try clear eh9); (try clear len3); (try clear len23); (try clear len4); (try clear len5); (try clear len6); (try clear hlen); (try clear nl); (try clear et)
      walk_at "ev")
    have q2 : ∀ g : SF, sSeq (sAsg (fIf (bVal (fFn K30.m__law_is_turn (lCons (fVar 3) (lCons (fVar 6) (lNil))))) (fTup (lCons (fC (.str "told")) (lCons (fFn K30.m__law_over (lCons (fVar 3) (lCons (fVar 6) (lNil)))) (lNil)))) (fTup (lCons (fC (.str "turn")) (lCons (fVar 6) (lNil))))) (gN 7)) g [a0, some (.ref s), a2, some (.lst (L.map pr)), a4, a5, some t, a7, a8, a9, a10, a11, a12, a13, a14, a15, a16, a17, a18] h1 = g [a0, some (.ref s), a2, some (.lst (L.map pr)), a4, a5, some t, some (.tup [.str "turn", t]), a8, a9, a10, a11, a12, a13, a14, a15, a16, a17, a18] h1 := fun g => seq_nx (by
      (try clear eh3); (try clear eh4); (try clear eh5); (try clear eh6); (try clear eh7); (try clear eh8); (try clear eh9); (try clear len3); (try clear len23); (try clear len4); (try clear len5); (try clear len6); (try clear hlen); (try clear nl); (try clear et)
      walk_at "ev")
    have q3 : ∀ g : SF, sSeq (sAsg (fLst (lCons (fFn (K30.m__law_loose 12) (lCons (fVar 1) (lCons (fVar 3) (lNil)))) (lCons (fFn (K30.m__law_copied 12) (lCons (fVar 6) (lNil))) (lNil)))) (gN 8)) g [a0, some (.ref s), a2, some (.lst (L.map pr)), a4, a5, some t, some (.tup [.str "turn", t]), a8, a9, a10, a11, a12, a13, a14, a15, a16, a17, a18] h1 = g [a0, some (.ref s), a2, some (.lst (L.map pr)), a4, a5, some t, some (.tup [.str "turn", t]), some (.lst [w', t]), a9, a10, a11, a12, a13, a14, a15, a16, a17, a18] h2 := fun g => seq_nx (by
      (try clear eh3); (try clear eh4); (try clear eh5); (try clear eh6); (try clear eh7); (try clear eh8); (try clear eh9); (try clear len3); (try clear len23); (try clear len4); (try clear len5); (try clear len6); (try clear hlen); (try clear nl); (try clear et)
      walk_at "ev")
    have q4 : ∀ g : SF, sSeq (sPar 9 10 (lCons (fCall reprW (lCons (fVar 8) (lNil))) (lCons (fLstR (lCons (fMet K30.mf__law_met (fFn K30.m_turned (lCons (fOp2 ixA (fVar 8) (fC (.int 0))) (lCons (fOp2 ixA (fVar 8) (fC (.int 1))) (lNil))))) (lNil))) (lNil)))) g [a0, some (.ref s), a2, some (.lst (L.map pr)), a4, a5, some t, some (.tup [.str "turn", t]), some (.lst [w', t]), a9, a10, a11, a12, a13, a14, a15, a16, a17, a18] h2 = g [a0, some (.ref s), a2, some (.lst (L.map pr)), a4, a5, some t, some (.tup [.str "turn", t]), some (.lst [w', t]), some (.str z), some (.ref h3.length), a11, a12, a13, a14, a15, a16, a17, a18] h4 := fun g => seq_nx (by
      have r0 := rp h2
      rw [eh4]
      (try clear eh3); (try clear eh4); (try clear eh5); (try clear eh6); (try clear eh7); (try clear eh8); (try clear eh9); (try clear len3); (try clear len23); (try clear len4); (try clear len5); (try clear len6); (try clear hlen); (try clear nl); (try clear et)
      walk_at "ev")
    have q5 : ∀ g : SF, sSeq (sExpr (fM isLst mAppend (fVar 10) (lCons (fMet K30.mf__law_met (fFnK K30.m_turned 0 2 [1, 0] (lNil) (lCons (fOp2 ixA (fVar 8) (fC (.int 1))) (lCons (fCall listW (lCons (fVar 3) (lNil))) (lNil))))) (lNil)))) g [a0, some (.ref s), a2, some (.lst (L.map pr)), a4, a5, some t, some (.tup [.str "turn", t]), some (.lst [w', t]), some (.str z), some (.ref h3.length), a11, a12, a13, a14, a15, a16, a17, a18] h4 = g [a0, some (.ref s), a2, some (.lst (L.map pr)), a4, a5, some t, some (.tup [.str "turn", t]), some (.lst [w', t]), some (.str z), some (.ref h3.length), a11, a12, a13, a14, a15, a16, a17, a18] h6 := fun g => seq_nx (by
      (try clear eh3); (try clear eh4); (try clear eh5); (try clear eh6); (try clear eh7); (try clear eh8); (try clear eh9); (try clear len3); (try clear len23); (try clear len4); (try clear len5); (try clear len6); (try clear hlen); (try clear nl); (try clear et)
      walk_at "ev")
    have q6 : ∀ g : SF, sSeq (sIf (bOr (bNot (bVal (fFn (K30.m__law_same 12) (lCons (fVar 10) (lCons (fLst (lCons (fVar 7) (lCons (fVar 7) (lNil)))) (lNil)))))) (bVal (fOp2 neW (fCall reprW (lCons (fVar 8) (lNil))) (fVar 9)))) (sRet (fC (.bl false))) (sNext)) g [a0, some (.ref s), a2, some (.lst (L.map pr)), a4, a5, some t, some (.tup [.str "turn", t]), some (.lst [w', t]), some (.str z), some (.ref h3.length), a11, a12, a13, a14, a15, a16, a17, a18] h6 = g [a0, some (.ref s), a2, some (.lst (L.map pr)), a4, a5, some t, some (.tup [.str "turn", t]), some (.lst [w', t]), some (.str z), some (.ref h3.length), a11, a12, a13, a14, a15, a16, a17, a18] h6 := fun g => seq_nx (by
      have r0 := rp h6
      have nz := nes (h := h6) (z := z)
      (try clear eh3); (try clear eh4); (try clear eh5); (try clear eh6); (try clear eh7); (try clear eh8); (try clear eh9); (try clear len3); (try clear len23); (try clear len4); (try clear len5); (try clear len6); (try clear hlen); (try clear nl); (try clear et)
      walk_at "ev")
    have qe := eq_tt (h := h6)
    refine ⟨some t, some (.tup [.str "turn", t]), some (.lst [w', t]), some (.str z), some (.ref h3.length), h6, ?_, S6, gr6⟩
    unfold K30.b_law_1
    rw [q1, q2, q3, q4, q5, q6]
    (try clear eh3); (try clear eh4); (try clear eh5); (try clear eh6); (try clear eh7); (try clear eh8); (try clear eh9); (try clear len3); (try clear len23); (try clear len4); (try clear len5); (try clear len6); (try clear hlen); (try clear nl); (try clear et)
    walk_at "ev"
end
end PM
set_option Elab.async false
set_option linter.all false
set_option maxRecDepth 100000
set_option maxHeartbeats 1000000
namespace PM
open PySem hiding Env
open L2 PF
local macro_rules | `(tactic| walk_at "ev") => `(tactic| simp (config := { implicitDefEqProofs := false }) only [ev_var, ev_c, ev_op1, ev_op2, ev_if, ev_val, ev_bnot, ev_band, ev_bor, ev_and, ev_or, ev_nil, ev_cons, ev_tup, ev_lst, ev_lstR, ev_call, ev_fn, ev_fnK, ev_m0, ev_m, ev_chain, ev_next, ev_seq, ev_expr, ev_ret, ev_retN, ev_sif, ev_asg, ev_par, ev_gN, ev_gsub, ev_gsnil, ev_gscons, ev_gT, ev_slice, ev_pnone, ev_psome, ev_intOf, ev_raise, ev_dct0, ev_listR, ev_addR, ev_iVal, ev_noX_ok, ev_def, ev_end_rt, ev_end_nx, ev_end_exc, ev_start, bind_ok, bind_bad, bind_exc, bindS_ok, bindS_exc, bindS_bad, opt_some, opt_none, optB_some, truth_bl, add_int, sub_int, neg_int, mul_int, fdiv_int, mod_int, pow_int, lt_int, le_int, gt_int, ge_int, not_bl, int_int, abs_int, seqL_lst, seqA_lst, seqA_tup, dctOf_lst, dctOf_tup, dctOf_str, ix_lst, ix_tup, atI0, atI1, atI2, atI3, eq_int, List.getElem?_cons_zero, List.getElem?_cons_succ, List.set_cons_zero, List.set_cons_succ, List.map_cons, List.map_nil, List.cons_append, List.nil_append, List.append_nil, List.length_cons, List.length_nil, List.replicate_succ, List.replicate_zero, ite_true, ite_false, and_self, and_true, true_and, ne_eq, not_false_eq_true, decide_true, decide_false, Bool.false_eq_true, reduceIte, Bool.not_true, Bool.not_false, Int.reduceEq, Int.reduceNe, Int.reduceLE, Int.reduceLT, Int.reduceNeg, Int.reduceAdd, Int.reduceSub, Int.reduceMul, Int.reduceToNat, Int.reducePow, Nat.reduceAdd, Nat.reduceSub, Nat.reduceLeDiff, Nat.reduceEqDiff, not_true_eq_false, decide_eq_true_eq, decide_eq_false_iff_not, Int.not_lt, Int.not_le, isi1, isi2, isi3, ty_non, ty_bl, ty_int, ty_strW, ty_tup, ty_lst, ty_dct, tb_ll, tb_lt, tb_tl, tb_tt, tb_nl, tb_nt, tb_nd, tb_nb, tb_ni, tb_ns, tb_bl, tb_bt, tb_bd, tb_bb, tb_bi, tb_bs, tb_il, tb_it, tb_id, tb_ib, tb_ii, tb_is, tb_sl, tb_st, tb_sd, tb_sb, tb_si, tb_ss, tb_ld, tb_lb, tb_li, tb_ls, tb_td, tb_tb, tb_ti, tb_ts, tb_dl, tb_dt, tb_dd, tb_db, tb_di, tb_ds, ne_bl, eq_bl, eq_str, ne_str, ne_int, eq_non, isN_non, isN_bl, isN_int, isN_str, isN_tup, isN_lst, isN_ref, notN_non, notN_int, map_some, len_lst, len_tup, Bool.or_false, Bool.false_or, Bool.or_true, Bool.true_or, Bool.or_self, Bool.and_true, Bool.true_and, Bool.and_false, Bool.false_and, *])
section
variable {s s0 c : Nat} {h : AH} {L : List Pn} {a0 a1 a2 a3 a4 a5 a6 a7 a8 a9 a10 a11 a12 a13 a14 a15 a16 a17 a18 : Option W}
theorem b2_ok {nr : Nat} {xs : List W} (S : Stm s s0 c h) (hc : c + 100 < 1099511627776) (hl : L.length ≤ 20) (h0 : 0 < L.length) (hr : h[nr]? = some (.lst xs)) (x : nr ≠ s) (y : nr ≠ s0) (hx : xs.length < 1000) :
    ∃ (a13' : Option W) (h' : AH) (e : W), K30.b_law_2 [a0, some (.ref s), a2, some (.lst (L.map pr)), a4, a5, a6, a7, a8, a9, a10, some (.ref nr), a12, a13, a14, a15, a16, a17, a18] h = .nx [a0, some (.ref s), a2, some (.lst (L.map pr)), a4, a5, a6, a7, a8, a9, a10, some (.ref nr), a12, a13', a14, a15, a16, a17, a18] h' ∧ h'[nr]? = some (.lst (xs ++ [e])) ∧ OddT e ∧ Stm s s0 (c + 2) h' ∧ ∀ g, Gr s s0 g h → g.length ≤ nr → Gr s s0 g h' := by
  obtain ⟨b, h1, e1, b0, b1, S1, sm1⟩ := draw_ok S (many := ((L.map pr).length : Nat)) (by rw [List.length_map]; omega) (by rw [List.length_map]; omega) (by omega)
  rw [List.length_map] at b1
  obtain ⟨d, h2, e2, d0, d1, S2, sm2⟩ := draw_ok S1 (many := ((L.map pr).length : Nat) - b) (by rw [List.length_map]; omega) (by rw [List.length_map]; omega) (by omega)
  rw [List.length_map] at d1
  have g1 : h1[nr]? = some (.lst xs) := (sm1.at_ nr x y).trans hr
  have g2 : h2[nr]? = some (.lst xs) := (sm2.at_ nr x y).trans g1
  have il := (At g1).il
  have z2 : (2 : Nat) ≤ sizeLine := size_small (by decide)
  have ap := append_ok (w := .tup [.int b, .int (b + d)]) g2 (Nat.lt_of_lt_of_le hx (size_small (by decide)))
  refine ⟨some (.int b), h2.set nr (.lst (xs ++ [.tup [.int b, .int (b + d)]])), .tup [.int b, .int (b + d)], ?_, set_at g2, .t2 (lf_int (by omega) (by omega)) (lf_int (by omega) (by omega)), S2.setN x y, fun g gr lg => ((gr.trans sm1.gr).trans sm2.gr).setN lg⟩
  have l0 := len_lst (h := h) (ws := L.map pr)
  have l1 := len_lst (h := h1) (ws := L.map pr)
  unfold K30.b_law_2
  clear S S1 S2 sm1 sm2 g1 g2 hr b1 d1
  walk_at "ev"
theorem runTo_len {n : Nat} : ∀ (xs : List W) (L : List Pn), L.length = n → firstBad n xs = none → (runTo L xs).length = n
  | [], L, e, _ => e
  | t :: xs, L, e, hf => by
    unfold firstBad at hf
    split at hf
    · rename_i et
      obtain ⟨i, j, e1, e2, e3, e4⟩ := turnB_two et
      have : (overT L t).length = n := by
        unfold overT
        rw [e4, over_len e2 (by omega)]
        exact e
      exact runTo_len xs (overT L t) this (by simpa using hf)
    · cases hf
theorem append2w {h : AH} {n : Nat} {w w2 : W} (e : h[n]? = some (.lst [w])) : mAppend (.ref n) [w2] h = .ok .non (h.set n (.lst [w, w2])) := append2 e
theorem dr_opt {h : AH} {o : Option Nat} : Dr h 1 (optW o) (optW o) := by cases o <;> exact Dr.leaf rfl 1
theorem eq_rt {h : AH} : True := True.intro
theorem b3_ok {w u : W} {o : Option (List W)} (S : Stm s s0 c h) (hc : c + 300 < 1099511627776) (lo : LineOk L) (hl : L.length ≤ 20) (ht : ∀ h', Sm s s0 h h' → Thing h' w u o) :
    ∃ (a7' a8' a9' a10' a16' a17' a18' : Option W) (h' : AH), K30.b_law_3 [a0, some (.ref s), a2, some (.lst (L.map pr)), a4, a5, some w, a7, a8, a9, a10, a11, a12, a13, a14, a15, a16, a17, a18] h = .nx [a0, some (.ref s), a2, some (.lst (L.map pr)), a4, a5, some w, a7', a8', a9', a10', a11, a12, a13, a14, a15, a16', a17', a18'] h' ∧ Stm s s0 (c + 200) h' ∧ Gr s s0 h h' := by
  have hl3 : L.length < 1000 := by omega
  have T0 := ht h .refl
  have tr := law_turn_run_ok (L := L) hl3 T0.rh
  have nl := nodes_line (L := L)
  obtain ⟨w', h1, e2, lo', S1, sm1⟩ := loose_ok 11 ((line_pl (L := L) (by omega)).more 9) S (by omega)
  have e2 : C.m__law_loose 12 [.ref s, .lst (L.map pr)] h = .ok w' h1 := e2
  have lw1 := lo_line (k := 9) lo'
  have lw0 := lw_self L
  have T1 := ht h1 sm1
  have e3 : C.m__law_copied 12 [w] h1 = .ok u h1 := copied_ok 11 (T1.dc.more 9)
  have nl2 := T1.nd
  obtain ⟨u', h2, e4, lou, S2, sm2⟩ := loose_ok 11 (T1.dc.pl.more 9) S1 (by omega)
  have S2 := S2.mono (d := c + 200) (by omega)
  have e4 : C.m__law_loose 12 [.ref s, u] h1 = .ok u' h2 := e4
  obtain ⟨o', ro, ef, er, su⟩ := lo_run (n := L.length) lou T1.ru T1.sw
  obtain ⟨z, rp⟩ := rp_of (k := 2) (by decide) (ws := [w', u']) (by show 2 ≤ 30; decide) (by
    intro x hx
    rcases List.mem_cons.mp hx with e | hx
    · subst e; exact .inr (line_sw lw1 lo (by omega))
    · rw [List.mem_singleton] at hx
      subst hx; exact su.symm)
  have z0 : (0 : Nat) ≤ sizeLine := Nat.zero_le _
  have z1 : (1 : Nat) ≤ sizeLine := size_small (by decide)
  have z2 : (2 : Nat) ≤ sizeLine := size_small (by decide)
  have gr2 : Gr s s0 h h2 := sm1.gr.trans sm2.gr
  obtain ⟨l21, l22⟩ := S2.lt
  have hlen := gr2.len
  have f1 := turns_fault_ok (h := h2) lw1 lo ro
  rw [ef] at f1
  obtain ⟨h3, eh3⟩ : ∃ x, x = h2 ++ [O.lst (L.map pr)] := ⟨_, rfl⟩
  rw [← eh3] at f1
  have f2 := turns_fault_ok (h := h3) lw0 lo ro
  rw [ef] at f2
  obtain ⟨h4, eh4⟩ : ∃ x, x = h3 ++ [O.lst (L.map pr)] := ⟨_, rfl⟩
  rw [← eh4] at f2
  have S4 : Stm s s0 (c + 200) h4 := by rw [eh4, eh3]; exact S2.app.app
  have gr4 : Gr s s0 h h4 := by rw [eh4, eh3]; exact (gr2.trans .app).trans .app
  have len2 : h2.length ≤ h4.length := by rw [eh4, eh3]; simp
  have tb1 := turns_behind_ok (h := h4) lw1 lo ro
  rw [ef] at tb1
  have pm := perm2 (x := u') (y := .lst (L.map pr))
  have li3 := list_lst (h := h3) (ws := L.map pr)
  cases q : fault L.length o with
  | none =>
    rw [q] at tr tb1 f1 f2
    obtain ⟨ma, h5, t1, ⟨l, el⟩, g5, la⟩ := tb1
    rw [er] at g5
    replace tr : K30.m__law_turn_run [.lst (L.map pr), w] h = .ok (.tup [.non, (.lst ((runTo L (o.getD [])).map pr))]) h := tr
    have hf : firstBad L.length (o.getD []) = none := by
      cases o with
      | none => cases q
      | some xs => exact q
    have rl := runTo_len (o.getD []) L rfl hf
    replace f1 : CL.m_turns_fault [w', u'] h2 = .ok (.non) h3 := f1
    replace f2 : CL.m_turns_fault [.lst (L.map pr), u'] h3 = .ok (.non) h4 := f2
    have S5 : Stm s s0 (c + 200) h5 := by rw [el]; exact S4.app
    have gr5 : Gr s s0 h h5 := by rw [el]; exact gr4.trans .app
    have len5 : h4.length ≤ h5.length := by rw [el]; simp
    obtain ⟨h6, eh6⟩ : ∃ x, x = h5 ++ [O.lst [.tup [.str "told", .ref ma]]] := ⟨_, rfl⟩
    have g6 : h6[h5.length]? = some (.lst [.tup [.str "told", .ref ma]]) := by rw [eh6]; exact app_at
    have S6 : Stm s s0 (c + 200) h6 := by rw [eh6]; exact S5.app
    have gr6 : Gr s s0 h h6 := by rw [eh6]; exact gr5.trans .app
    have len6 : h6.length = h5.length + 1 := by rw [eh6]; simp
    have tb2 := turns_behind_ok (h := h6) lw0 lo ro
    rw [ef, q] at tb2
    have g56 : h6[ma]? = some (.lst ((runTo L (o.getD [])).map pr)) := by rw [eh6]; exact get_app g5
    obtain ⟨mb, h7, t2, ⟨l2, el2⟩, g7, lb⟩ := tb2
    rw [er] at g7
    have g57 : h7[ma]? = some (.lst ((runTo L (o.getD [])).map pr)) := by rw [el2]; exact get_app g56
    have lma := (List.getElem?_eq_some_iff.mp g5).1
    have g67 : h7[h5.length]? = some (.lst [.tup [.str "told", .ref ma]]) := by rw [el2]; exact get_app g6
    have S7 : Stm s s0 (c + 200) h7 := by rw [el2]; exact S6.app
    have gr7 : Gr s s0 h h7 := by rw [el2]; exact gr6.trans .app
    have len7 : h6.length ≤ h7.length := by rw [el2]; simp
    obtain ⟨h8, eh8⟩ : ∃ x, x = h7.set h5.length (O.lst [.tup [.str "told", .ref ma], .tup [.str "told", .ref mb]]) := ⟨_, rfl⟩
    have g8 : h8[h5.length]? = some (.lst [.tup [.str "told", .ref ma], .tup [.str "told", .ref mb]]) := by rw [eh8]; exact set_at g67
    have S8 : Stm s s0 (c + 200) h8 := by rw [eh8]; exact S7.setN (by omega) (by omega)
    have gr8 : Gr s s0 h h8 := by rw [eh8]; exact gr7.setN (by omega)
    have len8 : h8.length = h7.length := by rw [eh8]; simp
    have ga8 : h8[ma]? = some (.lst ((runTo L (o.getD [])).map pr)) := by rw [eh8]; exact set_off (by omega) g57
    have gb8 : h8[mb]? = some (.lst ((runTo L (o.getD [])).map pr)) := by rw [eh8]; exact set_off (by omega) g7
    have dd : Dr h8 3 (.tup [.str "told", (.lst ((runTo L (o.getD [])).map pr))]) (.tup [.str "told", (.lst ((runTo L (o.getD [])).map pr))]) := .tup (by simp) (.cons (Dr.leaf rfl 2) (.cons (line_dr rfl (by omega)) .nil))
    have dA : Dr h8 3 (.tup [.str "told", .ref ma]) (.tup [.str "told", (.lst ((runTo L (o.getD [])).map pr))]) := .tup (by simp) (.cons (Dr.leaf rfl 2) (.cons (line_dr (At ga8).sl (by omega)) .nil))
    have dB : Dr h8 3 (.tup [.str "told", .ref mb]) (.tup [.str "told", (.lst ((runTo L (o.getD [])).map pr))]) := .tup (by simp) (.cons (Dr.leaf rfl 2) (.cons (line_dr (At gb8).sl (by omega)) .nil))
    have same : C.m__law_same 12 [.ref h5.length, .lst [(.tup [.str "told", (.lst ((runTo L (o.getD [])).map pr))]), (.tup [.str "told", (.lst ((runTo L (o.getD [])).map pr))])]] h8 = .ok (.bl true) h8 := same_ok 11 ((Dr.lst (At g8).sl (by simp) (.cons dA (.cons dB .nil))).more 7) ((Dr.lst (us := [(.tup [.str "told", (.lst ((runTo L (o.getD [])).map pr))]), (.tup [.str "told", (.lst ((runTo L (o.getD [])).map pr))])]) rfl (by simp) (.cons dd (.cons dd .nil))).more 7)
    have df : Dr h8 1 (.lst [.non, .non]) (.lst [.non, .non]) := .lst rfl (by simp) (.cons (Dr.leaf rfl 0) (.cons (Dr.leaf rfl 0) .nil))
    have same1 : C.m__law_same 12 [.lst [.non, .non], .lst [.non, .non]] h8 = .ok (.bl true) h8 := same_ok 11 (df.more 10) (df.more 10)
    have m1 : fMet K30.mf__law_met (fFn K30.m_turns_behind (lCons (fOp2 ixA (fVar 8) (fC (.int 0))) (lCons (fOp2 ixA (fVar 8) (fC (.int 1))) (lNil)))) [a0, some (.ref s), a2, some (.lst (L.map pr)), a4, a5, some w, a7, some (.lst [w', u']), some (.str z), some (.lst [.non, .non]), a11, a12, a13, a14, a15, some (.non), some (.lst ((runTo L (o.getD [])).map pr)), a18] h4 = .ok (.tup [.str "told", .ref ma]) h5 := met_told (by
      (try clear eh3); (try clear eh4); (try clear eh5); (try clear eh6); (try clear eh7); (try clear eh8); (try clear eh9); (try clear eh10); (try clear len1); (try clear len2); (try clear len3); (try clear len4); (try clear len5); (try clear len6); (try clear len7); (try clear len8); (try clear hlen); (try clear nl); (try clear nl2); (try clear et); (try clear q); (try clear el); (try clear el2)
      walk_at "ev")
    have m2 : fMet K30.mf__law_met (fFnK K30.m_turns_behind 0 2 [1, 0] (lNil) (lCons (fOp2 ixA (fVar 8) (fC (.int 1))) (lCons (fCall listW (lCons (fVar 3) (lNil))) (lNil)))) [a0, some (.ref s), a2, some (.lst (L.map pr)), a4, a5, some w, a7, some (.lst [w', u']), some (.str z), some (.lst [.non, .non]), a11, a12, a13, a14, a15, some (.non), some (.lst ((runTo L (o.getD [])).map pr)), some (.ref h5.length)] h6 = .ok (.tup [.str "told", .ref mb]) h7 := met_told (by
      have li := list_lst (h := h6) (ws := L.map pr)
      (try clear eh3); (try clear eh4); (try clear eh5); (try clear eh6); (try clear eh7); (try clear eh8); (try clear eh9); (try clear eh10); (try clear len1); (try clear len2); (try clear len3); (try clear len4); (try clear len5); (try clear len6); (try clear len7); (try clear len8); (try clear hlen); (try clear nl); (try clear nl2); (try clear et); (try clear q); (try clear el); (try clear el2)
      walk_at "ev")
    have ap := append2w (w2 := .tup [.str "told", .ref mb]) g67
    rw [← eh8] at ap
    have il := (At g6).il
    have q1 : ∀ g : SF, sSeq (sAsg (fFn K30.m__law_turn_run (lCons (fVar 3) (lCons (fVar 6) (lNil)))) (gT 2 (gsCons (gN 16) (gsCons (gN 17) (gsNil))))) g [a0, some (.ref s), a2, some (.lst (L.map pr)), a4, a5, some w, a7, a8, a9, a10, a11, a12, a13, a14, a15, a16, a17, a18] h = g [a0, some (.ref s), a2, some (.lst (L.map pr)), a4, a5, some w, a7, a8, a9, a10, a11, a12, a13, a14, a15, some (.non), some (.lst ((runTo L (o.getD [])).map pr)), a18] h := fun g => seq_nx (by
      (try clear eh3); (try clear eh4); (try clear eh5); (try clear eh6); (try clear eh7); (try clear eh8); (try clear eh9); (try clear eh10); (try clear len1); (try clear len2); (try clear len3); (try clear len4); (try clear len5); (try clear len6); (try clear len7); (try clear len8); (try clear hlen); (try clear nl); (try clear nl2); (try clear et); (try clear q); (try clear el); (try clear el2)
      walk_at "ev")
    have q2 : ∀ g : SF, sSeq (sAsg (fLst (lCons (fFn (K30.m__law_loose 12) (lCons (fVar 1) (lCons (fVar 3) (lNil)))) (lCons (fFn (K30.m__law_loose 12) (lCons (fVar 1) (lCons (fFn (K30.m__law_copied 12) (lCons (fVar 6) (lNil))) (lNil)))) (lNil)))) (gN 8)) g [a0, some (.ref s), a2, some (.lst (L.map pr)), a4, a5, some w, a7, a8, a9, a10, a11, a12, a13, a14, a15, some (.non), some (.lst ((runTo L (o.getD [])).map pr)), a18] h = g [a0, some (.ref s), a2, some (.lst (L.map pr)), a4, a5, some w, a7, some (.lst [w', u']), a9, a10, a11, a12, a13, a14, a15, some (.non), some (.lst ((runTo L (o.getD [])).map pr)), a18] h2 := fun g => seq_nx (by
      (try clear eh3); (try clear eh4); (try clear eh5); (try clear eh6); (try clear eh7); (try clear eh8); (try clear eh9); (try clear eh10); (try clear len1); (try clear len2); (try clear len3); (try clear len4); (try clear len5); (try clear len6); (try clear len7); (try clear len8); (try clear hlen); (try clear nl); (try clear nl2); (try clear et); (try clear q); (try clear el); (try clear el2)
      walk_at "ev")
    have q3 : ∀ g : SF, sSeq (sPar 9 10 (lCons (fCall reprW (lCons (fVar 8) (lNil))) (lCons (fLst (lCons (fFn K30.m_turns_fault (lCons (fOp2 ixA (fVar 8) (fC (.int 0))) (lCons (fOp2 ixA (fVar 8) (fC (.int 1))) (lNil)))) (lCons (fFnK K30.m_turns_fault 0 2 [1, 0] (lNil) (lCons (fOp2 ixA (fVar 8) (fC (.int 1))) (lCons (fCall listW (lCons (fVar 3) (lNil))) (lNil)))) (lNil)))) (lNil)))) g [a0, some (.ref s), a2, some (.lst (L.map pr)), a4, a5, some w, a7, some (.lst [w', u']), a9, a10, a11, a12, a13, a14, a15, some (.non), some (.lst ((runTo L (o.getD [])).map pr)), a18] h2 = g [a0, some (.ref s), a2, some (.lst (L.map pr)), a4, a5, some w, a7, some (.lst [w', u']), some (.str z), some (.lst [.non, .non]), a11, a12, a13, a14, a15, some (.non), some (.lst ((runTo L (o.getD [])).map pr)), a18] h4 := fun g => seq_nx (by
      have r0 := rp h2
      (try clear eh3); (try clear eh4); (try clear eh5); (try clear eh6); (try clear eh7); (try clear eh8); (try clear eh9); (try clear eh10); (try clear len1); (try clear len2); (try clear len3); (try clear len4); (try clear len5); (try clear len6); (try clear len7); (try clear len8); (try clear hlen); (try clear nl); (try clear nl2); (try clear et); (try clear q); (try clear el); (try clear el2)
      walk_at "ev")
    have q4 : ∀ g : SF, sSeq (sAsg (fLstR (lCons (fMet K30.mf__law_met (fFn K30.m_turns_behind (lCons (fOp2 ixA (fVar 8) (fC (.int 0))) (lCons (fOp2 ixA (fVar 8) (fC (.int 1))) (lNil))))) (lNil))) (gN 18)) g [a0, some (.ref s), a2, some (.lst (L.map pr)), a4, a5, some w, a7, some (.lst [w', u']), some (.str z), some (.lst [.non, .non]), a11, a12, a13, a14, a15, some (.non), some (.lst ((runTo L (o.getD [])).map pr)), a18] h4 = g [a0, some (.ref s), a2, some (.lst (L.map pr)), a4, a5, some w, a7, some (.lst [w', u']), some (.str z), some (.lst [.non, .non]), a11, a12, a13, a14, a15, some (.non), some (.lst ((runTo L (o.getD [])).map pr)), some (.ref h5.length)] h6 := fun g => seq_nx (by
      rw [eh6]
      (try clear eh3); (try clear eh4); (try clear eh5); (try clear eh6); (try clear eh7); (try clear eh8); (try clear eh9); (try clear eh10); (try clear len1); (try clear len2); (try clear len3); (try clear len4); (try clear len5); (try clear len6); (try clear len7); (try clear len8); (try clear hlen); (try clear nl); (try clear nl2); (try clear et); (try clear q); (try clear el); (try clear el2)
      walk_at "ev")
    have q5 : ∀ g : SF, sSeq (sExpr (fM isLst mAppend (fVar 18) (lCons (fMet K30.mf__law_met (fFnK K30.m_turns_behind 0 2 [1, 0] (lNil) (lCons (fOp2 ixA (fVar 8) (fC (.int 1))) (lCons (fCall listW (lCons (fVar 3) (lNil))) (lNil))))) (lNil)))) g [a0, some (.ref s), a2, some (.lst (L.map pr)), a4, a5, some w, a7, some (.lst [w', u']), some (.str z), some (.lst [.non, .non]), a11, a12, a13, a14, a15, some (.non), some (.lst ((runTo L (o.getD [])).map pr)), some (.ref h5.length)] h6 = g [a0, some (.ref s), a2, some (.lst (L.map pr)), a4, a5, some w, a7, some (.lst [w', u']), some (.str z), some (.lst [.non, .non]), a11, a12, a13, a14, a15, some (.non), some (.lst ((runTo L (o.getD [])).map pr)), some (.ref h5.length)] h8 := fun g => seq_nx (by
      (try clear eh3); (try clear eh4); (try clear eh5); (try clear eh6); (try clear eh7); (try clear eh8); (try clear eh9); (try clear eh10); (try clear len1); (try clear len2); (try clear len3); (try clear len4); (try clear len5); (try clear len6); (try clear len7); (try clear len8); (try clear hlen); (try clear nl); (try clear nl2); (try clear et); (try clear q); (try clear el); (try clear el2)
      walk_at "ev")
    have q6 : ∀ g : SF, sSeq (sAsg (fIf (bVal (fOp2 isN (fVar 16) (fC .non))) (fTup (lCons (fC (.str "told")) (lCons (fVar 17) (lNil)))) (fTup (lCons (fC (.str "run")) (lCons (fVar 16) (lNil))))) (gN 7)) g [a0, some (.ref s), a2, some (.lst (L.map pr)), a4, a5, some w, a7, some (.lst [w', u']), some (.str z), some (.lst [.non, .non]), a11, a12, a13, a14, a15, some (.non), some (.lst ((runTo L (o.getD [])).map pr)), some (.ref h5.length)] h8 = g [a0, some (.ref s), a2, some (.lst (L.map pr)), a4, a5, some w, some (.tup [.str "told", (.lst ((runTo L (o.getD [])).map pr))]), some (.lst [w', u']), some (.str z), some (.lst [.non, .non]), a11, a12, a13, a14, a15, some (.non), some (.lst ((runTo L (o.getD [])).map pr)), some (.ref h5.length)] h8 := fun g => seq_nx (by
      (try clear eh3); (try clear eh4); (try clear eh5); (try clear eh6); (try clear eh7); (try clear eh8); (try clear eh9); (try clear eh10); (try clear len1); (try clear len2); (try clear len3); (try clear len4); (try clear len5); (try clear len6); (try clear len7); (try clear len8); (try clear hlen); (try clear nl); (try clear nl2); (try clear et); (try clear q); (try clear el); (try clear el2)
      walk_at "ev")
    have q7 : ∀ g : SF, sSeq (sIf (bOr (bNot (bVal (fFn (K30.m__law_same 12) (lCons (fVar 10) (lCons (fLst (lCons (fVar 16) (lCons (fVar 16) (lNil)))) (lNil)))))) (bOr (bNot (bVal (fFn (K30.m__law_same 12) (lCons (fVar 18) (lCons (fLst (lCons (fVar 7) (lCons (fVar 7) (lNil)))) (lNil)))))) (bVal (fOp2 neW (fCall reprW (lCons (fVar 8) (lNil))) (fVar 9))))) (sRet (fC (.bl false))) (sNext)) g [a0, some (.ref s), a2, some (.lst (L.map pr)), a4, a5, some w, some (.tup [.str "told", (.lst ((runTo L (o.getD [])).map pr))]), some (.lst [w', u']), some (.str z), some (.lst [.non, .non]), a11, a12, a13, a14, a15, some (.non), some (.lst ((runTo L (o.getD [])).map pr)), some (.ref h5.length)] h8 = g [a0, some (.ref s), a2, some (.lst (L.map pr)), a4, a5, some w, some (.tup [.str "told", (.lst ((runTo L (o.getD [])).map pr))]), some (.lst [w', u']), some (.str z), some (.lst [.non, .non]), a11, a12, a13, a14, a15, some (.non), some (.lst ((runTo L (o.getD [])).map pr)), some (.ref h5.length)] h8 := fun g => seq_nx (by
      have r0 := rp h8
      have nz := nes (h := h8) (z := z)
      (try clear eh3); (try clear eh4); (try clear eh5); (try clear eh6); (try clear eh7); (try clear eh8); (try clear eh9); (try clear eh10); (try clear len1); (try clear len2); (try clear len3); (try clear len4); (try clear len5); (try clear len6); (try clear len7); (try clear len8); (try clear hlen); (try clear nl); (try clear nl2); (try clear et); (try clear q); (try clear el); (try clear el2)
      walk_at "ev")
    obtain ⟨h9, eh9⟩ : ∃ x, x = h8 ++ [O.lst [.ref ma, .ref mb]] := ⟨_, rfl⟩
    have g9 : h9[h8.length]? = some (.lst [.ref ma, .ref mb]) := by rw [eh9]; exact app_at
    have ga9 : h9[ma]? = some (.lst ((runTo L (o.getD [])).map pr)) := by rw [eh9]; exact get_app ga8
    have gb9 : h9[mb]? = some (.lst ((runTo L (o.getD [])).map pr)) := by rw [eh9]; exact get_app gb8
    have lov : ((runTo L (o.getD [])).map pr).length < 1000000 := by rw [List.length_map, rl]; omega
    have lmb := (List.getElem?_eq_some_iff.mp gb8).1
    have lma8 := (List.getElem?_eq_some_iff.mp ga8).1
    have sp := spoilt_two (k := 3) g9 ga9 gb9 (by omega) (by omega) (by omega) lov lov line_inert3 line_inert3
    obtain ⟨h10, eh10⟩ : ∃ x, x = ((h9.set ma (.lst ((runTo L (o.getD [])).map pr ++ [.str "late"]))).set mb (.lst ((runTo L (o.getD [])).map pr ++ [.str "late"]))).set h8.length (O.lst ([.ref ma, .ref mb] ++ [.str "late"])) := ⟨_, rfl⟩
    rw [← eh10] at sp
    have S10 : Stm s s0 (c + 200) h10 := by rw [eh10, eh9]; exact ((S8.app.setN (by omega) (by omega)).setN (by omega) (by omega)).setN (by omega) (by omega)
    have gr10 : Gr s s0 h h10 := by rw [eh10, eh9]; exact (((gr8.trans .app).setN (by omega)).setN (by omega)).setN (by omega)
    replace sp : C.m__law_spoilt 6 [.ref h8.length] h9 = .ok .non h10 := sp
    have ixn := (At g8).ix
    refine ⟨some (.tup [.str "told", (.lst ((runTo L (o.getD [])).map pr))]), some (.lst [w', u']), some (.str z), some (.lst [.non, .non]), some (.non), some (.lst ((runTo L (o.getD [])).map pr)), some (.ref h5.length), h10, ?_, S10, gr10⟩
    unfold K30.b_law_3
    rw [q1, q2, q3, q4, q5, q6, q7]
    rw [eh9] at sp
    (try clear eh3); (try clear eh4); (try clear eh5); (try clear eh6); (try clear eh7); (try clear eh8); (try clear eh9); (try clear eh10); (try clear len1); (try clear len2); (try clear len3); (try clear len4); (try clear len5); (try clear len6); (try clear len7); (try clear len8); (try clear hlen); (try clear nl); (try clear nl2); (try clear et); (try clear q); (try clear el); (try clear el2)
    walk_at "ev"
  | some k =>
    rw [q] at tr tb1 f1 f2
    obtain ⟨w5, tr⟩ := tr
    have t1 : CL.m_turns_behind [w', u'] h4 = .exc "BadRun" [("index", .int (k : Nat))] (h4 ++ [.lst (L.map pr)]) := tb1
    clear tb1
    obtain ⟨h5, eh5⟩ : ∃ x, x = h4 ++ [O.lst (L.map pr)] := ⟨_, rfl⟩
    rw [← eh5] at t1
    replace f1 : CL.m_turns_fault [w', u'] h2 = .ok (.int (k : Nat)) h3 := f1
    replace f2 : CL.m_turns_fault [.lst (L.map pr), u'] h3 = .ok (.int (k : Nat)) h4 := f2
    have S5 : Stm s s0 (c + 200) h5 := by rw [eh5]; exact S4.app
    have gr5 : Gr s s0 h h5 := by rw [eh5]; exact gr4.trans .app
    have len5 : h4.length ≤ h5.length := by rw [eh5]; simp
    obtain ⟨h6, eh6⟩ : ∃ x, x = h5 ++ [O.lst [.tup [.str "run", .int (k : Nat)]]] := ⟨_, rfl⟩
    have g6 : h6[h5.length]? = some (.lst [.tup [.str "run", .int (k : Nat)]]) := by rw [eh6]; exact app_at
    have S6 : Stm s s0 (c + 200) h6 := by rw [eh6]; exact S5.app
    have gr6 : Gr s s0 h h6 := by rw [eh6]; exact gr5.trans .app
    have len6 : h6.length = h5.length + 1 := by rw [eh6]; simp
    have tb2 := turns_behind_ok (h := h6) lw0 lo ro
    rw [ef, q] at tb2
    have t2 : CL.m_turns_behind [.lst (L.map pr), u'] h6 = .exc "BadRun" [("index", .int (k : Nat))] (h6 ++ [.lst (L.map pr)]) := tb2
    clear tb2
    obtain ⟨h7, eh7⟩ : ∃ x, x = h6 ++ [O.lst (L.map pr)] := ⟨_, rfl⟩
    rw [← eh7] at t2
    have g67 : h7[h5.length]? = some (.lst [.tup [.str "run", .int (k : Nat)]]) := by rw [eh7]; exact get_app g6
    have S7 : Stm s s0 (c + 200) h7 := by rw [eh7]; exact S6.app
    have gr7 : Gr s s0 h h7 := by rw [eh7]; exact gr6.trans .app
    have len7 : h6.length ≤ h7.length := by rw [eh7]; simp
    obtain ⟨h8, eh8⟩ : ∃ x, x = h7.set h5.length (O.lst [.tup [.str "run", .int (k : Nat)], .tup [.str "run", .int (k : Nat)]]) := ⟨_, rfl⟩
    have g8 : h8[h5.length]? = some (.lst [.tup [.str "run", .int (k : Nat)], .tup [.str "run", .int (k : Nat)]]) := by rw [eh8]; exact set_at g67
    have S8 : Stm s s0 (c + 200) h8 := by rw [eh8]; exact S7.setN (by omega) (by omega)
    have gr8 : Gr s s0 h h8 := by rw [eh8]; exact gr7.setN (by omega)
    have len8 : h8.length = h7.length := by rw [eh8]; simp
    have dd : Dr h8 3 (.tup [.str "run", .int (k : Nat)]) (.tup [.str "run", .int (k : Nat)]) := .tup (by simp) (.cons (Dr.leaf rfl 2) (.cons (Dr.leaf rfl 2) .nil))
    have dA := dd
    have dB := dd
    have same : C.m__law_same 12 [.ref h5.length, .lst [(.tup [.str "run", .int (k : Nat)]), (.tup [.str "run", .int (k : Nat)])]] h8 = .ok (.bl true) h8 := same_ok 11 ((Dr.lst (At g8).sl (by simp) (.cons dA (.cons dB .nil))).more 7) ((Dr.lst (us := [(.tup [.str "run", .int (k : Nat)]), (.tup [.str "run", .int (k : Nat)])]) rfl (by simp) (.cons dd (.cons dd .nil))).more 7)
    have df : Dr h8 1 (.lst [.int (k : Nat), .int (k : Nat)]) (.lst [.int (k : Nat), .int (k : Nat)]) := .lst rfl (by simp) (.cons (Dr.leaf rfl 0) (.cons (Dr.leaf rfl 0) .nil))
    have same1 : C.m__law_same 12 [.lst [.int (k : Nat), .int (k : Nat)], .lst [.int (k : Nat), .int (k : Nat)]] h8 = .ok (.bl true) h8 := same_ok 11 (df.more 10) (df.more 10)
    have m1 : fMet K30.mf__law_met (fFn K30.m_turns_behind (lCons (fOp2 ixA (fVar 8) (fC (.int 0))) (lCons (fOp2 ixA (fVar 8) (fC (.int 1))) (lNil)))) [a0, some (.ref s), a2, some (.lst (L.map pr)), a4, a5, some w, a7, some (.lst [w', u']), some (.str z), some (.lst [.int (k : Nat), .int (k : Nat)]), a11, a12, a13, a14, a15, some (.int (k : Nat)), some w5, a18] h4 = .ok (.tup [.str "run", .int (k : Nat)]) h5 := met_run (by
      (try clear eh3); (try clear eh4); (try clear eh5); (try clear eh6); (try clear eh7); (try clear eh8); (try clear eh9); (try clear eh10); (try clear len1); (try clear len2); (try clear len3); (try clear len4); (try clear len5); (try clear len6); (try clear len7); (try clear len8); (try clear hlen); (try clear nl); (try clear nl2); (try clear et); (try clear q); (try clear el); (try clear el2)
      walk_at "ev")
    have m2 : fMet K30.mf__law_met (fFnK K30.m_turns_behind 0 2 [1, 0] (lNil) (lCons (fOp2 ixA (fVar 8) (fC (.int 1))) (lCons (fCall listW (lCons (fVar 3) (lNil))) (lNil)))) [a0, some (.ref s), a2, some (.lst (L.map pr)), a4, a5, some w, a7, some (.lst [w', u']), some (.str z), some (.lst [.int (k : Nat), .int (k : Nat)]), a11, a12, a13, a14, a15, some (.int (k : Nat)), some w5, some (.ref h5.length)] h6 = .ok (.tup [.str "run", .int (k : Nat)]) h7 := met_run (by
      have li := list_lst (h := h6) (ws := L.map pr)
      (try clear eh3); (try clear eh4); (try clear eh5); (try clear eh6); (try clear eh7); (try clear eh8); (try clear eh9); (try clear eh10); (try clear len1); (try clear len2); (try clear len3); (try clear len4); (try clear len5); (try clear len6); (try clear len7); (try clear len8); (try clear hlen); (try clear nl); (try clear nl2); (try clear et); (try clear q); (try clear el); (try clear el2)
      walk_at "ev")
    have ap := append2w (w2 := .tup [.str "run", .int (k : Nat)]) g67
    rw [← eh8] at ap
    have il := (At g6).il
    have q1 : ∀ g : SF, sSeq (sAsg (fFn K30.m__law_turn_run (lCons (fVar 3) (lCons (fVar 6) (lNil)))) (gT 2 (gsCons (gN 16) (gsCons (gN 17) (gsNil))))) g [a0, some (.ref s), a2, some (.lst (L.map pr)), a4, a5, some w, a7, a8, a9, a10, a11, a12, a13, a14, a15, a16, a17, a18] h = g [a0, some (.ref s), a2, some (.lst (L.map pr)), a4, a5, some w, a7, a8, a9, a10, a11, a12, a13, a14, a15, some (.int (k : Nat)), some w5, a18] h := fun g => seq_nx (by
      (try clear eh3); (try clear eh4); (try clear eh5); (try clear eh6); (try clear eh7); (try clear eh8); (try clear eh9); (try clear eh10); (try clear len1); (try clear len2); (try clear len3); (try clear len4); (try clear len5); (try clear len6); (try clear len7); (try clear len8); (try clear hlen); (try clear nl); (try clear nl2); (try clear et); (try clear q); (try clear el); (try clear el2)
      walk_at "ev")
    have q2 : ∀ g : SF, sSeq (sAsg (fLst (lCons (fFn (K30.m__law_loose 12) (lCons (fVar 1) (lCons (fVar 3) (lNil)))) (lCons (fFn (K30.m__law_loose 12) (lCons (fVar 1) (lCons (fFn (K30.m__law_copied 12) (lCons (fVar 6) (lNil))) (lNil)))) (lNil)))) (gN 8)) g [a0, some (.ref s), a2, some (.lst (L.map pr)), a4, a5, some w, a7, a8, a9, a10, a11, a12, a13, a14, a15, some (.int (k : Nat)), some w5, a18] h = g [a0, some (.ref s), a2, some (.lst (L.map pr)), a4, a5, some w, a7, some (.lst [w', u']), a9, a10, a11, a12, a13, a14, a15, some (.int (k : Nat)), some w5, a18] h2 := fun g => seq_nx (by
      (try clear eh3); (try clear eh4); (try clear eh5); (try clear eh6); (try clear eh7); (try clear eh8); (try clear eh9); (try clear eh10); (try clear len1); (try clear len2); (try clear len3); (try clear len4); (try clear len5); (try clear len6); (try clear len7); (try clear len8); (try clear hlen); (try clear nl); (try clear nl2); (try clear et); (try clear q); (try clear el); (try clear el2)
      walk_at "ev")
    have q3 : ∀ g : SF, sSeq (sPar 9 10 (lCons (fCall reprW (lCons (fVar 8) (lNil))) (lCons (fLst (lCons (fFn K30.m_turns_fault (lCons (fOp2 ixA (fVar 8) (fC (.int 0))) (lCons (fOp2 ixA (fVar 8) (fC (.int 1))) (lNil)))) (lCons (fFnK K30.m_turns_fault 0 2 [1, 0] (lNil) (lCons (fOp2 ixA (fVar 8) (fC (.int 1))) (lCons (fCall listW (lCons (fVar 3) (lNil))) (lNil)))) (lNil)))) (lNil)))) g [a0, some (.ref s), a2, some (.lst (L.map pr)), a4, a5, some w, a7, some (.lst [w', u']), a9, a10, a11, a12, a13, a14, a15, some (.int (k : Nat)), some w5, a18] h2 = g [a0, some (.ref s), a2, some (.lst (L.map pr)), a4, a5, some w, a7, some (.lst [w', u']), some (.str z), some (.lst [.int (k : Nat), .int (k : Nat)]), a11, a12, a13, a14, a15, some (.int (k : Nat)), some w5, a18] h4 := fun g => seq_nx (by
      have r0 := rp h2
      (try clear eh3); (try clear eh4); (try clear eh5); (try clear eh6); (try clear eh7); (try clear eh8); (try clear eh9); (try clear eh10); (try clear len1); (try clear len2); (try clear len3); (try clear len4); (try clear len5); (try clear len6); (try clear len7); (try clear len8); (try clear hlen); (try clear nl); (try clear nl2); (try clear et); (try clear q); (try clear el); (try clear el2)
      walk_at "ev")
    have q4 : ∀ g : SF, sSeq (sAsg (fLstR (lCons (fMet K30.mf__law_met (fFn K30.m_turns_behind (lCons (fOp2 ixA (fVar 8) (fC (.int 0))) (lCons (fOp2 ixA (fVar 8) (fC (.int 1))) (lNil))))) (lNil))) (gN 18)) g [a0, some (.ref s), a2, some (.lst (L.map pr)), a4, a5, some w, a7, some (.lst [w', u']), some (.str z), some (.lst [.int (k : Nat), .int (k : Nat)]), a11, a12, a13, a14, a15, some (.int (k : Nat)), some w5, a18] h4 = g [a0, some (.ref s), a2, some (.lst (L.map pr)), a4, a5, some w, a7, some (.lst [w', u']), some (.str z), some (.lst [.int (k : Nat), .int (k : Nat)]), a11, a12, a13, a14, a15, some (.int (k : Nat)), some w5, some (.ref h5.length)] h6 := fun g => seq_nx (by
      rw [eh6]
      (try clear eh3); (try clear eh4); (try clear eh5); (try clear eh6); (try clear eh7); (try clear eh8); (try clear eh9); (try clear eh10); (try clear len1); (try clear len2); (try clear len3); (try clear len4); (try clear len5); (try clear len6); (try clear len7); (try clear len8); (try clear hlen); (try clear nl); (try clear nl2); (try clear et); (try clear q); (try clear el); (try clear el2)
      walk_at "ev")
    have q5 : ∀ g : SF, sSeq (sExpr (fM isLst mAppend (fVar 18) (lCons (fMet K30.mf__law_met (fFnK K30.m_turns_behind 0 2 [1, 0] (lNil) (lCons (fOp2 ixA (fVar 8) (fC (.int 1))) (lCons (fCall listW (lCons (fVar 3) (lNil))) (lNil))))) (lNil)))) g [a0, some (.ref s), a2, some (.lst (L.map pr)), a4, a5, some w, a7, some (.lst [w', u']), some (.str z), some (.lst [.int (k : Nat), .int (k : Nat)]), a11, a12, a13, a14, a15, some (.int (k : Nat)), some w5, some (.ref h5.length)] h6 = g [a0, some (.ref s), a2, some (.lst (L.map pr)), a4, a5, some w, a7, some (.lst [w', u']), some (.str z), some (.lst [.int (k : Nat), .int (k : Nat)]), a11, a12, a13, a14, a15, some (.int (k : Nat)), some w5, some (.ref h5.length)] h8 := fun g => seq_nx (by
      (try clear eh3); (try clear eh4); (try clear eh5); (try clear eh6); (try clear eh7); (try clear eh8); (try clear eh9); (try clear eh10); (try clear len1); (try clear len2); (try clear len3); (try clear len4); (try clear len5); (try clear len6); (try clear len7); (try clear len8); (try clear hlen); (try clear nl); (try clear nl2); (try clear et); (try clear q); (try clear el); (try clear el2)
      walk_at "ev")
    have q6 : ∀ g : SF, sSeq (sAsg (fIf (bVal (fOp2 isN (fVar 16) (fC .non))) (fTup (lCons (fC (.str "told")) (lCons (fVar 17) (lNil)))) (fTup (lCons (fC (.str "run")) (lCons (fVar 16) (lNil))))) (gN 7)) g [a0, some (.ref s), a2, some (.lst (L.map pr)), a4, a5, some w, a7, some (.lst [w', u']), some (.str z), some (.lst [.int (k : Nat), .int (k : Nat)]), a11, a12, a13, a14, a15, some (.int (k : Nat)), some w5, some (.ref h5.length)] h8 = g [a0, some (.ref s), a2, some (.lst (L.map pr)), a4, a5, some w, some (.tup [.str "run", .int (k : Nat)]), some (.lst [w', u']), some (.str z), some (.lst [.int (k : Nat), .int (k : Nat)]), a11, a12, a13, a14, a15, some (.int (k : Nat)), some w5, some (.ref h5.length)] h8 := fun g => seq_nx (by
      (try clear eh3); (try clear eh4); (try clear eh5); (try clear eh6); (try clear eh7); (try clear eh8); (try clear eh9); (try clear eh10); (try clear len1); (try clear len2); (try clear len3); (try clear len4); (try clear len5); (try clear len6); (try clear len7); (try clear len8); (try clear hlen); (try clear nl); (try clear nl2); (try clear et); (try clear q); (try clear el); (try clear el2)
      walk_at "ev")
    have q7 : ∀ g : SF, sSeq (sIf (bOr (bNot (bVal (fFn (K30.m__law_same 12) (lCons (fVar 10) (lCons (fLst (lCons (fVar 16) (lCons (fVar 16) (lNil)))) (lNil)))))) (bOr (bNot (bVal (fFn (K30.m__law_same 12) (lCons (fVar 18) (lCons (fLst (lCons (fVar 7) (lCons (fVar 7) (lNil)))) (lNil)))))) (bVal (fOp2 neW (fCall reprW (lCons (fVar 8) (lNil))) (fVar 9))))) (sRet (fC (.bl false))) (sNext)) g [a0, some (.ref s), a2, some (.lst (L.map pr)), a4, a5, some w, some (.tup [.str "run", .int (k : Nat)]), some (.lst [w', u']), some (.str z), some (.lst [.int (k : Nat), .int (k : Nat)]), a11, a12, a13, a14, a15, some (.int (k : Nat)), some w5, some (.ref h5.length)] h8 = g [a0, some (.ref s), a2, some (.lst (L.map pr)), a4, a5, some w, some (.tup [.str "run", .int (k : Nat)]), some (.lst [w', u']), some (.str z), some (.lst [.int (k : Nat), .int (k : Nat)]), a11, a12, a13, a14, a15, some (.int (k : Nat)), some w5, some (.ref h5.length)] h8 := fun g => seq_nx (by
      have r0 := rp h8
      have nz := nes (h := h8) (z := z)
      (try clear eh3); (try clear eh4); (try clear eh5); (try clear eh6); (try clear eh7); (try clear eh8); (try clear eh9); (try clear eh10); (try clear len1); (try clear len2); (try clear len3); (try clear len4); (try clear len5); (try clear len6); (try clear len7); (try clear len8); (try clear hlen); (try clear nl); (try clear nl2); (try clear et); (try clear q); (try clear el); (try clear el2)
      walk_at "ev")
    obtain ⟨h9, eh9⟩ : ∃ x, x = h8 ++ [O.lst []] := ⟨_, rfl⟩
    have g9 : h9[h8.length]? = some (.lst []) := by rw [eh9]; exact app_at
    have sp := spoilt_inerts (k := 4) g9 (by simp) (by simp)
    obtain ⟨h10, eh10⟩ : ∃ x, x = h9.set h8.length (O.lst ([] ++ [.str "late"])) := ⟨_, rfl⟩
    rw [← eh10] at sp
    have S10 : Stm s s0 (c + 200) h10 := by rw [eh10, eh9]; exact S8.app.setN (by omega) (by omega)
    have gr10 : Gr s s0 h h10 := by rw [eh10, eh9]; exact (gr8.trans .app).setN (by omega)
    replace sp : C.m__law_spoilt 6 [.ref h8.length] h9 = .ok .non h10 := sp
    have ixn := (At g8).ix
    refine ⟨some (.tup [.str "run", .int (k : Nat)]), some (.lst [w', u']), some (.str z), some (.lst [.int (k : Nat), .int (k : Nat)]), some (.int (k : Nat)), some w5, some (.ref h5.length), h10, ?_, S10, gr10⟩
    unfold K30.b_law_3
    rw [q1, q2, q3, q4, q5, q6, q7]
    rw [eh9] at sp
    (try clear eh3); (try clear eh4); (try clear eh5); (try clear eh6); (try clear eh7); (try clear eh8); (try clear eh9); (try clear eh10); (try clear len1); (try clear len2); (try clear len3); (try clear len4); (try clear len5); (try clear len6); (try clear len7); (try clear len8); (try clear hlen); (try clear nl); (try clear nl2); (try clear et); (try clear q); (try clear el); (try clear el2)
    walk_at "ev"
end
end PM
set_option Elab.async false
set_option linter.all false
set_option maxRecDepth 100000
set_option maxHeartbeats 1000000
namespace PM
open PySem hiding Env
open L2 PF
theorem rev_seq {h : AH} {w : W} {xs : List W} (e : seqL h w = some xs) : revW h w = some (.lst xs.reverse) := by
  unfold revW
  rw [e]; rfl
theorem datas_line : ∀ L : List Pn, ∃ ds, datasW (L.map pr) = some ds
  | [] => ⟨[], rfl⟩
  | p :: L => by
    obtain ⟨ds, e⟩ := datas_line L
    refine ⟨.tuple [.str p.1, .int p.2] :: ds, ?_⟩
    show (match dataW (pr p), datasW (L.map pr) with | some d, some ds => some (d :: ds) | _, _ => none) = _
    rw [e]
    rfl
local macro_rules | `(tactic| walk_at "ev") => `(tactic| simp (config := { implicitDefEqProofs := false }) only [ev_var, ev_c, ev_op1, ev_op2, ev_if, ev_val, ev_bnot, ev_band, ev_bor, ev_and, ev_or, ev_nil, ev_cons, ev_tup, ev_lst, ev_lstR, ev_call, ev_fn, ev_fnK, ev_m0, ev_m, ev_chain, ev_next, ev_seq, ev_expr, ev_ret, ev_retN, ev_sif, ev_asg, ev_par, ev_gN, ev_gsub, ev_gsnil, ev_gscons, ev_gT, ev_slice, ev_pnone, ev_psome, ev_intOf, ev_raise, ev_dct0, ev_listR, ev_addR, ev_iVal, ev_noX_ok, ev_def, ev_end_rt, ev_end_nx, ev_end_exc, ev_start, bind_ok, bind_bad, bind_exc, bindS_ok, bindS_exc, bindS_bad, opt_some, opt_none, optB_some, truth_bl, add_int, sub_int, neg_int, mul_int, fdiv_int, mod_int, pow_int, lt_int, le_int, gt_int, ge_int, not_bl, int_int, abs_int, seqL_lst, seqA_lst, seqA_tup, dctOf_lst, dctOf_tup, dctOf_str, ix_lst, ix_tup, atI0, atI1, atI2, atI3, eq_int, List.getElem?_cons_zero, List.getElem?_cons_succ, List.set_cons_zero, List.set_cons_succ, List.map_cons, List.map_nil, List.cons_append, List.nil_append, List.append_nil, List.length_cons, List.length_nil, List.replicate_succ, List.replicate_zero, ite_true, ite_false, and_self, and_true, true_and, ne_eq, not_false_eq_true, decide_true, decide_false, Bool.false_eq_true, reduceIte, Bool.not_true, Bool.not_false, Int.reduceEq, Int.reduceNe, Int.reduceLE, Int.reduceLT, Int.reduceNeg, Int.reduceAdd, Int.reduceSub, Int.reduceMul, Int.reduceToNat, Int.reducePow, Nat.reduceAdd, Nat.reduceSub, Nat.reduceLeDiff, Nat.reduceEqDiff, not_true_eq_false, decide_eq_true_eq, decide_eq_false_iff_not, Int.not_lt, Int.not_le, isi1, isi2, isi3, ty_non, ty_bl, ty_int, ty_strW, ty_tup, ty_lst, ty_dct, tb_ll, tb_lt, tb_tl, tb_tt, tb_nl, tb_nt, tb_nd, tb_nb, tb_ni, tb_ns, tb_bl, tb_bt, tb_bd, tb_bb, tb_bi, tb_bs, tb_il, tb_it, tb_id, tb_ib, tb_ii, tb_is, tb_sl, tb_st, tb_sd, tb_sb, tb_si, tb_ss, tb_ld, tb_lb, tb_li, tb_ls, tb_td, tb_tb, tb_ti, tb_ts, tb_dl, tb_dt, tb_dd, tb_db, tb_di, tb_ds, ne_bl, eq_bl, eq_str, ne_str, ne_int, eq_non, isN_non, isN_bl, isN_int, isN_str, isN_tup, isN_lst, isN_ref, notN_non, notN_int, map_some, len_lst, len_tup, Bool.or_false, Bool.false_or, Bool.or_true, Bool.true_or, Bool.or_self, Bool.and_true, Bool.true_and, Bool.and_false, Bool.false_and, *])
section
variable {s s0 c : Nat} {h : AH} {L : List Pn} {a0 a1 a2 a3 a4 a5 a6 a7 a8 a9 a10 a11 a12 a13 a14 a15 a16 a17 a18 : Option W}
theorem l1_ok (S : Stm s s0 c h) (hc : c + 1000 < 1099511627776) (lo : LineOk L) (hl : L.length ≤ 20) :
    ∃ (a5' a6' a7' a8' a9' a10' : Option W) (h' : AH), sFor (iRange1 (lCons (fC (.int 6)) (lNil))) (gN 5) (K30.b_law_1) [a0, some (.ref s), a2, some (.lst (L.map pr)), a4, a5, a6, a7, a8, a9, a10, a11, a12, a13, a14, a15, a16, a17, a18] h = .nx [a0, some (.ref s), a2, some (.lst (L.map pr)), a4, a5', a6', a7', a8', a9', a10', a11, a12, a13, a14, a15, a16, a17, a18] h' ∧ Stm s s0 (c + 360) h' ∧ Gr s s0 h h' := by
  obtain ⟨env', h', e1, a5', a6', a7', a8', a9', a10', ee, S1, g1⟩ := forL_inv (G := fun _ => True) (g := gN 5) (body := K30.b_law_1) (fun p env h' => ∃ a5' a6' a7' a8' a9' a10' : Option W, env = [a0, some (.ref s), a2, some (.lst (L.map pr)), a4, a5', a6', a7', a8', a9', a10', a11, a12, a13, a14, a15, a16, a17, a18] ∧ Stm s s0 (c + 60 * p.length) h' ∧ Gr s s0 h h')
    (rng 0 6) [] [a0, some (.ref s), a2, some (.lst (L.map pr)), a4, a5, a6, a7, a8, a9, a10, a11, a12, a13, a14, a15, a16, a17, a18] h ⟨a5, a6, a7, a8, a9, a10, rfl, S, .refl⟩ (fun _ _ _ _ => True.intro) (fun p w r env h1 ew i => by
      obtain ⟨a5', a6', a7', a8', a9', a10', ee, S1, g1⟩ := i
      subst ee
      have hp := (rng_split ew).2
      obtain ⟨a6'', a7'', a8'', a9'', a10'', h2, e2, S2, g2⟩ := b1_ok (a0 := a0) (a2 := a2) (a4 := a4) (a5 := some w) (a6 := a6') (a7 := a7') (a8 := a8') (a9 := a9') (a10 := a10') (a11 := a11) (a12 := a12) (a13 := a13) (a14 := a14) (a15 := a15) (a16 := a16) (a17 := a17) (a18 := a18) S1 (by omega) lo hl
      refine ⟨_, h1, _, h2, rfl, e2, some w, a6'', a7'', a8'', a9'', a10'', rfl, S2.mono ?_, g1.trans g2⟩
      simp only [List.length_append, List.length_cons, List.length_nil]
      omega)
  subst ee
  rw [List.nil_append, rng_len] at S1
  refine ⟨a5', a6', a7', a8', a9', a10', h', ?_, S1, g1⟩
  exact (ev_For (it := ⟨rng 0 6, fun _ => True⟩) (h1 := h) (range_ok (n := 6) rfl (by decide))).trans e1
theorem l2_ok {nr n : Nat} {fe : EF} {h0 : AH} {e0 : AH} (hn : n ≤ 6) (hf : lCons fe lNil [a0, some (.ref s), a2, some (.lst (L.map pr)), a4, a5, a6, a7, a8, a9, a10, some (.ref nr), a12, a13, a14, a15, a16, a17, a18] e0 = .ok [.int (n : Nat)] h) (S : Stm s s0 c h) (hc : c + 1000 < 1099511627776) (hl : L.length ≤ 20) (hL : n = 0 ∨ 0 < L.length) (hr : h[nr]? = some (.lst [])) (x : nr ≠ s) (y : nr ≠ s0) (gr : Gr s s0 h0 h) (lg : h0.length ≤ nr) :
    ∃ (a12' a13' : Option W) (h' : AH) (xs : List W), sFor (iRange1 (lCons fe lNil)) (gN 12) (K30.b_law_2) [a0, some (.ref s), a2, some (.lst (L.map pr)), a4, a5, a6, a7, a8, a9, a10, some (.ref nr), a12, a13, a14, a15, a16, a17, a18] e0 = .nx [a0, some (.ref s), a2, some (.lst (L.map pr)), a4, a5, a6, a7, a8, a9, a10, some (.ref nr), a12', a13', a14, a15, a16, a17, a18] h' ∧ h'[nr]? = some (.lst xs) ∧ (∀ x ∈ xs, OddT x) ∧ xs.length ≤ 6 ∧ Stm s s0 (c + 12) h' ∧ Gr s s0 h0 h' := by
  obtain ⟨env', h', e1, a12', a13', xs, ee, g1, o1, l1, S1, gr1⟩ := forL_inv (G := fun _ => True) (g := gN 12) (body := K30.b_law_2) (fun p env h' => ∃ (a12' a13' : Option W) (xs : List W), env = [a0, some (.ref s), a2, some (.lst (L.map pr)), a4, a5, a6, a7, a8, a9, a10, some (.ref nr), a12', a13', a14, a15, a16, a17, a18] ∧ h'[nr]? = some (.lst xs) ∧ (∀ x ∈ xs, OddT x) ∧ xs.length = p.length ∧ Stm s s0 (c + 2 * p.length) h' ∧ Gr s s0 h0 h')
    (rng 0 n) [] [a0, some (.ref s), a2, some (.lst (L.map pr)), a4, a5, a6, a7, a8, a9, a10, some (.ref nr), a12, a13, a14, a15, a16, a17, a18] h ⟨a12, a13, [], rfl, hr, by simp, rfl, S, gr⟩ (fun _ _ _ _ => True.intro) (fun p w r env h1 ew i => by
      obtain ⟨a12', a13', xs, ee, g1, o1, l1, S1, gr1⟩ := i
      subst ee
      have hp := (rng_split ew).2
      obtain ⟨a13'', h2, x1, e2, g2, o2, S2, k2⟩ := b2_ok (a0 := a0) (a2 := a2) (a4 := a4) (a5 := a5) (a6 := a6) (a7 := a7) (a8 := a8) (a9 := a9) (a10 := a10) (a12 := some w) (a13 := a13') (a14 := a14) (a15 := a15) (a16 := a16) (a17 := a17) (a18 := a18) S1 (by omega) hl (by omega) g1 x y (by omega)
      refine ⟨_, h1, _, h2, rfl, e2, some w, a13'', xs ++ [x1], rfl, g2, fun z hz => ?_, by simp [l1], S2.mono ?_, k2 h0 gr1 lg⟩
      · rcases List.mem_append.mp hz with hz | hz
        · exact o1 z hz
        · rw [List.mem_singleton] at hz
          subst hz; exact o2
      · simp only [List.length_append, List.length_cons, List.length_nil]
        omega)
  subst ee
  rw [List.nil_append, rng_len] at l1 S1
  refine ⟨a12', a13', h', xs, ?_, g1, o1, by omega, S1.mono (by omega), gr1⟩
  exact (ev_For (it := ⟨rng 0 n, fun _ => True⟩) (h1 := h) (range_ok (n := n) hf (by omega))).trans e1
theorem l3_ok {things : List W} (S : Stm s s0 c h) (hc : c + 3000 < 1099511627776) (lo : LineOk L) (hl : L.length ≤ 20) (ht : things.length = 8) (hT : ∀ w ∈ things, ∃ u o, ∀ h', Gr s s0 h h' → Thing h' w u o) :
    ∃ (a6' a7' a8' a9' a10' a16' a17' a18' : Option W) (h' : AH), sFor (iVal (fVar 15)) (gN 6) (K30.b_law_3) [a0, some (.ref s), a2, some (.lst (L.map pr)), a4, a5, a6, a7, a8, a9, a10, a11, a12, a13, a14, some (.lst things), a16, a17, a18] h = .nx [a0, some (.ref s), a2, some (.lst (L.map pr)), a4, a5, a6', a7', a8', a9', a10', a11, a12, a13, a14, some (.lst things), a16', a17', a18'] h' ∧ Stm s s0 (c + 1600) h' := by
  obtain ⟨env', h', e1, a6', a7', a8', a9', a10', a16', a17', a18', ee, S1, g1⟩ := forL_inv (G := fun _ => True) (g := gN 6) (body := K30.b_law_3) (fun p env h' => ∃ a6' a7' a8' a9' a10' a16' a17' a18' : Option W, env = [a0, some (.ref s), a2, some (.lst (L.map pr)), a4, a5, a6', a7', a8', a9', a10', a11, a12, a13, a14, some (.lst things), a16', a17', a18'] ∧ Stm s s0 (c + 200 * p.length) h' ∧ Gr s s0 h h')
    things [] [a0, some (.ref s), a2, some (.lst (L.map pr)), a4, a5, a6, a7, a8, a9, a10, a11, a12, a13, a14, some (.lst things), a16, a17, a18] h ⟨a6, a7, a8, a9, a10, a16, a17, a18, rfl, S, .refl⟩ (fun _ _ _ _ => True.intro) (fun p w r env h1 ew i => by
      obtain ⟨a6', a7', a8', a9', a10', a16', a17', a18', ee, S1, g1⟩ := i
      subst ee
      have ew' : things = p ++ w :: r := ew
      have hp : p.length < 8 := by rw [← ht, ew']; simp
      obtain ⟨u, o, hw⟩ := hT w (by rw [ew']; simp)
      obtain ⟨a7'', a8'', a9'', a10'', a16'', a17'', a18'', h2, e2, S2, g2⟩ := b3_ok (a0 := a0) (a2 := a2) (a4 := a4) (a5 := a5) (a7 := a7') (a8 := a8') (a9 := a9') (a10 := a10') (a11 := a11) (a12 := a12) (a13 := a13) (a14 := a14) (a15 := some (.lst things)) (a16 := a16') (a17 := a17') (a18 := a18') S1 (by omega) lo hl (fun h' sm => hw h' (g1.trans sm.gr))
      refine ⟨_, h1, _, h2, rfl, e2, some w, a7'', a8'', a9'', a10'', a16'', a17'', a18'', rfl, S2.mono ?_, g1.trans g2⟩
      simp only [List.length_append, List.length_cons, List.length_nil]
      omega)
  subst ee
  rw [List.nil_append, ht] at S1
  refine ⟨a6', a7', a8', a9', a10', a16', a17', a18', h', ?_, S1⟩
  exact (ev_For (it := ⟨things, fun _ => True⟩) (h1 := h) rfl).trans e1
theorem b4_ok (S : Stm s s0 c h) (hc : c + 10000 < 1099511627776) :
    ∃ (a3' a4' a5' a6' a7' a8' a9' a10' a11' a12' a13' a14' a15' a16' a17' a18' : Option W) (h' : AH), K30.b_law_4 [a0, some (.ref s), a2, a3, a4, a5, a6, a7, a8, a9, a10, a11, a12, a13, a14, a15, a16, a17, a18] h = .nx [a0, some (.ref s), a2, a3', a4', a5', a6', a7', a8', a9', a10', a11', a12', a13', a14', a15', a16', a17', a18'] h' ∧ Stm s s0 (c + 3000) h' := by
  have z0 : (0 : Nat) ≤ sizeLine := Nat.zero_le _
  have z1 : (1 : Nat) ≤ sizeLine := size_small (by decide)
  have z3 : (3 : Nat) ≤ sizeLine := size_small (by decide)
  have z8 : (8 : Nat) ≤ sizeLine := size_small (by decide)
  obtain ⟨w1, h1, m1, e1, S1, sm1⟩ := pick_ok S (ws := [.int 2, .int 6, .int 20]) (by simp) (by simp) (by omega)
  obtain ⟨w2, h2, m2, e2, S2, sm2⟩ := pick_ok S1 (ws := [.int 0, .int 3, .int 5]) (by simp) (by simp) (by omega)
  obtain ⟨things, ew1, ht⟩ : ∃ n : Nat, w1 = .int (n : Int) ∧ n ≤ 20 := by
    simp only [List.mem_cons, List.not_mem_nil, or_false] at m1
    rcases m1 with e | e | e
    · exact ⟨2, e, by decide⟩
    · exact ⟨6, e, by decide⟩
    · exact ⟨20, e, by decide⟩
  obtain ⟨odds, ew2⟩ : ∃ i : Int, w2 = .int i := by
    simp only [List.mem_cons, List.not_mem_nil, or_false] at m2
    rcases m2 with e | e | e
    · exact ⟨0, e⟩
    · exact ⟨3, e⟩
    · exact ⟨5, e⟩
  subst ew1 ew2
  obtain ⟨L, h3, e3, lo, hl, S3, gr3⟩ := line_ok (odds := odds) S2 ht (by omega)
  obtain ⟨z, rp⟩ := rp_of (k := 1) (by decide) (ws := L.map pr) (by rw [List.length_map]; omega) (fun x hx => by
    obtain ⟨p, hp, ex⟩ := List.mem_map.mp hx
    subst ex
    refine .inr (.inr ⟨[.str p.1, .int p.2], .inl rfl, by show 2 ≤ 30; decide, fun y hy => ?_⟩)
    rcases List.mem_cons.mp hy with e | hy
    · subst e
      exact ⟨(lo.nm p hp).le, fun c hc => letters_lt c ((lo.nm p hp).all c hc)⟩
    · rw [List.mem_singleton] at hy
      subst hy
      show -1 ≤ p.2 ∧ p.2 ≤ 60
      rcases lo.sg p hp with e | e <;> rw [e] <;> decide)
  have q1 : ∀ g : SF, sSeq (sAsg (fFn K30.m__law_line (lCons (fVar 1) (lCons (fFn K30.m__law_pick (lCons (fVar 1) (lCons (fLst (lCons (fC (.int 2)) (lCons (fC (.int 6)) (lCons (fC (.int 20)) (lNil))))) (lNil)))) (lCons (fFn K30.m__law_pick (lCons (fVar 1) (lCons (fLst (lCons (fC (.int 0)) (lCons (fC (.int 3)) (lCons (fC (.int 5)) (lNil))))) (lNil)))) (lNil))))) (gN 3)) g [a0, some (.ref s), a2, a3, a4, a5, a6, a7, a8, a9, a10, a11, a12, a13, a14, a15, a16, a17, a18] h = g [a0, some (.ref s), a2, some (.lst (L.map pr)), a4, a5, a6, a7, a8, a9, a10, a11, a12, a13, a14, a15, a16, a17, a18] h3 := fun g => seq_nx (by
    walk_at "ev")
  have q2 : ∀ g : SF, sSeq (sAsg (fCall reprW (lCons (fVar 3) (lNil))) (gN 4)) g [a0, some (.ref s), a2, some (.lst (L.map pr)), a4, a5, a6, a7, a8, a9, a10, a11, a12, a13, a14, a15, a16, a17, a18] h3 = g [a0, some (.ref s), a2, some (.lst (L.map pr)), some (.str z), a5, a6, a7, a8, a9, a10, a11, a12, a13, a14, a15, a16, a17, a18] h3 := fun g => seq_nx (by
    have r0 := rp h3
    walk_at "ev")
  obtain ⟨a5', a6', a7', a8', a9', a10', h4, e4, S4, gr4⟩ := l1_ok (a0 := a0) (a2 := a2) (a4 := some (.str z)) (a5 := a5) (a6 := a6) (a7 := a7) (a8 := a8) (a9 := a9) (a10 := a10) (a11 := a11) (a12 := a12) (a13 := a13) (a14 := a14) (a15 := a15) (a16 := a16) (a17 := a17) (a18 := a18) S3 (by omega) lo hl
  have q3 := fun g : SF => seq_nx (g := g) e4
  obtain ⟨h5, eh5⟩ : ∃ x, x = h4 ++ [O.lst []] := ⟨_, rfl⟩
  have g5 : h5[h4.length]? = some (.lst []) := by rw [eh5]; exact app_at
  have S5 : Stm s s0 (c + 600) h5 := by rw [eh5]; exact (S4.mono (by omega)).app
  have gr5 : Gr s s0 h4 h5 := by rw [eh5]; exact .app
  obtain ⟨ls, ls0⟩ := S4.lt
  have q4 : ∀ g : SF, sSeq (sAsg (fLstR (lNil)) (gN 11)) g [a0, some (.ref s), a2, some (.lst (L.map pr)), some (.str z), a5', a6', a7', a8', a9', a10', a11, a12, a13, a14, a15, a16, a17, a18] h4 = g [a0, some (.ref s), a2, some (.lst (L.map pr)), some (.str z), a5', a6', a7', a8', a9', a10', some (.ref h4.length), a12, a13, a14, a15, a16, a17, a18] h5 := fun g => seq_nx (by
    rw [eh5]
    (try clear eh3); (try clear eh4); (try clear eh5); (try clear eh6); (try clear eh7); (try clear eh8); (try clear eh9); (try clear eh10); (try clear len1); (try clear len2); (try clear len3); (try clear len4); (try clear len5); (try clear len6); (try clear len7); (try clear len8); (try clear hlen); (try clear nl); (try clear nl2); (try clear et); (try clear q); (try clear el); (try clear el2)
    walk_at "ev")
  obtain ⟨ds, eds⟩ := datas_line L
  have nn := ne_nil (h := h5) eds
  obtain ⟨n, h6, hf, hn, hL, S6, gr6, g6⟩ : ∃ (n : Nat) (h6 : AH), lCons (fIf (bVal (fOp2 neW (fVar 3) (fLst (lNil)))) (fFn K30.m__law_draw (lCons (fVar 1) (lCons (fC (.int 6)) (lNil)))) (fC (.int 0))) lNil [a0, some (.ref s), a2, some (.lst (L.map pr)), some (.str z), a5', a6', a7', a8', a9', a10', some (.ref h4.length), a12, a13, a14, a15, a16, a17, a18] h5 = .ok [.int (n : Nat)] h6 ∧ n ≤ 6 ∧ (n = 0 ∨ 0 < L.length) ∧ Stm s s0 (c + 601) h6 ∧ Gr s s0 h4 h6 ∧ h6[h4.length]? = some (.lst []) := by
    cases L with
    | nil =>
      have nn' : neW h5 (.lst ([].map pr)) (.lst []) = some (.bl false) := nn
      refine ⟨0, h5, ?_, by decide, .inl rfl, S5.mono (by omega), gr5, g5⟩
      clear e1 e2 e3 e4 q1 q2 q3 q4 nn eh5 rp
      walk_at "ev"
      rfl
    | cons p L =>
      have nn' : neW h5 (.lst ((p :: L).map pr)) (.lst []) = some (.bl true) := nn
      obtain ⟨d, h6, e5, d0, d1, S6, sm6⟩ := draw_ok S5 (many := 6) (by decide) (by decide) (by omega)
      obtain ⟨k, ek, hk⟩ := int_of (n := 6) d0 d1
      subst ek
      refine ⟨k, h6, ?_, by omega, .inr (by simp), S6, gr5.trans sm6.gr, (sm6.at_ _ (by omega) (by omega)).trans g5⟩
      generalize (p :: L).map pr = ll at nn' 
      clear e1 e2 e3 e4 q1 q2 q3 q4 nn eh5 rp eds
      walk_at "ev"
  obtain ⟨a12', a13', h7, xs, e7, g7, ox, lx, S7, gr7⟩ := l2_ok (a0 := a0) (a2 := a2) (a4 := some (.str z)) (a5 := a5') (a6 := a6') (a7 := a7') (a8 := a8') (a9 := a9') (a10 := a10') (a12 := a12) (a13 := a13) (a14 := a14) (a15 := a15) (a16 := a16) (a17 := a17) (a18 := a18) hn hf S6 (by omega) hl hL g6 (by omega) (by omega) gr6 (Nat.le_refl _)
  have q5 := fun g : SF => seq_nx (g := g) e7
  obtain ⟨d, h8, e8, d0, d1, S8, sm8⟩ := draw_ok S7 (many := (xs.length : Int) + 1) (by omega) (by omega) (by omega)
  obtain ⟨at_, ea, hat⟩ := int_of (n := xs.length + 1) d0 (by omega)
  subst ea
  have g8 : h8[h4.length]? = some (.lst xs) := (sm8.at_ _ (by omega) (by omega)).trans g7
  have ln7 := (At g7).ln
  have q6 : ∀ g : SF, sSeq (sAsg (fFn K30.m__law_draw (lCons (fVar 1) (lCons (fOp2 addW (fCall lenW (lCons (fVar 11) (lNil))) (fC (.int 1))) (lNil)))) (gN 14)) g [a0, some (.ref s), a2, some (.lst (L.map pr)), some (.str z), a5', a6', a7', a8', a9', a10', some (.ref h4.length), a12', a13', a14, a15, a16, a17, a18] h7 = g [a0, some (.ref s), a2, some (.lst (L.map pr)), some (.str z), a5', a6', a7', a8', a9', a10', some (.ref h4.length), a12', a13', some (.int (at_ : Nat)), a15, a16, a17, a18] h8 := fun g => seq_nx (by
    clear e1 e2 e3 e4 q1 q2 q3 q4 q5 e7 rp eh5
    walk_at "ev")
  obtain ⟨t, h9, e9, ot, S9, sm9⟩ := odd_ok S8 (ws := L.map pr) (by rw [List.length_map]; omega) (by omega)
  have g9 : h9[h4.length]? = some (.lst xs) := (sm9.at_ _ (by omega) (by omega)).trans g8
  have sl1 := slice_of (At g8).sl none (some (at_ : Int))
  have sl2 := slice_of (At g9).sl (some (at_ : Int)) none
  rw [cut_to (by omega)] at sl1
  rw [cut_from (by omega)] at sl2
  have ad1 := add_lst (h := h9) (a := xs.take at_) (b := [t])
  rw [if_pos (size_small (by simp only [List.length_take, List.length_cons, List.length_nil]; omega))] at ad1
  have ad2 := add_lst (h := h9) (a := xs.take at_ ++ [t]) (b := xs.drop at_)
  rw [if_pos (size_small (by simp only [List.length_append, List.length_take, List.length_drop, List.length_cons, List.length_nil]; omega))] at ad2
  have rv := rev_seq (At g9).sl
  obtain ⟨ths, eth⟩ : ∃ x, x = [W.ref h4.length, .lst (xs.take at_ ++ [t] ++ xs.drop at_), .lst xs.reverse, .lst [], .non, .int 5, .str "ab", .dct []] := ⟨_, rfl⟩
  have q7 : ∀ g : SF, sSeq (sAsg (fLst (lCons (fVar 11) (lCons (fOp2 addW (fOp2 addW (fSlice (fVar 11) (pNone) (pSome (fVar 14))) (fLst (lCons (fFn K30.m__law_odd_turn (lCons (fVar 1) (lCons (fVar 3) (lNil)))) (lNil)))) (fSlice (fVar 11) (pSome (fVar 14)) (pNone))) (lCons (fOp1 revW (fVar 11)) (lCons (fLst (lNil)) (lCons (fC .non) (lCons (fC (.int 5)) (lCons (fC (.str "ab")) (lCons (fDct0) (lNil)))))))))) (gN 15)) g [a0, some (.ref s), a2, some (.lst (L.map pr)), some (.str z), a5', a6', a7', a8', a9', a10', some (.ref h4.length), a12', a13', some (.int (at_ : Nat)), a15, a16, a17, a18] h8 = g [a0, some (.ref s), a2, some (.lst (L.map pr)), some (.str z), a5', a6', a7', a8', a9', a10', some (.ref h4.length), a12', a13', some (.int (at_ : Nat)), some (.lst ths), a16, a17, a18] h9 := fun g => seq_nx (by
    rw [eth]
    clear e1 e2 e3 e4 q1 q2 q3 q4 q5 q6 e7 e8 rp eth eh5 ln7
    walk_at "ev")
  have hT : ∀ w ∈ ths, ∃ u o, ∀ h', Gr s s0 h9 h' → Thing h' w u o := by
    intro w hw
    rw [eth] at hw
    simp only [List.mem_cons, List.not_mem_nil, or_false] at hw
    rcases hw with e | e | e | e | e | e | e | e <;> subst e
    · exact ⟨.lst xs, some xs, fun h' gr => thing_list (At (gr.get g9 (by omega) (by omega))).sl ox (by omega)⟩
    · refine ⟨_, _, fun h' gr => thing_list rfl (fun x hx => ?_) ?_⟩
      · rcases List.mem_append.mp hx with hx | hx
        · rcases List.mem_append.mp hx with hx | hx
          · exact ox x (List.mem_of_mem_take hx)
          · rw [List.mem_singleton] at hx
            subst hx; exact ot
        · exact ox x (List.mem_of_mem_drop hx)
      · simp only [List.length_append, List.length_take, List.length_drop, List.length_cons, List.length_nil]
        omega
    · exact ⟨_, _, fun h' gr => thing_list rfl (fun x hx => ox x (List.mem_reverse.mp hx)) (by rw [List.length_reverse]; omega)⟩
    · exact ⟨_, _, fun h' gr => thing_list (xs := []) rfl (fun x hx => nomatch hx) (by decide)⟩
    · exact ⟨_, _, fun h' gr => thing_leaf rfl (.inl (.inl True.intro))⟩
    · exact ⟨_, _, fun h' gr => thing_leaf rfl (.inl (.inl ⟨by decide, by decide⟩))⟩
    · exact ⟨_, _, fun h' gr => thing_leaf rfl (.inl (.inl ⟨by decide, by decide⟩))⟩
    · exact ⟨_, _, fun h' gr => thing_leaf rfl (.inr rfl)⟩
  obtain ⟨a6'', a7'', a8'', a9'', a10'', a16'', a17'', a18'', h10, e10, S10⟩ := l3_ok (a0 := a0) (a2 := a2) (a4 := some (.str z)) (a5 := a5') (a6 := a6') (a7 := a7') (a8 := a8') (a9 := a9') (a10 := a10') (a11 := some (.ref h4.length)) (a12 := a12') (a13 := a13') (a14 := some (.int (at_ : Nat))) (a16 := a16) (a17 := a17) (a18 := a18) S9 (by omega) lo hl (by rw [eth]; rfl) hT
  have q8 := fun g : SF => seq_nx (g := g) e10
  have r0 := rp h10
  have nz := nes (h := h10) (z := z)
  refine ⟨some (.lst (L.map pr)), some (.str z), a5', a6'', a7'', a8'', a9'', a10'', some (.ref h4.length), a12', a13', some (.int (at_ : Nat)), some (.lst ths), a16'', a17'', a18'', h10, ?_, S10.mono (by omega)⟩
  unfold K30.b_law_4
  rw [q1, q2, q3, q4, q5, q6, q7, q8]
  clear e1 e2 e3 e4 e7 e8 e9 e10 hf sl1 sl2 ad1 ad2 rv eth eh5 ln7 q1 q2 q3 q4 q5 q6 q7 q8
  walk_at "ev"
end
def exL : List Pn := [("a", 1), ("b", -1), ("c", 1)]
def ex1 : List Pn := [("a", 1), ("b", 1), ("c", 1)]
def ex2 : List Pn := [("b", 1), ("a", -1), ("c", 1)]
theorem exL_ok : LineOk exL := by
  have nm : ∀ p ∈ exL, 0 < p.1.cps.toList.length ∧ p.1.cps.toList.length ≤ 8 ∧ ∀ c ∈ p.1.cps.toList, c ∈ letters := by decide +kernel
  exact ⟨fun p hp => ⟨(nm p hp).1, (nm p hp).2.1, (nm p hp).2.2⟩, by decide +kernel, by decide +kernel, by decide⟩
theorem ex_t1 : turnB exL.length (.tup [.int 1, .int 1]) = true := by decide
theorem ex_t2 : turnB exL.length (.tup [.int 0, .int 1]) = true := by decide
theorem ex_o1 : overT exL (.tup [.int 1, .int 1]) = ex1 := by decide +kernel
theorem ex_o2 : overT exL (.tup [.int 0, .int 1]) = ex2 := by decide +kernel
theorem flat2 {i j : Int} : Flat (.tup [.int i, .int j]) := .inr ⟨_, .inl rfl, by show 2 < 1000000; decide, fun x hx => by
  rcases List.mem_cons.mp hx with e | hx
  · subst e; rfl
  · rw [List.mem_singleton] at hx
    subst hx; rfl⟩
theorem nil_ok : LineOk [] := ⟨by simp, by simp, by simp, by decide⟩
theorem k30_true (ns : List Int) : ns.length ≤ 63 → (∀ z ∈ ns, Builtin.Int.intBits z ≤ 1048576) → ∃ h', K30.m_law [.scr (ns.map .int)] [] = .ok (.bl true) h' := by
  intro hl _
  obtain ⟨h1, e1, eh1, S1⟩ := stream_ok (h := []) hl
  obtain ⟨s, es⟩ : ∃ s : Nat, s = ([] : AH).length + 1 := ⟨_, rfl⟩
  obtain ⟨s0, es0⟩ : ∃ s0 : Nat, s0 = ([] : AH).length := ⟨_, rfl⟩
  rw [← es, ← es0] at S1
  rw [← es] at e1
  clear eh1 es es0
  have q1 : ∀ g : SF, sSeq (sAsg (fFn K30.m__law_stream (lCons (fVar 0) (lNil))) (gN 1)) g [some (.scr (ns.map .int)), none, none, none, none, none, none, none, none, none, none, none, none, none, none, none, none, none, none] [] = g [some (.scr (ns.map .int)), some (.ref s), none, none, none, none, none, none, none, none, none, none, none, none, none, none, none, none, none] h1 := fun g => seq_nx (by
    walk_at "ev")
  obtain ⟨env', h2, e2, a2, a3, a4, a5, a6, a7, a8, a9, a10, a11, a12, a13, a14, a15, a16, a17, a18, ee, S2⟩ := forL_inv (G := fun _ => True) (g := gN 2) (body := K30.b_law_4) (fun p env h' => ∃ a2 a3 a4 a5 a6 a7 a8 a9 a10 a11 a12 a13 a14 a15 a16 a17 a18 : Option W, env = [some (.scr (ns.map .int)), some (.ref s), a2, a3, a4, a5, a6, a7, a8, a9, a10, a11, a12, a13, a14, a15, a16, a17, a18] ∧ Stm s s0 (3000 * p.length) h')
    (rng 0 8) [] [some (.scr (ns.map .int)), some (.ref s), none, none, none, none, none, none, none, none, none, none, none, none, none, none, none, none, none] h1 ⟨none, none, none, none, none, none, none, none, none, none, none, none, none, none, none, none, none, rfl, S1⟩ (fun _ _ _ _ => True.intro) (fun p w r env h1 ew i => by
      obtain ⟨a2, a3, a4, a5, a6, a7, a8, a9, a10, a11, a12, a13, a14, a15, a16, a17, a18, ee, S1⟩ := i
      subst ee
      have hp := (rng_split ew).2
      obtain ⟨a3', a4', a5', a6', a7', a8', a9', a10', a11', a12', a13', a14', a15', a16', a17', a18', h2, e2, S2⟩ := b4_ok (a0 := some (.scr (ns.map .int))) (a2 := some w) (a3 := a3) (a4 := a4) (a5 := a5) (a6 := a6) (a7 := a7) (a8 := a8) (a9 := a9) (a10 := a10) (a11 := a11) (a12 := a12) (a13 := a13) (a14 := a14) (a15 := a15) (a16 := a16) (a17 := a17) (a18 := a18) S1 (by omega)
      refine ⟨_, h1, _, h2, rfl, e2, some w, a3', a4', a5', a6', a7', a8', a9', a10', a11', a12', a13', a14', a15', a16', a17', a18', rfl, S2.mono ?_⟩
      simp only [List.length_append, List.length_cons, List.length_nil]
      omega)
  subst ee
  have q2 := fun g : SF => seq_nx (g := g) ((ev_For (it := ⟨rng 0 8, fun _ => True⟩) (fi := iRange1 (lCons (fC (.int 8)) (lNil))) (h := h1) (h1 := h1) (range_ok (n := 8) rfl (by decide))).trans e2)
  have z0 : (0 : Nat) ≤ sizeLine := Nat.zero_le _
  have z2 : (2 : Nat) ≤ sizeLine := size_small (by decide)
  have z3 : (3 : Nat) ≤ sizeLine := size_small (by decide)
  have q3 : ∀ g : SF, sSeq (sAsg (fLst (lCons (fTup (lCons (fC (.str "a")) (lCons (fC (.int 1)) (lNil)))) (lCons (fTup (lCons (fC (.str "b")) (lCons (fOp1 negW (fC (.int 1))) (lNil)))) (lCons (fTup (lCons (fC (.str "c")) (lCons (fC (.int 1)) (lNil)))) (lNil))))) (gN 3)) g [some (.scr (ns.map .int)), some (.ref s), a2, a3, a4, a5, a6, a7, a8, a9, a10, a11, a12, a13, a14, a15, a16, a17, a18] h2 = g [some (.scr (ns.map .int)), some (.ref s), a2, some (.lst (exL.map pr)), a4, a5, a6, a7, a8, a9, a10, a11, a12, a13, a14, a15, a16, a17, a18] h2 := fun g => seq_nx (by
    clear q1 q2 e1 e2
    walk_at "ev"
    rfl)
  have t1 := turned_ok (h := h2) (lw_self exL) exL_ok (flat2 (i := 1) (j := 1))
  rw [if_pos ex_t1, ex_o1] at t1
  obtain ⟨h3, eh3⟩ : ∃ x, x = h2 ++ [O.lst (exL.map pr), .lst (ex1.map pr)] := ⟨_, rfl⟩
  rw [← eh3] at t1
  have g3 : h3[h2.length + 1]? = some (.lst (ex1.map pr)) := by rw [eh3]; exact app_at1
  have t2 := turned_ok (h := h3) (lw_self exL) exL_ok (flat2 (i := 0) (j := 1))
  rw [if_pos ex_t2, ex_o2] at t2
  obtain ⟨h4, eh4⟩ : ∃ x, x = h3 ++ [O.lst (exL.map pr), .lst (ex2.map pr)] := ⟨_, rfl⟩
  rw [← eh4] at t2
  have g4 : h4[h3.length + 1]? = some (.lst (ex2.map pr)) := by rw [eh4]; exact app_at1
  have g34 : h4[h2.length + 1]? = some (.lst (ex1.map pr)) := by rw [eh4]; exact get_app g3
  obtain ⟨m, h5, t3, ⟨l, el⟩, g5, _⟩ : ∃ m h', CL.m_turns_behind [.lst [], .lst []] h4 = .ok (.ref m) h' ∧ (∃ l, h' = h4 ++ l) ∧ h'[m]? = some (.lst []) ∧ h4.length ≤ m := turns_behind_ok (h := h4) (r := .lst []) (o := some []) (lw_self []) nil_ok (.inr ⟨[], .inr rfl, rfl, by decide, by simp⟩)
  have g35 : h5[h2.length + 1]? = some (.lst (ex1.map pr)) := by rw [el]; exact get_app g34
  have g45 : h5[h3.length + 1]? = some (.lst (ex2.map pr)) := by rw [el]; exact get_app g4
  have li2 := list_lst (h := h2) (ws := exL.map pr)
  have li3 := list_lst (h := h3) (ws := exL.map pr)
  have q4 : ∀ g : SF, sSeq (sAsg (fLst (lCons (fFn K30.m_turned (lCons (fCall listW (lCons (fVar 3) (lNil))) (lCons (fTup (lCons (fC (.int 1)) (lCons (fC (.int 1)) (lNil)))) (lNil)))) (lCons (fFn K30.m_turned (lCons (fCall listW (lCons (fVar 3) (lNil))) (lCons (fTup (lCons (fC (.int 0)) (lCons (fC (.int 1)) (lNil)))) (lNil)))) (lCons (fFn K30.m_turns_behind (lCons (fLst (lNil)) (lCons (fLst (lNil)) (lNil)))) (lNil))))) (gN 10)) g [some (.scr (ns.map .int)), some (.ref s), a2, some (.lst (exL.map pr)), a4, a5, a6, a7, a8, a9, a10, a11, a12, a13, a14, a15, a16, a17, a18] h2 = g [some (.scr (ns.map .int)), some (.ref s), a2, some (.lst (exL.map pr)), a4, a5, a6, a7, a8, a9, some (.lst [.ref (h2.length + 1), .ref (h3.length + 1), .ref m]), a11, a12, a13, a14, a15, a16, a17, a18] h5 := fun g => seq_nx (by
    clear q1 q2 q3 e1 e2 eh3 eh4 el
    walk_at "ev")
  have same : C.m__law_same 12 [.lst [.ref (h2.length + 1), .ref (h3.length + 1), .ref m], .lst [.lst (ex1.map pr), .lst (ex2.map pr), .lst ([].map pr)]] h5 = .ok (.bl true) h5 :=
    same_ok 11 ((Dr.lst rfl (by simp) (.cons (line_dr (At g35).sl (by decide)) (.cons (line_dr (At g45).sl (by decide)) (.cons (line_dr (L := []) (At g5).sl (by decide)) .nil)))).more 8)
      ((Dr.lst rfl (by simp) (.cons (line_dr rfl (by decide)) (.cons (line_dr rfl (by decide)) (.cons (line_dr rfl (by decide)) .nil)))).more 8)
  refine ⟨h5, ?_⟩
  unfold K30.m_law
  show endS (K30.f_law [some (.scr (ns.map .int)), none, none, none, none, none, none, none, none, none, none, none, none, none, none, none, none, none, none] []) = _
  unfold K30.f_law
  rw [q1, q2, q3, q4]
  have same : C.m__law_same 12 [.lst [.ref (h2.length + 1), .ref (h3.length + 1), .ref m], .lst [.lst [.tup [.str "a", .int 1], .tup [.str "b", .int 1], .tup [.str "c", .int 1]], .lst [.tup [.str "b", .int 1], .tup [.str "a", .int (-1)], .tup [.str "c", .int 1]], .lst []]] h5 = .ok (.bl true) h5 := same
  clear q1 q2 q3 q4 e1 e2 eh3 eh4 el
  walk_at "ev"
end PM
set_option Elab.async false
set_option linter.all false
namespace K30
open PySem PF
theorem law_true (ns : List Int) : ns.length ≤ 63 → (∀ z ∈ ns, Builtin.Int.intBits z ≤ 1048576) → ∃ h', m_law [.scr (ns.map .int)] [] = .ok (.bl true) h' := PM.k30_true ns
end K30
set_option Elab.async false
set_option linter.all false
set_option maxRecDepth 100000
set_option maxHeartbeats 0
namespace K30
open PySem PySem.Spec PyProof.Rows L2 PF

def fn : List He.DefD := [
  ⟨("is_list", none), "is_list", "is_list", defArgs s_is_list, defBody s_is_list, defScope s_is_list, [], []⟩,
  ⟨("is_whole", none), "is_whole", "is_whole", defArgs s_is_whole, defBody s_is_whole, defScope s_is_whole, [], []⟩,
  ⟨("is_number", none), "is_number", "is_number", defArgs s_is_number, defBody s_is_number, defScope s_is_number, [], []⟩,
  ⟨("is_row", none), "is_row", "is_row", defArgs s_is_row, defBody s_is_row, defScope s_is_row, [], []⟩,
  ⟨("is_name", none), "is_name", "is_name", defArgs s_is_name, defBody s_is_name, defScope s_is_name, [], []⟩,
  ⟨("is_index", none), "is_index", "is_index", defArgs s_is_index, defBody s_is_index, defScope s_is_index, [], []⟩,
  ⟨("is_signed", none), "is_signed", "is_signed", defArgs s_is_signed, defBody s_is_signed, defScope s_is_signed, [], []⟩,
  ⟨("turned_about", none), "turned_about", "turned_about", defArgs s_turned_about, defBody s_turned_about, defScope s_turned_about, [], []⟩,
  ⟨("is_line", none), "is_line", "is_line", defArgs s_is_line, defBody s_is_line, defScope s_is_line, [], []⟩,
  ⟨("as_line", none), "as_line", "as_line", defArgs s_as_line, defBody s_as_line, defScope s_as_line, [], []⟩,
  ⟨("is_turn", none), "is_turn", "is_turn", defArgs s_is_turn, defBody s_is_turn, defScope s_is_turn, [], []⟩,
  ⟨("turned_over", none), "turned_over", "turned_over", defArgs s_turned_over, defBody s_turned_over, defScope s_turned_over, [], []⟩,
  ⟨("turned", none), "turned", "turned", defArgs s_turned, defBody s_turned, defScope s_turned, [], []⟩,
  ⟨("first_no_turn", none), "first_no_turn", "first_no_turn", defArgs s_first_no_turn, defBody s_first_no_turn, defScope s_first_no_turn, [], []⟩,
  ⟨("turns_fault", none), "turns_fault", "turns_fault", defArgs s_turns_fault, defBody s_turns_fault, defScope s_turns_fault, [], []⟩,
  ⟨("behind_turns", none), "behind_turns", "behind_turns", defArgs s_behind_turns, defBody s_behind_turns, defScope s_behind_turns, [], []⟩,
  ⟨("turns_behind", none), "turns_behind", "turns_behind", defArgs s_turns_behind, defBody s_turns_behind, defScope s_turns_behind, [], []⟩,
  ⟨("_law_stream", none), "_law_stream", "_law_stream", defArgs s__law_stream, defBody s__law_stream, defScope s__law_stream, [], []⟩,
  ⟨("_law_draw", none), "_law_draw", "_law_draw", defArgs s__law_draw, defBody s__law_draw, defScope s__law_draw, [], []⟩,
  ⟨("_law_pick", none), "_law_pick", "_law_pick", defArgs s__law_pick, defBody s__law_pick, defScope s__law_pick, [], []⟩,
  ⟨("_law_same", none), "_law_same", "_law_same", defArgs s__law_same, defBody s__law_same, defScope s__law_same, [], []⟩,
  ⟨("_law_loose", none), "_law_loose", "_law_loose", defArgs s__law_loose, defBody s__law_loose, defScope s__law_loose, [], []⟩,
  ⟨("_law_names", none), "_law_names", "_law_names", defArgs s__law_names, defBody s__law_names, defScope s__law_names, [], []⟩,
  ⟨("_law_copied", none), "_law_copied", "_law_copied", defArgs s__law_copied, defBody s__law_copied, defScope s__law_copied, [], []⟩,
  ⟨("_law_spoilt", none), "_law_spoilt", "_law_spoilt", defArgs s__law_spoilt, defBody s__law_spoilt, defScope s__law_spoilt, [], []⟩,
  ⟨("_law_line", none), "_law_line", "_law_line", defArgs s__law_line, defBody s__law_line, defScope s__law_line, [], []⟩,
  ⟨("_law_over", none), "_law_over", "_law_over", defArgs s__law_over, defBody s__law_over, defScope s__law_over, [], []⟩,
  ⟨("_law_is_turn", none), "_law_is_turn", "_law_is_turn", defArgs s__law_is_turn, defBody s__law_is_turn, defScope s__law_is_turn, [], []⟩,
  ⟨("_law_turn_run", none), "_law_turn_run", "_law_turn_run", defArgs s__law_turn_run, defBody s__law_turn_run, defScope s__law_turn_run, [], []⟩,
  ⟨("_law_met", none), "_law_met", "_law_met", defArgs s__law_met, defBody s__law_met, defScope s__law_met, [], []⟩,
  ⟨("_law_odd_turn", none), "_law_odd_turn", "_law_odd_turn", defArgs s__law_odd_turn, defBody s__law_odd_turn, defScope s__law_odd_turn, [], []⟩,
  ⟨("law", none), "law", "law", defArgs s_law, defBody s_law, defScope s_law, [], []⟩,
  ⟨("BadRun", some "__init__"), "__init__", ("BadRun" : Str) ++ ".__init__", defArgs s_init_BadRun, defBody s_init_BadRun, defScope s_init_BadRun, [], []⟩,
  ⟨("BadLine", some "__init__"), "__init__", ("BadLine" : Str) ++ ".__init__", defArgs s_init_BadLine, defBody s_init_BadLine, defScope s_init_BadLine, [], []⟩,
  ⟨("BadTurn", some "__init__"), "__init__", ("BadTurn" : Str) ++ ".__init__", defArgs s_init_BadTurn, defBody s_init_BadTurn, defScope s_init_BadTurn, [], []⟩]
def fa : List He.Fa := [
  .glo "is_list",
  .glo "is_whole",
  .glo "is_number",
  .glo "is_row",
  .glo "is_name",
  .glo "is_index",
  .glo "is_signed",
  .glo "turned_about",
  .glo "is_line",
  .glo "as_line",
  .glo "is_turn",
  .glo "turned_over",
  .glo "turned",
  .glo "first_no_turn",
  .glo "turns_fault",
  .glo "behind_turns",
  .glo "turns_behind",
  .glo "_law_stream",
  .glo "_law_draw",
  .glo "_law_pick",
  .glo "_law_same",
  .glo "_law_loose",
  .glo "_law_names",
  .glo "_law_copied",
  .glo "_law_spoilt",
  .glo "_law_line",
  .glo "_law_over",
  .glo "_law_is_turn",
  .glo "_law_turn_run",
  .glo "_law_met",
  .glo "_law_odd_turn",
  .glo "law",
  .glo "BadRun",
  .glo "BadLine",
  .glo "BadTurn",
  .free "abs",
  .free "all",
  .free "bool",
  .free "dict",
  .free "enumerate",
  .free "int",
  .free "isinstance",
  .free "len",
  .free "list",
  .free "range",
  .free "repr",
  .free "str",
  .free "tuple",
  .free "zip",
  .str "LETTERS" "abcdefghijklmnopqrstuvwxyz",
  .exm "BadRun" "BadTurn" false,
  .exm "BadLine" "BadTurn" false,
  .exm "BadTurn" "BadTurn" true,
  .exm "BadRun" "BadRun" true,
  .exm "BadLine" "BadRun" false,
  .exm "BadTurn" "BadRun" false]
def ex (K : PySem.W.Frag) : Bool := xfacts "BadRun" "index" K && xfacts "BadLine" "line" K && xfacts "BadTurn" "turn" K
def tf : List He.Defn := [("law", none)]
abbrev R : PySem.W.OpenRow := PySem.W.OpenLaw.row PySem.Challenge.rw_joinedanew_k30_whole_lines_and_turns
abbrev hk : PySem.W.Hook := He.hookX 5 fa fn [] tf ex
def ob (s : PySem.W.SharedT) : He.AlX := He.obsX 5 fa fn [] tf ex (HandSHeadRun.getT s)
theorem ob_eq (s : PySem.W.SharedT) : ob s = hk.obs s.abs := He.obsX_eq (HandSHeadRun.getT_eq s)
def loose0 : List Str := ["LETTERS", "is_list", "is_whole", "is_number", "is_row", "is_name", "is_index", "JoinError", "BadRun", "BadLine", "BadTurn", "is_signed", "turned_about", "is_line", "as_line", "is_turn", "turned_over", "turned", "first_no_turn", "turns_fault", "behind_turns", "turns_behind", "_law_stream", "_law_draw", "_law_pick", "_law_same", "_law_loose", "_law_names", "_law_copied", "_law_spoilt"]
def loose1 : List Str := ["_law_line", "_law_over", "_law_is_turn", "_law_turn_run", "_law_met", "_law_odd_turn"]
def loose : List Str := loose0 ++ loose1
theorem run (w : World) : HandSHeadRun.RunEq R (PySem.W.view R.prog [42]) hk ob 4000 loose w := by
  intro os
  kernel_rfl
theorem txt {mg : Str → Option Value} {K : PySem.W.Frag} {h : Heap} {w : World} (X : K.In h) (G : h.Ns mainGlobals mg) (c0 : He.SaysX fa fn [] tf ex w h K) : Nonempty (Txt K mg) := by
  have c : He.SaysD fa fn K := He.SaysT.d c0.t
  obtain ⟨fd_is_list, F_is_list⟩ := c.def_ 0 rfl
  obtain ⟨fd_is_whole, F_is_whole⟩ := c.def_ 1 rfl
  obtain ⟨fd_is_number, F_is_number⟩ := c.def_ 2 rfl
  obtain ⟨fd_is_row, F_is_row⟩ := c.def_ 3 rfl
  obtain ⟨fd_is_name, F_is_name⟩ := c.def_ 4 rfl
  obtain ⟨fd_is_index, F_is_index⟩ := c.def_ 5 rfl
  obtain ⟨fd_is_signed, F_is_signed⟩ := c.def_ 6 rfl
  obtain ⟨fd_turned_about, F_turned_about⟩ := c.def_ 7 rfl
  obtain ⟨fd_is_line, F_is_line⟩ := c.def_ 8 rfl
  obtain ⟨fd_as_line, F_as_line⟩ := c.def_ 9 rfl
  obtain ⟨fd_is_turn, F_is_turn⟩ := c.def_ 10 rfl
  obtain ⟨fd_turned_over, F_turned_over⟩ := c.def_ 11 rfl
  obtain ⟨fd_turned, F_turned⟩ := c.def_ 12 rfl
  obtain ⟨fd_first_no_turn, F_first_no_turn⟩ := c.def_ 13 rfl
  obtain ⟨fd_turns_fault, F_turns_fault⟩ := c.def_ 14 rfl
  obtain ⟨fd_behind_turns, F_behind_turns⟩ := c.def_ 15 rfl
  obtain ⟨fd_turns_behind, F_turns_behind⟩ := c.def_ 16 rfl
  obtain ⟨fd__law_stream, F__law_stream⟩ := c.def_ 17 rfl
  obtain ⟨fd__law_draw, F__law_draw⟩ := c.def_ 18 rfl
  obtain ⟨fd__law_pick, F__law_pick⟩ := c.def_ 19 rfl
  obtain ⟨fd__law_same, F__law_same⟩ := c.def_ 20 rfl
  obtain ⟨fd__law_loose, F__law_loose⟩ := c.def_ 21 rfl
  obtain ⟨fd__law_names, F__law_names⟩ := c.def_ 22 rfl
  obtain ⟨fd__law_copied, F__law_copied⟩ := c.def_ 23 rfl
  obtain ⟨fd__law_spoilt, F__law_spoilt⟩ := c.def_ 24 rfl
  obtain ⟨fd__law_line, F__law_line⟩ := c.def_ 25 rfl
  obtain ⟨fd__law_over, F__law_over⟩ := c.def_ 26 rfl
  obtain ⟨fd__law_is_turn, F__law_is_turn⟩ := c.def_ 27 rfl
  obtain ⟨fd__law_turn_run, F__law_turn_run⟩ := c.def_ 28 rfl
  obtain ⟨fd__law_met, F__law_met⟩ := c.def_ 29 rfl
  obtain ⟨fd__law_odd_turn, F__law_odd_turn⟩ := c.def_ 30 rfl
  obtain ⟨fd_law, F_law⟩ := c.def_ 31 rfl
  obtain ⟨fd_BadRun, F_BadRun⟩ := c.def_ 32 rfl
  obtain ⟨fd_BadLine, F_BadLine⟩ := c.def_ 33 rfl
  obtain ⟨fd_BadTurn, F_BadTurn⟩ := c.def_ 34 rfl
  have exh := c0.more
  unfold ex at exh
  simp only [Bool.and_eq_true] at exh
  obtain ⟨⟨x_BadRun, x_BadLine⟩, x_BadTurn⟩ := exh
  obtain ⟨X_BadRun⟩ := xfacts_ok (st := s_init_BadRun) x_BadRun (He.glo_ok X G (c.fact 32 rfl)) F_BadRun
  obtain ⟨X_BadLine⟩ := xfacts_ok (st := s_init_BadLine) x_BadLine (He.glo_ok X G (c.fact 33 rfl)) F_BadLine
  obtain ⟨X_BadTurn⟩ := xfacts_ok (st := s_init_BadTurn) x_BadTurn (He.glo_ok X G (c.fact 34 rfl)) F_BadTurn
  exact ⟨⟨⟨fd_is_list, F_is_list, He.glo_ok X G (c.fact 0 rfl)⟩,
    ⟨fd_is_whole, F_is_whole, He.glo_ok X G (c.fact 1 rfl)⟩,
    ⟨fd_is_number, F_is_number, He.glo_ok X G (c.fact 2 rfl)⟩,
    ⟨fd_is_row, F_is_row, He.glo_ok X G (c.fact 3 rfl)⟩,
    ⟨fd_is_name, F_is_name, He.glo_ok X G (c.fact 4 rfl)⟩,
    ⟨fd_is_index, F_is_index, He.glo_ok X G (c.fact 5 rfl)⟩,
    ⟨fd_is_signed, F_is_signed, He.glo_ok X G (c.fact 6 rfl)⟩,
    ⟨fd_turned_about, F_turned_about, He.glo_ok X G (c.fact 7 rfl)⟩,
    ⟨fd_is_line, F_is_line, He.glo_ok X G (c.fact 8 rfl)⟩,
    ⟨fd_as_line, F_as_line, He.glo_ok X G (c.fact 9 rfl)⟩,
    ⟨fd_is_turn, F_is_turn, He.glo_ok X G (c.fact 10 rfl)⟩,
    ⟨fd_turned_over, F_turned_over, He.glo_ok X G (c.fact 11 rfl)⟩,
    ⟨fd_turned, F_turned, He.glo_ok X G (c.fact 12 rfl)⟩,
    ⟨fd_first_no_turn, F_first_no_turn, He.glo_ok X G (c.fact 13 rfl)⟩,
    ⟨fd_turns_fault, F_turns_fault, He.glo_ok X G (c.fact 14 rfl)⟩,
    ⟨fd_behind_turns, F_behind_turns, He.glo_ok X G (c.fact 15 rfl)⟩,
    ⟨fd_turns_behind, F_turns_behind, He.glo_ok X G (c.fact 16 rfl)⟩,
    ⟨fd__law_stream, F__law_stream, He.glo_ok X G (c.fact 17 rfl)⟩,
    ⟨fd__law_draw, F__law_draw, He.glo_ok X G (c.fact 18 rfl)⟩,
    ⟨fd__law_pick, F__law_pick, He.glo_ok X G (c.fact 19 rfl)⟩,
    ⟨fd__law_same, F__law_same, He.glo_ok X G (c.fact 20 rfl)⟩,
    ⟨fd__law_loose, F__law_loose, He.glo_ok X G (c.fact 21 rfl)⟩,
    ⟨fd__law_names, F__law_names, He.glo_ok X G (c.fact 22 rfl)⟩,
    ⟨fd__law_copied, F__law_copied, He.glo_ok X G (c.fact 23 rfl)⟩,
    ⟨fd__law_spoilt, F__law_spoilt, He.glo_ok X G (c.fact 24 rfl)⟩,
    ⟨fd__law_line, F__law_line, He.glo_ok X G (c.fact 25 rfl)⟩,
    ⟨fd__law_over, F__law_over, He.glo_ok X G (c.fact 26 rfl)⟩,
    ⟨fd__law_is_turn, F__law_is_turn, He.glo_ok X G (c.fact 27 rfl)⟩,
    ⟨fd__law_turn_run, F__law_turn_run, He.glo_ok X G (c.fact 28 rfl)⟩,
    ⟨fd__law_met, F__law_met, He.glo_ok X G (c.fact 29 rfl)⟩,
    ⟨fd__law_odd_turn, F__law_odd_turn, He.glo_ok X G (c.fact 30 rfl)⟩,
    ⟨fd_law, F_law, He.glo_ok X G (c.fact 31 rfl)⟩,
    X_BadRun,
    X_BadLine,
    X_BadTurn,
    He.free_ok X G (c.fact 35 rfl),
    He.free_ok X G (c.fact 36 rfl),
    He.free_ok X G (c.fact 37 rfl),
    He.free_ok X G (c.fact 38 rfl),
    He.free_ok X G (c.fact 39 rfl),
    He.free_ok X G (c.fact 40 rfl),
    He.free_ok X G (c.fact 41 rfl),
    He.free_ok X G (c.fact 42 rfl),
    He.free_ok X G (c.fact 43 rfl),
    He.free_ok X G (c.fact 44 rfl),
    He.free_ok X G (c.fact 45 rfl),
    He.free_ok X G (c.fact 46 rfl),
    He.free_ok X G (c.fact 47 rfl),
    He.free_ok X G (c.fact 48 rfl),
    He.str_ok X G (c.fact 49 rfl),
    He.exm_ok (c.fact 50 rfl),
    He.exm_ok (c.fact 51 rfl),
    He.exm_ok (c.fact 52 rfl),
    He.exm_ok (c.fact 53 rfl),
    He.exm_ok (c.fact 54 rfl),
    He.exm_ok (c.fact 55 rfl)⟩⟩
theorem lawG {w : World} {mg : Str → Option Value} {fa0 : Addr} {h : Heap} (Y : hk.says w h) (G : h.Ns mainGlobals mg) (hmg : mg ("law" : Str) = some (.ref fa0)) : Nonempty (LawG PySem.Challenge.rw_joinedanew_k30_whole_lines_and_turns w 18 63 "script" mg fa0 h) := by
  obtain ⟨K, X, c⟩ := Y
  obtain ⟨Z⟩ := txt X G c
  have e := hmg.symm.trans Z.d_law.g
  cases e
  have ch := c.hd ("law", none) List.mem_cons_self
  exact ⟨⟨K, [(He.cT K ("law", none)).2], [((He.cT K ("law", none)).2, ("law" : Str) ++ ".<locals>." ++ "<lambda>")], Z.d_law.fd, m_law, X,
    (fun t ht => by rw [List.mem_singleton.mp ht]; exact c.empty _ List.mem_cons_self),
    (fun t ht => by rw [List.mem_singleton.mp ht]; exact c.out _ List.mem_cons_self),
    (fun t ht => by rw [List.mem_singleton.mp ht]; exact ⟨_, PySem.W.codeHd_of_K X ch⟩),
    (fun p hp => by rw [List.mem_singleton.mp hp]; exact List.mem_singleton.mpr rfl),
    (fun s u => Z.d_law.F.bindsA (ps := ["script"]) (fun _ _ _ _ _ _ us hl => match us, hl with | [_], _ => rfl) s [u] rfl),
    (fun base _ _ TB => ok_law Z (TB _ _ List.mem_cons_self (PySem.W.codeHd_of_K X ch)) List.mem_cons_self (fun p hp _ => by rw [List.mem_singleton.mp hp])),
    law_true⟩⟩
end K30
open PySem PySem.W PySem.Calls PyProof.Rows
theorem PySem.Challenge.cw_joinedanew_k30_whole_lines_and_turns_holds : PySem.Challenge.rw_joinedanew_k30_whole_lines_and_turns.Holds := by
  w_on; o_law
  refine HandSHeadRun.head_any (r := OpenLaw.row PySem.Challenge.rw_joinedanew_k30_whole_lines_and_turns) (q := view (OpenLaw.row PySem.Challenge.rw_joinedanew_k30_whole_lines_and_turns).prog [42]) (H := K30.hk) (ob := K30.ob) (M := 4000) (loose := K30.loose) (d := HandSHeadRun.topDef (OpenLaw.row PySem.Challenge.rw_joinedanew_k30_whole_lines_and_turns).prog 42) (kwd := []) K30.ob_eq
    (by kernel_rfl) (fun s => by kernel_rfl) K30.run (by kernel_rfl) (by kernel_rfl) (by kernel_rfl) (by rfl) (by first | assumption | decide +kernel) (by decide +kernel) ⟨rfl, rfl, rfl, rfl, rfl, by decide +kernel⟩ ?hw ?hc
  case hw => w_witness2
  case hc =>
    refine PF.walk_G (l := PySem.Challenge.rw_joinedanew_k30_whole_lines_and_turns) (n := 63) (k := 18) (x := "script") rfl (by decide) (by kernel_rfl) ⟨rfl, by decide, by decide⟩ ?F
    intro w mg fa0 h Y G hm0
    have e : (HandSHeadRun.topDef (OpenLaw.row PySem.Challenge.rw_joinedanew_k30_whole_lines_and_turns).prog 42).name = ("law" : PySem.Str) := by kernel_rfl
    rw [e] at hm0
    exact K30.lawG Y G hm0
