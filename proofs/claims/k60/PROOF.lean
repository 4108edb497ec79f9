import PyProof.Rows.All
import Wide.All
import OpenK.AllK
import Wide.FinOn
import HandS.ForMost
import HandS.Exc
import HandS.HeadHook1
import HandS.WordsExc
import HandS.Zip
import HandS.Rev
import HandS.RevRange
import HandS.CallSlots
import HandS.Defaults
import HandS.Deep
import HandS.TupAny
import HandS.SortInts
import KE.SortData
import HandS.More
import HandS.Small
import HandS.Conv
import HandS.TupMul
import HandS.Steps
import PyProof.ListStr
import PyProof.StrLaws
import PyProof.ReprRoads
import HandS.Ends
import HandS.HeadEnd
import HandS.HeadHook2
import HandS.Head0
import HandS.Head1
import HandS.Head2
import HandS.RevTup
import PyProof.ListRange
import HandS.TupSets
import KE.KeyNested
import HandS.SetKeys
import PyProof.StrWalks
import PyProof.Rows.FactsT3
import HandS.Codes
import HandS.Text
import KE.GoesEnum
import KE.GoesZip
import KE.GoesMore
import HandS.IsInst
import HandS.Replace
import HandS.ReplaceList
import HandS.ReplaceLit
import HandS.TryOnly
import HandS.ExcInit
import HandS.ExcField
import KE.KExcIs
import HandS.Style
import HandS.ExcOwn
import HandS.ExcValue
import HandS.Flow
import HandS.Iter
import HandS.SortKw
import KE.SortUse
import PyProof.StrLawsRepr
import PySem.Challenge.RW_lostpost_k60_answers_told
set_option Elab.async false
set_option linter.all false
set_option maxRecDepth 100000
namespace Dl
open PySem L2

def exN (t : Nat) : Str := match t with
  | 1 => "NoText"
  | 2 => "NoHouse"
  | 3 => "NoStep"
  | 4 => "TooMany"
  | 5 => "NoPaper"
  | 6 => "NoGrammar"
  | 7 => "NoRow"
  | _ => "LostError"
def exA (K : PySem.W.Frag) (t : Nat) : Addr := He.ga K (exN t)
def XO (cls : Value) (d : Option Addr) (a : Addr) : HO := .ext fun h => ∃ (oe : Obj) (vs : Array Value), h.get? a = some oe ∧ Zc cls d oe ∧ oe.data = .fields vs
def XAt (K : PySem.W.Frag) (Z : Hp) (a : Addr) (c : Nat) (fs : List (Str × V)) : Prop := ∃ d, Z a = some (XO (.ref (exA K c)) d a) ∧ match fs with
  | [] => d = none
  | fs => ∃ x, d = some x ∧ Z x = some (.xd fs)
inductive D where
  | non | bl (b : Bool) | int (i : Int) | str (l : List Nat) | tup (l : List D)
  | lst (o : Bool) (l : List D) | dic (o : Bool) (ks vs : List D) | ins (C : Addr) (ns : List Str) (vs : List D) | cst (a : Addr) | hol (v : V) | scr (l : List Int) | exv (c : Nat) (fs : List (Str × V))

mutual
def D.own : D → Bool
  | .tup l => D.owns l
  | .lst o _ => o
  | .dic o _ _ => o
  | .ins _ _ _ => true
  | _ => false
def D.owns : List D → Bool
  | [] => false
  | d :: l => d.own || D.owns l
end
mutual
def D.frz : D → D
  | .tup l => .tup (D.frzs l)
  | .lst _ l => .lst false (D.frzs l)
  | .dic _ ks vs => .dic false ks (D.frzs vs)
  | d => d
def D.frzs : List D → List D
  | [] => []
  | d :: l => d.frz :: D.frzs l
end

def keyD : Key → D
  | .inl i => .int i
  | .inr x => .str x.cps.toList
def DicAt (H : Hp) (a : Addr) (ks : List D) (xs : List V) : Prop :=
  ∃ kvs : List (Key × V), H a = some (.dK kvs) ∧ ks = kvs.map (fun p => keyD p.1) ∧ xs = kvs.map Prod.snd

section
variable (K : PySem.W.Frag) (H Z : Hp)
mutual
inductive O : D → V → List Addr → Prop
  | non : O .non .non []
  | bl (b) : O (.bl b) (.bl b) []
  | int (i) : O (.int i) (.int i) []
  | str (l) : O (.str l) (.str ⟨l.toArray⟩) []
  | cst (a) : O (.cst a) (.ref a) []
  | hol (v) : O (.hol v) v []
  | exv {a c fs} : XAt K Z a c fs → O (.exv c fs) (.ref a) []
  | tup {a xs l A} : SqT K Z a xs → Os l xs A → O (.tup l) (.ref a) A
  | scr {a l} : SqL K Z a (l.map V.int) → O (.scr l) (.ref a) []
  | shr {a xs l} : Z a = some (.lst xs) → Os l xs [] → O (.lst false l) (.ref a) []
  | lst {a xs l A} : H a = some (.lst xs) → Z a = none → Os l xs A → O (.lst true l) (.ref a) (a :: A)
  | dsh {a ks xs vs} : DicAt Z a ks xs → Os vs xs [] → O (.dic false ks vs) (.ref a) []
  | dic {a ks xs vs A} : DicAt H a ks xs → Z a = none → Os vs xs A → O (.dic true ks vs) (.ref a) (a :: A)
  | ins {a dx C fs vs A} : H a = some (.ins C dx fs) → Z a = none → H dx = some (.own a) → Z dx = none → Os vs (fs.map Prod.snd) A → O (.ins C (fs.map Prod.fst) vs) (.ref a) (a :: dx :: A)
inductive Os : List D → List V → List Addr → Prop
  | nil : Os [] [] []
  | cons {d v A ds vs B} : O d v A → Os ds vs B → Os (d :: ds) (v :: vs) (A ++ B)
end
inductive Cells : List (Option D) → List (Option V) → List Addr → Prop
  | nil : Cells [] [] []
  | no {ρ x σ A} : Cells ρ σ A → Cells (none :: ρ) (x :: σ) A
  | so {d v A ρ σ B} : O K H Z d v A → Cells ρ σ B → Cells (some d :: ρ) (some v :: σ) (A ++ B)
end

inductive Tm where
  | v (d : D) | s (i : Nat)
inductive Tms (K : PySem.W.Frag) (H Z : Hp) (σ : St) : List Tm → List V → List Addr → Prop
  | nil : Tms K H Z σ [] [] []
  | v {d x A τ vs B} : O K H Z d x A → Tms K H Z σ τ vs B → Tms K H Z σ (.v d :: τ) (x :: vs) (A ++ B)
  | s {i x τ vs B} : σ[i]? = some (some x) → Tms K H Z σ τ vs B → Tms K H Z σ (.s i :: τ) (x :: vs) B

structure Fr where
  H0 : Hp
  Z0 : Hp
  G : List Addr
structure Good (κ : Fr) (H Z : Hp) (L : List Addr) : Prop where
  nd : L.Nodup
  zh : Same Z H
  z0 : Same κ.Z0 Z
  keep : ∀ a o, κ.H0 a = some o → a ∉ κ.G → H a = some o
  own : ∀ a ∈ L, Z a = none ∧ (∃ o, H a = some o) ∧ (a ∈ κ.G ∨ κ.H0 a = none)
  zn : ∀ a o, Z a = some o → κ.Z0 a = some o ∨ a ∈ κ.G ∨ κ.H0 a = none
def Stt (K : PySem.W.Frag) (κ : Fr) (ρ : List (Option D)) (τ : List Tm) (vs : List V) (σ : St) (H : Hp) : Prop :=
  ∃ Z A B, Cells K H Z ρ σ A ∧ Tms K H Z σ τ vs B ∧ Good κ H Z (A ++ B)

section
variable {K : PySem.W.Frag} {H Z H' Z' : Hp}
theorem sqT_keep {a : Addr} {xs : List V} (e : Same Z Z') (h : SqT K Z a xs) : SqT K Z' a xs := by
  rcases h with (h | ⟨o, h⟩) | h
  · exact .inl (.inl (e _ _ h))
  · exact .inl (.inr ⟨o, e _ _ h⟩)
  · exact .inr h
theorem dic_keep {a : Addr} {ks : List D} {xs : List V} (e : Same Z Z') (h : DicAt Z a ks xs) : DicAt Z' a ks xs :=
  let ⟨kvs, h1, h2, h3⟩ := h; ⟨kvs, e _ _ h1, h2, h3⟩
theorem xat_keep {a : Addr} {c : Nat} {fs : List (Str × V)} (e : Same Z Z') (h : XAt K Z a c fs) : XAt K Z' a c fs := by
  obtain ⟨d, h1, h2⟩ := h
  refine ⟨d, e _ _ h1, ?_⟩
  cases fs with
  | nil => exact h2
  | cons p l =>
    obtain ⟨x, q1, q2⟩ := h2
    exact ⟨x, q1, e _ _ q2⟩
mutual
theorem O.keep (zz : Same Z Z') : ∀ {d : D} {v : V} {A : List Addr}, O K H Z d v A → (∀ a ∈ A, H' a = H a ∧ Z' a = none) → O K H' Z' d v A
  | _, _, _, .non, _ => .non
  | _, _, _, .bl _, _ => .bl _
  | _, _, _, .int _, _ => .int _
  | _, _, _, .str _, _ => .str _
  | _, _, _, .cst _, _ => .cst _
  | _, _, _, .hol _, _ => .hol _
  | _, _, _, .exv h, _ => .exv (xat_keep zz h)
  | _, _, _, .scr h, _ => .scr (zz.seq h)
  | _, _, _, .tup h1 h2, k => .tup (sqT_keep zz h1) (Os.keep zz h2 k)
  | _, _, _, .shr h1 h2, k => .shr (zz _ _ h1) (Os.keep zz h2 fun _ q => nomatch q)
  | _, _, _, .lst h1 h2 h3, k => .lst ((k _ List.mem_cons_self).1.trans h1) (k _ List.mem_cons_self).2 (Os.keep zz h3 fun a q => k a (List.mem_cons_of_mem _ q))
  | _, _, _, .dsh h1 h2, k => .dsh (dic_keep zz h1) (Os.keep zz h2 fun _ q => nomatch q)
  | _, _, _, .dic ⟨kvs, h1, e1, e2⟩ h2 h3, k => .dic ⟨kvs, (k _ List.mem_cons_self).1.trans h1, e1, e2⟩ (k _ List.mem_cons_self).2 (Os.keep zz h3 fun a q => k a (List.mem_cons_of_mem _ q))
  | _, _, _, .ins h1 h2 h3 h4 h5, k => .ins ((k _ List.mem_cons_self).1.trans h1) (k _ List.mem_cons_self).2 ((k _ (List.mem_cons_of_mem _ List.mem_cons_self)).1.trans h3) (k _ (List.mem_cons_of_mem _ List.mem_cons_self)).2
      (Os.keep zz h5 fun a q => k a (List.mem_cons_of_mem _ (List.mem_cons_of_mem _ q)))
theorem Os.keep (zz : Same Z Z') : ∀ {ds : List D} {vs : List V} {A : List Addr}, Os K H Z ds vs A → (∀ a ∈ A, H' a = H a ∧ Z' a = none) → Os K H' Z' ds vs A
  | _, _, _, .nil, _ => .nil
  | _, _, _, .cons h1 h2, k => .cons (O.keep zz h1 fun a q => k a (List.mem_append_left _ q)) (Os.keep zz h2 fun a q => k a (List.mem_append_right _ q))
end
theorem Cells.keep (zz : Same Z Z') : ∀ {ρ : List (Option D)} {σ : St} {A : List Addr}, Cells K H Z ρ σ A → (∀ a ∈ A, H' a = H a ∧ Z' a = none) → Cells K H' Z' ρ σ A
  | _, _, _, .nil, _ => .nil
  | _, _, _, .no h, k => .no (Cells.keep zz h k)
  | _, _, _, .so h1 h2, k => .so (h1.keep zz fun a q => k a (List.mem_append_left _ q)) (Cells.keep zz h2 fun a q => k a (List.mem_append_right _ q))
theorem Tms.keep (zz : Same Z Z') {σ : St} : ∀ {τ : List Tm} {vs : List V} {A : List Addr}, Tms K H Z σ τ vs A → (∀ a ∈ A, H' a = H a ∧ Z' a = none) → Tms K H' Z' σ τ vs A
  | _, _, _, .nil, _ => .nil
  | _, _, _, .v h1 h2, k => .v (h1.keep zz fun a q => k a (List.mem_append_left _ q)) (Tms.keep zz h2 fun a q => k a (List.mem_append_right _ q))
  | _, _, _, .s h1 h2, k => .s h1 (Tms.keep zz h2 k)
theorem Os.length : ∀ {ds : List D} {vs : List V} {A : List Addr}, Os K H Z ds vs A → vs.length = ds.length
  | _, _, _, .nil => rfl
  | _, _, _, .cons _ h => by simp [Os.length h]
theorem Os.append : ∀ {ds es : List D} {vs ws : List V} {A B : List Addr}, Os K H Z ds vs A → Os K H Z es ws B → Os K H Z (ds ++ es) (vs ++ ws) (A ++ B)
  | _, _, _, _, _, _, .nil, h => h
  | _, _, _, _, _, _, .cons h1 h2, h => by
    rw [List.append_assoc]
    exact .cons h1 (Os.append h2 h)
theorem Os.split : ∀ {ds es : List D} {vs : List V} {A : List Addr}, Os K H Z (ds ++ es) vs A → ∃ v1 v2 A1 A2, vs = v1 ++ v2 ∧ A = A1 ++ A2 ∧ Os K H Z ds v1 A1 ∧ Os K H Z es v2 A2
  | [], es, vs, A, h => ⟨[], vs, [], A, rfl, rfl, .nil, h⟩
  | d :: ds, es, _, _, .cons h1 h2 => by
    obtain ⟨v1, v2, A1, A2, rfl, rfl, q1, q2⟩ := Os.split h2
    exact ⟨_ :: v1, v2, _ ++ A1, A2, rfl, by simp, .cons h1 q1, q2⟩
mutual
theorem O.noown : ∀ {d : D} {v : V} {A : List Addr}, O K H Z d v A → d.own = false → A = []
  | _, _, _, .non, _ => rfl
  | _, _, _, .bl _, _ => rfl
  | _, _, _, .int _, _ => rfl
  | _, _, _, .str _, _ => rfl
  | _, _, _, .cst _, _ => rfl
  | _, _, _, .hol _, _ => rfl
  | _, _, _, .exv _, _ => rfl
  | _, _, _, .scr _, _ => rfl
  | _, _, _, .tup h1 h2, e => Os.noown h2 (by simpa [D.own] using e)
  | _, _, _, .shr h1 h2, e => rfl
  | _, _, _, .lst h1 h2 h3, e => by simp [D.own] at e
  | _, _, _, .dsh h1 h2, e => rfl
  | _, _, _, .dic h1 h2 h3, e => by simp [D.own] at e
  | _, _, _, .ins h1 h2 h3 h4 h5, e => by simp [D.own] at e
theorem Os.noown : ∀ {ds : List D} {vs : List V} {A : List Addr}, Os K H Z ds vs A → D.owns ds = false → A = []
  | _, _, _, .nil, _ => rfl
  | _, _, _, .cons h1 h2, e => by
    simp only [D.owns, Bool.or_eq_false_iff] at e
    rw [O.noown h1 e.1, Os.noown h2 e.2]; rfl
end
theorem Os.at : ∀ {ds : List D} {vs : List V} {A : List Addr} {i : Nat} {d : D}, Os K H Z ds vs A → ds[i]? = some d → ∃ v C, vs[i]? = some v ∧ O K H Z d v C ∧ ∀ a ∈ C, a ∈ A
  | _, _, _, i, _, .nil, e => by simp at e
  | _, _, _, 0, _, .cons h1 _, e => by
    simp only [List.getElem?_cons_zero, Option.some.injEq] at e
    subst e
    exact ⟨_, _, rfl, h1, fun a q => List.mem_append_left _ q⟩
  | _, _, _, i + 1, _, .cons _ h2, e => by
    simp only [List.getElem?_cons_succ] at e
    obtain ⟨v, C, e1, h, q⟩ := Os.at h2 e
    exact ⟨v, C, by simpa using e1, h, fun a m => List.mem_append_right _ (q a m)⟩
theorem Cells.at : ∀ {ρ : List (Option D)} {σ : St} {A : List Addr} {i : Nat} {d : D}, Cells K H Z ρ σ A → ρ[i]? = some (some d) → ∃ v C, σ[i]? = some (some v) ∧ O K H Z d v C ∧ ∀ a ∈ C, a ∈ A
  | _, _, _, i, _, .nil, e => by simp at e
  | _, _, _, 0, _, .no _, e => by simp at e
  | _, _, _, 0, _, .so h1 _, e => by
    simp only [List.getElem?_cons_zero, Option.some.injEq] at e
    subst e
    exact ⟨_, _, rfl, h1, fun a q => List.mem_append_left _ q⟩
  | _, _, _, i + 1, _, .no h, e => by
    simp only [List.getElem?_cons_succ] at e
    obtain ⟨v, C, e1, h, q⟩ := Cells.at h e
    exact ⟨v, C, by simpa using e1, h, q⟩
  | _, _, _, i + 1, _, .so _ h2, e => by
    simp only [List.getElem?_cons_succ] at e
    obtain ⟨v, C, e1, h, q⟩ := Cells.at h2 e
    exact ⟨v, C, by simpa using e1, h, fun a m => List.mem_append_right _ (q a m)⟩
theorem Cells.take : ∀ {ρ : List (Option D)} {σ : St} {A : List Addr} {i : Nat} {d : D}, Cells K H Z ρ σ A → ρ[i]? = some (some d) →
    ∃ v C A', σ[i]? = some (some v) ∧ O K H Z d v C ∧ Cells K H Z (ρ.set i none) σ A' ∧ (C ++ A').Perm A
  | _, _, _, i, _, .nil, e => by simp at e
  | _, _, _, 0, _, .no _, e => by simp at e
  | _, _, _, 0, _, .so h1 h2, e => by
    simp only [List.getElem?_cons_zero, Option.some.injEq] at e
    subst e
    exact ⟨_, _, _, rfl, h1, .no h2, .refl _⟩
  | _, _, _, i + 1, _, .no h, e => by
    simp only [List.getElem?_cons_succ] at e
    obtain ⟨v, C, A', e1, h, q, p⟩ := Cells.take h e
    exact ⟨v, C, A', by simpa using e1, h, .no q, p⟩
  | _, _, _, i + 1, _, @Cells.so _ _ _ _ _ A0 _ _ B0 h1 h2, e => by
    simp only [List.getElem?_cons_succ] at e
    obtain ⟨v, C, A', e1, h, q, p⟩ := Cells.take h2 e
    refine ⟨v, C, A0 ++ A', by simpa using e1, h, .so h1 q, ?_⟩
    have p1 : (C ++ (A0 ++ A')).Perm (A0 ++ (C ++ A')) := by
      rw [← List.append_assoc, ← List.append_assoc]
      exact List.perm_append_comm.append_right _
    exact p1.trans (p.append_left _)
theorem Cells.put : ∀ {ρ : List (Option D)} {σ : St} {A C : List Addr} {i : Nat} {d : D} {v : V}, Cells K H Z ρ σ A → i < ρ.length → O K H Z d v C →
    ∃ A', Cells K H Z (ρ.set i (some d)) (σ.set i (some v)) A' ∧ ∃ R, A'.Perm (C ++ R) ∧ R.Sublist A
  | _, _, _, _, i, _, _, .nil, hi, _ => by simp at hi
  | _, _, _, C, 0, _, _, .no h, _, o => ⟨_, .so o h, _, .refl _, .refl _⟩
  | _, _, _, C, 0, _, _, .so h1 h2, _, o => ⟨_, .so o h2, _, .refl _, List.sublist_append_right _ _⟩
  | _, _, _, C, i + 1, _, _, .no h, hi, o => by
    obtain ⟨A', h', R, p, s⟩ := Cells.put h (by simpa using hi) o
    exact ⟨A', .no h', R, p, s⟩
  | _, _, _, C, i + 1, _, _, @Cells.so _ _ _ _ _ A0 _ _ B0 h1 h2, hi, o => by
    obtain ⟨A', h', R, p, s⟩ := Cells.put h2 (by simpa using hi) o
    refine ⟨A0 ++ A', .so h1 h', A0 ++ R, ?_, s.append_left _⟩
    have p1 : (A0 ++ (C ++ R)).Perm (C ++ (A0 ++ R)) := by
      rw [← List.append_assoc, ← List.append_assoc]
      exact List.perm_append_comm.append_right _
    exact (p.append_left _).trans p1
theorem Cells.length : ∀ {ρ : List (Option D)} {σ : St} {A : List Addr}, Cells K H Z ρ σ A → σ.length = ρ.length
  | _, _, _, .nil => rfl
  | _, _, _, .no h => by simp [Cells.length h]
  | _, _, _, .so _ h => by simp [Cells.length h]
theorem Cells.drop : ∀ {ρ : List (Option D)} {σ : St} {A : List Addr} {i : Nat}, Cells K H Z ρ σ A → ∃ A', Cells K H Z (ρ.set i none) σ A' ∧ A'.Sublist A
  | _, _, _, i, .nil => ⟨[], by simpa using .nil, .refl _⟩
  | _, _, _, 0, .no h => ⟨_, .no h, .refl _⟩
  | _, _, _, 0, .so _ h => ⟨_, .no h, List.sublist_append_right _ _⟩
  | _, _, _, i + 1, .no h => by
    obtain ⟨A', h', s⟩ := Cells.drop (i := i) h
    exact ⟨A', .no h', s⟩
  | _, _, _, i + 1, .so h1 h => by
    obtain ⟨A', h', s⟩ := Cells.drop (i := i) h
    exact ⟨_, .so h1 h', s.append_left _⟩
end
end Dl

set_option linter.all false
set_option maxRecDepth 100000
namespace Dl
open PySem L2

def Sub (L' L : List Addr) : Prop := ∃ R, (L' ++ R).Perm L
theorem Sub.refl {L : List Addr} : Sub L L := ⟨[], by simp⟩
theorem Sub.of_perm {L' L : List Addr} (p : L'.Perm L) : Sub L' L := ⟨[], by simpa using p⟩
theorem Sub.trans {a b c : List Addr} : Sub a b → Sub b c → Sub a c
  | ⟨R, p⟩, ⟨S, q⟩ => ⟨R ++ S, by rw [← List.append_assoc]; exact (p.append_right S).trans q⟩
theorem Sub.mem {a b : List Addr} : Sub a b → ∀ x ∈ a, x ∈ b
  | ⟨R, p⟩, x, h => p.mem_iff.mp (List.mem_append_left _ h)
theorem Sub.nodup {a b : List Addr} : Sub a b → b.Nodup → a.Nodup
  | ⟨R, p⟩, h => (List.nodup_append.mp (p.nodup_iff.mpr h)).1
theorem sub_right {a b : List Addr} : Sub b (a ++ b) := ⟨a, List.perm_append_comm⟩
theorem sub_left {a b : List Addr} : Sub a (a ++ b) := ⟨b, .refl _⟩
theorem Sub.of_sublist {a b : List Addr} (h : a.Sublist b) : Sub a b := by
  induction h with
  | slnil => exact .refl
  | cons x _ ih => obtain ⟨R, p⟩ := ih; exact ⟨x :: R, (List.perm_middle).trans (p.cons x)⟩
  | cons_cons x _ ih => obtain ⟨R, p⟩ := ih; exact ⟨R, p.cons x⟩
theorem Sub.app {a b c d : List Addr} : Sub a b → Sub c d → Sub (a ++ c) (b ++ d)
  | ⟨R, p⟩, ⟨S, q⟩ => ⟨R ++ S, by
    have e : ((a ++ c) ++ (R ++ S)).Perm ((a ++ R) ++ (c ++ S)) := by
      rw [List.append_assoc, List.append_assoc]
      refine List.Perm.append_left a ?_
      rw [← List.append_assoc, ← List.append_assoc]
      exact List.perm_append_comm.append_right S
    exact e.trans (p.append q)⟩
theorem Good.sub {κ : Fr} {H Z : Hp} {L L' : List Addr} (g : Good κ H Z L) (s : Sub L' L) : Good κ H Z L' :=
  ⟨s.nodup g.nd, g.zh, g.z0, g.keep, fun a h => g.own a (s.mem a h), g.zn⟩

section
variable {K : PySem.W.Frag} {κ : Fr} {ρ : List (Option D)} {τ : List Tm} {vs : List V} {σ : St} {H : Hp} {d : D} {v : V} {i : Nat}

theorem Stt.len (h : Stt K κ ρ τ vs σ H) : σ.length = ρ.length := by
  obtain ⟨Z, A, B, c, _, _⟩ := h
  exact c.length
theorem Stt.pop {t : Tm} (h : Stt K κ ρ (t :: τ) (v :: vs) σ H) : Stt K κ ρ τ vs σ H := by
  obtain ⟨Z, A, B, c, t, g⟩ := h
  cases t with
  | v h1 h2 => exact ⟨Z, A, _, c, h2, g.sub (.app .refl sub_right)⟩
  | s h1 h2 => exact ⟨Z, A, _, c, h2, g⟩
theorem Stt.pop2 {t u : Tm} {w : V} (h : Stt K κ ρ (t :: u :: τ) (v :: w :: vs) σ H) : Stt K κ ρ τ vs σ H := h.pop.pop
theorem Stt.push (h : Stt K κ ρ τ vs σ H) (o : ∀ Z, O K H Z d v []) : Stt K κ ρ (.v d :: τ) (v :: vs) σ H := by
  obtain ⟨Z, A, B, c, t, g⟩ := h
  exact ⟨Z, A, [] ++ B, c, .v (o Z) t, g⟩
theorem Stt.pushI (h : Stt K κ ρ τ vs σ H) (n : Int) : Stt K κ ρ (.v (.int n) :: τ) (.int n :: vs) σ H := h.push fun _ => .int n
theorem Stt.pushB (h : Stt K κ ρ τ vs σ H) (b : Bool) : Stt K κ ρ (.v (.bl b) :: τ) (.bl b :: vs) σ H := h.push fun _ => .bl b
theorem Stt.pushN (h : Stt K κ ρ τ vs σ H) : Stt K κ ρ (.v .non :: τ) (.non :: vs) σ H := h.push fun _ => .non
theorem Stt.pushS (h : Stt K κ ρ τ vs σ H) (l : List Nat) : Stt K κ ρ (.v (.str l) :: τ) (.str ⟨l.toArray⟩ :: vs) σ H := h.push fun _ => .str l
theorem Stt.slot (h : Stt K κ ρ τ vs σ H) (e : ρ[i]? = some (some d)) : ∃ x, σ[i]? = some (some x) := by
  obtain ⟨Z, A, B, c, t, g⟩ := h
  obtain ⟨x, C, q, _⟩ := c.at e
  exact ⟨x, q⟩
theorem Stt.mark (h : Stt K κ ρ τ vs σ H) (e : σ[i]? = some (some v)) : Stt K κ ρ (.s i :: τ) (v :: vs) σ H := by
  obtain ⟨Z, A, B, c, t, g⟩ := h
  exact ⟨Z, A, B, c, .s e t, g⟩
def look (ρ : List (Option D)) : Tm → Option D
  | .v d => some d
  | .s i => (ρ[i]?).join
theorem Stt.look {t : Tm} (h : Stt K κ ρ (t :: τ) (v :: vs) σ H) (e : look ρ t = some d) : ∃ Z C, O K H Z d v C ∧ Same Z H := by
  obtain ⟨Z, A, B, c, t, g⟩ := h
  cases t with
  | v h1 h2 => cases e; exact ⟨Z, _, h1, g.zh⟩
  | @s i _ _ _ _ h1 h2 =>
    have e' : ρ[i]? = some (some d) := by
      simp only [Dl.look, Option.join_eq_some_iff] at e
      exact e
    obtain ⟨x, C, q, o, _⟩ := c.at e'
    rw [h1] at q
    cases q
    exact ⟨Z, C, o, g.zh⟩
theorem Stt.copy {t : Tm} (h : Stt K κ ρ (t :: τ) (v :: vs) σ H) (e : Dl.look ρ t = some d) (n : d.own = false) : Stt K κ ρ (.v d :: τ) (v :: vs) σ H := by
  obtain ⟨Z, A, B, c, t, g⟩ := h
  cases t with
  | v h1 h2 => cases e; exact ⟨Z, A, _, c, .v h1 h2, g⟩
  | @s i _ _ _ _ h1 h2 =>
    have e' : ρ[i]? = some (some d) := by
      simp only [Dl.look, Option.join_eq_some_iff] at e
      exact e
    obtain ⟨x, C, q, o, _⟩ := c.at e'
    rw [h1] at q
    cases q
    have z := o.noown n
    subst z
    exact ⟨Z, A, [] ++ B, c, .v o h2, g⟩
theorem Stt.take (h : Stt K κ ρ τ vs σ H) (e : ρ[i]? = some (some d)) (s : σ[i]? = some (some v)) : Stt K κ (ρ.set i none) (.v d :: τ) (v :: vs) σ H := by
  obtain ⟨Z, A, B, c, t, g⟩ := h
  obtain ⟨x, C, A', q, o, c', p⟩ := c.take e
  rw [s] at q
  cases q
  refine ⟨Z, A', C ++ B, c', .v o t, g.sub (.of_perm ?_)⟩
  rw [← List.append_assoc]
  exact (List.perm_append_comm.append_right B).trans (p.append_right B)
def vOnly : List Tm → Prop
  | [] => True
  | .v _ :: τ => vOnly τ
  | .s _ :: _ => False
theorem Tms.otherσ {Z : Hp} {σ' : St} : ∀ {τ : List Tm} {vs : List V} {A : List Addr}, vOnly τ → Tms K H Z σ τ vs A → Tms K H Z σ' τ vs A
  | _, _, _, _, .nil => .nil
  | _, _, _, h, .v h1 h2 => .v h1 (Tms.otherσ h h2)
theorem Stt.put (h : Stt K κ ρ (.v d :: τ) (v :: vs) σ H) (hi : i < ρ.length) (ht : vOnly τ) : Stt K κ (ρ.set i (some d)) τ vs (σ.set i (some v)) H := by
  obtain ⟨Z, A, B, c, t, g⟩ := h
  cases t with
  | @v _ _ C _ _ B h1 h2 =>
    obtain ⟨A', c', R, p, s⟩ := c.put hi h1
    refine ⟨Z, A', B, c', h2.otherσ ht, g.sub ?_⟩
    refine Sub.trans (.app (.trans (.of_perm p) (.app .refl (.of_sublist s))) .refl) (.of_perm ?_)
    rw [← List.append_assoc]
    exact List.perm_append_comm.append_right B
theorem Cells.back {Z : Hp} : ∀ {ρ : List (Option D)} {σ : St} {A C : List Addr} {i : Nat} {d : D} {v : V}, Cells K H Z ρ σ A → i < ρ.length → ρ[i]? = some none → σ[i]? = some (some v) → O K H Z d v C →
    ∃ A', Cells K H Z (ρ.set i (some d)) σ A' ∧ A'.Perm (C ++ A)
  | _, _, _, _, i, _, _, .nil, hi, _, _, _ => by simp at hi
  | _, _, _, C, 0, _, _, .no h, _, _, e, o => by
    simp only [List.getElem?_cons_zero, Option.some.injEq] at e
    subst e
    exact ⟨_, .so o h, .refl _⟩
  | _, _, _, C, 0, _, _, .so h1 h2, _, e, _, o => by simp at e
  | _, _, _, C, i + 1, _, _, .no h, hi, e, s, o => by
    obtain ⟨A', h', p⟩ := Cells.back h (by simpa using hi) (by simpa using e) (by simpa using s) o
    exact ⟨A', .no h', p⟩
  | _, _, _, C, i + 1, _, _, @Cells.so _ _ _ _ _ A0 _ _ B0 h1 h2, hi, e, s, o => by
    obtain ⟨A', h', p⟩ := Cells.back h2 (by simpa using hi) (by simpa using e) (by simpa using s) o
    refine ⟨A0 ++ A', .so h1 h', (p.append_left _).trans ?_⟩
    rw [← List.append_assoc, ← List.append_assoc]
    exact List.perm_append_comm.append_right _
theorem Stt.back (h : Stt K κ ρ (.v d :: τ) (v :: vs) σ H) (e : ρ[i]? = some none) (s : σ[i]? = some (some v)) : Stt K κ (ρ.set i (some d)) τ vs σ H := by
  obtain ⟨Z, A, B, c, t, g⟩ := h
  cases t with
  | @v _ _ C _ _ B h1 h2 =>
    obtain ⟨A', c', p⟩ := c.back (List.getElem?_eq_some_iff.mp e).1 e s h1
    refine ⟨Z, A', B, c', h2, g.sub (.of_perm ((p.append_right B).trans ?_))⟩
    rw [← List.append_assoc]
    exact List.perm_append_comm.append_right B
theorem Stt.drop (h : Stt K κ ρ τ vs σ H) : Stt K κ (ρ.set i none) τ vs σ H := by
  obtain ⟨Z, A, B, c, t, g⟩ := h
  obtain ⟨A', c', s⟩ := c.drop (i := i)
  exact ⟨Z, A', B, c', t, g.sub (.app (.of_sublist s) .refl)⟩

mutual
def D.fz : D → Bool
  | .tup l => D.fzs l
  | .lst _ l => D.fzs l
  | .dic _ _ l => D.fzs l
  | .ins _ _ _ => false
  | _ => true
def D.fzs : List D → Bool
  | [] => true
  | d :: l => d.fz && D.fzs l
end
def zf (Z H : Hp) (A : List Addr) : Hp := fun a => if a ∈ A then H a else Z a
theorem zf_same {Z : Hp} {A : List Addr} (h : ∀ a ∈ A, Z a = none) : Same Z (zf Z H A) := fun a o e => by
  have n : a ∉ A := fun q => by rw [h a q] at e; cases e
  unfold zf; rw [if_neg n]; exact e
mutual
theorem O.frz {Z : Hp} : ∀ {d : D} {v : V} {A A' : List Addr}, O K H Z d v A → d.fz = true → (∀ a ∈ A, a ∈ A') → (∀ a ∈ A', Z a = none) → O K H (zf Z H A') d.frz v []
  | _, _, _, _, .non, _, _, _ => .non
  | _, _, _, _, .bl _, _, _, _ => .bl _
  | _, _, _, _, .int _, _, _, _ => .int _
  | _, _, _, _, .str _, _, _, _ => .str _
  | _, _, _, _, .cst _, _, _, _ => .cst _
  | _, _, _, _, .hol _, _, _, _ => .hol _
  | _, _, _, _, .exv h, _, _, z => .exv (xat_keep (zf_same z) h)
  | _, _, _, _, .scr h, _, _, z => .scr ((zf_same z).seq h)
  | _, _, _, _, .tup h1 h2, f, s, z => .tup (sqT_keep (zf_same z) h1) (Os.frz h2 (by simpa [D.fz] using f) s z)
  | _, _, _, _, .shr h1 h2, f, s, z => .shr (zf_same z _ _ h1) (Os.frz h2 (by simpa [D.fz] using f) (fun _ q => nomatch q) z)
  | _, _, _, _, .lst h1 h2 h3, f, s, z => .shr (by unfold zf; rw [if_pos (s _ List.mem_cons_self)]; exact h1) (Os.frz h3 (by simpa [D.fz] using f) (fun a q => s a (List.mem_cons_of_mem _ q)) z)
  | _, _, _, _, .dsh h1 h2, f, s, z => .dsh (dic_keep (zf_same z) h1) (Os.frz h2 (by simpa [D.fz] using f) (fun _ q => nomatch q) z)
  | _, _, _, _, .dic ⟨kvs, h1, e1, e2⟩ h2 h3, f, s, z => .dsh ⟨kvs, (by unfold zf; rw [if_pos (s _ List.mem_cons_self)]; exact h1), e1, e2⟩ (Os.frz h3 (by simpa [D.fz] using f) (fun a q => s a (List.mem_cons_of_mem _ q)) z)
  | _, _, _, _, .ins h1 h2 h3 h4 h5, f, _, _ => by simp [D.fz] at f
theorem Os.frz {Z : Hp} : ∀ {d : List D} {v : List V} {A A' : List Addr}, Os K H Z d v A → D.fzs d = true → (∀ a ∈ A, a ∈ A') → (∀ a ∈ A', Z a = none) → Os K H (zf Z H A') (D.frzs d) v []
  | _, _, _, _, .nil, _, _, _ => .nil
  | _, _, _, _, .cons h1 h2, f, s, z => by
    simp only [D.fzs, Bool.and_eq_true] at f
    exact .cons (A := []) (B := []) (O.frz h1 f.1 (fun a q => s a (List.mem_append_left _ q)) z) (Os.frz h2 f.2 (fun a q => s a (List.mem_append_right _ q)) z)
end
theorem nodup_split {A B C : List Addr} (h : (A ++ (C ++ B)).Nodup) : (∀ a ∈ A ++ B, a ∉ C) ∧ (A ++ B).Nodup := by
  have p : (A ++ (C ++ B)).Perm (C ++ (A ++ B)) := by
    rw [← List.append_assoc, ← List.append_assoc]
    exact List.perm_append_comm.append_right _
  have q := p.nodup_iff.mp h
  obtain ⟨_, q2, q3⟩ := List.nodup_append.mp q
  exact ⟨fun a ha hc => q3 a hc a ha rfl, q2⟩
theorem Stt.frzT (h : Stt K κ ρ (.v d :: τ) (v :: vs) σ H) (f : d.fz = true) : Stt K κ ρ (.v d.frz :: τ) (v :: vs) σ H := by
  obtain ⟨Z, A, B, c, t, g⟩ := h
  cases t with
  | @v _ _ C _ _ B h1 h2 =>
    have zC : ∀ a ∈ C, Z a = none := fun a ha => (g.own a (List.mem_append_right _ (List.mem_append_left _ ha))).1
    obtain ⟨ap, nd⟩ := nodup_split g.nd
    have zz := zf_same (H := H) zC
    have kz : ∀ a ∈ A ++ B, zf Z H C a = none := fun a ha => by
      unfold zf
      rw [if_neg (ap a ha)]
      rcases List.mem_append.mp ha with q | q
      · exact (g.own a (List.mem_append_left _ q)).1
      · exact (g.own a (List.mem_append_right _ (List.mem_append_right _ q))).1
    refine ⟨zf Z H C, A, [] ++ B, c.keep zz fun a ha => ⟨rfl, kz a (List.mem_append_left _ ha)⟩, .v (h1.frz f (fun _ q => q) zC) (h2.keep zz fun a ha => ⟨rfl, kz a (List.mem_append_right _ ha)⟩), ?_⟩
    refine ⟨nd, fun a o e => ?_, fun a o e => zz a o (g.z0 a o e), g.keep, fun a ha => ⟨kz a ha, ?_⟩, fun a o e => ?_⟩
    · unfold zf at e
      by_cases hc : a ∈ C
      · rw [if_pos hc] at e; exact e
      · rw [if_neg hc] at e; exact g.zh a o e
    · rcases List.mem_append.mp ha with q | q
      · exact (g.own a (List.mem_append_left _ q)).2
      · exact (g.own a (List.mem_append_right _ (List.mem_append_right _ q))).2
    · unfold zf at e
      by_cases hc : a ∈ C
      · exact .inr (g.own a (List.mem_append_right _ (List.mem_append_left _ hc))).2.2
      · rw [if_neg hc] at e; exact g.zn a o e

def tms (ds : List D) : List Tm := ds.map .v
theorem Tms.split {Z : Hp} : ∀ {ds : List D} {τ : List Tm} {ws : List V} {A : List Addr}, Tms K H Z σ (tms ds ++ τ) ws A → ∃ xs vs B C, ws = xs ++ vs ∧ A = B ++ C ∧ Os K H Z ds xs B ∧ Tms K H Z σ τ vs C
  | [], _, ws, A, h => ⟨[], ws, [], A, rfl, rfl, .nil, h⟩
  | d :: ds, _, _, _, .v h1 h2 => by
    obtain ⟨xs, vs, B, C, rfl, rfl, q1, q2⟩ := Tms.split (ds := ds) h2
    exact ⟨_ :: xs, vs, _ ++ B, C, rfl, by simp, .cons h1 q1, q2⟩
theorem Os.tms {Z : Hp} : ∀ {ds : List D} {τ : List Tm} {xs vs : List V} {A B : List Addr}, Os K H Z ds xs A → Tms K H Z σ τ vs B → Tms K H Z σ (tms ds ++ τ) (xs ++ vs) (A ++ B)
  | _, _, _, _, _, _, .nil, h => h
  | _, _, _, _, _, _, .cons h1 h2, h => by
    rw [List.append_assoc]
    exact .v h1 (Os.tms h2 h)
theorem keep_new {Z : Hp} {p : Addr} {o : HO} {L : List Addr} (g : Good κ H Z L) (hp : H p = none) : ∀ a ∈ L, upd H p o a = H a ∧ Z a = none := fun a ha => by
  obtain ⟨z, ⟨u, e⟩, _⟩ := g.own a ha
  exact ⟨upd_ne (ne_of_none e hp), z⟩
theorem z_new {Z : Hp} {p : Addr} {L : List Addr} (g : Good κ H Z L) (hp : H p = none) : Z p = none := by
  cases e : Z p with
  | none => rfl
  | some u => rw [g.zh p u e] at hp; cases hp
theorem h0_new {Z : Hp} {p : Addr} {L : List Addr} (g : Good κ H Z L) (hp : H p = none) (hG : p ∉ κ.G) : κ.H0 p = none := by
  cases e : κ.H0 p with
  | none => rfl
  | some u => rw [g.keep p u e hG] at hp; cases hp
theorem h0_or {Z : Hp} {p : Addr} {L : List Addr} (g : Good κ H Z L) (hp : H p = none) : p ∈ κ.G ∨ κ.H0 p = none := by
  by_cases hG : p ∈ κ.G
  · exact .inl hG
  · exact .inr (h0_new g hp hG)
theorem Good.newZ {Z : Hp} {p : Addr} {o : HO} {L : List Addr} (g : Good κ H Z L) (hp : H p = none) : Good κ (upd H p o) (upd Z p o) L := by
  have hz := z_new g hp
  refine ⟨g.nd, fun a u e => ?_, fun a u e => ?_, fun a u e n => ?_, fun a ha => ?_, fun a u e => ?_⟩
  · by_cases q : a = p
    · subst q; rw [upd_same] at e ⊢; exact e
    · rw [upd_ne q] at e ⊢; exact g.zh a u e
  · have e' := g.z0 a u e
    rw [upd_ne (fun q => by rw [q, hz] at e'; cases e')]; exact e'
  · have e' := g.keep a u e n
    rw [upd_ne (ne_of_none e' hp)]; exact e'
  · obtain ⟨z, ⟨u, e⟩, w⟩ := g.own a ha
    have q := ne_of_none e hp
    exact ⟨by rw [upd_ne q]; exact z, ⟨u, by rw [upd_ne q]; exact e⟩, w⟩
  · by_cases q : a = p
    · subst q; exact .inr (h0_or g hp)
    · rw [upd_ne q] at e; exact g.zn a u e
theorem upd_Same {Z : Hp} {p : Addr} {o : HO} (hz : Z p = none) : Same Z (upd Z p o) := fun a u e => by rw [upd_ne (ne_of_none e hz)]; exact e
theorem Good.newO {Z : Hp} {p : Addr} {o : HO} {L : List Addr} (g : Good κ H Z L) (hp : H p = none) : Good κ (upd H p o) Z (p :: L) := by
  have hz := z_new g hp
  have np : p ∉ L := fun q => by
    obtain ⟨_, ⟨u, e⟩, _⟩ := g.own p q
    rw [hp] at e; cases e
  refine ⟨List.nodup_cons.mpr ⟨np, g.nd⟩, fun a u e => ?_, g.z0, fun a u e n => ?_, fun a ha => ?_, g.zn⟩
  · rw [upd_ne (fun q => by rw [q, hz] at e; cases e)]; exact g.zh a u e
  · have e' := g.keep a u e n
    rw [upd_ne (ne_of_none e' hp)]; exact e'
  · rcases List.mem_cons.mp ha with q | ha
    · subst q; exact ⟨hz, ⟨_, upd_same⟩, h0_or g hp⟩
    · obtain ⟨z, ⟨u, e⟩, w⟩ := g.own a ha
      exact ⟨z, ⟨u, by rw [upd_ne (ne_of_none e hp)]; exact e⟩, w⟩
theorem Stt.tup {ds : List D} {p : Addr} {xs : List V} (h : Stt K κ ρ (tms ds ++ τ) (xs ++ vs) σ H) (hl : xs.length = ds.length) (hp : H p = none) : Stt K κ ρ (.v (.tup ds) :: τ) (.ref p :: vs) σ (upd H p (.tup xs)) := by
  obtain ⟨Z, A, B, c, t, g⟩ := h
  obtain ⟨ys, ws, B1, B2, e, rfl, o, t'⟩ := t.split
  obtain ⟨e1, e2⟩ := List.append_inj e (by rw [hl, o.length])
  subst e1 e2
  have hz := z_new g hp
  have zz : Same Z (upd Z p (.tup xs)) := upd_Same hz
  have g' := g.newZ (o := .tup xs) hp
  have k : ∀ a ∈ A ++ (B1 ++ B2), upd H p (.tup xs) a = H a ∧ upd Z p (.tup xs) a = none := fun a ha => ⟨(keep_new g hp a ha).1, (g'.own a ha).1⟩
  exact ⟨_, A, B1 ++ B2, c.keep zz fun a ha => k a (List.mem_append_left _ ha), .v (.tup (.of upd_same) (o.keep zz fun a ha => k a (List.mem_append_right _ (List.mem_append_left _ ha)))) (t'.keep zz fun a ha => k a (List.mem_append_right _ (List.mem_append_right _ ha))), g'⟩
theorem perm_front {A B C : List Addr} {p : Addr} : (A ++ ((p :: C) ++ B)).Perm (p :: (A ++ (C ++ B))) := List.perm_middle
theorem Stt.lst {ds : List D} {p : Addr} {xs : List V} (h : Stt K κ ρ (tms ds ++ τ) (xs ++ vs) σ H) (hl : xs.length = ds.length) (hp : H p = none) : Stt K κ ρ (.v (.lst true ds) :: τ) (.ref p :: vs) σ (upd H p (.lst xs)) := by
  obtain ⟨Z, A, B, c, t, g⟩ := h
  obtain ⟨ys, ws, B1, B2, e, rfl, o, t'⟩ := t.split
  obtain ⟨e1, e2⟩ := List.append_inj e (by rw [hl, o.length])
  subst e1 e2
  have hz := z_new g hp
  have zz : Same Z Z := Same.refl Z
  have g' := g.newO (o := .lst xs) hp
  have k := keep_new (o := .lst xs) g hp
  refine ⟨Z, A, (p :: B1) ++ B2, c.keep zz fun a ha => k a (List.mem_append_left _ ha), .v (.lst upd_same hz (o.keep zz fun a ha => k a (List.mem_append_right _ (List.mem_append_left _ ha)))) (t'.keep zz fun a ha => k a (List.mem_append_right _ (List.mem_append_right _ ha))), ?_⟩
  exact g'.sub (.of_perm perm_front)
theorem Stt.dic0 {p : Addr} (h : Stt K κ ρ τ vs σ H) (hp : H p = none) : Stt K κ ρ (.v (.dic true [] []) :: τ) (.ref p :: vs) σ (upd H p (.dK [])) := by
  obtain ⟨Z, A, B, c, t, g⟩ := h
  have hz := z_new g hp
  have zz : Same Z Z := Same.refl Z
  have g' := g.newO (o := .dK []) hp
  have k := keep_new (o := .dK []) g hp
  exact ⟨Z, A, (p :: []) ++ B, c.keep zz fun a ha => k a (List.mem_append_left _ ha), .v (.dic ⟨[], upd_same, rfl, rfl⟩ hz .nil) (t.keep zz fun a ha => k a (List.mem_append_right _ ha)), g'.sub (.of_perm perm_front)⟩
theorem Same_new {p : Addr} {o : HO} (hp : H p = none) : Same H (upd H p o) := fun a u e => by rw [upd_ne (ne_of_none e hp)]; exact e
end
end Dl

set_option linter.all false
set_option maxRecDepth 100000
namespace Dl
open PySem L2

abbrev Env := List (Option D)
structure Exn where
  cls : Nat
  fs : List (Str × D)
inductive Out (S α : Type) where
  | ok (a : α) (s : S) | exc (e : Exn) (s : S) | bad
def Out.wp {S α : Type} (o : Out S α) (P : α → S → Prop) (E : Exn → S → Prop) : Prop := match o with
  | .ok a s => P a s
  | .exc e s => E e s
  | .bad => False
def Out.bind {S α β : Type} (o : Out S α) (f : α → S → Out S β) : Out S β := match o with
  | .ok a s => f a s
  | .exc e s => .exc e s
  | .bad => .bad
theorem Out.wp_bind {S α β : Type} {o : Out S α} {f : α → S → Out S β} {P : β → S → Prop} {E : Exn → S → Prop} (h : (o.bind f).wp P E) : o.wp (fun a s => (f a s).wp P E) E := by
  cases o with
  | ok a s => exact h
  | exc e s => exact h
  | bad => exact h
theorem Out.wp_mono {S α : Type} {o : Out S α} {P P' : α → S → Prop} {E E' : Exn → S → Prop} (h : o.wp P E) (hP : ∀ a s, P a s → P' a s) (hE : ∀ e s, E e s → E' e s) : o.wp P' E' := by
  cases o with
  | ok a s => exact hP a s h
  | exc e s => exact hE e s h
  | bad => exact h
@[simp] theorem Out.bind_ok {S α β : Type} (a : α) (s : S) (f : α → S → Out S β) : (Out.ok a s).bind f = f a s := rfl
@[simp] theorem Out.bind_exc {S α β : Type} (e : Exn) (s : S) (f : α → S → Out S β) : (Out.exc e s : Out S α).bind f = .exc e s := rfl
@[simp] theorem Out.bind_bad {S α β : Type} (f : α → S → Out S β) : (Out.bad : Out S α).bind f = .bad := rfl
abbrev Cm (α : Type) := Env → Out Env α
def scV : D → V
  | .bl b => .bl b
  | .int i => .int i
  | .str l => .str ⟨l.toArray⟩
  | _ => .non
def ExOk (κ : Fr) (H : Hp) (e : Exn) (d : Option Addr) : Prop := match e.fs with
  | [] => d = none
  | fs => ∃ a, d = some a ∧ H a = some (.xd (fs.map fun p => (p.1, scV p.2))) ∧ (a ∈ κ.G ∨ κ.H0 a = none)
theorem ExOk.up {κ κ' : Fr} {H : Hp} {e : Exn} {d : Option Addr} (h : ExOk κ H e d) (k : ∀ a, a ∈ κ.G ∨ κ.H0 a = none → a ∈ κ'.G ∨ κ'.H0 a = none) : ExOk κ' H e d := by
  unfold ExOk at h ⊢
  cases he : e.fs with
  | nil => rw [he] at h; exact h
  | cons p l =>
    rw [he] at h
    obtain ⟨a, h1, h2, h3⟩ := h
    exact ⟨a, h1, h2, k a h3⟩

inductive Fl where
  | nx | rt (d : D) | bk | ct

section
variable (K : PySem.W.Frag) (W : WX)
def tD (q : Bool) (f : Cm Tm) : TE := fun σ H Q => ∃ κ ρ τ vs, Stt K κ ρ τ vs σ H ∧
  (f ρ).wp (fun t ρ' => ∀ v H', Stt K κ ρ' (t :: τ) (v :: vs) σ H' → (q = true → ρ' = ρ ∧ Same H H') → Q v H') (fun e ρ' => ∀ H' d, Stt K κ ρ' τ vs σ H' → ExOk κ H' e d → W (.ref (exA K e.cls)) d σ H')
def tDT (f : Cm Bool) : TT := fun σ H Q => ∃ κ ρ τ vs, Stt K κ ρ τ vs σ H ∧
  (f ρ).wp (fun b ρ' => ∀ H', Stt K κ ρ' τ vs σ H' → Q b H') (fun e ρ' => ∀ H' d, Stt K κ ρ' τ vs σ H' → ExOk κ H' e d → W (.ref (exA K e.cls)) d σ H')
def tDA (q : Bool) (f : Cm (List Tm)) : TA := fun σ H Q => ∃ κ ρ τ vs, Stt K κ ρ τ vs σ H ∧
  (f ρ).wp (fun ts ρ' => ∀ xs H', xs.length = ts.length → Stt K κ ρ' (ts ++ τ) (xs ++ vs) σ H' → (q = true → ρ' = ρ ∧ Same H H') → Q xs H') (fun e ρ' => ∀ H' d, Stt K κ ρ' τ vs σ H' → ExOk κ H' e d → W (.ref (exA K e.cls)) d σ H')
def Frm (as : List Nat) (σ σ' : St) : Prop := ∀ i, i ∉ as → σ'[i]? = σ[i]?
def postS (as : List Nat) (κ : Fr) (τ : List Tm) (vs : List V) (D : Ends) (σ : St) : Fl → Env → Prop
  | .nx, ρ' => ∀ σ' H', Frm as σ σ' → Stt K κ ρ' τ vs σ' H' → D.nx σ' H'
  | .bk, ρ' => ∀ σ' H', Frm as σ σ' → Stt K κ ρ' τ vs σ' H' → D.bk σ' H'
  | .ct, ρ' => ∀ σ' H', Frm as σ σ' → Stt K κ ρ' τ vs σ' H' → D.ct σ' H'
  | .rt d, ρ' => ∀ v σ' H', Frm as σ σ' → Stt K κ ρ' (.v d :: τ) (v :: vs) σ' H' → D.rt v H'
def postX (as : List Nat) (κ : Fr) (τ : List Tm) (vs : List V) (σ : St) : Exn → Env → Prop := fun e ρ' => ∀ σ' H' d, Frm as σ σ' → Stt K κ ρ' τ vs σ' H' → ExOk κ H' e d → W (.ref (exA K e.cls)) d σ' H'
def tDS (as : List Nat) (f : Cm Fl) : TS := fun D σ H => ∃ κ ρ τ vs, vOnly τ ∧ Stt K κ ρ τ vs σ H ∧ (f ρ).wp (postS K as κ τ vs D σ) (postX K W as κ τ vs σ)
end
def DE (X : Cx) (W : WX) (q : Bool) (e : Expr) (f : Cm Tm) : Prop := PE X e (tD X.K W q f)
def DT (X : Cx) (W : WX) (e : Expr) (f : Cm Bool) : Prop := PT X e (tDT X.K W f)
def DA (X : Cx) (W : WX) (q : Bool) (es : List Expr) (f : Cm (List Tm)) : Prop := PA X es (tDA X.K W q f)
def DS (X : Cx) (W : WX) (as : List Nat) (s : Stmt) (f : Cm Fl) : Prop := PS X s (tDS X.K W as f)
def DSs (X : Cx) (W : WX) (as : List Nat) (s : List Stmt) (f : Cm Fl) : Prop := PSs X s (tDS X.K W as f)

theorem PE.imp {X : Cx} {e : Expr} {t t' : TE} (h : PE X e t) (i : ∀ σ H Q, t' σ H Q → t σ H Q) : PE X e t' := ⟨fun pins s σ H Q I q => h.run pins s σ H Q I (i σ H Q q)⟩
theorem PT.imp {X : Cx} {e : Expr} {t t' : TT} (h : PT X e t) (i : ∀ σ H Q, t' σ H Q → t σ H Q) : PT X e t' := ⟨fun pins s σ H Q I q => h.run pins s σ H Q I (i σ H Q q)⟩
theorem PA.imp {X : Cx} {e : List Expr} {t t' : TA} (h : PA X e t) (i : ∀ σ H Q, t' σ H Q → t σ H Q) : PA X e t' := ⟨fun pos pins s σ H Q I q => h.run pos pins s σ H Q I (i σ H Q q)⟩
theorem PS.imp {X : Cx} {e : Stmt} {t t' : TS} (h : PS X e t) (i : ∀ D σ H, t' D σ H → t D σ H) : PS X e t' := ⟨fun pins s σ H D I q => h.run pins s σ H D I (i D σ H q)⟩
theorem PSs.imp {X : Cx} {e : List Stmt} {t t' : TS} (h : PSs X e t) (i : ∀ D σ H, t' D σ H → t D σ H) : PSs X e t' := ⟨fun pins s σ H D I q => h.run pins s σ H D I (i D σ H q)⟩

section
variable {X : Cx} {W : WX} {q q1 q2 : Bool} {e a b : Expr} {f g : Cm Tm} {pos : Pos} {i : Nat}

def eN (i : Nat) : Cm Tm := fun ρ => match (ρ[i]?).join with
  | some d => if d.own then .bad else .ok (.v d) ρ
  | none => .bad
def eM (i : Nat) : Cm Tm := fun ρ => match (ρ[i]?).join with
  | some _ => .ok (.s i) ρ
  | none => .bad
def eF (i : Nat) : Cm Tm := fun ρ => match (ρ[i]?).join with
  | some d => if d.fz then .ok (.v d.frz) (ρ.set i (some d.frz)) else .bad
  | none => .bad
def eG (i : Nat) : Cm Tm := fun ρ => match (ρ[i]?).join with
  | some d => .ok (.v d) (ρ.set i none)
  | none => .bad
theorem join_some {ρ : Env} {d : D} (h : (ρ[i]?).join = some d) : ρ[i]? = some (some d) := Option.join_eq_some_iff.mp h
theorem DE.name (h : PE X e (tVar i)) : DE X W true e (eN i) := by
  refine PE.imp h fun σ H Q ⟨κ, ρ, τ, vs, st, w⟩ => ?_
  unfold eN at w
  split at w
  · rename_i d hd
    split at w
    · exact w.elim
    · rename_i n
      obtain ⟨x, hx⟩ := st.slot (join_some hd)
      exact ⟨x, hx, w x H ((st.mark hx).copy hd (by simpa using n)) fun _ => ⟨rfl, Same.refl H⟩⟩
  · exact w.elim
theorem DE.mark (h : PE X e (tVar i)) : DE X W true e (eM i) := by
  refine PE.imp h fun σ H Q ⟨κ, ρ, τ, vs, st, w⟩ => ?_
  unfold eM at w
  split at w
  · rename_i d hd
    obtain ⟨x, hx⟩ := st.slot (join_some hd)
    exact ⟨x, hx, w x H (st.mark hx) fun _ => ⟨rfl, Same.refl H⟩⟩
  · exact w.elim
theorem DE.give (h : PE X e (tVar i)) : DE X W false e (eG i) := by
  refine PE.imp h fun σ H Q ⟨κ, ρ, τ, vs, st, w⟩ => ?_
  unfold eG at w
  split at w
  · rename_i d hd
    obtain ⟨x, hx⟩ := st.slot (join_some hd)
    exact ⟨x, hx, w x H (st.take (join_some hd) hx) fun z => nomatch z⟩
  · exact w.elim
mutual
theorem D.own_frz : ∀ d : D, d.fz = true → d.frz.own = false
  | .non, _ => rfl
  | .bl _, _ => rfl
  | .int _, _ => rfl
  | .str _, _ => rfl
  | .cst _, _ => rfl
  | .hol _, _ => rfl
  | .exv _ _, _ => rfl
  | .scr _, _ => rfl
  | .tup l, h => by simp only [D.frz, D.own]; exact D.owns_frz l (by simpa [D.fz] using h)
  | .lst _ l, h => rfl
  | .dic _ _ _, h => rfl
  | .ins _ _ _, h => by simp [D.fz] at h
theorem D.owns_frz : ∀ l : List D, D.fzs l = true → D.owns (D.frzs l) = false
  | [], _ => rfl
  | d :: l, h => by
    simp only [D.fzs, Bool.and_eq_true] at h
    simp only [D.frzs, D.owns, D.own_frz d h.1, D.owns_frz l h.2, Bool.or_self]
end
theorem DE.free (h : PE X e (tVar i)) : DE X W false e (eF i) := by
  refine PE.imp h fun σ H Q ⟨κ, ρ, τ, vs, st, w⟩ => ?_
  unfold eF at w
  split at w
  · rename_i d hd
    split at w
    · rename_i hf
      obtain ⟨x, hx⟩ := st.slot (join_some hd)
      have hi : i < ρ.length := (List.getElem?_eq_some_iff.mp (join_some hd)).1
      have s1 := (st.take (join_some hd) hx).frzT hf
      have s2 := s1.back (by simp [hi]) hx
      rw [List.set_set] at s2
      refine ⟨x, hx, w x H ((s2.mark hx).copy (by simp [look, hi]) (D.own_frz d hf)) fun z => nomatch z⟩
    · exact w.elim
  · exact w.elim
def eC (d : D) : Cm Tm := fun ρ => .ok (.v d) ρ
theorem DE.const {v : V} {d : D} (h : PE X e (tC v)) (o : ∀ H Z, O X.K H Z d v []) : DE X W true e (eC d) := by
  refine PE.imp h fun σ H Q ⟨κ, ρ, τ, vs, st, w⟩ => ?_
  exact w v H (st.push fun Z => o H Z) fun _ => ⟨rfl, Same.refl H⟩
theorem DE.int {n : Int} {k} : DE X W true (.Constant (.int n) k pos) (eC (.int n)) := DE.const pe_int fun _ _ => .int n
theorem DE.bl {n : Bool} {k} : DE X W true (.Constant (.bool n) k pos) (eC (.bl n)) := DE.const pe_bl fun _ _ => .bl n
theorem DE.non {k} : DE X W true (.Constant .none k pos) (eC .non) := DE.const pe_non fun _ _ => .non
theorem DE.str {z : Str} {l : List Nat} {k} (h : z = ⟨l.toArray⟩) : DE X W true (.Constant (.str z) k pos) (eC (.str l)) := by
  subst h
  exact DE.const pe_str fun _ _ => .str l

def Op2 (K : PySem.W.Frag) (q : Bool) (r : R2) (g : D → D → Option D) : Prop := ∀ (κ : Fr) (ρ : Env) (τ : List Tm) (vs : List V) (σ : St) (H : Hp) (ta tb : Tm) (va vb : V) (a b c : D) (Q : VK),
  Stt K κ ρ (tb :: ta :: τ) (vb :: va :: vs) σ H → look ρ ta = some a → look ρ tb = some b → g a b = some c →
  (∀ v H', Stt K κ ρ (.v c :: τ) (v :: vs) σ H' → (q = true → Same H H') → Q v H') → r va vb H Q
def e2 (g : D → D → Option D) (f h : Cm Tm) : Cm Tm := fun ρ => (f ρ).bind fun ta ρ1 => (h ρ1).bind fun tb ρ2 =>
  match look ρ2 ta, look ρ2 tb with
  | some a, some b => match g a b with
    | some c => .ok (.v c) ρ2
    | none => .bad
  | _, _ => .bad
theorem e2_imp {K : PySem.W.Frag} {r : R2} {gg : D → D → Option D} (hr : Op2 K true r gg) {σ : St} {H : Hp} {Q : VK} (h : tD K W (q1 && q2) (e2 gg f g) σ H Q) : tOp r (tD K W q1 f) (tD K W q2 g) σ H Q := by
  obtain ⟨κ, ρ, τ, vs, st, w⟩ := h
  refine ⟨κ, ρ, τ, vs, st, Out.wp_mono (Out.wp_bind w) (fun ta ρ1 w1 v H1 st1 k1 => ?_) fun _ _ z => z⟩
  refine ⟨κ, ρ1, ta :: τ, v :: vs, st1, Out.wp_mono (Out.wp_bind w1) (fun tb ρ2 w2 u H2 st2 k2 => ?_) fun e ρ2 z H2 d s2 eo => z H2 d s2.pop eo⟩
  try dsimp only at w2
  split at w2
  · rename_i a b ea eb
    split at w2
    · rename_i c hc
      refine hr κ ρ2 τ vs σ H2 ta tb v u a b c Q st2 ea eb hc fun x H3 st3 k3 => w2 x H3 st3 fun hq => ?_
      rw [Bool.and_eq_true] at hq
      obtain ⟨z1, z2⟩ := k1 hq.1
      obtain ⟨z3, z4⟩ := k2 hq.2
      exact ⟨z3.trans z1, (z2.trans z4).trans (k3 rfl)⟩
    · exact w2.elim
  · exact w2.elim
theorem DE.bin {op : Operator} {r : R2} {gg : D → D → Option D} (ho : OpR X (binaryOp op) r) (hr : Op2 X.K true r gg) (ha : DE X W q1 a f) (hb : DE X W q2 b g) : DE X W (q1 && q2) (.BinOp a op b pos) (e2 gg f g) :=
  PE.imp (pe_op ho ha hb) fun _ _ _ h => e2_imp hr h
theorem DE.cmp {op : CmpOp} {r : R2} {gg : D → D → Option D} (ho : OpR X (compareOp op) r) (hr : Op2 X.K true r gg) (ha : DE X W q1 a f) (hb : DE X W q2 b g) (hm : behindInMarks op b = false) : DE X W (q1 && q2) (.Compare a [op] [b] pos) (e2 gg f g) :=
  PE.imp (pe_cmpR ho ha hb hm) fun _ _ _ h => e2_imp hr h
def toB (f : Cm Tm) : Cm Bool := fun ρ => (f ρ).bind fun t ρ1 => match t with
  | .v (.bl b) => .ok b ρ1
  | _ => .bad
theorem Stt.bl {K : PySem.W.Frag} {κ : Fr} {ρ : Env} {τ : List Tm} {vs : List V} {σ : St} {H : Hp} {v : V} {b : Bool} (h : Stt K κ ρ (.v (.bl b) :: τ) (v :: vs) σ H) : v = .bl b := by
  obtain ⟨Z, A, B, c, t, g⟩ := h
  cases t with
  | v h1 h2 => cases h1; rfl
theorem DT.val (h : DE X W q e f) (he : ∀ whole, isTrue e X.env whole = (do let v ← whole; standAt e.pos; holding [v] (truthy v)) := by intro _; rfl) : DT X W e (toB f) := by
  refine PT.imp (pt_val h he) fun σ H Q ⟨κ, ρ, τ, vs, st, w⟩ => ?_
  refine ⟨κ, ρ, τ, vs, st, Out.wp_mono (Out.wp_bind w) (fun t ρ1 w1 v H1 st1 k1 => ?_) fun _ _ z => z⟩
  try dsimp only at w1
  split at w1
  · rename_i b
    have e := st1.bl
    subst e
    exact ⟨b, rfl, w1 H1 st1.pop⟩
  · exact w1.elim
theorem DT.cmp {op : CmpOp} {r : R2} {gg : D → D → Option D} (ho : OpR X (compareOp op) r) (hr : Op2 X.K true r gg) (ha : DE X W q1 a f) (hb : DE X W q2 b g) (hm : behindInMarks op b = false) : DT X W (.Compare a [op] [b] pos) (toB (e2 gg f g)) := by
  refine PT.imp (pt_cmpR ho ha hb hm) fun σ H Q ⟨κ, ρ, τ, vs, st, w⟩ => ?_
  show tOp r (tD X.K W q1 f) (tD X.K W q2 g) σ H _
  refine e2_imp hr ⟨κ, ρ, τ, vs, st, Out.wp_mono (Out.wp_bind w) (fun t ρ1 w1 v H1 st1 k1 => ?_) fun _ _ z => z⟩
  try dsimp only at w1
  split at w1
  · rename_i b
    have e := st1.bl
    subst e
    exact ⟨b, rfl, w1 H1 st1.pop⟩
  · exact w1.elim
end
end Dl

set_option linter.all false
set_option maxRecDepth 100000
namespace Dl
open PySem L2
section
variable {X : Cx} {W : WX} {q q1 q2 : Bool} {e a b c : Expr} {es rest : List Expr} {f g : Cm Tm} {fb gb : Cm Bool} {fs : Cm (List Tm)} {pos : Pos} {i : Nat}

def bNot (f : Cm Bool) : Cm Bool := fun ρ => (f ρ).bind fun b ρ1 => .ok (!b) ρ1
def bAnd (f g : Cm Bool) : Cm Bool := fun ρ => (f ρ).bind fun b ρ1 => if b = true then g ρ1 else .ok false ρ1
def bOr (f g : Cm Bool) : Cm Bool := fun ρ => (f ρ).bind fun b ρ1 => if b = true then .ok true ρ1 else g ρ1
theorem DT.not (h : DT X W a fb) : DT X W (.UnaryOp .Not a pos) (bNot fb) := by
  refine PT.imp (pt_not h) fun σ H Q ⟨κ, ρ, τ, vs, st, w⟩ => ?_
  exact ⟨κ, ρ, τ, vs, st, Out.wp_mono (Out.wp_bind w) (fun t ρ1 w1 H1 st1 => w1 H1 st1) fun _ _ z => z⟩
def DW (X : Cx) (W : WX) (e : Expr) (f : Cm Bool) : Prop := PW X e (tDT X.K W f)
theorem PW.imp {X : Cx} {e : Expr} {t t' : TT} (h : PW X e t) (i : ∀ σ H Q, t' σ H Q → t σ H Q) : PW X e t' := ⟨fun wh pins s σ H Q I q => h.run wh pins s σ H Q I (i σ H Q q)⟩
theorem DW.and1 (h : DT X W a fb) : DW X W (.BoolOp .And [a] pos) fb := pw_and1 h
theorem DW.or1 (h : DT X W a fb) : DW X W (.BoolOp .Or [a] pos) fb := pw_or1 h
theorem DW.and (h : DT X W a fb) (h2 : DW X W (.BoolOp .And (b :: rest) pos) gb) : DW X W (.BoolOp .And (a :: b :: rest) pos) (bAnd fb gb) := by
  refine PW.imp (pw_and h h2) fun σ H Q ⟨κ, ρ, τ, vs, st, w⟩ => ?_
  refine ⟨κ, ρ, τ, vs, st, Out.wp_mono (Out.wp_bind w) (fun t ρ1 w1 H1 st1 => ?_) fun _ _ z => z⟩
  cases t with
  | true => exact ⟨κ, ρ1, τ, vs, st1, w1⟩
  | false => exact w1 H1 st1
theorem DW.or (h : DT X W a fb) (h2 : DW X W (.BoolOp .Or (b :: rest) pos) gb) : DW X W (.BoolOp .Or (a :: b :: rest) pos) (bOr fb gb) := by
  refine PW.imp (pw_or h h2) fun σ H Q ⟨κ, ρ, τ, vs, st, w⟩ => ?_
  refine ⟨κ, ρ, τ, vs, st, Out.wp_mono (Out.wp_bind w) (fun t ρ1 w1 H1 st1 => ?_) fun _ _ z => z⟩
  cases t with
  | true => exact w1 H1 st1
  | false => exact ⟨κ, ρ1, τ, vs, st1, w1⟩
theorem DW.dt (h : DW X W a fb) : DT X W a fb := PW.pt h
def vNot (f : Cm Tm) : Cm Tm := fun ρ => (f ρ).bind fun t ρ1 => match t with
  | .v (.bl b) => .ok (.v (.bl (!b))) ρ1
  | _ => .bad
def vAnd (f g : Cm Tm) : Cm Tm := fun ρ => (f ρ).bind fun t ρ1 => match t with
  | .v (.bl b) => if b = true then g ρ1 else .ok (.v (.bl false)) ρ1
  | _ => .bad
def vOr (f g : Cm Tm) : Cm Tm := fun ρ => (f ρ).bind fun t ρ1 => match t with
  | .v (.bl b) => if b = true then .ok (.v (.bl true)) ρ1 else g ρ1
  | _ => .bad
theorem DE.not (h : DE X W q a f) : DE X W q (.UnaryOp .Not a pos) (vNot f) := by
  refine PE.imp (pe_not h) fun σ H Q ⟨κ, ρ, τ, vs, st, w⟩ => ?_
  refine ⟨κ, ρ, τ, vs, st, Out.wp_mono (Out.wp_bind w) (fun t ρ1 w1 v H1 st1 k1 => ?_) fun _ _ z => z⟩
  try dsimp only at w1
  split at w1
  · rename_i b
    have e := st1.bl
    subst e
    exact ⟨b, rfl, w1 _ H1 (st1.pop.pushB _) k1⟩
  · exact w1.elim
theorem DE.one {op} (h : DE X W q a f) : DE X W q (.BoolOp op [a] pos) f := pe_one h
theorem DE.and (h : DE X W q1 a f) (h2 : DE X W q2 (.BoolOp .And (b :: rest) pos) g) : DE X W (q1 && q2) (.BoolOp .And (a :: b :: rest) pos) (vAnd f g) := by
  refine PE.imp (pe_and h h2) fun σ H Q ⟨κ, ρ, τ, vs, st, w⟩ => ?_
  refine ⟨κ, ρ, τ, vs, st, Out.wp_mono (Out.wp_bind w) (fun t ρ1 w1 v H1 st1 k1 => ?_) fun _ _ z => z⟩
  try dsimp only at w1
  split at w1
  · rename_i b
    have e := st1.bl
    subst e
    refine ⟨b, rfl, ?_⟩
    cases b with
    | true =>
      refine ⟨κ, ρ1, τ, vs, st1.pop, Out.wp_mono w1 (fun t ρ2 w2 v H2 st2 k2 => w2 v H2 st2 fun hq => ?_) fun _ _ z => z⟩
      rw [Bool.and_eq_true] at hq
      exact ⟨(k2 hq.2).1.trans (k1 hq.1).1, (k1 hq.1).2.trans (k2 hq.2).2⟩
    | false => exact w1 _ H1 (st1.pop.pushB _) fun hq => by rw [Bool.and_eq_true] at hq; exact k1 hq.1
  · exact w1.elim
theorem DE.or (h : DE X W q1 a f) (h2 : DE X W q2 (.BoolOp .Or (b :: rest) pos) g) : DE X W (q1 && q2) (.BoolOp .Or (a :: b :: rest) pos) (vOr f g) := by
  refine PE.imp (pe_or h h2) fun σ H Q ⟨κ, ρ, τ, vs, st, w⟩ => ?_
  refine ⟨κ, ρ, τ, vs, st, Out.wp_mono (Out.wp_bind w) (fun t ρ1 w1 v H1 st1 k1 => ?_) fun _ _ z => z⟩
  try dsimp only at w1
  split at w1
  · rename_i b
    have e := st1.bl
    subst e
    refine ⟨b, rfl, ?_⟩
    cases b with
    | false =>
      refine ⟨κ, ρ1, τ, vs, st1.pop, Out.wp_mono w1 (fun t ρ2 w2 v H2 st2 k2 => w2 v H2 st2 fun hq => ?_) fun _ _ z => z⟩
      rw [Bool.and_eq_true] at hq
      exact ⟨(k2 hq.2).1.trans (k1 hq.1).1, (k1 hq.1).2.trans (k2 hq.2).2⟩
    | true => exact w1 _ H1 (st1.pop.pushB _) fun hq => by rw [Bool.and_eq_true] at hq; exact k1 hq.1
  · exact w1.elim
def eIf (c : Cm Bool) (f g : Cm Tm) : Cm Tm := fun ρ => (c ρ).bind fun b ρ1 => if b = true then f ρ1 else g ρ1
theorem DE.ite (h : DT X W c fb) (ha : DE X W q1 a f) (hb : DE X W q2 b g) : DE X W false (.IfExp c a b pos) (eIf fb f g) := by
  refine PE.imp (pe_ifExp h ha hb) fun σ H Q ⟨κ, ρ, τ, vs, st, w⟩ => ?_
  refine ⟨κ, ρ, τ, vs, st, Out.wp_mono (Out.wp_bind w) (fun t ρ1 w1 H1 st1 => ?_) fun _ _ z => z⟩
  cases t with
  | true => exact ⟨κ, ρ1, τ, vs, st1, Out.wp_mono w1 (fun t ρ2 w2 v H2 st2 _ => w2 v H2 st2 fun z => nomatch z) fun _ _ z => z⟩
  | false => exact ⟨κ, ρ1, τ, vs, st1, Out.wp_mono w1 (fun t ρ2 w2 v H2 st2 _ => w2 v H2 st2 fun z => nomatch z) fun _ _ z => z⟩
theorem DE.weak (h : DE X W q a f) : DE X W false a f := PE.imp h fun σ H Q ⟨κ, ρ, τ, vs, st, w⟩ => ⟨κ, ρ, τ, vs, st, Out.wp_mono w (fun t ρ2 w2 v H2 st2 _ => w2 v H2 st2 fun z => nomatch z) fun _ _ z => z⟩

def aNil : Cm (List Tm) := fun ρ => .ok [] ρ
def aCons (f : Cm Tm) (g : Cm (List Tm)) : Cm (List Tm) := fun ρ => (f ρ).bind fun t ρ1 => (g ρ1).bind fun ts ρ2 => .ok (t :: ts) ρ2
theorem Tms.app {K : PySem.W.Frag} {H Z : Hp} {σ : St} : ∀ {τ1 τ2 : List Tm} {v1 v2 : List V} {A B : List Addr}, Tms K H Z σ τ1 v1 A → Tms K H Z σ τ2 v2 B → Tms K H Z σ (τ1 ++ τ2) (v1 ++ v2) (A ++ B)
  | _, _, _, _, _, _, .nil, h => h
  | _, _, _, _, _, _, .v h1 h2, h => by rw [List.append_assoc]; exact .v h1 (Tms.app h2 h)
  | _, _, _, _, _, _, .s h1 h2, h => .s h1 (Tms.app h2 h)
theorem Tms.cut {K : PySem.W.Frag} {H Z : Hp} {σ : St} : ∀ {τ1 τ2 : List Tm} {v1 v2 : List V} {A : List Addr}, v1.length = τ1.length → Tms K H Z σ (τ1 ++ τ2) (v1 ++ v2) A → ∃ A1 A2, A = A1 ++ A2 ∧ Tms K H Z σ τ1 v1 A1 ∧ Tms K H Z σ τ2 v2 A2
  | [], _, [], _, _, _, h => ⟨[], _, rfl, .nil, h⟩
  | [], _, _ :: _, _, _, e, _ => by simp at e
  | _ :: _, _, [], _, _, e, _ => by simp at e
  | _ :: _, _, _ :: _, _, _, e, .v h1 h2 => by
    obtain ⟨A1, A2, rfl, q1, q2⟩ := Tms.cut (by simpa using e) h2
    exact ⟨_ ++ A1, A2, by simp, .v h1 q1, q2⟩
  | _ :: _, _, _ :: _, _, _, e, .s h1 h2 => by
    obtain ⟨A1, A2, rfl, q1, q2⟩ := Tms.cut (by simpa using e) h2
    exact ⟨A1, A2, rfl, .s h1 q1, q2⟩
theorem Stt.turn {K : PySem.W.Frag} {κ : Fr} {ρ : Env} {τ1 τ2 τ : List Tm} {v1 v2 vs : List V} {σ : St} {H : Hp} (e1 : v1.length = τ1.length) (e2 : v2.length = τ2.length)
    (h : Stt K κ ρ (τ1 ++ (τ2 ++ τ)) (v1 ++ (v2 ++ vs)) σ H) : Stt K κ ρ (τ2 ++ (τ1 ++ τ)) (v2 ++ (v1 ++ vs)) σ H := by
  obtain ⟨Z, A, B, c, t, g⟩ := h
  obtain ⟨A1, A2, rfl, t1, t2⟩ := t.cut e1
  obtain ⟨A3, A4, rfl, t3, t4⟩ := t2.cut e2
  refine ⟨Z, A, _, c, t3.app (t1.app t4), g.sub (.of_perm (List.Perm.append_left _ ?_))⟩
  rw [← List.append_assoc, ← List.append_assoc]
  exact List.perm_append_comm.append_right _
theorem DA.nil : DA X W true [] aNil := PA.imp pa_nil fun σ H Q ⟨κ, ρ, τ, vs, st, w⟩ => w [] H rfl st fun _ => ⟨rfl, Same.refl H⟩
theorem Stt.popN {K : PySem.W.Frag} {κ : Fr} {ρ : Env} {τ : List Tm} {vs : List V} {σ : St} {H : Hp} : ∀ {ts : List Tm} {xs : List V}, xs.length = ts.length → Stt K κ ρ (ts ++ τ) (xs ++ vs) σ H → Stt K κ ρ τ vs σ H
  | [], [], _, h => h
  | [], _ :: _, e, _ => by simp at e
  | _ :: _, [], e, _ => by simp at e
  | _ :: ts, _ :: xs, e, h => Stt.popN (ts := ts) (xs := xs) (by simpa using e) (Stt.pop h)
theorem DA.cons (h : DE X W q1 e f) (h2 : DA X W q2 es fs) (hs : starEach (e :: es) X.env = (false, eval e X.env) :: starEach es X.env := by rfl) : DA X W (q1 && q2) (e :: es) (aCons f fs) := by
  refine PA.imp (pa_cons h h2 hs) fun σ H Q ⟨κ, ρ, τ, vs, st, w⟩ => ?_
  refine ⟨κ, ρ, τ, vs, st, Out.wp_mono (Out.wp_bind w) (fun t ρ1 w1 v H1 st1 k1 => ?_) fun _ _ z => z⟩
  refine ⟨κ, ρ1, t :: τ, v :: vs, st1, Out.wp_mono (Out.wp_bind w1) (fun ts ρ2 w2 xs H2 hl st2 k2 => ?_) fun e ρ2 z H2 d s2 eo => z H2 d s2.pop eo⟩
  refine w2 (v :: xs) H2 (by simp [hl]) ?_ fun hq => ?_
  · exact Stt.turn (τ1 := ts) (τ2 := [t]) (v1 := xs) (v2 := [v]) hl rfl st2
  · rw [Bool.and_eq_true] at hq
    exact ⟨(k2 hq.2).1.trans (k1 hq.1).1, (k1 hq.1).2.trans (k2 hq.2).2⟩
def dats : List Tm → Option (List D)
  | [] => some []
  | .v d :: ts => (dats ts).map (d :: ·)
  | .s _ :: _ => none
theorem dats_eq : ∀ {ts : List Tm} {ds : List D}, dats ts = some ds → ts = tms ds
  | [], ds, h => by cases h; rfl
  | .v d :: ts, ds, h => by
    simp only [dats, Option.map_eq_some_iff] at h
    obtain ⟨r, h1, rfl⟩ := h
    rw [dats_eq h1]; rfl
  | .s _ :: _, _, h => by cases h
def eTup (f : Cm (List Tm)) : Cm Tm := fun ρ => (f ρ).bind fun ts ρ1 => match dats ts with
  | some ds => if ds.length ≤ sizeLine then .ok (.v (.tup ds)) ρ1 else .bad
  | none => .bad
def eLst (f : Cm (List Tm)) : Cm Tm := fun ρ => (f ρ).bind fun ts ρ1 => match dats ts with
  | some ds => if ds.length ≤ sizeLine then .ok (.v (.lst true ds)) ρ1 else .bad
  | none => .bad
theorem tms_len (ds : List D) : (tms ds).length = ds.length := by simp [tms]
theorem DE.tup {x1} (h : DA X W q es fs) : DE X W q (.Tuple es x1 pos) (eTup fs) := by
  refine PE.imp (pe_tup h) fun σ H Q ⟨κ, ρ, τ, vs, st, w⟩ => ?_
  refine ⟨κ, ρ, τ, vs, st, Out.wp_mono (Out.wp_bind w) (fun ts ρ1 w1 xs H1 hl st1 k1 => ?_) fun _ _ z => z⟩
  try dsimp only at w1
  split at w1
  · rename_i ds hd
    obtain rfl := dats_eq hd
    split at w1
    · rename_i hz
      rw [tms_len] at hl
      exact ⟨by rw [hl]; exact hz, fun p hp => w1 _ _ (st1.tup hl hp) fun hq => ⟨(k1 hq).1, (k1 hq).2.trans (Same_new hp)⟩⟩
    · exact w1.elim
  · exact w1.elim
theorem DE.lst (h : DA X W q es fs) : DE X W q (.List es pos) (eLst fs) := by
  refine PE.imp (pe_lst h) fun σ H Q ⟨κ, ρ, τ, vs, st, w⟩ => ?_
  refine ⟨κ, ρ, τ, vs, st, Out.wp_mono (Out.wp_bind w) (fun ts ρ1 w1 xs H1 hl st1 k1 => ?_) fun _ _ z => z⟩
  try dsimp only at w1
  split at w1
  · rename_i ds hd
    obtain rfl := dats_eq hd
    split at w1
    · rename_i hz
      rw [tms_len] at hl
      exact ⟨by rw [hl]; exact hz, fun p hp => w1 _ _ (st1.lst hl hp) fun hq => ⟨(k1 hq).1, (k1 hq).2.trans (Same_new hp)⟩⟩
    · exact w1.elim
  · exact w1.elim
def eZ (f : Cm Tm) : Cm Tm := fun ρ => (f ρ).bind fun t ρ1 => match t with
  | .v d => if d.fz then .ok (.v d.frz) ρ1 else .bad
  | _ => .bad
theorem DE.frz (h : DE X W q e f) : DE X W q e (eZ f) := by
  refine PE.imp h fun σ H Q ⟨κ, ρ, τ, vs, st, w⟩ => ?_
  refine ⟨κ, ρ, τ, vs, st, Out.wp_mono (Out.wp_bind w) (fun t ρ1 w1 v H1 st1 k1 => ?_) fun _ _ z => z⟩
  try dsimp only at w1
  split at w1
  · rename_i d
    split at w1
    · rename_i hf
      exact w1 _ _ (st1.frzT hf) k1
    · exact w1.elim
  · exact w1.elim
end

section
variable {X : Cx} {W : WX} {q : Bool} {as bs : List Nat} {s : Stmt} {ss : List Stmt} {e c : Expr} {f : Cm Tm} {fb : Cm Bool} {g h : Cm Fl} {pos : Pos} {i : Nat}
theorem Frm.refl {σ : St} : Frm as σ σ := fun _ _ => rfl
theorem Frm.trans {σ σ1 σ2 : St} (a : Frm as σ σ1) (b : Frm bs σ1 σ2) : Frm (as ++ bs) σ σ2 := fun i n => by
  rw [List.mem_append, not_or] at n
  rw [b i n.2, a i n.1]
theorem Frm.mono {σ σ1 : St} (a : Frm as σ σ1) (h : ∀ i ∈ as, i ∈ bs) : Frm bs σ σ1 := fun i n => a i fun q => n (h i q)
theorem Frm.left {σ σ1 : St} (a : Frm as σ σ1) : Frm (as ++ bs) σ σ1 := a.mono fun _ q => List.mem_append_left _ q
theorem Frm.right {σ σ1 : St} (a : Frm bs σ σ1) : Frm (as ++ bs) σ σ1 := a.mono fun _ q => List.mem_append_right _ q
theorem Frm.set {σ : St} {v : Option V} : Frm [i] σ (σ.set i v) := fun j n => by
  rw [List.getElem?_set_ne (fun q => n (by simp [q]))]

def sNil : Cm Fl := fun ρ => .ok .nx ρ
def sSeq (g h : Cm Fl) : Cm Fl := fun ρ => (g ρ).bind fun fl ρ1 => match fl with
  | .nx => h ρ1
  | fl => .ok fl ρ1
theorem DSs.nil : DSs X W [] [] sNil := PSs.imp pss_nil fun D σ H ⟨κ, ρ, τ, vs, vo, st, w⟩ => w σ H Frm.refl st
theorem DSs.one (h : DS X W as s g) : DSs X W as [s] g := pss_one h
theorem DSs.cons (h1 : DS X W as s g) (h2 : DSs X W bs ss h) : DSs X W (as ++ bs) (s :: ss) (sSeq g h) := by
  refine PSs.imp (pss_cons h1 h2) fun D σ H ⟨κ, ρ, τ, vs, vo, st, w⟩ => ?_
  refine ⟨κ, ρ, τ, vs, vo, st, Out.wp_mono (Out.wp_bind w) (fun fl ρ1 w1 => ?_) fun e ρ1 z σ' H' d fm s2 eo => z σ' H' d fm.left s2 eo⟩
  cases fl with
  | nx =>
    intro σ1 H1 fm st1
    refine ⟨κ, ρ1, τ, vs, vo, st1, Out.wp_mono w1 (fun fl ρ2 w2 => ?_) fun e ρ1 z σ' H' d fm2 s2 eo => z σ' H' d (fm.trans fm2) s2 eo⟩
    cases fl with
    | nx => exact fun σ2 H2 fm2 st2 => w2 σ2 H2 (fm.trans fm2) st2
    | bk => exact fun σ2 H2 fm2 st2 => w2 σ2 H2 (fm.trans fm2) st2
    | ct => exact fun σ2 H2 fm2 st2 => w2 σ2 H2 (fm.trans fm2) st2
    | rt d => exact fun v σ2 H2 fm2 st2 => w2 v σ2 H2 (fm.trans fm2) st2
  | bk => exact fun σ2 H2 fm2 st2 => w1 σ2 H2 fm2.left st2
  | ct => exact fun σ2 H2 fm2 st2 => w1 σ2 H2 fm2.left st2
  | rt d => exact fun v σ2 H2 fm2 st2 => w1 v σ2 H2 fm2.left st2
def sFl (fl : Fl) : Cm Fl := fun ρ => .ok fl ρ
theorem DS.pass : DS X W [] (.Pass pos) (sFl .nx) := PS.imp ps_pass fun D σ H ⟨κ, ρ, τ, vs, vo, st, w⟩ => w σ H Frm.refl st
theorem DS.brk : DS X W [] (.Break pos) (sFl .bk) := PS.imp ps_break fun D σ H ⟨κ, ρ, τ, vs, vo, st, w⟩ => w σ H Frm.refl st
theorem DS.cont : DS X W [] (.Continue pos) (sFl .ct) := PS.imp ps_continue fun D σ H ⟨κ, ρ, τ, vs, vo, st, w⟩ => w σ H Frm.refl st
theorem DS.retN : DS X W [] (.Return none pos) (sFl (.rt .non)) := PS.imp ps_retN fun D σ H ⟨κ, ρ, τ, vs, vo, st, w⟩ => w .non σ H Frm.refl st.pushN
def sRet (f : Cm Tm) : Cm Fl := fun ρ => (f ρ).bind fun t ρ1 => match t with
  | .v d => .ok (.rt d) ρ1
  | _ => .bad
theorem DS.ret (h : DE X W q e f) : DS X W [] (.Return (some e) pos) (sRet f) := by
  refine PS.imp (ps_ret h) fun D σ H ⟨κ, ρ, τ, vs, vo, st, w⟩ => ?_
  refine ⟨κ, ρ, τ, vs, st, Out.wp_mono (Out.wp_bind w) (fun t ρ1 w1 v H1 st1 k1 => ?_) fun e ρ1 z H' d s2 eo => z σ H' d Frm.refl s2 eo⟩
  cases t with
  | v d => exact w1 v σ H1 Frm.refl st1
  | s i => exact w1.elim
def sDrop (f : Cm Tm) : Cm Fl := fun ρ => (f ρ).bind fun _ ρ1 => .ok .nx ρ1
theorem DS.expr (h : DE X W q e f) (hs : swapsWith e none pos.line X.env = pure false := by rfl) : DS X W [] (.Expr e pos) (sDrop f) := by
  refine PS.imp (ps_expr h hs) fun D σ H ⟨κ, ρ, τ, vs, vo, st, w⟩ => ?_
  exact ⟨κ, ρ, τ, vs, st, Out.wp_mono (Out.wp_bind w) (fun t ρ1 w1 v H1 st1 k1 => w1 σ H1 Frm.refl st1.pop) fun e ρ1 z H' d s2 eo => z σ H' d Frm.refl s2 eo⟩
def sIf (c : Cm Bool) (g h : Cm Fl) : Cm Fl := fun ρ => (c ρ).bind fun b ρ1 => if b = true then g ρ1 else h ρ1
theorem DS.ite {ss2 : List Stmt} (hc : DT X W c fb) (h1 : DSs X W as ss g) (h2 : DSs X W bs ss2 h) : DS X W (as ++ bs) (.If c ss ss2 pos) (sIf fb g h) := by
  refine PS.imp (ps_if hc h1 h2) fun D σ H ⟨κ, ρ, τ, vs, vo, st, w⟩ => ?_
  refine ⟨κ, ρ, τ, vs, st, Out.wp_mono (Out.wp_bind w) (fun b ρ1 w1 H1 st1 => ?_) fun e ρ1 z H' d s2 eo => z σ H' d Frm.refl s2 eo⟩
  cases b with
  | true =>
    refine ⟨κ, ρ1, τ, vs, vo, st1, Out.wp_mono (show (g ρ1).wp _ _ from w1) (fun fl ρ2 w2 => ?_) fun e ρ1 z σ' H' d fm2 s2 eo => z σ' H' d fm2.left s2 eo⟩
    cases fl with
    | nx => exact fun σ2 H2 fm2 st2 => w2 σ2 H2 fm2.left st2
    | bk => exact fun σ2 H2 fm2 st2 => w2 σ2 H2 fm2.left st2
    | ct => exact fun σ2 H2 fm2 st2 => w2 σ2 H2 fm2.left st2
    | rt d => exact fun v σ2 H2 fm2 st2 => w2 v σ2 H2 fm2.left st2
  | false =>
    refine ⟨κ, ρ1, τ, vs, vo, st1, Out.wp_mono (show (h ρ1).wp _ _ from w1) (fun fl ρ2 w2 => ?_) fun e ρ1 z σ' H' d fm2 s2 eo => z σ' H' d fm2.right s2 eo⟩
    cases fl with
    | nx => exact fun σ2 H2 fm2 st2 => w2 σ2 H2 fm2.right st2
    | bk => exact fun σ2 H2 fm2 st2 => w2 σ2 H2 fm2.right st2
    | ct => exact fun σ2 H2 fm2 st2 => w2 σ2 H2 fm2.right st2
    | rt d => exact fun v σ2 H2 fm2 st2 => w2 v σ2 H2 fm2.right st2
def sSet (i : Nat) (f : Cm Tm) : Cm Fl := fun ρ => (f ρ).bind fun t ρ1 => match t with
  | .v d => if i < ρ1.length then .ok .nx (ρ1.set i (some d)) else .bad
  | _ => .bad
theorem DS.set_of {e2 : Expr} {t : TE} {T : TS} {f : Cm Tm} (hT : PS X s (tAsg (tD X.K W q f) (gName i))) : DS X W [i] s (sSet i f) := by
  refine PS.imp hT fun D σ H ⟨κ, ρ, τ, vs, vo, st, w⟩ => ?_
  refine ⟨κ, ρ, τ, vs, st, Out.wp_mono (Out.wp_bind w) (fun t ρ1 w1 v H1 st1 k1 => ?_) fun e ρ1 z H' d s2 eo => z σ H' d Frm.refl s2 eo⟩
  cases t with
  | v d =>
    by_cases hi : i < ρ1.length
    · try dsimp only at w1
      rw [if_pos hi] at w1
      exact w1 _ H1 Frm.set (st1.put hi vo)
    · try dsimp only at w1
      rw [if_neg hi] at w1
      exact w1.elim
  | s i => exact w1.elim
theorem DS.set {x : Str} {pos' : Pos} (hN : X.N.Nodup) (h : DE X W q e f) (hi : X.N[i]? = some x := by rfl) (hx : Loc X.env.scope x := by first | exact Or.inl rfl | exact Or.inr rfl) (hs : swapsWith e (some (.Name x pos')) pos.line X.env = pure false := by rfl)
    (hf : X.fn x = true ∨ X.env.scope.names.lookup x = some .local := by first | exact .inl rfl | exact .inr rfl) : DS X W [i] (.Assign [.Name x pos'] e pos) (sSet i f) :=
  DS.set_of (e2 := e) (t := tD X.K W q f) (T := fun _ _ _ => True) (ps_set hN hi hx h hs hf)
def sAug (i : Nat) (g : D → D → Option D) (f : Cm Tm) : Cm Fl := fun ρ => (f ρ).bind fun t ρ1 => match look ρ1 (.s i), look ρ1 t with
  | some a, some b => match g a b with
    | some c => .ok .nx (ρ1.set i (some c))
    | none => .bad
  | _, _ => .bad
theorem DS.aug {x : Str} {pos' : Pos} {op : Operator} {ti : TIp} {gg : D → D → Option D} (hN : X.N.Nodup) (h : DE X W q e f) (ho : PIp X op ti) (hr : Op2 X.K true ti gg) (hi : X.N[i]? = some x := by rfl) (hx : Loc X.env.scope x := by first | exact Or.inl rfl | exact Or.inr rfl)
    (hf : X.fn x = true ∨ X.env.scope.names.lookup x = some .local := by first | exact .inl rfl | exact .inr rfl) : DS X W [i] (.AugAssign (.Name x pos') op e pos) (sAug i gg (fun ρ => (eM i ρ).bind fun _ ρ1 => f ρ1)) := by
  refine PS.imp (ps_aug hN hi hx h ho hf) fun D σ H ⟨κ, ρ, τ, vs, vo, st, w⟩ => ?_
  have w' := Out.wp_bind (Out.wp_bind w)
  unfold eM at w'
  split at w'
  · rename_i d hd
    obtain ⟨x, hx⟩ := st.slot (join_some hd)
    refine ⟨x, hx, κ, ρ, .s i :: τ, x :: vs, st.mark hx, Out.wp_mono w' (fun t ρ1 w1 v H1 st1 k1 => ?_) fun e ρ1 z H' d s2 eo => z σ H' d Frm.refl s2.pop eo⟩
    try dsimp only at w1
    split at w1
    · rename_i a b ea eb
      split at w1
      · rename_i c hc
        refine hr κ ρ1 τ vs σ H1 (.s i) t x v a b c _ st1 ea eb hc fun y H2 st2 k2 => ?_
        have hi' : i < ρ1.length := (List.getElem?_eq_some_iff.mp (join_some (show (ρ1[i]?).join = some a from ea))).1
        exact w1 _ H2 Frm.set (st2.put hi' vo)
      · exact w1.elim
    · exact w1.elim
  · exact w'.elim

def Fl.lp (k : Cm Fl) : Fl → Cm Fl
  | .nx => k
  | .ct => k
  | .bk => fun ρ => .ok .nx ρ
  | .rt d => fun ρ => .ok (.rt d) ρ
noncomputable def whileF (c : Cm Bool) (g : Cm Fl) : Nat → Cm Fl
  | 0 => fun _ => .bad
  | n + 1 => fun ρ => (c ρ).bind fun b ρ1 => if b = true then (g ρ1).bind (Fl.lp (whileF c g n))
    else .ok .nx ρ1
theorem whileF_more (c : Cm Bool) (g : Cm Fl) : ∀ n ρ, whileF c g n ρ ≠ .bad → whileF c g (n + 1) ρ = whileF c g n ρ
  | 0, ρ, h => absurd rfl h
  | n + 1, ρ, h => by
    show ((c ρ).bind _) = ((c ρ).bind _)
    unfold whileF at h
    cases hc : c ρ with
    | bad => rfl
    | exc e s => rfl
    | ok b ρ1 =>
      rw [hc] at h
      simp only [Out.bind_ok] at h ⊢
      cases b with
      | false => rfl
      | true =>
        simp only [if_true] at h ⊢
        cases hg : g ρ1 with
        | bad => rfl
        | exc e s => rfl
        | ok fl ρ2 =>
          rw [hg] at h
          simp only [Out.bind_ok] at h ⊢
          cases fl with
          | nx => exact whileF_more c g n ρ2 h
          | ct => exact whileF_more c g n ρ2 h
          | bk => rfl
          | rt d => rfl
theorem whileF_le (c : Cm Bool) (g : Cm Fl) {n m : Nat} (hm : n ≤ m) (ρ : Env) (h : whileF c g n ρ ≠ .bad) : whileF c g m ρ = whileF c g n ρ := by
  obtain ⟨k, rfl⟩ := Nat.exists_eq_add_of_le hm
  induction k with
  | zero => rfl
  | succ k ih =>
    have e := ih (Nat.le_add_right _ _)
    rw [← Nat.add_assoc, whileF_more c g (n + k) ρ (by rw [e]; exact h), e]
open Classical in
noncomputable def sWhile (c : Cm Bool) (g : Cm Fl) : Cm Fl := fun ρ => if h : ∃ n, whileF c g n ρ ≠ .bad then whileF c g h.choose ρ else .bad
theorem sWhile_eq {c : Cm Bool} {g : Cm Fl} {n : Nat} {ρ : Env} (h : whileF c g n ρ ≠ .bad) : sWhile c g ρ = whileF c g n ρ := by
  have hx : ∃ n, whileF c g n ρ ≠ .bad := ⟨n, h⟩
  unfold sWhile
  rw [dif_pos hx]
  have h2 := hx.choose_spec
  rcases Nat.le_total n hx.choose with q | q
  · exact whileF_le c g q ρ h
  · exact (whileF_le c g q ρ h2).symm
theorem sWhile_step (c : Cm Bool) (g : Cm Fl) (ρ : Env) : sWhile c g ρ = (c ρ).bind fun b ρ1 => if b = true then (g ρ1).bind (Fl.lp (sWhile c g))
    else .ok .nx ρ1 := by
  cases hc : c ρ with
  | bad =>
    simp only [Out.bind_bad]
    unfold sWhile
    rw [dif_neg]
    rintro ⟨n, h⟩
    cases n with
    | zero => exact h rfl
    | succ n => unfold whileF at h; rw [hc] at h; exact h rfl
  | exc e s =>
    simp only [Out.bind_exc]
    have h : whileF c g 1 ρ = .exc e s := by unfold whileF; rw [hc]; rfl
    rw [sWhile_eq (n := 1) (by rw [h]; exact fun q => nomatch q), h]
  | ok b ρ1 =>
    simp only [Out.bind_ok]
    cases b with
    | false =>
      have h : whileF c g 1 ρ = .ok .nx ρ1 := by unfold whileF; rw [hc]; rfl
      rw [sWhile_eq (n := 1) (by rw [h]; exact fun q => nomatch q), h]
      rfl
    | true =>
      simp only [if_true]
      cases hg : g ρ1 with
      | bad =>
        simp only [Out.bind_bad]
        unfold sWhile
        rw [dif_neg]
        rintro ⟨n, h⟩
        cases n with
        | zero => exact h rfl
        | succ n => unfold whileF at h; rw [hc] at h; simp only [Out.bind_ok, if_true, hg, Out.bind_bad] at h; exact h rfl
      | exc e s =>
        simp only [Out.bind_exc]
        have h : whileF c g 1 ρ = .exc e s := by unfold whileF; rw [hc]; simp only [Out.bind_ok, if_true, hg, Out.bind_exc]
        rw [sWhile_eq (n := 1) (by rw [h]; exact fun q => nomatch q), h]
      | ok fl ρ2 =>
        simp only [Out.bind_ok]
        have st : ∀ n, whileF c g (n + 1) ρ = Fl.lp (whileF c g n) fl ρ2 := fun n => by
          show ((c ρ).bind _) = _
          rw [hc]
          show ((g ρ1).bind _) = _
          rw [hg]
          rfl
        have again : ∀ (h0 : ∀ n, whileF c g (n + 1) ρ = whileF c g n ρ2), sWhile c g ρ = sWhile c g ρ2 := fun h0 => by
          by_cases hx : ∃ n, whileF c g n ρ2 ≠ .bad
          · obtain ⟨n, h⟩ := hx
            rw [sWhile_eq h, sWhile_eq (n := n + 1) (by rw [h0]; exact h), h0]
          · unfold sWhile
            rw [dif_neg hx, dif_neg]
            rintro ⟨n, h⟩
            cases n with
            | zero => exact h rfl
            | succ n => exact hx ⟨n, by rw [← h0]; exact h⟩
        cases fl with
        | nx => exact again st
        | ct => exact again st
        | bk => rw [sWhile_eq (n := 1) (by rw [st]; exact fun q => nomatch q), st]; rfl
        | rt d => rw [sWhile_eq (n := 1) (by rw [st]; exact fun q => nomatch q), st]; rfl
theorem DS.wh (hp : PassesOwn (model X.prog X.w) X.A X.env X.xe) (hc : DT X W c fb) (hb : DSs X W as ss g) : DS X W as (.While c ss [] pos) (sWhile fb g) := by
  refine PS.imp (ps_while hp hc hb) fun D σ H ⟨κ, ρ, τ, vs, vo, st, w⟩ => ?_
  have hx : ∃ n, whileF fb g n ρ ≠ .bad := by
    by_cases hx : ∃ n, whileF fb g n ρ ≠ .bad
    · exact hx
    · exfalso
      unfold sWhile at w
      rw [dif_neg hx] at w
      exact w
  obtain ⟨n, hn⟩ := hx
  rw [sWhile_eq hn] at w
  let P : Env → St → Out Env Fl → Prop := fun _ σ0 o => o.wp (postS X.K as κ τ vs D σ0) (postX X.K W as κ τ vs σ0)
  refine ⟨fun m σ1 H1 => ∃ ρ1, Stt X.K κ ρ1 τ vs σ1 H1 ∧ P ρ1 σ1 (whileF fb g m ρ1), ⟨n, ρ, st, w⟩, ?_⟩
  rintro m σ1 H1 ⟨ρ1, st1, w1⟩
  cases m with
  | zero => exact w1.elim
  | succ m =>
    refine ⟨κ, ρ1, τ, vs, st1, Out.wp_mono (Out.wp_bind w1) (fun b ρ2 w2 H2 st2 => ?_) fun e ρ2 z H' d s2 eo => z σ1 H' d Frm.refl s2 eo⟩
    cases b with
    | true =>
      rw [if_pos rfl] at w2 ⊢
      refine ⟨fun σ3 H3 => Frm as σ1 σ3 ∧ ∃ ρ3, Stt X.K κ ρ3 τ vs σ3 H3 ∧ P ρ3 σ3 (whileF fb g m ρ3), fun σ3 H3 ⟨_, ρ3, s3, w3⟩ => ⟨m, Nat.lt_succ_self _, ρ3, s3, w3⟩, κ, ρ2, τ, vs, vo, st2, Out.wp_mono (Out.wp_bind w2) (fun fl ρ3 w3 => ?_) fun e ρ3 z σ' H' d fm s2 eo => z σ' H' d fm s2 eo⟩
      have down : ∀ {σ3 : St} (fm : Frm as σ1 σ3), P ρ3 σ1 (whileF fb g m ρ3) → P ρ3 σ3 (whileF fb g m ρ3) := fun {σ3} fm w => by
        refine Out.wp_mono w (fun fl ρ4 w4 => ?_) fun e ρ3 z σ' H' d fm2 s2 eo => z σ' H' d ((fm.trans fm2).mono (by simp)) s2 eo
        cases fl with
        | nx => exact fun σ' H' fm2 s => w4 σ' H' ((fm.trans fm2).mono (by simp)) s
        | bk => exact fun σ' H' fm2 s => w4 σ' H' ((fm.trans fm2).mono (by simp)) s
        | ct => exact fun σ' H' fm2 s => w4 σ' H' ((fm.trans fm2).mono (by simp)) s
        | rt d => exact fun v σ' H' fm2 s => w4 v σ' H' ((fm.trans fm2).mono (by simp)) s
      cases fl with
      | nx => exact fun σ3 H3 fm s3 => ⟨fm, ρ3, s3, down fm w3⟩
      | ct => exact fun σ3 H3 fm s3 => ⟨fm, ρ3, s3, down fm w3⟩
      | bk => exact fun σ3 H3 fm s3 => w3 σ3 H3 fm s3
      | rt d => exact fun v σ3 H3 fm s3 => w3 v σ3 H3 fm s3
    | false =>
      rw [if_neg Bool.false_ne_true] at w2 ⊢
      exact w2 σ1 H2 Frm.refl st2
end
end Dl

set_option linter.all false
set_option maxRecDepth 100000
namespace Dl
open PySem L2

abbrev Tg := Env → Option Env
def tDG (K : PySem.W.Frag) (as : List Nat) (g : D → Tg) : TG := fun v σ H Q => ∃ κ ρ τ vs d ρ', vOnly τ ∧ Stt K κ ρ (.v d :: τ) (v :: vs) σ H ∧ g d ρ = some ρ' ∧
  ∀ σ' H', σ'.length = σ.length → Frm as σ σ' → Stt K κ ρ' τ vs σ' H' → Q σ' H'
def DG (X : Cx) (as : List Nat) (tg : Expr) (g : D → Tg) : Prop := PG X tg (tDG X.K as g)
def tDGs (K : PySem.W.Frag) (as : List Nat) (g : List D → Tg) : TGs := fun xs σ H Q => ∃ κ ρ τ vs ds ρ', vOnly τ ∧ xs.length = ds.length ∧ Stt K κ ρ (tms ds ++ τ) (xs ++ vs) σ H ∧ g ds ρ = some ρ' ∧
  ∀ σ' H', σ'.length = σ.length → Frm as σ σ' → Stt K κ ρ' τ vs σ' H' → Q σ' H'
def DGs (X : Cx) (as : List Nat) (tg : List Expr) (g : List D → Tg) : Prop := PGs X tg (tDGs X.K as g)
theorem PG.imp {X : Cx} {e : Expr} {t t' : TG} (h : PG X e t) (i : ∀ v σ H Q, t' v σ H Q → t v σ H Q) : PG X e t' := ⟨fun pins s σ H v u Q I r q => h.run pins s σ H v u Q I r (i v σ H Q q)⟩
theorem PGs.imp {X : Cx} {e : List Expr} {t t' : TGs} (h : PGs X e t) (i : ∀ v σ H Q, t' v σ H Q → t v σ H Q) : PGs X e t' := ⟨fun pins s σ H v u Q I r q => h.run pins s σ H v u Q I r (i v σ H Q q)⟩
theorem PI.imp {X : Cx} {tg e : Expr} {t t' : TI} (h : PI X tg e t) (i : ∀ σ H Q, t' σ H Q → t σ H Q) : PI X tg e t' := ⟨fun pins s σ H R I q => h.run pins s σ H R I (i σ H R q)⟩
section
variable {X : Cx} {W : WX} {q q1 q2 : Bool} {as bs : List Nat} {tg e : Expr} {es : List Expr} {g : D → Tg} {gs : List D → Tg} {pos : Pos} {i : Nat}
def gN (i : Nat) : D → Tg := fun d ρ => if i < ρ.length then some (ρ.set i (some d)) else none
theorem DG.name {x : Str} (hN : X.N.Nodup) (hi : X.N[i]? = some x := by rfl) (hx : Loc X.env.scope x := by first | exact Or.inl rfl | exact Or.inr rfl)
    (hf : X.fn x = true ∨ X.env.scope.names.lookup x = some .local := by first | exact .inl rfl | exact .inr rfl) : DG X [i] (.Name x pos) (gN i) := by
  refine PG.imp (pg_name hN hi hx hf) fun v σ H Q ⟨κ, ρ, τ, vs, d, ρ', vo, st, e, w⟩ => ?_
  unfold gN at e
  split at e
  · rename_i hi
    cases e
    exact w _ H (List.length_set) Frm.set (st.put hi vo)
  · cases e
def gsNil : List D → Tg := fun ds ρ => match ds with
  | [] => some ρ
  | _ => none
def gsCons (g : D → Tg) (gs : List D → Tg) : List D → Tg := fun ds ρ => match ds with
  | [] => none
  | d :: ds => (g d ρ).bind fun ρ1 => gs ds ρ1
theorem DGs.nil : DGs X [] [] gsNil := by
  refine PGs.imp pgs_nil fun xs σ H Q ⟨κ, ρ, τ, vs, ds, ρ', vo, hl, st, e, w⟩ => ?_
  cases ds with
  | nil =>
    cases e
    have e : xs = [] := List.length_eq_zero_iff.mp hl
    subst e
    exact ⟨rfl, w σ H rfl Frm.refl st⟩
  | cons d ds => cases e
theorem vOnly_tms : ∀ (ds : List D) {τ : List Tm}, vOnly τ → vOnly (tms ds ++ τ)
  | [], _, h => h
  | _ :: ds, _, h => vOnly_tms ds h
theorem DGs.cons (h : DG X as e g) (h2 : DGs X bs es gs) (hs : (assignEach (e :: es) X.env).map (·.2) = assign e X.env :: (assignEach es X.env).map (·.2) := by rfl) : DGs X (as ++ bs) (e :: es) (gsCons g gs) := by
  refine PGs.imp (pgs_cons h h2 hs) fun xs σ H Q ⟨κ, ρ, τ, vs, ds, ρ', vo, hl, st, e, w⟩ => ?_
  cases ds with
  | nil => cases e
  | cons d ds =>
    cases xs with
    | nil => simp at hl
    | cons x xs =>
      have hl' : xs.length = ds.length := by simpa using hl
      obtain ⟨ρ1, e1, e2⟩ := Option.bind_eq_some_iff.mp (show ((g d ρ).bind fun ρ1 => gs ds ρ1) = some ρ' from e)
      exact ⟨x, xs, rfl, κ, ρ, tms ds ++ τ, xs ++ vs, d, ρ1, vOnly_tms ds vo, st, e1, fun σ1 H1 l1 f1 st1 => ⟨κ, ρ1, τ, vs, ds, ρ', vo, hl', st1, e2, fun σ2 H2 l2 f2 st2 => w σ2 H2 (l2.trans l1) (f1.trans f2) st2⟩⟩
def gTupD (n : Nat) (gs : List D → Tg) : D → Tg := fun d ρ => match d with
  | .tup ds => if ds.length = n then gs ds ρ else none
  | _ => none
theorem Stt.untup {K : PySem.W.Frag} {κ : Fr} {ρ : Env} {τ : List Tm} {vs : List V} {σ : St} {H : Hp} {v : V} {ds : List D} (h : Stt K κ ρ (.v (.tup ds) :: τ) (v :: vs) σ H) :
    ∃ a xs, v = .ref a ∧ SqT K H a xs ∧ xs.length = ds.length ∧ Stt K κ ρ (tms ds ++ τ) (xs ++ vs) σ H := by
  obtain ⟨Z, A, B, c, t, g⟩ := h
  cases t with
  | v h1 h2 =>
    cases h1 with
    | tup h3 h4 => exact ⟨_, _, rfl, sqT_keep g.zh h3, h4.length, Z, A, _, c, h4.tms h2, g⟩
theorem DG.tup {k : Nat} {n : Nat} (hc : X.calm = true) (h : DGs X as es gs) (hn : (assignEach es X.env).length = n := by rfl) (hst : (assignEach es X.env).findIdx? (·.1) = none := by rfl) : DG X as (.Tuple es k pos) (gTupD n gs) := by
  refine PG.imp (pg_tup hc h hn hst) fun v σ H Q ⟨κ, ρ, τ, vs, d, ρ', vo, st, e, w⟩ => ?_
  unfold gTupD at e
  split at e
  · rename_i ds
    split at e
    · rename_i hl
      obtain ⟨a, xs, rfl, hq, hx, st2⟩ := st.untup
      exact ⟨a, xs, rfl, hq, hx.trans hl, κ, ρ, τ, vs, ds, ρ', vo, hx, st2, e, w⟩
    · cases e
  · cases e
def sAsg (g : D → Tg) (f : Cm Tm) : Cm Fl := fun ρ => (f ρ).bind fun t ρ1 => match t with
  | .v d => match g d ρ1 with
    | some ρ2 => .ok .nx ρ2
    | none => .bad
  | _ => .bad
theorem DS.asg {f : Cm Tm} (he : DE X W q e f) (hg : DG X as tg g) (hs : swapsWithSole [tg] e pos.line X.env = pure false := by rfl) (hw : swappedStores [tg] e X.env = pure none := by rfl)
    (h1 : (assignEach [tg] X.env).map (·.2) = [assign tg X.env] := by rfl) : DS X W as (.Assign [tg] e pos) (sAsg g f) := by
  refine PS.imp (ps_asg he hg hs hw h1) fun D σ H ⟨κ, ρ, τ, vs, vo, st, w⟩ => ?_
  refine ⟨κ, ρ, τ, vs, st, Out.wp_mono (Out.wp_bind w) (fun t ρ1 w1 v H1 st1 k1 => ?_) fun e ρ1 z H' d s2 eo => z σ H' d Frm.refl s2 eo⟩
  cases t with
  | v d =>
    cases hg : g d ρ1 with
    | some ρ2 =>
      refine ⟨κ, ρ1, τ, vs, d, ρ2, vo, st1, hg, fun σ' H' l fm st2 => ?_⟩
      try dsimp only at w1
      rw [hg] at w1
      exact w1 σ' H' fm st2
    | none =>
      try dsimp only at w1
      rw [hg] at w1
      exact w1.elim
  | s i => exact w1.elim

structure Src where
  ts : List D
  ds : List D
  bk : Option Nat
def Iters (K : PySem.W.Frag) (κ : Fr) (J : It) (ts : List D) (xs : List V) (ds : List D) : Prop := ∀ (ρ : Env) (τ : List Tm) (vs : List V) (σ : St) (H : Hp), Stt K κ ρ (tms ts ++ τ) (xs ++ vs) σ H →
  (∀ i d, ds[i]? = some d → J.go i H ∧ ∀ x H', J.yld i H x H' → Stt K κ ρ (.v d :: (tms ts ++ τ)) (x :: (xs ++ vs)) σ H') ∧ J.stop ds.length H
def tDI (K : PySem.W.Frag) (W : WX) (f : Cm Src) : TI := fun σ H R => ∃ κ ρ τ vs, Stt K κ ρ τ vs σ H ∧
  (f ρ).wp (fun s ρ' => ∀ J xs H', xs.length = s.ts.length → (∀ i, s.bk = some i → ∃ x d, xs = [x] ∧ s.ts = [d] ∧ σ[i]? = some (some x)) → Stt K κ ρ' (tms s.ts ++ τ) (xs ++ vs) σ H' → Iters K κ J s.ts xs s.ds → R J H')
    (fun e ρ' => ∀ H' d, Stt K κ ρ' τ vs σ H' → ExOk κ H' e d → W (.ref (exA K e.cls)) d σ H')
def DI (X : Cx) (W : WX) (tg e : Expr) (f : Cm Src) : Prop := PI X tg e (tDI X.K W f)

def loopL (g : D → Tg) (b : Cm Fl) : List D → Cm Fl
  | [] => fun ρ => .ok .nx ρ
  | d :: ds => fun ρ => match g d ρ with
    | some ρ1 => (b ρ1).bind (Fl.lp (loopL g b ds))
    | none => .bad
def hole (ρ : Env) (i : Nat) : Bool := match ρ[i]? with
  | some none => true
  | _ => false
theorem hole_eq {ρ : Env} {i : Nat} (h : hole ρ i = true) : ρ[i]? = some none := by
  unfold hole at h
  split at h
  · assumption
  · cases h
theorem Frm.in1 {as bs : List Nat} {σ σ1 σ3 : St} (a : Frm (as ++ bs) σ σ1) (b : Frm as σ1 σ3) : Frm (as ++ bs) σ σ3 := fun i n => by
  rw [List.mem_append, not_or] at n
  rw [b i n.1, a i (by simp [n.1, n.2])]
theorem Frm.in2 {as bs : List Nat} {σ σ1 σ3 : St} (a : Frm (as ++ bs) σ σ1) (b : Frm bs σ1 σ3) : Frm (as ++ bs) σ σ3 := fun i n => by
  rw [List.mem_append, not_or] at n
  rw [b i n.2, a i (by simp [n.1, n.2])]
def putBack (as : List Nat) (s : Src) (fl : Fl) : Cm Fl := fun ρ => match s.bk with
  | none => .ok fl ρ
  | some i => match s.ts with
    | [d] => if hole ρ i = true ∧ i ∉ as then .ok fl (ρ.set i (some d)) else .bad
    | _ => .bad
def sFor (as : List Nat) (f : Cm Src) (g : D → Tg) (b : Cm Fl) : Cm Fl := fun ρ => (f ρ).bind fun s ρ1 => (loopL g b s.ds ρ1).bind (putBack as s)
theorem getElem?_drop_cons {α : Type} {l : List α} {i : Nat} {x : α} (h : l[i]? = some x) : l.drop i = x :: l.drop (i + 1) := by
  obtain ⟨hi, e⟩ := List.getElem?_eq_some_iff.mp h
  rw [List.drop_eq_getElem_cons hi, e]
theorem DS.for {iter : Expr} {body : List Stmt} {f : Cm Src} {b : Cm Fl} (hp : PassesOwn (model X.prog X.w) X.A X.env X.xe) (hc : X.calm = true) (hi : DI X W tg iter f) (hg : DG X as tg g) (hb : DSs X W bs body b)
    (hs : ∀ x, foldedSetIterable iter X.env x = pure x := by intro _; rfl) : DS X W (as ++ bs) (.For tg iter body [] pos) (sFor (as ++ bs) f g b) := by
  refine PS.imp (ps_for hp hc hi hg hb hs) fun D σ H ⟨κ, ρ, τ, vs, vo, st, w⟩ => ?_
  refine ⟨κ, ρ, τ, vs, st, Out.wp_mono (Out.wp_bind w) (fun s ρ1 w1 J xs H1 hl hbk st1 it => ?_) fun e ρ1 z H' d s2 eo => z σ H' d Frm.refl s2 eo⟩
  -- what is wanted of the rest of the loop
  let P : Out Env Fl → Prop := fun o => (o.bind (putBack (as ++ bs) s)).wp (postS X.K (as ++ bs) κ τ vs D σ) (postX X.K W (as ++ bs) κ τ vs σ)
  have hts : xs.length = (tms s.ts).length := by rw [tms_len]; exact hl
  -- the end, with the slot put back
  have fin : ∀ (ρ2 : Env) (π : List Tm) (ps : List V) (σ2 : St) (H2 : Hp), ps.length = π.length → Frm (as ++ bs) σ σ2 → Stt X.K κ ρ2 (tms s.ts ++ (π ++ τ)) (xs ++ (ps ++ vs)) σ2 H2 → ∀ {fl : Fl} {P' : Fl → Env → Prop} {E' : Exn → Env → Prop}, (putBack (as ++ bs) s fl ρ2).wp P' E' →
      ∃ ρ3, Stt X.K κ ρ3 (π ++ τ) (ps ++ vs) σ2 H2 ∧ P' fl ρ3 := by
    intro ρ2 π ps σ2 H2 hπ fm st2 fl P' E' w2
    unfold putBack at w2
    split at w2
    · exact ⟨ρ2, st2.popN hts, w2⟩
    · rename_i i hb
      obtain ⟨x, d, rfl, ed, ex⟩ := hbk i hb
      rw [ed] at w2 st2
      dsimp only at w2
      split at w2
      · rename_i hz
        exact ⟨_, Stt.back (d := d) (v := x) st2 (hole_eq hz.1) (by rw [fm i hz.2]; exact ex), w2⟩
      · exact w2.elim
  refine ⟨fun i m σ' H' => m = s.ds.length - i ∧ i ≤ s.ds.length ∧ Frm (as ++ bs) σ σ' ∧ ∃ ρ', Stt X.K κ ρ' (tms s.ts ++ τ) (xs ++ vs) σ' H' ∧ P (loopL g b (s.ds.drop i) ρ'), ⟨s.ds.length, by simp, Nat.zero_le _, Frm.refl, ρ1, st1, by rw [List.drop_zero]; exact w1⟩, ?_⟩
  rintro i m σ1 H2 ⟨rfl, hi, fm1, ρ2, st2, w2⟩
  obtain ⟨ig, is⟩ := it ρ2 τ vs σ1 H2 st2
  by_cases hlt : i < s.ds.length
  · refine .inr ?_
    have ed : s.ds[i]? = some s.ds[i] := List.getElem?_eq_getElem hlt
    obtain ⟨go, yl⟩ := ig i _ ed
    rw [getElem?_drop_cons ed] at w2
    cases hgd : g s.ds[i] ρ2 with
    | none =>
      unfold loopL at w2
      rw [hgd] at w2
      exact w2.elim
    | some ρ3 =>
      unfold loopL at w2
      rw [hgd] at w2
      refine ⟨go, fun σ' H' => Frm (as ++ bs) σ σ' ∧ ∃ ρ', Stt X.K κ ρ' (tms s.ts ++ τ) (xs ++ vs) σ' H' ∧ P (loopL g b (s.ds.drop (i + 1)) ρ'), fun σ' H' ⟨a, b⟩ => ⟨s.ds.length - (i + 1), by omega, rfl, hlt, a, b⟩, fun x H3 y => ?_⟩
      refine ⟨κ, ρ2, tms s.ts ++ τ, xs ++ vs, s.ds[i], ρ3, vOnly_tms _ vo, yl x H3 y, hgd, fun σ3 H4 _ f3 st3 => ?_⟩
      have fm3 : Frm (as ++ bs) σ σ3 := fm1.in1 f3
      have w3 : ((b ρ3).bind fun fl ρ4 => (Fl.lp (loopL g b (s.ds.drop (i + 1))) fl ρ4).bind (putBack (as ++ bs) s)).wp (postS X.K (as ++ bs) κ τ vs D σ) (postX X.K W (as ++ bs) κ τ vs σ) := by
        have w3 : (((b ρ3).bind (Fl.lp (loopL g b (s.ds.drop (i + 1))))).bind (putBack (as ++ bs) s)).wp (postS X.K (as ++ bs) κ τ vs D σ) (postX X.K W (as ++ bs) κ τ vs σ) := w2
        cases hbb : b ρ3 with
        | ok fl ρ4 => rw [hbb] at w3; exact w3
        | exc e s => rw [hbb] at w3; exact w3
        | bad => rw [hbb] at w3; exact w3
      refine ⟨κ, ρ3, tms s.ts ++ τ, xs ++ vs, vOnly_tms _ vo, st3, Out.wp_mono (Out.wp_bind w3) (fun fl ρ4 w4 => ?_) fun e ρ4 z σ' H' d f4 s2 eo => z σ' H' d (fm3.in2 f4) (s2.popN hts) eo⟩
      have fm4 : ∀ {σ'}, Frm bs σ3 σ' → Frm (as ++ bs) σ σ' := fun f4 => fm3.in2 f4
      cases fl with
      | nx => exact fun σ' H' f4 st4 => ⟨fm4 f4, ρ4, st4, w4⟩
      | ct => exact fun σ' H' f4 st4 => ⟨fm4 f4, ρ4, st4, w4⟩
      | bk =>
        intro σ' H' f4 st4
        obtain ⟨ρ5, st5, w5⟩ := fin ρ4 [] [] σ' H' rfl (fm4 f4) st4 (fl := .nx) w4
        exact w5 σ' H' (fm4 f4) st5
      | rt d =>
        intro v σ' H' f4 st4
        have st4' := Stt.turn (τ1 := [.v d]) (v1 := [v]) (τ2 := tms s.ts) (v2 := xs) rfl hts st4
        obtain ⟨ρ5, st5, w5⟩ := fin ρ4 [.v d] [v] σ' H' rfl (fm4 f4) st4' (fl := .rt d) w4
        exact w5 v σ' H' (fm4 f4) st5
  · have e : i = s.ds.length := by omega
    subst e
    refine .inl ⟨is, ?_⟩
    rw [List.drop_length] at w2
    obtain ⟨ρ5, st5, w5⟩ := fin ρ2 [] [] σ1 H2 rfl fm1 st2 (fl := .nx) w2
    exact w5 σ1 H2 fm1 st5
end

section
variable {K : PySem.W.Frag} {κ : Fr} {ρ : List (Option D)} {τ : List Tm} {vs : List V} {σ : St} {H : Hp} {d : D} {v : V} {i : Nat}
theorem Good.swap {Z : Hp} {A B1 B4 B3 C' : List Addr} {p : Addr} (o : HO) (g : Good κ H Z (A ++ (B1 ++ ((p :: B4) ++ B3)))) (sub : Sub C' (B1 ++ B4)) :
    Good κ (upd H p o) Z (p :: (A ++ (C' ++ B3))) ∧ ∀ a ∈ A ++ (C' ++ B3), upd H p o a = H a ∧ Z a = none := by
  have s1 : Sub (p :: (A ++ (C' ++ B3))) (A ++ (B1 ++ ((p :: B4) ++ B3))) := by
    obtain ⟨R, pr⟩ := sub
    refine ⟨R, ?_⟩
    have e1 : (A ++ (B1 ++ ((p :: B4) ++ B3))).Perm (p :: (A ++ ((B1 ++ B4) ++ B3))) := by
      have q1 : B1 ++ ((p :: B4) ++ B3) = (B1 ++ p :: B4) ++ B3 := by simp
      rw [q1]
      have : (A ++ ((B1 ++ p :: B4) ++ B3)).Perm (A ++ ((p :: (B1 ++ B4)) ++ B3)) := (List.perm_middle.append_right B3).append_left A
      exact this.trans perm_front
    refine List.Perm.trans ?_ e1.symm
    show (p :: ((A ++ (C' ++ B3)) ++ R)).Perm _
    refine List.Perm.cons p ?_
    rw [List.append_assoc A]
    refine List.Perm.append_left A ?_
    refine List.Perm.trans ?_ (pr.append_right B3)
    rw [List.append_assoc, List.append_assoc]
    exact List.perm_append_comm.append_left C'
  have g2 := g.sub s1
  obtain ⟨np, nd2⟩ := List.nodup_cons.mp g2.nd
  have zp := (g2.own p List.mem_cons_self).1
  refine ⟨⟨g2.nd, fun a u e => ?_, g.z0, fun a u e n => ?_, fun a ha => ?_, g.zn⟩, fun a ha => ⟨upd_ne fun q => np (q ▸ ha), (g2.own a (List.mem_cons_of_mem _ ha)).1⟩⟩
  · rw [upd_ne (fun q => by rw [q, zp] at e; cases e)]
    exact g.zh a u e
  · by_cases q : a = p
    · subst q
      rcases (g2.own a List.mem_cons_self).2.2 with z | z
      · exact absurd z n
      · rw [z] at e; cases e
    · rw [upd_ne q]
      exact g.keep a u e n
  · obtain ⟨z, ⟨u, e⟩, r⟩ := g2.own a ha
    refine ⟨z, ?_, r⟩
    by_cases q : a = p
    · subst q; exact ⟨_, upd_same⟩
    · exact ⟨u, by rw [upd_ne q]; exact e⟩
theorem Stt.chgO {es ds : List D} {ys : List V} (h : Stt K κ ρ (tms es ++ (.v (.lst true ds) :: τ)) (ys ++ (v :: vs)) σ H) (hy : ys.length = es.length) :
    ∃ p xs, v = .ref p ∧ H p = some (.lst xs) ∧ xs.length = ds.length ∧ ∀ (xs' os : List V) (ds' ods : List D), (∀ Z A B, Same Z H → Os K H Z es ys A → Os K H Z ds xs B → ∃ C1 C2, Os K H Z ods os C1 ∧ Os K H Z ds' xs' C2 ∧ Sub (C1 ++ C2) (A ++ B)) →
      Stt K κ ρ (tms ods ++ (.v (.lst true ds') :: τ)) (os ++ (v :: vs)) σ (upd H p (.lst xs')) := by
  obtain ⟨Z, A, B, c, t, g⟩ := h
  obtain ⟨zs, ws, B1, B2, e, rfl, o1, t2⟩ := t.split
  obtain ⟨rfl, rfl⟩ := List.append_inj e (by rw [hy, o1.length])
  cases t2 with
  | @v _ _ C _ _ B3 h1 h2 =>
    cases h1 with
    | @lst p xs _ B4 h3 h4 h5 =>
      refine ⟨p, xs, rfl, h3, h5.length, fun xs' os ds' ods conv => ?_⟩
      obtain ⟨C1, C2, oo, o', sub⟩ := conv Z B1 B4 g.zh o1 h5
      obtain ⟨g3, k⟩ := g.swap (.lst xs') sub
      have zz : Same Z Z := Same.refl Z
      refine ⟨Z, A, C1 ++ ((p :: C2) ++ B3), c.keep zz fun a ha => k a (List.mem_append_left _ ha), Os.tms (oo.keep zz fun a ha => k a (List.mem_append_right _ (List.mem_append_left _ (List.mem_append_left _ ha))))
        (.v (.lst upd_same h4 (o'.keep zz fun a ha => k a (List.mem_append_right _ (List.mem_append_left _ (List.mem_append_right _ ha))))) (h2.keep zz fun a ha => k a (List.mem_append_right _ (List.mem_append_right _ ha)))), g3.sub (.of_perm ?_)⟩
      have q1 : C1 ++ ((p :: C2) ++ B3) = (C1 ++ p :: C2) ++ B3 := by simp
      rw [q1]
      have : (A ++ ((C1 ++ p :: C2) ++ B3)).Perm (A ++ ((p :: (C1 ++ C2)) ++ B3)) := (List.perm_middle.append_right B3).append_left A
      exact this.trans perm_front
theorem Stt.chg {es ds : List D} {ys : List V} (h : Stt K κ ρ (tms es ++ (.v (.lst true ds) :: τ)) (ys ++ (v :: vs)) σ H) (hy : ys.length = es.length) :
    ∃ p xs, v = .ref p ∧ H p = some (.lst xs) ∧ xs.length = ds.length ∧ ∀ (xs' : List V) (ds' : List D), (∀ Z A B, Same Z H → Os K H Z es ys A → Os K H Z ds xs B → ∃ C, Os K H Z ds' xs' C ∧ Sub C (A ++ B)) →
      Stt K κ ρ (.v (.lst true ds') :: τ) (v :: vs) σ (upd H p (.lst xs')) := by
  obtain ⟨p, xs, e, hp, hl, k⟩ := h.chgO hy
  exact ⟨p, xs, e, hp, hl, fun xs' ds' conv => k xs' [] ds' [] fun Z A B zz o1 o2 => let ⟨C, q1, q2⟩ := conv Z A B zz o1 o2; ⟨[], C, .nil, q1, q2⟩⟩
theorem Stt.chgD {es ks ds : List D} {ys : List V} (h : Stt K κ ρ (tms es ++ (.v (.dic true ks ds) :: τ)) (ys ++ (v :: vs)) σ H) (hy : ys.length = es.length) :
    ∃ p kvs, v = .ref p ∧ H p = some (.dK kvs) ∧ ks = kvs.map (fun p => keyD p.1) ∧ kvs.length = ds.length ∧ ∀ (kvs' : List (Key × V)) (os : List V) (ds' ods : List D), (∀ Z A B, Same Z H → Os K H Z es ys A → Os K H Z ds (kvs.map Prod.snd) B → ∃ C1 C2, Os K H Z ods os C1 ∧ Os K H Z ds' (kvs'.map Prod.snd) C2 ∧ Sub (C1 ++ C2) (A ++ B)) →
      Stt K κ ρ (tms ods ++ (.v (.dic true (kvs'.map fun p => keyD p.1) ds') :: τ)) (os ++ (v :: vs)) σ (upd H p (.dK kvs')) := by
  obtain ⟨Z, A, B, c, t, g⟩ := h
  obtain ⟨zs, ws, B1, B2, e, rfl, o1, t2⟩ := t.split
  obtain ⟨rfl, rfl⟩ := List.append_inj e (by rw [hy, o1.length])
  cases t2 with
  | @v _ _ C _ _ B3 h1 h2 =>
    cases h1 with
    | @dic p ks xs _ B4 h3 h4 h5 =>
      obtain ⟨kvs, hk, rfl, rfl⟩ := h3
      refine ⟨p, kvs, rfl, hk, rfl, by simpa using h5.length, fun kvs' os ds' ods conv => ?_⟩
      obtain ⟨C1, C2, oo, o', sub⟩ := conv Z B1 B4 g.zh o1 h5
      obtain ⟨g3, k⟩ := g.swap (.dK kvs') sub
      have zz : Same Z Z := Same.refl Z
      refine ⟨Z, A, C1 ++ ((p :: C2) ++ B3), c.keep zz fun a ha => k a (List.mem_append_left _ ha), Os.tms (oo.keep zz fun a ha => k a (List.mem_append_right _ (List.mem_append_left _ (List.mem_append_left _ ha))))
        (.v (.dic ⟨kvs', upd_same, rfl, rfl⟩ h4 (o'.keep zz fun a ha => k a (List.mem_append_right _ (List.mem_append_left _ (List.mem_append_right _ ha))))) (h2.keep zz fun a ha => k a (List.mem_append_right _ (List.mem_append_right _ ha)))), g3.sub (.of_perm ?_)⟩
      have q1 : C1 ++ ((p :: C2) ++ B3) = (C1 ++ p :: C2) ++ B3 := by simp
      rw [q1]
      have : (A ++ ((C1 ++ p :: C2) ++ B3)).Perm (A ++ ((p :: (C1 ++ C2)) ++ B3)) := (List.perm_middle.append_right B3).append_left A
      exact this.trans perm_front
theorem Stt.app {r : D} {ds : List D} {y : V} (h : Stt K κ ρ (.v r :: (.v (.lst true ds) :: τ)) (y :: (v :: vs)) σ H) :
    ∃ p xs, v = .ref p ∧ H p = some (.lst xs) ∧ xs.length = ds.length ∧ Stt K κ ρ (.v (.lst true (ds ++ [r])) :: τ) (v :: vs) σ (upd H p (.lst (xs ++ [y]))) := by
  obtain ⟨p, xs, e, hp, hl, k⟩ := Stt.chg (es := [r]) (ys := [y]) h rfl
  refine ⟨p, xs, e, hp, hl, k _ _ fun Z A B _ o1 o2 => ⟨B ++ A, o2.append o1, .of_perm List.perm_append_comm⟩⟩
end

section
variable {X : Cx} {W : WX} {q : Bool} {as : List Nat} {tg elt iter : Expr} {ifs : List Expr} {pos : Pos}
def WF : WX := fun _ _ _ _ => False
def wipeD (ρ : Env) : List Nat → Env
  | [] => ρ
  | i :: l => (wipeD ρ l).set i none
theorem Cells.none_set {K : PySem.W.Frag} {H Z : Hp} : ∀ {ρ : Env} {σ : St} {A : List Addr} {i : Nat} {x : Option V}, Cells K H Z ρ σ A → (ρ[i]? = some none ∨ ρ[i]? = none) → Cells K H Z ρ (σ.set i x) A
  | _, _, _, i, _, .nil, _ => by simpa using .nil
  | _, _, _, 0, _, .no h, _ => .no h
  | _, _, _, 0, _, .so _ _, e => by simp at e
  | _, _, _, i + 1, _, .no h, e => .no (Cells.none_set h (by simpa using e))
  | _, _, _, i + 1, _, .so h1 h, e => .so h1 (Cells.none_set h (by simpa using e))
def Gone (ρ : Env) (l : List Nat) : Prop := ∀ i ∈ l, ρ[i]? = some none ∨ ρ[i]? = none
theorem wipeD_gone (ρ : Env) : ∀ l, Gone (wipeD ρ l) l
  | [] => fun _ h => nomatch h
  | j :: l => fun i hi => by
    show ((wipeD ρ l).set j none)[i]? = some none ∨ ((wipeD ρ l).set j none)[i]? = none
    by_cases e : i = j
    · subst e
      rw [List.getElem?_set_self']
      cases (wipeD ρ l)[i]? with
      | none => exact .inr rfl
      | some x => exact .inl rfl
    · rw [List.getElem?_set_ne (Ne.symm e)]
      exact wipeD_gone ρ l i ((List.mem_cons.mp hi).resolve_left e)
variable {K : PySem.W.Frag} {κ : Fr} {τ : List Tm} {vs : List V} {H : Hp}
theorem Stt.wipe {ρ : Env} {σ : St} (vo : vOnly τ) : ∀ (l : List Nat), Stt K κ ρ τ vs σ H → Stt K κ (wipeD ρ l) τ vs (wipe σ l) H
  | [], h => h
  | j :: l, h => by
    have h1 := (Stt.wipe vo l h).drop (i := j)
    obtain ⟨Z, A, B, c, t, g⟩ := h1
    refine ⟨Z, A, B, c.none_set ?_, t.otherσ vo, g⟩
    exact wipeD_gone ρ (j :: l) j List.mem_cons_self
theorem wipe_other {σ : St} {i : Nat} : ∀ {l : List Nat}, i ∉ l → (wipe σ l)[i]? = σ[i]?
  | [], _ => rfl
  | j :: l, h => by
    rw [List.mem_cons, not_or] at h
    show ((wipe σ l).set j none)[i]? = _
    rw [List.getElem?_set_ne (Ne.symm h.1), wipe_other h.2]
theorem Cells.same_but {H Z : Hp} : ∀ {ρ : Env} {σ σ' : St} {A : List Addr}, Cells K H Z ρ σ A → σ'.length = σ.length → (∀ i : Nat, σ'[i]? ≠ σ[i]? → ρ[i]? = some none) → Cells K H Z ρ σ' A
  | _, _, [], _, .nil, _, _ => .nil
  | _, _, _ :: _, _, .nil, hl, _ => by simp at hl
  | _, _, [], _, .no h, hl, _ => by simp at hl
  | _, _, x :: σ', _, .no h, hl, e => .no (Cells.same_but h (by simpa using hl) fun i q => by simpa using e (i + 1) (by simpa using q))
  | _, _, [], _, .so h1 h, hl, _ => by simp at hl
  | _, _, x :: σ', _, @Cells.so _ _ _ d v _ ρ σ _ h1 h, hl, e => by
    have hx : x = some v := by
      by_cases q : x = some v
      · exact q
      · have := e 0 (by simpa using q)
        simp at this
    subst hx
    exact .so h1 (Cells.same_but h (by simpa using hl) fun i q => by simpa using e (i + 1) (by simpa using q))
theorem Stt.unwipe {ρ : Env} {σ : St} {l : List Nat} (vo : vOnly τ) (h : Stt K κ ρ τ vs (L2.wipe σ l) H) (gn : Gone ρ l) : Stt K κ ρ τ vs σ H := by
  obtain ⟨Z, A, B, c, t, g⟩ := h
  refine ⟨Z, A, B, c.same_but (by rw [wipe_length]) fun i q => ?_, t.otherσ vo, g⟩
  have hi : i ∈ l := by
    by_cases hi : i ∈ l
    · exact hi
    · exact absurd (wipe_other hi).symm q
  rcases gn i hi with z | z
  · exact z
  · exfalso
    have hc := c.length
    rw [wipe_length] at hc
    have h1 : ρ.length ≤ i := List.getElem?_eq_none_iff.mp z
    apply q
    rw [List.getElem?_eq_none_iff.mpr (by omega), List.getElem?_eq_none_iff.mpr (by rw [wipe_length]; omega)]
theorem Tms.unmark {σ : St} : ∀ {τ : List Tm} {vs : List V} {H Z : Hp} {B : List Addr}, Tms K H Z σ τ vs B → ∃ τ' vs', vOnly τ' ∧ Tms K H Z σ τ' vs' B ∧ (∀ H' Z' B', Tms K H' Z' σ τ' vs' B' → Tms K H' Z' σ τ vs B')
  | _, _, _, _, _, .nil => ⟨[], [], trivial, .nil, fun _ _ _ h => h⟩
  | _, _, _, _, _, .v h1 h2 => by
    obtain ⟨τ', vs', vo, t, k⟩ := Tms.unmark h2
    refine ⟨_, _, (show vOnly (.v _ :: τ') from vo), .v h1 t, fun H' Z' B' h => ?_⟩
    cases h with
    | v q1 q2 => exact .v q1 (k _ _ _ q2)
  | _, _, _, _, _, .s h1 h2 => by
    obtain ⟨τ', vs', vo, t, k⟩ := Tms.unmark h2
    exact ⟨τ', vs', vo, t, fun H' Z' B' h => .s h1 (k _ _ _ h)⟩
theorem Stt.unmark {ρ : Env} {σ : St} {ds : List D} {xs : List V} (hl : xs.length = ds.length) (h : Stt K κ ρ (tms ds ++ τ) (xs ++ vs) σ H) : ∃ τ' vs', vOnly τ' ∧ Stt K κ ρ (tms ds ++ τ') (xs ++ vs') σ H ∧
    ∀ ρ' H' (es : List D) (ys : List V), ys.length = es.length → Stt K κ ρ' (tms es ++ τ') (ys ++ vs') σ H' → Stt K κ ρ' (tms es ++ τ) (ys ++ vs) σ H' := by
  obtain ⟨Z, A, B, c, t, g⟩ := h
  obtain ⟨B1, B2, rfl, t1, t2⟩ := t.cut (by rw [tms_len]; exact hl)
  obtain ⟨τ', vs', vo, t', k⟩ := t2.unmark
  refine ⟨τ', vs', vo, ⟨Z, A, _, c, t1.app t', g⟩, fun ρ' H' ds xs hl h => ?_⟩
  obtain ⟨Z', A', B', c', t2, g'⟩ := h
  obtain ⟨B1, B2, rfl, t3, t4⟩ := t2.cut (by rw [tms_len]; exact hl)
  exact ⟨Z', A', _, c', t3.app (k _ _ _ t4), g'⟩
def Out.nox {S α : Type} (o : Out S α) : Out S α := match o with
  | .exc _ _ => .bad
  | o => o
theorem Out.wp_nox {S α : Type} {o : Out S α} {P : α → S → Prop} {E : Exn → S → Prop} (h : o.nox.wp P E) : o.wp P (fun _ _ => False) := by
  cases o with
  | ok a s => exact h
  | exc e s => exact h
  | bad => exact h

def DTs (X : Cx) (W : WX) (ifs : List Expr) (f : Cm Bool) : Prop := PTs X ifs (tDT X.K W f)
theorem PTs.imp {X : Cx} {e : List Expr} {t t' : TT} (h : PTs X e t) (i : ∀ σ H Q, t' σ H Q → t σ H Q) : PTs X e t' := ⟨fun pins s σ H Q I q => h.run pins s σ H Q I (i σ H Q q)⟩
def bYes : Cm Bool := fun ρ => .ok true ρ
theorem DTs.nil : DTs X W [] bYes := PTs.imp pts_nil fun σ H Q ⟨κ, ρ, τ, vs, st, w⟩ => w H st
theorem DTs.one {c : Expr} {f : Cm Bool} (h : DT X W c f) : DTs X W [c] f := pts_one h
def compL (own : List Nat) (g : D → Tg) (t : Cm Bool) (e : Cm Tm) : List D → List D → Env → Out Env (List D)
  | [], acc, ρ => .ok acc ρ
  | d :: ds, acc, ρ => match g d ρ with
    | none => .bad
    | some ρ1 => (t ρ1).nox.bind fun b ρ2 => if b = true then (e ρ2).nox.bind fun r ρ3 => match r with
        | .v r => if acc.length < sizeLine then compL own g t e ds (acc ++ [r]) (wipeD ρ3 own) else .bad
        | _ => .bad
      else compL own g t e ds acc (wipeD ρ2 own)
def compEnd (as : List Nat) (s : Src) (acc : List D) : Cm Tm := fun ρ => match s.bk with
  | none => .ok (.v (.lst true acc)) ρ
  | some i => match s.ts with
    | [d] => if hole ρ i = true ∧ i ∉ as then .ok (.v (.lst true acc)) (ρ.set i (some d)) else .bad
    | _ => .bad
def eComp (own : List Nat) (f : Cm Src) (g : D → Tg) (t : Cm Bool) (e : Cm Tm) : Cm Tm := fun ρ => (f ρ).bind fun s ρ1 => (compL own g t e s.ds [] (wipeD ρ1 own)).bind (compEnd own s)
theorem wipe_twice {σ σ2 : St} {own : List Nat} (hl : σ2.length = (L2.wipe σ own).length) (f : Frm as (L2.wipe σ own) σ2) (ha : ∀ i ∈ as, i ∈ own) : L2.wipe σ2 own = L2.wipe σ own := by
  have at_in : ∀ (σ : St) (l : List Nat) (i : Nat), i ∈ l → (L2.wipe σ l)[i]? = if i < σ.length then some none else none := by
    intro σ l
    induction l with
    | nil => intro i h; cases h
    | cons j l ih =>
      intro i h
      show ((L2.wipe σ l).set j none)[i]? = _
      by_cases e : i = j
      · subst e
        rw [List.getElem?_set_self']
        have hw := wipe_length σ l
        by_cases hi : i < σ.length
        · rw [if_pos hi, List.getElem?_eq_getElem (by omega)]; rfl
        · rw [if_neg hi, List.getElem?_eq_none_iff.mpr (by omega)]; rfl
      · rw [List.getElem?_set_ne (Ne.symm e)]
        exact ih i ((List.mem_cons.mp h).resolve_left e)
  apply List.ext_getElem?
  intro i
  by_cases hi : i ∈ own
  · rw [at_in _ _ _ hi, at_in _ _ _ hi]
    rw [wipe_length] at hl
    rw [hl]
  · rw [wipe_other hi, f i fun q => hi (ha i q)]
theorem comp_imp {f : Cm Src} {g : D → Tg} {t : Cm Bool} {e : Cm Tm} {own : List Nat} (ha : ∀ i ∈ as, i ∈ own) {σ : St} {H : Hp} {Q : VK} (h : tD K W false (eComp own f g t e) σ H Q) :
    tLc (tDI K W f) (tDG K as g) (tDT K WF t) (tD K WF q e) own σ H Q := by
  obtain ⟨κ, ρ, τ, vs, st, w⟩ := h
  refine ⟨κ, ρ, τ, vs, st, Out.wp_mono (Out.wp_bind w) (fun s ρ1 w1 J xs H1 hl hbk st1 it => ?_) fun _ _ z => z⟩
  intro D hD
  have hts : xs.length = (tms s.ts).length := by rw [tms_len]; exact hl
  -- the temps without marks; the new list below what is walked
  obtain ⟨τ', vs', vo, st2, remark⟩ := st1.unmark hl
  have st3 : Stt K κ ρ1 (tms s.ts ++ ([.v (.lst true [])] ++ τ')) (xs ++ ([.ref D] ++ vs')) σ (upd H1 D (.lst [])) := Stt.turn (τ1 := [.v (.lst true [])]) (v1 := [.ref D]) rfl hts (Stt.lst (ds := []) (xs := []) st2 rfl hD)
  have von : ∀ acc, vOnly (tms s.ts ++ ([.v (.lst true acc)] ++ τ')) := fun acc => vOnly_tms _ vo
  have st4 := st3.wipe (von []) own
  let P : Out Env (List Dl.D) → Prop := fun o => (o.bind (compEnd own s)).wp (fun t ρ' => ∀ v H', Stt K κ ρ' (t :: τ) (v :: vs) σ H' → (false = true → ρ' = ρ ∧ Same H H') → Q v H') (fun e ρ' => ∀ H' d, Stt K κ ρ' τ vs σ H' → ExOk κ H' e d → W (.ref (exA K e.cls)) d σ H')
  refine ⟨fun i m H' => m = s.ds.length - i ∧ i ≤ s.ds.length ∧ ∃ ρ' acc, Gone ρ' own ∧ Stt K κ ρ' (tms s.ts ++ ([.v (.lst true acc)] ++ τ')) (xs ++ ([.ref D] ++ vs')) (L2.wipe σ own) H' ∧ P (compL own g t e (s.ds.drop i) acc ρ'),
    ⟨s.ds.length, by simp, Nat.zero_le _, wipeD ρ1 own, [], wipeD_gone _ _, st4, by rw [List.drop_zero]; exact w1⟩, ?_⟩
  rintro i m H2 ⟨rfl, hi, ρ2, acc, gn, st5, w2⟩
  obtain ⟨ig, is⟩ := it ρ2 _ _ _ H2 st5
  by_cases hlt : i < s.ds.length
  · refine .inr ?_
    have ed : s.ds[i]? = some s.ds[i] := List.getElem?_eq_getElem hlt
    obtain ⟨go, yl⟩ := ig i _ ed
    rw [getElem?_drop_cons ed] at w2
    cases hgd : g s.ds[i] ρ2 with
    | none =>
      unfold compL at w2
      rw [hgd] at w2
      exact w2.elim
    | some ρ3 =>
      unfold compL at w2
      rw [hgd] at w2
      refine ⟨go, fun H' => ∃ ρ' acc, Gone ρ' own ∧ Stt K κ ρ' (tms s.ts ++ ([.v (.lst true acc)] ++ τ')) (xs ++ ([.ref D] ++ vs')) (L2.wipe σ own) H' ∧ P (compL own g t e (s.ds.drop (i + 1)) acc ρ'), fun H' b => ⟨s.ds.length - (i + 1), by omega, rfl, hlt, b⟩, fun x H3 y => ?_⟩
      refine ⟨κ, ρ2, _, _, s.ds[i], ρ3, von acc, yl x H3 y, hgd, fun σ2 H4 l2 f2 st6 => ?_⟩
      have wt := wipe_twice l2 f2 ha
      refine ⟨wt, κ, ρ3, _, _, st6, ?_⟩
      cases htt : t ρ3 with
      | exc ex s' => simp only [htt, Out.nox, Out.bind_bad] at w2; exact w2.elim
      | bad => simp only [htt, Out.nox, Out.bind_bad] at w2; exact w2.elim
      | ok b ρ4 =>
        simp only [htt, Out.nox, Out.bind_ok] at w2
        intro H5 st7
        cases b with
        | false =>
          rw [if_neg Bool.false_ne_true] at w2 ⊢
          have st8 := st7.wipe (von acc) own
          rw [wt] at st8
          exact ⟨wipeD ρ4 own, acc, wipeD_gone _ _, st8, w2⟩
        | true =>
          rw [if_pos rfl] at w2 ⊢
          refine ⟨κ, ρ4, _, _, st7, ?_⟩
          cases hee : e ρ4 with
          | exc ex s' => simp only [hee, Out.nox, Out.bind_bad] at w2; exact w2.elim
          | bad => simp only [hee, Out.nox, Out.bind_bad] at w2; exact w2.elim
          | ok r ρ5 =>
            simp only [hee, Out.nox, Out.bind_ok] at w2
            intro y H6 st8 _
            cases r with
            | s j => exact w2.elim
            | v r =>
              simp only at w2
              by_cases hz : acc.length < sizeLine
              · rw [if_pos hz] at w2
                have a1 : Stt K κ ρ5 ([.v (.lst true acc)] ++ ((.v r :: tms s.ts) ++ τ')) ([.ref D] ++ ((y :: xs) ++ vs')) σ2 H6 := Stt.turn (τ1 := .v r :: tms s.ts) (v1 := y :: xs) (τ2 := [.v (.lst true acc)]) (v2 := [.ref D]) (by simp [hts]) rfl st8
                have a2 : Stt K κ ρ5 ([.v r] ++ ([.v (.lst true acc)] ++ (tms s.ts ++ τ'))) ([y] ++ ([.ref D] ++ (xs ++ vs'))) σ2 H6 := Stt.turn (τ1 := [.v (.lst true acc)]) (v1 := [.ref D]) (τ2 := [.v r]) (v2 := [y]) rfl rfl a1
                obtain ⟨p, ys, ep, hp, hln, a3⟩ := Stt.app (r := r) (ds := acc) a2
                cases ep
                have a4 : Stt K κ ρ5 (tms s.ts ++ ([.v (.lst true (acc ++ [r]))] ++ τ')) (xs ++ ([.ref D] ++ vs')) σ2 (upd H6 D (.lst (ys ++ [y]))) := Stt.turn (τ1 := [.v (.lst true (acc ++ [r]))]) (v1 := [.ref D]) (τ2 := tms s.ts) (v2 := xs) rfl hts a3
                have a5 := a4.wipe (von _) own
                rw [wt] at a5
                exact ⟨ys, hp, by omega, wipeD ρ5 own, acc ++ [r], wipeD_gone _ _, a5, w2⟩
              · rw [if_neg hz] at w2
                exact w2.elim
  · have e : i = s.ds.length := by omega
    subst e
    refine .inl ⟨is, ?_⟩
    rw [List.drop_length] at w2
    have a1 := st5.unwipe (von acc) gn
    have w3 : (compEnd own s acc ρ2).wp (fun t ρ' => ∀ v H', Stt K κ ρ' (t :: τ) (v :: vs) σ H' → (false = true → ρ' = ρ ∧ Same H H') → Q v H') (fun e ρ' => ∀ H' d, Stt K κ ρ' τ vs σ H' → ExOk κ H' e d → W (.ref (exA K e.cls)) d σ H') := w2
    unfold compEnd at w3
    split at w3
    · exact w3 _ _ (remark _ _ [.lst true acc] [.ref D] rfl (a1.popN hts)) fun z => nomatch z
    · rename_i j hb
      obtain ⟨x, d, rfl, ed, ex⟩ := hbk j hb
      rw [ed] at w3 a1
      dsimp only at w3
      split at w3
      · rename_i hz
        have a2 := Stt.back (d := d) (v := x) a1 (hole_eq hz.1) ex
        exact w3 _ _ (remark _ _ [.lst true acc] [.ref D] rfl a2) fun z => nomatch z
      · exact w3.elim
theorem DE.comp {scope : Scope} {own : List (Str × Nat)} {f : Cm Src} {g : D → Tg} {t : Cm Bool} {e : Cm Tm} (hc : X.calm = true) (hN : X.N.Nodup) (hi : DI X W tg iter f) (ok : BlkOk X.N X.env.scope scope own) (ha : ∀ i ∈ as, i ∈ own.map (·.2))
    (hg : ∀ (s : Shared) (H : Hp) (C : Addr) (cl : List (Str × Addr)) (fp : List Addr), DG (X.blk s H scope (compEnvC scope cl C X.env) fp) as tg g) (ht : ∀ (s : Shared) (H : Hp) (C : Addr) (cl : List (Str × Addr)) (fp : List Addr), DTs (X.blk s H scope (compEnvC scope cl C X.env) fp) WF ifs t)
    (he : ∀ (s : Shared) (H : Hp) (C : Addr) (cl : List (Str × Addr)) (fp : List Addr), DE (X.blk s H scope (compEnvC scope cl C X.env) fp) WF q elt e) (hs : ∀ x, foldedSetIterable iter X.env x = pure x := by intro _; rfl) :
    DE X W false (.ListComp elt [⟨tg, iter, ifs, 0⟩] scope pos) (eComp (own.map (·.2)) f g t e) :=
  PE.imp (pe_lc (g := tDG X.K as g) (tt := tDT X.K WF t) (te := tD X.K WF q e) hc hN hi ok hg ht he hs) fun _ _ _ h => comp_imp ha h
end
end Dl

set_option linter.all false
set_option maxRecDepth 100000
namespace Dl
open PySem PySem.Spec PyProof.Rows L2
section
variable {X : Cx} {W : WX} {q q1 q2 : Bool} {tg e a b c : Expr} {f g h : Cm Tm} {pos : Pos} {i : Nat}

def iAny (K : PySem.W.Frag) (tl : TE) : TI := fun σ H R => tl σ H fun x H1 =>
  (∃ a, x = .ref a ∧ (∃ xs, SqL K H1 a xs) ∧ R (Itl K a) H1) ∨ (∃ a, x = .ref a ∧ (∃ xs, SqT K H1 a xs) ∧ R (Itt K a) H1) ∨ ∃ z, x = .str z ∧ R (Its z) H1
theorem pi_any {l : Expr} {tl : TE} (hl : PE X l tl) : PI X tg l (iAny X.K tl) := by
  refine ⟨fun pins s σ H R I h => thn (hl.run pins s σ H _ I h) fun v s1 ⟨x, H1, I1, r1, alt⟩ => ?_⟩
  rcases alt with ⟨a, ex, ⟨xs, hq⟩, q⟩ | ⟨a, ex, ⟨xs, hq⟩, q⟩ | ⟨z, ex, q⟩
  · subst ex
    obtain rfl : v = Value.ref a := r1
    obtain ⟨its, rv, p, hz⟩ := I1.list hq
    exact wpAny_pyIter_list p.isList (pi_one (tk := s1.toks) I1 _ (turn_list a _) ⟨_, Heap.get?_push_size _ rfl, rfl, rfl⟩ q)
  · subst ex
    obtain rfl : v = Value.ref a := r1
    obtain ⟨its, rv, p, hz⟩ := I1.tuple hq
    exact wpAny_pyIter_tuple (show s1.heap.IsTuple a its.toArray from p) (pi_one (tk := s1.toks) I1 _ (turn_tuple a _) ⟨_, Heap.get?_push_size _ rfl, rfl, rfl⟩ q)
  · subst ex
    obtain ⟨t, rfl⟩ := r1
    cases ha : z.cps.all (· < 128)
    · exact wpAny_pyIter_wide ha (pi_one (tk := s1.toks) I1 _ (turn_str _ z t _ (.inr rfl)) ⟨_, Heap.get?_push_size _ rfl, rfl, rfl⟩ q)
    · exact wpAny_pyIter_ascii ha (pi_one (tk := s1.toks) I1 _ (turn_str _ z t _ (.inl rfl)) ⟨_, Heap.get?_push_size _ rfl, rfl, rfl⟩ q)

section
variable {K : PySem.W.Frag} {κ : Fr} {ρ : List (Option D)} {τ : List Tm} {vs : List V} {σ : L2.St} {H : Hp} {d : D} {v : V}
theorem Stt.itemL {ds : List D} (h : Stt K κ ρ (.v (.lst false ds) :: τ) (v :: vs) σ H) : ∃ (a : Addr) (xs : List V), v = .ref a ∧ SqL K H a xs ∧ xs.length = ds.length ∧
    ∀ (i : Nat) (d : D) (x : V), ds[i]? = some d → xs[i]? = some x → Stt K κ ρ (.v d :: (.v (.lst false ds) :: τ)) (x :: (v :: vs)) σ H := by
  obtain ⟨Z, A, B, c, t, g⟩ := h
  cases t with
  | v h1 h2 =>
    cases h1 with
    | shr h3 h4 =>
      refine ⟨_, _, rfl, SqL.of (g.zh _ _ h3), h4.length, fun i d x ed ex => ?_⟩
      obtain ⟨y, C, ey, o, sub⟩ := h4.at ed
      rw [ex] at ey
      cases ey
      have eC : C = [] := List.eq_nil_iff_forall_not_mem.mpr fun a ha => nomatch sub a ha
      subst eC
      exact ⟨Z, A, [] ++ ([] ++ _), c, .v o (.v (.shr h3 h4) h2), g⟩
theorem Stt.itemT {ds : List D} (n : D.owns ds = false) (h : Stt K κ ρ (.v (.tup ds) :: τ) (v :: vs) σ H) : ∃ (a : Addr) (xs : List V), v = .ref a ∧ SqT K H a xs ∧ xs.length = ds.length ∧
    ∀ (i : Nat) (d : D) (x : V), ds[i]? = some d → xs[i]? = some x → Stt K κ ρ (.v d :: (.v (.tup ds) :: τ)) (x :: (v :: vs)) σ H := by
  obtain ⟨Z, A, B, c, t, g⟩ := h
  cases t with
  | v h1 h2 =>
    cases h1 with
    | tup h3 h4 =>
      have e := h4.noown n
      subst e
      refine ⟨_, _, rfl, sqT_keep g.zh h3, h4.length, fun i d x ed ex => ?_⟩
      obtain ⟨y, C, ey, o, sub⟩ := h4.at ed
      rw [ex] at ey
      cases ey
      have eC : C = [] := List.eq_nil_iff_forall_not_mem.mpr fun a ha => nomatch sub a ha
      subst eC
      exact ⟨Z, A, [] ++ ([] ++ _), c, .v o (.v (.tup h3 h4) h2), g⟩
theorem Stt.itemO {ds : List D} (n : D.owns ds = false) (h : Stt K κ ρ (.v (.lst true ds) :: τ) (v :: vs) σ H) : ∃ (a : Addr) (xs : List V), v = .ref a ∧ SqL K H a xs ∧ xs.length = ds.length ∧
    ∀ (i : Nat) (d : D) (x : V), ds[i]? = some d → xs[i]? = some x → Stt K κ ρ (.v d :: (.v (.lst true ds) :: τ)) (x :: (v :: vs)) σ H := by
  obtain ⟨Z, A, B, c, t, g⟩ := h
  cases t with
  | v h1 h2 =>
    cases h1 with
    | lst h3 hz h4 =>
      have e := h4.noown n
      subst e
      refine ⟨_, _, rfl, .of h3, h4.length, fun i d x ed ex => ?_⟩
      obtain ⟨y, C, ey, o, sub⟩ := h4.at ed
      rw [ex] at ey
      cases ey
      have eC : C = [] := List.eq_nil_iff_forall_not_mem.mpr fun a ha => nomatch sub a ha
      subst eC
      exact ⟨Z, A, [] ++ _, c, .v o (.v (.lst h3 hz h4) h2), g⟩
theorem Stt.strV {l : List Nat} (h : Stt K κ ρ (.v (.str l) :: τ) (v :: vs) σ H) : v = .str ⟨l.toArray⟩ := by
  obtain ⟨Z, A, B, c, t, g⟩ := h
  cases t with
  | v h1 h2 => cases h1; rfl
theorem Stt.intV {n : Int} (h : Stt K κ ρ (.v (.int n) :: τ) (v :: vs) σ H) : v = .int n := by
  obtain ⟨Z, A, B, c, t, g⟩ := h
  cases t with
  | v h1 h2 => cases h1; rfl
theorem getElem_of_len {α β : Type} {xs : List α} {ds : List β} (h : xs.length = ds.length) {i : Nat} {d : β} (e : ds[i]? = some d) : ∃ x, xs[i]? = some x := by
  have hi := (List.getElem?_eq_some_iff.mp e).1
  exact ⟨xs[i], List.getElem?_eq_getElem (by omega)⟩
theorem iters_L {ds : List D} {a : Addr} : Iters K κ (Itl K a) [.lst false ds] [.ref a] ds := fun ρ τ vs σ H st => by
  obtain ⟨a', xs, ea, hq, hl, it⟩ := Stt.itemL st
  cases ea
  refine ⟨fun i d ed => ?_, ⟨xs, hq, by omega⟩⟩
  obtain ⟨x, ex⟩ := getElem_of_len hl ed
  refine ⟨⟨xs, x, hq, ex⟩, fun y H' hy => ?_⟩
  obtain ⟨rfl, k⟩ := hy
  exact it i d y ed (k xs hq)
theorem iters_O {ds : List D} (n : D.owns ds = false) {a : Addr} : Iters K κ (Itl K a) [.lst true ds] [.ref a] ds := fun ρ τ vs σ H st => by
  obtain ⟨a', xs, ea, hq, hl, it⟩ := Stt.itemO n st
  cases ea
  refine ⟨fun i d ed => ?_, ⟨xs, hq, by omega⟩⟩
  obtain ⟨x, ex⟩ := getElem_of_len hl ed
  refine ⟨⟨xs, x, hq, ex⟩, fun y H' hy => ?_⟩
  obtain ⟨rfl, k⟩ := hy
  exact it i d y ed (k xs hq)
theorem iters_T {ds : List D} (n : D.owns ds = false) {a : Addr} : Iters K κ (Itt K a) [.tup ds] [.ref a] ds := fun ρ τ vs σ H st => by
  obtain ⟨a', xs, ea, hq, hl, it⟩ := Stt.itemT n st
  cases ea
  refine ⟨fun i d ed => ?_, ⟨xs, hq, by omega⟩⟩
  obtain ⟨x, ex⟩ := getElem_of_len hl ed
  refine ⟨⟨xs, x, hq, ex⟩, fun y H' hy => ?_⟩
  obtain ⟨rfl, k⟩ := hy
  exact it i d y ed (k xs hq)
theorem iters_fn {J : It} {n : Nat} {fd : Nat → D} {fv : Nat → V} (hg : ∀ i H, i < n → J.go i H) (hy : ∀ i H x H', i < n → J.yld i H x H' → H' = H ∧ x = fv i) (hs : ∀ H, J.stop n H) (o : ∀ i H Z, O K H Z (fd i) (fv i) []) :
    Iters K κ J [] [] ((List.range n).map fd) := fun ρ τ vs σ H st => by
  refine ⟨fun i d ed => ?_, by simpa using hs H⟩
  have hi : i < n := by simpa using (List.getElem?_eq_some_iff.mp ed).1
  have e : d = fd i := by
    rw [List.getElem?_map, List.getElem?_range hi] at ed
    exact (Option.some.inj ed).symm
  subst e
  refine ⟨hg i H hi, fun x H' hx => ?_⟩
  obtain ⟨rfl, rfl⟩ := hy i H x H' hi hx
  exact st.push fun Z => o i _ Z
theorem str_items (l : List Nat) : (l.map fun c => D.str [c]) = (List.range l.length).map fun i => D.str [l.getD i 0] := by
  apply List.ext_getElem?
  intro i
  rw [List.getElem?_map, List.getElem?_map]
  by_cases h : i < l.length
  · rw [List.getElem?_range h, List.getElem?_eq_getElem h]
    simp [List.getD, h]
  · rw [List.getElem?_eq_none (by omega), List.getElem?_eq_none (by simp; omega)]
    rfl
theorem iters_S {l : List Nat} : Iters K κ (Its ⟨l.toArray⟩) [] [] (l.map fun c => .str [c]) := by
  rw [str_items]
  refine iters_fn (fv := fun i => .str ⟨#[l.getD i 0]⟩) (fun i H hi => by simpa [Its] using hi) (fun i H x H' hi hy => ?_) (fun H => by simp [Its]) fun i H Z => .str _
  obtain ⟨rfl, c, ec, rfl⟩ := hy
  refine ⟨rfl, ?_⟩
  have e : l[i]? = some c := by simpa using ec
  simp [List.getD, e]
end

def srcV (d : D) : Option Src := if d.fz then match d.frz with
  | .lst o l => some ⟨[.lst o l], l, none⟩
  | .tup l => some ⟨[.tup l], l, none⟩
  | .str l => some ⟨[], l.map fun c => .str [c], none⟩
  | _ => none else none
def srcA (f : Cm Tm) : Cm Src := fun ρ => (f ρ).bind fun t ρ1 => match t with
  | .v d => match srcV d with
    | some s => .ok s ρ1
    | none => .bad
  | _ => .bad
theorem frz_lst {d : D} {o : Bool} {l : List D} (h : d.frz = .lst o l) : o = false := by
  cases d <;> simp [D.frz] at h
  exact h.1
theorem frz_owns {d : D} {l : List D} (f : d.fz = true) (h : d.frz = .tup l) : D.owns l = false := by
  have e := D.own_frz d f
  rw [h] at e
  simpa [D.own] using e
theorem DI.any (h : DE X W q e f) : DI X W tg e (srcA f) := by
  refine PI.imp (pi_any h) fun σ H R ⟨κ, ρ, τ, vs, st, w⟩ => ?_
  refine ⟨κ, ρ, τ, vs, st, Out.wp_mono (Out.wp_bind w) (fun t ρ1 w1 v H1 st1 k1 => ?_) fun _ _ z => z⟩
  cases t with
  | s j => exact w1.elim
  | v d =>
    try dsimp only at w1
    cases es : srcV d with
    | none => rw [es] at w1; exact w1.elim
    | some s =>
      rw [es] at w1
      unfold srcV at es
      split at es
      · rename_i hf
        have st2 := st1.frzT hf
        split at es
        · rename_i o l hd
          cases es
          rw [hd] at st2
          obtain rfl := frz_lst hd
          obtain ⟨a, xs, ea, hq, hl, _⟩ := Stt.itemL st2
          subst ea
          exact .inl ⟨a, rfl, ⟨xs, hq⟩, w1 _ [.ref a] H1 rfl (fun _ z => nomatch z) st2 iters_L⟩
        · rename_i l hd
          cases es
          rw [hd] at st2
          have n := frz_owns hf hd
          obtain ⟨a, xs, ea, hq, hl, _⟩ := Stt.itemT n st2
          subst ea
          exact .inr (.inl ⟨a, rfl, ⟨xs, hq⟩, w1 _ [.ref a] H1 rfl (fun _ z => nomatch z) st2 (iters_T n)⟩)
        · rename_i l hd
          cases es
          rw [hd] at st2
          exact .inr (.inr ⟨_, st2.strV, w1 _ [] H1 rfl (fun _ z => nomatch z) st2.pop iters_S⟩)
        · cases es
      · cases es
def srcOut (i : Nat) : Cm Src := fun ρ => match (ρ[i]?).join with
  | some (.lst o l) => if D.owns l = false then if o = true then .ok ⟨[.lst true l], l, some i⟩ (ρ.set i none) else .ok ⟨[.lst false l], l, none⟩ ρ else .bad
  | _ => .bad
theorem DI.out (h : PE X e (tVar i)) : DI X W tg e (srcOut i) := by
  refine PI.imp (pi_any h) fun σ H R ⟨κ, ρ, τ, vs, st, w⟩ => ?_
  unfold srcOut at w
  split at w
  · rename_i o l hd
    obtain ⟨x, hx⟩ := st.slot (join_some hd)
    split at w
    · rename_i n
      split at w
      · rename_i ho
        subst ho
        have st2 := st.take (join_some hd) hx
        obtain ⟨a, xs, ea, hq, hl, _⟩ := Stt.itemO n st2
        subst ea
        exact ⟨_, hx, .inl ⟨a, rfl, ⟨xs, hq⟩, w _ [.ref a] H rfl (fun j z => by cases z; exact ⟨_, _, rfl, rfl, hx⟩) st2 (iters_O n)⟩⟩
      · rename_i ho
        have ho' : o = false := by cases o with | true => exact absurd rfl ho | false => rfl
        subst ho'
        have st2 := (st.mark hx).copy (t := .s i) (by exact hd) rfl
        obtain ⟨a, xs, ea, hq, hl, _⟩ := Stt.itemL st2
        subst ea
        exact ⟨_, hx, .inl ⟨a, rfl, ⟨xs, hq⟩, w _ [.ref a] H rfl (fun _ z => nomatch z) st2 iters_L⟩⟩
    · exact w.elim
  · exact w.elim

def intsD : List Tm → Option (List Int)
  | [] => some []
  | .v (.int n) :: ts => (intsD ts).map (n :: ·)
  | _ :: _ => none
theorem Stt.ints {K : PySem.W.Frag} {κ : Fr} {ρ : Env} {σ : L2.St} {H : Hp} : ∀ {ts : List Tm} {xs : List V} {τ : List Tm} {vs : List V} {ns : List Int}, xs.length = ts.length → intsD ts = some ns → Stt K κ ρ (ts ++ τ) (xs ++ vs) σ H → xs = ns.map V.int
  | [], [], _, _, _, _, e, _ => by cases e; rfl
  | [], _ :: _, _, _, _, hl, _, _ => by simp at hl
  | .v (.int n) :: ts, x :: xs, _, _, ns, hl, e, h => by
    simp only [intsD, Option.map_eq_some_iff] at e
    obtain ⟨r, e1, rfl⟩ := e
    have e2 := Stt.intV h
    subst e2
    rw [Stt.ints (by simpa using hl) e1 h.pop]
    rfl
  | .v (.int _) :: _, [], _, _, _, hl, _, _ => by simp at hl
  | .s _ :: _, _, _, _, _, _, e, _ => by simp [intsD] at e
  | .v .non :: _, _, _, _, _, _, e, _ => by simp [intsD] at e
  | .v (.bl _) :: _, _, _, _, _, _, e, _ => by simp [intsD] at e
  | .v (.str _) :: _, _, _, _, _, _, e, _ => by simp [intsD] at e
  | .v (.tup _) :: _, _, _, _, _, _, e, _ => by simp [intsD] at e
  | .v (.lst _ _) :: _, _, _, _, _, _, e, _ => by simp [intsD] at e
  | .v (.dic _ _ _) :: _, _, _, _, _, _, e, _ => by simp [intsD] at e
  | .v (.ins _ _ _) :: _, _, _, _, _, _, e, _ => by simp [intsD] at e
  | .v (.cst _) :: _, _, _, _, _, _, e, _ => by simp [intsD] at e
  | .v (.hol _) :: _, _, _, _, _, _, e, _ => by simp [intsD] at e
  | .v (.exv _ _) :: _, _, _, _, _, _, e, _ => by simp [intsD] at e
  | .v (.scr _) :: _, _, _, _, _, _, e, _ => by simp [intsD] at e
structure inR (n : Int) : Prop where
  lo : -4611686018427387904 ≤ n
  hi : n < 4611686018427387904
noncomputable instance (n : Int) : Decidable (inR n) := Classical.propDecidable _
theorem inR.two {n : Int} (h : inR n) : -4611686018427387904 ≤ n ∧ n < 4611686018427387904 := ⟨h.lo, h.hi⟩
def rngD (lo : Int) (n : Nat) : List D := (List.range n).map fun (i : Nat) => .int (lo + (i : Nat))
noncomputable def rng1 (f : Cm (List Tm)) : Cm Src := fun ρ => (f ρ).bind fun ts ρ1 => match intsD ts with
  | some [n] => if inR n then .ok ⟨[], rngD 0 n.toNat, none⟩ ρ1 else .bad
  | _ => .bad
noncomputable def rng2 (f : Cm (List Tm)) : Cm Src := fun ρ => (f ρ).bind fun ts ρ1 => match intsD ts with
  | some [n, m] => if inR n ∧ inR m then .ok ⟨[], rngD n (m - n).toNat, none⟩ ρ1 else .bad
  | _ => .bad
theorem iters_R {K : PySem.W.Frag} {κ : Fr} {lo : Int} {n : Nat} : Iters K κ (Itr lo n) [] [] (rngD lo n) :=
  iters_fn (fd := fun i => .int (lo + (i : Nat))) (fv := fun i => .int (lo + (i : Nat))) (fun i H hi => hi) (fun i H x H' hi hy => hy) (fun H => Nat.le_refl _) fun i H Z => .int _
theorem DI.range1 {fs : Cm (List Tm)} {p : Pos} (hm : X.mg "range" = none) (ha : DA X W q [a] fs) (hg : Gl X "range" := by rfl) (hs : starEach [a] X.env = [(false, eval a X.env)] := by rfl) : DI X W tg (.Call (.Name "range" p) [a] [] pos) (rng1 fs) := by
  refine PI.imp (pi_range1 hg hm ha hs) fun σ H R ⟨κ, ρ, τ, vs, st, w⟩ => ?_
  refine ⟨κ, ρ, τ, vs, st, Out.wp_mono (Out.wp_bind w) (fun ts ρ1 w1 xs H1 hl st1 k1 => ?_) fun _ _ z => z⟩
  try dsimp only at w1
  split at w1
  · rename_i n e
    split at w1
    · rename_i hr
      have ex := st1.ints hl e
      subst ex
      exact ⟨n, rfl, by simpa using hr.lo, by simpa using hr.hi, w1 _ [] H1 rfl (fun _ z => nomatch z) (st1.popN hl) iters_R⟩
    · exact w1.elim
  · exact w1.elim
theorem DI.range2 {fs : Cm (List Tm)} {p : Pos} (hm : X.mg "range" = none) (ha : DA X W q [a, b] fs) (hg : Gl X "range" := by rfl) (hs : starEach [a, b] X.env = [(false, eval a X.env), (false, eval b X.env)] := by rfl) (hs2 : starEach [b] X.env = [(false, eval b X.env)] := by rfl) : DI X W tg (.Call (.Name "range" p) [a, b] [] pos) (rng2 fs) := by
  refine PI.imp (pi_range2 hg hm ha hs hs2) fun σ H R ⟨κ, ρ, τ, vs, st, w⟩ => ?_
  refine ⟨κ, ρ, τ, vs, st, Out.wp_mono (Out.wp_bind w) (fun ts ρ1 w1 xs H1 hl st1 k1 => ?_) fun _ _ z => z⟩
  try dsimp only at w1
  split at w1
  · rename_i n m e
    split at w1
    · rename_i hr
      have ex := st1.ints hl e
      subst ex
      exact ⟨n, m, rfl, ⟨by simpa using hr.1.lo, by simpa using hr.1.hi, by simpa using hr.2.lo, by simpa using hr.2.hi⟩, w1 _ [] H1 rfl (fun _ z => nomatch z) (st1.popN hl) iters_R⟩
    · exact w1.elim
  · exact w1.elim
end
end Dl

set_option linter.all false
set_option maxRecDepth 100000
namespace Dl
open PySem L2
section
variable {K : PySem.W.Frag} {H Z H' Z' : Hp}
theorem DicAt.some {a : Addr} {ks : List D} {xs : List V} (h : DicAt H a ks xs) : ∃ o, H a = some o := let ⟨_, e, _⟩ := h; ⟨_, e⟩
mutual
theorem O.owned : ∀ {d : D} {v : V} {A : List Addr}, O K H Z d v A → ∀ a ∈ A, Z a = none ∧ ∃ o, H a = some o
  | _, _, _, .non, _, h => nomatch h
  | _, _, _, .bl _, _, h => nomatch h
  | _, _, _, .int _, _, h => nomatch h
  | _, _, _, .str _, _, h => nomatch h
  | _, _, _, .cst _, _, h => nomatch h
  | _, _, _, .hol _, _, h => nomatch h
  | _, _, _, .exv _, _, h => nomatch h
  | _, _, _, .scr _, _, h => nomatch h
  | _, _, _, .tup _ h2, a, h => Os.owned h2 a h
  | _, _, _, .shr _ _, _, h => nomatch h
  | _, _, _, .dsh _ _, _, h => nomatch h
  | _, _, _, .lst h1 h2 h3, a, h => (List.mem_cons.mp h).elim (fun e => by subst e; exact ⟨h2, _, h1⟩) (Os.owned h3 a)
  | _, _, _, .dic h1 h2 h3, a, h => (List.mem_cons.mp h).elim (fun e => by subst e; exact ⟨h2, h1.some⟩) (Os.owned h3 a)
  | _, _, _, .ins h1 h2 h3 h4 h5, a, h => (List.mem_cons.mp h).elim (fun e => by subst e; exact ⟨h2, _, h1⟩) fun h => (List.mem_cons.mp h).elim (fun e => by subst e; exact ⟨h4, _, h3⟩) (Os.owned h5 a)
theorem Os.owned : ∀ {d : List D} {v : List V} {A : List Addr}, Os K H Z d v A → ∀ a ∈ A, Z a = none ∧ ∃ o, H a = some o
  | _, _, _, .nil, _, h => nomatch h
  | _, _, _, .cons h1 h2, a, h => (List.mem_append.mp h).elim (O.owned h1 a) (Os.owned h2 a)
end
end

def Ret (K : PySem.W.Frag) (κ : Fr) (d : D) (ds' : List D) (v : V) (vs : List V) (H' : Hp) : Prop := ∃ Z' B A', O K H' Z' d v B ∧ Os K H' Z' ds' vs A' ∧ Good κ H' Z' (B ++ A')
def RetX (K : PySem.W.Frag) (κ : Fr) (ds' : List D) (vs : List V) (H' : Hp) : Prop := ∃ Z' A', Os K H' Z' ds' vs A' ∧ Good κ H' Z' A'
def spD (K : PySem.W.Frag) (n : Nat) (f : List D → Out (List D) D) : Sp := fun vs H Q E => ∃ Z ds A, Os K H Z ds vs A ∧ ds.length = n ∧ Same Z H ∧ A.Nodup ∧
  (f ds).wp (fun d ds' => ∀ v H', Ret K ⟨H, Z, A⟩ d ds' v vs H' → Q v H') (fun e ds' => ∀ H' d, RetX K ⟨H, Z, A⟩ ds' vs H' → ExOk ⟨H, Z, A⟩ H' e d → E (.ref (exA K e.cls)) d H')

def finals (as : List Nat) : Nat → List D → Env → Option (List D)
  | _, [], _ => some []
  | _, _ :: _, [] => none
  | j, d :: ds, c :: ρ => match (if d.own then (if j ∈ as then none else c) else some d) with
    | some x => (finals as (j + 1) ds ρ).map (x :: ·)
    | none => none
def bodyF (nl : Nat) (as : List Nat) (b : Cm Fl) : List D → Out (List D) D := fun ds =>
  match b (ds.map some ++ List.replicate (nl - ds.length) none) with
  | .ok fl ρ => match finals as 0 ds ρ with
    | none => .bad
    | some ds' => match fl with
      | .nx => .ok .non ds'
      | .rt d => .ok d ds'
      | _ => .bad
  | .exc e ρ => match finals as 0 ds ρ with
    | none => .bad
    | some ds' => .exc e ds'
  | .bad => .bad
section
variable {K : PySem.W.Frag} {H Z H' Z' : Hp}
theorem cells_nones : ∀ n, Cells K H Z (List.replicate n none) (List.replicate n none) []
  | 0 => .nil
  | n + 1 => .no (cells_nones n)
theorem cells_start {n : Nat} : ∀ {ds : List D} {vs : List V} {A : List Addr}, Os K H Z ds vs A → Cells K H Z (ds.map some ++ List.replicate n none) (vs.map some ++ List.replicate n none) A
  | _, _, _, .nil => cells_nones n
  | _, _, _, .cons h1 h2 => .so h1 (cells_start h2)
theorem finals_os {as : List Nat} (zz : Same Z Z') : ∀ {ds : List D} {vs : List V} {A : List Addr} {j : Nat} {ρ : Env} {σ : St} {C : List Addr} {ds' : List D}, Os K H Z ds vs A → Cells K H' Z' ρ σ C → finals as j ds ρ = some ds' →
    (∀ i, i + j ∉ as → i < vs.length → σ[i]? = (vs[i]?).map some) → ∃ A', Os K H' Z' ds' vs A' ∧ Sub A' C
  | _, _, _, j, ρ, σ, C, ds', .nil, c, e, _ => by
    unfold finals at e
    cases e
    exact ⟨[], .nil, ⟨C, .refl _⟩⟩
  | _, _, _, j, _, _, C, ds', @Os.cons _ _ _ d v A1 ds vs A2 h1 h2, c, e, fr => by
    have tail : ∀ {c0 ρ0 x σ0}, (∀ i, i + j ∉ as → i < (v :: vs).length → (x :: σ0 : St)[i]? = ((v :: vs)[i]?).map some) → ∀ i, i + (j + 1) ∉ as → i < vs.length → σ0[i]? = (vs[i]?).map some := fun {c0 : Unit} {ρ0 : Unit} {x σ0} fr i hi hl => by
      have := fr (i + 1) (by rw [show i + 1 + j = i + (j + 1) by omega]; exact hi) (by simpa using hl)
      simpa using this
    cases c with
    | nil => unfold finals at e; cases e
    | @no ρ x σ _ c =>
      unfold finals at e
      cases ho : d.own with
      | true => rw [ho] at e; simp at e
      | false =>
        rw [ho] at e
        simp only [Bool.false_eq_true, if_false, Option.map_eq_some_iff] at e
        obtain ⟨r, e1, rfl⟩ := e
        obtain ⟨A', o', s⟩ := finals_os zz h2 c e1 (tail (c0 := ()) (ρ0 := ()) fr)
        have z := h1.noown ho
        subst z
        exact ⟨[] ++ A', .cons (h1.keep zz fun _ q => nomatch q) o', s⟩
    | @so d' v' B ρ σ C2 q1 c =>
      unfold finals at e
      cases ho : d.own with
      | true =>
        rw [ho] at e
        simp only [if_true] at e
        by_cases hj : j ∈ as
        · rw [if_pos hj] at e; cases e
        · rw [if_neg hj] at e
          simp only [Option.map_eq_some_iff] at e
          obtain ⟨r, e1, rfl⟩ := e
          obtain ⟨A', o', s⟩ := finals_os zz h2 c e1 (tail (c0 := ()) (ρ0 := ()) fr)
          have ev := fr 0 (by simpa using hj) (by simp)
          simp at ev
          subst ev
          exact ⟨B ++ A', .cons q1 o', .app .refl s⟩
      | false =>
        rw [ho] at e
        simp only [Bool.false_eq_true, if_false, Option.map_eq_some_iff] at e
        obtain ⟨r, e1, rfl⟩ := e
        obtain ⟨A', o', s⟩ := finals_os zz h2 c e1 (tail (c0 := ()) (ρ0 := ()) fr)
        have z := h1.noown ho
        subst z
        exact ⟨[] ++ A', .cons (h1.keep zz fun _ q => nomatch q) o', s.trans sub_right⟩
end
structure RoomG (k : Nat) (A : Around) : Prop where
  r : Room k A
  g : A.guards = some []
structure FnG (P : Program) (w : World) (K : PySem.W.Frag) (mg : Str → Option Value) (base : Heap) (k : Nat) (f : Addr) (fd : FuncData) (ps : List Str) (sp : Sp) : Prop where
  len : ∀ vs U Q E, sp vs U Q E → vs.length = ps.length
  run : ∀ (A : Around) (outer : List PySem.Env) (t : Shared) (U : Hp) (args : Args) (us : List Value) (vs : List V) (Q : VK) (E : XK), RoomG k A → Env0 P w K mg base A outer t U → BindsTo t fd args (ps.zip us) → Vals vs us → sp vs U Q E →
    codeAny (model P w) A (.call (.ref f) args) (CR (L2.CX P w) outer P w U t Q E) t
theorem FnG.mono {P : Program} {w : World} {K : PySem.W.Frag} {mg : Str → Option Value} {base : Heap} {j k : Nat} {f : Addr} {fd : FuncData} {ps : List Str} {sp : Sp} (F : FnG P w K mg base j f fd ps sp) (h : j ≤ k) : FnG P w K mg base k f fd ps sp :=
  ⟨F.len, fun A outer t U args us vs Q E hr => F.run A outer t U args us vs Q E ⟨hr.r.mono h, hr.g⟩⟩
theorem okG {P : Program} {w : World} {K : PySem.W.Frag} {mg : Str → Option Value} {base : Heap} {x qual : Str} {params : Arguments} {body : List Stmt} {scope : Scope} {dvs : List V} {kws : List (Str × V)} {f : Addr} {fd : FuncData} {N ps : List Str} {k : Nat} {sp : Sp}
    (F : FunD K x qual params body scope dvs kws f fd) (S : FnScope N ps scope) (len : ∀ vs U Q E, sp vs U Q E → vs.length = ps.length)
    (hbody : ∀ (cdv : Value) (A : Around) (outer : List PySem.Env) (t : Shared) (U : Hp) (vs : List V) (Q : VK) (E : XK), RoomG k (A.deeper (PyProof.Rows.envOfC qual scope t.heap.objs.size f cdv)) → sp vs U Q E →
      ∃ T, PSs (cxOf (L2.CX P w) P w K mg base N qual scope f cdv A outer t U E) body T ∧ T { nx := fun _ U' => Q .non U', rt := Q } (L2.start N vs) U) : FnG P w K mg base (k + 1) f fd ps sp := by
  obtain ⟨oc, od, dV, kV, doc, pm, an, cdv, ct, osl, rfl, lk, hcd, _, _⟩ := F.ex
  refine ⟨len, fun A outer t U args us vs Q E hr e0 hb r hsp => ?_⟩
  have hl := len _ _ _ _ hsp
  have KX : K.In t.heap := e0.mod.kin.keeps fun b o e => (e0.bs b o e).1
  have lim : t.heap.NoLimit := e0.mod.nolimit.keeps fun b o e => (e0.bs b o e).1
  have kd : ∀ y ∈ ps.zip us, scope.names.lookup y.1 = some .local ∨ (scope.names.lookup y.1 = some .cell ∧ ((cellsFrom (t.heap.objs.size + 1) scope.names []).lookup y.1).isSome = true) := fun ⟨n, v⟩ hy =>
    (S.par n (List.of_mem_zip hy).1).elim .inl fun q => .inr ⟨q, PySem.W.cellsFrom_some _ _ _ (.inl q)⟩
  refine codeAny_call_function hr.r.depth (KX _ _ lk) rfl S.co S.gen rfl (PySem.W.codeRec_of KX hcd) (hb _ _ _ _ (wpAny_newFunctionEnv_cells S.kind kd fun env he t1 x => ?_))
  subst he
  refine ⟨lim.keeps x.toInCall.keep, codeAny_func ?_⟩
  obtain ⟨T, hT, hq⟩ := hbody cdv A outer t U vs Q E ⟨hr.r.deeper _, hr.g⟩ hsp
  refine wpAny_mono (hT.run [] t1 (L2.start N vs) U _ (inv_start S hr.r.hd e0 hl r x) hq) (fun fl t' hs => ?_) fun e t' hs => hs
  cases fl with
  | ret u =>
    obtain ⟨v, σ', U', J, rv, q⟩ := hs
    exact ⟨v, U', J.os, J.bare, J.base, J.hok, rv, q⟩
  | next =>
    obtain ⟨σ', U', J, q⟩ := hs
    exact ⟨V.non, U', J.os, J.bare, J.base, J.hok, rfl, q⟩
  | brk =>
    obtain ⟨_, _, _, q⟩ := hs
    exact q.elim
  | cont =>
    obtain ⟨_, _, _, q⟩ := hs
    exact q.elim
section
variable {X : Cx} {k : Nat} {f : Addr} {fd : FuncData} {ps : List Str} {sp : Sp} {dvs : List V} {ds : List Value} {E : L2.St → XK} {x : Str} {p pos : Pos} {e : Expr} {es : List Expr} {t : TA}
theorem run_fnG {pins : List (Addr × Obj)} {σ : L2.St} {U : Hp} {s : Shared} {Q : VK} {us : List Value} {vs : List V} (F : FnG X.prog X.w X.K X.mg X.base k f fd ps sp) (hr : RoomG k X.A) (hb : Binds X.K fd ps ds) (hd : Vals dvs ds) (hx : PassesAt (L2.CX X.prog X.w) X σ (E σ))
    (I : Inv X pins σ U s) (r : Vals vs us) (h : sp (vs ++ dvs) U Q (E σ)) : wpAny (model X.prog X.w) X.A (call (.ref f) us) (EP X pins σ Q) X.xe s := by
  have r2 := r.append hd
  have hl : (us ++ ds).length = ps.length := r2.length.symm.trans (F.len _ _ _ _ h)
  refine wpAny_call (codeAny_mono (F.run X.A X.stack s U ⟨us, []⟩ _ _ Q (E σ) hr I.env0 (hb s us I.kIn hl) r2 h) fun z s' hq => ?_)
  cases z with
  | error e => exact hx pins U s e s' I hq
  | ok fl =>
    cases fl with
    | ret u => exact I.after hq
    | next => exact hq.elim
    | brk => exact hq.elim
    | cont => exact hq.elim
theorem pe_callG (F : FnG X.prog X.w X.K X.mg X.base k f fd ps sp) (hr : RoomG k X.A) (hg : Gl X x) (hm : X.mg x = some (.ref f)) (hk : PySem.W.keepIn X.K (.ref f) = true) (hb : Binds X.K fd ps ds) (hd : Vals dvs ds) (hx : ∀ σ, PassesAt (L2.CX X.prog X.w) X σ (E σ))
    (ha : PA X (e :: es) t) (hdb : (x == ("__debug__" : Str)) = false := by decide) (he : starEach (e :: es) X.env = (false, eval e X.env) :: starEach es X.env := by rfl) (hpl : (backTo pos (starEach es X.env)).any (·.1) = false := by rfl) :
    PE X (.Call (.Name x p) (e :: es) [] pos) (tCallSD sp dvs E t) :=
  ⟨fun pins s σ U Q I h => wpAny_Call_Name_kw (ld_glob I hg hm (PySem.W.callWith_K (h₀ := X.base) I.ok.mod.kin hk (thn (ha.run pos pins s σ U _ I h) fun us s1 ⟨vs, U1, I1, r, q⟩ => ⟨I1.kIn, run_fnG F hr hb hd (hx σ) I1 r q⟩) he hpl) hdb)⟩
end
structure DefAt (P : Program) (w : World) (K : PySem.W.Frag) (mg : Str → Option Value) (base : Heap) (x : Str) (k n : Nat) (dd : List D) (f : List D → Out (List D) D) : Prop where
  ex : ∃ (a : Addr) (fd : FuncData) (ps : List Str) (ds : List Value) (dvs : List V), FnG P w K mg base k a fd ps (spD K n f) ∧ mg x = some (.ref a) ∧ PySem.W.keepIn K (.ref a) = true ∧ Binds K fd ps ds ∧ Vals dvs ds ∧ ∀ H Z, Os K H Z dd dvs []
theorem spD_len {K : PySem.W.Frag} {n : Nat} {f : List D → Out (List D) D} {vs : List V} {H : Hp} {Q : VK} {E : XK} (h : spD K n f vs H Q E) : vs.length = n := by
  obtain ⟨Z, ds, A, o, hl, _⟩ := h
  rw [o.length, hl]
theorem def_mk2 {P : Program} {w : World} {K : PySem.W.Frag} {mg : Str → Option Value} {base : Heap} {x qual : Str} {st : Stmt} {f : Addr} {fd : FuncData} {dvs : List V} {kws : List (Str × V)} {N ps : List Str} {k : Nat} {as : List Nat} {b : Cm Fl}
    (F : FunD K x qual (defArgs st) (defBody st) (defScope st) dvs kws f fd) (S : FnScope N ps (defScope st))
    (hb : ∀ (cd : Value) (A : Around) (outer : List PySem.Env) (t : Shared) (U : Hp) (E : XK), RoomG k (A.deeper (PyProof.Rows.envOfC qual (defScope st) t.heap.objs.size f cd)) →
      DSs (cxOf (L2.CX P w) P w K mg base N qual (defScope st) f cd A outer t U E) (fun cls d _ H => E cls d H) as (defBody st) b) : FnG P w K mg base (k + 1) f fd ps (spD K ps.length (bodyF N.length as b)) := by
  refine okG F S (fun vs H Q E h => spD_len h) fun cdv A outer s H vs Q E hr h => ?_
  obtain ⟨Z, ds, G, o, hl, zh, nd, w⟩ := h
  refine ⟨_, hb cdv A outer s H E hr, ?_⟩
  have hv := o.length
  have own := o.owned
  have hN : L2.start N vs = vs.map some ++ List.replicate (N.length - ds.length) none := by unfold L2.start; rw [hv]
  have st0 : Stt K ⟨H, Z, G⟩ (ds.map some ++ List.replicate (N.length - ds.length) none) [] [] (L2.start N vs) H := by
    rw [hN]
    refine ⟨Z, G, [], cells_start o, .nil, ?_⟩
    rw [List.append_nil]
    exact ⟨nd, zh, Same.refl Z, fun a o e _ => e, fun a ha => ⟨(own a ha).1, (own a ha).2, .inl ha⟩, fun a o e => .inl e⟩
  have fin : ∀ {ρ : Env} {σ' : St} {ds' : List D} {H' Z' : Hp} {C : List Addr}, finals as 0 ds ρ = some ds' → Frm as (L2.start N vs) σ' → Same Z Z' → Cells K H' Z' ρ σ' C → ∃ A', Os K H' Z' ds' vs A' ∧ Sub A' C := fun {ρ σ' ds' H' Z' C} e fm zz c => by
    refine finals_os zz o c e fun i hi hlt => ?_
    rw [fm i (by simpa using hi), hN, List.getElem?_append_left (by simpa using hlt), List.getElem?_map]
  refine ⟨_, _, [], [], trivial, st0, ?_⟩
  unfold bodyF at w
  cases hbb : b (ds.map some ++ List.replicate (N.length - ds.length) none) with
  | bad => rw [hbb] at w; exact w
  | exc e ρ =>
    rw [hbb] at w
    intro σ' H' d fm st1 eo
    cases hf : finals as 0 ds ρ with
    | none => simp only [hf] at w; exact w.elim
    | some ds' =>
      simp only [hf] at w
      obtain ⟨Z', C, B, c, t, g⟩ := st1
      cases t
      rw [List.append_nil] at g
      obtain ⟨A', o', s⟩ := fin hf fm g.z0 c
      exact w H' d ⟨Z', A', o', g.sub s⟩ eo
  | ok fl ρ =>
    rw [hbb] at w
    cases hf : finals as 0 ds ρ with
    | none => simp only [hf] at w; exact w.elim
    | some ds' =>
      simp only [hf] at w
      cases fl with
      | nx =>
        intro σ' H' fm st1
        obtain ⟨Z', C, B, c, t, g⟩ := st1
        cases t
        rw [List.append_nil] at g
        obtain ⟨A', o', s⟩ := fin hf fm g.z0 c
        exact w .non H' ⟨Z', [], A', .non, o', g.sub s⟩
      | rt d =>
        intro v σ' H' fm st1
        obtain ⟨Z', C, B, c, t, g⟩ := st1
        cases t with
        | @v _ _ B1 _ _ B2 h1 h2 =>
          cases h2
          obtain ⟨A', o', s⟩ := fin hf fm g.z0 c
          refine w v H' ⟨Z', B1, A', h1, o', g.sub ?_⟩
          refine Sub.trans (.app .refl s) (.of_perm ?_)
          rw [List.append_nil]
          exact List.perm_append_comm
      | bk => exact w.elim
      | ct => exact w.elim

def lend : Env → List Tm → Option (List D × Env)
  | ρ, [] => some ([], ρ)
  | ρ, .v d :: ts => (lend ρ ts).map fun p => (d :: p.1, p.2)
  | ρ, .s i :: ts => match (ρ[i]?).join with
    | none => none
    | some d => (lend (if d.own then ρ.set i none else ρ) ts).map fun p => (d :: p.1, p.2)
def restore : Env → List Tm → List D → List D → Option Env
  | ρ, .v _ :: ts, _ :: ds, _ :: ds' => restore ρ ts ds ds'
  | ρ, .s i :: ts, d :: ds, d' :: ds' => if d.own then (if hole ρ i then restore (ρ.set i (some d')) ts ds ds' else none) else restore ρ ts ds ds'
  | ρ, [], _, _ => some ρ
  | _, _, _, _ => none
def eCall (f : List D → Out (List D) D) (dd : List D) (fs : Cm (List Tm)) : Cm Tm := fun ρ => (fs ρ).bind fun ts ρ1 => match lend ρ1 ts with
  | none => .bad
  | some (ds, ρ2) => match f (ds ++ dd) with
    | .ok d ds' => match restore ρ2 ts ds ds' with
      | some ρ3 => .ok (.v d) ρ3
      | none => .bad
    | .exc e ds' => match restore ρ2 ts ds ds' with
      | some ρ3 => .exc e ρ3
      | none => .bad
    | .bad => .bad
section
variable {K : PySem.W.Frag} {H Z H' Z' : Hp} {σ : St}
theorem lend_os : ∀ {ts : List Tm} {xs : List V} {ρ ρ2 : Env} {A B : List Addr} {ds : List D}, Tms K H Z σ ts xs B → Cells K H Z ρ σ A → lend ρ ts = some (ds, ρ2) →
    ∃ A2 B2, Cells K H Z ρ2 σ A2 ∧ Os K H Z ds xs B2 ∧ (B2 ++ A2).Perm (A ++ B)
  | _, _, ρ, ρ2, A, _, ds, .nil, c, e => by
    unfold lend at e
    cases e
    exact ⟨A, [], c, .nil, by simp⟩
  | _, _, ρ, ρ2, A, _, ds, @Tms.v _ _ _ _ d x B1 τ vs B0 h1 h2, c, e => by
    unfold lend at e
    simp only [Option.map_eq_some_iff] at e
    obtain ⟨⟨ds1, ρ1⟩, e1, e2⟩ := e
    cases e2
    obtain ⟨A2, B2, c2, o2, p⟩ := lend_os h2 c e1
    refine ⟨A2, B1 ++ B2, c2, .cons h1 o2, ?_⟩
    have p1 : (B1 ++ B2 ++ A2).Perm (B1 ++ (A ++ B0)) := by rw [List.append_assoc]; exact p.append_left B1
    refine p1.trans ?_
    rw [← List.append_assoc, ← List.append_assoc]
    exact List.perm_append_comm.append_right B0
  | _, _, ρ, ρ2, A, _, ds, @Tms.s _ _ _ _ i x τ vs B h1 h2, c, e => by
    unfold lend at e
    cases hd : (ρ[i]?).join with
    | none => simp only [hd] at e; cases e
    | some d =>
      simp only [hd, Option.map_eq_some_iff] at e
      obtain ⟨⟨ds1, ρ1⟩, e1, e2⟩ := e
      cases e2
      have hd' := join_some hd
      cases ho : d.own with
      | true =>
        rw [ho, if_pos rfl] at e1
        obtain ⟨v, C, A', ev, o, c', p⟩ := c.take hd'
        rw [h1] at ev
        cases ev
        obtain ⟨A2, B2, c2, o2, p2⟩ := lend_os h2 c' e1
        refine ⟨A2, C ++ B2, c2, .cons o o2, ?_⟩
        rw [List.append_assoc]
        exact (p2.append_left C).trans (by rw [← List.append_assoc]; exact p.append_right B)
      | false =>
        rw [ho, if_neg Bool.false_ne_true] at e1
        obtain ⟨v, C, ev, o, _⟩ := c.at hd'
        rw [h1] at ev
        cases ev
        have z := o.noown ho
        subst z
        obtain ⟨A2, B2, c2, o2, p2⟩ := lend_os h2 c e1
        exact ⟨A2, [] ++ B2, c2, .cons o o2, p2⟩
theorem restore_os : ∀ {ts : List Tm} {xs : List V} {ρ ρ3 : Env} {A B G : List Addr} {ds ds' : List D} {H0 Z0 : Hp}, Tms K H0 Z0 σ ts xs G → Cells K H' Z' ρ σ A → Os K H' Z' ds' xs B → restore ρ ts ds ds' = some ρ3 → ∃ A3, Cells K H' Z' ρ3 σ A3 ∧ Sub A3 (A ++ B)
  | _, _, ρ, ρ3, A, B, _, ds, ds', H0, Z0, .nil, c, o, e => by
    unfold restore at e
    cases e
    exact ⟨A, c, sub_left⟩
  | _, _, ρ, ρ3, A, _, _, ds, _, H0, Z0, .v h1 h2, c, o, e => by
    cases o with
    | cons o1 o2 =>
      cases ds with
      | nil => unfold restore at e; cases e
      | cons d ds =>
        unfold restore at e
        obtain ⟨A3, c3, s⟩ := restore_os h2 c o2 e
        exact ⟨A3, c3, s.trans (.app .refl sub_right)⟩
  | _, _, ρ, ρ3, A, _, _, ds, _, H0, Z0, @Tms.s _ _ _ _ i x τ vs _ h1 h2, c, o, e => by
    cases o with
    | @cons d' v B1 ds' vs B2 o1 o2 =>
      cases ds with
      | nil => unfold restore at e; cases e
      | cons d ds =>
        unfold restore at e
        split at e
        · split at e
          · rename_i hh
            have hn := hole_eq hh
            obtain ⟨A', c', p⟩ := c.back (List.getElem?_eq_some_iff.mp hn).1 hn h1 o1
            obtain ⟨A3, c3, s⟩ := restore_os h2 c' o2 e
            refine ⟨A3, c3, s.trans ?_⟩
            refine .trans (.app (.of_perm p) .refl) (.of_perm ?_)
            rw [List.append_assoc, ← List.append_assoc A]
            have q : (B1 ++ (A ++ B2)).Perm ((A ++ B1) ++ B2) := by
              rw [← List.append_assoc]
              exact List.perm_append_comm.append_right B2
            exact q
          · cases e
        · obtain ⟨A3, c3, s⟩ := restore_os h2 c o2 e
          exact ⟨A3, c3, s.trans (.app .refl sub_right)⟩
theorem Good.behind {κ : Fr} {L G : List Addr} {Lc : List Addr} (g : Good κ H Z (G ++ L)) (r : Good ⟨H, Z, G⟩ H' Z' Lc) : (∀ a ∈ L, H' a = H a ∧ Z' a = none) ∧ Good κ H' Z' (L ++ Lc) := by
  have nd := List.nodup_append.mp g.nd
  have gL : ∀ a ∈ L, a ∉ G := fun a ha hg => nd.2.2 a hg a ha rfl
  have kL : ∀ a ∈ L, H' a = H a ∧ Z' a = none := fun a ha => by
    obtain ⟨z, ⟨o, e⟩, _⟩ := g.own a (List.mem_append_right _ ha)
    refine ⟨(r.keep a o e (gL a ha)).trans e.symm, ?_⟩
    cases hz : Z' a with
    | none => rfl
    | some u =>
      rcases r.zn a u hz with q | q | q
      · have q' : Z a = some u := q
        rw [z] at q'; cases q'
      · exact absurd q (gL a ha)
      · have q' : H a = none := q
        rw [e] at q'; cases q'
  have gG : ∀ a ∈ G, a ∈ κ.G ∨ κ.H0 a = none := fun a ha => (g.own a (List.mem_append_left _ ha)).2.2
  refine ⟨kL, ⟨?_, r.zh, fun a o e => r.z0 a o (g.z0 a o e), fun a o e n => ?_, fun a ha => ?_, fun a o e => ?_⟩⟩
  · refine List.nodup_append.mpr ⟨nd.2.1, r.nd, fun a ha b hb e => ?_⟩
    subst e
    obtain ⟨_, ⟨o, e⟩, _⟩ := g.own a (List.mem_append_right _ ha)
    rcases (r.own a hb).2.2 with q | q
    · exact gL a ha q
    · have q' : H a = none := q
      rw [e] at q'; cases q'
  · have e1 := g.keep a o e n
    refine r.keep a o e1 fun hg => ?_
    rcases gG a hg with q | q
    · exact n q
    · rw [e] at q; cases q
  · rcases List.mem_append.mp ha with q | q
    · obtain ⟨z, ⟨o, e⟩, w⟩ := g.own a (List.mem_append_right _ q)
      exact ⟨(kL a q).2, ⟨o, (kL a q).1.trans e⟩, w⟩
    · obtain ⟨z, x, w⟩ := r.own a q
      refine ⟨z, x, ?_⟩
      rcases w with w | w
      · exact gG a w
      · exact h0_or g w
  · rcases r.zn a o e with q | q | q
    · exact g.zn a o q
    · exact .inr (gG a q)
    · exact .inr (h0_or g q)
theorem Stt.call {κ : Fr} {ρ1 ρ2 : Env} {ts τ : List Tm} {xs vs dvs : List V} {ds dd : List D} (hl : xs.length = ts.length) (h : Stt K κ ρ1 (ts ++ τ) (xs ++ vs) σ H) (e : lend ρ1 ts = some (ds, ρ2)) (hd : ∀ H Z, Os K H Z dd dvs []) :
    ∃ Z G, Os K H Z (ds ++ dd) (xs ++ dvs) G ∧ Same Z H ∧ G.Nodup ∧ ds.length = xs.length ∧
      (∀ d ds' v H' ρ3, Ret K ⟨H, Z, G⟩ d ds' v (xs ++ dvs) H' → restore ρ2 ts ds ds' = some ρ3 → Stt K κ ρ3 (.v d :: τ) (v :: vs) σ H') ∧
      (∀ ds' H' ρ3, RetX K ⟨H, Z, G⟩ ds' (xs ++ dvs) H' → restore ρ2 ts ds ds' = some ρ3 → Stt K κ ρ3 τ vs σ H') ∧ ∀ a, a ∈ G ∨ H a = none → a ∈ κ.G ∨ κ.H0 a = none := by
  obtain ⟨Z, A, B, c, t, g⟩ := h
  obtain ⟨B1, B2, rfl, t1, t2⟩ := t.cut hl
  obtain ⟨A2, G, c2, o, p⟩ := lend_os t1 c e
  have g2 : Good κ H Z (G ++ (A2 ++ B2)) := g.sub (.of_perm (by rw [← List.append_assoc, ← List.append_assoc]; exact p.append_right B2))
  have back : ∀ {ds' : List D} {H' Z' : Hp} {ρ3 : Env} {A' Lc : List Addr}, Os K H' Z' ds' (xs ++ dvs) A' → Good ⟨H, Z, G⟩ H' Z' Lc → restore ρ2 ts ds ds' = some ρ3 → (∀ a ∈ A2 ++ B2, H' a = H a ∧ Z' a = none) → ∃ A3, Cells K H' Z' ρ3 σ A3 ∧ Sub A3 (A2 ++ A') := fun {ds' H' Z' ρ3 A' Lc} o' r e3 k => by
    have hlen : ds'.length = (xs ++ dvs).length := o'.length.symm
    have e4 : ds' = ds'.take xs.length ++ ds'.drop xs.length := (List.take_append_drop _ _).symm
    rw [e4] at o'
    obtain ⟨v1, v2, A3, A4, ev, ea, q1, q2⟩ := o'.split
    have hv1 : v1.length = xs.length := by
      rw [q1.length, List.length_take, hlen, List.length_append]
      omega
    obtain ⟨rfl, rfl⟩ := List.append_inj ev hv1.symm
    subst ea
    have e5 : restore ρ2 ts ds (ds'.take xs.length) = some ρ3 := by
      have gen : ∀ (ts : List Tm) (ρ : Env) (ds a b : List D), ts.length ≤ a.length → restore ρ ts ds (a ++ b) = restore ρ ts ds a := by
        intro ts
        induction ts with
        | nil => intro ρ ds a b _; simp [restore]
        | cons t ts ih =>
          intro ρ ds a b hn
          cases a with
          | nil => simp at hn
          | cons x a =>
            cases ds with
            | nil => cases t <;> simp [restore]
            | cons d ds =>
              cases t with
              | v y => exact ih ρ ds a b (by simpa using hn)
              | s i =>
                simp only [List.cons_append, restore]
                rw [ih _ _ _ _ (by simpa using hn), ih _ _ _ _ (by simpa using hn)]
      rw [← gen ts ρ2 ds (ds'.take xs.length) (ds'.drop xs.length) (by rw [List.length_take, hlen, List.length_append]; omega), List.take_append_drop]
      exact e3
    obtain ⟨A5, c5, s5⟩ := restore_os t1 (c2.keep (fun a o e => r.z0 a o e) fun a ha => k a (List.mem_append_left _ ha)) q1 e5
    exact ⟨A5, c5, s5.trans (.app .refl sub_left)⟩
  refine ⟨Z, G, ?_, g.zh, (List.nodup_append.mp g2.nd).1, o.length.symm, fun d ds' v H' ρ3 r e3 => ?_, fun ds' H' ρ3 r e3 => ?_, fun a ha => ha.elim (fun q => (g2.own a (List.mem_append_left _ q)).2.2) (h0_or g2)⟩
  · have q := o.append (hd H Z)
    rw [List.append_nil] at q
    exact q
  · obtain ⟨Z', B, A', o1, o2, r⟩ := r
    obtain ⟨k, g3⟩ := g2.behind r
    obtain ⟨A3, c3, s3⟩ := back o2 r e3 k
    refine ⟨Z', A3, B ++ B2, c3, .v o1 (t2.keep (fun a o e => r.z0 a o e) fun a ha => k a (List.mem_append_right _ ha)), g3.sub ?_⟩
    refine .trans (.app s3 .refl) (.of_perm ?_)
    -- (A2 ++ A') ++ (B ++ B2) ~ (A2 ++ B2) ++ (B ++ A')
    rw [List.append_assoc, List.append_assoc]
    refine List.Perm.append_left A2 ?_
    have p1 : (A' ++ (B ++ B2)).Perm ((B ++ B2) ++ A') := List.perm_append_comm
    refine p1.trans ?_
    rw [← List.append_assoc B2]
    refine List.Perm.trans ?_ (List.perm_append_comm.append_right A')
    exact .refl _
  · obtain ⟨Z', A', o2, r⟩ := r
    obtain ⟨k, g3⟩ := g2.behind r
    obtain ⟨A3, c3, s3⟩ := back o2 r e3 k
    refine ⟨Z', A3, B2, c3, t2.keep (fun a o e => r.z0 a o e) fun a ha => k a (List.mem_append_right _ ha), g3.sub ?_⟩
    refine .trans (.app s3 .refl) (.of_perm ?_)
    rw [List.append_assoc, List.append_assoc]
    exact List.perm_append_comm.append_left A2
end
section
variable {X : Cx} {W : WX} {q : Bool} {x : Str} {k n : Nat} {dd : List D} {f : List D → Out (List D) D} {e : Expr} {es : List Expr} {fs : Cm (List Tm)} {p pos : Pos}
theorem DE.call (F : DefAt X.prog X.w X.K X.mg X.base x k n dd f) (hr : RoomG k X.A) (tk : Takes X W) (ha : DA X W q (e :: es) fs) (hn : (e :: es).length + dd.length = n) (hg : Gl X x := by rfl)
    (hdb : (x == ("__debug__" : Str)) = false := by decide) (he : starEach (e :: es) X.env = (false, eval e X.env) :: starEach es X.env := by rfl) (hpl : (backTo pos (starEach es X.env)).any (·.1) = false := by rfl) :
    DE X W false (.Call (.Name x p) (e :: es) [] pos) (fun ρ => (fs ρ).bind fun ts ρ1 => if ts.length + dd.length = n then eCall f dd (fun ρ => .ok ts ρ) ρ1 else .bad) := by
  obtain ⟨a, fd, ps, ds, dvs, G, mx, kp, b, hv, od⟩ := F.ex
  refine PE.imp (pe_callG (E := WE W) G hr hg mx kp b hv (fun σ => passAt tk σ) ha hdb he hpl) fun σ H Q ⟨κ, ρ, τ, vs, st, w⟩ => ?_
  refine ⟨κ, ρ, τ, vs, st, Out.wp_mono (Out.wp_bind w) (fun ts ρ1 w1 xs H1 hl st1 k1 => ?_) fun e ρ1 z => z⟩
  split at w1
  · rename_i hts
    unfold eCall at w1
    simp only [Out.bind_ok] at w1
    split at w1
    · exact w1.elim
    · rename_i ds0 ρ2 hle
      obtain ⟨Z, G0, o, zh, nd, hdl, kr, kx, kn⟩ := st1.call hl hle od
      refine ⟨Z, ds0 ++ dd, G0, o, by rw [List.length_append, hdl, hl]; exact hts, zh, nd, ?_⟩
      split at w1
      · rename_i d ds' hf
        rw [hf]
        split at w1
        · rename_i ρ3 h3
          exact fun v H' r => w1 v H' (kr d ds' v H' ρ3 r h3) fun z => nomatch z
        · exact w1.elim
      · rename_i e ds' hf
        rw [hf]
        split at w1
        · rename_i ρ3 h3
          exact fun H' d r eo => w1 H' d (kx ds' H' ρ3 r h3) (eo.up kn)
        · exact w1.elim
      · exact w1.elim
  · exact w1.elim
end
end Dl

set_option linter.all false
set_option maxRecDepth 100000
namespace Dl
open PySem L2

mutual
def D.pl : D → Bool
  | .non => true | .bl _ => true | .int _ => true
  | .str l => PyData.strOk ⟨l.toArray⟩
  | .tup l => D.pls l
  | .lst _ l => D.pls l
  | _ => false
def D.pls : List D → Bool
  | [] => true
  | d :: l => d.pl && D.pls l
end
mutual
def D.P : D → PyData
  | .bl b => .bool b
  | .int i => .int i
  | .str l => .str ⟨l.toArray⟩
  | .tup l => .tuple (D.Ps l)
  | .lst _ l => .list (D.Ps l)
  | _ => .none
def D.Ps : List D → List PyData
  | [] => []
  | d :: l => d.P :: D.Ps l
end
mutual
def D.dep : D → Nat
  | .tup l => D.deps l + 1
  | .lst _ l => D.deps l + 1
  | _ => 0
def D.deps : List D → Nat
  | [] => 0
  | d :: l => max d.dep (D.deps l)
end
section
variable {K : PySem.W.Frag} {κ : Fr} {ρ : List (Option D)} {τ : List Tm} {vs : List V} {σ : St} {H Z : Hp} {a b c d : D} {u v w : V}
mutual
theorem O.dp (zz : Same Z H) : ∀ {d : D} {v : V} {A : List Addr}, O K H Z d v A → d.pl = true → Dp K H v d.P
  | _, _, _, .non, _ => .non
  | _, _, _, .bl b, _ => .bl b
  | _, _, _, .int i, _ => .int i
  | _, _, _, .str l, _ => .str _
  | _, _, _, .cst _, h => by simp [D.pl] at h
  | _, _, _, .hol _, h => by simp [D.pl] at h
  | _, _, _, .exv _, h => by simp [D.pl] at h
  | _, _, _, .scr _, h => by simp [D.pl] at h
  | _, _, _, .tup h1 h2, h => .tup (sqT_keep zz h1) (Os.dp zz h2 (by simpa [D.pl] using h))
  | _, _, _, .shr h1 h2, h => .lst (.of (zz _ _ h1)) (Os.dp zz h2 (by simpa [D.pl] using h))
  | _, _, _, .lst h1 _ h2, h => .lst (.of h1) (Os.dp zz h2 (by simpa [D.pl] using h))
  | _, _, _, .dsh _ _, h => by simp [D.pl] at h
  | _, _, _, .dic _ _ _, h => by simp [D.pl] at h
  | _, _, _, .ins _ _ _ _ _, h => by simp [D.pl] at h
theorem Os.dp (zz : Same Z H) : ∀ {d : List D} {v : List V} {A : List Addr}, Os K H Z d v A → D.pls d = true → DpAll K H v (D.Ps d)
  | _, _, _, .nil, _ => .nil
  | _, _, _, .cons h1 h2, h => by
    simp only [D.pls, Bool.and_eq_true] at h
    exact .cons (O.dp zz h1 h.1) (Os.dp zz h2 h.2)
end
mutual
theorem D.P_lay : ∀ d : D, d.pl = true → d.P.canLay0 = true
  | .non, _ => by simp [D.P, PyData.canLay0]
  | .bl _, _ => by simp [D.P, PyData.canLay0]
  | .int _, _ => by simp [D.P, PyData.canLay0]
  | .str _, h => by simpa [D.P, PyData.canLay0, D.pl] using h
  | .cst _, h => by simp [D.pl] at h
  | .hol _, h => by simp [D.pl] at h
  | .exv _ _, h => by simp [D.pl] at h
  | .scr _, h => by simp [D.pl] at h
  | .dic _ _ _, h => by simp [D.pl] at h
  | .ins _ _ _, h => by simp [D.pl] at h
  | .tup l, h => by simp only [D.P, PyData.canLay0]; exact D.Ps_lay l (by simpa [D.pl] using h)
  | .lst _ l, h => by simp only [D.P, PyData.canLay0]; exact D.Ps_lay l (by simpa [D.pl] using h)
theorem D.Ps_lay : ∀ l : List D, D.pls l = true → PyData.canLayAll0 (D.Ps l) = true
  | [], _ => by simp only [D.Ps, PyData.canLayAll0]
  | d :: l, h => by
    simp only [D.pls, Bool.and_eq_true] at h
    simp only [D.Ps, PyData.canLayAll0, D.P_lay d h.1, D.Ps_lay l h.2, Bool.and_self]
end
mutual
theorem D.P_depth : ∀ d : D, d.P.depth = d.dep
  | .non => by simp [D.P, PyData.depth, D.dep]
  | .bl _ => by simp [D.P, PyData.depth, D.dep]
  | .int _ => by simp [D.P, PyData.depth, D.dep]
  | .str _ => by simp [D.P, PyData.depth, D.dep]
  | .cst _ => by simp [D.P, PyData.depth, D.dep]
  | .hol _ => by simp [D.P, PyData.depth, D.dep]
  | .exv _ _ => by simp [D.P, PyData.depth, D.dep]
  | .scr _ => by simp [D.P, PyData.depth, D.dep]
  | .dic _ _ _ => by simp [D.P, PyData.depth, D.dep]
  | .ins _ _ _ => by simp [D.P, PyData.depth, D.dep]
  | .tup l => by simp only [D.P, PyData.depth, D.dep, D.Ps_depth l]
  | .lst _ l => by simp only [D.P, PyData.depth, D.dep, D.Ps_depth l]
theorem D.Ps_depth : ∀ l : List D, PyData.depthAll (D.Ps l) = D.deps l
  | [] => by simp only [D.Ps, PyData.depthAll, D.deps]
  | d :: l => by simp only [D.Ps, PyData.depthAll, D.deps, D.P_depth d, D.Ps_depth l]
end
theorem shaped_P {d : D} (f : d.pl = true) (h : d.dep ≤ 64) : SeqAt.shaped d.P = true := by
  show (d.P.canLay0 && decide (d.P.depth ≤ 64)) = true
  rw [D.P_lay d f, D.P_depth]
  simpa using h
def eqD (a b : D) : Bool := PyData.eqv a.P b.P
def eqDs : List D → List D → Bool := fun a b => PyData.eqvAll (D.Ps a) (D.Ps b)

theorem Stt.opn {t : Tm} (h : Stt K κ ρ (t :: τ) (v :: vs) σ H) (e : Dl.look ρ t = some d) : ∃ Z A B C, Cells K H Z ρ σ A ∧ Tms K H Z σ τ vs B ∧ Good κ H Z (A ++ B) ∧ O K H Z d v C ∧ Same Z H := by
  obtain ⟨Z, A, B, c, t, g⟩ := h
  cases t with
  | v h1 h2 => cases e; exact ⟨Z, A, _, _, c, h2, g.sub (.app .refl sub_right), h1, g.zh⟩
  | @s i _ _ _ _ h1 h2 =>
    obtain ⟨x, C, q, o, _⟩ := c.at (join_some e)
    rw [h1] at q
    cases q
    exact ⟨Z, A, _, C, c, h2, g, o, g.zh⟩
theorem Stt.opn2 {t s : Tm} (h : Stt K κ ρ (t :: s :: τ) (v :: u :: vs) σ H) (e : Dl.look ρ t = some d) (e2 : Dl.look ρ s = some a) :
    ∃ Z A B C C2, Cells K H Z ρ σ A ∧ Tms K H Z σ τ vs B ∧ Good κ H Z (A ++ B) ∧ O K H Z d v C ∧ O K H Z a u C2 ∧ Same Z H := by
  obtain ⟨Z, A, B, c, t, g⟩ := h
  have one : ∀ {t : Tm} {x : V} {d : D} {τ vs B}, Tms K H Z σ (t :: τ) (x :: vs) B → Dl.look ρ t = some d → ∃ C B', O K H Z d x C ∧ Tms K H Z σ τ vs B' ∧ Sub B' B := fun {t x d τ vs B} h e => by
    cases h with
    | v h1 h2 => cases e; exact ⟨_, _, h1, h2, sub_right⟩
    | @s i _ _ _ _ h1 h2 =>
      obtain ⟨x, C, q, o, _⟩ := c.at (join_some e)
      rw [h1] at q
      cases q
      exact ⟨C, _, o, h2, .refl⟩
  obtain ⟨C, B1, o1, t1, s1⟩ := one t e
  obtain ⟨C2, B2, o2, t2, s2⟩ := one t1 e2
  exact ⟨Z, A, B2, C, C2, c, t2, g.sub (.app .refl (s2.trans s1)), o1, o2, g.zh⟩
theorem Stt.mkTup {A B : List Addr} {ds : List D} {xs : List V} {p : Addr} (c : Cells K H Z ρ σ A) (t : Tms K H Z σ τ vs B) (g : Good κ H Z (A ++ B)) (o : Os K H Z ds xs []) (hp : H p = none) :
    Stt K κ ρ (.v (.tup ds) :: τ) (.ref p :: vs) σ (upd H p (.tup xs)) := by
  have h : Stt K κ ρ (tms ds ++ τ) (xs ++ vs) σ H := ⟨Z, A, [] ++ B, c, o.tms t, g⟩
  exact h.tup o.length hp
theorem Stt.mkLst {A B : List Addr} {ds : List D} {xs : List V} {p : Addr} (c : Cells K H Z ρ σ A) (t : Tms K H Z σ τ vs B) (g : Good κ H Z (A ++ B)) (o : Os K H Z ds xs []) (hp : H p = none) :
    Stt K κ ρ (.v (.lst true ds) :: τ) (.ref p :: vs) σ (upd H p (.lst xs)) := by
  have h : Stt K κ ρ (tms ds ++ τ) (xs ++ vs) σ H := ⟨Z, A, [] ++ B, c, o.tms t, g⟩
  exact h.lst o.length hp
theorem Stt.mk {A B : List Addr} (c : Cells K H Z ρ σ A) (t : Tms K H Z σ τ vs B) (g : Good κ H Z (A ++ B)) (o : O K H Z d v []) : Stt K κ ρ (.v d :: τ) (v :: vs) σ H := ⟨Z, A, [] ++ B, c, .v o t, g⟩
theorem Stt.mk0 {A B : List Addr} (c : Cells K H Z ρ σ A) (t : Tms K H Z σ τ vs B) (g : Good κ H Z (A ++ B)) : Stt K κ ρ τ vs σ H := ⟨Z, A, B, c, t, g⟩
theorem O.listV {l : List D} {o : Bool} {C : List Addr} (zz : Same Z H) (h : O K H Z (.lst o l) v C) : ∃ p xs, v = .ref p ∧ H p = some (.lst xs) ∧ ∃ C2, Os K H Z l xs C2 := by
  cases h with
  | shr h1 h2 => exact ⟨_, _, rfl, zz _ _ h1, _, h2⟩
  | lst h1 _ h2 => exact ⟨_, _, rfl, h1, _, h2⟩
theorem O.tupV {l : List D} {C : List Addr} (zz : Same Z H) (h : O K H Z (.tup l) v C) : ∃ p xs, v = .ref p ∧ SqT K H p xs ∧ Os K H Z l xs C := by
  cases h with
  | tup h1 h2 => exact ⟨_, _, rfl, sqT_keep zz h1, h2⟩
theorem O.intV {n : Int} {C : List Addr} (h : O K H Z (.int n) v C) : v = .int n := by cases h; rfl
theorem O.strV {n : List Nat} {C : List Addr} (h : O K H Z (.str n) v C) : v = .str ⟨n.toArray⟩ := by cases h; rfl
theorem O.blV {n : Bool} {C : List Addr} (h : O K H Z (.bl n) v C) : v = .bl n := by cases h; rfl
theorem O.nonV {C : List Addr} (h : O K H Z .non v C) : v = .non := by cases h; rfl
theorem Os.nil_of {l : List D} {xs : List V} {C : List Addr} (h : Os K H Z l xs C) (n : D.owns l = false) : Os K H Z l xs [] := by
  have e := h.noown n
  subst e
  exact h

theorem Op2.or {q : Bool} {r r' : R2} {g g' : D → D → Option D} (h : Op2 K q r g) (h' : Op2 K q r' g') : Op2 K q (fun x y H Q => r x y H Q ∨ r' x y H Q) (fun a b => (g a b).or (g' a b)) := by
  intro κ ρ τ vs σ H ta tb va vb a b c Q st ea eb e k
  cases hg : g a b with
  | some z =>
    simp only [hg, Option.some_or, Option.some.injEq] at e
    exact .inl (h κ ρ τ vs σ H ta tb va vb a b c Q st ea eb (by rw [hg, e]) k)
  | none =>
    simp only [hg, Option.none_or] at e
    exact .inr (h' κ ρ τ vs σ H ta tb va vb a b c Q st ea eb e k)
def gI (C : Int → Int → Bool) (g : Int → Int → Int) : D → D → Option D
  | .int i, .int j => if C i j then some (.int (g i j)) else none
  | _, _ => none
theorem op2_int {C : Int → Int → Bool} {P : Int → Int → Prop} {g : Int → Int → Int} (hC : ∀ i j, C i j = true → P i j) : Op2 K true (rI P fun i j => .int (g i j)) (gI C g) := by
  intro κ ρ τ vs σ H ta tb va vb a b c Q st ea eb e k
  obtain ⟨Z, A, B, C1, C2, cc, tt, gg, o1, o2, zz⟩ := st.opn2 eb ea
  unfold gI at e
  split at e
  · rename_i i j
    split at e
    · rename_i hc
      cases e
      exact ⟨i, j, o2.intV, o1.intV, hC i j hc, k _ H (.mk cc tt gg (.int _)) fun _ => Same.refl H⟩
    · cases e
  · cases e
theorem op2_int0 {g : Int → Int → Int} : Op2 K true (rI0 fun i j => .int (g i j)) (gI (fun _ _ => true) g) := by
  intro κ ρ τ vs σ H ta tb va vb a b c Q st ea eb e k
  obtain ⟨i, j, e1, e2, _, q⟩ := (op2_int (P := fun _ _ => True) (C := fun _ _ => true) (g := g) fun _ _ _ => trivial) κ ρ τ vs σ H ta tb va vb a b c Q st ea eb e k
  exact ⟨i, j, e1, e2, q⟩
def gStr : D → D → Option D
  | .str a, .str b => if a.length + b.length ≤ sizeLine then some (.str (a ++ b)) else none
  | _, _ => none
theorem str_app (a b : List Nat) : ((⟨a.toArray⟩ : Str) ++ (⟨b.toArray⟩ : Str)) = ⟨(a ++ b).toArray⟩ := by
  show (⟨a.toArray ++ b.toArray⟩ : Str) = _
  simp
theorem str_len (a : List Nat) : (⟨a.toArray⟩ : Str).length = a.length := by
  show a.toArray.size = _
  simp
theorem op2_str : Op2 K true (fun x y H Q => ∃ i j, x = .str i ∧ y = .str j ∧ i.length + j.length ≤ sizeLine ∧ Q (.str (i ++ j)) H) gStr := by
  intro κ ρ τ vs σ H ta tb va vb a b c Q st ea eb e k
  obtain ⟨Z, A, B, C1, C2, cc, tt, gg, o1, o2, zz⟩ := st.opn2 eb ea
  unfold gStr at e
  split at e
  · rename_i i j
    split at e
    · rename_i hc
      cases e
      refine ⟨_, _, o2.strV, o1.strV, by rw [str_len, str_len]; exact hc, ?_⟩
      rw [str_app]
      exact k _ H (.mk cc tt gg (.str _)) fun _ => Same.refl H
    · cases e
  · cases e
def gLst : D → D → Option D
  | .lst _ a, .lst _ b => if D.owns a = false ∧ D.owns b = false ∧ a.length + b.length ≤ sizeLine then some (.lst true (a ++ b)) else none
  | _, _ => none
theorem op2_lst : Op2 K true rCat gLst := by
  intro κ ρ τ vs σ H ta tb va vb a b c Q st ea eb e k
  obtain ⟨Z, A, B, C1, C2, cc, tt, gg, o1, o2, zz⟩ := st.opn2 eb ea
  unfold gLst at e
  split at e
  · rename_i o1' a o2' b
    split at e
    · rename_i hc
      cases e
      obtain ⟨p, xs, rfl, hp, D1, q1⟩ := o2.listV zz
      obtain ⟨p2, ys, rfl, hp2, D2, q2⟩ := o1.listV zz
      have r1 := q1.nil_of hc.1
      have r2 := q2.nil_of hc.2.1
      exact ⟨p, p2, xs, ys, rfl, rfl, hp, hp2, by rw [r1.length, r2.length]; exact hc.2.2, fun r hr => k _ _ (.mkLst cc tt gg (r1.append r2) hr) fun _ => Same_new hr⟩
    · cases e
  · cases e
def gTup : D → D → Option D
  | .tup a, .tup b => if D.owns a = false ∧ D.owns b = false ∧ a.length + b.length ≤ sizeLine then some (.tup (a ++ b)) else none
  | _, _ => none
theorem op2_tup : Op2 K true (rCatA K) gTup := by
  intro κ ρ τ vs σ H ta tb va vb a b c Q st ea eb e k
  obtain ⟨Z, A, B, C1, C2, cc, tt, gg, o1, o2, zz⟩ := st.opn2 eb ea
  unfold gTup at e
  split at e
  · rename_i a b
    split at e
    · rename_i hc
      cases e
      have n1 := o2.noown (by simpa [D.own] using hc.1)
      have n2 := o1.noown (by simpa [D.own] using hc.2.1)
      subst n1 n2
      obtain ⟨p, xs, rfl, hp, q1⟩ := id (o2.tupV zz)
      obtain ⟨p2, ys, rfl, hp2, q2⟩ := id (o1.tupV zz)
      refine ⟨p, p2, xs, ys, rfl, rfl, hp, hp2, by rw [q1.length, q2.length]; exact hc.2.2, fun e => ?_, fun _ e => ?_, fun _ _ r hr => k _ _ (.mkTup cc tt gg (q1.append q2) hr) fun _ => Same_new hr⟩
      · subst e
        have ea : a = [] := List.length_eq_zero_iff.mp q1.length.symm
        subst ea
        exact k _ H (.mk cc tt gg o1) fun _ => Same.refl H
      · subst e
        have eb : b = [] := List.length_eq_zero_iff.mp q2.length.symm
        subst eb
        rw [List.append_nil] at k
        exact k _ H (.mk cc tt gg o2) fun _ => Same.refl H
    · cases e
  · cases e
def addD : D → D → Option D := fun a b => (gI (fun _ _ => true) (fun i j => i + j) a b).or ((gStr a b).or ((gLst a b).or (gTup a b)))
theorem op2_add {X : Cx} : OpR X (binaryOp .Add) (fun x y H Q => rI0 (fun i j => .int (i + j)) x y H Q ∨ (∃ i j, x = .str i ∧ y = .str j ∧ i.length + j.length ≤ sizeLine ∧ Q (.str (i ++ j)) H) ∨ rCat x y H Q ∨ rCatA X.K x y H Q) ∧
    Op2 X.K true (fun x y H Q => rI0 (fun i j => .int (i + j)) x y H Q ∨ (∃ i j, x = .str i ∧ y = .str j ∧ i.length + j.length ≤ sizeLine ∧ Q (.str (i ++ j)) H) ∨ rCat x y H Q ∨ rCatA X.K x y H Q) addD :=
  ⟨op_add.or (op_add_str.or (op_cat.or op_catA)), op2_int0.or (op2_str.or (op2_lst.or op2_tup))⟩
end
section
variable {X : Cx} {W : WX} {q q1 q2 : Bool} {a b : Expr} {f g : Cm Tm} {pos : Pos}
theorem DE.add (ha : DE X W q1 a f) (hb : DE X W q2 b g) : DE X W (q1 && q2) (.BinOp a .Add b pos) (e2 addD f g) := DE.bin op2_add.1 op2_add.2 ha hb
def subD : D → D → Option D := gI (fun _ _ => true) (fun i j => i - j)
theorem DE.sub (ha : DE X W q1 a f) (hb : DE X W q2 b g) : DE X W (q1 && q2) (.BinOp a .Sub b pos) (e2 subD f g) := DE.bin op_sub op2_int0 ha hb
def modD : D → D → Option D := gI (fun _ j => j != 0) (fun i j => i.fmod j)
theorem DE.mod (ha : DE X W q1 a f) (hb : DE X W q2 b g) : DE X W (q1 && q2) (.BinOp a .Mod b pos) (e2 modD f g) := DE.bin op_modN (op2_int fun _ _ h => by simpa using h) ha hb
def fdivD : D → D → Option D := gI (fun _ j => j != 0 && decide (j.natAbs < 1073741824)) (fun i j => i.fdiv j)
theorem DE.fdiv (ha : DE X W q1 a f) (hb : DE X W q2 b g) : DE X W (q1 && q2) (.BinOp a .FloorDiv b pos) (e2 fdivD f g) := DE.bin op_fdivN (op2_int (P := CDivN) fun i j h => by unfold CDivN; simpa using h) ha hb
end
end Dl

set_option linter.all false
set_option maxRecDepth 100000
namespace Dl
open PySem L2
section
variable {K : PySem.W.Frag} {κ : Fr} {ρ : List (Option D)} {τ : List Tm} {vs : List V} {σ : St} {H Z : Hp} {a b c d : D} {u v w : V}
theorem op2_pure {r : R2} {g : D → D → Option D} (h : ∀ (Z : Hp) (C1 C2 : List Addr) (σ : St) (H : Hp) (va vb : V) (a b c : D) (Q : VK), Same Z H → O K H Z a va C1 → O K H Z b vb C2 → g a b = some c → ((∀ H', Same H H' → ∀ v, (∀ Z, O K H' Z c v []) → H' = H → Q v H')) → r va vb H Q) : Op2 K true r g := by
  intro κ ρ τ vs σ H ta tb va vb a b c Q st ea eb e k
  obtain ⟨Z, A, B, C1, C2, cc, tt, gg, o1, o2, zz⟩ := st.opn2 eb ea
  exact h Z C2 C1 σ H va vb a b c Q zz o2 o1 e fun H' s v o eh => by subst eh; exact k v _ (.mk cc tt gg (o Z)) fun _ => s
end
section
variable {X : Cx} {W : WX} {q q1 q2 q3 : Bool} {a b c e : Expr} {f g h : Cm Tm} {pos : Pos}

noncomputable def mulI : D → D → Option D := gI (fun i j => @decide ((-18446744073709551616 < i ∧ i < 18446744073709551616) ∨ (-18446744073709551616 < j ∧ j < 18446744073709551616)) (Classical.propDecidable _)) (fun i j => i * j)
theorem op2_mulI {K : PySem.W.Frag} : Op2 K true (rI CMul fun i j => .int (i * j)) mulI := op2_int (P := CMul) fun i j h => by unfold CMul; simpa using h
def repL {α : Type} (l : List α) (n : Int) : List α := (List.replicate n.toNat l).flatten
def mulS : D → D → Option D
  | .str l, .int n => if l.length ≤ 4096 ∧ n ≤ 4096 ∧ -4096 ≤ n then some (.str (repL l n)) else none
  | _, _ => none
def rMulS : R2 := fun x y H Q => ∃ (l : List Nat) (n : Int), x = .str ⟨l.toArray⟩ ∧ y = .int n ∧ (l.length ≤ 4096 ∧ n ≤ 4096 ∧ -4096 ≤ n) ∧ Q (.str ⟨(repL l n).toArray⟩) H
theorem fold_rep (l : List Nat) : ∀ (k : Nat) (acc : Array Nat), ((List.replicate k l.toArray).foldl (· ++ ·) acc).toList = acc.toList ++ (List.replicate k l).flatten
  | 0, acc => by simp
  | k + 1, acc => by
    simp only [List.replicate_succ, List.foldl_cons, List.flatten_cons]
    rw [fold_rep l k]
    simp
theorem txt_mul (l : List Nat) (n : Int) : PySem.Txt.mul ⟨l.toArray⟩ n = ⟨(repL l n).toArray⟩ := by
  unfold PySem.Txt.mul repL
  by_cases h1 : n < 1
  · rw [if_pos h1]
    have e : n.toNat = 0 := by omega
    rw [e]
    rfl
  · rw [if_neg h1]
    by_cases h2 : (n == 1 || (⟨l.toArray⟩ : Str).length == 0) = true
    · rw [if_pos h2]
      rw [str_len] at h2
      simp only [Bool.or_eq_true, beq_iff_eq] at h2
      rcases h2 with rfl | h2
      · simp
      · have e : l = [] := List.length_eq_zero_iff.mp h2
        subst e
        simp
    · rw [if_neg h2]
      have e := fold_rep l n.toNat #[]
      simp only [List.nil_append] at e
      have e2 : (List.replicate n.toNat l.toArray).foldl (· ++ ·) #[] = ((List.replicate n.toNat l).flatten).toArray := by
        apply Array.toList_inj.mp
        simpa using e
      show (⟨(List.replicate n.toNat l.toArray).foldl (· ++ ·) #[]⟩ : Str) = _
      rw [e2]
theorem op_mulS : OpR X (binaryOp .Mult) rMulS := by
  intro pins s σ H x y v u Q I rx ry hh
  obtain ⟨l, n, rfl, rfl, ⟨h1, h2, h3⟩, q⟩ := hh
  obtain ⟨t, rfl⟩ := rx
  obtain ⟨t', rfl⟩ := ry
  refine PySem.SB.mul ⟨?_, fun h4 h5 => ?_, fun h4 h5 => ?_⟩ fun t'' k => ?_
  · rw [decide_eq_false (by omega), decide_eq_false (by omega)]; rfl
  · rw [str_len]
    have : (4096 : Int) ≤ (2 ^ 63 - 1) / n := by
      apply (Int.le_ediv_iff_mul_le (by omega)).mpr
      omega
    omega
  · rw [str_len]
    have e : l.length * n.toNat ≤ 4096 * 4096 := Nat.mul_le_mul h1 (by omega)
    unfold Builtin.Str.tooLong
    rw [sizeLine_eq]
    exact decide_eq_false (by omega)
  · rw [txt_mul]
    exact ⟨.str _, H, I.tok _, ⟨_, rfl⟩, q⟩
theorem op2_mulS {K : PySem.W.Frag} : Op2 K true rMulS mulS := op2_pure fun Z C1 C2 σ H va vb a b c Q zz o1 o2 e k => by
  unfold mulS at e
  split at e
  · rename_i l n
    split at e
    · rename_i hc
      cases e
      exact ⟨l, n, o1.strV, o2.intV, hc, k H (Same.refl H) _ (fun Z => .str _) rfl⟩
    · cases e
  · cases e
def mulL : D → D → Option D
  | .lst _ l, .int n => if D.owns l = false ∧ -1000000 ≤ n ∧ n ≤ 1000000 ∧ l.length * n.toNat ≤ sizeLine then some (.lst true (repL l n)) else none
  | _, _ => none
section
variable {K : PySem.W.Frag} {H Z : Hp}
theorem Os.rep {l : List D} {xs : List V} (o : Os K H Z l xs []) : ∀ n, Os K H Z (List.replicate n l).flatten (List.replicate n xs).flatten []
  | 0 => .nil
  | n + 1 => by
    simp only [List.replicate_succ, List.flatten_cons]
    exact o.append (Os.rep o n)
end
theorem op2_mulL {K : PySem.W.Frag} : Op2 K true rRep mulL := by
  intro κ ρ τ vs σ H ta tb va vb a b c Q st ea eb e k
  obtain ⟨Z, A, B, C1, C2, cc, tt, gg, o1, o2, zz⟩ := st.opn2 eb ea
  unfold mulL at e
  split at e
  · rename_i o1' l n
    split at e
    · rename_i hc
      cases e
      obtain ⟨p, xs, rfl, hp, D1, q1⟩ := o2.listV zz
      have r1 := q1.nil_of hc.1
      refine ⟨p, n, xs, rfl, o1.intV, hp, by omega, by omega, by rw [r1.length]; exact hc.2.2.2, fun r hr => k _ _ (.mkLst cc tt gg (r1.rep n.toNat) hr) fun _ => Same_new hr⟩
    · cases e
  · cases e
noncomputable def mulD : D → D → Option D := fun a b => (mulI a b).or ((mulS a b).or (mulL a b))
theorem DE.mul (ha : DE X W q1 a f) (hb : DE X W q2 b g) : DE X W (q1 && q2) (.BinOp a .Mult b pos) (e2 mulD f g) := DE.bin (op_mul.or (op_mulS.or op_rep)) (op2_mulI.or (op2_mulS.or op2_mulL)) ha hb
def powD : D → D → Option D := gI (fun i j => decide (0 ≤ j) && decide (j ≤ 1000000) && decide (i.natAbs < 18446744073709551616)) (fun i j => i ^ j.toNat)
theorem DE.pow (ha : DE X W q1 a f) (hb : DE X W q2 b g) : DE X W (q1 && q2) (.BinOp a .Pow b pos) (e2 powD f g) := DE.bin op_pow (op2_int (P := CPow) fun i j h => by unfold CPow; simpa [and_assoc] using h) ha hb
def shlD : D → D → Option D := gI (fun i j => decide (0 ≤ j) && decide (j ≤ 1000000) && decide (i.natAbs < 18446744073709551616)) (fun i j => i * 2 ^ j.toNat)
theorem DE.shl (ha : DE X W q1 a f) (hb : DE X W q2 b g) : DE X W (q1 && q2) (.BinOp a .LShift b pos) (e2 shlD f g) := DE.bin op_shl (op2_int (P := CPow) fun i j h => by unfold CPow; simpa [and_assoc] using h) ha hb
def shrD : D → D → Option D := gI (fun _ j => decide (0 ≤ j)) (fun i j => i / 2 ^ j.toNat)
theorem DE.shr (ha : DE X W q1 a f) (hb : DE X W q2 b g) : DE X W (q1 && q2) (.BinOp a .RShift b pos) (e2 shrD f g) := DE.bin op_shr (op2_int fun _ _ h => by simpa using h) ha hb
def bandD : D → D → Option D := gI (fun _ _ => true) Builtin.bitAnd
theorem DE.band (ha : DE X W q1 a f) (hb : DE X W q2 b g) : DE X W (q1 && q2) (.BinOp a .BitAnd b pos) (e2 bandD f g) := DE.bin op_and op2_int0 ha hb
def eNeg (f : Cm Tm) : Cm Tm := fun ρ => (f ρ).bind fun t ρ1 => match look ρ1 t with
  | some (.int n) => .ok (.v (.int (-n))) ρ1
  | _ => .bad
theorem DE.neg (ha : DE X W q a f) : DE X W q (.UnaryOp .USub a pos) (eNeg f) := by
  refine PE.imp (pe_un un_neg ha) fun σ H Q ⟨κ, ρ, τ, vs, st, w⟩ => ?_
  refine ⟨κ, ρ, τ, vs, st, Out.wp_mono (Out.wp_bind w) (fun t ρ1 w1 v H1 st1 k1 => ?_) fun _ _ z => z⟩
  try dsimp only at w1
  split at w1
  · rename_i n hn
    obtain ⟨Z, A, B, C1, cc, tt, gg, o1, zz⟩ := st1.opn hn
    exact ⟨n, o1.intV, w1 _ H1 (.mk cc tt gg (.int _)) k1⟩
  · exact w1.elim

def cI (p : Int → Int → Bool) : D → D → Option D
  | .int i, .int j => some (.bl (p i j))
  | _, _ => none
def cS (p : List Nat → List Nat → Bool) : D → D → Option D
  | .str i, .str j => some (.bl (p i j))
  | _, _ => none
theorem op2_cI {K : PySem.W.Frag} {p : Int → Int → Bool} : Op2 K true (rI0 fun i j => .bl (p i j)) (cI p) := op2_pure fun Z C1 C2 σ H va vb a b c Q zz o1 o2 e k => by
  unfold cI at e
  split at e
  · rename_i i j
    cases e
    exact ⟨i, j, o1.intV, o2.intV, k H (Same.refl H) _ (fun Z => .bl _) rfl⟩
  · cases e
theorem op2_cS {K : PySem.W.Frag} {p : List Nat → List Nat → Bool} : Op2 K true (fun x y H Q => ∃ i j, x = .str i ∧ y = .str j ∧ Q (.bl (p i.cps.toList j.cps.toList)) H) (cS p) := op2_pure fun Z C1 C2 σ H va vb a b c Q zz o1 o2 e k => by
  unfold cS at e
  split at e
  · rename_i i j
    cases e
    exact ⟨_, _, o1.strV, o2.strV, k H (Same.refl H) _ (fun Z => .bl _) rfl⟩
  · cases e
def ltD : D → D → Option D := fun a b => (cI (fun i j => decide (i < j)) a b).or (cS (fun i j => decide (i < j)) a b)
def leD : D → D → Option D := fun a b => (cI (fun i j => decide (i ≤ j)) a b).or (cS (fun i j => !decide (j < i)) a b)
def gtD : D → D → Option D := fun a b => (cI (fun i j => decide (j < i)) a b).or (cS (fun i j => decide (j < i)) a b)
def geD : D → D → Option D := fun a b => (cI (fun i j => decide (j ≤ i)) a b).or (cS (fun i j => !decide (i < j)) a b)
theorem DE.lt (ha : DE X W q1 a f) (hb : DE X W q2 b g) : DE X W (q1 && q2) (.Compare a [.Lt] [b] pos) (e2 ltD f g) := DE.cmp (op_lt.or op_lt_str) (op2_cI.or op2_cS) ha hb (nomark _)
theorem DE.gt (ha : DE X W q1 a f) (hb : DE X W q2 b g) : DE X W (q1 && q2) (.Compare a [.Gt] [b] pos) (e2 gtD f g) := DE.cmp (op_gt.or op_gt_str) (op2_cI.or op2_cS) ha hb (nomark _)
theorem DE.le (ha : DE X W q1 a f) (hb : DE X W q2 b g) : DE X W (q1 && q2) (.Compare a [.LtE] [b] pos) (e2 leD f g) := DE.cmp (op_le.or op_le_str) (op2_cI.or op2_cS) ha hb (nomark _)
theorem DE.ge (ha : DE X W q1 a f) (hb : DE X W q2 b g) : DE X W (q1 && q2) (.Compare a [.GtE] [b] pos) (e2 geD f g) := DE.cmp (op_ge.or op_ge_str) (op2_cI.or op2_cS) ha hb (nomark _)
theorem DT.lt (ha : DE X W q1 a f) (hb : DE X W q2 b g) : DT X W (.Compare a [.Lt] [b] pos) (toB (e2 ltD f g)) := DT.cmp (op_lt.or op_lt_str) (op2_cI.or op2_cS) ha hb (nomark _)
theorem DT.gt (ha : DE X W q1 a f) (hb : DE X W q2 b g) : DT X W (.Compare a [.Gt] [b] pos) (toB (e2 gtD f g)) := DT.cmp (op_gt.or op_gt_str) (op2_cI.or op2_cS) ha hb (nomark _)
theorem DT.le (ha : DE X W q1 a f) (hb : DE X W q2 b g) : DT X W (.Compare a [.LtE] [b] pos) (toB (e2 leD f g)) := DT.cmp (op_le.or op_le_str) (op2_cI.or op2_cS) ha hb (nomark _)
theorem DT.ge (ha : DE X W q1 a f) (hb : DE X W q2 b g) : DT X W (.Compare a [.GtE] [b] pos) (toB (e2 geD f g)) := DT.cmp (op_ge.or op_ge_str) (op2_cI.or op2_cS) ha hb (nomark _)
def scD : D → D → Option Bool
  | .int i, .int j => some (decide (i = j))
  | .str i, .str j => some (decide (i = j))
  | .bl i, .bl j => some (decide (i = j))
  | .non, .non => some true
  | .int _, .str _ => some false
  | .str _, .int _ => some false
  | .int _, .non => some false
  | .non, .int _ => some false
  | .str _, .non => some false
  | .non, .str _ => some false
  | _, _ => none
def eqS (n : Bool) : D → D → Option D := fun a b => (scD a b).map fun k => .bl (k ^^ n)
def deepOk (a b : D) : Prop := a.pl = true ∧ b.pl = true ∧ a.dep ≤ 64 ∧ b.dep ≤ 64
instance (a b : D) : Decidable (deepOk a b) := by unfold deepOk; exact inferInstance
def eqP (n : Bool) : D → D → Option D := fun a b => if deepOk a b then some (.bl (eqD a b ^^ n)) else none
def eqDD (n : Bool) : D → D → Option D := fun a b => (eqS n a b).or (eqP n a b)
theorem str_eq_iff (i j : List Nat) : decide (V.str ⟨i.toArray⟩ = V.str ⟨j.toArray⟩) = decide (i = j) := by
  by_cases h : i = j
  · subst h; simp
  · rw [decide_eq_false h]
    apply decide_eq_false
    intro e
    injection e with e
    injection e with e
    exact h (by simpa using e)
theorem eqS_ok {a b c : D} {n : Bool} {K : PySem.W.Frag} {H Z : Hp} {va vb : V} {C1 C2 : List Addr} (o1 : O K H Z a va C1) (o2 : O K H Z b vb C2) (e : eqS n a b = some c) : scal va vb = true ∧ c = .bl ((decide (va = vb)) ^^ n) := by
  unfold eqS scD at e
  split at e <;> simp only [Option.map_some, Option.map_none, Option.some.injEq, reduceCtorEq] at e
  · rw [o1.intV, o2.intV]; subst e; simp [scal]
  · rw [o1.strV, o2.strV, str_eq_iff]; subst e; simp [scal]
  · rw [o1.blV, o2.blV]; subst e; simp [scal]
  · rw [o1.nonV, o2.nonV]; subst e; simp [scal]
  · rw [o1.intV, o2.strV]; subst e; simp [scal]
  · rw [o1.strV, o2.intV]; subst e; simp [scal]
  · rw [o1.intV, o2.nonV]; subst e; simp [scal]
  · rw [o1.nonV, o2.intV]; subst e; simp [scal]
  · rw [o1.strV, o2.nonV]; subst e; simp [scal]
  · rw [o1.nonV, o2.strV]; subst e; simp [scal]
theorem op2_eqS {K : PySem.W.Frag} : Op2 K true rEq (eqS false) := op2_pure fun Z C1 C2 σ H va vb a b c Q zz o1 o2 e k => by
  obtain ⟨h1, rfl⟩ := eqS_ok o1 o2 e
  exact ⟨h1, by simpa using k H (Same.refl H) (.bl (decide (va = vb))) (fun Z => by simpa using O.bl _) rfl⟩
theorem op2_neS {K : PySem.W.Frag} : Op2 K true rNe (eqS true) := op2_pure fun Z C1 C2 σ H va vb a b c Q zz o1 o2 e k => by
  obtain ⟨h1, rfl⟩ := eqS_ok o1 o2 e
  exact ⟨h1, by simpa using k H (Same.refl H) (.bl (!decide (va = vb))) (fun Z => by simpa using O.bl _) rfl⟩
theorem op2_eqP {K : PySem.W.Frag} : Op2 K true (rEqD K) (eqP false) := op2_pure fun Z C1 C2 σ H va vb a b c Q zz o1 o2 e k => by
  unfold eqP at e
  split at e
  · rename_i hd
    cases e
    exact ⟨a.P, b.P, o1.dp zz hd.1, o2.dp zz hd.2.1, shaped_P hd.1 hd.2.2.1, shaped_P hd.2.1 hd.2.2.2, k H (Same.refl H) _ (fun Z => by simpa [eqD] using O.bl (PyData.eqv a.P b.P)) rfl⟩
  · cases e
theorem op2_neP {K : PySem.W.Frag} : Op2 K true (rNeD K) (eqP true) := op2_pure fun Z C1 C2 σ H va vb a b c Q zz o1 o2 e k => by
  unfold eqP at e
  split at e
  · rename_i hd
    cases e
    exact ⟨a.P, b.P, o1.dp zz hd.1, o2.dp zz hd.2.1, shaped_P hd.1 hd.2.2.1, shaped_P hd.2.1 hd.2.2.2, k H (Same.refl H) _ (fun Z => by simpa [eqD] using O.bl _) rfl⟩
  · cases e
theorem DE.eq (hu : X.A.units + 64 < cLine) (ha : DE X W q1 a f) (hb : DE X W q2 b g) : DE X W (q1 && q2) (.Compare a [.Eq] [b] pos) (e2 (eqDD false) f g) := DE.cmp (op_eq.or (op_eqD hu)) (op2_eqS.or op2_eqP) ha hb (nomark _)
theorem DE.ne (hu : X.A.units + 64 < cLine) (ha : DE X W q1 a f) (hb : DE X W q2 b g) : DE X W (q1 && q2) (.Compare a [.NotEq] [b] pos) (e2 (eqDD true) f g) := DE.cmp (op_ne.or (op_neD hu)) (op2_neS.or op2_neP) ha hb (nomark _)
theorem DT.eq (hu : X.A.units + 64 < cLine) (ha : DE X W q1 a f) (hb : DE X W q2 b g) : DT X W (.Compare a [.Eq] [b] pos) (toB (e2 (eqDD false) f g)) := DT.cmp (op_eq.or (op_eqD hu)) (op2_eqS.or op2_eqP) ha hb (nomark _)
theorem DT.ne (hu : X.A.units + 64 < cLine) (ha : DE X W q1 a f) (hb : DE X W q2 b g) : DT X W (.Compare a [.NotEq] [b] pos) (toB (e2 (eqDD true) f g)) := DT.cmp (op_ne.or (op_neD hu)) (op2_neS.or op2_neP) ha hb (nomark _)
def isN (n : Bool) : D → D → Option D := fun a b => match b with
  | .non => match a with
    | .hol _ => none
    | .non => some (.bl (!n))
    | _ => some (.bl n)
  | _ => none
theorem isN_ok {a b c : D} {n : Bool} {K : PySem.W.Frag} {H Z : Hp} {va vb : V} {C1 C2 : List Addr} (o1 : O K H Z a va C1) (o2 : O K H Z b vb C2) (e : isN n a b = some c) : vb = .non ∧ c = .bl ((decide (va = .non)) ^^ n) := by
  unfold isN at e
  split at e
  · refine ⟨o2.nonV, ?_⟩
    cases o1 <;> simp at e <;> first | exact (by subst e; simp) | exact absurd e (by simp)
  · cases e
theorem op2_isN {K : PySem.W.Frag} : Op2 K true (fun x y H Q => y = .non ∧ Q (.bl (decide (x = .non))) H) (isN false) := op2_pure fun Z C1 C2 σ H va vb a b c Q zz o1 o2 e k => by
  obtain ⟨h1, rfl⟩ := isN_ok o1 o2 e
  exact ⟨h1, by simpa using k H (Same.refl H) (.bl (decide (va = .non))) (fun Z => by simpa using O.bl _) rfl⟩
theorem op2_notN {K : PySem.W.Frag} : Op2 K true (fun x y H Q => y = .non ∧ Q (.bl (!decide (x = .non))) H) (isN true) := op2_pure fun Z C1 C2 σ H va vb a b c Q zz o1 o2 e k => by
  obtain ⟨h1, rfl⟩ := isN_ok o1 o2 e
  exact ⟨h1, by simpa using k H (Same.refl H) (.bl (!decide (va = .non))) (fun Z => by simpa using O.bl _) rfl⟩
theorem DE.isN (ha : DE X W q1 a f) (hb : DE X W q2 b g) : DE X W (q1 && q2) (.Compare a [.Is] [b] pos) (e2 (isN false) f g) := DE.cmp op_isN op2_isN ha hb (nomark _)
theorem DE.notN (ha : DE X W q1 a f) (hb : DE X W q2 b g) : DE X W (q1 && q2) (.Compare a [.IsNot] [b] pos) (e2 (Dl.isN true) f g) := DE.cmp op_notN op2_notN ha hb (nomark _)
theorem DT.isN (ha : DE X W q1 a f) (hb : DE X W q2 b g) : DT X W (.Compare a [.Is] [b] pos) (toB (e2 (Dl.isN false) f g)) := DT.cmp op_isN op2_isN ha hb (nomark _)
theorem DT.notN (ha : DE X W q1 a f) (hb : DE X W q2 b g) : DT X W (.Compare a [.IsNot] [b] pos) (toB (e2 (Dl.isN true) f g)) := DT.cmp op_notN op2_notN ha hb (nomark _)
def eChain (p p' : Int → Int → Bool) (f g h : Cm Tm) : Cm Tm := fun ρ => (f ρ).bind fun ta ρ1 => (g ρ1).bind fun tb ρ2 => match look ρ2 ta, look ρ2 tb with
  | some (.int i), some (.int j) => if p i j = true then (h ρ2).bind fun tc ρ3 => match look ρ3 tc with
      | some (.int k) => .ok (.v (.bl (p' j k))) ρ3
      | _ => .bad
    else .ok (.v (.bl false)) ρ2
  | _, _ => .bad
theorem chain_imp {K : PySem.W.Frag} {p p' : Int → Int → Bool} {σ : St} {H : Hp} {Q : VK} (hh : tD K W false (eChain p p' f g h) σ H Q) : tChain (rI0 fun i j => .bl (p i j)) (rI0 fun i j => .bl (p' i j)) (tD K W q1 f) (tD K W q2 g) (tD K W q3 h) σ H Q := by
  obtain ⟨κ, ρ, τ, vs, st, w⟩ := hh
  refine ⟨κ, ρ, τ, vs, st, Out.wp_mono (Out.wp_bind w) (fun ta ρ1 w1 v H1 st1 k1 => ?_) fun _ _ z => z⟩
  refine ⟨κ, ρ1, ta :: τ, v :: vs, st1, Out.wp_mono (Out.wp_bind w1) (fun tb ρ2 w2 u H2 st2 k2 => ?_) fun e ρ2 z H2 d s2 eo => z H2 d s2.pop eo⟩
  try dsimp only at w2
  split at w2
  · rename_i i j ea eb
    obtain ⟨Z, A, B, C1, C2, cc, tt, gg, o1, o2, zz⟩ := st2.opn2 eb ea
    refine ⟨i, j, o2.intV, o1.intV, p i j, rfl, ?_⟩
    by_cases hp : p i j = true
    · rw [if_pos hp] at w2 ⊢
      refine ⟨κ, ρ2, τ, vs, st2.pop2, Out.wp_mono (Out.wp_bind w2) (fun tc ρ3 w3 x H3 st3 k3 => ?_) fun _ _ z => z⟩
      try dsimp only at w3
      split at w3
      · rename_i k ec
        obtain ⟨Z, A, B, C3, cc, tt, gg, o3, zz⟩ := st3.opn ec
        exact ⟨j, k, o1.intV, o3.intV, w3 _ H3 (.mk cc tt gg (.bl _)) fun z => nomatch z⟩
      · exact w3.elim
    · rw [if_neg hp] at w2 ⊢
      exact w2 _ H2 (st2.pop2.pushB _) fun z => nomatch z
  · exact w2.elim
def pLt (i j : Int) : Bool := decide (i < j)
def pLe (i j : Int) : Bool := decide (i ≤ j)
theorem DE.chain {o o' : CmpOp} {p p' : Int → Int → Bool} (ho : OpR X (compareOp o) (rI0 fun i j => .bl (p i j))) (ho' : OpR X (compareOp o') (rI0 fun i j => .bl (p' i j))) (ha : DE X W q1 a f) (hb : DE X W q2 b g) (hc : DE X W q3 c h)
    (hm : lastMarks [o, o'] [b, c] = false := by with_unfolding_all rfl) : DE X W false (.Compare a [o, o'] [b, c] pos) (eChain p p' f g h) := PE.imp (pe_chain ho ho' ha hb hc hm) fun _ _ _ hh => chain_imp hh
theorem DT.chain {o o' : CmpOp} {p p' : Int → Int → Bool} (ho : OpR X (compareOp o) (rI0 fun i j => .bl (p i j))) (ho' : OpR X (compareOp o') (rI0 fun i j => .bl (p' i j))) (ha : DE X W q1 a f) (hb : DE X W q2 b g) (hc : DE X W q3 c h)
    (hm : lastMarks [o, o'] [b, c] = false := by with_unfolding_all rfl) : DT X W (.Compare a [o, o'] [b, c] pos) (toB (eChain p p' f g h)) := by
  refine PT.imp (pt_chain ho ho' ha hb hc hm) fun σ H Q ⟨κ, ρ, τ, vs, st, w⟩ => ?_
  show tChain _ _ _ _ _ σ H _
  refine chain_imp ⟨κ, ρ, τ, vs, st, Out.wp_mono (Out.wp_bind w) (fun t ρ1 w1 v H1 st1 k1 => ?_) fun _ _ z => z⟩
  try dsimp only at w1
  split at w1
  · rename_i b
    have e := st1.bl
    subst e
    exact ⟨b, rfl, w1 H1 st1.pop⟩
  · exact w1.elim
theorem pOpLt : OpR X (compareOp .Lt) (rI0 fun i j => .bl (pLt i j)) := op_lt
theorem pOpLe : OpR X (compareOp .LtE) (rI0 fun i j => .bl (pLe i j)) := op_le
end
end Dl

set_option linter.all false
set_option maxRecDepth 100000
namespace Dl
open PySem L2

def keyEq : D → D → Bool
  | .int i, .int j => decide (i = j)
  | .str i, .str j => decide (i = j)
  | _, _ => false
def D.isKey : D → Bool
  | .int _ => true
  | .str _ => true
  | _ => false
def dget : List D → List D → D → Option D
  | k :: ks, v :: vs, x => if keyEq k x then some v else dget ks vs x
  | _, _, _ => none
def dputV : List D → List D → D → D → List D
  | k :: ks, v :: vs, x, y => (if keyEq k x then y else v) :: dputV ks vs x y
  | _, _, _, _ => []
def dhas (ks : List D) (x : D) : Bool := ks.any fun k => keyEq k x
def toKey : D → Key
  | .int i => .inl i
  | .str l => .inr ⟨l.toArray⟩
  | _ => .inl 0
theorem keyD_toKey {d : D} (h : d.isKey = true) : keyD (toKey d) = d := by
  cases d <;> simp [D.isKey] at h <;> simp [toKey, keyD]
theorem toKey_keyD (k : Key) : toKey (keyD k) = k := by
  cases k with
  | inl i => rfl
  | inr x => simp [keyD, toKey]
theorem keyEq_key (k : Key) {d : D} (h : d.isKey = true) : keyEq (keyD k) d = decide (k = toKey d) := by
  cases k with
  | inl i =>
    cases d <;> simp [D.isKey] at h
    · simp [keyD, keyEq, toKey]
    · simp [keyD, keyEq, toKey]
  | inr x =>
    cases d <;> simp [D.isKey] at h
    · simp [keyD, keyEq, toKey]
    · rename_i l
      have e : (x = ⟨l.toArray⟩) ↔ x.cps.toList = l := by
        constructor
        · intro q; rw [q]
        · intro q; subst q; cases x; simp
      simp only [keyD, keyEq, toKey, Sum.inr.injEq, decide_eq_decide]
      exact e.symm
section
variable {K : PySem.W.Frag} {κ : Fr} {ρ : List (Option D)} {τ : List Tm} {vs : List V} {σ : St} {H Z : Hp} {a b c d : D} {u v w : V}
theorem O.keyV {C : List Addr} (h : O K H Z d v C) (k : d.isKey = true) : v = kV (toKey d) := by
  cases h <;> simp [D.isKey] at k <;> rfl
theorem dget_kvs {k : D} (hk : k.isKey = true) : ∀ {kvs : List (Key × V)} {ds : List D} {C : List Addr}, Os K H Z ds (kvs.map Prod.snd) C →
    match dget (kvs.map fun p => keyD p.1) ds k with
    | some d => ∃ v C', valV kvs (toKey k) = some v ∧ O K H Z d v C' ∧ ∀ a ∈ C', a ∈ C
    | none => valV kvs (toKey k) = none
  | [], ds, C, h => by simp [dget, valV]
  | (k', x) :: kvs, _, _, .cons h1 h2 => by
    simp only [List.map_cons, dget]
    rw [keyEq_key _ hk]
    by_cases e : k' = toKey k
    · simp only [decide_eq_true e, if_true]
      exact ⟨x, _, valV_pos e, h1, fun a q => List.mem_append_left _ q⟩
    · simp only [decide_eq_false e, Bool.false_eq_true, if_false]
      have ih := dget_kvs hk h2
      rw [valV_neg e]
      split at ih
      · obtain ⟨v, C', q1, q2, q3⟩ := ih
        exact ⟨v, C', q1, q2, fun a q => List.mem_append_right _ (q3 a q)⟩
      · exact ih
theorem dhas_kvs {k : D} (hk : k.isKey = true) (kvs : List (Key × V)) : dhas (kvs.map fun p => keyD p.1) k = (valV kvs (toKey k)).isSome := by
  rw [← valV_any]
  unfold dhas
  rw [List.any_map]
  congr 1
  funext p
  exact keyEq_key _ hk
theorem O.dicV {ks vs : List D} {o : Bool} {C : List Addr} (zz : Same Z H) (h : O K H Z (.dic o ks vs) v C) : ∃ p kvs, v = .ref p ∧ H p = some (.dK kvs) ∧ ks = kvs.map (fun p => keyD p.1) ∧ ∃ C2, Os K H Z vs (kvs.map Prod.snd) C2 := by
  cases h with
  | dsh h1 h2 =>
    obtain ⟨kvs, e1, e2, e3⟩ := h1
    subst e3
    exact ⟨_, kvs, rfl, zz _ _ e1, e2, _, h2⟩
  | dic h1 _ h2 =>
    obtain ⟨kvs, e1, e2, e3⟩ := h1
    subst e3
    exact ⟨_, kvs, rfl, e1, e2, _, h2⟩
end

def plainD (d : Option D) : Option D := d.bind fun d => if d.own then none else some d
def ixD : D → D → Option D
  | .lst _ l, .int i => plainD (atI l i)
  | .tup l, .int i => plainD (atI l i)
  | .str l, .int i => if l.length ≤ sizeLine then (atI l i).map fun c => .str [c] else none
  | .dic _ ks vs, k => if k.isKey then plainD (dget ks vs k) else none
  | _, _ => none
theorem atI_map {α β : Type} {xs : List α} {ds : List β} {i : Int} {d : β} (hl : xs.length = ds.length) (h : atI ds i = some d) : ∃ (j : Nat) (x : α), ds[j]? = some d ∧ xs[j]? = some x ∧ atI xs i = some x := by
  unfold atI at h ⊢
  rw [hl]
  obtain ⟨j, e1, e2⟩ := Option.bind_eq_some_iff.mp h
  have hj := (List.getElem?_eq_some_iff.mp e2).1
  have hx : xs[j]? = some (xs[j]'(by omega)) := List.getElem?_eq_getElem (by omega)
  exact ⟨j, _, e2, hx, by rw [e1]; exact hx⟩
section
variable {X : Cx} {W : WX} {q q1 q2 q3 : Bool} {a b c e : Expr} {f g h : Cm Tm} {pos : Pos}
def rDk (K : PySem.W.Frag) : R2 := fun x y H Q => ∃ (p : Addr) (kvs : List (Key × V)) (k : Key) (v : V), x = .ref p ∧ y = kV k ∧ H p = some (.dK kvs) ∧ valV kvs k = some v ∧ Q v H
open PyProof.Rows in
theorem ix_dk (hu : X.A.units + 1 < cLine) : IxR X (rDk X.K) := by
  intro value slice pins s σ H x y v u Q I rx ry hh hs
  obtain ⟨p, kvs, k, z, rfl, rfl, hp, hv, q⟩ := hh
  cases rx
  have g : DGet H p (kV k) (some z) := by rw [← hv]; exact .k hp
  have hT := dict_typeIs I g
  unfold PyProof.Rows.subscriptTail
  refine wpAny_bind ?_
  rw [getitemInPython_of_ne hT.not_modules]
  have fin : wpAny (model X.prog X.w) X.A (subscripted slice false (.ref p) u) (fun r s3 => wpAny (model X.prog X.w) X.A (letTemporaryGo value (.ref p) r >>= fun _ => pure r) (EP X pins σ Q) X.xe s3) X.xe s := by
    rw [hs]
    exact wpAny_operating (d_getItem hu I g ry fun w' s3 I3 rw' => wpAny_bind (wpAny_letTemporaryGo (wpAny_pure ⟨z, H, I3, rw', q⟩)))
  refine wpAny_bind (wpAny_specialOf hT PySem.F.slot_dict_getitem.lookup ?_)
  first
    | exact wpAny_pure (wpAny_bind fin)
    | exact wpAny_bind (wpAny_pure (wpAny_bind fin))
    | exact wpAny_bind fin
theorem op2_ix {K : PySem.W.Frag} : Op2 K true (fun x y H Q => rIx K x y H Q ∨ rDk K x y H Q) ixD := by
  intro κ ρ τ vs σ H ta tb va vb a b c Q st ea eb e k
  obtain ⟨Z, A, B, C1, C2, cc, tt, gg, o1, o2, zz⟩ := st.opn2 eb ea
  have take : ∀ {o : Option D}, plainD o = some c → o = some c ∧ c.own = false := fun {o} h => by
    unfold plainD at h
    obtain ⟨d, h1, h2⟩ := Option.bind_eq_some_iff.mp h
    split at h2
    · cases h2
    · rename_i n
      cases h2
      exact ⟨h1, by simpa using n⟩
  unfold ixD at e
  split at e
  · rename_i o l i
    obtain ⟨e1, n⟩ := take e
    obtain ⟨p, xs, rfl, hp, D1, q1⟩ := o2.listV zz
    obtain ⟨j, x, ed, ex, ei⟩ := atI_map q1.length e1
    obtain ⟨y, C, ey, oy, _⟩ := q1.at ed
    rw [ex] at ey
    cases ey
    have z := oy.noown n
    subst z
    exact .inl (.inl ⟨p, xs, i, x, rfl, o1.intV, .of hp, ei, k _ H (.mk cc tt gg oy) fun _ => Same.refl H⟩)
  · rename_i l i
    obtain ⟨e1, n⟩ := take e
    obtain ⟨p, xs, rfl, hp, q1⟩ := o2.tupV zz
    obtain ⟨j, x, ed, ex, ei⟩ := atI_map q1.length e1
    obtain ⟨y, C, ey, oy, _⟩ := q1.at ed
    rw [ex] at ey
    cases ey
    have z := oy.noown n
    subst z
    exact .inl (.inr (.inl ⟨p, xs, i, x, rfl, o1.intV, hp, ei, k _ H (.mk cc tt gg oy) fun _ => Same.refl H⟩))
  · rename_i l i
    split at e
    · rename_i hz
      obtain ⟨ch, e1, rfl⟩ := Option.map_eq_some_iff.mp e
      exact .inl (.inr (.inr ⟨_, i, ch, o2.strV, o1.intV, by rw [str_len]; exact hz, by simpa using e1, k _ H (.mk cc tt gg (.str [ch])) fun _ => Same.refl H⟩))
    · cases e
  · rename_i o ks ds
    split at e
    · rename_i hk
      obtain ⟨e1, n⟩ := take e
      obtain ⟨p, kvs, rfl, hp, rfl, D1, q1⟩ := o2.dicV zz
      have g := dget_kvs hk q1
      rw [e1] at g
      obtain ⟨x, C', ex, ox, _⟩ := g
      have z := ox.noown n
      subst z
      exact .inr ⟨p, kvs, toKey _, x, rfl, o1.keyV hk, hp, ex, k _ H (.mk cc tt gg ox) fun _ => Same.refl H⟩
    · cases e
  · cases e
theorem DE.ix (hu : X.A.units + 1 < cLine) (ha : DE X W q1 a f) (hb : DE X W q2 b g) (hs : PlainIx b := by intro _ _; rfl) : DE X W (q1 && q2) (.Subscript a b pos) (e2 ixD f g) :=
  PE.imp (pe_ix (ix_seq.or (ix_dk hu)) ha hb hs) fun _ _ _ h => e2_imp op2_ix h

def tDO (K : PySem.W.Frag) (W : WX) (q : Bool) (f : Cm (Option Int)) : TO := fun σ H Q => ∃ κ ρ τ vs, Stt K κ ρ τ vs σ H ∧
  (f ρ).wp (fun o ρ' => ∀ H', Stt K κ ρ' τ vs σ H' → (q = true → ρ' = ρ ∧ Same H H') → Q o H') (fun e ρ' => ∀ H' d, Stt K κ ρ' τ vs σ H' → ExOk κ H' e d → W (.ref (exA K e.cls)) d σ H')
def DO (X : Cx) (W : WX) (q : Bool) (e : Option Expr) (f : Cm (Option Int)) : Prop := PO X e (tDO X.K W q f)
theorem PO.imp {X : Cx} {e : Option Expr} {t t' : TO} (h : PO X e t) (i : ∀ σ H Q, t' σ H Q → t σ H Q) : PO X e t' := ⟨fun pins s σ H Q I q => h.run pins s σ H Q I (i σ H Q q)⟩
def oNone : Cm (Option Int) := fun ρ => .ok none ρ
def oSome (f : Cm Tm) : Cm (Option Int) := fun ρ => (f ρ).bind fun t ρ1 => match look ρ1 t with
  | some (.int n) => .ok (some n) ρ1
  | _ => .bad
theorem DO.none : DO X W true none oNone := PO.imp po_none fun σ H Q ⟨κ, ρ, τ, vs, st, w⟩ => w H st fun _ => ⟨rfl, Same.refl H⟩
theorem DO.some (h : DE X W q e f) : DO X W q (some e) (oSome f) := by
  refine PO.imp (po_some h) fun σ H Q ⟨κ, ρ, τ, vs, st, w⟩ => ?_
  refine ⟨κ, ρ, τ, vs, st, Out.wp_mono (Out.wp_bind w) (fun t ρ1 w1 v H1 st1 k1 => ?_) fun _ _ z => z⟩
  try dsimp only at w1
  split at w1
  · rename_i n hn
    obtain ⟨Z, A, B, C1, cc, tt, gg, o1, zz⟩ := st1.opn hn
    exact ⟨n, o1.intV, w1 H1 st1.pop k1⟩
  · exact w1.elim
def cutL {α : Type} (l : List α) (lo hi : Option Int) : List α := (l.drop (HT.sIx l.length 0 lo)).take (HT.sIx l.length l.length hi - HT.sIx l.length 0 lo)
def slD (d : D) (lo hi : Option Int) : Option D := match d with
  | .str l => if l.length ≤ sizeLine then some (.str (cutL l lo hi)) else none
  | .lst _ l => if D.owns l then none else some (.lst true (cutL l lo hi))
  | .tup l => if D.owns l then none else some (.tup (cutL l lo hi))
  | .scr l => some (.lst true ((cutL l lo hi).map .int))
  | _ => none
def eSl (f : Cm Tm) (lo hi : Cm (Option Int)) : Cm Tm := fun ρ => (f ρ).bind fun t ρ1 => (lo ρ1).bind fun l ρ2 => (hi ρ2).bind fun h ρ3 => match look ρ3 t with
  | some d => match slD d l h with
    | some r => .ok (.v r) ρ3
    | none => .bad
  | none => .bad
section
variable {K : PySem.W.Frag} {H Z : Hp}
theorem Os.drop : ∀ {l : List D} {xs : List V} (n : Nat), Os K H Z l xs [] → Os K H Z (l.drop n) (xs.drop n) []
  | _, _, 0, h => by simpa using h
  | [], _, n + 1, h => by cases h; simpa using .nil
  | d :: l, _, n + 1, h => by
    generalize hA : ([] : List Addr) = A at h
    cases h with
    | cons h1 h2 =>
      have e := (List.append_eq_nil_iff.mp hA.symm)
      rw [e.2] at h2
      rw [← hA]
      simpa using Os.drop n h2
theorem Os.take : ∀ {l : List D} {xs : List V} (n : Nat), Os K H Z l xs [] → Os K H Z (l.take n) (xs.take n) []
  | _, _, 0, h => by simpa using .nil
  | [], _, n + 1, h => by cases h; simpa using .nil
  | d :: l, _, n + 1, h => by
    generalize hA : ([] : List Addr) = A at h
    cases h with
    | cons h1 h2 =>
      have e := (List.append_eq_nil_iff.mp hA.symm)
      rw [e.1] at h1
      rw [e.2] at h2
      rw [← hA]
      simpa using Os.cons h1 (Os.take n h2)
theorem Os.cut {l : List D} {xs : List V} (lo hi : Option Int) (h : Os K H Z l xs []) : Os K H Z (cutL l lo hi) (cutV xs lo hi) [] := by
  unfold cutL cutV
  rw [h.length]
  exact Os.take _ (Os.drop _ h)
end
def rSl (K : PySem.W.Frag) : V → Option Int → Option Int → Hp → VK → Prop := fun x lo hi H Q => rSlL K x lo hi H Q ∨ rSlA K x lo hi H Q ∨ rSlS x lo hi H Q
theorem sl_any : SlR X (rSl X.K) := sl_list.or (sl_tupA.or sl_str)
theorem cut_all {α : Type} {l : List α} {lo hi : Option Int} (h : HT.sIx l.length 0 lo = 0 ∧ HT.sIx l.length l.length hi = l.length) : cutL l lo hi = l := by
  unfold cutL
  rw [h.1, h.2]
  simp
theorem DE.slice {lo hi : Option Expr} {p2 : Pos} {fl fh : Cm (Option Int)} (ha : DE X W q1 a f) (hl : DO X W q2 lo fl) (hh : DO X W q3 hi fh) : DE X W (q1 && q2 && q3) (.Subscript a (.Slice lo hi none p2) pos) (eSl f fl fh) := by
  refine PE.imp (pe_slice sl_any ha hl hh) fun σ H Q ⟨κ, ρ, τ, vs, st, w⟩ => ?_
  refine ⟨κ, ρ, τ, vs, st, Out.wp_mono (Out.wp_bind w) (fun t ρ1 w1 v H1 st1 k1 => ?_) fun _ _ z => z⟩
  refine ⟨κ, ρ1, t :: τ, v :: vs, st1, Out.wp_mono (Out.wp_bind w1) (fun l ρ2 w2 H2 st2 k2 => ?_) fun e ρ2 z H2 d s2 eo => z H2 d s2.pop eo⟩
  refine ⟨κ, ρ2, t :: τ, v :: vs, st2, Out.wp_mono (Out.wp_bind w2) (fun h ρ3 w3 H3 st3 k3 => ?_) fun e ρ2 z H2 d s2 eo => z H2 d s2.pop eo⟩
  try dsimp only at w3
  split at w3
  · rename_i d hd
    split at w3
    · rename_i r hr
      obtain ⟨Z, A, B, C1, cc, tt, gg, o1, zz⟩ := st3.opn hd
      have kk : (q1 && q2 && q3) = true → ρ3 = ρ ∧ Same H H3 := fun hq => by
        rw [Bool.and_eq_true, Bool.and_eq_true] at hq
        exact ⟨((k3 hq.2).1.trans (k2 hq.1.2).1).trans (k1 hq.1.1).1, ((k1 hq.1.1).2.trans (k2 hq.1.2).2).trans (k3 hq.2).2⟩
      unfold slD at hr
      split at hr
      · rename_i z
        split at hr
        · rename_i hz
          cases hr
          refine .inr (.inr ⟨_, o1.strV, by rw [str_len]; exact hz, ?_⟩)
          have e : cutS ⟨z.toArray⟩ l h = ⟨(cutL z l h).toArray⟩ := by
            unfold cutS cutL
            rw [str_len]
          rw [e]
          exact w3 _ H3 (.mk cc tt gg (.str _)) kk
        · cases hr
      · rename_i o z
        split at hr
        · cases hr
        · rename_i n
          cases hr
          obtain ⟨p, xs, rfl, hp, D1, q1⟩ := o1.listV zz
          have r1 := q1.nil_of (by simpa using n)
          exact .inl ⟨p, xs, rfl, .of hp, fun r hr => w3 _ _ (.mkLst cc tt gg (r1.cut l h) hr) fun hq => ⟨(kk hq).1, (kk hq).2.trans (Same_new hr)⟩⟩
      · rename_i z
        split at hr
        · cases hr
        · rename_i n
          cases hr
          have n' : D.owns z = false := by simpa using n
          have o1' := o1
          have z0 := o1.noown (by simpa [D.own] using n')
          subst z0
          obtain ⟨p, xs, rfl, hp, q1⟩ := o1'.tupV zz
          refine .inr (.inl ⟨p, xs, rfl, hp, fun hw => ?_, fun _ r hr => w3 _ _ (.mkTup cc tt gg (q1.cut l h) hr) fun hq => ⟨(kk hq).1, (kk hq).2.trans (Same_new hr)⟩⟩)
          rw [q1.length] at hw
          rw [cut_all hw] at w3
          exact w3 _ H3 (.mk cc tt gg o1) kk
      · rename_i z
        cases hr
        cases o1 with
        | @scr p _ hp =>
          refine .inl ⟨p, _, rfl, zz.seq hp, fun r hr => w3 _ _ ?_ fun hq => ⟨(kk hq).1, (kk hq).2.trans (Same_new hr)⟩⟩
          have e : cutV (z.map V.int) l h = (cutL z l h).map V.int := by
            unfold cutV cutL
            rw [List.length_map, List.map_take, List.map_drop]
          rw [e]
          have os : ∀ m : List Int, Os X.K H3 Z (m.map .int) (m.map V.int) [] := fun m => by
            induction m with
            | nil => exact .nil
            | cons i m ih => exact .cons (A := []) (B := []) (.int i) ih
          exact .mkLst cc tt gg (os _) hr
      · cases hr
    · exact w3.elim
  · exact w3.elim
end
end Dl

set_option linter.all false
set_option maxRecDepth 100000
namespace Dl
open PySem L2

inductive Ow (K : PySem.W.Frag) (H Z : Hp) : List D → List V → Prop
  | nil : Ow K H Z [] []
  | cons {d v C ds vs} : O K H Z d v C → Ow K H Z ds vs → Ow K H Z (d :: ds) (v :: vs)
def looks (ρ : Env) : List Tm → Option (List D)
  | [] => some []
  | t :: ts => match look ρ t with
    | some d => (looks ρ ts).map (d :: ·)
    | none => none
section
variable {K : PySem.W.Frag} {κ : Fr} {ρ : List (Option D)} {τ : List Tm} {vs : List V} {σ : St} {H Z : Hp} {d : D} {v : V} {i : Nat}
theorem Tms.opns {A : List Addr} (c : Cells K H Z ρ σ A) : ∀ {ts : List Tm} {xs : List V} {B : List Addr} {ds : List D}, Tms K H Z σ ts xs B → looks ρ ts = some ds → Ow K H Z ds xs
  | _, _, _, ds, .nil, e => by cases e; exact .nil
  | _, _, _, ds, .v h1 h2, e => by
    simp only [looks, look, Option.map_eq_some_iff] at e
    obtain ⟨r, e1, rfl⟩ := e
    exact .cons h1 (Tms.opns c h2 e1)
  | _, _, _, ds, @Tms.s _ _ _ _ i _ _ _ _ h1 h2, e => by
    simp only [looks] at e
    split at e
    · rename_i d hd
      obtain ⟨r, e1, rfl⟩ := Option.map_eq_some_iff.mp e
      obtain ⟨x, C, q, o, _⟩ := c.at (join_some hd)
      rw [h1] at q
      cases q
      exact .cons o (Tms.opns c h2 e1)
    · cases e
theorem Stt.opns {ts : List Tm} {xs : List V} {ds : List D} (h : Stt K κ ρ (ts ++ τ) (xs ++ vs) σ H) (hl : xs.length = ts.length) (e : looks ρ ts = some ds) :
    ∃ Z A B, Cells K H Z ρ σ A ∧ Tms K H Z σ τ vs B ∧ Good κ H Z (A ++ B) ∧ Ow K H Z ds xs ∧ Same Z H := by
  obtain ⟨Z, A, B, c, t, g⟩ := h
  obtain ⟨A1, A2, rfl, t1, t2⟩ := t.cut hl
  exact ⟨Z, A, A2, c, t2, g.sub (.app .refl sub_right), Tms.opns c t1 e, g.zh⟩

def CaD (K : PySem.W.Frag) (r : List V → Hp → VK → Prop) (g : List D → Option D) : Prop := ∀ (κ : Fr) (ρ : Env) (τ : List Tm) (vs : List V) (σ : St) (H Z : Hp) (A B : List Addr) (ds : List D) (xs : List V) (c : D) (Q : VK),
  Cells K H Z ρ σ A → Tms K H Z σ τ vs B → Good κ H Z (A ++ B) → Ow K H Z ds xs → Same Z H → g ds = some c → (∀ v H', Stt K κ ρ (.v c :: τ) (v :: vs) σ H' → Same H H' → Q v H') → r xs H Q
theorem CaD.or {r r' : List V → Hp → VK → Prop} {g g' : List D → Option D} (h : CaD K r g) (h' : CaD K r' g') : CaD K (fun xs H Q => r xs H Q ∨ r' xs H Q) (fun ds => (g ds).or (g' ds)) := by
  intro κ ρ τ vs σ H Z A B ds xs c Q cc tt gg ow zz e k
  cases hg : g ds with
  | some z =>
    simp only [hg, Option.some_or, Option.some.injEq] at e
    exact .inl (h κ ρ τ vs σ H Z A B ds xs c Q cc tt gg ow zz (by rw [hg, e]) k)
  | none =>
    simp only [hg, Option.none_or] at e
    exact .inr (h' κ ρ τ vs σ H Z A B ds xs c Q cc tt gg ow zz e k)
def eCa (g : List D → Option D) (fs : Cm (List Tm)) : Cm Tm := fun ρ => (fs ρ).bind fun ts ρ1 => match looks ρ1 ts with
  | some ds => match g ds with
    | some c => .ok (.v c) ρ1
    | none => .bad
  | none => .bad
theorem ca_imp {W : WX} {q : Bool} {r : List V → Hp → VK → Prop} {g : List D → Option D} {fs : Cm (List Tm)} (hr : CaD K r g) {σ : St} {H : Hp} {Q : VK} (h : tD K W q (eCa g fs) σ H Q) : tDA K W q fs σ H (fun xs H1 => r xs H1 Q) := by
  obtain ⟨κ, ρ, τ, vs, st, w⟩ := h
  refine ⟨κ, ρ, τ, vs, st, Out.wp_mono (Out.wp_bind w) (fun ts ρ1 w1 xs H1 hl st1 k1 => ?_) fun _ _ z => z⟩
  try dsimp only at w1
  split at w1
  · rename_i ds hd
    split at w1
    · rename_i c hc
      obtain ⟨Z, A, B, cc, tt, gg, ow, zz⟩ := st1.opns hl hd
      exact hr κ ρ1 τ vs σ H1 Z A B ds xs c Q cc tt gg ow zz hc fun v H' s' sm => w1 v H' s' fun hq => ⟨(k1 hq).1, (k1 hq).2.trans sm⟩
    · exact w1.elim
  · exact w1.elim
end
theorem CallR.or {X : Cx} {f : Value} {r r' : List V → Hp → VK → Prop} (h : CallR X f r) (h' : CallR X f r') : CallR X f (fun xs H Q => r xs H Q ∨ r' xs H Q) := by
  intro pins s σ H xs us Q I rx q
  rcases q with q | q
  · exact h pins s σ H xs us Q I rx q
  · exact h' pins s σ H xs us Q I rx q
section
variable {X : Cx} {W : WX} {q q1 q2 q3 : Bool} {a b c e : Expr} {es : List Expr} {f h : Cm Tm} {fs : Cm (List Tm)} {pos p : Pos} {x : Str} {i : Nat}
theorem DE.bi {id : String} {r : List V → Hp → VK → Prop} {g : List D → Option D} (hc : CallR X (.builtin id) r) (hr : CaD X.K r g) (hm : X.mg x = none) (hv : bootBuiltins x = some (.builtin id)) (ha : DA X W q (e :: es) fs) (hg : Gl X x := by rfl) (hn : x ≠ "__name__" := by decide) (hdb : (x == ("__debug__" : Str)) = false := by decide)
    (he : starEach (e :: es) X.env = (false, eval e X.env) :: starEach es X.env := by rfl) (hpl : (backTo pos (starEach es X.env)).any (·.1) = false := by rfl) : DE X W q (.Call (.Name x p) (e :: es) [] pos) (eCa g fs) :=
  PE.imp (pe_callB hc hg hm hv ha hn hdb he hpl) fun _ _ _ h => ca_imp hr h
theorem DE.ty {T : String} {r : List V → Hp → VK → Prop} {g : List D → Option D} (hc : CallR X (.type T) r) (hr : CaD X.K r g) (hm : X.mg x = none) (hv : bootBuiltins x = some (.type T)) (ha : DA X W q (e :: es) fs) (hg : Gl X x := by rfl) (hn : x ≠ "__name__" := by decide) (hdb : (x == ("__debug__" : Str)) = false := by decide)
    (he : starEach (e :: es) X.env = (false, eval e X.env) :: starEach es X.env := by rfl) (hpl : (backTo pos (starEach es X.env)).any (·.1) = false := by rfl) : DE X W q (.Call (.Name x p) (e :: es) [] pos) (eCa g fs) :=
  PE.imp (pe_callTy hc hg hm hv ha hn hdb he hpl) fun _ _ _ h => ca_imp hr h
def lenD : List D → Option D
  | [.str l] => if l.length ≤ sizeLine then some (.int l.length) else none
  | [.lst _ l] => some (.int l.length)
  | [.tup l] => some (.int l.length)
  | _ => none
theorem ca_len {K : PySem.W.Frag} : CaD K (fun xs H Q => ∃ x n, xs = [x] ∧ LenV K x H n ∧ Q (.int n) H) lenD := by
  intro κ ρ τ vs σ H Z A B ds xs c Q cc tt gg ow zz e k
  unfold lenD at e
  split at e
  · split at e
    · rename_i l hz
      cases e
      cases ow with
      | cons o1 o2 =>
        cases o2
        refine ⟨_, _, rfl, ?_, k _ H (.mk cc tt gg (.int _)) (Same.refl H)⟩
        rw [o1.strV]
        exact ⟨by rw [str_len]; exact hz, (str_len l).symm⟩
    · cases e
  · rename_i o l
    cases e
    cases ow with
    | cons o1 o2 =>
      cases o2
      obtain ⟨p, xs, rfl, hp, C2, q1⟩ := o1.listV zz
      exact ⟨_, _, rfl, .inl ⟨xs, .of hp, by rw [q1.length]⟩, k _ H (.mk cc tt gg (.int _)) (Same.refl H)⟩
  · rename_i l
    cases e
    cases ow with
    | cons o1 o2 =>
      cases o2
      obtain ⟨p, xs, rfl, hp, q1⟩ := o1.tupV zz
      exact ⟨_, _, rfl, .inr ⟨xs, hp, by rw [q1.length]⟩, k _ H (.mk cc tt gg (.int _)) (Same.refl H)⟩
  · cases e
def max2D : List D → Option D
  | [.int i, .int j] => some (.int (if j > i then j else i))
  | _ => none
def min2D : List D → Option D
  | [.int i, .int j] => some (.int (if j < i then j else i))
  | _ => none
theorem ca_max2 {K : PySem.W.Frag} : CaD K (fun xs H Q => ∃ i j, xs = [.int i, .int j] ∧ Q (.int (if j > i then j else i)) H) max2D := by
  intro κ ρ τ vs σ H Z A B ds xs c Q cc tt gg ow zz e k
  unfold max2D at e
  split at e
  · cases e
    cases ow with
    | cons o1 o2 =>
      cases o2 with
      | cons o2 o3 =>
        cases o3
        exact ⟨_, _, by rw [o1.intV, o2.intV], k _ H (.mk cc tt gg (.int _)) (Same.refl H)⟩
  · cases e
theorem ca_min2 {K : PySem.W.Frag} : CaD K (fun xs H Q => ∃ i j, xs = [.int i, .int j] ∧ Q (.int (if j < i then j else i)) H) min2D := by
  intro κ ρ τ vs σ H Z A B ds xs c Q cc tt gg ow zz e k
  unfold min2D at e
  split at e
  · cases e
    cases ow with
    | cons o1 o2 =>
      cases o2 with
      | cons o2 o3 =>
        cases o3
        exact ⟨_, _, by rw [o1.intV, o2.intV], k _ H (.mk cc tt gg (.int _)) (Same.refl H)⟩
  · cases e
def listD : List D → Option D
  | [.lst _ l] => if D.owns l then none else some (.lst true l)
  | [.tup l] => if D.owns l then none else some (.lst true l)
  | _ => none
def tupleD : List D → Option D
  | [.lst _ l] => if D.owns l then none else some (.tup l)
  | [.tup l] => if D.owns l then none else some (.tup l)
  | _ => none
theorem ca_list {K : PySem.W.Frag} : CaD K (fun xs H Q => ∃ p ys, xs = [.ref p] ∧ (SqL K H p ys ∨ SqT K H p ys) ∧ ∀ l, H l = none → Q (.ref l) (upd H l (.lst ys))) listD := by
  intro κ ρ τ vs σ H Z A B ds xs c Q cc tt gg ow zz e k
  unfold listD at e
  split at e
  · rename_i o l
    split at e
    · cases e
    · rename_i n
      cases e
      cases ow with
      | cons o1 o2 =>
        cases o2
        obtain ⟨p, xs, rfl, hp, C2, q1⟩ := o1.listV zz
        have r1 := q1.nil_of (by simpa using n)
        exact ⟨p, xs, rfl, .inl (.of hp), fun r hr => k _ _ (.mkLst cc tt gg r1 hr) (Same_new hr)⟩
  · rename_i l
    split at e
    · cases e
    · rename_i n
      cases e
      cases ow with
      | cons o1 o2 =>
        cases o2
        obtain ⟨p, xs, rfl, hp, q1⟩ := o1.tupV zz
        have r1 := q1.nil_of (by simpa using n)
        exact ⟨p, xs, rfl, .inr hp, fun r hr => k _ _ (.mkLst cc tt gg r1 hr) (Same_new hr)⟩
  · cases e
theorem ca_tuple {K : PySem.W.Frag} : CaD K (fun xs H Q => ∃ p ys, xs = [.ref p] ∧ ((SqL K H p ys ∧ ∀ l, H l = none → Q (.ref l) (upd H l (.tup ys))) ∨ (SqT K H p ys ∧ Q (.ref p) H))) tupleD := by
  intro κ ρ τ vs σ H Z A B ds xs c Q cc tt gg ow zz e k
  unfold tupleD at e
  split at e
  · rename_i o l
    split at e
    · cases e
    · rename_i n
      cases e
      cases ow with
      | cons o1 o2 =>
        cases o2
        obtain ⟨p, xs, rfl, hp, C2, q1⟩ := o1.listV zz
        have r1 := q1.nil_of (by simpa using n)
        exact ⟨p, xs, rfl, .inl ⟨.of hp, fun r hr => k _ _ (.mkTup cc tt gg r1 hr) (Same_new hr)⟩⟩
  · rename_i l
    split at e
    · cases e
    · rename_i n
      cases e
      cases ow with
      | cons o1 o2 =>
        cases o2
        have n' : D.owns l = false := by simpa using n
        have z0 := o1.noown (by simpa [D.own] using n')
        subst z0
        obtain ⟨p, xs, rfl, hp, q1⟩ := id (o1.tupV zz)
        exact ⟨p, xs, rfl, .inr ⟨hp, k _ H (.mk cc tt gg o1) (Same.refl H)⟩⟩
  · cases e
def intD : List D → Option D
  | [.int n] => some (.int n)
  | [.bl b] => some (.int (if b then 1 else 0))
  | _ => none
theorem ca_int {K : PySem.W.Frag} : CaD K (fun xs H Q => (∃ i, xs = [.int i] ∧ Q (.int i) H) ∨ ∃ k, xs = [.bl k] ∧ Q (.int (if k then 1 else 0)) H) intD := by
  intro κ ρ τ vs σ H Z A B ds xs c Q cc tt gg ow zz e k
  unfold intD at e
  split at e
  · cases e
    cases ow with
    | cons o1 o2 =>
      cases o2
      exact .inl ⟨_, by rw [o1.intV], k _ H (.mk cc tt gg (.int _)) (Same.refl H)⟩
  · cases e
    cases ow with
    | cons o1 o2 =>
      cases o2
      exact .inr ⟨_, by rw [o1.blV], k _ H (.mk cc tt gg (.int _)) (Same.refl H)⟩
  · cases e
def intsL : List D → Option (List Int)
  | [] => some []
  | .int n :: ts => (intsL ts).map (n :: ·)
  | _ :: _ => none
def blsL : List D → Option (List Bool)
  | [] => some []
  | .bl n :: ts => (blsL ts).map (n :: ·)
  | _ :: _ => none
def strsL : List D → Option (List (List Nat))
  | [] => some []
  | .str n :: ts => (strsL ts).map (n :: ·)
  | _ :: _ => none
section
variable {K : PySem.W.Frag} {H Z : Hp}
theorem Os.ints : ∀ {l : List D} {xs : List V} {C : List Addr} {ns : List Int}, Os K H Z l xs C → intsL l = some ns → xs = ns.map V.int ∧ l = ns.map D.int
  | _, _, _, _, .nil, e => by cases e; exact ⟨rfl, rfl⟩
  | d :: _, _, _, _, .cons h1 h2, e => by
    cases d <;> simp only [intsL, reduceCtorEq] at e
    obtain ⟨r, e1, rfl⟩ := Option.map_eq_some_iff.mp e
    obtain ⟨a1, a2⟩ := Os.ints h2 e1
    exact ⟨by rw [h1.intV, a1]; rfl, by rw [a2]; rfl⟩
theorem Os.bls : ∀ {l : List D} {xs : List V} {C : List Addr} {ns : List Bool}, Os K H Z l xs C → blsL l = some ns → xs = ns.map V.bl
  | _, _, _, _, .nil, e => by cases e; rfl
  | d :: _, _, _, _, .cons h1 h2, e => by
    cases d <;> simp only [blsL, reduceCtorEq] at e
    obtain ⟨r, e1, rfl⟩ := Option.map_eq_some_iff.mp e
    rw [h1.blV, Os.bls h2 e1]; rfl
theorem Os.strs : ∀ {l : List D} {xs : List V} {C : List Addr} {ns : List (List Nat)}, Os K H Z l xs C → strsL l = some ns → xs = (ns.map fun n => (⟨n.toArray⟩ : Str)).map V.str
  | _, _, _, _, .nil, e => by cases e; rfl
  | d :: _, _, _, _, .cons h1 h2, e => by
    cases d <;> simp only [strsL, reduceCtorEq] at e
    obtain ⟨r, e1, rfl⟩ := Option.map_eq_some_iff.mp e
    rw [h1.strV, Os.strs h2 e1]; rfl
end
def seqOf : D → Option (List D)
  | .lst _ l => some l
  | _ => none
def anyD : List D → Option D
  | [.lst _ l] => (blsL l).map fun bs => .bl (bs.any id)
  | _ => none
def allD : List D → Option D
  | [.lst _ l] => (blsL l).map fun bs => .bl (bs.all id)
  | _ => none
theorem ca_any {K : PySem.W.Frag} : CaD K (rAny K) anyD := by
  intro κ ρ τ vs σ H Z A B ds xs c Q cc tt gg ow zz e k
  unfold anyD at e
  split at e
  · rename_i o l
    obtain ⟨bs, e1, rfl⟩ := Option.map_eq_some_iff.mp e
    cases ow with
    | cons o1 o2 =>
      cases o2
      obtain ⟨p, xs, rfl, hp, C2, q1⟩ := o1.listV zz
      have ex := q1.bls e1
      subst ex
      exact ⟨p, bs, rfl, .of hp, k _ H (.mk cc tt gg (.bl _)) (Same.refl H)⟩
  · cases e
theorem ca_all {K : PySem.W.Frag} : CaD K (rAll K) allD := by
  intro κ ρ τ vs σ H Z A B ds xs c Q cc tt gg ow zz e k
  unfold allD at e
  split at e
  · rename_i o l
    obtain ⟨bs, e1, rfl⟩ := Option.map_eq_some_iff.mp e
    cases ow with
    | cons o1 o2 =>
      cases o2
      obtain ⟨p, xs, rfl, hp, C2, q1⟩ := o1.listV zz
      have ex := q1.bls e1
      subst ex
      exact ⟨p, bs, rfl, .of hp, k _ H (.mk cc tt gg (.bl _)) (Same.refl H)⟩
  · cases e
def sumD : List D → Option D
  | [.lst _ l] => (intsL l).map fun bs => .int bs.sum
  | _ => none
theorem ca_sum {K : PySem.W.Frag} : CaD K (rSum K) sumD := by
  intro κ ρ τ vs σ H Z A B ds xs c Q cc tt gg ow zz e k
  unfold sumD at e
  split at e
  · rename_i o l
    obtain ⟨bs, e1, rfl⟩ := Option.map_eq_some_iff.mp e
    cases ow with
    | cons o1 o2 =>
      cases o2
      obtain ⟨p, xs, rfl, hp, C2, q1⟩ := o1.listV zz
      obtain ⟨ex, _⟩ := q1.ints e1
      subst ex
      exact ⟨p, bs, rfl, .of hp, k _ H (.mk cc tt gg (.int _)) (Same.refl H)⟩
  · cases e
def maxL : List Int → Option Int
  | [] => none
  | n :: ns => some (ns.foldl max n)
def minL : List Int → Option Int
  | [] => none
  | n :: ns => some (ns.foldl min n)
theorem foldl_max : ∀ (ns : List Int) (n m : Int), (m = n ∨ m ∈ ns) → (∀ y, y = n ∨ y ∈ ns → y ≤ m) → ns.foldl max n = m
  | [], n, m, h, _ => (by simpa using h : m = n).symm
  | a :: ns, n, m, h, k => by
    rw [List.foldl_cons]
    refine foldl_max ns (max n a) m ?_ fun y hy => ?_
    · rcases h with rfl | h
      · have := k a (.inr List.mem_cons_self)
        exact .inl (by omega)
      · rcases List.mem_cons.mp h with rfl | h
        · have := k n (.inl rfl)
          exact .inl (by omega)
        · exact .inr h
    · rcases hy with rfl | hy
      · have h1 := k a (.inr List.mem_cons_self)
        have h2 := k n (.inl rfl)
        omega
      · exact k y (.inr (List.mem_cons_of_mem _ hy))
theorem foldl_min : ∀ (ns : List Int) (n m : Int), (m = n ∨ m ∈ ns) → (∀ y, y = n ∨ y ∈ ns → m ≤ y) → ns.foldl min n = m
  | [], n, m, h, _ => (by simpa using h : m = n).symm
  | a :: ns, n, m, h, k => by
    rw [List.foldl_cons]
    refine foldl_min ns (min n a) m ?_ fun y hy => ?_
    · rcases h with rfl | h
      · have := k a (.inr List.mem_cons_self)
        exact .inl (by omega)
      · rcases List.mem_cons.mp h with rfl | h
        · have := k n (.inl rfl)
          exact .inl (by omega)
        · exact .inr h
    · rcases hy with rfl | hy
      · have h1 := k a (.inr List.mem_cons_self)
        have h2 := k n (.inl rfl)
        omega
      · exact k y (.inr (List.mem_cons_of_mem _ hy))
def maxD : List D → Option D
  | [.lst _ l] => ((intsL l).bind maxL).map .int
  | _ => none
def minD : List D → Option D
  | [.lst _ l] => ((intsL l).bind minL).map .int
  | _ => none
theorem ca_max {K : PySem.W.Frag} : CaD K (rMax K) maxD := by
  intro κ ρ τ vs σ H Z A B ds xs c Q cc tt gg ow zz e k
  unfold maxD at e
  split at e
  · rename_i o l
    obtain ⟨m, e1, rfl⟩ := Option.map_eq_some_iff.mp e
    obtain ⟨bs, e2, e3⟩ := Option.bind_eq_some_iff.mp e1
    cases ow with
    | cons o1 o2 =>
      cases o2
      obtain ⟨p, xs, rfl, hp, C2, q1⟩ := o1.listV zz
      obtain ⟨ex, _⟩ := q1.ints e2
      subst ex
      cases bs with
      | nil => cases e3
      | cons n ns =>
        cases e3
        refine ⟨p, n :: ns, rfl, .of hp, by simp, fun m h1 h2 => ?_⟩
        have em := foldl_max ns n m (by simpa using h1) (by simpa using h2)
        rw [em] at k
        exact k _ H (.mk cc tt gg (.int _)) (Same.refl H)
  · cases e
theorem ca_min {K : PySem.W.Frag} : CaD K (rMin K) minD := by
  intro κ ρ τ vs σ H Z A B ds xs c Q cc tt gg ow zz e k
  unfold minD at e
  split at e
  · rename_i o l
    obtain ⟨m, e1, rfl⟩ := Option.map_eq_some_iff.mp e
    obtain ⟨bs, e2, e3⟩ := Option.bind_eq_some_iff.mp e1
    cases ow with
    | cons o1 o2 =>
      cases o2
      obtain ⟨p, xs, rfl, hp, C2, q1⟩ := o1.listV zz
      obtain ⟨ex, _⟩ := q1.ints e2
      subst ex
      cases bs with
      | nil => cases e3
      | cons n ns =>
        cases e3
        refine ⟨p, n :: ns, rfl, .of hp, by simp, fun m h1 h2 => ?_⟩
        have em := foldl_min ns n m (by simpa using h1) (by simpa using h2)
        rw [em] at k
        exact k _ H (.mk cc tt gg (.int _)) (Same.refl H)
  · cases e
end
end Dl

set_option linter.all false
set_option maxRecDepth 100000
namespace Dl
open PySem L2

inductive Pc where
  | ix (n : Nat) | key (k : D) | fld (f : Str)
def kidx : List D → D → Option Nat
  | [], _ => none
  | k :: ks, x => if keyEq k x then some 0 else (kidx ks x).map (· + 1)
def nidx : List Str → Str → Option Nat
  | [], _ => none
  | k :: ks, x => if x == k then some 0 else (nidx ks x).map (· + 1)
def D.kids : D → List D
  | .lst _ l => l
  | .dic _ _ vs => vs
  | .ins _ _ vs => vs
  | _ => []
def D.withK (d : D) (l : List D) : D := match d with
  | .lst o _ => .lst o l
  | .dic o ks _ => .dic o ks l
  | .ins C ns _ => .ins C ns l
  | d => d
def D.pidx (d : D) (c : Pc) : Option Nat := match d, c with
  | .lst true _, .ix n => some n
  | .dic true ks _, .key k => if k.isKey then kidx ks k else none
  | .ins _ ns _, .fld f => nidx ns f
  | _, _ => none
def D.child (d : D) (c : Pc) : Option D := (d.pidx c).bind fun n => d.kids[n]?
def D.putC (d : D) (c : Pc) (y : D) : D := match d.pidx c with
  | some n => d.withK (d.kids.set n y)
  | none => d
def D.childP (d : D) : List Pc → Option D
  | [] => some d
  | c :: p => (d.child c).bind fun e => e.childP p
def D.putP (d : D) (p : List Pc) (y : D) : D := match p with
  | [] => y
  | c :: p => match d.child c with
    | some e => d.putC c (e.putP p y)
    | none => d
def Step (H : Hp) (x : V) (c : Pc) (v : V) : Prop := match c with
  | .ix n => ∃ a xs, x = .ref a ∧ H a = some (.lst xs) ∧ xs[n]? = some v
  | .key k => ∃ a kvs, x = .ref a ∧ H a = some (.dK kvs) ∧ valV kvs (toKey k) = some v
  | .fld f => ∃ a C dx fs, x = .ref a ∧ H a = some (.ins C dx fs) ∧ fs.lookup f = some v
def At (H : Hp) (x : V) : List Pc → V → Prop
  | [], v => v = x
  | c :: p, v => ∃ y, Step H x c y ∧ At H y p v
theorem Step.det {H : Hp} {x : V} {c : Pc} {v w : V} (h : Step H x c v) (h' : Step H x c w) : v = w := by
  cases c with
  | ix n =>
    obtain ⟨a, xs, rfl, e, e2⟩ := h
    obtain ⟨b, ys, eb, e3, e4⟩ := h'
    cases eb
    rw [e] at e3; cases e3
    rw [e2] at e4; cases e4; rfl
  | key k =>
    obtain ⟨a, xs, rfl, e, e2⟩ := h
    obtain ⟨b, ys, eb, e3, e4⟩ := h'
    cases eb
    rw [e] at e3; cases e3
    rw [e2] at e4; cases e4; rfl
  | fld f =>
    obtain ⟨a, C, dx, xs, rfl, e, e2⟩ := h
    obtain ⟨b, C', dx', ys, eb, e3, e4⟩ := h'
    cases eb
    rw [e] at e3; cases e3
    rw [e2] at e4; cases e4; rfl
theorem Step.same {H H' : Hp} {x : V} {c : Pc} {v : V} (s : Same H H') (h : Step H x c v) : Step H' x c v := by
  cases c with
  | ix n => obtain ⟨a, xs, e, e1, e2⟩ := h; exact ⟨a, xs, e, s _ _ e1, e2⟩
  | key k => obtain ⟨a, xs, e, e1, e2⟩ := h; exact ⟨a, xs, e, s _ _ e1, e2⟩
  | fld f => obtain ⟨a, C, dx, xs, e, e1, e2⟩ := h; exact ⟨a, C, dx, xs, e, s _ _ e1, e2⟩
theorem At.same {H H' : Hp} (s : Same H H') : ∀ {p : List Pc} {x v : V}, At H x p v → At H' x p v
  | [], _, _, h => h
  | _ :: _, _, _, ⟨y, h1, h2⟩ => ⟨y, h1.same s, At.same s h2⟩
theorem At.snoc {H : Hp} {c : Pc} : ∀ {p : List Pc} {x y v : V}, At H x p y → Step H y c v → At H x (p ++ [c]) v
  | [], _, _, _, h, h2 => by cases h; exact ⟨_, h2, rfl⟩
  | _ :: _, _, _, _, ⟨z, h1, h3⟩, h2 => ⟨z, h1, At.snoc h3 h2⟩
theorem childP_snoc {c : Pc} : ∀ {p : List Pc} {d : D}, d.childP (p ++ [c]) = (d.childP p).bind fun e => e.child c
  | [], d => by
    show (d.child c).bind _ = d.child c
    cases d.child c <;> rfl
  | a :: p, d => by
    show (d.child a).bind _ = ((d.child a).bind _).bind _
    cases d.child a with
    | none => rfl
    | some e => exact childP_snoc (p := p) (d := e)
section
variable {K : PySem.W.Frag} {H Z : Hp}
theorem Os.out : ∀ {l : List D} {xs : List V} {A : List Addr} {n : Nat} {e : D}, Os K H Z l xs A → l[n]? = some e → ∃ v C R, xs[n]? = some v ∧ O K H Z e v C ∧ Os K H Z (l.set n (.hol v)) xs R ∧ (C ++ R).Perm A
  | [], _, _, n, _, .nil, h => by simp at h
  | d :: l, _, _, 0, e, @Os.cons _ _ _ _ v A0 _ vs B0 h1 h2, h => by
    simp only [List.getElem?_cons_zero, Option.some.injEq] at h
    subst h
    exact ⟨v, A0, B0, rfl, h1, .cons (A := []) (.hol v) h2, .refl _⟩
  | d :: l, _, _, n + 1, e, @Os.cons _ _ _ _ v A0 _ vs B0 h1 h2, h => by
    obtain ⟨w, C, R, e1, o, os, p⟩ := Os.out h2 (by simpa using h)
    refine ⟨w, C, A0 ++ R, by simpa using e1, o, .cons h1 os, ?_⟩
    have p1 : (C ++ (A0 ++ R)).Perm (A0 ++ (C ++ R)) := by
      rw [← List.append_assoc, ← List.append_assoc]
      exact List.perm_append_comm.append_right _
    exact p1.trans (p.append_left _)
theorem Os.into : ∀ {l : List D} {xs : List V} {R C : List Addr} {n : Nat} {e : D} {v : V}, Os K H Z l xs R → l[n]? = some (.hol v) → O K H Z e v C → ∃ A, Os K H Z (l.set n e) xs A ∧ A.Perm (C ++ R)
  | [], _, _, _, n, _, _, .nil, h, _ => by simp at h
  | d :: l, _, _, C, 0, e, v, @Os.cons _ _ _ _ w A0 _ vs B0 h1 h2, h, o => by
    simp only [List.getElem?_cons_zero, Option.some.injEq] at h
    subst h
    cases h1
    exact ⟨C ++ B0, .cons o h2, .refl _⟩
  | d :: l, _, _, C, n + 1, e, v, @Os.cons _ _ _ _ w A0 _ vs B0 h1 h2, h, o => by
    obtain ⟨A, os, p⟩ := Os.into h2 (by simpa using h) o
    refine ⟨A0 ++ A, .cons h1 os, ?_⟩
    have p1 : (A0 ++ (C ++ B0)).Perm (C ++ (A0 ++ B0)) := by
      rw [← List.append_assoc, ← List.append_assoc]
      exact List.perm_append_comm.append_right _
    exact (p.append_left _).trans p1
theorem kidx_val {k : D} (hk : k.isKey = true) : ∀ {kvs : List (Key × V)} {n : Nat} {v : V}, kidx (kvs.map fun p => keyD p.1) k = some n → (kvs.map Prod.snd)[n]? = some v → valV kvs (toKey k) = some v
  | [], n, v, h, _ => by simp [kidx] at h
  | (k', x) :: kvs, n, v, h, h2 => by
    simp only [List.map_cons, kidx] at h
    rw [keyEq_key _ hk] at h
    by_cases e : k' = toKey k
    · simp only [decide_eq_true e, if_true, Option.some.injEq] at h
      subst h
      simp only [List.map_cons, List.getElem?_cons_zero, Option.some.injEq] at h2
      rw [valV_pos e]
      simpa using h2
    · simp only [decide_eq_false e, Bool.false_eq_true, if_false, Option.map_eq_some_iff] at h
      obtain ⟨m, h1, rfl⟩ := h
      rw [valV_neg (p := (k', x)) e]
      exact kidx_val hk h1 (by simpa using h2)
theorem nidx_val {f : Str} : ∀ {fs : List (Str × V)} {n : Nat} {v : V}, nidx (fs.map Prod.fst) f = some n → (fs.map Prod.snd)[n]? = some v → fs.lookup f = some v
  | [], n, v, h, _ => by simp [nidx] at h
  | (k', x) :: fs, n, v, h, h2 => by
    simp only [List.map_cons, nidx] at h
    rw [List.lookup_cons]
    cases e : f == k' with
    | true =>
      simp only [e, if_true, Option.some.injEq] at h
      subst h
      simp only [List.map_cons, List.getElem?_cons_zero, Option.some.injEq] at h2
      simpa using h2
    | false =>
      simp only [e, Bool.false_eq_true, if_false, Option.map_eq_some_iff] at h
      obtain ⟨m, h1, rfl⟩ := h
      exact nidx_val h1 (by simpa using h2)
theorem O.kids {d : D} {x : V} {A : List Addr} {c : Pc} {n : Nat} (h : O K H Z d x A) (hc : d.pidx c = some n) : ∃ xs B r, Os K H Z d.kids xs B ∧ A = r ++ B ∧ (∀ v, xs[n]? = some v → Step H x c v) ∧
    ∀ l' B', Os K H Z l' xs B' → O K H Z (d.withK l') x (r ++ B') := by
  cases h with
  | @lst a xs l B h1 h2 h3 =>
    cases c with
    | ix m =>
      simp only [D.pidx, Option.some.injEq] at hc
      subst hc
      exact ⟨xs, B, [a], h3, rfl, fun v e => ⟨a, xs, rfl, h1, e⟩, fun l' B' o => .lst h1 h2 o⟩
    | key k => simp [D.pidx] at hc
    | fld f => simp [D.pidx] at hc
  | @dic a ks xs vs B h1 h2 h3 =>
    cases c with
    | key k =>
      simp only [D.pidx] at hc
      split at hc
      · rename_i hk
        have h1' := h1
        obtain ⟨kvs, e1, e2, e3⟩ := h1'
        subst e2 e3
        exact ⟨_, B, [a], h3, rfl, fun v e => ⟨a, kvs, rfl, e1, kidx_val hk hc e⟩, fun l' B' o => .dic h1 h2 o⟩
      · cases hc
    | ix m => simp [D.pidx] at hc
    | fld f => simp [D.pidx] at hc
  | @ins a dx C fs vs B h1 h2 h3 h4 h5 =>
    cases c with
    | fld f =>
      simp only [D.pidx] at hc
      exact ⟨_, B, [a, dx], h5, rfl, fun v e => ⟨a, C, dx, fs, rfl, h1, nidx_val hc e⟩, fun l' B' o => .ins h1 h2 h3 h4 o⟩
    | ix m => simp [D.pidx] at hc
    | key k => simp [D.pidx] at hc
  | shr => cases c <;> simp [D.pidx] at hc
  | dsh => cases c <;> simp [D.pidx] at hc
  | non => cases c <;> simp [D.pidx] at hc
  | bl => cases c <;> simp [D.pidx] at hc
  | int => cases c <;> simp [D.pidx] at hc
  | str => cases c <;> simp [D.pidx] at hc
  | cst => cases c <;> simp [D.pidx] at hc
  | hol => cases c <;> simp [D.pidx] at hc
  | exv => cases c <;> simp [D.pidx] at hc
  | tup => cases c <;> simp [D.pidx] at hc
  | scr => cases c <;> simp [D.pidx] at hc
theorem pidx_withK {d : D} {c : Pc} (l : List D) : (d.withK l).pidx c = d.pidx c := by
  cases d with
  | lst o l => cases o <;> cases c <;> rfl
  | dic o ks l => cases o <;> cases c <;> rfl
  | ins C ns l => cases c <;> rfl
  | _ => rfl
theorem kids_withK {d : D} {c : Pc} {n : Nat} (h : d.pidx c = some n) (l : List D) : (d.withK l).kids = l := by
  cases d <;> first | rfl | (cases c <;> simp [D.pidx] at h)
theorem withK_withK {d : D} (l l' : List D) : (d.withK l).withK l' = d.withK l' := by cases d <;> rfl
theorem child_some {d e : D} {c : Pc} (h : d.child c = some e) : ∃ n, d.pidx c = some n ∧ d.kids[n]? = some e := Option.bind_eq_some_iff.mp h
theorem child_putC {d e : D} {c : Pc} (h : d.child c = some e) (y : D) : (d.putC c y).child c = some y := by
  obtain ⟨n, h1, h2⟩ := child_some h
  unfold D.child D.putC
  rw [h1]
  dsimp only
  rw [pidx_withK, h1, Option.bind_some, kids_withK h1, List.getElem?_set_self (List.getElem?_eq_some_iff.mp h2).1]
theorem putC_putC {d e : D} {c : Pc} (h : d.child c = some e) (y z : D) : (d.putC c y).putC c z = d.putC c z := by
  obtain ⟨n, h1, h2⟩ := child_some h
  unfold D.putC
  rw [h1]
  dsimp only
  rw [pidx_withK, h1]
  dsimp only
  rw [kids_withK h1, withK_withK, List.set_set]
theorem O.outC {d e : D} {x : V} {A : List Addr} {c : Pc} (h : O K H Z d x A) (he : d.child c = some e) : ∃ v C R, Step H x c v ∧ O K H Z e v C ∧ O K H Z (d.putC c (.hol v)) x R ∧ (C ++ R).Perm A := by
  obtain ⟨n, h1, h2⟩ := child_some he
  obtain ⟨xs, B, r, os, ea, st, mk⟩ := h.kids h1
  obtain ⟨v, C, R, e1, o, o2, p⟩ := os.out h2
  refine ⟨v, C, r ++ R, st v e1, o, ?_, ?_⟩
  · unfold D.putC
    rw [h1]
    exact mk _ _ o2
  · rw [ea]
    have p1 : (C ++ (r ++ R)).Perm (r ++ (C ++ R)) := by
      rw [← List.append_assoc, ← List.append_assoc]
      exact List.perm_append_comm.append_right _
    exact p1.trans (p.append_left _)
theorem O.intoC {d e : D} {x v : V} {R C : List Addr} {c : Pc} (h : O K H Z d x R) (he : d.child c = some (.hol v)) (o : O K H Z e v C) : ∃ A, O K H Z (d.putC c e) x A ∧ A.Perm (C ++ R) := by
  obtain ⟨n, h1, h2⟩ := child_some he
  obtain ⟨xs, B, r, os, ea, st, mk⟩ := h.kids h1
  obtain ⟨A, o2, p⟩ := os.into h2 o
  refine ⟨r ++ A, ?_, ?_⟩
  · unfold D.putC
    rw [h1]
    exact mk _ _ o2
  · rw [ea]
    have p1 : (r ++ (C ++ B)).Perm (C ++ (r ++ B)) := by
      rw [← List.append_assoc, ← List.append_assoc]
      exact List.perm_append_comm.append_right _
    exact (p.append_left _).trans p1
theorem O.outP : ∀ {p : List Pc} {d e : D} {x v : V} {A : List Addr}, O K H Z d x A → d.childP p = some e → At H x p v → ∃ C R, O K H Z e v C ∧ O K H Z (d.putP p (.hol v)) x R ∧ (C ++ R).Perm A
  | [], d, e, x, v, A, h, he, ha => by
    cases he
    cases ha
    exact ⟨A, [], h, .hol _, by simp⟩
  | c :: p, d, e, x, v, A, h, he, ⟨y, h1, h2⟩ => by
    obtain ⟨e1, he1, he2⟩ := Option.bind_eq_some_iff.mp he
    obtain ⟨v1, C1, R1, s1, o1, o2, q⟩ := h.outC he1
    obtain rfl := h1.det s1
    obtain ⟨C, R, o3, o4, q2⟩ := O.outP o1 he2 h2
    obtain ⟨A2, o5, q3⟩ := o2.intoC (child_putC he1 _) o4
    rw [putC_putC he1] at o5
    refine ⟨C, A2, o3, ?_, ?_⟩
    · show O K H Z (match d.child c with | some e => d.putC c (e.putP p (.hol v)) | none => d) x A2
      rw [he1]
      exact o5
    · refine (q3.append_left C).trans ?_
      rw [← List.append_assoc]
      exact (q2.append_right R1).trans q
theorem O.intoP : ∀ {p : List Pc} {d e e' : D} {x v : V} {R C : List Addr}, O K H Z (d.putP p (.hol v)) x R → d.childP p = some e → O K H Z e' v C → ∃ A, O K H Z (d.putP p e') x A ∧ A.Perm (C ++ R)
  | [], d, e, e', x, v, R, C, h, he, o => by
    cases (show O K H Z (.hol v) x R from h)
    exact ⟨C, o, by simp⟩
  | c :: p, d, e, e', x, v, R, C, h, he, o => by
    obtain ⟨e1, he1, he2⟩ := Option.bind_eq_some_iff.mp he
    have hh : O K H Z (d.putC c (e1.putP p (.hol v))) x R := by
      have h' : O K H Z (match d.child c with | some e => d.putC c (e.putP p (.hol v)) | none => d) x R := h
      rw [he1] at h'
      exact h'
    obtain ⟨v1, C1, R1, s1, o1, o2, q⟩ := hh.outC (child_putC he1 _)
    rw [putC_putC he1] at o2
    obtain ⟨A1, o3, q1⟩ := O.intoP o1 he2 o
    obtain ⟨A2, o4, q2⟩ := o2.intoC (child_putC he1 _) o3
    rw [putC_putC he1] at o4
    refine ⟨A2, ?_, ?_⟩
    · show O K H Z (match d.child c with | some e => d.putC c (e.putP p e') | none => d) x A2
      rw [he1]
      exact o4
    · refine q2.trans ((q1.append_right R1).trans ?_)
      rw [List.append_assoc]
      exact q.append_left C
end
section
variable {K : PySem.W.Frag} {κ : Fr} {ρ : List (Option D)} {τ : List Tm} {vs : List V} {σ : St} {H : Hp} {d e e' : D} {x v : V} {i : Nat} {p : List Pc}
theorem Stt.outP (h : Stt K κ ρ τ vs σ H) (hd : ρ[i]? = some (some d)) (he : d.childP p = some e) (hx : σ[i]? = some (some x)) (ha : At H x p v) : Stt K κ (ρ.set i (some (d.putP p (.hol v)))) (.v e :: τ) (v :: vs) σ H := by
  obtain ⟨Z, A, B, c, t, g⟩ := h
  obtain ⟨x', C0, A', q, o, c', pp⟩ := c.take hd
  rw [hx] at q
  cases q
  obtain ⟨C, R, o1, o2, q2⟩ := o.outP he ha
  have hi : i < ρ.length := (List.getElem?_eq_some_iff.mp hd).1
  obtain ⟨A2, c2, q3⟩ := c'.back (by simpa using hi) (by simp [hi]) hx o2
  rw [List.set_set] at c2
  refine ⟨Z, A2, C ++ B, c2, .v o1 t, g.sub (.of_perm ?_)⟩
  rw [← List.append_assoc]
  refine List.Perm.append_right B ?_
  refine (q3.append_right C).trans ?_
  refine List.Perm.trans ?_ pp
  refine List.Perm.trans ?_ (q2.append_right A')
  rw [List.append_assoc]
  refine List.Perm.trans List.perm_append_comm ?_
  rw [List.append_assoc, List.append_assoc]
  exact (List.perm_append_comm).trans (by rw [List.append_assoc])
theorem Stt.inP (h : Stt K κ ρ (.v e' :: τ) (v :: vs) σ H) (hd : ρ[i]? = some (some (d.putP p (.hol v)))) (he : d.childP p = some e) : Stt K κ (ρ.set i (some (d.putP p e'))) τ vs σ H := by
  obtain ⟨Z, A, B, c, t, g⟩ := h
  cases t with
  | @v _ _ C _ _ B h1 h2 =>
    obtain ⟨x, C0, A', q, o, c', pp⟩ := c.take hd
    obtain ⟨A1, o1, q1⟩ := o.intoP he h1
    have hi : i < ρ.length := (List.getElem?_eq_some_iff.mp hd).1
    obtain ⟨A2, c2, q3⟩ := c'.back (by simpa using hi) (by simp [hi]) q o1
    rw [List.set_set] at c2
    refine ⟨Z, A2, B, c2, h2, g.sub (.of_perm ?_)⟩
    rw [← List.append_assoc]
    refine List.Perm.append_right B ?_
    refine q3.trans ((q1.append_right A').trans ?_)
    rw [List.append_assoc]
    exact (pp.append_left C).trans List.perm_append_comm
theorem Stt.peek (h : Stt K κ ρ τ vs σ H) (hd : ρ[i]? = some (some d)) (he : d.childP p = some e) (hx : σ[i]? = some (some x)) (ha : At H x p v) : ∃ Z A B C, Cells K H Z ρ σ A ∧ Tms K H Z σ τ vs B ∧ Good κ H Z (A ++ B) ∧ O K H Z e v C ∧ Same Z H := by
  obtain ⟨Z, A, B, c, t, g⟩ := h
  obtain ⟨x', C0, q, o, _⟩ := c.at hd
  rw [hx] at q
  cases q
  obtain ⟨C, R, o1, _, _⟩ := o.outP he ha
  exact ⟨Z, A, B, C, c, t, g, o1, g.zh⟩
end
end Dl

set_option linter.all false
set_option maxRecDepth 100000
namespace Dl
open PySem L2

abbrev Pf := Env → Option (Nat × List Pc)
def tDP (K : PySem.W.Frag) (f : Pf) : TE := fun σ H Q => ∃ κ ρ τ vs i p d e, Stt K κ ρ τ vs σ H ∧ f ρ = some (i, p) ∧ ρ[i]? = some (some d) ∧ d.childP p = some e ∧
  ∀ v H', Same H H' → Stt K κ ρ τ vs σ H' → (∃ x, σ[i]? = some (some x) ∧ At H' x p v) → Q v H'
def DP (X : Cx) (e : Expr) (f : Pf) : Prop := PE X e (tDP X.K f)
def getP (ρ : Env) (ip : Nat × List Pc) : Option D := ((ρ[ip.1]?).join).bind fun d => d.childP ip.2
theorem getP_some {ρ : Env} {i : Nat} {p : List Pc} {e : D} (h : getP ρ (i, p) = some e) : ∃ d, ρ[i]? = some (some d) ∧ d.childP p = some e := by
  obtain ⟨d, h1, h2⟩ := Option.bind_eq_some_iff.mp h
  exact ⟨d, join_some h1, h2⟩
def setP (ρ : Env) (ip : Nat × List Pc) (y : D) : Env := match (ρ[ip.1]?).join with
  | some d => ρ.set ip.1 (some (d.putP ip.2 y))
  | none => ρ
section
variable {X : Cx} {W : WX} {q q1 q2 : Bool} {a b c e : Expr} {es : List Expr} {f : Pf} {g : Cm Tm} {fs : Cm (List Tm)} {pos apos cpos : Pos} {i : Nat}
def pSl (i : Nat) : Pf := fun ρ => match (ρ[i]?).join with
  | some _ => some (i, [])
  | none => none
theorem tDP_of {K : PySem.W.Frag} {κ : Fr} {ρ : Env} {τ : List Tm} {vs : List V} {σ : St} {H : Hp} {Q : VK} {f : Pf} {i : Nat} {p : List Pc} {e : D} (st : Stt K κ ρ τ vs σ H) (hf : f ρ = some (i, p)) (he : getP ρ (i, p) = some e)
    (k : ∀ v H', Same H H' → Stt K κ ρ τ vs σ H' → (∃ x, σ[i]? = some (some x) ∧ At H' x p v) → Q v H') : tDP K f σ H Q := by
  obtain ⟨d, h1, h2⟩ := getP_some he
  exact ⟨κ, ρ, τ, vs, i, p, d, e, st, hf, h1, h2, k⟩
theorem DP.slot (h : PE X e (tVar i)) : DP X e (pSl i) := by
  refine PE.imp h fun σ H Q ⟨κ, ρ, τ, vs, j, p, d, e, st, hf, hd, he, k⟩ => ?_
  unfold pSl at hf
  split at hf
  · cases hf
    obtain ⟨x, hx⟩ := st.slot hd
    exact ⟨x, hx, k x H (Same.refl H) st ⟨x, hx, rfl⟩⟩
  · cases hf
def ixC (e k : D) : Option Pc := match e, k with
  | .lst true l, .int n => (ixN l.length n).map .ix
  | .dic true ks _, k => if k.isKey then some (.key k) else none
  | _, _ => none
def pIx (f : Pf) (g : Cm Tm) : Pf := fun ρ => match f ρ, g ρ with
  | some (i, p), .ok t _ => match getP ρ (i, p), look ρ t with
    | some e, some k => (ixC e k).map fun c => (i, p ++ [c])
    | _, _ => none
  | _, _ => none
theorem DP.ix (hu : X.A.units + 1 < cLine) (ha : DP X a f) (hb : DE X W true b g) (hs : PlainIx b := by intro _ _; rfl) : DP X (.Subscript a b pos) (pIx f g) := by
  refine PE.imp (pe_ix (ix_seq.or (ix_dk hu)) ha hb hs) fun σ H Q ⟨κ, ρ, τ, vs, j, p', d, e', st, hf, hd, he, k⟩ => ?_
  unfold pIx at hf
  split at hf
  · rename_i i p t ρ1 h1 h2
    split at hf
    · rename_i e kd hg hk
      obtain ⟨c, hc, hf⟩ := Option.map_eq_some_iff.mp hf
      cases hf
      obtain ⟨d2, hd2, he2⟩ := getP_some hg
      rw [hd] at hd2
      cases hd2
      rw [childP_snoc, he2, Option.bind_some] at he
      refine ⟨κ, ρ, τ, vs, j, p, d, e, st, h1, hd, he2, fun v H1 s1 st1 ⟨x, hx, hat⟩ => ?_⟩
      refine ⟨κ, ρ, τ, vs, st1, ?_⟩
      rw [h2]
      intro y H2 st2 kk
      obtain ⟨rfl, s2⟩ := kk rfl
      have hat2 := hat.same s2
      obtain ⟨Z, A, B, C, cc, tt, gg, o2, zz⟩ := Stt.peek st2 hd he2 hx hat2
      obtain ⟨Z', A', B', C', cc', tt', gg', o1, zz'⟩ := st2.opn hk
      have fin : ∀ w, Step H2 v c w → Q w H2 := fun w sw => k w H2 (s1.trans s2) st2.pop ⟨x, hx, hat2.snoc sw⟩
      unfold ixC at hc
      split at hc
      · rename_i l n
        obtain ⟨j, hj, rfl⟩ := Option.map_eq_some_iff.mp hc
        obtain ⟨m, hm, hl⟩ := child_some he
        simp only [D.pidx, Option.some.injEq] at hm
        subst hm
        obtain ⟨a, xs, rfl, ha, D1, q1⟩ := o2.listV zz
        obtain ⟨w, C2, ew, ow, _⟩ := q1.at hl
        exact .inl (.inl ⟨a, xs, n, w, rfl, o1.intV, .of ha, by unfold atI; rw [q1.length, hj]; exact ew, fin w ⟨a, xs, rfl, ha, ew⟩⟩)
      · rename_i ks vs0 
        split at hc
        · rename_i hkk
          cases hc
          obtain ⟨a, kvs, rfl, ha, rfl, D1, q1⟩ := o2.dicV zz
          obtain ⟨m, hm, hl⟩ := child_some he
          simp only [D.pidx, hkk, if_true] at hm
          obtain ⟨w, C2, ew, ow, _⟩ := q1.at hl
          have ev := kidx_val hkk hm ew
          exact .inr ⟨a, kvs, toKey _, w, rfl, o1.keyV hkk, ha, ev, fin w ⟨a, kvs, rfl, ha, ev⟩⟩
        · cases hc
      · cases hc
    · cases hf
  · cases hf
def pFld (f : Pf) (n : Str) : Pf := fun ρ => (f ρ).map fun ip => (ip.1, ip.2 ++ [.fld n])
theorem DP.fld {n : Str} {C : Addr} (hC : Cls X.K C) (hn : NoAttr X.K C n) (ha : DP X a f) (hcl : ∀ ρ i p e, f ρ = some (i, p) → getP ρ (i, p) = some e → (∃ C' ns vs, e = .ins C' ns vs) → ∃ ns vs, e = .ins C ns vs) (hb : attributeBase a n X.env (eval a X.env) = eval a X.env := by rfl) : DP X (.Attribute a n pos) (pFld f n) := by
  refine PE.imp (pe_fld ha hb) fun σ H Q ⟨κ, ρ, τ, vs, j, p', d, e', st, hf, hd, he, k⟩ => ?_
  unfold pFld at hf
  obtain ⟨⟨i, p⟩, h1, h2⟩ := Option.map_eq_some_iff.mp hf
  cases h2
  rw [childP_snoc] at he
  obtain ⟨e, he2, he3⟩ := Option.bind_eq_some_iff.mp he
  refine ⟨κ, ρ, τ, vs, i, p, d, e, st, h1, hd, he2, fun v H1 s1 st1 ⟨x, hx, hat⟩ => ?_⟩
  obtain ⟨Z, A, B, C0, cc, tt, gg, o2, zz⟩ := Stt.peek st1 hd he2 hx hat
  obtain ⟨m, hm, hl⟩ := child_some he3
  have hins : ∃ C' ns vs, e = .ins C' ns vs := by
    cases e with
    | ins C ns vs => exact ⟨_, _, _, rfl⟩
    | lst o l => cases o <;> simp [D.pidx] at hm
    | dic o l => cases o <;> simp [D.pidx] at hm
    | _ => simp [D.pidx] at hm
  obtain ⟨ns, vs0, rfl⟩ := hcl ρ i p e h1 (by unfold getP; simp [hd, he2]) hins
  obtain ⟨w, Cw, Rw, sw, ow, _, _⟩ := o2.outC he3
  obtain ⟨a, C', dx, fs, rfl, hH, hlk⟩ := sw
  have ec : C' = C := by
    cases o2 with
    | ins h1 => 
      rw [hH] at h1
      cases h1
      rfl
  subst ec
  exact ⟨a, C', dx, fs, w, rfl, hH, hC, hn, hlk, k w H1 s1 st1 ⟨x, hx, hat.snoc ⟨a, C', dx, fs, rfl, hH, hlk⟩⟩⟩

def eRd (f : Pf) : Cm Tm := fun ρ => match f ρ with
  | some ip => match getP ρ ip with
    | some d => if d.own then .bad else .ok (.v d) ρ
    | none => .bad
  | none => .bad
theorem DE.rd (h : DP X e f) : DE X W true e (eRd f) := by
  refine PE.imp h fun σ H Q ⟨κ, ρ, τ, vs, st, w⟩ => ?_
  unfold eRd at w
  split at w
  · rename_i ip hf
    obtain ⟨i, p⟩ := ip
    split at w
    · rename_i d hg
      split at w
      · exact w.elim
      · rename_i n
        obtain ⟨d0, hd, he⟩ := getP_some hg
        refine tDP_of st hf hg fun v H' s st' ⟨x, hx, hat⟩ => ?_
        obtain ⟨Z, A, B, C, cc, tt, gg, o, zz⟩ := Stt.peek st' hd he hx hat
        have z := o.noown (by simpa using n)
        subst z
        exact w v H' (.mk cc tt gg o) fun _ => ⟨rfl, s⟩
    · exact w.elim
  · exact w.elim
def eCaP (g : List D → Option D) (f : Pf) : Cm Tm := fun ρ => match f ρ with
  | some ip => match (getP ρ ip).bind fun d => g [d] with
    | some c => .ok (.v c) ρ
    | none => .bad
  | none => .bad
theorem caP_imp {K : PySem.W.Frag} {r : List V → Hp → VK → Prop} {gg : List D → Option D} (hr : CaD K r gg) {σ : St} {H : Hp} {Q : VK} (h : tD K W true (eCaP gg f) σ H Q) : tDP K f σ H (fun x H1 => r [x] H1 Q) := by
  obtain ⟨κ, ρ, τ, vs, st, w⟩ := h
  unfold eCaP at w
  split at w
  · rename_i ip hf
    obtain ⟨i, p⟩ := ip
    split at w
    · rename_i c hg
      obtain ⟨d, h1, h2⟩ := Option.bind_eq_some_iff.mp hg
      obtain ⟨d0, hd, he⟩ := getP_some h1
      refine tDP_of st hf h1 fun v H' s st' ⟨x, hx, hat⟩ => ?_
      obtain ⟨Z, A, B, C, cc, tt, gg', o, zz⟩ := Stt.peek st' hd he hx hat
      exact hr κ ρ τ vs σ H' Z A B [d] [v] c Q cc tt gg' (.cons o .nil) zz h2 fun v2 H2 s2 sm => w v2 H2 s2 fun _ => ⟨rfl, s.trans sm⟩
    · exact w.elim
  · exact w.elim
theorem tOne {X : Cx} {te : TE} (h : PE X a te) (hs : starEach [a] X.env = (false, eval a X.env) :: starEach [] X.env := by rfl) : PA X [a] (fun σ H Q => te σ H fun x H1 => Q [x] H1) :=
  PA.imp (pa_cons h pa_nil hs) fun σ H Q h => h
theorem DE.biP {x : Str} {p : Pos} {id : String} {r : List V → Hp → VK → Prop} {gg : List D → Option D} (hc : CallR X (.builtin id) r) (hr : CaD X.K r gg) (hm : X.mg x = none) (hv : bootBuiltins x = some (.builtin id)) (ha : DP X a f) (hg : Gl X x := by rfl) (hn : x ≠ "__name__" := by decide) (hdb : (x == ("__debug__" : Str)) = false := by decide)
    (he : starEach [a] X.env = (false, eval a X.env) :: starEach [] X.env := by rfl) (hpl : (backTo pos (starEach [] X.env)).any (·.1) = false := by rfl) : DE X W true (.Call (.Name x p) [a] [] pos) (eCaP gg f) :=
  PE.imp (pe_callB hc hg hm hv (tOne ha he) hn hdb he hpl) fun _ _ _ h => caP_imp hr h
theorem DE.tyP {x : Str} {p : Pos} {T : String} {r : List V → Hp → VK → Prop} {gg : List D → Option D} (hc : CallR X (.type T) r) (hr : CaD X.K r gg) (hm : X.mg x = none) (hv : bootBuiltins x = some (.type T)) (ha : DP X a f) (hg : Gl X x := by rfl) (hn : x ≠ "__name__" := by decide) (hdb : (x == ("__debug__" : Str)) = false := by decide)
    (he : starEach [a] X.env = (false, eval a X.env) :: starEach [] X.env := by rfl) (hpl : (backTo pos (starEach [] X.env)).any (·.1) = false := by rfl) : DE X W true (.Call (.Name x p) [a] [] pos) (eCaP gg f) :=
  PE.imp (pe_callTy hc hg hm hv (tOne ha he) hn hdb he hpl) fun _ _ _ h => caP_imp hr h

def MuD (K : PySem.W.Frag) (r : V → List V → Hp → VK → Prop) (g : D → List D → Option (D × D)) : Prop :=
  ∀ (κ : Fr) (ρ : Env) (τ : List Tm) (vs : List V) (σ : St) (H : Hp) (d : D) (x : V) (ds : List D) (xs : List V) (c d' : D) (Q : VK), Stt K κ ρ (tms ds ++ (.v d :: τ)) (xs ++ (x :: vs)) σ H → xs.length = ds.length → g d ds = some (c, d') →
    (∀ v H', Stt K κ ρ (.v c :: (.v d' :: τ)) (v :: (x :: vs)) σ H' → Q v H') → r x xs H Q
def tyD (T : String) (d : D) : Bool := match d with
  | .lst _ _ => T == "list"
  | .dic _ _ _ => T == "dict"
  | .str _ => T == "str"
  | _ => false
theorem tyD_ok {K : PySem.W.Frag} {H Z : Hp} {T : String} {d : D} {v : V} {C : List Addr} (zz : Same Z H) (o : O K H Z d v C) (h : tyD T d = true) : tyV K T v H := by
  cases d with
  | lst b l =>
    obtain ⟨p, xs, rfl, hp, _⟩ := o.listV zz
    exact .inl ⟨by simpa [tyD] using h, xs, .of hp⟩
  | dic b ks l =>
    obtain ⟨p, xs, rfl, hp, _⟩ := o.dicV zz
    exact .inr (.inr (.inl ⟨by simpa [tyD] using h, .inl ⟨xs, hp⟩⟩))
  | str l =>
    rw [o.strV]
    exact (show T = "str" by simpa [tyD] using h)
  | _ => simp [tyD] at h
theorem Stt.lend {K : PySem.W.Frag} {κ : Fr} {ρ ρ2 : Env} {ts τ : List Tm} {xs vs : List V} {σ : St} {H : Hp} {ds : List D} (h : Stt K κ ρ (ts ++ τ) (xs ++ vs) σ H) (hl : xs.length = ts.length) (e : lend ρ ts = some (ds, ρ2)) :
    Stt K κ ρ2 (tms ds ++ τ) (xs ++ vs) σ H ∧ ds.length = xs.length := by
  obtain ⟨Z, A, B, c, t, g⟩ := h
  obtain ⟨B1, B2, rfl, t1, t2⟩ := t.cut hl
  obtain ⟨A2, G, c2, o, p⟩ := lend_os t1 c e
  refine ⟨⟨Z, A2, G ++ B2, c2, o.tms t2, g.sub (.of_perm ?_)⟩, o.length.symm⟩
  rw [← List.append_assoc, ← List.append_assoc]
  exact ((List.perm_append_comm).trans p).append_right B2
def eMut (T : String) (q : Bool) (g : D → List D → Option (D × D)) (f : Pf) (fs : Cm (List Tm)) : Cm Tm := fun ρ => match f ρ with
  | some ip => match getP ρ ip with
    | some d0 => if tyD T d0 = true then (fs ρ).bind fun ts ρ1 => if (q || ip.2.isEmpty) = true then match lend ρ1 ts with
        | some (ds, ρ2) => match getP ρ2 ip with
          | some d => match g d ds with
            | some (c, d') => .ok (.v c) (setP ρ2 ip d')
            | none => .bad
          | none => .bad
        | none => .bad
      else .bad else .bad
    | none => .bad
  | none => .bad
theorem mut_core {K : PySem.W.Frag} {r : V → List V → Hp → VK → Prop} {g : D → List D → Option (D × D)} (hr : MuD K r g) {κ : Fr} {ρ1 ρ2 : Env} {ts τ : List Tm} {xs vs : List V} {σ : St} {H : Hp} {ds : List D} {i : Nat} {p : List Pc} {x v : V} {d c d' : D} {Q : VK}
    (st : Stt K κ ρ1 (ts ++ τ) (xs ++ vs) σ H) (hl : xs.length = ts.length) (le : lend ρ1 ts = some (ds, ρ2)) (hx : σ[i]? = some (some x)) (hat : At H x p v) (hg : getP ρ2 (i, p) = some d) (hgg : g d ds = some (c, d'))
    (w : ∀ u H', Stt K κ (setP ρ2 (i, p) d') (.v c :: τ) (u :: vs) σ H' → Q u H') : r v xs H Q := by
  obtain ⟨s1, hdl⟩ := st.lend hl le
  obtain ⟨d0, hd, he⟩ := getP_some hg
  have s2 := s1.outP hd he hx hat
  have s3 := Stt.turn (τ1 := [.v d]) (v1 := [v]) (τ2 := tms ds) (v2 := xs) rfl (by rw [tms_len]; exact hdl.symm) s2
  refine hr κ _ τ vs σ H d v ds xs c d' Q s3 hdl.symm hgg fun u H' s4 => w u H' ?_
  have s5 := Stt.turn (τ1 := [.v c]) (v1 := [u]) (τ2 := [.v d']) (v2 := [v]) rfl rfl s4
  have hi : i < ρ2.length := (List.getElem?_eq_some_iff.mp hd).1
  have s6 := Stt.inP (p := p) (d := d0) s5 (by rw [List.getElem?_set_self hi]) he
  rw [List.set_set] at s6
  unfold setP
  rw [show ((ρ2[(i, p).1]?).join) = some d0 from by rw [show (i, p).1 = i from rfl, hd]; rfl]
  exact s6
theorem At.stays {H H' : Hp} {x v : V} {p : List Pc} {q : Bool} (h : At H x p v) (hq : (q || p.isEmpty) = true) (s : q = true → Same H H') : At H' x p v := by
  cases p with
  | nil => exact h
  | cons c p =>
    simp at hq
    exact h.same (s hq)
theorem DE.mut {T id : String} {name : Str} {r : V → List V → Hp → VK → Prop} {gg : D → List D → Option (D × D)} (pa : PlainAttrs T) (slot : Slot T name id) (hty : typeOf (.builtin id) = pure (.type "method_descriptor")) (hm : MtR X id r) (hr : MuD X.K r gg)
    (ho : DP X a f) (ha : DA X W q (e :: es) fs)
    (hbase : attributeBase a name X.env (eval a X.env) = eval a X.env := by rfl)
    (hfew : ((backTo cpos (starEach (e :: es) X.env)).all (fun x => !x.1) && (backToKw cpos (keywordEach [] X.env)).all (fun x => x.1.isSome)
      && decide ((e :: es).length + ([] : List Keyword).length + (if ([] : List Keyword).isEmpty then 0 else 1) < 30)) = true := by rfl)
    (hline : (apos.endLine == cpos.line) = true := by rfl) (hs : starEach (e :: es) X.env = (false, eval e X.env) :: starEach es X.env := by rfl) (hplain : (backTo cpos (starEach es X.env)).any (·.1) = false := by rfl) :
    DE X W false (.Call (.Attribute a name apos) (e :: es) [] cpos) (eMut T q gg f fs) := by
  refine PE.imp (pe_bm pa slot hty hm ho ha hbase hfew hline hs hplain) fun σ H Q ⟨κ, ρ, τ, vs, st, w⟩ => ?_
  unfold eMut at w
  split at w
  · rename_i ip hf
    obtain ⟨i, p⟩ := ip
    split at w
    · rename_i d1 hg1
      split at w
      · rename_i ht
        obtain ⟨d0, hd0, he0⟩ := getP_some hg1
        refine tDP_of st hf hg1 fun v H1 sm1 st1 ⟨x, hx, hat⟩ => ⟨?_, κ, ρ, τ, vs, st1, Out.wp_mono (Out.wp_bind w) (fun ts ρ1 w1 xs H2 hl st2 k2 => ?_) fun _ _ z => z⟩
        · obtain ⟨Z, A, B, C, cc, tt, gg', o, zz⟩ := Stt.peek st1 hd0 he0 hx hat
          exact tyD_ok zz o ht
        · split at w1
          · rename_i hq
            split at w1
            · rename_i ds ρ2 hle
              split at w1
              · rename_i d hg2
                split at w1
                · rename_i c d' hgg
                  exact mut_core hr st2 hl hle hx (hat.stays hq fun z => (k2 z).2) hg2 hgg fun u H' s3 => w1 u H' s3 fun z => nomatch z
                · exact w1.elim
              · exact w1.elim
            · exact w1.elim
          · exact w1.elim
      · exact w.elim
    · exact w.elim
  · exact w.elim
def eMut0 (T : String) (g : D → List D → Option (D × D)) (f : Pf) : Cm Tm := eMut T true g f aNil
theorem DE.mut0 {T id : String} {name : Str} {r : V → List V → Hp → VK → Prop} {gg : D → List D → Option (D × D)} (pa : PlainAttrs T) (slot : Slot T name id) (hty : typeOf (.builtin id) = pure (.type "method_descriptor")) (hm : MtR X id r) (hr : MuD X.K r gg)
    (ho : DP X a f) (hbase : attributeBase a name X.env (eval a X.env) = eval a X.env := by rfl) (hline : (apos.endLine == cpos.line) = true := by rfl) :
    DE X W false (.Call (.Attribute a name apos) [] [] cpos) (eMut0 T gg f) := by
  refine PE.imp (pe_bm0 pa slot hty hm ho hbase hline) fun σ H Q ⟨κ, ρ, τ, vs, st, w⟩ => ?_
  unfold eMut0 eMut at w
  split at w
  · rename_i ip hf
    obtain ⟨i, p⟩ := ip
    split at w
    · rename_i d1 hg1
      split at w
      · rename_i ht
        obtain ⟨d0, hd0, he0⟩ := getP_some hg1
        refine tDP_of st hf hg1 fun v H1 sm1 st1 ⟨x, hx, hat⟩ => ⟨?_, ?_⟩
        · obtain ⟨Z, A, B, C, cc, tt, gg', o, zz⟩ := Stt.peek st1 hd0 he0 hx hat
          exact tyD_ok zz o ht
        · simp only [aNil, Out.bind_ok, Bool.true_or, if_true] at w
          split at w
          · rename_i ds ρ2 hle
            split at w
            · rename_i d hg2
              split at w
              · rename_i c d' hgg
                exact mut_core (ts := []) (xs := []) hr st1 rfl hle hx hat hg2 hgg fun u H' s3 => w u H' s3 fun z => nomatch z
              · exact w.elim
            · exact w.elim
          · exact w.elim
      · exact w.elim
    · exact w.elim
  · exact w.elim

def appD : D → List D → Option (D × D)
  | .lst true l, [d] => if l.length < sizeLine then some (.non, .lst true (l ++ [d])) else none
  | _, _ => none
theorem mu_append {K : PySem.W.Frag} : MuD K rAppend appD := by
  intro κ ρ τ vs σ H d x ds xs c d' Q st hl e k
  unfold appD at e
  split at e
  · rename_i l d
    split at e
    · rename_i hz
      cases e
      obtain ⟨y, rfl⟩ := List.length_eq_one_iff.mp hl
      obtain ⟨p, zs, rfl, hp, hlen, s⟩ := Stt.app st
      exact ⟨p, zs, y, rfl, rfl, hp, by omega, k _ _ s.pushN⟩
    · cases e
  · cases e
def popD : D → List D → Option (D × D)
  | .lst true l, [] => match l[l.length - 1]? with
    | some d => some (d, .lst true l.dropLast)
    | none => none
  | _, _ => none
theorem Os.eraseIdx {K : PySem.W.Frag} {H Z : Hp} : ∀ {l : List D} {xs : List V} {A : List Addr} {n : Nat} {d : D}, Os K H Z l xs A → l[n]? = some d → ∃ v C R, xs[n]? = some v ∧ O K H Z d v C ∧ Os K H Z (l.eraseIdx n) (xs.eraseIdx n) R ∧ (C ++ R).Perm A
  | [], _, _, n, _, .nil, h => by simp at h
  | d :: l, _, _, 0, e, @Os.cons _ _ _ _ v A0 _ vs B0 h1 h2, h => by
    simp only [List.getElem?_cons_zero, Option.some.injEq] at h
    subst h
    exact ⟨v, A0, B0, rfl, h1, h2, .refl _⟩
  | d :: l, _, _, n + 1, e, @Os.cons _ _ _ _ v A0 _ vs B0 h1 h2, h => by
    obtain ⟨w, C, R, e1, o, os, p⟩ := Os.eraseIdx h2 (by simpa using h)
    refine ⟨w, C, A0 ++ R, by simpa using e1, o, .cons h1 os, ?_⟩
    have p1 : (C ++ (A0 ++ R)).Perm (A0 ++ (C ++ R)) := by
      rw [← List.append_assoc, ← List.append_assoc]
      exact List.perm_append_comm.append_right _
    exact p1.trans (p.append_left _)
theorem pop_core {K : PySem.W.Frag} {κ : Fr} {ρ : Env} {τ : List Tm} {vs : List V} {σ : St} {H : Hp} {x : V} {es l : List D} {ys : List V} {n : Nat} {d : D} (st : Stt K κ ρ (tms es ++ (.v (.lst true l) :: τ)) (ys ++ (x :: vs)) σ H) (hy : ys.length = es.length) (hd : l[n]? = some d) :
    ∃ p xs v, x = .ref p ∧ H p = some (.lst xs) ∧ xs.length = l.length ∧ xs[n]? = some v ∧ Stt K κ ρ (.v d :: (.v (.lst true (l.eraseIdx n)) :: τ)) (v :: (x :: vs)) σ (upd H p (.lst (xs.eraseIdx n))) := by
  obtain ⟨p, xs, e, hp, hln, k⟩ := Stt.chgO st hy
  have hn := (List.getElem?_eq_some_iff.mp hd).1
  have hx : xs[n]? = some (xs[n]'(by omega)) := List.getElem?_eq_getElem (by omega)
  refine ⟨p, xs, _, e, hp, hln, hx, ?_⟩
  refine k (xs.eraseIdx n) [xs[n]'(by omega)] (l.eraseIdx n) [d] fun Z A B _ _ o2 => ?_
  obtain ⟨v, C, R, ev, o, os, pp⟩ := o2.eraseIdx hd
  rw [hx] at ev
  cases ev
  refine ⟨C, R, ?_, os, (Sub.of_perm pp).trans sub_right⟩
  have := Os.cons o (Os.nil (K := K) (H := H) (Z := Z))
  rw [List.append_nil] at this
  exact this
theorem eraseIdx_last {α : Type} (l : List α) : l.eraseIdx (l.length - 1) = l.dropLast := by
  rw [List.eraseIdx_eq_take_drop_succ, List.dropLast_eq_take]
  cases l with
  | nil => simp
  | cons a l => simp
theorem mu_pop {K : PySem.W.Frag} : MuD K rPop popD := by
  intro κ ρ τ vs σ H d x ds xs c d' Q st hl e k
  unfold popD at e
  split at e
  · rename_i l
    split at e
    · rename_i d hd
      cases e
      obtain rfl := List.length_eq_zero_iff.mp hl
      obtain ⟨p, zs, v, rfl, hp, hln, ev, s⟩ := pop_core st rfl hd
      refine ⟨p, zs, v, rfl, rfl, hp, by rw [hln]; exact ev, ?_⟩
      rw [eraseIdx_last] at s
      rw [show l.length - 1 = zs.length - 1 by rw [hln], eraseIdx_last] at s
      exact k _ _ s
    · cases e
  · cases e
noncomputable def popAtD : D → List D → Option (D × D)
  | .lst true l, [.int i] => if inR i then match ixN l.length i with
    | some n => match l[n]? with
      | some d => some (d, .lst true (l.eraseIdx n))
      | none => none
    | none => none else none
  | _, _ => none
theorem mu_popAt {K : PySem.W.Frag} : MuD K rPopAt popAtD := by
  intro κ ρ τ vs σ H d x ds xs c d' Q st hl e k
  unfold popAtD at e
  split at e
  · rename_i l i
    split at e
    · rename_i hi
      split at e
      · rename_i n hn
        split at e
        · rename_i d hd
          cases e
          obtain ⟨y, rfl⟩ := List.length_eq_one_iff.mp hl
          have ey : y = .int i := Stt.intV (K := K) (κ := κ) (ρ := ρ) (σ := σ) (H := H) st
          subst ey
          obtain ⟨p, zs, v, rfl, hp, hln, ev, s⟩ := pop_core (es := [.int i]) st rfl hd
          exact ⟨p, zs, i, n, v, rfl, rfl, hp, by have := hi.lo; omega, by have := hi.hi; omega, by rw [hln]; exact (ixN_seq hn).1, ev, k _ _ s⟩
        · cases e
      · cases e
    · cases e
  · cases e
def revD : D → List D → Option (D × D)
  | .lst true l, [] => some (.non, .lst true l.reverse)
  | _, _ => none
theorem Os.rev {K : PySem.W.Frag} {H Z : Hp} : ∀ {l : List D} {xs : List V} {A : List Addr}, Os K H Z l xs A → ∃ B, Os K H Z l.reverse xs.reverse B ∧ B.Perm A
  | [], _, _, .nil => ⟨[], .nil, .refl _⟩
  | d :: l, _, _, @Os.cons _ _ _ _ v A0 _ vs B0 h1 h2 => by
    obtain ⟨B, o, p⟩ := Os.rev h2
    refine ⟨B ++ (A0 ++ []), ?_, ?_⟩
    · rw [List.reverse_cons, List.reverse_cons]
      exact o.append (.cons h1 .nil)
    · rw [List.append_nil]
      exact (List.perm_append_comm).trans (p.append_left A0)
theorem mu_reverse {K : PySem.W.Frag} : MuD K rReverse revD := by
  intro κ ρ τ vs σ H d x ds xs c d' Q st hl e k
  unfold revD at e
  split at e
  · rename_i l
    cases e
    obtain rfl := List.length_eq_zero_iff.mp hl
    obtain ⟨p, zs, rfl, hp, hln, kk⟩ := Stt.chg (es := []) (ys := []) st rfl
    refine ⟨p, zs, rfl, rfl, hp, k _ _ (Stt.pushN (kk zs.reverse l.reverse fun Z A B _ _ o => ?_))⟩
    obtain ⟨C, o2, p2⟩ := o.rev
    exact ⟨C, o2, (Sub.of_perm p2).trans sub_right⟩
  · cases e
def clrD : D → List D → Option (D × D)
  | .lst true l, [] => some (.non, .lst true [])
  | _, _ => none
theorem mu_clear {K : PySem.W.Frag} : MuD K rClear clrD := by
  intro κ ρ τ vs σ H d x ds xs c d' Q st hl e k
  unfold clrD at e
  split at e
  · rename_i l
    cases e
    obtain rfl := List.length_eq_zero_iff.mp hl
    obtain ⟨p, zs, rfl, hp, hln, kk⟩ := Stt.chg (es := []) (ys := []) st rfl
    exact ⟨p, zs, rfl, rfl, hp, k _ _ (Stt.pushN (kk [] [] fun Z A B _ _ o => ⟨[], .nil, A ++ B, by simp⟩))⟩
  · cases e
def extD : D → List D → Option (D × D)
  | .lst true l, [.lst _ m] => if D.owns m = false ∧ l.length + m.length ≤ sizeLine then some (.non, .lst true (l ++ m)) else none
  | _, _ => none
theorem mu_extend {K : PySem.W.Frag} : MuD K rExtend extD := by
  intro κ ρ τ vs σ H d x ds xs c d' Q st hl e k
  unfold extD at e
  split at e
  · rename_i l b m
    split at e
    · rename_i hz
      cases e
      obtain ⟨y, rfl⟩ := List.length_eq_one_iff.mp hl
      obtain ⟨p, zs, rfl, hp, hln, kk⟩ := Stt.chg (es := [.lst b m]) (ys := [y]) st rfl
      obtain ⟨Z, A, B, C, cc, tt, gg, o, zz⟩ := Stt.opn (d := .lst b m) (t := .v (.lst b m)) st rfl
      obtain ⟨p2, ys, rfl, hp2, D1, q1⟩ := o.listV zz
      refine ⟨p, p2, zs, ys, rfl, rfl, hp, hp2, by rw [hln, q1.length]; exact hz.2, k _ _ (Stt.pushN (kk _ _ fun Z' A' B' zz' o1 o2 => ?_))⟩
      cases o1 with
      | cons o1 o3 =>
        cases o3
        obtain ⟨p3, ys', e3, hp3, D2, q2⟩ := o1.listV zz'
        cases e3
        rw [hp2] at hp3
        cases hp3
        exact ⟨B' ++ [], o2.append (q2.nil_of hz.1), by rw [List.append_nil]; exact sub_right⟩
    · cases e
  · cases e
end
end Dl

set_option linter.all false
set_option maxRecDepth 100000
namespace Dl
open PySem L2
section
variable {K : PySem.W.Frag} {H Z : Hp}
theorem Os.put : ∀ {l : List D} {xs : List V} {B C : List Addr} {j : Nat} {d : D} {v : V}, Os K H Z l xs B → O K H Z d v C → ∃ A, Os K H Z (l.set j d) (xs.set j v) A ∧ Sub A (C ++ B)
  | [], _, _, C, j, d, v, .nil, o => ⟨[], .nil, C ++ [], by simp⟩
  | a :: l, _, _, C, 0, d, v, @Os.cons _ _ _ _ w A0 _ vs B0 h1 h2, o => ⟨C ++ B0, .cons o h2, .app .refl sub_right⟩
  | a :: l, _, _, C, j + 1, d, v, @Os.cons _ _ _ _ w A0 _ vs B0 h1 h2, o => by
    obtain ⟨A, o2, s⟩ := Os.put (j := j) h2 o
    refine ⟨A0 ++ A, .cons h1 o2, (Sub.app .refl s).trans (.of_perm ?_)⟩
    rw [← List.append_assoc, ← List.append_assoc]
    exact List.perm_append_comm.append_right _
theorem Os.dput {k : D} (hk : k.isKey = true) {d : D} {v : V} (o : O K H Z d v []) : ∀ {kvs : List (Key × V)} {ds : List D} {B : List Addr}, Os K H Z ds (kvs.map Prod.snd) B →
    ∃ A, Os K H Z (dputV (kvs.map fun p => keyD p.1) ds k d) ((kvs.map fun kv => if kv.1 = toKey k then (kv.1, v) else kv).map Prod.snd) A ∧ Sub A B
  | [], _, _, .nil => ⟨[], .nil, .refl⟩
  | (k', x) :: kvs, _, _, .cons h1 h2 => by
    obtain ⟨A, o2, s⟩ := Os.dput hk o h2
    simp only [List.map_cons, dputV, keyEq_key k' hk]
    by_cases e : k' = toKey k
    · simp only [e, decide_true, if_true]
      exact ⟨[] ++ A, .cons o o2, s.trans sub_right⟩
    · simp only [e, decide_false, Bool.false_eq_true, if_false]
      exact ⟨_ ++ A, .cons h1 o2, .app .refl s⟩
end
def stD (v k : D) : D → Option D
  | .lst true l => match k with
    | .int n => (ixN l.length n).map fun j => .lst true (l.set j v)
    | _ => none
  | .dic true ks vs => if k.isKey = true ∧ ks.length < sizeLine ∧ v.own = false then some (if dhas ks k = true then .dic true ks (dputV ks vs k v) else .dic true (ks ++ [k]) (vs ++ [v])) else none
  | _ => none
def gSt (f : Pf) (g : Cm Tm) : D → Tg := fun d ρ => match f ρ with
  | some ip => match getP ρ ip, g ρ with
    | some e, .ok t _ => match look ρ t with
      | some k => (stD d k e).map (setP ρ ip)
      | none => none
    | _, _ => none
  | none => none
section
variable {X : Cx} {W : WX} {q q1 q2 : Bool} {a b c e : Expr} {es : List Expr} {f : Pf} {g h : Cm Tm} {fs : Cm (List Tm)} {pos apos cpos : Pos} {i : Nat}
theorem PSet.or {t t' : TSet} (h : PSet X t) (h' : PSet X t') : PSet X (fun o i v H Q => t o i v H Q ∨ t' o i v H Q) := by
  intro pins s σ H o i v ov iv u Q I ro ri rv q
  rcases q with q | q
  · exact h pins s σ H o i v ov iv u Q I ro ri rv q
  · exact h' pins s σ H o i v ov iv u Q I ro ri rv q
theorem st_core {κ : Fr} {ρ : Env} {τ : List Tm} {vs : List V} {σ : St} {H : Hp} {K : PySem.W.Frag} {i : Nat} {p : List Pc} {x v y kv : V} {d e k e' : D} {Q : Hp → Prop} {C : List Addr} {Z0 : Hp}
    (st : Stt K κ ρ (.v d :: τ) (y :: vs) σ H) (hx : σ[i]? = some (some x)) (hat : At H x p v) (hg : getP ρ (i, p) = some e) (ok : O K H Z0 k kv C) (hs : stD d k e = some e')
    (w : ∀ H', Stt K κ (setP ρ (i, p) e') τ vs σ H' → Q H') : rSetL v kv y H Q ∨ rSetD v kv y H Q := by
  obtain ⟨d0, hd, he⟩ := getP_some hg
  have s2 := st.outP hd he hx hat
  have s3 := Stt.turn (τ1 := [.v e]) (v1 := [v]) (τ2 := [.v d]) (v2 := [y]) rfl rfl s2
  have hi : i < ρ.length := (List.getElem?_eq_some_iff.mp hd).1
  have fin : ∀ H', Stt K κ (ρ.set i (some (d0.putP p (.hol v)))) (.v e' :: τ) (v :: vs) σ H' → Q H' := fun H' s5 => by
    have s6 := Stt.inP (p := p) (d := d0) s5 (by rw [List.getElem?_set_self hi]) he
    rw [List.set_set] at s6
    refine w H' ?_
    unfold setP
    rw [show ((ρ[(i, p).1]?).join) = some d0 from by rw [show (i, p).1 = i from rfl, hd]; rfl]
    exact s6
  unfold stD at hs
  split at hs
  · rename_i l
    split at hs
    · rename_i n
      obtain ⟨j, hj, rfl⟩ := Option.map_eq_some_iff.mp hs
      obtain ⟨a, xs, rfl, ha, hl, kk⟩ := Stt.chg (es := [d]) (ys := [y]) s3 rfl
      refine .inl ⟨a, xs, n, j, rfl, ok.intV, ha, by rw [hl]; exact hj, fin _ (kk _ _ fun Z A B _ o1 o2 => ?_)⟩
      cases o1 with
      | cons o1 o3 =>
        cases o3
        obtain ⟨A2, o4, s⟩ := o2.put (j := j) o1
        exact ⟨A2, o4, by rw [List.append_nil]; exact s⟩
    · cases hs
  · rename_i ks ds
    split at hs
    · rename_i hc
      obtain ⟨hk, hz, hn⟩ := hc
      obtain ⟨a, kvs, rfl, ha, rfl, hl, kk⟩ := Stt.chgD (es := [d]) (ys := [y]) s3 rfl
      have one : ∀ {Z : Hp} {A : List Addr}, Os K H Z [d] [y] A → O K H Z d y [] := fun {Z A} o => by
        cases o with
        | cons o1 o3 =>
          cases o3
          have z := o1.noown hn
          subst z
          exact o1
      refine .inr ⟨a, _, rfl, .inl ⟨kvs, toKey k, ha, ok.keyV hk, by simpa using hz, rfl⟩, fin _ ?_⟩
      have hh := dhas_kvs hk kvs
      rw [← valV_any] at hh
      unfold putK
      split at hs
      · rename_i hd2
        cases hs
        rw [hh] at hd2
        rw [if_pos hd2]
        have q := kk (kvs.map fun kv => if kv.1 = toKey k then (kv.1, y) else kv) [] (dputV (kvs.map fun p => keyD p.1) ds k d) [] fun Z A B _ o1 o2 => by
          obtain ⟨A2, o4, s⟩ := o2.dput hk (one o1)
          exact ⟨[], A2, .nil, o4, s.trans sub_right⟩
        have ek : ((kvs.map fun kv => if kv.1 = toKey k then (kv.1, y) else kv).map fun p => keyD p.1) = kvs.map fun p => keyD p.1 := by
          rw [List.map_map]
          apply List.map_congr_left
          intro kv _
          simp only [Function.comp]
          split <;> rfl
        rw [ek] at q
        exact q
      · rename_i hd2
        cases hs
        rw [hh] at hd2
        rw [if_neg hd2]
        have q := kk (kvs ++ [(toKey k, y)]) [] (ds ++ [d]) [] fun Z A B _ o1 o2 => by
          refine ⟨[], B ++ ([] ++ []), .nil, ?_, ?_⟩
          · rw [List.map_append]
            exact o2.append (.cons (one o1) .nil)
          · simp only [List.append_nil, List.nil_append]
            exact sub_right
        rw [List.map_append] at q
        simp only [List.map_cons, List.map_nil, keyD_toKey hk] at q
        exact q
    · cases hs
  · cases hs
theorem DG.sub (hu : X.A.units + 1 < cLine) (ho : DP X a f) (hi : DE X W true b g)
    (ha : ∀ v, assign (.Subscript a b pos) X.env v = (do
      let ov ← holding [v] (eval a X.env)
      let iv ← holding [v, ov] (eval b X.env)
      standAt pos
      holding [v, ov, iv] (setItem ov iv v)
      release [v, ov, iv] []) := by intro _; rfl) : DG X [] (.Subscript a b pos) (gSt f g) := by
  refine PG.imp (pg_sub ho hi (PSet.or set_list (set_dict hu)) ha) fun v σ H Q ⟨κ, ρ, τ, vs, d, ρ', vo, st, e, w⟩ => ?_
  unfold gSt at e
  split at e
  · rename_i ip hf
    obtain ⟨i, p⟩ := ip
    split at e
    · rename_i e0 t ρ1 hg ht
      split at e
      · rename_i k hk
        obtain ⟨e', hs, rfl⟩ := Option.map_eq_some_iff.mp e
        refine tDP_of st hf hg fun ov H1 sm1 st1 ⟨x, hx, hat⟩ => ⟨κ, ρ, _, _, st1, ?_⟩
        rw [ht]
        intro iv H2 st2 k2
        obtain ⟨rfl, sm2⟩ := k2 rfl
        obtain ⟨Z, A, B, C, cc, tt, gg, o, zz⟩ := st2.opn hk
        exact st_core st2.pop hx (hat.same sm2) hg o hs fun H' s3 => w σ H' rfl Frm.refl s3
      · cases e
    · cases e
  · cases e
noncomputable def insD : D → List D → Option (D × D)
  | .lst true l, [.int i, d] => if 0 ≤ i ∧ inR i ∧ l.length < sizeLine then some (.non, .lst true (l.take i.toNat ++ [d] ++ l.drop i.toNat)) else none
  | _, _ => none
theorem Os.insert {K : PySem.W.Frag} {H Z : Hp} {d : D} {v : V} {C : List Addr} (o : O K H Z d v C) : ∀ {l : List D} {xs : List V} {B : List Addr} (n : Nat), Os K H Z l xs B → ∃ A, Os K H Z (l.take n ++ [d] ++ l.drop n) (xs.take n ++ [v] ++ xs.drop n) A ∧ A.Perm (C ++ B)
  | l, xs, B, 0, h => ⟨C ++ B, by simpa using Os.cons o h, .refl _⟩
  | [], _, _, n + 1, .nil => ⟨C ++ [], by simpa using Os.cons o .nil, .refl _⟩
  | a :: l, _, _, n + 1, @Os.cons _ _ _ _ w A0 _ vs B0 h1 h2 => by
    obtain ⟨A, o2, p⟩ := Os.insert o n h2
    refine ⟨A0 ++ A, by simpa using Os.cons h1 o2, (p.append_left A0).trans ?_⟩
    rw [← List.append_assoc, ← List.append_assoc]
    exact List.perm_append_comm.append_right _
theorem mu_insert {K : PySem.W.Frag} : MuD K (fun x vs H Q => ∃ (l : Addr) (xs : List V) (i : Int) (y : V), x = .ref l ∧ vs = [.int i, y] ∧ H l = some (.lst xs) ∧ xs.length < sizeLine ∧ 0 ≤ i ∧ i < 2 ^ 63 ∧
    Q .non (upd H l (.lst (xs.take i.toNat ++ [y] ++ xs.drop i.toNat)))) insD := by
  intro κ ρ τ vs σ H d x ds xs c d' Q st hl e k
  unfold insD at e
  split at e
  · rename_i l i d
    split at e
    · rename_i hz
      cases e
      obtain ⟨y1, y2, rfl⟩ : ∃ a b, xs = [a, b] := match xs, hl with | [a, b], _ => ⟨a, b, rfl⟩
      have ey : y1 = .int i := Stt.intV (K := K) (κ := κ) (ρ := ρ) (σ := σ) (H := H) st
      subst ey
      obtain ⟨p, zs, rfl, hp, hln, kk⟩ := Stt.chg (es := [.int i, d]) (ys := [.int i, y2]) st rfl
      refine ⟨p, zs, i, y2, rfl, rfl, hp, by omega, hz.1, by have := hz.2.1.hi; omega, k _ _ (Stt.pushN (kk _ _ fun Z A B _ o1 o2 => ?_))⟩
      cases o1 with
      | cons o1 o3 =>
        cases o3 with
        | cons o3 o4 =>
          cases o4
          obtain ⟨A2, o5, p5⟩ := o2.insert o3 i.toNat
          refine ⟨A2, o5, (Sub.of_perm p5).trans ?_⟩
          rw [List.append_nil]
          exact .app sub_right .refl
    · cases e
  · cases e

def rMe (r : V → List V → Hp → VK → Prop) : List V → Hp → VK → Prop := fun zs H Q => ∃ x xs, zs = x :: xs ∧ r x xs H Q
def eMe (T : String) (gg : List D → Option D) (g : Cm Tm) (fs : Cm (List Tm)) : Cm Tm := fun ρ => (g ρ).bind fun t ρ1 => match look ρ1 t with
  | some d0 => if tyD T d0 = true then (fs ρ1).bind fun ts ρ2 => match looks ρ2 (t :: ts) with
      | some ds => match gg ds with
        | some c => .ok (.v c) ρ2
        | none => .bad
      | none => .bad
    else .bad
  | none => .bad
theorem me_rest {K : PySem.W.Frag} {W : WX} {r : V → List V → Hp → VK → Prop} {gg : List D → Option D} (hr : CaD K (rMe r) gg) {κ : Fr} {ρ0 ρ2 : Env} {τ : List Tm} {vs : List V} {σ : St} {H2 : Hp} {t : Tm} {ts : List Tm} {v : V} {xs : List V} {Q : VK} {P : Tm → Env → Prop} {E : Exn → Env → Prop}
    (st2 : Stt K κ ρ2 (ts ++ (t :: τ)) (xs ++ (v :: vs)) σ H2) (hl : xs.length = ts.length) (w : Out.wp (match looks ρ2 (t :: ts) with
      | some ds => match gg ds with
        | some c => Out.ok (Tm.v c) ρ2
        | none => .bad
      | none => .bad) P E) (k : ∀ c, P (.v c) ρ2 → ∀ v H', Stt K κ ρ2 (.v c :: τ) (v :: vs) σ H' → Same H2 H' → Q v H') : r v xs H2 Q := by
  split at w
  · rename_i ds hd
    split at w
    · rename_i c hc
      have st3 := Stt.turn (τ1 := ts) (v1 := xs) (τ2 := [t]) (v2 := [v]) hl rfl st2
      obtain ⟨Z, A, B, cc, tt, gg', ow, zz⟩ := Stt.opns (ts := t :: ts) (xs := v :: xs) st3 (by simp [hl]) hd
      obtain ⟨x, ys, e, q⟩ := hr κ ρ2 τ vs σ H2 Z A B ds (v :: xs) c Q cc tt gg' ow zz hc fun u H' s' sm => k c w u H' s' sm
      cases e
      exact q
    · exact w.elim
  · exact w.elim
theorem DE.me {T id : String} {name : Str} {r : V → List V → Hp → VK → Prop} {gg : List D → Option D} (pa : PlainAttrs T) (slot : Slot T name id) (hty : typeOf (.builtin id) = pure (.type "method_descriptor")) (hm : MtR X id r) (hr : CaD X.K (rMe r) gg)
    (ho : DE X W q1 a g) (ha : DA X W q2 (e :: es) fs)
    (hbase : attributeBase a name X.env (eval a X.env) = eval a X.env := by rfl)
    (hfew : ((backTo cpos (starEach (e :: es) X.env)).all (fun x => !x.1) && (backToKw cpos (keywordEach [] X.env)).all (fun x => x.1.isSome)
      && decide ((e :: es).length + ([] : List Keyword).length + (if ([] : List Keyword).isEmpty then 0 else 1) < 30)) = true := by rfl)
    (hline : (apos.endLine == cpos.line) = true := by rfl) (hs : starEach (e :: es) X.env = (false, eval e X.env) :: starEach es X.env := by rfl) (hplain : (backTo cpos (starEach es X.env)).any (·.1) = false := by rfl) :
    DE X W (q1 && q2) (.Call (.Attribute a name apos) (e :: es) [] cpos) (eMe T gg g fs) := by
  refine PE.imp (pe_bm pa slot hty hm ho ha hbase hfew hline hs hplain) fun σ H Q ⟨κ, ρ, τ, vs, st, w⟩ => ?_
  refine ⟨κ, ρ, τ, vs, st, Out.wp_mono (Out.wp_bind w) (fun t ρ1 w1 v H1 st1 k1 => ?_) fun _ _ z => z⟩
  try dsimp only at w1
  split at w1
  · rename_i d0 hd0
    split at w1
    · rename_i ht
      obtain ⟨Z, A, B, C, cc, tt, gg', o, zz⟩ := st1.opn hd0
      refine ⟨tyD_ok zz o ht, κ, ρ1, t :: τ, v :: vs, st1, Out.wp_mono (Out.wp_bind w1) (fun ts ρ2 w2 xs H2 hl st2 k2 => ?_) fun e ρ2 z H2 d s2 eo => z H2 d s2.pop eo⟩
      exact me_rest (W := W) (ρ0 := ρ) hr st2 hl w2 fun c w3 u H' s' sm => w3 u H' s' fun hq => by
        rw [Bool.and_eq_true] at hq
        exact ⟨(k2 hq.2).1.trans (k1 hq.1).1, ((k1 hq.1).2.trans (k2 hq.2).2).trans sm⟩
    · exact w1.elim
  · exact w1.elim
theorem DE.me0 {T id : String} {name : Str} {r : V → List V → Hp → VK → Prop} {gg : List D → Option D} (pa : PlainAttrs T) (slot : Slot T name id) (hty : typeOf (.builtin id) = pure (.type "method_descriptor")) (hm : MtR X id r) (hr : CaD X.K (rMe r) gg)
    (ho : DE X W q a g) (hbase : attributeBase a name X.env (eval a X.env) = eval a X.env := by rfl) (hline : (apos.endLine == cpos.line) = true := by rfl) :
    DE X W q (.Call (.Attribute a name apos) [] [] cpos) (eMe T gg g aNil) := by
  refine PE.imp (pe_bm0 pa slot hty hm ho hbase hline) fun σ H Q ⟨κ, ρ, τ, vs, st, w⟩ => ?_
  refine ⟨κ, ρ, τ, vs, st, Out.wp_mono (Out.wp_bind w) (fun t ρ1 w1 v H1 st1 k1 => ?_) fun _ _ z => z⟩
  try dsimp only at w1
  split at w1
  · rename_i d0 hd0
    split at w1
    · rename_i ht
      obtain ⟨Z, A, B, C, cc, tt, gg', o, zz⟩ := st1.opn hd0
      refine ⟨tyD_ok zz o ht, ?_⟩
      exact me_rest (W := W) (ρ0 := ρ) (ts := []) (xs := []) hr st1 rfl w1 fun c w3 u H' s' sm => w3 u H' s' fun hq => ⟨(k1 hq).1, (k1 hq).2.trans sm⟩
    · exact w1.elim
  · exact w1.elim
def joinL (a : List Nat) : List (List Nat) → List Nat
  | [] => []
  | [x] => x
  | x :: y :: r => x ++ a ++ joinL a (y :: r)
def joinD : List D → Option D
  | [.str a, .lst _ l] => (strsL l).bind fun ys => if (ys.map List.length).sum + ys.length * a.length ≤ 16777216 then some (.str (joinL a ys)) else none
  | [.str a, .tup l] => (strsL l).bind fun ys => if (ys.map List.length).sum + ys.length * a.length ≤ 16777216 then some (.str (joinL a ys)) else none
  | _ => none
end
end Dl

set_option linter.all false
set_option maxRecDepth 100000
namespace Dl
open PySem PySem.Spec PyProof.Rows L2
section
variable {K : PySem.W.Frag}
theorem str_join0 (a : List Nat) : ∀ ys : List (List Nat), Str.join (⟨a.toArray⟩ : Str) (ys.map fun n => (⟨n.toArray⟩ : Str)) = ⟨(joinL a ys).toArray⟩
  | [] => rfl
  | [x] => rfl
  | x :: y :: r => by
    have ih := str_join0 a (y :: r)
    show (⟨x.toArray⟩ : Str) ++ ⟨a.toArray⟩ ++ Str.join (⟨a.toArray⟩ : Str) ((y :: r).map fun n => (⟨n.toArray⟩ : Str)) = _
    rw [ih, str_app, str_app]
    rfl
theorem str_join (a : List Nat) (ys : List (List Nat)) : Txt.join (⟨a.toArray⟩ : Str) (ys.map fun n => (⟨n.toArray⟩ : Str)) = ⟨(joinL a ys).toArray⟩ :=
  (PySem.StrLaws.glued_eq_join _ _).trans (str_join0 a ys)
theorem strs_len (ys : List (List Nat)) : ((ys.map fun n => (⟨n.toArray⟩ : Str)).map (·.length)) = ys.map List.length := by
  rw [List.map_map]
  apply List.map_congr_left
  intro x _
  exact str_len x
abbrev rJoin (K : PySem.W.Frag) : V → List V → Hp → VK → Prop := fun x xs H Q => ∃ a p, ∃ ys : List Str, x = .str a ∧ xs = [.ref p] ∧ (SqL K H p (ys.map V.str) ∨ SqT K H p (ys.map V.str)) ∧
    (ys.map (·.length)).sum + ys.length * a.length ≤ 16777216 ∧ Q (.str (Txt.join a ys)) H
theorem ca_join : CaD K (rMe (rJoin K)) joinD := by
  intro κ ρ τ vs σ H Z A B ds xs c Q cc tt gg ow zz e k
  have fin : ∀ (a : List Nat) (ys : List (List Nat)), (ys.map List.length).sum + ys.length * a.length ≤ 16777216 → c = .str (joinL a ys) →
      (((ys.map fun n => (⟨n.toArray⟩ : Str)).map (·.length)).sum + (ys.map fun n => (⟨n.toArray⟩ : Str)).length * (⟨a.toArray⟩ : Str).length ≤ 16777216 ∧ Q (.str (Txt.join (⟨a.toArray⟩ : Str) (ys.map fun n => (⟨n.toArray⟩ : Str)))) H) := fun a ys hz hc => by
    subst hc
    rw [str_join, strs_len, List.length_map, str_len]
    exact ⟨hz, k _ H (.mk cc tt gg (.str _)) (Same.refl H)⟩
  unfold joinD at e
  split at e
  · rename_i a o l
    obtain ⟨ys, e1, e2⟩ := Option.bind_eq_some_iff.mp e
    split at e2
    · rename_i hz
      cases ow with
      | cons o1 o2 =>
        cases o2 with
        | cons o2 o3 =>
          cases o3
          obtain ⟨p, zs, rfl, hp, C2, q1⟩ := o2.listV zz
          have ez := q1.strs e1
          subst ez
          exact ⟨_, _, rfl, _, p, _, o1.strV, rfl, .inl (.of hp), fin a ys hz (Option.some.inj e2).symm⟩
    · cases e2
  · rename_i a l
    obtain ⟨ys, e1, e2⟩ := Option.bind_eq_some_iff.mp e
    split at e2
    · rename_i hz
      cases ow with
      | cons o1 o2 =>
        cases o2 with
        | cons o2 o3 =>
          cases o3
          obtain ⟨p, zs, rfl, hp, q1⟩ := o2.tupV zz
          have ez := q1.strs e1
          subst ez
          exact ⟨_, _, rfl, _, p, _, o1.strV, rfl, .inr hp, fin a ys hz (Option.some.inj e2).symm⟩
    · cases e2
  · cases e

end
section
variable {X : Cx} {W : WX} {q q1 q2 : Bool} {a b c e : Expr} {f g : Cm Tm} {fs : Cm (List Tm)} {pos p pos' p' : Pos}
noncomputable def inG (lo hi : Int) : Bool := decide (inR lo) && decide (inR hi) && @decide ((hi - lo).toNat ≤ 16777216) (Classical.propDecidable _)
theorem rgOk_of {lo hi : Int} (h : inG lo hi = true) : RgOk lo hi := by
  unfold inG at h
  simp only [Bool.and_eq_true, decide_eq_true_eq] at h
  obtain ⟨⟨h1, h2⟩, h3⟩ := h
  have h4 := h1.two
  have h5 := h2.two
  unfold RgOk
  omega
noncomputable def eRg1 (t : Bool) (f : Cm Tm) : Cm Tm := fun ρ => (f ρ).bind fun t1 ρ1 => match look ρ1 t1 with
  | some (.int n) => if inG 0 n = true then .ok (.v (if t = true then .tup (rngD 0 n.toNat) else .lst true (rngD 0 n.toNat))) ρ1 else .bad
  | _ => .bad
noncomputable def eRg2 (t : Bool) (f g : Cm Tm) : Cm Tm := fun ρ => (f ρ).bind fun t1 ρ1 => (g ρ1).bind fun t2 ρ2 => match look ρ2 t1, look ρ2 t2 with
  | some (.int m), some (.int n) => if inG m n = true then .ok (.v (if t = true then .tup (rngD m (n - m).toNat) else .lst true (rngD m (n - m).toNat))) ρ2 else .bad
  | _, _ => .bad
theorem Os.rng {K : PySem.W.Frag} {H Z : Hp} (lo : Int) : ∀ (n : Nat), Os K H Z (rngD lo n) ((List.range n).map fun (i : Nat) => V.int (lo + (i : Nat))) [] := fun n => by
  unfold rngD
  generalize List.range n = l
  induction l with
  | nil => exact .nil
  | cons i l ih => exact .cons (A := []) (B := []) (.int _) ih
theorem DE.listRg1 (hc : X.calm = true) (hm : X.mg "list" = none) (hm2 : X.mg "range" = none) (ha : DE X W q a f) (hg : Gl X "list" := by rfl) (hg2 : Gl X "range" := by rfl) (na : starEach [a] X.env = (false, eval a X.env) :: starEach [] X.env := by rfl)
    (nb : starEach [.Call (.Name "range" p) [a] [] pos] X.env = (false, eval (.Call (.Name "range" p) [a] [] pos) X.env) :: starEach [] X.env := by rfl) : DE X W q (.Call (.Name "list" p') [.Call (.Name "range" p) [a] [] pos] [] pos') (eRg1 false f) := by
  refine PE.imp (pe_listRg hc hg hm (prg_1 hg2 hm2 ha na) nb) fun σ H Q ⟨κ, ρ, τ, vs, st, w⟩ => ?_
  refine ⟨κ, ρ, τ, vs, st, Out.wp_mono (Out.wp_bind w) (fun t ρ1 w1 v H1 st1 k1 => ?_) fun _ _ z => z⟩
  try dsimp only at w1
  split at w1
  · rename_i n hn
    split at w1
    · rename_i hr
      obtain ⟨Z, A, B, C1, cc, tt, gg, o1, zz⟩ := st1.opn hn
      refine ⟨n, o1.intV, rgOk_of hr, fun r hr => ?_⟩
      have o := Os.rng (K := X.K) (H := H1) (Z := Z) 0 n.toNat
      refine w1 _ _ ?_ fun hq => ⟨(k1 hq).1, (k1 hq).2.trans (Same_new hr)⟩
      have e : rgV 0 n = (List.range n.toNat).map fun (i : Nat) => V.int (0 + (i : Nat)) := by unfold rgV; rw [Int.sub_zero]
      rw [e]
      exact .mkLst cc tt gg o hr
    · exact w1.elim
  · exact w1.elim
theorem DE.listRg2 (hc : X.calm = true) (hm : X.mg "list" = none) (hm2 : X.mg "range" = none) (ha : DE X W q1 a f) (hb : DE X W q2 b g) (hg : Gl X "list" := by rfl) (hg2 : Gl X "range" := by rfl) (na : starEach [a, b] X.env = (false, eval a X.env) :: starEach [b] X.env := by rfl)
    (nb : starEach [b] X.env = (false, eval b X.env) :: starEach [] X.env := by rfl) (hp : (backTo pos (starEach [b] X.env)).any (·.1) = false := by rfl)
    (nc : starEach [.Call (.Name "range" p) [a, b] [] pos] X.env = (false, eval (.Call (.Name "range" p) [a, b] [] pos) X.env) :: starEach [] X.env := by rfl) : DE X W (q1 && q2) (.Call (.Name "list" p') [.Call (.Name "range" p) [a, b] [] pos] [] pos') (eRg2 false f g) := by
  refine PE.imp (pe_listRg hc hg hm (prg_2 hg2 hm2 ha hb na nb hp) nc) fun σ H Q ⟨κ, ρ, τ, vs, st, w⟩ => ?_
  refine ⟨κ, ρ, τ, vs, st, Out.wp_mono (Out.wp_bind w) (fun t ρ1 w1 v H1 st1 k1 => ?_) fun _ _ z => z⟩
  refine ⟨κ, ρ1, t :: τ, v :: vs, st1, Out.wp_mono (Out.wp_bind w1) (fun t2 ρ2 w2 u H2 st2 k2 => ?_) fun e ρ2 z H2 d s2 eo => z H2 d s2.pop eo⟩
  try dsimp only at w2
  split at w2
  · rename_i m n hm hn
    split at w2
    · rename_i hr
      obtain ⟨Z, A, B, C1, C2, cc, tt, gg, o1, o2, zz⟩ := st2.opn2 hn hm
      refine ⟨m, n, o2.intV, o1.intV, rgOk_of hr, fun r hr => ?_⟩
      have o := Os.rng (K := X.K) (H := H2) (Z := Z) m (n - m).toNat
      refine w2 _ _ ?_ fun hq => ?_
      · exact .mkLst cc tt gg o hr
      · rw [Bool.and_eq_true] at hq
        exact ⟨(k2 hq.2).1.trans (k1 hq.1).1, ((k1 hq.1).2.trans (k2 hq.2).2).trans (Same_new hr)⟩
    · exact w2.elim
  · exact w2.elim
theorem call_list_txt (hc : X.calm = true) : CallR X (.type "list") (fun xs H Q => ∃ z : List Nat, xs = [.str ⟨z.toArray⟩] ∧ z.length ≤ sizeLine ∧ ∀ l, H l = none → Q (.ref l) (upd H l (.lst (z.map fun c => V.str ⟨#[c]⟩)))) := by
  intro pins s σ H xs us Q I r h
  obtain ⟨z, rfl, hz, q⟩ := h
  obtain ⟨u, rfl, t, rfl⟩ := vals1 r
  refine call_list_str (I.ok.hd hc) ⟨z.toArray⟩ t (fun h' tk acc c' hk e' hi => ?_) (by simpa using hz)
  refine ⟨.ref s.heap.objs.size, _, I.laid (o := .lst (z.map fun c => V.str ⟨#[c]⟩)) hk (Nat.le_refl _) (show ObjOk X.prog X.w _ _ _ (.lst _) from ⟨by rw [List.length_map]; exact hz, acc.toList, c', ?_, by rw [Array.toArray_toList]; exact e'⟩), rfl, q _ (I.hok.fresh (Nat.le_refl _))⟩
  have hl : acc.toList.length = z.length := by rw [Array.length_toList, hi.1]; simp
  refine vals_of_at (by rw [List.length_map, hl]) fun j x u hx hu => ?_
  obtain ⟨c, w, ec, rfl⟩ := hi.2 j u (by rw [← hu, Array.getElem?_toList])
  rw [List.getElem?_map] at hx
  have ec' : z[j]? = some c := by simpa using ec
  rw [ec'] at hx
  cases hx
  exact ⟨w, rfl⟩
def listSD : List D → Option D
  | [.str z] => if z.length ≤ sizeLine then some (.lst true (z.map fun c => .str [c])) else none
  | _ => none
theorem ca_listS {K : PySem.W.Frag} : CaD K (fun xs H Q => ∃ z : List Nat, xs = [.str ⟨z.toArray⟩] ∧ z.length ≤ sizeLine ∧ ∀ l, H l = none → Q (.ref l) (upd H l (.lst (z.map fun c => V.str ⟨#[c]⟩)))) listSD := by
  intro κ ρ τ vs σ H Z A B ds xs c Q cc tt gg ow zz e k
  unfold listSD at e
  split at e
  · rename_i z
    split at e
    · rename_i hz
      cases e
      cases ow with
      | cons o1 o2 =>
        cases o2
        refine ⟨z, by rw [o1.strV], hz, fun l hl => k _ _ (.mkLst cc tt gg ?_ hl) (Same_new hl)⟩
        clear hz o1 k
        induction z with
        | nil => exact .nil
        | cons a z ih => exact .cons (A := []) (B := []) (.str [a]) ih
    · cases e
  · cases e

def leD' (a b : D) : Bool := PySem.W.dataLe false (fun d : D => d.P) a b
def sortD (l : List D) : List D := l.mergeSort leD'
def D.scalar : D → Bool
  | .int _ => true
  | .str _ => true
  | .bl _ => true
  | .lst _ _ => true
  | _ => false
def D.tup1 : D → Bool
  | .tup (_ :: _) => true
  | _ => false
def sortOk (l : List D) : Bool := l.all (fun a => l.all fun b => PySem.W.alike a.P b.P) && (l.all D.tup1 || l.all D.scalar) && D.pls l && l.all fun d => decide (d.dep ≤ 64)
def rSortD (K : PySem.W.Frag) : List V → Hp → VK → Prop := fun vs H Q => ∃ (p : Addr) (l : List (V × D)), vs = [V.ref p] ∧ SqL K H p (l.map Prod.fst) ∧ DpAll K H (l.map Prod.fst) (l.map fun x => x.2.P) ∧ sortOk (l.map Prod.snd) = true ∧
  ∀ p', H p' = none → Q (.ref p') (upd H p' (.lst ((l.mergeSort (PySem.W.dataLe false fun x => x.2.P)).map Prod.fst)))
theorem each_of_vals {l : List (V × D)} : ∀ {us : List Value}, Vals (l.map Prod.fst) us → PySem.W.EachIs (fun u (x : V × D) => RelV x.1 u) us l := by
  induction l with
  | nil => intro us h; cases h; exact .nil
  | cons x l ih =>
    intro us h
    cases h with
    | cons r t => exact .cons r (ih t)
theorem vals_of_each {l : List (V × D)} : ∀ {us : List Value}, PySem.W.EachIs (fun u (x : V × D) => RelV x.1 u) us l → Vals (l.map Prod.fst) us := by
  induction l with
  | nil => intro us h; cases h; exact .nil
  | cons x l ih =>
    intro us h
    cases h with
    | cons r t => exact .cons r (ih t)
theorem cr_sortD (hu : X.A.units + 200 < cLine) : CallR X (.builtin "sorted") (rSortD X.K) := by
  intro pins s σ H vs us Q I r h
  obtain ⟨p, l, rfl, hs, hd, ok, q⟩ := h
  obtain ⟨its, rv, hl, hz⟩ := I.list hs
  rw [Vals.ref1 r]
  obtain ⟨as, ra⟩ := Dp.readsAll I _ _ its hd rv
  unfold sortOk at ok
  simp only [Bool.and_eq_true, Bool.or_eq_true, List.all_eq_true] at ok
  obtain ⟨⟨⟨ok1, ok2⟩, ok3⟩, ok4⟩ := ok
  have al : PySem.W.AllAlike (l.map fun x => x.2.P) := fun d hd d' hd' => by
    obtain ⟨x, hx, rfl⟩ := List.mem_map.mp hd
    obtain ⟨x', hx', rfl⟩ := List.mem_map.mp hd'
    exact ok1 x.2 (List.mem_map.mpr ⟨x, hx, rfl⟩) x'.2 (List.mem_map.mpr ⟨x', hx', rfl⟩)
  have so : PySem.W.Sortable (l.map fun x => x.2.P) := by
    rcases ok2 with h | h
    · refine .inl fun d hd => ?_
      obtain ⟨x, hx, rfl⟩ := List.mem_map.mp hd
      have := h x.2 (List.mem_map.mpr ⟨x, hx, rfl⟩)
      revert this
      cases x.2 with
      | tup m => cases m with
        | nil => intro h; simp [D.tup1] at h
        | cons a m => intro _; exact ⟨a.P, D.Ps m, by simp [D.P, D.Ps]⟩
      | _ => intro h; simp [D.tup1] at h
    · refine .inr fun d hd => ?_
      obtain ⟨x, hx, rfl⟩ := List.mem_map.mp hd
      have := h x.2 (List.mem_map.mpr ⟨x, hx, rfl⟩)
      revert this
      cases x.2 <;> simp [D.scalar, D.P]
  refine PySem.W.sorted_data (R := fun u (x : V × D) => RelV x.1 u) (enc := fun x => x.2.P) (bs := l) hl.isList (each_of_vals rv) (PySem.W.readsAll_each (fun x : V × D => x.2.P) ra) al so ?_ (fun x hx => ?_) fun out ho eo => ?_
  · rw [List.length_map] at hz; exact hz
  · have := ok4 x.2 (List.mem_map.mpr ⟨x, hx, rfl⟩)
    rw [decide_eq_true_eq] at this
    rw [D.P_depth]
    omega
  · obtain ⟨ep, he'⟩ := PyProof.Rows.sortedAll_at s.heap its out.toArray
    have hlen : ((l.mergeSort (PySem.W.dataLe false fun x : V × D => x.2.P)).map Prod.fst).length ≤ sizeLine := by
      rw [List.length_map, List.length_mergeSort]
      rw [List.length_map] at hz
      exact hz
    exact ⟨.ref _, upd H (s.heap.objs.size + 1) (.lst ((l.mergeSort (PySem.W.dataLe false fun x : V × D => x.2.P)).map Prod.fst)), I.laid (t' := s.toks) (fun _ _ => PyProof.Rows.sortedAll_old) (Nat.le_succ _) ⟨hlen, out, ep, vals_of_each eo, he'⟩, rfl, q _ (I.hok.fresh (Nat.le_succ _))⟩
def sortedD : List D → Option D
  | [.lst _ l] => if D.owns l = false ∧ sortOk l = true then some (.lst true (sortD l)) else none
  | _ => none
theorem zip_fst {α β : Type} : ∀ {xs : List α} {ys : List β}, xs.length = ys.length → (xs.zip ys).map Prod.fst = xs ∧ (xs.zip ys).map Prod.snd = ys
  | [], [], _ => ⟨rfl, rfl⟩
  | [], _ :: _, h => by simp at h
  | _ :: _, [], h => by simp at h
  | x :: xs, y :: ys, h => by
    obtain ⟨h1, h2⟩ := zip_fst (xs := xs) (ys := ys) (by simpa using h)
    simp [h1, h2]
theorem Os.pairs {K : PySem.W.Frag} {H Z : Hp} : ∀ {l : List D} {xs : List V}, Os K H Z l xs [] → ∀ x ∈ xs.zip l, O K H Z x.2 x.1 []
  | [], _, .nil => fun x h => by simp at h
  | d :: l, x :: xs, h => by
    generalize hA : ([] : List Addr) = A at h
    cases h with
    | cons h1 h2 =>
      obtain ⟨e1, e2⟩ := List.append_eq_nil_iff.mp hA.symm
      subst e1 e2
      intro y hy
      rcases List.mem_cons.mp hy with rfl | hy
      · exact h1
      · exact Os.pairs h2 y hy
theorem Os.of_pairs {K : PySem.W.Frag} {H Z : Hp} : ∀ {l : List (V × D)}, (∀ x ∈ l, O K H Z x.2 x.1 []) → Os K H Z (l.map Prod.snd) (l.map Prod.fst) []
  | [], _ => .nil
  | x :: l, h => .cons (A := []) (B := []) (h x List.mem_cons_self) (Os.of_pairs fun y hy => h y (List.mem_cons_of_mem _ hy))
theorem Ps_map : ∀ l : List D, D.Ps l = l.map D.P
  | [] => rfl
  | d :: l => by simp only [D.Ps, List.map_cons, Ps_map l]
theorem ca_sorted {K : PySem.W.Frag} : CaD K (rSortD K) sortedD := by
  intro κ ρ τ vs σ H Z A B ds xs c Q cc tt gg ow zz e k
  unfold sortedD at e
  split at e
  · rename_i o l
    split at e
    · rename_i hc
      cases e
      cases ow with
      | cons o1 o2 =>
        cases o2
        obtain ⟨p, zs, rfl, hp, C2, q1⟩ := o1.listV zz
        have r1 := q1.nil_of hc.1
        obtain ⟨z1, z2⟩ := zip_fst r1.length
        have pl : D.pls l = true := by
          have := hc.2
          unfold sortOk at this
          simp only [Bool.and_eq_true] at this
          exact this.1.2
        have pr := r1.pairs
        refine ⟨p, zs.zip l, rfl, by rw [z1]; exact .of hp, ?_, by rw [z2]; exact hc.2, fun p' hp' => ?_⟩
        · have e2 : ((zs.zip l).map fun x => x.2.P) = D.Ps l := by
            rw [Ps_map, show (fun x : V × D => x.2.P) = D.P ∘ Prod.snd from rfl, ← List.map_map, z2]
          rw [z1, e2]
          exact r1.dp zz pl
        · have om := Os.of_pairs (l := (zs.zip l).mergeSort (PySem.W.dataLe false fun x : V × D => x.2.P)) fun x hx => pr x ((List.mergeSort_perm _ _).mem_iff.mp hx)
          have e3 : (((zs.zip l).mergeSort (PySem.W.dataLe false fun x : V × D => x.2.P)).map Prod.snd) = sortD l := by
            unfold sortD
            rw [List.map_mergeSort (r := PySem.W.dataLe false fun x : V × D => x.2.P) (s := leD') (f := Prod.snd) (fun a _ b _ => rfl), z2]
          rw [e3] at om
          exact k _ _ (.mkLst cc tt gg om hp') (Same_new hp')
    · cases e
  · cases e

def inSD (n : Bool) : D → D → Option D
  | .str [c], .str z => some (.bl (decide (c ∈ z) ^^ n))
  | _, _ => none
def inLD (n : Bool) : D → D → Option D
  | d, .lst _ l => if deepOk d (.lst false l) then some (.bl ((l.any fun z => eqD z d) ^^ n)) else none
  | _, _ => none
theorem op2_inS {K : PySem.W.Frag} : Op2 K true rInS (inSD false) := op2_pure fun Z C1 C2 σ H va vb a b c Q zz o1 o2 e k => by
  unfold inSD at e
  split at e
  · rename_i c z
    cases e
    exact ⟨c, _, o1.strV, o2.strV, k H (Same.refl H) _ (fun Z => by simpa using O.bl _) rfl⟩
  · cases e
theorem op2_notInS {K : PySem.W.Frag} : Op2 K true rNotInS (inSD true) := op2_pure fun Z C1 C2 σ H va vb a b c Q zz o1 o2 e k => by
  unfold inSD at e
  split at e
  · rename_i c z
    cases e
    exact ⟨c, _, o1.strV, o2.strV, k H (Same.refl H) _ (fun Z => by simpa using O.bl (!decide (c ∈ z))) rfl⟩
  · cases e
theorem any_Ps (l : List D) (d : D) : ((D.Ps l).any fun z => PyData.eqv z d.P) = l.any fun z => eqD z d := by
  rw [Ps_map, List.any_map]
  rfl
theorem op2_inD {K : PySem.W.Frag} : Op2 K true (rInD K) (inLD false) := op2_pure fun Z C1 C2 σ H va vb a b c Q zz o1 o2 e k => by
  unfold inLD at e
  split at e
  · rename_i o l
    split at e
    · rename_i hd
      cases e
      have sl : SeqAt.shaped (PyData.list (D.Ps l)) = true := shaped_P (d := .lst false l) hd.2.1 hd.2.2.2
      have dl : Dp K H vb (.list (D.Ps l)) := o2.dp zz (by have := hd.2.1; simpa [D.pl] using this)
      refine ⟨a.P, D.Ps l, o1.dp zz hd.1, dl, shaped_P hd.1 hd.2.2.1, sl, ?_⟩
      rw [any_Ps]
      exact k H (Same.refl H) _ (fun Z => by simpa using O.bl (l.any fun z => eqD z a)) rfl
    · cases e
  · cases e
theorem op2_notInD {K : PySem.W.Frag} : Op2 K true (rNotInD K) (inLD true) := op2_pure fun Z C1 C2 σ H va vb a b c Q zz o1 o2 e k => by
  unfold inLD at e
  split at e
  · rename_i o l
    split at e
    · rename_i hd
      cases e
      have sl : SeqAt.shaped (PyData.list (D.Ps l)) = true := shaped_P (d := .lst false l) hd.2.1 hd.2.2.2
      have dl : Dp K H vb (.list (D.Ps l)) := o2.dp zz (by have := hd.2.1; simpa [D.pl] using this)
      refine ⟨a.P, D.Ps l, o1.dp zz hd.1, dl, shaped_P hd.1 hd.2.2.1, sl, ?_⟩
      rw [any_Ps]
      exact k H (Same.refl H) _ (fun Z => by simpa using O.bl (!l.any fun z => eqD z a)) rfl
    · cases e
  · cases e
def inDD (n : Bool) : D → D → Option D := fun a b => (inSD n a b).or (inLD n a b)
theorem DE.isin (hu : X.A.units + 65 < cLine) (ha : DE X W q1 a f) (hb : DE X W q2 b g) (hm : behindInMarks .In b = false := by rfl) : DE X W (q1 && q2) (.Compare a [.In] [b] pos) (e2 (inDD false) f g) := DE.cmp (op_inS.or (op_inD hu)) (op2_inS.or op2_inD) ha hb hm
theorem DE.notin (hu : X.A.units + 65 < cLine) (ha : DE X W q1 a f) (hb : DE X W q2 b g) (hm : behindInMarks .NotIn b = false := by rfl) : DE X W (q1 && q2) (.Compare a [.NotIn] [b] pos) (e2 (inDD true) f g) := DE.cmp (op_notInS.or (op_notInD hu)) (op2_notInS.or op2_notInD) ha hb hm
theorem DT.isin (hu : X.A.units + 65 < cLine) (ha : DE X W q1 a f) (hb : DE X W q2 b g) (hm : behindInMarks .In b = false := by rfl) : DT X W (.Compare a [.In] [b] pos) (toB (e2 (inDD false) f g)) := DT.cmp (op_inS.or (op_inD hu)) (op2_inS.or op2_inD) ha hb hm
theorem DT.notin (hu : X.A.units + 65 < cLine) (ha : DE X W q1 a f) (hb : DE X W q2 b g) (hm : behindInMarks .NotIn b = false := by rfl) : DT X W (.Compare a [.NotIn] [b] pos) (toB (e2 (inDD true) f g)) := DT.cmp (op_notInS.or (op_notInD hu)) (op2_notInS.or op2_notInD) ha hb hm

theorem call_repr_sc : CallR X (.builtin "repr") (fun xs H Q => (∃ b, xs = [.bl b] ∧ Q (.str (if b then "True" else "False")) H) ∨ (xs = [.non] ∧ Q (.str "None") H)) := by
  intro pins s σ H xs us Q I r h
  rcases h with ⟨b, rfl, q⟩ | ⟨rfl, q⟩
  · obtain ⟨u, rfl, rfl⟩ := vals1 r
    exact PySem.P.repr_of_bool ⟨.str _, H, I.tok _, ⟨_, rfl⟩, q⟩
  · obtain ⟨u, rfl, rfl⟩ := vals1 r
    exact PySem.P.repr_of_none ⟨.str _, H, I.tok _, ⟨_, rfl⟩, q⟩
def shB (b : Bool) : List Nat := if b then [84, 114, 117, 101] else [70, 97, 108, 115, 101]
def reprSD : List D → Option D
  | [.bl b] => some (.str (shB b))
  | [.non] => some (.str [78, 111, 110, 101])
  | _ => none
theorem ca_reprS {K : PySem.W.Frag} : CaD K (fun xs H Q => (∃ b, xs = [.bl b] ∧ Q (.str (if b then "True" else "False")) H) ∨ (xs = [.non] ∧ Q (.str "None") H)) reprSD := by
  intro κ ρ τ vs σ H Z A B ds xs c Q cc tt gg ow zz e k
  unfold reprSD at e
  split at e
  · rename_i b
    cases e
    cases ow with
    | cons o1 o2 =>
      cases o2
      refine .inl ⟨b, by rw [o1.blV], ?_⟩
      have e : (if b then "True" else "False" : Str) = ⟨(shB b).toArray⟩ := by cases b <;> decide +kernel
      rw [e]
      exact k _ H (.mk cc tt gg (.str _)) (Same.refl H)
  · cases e
    cases ow with
    | cons o1 o2 =>
      cases o2
      refine .inr ⟨by rw [o1.nonV], ?_⟩
      have e : ("None" : Str) = ⟨[78, 111, 110, 101].toArray⟩ := by decide +kernel
      rw [e]
      exact k _ H (.mk cc tt gg (.str _)) (Same.refl H)
  · cases e
end
end Dl

set_option linter.all false
set_option maxRecDepth 100000
set_option maxHeartbeats 4000000
namespace Dl
open PySem PySem.Spec PyProof.Rows L2
theorem tup_times1 (l : Addr) (items : Array Value) (n : Nat) (dd : Option Addr) (sl : Array (Option Value)) (x : Int) (u : Tok) (c0 : (decide (x < -(2 ^ 63)) || decide (x ≥ 2 ^ 63)) = false) (c1 : (items.isEmpty || x == 1) = true) :
    Meets (Builtin.«tuple.__mul__» ⟨[.ref l, .int x u], []⟩) (fun _ R s => s.heap.get? l = some { cls := .type "tuple", dict := dd, data := .seq items n, slots := sl } ∧ R (.ok (.ret (Value.ref l))) s) :=
  .of_wp fun prog w A R s h => by
    obtain ⟨hp, g, d, tk, os⟩ := s
    obtain ⟨hl, h⟩ := h
    have f1 := AutoSeq1.idx_int
    wp_walk using wpAny_loadPart' hl
    repeat (first
      | (refine wpAny_ite_false (decide_eq_false (by rw [c0]; exact Bool.false_ne_true)) ?_; wp_walk using wpAny_loadPart' hl)
      | (refine wpAny_ite_true (decide_eq_true c1) ?_; wp_walk using wpAny_loadPart' hl))
    exact ⟨_, rfl, h⟩
theorem tup_times0 (l : Addr) (items : Array Value) (n : Nat) (dd : Option Addr) (sl : Array (Option Value)) (x : Int) (u : Tok) (c0 : (decide (x < -(2 ^ 63)) || decide (x ≥ 2 ^ 63)) = false) (c1 : (items.isEmpty || x == 1) = false) (c2 : (decide (x ≤ 0) || items.isEmpty) = true) :
    Meets (Builtin.«tuple.__mul__» ⟨[.ref l, .int x u], []⟩) (fun _ R s => s.heap.get? l = some { cls := .type "tuple", dict := dd, data := .seq items n, slots := sl } ∧
      R (.ok (.ret (Value.ref s.heap.objs.size))) { s with heap := s.heap.push { cls := Value.type "tuple", data := Data.seq #[] }, toks := s.toks }) :=
  .of_wp fun prog w A R s h => by
    obtain ⟨hp, g, d, tk, os⟩ := s
    obtain ⟨hl, h⟩ := h
    have f1 := AutoSeq1.idx_int
    wp_walk using wpAny_loadPart' hl
    repeat (first
      | (refine wpAny_ite_false (decide_eq_false (by rw [c0]; exact Bool.false_ne_true)) ?_; wp_walk using wpAny_loadPart' hl)
      | (refine wpAny_ite_false (decide_eq_false (by rw [c1]; exact Bool.false_ne_true)) ?_; wp_walk using wpAny_loadPart' hl)
      | (refine wpAny_ite_true (decide_eq_true c2) ?_; wp_walk using wpAny_loadPart' hl))
    exact ⟨_, rfl, h⟩
def rTimes (K : PySem.W.Frag) : R2 := fun x y H Q => ∃ l k xs, x = .ref l ∧ y = .int k ∧ SqT K H l xs ∧ -(2 ^ 63) ≤ k ∧ k < 2 ^ 63 ∧ (k ≤ 1 ∨ xs = []) ∧ (k = 1 ∨ xs = [] → Q (.ref l) H) ∧ (k ≤ 0 → xs ≠ [] → ∀ p, H p = none → Q (.ref p) (upd H p (.tup [])))
theorem op_times {X : Cx} : OpR X (binaryOp .Mult) (rTimes X.K) := by
  intro pins s σ H x y v u Q I rx ry h
  obtain ⟨l, k, xs, rfl, rfl, hT, h1, h2, h3, q1, q0⟩ := h
  cases rx
  obtain ⟨t, rfl⟩ := ry
  obtain ⟨its, r, ⟨⟨cls, dd, data, sl⟩, ho, hc, n, hd⟩, hs⟩ := I.tuple hT
  simp only at hc hd
  subst hc hd
  have c0 : (decide (k < -(2 ^ 63)) || decide (k ≥ 2 ^ 63)) = false := by
    rw [decide_eq_false (by omega), decide_eq_false (by omega)] <;> rfl
  refine wpAny_binaryOp_repeat_ref (T := "tuple") (U := "int") (by decide) ⟨_, ho, rfl⟩ (fun s' => typeIs_int s' k t) noFill_tuple_mul F.fills_int_mul F.slot_int_rmul repeat_tuple F.slot_int_index.lookup
    (call_meets F.slot_int_rmul (typeIs_int s k t) F.entry_int_rmul (F.args_int_rmul_2 _ _) (int_rmul_tuple k t l its.toArray n dd sl) ⟨ho, rfl, ⟨_, ho, rfl⟩, ?_⟩)
  by_cases hq : k = 1 ∨ xs = []
  · have c1 : (its.toArray.isEmpty || k == 1) = true := by
      rcases hq with e | e
      · simp [e]
      · subst e
        cases r
        simp
    exact call_meets F.slot_tuple_mul ⟨_, ho, rfl⟩ F.entry_tuple_mul (F.args_tuple_mul_2 _ _) (tup_times1 l its.toArray n dd sl k t c0 c1) ⟨ho, .ref l, H, I, rfl, q1 hq⟩
  · rw [not_or] at hq
    have h4 : k ≤ 1 := h3.resolve_right hq.2
    have hi : its.toArray.isEmpty = false := by
      cases r with
      | nil => exact absurd rfl hq.2
      | cons a b => rfl
    have c1 : (its.toArray.isEmpty || k == 1) = false := by
      rw [hi, Bool.false_or]
      exact beq_eq_false_iff_ne.mpr hq.1
    have c2 : (decide (k ≤ 0) || its.toArray.isEmpty) = true := by
      rw [decide_eq_true (by omega)]; rfl
    exact call_meets F.slot_tuple_mul ⟨_, ho, rfl⟩ F.entry_tuple_mul (F.args_tuple_mul_2 _ _) (tup_times0 l its.toArray n dd sl k t c0 c1 c2)
      ⟨ho, .ref s.heap.objs.size, _, I.laid (t' := s.toks) (o := .tup []) (fun b ob q => Heap.get?_push_of_some _ q) (Nat.le_refl _) ⟨Nat.zero_le _, [], .nil, IsTup.new _ _⟩, rfl, q0 (by omega) hq.2 _ (I.hok.fresh (Nat.le_refl _))⟩
noncomputable def mulT : D → D → Option D
  | .tup l, .int k => if D.owns l = false ∧ inR k ∧ k ≤ 1000 ∧ l.length ≤ 1000 then some (.tup (List.replicate k.toNat l).flatten) else none
  | _, _ => none
theorem op2_mulT {K : PySem.W.Frag} : Op2 K true (fun x y H Q => rTimes K x y H Q ∨ rRepT K x y H Q) mulT := by
  intro κ ρ τ vs σ H ta tb va vb a b c Q st ea eb e k
  obtain ⟨Z, A, B, C1, C2, cc, tt, gg, o1, o2, zz⟩ := st.opn2 eb ea
  unfold mulT at e
  split at e
  · rename_i l n
    split at e
    · rename_i hc
      cases e
      obtain ⟨ho, ⟨h1, h1'⟩, h2, h3⟩ := hc
      have z0 := o2.noown (by simpa [D.own] using ho)
      subst z0
      obtain ⟨p, xs, rfl, hp, q1⟩ := id (o2.tupV zz)
      have hlen := q1.length
      by_cases hn : n ≤ 1 ∨ xs = []
      · refine .inl ⟨p, n, xs, rfl, o1.intV, hp, by omega, by omega, hn, fun hq => ?_, fun h0 hne r hr => ?_⟩
        · have e : (List.replicate n.toNat l).flatten = l := by
            rcases hq with rfl | hq
            · simp
            · subst hq
              have : l = [] := List.length_eq_zero_iff.mp (by simpa using hlen.symm)
              subst this
              simp
          rw [e] at k
          exact k _ H (.mk cc tt gg o2) fun _ => Same.refl H
        · have e : (List.replicate n.toNat l).flatten = [] := by
            rw [show n.toNat = 0 by omega]; rfl
          rw [e] at k
          exact k _ _ (.mkTup cc tt gg .nil hr) fun _ => Same_new hr
      · rw [not_or] at hn
        exact .inr ⟨p, n, xs, rfl, o1.intV, hp, hn.2, by omega, h2, by omega, fun r hr => k _ _ (.mkTup cc tt gg (q1.rep n.toNat) hr) fun _ => Same_new hr⟩
    · cases e
  · cases e
noncomputable def mulDD : D → D → Option D := fun a b => (mulD a b).or (mulT a b)
theorem DE.mul2 {X : Cx} {W : WX} {q1 q2 : Bool} {a b : Expr} {f g : Cm Tm} {pos : Pos} (ha : DE X W q1 a f) (hb : DE X W q2 b g) : DE X W (q1 && q2) (.BinOp a .Mult b pos) (e2 mulDD f g) := DE.bin ((op_mul.or (op_mulS.or op_rep)).or (op_times.or op_repT)) ((op2_mulI.or (op2_mulS.or op2_mulL)).or op2_mulT) ha hb
end Dl

set_option linter.all false
set_option maxRecDepth 100000
namespace Dl
open PySem PySem.Spec PyProof.Rows L2
section
variable {X : Cx}
def rRepr (K : PySem.W.Frag) : List V → Hp → VK → Prop := fun xs H Q => ∃ v d, xs = [v] ∧ Dp K H v d ∧ d.showable = true ∧ d.hasDict = false ∧ d.depth ≤ 64 ∧ d.shown.length ≤ sizeLine ∧ Q (.str d.shown) H
theorem cr_repr (hu : X.A.units + 200 < cLine) (hg : X.A.guards = some []) : CallR X (.builtin "repr") (rRepr X.K) := by
  intro pins s σ H xs us Q I r h
  obtain ⟨v, d, rfl, hd, hs, hn, hp, hz, q⟩ := h
  cases r with
  | cons r1 rt =>
    cases rt
    rename_i u
    obtain ⟨as, rd⟩ := Dp.reads I d v u hd r1
    cases hd with
    | non =>
      obtain rfl : u = Value.none := r1
      exact PySem.P.repr_of_none ⟨.str _, H, I.tok _, ⟨_, rfl⟩, q⟩
    | bl b =>
      obtain rfl : u = Value.bool b := r1
      exact PySem.P.repr_of_bool ⟨.str _, H, I.tok _, ⟨_, rfl⟩, q⟩
    | int i =>
      obtain ⟨t, rfl⟩ := r1
      exact PySem.P.repr_of_int (by simpa [PyData.showable] using hs) ⟨.str _, H, I.tok _, ⟨_, rfl⟩, q⟩
    | str x =>
      obtain ⟨t, rfl⟩ := r1
      exact PySem.P.repr_of_str ⟨.str _, H, I.tok _, ⟨_, rfl⟩, q⟩ hz
    | lst hh ha =>
      cases r1
      exact PySem.repr_of_reads' rd hs (fun z => by rw [hn] at z; cases z) hg (by omega) (fun _ _ e => e) (fun h' u tk hk => ⟨.str _, H, I.kept hk, ⟨_, rfl⟩, q⟩) hz
    | tup hh ha =>
      cases r1
      exact PySem.repr_of_reads' rd hs (fun z => by rw [hn] at z; cases z) hg (by omega) (fun _ _ e => e) (fun h' u tk hk => ⟨.str _, H, I.kept hk, ⟨_, rfl⟩, q⟩) hz
def shD (d : D) : List Nat := d.P.shown.cps.toList
def reprOk (d : D) : Prop := d.pl = true ∧ d.P.showable = true ∧ d.dep ≤ 64 ∧ (shD d).length ≤ sizeLine
instance (d : D) : Decidable (reprOk d) := by unfold reprOk; exact inferInstance
def reprD : List D → Option D
  | [d] => if reprOk d then some (.str (shD d)) else none
  | _ => none
theorem str_eta (x : Str) : x = ⟨x.cps.toList.toArray⟩ := by cases x; simp
theorem ca_repr {K : PySem.W.Frag} : CaD K (rRepr K) reprD := by
  intro κ ρ τ vs σ H Z A B ds xs c Q cc tt gg ow zz e k
  unfold reprD at e
  split at e
  · rename_i d
    split at e
    · rename_i hd
      cases e
      cases ow with
      | cons o1 o2 =>
        cases o2
        refine ⟨_, d.P, rfl, o1.dp zz hd.1, hd.2.1, ?_, by rw [D.P_depth]; exact hd.2.2.1, ?_, ?_⟩
        · exact PySem.PyData.hasDict_of_canLay _ (D.P_lay d hd.1)
        · have := hd.2.2.2
          unfold shD at this
          rw [Array.length_toList] at this
          exact this
        · rw [str_eta d.P.shown]
          exact k _ H (.mk cc tt gg (.str _)) (Same.refl H)
    · cases e
  · cases e
end
end Dl

set_option linter.all false
set_option maxRecDepth 100000
set_option maxHeartbeats 2000000
namespace Dl
open PySem PySem.Spec PyProof.Rows L2
theorem law_go {P : Program} {w : World} {K : PySem.W.Frag} {mg mb : Str → Option Value} {k : Nat} {fa a : Addr} {fd : FuncData} {x : Str} {sp : Sp} {t : Shared} {us : List Value} {ns : List Int}
    (KX : K.In t.heap) (hns : t.heap.Ns mainGlobals mg) (hb : t.heap.Ns builtinsNs mb) (hbb : ∀ y : Str, y ≠ "__name__" → mb y = bootBuiltins y) (hlim : t.heap.NoLimit) (hg : t.gens = #[])
    (ha : t.heap.get? a = some { cls := .type "list", data := .seq us.toArray }) (hi : IntsAre us ns) (hl : ns.length ≤ sizeLine) (hr : Room k callerA) (hgu : callerA.guards = some [])
    (F : ∀ base : Heap, K.In base → base.Ns mainGlobals mg → FnG P w K mg base k fa fd [x] sp) (hbind : ∀ (s : Shared) (u : Value), BindsTo s fd ⟨[u], []⟩ [(x, u)])
    (hsp : ∀ U : Hp, SqL K U a (ns.map V.int) → sp [.ref a] U (fun v _ => v = .bl true) fun _ _ _ => False) :
    codeAny (model P w) callerA (.call (.ref fa) ⟨[.ref a], []⟩) (fun r s' => r = .ok (.ret (.bool true)) ∧ OldK t.heap s'.heap ∧ s'.os = t.os ∧ AllBare s'.gens) t := by
  have rv := vals_ints hi
  have lenV := hi.length
  have core : ∀ U : Hp, Only U → SqL K U a (ns.map V.int) → HOk P w U t.heap → (∀ b, U b ≠ none → b = a) → (U a ≠ none → K.lookup a = none) →
      codeAny (model P w) callerA (.call (.ref fa) ⟨[.ref a], []⟩) (fun r s' => r = .ok (.ret (.bool true)) ∧ OldK t.heap s'.heap ∧ s'.os = t.os ∧ AllBare s'.gens) t := by
    intro U hO hS hok hA hK
    have to : ∀ {b : Addr} {u : Obj}, t.heap.get? b = some u → U b = none → (hidT t.heap U).get? b = some u := fun e n => hidT_get e n
    have free : ∀ {b : Addr} {u : Obj} {es : Array DictEntry} {ep : Nat}, t.heap.get? b = some u → u.data = .dict es ep → U b = none := fun {b u es ep} e d => by
      by_cases q : U b = none
      · exact q
      · obtain rfl : b = a := hA b q
        rw [ha] at e
        cases e
        cases (show Data.seq us.toArray _ = Data.dict es ep from d)
    have nsT : ∀ {b : Addr} {m : Str → Option Value}, t.heap.Ns b m → (hidT t.heap U).Ns b m := fun {b m} ⟨u, es, ep, e, d, r⟩ => ⟨u, es, ep, to e (free e d), d, r⟩
    have kin : K.In (hidT t.heap U) := fun b u e => to (KX b u e) (by
      by_cases q : U b = none
      · exact q
      · obtain rfl : b = a := hA b q
        rw [hK q] at e
        cases e)
    have md : Mod K mg (hidT t.heap U) := ⟨kin, nsT hns, ⟨mb, nsT hb, hbb⟩, let ⟨mc, h1, h2⟩ := hlim; ⟨mc, nsT h1, h2⟩⟩
    have e0 : Env0 P w K mg (hidT t.heap U) callerA [] t U := ⟨rfl, md, fun b u e => of_hidT e, Nat.le_of_eq (hidT_size _ _), trivial, fun b hb => absurd (show b ∈ ([] : List Addr) from hb) (by simp), hok, .of_eq hg⟩
    refine codeAny_mono ((F _ kin (nsT hns)).run callerA [] t U ⟨[.ref a], []⟩ [.ref a] [.ref a] _ _ ⟨hr, hgu⟩ e0 (hbind t (.ref a)) (.cons rfl .nil) (hsp U hS)) fun r s' h => ?_
    cases r with
    | error e =>
      obtain ⟨_, _, _, _, _, _, _, _, _, _, _, _, z⟩ := h
      exact z.elim
    | ok fl =>
      cases fl with
      | next => exact h.elim
      | brk => exact h.elim
      | cont => exact h.elim
      | ret u =>
        obtain ⟨v, U', os, bare, un, hok', r', q⟩ := h
        have q' : v = .bl true := q
        subst q'
        obtain rfl : u = Value.bool true := r'
        refine ⟨rfl, OldK.of_keep fun b u e => ?_, os, bare⟩
        by_cases q : U b = none
        · exact un.keep b u e q (by intro z; exact absurd (show b ∈ ([] : List Addr) from z) (by simp)) (by simp)
        · rcases hO b with z | ⟨ob, xs, z⟩
          · exact absurd z q
          · obtain ⟨e1, _⟩ := hok b _ z
            obtain ⟨e2, _⟩ := hok' b _ (un.frzs b ob _ z)
            rw [e] at e1
            cases e1
            exact e2
  cases hk : K.lookup a with
  | some u =>
    have e := KX a u hk
    rw [ha] at e
    cases e
    exact core (fun _ => none) (fun _ => .inl rfl) (.inr ⟨_, us.toArray, _, hk, rfl, rfl, rfl, by rw [List.size_toArray, lenV]; exact hl, by simpa using rv⟩) (fun b u z => by cases (show (none : Option HO) = some u from z)) (fun b z => absurd rfl z) fun z => absurd rfl z
  | none =>
    refine core (fun b => if b = a then some (.frz { cls := .type "list", data := .seq us.toArray } (.lst (ns.map V.int))) else none) (fun b => ?_) (.inl (.inr ⟨_, if_pos rfl⟩)) (fun b u z => ?_) (fun b z => ?_) fun _ => hk
    · by_cases hb : b = a
      · exact .inr ⟨_, _, if_pos hb⟩
      · exact .inl (if_neg hb)
    · by_cases hb : b = a
      · cases (if_pos hb).symm.trans z
        subst hb
        exact ⟨ha, by rw [List.length_map]; exact hl, us, _, rv, ha⟩
      · cases (if_neg hb).symm.trans z
    · by_cases hb : b = a
      · exact hb
      · exact absurd (if_neg hb) z
theorem walk_G {l : PySem.W.OpenLaw} {n k : Nat} {q : Program} {loose : List Str} {XP : (Str → Option Value) → Heap → Prop} {YP : World → Heap → Prop} {d : DefRec} {x : Str}
    (hn : l.most = some n) (hn2 : n ≤ sizeLine) (hdf : d.params.defaults = []) (hr : Room k callerA)
    (F : ∀ (w : World) (mg : Str → Option Value) (fa : Addr) (h : Heap), YP w h → h.Ns mainGlobals mg → mg d.name = some (.ref fa) →
      ∃ (K : PySem.W.Frag) (fd : FuncData) (sem : List D → Out (List D) D), K.In h ∧ (∀ (s : Shared) (u : Value), BindsTo s fd ⟨[u], []⟩ [(x, u)]) ∧
        (∀ ns : List Int, ns.length ≤ n → ∃ ds, sem [.scr ns] = .ok (.bl true) ds) ∧
        ∀ base : Heap, K.In base → base.Ns mainGlobals mg → FnG l.prog w K mg base k fa fd [x] (spD K 1 sem)) :
    PySem.W.WalkO q loose XP YP l.row.toRowW d [] (fun f vs => PySem.call f vs) := by
  refine Att.attach_call hn hdf fun w s0 t mg mb fa o pm cd doc a us ns G Y ho hd hcd hmg hobj hints hlen hg => ?_
  obtain ⟨K, fd, sem, KX, hb, hsp, hF⟩ := F w mg fa _ Y G.T.g hmg
  refine law_go KX G.T.g G.T.b G.T.builtins G.T.nolimit hg hobj hints (Nat.le_trans hlen hn2) hr rfl hF hb fun U hS => ?_
  obtain ⟨ds, e⟩ := hsp ns hlen
  refine ⟨U, [.scr ns], [] ++ [], .cons (.scr hS) .nil, rfl, Same.refl U, by simp, ?_⟩
  rw [e]
  intro v U' r
  obtain ⟨Z', B, A', o1, _⟩ := r
  exact o1.blV
end Dl

set_option linter.all false
set_option maxRecDepth 100000
namespace Dl
open PySem PySem.Spec PyProof.Rows L2
theorem RoomG.mono {j k : Nat} {A : Around} (r : RoomG k A) (h : j ≤ k) : RoomG j A := ⟨r.r.mono h, r.g⟩
theorem RoomG.u1 {k : Nat} {A : Around} (r : RoomG k A) : A.units + 1 < cLine := by have := r.r.un; omega
theorem RoomG.u64 {k : Nat} {A : Around} (r : RoomG k A) : A.units + 64 < cLine := by have := r.r.un; omega
theorem RoomG.u65 {k : Nat} {A : Around} (r : RoomG k A) : A.units + 65 < cLine := by have := r.r.un; omega
theorem RoomG.u200 {k : Nat} {A : Around} (r : RoomG k A) : A.units + 200 < cLine := by have := r.r.un; omega
theorem takesF {X : Cx} : Takes X WF := takes0
section
variable {P : Program} {w : World} {K : PySem.W.Frag} {mg : Str → Option Value} {base : Heap}
abbrev cx (P : Program) (w : World) (K : PySem.W.Frag) (mg : Str → Option Value) (base : Heap) (N : List Str) (qual : Str) (st : Stmt) (f : Addr) (cd : Value) (A : Around) (outer : List PySem.Env) (t : Shared) (U : Hp) (E : XK) : Cx := cxOf (L2.CX P w) P w K mg base N qual (defScope st) f cd A outer t U E
theorem def_go {x qual : Str} {st : Stmt} {f : Addr} {fd : FuncData} {dvs : List V} {kws : List (Str × V)} {N ps : List Str} {k : Nat} {as : List Nat} {b : Cm Fl}
    (F : FunD K x qual (defArgs st) (defBody st) (defScope st) dvs kws f fd) (S : FnScope N ps (defScope st))
    (hb : ∀ (cd : Value) (A : Around) (outer : List PySem.Env) (t : Shared) (U : Hp) (E : XK), RoomG k (A.deeper (envOfC qual (defScope st) t.heap.objs.size f cd)) → PassesOwn (model P w) (cx P w K mg base N qual st f cd A outer t U E).A (cx P w K mg base N qual st f cd A outer t U E).env (cx P w K mg base N qual st f cd A outer t U E).xe →
      ∀ W : WX, Takes (cx P w K mg base N qual st f cd A outer t U E) W → DSs (cx P w K mg base N qual st f cd A outer t U E) W as (defBody st) b) : FnG P w K mg base (k + 1) f fd ps (spD K ps.length (bodyF N.length as b)) := by
  refine def_mk2 F S fun cd A outer t U E hr => ?_
  exact hb cd A outer t U E hr (passes_of rfl) (fun cls d _ H => E cls d H) (takes_of rfl rfl rfl rfl)
theorem DefAt.go {x : Str} {k n : Nat} {params : Arguments} {body : List Stmt} {scope : Scope} {kws : List (Str × V)} {f : Addr} {fd : FuncData} {ps : List Str} {sem : List D → Out (List D) D} (F : FunD K x x params body scope [] kws f fd) (G : FnG P w K mg base k f fd ps (spD K n sem)) (hm : mg x = some (.ref f))
    (hb : ∀ (kV doc pm : Value) (an : Option Addr) (cdv ct : Value) (us : List Value), us.length = ps.length → bindArgs (PySem.W.fnOf x x params body scope .none kV doc pm an cdv ct) ⟨us, []⟩ = pure (ps.zip us)) : DefAt P w K mg base x k n [] sem :=
  ⟨⟨f, fd, ps, [], [], G, hm, F.kp, F.bindsN hb, .nil, fun _ _ => .nil⟩⟩
end
end Dl

set_option linter.all false
set_option maxRecDepth 100000
namespace Dl
open PySem PySem.Spec PyProof.Rows L2
def blkB (N : List Str) (sc scope : Scope) (own : List (Str × Nat)) : Bool :=
  decide (scope.kind = .function) && scope.names.all (fun y => decide (scope.names.lookup y.1 = some y.2)) && own.all (fun p => decide (N[p.2]? = some p.1)) &&
  scope.names.all (fun y => !decide (y.2 = .free) || (decide (sc.names.lookup y.1 = some .cell) || decide (sc.names.lookup y.1 = some .free))) &&
  scope.names.all fun y => !(decide (y.2 = .local) || decide (y.2 = .cell)) || (decide (y.1 ∈ own.map (·.1)) || !decide (y.1 ∈ N))
theorem blkOf {N : List Str} {sc scope : Scope} {own : List (Str × Nat)} (h : blkB N sc scope own = true) : BlkOk N sc scope own := by
  unfold blkB at h
  simp only [Bool.and_eq_true, List.all_eq_true, decide_eq_true_eq, Bool.or_eq_true, Bool.not_eq_true', decide_eq_false_iff_not, Bool.or_eq_false_iff] at h
  obtain ⟨⟨⟨⟨h1, h2⟩, h3⟩, h4⟩, h5⟩ := h
  refine ⟨h1, h2, h3, fun y hy e => ?_, fun y hy e => ?_⟩
  · rcases h4 y hy with z | z
    · exact absurd e z
    · exact z
  · rcases h5 y hy with z | z
    · rcases e with e | e
      · exact absurd e z.1
      · exact absurd e z.2
    · exact z
def callD (k : Nat) (f : List D → Out (List D) D) (dd : List D) (fs : Cm (List Tm)) : Cm Tm := fun ρ => (fs ρ).bind fun ts ρ1 => if ts.length + dd.length = k then eCall f dd (fun ρ => .ok ts ρ) ρ1 else .bad
def listDD (ds : List D) : Option D := (listD ds).or (listSD ds)
theorem frz_imp {K : PySem.W.Frag} {W : WX} {q : Bool} {f : Cm Tm} {σ : L2.St} {H : Hp} {Q : VK} (h : tD K W q (eZ f) σ H Q) : tD K W q f σ H Q := by
  obtain ⟨κ, ρ, τ, vs, st, w⟩ := h
  refine ⟨κ, ρ, τ, vs, st, Out.wp_mono (Out.wp_bind w) (fun t ρ1 w1 v H1 st1 k1 => ?_) fun _ _ z => z⟩
  try dsimp only at w1
  split at w1
  · rename_i d
    split at w1
    · rename_i hf
      exact w1 _ _ (st1.frzT hf) k1
    · exact w1.elim
  · exact w1.elim
section
variable {X : Cx} {W : WX} {q : Bool} {as : List Nat} {tg elt iter : Expr} {ifs : List Expr} {pos spos py : Pos} {i : Nat} {y : Str}
theorem DS.setComp {scope : Scope} {own : List (Str × Nat)} {f : Cm Src} {g : D → Tg} {t : Cm Bool} {e : Cm Tm} (hc : X.calm = true) (hN : X.N.Nodup) (hsw : swapsWith (.ListComp elt [⟨tg, iter, ifs, 0⟩] scope pos) (some (.Name y py)) spos.line X.env = pure true) (hi : DI X W tg iter f) (ok : BlkOk X.N X.env.scope scope own) (ha : ∀ i ∈ as, i ∈ own.map (·.2))
    (hg : ∀ (s : Shared) (H : Hp) (C : Addr) (cl : List (Str × Addr)) (fp : List Addr), DG (X.blk s H scope (compEnvC scope cl C X.env) fp) as tg g) (ht : ∀ (s : Shared) (H : Hp) (C : Addr) (cl : List (Str × Addr)) (fp : List Addr), DTs (X.blk s H scope (compEnvC scope cl C X.env) fp) WF ifs t)
    (he : ∀ (s : Shared) (H : Hp) (C : Addr) (cl : List (Str × Addr)) (fp : List Addr), DE (X.blk s H scope (compEnvC scope cl C X.env) fp) WF q elt e) (hs : ∀ x, foldedSetIterable iter X.env x = pure x := by intro _; rfl) (hy : X.N[i]? = some y := by rfl) (hyl : X.env.scope.names.lookup y = some .local := by rfl) :
    DS X W [i] (.Assign [.Name y py] (.ListComp elt [⟨tg, iter, ifs, 0⟩] scope pos) spos) (sSet i (eComp (own.map (·.2)) f g t e)) :=
  DS.set_of (q := false) (e2 := elt) (t := fun _ _ _ => True) (T := fun _ _ _ => True) (PS.imp (ps_setLc (g := tDG X.K as g) (tt := tDT X.K WF t) (te := tD X.K WF q e) hc hN hy hyl hsw hi ok hg ht he hs) fun _ _ _ h => comp_imp ha h)
theorem DS.setCompZ {scope : Scope} {own : List (Str × Nat)} {f : Cm Src} {g : D → Tg} {t : Cm Bool} {e : Cm Tm} (hc : X.calm = true) (hN : X.N.Nodup) (hsw : swapsWith (.ListComp elt [⟨tg, iter, ifs, 0⟩] scope pos) (some (.Name y py)) spos.line X.env = pure true) (hi : DI X W tg iter f) (ok : BlkOk X.N X.env.scope scope own) (ha : ∀ i ∈ as, i ∈ own.map (·.2))
    (hg : ∀ (s : Shared) (H : Hp) (C : Addr) (cl : List (Str × Addr)) (fp : List Addr), DG (X.blk s H scope (compEnvC scope cl C X.env) fp) as tg g) (ht : ∀ (s : Shared) (H : Hp) (C : Addr) (cl : List (Str × Addr)) (fp : List Addr), DTs (X.blk s H scope (compEnvC scope cl C X.env) fp) WF ifs t)
    (he : ∀ (s : Shared) (H : Hp) (C : Addr) (cl : List (Str × Addr)) (fp : List Addr), DE (X.blk s H scope (compEnvC scope cl C X.env) fp) WF q elt e) (hs : ∀ x, foldedSetIterable iter X.env x = pure x := by intro _; rfl) (hy : X.N[i]? = some y := by rfl) (hyl : X.env.scope.names.lookup y = some .local := by rfl) :
    DS X W [i] (.Assign [.Name y py] (.ListComp elt [⟨tg, iter, ifs, 0⟩] scope pos) spos) (sSet i (eZ (eComp (own.map (·.2)) f g t e))) :=
  DS.set_of (q := false) (e2 := elt) (t := fun _ _ _ => True) (T := fun _ _ _ => True) (PS.imp (ps_setLc (g := tDG X.K as g) (tt := tDT X.K WF t) (te := tD X.K WF q e) hc hN hy hyl hsw hi ok hg ht he hs) fun _ _ _ h => comp_imp ha (frz_imp h))
end
end Dl

set_option linter.all false
set_option maxRecDepth 100000
namespace Dl
open PySem L2
section
variable {ρ : Env} {i : Nat} {f g h : Cm Tm} {fs : Cm (List Tm)} {fb gb : Cm Bool} {sg sh : Cm Fl} {d e : D}
@[simp] theorem eN_run : eN i ρ = match (ρ[i]?).join with
  | some d => if d.own then .bad else .ok (.v d) ρ
  | none => .bad := rfl
@[simp] theorem eM_run : eM i ρ = match (ρ[i]?).join with
  | some _ => .ok (.s i) ρ
  | none => .bad := rfl
@[simp] theorem eF_run : eF i ρ = match (ρ[i]?).join with
  | some d => if d.fz then .ok (.v d.frz) (ρ.set i (some d.frz)) else .bad
  | none => .bad := rfl
@[simp] theorem eG_run : eG i ρ = match (ρ[i]?).join with
  | some d => .ok (.v d) (ρ.set i none)
  | none => .bad := rfl
@[simp] theorem eC_run : eC d ρ = .ok (.v d) ρ := rfl
@[simp] theorem look_v : look ρ (.v d) = some d := rfl
@[simp] theorem look_s : look ρ (.s i) = (ρ[i]?).join := rfl
@[simp] theorem e2_run {gg : D → D → Option D} : e2 gg f g ρ = (f ρ).bind fun ta ρ1 => (g ρ1).bind fun tb ρ2 =>
  match look ρ2 ta, look ρ2 tb with
  | some a, some b => match gg a b with
    | some c => .ok (.v c) ρ2
    | none => .bad
  | _, _ => .bad := rfl
@[simp] theorem toB_run : toB f ρ = (f ρ).bind fun t ρ1 => match t with
  | .v (.bl b) => .ok b ρ1
  | _ => .bad := rfl
@[simp] theorem bNot_run : bNot fb ρ = (fb ρ).bind fun b ρ1 => .ok (!b) ρ1 := rfl
@[simp] theorem bAnd_run : bAnd fb gb ρ = (fb ρ).bind fun b ρ1 => if b = true then gb ρ1 else .ok false ρ1 := rfl
@[simp] theorem bOr_run : bOr fb gb ρ = (fb ρ).bind fun b ρ1 => if b = true then .ok true ρ1 else gb ρ1 := rfl
@[simp] theorem bYes_run : bYes ρ = .ok true ρ := rfl
@[simp] theorem vNot_run : vNot f ρ = (f ρ).bind fun t ρ1 => match t with
  | .v (.bl b) => .ok (.v (.bl (!b))) ρ1
  | _ => .bad := rfl
@[simp] theorem vAnd_run : vAnd f g ρ = (f ρ).bind fun t ρ1 => match t with
  | .v (.bl b) => if b = true then g ρ1 else .ok (.v (.bl false)) ρ1
  | _ => .bad := rfl
@[simp] theorem vOr_run : vOr f g ρ = (f ρ).bind fun t ρ1 => match t with
  | .v (.bl b) => if b = true then .ok (.v (.bl true)) ρ1 else g ρ1
  | _ => .bad := rfl
@[simp] theorem eIf_run : eIf fb f g ρ = (fb ρ).bind fun b ρ1 => if b = true then f ρ1 else g ρ1 := rfl
@[simp] theorem aNil_run : aNil ρ = .ok [] ρ := rfl
@[simp] theorem aCons_run : aCons f fs ρ = (f ρ).bind fun t ρ1 => (fs ρ1).bind fun ts ρ2 => .ok (t :: ts) ρ2 := rfl
@[simp] theorem dats_nil : dats [] = some [] := rfl
@[simp] theorem dats_cons {ts : List Tm} : dats (.v d :: ts) = (dats ts).map (d :: ·) := rfl
@[simp] theorem eTup_run : eTup fs ρ = (fs ρ).bind fun ts ρ1 => match dats ts with
  | some ds => if ds.length ≤ sizeLine then .ok (.v (.tup ds)) ρ1 else .bad
  | none => .bad := rfl
@[simp] theorem eLst_run : eLst fs ρ = (fs ρ).bind fun ts ρ1 => match dats ts with
  | some ds => if ds.length ≤ sizeLine then .ok (.v (.lst true ds)) ρ1 else .bad
  | none => .bad := rfl
@[simp] theorem eZ_run : eZ f ρ = (f ρ).bind fun t ρ1 => match t with
  | .v d => if d.fz then .ok (.v d.frz) ρ1 else .bad
  | _ => .bad := rfl
@[simp] theorem sNil_run : sNil ρ = .ok .nx ρ := rfl
@[simp] theorem sSeq_run : sSeq sg sh ρ = (sg ρ).bind fun fl ρ1 => match fl with
  | .nx => sh ρ1
  | fl => .ok fl ρ1 := rfl
@[simp] theorem sFl_run {fl : Fl} : sFl fl ρ = .ok fl ρ := rfl
@[simp] theorem sRet_run : sRet f ρ = (f ρ).bind fun t ρ1 => match t with
  | .v d => .ok (.rt d) ρ1
  | _ => .bad := rfl
@[simp] theorem sDrop_run : sDrop f ρ = (f ρ).bind fun _ ρ1 => .ok .nx ρ1 := rfl
@[simp] theorem sIf_run : sIf fb sg sh ρ = (fb ρ).bind fun b ρ1 => if b = true then sg ρ1 else sh ρ1 := rfl
@[simp] theorem sSet_run : sSet i f ρ = (f ρ).bind fun t ρ1 => match t with
  | .v d => if i < ρ1.length then .ok .nx (ρ1.set i (some d)) else .bad
  | _ => .bad := rfl
@[simp] theorem sAug_run {gg : D → D → Option D} : sAug i gg f ρ = (f ρ).bind fun t ρ1 => match look ρ1 (.s i), look ρ1 t with
  | some a, some b => match gg a b with
    | some c => .ok .nx (ρ1.set i (some c))
    | none => .bad
  | _, _ => .bad := rfl
@[simp] theorem sAsg_run {gg : D → Tg} : sAsg gg f ρ = (f ρ).bind fun t ρ1 => match t with
  | .v d => match gg d ρ1 with
    | some ρ2 => .ok .nx ρ2
    | none => .bad
  | _ => .bad := rfl
@[simp] theorem gN_run : gN i d ρ = if i < ρ.length then some (ρ.set i (some d)) else none := rfl
@[simp] theorem gTupD_run {n : Nat} {gs : List D → Tg} {ds : List D} : gTupD n gs (.tup ds) ρ = if ds.length = n then gs ds ρ else none := rfl
@[simp] theorem gsNil_run : gsNil [] ρ = some ρ := rfl
@[simp] theorem gsCons_run {gg : D → Tg} {gs : List D → Tg} {ds : List D} : gsCons gg gs (d :: ds) ρ = (gg d ρ).bind fun ρ1 => gs ds ρ1 := rfl
@[simp] theorem looks_nil : looks ρ [] = some [] := rfl
@[simp] theorem looks_cons {t : Tm} {ts : List Tm} : looks ρ (t :: ts) = match look ρ t with
  | some d => (looks ρ ts).map (d :: ·)
  | none => none := rfl
@[simp] theorem eCa_run {gg : List D → Option D} : eCa gg fs ρ = (fs ρ).bind fun ts ρ1 => match looks ρ1 ts with
  | some ds => match gg ds with
    | some c => .ok (.v c) ρ1
    | none => .bad
  | none => .bad := rfl
@[simp] theorem eCaP_run {gg : List D → Option D} {pf : Pf} : eCaP gg pf ρ = match pf ρ with
  | some ip => match (getP ρ ip).bind fun d => gg [d] with
    | some c => .ok (.v c) ρ
    | none => .bad
  | none => .bad := rfl
@[simp] theorem eRd_run {pf : Pf} : eRd pf ρ = match pf ρ with
  | some ip => match getP ρ ip with
    | some d => if d.own then .bad else .ok (.v d) ρ
    | none => .bad
  | none => .bad := rfl
@[simp] theorem pSl_run : pSl i ρ = match (ρ[i]?).join with
  | some _ => some (i, [])
  | none => none := rfl
@[simp] theorem getP_run {p : List Pc} : getP ρ (i, p) = ((ρ[i]?).join).bind fun d => d.childP p := rfl
@[simp] theorem setP_run {p : List Pc} : setP ρ (i, p) d = match (ρ[i]?).join with
  | some d0 => ρ.set i (some (d0.putP p d))
  | none => ρ := rfl
@[simp] theorem pIx_run {pf : Pf} : pIx pf g ρ = match pf ρ, g ρ with
  | some (i, p), .ok t _ => match getP ρ (i, p), look ρ t with
    | some e, some k => (ixC e k).map fun c => (i, p ++ [c])
    | _, _ => none
  | _, _ => none := rfl
@[simp] theorem gSt_run {pf : Pf} : gSt pf g d ρ = match pf ρ with
  | some ip => match getP ρ ip, g ρ with
    | some e, .ok t _ => match look ρ t with
      | some k => (stD d k e).map (setP ρ ip)
      | none => none
    | _, _ => none
  | none => none := rfl
@[simp] theorem childP_nil : d.childP [] = some d := rfl
@[simp] theorem childP_cons {c : Pc} {p : List Pc} : d.childP (c :: p) = (d.child c).bind fun e => e.childP p := rfl
@[simp] theorem putP_nil : d.putP [] e = e := rfl
@[simp] theorem putP_cons {c : Pc} {p : List Pc} : d.putP (c :: p) e = match d.child c with
  | some x => d.putC c (x.putP p e)
  | none => d := rfl
@[simp] theorem child_ix {n : Nat} {l : List D} : (D.lst true l).child (.ix n) = l[n]? := rfl
@[simp] theorem putC_ix {n : Nat} {l : List D} : (D.lst true l).putC (.ix n) e = .lst true (l.set n e) := rfl
@[simp] theorem ixC_lst {l : List D} {n : Int} : ixC (.lst true l) (.int n) = (ixN l.length n).map .ix := rfl
@[simp] theorem ixC_dic {ks vs : List D} : ixC (.dic true ks vs) d = if d.isKey then some (.key d) else none := by
  cases d <;> rfl
@[simp] theorem eMut_run {T : String} {q : Bool} {gg : D → List D → Option (D × D)} {pf : Pf} : eMut T q gg pf fs ρ = match pf ρ with
  | some ip => match getP ρ ip with
    | some d0 => if tyD T d0 = true then (fs ρ).bind fun ts ρ1 => if (q || ip.2.isEmpty) = true then match lend ρ1 ts with
        | some (ds, ρ2) => match getP ρ2 ip with
          | some d => match gg d ds with
            | some (c, d') => .ok (.v c) (setP ρ2 ip d')
            | none => .bad
          | none => .bad
        | none => .bad
      else .bad else .bad
    | none => .bad
  | none => .bad := rfl
@[simp] theorem eMut0_run {T : String} {gg : D → List D → Option (D × D)} {pf : Pf} : eMut0 T gg pf ρ = eMut T true gg pf aNil ρ := rfl
@[simp] theorem eMe_run {T : String} {gg : List D → Option D} : eMe T gg g fs ρ = (g ρ).bind fun t ρ1 => match look ρ1 t with
  | some d0 => if tyD T d0 = true then (fs ρ1).bind fun ts ρ2 => match looks ρ2 (t :: ts) with
      | some ds => match gg ds with
        | some c => .ok (.v c) ρ2
        | none => .bad
      | none => .bad
    else .bad
  | none => .bad := rfl
@[simp] theorem tyD_lst {T : String} {o : Bool} {l : List D} : tyD T (.lst o l) = (T == "list") := rfl
@[simp] theorem tyD_dic {T : String} {o : Bool} {l m : List D} : tyD T (.dic o l m) = (T == "dict") := rfl
@[simp] theorem tyD_str {T : String} {l : List Nat} : tyD T (.str l) = (T == "str") := rfl
@[simp] theorem lend_nil : lend ρ [] = some ([], ρ) := rfl
@[simp] theorem lend_v {ts : List Tm} : lend ρ (.v d :: ts) = (lend ρ ts).map fun p => (d :: p.1, p.2) := rfl
@[simp] theorem lend_s {ts : List Tm} : lend ρ (.s i :: ts) = match (ρ[i]?).join with
    | none => none
    | some d => (lend (if d.own then ρ.set i none else ρ) ts).map fun p => (d :: p.1, p.2) := rfl
@[simp] theorem restore_nil {ds ds' : List D} : restore ρ [] ds ds' = some ρ := by
  unfold restore
  rfl
@[simp] theorem restore_v {ts : List Tm} {x y : D} {ds ds' : List D} : restore ρ (.v d :: ts) (x :: ds) (y :: ds') = restore ρ ts ds ds' := rfl
@[simp] theorem restore_s {ts : List Tm} {x y : D} {ds ds' : List D} : restore ρ (.s i :: ts) (x :: ds) (y :: ds') = if x.own then (if hole ρ i then restore (ρ.set i (some y)) ts ds ds' else none) else restore ρ ts ds ds' := rfl
@[simp] theorem callD_run {k : Nat} {F : List D → Out (List D) D} {dd : List D} : callD k F dd fs ρ = (fs ρ).bind fun ts ρ1 => if ts.length + dd.length = k then (match lend ρ1 ts with
  | none => .bad
  | some (ds, ρ2) => match F (ds ++ dd) with
    | .ok d ds' => match restore ρ2 ts ds ds' with
      | some ρ3 => .ok (.v d) ρ3
      | none => .bad
    | .exc e ds' => match restore ρ2 ts ds ds' with
      | some ρ3 => .exc e ρ3
      | none => .bad
    | .bad => .bad) else .bad := rfl
@[simp] theorem oNone_run : oNone ρ = .ok none ρ := rfl
@[simp] theorem oSome_run : oSome f ρ = (f ρ).bind fun t ρ1 => match look ρ1 t with
  | some (.int n) => .ok (some n) ρ1
  | _ => .bad := rfl
@[simp] theorem eSl_run {lo hi : Cm (Option Int)} : eSl f lo hi ρ = (f ρ).bind fun t ρ1 => (lo ρ1).bind fun l ρ2 => (hi ρ2).bind fun h ρ3 => match look ρ3 t with
  | some d => match slD d l h with
    | some r => .ok (.v r) ρ3
    | none => .bad
  | none => .bad := rfl
theorem eRg1_run {t : Bool} : eRg1 t f ρ = (f ρ).bind fun t1 ρ1 => match look ρ1 t1 with
  | some (.int n) => if inG 0 n = true then .ok (.v (if t = true then .tup (rngD 0 n.toNat) else .lst true (rngD 0 n.toNat))) ρ1 else .bad
  | _ => .bad := rfl
theorem eRg2_run {t : Bool} : eRg2 t f g ρ = (f ρ).bind fun t1 ρ1 => (g ρ1).bind fun t2 ρ2 => match look ρ2 t1, look ρ2 t2 with
  | some (.int m), some (.int n) => if inG m n = true then .ok (.v (if t = true then .tup (rngD m (n - m).toNat) else .lst true (rngD m (n - m).toNat))) ρ2 else .bad
  | _, _ => .bad := rfl
@[simp] theorem srcA_run : srcA f ρ = (f ρ).bind fun t ρ1 => match t with
  | .v d => match srcV d with
    | some s => .ok s ρ1
    | none => .bad
  | _ => .bad := rfl
@[simp] theorem srcOut_run : srcOut i ρ = match (ρ[i]?).join with
  | some (.lst o l) => if D.owns l = false then if o = true then .ok ⟨[.lst true l], l, some i⟩ (ρ.set i none) else .ok ⟨[.lst false l], l, none⟩ ρ else .bad
  | _ => .bad := rfl
@[simp] theorem rng1_run : rng1 fs ρ = (fs ρ).bind fun ts ρ1 => match intsD ts with
  | some [n] => if inR n then .ok ⟨[], rngD 0 n.toNat, none⟩ ρ1 else .bad
  | _ => .bad := rfl
@[simp] theorem rng2_run : rng2 fs ρ = (fs ρ).bind fun ts ρ1 => match intsD ts with
  | some [n, m] => if inR n ∧ inR m then .ok ⟨[], rngD n (m - n).toNat, none⟩ ρ1 else .bad
  | _ => .bad := rfl
@[simp] theorem intsD_nil : intsD [] = some [] := rfl
@[simp] theorem intsD_cons {n : Int} {ts : List Tm} : intsD (.v (.int n) :: ts) = (intsD ts).map (n :: ·) := rfl
@[simp] theorem sFor_run {as : List Nat} {s : Cm Src} {gg : D → Tg} : sFor as s gg sg ρ = (s ρ).bind fun s ρ1 => (loopL gg sg s.ds ρ1).bind (putBack as s) := rfl
@[simp] theorem eComp_run {own : List Nat} {s : Cm Src} {gg : D → Tg} : eComp own s gg fb f ρ = (s ρ).bind fun s ρ1 => (compL own gg fb f s.ds [] (wipeD ρ1 own)).bind (compEnd own s) := rfl
@[simp] theorem putBack_none {as : List Nat} {ts ds : List D} {fl : Fl} : putBack as ⟨ts, ds, none⟩ fl ρ = .ok fl ρ := rfl
@[simp] theorem compEnd_none {as : List Nat} {ts ds acc : List D} : compEnd as ⟨ts, ds, none⟩ acc ρ = .ok (.v (.lst true acc)) ρ := rfl
@[simp] theorem wipeD_nil : wipeD ρ [] = ρ := rfl
@[simp] theorem wipeD_cons {l : List Nat} : wipeD ρ (i :: l) = (wipeD ρ l).set i none := rfl
@[simp] theorem loopL_nil {gg : D → Tg} : loopL gg sg [] ρ = .ok .nx ρ := rfl
@[simp] theorem compL_nil {own : List Nat} {gg : D → Tg} {acc : List D} : compL own gg fb f [] acc ρ = .ok acc ρ := rfl
@[simp] theorem addD_ii {a b : Int} : addD (.int a) (.int b) = some (.int (a + b)) := rfl
@[simp] theorem subD_ii {a b : Int} : subD (.int a) (.int b) = some (.int (a - b)) := rfl
@[simp] theorem isN_non {n : Bool} : isN n .non .non = some (.bl (!n)) := rfl
@[simp] theorem isN_int {n : Bool} {a : Int} : isN n (.int a) .non = some (.bl n) := rfl
@[simp] theorem isN_lst {n o : Bool} {a : List D} : isN n (.lst o a) .non = some (.bl n) := rfl
@[simp] theorem isN_str {n : Bool} {a : List Nat} : isN n (.str a) .non = some (.bl n) := rfl
@[simp] theorem ltD_ii {a b : Int} : ltD (.int a) (.int b) = some (.bl (decide (a < b))) := rfl
@[simp] theorem leD_ii {a b : Int} : leD (.int a) (.int b) = some (.bl (decide (a ≤ b))) := rfl
@[simp] theorem gtD_ii {a b : Int} : gtD (.int a) (.int b) = some (.bl (decide (b < a))) := rfl
@[simp] theorem geD_ii {a b : Int} : geD (.int a) (.int b) = some (.bl (decide (b ≤ a))) := rfl
@[simp] theorem eqDD_ii {n : Bool} {a b : Int} : eqDD n (.int a) (.int b) = some (.bl (decide (a = b) ^^ n)) := rfl
@[simp] theorem eqDD_ss {n : Bool} {a b : List Nat} : eqDD n (.str a) (.str b) = some (.bl (decide (a = b) ^^ n)) := rfl
@[simp] theorem eqDD_bb {n : Bool} {a b : Bool} : eqDD n (.bl a) (.bl b) = some (.bl (decide (a = b) ^^ n)) := rfl
@[simp] theorem lenD_str {l : List Nat} : lenD [.str l] = if l.length ≤ sizeLine then some (.int l.length) else none := rfl
@[simp] theorem lenD_lst {o : Bool} {l : List D} : lenD [.lst o l] = some (.int l.length) := rfl
@[simp] theorem lenD_tup {l : List D} : lenD [.tup l] = some (.int l.length) := rfl
@[simp] theorem intD_int {n : Int} : intD [.int n] = some (.int n) := rfl
@[simp] theorem intD_bl {b : Bool} : intD [.bl b] = some (.int (if b then 1 else 0)) := rfl
@[simp] theorem inDD_sign {n : Bool} {c : Nat} {z : List Nat} : inDD n (.str [c]) (.str z) = some (.bl (decide (c ∈ z) ^^ n)) := rfl
@[simp] theorem ixD_lst {o : Bool} {l : List D} {n : Int} : ixD (.lst o l) (.int n) = plainD (atI l n) := rfl
@[simp] theorem ixD_tup {l : List D} {n : Int} : ixD (.tup l) (.int n) = plainD (atI l n) := rfl
@[simp] theorem ixD_str {l : List Nat} {n : Int} : ixD (.str l) (.int n) = if l.length ≤ sizeLine then (atI l n).map fun c => .str [c] else none := rfl
@[simp] theorem plainD_some : plainD (some d) = if d.own then none else some d := rfl
@[simp] theorem plainD_none : plainD none = none := rfl
@[simp] theorem atI_nn {α : Type} (l : List α) (n : Nat) : atI l (n : Int) = l[n]? := by
  unfold atI ixN
  rw [if_pos (Int.natCast_nonneg n)]
  by_cases h : n < l.length
  · rw [if_pos (by omega)]
    simp
  · rw [if_neg (by omega)]
    simp [List.getElem?_eq_none (by omega : l.length ≤ n)]
@[simp] theorem atI_zero {α : Type} (l : List α) : atI l 0 = l[0]? := atI_nn l 0
@[simp] theorem atI_one {α : Type} (l : List α) : atI l 1 = l[1]? := atI_nn l 1
@[simp] theorem atI_two {α : Type} (l : List α) : atI l 2 = l[2]? := atI_nn l 2
@[simp] theorem own_non : D.own .non = false := rfl
@[simp] theorem own_bl {b : Bool} : D.own (.bl b) = false := rfl
@[simp] theorem own_int {b : Int} : D.own (.int b) = false := rfl
@[simp] theorem own_str {b : List Nat} : D.own (.str b) = false := rfl
@[simp] theorem own_tup {l : List D} : D.own (.tup l) = D.owns l := by simp [D.own]
@[simp] theorem own_lst {o : Bool} {l : List D} : D.own (.lst o l) = o := rfl
@[simp] theorem own_dic {o : Bool} {l m : List D} : D.own (.dic o l m) = o := rfl
@[simp] theorem own_scr {l : List Int} : D.own (.scr l) = false := rfl
@[simp] theorem owns_nil : D.owns [] = false := by simp [D.owns]
@[simp] theorem owns_cons {l : List D} : D.owns (d :: l) = (d.own || D.owns l) := by simp [D.owns]
@[simp] theorem fz_non : D.fz .non = true := rfl
@[simp] theorem fz_bl {b : Bool} : D.fz (.bl b) = true := rfl
@[simp] theorem fz_int {b : Int} : D.fz (.int b) = true := rfl
@[simp] theorem fz_str {b : List Nat} : D.fz (.str b) = true := rfl
@[simp] theorem fz_tup {l : List D} : D.fz (.tup l) = D.fzs l := by simp [D.fz]
@[simp] theorem fz_lst {o : Bool} {l : List D} : D.fz (.lst o l) = D.fzs l := by simp [D.fz]
@[simp] theorem fzs_nil : D.fzs [] = true := by simp [D.fzs]
@[simp] theorem fzs_cons {l : List D} : D.fzs (d :: l) = (d.fz && D.fzs l) := by simp [D.fzs]
@[simp] theorem frz_non : D.frz .non = .non := rfl
@[simp] theorem frz_bl {b : Bool} : D.frz (.bl b) = .bl b := rfl
@[simp] theorem frz_int {b : Int} : D.frz (.int b) = .int b := rfl
@[simp] theorem frz_str {b : List Nat} : D.frz (.str b) = .str b := rfl
@[simp] theorem frz_tup {l : List D} : D.frz (.tup l) = .tup (D.frzs l) := by simp [D.frz]
@[simp] theorem frz_lst' {o : Bool} {l : List D} : D.frz (.lst o l) = .lst false (D.frzs l) := by simp [D.frz]
@[simp] theorem frzs_nil : D.frzs [] = [] := by simp [D.frzs]
@[simp] theorem frzs_cons {l : List D} : D.frzs (d :: l) = d.frz :: D.frzs l := by simp [D.frzs]
end
def D.cold (d : D) : Prop := d.fz = true ∧ d.frz = d ∧ d.own = false
def D.colds (l : List D) : Prop := ∀ d ∈ l, d.cold
theorem cold_list {l : List D} (h : D.colds l) : D.fzs l = true ∧ D.frzs l = l ∧ D.owns l = false := by
  induction l with
  | nil => simp
  | cons d l ih =>
    obtain ⟨a, b, c⟩ := h d List.mem_cons_self
    obtain ⟨a2, b2, c2⟩ := ih fun x hx => h x (List.mem_cons_of_mem _ hx)
    simp [a, b, c, a2, b2, c2]
theorem cold_map {α : Type} {f : α → D} (h : ∀ a, (f a).cold) (l : List α) : D.colds (l.map f) := fun d hd => by
  obtain ⟨a, _, rfl⟩ := List.mem_map.mp hd
  exact h a
theorem srcV_lst {l : List D} {o : Bool} (h : D.colds l) : srcV (.lst o l) = some ⟨[.lst false l], l, none⟩ := by
  obtain ⟨a, b, c⟩ := cold_list h
  unfold srcV
  simp [a, b]
theorem srcV_tup {l : List D} (h : D.colds l) : srcV (.tup l) = some ⟨[.tup l], l, none⟩ := by
  obtain ⟨a, b, c⟩ := cold_list h
  unfold srcV
  simp [a, b]
@[simp] theorem srcV_str {l : List Nat} : srcV (.str l) = some ⟨[], l.map fun c => .str [c], none⟩ := rfl
theorem compL_pure {own : List Nat} {g : D → Tg} {t : Cm Bool} {e : Cm Tm} {ρ : Env} {p : D → Bool} {r : D → D} : ∀ {ds acc : List D}, (∀ d ∈ ds, ∃ ρ1 ρ2, g d ρ = some ρ1 ∧ t ρ1 = .ok (p d) ρ2 ∧ (p d = true → ∃ ρ3, e ρ2 = .ok (.v (r d)) ρ3 ∧ wipeD ρ3 own = ρ) ∧ (p d = false → wipeD ρ2 own = ρ)) →
    acc.length + ds.length ≤ sizeLine → compL own g t e ds acc ρ = .ok (acc ++ (ds.filter p).map r) ρ
  | [], acc, _, _ => by simp
  | d :: ds, acc, h, hz => by
    obtain ⟨ρ1, ρ2, h1, h2, h3, h4⟩ := h d List.mem_cons_self
    have hz' : acc.length + (ds.length + 1) ≤ sizeLine := by simpa using hz
    unfold compL
    rw [h1]
    simp only [h2, Out.nox, Out.bind_ok]
    cases hp : p d with
    | false =>
      simp only [Bool.false_eq_true, if_false]
      rw [h4 hp, compL_pure (fun x hx => h x (List.mem_cons_of_mem _ hx)) (by omega), List.filter_cons, hp]
      simp
    | true =>
      obtain ⟨ρ3, h5, h6⟩ := h3 hp
      simp only [if_true, h5, Out.nox, Out.bind_ok]
      rw [if_pos (by omega), h6, compL_pure (fun x hx => h x (List.mem_cons_of_mem _ hx)) (by simp; omega), List.filter_cons, hp]
      simp
theorem compL_inv {own : List Nat} {g : D → Tg} {t : Cm Bool} {e : Cm Tm} {I : Env → Prop} {R : D → D → Prop} : ∀ {ds acc : List D} {ρ : Env}, I ρ → (∀ d ∈ ds, ∀ ρ, I ρ → ∃ b ρ1 ρ2, g d ρ = some ρ1 ∧ t ρ1 = .ok b ρ2 ∧ (b = true → ∃ r ρ3, e ρ2 = .ok (.v r) ρ3 ∧ R d r ∧ I (wipeD ρ3 own)) ∧ (b = false → I (wipeD ρ2 own))) →
    acc.length + ds.length ≤ sizeLine → ∃ rs ρ', compL own g t e ds acc ρ = .ok (acc ++ rs) ρ' ∧ I ρ' ∧ (∀ r ∈ rs, ∃ d ∈ ds, R d r) ∧ rs.length ≤ ds.length
  | [], acc, ρ, hi, _, _ => ⟨[], ρ, by simp, hi, by simp, by simp⟩
  | d :: ds, acc, ρ, hi, h, hz => by
    obtain ⟨b, ρ1, ρ2, h1, h2, h3, h4⟩ := h d List.mem_cons_self ρ hi
    have hz' : acc.length + (ds.length + 1) ≤ sizeLine := by simpa using hz
    unfold compL
    rw [h1]
    simp only [h2, Out.nox, Out.bind_ok]
    cases b with
    | false =>
      simp only [Bool.false_eq_true, if_false]
      obtain ⟨rs, ρ', q1, q2, q3, q4⟩ := compL_inv (acc := acc) (h4 rfl) (fun x hx => h x (List.mem_cons_of_mem _ hx)) (by omega)
      exact ⟨rs, ρ', q1, q2, fun r hr => let ⟨x, hx, z⟩ := q3 r hr; ⟨x, List.mem_cons_of_mem _ hx, z⟩, by simp; omega⟩
    | true =>
      obtain ⟨r, ρ3, h5, h6, h7⟩ := h3 rfl
      simp only [if_true, h5, Out.nox, Out.bind_ok]
      rw [if_pos (by omega)]
      obtain ⟨rs, ρ', q1, q2, q3, q4⟩ := compL_inv (acc := acc ++ [r]) h7 (fun x hx => h x (List.mem_cons_of_mem _ hx)) (by simp; omega)
      refine ⟨r :: rs, ρ', by rw [q1]; simp, q2, fun y hy => ?_, by simp; omega⟩
      rcases List.mem_cons.mp hy with rfl | hy
      · exact ⟨d, List.mem_cons_self, h6⟩
      · obtain ⟨x, hx, z⟩ := q3 y hy
        exact ⟨x, List.mem_cons_of_mem _ hx, z⟩
theorem compL_each {own : List Nat} {g : D → Tg} {e : Cm Tm} {I : Env → Prop} {R : D → D → Prop} : ∀ {ds acc : List D} {ρ : Env}, I ρ → (∀ d ∈ ds, ∀ ρ, I ρ → ∃ ρ1 r ρ3, g d ρ = some ρ1 ∧ e ρ1 = .ok (.v r) ρ3 ∧ R d r ∧ I (wipeD ρ3 own)) →
    acc.length + ds.length ≤ sizeLine → ∃ rs ρ', compL own g bYes e ds acc ρ = .ok (acc ++ rs) ρ' ∧ I ρ' ∧ (∀ r ∈ rs, ∃ d ∈ ds, R d r) ∧ rs.length = ds.length
  | [], acc, ρ, hi, _, _ => ⟨[], ρ, by simp, hi, by simp, by simp⟩
  | d :: ds, acc, ρ, hi, h, hz => by
    obtain ⟨ρ1, r, ρ3, h1, h5, h6, h7⟩ := h d List.mem_cons_self ρ hi
    have hz' : acc.length + (ds.length + 1) ≤ sizeLine := by simpa using hz
    unfold compL
    rw [h1]
    simp only [bYes, if_true, h5, Out.nox, Out.bind_ok]
    rw [if_pos (by omega)]
    obtain ⟨rs, ρ', q1, q2, q3, q4⟩ := compL_each (acc := acc ++ [r]) h7 (fun x hx => h x (List.mem_cons_of_mem _ hx)) (by simp; omega)
    refine ⟨r :: rs, ρ', by rw [q1]; simp, q2, fun y hy => ?_, by simp; omega⟩
    rcases List.mem_cons.mp hy with rfl | hy
    · exact ⟨d, List.mem_cons_self, h6⟩
    · obtain ⟨x, hx, z⟩ := q3 y hy
      exact ⟨x, List.mem_cons_of_mem _ hx, z⟩
theorem loopL_inv {g : D → Tg} {b : Cm Fl} {I : List D → Env → Prop} : ∀ {ds : List D} {ρ : Env}, I ds ρ → (∀ d ds ρ, I (d :: ds) ρ → ∃ ρ1 ρ2, g d ρ = some ρ1 ∧ b ρ1 = .ok .nx ρ2 ∧ I ds ρ2) → ∃ ρ', loopL g b ds ρ = .ok .nx ρ' ∧ I [] ρ'
  | [], ρ, hi, _ => ⟨ρ, rfl, hi⟩
  | d :: ds, ρ, hi, h => by
    obtain ⟨ρ1, ρ2, h1, h2, h3⟩ := h d ds ρ hi
    obtain ⟨ρ', q1, q2⟩ := loopL_inv h3 h
    refine ⟨ρ', ?_, q2⟩
    unfold loopL
    rw [h1]
    simp only [h2, Out.bind_ok, Fl.lp, q1]
theorem sWhile_inv {c : Cm Bool} {g : Cm Fl} (I : Nat → Env → Prop) (E : Env → Prop) (h : ∀ n ρ, I n ρ → ∃ b ρ1, c ρ = .ok b ρ1 ∧ (b = false → E ρ1) ∧ (b = true → ∃ ρ2 m, g ρ1 = .ok .nx ρ2 ∧ m < n ∧ I m ρ2)) : ∀ n ρ, I n ρ → ∃ ρ', sWhile c g ρ = .ok .nx ρ' ∧ E ρ' := by
  intro n
  induction n using Nat.strongRecOn with
  | _ n ih =>
    intro ρ hi
    obtain ⟨b, ρ1, h1, h2, h3⟩ := h n ρ hi
    rw [sWhile_step, h1]
    simp only [Out.bind_ok]
    cases b with
    | false => exact ⟨ρ1, rfl, h2 rfl⟩
    | true =>
      obtain ⟨ρ2, m, h4, h5, h6⟩ := h3 rfl
      obtain ⟨ρ', q1, q2⟩ := ih m h5 ρ2 h6
      exact ⟨ρ', by simp only [if_true, h4, Out.bind_ok, Fl.lp, q1], q2⟩
theorem loopL_cons {g : D → Tg} {b : Cm Fl} {d : D} {ds : List D} {ρ : Env} : loopL g b (d :: ds) ρ = match g d ρ with
    | some ρ1 => (b ρ1).bind (Fl.lp (loopL g b ds))
    | none => .bad := rfl
@[simp] theorem lp_nx {k : Cm Fl} : Fl.lp k .nx = k := rfl
@[simp] theorem lp_ct {k : Cm Fl} : Fl.lp k .ct = k := rfl
@[simp] theorem lp_bk {k : Cm Fl} {ρ : Env} : Fl.lp k .bk ρ = .ok .nx ρ := rfl
@[simp] theorem lp_rt {k : Cm Fl} {d : D} {ρ : Env} : Fl.lp k (.rt d) ρ = .ok (.rt d) ρ := rfl
theorem rngD_mem {lo : Int} {n : Nat} {d : D} (h : d ∈ rngD lo n) : ∃ i : Nat, i < n ∧ d = .int (lo + i) := by
  unfold rngD at h
  obtain ⟨i, hi, rfl⟩ := List.mem_map.mp h
  exact ⟨i, List.mem_range.mp hi, rfl⟩
@[simp] theorem rngD_len {lo : Int} {n : Nat} : (rngD lo n).length = n := by simp [rngD]
@[simp] theorem finals_nil {as : List Nat} {j : Nat} {ρ : Env} : finals as j [] ρ = some [] := by unfold finals; rfl
@[simp] theorem finals_cons {as : List Nat} {j : Nat} {d : D} {ds : List D} {c : Option D} {ρ : Env} : finals as j (d :: ds) (c :: ρ) = match (if d.own then (if j ∈ as then none else c) else some d) with
    | some x => (finals as (j + 1) ds ρ).map (x :: ·)
    | none => none := by
  conv => lhs; unfold finals
  all_goals rfl
theorem bodyF_rt {nl : Nat} {as : List Nat} {b : Cm Fl} {ds ds' : List D} {d : D} {ρ : Env} (h : b (ds.map some ++ List.replicate (nl - ds.length) none) = .ok (.rt d) ρ) (hf : finals as 0 ds ρ = some ds') : bodyF nl as b ds = .ok d ds' := by
  unfold bodyF
  rw [h]
  simp only [hf]
theorem bodyF_nx {nl : Nat} {as : List Nat} {b : Cm Fl} {ds ds' : List D} {ρ : Env} (h : b (ds.map some ++ List.replicate (nl - ds.length) none) = .ok .nx ρ) (hf : finals as 0 ds ρ = some ds') : bodyF nl as b ds = .ok .non ds' := by
  unfold bodyF
  rw [h]
  simp only [hf]
theorem compL_map {α : Type} {own : List Nat} {g : D → Tg} {t : Cm Bool} {e : Cm Tm} {ρ : Env} {F : α → D} {p : α → Bool} {r : α → D} : ∀ {l : List α} {acc : List D}, (∀ a ∈ l, ∃ ρ1 ρ2, g (F a) ρ = some ρ1 ∧ t ρ1 = .ok (p a) ρ2 ∧ (p a = true → ∃ ρ3, e ρ2 = .ok (.v (r a)) ρ3 ∧ wipeD ρ3 own = ρ) ∧ (p a = false → wipeD ρ2 own = ρ)) →
    acc.length + l.length ≤ sizeLine → compL own g t e (l.map F) acc ρ = .ok (acc ++ (l.filter p).map r) ρ
  | [], acc, _, _ => by simp
  | a :: l, acc, h, hz => by
    obtain ⟨ρ1, ρ2, h1, h2, h3, h4⟩ := h a List.mem_cons_self
    have hz' : acc.length + (l.length + 1) ≤ sizeLine := by simpa using hz
    rw [List.map_cons]
    unfold compL
    rw [h1]
    simp only [h2, Out.nox, Out.bind_ok]
    cases hp : p a with
    | false =>
      simp only [Bool.false_eq_true, if_false]
      rw [h4 hp, compL_map (fun x hx => h x (List.mem_cons_of_mem _ hx)) (by omega), List.filter_cons, hp]
      simp
    | true =>
      obtain ⟨ρ3, h5, h6⟩ := h3 hp
      simp only [if_true, h5, Out.nox, Out.bind_ok]
      rw [if_pos (by omega), h6, compL_map (fun x hx => h x (List.mem_cons_of_mem _ hx)) (by simp; omega), List.filter_cons, hp]
      simp
theorem compL_map1 {α : Type} {own : List Nat} {g : D → Tg} {e : Cm Tm} {ρ : Env} {F : α → D} {r : α → D} {l : List α} (h : ∀ a ∈ l, ∃ ρ1 ρ3, g (F a) ρ = some ρ1 ∧ e ρ1 = .ok (.v (r a)) ρ3 ∧ wipeD ρ3 own = ρ) (hz : l.length ≤ sizeLine) : compL own g bYes e (l.map F) [] ρ = .ok (l.map r) ρ := by
  have q := compL_map (own := own) (g := g) (t := bYes) (e := e) (ρ := ρ) (F := F) (p := fun _ => true) (r := r) (l := l) (acc := []) (fun a ha => by
    obtain ⟨ρ1, ρ3, h1, h2, h3⟩ := h a ha
    exact ⟨ρ1, ρ1, h1, rfl, fun _ => ⟨ρ3, h2, h3⟩, fun z => by cases z⟩) (by simpa using hz)
  rw [q, List.filter_eq_self.mpr (fun _ _ => rfl), List.nil_append]
@[simp] theorem blsL_map {α : Type} (f : α → Bool) : ∀ l : List α, blsL (l.map fun a => D.bl (f a)) = some (l.map f)
  | [] => rfl
  | a :: l => by simp [blsL, blsL_map f l]
@[simp] theorem intsL_map {α : Type} (f : α → Int) : ∀ l : List α, intsL (l.map fun a => D.int (f a)) = some (l.map f)
  | [] => rfl
  | a :: l => by simp [intsL, intsL_map f l]
@[simp] theorem strsL_map {α : Type} (f : α → List Nat) : ∀ l : List α, strsL (l.map fun a => D.str (f a)) = some (l.map f)
  | [] => rfl
  | a :: l => by simp [strsL, strsL_map f l]
@[simp] theorem allD_lst {o : Bool} {l : List D} : allD [.lst o l] = (blsL l).map fun bs => .bl (bs.all id) := rfl
@[simp] theorem anyD_lst {o : Bool} {l : List D} : anyD [.lst o l] = (blsL l).map fun bs => .bl (bs.any id) := rfl
theorem mulDD_ii {a b : Int} (h : a.natAbs < 18446744073709551616 ∨ b.natAbs < 18446744073709551616) : mulDD (.int a) (.int b) = some (.int (a * b)) := by
  have e : mulI (.int a) (.int b) = some (.int (a * b)) := by
    unfold mulI gI
    dsimp only
    rw [if_pos]
    simp only [Bool.or_eq_true, Bool.and_eq_true, decide_eq_true_eq]
    omega
  unfold mulDD mulD
  rw [e]
  rfl
theorem modD_ii {a b : Int} (h : b ≠ 0) : modD (.int a) (.int b) = some (.int (a.fmod b)) := by
  unfold modD gI
  simp [h]
theorem fdivD_ii {a b : Int} (h : b ≠ 0) (h2 : b.natAbs < 1073741824) : fdivD (.int a) (.int b) = some (.int (a.fdiv b)) := by
  unfold fdivD gI
  simp [h, h2]
theorem powD_ii {a b : Int} (h : 0 ≤ b) (h1 : b ≤ 1000000) (h2 : a.natAbs < 18446744073709551616) : powD (.int a) (.int b) = some (.int (a ^ b.toNat)) := by
  unfold powD gI
  simp [h, h1, h2]
theorem fmod_pos {a b : Int} (h : 0 < b) : a.fmod b = a % b := Int.fmod_eq_emod_of_nonneg a (by omega)
theorem fdiv_pos {a b : Int} (h : 0 < b) : a.fdiv b = a / b := Int.fdiv_eq_ediv_of_nonneg a (by omega)
theorem appD_ok {l : List D} {d : D} (h : l.length < sizeLine) : appD (.lst true l) [d] = some (.non, .lst true (l ++ [d])) := by
  unfold appD
  simp [h]
theorem popD_snoc {l : List D} {d : D} : popD (.lst true (l ++ [d])) [] = some (d, .lst true l) := by
  unfold popD
  simp
theorem appD_map {α : Type} {f : α → D} {l : List α} {a : α} (h : l.length < sizeLine) : appD (.lst true (l.map f)) [f a] = some (.non, .lst true ((l ++ [a]).map f)) := by
  rw [appD_ok (by rw [List.length_map]; exact h), List.map_append]
  rfl
@[simp] theorem sz_ofNat1 : 1 ≤ sizeLine := by rw [sizeLine_eq]; decide
@[simp] theorem sz_ofNat2 : 2 ≤ sizeLine := by rw [sizeLine_eq]; decide
@[simp] theorem sz_ofNat3 : 3 ≤ sizeLine := by rw [sizeLine_eq]; decide
@[simp] theorem sz_ofNat4 : 4 ≤ sizeLine := by rw [sizeLine_eq]; decide
@[simp] theorem sz_ofNat5 : 5 ≤ sizeLine := by rw [sizeLine_eq]; decide
@[simp] theorem sz_ofNat6 : 6 ≤ sizeLine := by rw [sizeLine_eq]; decide
@[simp] theorem sz_ofNat7 : 7 ≤ sizeLine := by rw [sizeLine_eq]; decide
@[simp] theorem sz_ofNat8 : 8 ≤ sizeLine := by rw [sizeLine_eq]; decide
@[simp] theorem sz_ofNat9 : 9 ≤ sizeLine := by rw [sizeLine_eq]; decide
@[simp] theorem sz_ofNat10 : 10 ≤ sizeLine := by rw [sizeLine_eq]; decide
@[simp] theorem sz_ofNat11 : 11 ≤ sizeLine := by rw [sizeLine_eq]; decide
@[simp] theorem sz_ofNat12 : 12 ≤ sizeLine := by rw [sizeLine_eq]; decide
@[simp] theorem sz_ofNat13 : 13 ≤ sizeLine := by rw [sizeLine_eq]; decide
@[simp] theorem sz_ofNat14 : 14 ≤ sizeLine := by rw [sizeLine_eq]; decide
@[simp] theorem sz_ofNat15 : 15 ≤ sizeLine := by rw [sizeLine_eq]; decide
@[simp] theorem sz_ofNat16 : 16 ≤ sizeLine := by rw [sizeLine_eq]; decide
@[simp] theorem sz_ofNat17 : 17 ≤ sizeLine := by rw [sizeLine_eq]; decide
@[simp] theorem sz_ofNat18 : 18 ≤ sizeLine := by rw [sizeLine_eq]; decide
@[simp] theorem sz_ofNat19 : 19 ≤ sizeLine := by rw [sizeLine_eq]; decide
@[simp] theorem sz_ofNat20 : 20 ≤ sizeLine := by rw [sizeLine_eq]; decide
@[simp] theorem sz_ofNat21 : 21 ≤ sizeLine := by rw [sizeLine_eq]; decide
@[simp] theorem sz_ofNat22 : 22 ≤ sizeLine := by rw [sizeLine_eq]; decide
@[simp] theorem sz_ofNat23 : 23 ≤ sizeLine := by rw [sizeLine_eq]; decide
@[simp] theorem sz_ofNat24 : 24 ≤ sizeLine := by rw [sizeLine_eq]; decide
@[simp] theorem sz_ofNat25 : 25 ≤ sizeLine := by rw [sizeLine_eq]; decide
@[simp] theorem sz_ofNat26 : 26 ≤ sizeLine := by rw [sizeLine_eq]; decide
@[simp] theorem sz_ofNat27 : 27 ≤ sizeLine := by rw [sizeLine_eq]; decide
@[simp] theorem sz_ofNat28 : 28 ≤ sizeLine := by rw [sizeLine_eq]; decide
@[simp] theorem sz_ofNat29 : 29 ≤ sizeLine := by rw [sizeLine_eq]; decide
@[simp] theorem sz_ofNat30 : 30 ≤ sizeLine := by rw [sizeLine_eq]; decide
@[simp] theorem sz_ofNat31 : 31 ≤ sizeLine := by rw [sizeLine_eq]; decide
@[simp] theorem sz_ofNat32 : 32 ≤ sizeLine := by rw [sizeLine_eq]; decide
theorem popAtD_ok {l : List D} {n : Nat} {d : D} (h : l[n]? = some d) (hz : l.length ≤ sizeLine) : popAtD (.lst true l) [.int (n : Int)] = some (d, .lst true (l.eraseIdx n)) := by
  have hn := (List.getElem?_eq_some_iff.mp h).1
  rw [sizeLine_eq] at hz
  unfold popAtD
  dsimp only
  rw [if_pos ⟨by omega, by omega⟩]
  have e : ixN l.length (n : Int) = some n := by
    unfold ixN
    rw [if_pos (by omega), if_pos (by omega)]
    simp
  rw [e]
  dsimp only
  rw [h]
theorem popAt0 {l : List D} {d : D} : popAtD (.lst true (d :: l)) [.int 0] = some (d, .lst true l) := by
  unfold popAtD
  dsimp only
  rw [if_pos ⟨by decide, by decide⟩]
  have e : ixN (d :: l).length (0 : Int) = some 0 := by
    unfold ixN
    rw [if_pos (by decide), if_pos (by simp)]
    rfl
  rw [e]
  rfl
theorem eRg2_ok {f g : Cm Tm} {ρ ρ1 ρ2 : Env} {t1 t2 : Tm} {m n : Int} (h1 : f ρ = .ok t1 ρ1) (h2 : g ρ1 = .ok t2 ρ2) (h3 : look ρ2 t1 = some (.int m)) (h4 : look ρ2 t2 = some (.int n)) (h : inG m n = true) : eRg2 false f g ρ = .ok (.v (.lst true (rngD m (n - m).toNat))) ρ2 := by
  unfold eRg2
  rw [h1]
  show ((g ρ1).bind _) = _
  rw [h2]
  show (match look ρ2 t1, look ρ2 t2 with
    | some (.int m), some (.int n) => if inG m n = true then Out.ok (Tm.v (if false = true then D.tup (rngD m (n - m).toNat) else .lst true (rngD m (n - m).toNat))) ρ2 else .bad
    | _, _ => .bad) = _
  rw [h3, h4]
  show (if inG m n = true then _ else _) = _
  rw [if_pos h]
  rfl
theorem eRg1_ok {f : Cm Tm} {ρ ρ1 : Env} {t1 : Tm} {n : Int} (h1 : f ρ = .ok t1 ρ1) (h3 : look ρ1 t1 = some (.int n)) (h : inG 0 n = true) : eRg1 false f ρ = .ok (.v (.lst true (rngD 0 n.toNat))) ρ1 := by
  unfold eRg1
  rw [h1]
  show (match look ρ1 t1 with
    | some (.int n) => if inG 0 n = true then Out.ok (Tm.v (if false = true then D.tup (rngD 0 n.toNat) else .lst true (rngD 0 n.toNat))) ρ1 else .bad
    | _ => .bad) = _
  rw [h3]
  show (if inG 0 n = true then _ else _) = _
  rw [if_pos h]
  rfl
theorem compL_eachN {own : List Nat} {g : D → Tg} {e : Cm Tm} {I : List D → Env → Prop} {R : D → Prop} : ∀ {ds acc : List D} {ρ : Env}, I ds ρ → (∀ d ds ρ, I (d :: ds) ρ → ∃ ρ1 r ρ3, g d ρ = some ρ1 ∧ e ρ1 = .ok (.v r) ρ3 ∧ R r ∧ I ds (wipeD ρ3 own)) →
    acc.length + ds.length ≤ sizeLine → ∃ rs ρ', compL own g bYes e ds acc ρ = .ok (acc ++ rs) ρ' ∧ I [] ρ' ∧ (∀ r ∈ rs, R r) ∧ rs.length = ds.length
  | [], acc, ρ, hi, _, _ => ⟨[], ρ, by simp, hi, by simp, by simp⟩
  | d :: ds, acc, ρ, hi, h, hz => by
    obtain ⟨ρ1, r, ρ3, h1, h5, h6, h7⟩ := h d ds ρ hi
    have hz' : acc.length + (ds.length + 1) ≤ sizeLine := by simpa using hz
    unfold compL
    rw [h1]
    simp only [bYes, if_true, h5, Out.nox, Out.bind_ok]
    rw [if_pos (by omega)]
    obtain ⟨rs, ρ', q1, q2, q3, q4⟩ := compL_eachN (acc := acc ++ [r]) h7 h (by simp; omega)
    refine ⟨r :: rs, ρ', by rw [q1]; simp, q2, fun y hy => ?_, by simp; omega⟩
    rcases List.mem_cons.mp hy with rfl | hy
    · exact h6
    · exact q3 y hy
def sgn (cs : List Nat) : List D := cs.map fun c => .str [c]
theorem sgn_of {P : Nat → Prop} : ∀ {rs : List D}, (∀ r ∈ rs, ∃ c, P c ∧ r = .str [c]) → ∃ cs, rs = sgn cs ∧ ∀ c ∈ cs, P c
  | [], _ => ⟨[], rfl, by simp⟩
  | r :: rs, h => by
    obtain ⟨c, hc, rfl⟩ := h r List.mem_cons_self
    obtain ⟨cs, e, hcs⟩ := sgn_of (P := P) (rs := rs) fun x hx => h x (List.mem_cons_of_mem _ hx)
    exact ⟨c :: cs, by rw [e]; rfl, fun x hx => (List.mem_cons.mp hx).elim (fun e => e ▸ hc) (hcs x)⟩
theorem sgn_sort (cs : List Nat) : ∃ cs', sortD (sgn cs) = sgn cs' ∧ cs'.Perm cs := by
  have hp : (sortD (sgn cs)).Perm (sgn cs) := List.mergeSort_perm _ _
  obtain ⟨cs', e, _⟩ := sgn_of (P := fun _ => True) (rs := sortD (sgn cs)) fun r hr => by
    obtain ⟨c, _, rfl⟩ := List.mem_map.mp (hp.mem_iff.mp hr)
    exact ⟨c, trivial, rfl⟩
  refine ⟨cs', e, ?_⟩
  rw [e] at hp
  unfold sgn at hp
  let F : D → Nat := fun d => match d with
    | .str [c] => c
    | _ => 0
  have h2 := hp.map F
  have e0 : ∀ l : List Nat, (l.map fun c => D.str [c]).map F = l := fun l => by
    rw [List.map_map]
    exact List.map_id l
  rw [e0, e0] at h2
  exact h2
theorem sgn_sortOk (cs : List Nat) (h : ∀ c ∈ cs, c < 1114112) : sortOk (sgn cs) = true := by
  have hp : D.pls (sgn cs) = true := by
    induction cs with
    | nil => rfl
    | cons c cs ih =>
      show (D.pl (.str [c]) && D.pls (sgn cs)) = true
      rw [ih fun x hx => h x (List.mem_cons_of_mem _ hx), Bool.and_true]
      show PyData.strOk ⟨[c].toArray⟩ = true
      unfold PyData.strOk
      simpa using h c List.mem_cons_self
  unfold sortOk
  simp only [Bool.and_eq_true, Bool.or_eq_true, List.all_eq_true, decide_eq_true_eq]
  refine ⟨⟨⟨fun a ha b hb => ?_, .inr fun a ha => ?_⟩, hp⟩, fun a ha => ?_⟩
  · obtain ⟨x, _, rfl⟩ := List.mem_map.mp ha
    obtain ⟨y, _, rfl⟩ := List.mem_map.mp hb
    rfl
  · obtain ⟨x, _, rfl⟩ := List.mem_map.mp ha
    rfl
  · obtain ⟨x, _, rfl⟩ := List.mem_map.mp ha
    simp [D.dep]
theorem sgn_owns (cs : List Nat) : D.owns (sgn cs) = false := by
  induction cs with
  | nil => rfl
  | cons c cs ih =>
    show ((D.str [c]).own || D.owns (sgn cs)) = false
    rw [ih]
    rfl
theorem joinL_empty : ∀ l : List (List Nat), joinL [] l = l.flatten
  | [] => rfl
  | [x] => by simp [joinL]
  | x :: y :: r => by
    have ih := joinL_empty (y :: r)
    simp only [joinL, List.append_nil]
    rw [ih]
    simp
theorem sgn_join (cs : List Nat) (h : cs.length ≤ 1000000) (o : Bool) : joinD [.str [], .lst o (sgn cs)] = some (.str cs) := by
  unfold joinD sgn
  dsimp only
  rw [strsL_map (fun c : Nat => [c]), Option.bind_some, if_pos, joinL_empty]
  · congr 2
    induction cs with
    | nil => rfl
    | cons c cs ih =>
      rw [List.map_cons, List.flatten_cons, ih (by simp at h; omega)]
      rfl
  · rw [List.map_map]
    have : ((cs.map (List.length ∘ fun c => [c])).sum) = cs.length := by
      clear h
      induction cs with
      | nil => rfl
      | cons c cs ih => simp [ih]; omega
    rw [this]
    simp only [List.length_nil, Nat.mul_zero]
    omega
theorem sgn_sorted {o : Bool} (cs : List Nat) (h : ∀ c ∈ cs, c < 1114112) : ∃ cs', sortedD [.lst o (sgn cs)] = some (.lst true (sgn cs')) ∧ cs'.Perm cs := by
  obtain ⟨cs', e, p⟩ := sgn_sort cs
  refine ⟨cs', ?_, p⟩
  unfold sortedD
  dsimp only
  rw [if_pos ⟨sgn_owns cs, sgn_sortOk cs h⟩, e]
end Dl

set_option linter.all false
set_option maxRecDepth 100000
namespace Dl
open PySem PySem.Spec PyProof.Rows L2
def sFgt (l : List Nat) (b : Cm Fl) : Cm Fl := fun ρ => (b ρ).bind fun fl ρ1 => match fl with
  | .rt d => .ok (.rt d) ρ1
  | fl => .ok fl (wipeD ρ1 l)
def sPre (l : List Nat) (h : Cm Fl) : Cm Fl := fun ρ => h (wipeD ρ l)
section
variable {X : Cx} {W : WX} {as : List Nat} {s : Stmt} {ss : List Stmt} {b : Cm Fl} {l : List Nat}
theorem Stt.wipeD {K : PySem.W.Frag} {κ : Fr} {τ : List Tm} {vs : List V} {σ : L2.St} {H : Hp} {ρ : Env} : ∀ (l : List Nat), Stt K κ ρ τ vs σ H → Stt K κ (wipeD ρ l) τ vs σ H
  | [], h => h
  | _ :: l, h => (Stt.wipeD l h).drop
theorem fgt_imp {K : PySem.W.Frag} {D : Ends} {σ : L2.St} {H : Hp} (h : tDS K W as (sFgt l b) D σ H) : tDS K W as b D σ H := by
  obtain ⟨κ, ρ, τ, vs, vo, st, w⟩ := h
  refine ⟨κ, ρ, τ, vs, vo, st, ?_⟩
  unfold sFgt at w
  cases hb : b ρ with
  | bad => rw [hb] at w; exact w.elim
  | exc e ρ1 => rw [hb] at w; exact w
  | ok fl ρ1 =>
    rw [hb] at w
    cases fl with
    | nx => exact fun σ' H' f s => w σ' H' f (s.wipeD l)
    | bk => exact fun σ' H' f s => w σ' H' f (s.wipeD l)
    | ct => exact fun σ' H' f s => w σ' H' f (s.wipeD l)
    | rt d => exact w
theorem pre_imp {K : PySem.W.Frag} {D : Ends} {σ : L2.St} {H : Hp} (h : tDS K W as (sPre l b) D σ H) : tDS K W as b D σ H := by
  obtain ⟨κ, ρ, τ, vs, vo, st, w⟩ := h
  exact ⟨κ, wipeD ρ l, τ, vs, vo, st.wipeD l, w⟩
theorem DS.fgt (h : DS X W as s b) : DS X W as s (sFgt l b) := PS.imp h fun _ _ _ => fgt_imp
theorem DSs.fgt (h : DSs X W as ss b) : DSs X W as ss (sFgt l b) := PSs.imp h fun _ _ _ => fgt_imp
theorem DS.pre (h : DS X W as s b) : DS X W as s (sPre l b) := PS.imp h fun _ _ _ => pre_imp
end
end Dl

set_option linter.all false
set_option maxRecDepth 100000
namespace Dl
open PySem PySem.Spec PyProof.Rows L2
section
variable {prog : Program} {w : World} {A : Around} {E : Value → Shared → Prop} {s : Shared}
theorem ext_rev {R : Result → Shared → Prop} {it l S : Addr} {items : Array Value} {c0 : Nat} {res : Value} (hh : A.handled = none) (hit : s.heap.IsRevIter it l ((items.size : Int) - 1)) (hl : s.heap.IsList l items) (hne : l ≠ it) (hn : items.size ≤ sizeLine)
    (hSi : S ≠ it) (hSl : S ≠ l) (hS : s.heap.get? S = some { cls := .type "list", data := .seq #[] c0 })
    (hR : ∀ h' tk acc c', (∀ b o, b ≠ S → b ≠ it → s.heap.get? b = some o → h'.get? b = some o) → h'.get? S = some { cls := .type "list", dict := none, data := .seq acc c', slots := #[] } → ItemsOf (fun i v => items[items.size - 1 - i]? = some v) acc items.size →
      R (.ok (.ret res)) { s with heap := h', toks := tk }) :
    wpAny (model prog w) A.in1 (Builtin.List.listExtendWith (.ref S) (.ref it) res)
      (fun fin s' => match fin with | .done f => R (.ok f) s' | .again c' => c'.quiet = true ∧ codeAny (model prog w) A c' R s') (fun e s' => R (.error e) s') s := by
  have walk := (Walks.listRev (prog := prog) (w := w) (A := A.in1) hh it l hne items).toS
  have away : S ∉ [it, l] := by simp [hSi, hSl]
  have kind : s.TypeIs (.ref it) "list_reverseiterator" := hit.typeIs
  have other : Builtin.List.listSameRef (.ref S) (.ref it) = false := by simp [Builtin.List.listSameRef, hSi]
  unfold Builtin.List.listExtendWith
  refine wpAny_bind (wpAny_typeOf kind ?_)
  rw [if_neg (by rw [other]; decide)]
  refine wpAny_bind (wpAny_pyIter_revIter hit ?_)
  refine wpAny_bind (wpAny_holding ?_)
  unfold Builtin.List.listLengthHint
  refine wpAny_bind (wpAny_specialOf kind RT.nolen_lri ?_)
  show wpAny _ A.in1 (specialOf (Value.ref it) (Str.ofString "__length_hint__") >>= _) _ _ _
  refine wpAny_bind (wpAny_specialOf kind RT.hint_lri ?_)
  generalize hid : ("list_reverseiterator.__length_hint__" : String) = id0
  wp_delta
  rw [show splitId id0 = some ("list_reverseiterator", "__length_hint__") from by subst hid; decide +kernel]
  subst hid
  refine wpAny_bind (wpAny_isInstance (b := true) kind (by rw [isSubtype_type]; kernel_rfl) ?_)
  refine wpAny_pure ?_
  rw [if_neg (by decide)]
  have start : ((items.size : Nat) : Int) - 1 - ((0 : Nat) : Int) = (items.size : Int) - 1 := by omega
  refine wpAny_pure ⟨plainId_quiet F.plain_extend_loop _, codeAny_extend_loopS walk hn S away res items.size 0 _ #[] c0 rfl (Nat.zero_le _) ⟨Nat.zero_le _, by rw [start]; exact hit, hl⟩ hS (ItemsOf.nil _) fun s' acc' c' moved hS' got => ?_⟩
  rw [Moved.eq_with moved]
  refine hR s'.heap s'.toks acc' c' (fun b ob h1 h2 e => moved.heap b ob (fun m => ?_) e) hS' got
  rcases List.mem_cons.mp m with e' | m
  · exact h1 e'
  · exact h2 (List.mem_singleton.mp m)
theorem call_list_rev {it l : Addr} {items : Array Value} {Q : Value → Shared → Prop} (hh : A.handled = none) (hit : s.heap.IsRevIter it l ((items.size : Int) - 1)) (hl : s.heap.IsList l items) (hne : l ≠ it) (hn : items.size ≤ sizeLine)
    (hQ : ∀ (h' : Heap) (tk : Nat) (acc : Array Value) (c' : Nat), (∀ b o, b ≠ it → s.heap.get? b = some o → h'.get? b = some o) → h'.get? s.heap.objs.size = some { cls := .type "list", dict := none, data := .seq acc c', slots := #[] } →
      ItemsOf (fun i v => items[items.size - 1 - i]? = some v) acc items.size → Q (.ref s.heap.objs.size) { s with heap := h', toks := tk }) :
    wpAny (model prog w) A (call (.type "list") [.ref it]) Q E s := by
  refine callType_codes (Q₁ := fun obj s₁ => obj = .ref s.heap.objs.size ∧ s₁ = { s with heap := s.heap.push { cls := .type "list", data := .seq #[] } }) F.called_list (F.typeCall_list_1 _) F.entry_list_init
    (code_list_new _ ⟨rfl, rfl⟩) fun obj s₁ h₁ => ?_
  obtain ⟨rfl, rfl⟩ := h₁
  obtain ⟨oi, hoi, _⟩ := id hit
  obtain ⟨ol, hol, _⟩ := id hl
  have far : s.heap.objs.size ≠ it := Nat.ne_of_gt (Heap.lt_size hoi)
  have far2 : s.heap.objs.size ≠ l := Nat.ne_of_gt (Heap.lt_size hol)
  have new : (s.heap.push { cls := .type "list", data := .seq #[] }).get? s.heap.objs.size = some { cls := .type "list", data := .seq #[] } := Heap.get?_push_size _ rfl
  refine ⟨⟨_, new, rfl⟩, F.args_list_init_2 _ _, ?_⟩
  show wpAny _ _ (do let old ← Builtin.List.listItems (.ref s.heap.objs.size); Builtin.List.listUpdate (.ref s.heap.objs.size) (fun _ => #[]); letGo old.toList.reverse; Builtin.List.listExtendWith (.ref s.heap.objs.size) (.ref it) .none) _ _ _
  refine wpAny_bind ?_
  unfold Builtin.List.listItems
  refine wpAny_bind (wpAny_seqItems new rfl (wpAny_pure ?_))
  show wpAny _ _ (updateSeq s.heap.objs.size (fun _ => #[]) >>= fun _ => letGo (#[] : Array Value).toList.reverse >>= fun _ => Builtin.List.listExtendWith (.ref s.heap.objs.size) (.ref it) .none) _ _ _
  refine wpAny_bind (wpAny_updateSeq new rfl ?_)
  have again := Heap.get?_update_self (Obj.mapSeq (fun _ => (#[] : Array Value))) new rfl
  have old : ∀ b o, b ≠ s.heap.objs.size → s.heap.get? b = some o → ((s.heap.push { cls := .type "list", data := .seq #[] }).update s.heap.objs.size (Obj.mapSeq (fun _ => (#[] : Array Value)))).get? b = some o :=
    fun b o hb e => (Heap.get?_update_other _ _ (Ne.symm hb)).trans (Heap.get?_push_of_some _ e)
  refine wpAny_bind (wpAny_letGo ?_)
  refine ext_rev (A := A.in1) hh (hit.at fun o e => old _ _ (Ne.symm far) e) ⟨_, old _ _ (Ne.symm far2) hol, by assumption⟩ hne hn far far2 again fun h' tk acc c' kp hS' got => ?_
  exact ⟨rfl, hQ h' tk acc c' (fun b o hb e => kp b o (Nat.ne_of_lt (Heap.lt_size e)) hb (old b o (Nat.ne_of_lt (Heap.lt_size e)) e)) hS' got⟩
end
def tListRev (K : PySem.W.Frag) (te : TE) : TE := fun σ H Q => te σ H fun v H1 => ∃ (a : Addr) (xs : List V), v = .ref a ∧ SqL K H1 a xs ∧ ∀ q, H1 q = none → Q (.ref q) (upd H1 q (.lst xs.reverse))
section
variable {X : Cx} {W : WX} {q : Bool} {e : Expr} {te : TE} {p p2 pos pos2 : Pos} {f : Cm Tm}
theorem pe_listRev (hc : X.calm = true) (hg : Gl X "list") (hm : X.mg "list" = none) (hg2 : Gl X "reversed") (hm2 : X.mg "reversed" = none) (he : PE X e te)
    (hs : starEach [e] X.env = (false, eval e X.env) :: starEach [] X.env := by rfl)
    (hs2 : starEach [.Call (.Name "reversed" p2) [e] [] pos2] X.env = (false, eval (.Call (.Name "reversed" p2) [e] [] pos2) X.env) :: starEach [] X.env := by rfl) :
    PE X (.Call (.Name "list" p) [.Call (.Name "reversed" p2) [e] [] pos2] [] pos) (tListRev X.K te) := by
  refine ⟨fun pins s σ H Q I h => ?_⟩
  refine Call_ (ld_blt I hg hm boot_list (PyProof.Rows.callWith_type1 (args_cons (Call_ (ld_blt I hg2 hm2 PyProof.Rows.boot_reversed (PyProof.Rows.callWith_type1 (args_cons (thn (he.run pins s σ H _ I h) fun u s1 ⟨v, H1, I1, r1, q1⟩ => args_nil ?_) hs) hs)))
    hs2) hs2))
  obtain ⟨a, xs, ev, hq, q⟩ := q1
  subst ev
  obtain rfl : u = Value.ref a := r1
  obtain ⟨its, rv, p', hz⟩ := I1.list hq
  refine call_reversed_list p'.isList (args_nil ?_)
  have more : ∀ b o, s1.heap.get? b = some o → (s1.heap.push (revObj a ((its.toArray.size : Int) - 1))).get? b = some o := fun b o e => Heap.get?_push_of_some _ e
  have I2 : Inv X pins σ H1 { s1 with heap := s1.heap.push (revObj a ((its.toArray.size : Int) - 1)) } := I1.kept (t' := s1.toks) more
  obtain ⟨f0, f1, f2, f3, f4, f5⟩ := I1.fpOk (H' := H1) (b := s1.heap.objs.size) (Nat.le_refl _) (I1.hok.fresh (Nat.le_refl _))
  have pl := p'.isList
  obtain ⟨ol, hol, _⟩ := id pl
  have hne : a ≠ s1.heap.objs.size := Nat.ne_of_lt (Heap.lt_size hol)
  have hn : its.toArray.size ≤ sizeLine := by rw [List.size_toArray, ← rv.length]; exact hz
  have hsz : (s1.heap.push (revObj a ((its.toArray.size : Int) - 1))).objs.size = s1.heap.objs.size + 1 := by simp [Heap.push]
  refine call_list_rev (s := { s1 with heap := s1.heap.push (revObj a ((its.toArray.size : Int) - 1)) }) (I1.ok.hd hc) ⟨_, Heap.get?_push_size _ rfl, rfl, rfl⟩ (pl.push _) hne hn fun h' tk acc c' hk hS hi => ?_
  have hS2 : h'.get? (s1.heap.objs.size + 1) = some { cls := .type "list", dict := none, data := .seq acc c', slots := #[] } := by rw [← hsz]; exact hS
  have I3 : Inv X pins σ (upd H1 (s1.heap.objs.size + 1) (.lst xs.reverse)) { s1 with heap := h', toks := tk } :=
    Inv.turnedNew (t' := tk) (ch := [s1.heap.objs.size]) I1 (fun b o hb e => hk b o (fun z => hb (by simp [z])) (more b o e)) (fun b hb => by
      rw [List.mem_singleton.mp hb]
      exact I1.fpOk (H' := H1) (b := s1.heap.objs.size) (Nat.le_refl _) (I1.hok.fresh (Nat.le_refl _))) (Nat.le_succ _)
      (show ObjOk X.prog X.w _ _ _ (.lst xs.reverse) from ⟨by rw [List.length_reverse]; exact hz, acc.toList, c', RT.vals_rev rv hi, by rw [Array.toArray_toList]; exact hS2⟩)
  rw [show (s1.heap.push (revObj a ((its.toArray.size : Int) - 1))).objs.size = s1.heap.objs.size + 1 from hsz]
  exact ⟨.ref (s1.heap.objs.size + 1), _, I3, rfl, q _ (I1.hok.fresh (Nat.le_succ _))⟩
def eLRev (f : Cm Tm) : Cm Tm := fun ρ => (f ρ).bind fun t ρ1 => match look ρ1 t with
  | some (.lst _ l) => if D.owns l = false then .ok (.v (.lst true l.reverse)) ρ1 else .bad
  | _ => .bad
theorem DE.listRev (hc : X.calm = true) (hm : X.mg "list" = none) (hm2 : X.mg "reversed" = none) (ha : DE X W q e f) (hg : Gl X "list" := by rfl) (hg2 : Gl X "reversed" := by rfl)
    (hs : starEach [e] X.env = (false, eval e X.env) :: starEach [] X.env := by rfl)
    (hs2 : starEach [.Call (.Name "reversed" p2) [e] [] pos2] X.env = (false, eval (.Call (.Name "reversed" p2) [e] [] pos2) X.env) :: starEach [] X.env := by rfl) :
    DE X W q (.Call (.Name "list" p) [.Call (.Name "reversed" p2) [e] [] pos2] [] pos) (eLRev f) := by
  refine PE.imp (pe_listRev hc hg hm hg2 hm2 ha hs hs2) fun σ H Q ⟨κ, ρ, τ, vs, st, w⟩ => ?_
  refine ⟨κ, ρ, τ, vs, st, Out.wp_mono (Out.wp_bind w) (fun t ρ1 w1 v H1 st1 k1 => ?_) fun _ _ z => z⟩
  try dsimp only at w1
  split at w1
  · rename_i o l hl
    split at w1
    · rename_i ho
      obtain ⟨Z, A, B, C, c, tt, g, od, zz⟩ := st1.opn hl
      obtain ⟨p, xs, rfl, hp, C2, ol⟩ := od.listV zz
      refine ⟨p, xs, rfl, .inl (.inl hp), fun r hr => ?_⟩
      obtain ⟨C3, ol2, _⟩ := (ol.nil_of ho).rev
      have ol3 : Os X.K H1 Z l.reverse xs.reverse [] := ol2.nil_of (by
        have : ∀ m : List D, D.owns m = m.any D.own := fun m => by induction m with
          | nil => rfl
          | cons d m ih => simp [D.owns, ih]
        rw [this] at ho ⊢
        rw [List.any_reverse]
        exact ho)
      exact w1 _ _ (Stt.mkLst c tt g ol3 hr) fun hq => ⟨(k1 hq).1, (k1 hq).2.trans (Same_new hr)⟩
    · exact w1.elim
  · exact w1.elim
theorem DE.gstr {x : Str} {z : Str} {l : List Nat} (hm : ∃ t, X.mg x = some (.str z t)) (h : z = ⟨l.toArray⟩) (hg : Gl X x := by rfl) (hd : (x == ("__debug__" : Str)) = false := by decide) : DE X W true (.Name x pos) (eC (.str l)) := by
  obtain ⟨t, hm⟩ := hm
  subst h
  exact DE.const (pe_glob (v := .str ⟨l.toArray⟩) hg hm ⟨t, rfl⟩ hd) fun _ _ => .str l
theorem DE.gint {x : Str} {n : Int} (hm : ∃ t, X.mg x = some (.int n t)) (hg : Gl X x := by rfl) (hd : (x == ("__debug__" : Str)) = false := by decide) : DE X W true (.Name x pos) (eC (.int n)) := by
  obtain ⟨t, hm⟩ := hm
  exact DE.const (pe_glob (v := .int n) hg hm ⟨t, rfl⟩ hd) fun _ _ => .int n
end
end Dl

set_option linter.all false
set_option maxRecDepth 100000
namespace Dl
open PySem PySem.Spec PyProof.Rows L2
def kvOf (ks : List (List Nat)) (xs : List V) : List (Key × V) := (ks.zip xs).map fun p => ((.inr ⟨p.1.toArray⟩ : Key), p.2)
theorem kvOf_snd : ∀ {ks : List (List Nat)} {xs : List V}, xs.length = ks.length → (kvOf ks xs).map Prod.snd = xs
  | [], [], _ => rfl
  | [], _ :: _, h => by cases h
  | _ :: _, [], h => by cases h
  | k :: ks, x :: xs, h => by
    show x :: (kvOf ks xs).map Prod.snd = _
    rw [kvOf_snd (by simpa using h)]
theorem kvOf_keys : ∀ {ks : List (List Nat)} {xs : List V}, xs.length = ks.length → (kvOf ks xs).map (fun p => keyD p.1) = ks.map D.str
  | [], [], _ => rfl
  | [], _ :: _, h => by cases h
  | _ :: _, [], h => by cases h
  | k :: ks, x :: xs, h => by
    show keyD (.inr ⟨k.toArray⟩) :: (kvOf ks xs).map (fun p => keyD p.1) = _
    rw [kvOf_keys (by simpa using h)]
    rfl
theorem putK_new {kvs : List (Key × V)} {k : Key} {v : V} (h : ∀ p ∈ kvs, p.1 ≠ k) : putK kvs k v = kvs ++ [(k, v)] := by
  unfold putK
  rw [if_neg]
  simp only [List.any_eq_true, decide_eq_true_eq, not_exists, not_and]
  exact fun p hp => h p hp
theorem mergeK_all : ∀ {more kvs : List (Key × V)}, ((kvs ++ more).map Prod.fst).Nodup → mergeK kvs more = kvs ++ more
  | [], kvs, _ => by simp [mergeK]
  | p :: more, kvs, h => by
    show mergeK (putK kvs p.1 p.2) more = _
    have h1 : ∀ q ∈ kvs, q.1 ≠ p.1 := fun q hq e => by
      rw [List.map_append, List.nodup_append] at h
      exact h.2.2 q.1 (List.mem_map.mpr ⟨q, hq, rfl⟩) p.1 (List.mem_map.mpr ⟨p, List.mem_cons_self, rfl⟩) e
    rw [putK_new h1, mergeK_all (by simpa using h)]
    simp
theorem kv_nodup {ks : List (List Nat)} {xs : List V} (hl : xs.length = ks.length) (h : ks.Nodup) : ((kvOf ks xs).map Prod.fst).Nodup := by
  have e : (kvOf ks xs).map Prod.fst = ks.map fun k => (.inr ⟨k.toArray⟩ : Key) := by
    clear h
    induction ks generalizing xs with
    | nil => cases xs <;> first | rfl | cases hl
    | cons k ks ih => cases xs with
      | nil => cases hl
      | cons x xs =>
        show _ :: (kvOf ks xs).map Prod.fst = _
        rw [ih (by simpa using hl)]
        rfl
  rw [e]
  refine List.Pairwise.map _ (fun a b hab z => hab ?_) h
  injection z with z
  injection z with z
  simpa using z
def DPp (X : Cx) (W : WX) (pos : Pos) (keys : List (Option Expr)) (values : List Expr) (ks : List (List Nat)) (fs : Cm (List Tm)) : Prop :=
  ∃ trs, PPs X pos keys values trs ∧ keys.length = ks.length ∧ values.length = ks.length ∧ keys.all (·.isSome) = true ∧ ∀ σ H (Q : List (V × V) → Hp → Prop), tDA X.K W false fs σ H (fun xs H' => xs.length = ks.length → Q ((kvOf ks xs).map fun p => (kV p.1, p.2)) H') → tPairs trs σ H Q
section
variable {X : Cx} {W : WX} {q : Bool} {pos p2 : Pos} {keys : List (Option Expr)} {values : List Expr} {ks : List (List Nat)} {fs : Cm (List Tm)} {f : Cm Tm} {v : Expr}
theorem DPp.nil : DPp X W pos [] [] [] aNil := ⟨[], pps_nil, rfl, rfl, rfl, fun σ H Q ⟨κ, ρ, τ, vs, st, w⟩ => w [] H rfl st (fun z => nomatch z) rfl⟩
theorem DPp.cons {z : Str} {l : List Nat} {kk} (hz : z = ⟨l.toArray⟩) (hv : DE X W q v f) (hr : DPp X W pos keys values ks fs) : DPp X W pos (some (.Constant (.str z) kk p2) :: keys) (v :: values) (l :: ks) (aCons f fs) := by
  subst hz
  obtain ⟨trs, h1, h2, h3, h4, h5⟩ := hr
  refine ⟨_, pps_cons pe_str hv h1, by simp [h2], by simp [h3], by simpa using h4, fun σ H Q ⟨κ, ρ, τ, vs, st, w⟩ => ?_⟩
  show tD X.K W q f σ H _
  refine ⟨κ, ρ, τ, vs, st, Out.wp_mono (Out.wp_bind w) (fun t ρ1 w1 x H1 st1 k1 => ?_) fun _ _ z => z⟩
  refine h5 σ H1 _ ⟨κ, ρ1, t :: τ, x :: vs, st1, Out.wp_mono (Out.wp_bind w1) (fun ts ρ2 w2 xs H2 hl st2 k2 hlk => ?_) fun e ρ2 z H2 d s2 eo => z H2 d s2.pop eo⟩
  exact w2 (x :: xs) H2 (by simp [hl]) (Stt.turn (τ1 := ts) (τ2 := [t]) (v1 := xs) (v2 := [x]) hl rfl st2) (fun z => nomatch z) (by simp [hlk])
def eDsp (ks : List (List Nat)) (fs : Cm (List Tm)) : Cm Tm := fun ρ => (fs ρ).bind fun ts ρ1 => match dats ts with
  | some ds => if ds.length = ks.length then .ok (.v (.dic true (ks.map D.str) ds)) ρ1 else .bad
  | none => .bad
theorem DE.disp (h : DPp X W pos keys values ks fs) (hn : ks.Nodup) (h0 : keys ≠ []) (h15 : keys.length ≤ 15) : DE X W false (.Dict keys values pos) (eDsp ks fs) := by
  obtain ⟨trs, h1, h2, h3, h4, h5⟩ := h
  refine PE.imp (pe_disp h1 h4 (by rw [h2, h3]) h0 h15) fun σ H Q ⟨κ, ρ, τ, vs, st, w⟩ p hp => ?_
  refine h5 σ _ _ ⟨κ, ρ, _, _, st.dic0 hp, Out.wp_mono (Out.wp_bind w) (fun ts ρ1 w1 xs H1 hl st1 k1 hlk => ?_) fun e ρ1 z H1 d s1 eo => z H1 d s1.pop eo⟩
  try dsimp only at w1
  split at w1
  · rename_i ds hd
    obtain rfl := dats_eq hd
    split at w1
    · rename_i hz
      rw [tms_len] at hl
      obtain ⟨p', kvs0, e1, e2, e3, e4, go⟩ := Stt.chgD st1 hl
      injection e1 with e1
      subst e1
      have e5 : kvs0 = [] := by simpa using e4
      subst e5
      refine ⟨e2, kvOf ks xs, rfl, ?_, ?_⟩
      · have : (kvOf ks xs).length = ks.length := by simp [kvOf, hlk]
        rw [this, ← h2]
        exact h15
      · rw [mergeK_all (by simpa using kv_nodup hlk hn), List.nil_append]
        have st2 := go (kvOf ks xs) [] ds [] fun Z A B zz o1 o2 => ⟨[], A, .nil, by rw [kvOf_snd hlk]; exact o1, ⟨B, by simp⟩⟩
        rw [kvOf_keys hlk] at st2
        exact w1 _ _ st2 fun z => nomatch z
    · exact w1.elim
  · exact w1.elim
end
end Dl

set_option linter.all false
set_option maxRecDepth 100000
namespace Dl
open PySem PySem.Spec PyProof.Rows L2
section
variable {X : Cx} {W : WX} {q q1 q2 q3 : Bool} {tg e a b c : Expr} {f g h : Cm Tm} {fs : Cm (List Tm)} {pos p p2 pos2 : Pos} {i : Nat}
def stepD (lo c : Int) (n : Nat) : List D := (List.range n).map fun (i : Nat) => .int (lo + (i : Nat) * c)
theorem iters_C {K : PySem.W.Frag} {κ : Fr} {lo c : Int} {n : Nat} : Iters K κ (Itc lo c n) [] [] (stepD lo c n) :=
  iters_fn (fd := fun i => .int (lo + (i : Nat) * c)) (fv := fun i => .int (lo + (i : Nat) * c)) (fun i H hi => hi) (fun i H x H' hi y => ⟨y.1, y.2⟩) (fun H => Nat.le_refl _) (fun i H Z => .int _)
noncomputable def rng3 (fs : Cm (List Tm)) : Cm Src := fun ρ => (fs ρ).bind fun ts ρ1 => match intsD ts with
  | some [i, j, c] => if inR i ∧ inR j then (if c = -1 then .ok ⟨[], stepD i (-1) (i - j).toNat, none⟩ ρ1 else .bad) else .bad
  | _ => .bad
theorem DI.range3 (hm : X.mg "range" = none) (ha : DA X W q [a, b, c] fs) (hg : Gl X "range" := by rfl)
    (hs : starEach [a, b, c] X.env = (false, eval a X.env) :: starEach [b, c] X.env := by rfl) (hpl : (backTo pos (starEach [b, c] X.env)).any (·.1) = false := by rfl) :
    DI X W tg (.Call (.Name "range" p) [a, b, c] [] pos) (rng3 fs) := by
  refine PI.imp (pi_range3 hg hm ha hs hpl) fun σ H R ⟨κ, ρ, τ, vs, st, w⟩ => ?_
  refine ⟨κ, ρ, τ, vs, st, Out.wp_mono (Out.wp_bind w) (fun ts ρ1 w1 xs H1 hl st1 k1 => ?_) fun _ _ z => z⟩
  try dsimp only at w1
  split at w1
  · rename_i i j c hi
    split at w1
    · rename_i hr
      split at w1
      · rename_i hc
        subst hc
        have e := Stt.ints hl hi st1
        subst e
        obtain ⟨a1, a2⟩ := hr.1.two
        obtain ⟨b1, b2⟩ := hr.2.two
        exact ⟨i, j, -1, (i - j).toNat, rfl, RgC.neg a1 a2 b1 b2, w1 _ [] _ rfl (fun _ z => nomatch z) (st1.popN hl) iters_C⟩
      · exact w1.elim
    · exact w1.elim
  · exact w1.elim
theorem iters_rev {K : PySem.W.Frag} {κ : Fr} {ds : List D} {a : Addr} {J : It} {t : D} {v : V} (xsOf : Hp → List V → Prop)
    (hgo : ∀ i H, i < ds.length → (∃ xs x, xsOf H xs ∧ xs[ds.length - 1 - i]? = some x) → J.go i H) (hy : ∀ i H x H', J.yld i H x H' → H' = H ∧ ∀ xs, xsOf H xs → xs[ds.length - 1 - i]? = some x) (hst : ∀ H, J.stop ds.length H)
    (item : ∀ {ρ τ vs σ H}, Stt K κ ρ (.v t :: τ) (v :: vs) σ H → ∃ xs : List V, xsOf H xs ∧ xs.length = ds.length ∧ ∀ (i : Nat) (d : D) (x : V), ds[i]? = some d → xs[i]? = some x → Stt K κ ρ (.v d :: (.v t :: τ)) (x :: (v :: vs)) σ H) : Iters K κ J [t] [v] ds.reverse := by
  intro ρ τ vs σ H st
  obtain ⟨xs, h1, h2, h3⟩ := item st
  refine ⟨fun i d ed => ?_, by rw [List.length_reverse]; exact hst H⟩
  have hi : i < ds.length := by
    have := (List.getElem?_eq_some_iff.mp ed).1
    rwa [List.length_reverse] at this
  rw [List.getElem?_reverse hi] at ed
  have hx : xs[ds.length - 1 - i]? = some xs[ds.length - 1 - i] := List.getElem?_eq_getElem (by omega)
  refine ⟨hgo i H hi ⟨xs, _, h1, hx⟩, fun x H' y => ?_⟩
  obtain ⟨rfl, hy⟩ := hy i H x H' y
  exact h3 _ d x ed (hy xs h1)
def srcVr (d : D) : Option Src := (srcV d).bind fun s => match s.ts with
  | [_] => some { s with ds := s.ds.reverse }
  | _ => none
def srcR (f : Cm Tm) : Cm Src := fun ρ => (f ρ).bind fun t ρ1 => match t with
  | .v d => match srcVr d with
    | some s => .ok s ρ1
    | none => .bad
  | _ => .bad
theorem DI.rev (hm : X.mg "reversed" = none) (h : DE X W q e f) (hg : Gl X "reversed" := by rfl) (hs : starEach [e] X.env = (false, eval e X.env) :: starEach [] X.env := by rfl) : DI X W tg (.Call (.Name "reversed" p) [e] [] pos) (srcR f) := by
  refine PI.imp (RT.pi_revA hg hm h hs) fun σ H R ⟨κ, ρ, τ, vs, st, w⟩ => ?_
  refine ⟨κ, ρ, τ, vs, st, Out.wp_mono (Out.wp_bind w) (fun t ρ1 w1 v H1 st1 k1 => ?_) fun _ _ z => z⟩
  try dsimp only at w1
  split at w1
  · rename_i d
    split at w1
    · rename_i s hs
      unfold srcVr srcV at hs
      split at hs
      · rename_i hf
        have st2 := st1.frzT hf
        cases hd : d.frz with
        | lst o l =>
          rw [hd] at hs st2
          have ho := frz_lst hd
          subst ho
          cases hs
          obtain ⟨a, xs, rfl, hq, hl, _⟩ := st2.itemL
          have hlr : xs.length = l.length := hl
          refine ⟨a, xs, rfl, .inl ⟨hq, ?_⟩⟩
          rw [hlr]
          exact w1 _ [.ref a] _ rfl (fun _ z => nomatch z) st2 (iters_rev (a := a) (fun H xs => SqL X.K H a xs) (fun i H hi hx => ⟨hi, hx⟩) (fun i H x H' y => y) (fun H => Nat.le_refl _) fun st => by
            obtain ⟨b, ys, e, h1, h2, h3⟩ := st.itemL
            injection e with e
            subst e
            exact ⟨ys, h1, h2, h3⟩)
        | tup l =>
          rw [hd] at hs st2
          have ho := frz_owns hf hd
          cases hs
          obtain ⟨a, xs, rfl, hq, hl, _⟩ := st2.itemT ho
          refine ⟨a, xs, rfl, .inr ⟨hq, ?_⟩⟩
          rw [hl]
          exact w1 _ [.ref a] _ rfl (fun _ z => nomatch z) st2 (iters_rev (a := a) (fun H xs => SqT X.K H a xs) (fun i H hi hx => ⟨hi, hx⟩) (fun i H x H' y => y) (fun H => Nat.le_refl _) fun st => by
            obtain ⟨b, ys, e, h1, h2, h3⟩ := st.itemT ho
            injection e with e
            subst e
            exact ⟨ys, h1, h2, h3⟩)
        | str l => rw [hd] at hs; cases hs
        | _ => rw [hd] at hs; cases hs
      · cases hs
    · exact w1.elim
  · exact w1.elim
noncomputable def rngRev (f : Cm Tm) : Cm Src := fun ρ => (f ρ).bind fun t ρ1 => match look ρ1 t with
  | some (.int n) => if inR n then .ok ⟨[], stepD (0 + (((n - 0).toNat : Nat) : Int) - 1) (-1) (n - 0).toNat, none⟩ ρ1 else .bad
  | _ => .bad
theorem DI.rangeRev (hm : X.mg "reversed" = none) (hm2 : X.mg "range" = none) (h : DE X W q e f) (hg : Gl X "reversed" := by rfl) (hg2 : Gl X "range" := by rfl)
    (na : starEach [e] X.env = (false, eval e X.env) :: starEach [] X.env := by rfl) (hs : starEach [.Call (.Name "range" p2) [e] [] pos2] X.env = (false, eval (.Call (.Name "range" p2) [e] [] pos2) X.env) :: starEach [] X.env := by rfl) :
    DI X W tg (.Call (.Name "reversed" p) [.Call (.Name "range" p2) [e] [] pos2] [] pos) (rngRev f) := by
  refine PI.imp (pi_revR hg hm (prg_1 hg2 hm2 h na) hs) fun σ H R ⟨κ, ρ, τ, vs, st, w⟩ => ?_
  refine ⟨κ, ρ, τ, vs, st, Out.wp_mono (Out.wp_bind w) (fun t ρ1 w1 v H1 st1 k1 => ?_) fun _ _ z => z⟩
  try dsimp only at w1
  split at w1
  · rename_i n hn
    split at w1
    · rename_i hr
      obtain ⟨Z, A, B, C, c, tt, g, od, zz⟩ := st1.opn hn
      obtain rfl := od.intV
      obtain ⟨a1, a2⟩ := hr.two
      exact ⟨n, rfl, by decide, by decide, a1, a2, w1 _ [] _ rfl (fun _ z => nomatch z) st1.pop iters_C⟩
    · exact w1.elim
  · exact w1.elim
end
end Dl

set_option linter.all false
set_option maxRecDepth 100000
namespace Dl
open PySem PySem.Spec PyProof.Rows L2
theorem FnG.none {P : Program} {w : World} {K : PySem.W.Frag} {mg : Str → Option Value} {base : Heap} {k n : Nat} {f : Addr} {fd : FuncData} {ps : List Str} (hn : ps.length = n) : FnG P w K mg base k f fd ps (spD K n fun _ => .bad) where
  len := fun vs U Q E h => by rw [spD_len h, hn]
  run := fun A outer t U args us vs Q E hr e b v h => by
    obtain ⟨Z, ds, A', _, _, _, _, w⟩ := h
    exact w.elim
end Dl

set_option linter.all false
set_option maxRecDepth 100000
namespace Ds
open PySem PySem.Spec PyProof.Rows L2
def Mk (m : Nat) : Prop := ∃ n, 3 ≤ n ∧ n ≤ 13 ∧ m + 1 = 2 ^ n
theorem Mk.bd {m : Nat} : Mk m → m + 1 ≤ 8192 ∧ 8 ≤ m + 1
  | ⟨n, h1, h2, e⟩ => by
    have a := Nat.pow_le_pow_right (n := 2) (by decide) h2
    have b := Nat.pow_le_pow_right (n := 2) (by decide) h1
    omega
theorem Mk.odd {m : Nat} : Mk m → m % 2 = 1
  | ⟨n + 1, h1, h2, e⟩ => by
    rw [Nat.pow_succ] at e
    omega
  | ⟨0, h1, _, _⟩ => by omega
def raw : Nat → Nat
  | 0 => 0
  | k + 1 => 5 * raw k + 1
theorem raw_add (a : Nat) : ∀ b, raw (a + b) = 5 ^ b * raw a + raw b
  | 0 => by simp [raw]
  | b + 1 => by
    rw [← Nat.add_assoc, raw, raw, raw_add a b, Nat.pow_succ]
    have : 5 * (5 ^ b * raw a) = 5 ^ b * 5 * raw a := by rw [Nat.mul_comm (5 ^ b) 5, Nat.mul_assoc]
    omega
theorem raw_pow : ∀ k, 5 ^ k = 4 * raw k + 1
  | 0 => rfl
  | k + 1 => by
    rw [Nat.pow_succ, raw_pow k, raw]
    omega
theorem raw_two : ∀ n, ∃ q, raw (2 ^ n) = 2 ^ n * (2 * q + 1)
  | 0 => ⟨0, rfl⟩
  | n + 1 => by
    obtain ⟨q, e⟩ := raw_two n
    have e2 : raw (2 ^ (n + 1)) = (5 ^ 2 ^ n + 1) * raw (2 ^ n) := by
      rw [Nat.pow_succ, Nat.mul_two, raw_add, Nat.add_mul, Nat.one_mul]
    refine ⟨2 * raw (2 ^ n) * q + raw (2 ^ n) + q, ?_⟩
    rw [e2, raw_pow, show 4 * raw (2 ^ n) + 1 + 1 = 2 * (2 * raw (2 ^ n) + 1) by omega, Nat.pow_succ]
    generalize raw (2 ^ n) = r at e
    generalize 2 ^ n = N at e
    have : 2 * (2 * r * q + r + q) + 1 = (2 * r + 1) * (2 * q + 1) := by
      simp only [Nat.add_mul, Nat.mul_add, Nat.mul_one, Nat.one_mul]
      have h1 : 2 * (2 * r * q) = 2 * r * (2 * q) := by
        rw [Nat.mul_left_comm (2 * r) 2 q]
      omega
    rw [this]
    calc 2 * (2 * r + 1) * r = 2 * (2 * r + 1) * (N * (2 * q + 1)) := by rw [← e]
      _ = N * 2 * ((2 * r + 1) * (2 * q + 1)) := by ac_rfl
theorem raw_all : ∀ n j, j < 2 ^ n → ∃ k, k < 2 ^ n ∧ raw k % 2 ^ n = j
  | 0, j, h => by
    have : j = 0 := by simpa using h
    subst this
    exact ⟨0, by decide, rfl⟩
  | n + 1, j, h => by
    have hp : 0 < 2 ^ n := Nat.pow_pos (by decide)
    obtain ⟨k, hk, e⟩ := raw_all n (j % 2 ^ n) (Nat.mod_lt _ hp)
    obtain ⟨q, eq⟩ := raw_two n
    have e5 : 5 ^ k * raw (2 ^ n) = 2 ^ (n + 1) * (2 * raw k * (2 * q + 1) + q) + 2 ^ n := by
      rw [eq, raw_pow, Nat.pow_succ]
      generalize 2 ^ n = N
      generalize raw k = r
      have : (4 * r + 1) * (2 * q + 1) = 2 * (2 * r * (2 * q + 1) + q) + 1 := by
        rw [Nat.add_mul, Nat.one_mul, show 4 * r = 2 * (2 * r) by omega, Nat.mul_assoc 2 (2 * r)]
        omega
      rw [Nat.mul_left_comm, this, Nat.mul_add, Nat.mul_one, ← Nat.mul_assoc N 2]
    have two : (2 ^ (n + 1) : Nat) = 2 ^ n * 2 := Nat.pow_succ ..
    have hr : raw (2 ^ n + k) % 2 ^ (n + 1) = (2 ^ n + raw k) % 2 ^ (n + 1) := by
      rw [raw_add, e5, Nat.add_assoc, Nat.mul_add_mod]
    have c1 : raw k % 2 ^ (n + 1) % 2 ^ n = j % 2 ^ n := by
      rw [← e, two, Nat.mod_mul_right_mod]
    have c2 : raw k % 2 ^ (n + 1) < 2 ^ (n + 1) := Nat.mod_lt _ (by omega)
    by_cases c : raw k % 2 ^ (n + 1) = j
    · exact ⟨k, by omega, c⟩
    · refine ⟨2 ^ n + k, by omega, ?_⟩
      rw [hr, Nat.add_mod]
      generalize raw k % 2 ^ (n + 1) = r at c c1 c2
      have d1 := Nat.div_add_mod r (2 ^ n)
      have d2 := Nat.div_add_mod j (2 ^ n)
      have l1 : r / 2 ^ n < 2 := by rw [Nat.div_lt_iff_lt_mul hp]; omega
      have l2 : j / 2 ^ n < 2 := by rw [Nat.div_lt_iff_lt_mul hp]; omega
      have s1 : 2 ^ n % 2 ^ (n + 1) = 2 ^ n := Nat.mod_eq_of_lt (by omega)
      rw [s1]
      rw [c1] at d1
      have m1 := Nat.mod_lt j hp
      generalize j % 2 ^ n = x at d1 d2 m1
      generalize r / 2 ^ n = a at d1 l1
      generalize j / 2 ^ n = b at d2 l2
      rw [two]
      generalize 2 ^ n = N at *
      have ha : a = 0 ∨ a = 1 := by omega
      have hb : b = 0 ∨ b = 1 := by omega
      rcases ha with rfl | rfl <;> rcases hb with rfl | rfl
      · omega
      · have : N + r = j := by omega
        rw [this]; exact Nat.mod_eq_of_lt (by omega)
      · have : N + r = N * 2 + j := by omega
        rw [this, Nat.add_mod_left]; exact Nat.mod_eq_of_lt (by omega)
      · omega
theorem lcg_raw (m : Nat) : ∀ k, lcgN m k = raw k % (m + 1)
  | 0 => by simp [lcgN, raw]
  | k + 1 => by
    rw [lcgN, lcg_raw m k, raw, Nat.add_mod, Nat.mul_mod, Nat.mod_mod, ← Nat.mul_mod, ← Nat.add_mod, Nat.mul_comm]
theorem lcg_meets {m : Nat} (hm : Mk m) {i j : Nat} (hi : i ≤ m) (hj : j ≤ m) : ∃ k, k ≤ m ∧ lcgI m i k = j := by
  obtain ⟨n, _, _, e⟩ := hm
  obtain ⟨a, ha, ea⟩ := raw_all n i (by omega)
  obtain ⟨b, hb, eb⟩ := raw_all n j (by omega)
  rw [← e] at ea eb
  have per : ∀ k, lcgN m (m + 1 + k) = lcgN m k := fun k => by
    obtain ⟨q, eq⟩ := raw_two n
    rw [lcg_raw, lcg_raw, raw_add, e, eq, Nat.mul_left_comm, Nat.mul_add_mod]
  rw [← ea, ← lcg_raw]
  rcases Nat.lt_or_ge b a with c | c
  · refine ⟨m + 1 + b - a, by omega, ?_⟩
    rw [lcgN_add, show a + (m + 1 + b - a) = m + 1 + b by omega, per, lcg_raw, eb]
  · exact ⟨b - a, by omega, by rw [lcgN_add, show a + (b - a) = b by omega, lcg_raw, eb]⟩
theorem starts {m : Nat} (hm : Mk m) (h : Int) {j : Nat} (hj : j ≤ m) : ∃ n, n ≤ m + 12 ∧ runI m (SetTable.bits h) n = j := by
  obtain ⟨k, hk, e⟩ := lcg_meets hm (runI_le m (SetTable.bits h) 12) hj
  exact ⟨12 + k, by omega, (runI_tail (bits_lt h) k).trans e⟩
theorem meets {m : Nat} (hm : Mk m) (h : Int) {j : Nat} (hj : j ≤ m) : ∃ k, k < 10 * SetTable.turns m ∧ way m h k = j := by
  obtain ⟨n, hn, e⟩ := starts hm h hj
  obtain ⟨k, hk, e2⟩ := run_nth m (SetTable.bits h) n
  refine ⟨k, by unfold SetTable.turns; omega, ?_⟩
  show (nth m _ k).j = j
  rw [e2]
  exact e
theorem way_in (m : Nat) (h : Int) (k : Nat) : way m h k ≤ m := by
  have hi : SetTable.bits h % (m + 1) ≤ m := Nat.le_of_lt_succ (Nat.mod_lt _ (Nat.succ_pos _))
  have r := runEnd_bd hi
  have := nth_in (m := m) k (runAt m (SetTable.bits h % (m + 1)) (SetTable.bits h)) (by simp only [runAt]; omega)
  show (nth m _ k).j ≤ m
  omega
structure Tb (t : SetTable) (hs : List Int) : Prop where
  ris : Ris t.place.toList
  dm : t.dummies = #[]
  sz : t.place.size = hs.length
  msk : Mk t.mask
  rch : ∀ (i : Nat) (h : Int) (j : Nat), hs[i]? = some h → t.place.toList[i]? = some j → ∃ k, way t.mask h k = j ∧ ∀ k', k' < k → way t.mask h k' ∈ t.place.toList
theorem Tb.len {t : SetTable} {hs : List Int} (T : Tb t hs) : t.place.toList.length = hs.length := by rw [Array.length_toList]; exact T.sz
theorem Tb.gap {t : SetTable} {hs : List Int} (T : Tb t hs) (hl : hs.length ≤ t.mask) (h : Int) : ∃ K, K < 10 * SetTable.turns t.mask ∧ way t.mask h K ∉ t.place.toList ∧ ∀ k, k < K → way t.mask h k ∈ t.place.toList := by
  obtain ⟨j, hj, hn⟩ := st_missing t.place.toList (t.mask + 1) (by rw [T.len]; omega)
  obtain ⟨k, hk, e⟩ := meets T.msk h (Nat.le_of_lt_succ hj)
  obtain ⟨K, h1, h2, h3⟩ := st_least (p := fun k => way t.mask h k ∉ t.place.toList) k (by rw [e]; exact hn)
  exact ⟨K, by omega, h2, fun k' hk' => Classical.not_not.mp (h3 k' hk')⟩
theorem Tb.ahead {t : SetTable} {hs : List Int} (T : Tb t hs) {h : Int} {K i j : Nat} (hK : way t.mask h K ∉ t.place.toList) (hi : hs[i]? = some h) (hj : t.place.toList[i]? = some j) : ∃ k, k < K ∧ way t.mask h k = j := by
  obtain ⟨k, e, hb⟩ := T.rch i h j hi hj
  refine ⟨k, Nat.lt_of_not_le fun hle => ?_, e⟩
  rcases Nat.lt_or_eq_of_le hle with c | c
  · exact hK (hb K c)
  · rw [c, e] at hK
    exact hK (List.mem_of_getElem? hj)
structure Kin (t u : SetTable) : Prop where
  led : u.led = t.led
  plain : u.plain = t.plain
theorem Tb.lay {t : SetTable} {hs : List Int} (T : Tb t hs) {h : Int} {K : Nat} (hK : way t.mask h K ∉ t.place.toList) (hb : ∀ k, k < K → way t.mask h k ∈ t.place.toList) :
    ∃ p u, t.put (way t.mask h K) = (u, p) ∧ p ≤ hs.length ∧ Tb u (hs.take p ++ h :: hs.drop p) ∧ u.mask = t.mask ∧ Kin t u ∧ u.fill = hs.length + 1 := by
  generalize hj : way t.mask h K = j at hK
  have c1 := (below_cut T.ris j).1
  have hpl : SetTable.below t.place j ≤ t.place.toList.length := by rw [Array.length_toList]; exact c1
  have hph : SetTable.below t.place j ≤ hs.length := by rw [← T.len]; exact hpl
  have hnp : t.place[SetTable.below t.place j]? ≠ some j := fun e => hK (List.mem_of_getElem? (by rw [Array.getElem?_toList]; exact e))
  have hpp := put_place t j
  have hsize : (t.put j).1.place.size = hs.length + 1 := by rw [← Array.length_toList, hpp, len_ins _ hpl, T.len]
  have hdm := put_dm T.dm j
  have hris : Ris (t.put j).1.place.toList := ris_insert T.ris hnp
  have hfill : (t.put j).1.fill = hs.length + 1 := by
    show (t.put j).1.place.size + (t.put j).1.dummies.size = hs.length + 1
    rw [hsize, hdm]; rfl
  have hk1 : (t.put j).1.mask = t.mask := rfl
  have hk2 : Kin t (t.put j).1 := ⟨rfl, rfl⟩
  have hk3 : (t.put j).2 = SetTable.below t.place j := rfl
  generalize SetTable.below t.place j = p at hpl hph hpp hk3
  refine ⟨p, (t.put j).1, by rw [← hk3], hph, ⟨hris, hdm, by rw [len_ins _ hph]; exact hsize, by rw [hk1]; exact T.msk, fun i h' j' h1 h2 => ?_⟩, hk1, hk2, hfill⟩
  rw [hk1, hpp]
  rw [tins_get hs hph] at h1
  rw [hpp, tins_get _ hpl] at h2
  by_cases c : i < p
  · rw [if_pos c] at h1 h2
    obtain ⟨k, e, z⟩ := T.rch i h' j' h1 h2
    exact ⟨k, e, fun k' hk' => mem_ins.2 (.inr (z k' hk'))⟩
  · rw [if_neg c] at h1 h2
    by_cases d : i = p
    · rw [if_pos d] at h1 h2
      cases h1
      cases h2
      exact ⟨K, hj, fun k' hk' => mem_ins.2 (.inr (hb k' hk'))⟩
    · rw [if_neg d] at h1 h2
      obtain ⟨k, e, z⟩ := T.rch (i - 1) h' j' h1 h2
      exact ⟨k, e, fun k' hk' => mem_ins.2 (.inr (z k' hk'))⟩
theorem seat {m : Nat} (hm : Mk m) (owner : Array (Option Nat)) (h : Int) {j : Nat} (hj : j ≤ m) (hf : oAt owner j = none) :
    ∃ K, SetTable.layClean.free m owner (SetTable.turns m) (SetTable.bits h % (m + 1)) (SetTable.bits h) = some (way m h K) ∧ oAt owner (way m h K) = none ∧ ∀ k, k < K → oAt owner (way m h k) ≠ none := by
  obtain ⟨n, hn, e⟩ := starts hm h hj
  have hw : way m h (off m (SetTable.bits h % (m + 1)) (SetTable.bits h) n) = j := by
    show (nth m _ _).j = j
    rw [nth_off, itL_run]
    exact e
  obtain ⟨K, k1, k2, k3⟩ := st_least (p := fun k => oAt owner (way m h k) = none) _ (by rw [hw]; exact hf)
  refine ⟨K, free_spec m owner (SetTable.turns m) n _ _ K (by unfold SetTable.turns; omega) k1 (fun k hk => ?_) (by rw [show oAt owner _ = none from k2]; rfl), k2, k3⟩
  have := k3 k hk
  revert this
  cases oAt owner (nth m (runAt m (SetTable.bits h % (m + 1)) (SetTable.bits h)) k).j with
  | none => exact fun z => absurd rfl z
  | some _ => exact fun _ => rfl
theorem Own.more {m : Nat} (hm : Mk m) {done : List Int} {owner : Array (Option Nat)} (W : Own m done owner) (hl : done.length ≤ m) (h : Int) :
    ∃ j, SetTable.layClean.free m owner (SetTable.turns m) (SetTable.bits h % (m + 1)) (SetTable.bits h) = some j ∧ Own m (done ++ [h]) (owner.setIfInBounds j (some done.length)) := by
  obtain ⟨ps, hps, hin⟩ := W.ps
  obtain ⟨j0, h0, hn0⟩ := st_missing ps (m + 1) (by omega)
  have hj0 : oAt owner j0 = none := Classical.byContradiction fun z => hn0 (hin j0 (Nat.le_of_lt_succ h0) z)
  obtain ⟨K, e1, e2, e3⟩ := seat hm owner h (Nat.le_of_lt_succ h0) hj0
  have hjm := way_in m h K
  refine ⟨way m h K, e1, ?_⟩
  generalize hjj : way m h K = j at e2 hjm
  have hjs : j < owner.size := by rw [W.sz]; omega
  have self := oAt_set_self (some done.length) hjs
  have mono : ∀ i, oAt owner i ≠ none → oAt (owner.setIfInBounds j (some done.length)) i ≠ none := fun i hi => by
    by_cases c : i = j
    · rw [c, self]; simp
    · rwa [oAt_set_ne _ c]
  exact {
    sz := by rw [Array.size_setIfInBounds]; exact W.sz
    at_ := fun i k hi e => by
      by_cases c : i = j
      · subst c
        rw [self] at e
        cases e
        exact ⟨h, K, by simp, hjj, fun k' hk' => mono _ (e3 k' hk')⟩
      · rw [oAt_set_ne _ c] at e
        obtain ⟨h', K', a1, a2, a3⟩ := W.at_ i k hi e
        exact ⟨h', K', (List.getElem?_append_left (List.getElem?_eq_some_iff.mp a1).1).trans a1, a2, fun k' hk' => mono _ (a3 k' hk')⟩
    all := fun k hk => by
      simp only [List.length_append, List.length_cons, List.length_nil] at hk
      by_cases c : k < done.length
      · obtain ⟨i, hi, e⟩ := W.all k c
        exact ⟨i, hi, (oAt_set_ne _ fun z => by rw [z, e2] at e; cases e).trans e⟩
      · exact ⟨j, hjm, by rw [self, show k = done.length by omega]⟩
    ps := ⟨j :: ps, by simp [hps], fun i hi e => by
      by_cases c : i = j
      · exact c ▸ List.mem_cons_self
      · rw [oAt_set_ne _ c] at e
        exact List.mem_cons_of_mem _ (hin i hi e)⟩ }
theorem all_seated {m : Nat} (hm : Mk m) : ∀ (rest done : List Int) (owner : Array (Option Nat)), Own m done owner → done.length + rest.length ≤ m →
    ∃ o, rest.foldl (stepF m) (some (owner, done.length)) = some (o, done.length + rest.length) ∧ Own m (done ++ rest) o
  | [], done, owner, W, _ => ⟨owner, rfl, by rwa [List.append_nil]⟩
  | h :: rest, done, owner, W, hl => by
    simp only [List.length_cons] at hl
    obtain ⟨j, e, W'⟩ := Own.more hm W (by omega) h
    obtain ⟨o, f, W2⟩ := all_seated hm rest (done ++ [h]) _ W' (by simp; omega)
    refine ⟨o, ?_, by simpa using W2⟩
    rw [List.foldl_cons, stepF_some e]
    simp only [List.length_append, List.length_cons, List.length_nil] at f
    rw [f, List.length_cons, Nat.add_assoc, Nat.add_assoc, Nat.add_comm 1, Nat.zero_add]
theorem relaid (t : SetTable) {hs : Array Int} {wanted M : Nat} (hw : SetTable.sizeAbove wanted - 1 = M) (hM : Mk M) (hn : hs.size ≤ M) :
    ∃ u order, t.relaid hs wanted = some (u, order) ∧ order.toList.Perm (List.range hs.size) ∧ Tb u (order.toList.map fun i => hs.getD i 0) ∧ u.mask = M ∧ Kin t u := by
  obtain ⟨o, f, W⟩ := all_seated hM hs.toList [] _ (Own.init M) (by simpa using hn)
  rw [List.nil_append] at W
  have hlay : SetTable.layClean M hs = some o := by
    rw [layClean_eq]
    simp only [List.length_nil] at f
    rw [f]; rfl
  have hr : t.relaid hs wanted = some (tabOf t M o, ((liveOf M o).map (·.2)).toArray) := by
    rw [relaid_eq, hw, hlay]; rfl
  have r1 : Ris ((liveOf M o).map (·.1)) := (ris_live (fun j => o.getD j none) (List.range (M + 1)) (by unfold Ris; exact List.pairwise_lt_range)).1
  have nd : ((liveOf M o).map (·.1)).Nodup := List.Pairwise.imp (fun h => Nat.ne_of_lt h) r1
  have hlen : (liveOf M o).length = hs.size := by
    obtain ⟨ps, p1, p2⟩ := W.ps
    have a := nat_nodup_len ((liveOf M o).map (·.1)) ps nd fun x hx => by
      obtain ⟨⟨y, k⟩, hq, rfl⟩ := List.mem_map.mp hx
      obtain ⟨b1, b2⟩ := (mem_live W.sz).1 hq
      exact p2 y b1 (by rw [b2]; simp)
    have b := nat_nodup_len (List.range hs.size) ((liveOf M o).map (·.2)) List.nodup_range fun k hk => by
      obtain ⟨j, b1, b2⟩ := W.all k (by simpa using hk)
      exact List.mem_map.mpr ⟨(j, k), (mem_live W.sz).2 ⟨b1, b2⟩, rfl⟩
    simp only [List.length_map, List.length_range, Array.length_toList] at a b p1
    omega
  refine ⟨_, _, hr, perm_range hs.size _ (by simpa using hlen) fun k hk => ?_, ⟨r1, rfl, ?_, hM, fun i h j h1 h2 => ?_⟩, rfl, ⟨rfl, rfl⟩⟩
  · obtain ⟨j, b1, b2⟩ := W.all k (by simpa using hk)
    exact List.mem_map.mpr ⟨(j, k), (mem_live W.sz).2 ⟨b1, b2⟩, rfl⟩
  · show ((liveOf M o).map (·.1)).toArray.size = _
    simp
  · have h1' : (((liveOf M o).map (·.2)).map fun i => hs.getD i 0)[i]? = some h := h1
    have h2' : ((liveOf M o).map (·.1))[i]? = some j := h2
    simp only [List.getElem?_map] at h1' h2'
    cases hq : (liveOf M o)[i]? with
    | none => rw [hq] at h2'; cases h2'
    | some q =>
      obtain ⟨y, k⟩ := q
      rw [hq] at h1' h2'
      cases h2'
      obtain ⟨b1, b2⟩ := (mem_live W.sz).1 (List.mem_of_getElem? hq)
      obtain ⟨h0, K, a1, a2, a3⟩ := W.at_ _ k b1 b2
      have e0 : hs.getD k 0 = h0 := by rw [Array.getD_eq_getD_getElem?, ← Array.getElem?_toList, a1]; rfl
      have e1 : hs.getD k 0 = h := Option.some.inj h1'
      rw [e0] at e1
      subst e1
      refine ⟨K, a2, fun k' hk' => ?_⟩
      show way M h0 k' ∈ (liveOf M o).map (·.1)
      cases z : oAt o (way M h0 k') with
      | none => exact absurd z (a3 k' hk')
      | some k2 => exact List.mem_map.mpr ⟨(way M h0 k', k2), (mem_live W.sz).2 ⟨way_in M h0 k', z⟩, rfl⟩
theorem size_go : ∀ (f s n : Nat), n < s * 2 ^ f → ∃ k, k ≤ f ∧ SetTable.sizeAbove.go n f s = s * 2 ^ k ∧ n < s * 2 ^ k ∧ (k = 0 ∨ s * 2 ^ k ≤ 2 * n)
  | 0, s, n, h => ⟨0, Nat.le_refl _, by simp [SetTable.sizeAbove.go], h, .inl rfl⟩
  | f + 1, s, n, h => by
    unfold SetTable.sizeAbove.go
    by_cases c : s ≤ n
    · rw [if_pos c]
      obtain ⟨k, h1, h2, h3, h4⟩ := size_go f (s * 2) n (by rw [Nat.mul_assoc, Nat.mul_comm 2, ← Nat.pow_succ]; exact h)
      have e : s * 2 * 2 ^ k = s * 2 ^ (k + 1) := by rw [Nat.pow_succ, Nat.mul_assoc, Nat.mul_comm 2]
      rw [e] at h2 h3 h4
      refine ⟨k + 1, by omega, h2, h3, .inr ?_⟩
      rcases h4 with rfl | h4
      · simp only [Nat.zero_add, Nat.pow_one]; omega
      · exact h4
    · rw [if_neg c]
      exact ⟨0, Nat.zero_le _, by simp, by simpa using c, .inl rfl⟩
theorem size_new {n : Nat} (h : 4 ≤ n) (h2 : n ≤ 2047) : ∃ M, SetTable.sizeAbove (SetTable.grown n) - 1 = M ∧ Mk M ∧ SetTable.sizeAbove (SetTable.grown n) ≤ 8192 ∧ n * 5 < M * 3 := by
  have g : SetTable.grown n = n * 4 := by
    unfold SetTable.grown
    rw [if_neg (by omega)]
  rw [g]
  obtain ⟨k, h3, h4, h5, h6⟩ := size_go 64 8 (n * 4) (Nat.lt_of_le_of_lt (show n * 4 ≤ 100000 by omega) (by decide))
  have e : SetTable.sizeAbove (n * 4) = 8 * 2 ^ k := h4
  rw [e]
  have hk : k ≤ 10 := by
    rcases h6 with rfl | h6
    · omega
    · refine Classical.byContradiction fun c => ?_
      have := Nat.pow_le_pow_right (n := 2) (by decide) (show 11 ≤ k by omega)
      omega
  have hk2 := Nat.pow_le_pow_right (n := 2) (by decide) hk
  have h1 : 0 < 2 ^ k := Nat.pow_pos (by decide)
  refine ⟨8 * 2 ^ k - 1, rfl, ⟨k + 3, by omega, by omega, by rw [Nat.pow_add]; omega⟩, by omega, by omega⟩
end Ds

set_option linter.all false
set_option maxRecDepth 100000
namespace Ds
open PySem PySem.Spec PyProof.Rows L2
abbrev NK := NestedKey
abbrev Rw := NK × Value
def rws (w : World) (L : List Rw) : List (Int × Value) := L.map fun p => (p.1.hash w, p.2)
def hss (w : World) (L : List Rw) : List Int := L.map fun p => p.1.hash w
structure St0 (w : World) (h : Heap) (a : Addr) (L : List Rw) (es : Array (Int × Value)) (ep : Nat) (t : SetTable) : Prop where
  ob : ∃ o, h.get? a = some o ∧ o.ExactSet ∧ o.data = .set es ep t
  rows : es.toList = rws w L
  fits : t.fits es.size = true
  ris : Ris t.place.toList
  led : w.params.followText "set-order" = true ∨ t.led = true
  nd : (L.map Prod.fst).Nodup
  ks : ∀ p ∈ L, NestedIs h p.1 p.2 ∧ p.1.depth ≤ 8
  few : L.length < 2047
def nk : Key → NK
  | .inl i => .num i
  | .inr x => .text x
def AllT (L : List Rw) : Prop := ∀ p ∈ L, ∃ b, p.2 = Value.ref b
def AllS (L : List Rw) : Prop := ∀ p ∈ L, ∃ k, keyIs k p.2 = true ∧ p.1 = nk k
structure StT (w : World) (h : Heap) (a : Addr) (L : List Rw) : Prop where
  ex : ∃ es ep t, St0 w h a L es ep t ∧ Tb t (hss w L) ∧ L.length * 5 < t.mask * 3
  tup : AllT L
structure StS (w : World) (h : Heap) (a : Addr) (L : List Rw) : Prop where
  ex : ∃ es ep t, St0 w h a L es ep t
  sc : AllS L
section
variable {P : Program} {w : World} {A : Around} {E : Value → Shared → Prop} {s : Shared}
mutual
theorem noclass : ∀ (k : NK) (v : Value) (n : Nat) (s : Shared) (Q : Bool → Shared → Prop), NestedIs s.heap k v → k.depth ≤ n → Q false s → wpAny (model P w) A (ofAClassStatement n v) Q E s
  | .none, _, n, s, Q, x, _, h => by cases x; cases n <;> exact wpAny_pure h
  | .num i, _, n, s, Q, x, _, h => by cases x <;> cases n <;> exact wpAny_pure h
  | .text i, _, n, s, Q, x, _, h => by cases x; cases n <;> exact wpAny_pure h
  | .tup ks, _, 0, s, Q, x, hn, h => by simp [NestedKey.depth] at hn
  | .tup ks, _, n + 1, s, Q, x, hn, h => by
    cases x with
    | @tup a o vs m _ ho hc hd hk =>
      simp only [NestedKey.depth] at hn
      unfold ofAClassStatement
      refine wpAny_bind (wpAny_typeOf (T := "tuple") ⟨o, ho, hc⟩ ?_)
      dsimp only
      simp only [show (("tuple" : String) == "tuple") = true by decide, if_true]
      refine wpAny_bind (wpAny_pure ?_)
      simp only [Bool.not_true, Bool.false_eq_true, if_false]
      refine wpAny_bind (wpAny_seqItems ho hd ?_)
      dsimp only
      refine wpAny_bind ?_
      show wpAny _ _ (forIn vs _ _) _ _ s
      rw [← Array.forIn_toList]
      refine noclasses ks vs.toList n s _ _ hk (by omega) rfl fun r hr => ?_
      obtain ⟨r1, r2⟩ := r
      cases hr
      exact wpAny_pure h
theorem noclasses : ∀ (ks : List NK) (vs : List Value) (n : Nat) (s : Shared) (b : Option Bool × Unit) (Q : Option Bool × Unit → Shared → Prop), NestedAll s.heap ks vs → NestedKey.depthAll ks ≤ n → b.1 = none → (∀ r : Option Bool × Unit, r.1 = none → Q r s) →
    wpAny (model P w) A (forIn vs b fun y r => do
      if ← ofAClassStatement n y then pure (ForInStep.done (some true, ())) else pure (ForInStep.yield (none, ()))) Q E s
  | [], _, n, s, b, Q, x, _, hb, h => by cases x; rw [List.forIn_nil]; exact wpAny_pure (h b hb)
  | k :: ks, _, n, s, b, Q, x, hn, hb, h => by
    cases x with
    | cons x1 x2 =>
      simp only [NestedKey.depthAll] at hn
      rw [List.forIn_cons]
      refine wpAny_bind (wpAny_bind (noclass k _ n s _ x1 (by omega) ?_))
      simp only [Bool.false_eq_true, if_false]
      exact wpAny_pure (noclasses ks _ n s _ Q x2 (by omega) rfl h)
end
mutual
theorem hashed : ∀ (k : NK) (v : Value) (n : Nat) (s : Shared) (Q : Bool → Shared → Prop), NestedIs s.heap k v → (∀ b, Q b s) → wpAny (model P w) A (hashByValue n v) Q E s
  | .none, _, n, s, Q, x, h => by cases x; cases n <;> exact wpAny_pure (h _)
  | .num i, _, n, s, Q, x, h => by cases x <;> cases n <;> exact wpAny_pure (h _)
  | .text i, _, n, s, Q, x, h => by cases x; cases n <;> exact wpAny_pure (h _)
  | .tup ks, _, 0, s, Q, x, h => by cases x; exact wpAny_pure (h _)
  | .tup ks, _, n + 1, s, Q, x, h => by
    cases x with
    | @tup a o vs m _ ho hc hd hk =>
      have hT : s.TypeIs (.ref a) "tuple" := ⟨o, ho, hc⟩
      unfold hashByValue
      refine wpAny_bind (wpAny_specialOf hT F.slot_tuple_hash.lookup ?_)
      show wpAny _ _ (seqItems? (.ref a) >>= _) _ _ s
      refine wpAny_bind (wpAny_seqItems ho hd ?_)
      refine wpAny_bind ?_
      show wpAny _ _ (forIn vs _ _) _ _ s
      rw [← Array.forIn_toList]
      refine hasheds ks vs.toList n s _ _ hk fun r => ?_
      obtain ⟨r1, r2⟩ := r
      cases r1 with
      | none => exact wpAny_pure (h _)
      | some b => exact wpAny_pure (h _)
theorem hasheds : ∀ (ks : List NK) (vs : List Value) (n : Nat) (s : Shared) (b : Option Bool × Unit) (Q : Option Bool × Unit → Shared → Prop), NestedAll s.heap ks vs → (∀ r : Option Bool × Unit, Q r s) →
    wpAny (model P w) A (forIn vs b fun y r => do
      if !(← hashByValue n y) then pure (ForInStep.done (some false, ())) else pure (ForInStep.yield (none, ()))) Q E s
  | [], _, n, s, b, Q, x, h => by cases x; rw [List.forIn_nil]; exact wpAny_pure (h b)
  | k :: ks, _, n, s, b, Q, x, h => by
    cases x with
    | cons x1 x2 =>
      rw [List.forIn_cons]
      refine wpAny_bind (wpAny_bind (hashed k _ n s _ x1 fun c => ?_))
      cases c with
      | true =>
        simp only [Bool.not_true, Bool.false_eq_true, if_false]
        exact wpAny_pure (hasheds ks _ n s _ Q x2 h)
      | false =>
        simp only [Bool.not_false, if_true]
        exact wpAny_pure (wpAny_pure (h _))
end
theorem unseen {k : NK} {b : Addr} {Q : Bool → Shared → Prop} (hk : NestedIs s.heap k (.ref b) ∧ k.depth ≤ 8) {ys : List Value} (hy : ∀ y ∈ ys, ∃ k' c, y = Value.ref c ∧ NestedIs s.heap k' (.ref c) ∧ k'.depth ≤ 8) (h : Q false s) :
    wpAny (model P w) A (searchCouldBeSeen (.ref b) ys) Q E s := by
  unfold searchCouldBeSeen
  refine wpAny_bind ?_
  refine wpAny_forIn_list _ (fun rest r s' => r.1 = none ∧ s' = s ∧ ∀ y ∈ rest, ∃ k' c, y = Value.ref c ∧ NestedIs s.heap k' (.ref c) ∧ k'.depth ≤ 8) _ ?_ ?_ _ _ ⟨rfl, rfl, hy⟩
  · rintro v rest r s' ⟨hr, rfl, hall⟩
    obtain ⟨k', c, rfl, hc, hd⟩ := hall v List.mem_cons_self
    have tl : ∀ y ∈ rest, ∃ k' c, y = Value.ref c ∧ NestedIs s'.heap k' (.ref c) ∧ k'.depth ≤ 8 := fun u hu => hall u (List.mem_cons_of_mem _ hu)
    dsimp only
    by_cases hv : (b == c || (carriedByValue (.ref b) && carriedByValue (.ref c))) = true
    · exact wp_if_pos hv (wpAny_pure ⟨rfl, rfl, tl⟩)
    · refine wp_if_neg hv (wpAny_bind (quiet_key _ _ 8 _ hk.1 hk.2 _ _ _ ?_))
      simp only [Bool.not_true, Bool.false_eq_true, if_false]
      refine wpAny_bind (quiet_key _ _ 8 _ hc hd _ _ _ ?_)
      simp only [Bool.not_true, Bool.false_eq_true, if_false]
      refine wpAny_bind (noclass _ _ 8 _ _ hk.1 hk.2 ?_)
      simp only [Bool.false_eq_true, if_false]
      refine wpAny_bind (noclass _ _ 8 _ _ hc hd ?_)
      simp only [Bool.false_eq_true, if_false]
      exact wpAny_pure ⟨rfl, rfl, tl⟩
  · rintro ⟨r1, r2⟩ s' ⟨hr, rfl, _⟩
    cases hr
    exact wpAny_pure h
theorem hss_len (w : World) (L : List Rw) : (hss w L).length = L.length := by simp [hss]
variable {a : Addr} {L : List Rw} {es : Array (Int × Value)} {ep : Nat} {t : SetTable}
theorem St0.size (R : St0 w s.heap a L es ep t) : es.size = L.length := by
  have h := congrArg List.length R.rows
  simpa [rws] using h
theorem St0.row (R : St0 w s.heap a L es ep t) {i : Nat} {p : Rw} (h : L[i]? = some p) : es[i]? = some (p.1.hash w, p.2) := by
  rw [← Array.getElem?_toList, R.rows]
  unfold rws
  rw [List.getElem?_map, h]; rfl
theorem depth_nth (m : Nat) : ∀ (n : Nat) (p : SetTable.Probe), p.dummy = none → (nth m p n).dummy = none
  | 0, p, h => h
  | n + 1, p, h => depth_nth m n (adv m p) (by unfold adv; split <;> exact h)
theorem seek (R : St0 w s.heap a L es ep t) (T : Tb t (hss w L)) (hT : AllT L) {x : Addr} {k : NK} (hx : NestedIs s.heap k (.ref x) ∧ k.depth ≤ 8) (hu : A.units + 8 < cLine) {K : Nat} (hKf : K < 10 * SetTable.turns t.mask)
    (hK : way t.mask (k.hash w) K ∉ t.place.toList) (hKb : ∀ c, c < K → way t.mask (k.hash w) c ∈ t.place.toList) {Q : SetFound → Shared → Prop}
    (hin : k ∈ L.map Prod.fst → Q (.there none) s) (hout : k ∉ L.map Prod.fst → Q (.free (way t.mask (k.hash w) K) false) s) :
    ∀ (f c : Nat) (stand : Option SetTable.Probe), stand.getD (t.probeStart (k.hash w)) = nth t.mask (runAt t.mask (SetTable.bits (k.hash w) % (t.mask + 1)) (SetTable.bits (k.hash w))) c → c ≤ K → K - c < f →
      (∀ (i : Nat) (p : Rw), L[i]? = some p → p.1 = k → ∃ c', c ≤ c' ∧ c' < K ∧ t.place.toList[i]? = some (way t.mask (k.hash w) c')) →
      wpAny (model P w) A (setSearchFrom a (.ref x) (k.hash w) true f stand) Q E s
  | 0, c, stand, _, _, hf, _ => absurd hf (Nat.not_lt_zero _)
  | f + 1, c, stand, hst, hc, hf, hre => by
    obtain ⟨o, ho, hex, hd⟩ := R.ob
    generalize hB : runAt t.mask (SetTable.bits (k.hash w) % (t.mask + 1)) (SetTable.bits (k.hash w)) = B at hst
    have hw : ∀ q, (nth t.mask B q).j = way t.mask (k.hash w) q := fun q => by rw [← hB]
    rw [setSearchFrom_succ]
    refine wpAny_bind (wpAny_setState_of ho hd R.fits ?_)
    dsimp only
    refine wp_if_neg (by unfold SetTable.gaveWay; rw [T.msk.odd]; decide) ?_
    have hnd : (nth t.mask B c).dummy = none := depth_nth _ c _ (by rw [← hB]; rfl)
    have e1 : ∀ q, (nth t.mask (nth t.mask B c) q).j = way t.mask (k.hash w) (c + q) := fun q => by rw [← nth_add, hw]
    have spec := go_spec t T.ris T.dm (fun i => (es[i]?.map (·.1)).getD 0) (k.hash w) (10 * SetTable.turns t.mask) (K - c) _ hnd (by omega)
      (fun q hq => by rw [e1]; exact hKb (c + q) (by omega)) (by rw [e1, show c + (K - c) = K by omega]; exact hK)
    have hashAt : ∀ (i : Nat) (p : Rw), L[i]? = some p → (es[i]?.map (·.1)).getD 0 = p.1.hash w := fun i p hp => by rw [R.row hp]; rfl
    rcases spec with ⟨q, i, hq, hi, hh, hno, hpr⟩ | ⟨hno, hpr⟩
    · have hpr' : t.probe (fun i => (es[i]?.map (·.1)).getD 0) (k.hash w) (stand.getD (t.probeStart (k.hash w))) = some (.candidate (way t.mask (k.hash w) (c + q)) i (nth t.mask B (c + (q + 1)))) := by
        rw [hst, ← e1, nth_add]
        exact hpr
      rw [hpr']
      dsimp only
      rw [e1] at hi
      have hil : i < L.length := by
        have h1 := (List.getElem?_eq_some_iff.mp hi).1
        rwa [T.len, hss_len] at h1
      obtain ⟨p, hp⟩ : ∃ p, L[i]? = some p := ⟨_, List.getElem?_eq_getElem hil⟩
      have hmem := List.mem_of_getElem? hp
      obtain ⟨b, hb⟩ := hT p hmem
      have hpk := R.ks p hmem
      rw [hb] at hpk
      have rest : wpAny (model P w) A (searchRest a (.ref x) (k.hash w) true f es t (way t.mask (k.hash w) (c + q)) i (nth t.mask B (c + (q + 1)))) Q E s := by
        unfold searchRest
        rw [R.row hp, hb]
        dsimp only
        refine wpAny_bind (wpAny_holding ((nestedKind P w).eqBool (x := p.1) (y := k) hu hpk hx ?_))
        refine wpAny_bind (wpAny_setState_of ho hd R.fits ?_)
        dsimp only
        by_cases hkk : p.1 = k
        · exact wp_if_pos (by simp [hkk]) (wpAny_pure (hin (List.mem_map.mpr ⟨p, hmem, hkk⟩)))
        · refine wp_if_neg (by simp [hkk]) ?_
          rw [sameMem]
          dsimp only
          have hsl : t.slot (way t.mask (k.hash w) (c + q)) = .live i := slot_live T.ris hi
          simp only [if_true, hsl, R.row hp, hb]
          refine wpAny_bind (wpAny_isSame_ref_self (wpAny_bind (wpAny_pure ?_)))
          simp only [if_true]
          refine wp_if_neg (by simp [hkk]) ?_
          refine seek R T hT hx hu hKf hK hKb hin hout f (c + (q + 1)) _ (by rw [hB]; rfl) (by omega) (by omega) fun i0 p0 h0 hk0 => ?_
          obtain ⟨c', a1, a2, a3⟩ := hre i0 p0 h0 hk0
          refine ⟨c', Classical.byContradiction fun z0 => ?_, a2, a3⟩
          have z : c' ≤ c + q := by omega
          rcases Nat.lt_or_eq_of_le z with z | z
          · refine hno (c' - c) i0 (by omega) (by rw [e1, show c + (c' - c) = c' by omega]; exact a3) ?_
            rw [hashAt i0 p0 h0, hk0]
          · rw [z] at a3
            have s0 := slot_live T.ris a3
            rw [hsl] at s0
            injection s0 with s0
            rw [← s0, hp] at h0
            cases h0
            exact hkk hk0
      by_cases hl : t.led = true
      · exact wp_if_neg (by simp [hl]) rest
      · refine wp_if_pos (by simp [hl]) (wpAny_bind (unseen hx (fun y hy => ?_) (wp_if_neg (by decide) rest)))
        obtain ⟨e, he, ee⟩ := List.mem_map.mp hy
        have he1 : e ∈ es ∧ e.1 = k.hash w := by simpa using he
        have he2 : e ∈ es.toList := by simpa using he1.1
        rw [R.rows] at he2
        obtain ⟨p2, hp2, e2⟩ := List.mem_map.mp he2
        obtain ⟨b2, hb2⟩ := hT p2 hp2
        have := R.ks p2 hp2
        rw [hb2] at this
        exact ⟨p2.1, b2, by rw [← ee, ← e2]; exact hb2, this⟩
    · have hpr' : t.probe (fun i => (es[i]?.map (·.1)).getD 0) (k.hash w) (stand.getD (t.probeStart (k.hash w))) = some (.empty (way t.mask (k.hash w) K) none) := by
        rw [hst, show way t.mask (k.hash w) K = (nth t.mask (nth t.mask B c) (K - c)).j by rw [e1, show c + (K - c) = K by omega]]
        exact hpr
      rw [hpr']
      dsimp only
      refine wpAny_pure (hout fun hm => ?_)
      obtain ⟨p0, h0, hk0⟩ := List.mem_map.mp hm
      obtain ⟨i0, hi0⟩ := List.mem_iff_getElem?.mp h0
      obtain ⟨c', a1, a2, a3⟩ := hre i0 p0 hi0 hk0
      refine hno (c' - c) i0 (by omega) (by rw [e1, show c + (c' - c) = c' by omega]; exact a3) ?_
      rw [hashAt i0 p0 hi0, hk0]
theorem seek0 (R : St0 w s.heap a L es ep t) (T : Tb t (hss w L)) (hT : AllT L) (hroom : L.length ≤ t.mask) {x : Addr} {k : NK} (hx : NestedIs s.heap k (.ref x) ∧ k.depth ≤ 8) (hu : A.units + 8 < cLine) {Q : SetFound → Shared → Prop}
    (hin : k ∈ L.map Prod.fst → Q (.there none) s)
    (hout : ∀ K, k ∉ L.map Prod.fst → way t.mask (k.hash w) K ∉ t.place.toList → (∀ c, c < K → way t.mask (k.hash w) c ∈ t.place.toList) → Q (.free (way t.mask (k.hash w) K) false) s) :
    wpAny (model P w) A (setSearch a (.ref x) (k.hash w) true) Q E s := by
  obtain ⟨K, hKf, hK, hKb⟩ := T.gap (by rw [hss_len]; exact hroom) (k.hash w)
  have hbig : K < 100000 := by
    have := T.msk.bd
    unfold SetTable.turns at hKf
    omega
  unfold setSearch
  refine seek R T hT hx hu hKf hK hKb hin (fun hn => hout K hn hK hKb) 100000 0 none rfl (Nat.zero_le _) (by omega) fun i p hp hk => ?_
  have hi : (hss w L)[i]? = some (k.hash w) := by unfold hss; rw [List.getElem?_map, hp, ← hk]; rfl
  have hil : i < t.place.toList.length := by
    rw [T.len, hss_len]
    exact (List.getElem?_eq_some_iff.mp hp).1
  have hj := List.getElem?_eq_getElem hil
  obtain ⟨c, hc, e⟩ := T.ahead hK hi hj
  exact ⟨c, Nat.zero_le _, hc, by rw [hj, e]⟩
end
end Ds

set_option linter.all false
set_option maxRecDepth 100000
namespace Ds
open PySem PySem.Spec PyProof.Rows L2
def Elem (m : Bool) (v : Value) (k : NK) : Prop := if m = true then ∃ b, v = Value.ref b else ∃ key, keyIs key v = true ∧ k = nk key
def Md (m : Bool) (w : World) (L : List Rw) (t : SetTable) : Prop := if m = true then Tb t (hss w L) ∧ L.length * 5 < t.mask * 3 ∧ AllT L else AllS L
def StG (m : Bool) (w : World) (h : Heap) (a : Addr) (L : List Rw) : Prop := ∃ es ep t, St0 w h a L es ep t ∧ Md m w L t
theorem map_perm {α β : Type} (f : α → β) : ∀ (L : List α) (l : List β), l.Perm (L.map f) → ∃ L1 : List α, l = L1.map f ∧ L1.Perm L
  | [], l, h => ⟨[], by simpa using h, .refl _⟩
  | a :: L, l, h => by
    have hm : f a ∈ l := h.mem_iff.mpr (by simp)
    obtain ⟨x, y, rfl⟩ := List.append_of_mem hm
    have h2 : (x ++ y).Perm (L.map f) := (List.perm_middle.symm.trans h).cons_inv
    obtain ⟨L1, e, p⟩ := map_perm f L _ h2
    obtain ⟨u, v, rfl, rfl, rfl⟩ := List.append_eq_map_iff.mp e
    exact ⟨u ++ a :: v, by simp, List.perm_middle.trans (p.cons a)⟩
section
variable {P : Program} {w : World} {A : Around} {E : Value → Shared → Prop} {s : Shared} {a : Addr} {L : List Rw} {es : Array (Int × Value)} {ep : Nat} {t : SetTable}
theorem nested_same {h h' : Heap} {a : Addr} {o : Obj} {es : Array (Int × Value)} {ep : Nat} {t : SetTable} (ho : h.get? a = some o) (hd : o.data = .set es ep t) (hs : Heap.SameBut a h h') {k : NK} {v : Value} (x : NestedIs h k v) : NestedIs h' k v :=
  NestedIs.at (fun b ob vs n e1 e2 => (hs.2 b fun z => by
    subst z
    rw [ho] at e1
    cases e1
    rw [hd] at e2
    cases e2).trans e1) k v x
theorem nested_keep {h h' : Heap} (hk : ∀ b o, h.get? b = some o → h'.get? b = some o) {k : NK} {v : Value} (x : NestedIs h k v) : NestedIs h' k v := NestedIs.at (fun b ob _ _ e1 _ => hk b ob e1) k v x
theorem StG.keep {m : Bool} {h h' : Heap} (R : StG m w h a L) (ha : ∀ o, h.get? a = some o → h'.get? a = some o) (hk : ∀ p ∈ L, NestedIs h' p.1 p.2) : StG m w h' a L := by
  obtain ⟨es, ep, t, R, M⟩ := R
  obtain ⟨o, ho, r⟩ := R.ob
  exact ⟨es, ep, t, ⟨⟨o, ha o ho, r⟩, R.rows, R.fits, R.ris, R.led, R.nd, fun p hp => ⟨hk p hp, (R.ks p hp).2⟩, R.few⟩, M⟩
theorem ordered (L : List Rw) (es : Array (Int × Value)) (order : Array Nat) (hr : es.toList = rws w L) (hp : order.toList.Perm (List.range L.length)) :
    ∃ L2, (order.filterMap (es[·]?)).toList = rws w L2 ∧ L2.Perm L ∧ hss w L2 = order.toList.map fun i => (es.map (·.1)).getD i 0 := by
  have ent : ∀ i, es[i]? = (L[i]?).map fun p : Rw => (p.1.hash w, p.2) := fun i => by
    rw [← Array.getElem?_toList, hr]
    unfold rws
    rw [List.getElem?_map]
  have key : ∀ l : List Nat, (∀ i ∈ l, i < L.length) → hss w (l.filterMap fun i => L[i]?) = l.map fun i => (es.map (·.1)).getD i 0 := by
    intro l
    induction l with
    | nil => intro _; rfl
    | cons i l ih =>
      intro hl
      have hi := hl i List.mem_cons_self
      have e := List.getElem?_eq_getElem hi
      rw [List.filterMap_cons_some e, List.map_cons, ← ih fun j hj => hl j (List.mem_cons_of_mem _ hj)]
      have e5 : (es.map (·.1))[i]? = some ((L[i]).1.hash w) := by rw [Array.getElem?_map, ent, e]; rfl
      simp [hss, Array.getD_eq_getD_getElem?, e5]
  refine ⟨order.toList.filterMap fun i => L[i]?, ?_, ?_, key _ fun i hi => List.mem_range.mp (hp.mem_iff.mp hi)⟩
  · have e1 : (order.filterMap (es[·]?)).toList = order.toList.filterMap fun i => es[i]? := by simp
    rw [e1]
    unfold rws
    rw [List.map_filterMap]
    exact congrArg (fun f => List.filterMap f order.toList) (funext ent)
  · refine (hp.filterMap _).trans ?_
    have key2 : ∀ n, n ≤ L.length → (List.range n).filterMap (fun i => L[i]?) = L.take n := by
      intro n
      induction n with
      | zero => intro _; rfl
      | succ n ih =>
        intro hn
        rw [List.range_succ, List.filterMap_append, ih (by omega), List.take_succ, List.getElem?_eq_getElem hn]
        simp [List.getElem?_eq_getElem hn]
    rw [key2 _ (Nat.le_refl _), List.take_length]
theorem fits_of {t : SetTable} {n : Nat} (h1 : t.place.size = n) (h2 : t.dummies = #[]) (h3 : n ≤ t.mask) : t.fits n = true := by
  unfold SetTable.fits SetTable.fill
  rw [h2, Bool.and_eq_true, beq_iff_eq, decide_eq_true_eq]
  exact ⟨h1, by simpa [h1] using h3⟩
theorem rws_len (w : World) (L : List Rw) : (rws w L).length = L.length := by simp [rws]
theorem relay {o : Obj} (ho : s.heap.get? a = some o) (hex : o.ExactSet) (hd : o.data = .set es ep t) (hr : es.toList = rws w L) (hf : t.fits es.size = true)
    (nd : (L.map Prod.fst).Nodup) (ks : ∀ p ∈ L, NestedIs s.heap p.1 p.2 ∧ p.1.depth ≤ 8) (ld : w.params.followText "set-order" = true ∨ t.led = true) (few : L.length < 2047) (at_ : AllT L) {wanted M : Nat}
    (hw : SetTable.sizeAbove wanted - 1 = M) (hM : Mk M) (hw2 : SetTable.sizeAbove wanted ≤ 8192) (hn : L.length * 5 < M * 3) {Q : Unit → Shared → Prop}
    (hQ : ∀ h' L', Heap.SameBut a s.heap h' → StG true w h' a L' → L'.Perm L → Q () { s with heap := h' }) : wpAny (model P w) A (setRelay a wanted) Q E s := by
  have hsl : es.size = L.length := by simpa [rws] using congrArg List.length hr
  obtain ⟨u, order, e, hp, T, em, kin⟩ := Ds.relaid t (hs := es.map (·.1)) (wanted := wanted) hw hM (by rw [Array.size_map, hsl]; omega)
  rw [Array.size_map, hsl] at hp
  obtain ⟨L2, r1, r2, r3⟩ := ordered L es order hr hp
  rw [← r3] at T
  have hs2 : (order.filterMap (es[·]?)).size = es.size := by
    have h := congrArg List.length r1
    rw [Array.length_toList, rws_len, r2.length_eq] at h
    rw [h, hsl]
  rw [setRelay_eq]
  refine wpAny_bind (wpAny_setState_of ho hd hf ?_)
  dsimp only
  refine wp_if_neg (by rw [sizeLine_eq]; omega) ?_
  rw [e]
  dsimp only
  refine wpAny_bind (wp_if_neg (by rw [hs2]; simp) (wpAny_pure ?_))
  dsimp only
  refine wpAny_storeSet_of ho hd ?_ (by rw [hs2, hsl, sizeLine_eq]; omega)
  have sb : Heap.SameBut a s.heap (s.heap.update a (Obj.putSet (order.filterMap (es[·]?)) u)) := Heap.SameBut.update ..
  refine hQ _ L2 sb ⟨_, ep + 1, u, ⟨⟨_, store_at ho hd, ⟨hex.1, hex.2.1, hex.2.2⟩, rfl⟩, r1, ?_, T.ris, ?_, (r2.map _).nodup_iff.mpr nd, fun p hpm => ?_, by rw [r2.length_eq]; exact few⟩, ?_⟩ r2
  · refine fits_of ?_ T.dm ?_
    · rw [T.sz, hss_len, hs2, hsl, r2.length_eq]
    · rw [hs2, hsl, em]; omega
  · rw [kin.led]; exact ld
  · have := ks p (r2.mem_iff.mp hpm)
    exact ⟨nested_same ho hd sb this.1, this.2⟩
  · show Tb u (hss w L2) ∧ _ ∧ _
    exact ⟨T, by rw [r2.length_eq, em]; exact hn, fun p hp => at_ p (r2.mem_iff.mp hp)⟩
theorem addT (R : StG true w s.heap a L) {x : Addr} {k : NK} (hx : NestedIs s.heap k (.ref x) ∧ k.depth ≤ 8) (hu : A.units + 8 < cLine) (hfew : L.length + 1 < 2047) {Q : Bool → Shared → Prop}
    (hQ : ∀ b h' L', Heap.SameBut a s.heap h' → StG true w h' a L' → (k ∈ L.map Prod.fst → L' = L) → (k ∉ L.map Prod.fst → L'.Perm ((k, .ref x) :: L)) → Q b { s with heap := h' }) :
    wpAny (model P w) A (setAddHashed a (.ref x) (k.hash w)) Q E s := by
  obtain ⟨es, ep, t, R, M⟩ := R
  obtain ⟨T, hroom, hT⟩ : Tb t (hss w L) ∧ L.length * 5 < t.mask * 3 ∧ AllT L := id M
  obtain ⟨o, ho, hex, hd⟩ := R.ob
  have hsl := R.size
  unfold setAddHashed
  refine wpAny_holding ?_
  rw [show (100000 : Nat) = 99999 + 1 from rfl, setAddHashedIn_succ]
  refine wpAny_bind (wpAny_setState_of ho hd R.fits ?_)
  dsimp only
  refine wp_if_neg (by simp [byScan, Value.scannable]) ?_
  refine wpAny_bind (seek0 R T hT (by omega) hx hu (fun hm => ?_) fun K hm hK hb => ?_)
  · dsimp only
    exact wpAny_pure (hQ false s.heap L (Heap.SameBut.refl a s.heap) ⟨es, ep, t, R, M⟩ (fun _ => rfl) fun z => absurd hm z)
  · dsimp only
    refine wpAny_bind (wpAny_setState_of ho hd R.fits ?_)
    dsimp only
    obtain ⟨p, u, e, hp, T1, em, kin, efill⟩ := T.lay hK hb
    rw [e]
    dsimp only
    rw [hss_len] at hp efill
    have pm := put_perm L p (k, Value.ref x)
    have hlen := pm.length_eq
    rw [List.length_cons] at hlen
    have hes : (SetTable.insertAt es p (k.hash w, Value.ref x)).toList = rws w (L.take p ++ (k, Value.ref x) :: L.drop p) := by
      rw [SetTable.toList_insertAt, R.rows]
      simp [rws, List.map_take, List.map_drop]
    have hh1 : (hss w L).take p ++ k.hash w :: (hss w L).drop p = hss w (L.take p ++ (k, Value.ref x) :: L.drop p) := by
      simp [hss, List.map_take, List.map_drop]
    rw [hh1] at T1
    have nd1 : ((L.take p ++ (k, Value.ref x) :: L.drop p).map Prod.fst).Nodup := (pm.map _).nodup_iff.mpr (List.nodup_cons.mpr ⟨hm, R.nd⟩)
    have hsz : (SetTable.insertAt es p (k.hash w, Value.ref x)).size = L.length + 1 := by
      have h := congrArg List.length hes
      rw [Array.length_toList, rws_len, hlen] at h
      exact h
    have hT1 : AllT (L.take p ++ (k, Value.ref x) :: L.drop p) := fun q hq => by
      rcases List.mem_cons.mp (pm.mem_iff.mp hq) with rfl | hq
      · exact ⟨x, rfl⟩
      · exact hT q hq
    generalize SetTable.insertAt es p (k.hash w, Value.ref x) = es1 at hes hsz ⊢
    generalize L.take p ++ (k, Value.ref x) :: L.drop p = L1 at pm hlen T1 nd1 hes hT1
    have go : ∀ v : SetTable, v.mask = u.mask → v.place = u.place → v.dummies = u.dummies → v.led = u.led → wpAny (model P w) A (do
        storeSet a es1 v
        if (!false && v.tooFull) = true then do
          setRelay a (SetTable.grown (es.size + 1))
          pure true
        else pure true) Q E s := by
      intro v v1 v2 v3 v4
      have Tv : Tb v (hss w L1) := ⟨by rw [v2]; exact T1.ris, by rw [v3]; exact T1.dm, by rw [v2]; exact T1.sz, by rw [v1]; exact T1.msk, by rw [v1, v2]; exact T1.rch⟩
      have vf : v.fill = L.length + 1 := by unfold SetTable.fill; rw [v2, v3]; exact efill
      have hm7 := T.msk.bd
      have fits1 : v.fits es1.size = true := fits_of (by rw [Tv.sz, hss_len, hlen, hsz]) Tv.dm (by rw [hsz, v1, em]; omega)
      refine wpAny_bind (wpAny_storeSet_of ho hd ?_ (by rw [hsz, sizeLine_eq]; omega))
      have sb : Heap.SameBut a s.heap (s.heap.update a (Obj.putSet es1 v)) := Heap.SameBut.update ..
      have ho1 := store_at (es' := es1) (t' := v) ho hd
      generalize s.heap.update a (Obj.putSet es1 v) = h1 at sb ho1 ⊢
      have ks1 : ∀ q ∈ L1, NestedIs h1 q.1 q.2 ∧ q.1.depth ≤ 8 := fun q hq => by
        rcases List.mem_cons.mp (pm.mem_iff.mp hq) with rfl | hq
        · exact ⟨nested_same ho hd sb hx.1, hx.2⟩
        · exact ⟨nested_same ho hd sb (R.ks q hq).1, (R.ks q hq).2⟩
      have ld1 : w.params.followText "set-order" = true ∨ v.led = true := by rw [v4, kin.led]; exact R.led
      by_cases hf : v.tooFull = true
      · refine wp_if_pos (by simp [hf]) ?_
        have hfull : (L.length + 1) * 5 ≥ v.mask * 3 := by
          have h := hf
          unfold SetTable.tooFull at h
          rwa [decide_eq_true_eq, vf] at h
        rw [hsl]
        obtain ⟨M, g1, g2, g3, g4⟩ := size_new (n := L.length + 1) (by rw [v1, em] at hfull; omega) (by omega)
        refine wpAny_bind (relay (s := { s with heap := h1 }) ho1 ⟨hex.1, hex.2.1, hex.2.2⟩ rfl hes fits1 nd1 ks1 ld1 (by omega) hT1 g1 g2 g3 (by rw [hlen]; exact g4) fun h2 L2 sb2 R2 pm2 => ?_)
        exact wpAny_pure (hQ true h2 L2 (sb.trans sb2) R2 (fun z => absurd z hm) fun _ => pm2.trans pm)
      · refine wp_if_neg (by simp [hf]) (wpAny_pure (hQ true h1 L1 sb ⟨es1, ep + 1, v, ⟨⟨_, ho1, ⟨hex.1, hex.2.1, hex.2.2⟩, rfl⟩, hes, fits1, Tv.ris, ld1, nd1, ks1, by omega⟩, ?_⟩ (fun z => absurd z hm) fun _ => pm))
        refine ⟨Tv, ?_, hT1⟩
        have h := hf
        unfold SetTable.tooFull at h
        rw [decide_eq_true_eq, vf] at h
        rw [hlen]
        omega
    by_cases hpl : u.plain = true
    · rw [if_pos hpl]
      refine wpAny_bind (hashed k _ 8 _ _ hx.1 fun b => ?_)
      cases b with
      | true => exact go u rfl rfl rfl rfl
      | false => exact go { u with plain := false } rfl rfl rfl rfl
    · rw [if_neg hpl]
      exact wpAny_bind (wpAny_pure (go u rfl rfl rfl rfl))
end
end Ds

set_option linter.all false
set_option maxRecDepth 100000
namespace Ds
open PySem PySem.Spec PyProof.Rows L2
section
variable {P : Program} {w : World} {A : Around} {E : Value → Shared → Prop} {s : Shared} {a : Addr} {L : List Rw} {es : Array (Int × Value)} {ep : Nat} {t : SetTable}
theorem nk_hash (w : World) : ∀ k : Key, (nk k).hash w = keyH w k
  | .inl _ => rfl
  | .inr _ => rfl
theorem nk_inj : ∀ {k j : Key}, nk k = nk j → k = j
  | .inl _, .inl _, e => by cases e; rfl
  | .inr _, .inr _, e => by cases e; rfl
theorem nk_is {h : Heap} {k : Key} {v : Value} (e : keyIs k v = true) : NestedIs h (nk k) v ∧ (nk k).depth ≤ 8 := by
  rcases keyIs_shape e with ⟨i, t, rfl, rfl⟩ | ⟨x, t, rfl, rfl⟩
  · exact ⟨.int _ _, Nat.zero_le _⟩
  · exact ⟨.text _ _, Nat.zero_le _⟩
theorem elems (hS : AllS L) (hr : es.toList = rws w L) : ElemsOf (mixKind P w) es.toList := fun e he => by
  rw [hr] at he
  obtain ⟨p, hp, rfl⟩ := List.mem_map.mp he
  obtain ⟨k, h1, h2⟩ := hS p hp
  exact ⟨⟨k, h1, by rw [h2]; exact nk_hash w k⟩, by rcases keyIs_shape h1 with ⟨i, t, _, e⟩ | ⟨x, t, _, e⟩ <;> (show Value.scannable p.2 = true; rw [e]; rfl)⟩
theorem addS (R : StG false w s.heap a L) {x : Value} {key : Key} (hx : keyIs key x = true) (hfew : L.length + 1 < 2047) {Q : Bool → Shared → Prop}
    (hQ : ∀ b h' L', Heap.SameBut a s.heap h' → StG false w h' a L' → (nk key ∈ L.map Prod.fst → L' = L) → (nk key ∉ L.map Prod.fst → L'.Perm ((nk key, x) :: L)) → Q b { s with heap := h' }) :
    wpAny (model P w) A (setAddHashed a x ((nk key).hash w)) Q E s := by
  obtain ⟨es, ep, t, R, M⟩ := R
  have hS : AllS L := M
  obtain ⟨o, ho, hex, hd⟩ := R.ob
  have hsl := R.size
  have hel : ElemsOf (mixKind P w) es.toList := elems hS R.rows
  have hsc : x.scannable = true := key_scan (k := key) (by
    rcases keyIs_shape hx with ⟨i, t, rfl, rfl⟩ | ⟨y, t, rfl, rfl⟩
    · exact ⟨_, rfl⟩
    · exact ⟨_, rfl⟩)
  have hkey : (mixKind P w).is key x = true := hx
  rw [nk_hash]
  show wpAny (model P w) A (setAddHashed a x ((mixKind P w).hash key)) Q E s
  unfold setAddHashed setAddHashedIn
  refine wpAny_holding (wpAny_bind (wpAny_setState_of ho hd R.fits ?_))
  dsimp only
  rw [byScan_of hsc (by rw [hsl]; have := R.few; unfold scanBound; omega) hel]
  simp only [↓reduceIte]
  unfold setAddByScan
  refine wpAny_bind (wpAny_bind (wpAny_rule (wpAny_bind (wpAny_setScan_of hkey ho hd R.fits hel ?_))))
  cases hfi : List.findIdx? (fun e => (mixKind P w).is key e.2) es.toList with
  | some j =>
    dsimp only
    obtain ⟨hj, pj, _⟩ := List.findIdx?_eq_some_iff_getElem.mp hfi
    have hmem : nk key ∈ L.map Prod.fst := by
      have hm := List.getElem_mem hj
      generalize es.toList[j] = e at hm pj
      rw [R.rows] at hm
      obtain ⟨p, hp, rfl⟩ := List.mem_map.mp hm
      obtain ⟨k, h1, h2⟩ := hS p hp
      have := (mixKind P w).inj p.2 key k pj h1
      exact List.mem_map.mpr ⟨p, hp, by rw [h2, this]⟩
    exact wpAny_pure (wpAny_pure (hQ false s.heap L (Heap.SameBut.refl a s.heap) ⟨es, ep, t, R, M⟩ (fun _ => rfl) fun z => absurd hmem z))
  | none =>
    dsimp only
    have hno : nk key ∉ L.map Prod.fst := fun z => by
      obtain ⟨p, hp, e⟩ := List.mem_map.mp z
      obtain ⟨k, h1, h2⟩ := hS p hp
      have e2 : k = key := nk_inj (h2.symm.trans e)
      have := List.findIdx?_eq_none_iff.mp hfi (p.1.hash w, p.2) (by rw [R.rows]; exact List.mem_map.mpr ⟨p, hp, rfl⟩)
      have h3 : (mixKind P w).is key p.2 = true := e2 ▸ h1
      simp only [h3] at this
      cases this
    have hg : ∀ (b : Bool) {s₁ : Shared} {Q' : Unit → Shared → Prop}, Q' () s₁ → wpAny (model P w) A (match b with | true => rule "set.scan.the-table-gave-way" | false => pure ()) Q' E s₁ :=
      fun b s₁ Q' q => by
        cases b
        · exact wpAny_pure q
        · exact wpAny_rule q
    have pm := layNew_perm t es ((mixKind P w).hash key) x
    have hf1 := layNew_fits t es ((mixKind P w).hash key) x
    have hr1 := layNew_ris t es ((mixKind P w).hash key) x R.ris
    have hl1 := layNew_led t es ((mixKind P w).hash key) x
    generalize layNew t es ((mixKind P w).hash key) x = Z at pm hf1 hr1 hl1 ⊢
    obtain ⟨es1, t1, wasDummy, gave⟩ := Z
    dsimp only at pm hf1 hr1 hl1 ⊢
    rw [Array.toList_push] at pm
    have pc : es1.toList.Perm (((nk key, x) :: L).map fun p => (p.1.hash w, p.2)) := by
      refine pm.trans ((List.perm_append_singleton _ _).trans ?_)
      rw [R.rows, List.map_cons, nk_hash]
      exact .refl _
    obtain ⟨L1, e1, p1⟩ := map_perm _ _ _ pc
    have hsz : es1.size = L.length + 1 := by rw [← Array.length_toList, e1, List.length_map, p1.length_eq, List.length_cons]
    have hled : w.params.followText "set-order" = true ∨ t1.led = true := R.led.imp id fun z => by rw [hl1]; exact z
    have fin : ∀ (h' : Heap) (L2 : List Rw) (es2 : Array (Int × Value)) (ep2 : Nat) (t2 : SetTable), Heap.SameBut a s.heap h' → L2.Perm ((nk key, x) :: L) → (∃ o, h'.get? a = some o ∧ o.ExactSet ∧ o.data = .set es2 ep2 t2) → es2.toList = rws w L2 → t2.fits es2.size = true →
        Ris t2.place.toList → (w.params.followText "set-order" = true ∨ t2.led = true) → Q true { s with heap := h' } := fun h' L2 es2 ep2 t2 sb p2 ob r2 f2 ri2 l2 =>
      hQ true h' L2 sb ⟨es2, ep2, t2, ⟨ob, r2, f2, ri2, l2, (p2.map _).nodup_iff.mpr (List.nodup_cons.mpr ⟨hno, R.nd⟩), fun p hp => by
        rcases List.mem_cons.mp (p2.mem_iff.mp hp) with rfl | hp
        · exact nk_is hx
        · exact ⟨nested_same ho hd sb (R.ks p hp).1, (R.ks p hp).2⟩, by rw [p2.length_eq]; exact hfew⟩, fun p hp => by
        rcases List.mem_cons.mp (p2.mem_iff.mp hp) with rfl | hp
        · exact ⟨key, hx, rfl⟩
        · exact hS p hp⟩ (fun z => absurd z hno) fun _ => p2
    have tail : ∀ (g : Bool → Sem Unit) (v : SetTable), (∀ (b : Bool) (s₁ : Shared) (Q' : Unit → Shared → Prop), Q' () s₁ → wpAny (model P w) A (g b) Q' E s₁) → v.fits es1.size = true → Ris v.place.toList → (w.params.followText "set-order" = true ∨ v.led = true) →
        wpAny (model P w) A (do
        storeSet a es1 v
        if (!wasDummy && v.tooFull) = true then do
            g (relayAll v es1 (SetTable.grown es1.size)).2.2
            storeSet a (relayAll v es1 (SetTable.grown es1.size)).1 (relayAll v es1 (SetTable.grown es1.size)).2.1
            pure (some true)
          else pure (some true)) (fun r s' => wpAny (model P w) A (match r with | some added => pure added | none => setAddHashedIn a x ((mixKind P w).hash key) 99999) Q E s') E s := by
      intro g v hg v1 v2 v3
      refine wpAny_bind (wpAny_storeSet_of ho hd ?_ (by rw [hsz, sizeLine_eq]; omega))
      have ho1 := store_at (es' := es1) (t' := v) ho hd
      have sb1 := Heap.SameBut.update s.heap a (Obj.putSet es1 v)
      generalize s.heap.update a (Obj.putSet es1 v) = h1 at ho1 sb1 ⊢
      split
      · have pm := relayAll_perm v es1 (SetTable.grown es1.size)
        have hf3 := relayAll_fits v es1 (SetTable.grown es1.size)
        have hr3 := relayAll_ris v es1 (SetTable.grown es1.size)
        have hl3 := relayAll_led v es1 (SetTable.grown es1.size)
        generalize relayAll v es1 (SetTable.grown es1.size) = Z at pm hf3 hr3 hl3 ⊢
        obtain ⟨es2, t3, gave⟩ := Z
        dsimp only at pm hf3 hr3 hl3 ⊢
        rw [e1] at pm
        obtain ⟨L2, e2, p2⟩ := map_perm _ _ _ pm
        have hsz2 : es2.size = L.length + 1 := by rw [← Array.length_toList, e2, List.length_map, p2.length_eq, p1.length_eq, List.length_cons]
        refine wpAny_bind (hg _ _ _ (wpAny_bind (wpAny_storeSet_of ho1 rfl ?_ (by rw [hsz2, sizeLine_eq]; omega))))
        have ho2 := store_at (es' := es2) (t' := t3) ho1 rfl
        exact wpAny_pure (wpAny_pure (fin _ L2 es2 _ t3 (sb1.trans (Heap.SameBut.update _ a _)) (p2.trans p1) ⟨_, ho2, hex, rfl⟩ e2 hf3 hr3 (v3.imp id fun z => by rw [hl3]; exact z)))
      · exact wpAny_pure (wpAny_pure (fin h1 L1 es1 _ v sb1 p1 ⟨_, ho1, hex, rfl⟩ e1 v1 v2 v3))
    refine wpAny_bind (hg _ ?_)
    split
    · refine wpAny_bind ?_
      rw [hashByValue_scannable 8 hsc]
      refine wpAny_pure (tail _ _ (fun b s₁ Q' q => hg b q) ?_ ?_ ?_)
      · split
        · exact hf1
        · exact SetTable.fits_plain_off hf1
      · split <;> exact hr1
      · split <;> exact hled
    · refine wpAny_bind (wpAny_pure ?_)
      simp only [↓reduceIte]
      exact tail _ _ (fun b s₁ Q' q => hg b q) hf1 hr1 hled
theorem add (m : Bool) (R : StG m w s.heap a L) {x : Value} {k : NK} (hx : NestedIs s.heap k x ∧ k.depth ≤ 8) (he : Elem m x k) (hu : A.units + 8 < cLine) (hfew : L.length + 1 < 2047) {Q : Bool → Shared → Prop}
    (hQ : ∀ b h' L', Heap.SameBut a s.heap h' → StG m w h' a L' → (k ∈ L.map Prod.fst → L' = L) → (k ∉ L.map Prod.fst → L'.Perm ((k, x) :: L)) → Q b { s with heap := h' }) :
    wpAny (model P w) A (setAddHashed a x (k.hash w)) Q E s := by
  cases m with
  | true =>
    obtain ⟨b, rfl⟩ : ∃ b, x = Value.ref b := he
    exact addT R hx hu hfew hQ
  | false =>
    obtain ⟨key, h1, rfl⟩ : ∃ key, keyIs key x = true ∧ k = nk key := he
    exact addS R h1 hfew hQ
end
end Ds

set_option linter.all false
set_option maxRecDepth 100000
namespace Ds
open PySem PySem.Spec PyProof.Rows L2
structure Has (ks : List NK) (Pv : Nat → Value → Prop) (i : Nat) (L : List Rw) : Prop where
  sub : ∀ p ∈ L, ∃ j, j < i ∧ ks[j]? = some p.1 ∧ Pv j p.2
  all : ∀ j k, j < i → ks[j]? = some k → k ∈ L.map Prod.fst
  len : L.length ≤ i
theorem Has.zero (ks : List NK) (Pv : Nat → Value → Prop) : Has ks Pv 0 [] := ⟨fun p h => (nomatch h), fun j k h => absurd h (Nat.not_lt_zero _), Nat.le_refl _⟩
theorem Has.next {ks : List NK} {Pv : Nat → Value → Prop} {i : Nat} {L L' : List Rw} (g : Has ks Pv i L) {k : NK} {v : Value} (h : ks[i]? = some k) (hv : Pv i v) (c1 : k ∈ L.map Prod.fst → L' = L) (c2 : k ∉ L.map Prod.fst → L'.Perm ((k, v) :: L)) : Has ks Pv (i + 1) L' := by
  by_cases c : k ∈ L.map Prod.fst
  · rw [c1 c]
    refine ⟨fun p hp => ?_, fun j k' hj hk => ?_, Nat.le_succ_of_le g.len⟩
    · obtain ⟨j, h1, h2⟩ := g.sub p hp
      exact ⟨j, by omega, h2⟩
    · by_cases e : j = i
      · subst e
        rw [h] at hk
        cases hk
        exact c
      · exact g.all j k' (by omega) hk
  · have p := c2 c
    refine ⟨fun q hq => ?_, fun j k' hj hk => ?_, ?_⟩
    · rcases List.mem_cons.mp (p.mem_iff.mp hq) with rfl | hq
      · exact ⟨i, Nat.lt_succ_self i, h, hv⟩
      · obtain ⟨j, h1, h2⟩ := g.sub q hq
        exact ⟨j, by omega, h2⟩
    · rw [(p.map Prod.fst).mem_iff, List.map_cons]
      by_cases e : j = i
      · subst e
        rw [h] at hk
        cases hk
        exact List.mem_cons_self
      · exact List.mem_cons_of_mem _ (g.all j k' (by omega) hk)
    · rw [p.length_eq, List.length_cons]
      exact Nat.succ_le_succ g.len
section
variable {P : Program} {w : World} {A : Around} {E : Value → Shared → Prop} {s : Shared}
theorem fresh {m : Bool} {h : Heap} {a : Addr} (ho : h.get? a = some { cls := .type "set", dict := none, data := .set #[] 0 (.fresh 0 0 (!w.params.followText "set-order")) }) : StG m w h a [] := by
  have ris : Ris (SetTable.fresh 0 0 (!w.params.followText "set-order")).place.toList := List.Pairwise.nil
  refine ⟨#[], 0, _, ⟨⟨_, ho, ⟨rfl, rfl, rfl⟩, rfl⟩, rfl, rfl, ris, ?_, List.nodup_nil, fun p hp => (nomatch hp), Nat.zero_lt_succ _⟩, ?_⟩
  · show _ ∨ (!w.params.followText "set-order") = true
    cases w.params.followText "set-order"
    · exact .inr rfl
    · exact .inl rfl
  · cases m with
    | true => exact ⟨⟨ris, rfl, rfl, ⟨3, by decide, by decide, rfl⟩, fun i h j hi => by simp [hss] at hi⟩, (by show 0 * 5 < 7 * 3; decide), fun p hp => nomatch hp⟩
    | false => exact fun p hp => nomatch hp
theorem filled {m : Bool} {I : Addr} {fp wr : List Addr} {G : Array GenState → Array GenState → Prop} {n : Nat} {Pv : Nat → Value → Prop} {St : Nat → Shared → Prop} {R : Result → Shared → Prop}
    (W : WalksS P w A.in1 I fp wr G n Pv St) (S : Addr) (hSf : S ∉ fp) (ks : List NK) (hn : n = ks.length) (hfew : ks.length < 2046) (h0 : Heap)
    (hval : ∀ i v, Pv i v → ∃ k, ks[i]? = some k ∧ NestedIs h0 k v ∧ k.depth ≤ 8 ∧ Elem m v k)
    (hS0 : h0.get? S = none) (hw0 : ∀ b ∈ wr, h0.get? b = none) (hu : A.units + 10 < cLine) :
    ∀ (k i : Nat) (s : Shared), n - i = k → i ≤ n → St i s → (∀ b o, h0.get? b = some o → s.heap.get? b = some o) → (∃ L, StG m w s.heap S L ∧ Has ks Pv i L) →
      (∀ s' L, Moved (S :: wr) G s s' → StG m w s'.heap S L → Has ks Pv n L → (∀ b o, h0.get? b = some o → s'.heap.get? b = some o) → R (.ok (.ret .none)) s') →
      codeAny (model P w) A (.builtin "set.update.loop" ⟨[.ref S, .ref I], []⟩) R s := by
  have hSw : S ∉ wr := fun h => hSf (W.sub _ h)
  have hsub : ∀ b ∈ wr, b ∈ S :: wr := fun b hb => List.mem_cons_of_mem _ hb
  have keepM : ∀ {s s' : Shared}, Moved wr G s s' → (∀ b o, h0.get? b = some o → s.heap.get? b = some o) → ∀ b o, h0.get? b = some o → s'.heap.get? b = some o := fun hm hkp b o e =>
    hm.heap b o (fun hb => by rw [hw0 b hb] at e; cases e) (hkp b o e)
  have keys : ∀ {i : Nat} {L : List Rw} {h' : Heap}, Has ks Pv i L → (∀ b o, h0.get? b = some o → h'.get? b = some o) → ∀ p ∈ L, NestedIs h' p.1 p.2 := fun g hk p hp => by
    obtain ⟨j, _, hj, hv⟩ := g.sub p hp
    obtain ⟨k, e, h1, _⟩ := hval j p.2 hv
    rw [hj] at e
    cases e
    exact nested_keep hk h1
  intro k
  induction k with
  | zero =>
    intro i s hk' hi hst hkp ⟨L, hS, g⟩ hR
    have hin : i = n := by omega
    subst hin
    refine codeAny_builtin F.entry_set_update_loop ?_
    rw [Around.under_plainId F.plain_set_update_loop _]
    show wpAny _ A.in1 (pyNext (.ref I) >>= _) _ _ s
    refine wpAny_bind (W.done s _ _ hst fun s' hm => ?_)
    show wpAny _ A.in1 (ret Value.none) _ _ s'
    have hkp' := keepM hm hkp
    exact wpAny_pure (hR s' L (hm.mono hsub) (hS.keep (fun o e => hm.heap S o hSw e) (keys g hkp')) g hkp')
  | succ k ih =>
    intro i s hk' hi hst hkp ⟨L, hS, g⟩ hR
    have hlt : i < n := by omega
    refine codeAny_builtin F.entry_set_update_loop ?_
    rw [Around.under_plainId F.plain_set_update_loop _]
    show wpAny _ A.in1 (pyNext (.ref I) >>= _) _ _ s
    refine wpAny_bind (W.item i s _ _ hlt hst fun v s' hP hst' hm => ?_)
    obtain ⟨key, hk, hx, hd, he⟩ := hval i v hP
    have hkp' := keepM hm hkp
    have hS' : StG m w s'.heap S L := hS.keep (fun o e => hm.heap S o hSw e) (keys g hkp')
    have hx' := nested_keep hkp' hx
    show wpAny _ A.in1 (holding [v] (setAdd S v) >>= _) _ _ s'
    refine wpAny_bind (wpAny_holding ?_)
    unfold setAdd
    refine wpAny_holding ?_
    refine wpAny_bind (pyHash_key key v _ _ _ hx' (by simp only [Around.in1_units]; omega) ?_)
    have gl := g.len
    refine Ds.add (s := { s' with toks := s'.toks + key.draws }) m hS' ⟨hx', hd⟩ he (by simp only [Around.in1_units]; omega) (by omega) fun b h' L' hsb hS2 c1 c2 => ?_
    have g' := g.next hk hP c1 c2
    have hkp2 : ∀ b o, h0.get? b = some o → h'.get? b = some o := fun b o e => (hsb.2 b (fun z => by rw [z, hS0] at e; cases e)).trans (hkp' b o e)
    refine wpAny_pure ⟨plainId_quiet F.plain_set_update_loop _, ih (i + 1) _ (by omega) hlt (W.frame _ s' _ _ hst' (Nat.le_add_right _ _) fun b hb o e => ?_) hkp2 ⟨L', hS2, g'⟩ fun s'' L2 hm'' hS'' g'' hkp'' => ?_⟩
    · exact (hsb.2 b (fun h : b = S => hSf (h ▸ hb))).trans e
    · refine hR s'' L2 (Moved.trans W.gtrans ((hm.mono hsub).then_heap (Nat.le_add_right _ _) fun b o hb e => ?_) hm'') hS'' g'' hkp''
      exact (hsb.2 b (fun h : b = S => hb (h ▸ List.mem_cons_self))).trans e
def Iters (P : Program) (w : World) (h0 : Heap) (arg : Value) (n : Nat) (Pv : Nat → Value → Prop) : Prop := ∀ (A : Around) (E : Value → Shared → Prop) (s : Shared) (Q : Value → Shared → Prop), (∀ b o, h0.get? b = some o → s.heap.get? b = some o) →
  (∀ (o : Obj) (St : Nat → Heap → Prop) (fp : List Addr), (∀ A' : Around, A'.handled = none → Walks P w A' s.heap.objs.size fp [s.heap.objs.size] n Pv St) → (∀ b ∈ fp, b = s.heap.objs.size ∨ b < h0.objs.size) → St 0 (s.heap.push o) → Q (.ref s.heap.objs.size) { s with heap := s.heap.push o }) →
  wpAny (model P w) A (pyIter arg) Q E s
theorem iters_list {l : Addr} {items : Array Value} (hl : s.heap.IsList l items) : Iters P w s.heap (.ref l) items.size (fun i v => items[i]? = some v) := fun A E s' Q hk h => by
  obtain ⟨o, ho, r⟩ := id hl
  have hl' : s'.heap.IsList l items := ⟨o, hk l o ho, r⟩
  have hlt := Heap.lt_size ho
  have hlt' := Heap.lt_size (hk l o ho)
  refine wpAny_pyIter_list hl' ?_
  exact h _ _ [s'.heap.objs.size, l] (fun A' hA => Walks.list hA _ l (Nat.ne_of_lt hlt') items) (fun b hb => by
    rcases List.mem_cons.mp hb with e | e
    · exact .inl e
    · exact .inr (by rw [List.mem_singleton.mp e]; exact hlt)) ⟨⟨_, Heap.get?_push_size _ rfl, rfl, rfl⟩, hl'.push _⟩
theorem iters_tuple {l : Addr} {items : Array Value} (hl : s.heap.IsTuple l items) : Iters P w s.heap (.ref l) items.size (fun i v => items[i]? = some v) := fun A E s' Q hk h => by
  obtain ⟨o, ho, r⟩ := id hl
  have hl' : s'.heap.IsTuple l items := ⟨o, hk l o ho, r⟩
  have hlt := Heap.lt_size ho
  have hlt' := Heap.lt_size (hk l o ho)
  refine wpAny_pyIter_tuple hl' ?_
  exact h _ _ [s'.heap.objs.size, l] (fun A' hA => Walks.tuple hA _ l (Nat.ne_of_lt hlt') items) (fun b hb => by
    rcases List.mem_cons.mp hb with e | e
    · exact .inl e
    · exact .inr (by rw [List.mem_singleton.mp e]; exact hlt)) ⟨⟨_, Heap.get?_push_size _ rfl, rfl, rfl⟩, hl'.push _⟩
theorem iters_str {x : Str} {u : Tok} : Iters P w s.heap (.str x u) x.cps.size (SignAt x) := fun A E s' Q hk h =>
  wpAny_pyIter_str fun o St hW hst => h o St [s'.heap.objs.size] hW (fun b hb => .inl (List.mem_singleton.mp hb)) hst
set_option maxHeartbeats 3200000 in
theorem call_set {m : Bool} {arg : Value} {T : String} {ks : List NK} {Pv : Nat → Value → Prop} {Q : Value → Shared → Prop} (hh : A.handled = none) (hu : A.units + 20 < cLine) (hT : ∀ s' : Shared, (∀ b o, s.heap.get? b = some o → s'.heap.get? b = some o) → s'.TypeIs arg T)
    (n1 : isSubtype (.type T) (.type "set") = pure false) (n2 : isSubtype (.type T) (.type "frozenset") = pure false) (n3 : (Value.type T == Value.type "dict") = false) (hI : Iters P w s.heap arg ks.length Pv)
    (hval : ∀ i v, Pv i v → ∃ k, ks[i]? = some k ∧ NestedIs s.heap k v ∧ k.depth ≤ 8 ∧ Elem m v k) (hfew : ks.length < 2046)
    (h : ∀ (h' : Heap) (tk : Nat) (L : List Rw), StG m w h' s.heap.objs.size L → Has ks Pv ks.length L → (∀ b o, s.heap.get? b = some o → h'.get? b = some o) → Q (.ref s.heap.objs.size) { s with heap := h', toks := tk }) :
    wpAny (model P w) A (call (.type "set") [arg]) Q E s := by
  obtain ⟨c, tl, hmro⟩ := F.called_set.mro
  have hmade := F.called_set.made
  have hsub := F.called_set.sub
  refine wpAny_call (codeAny_of_tree ?_)
  show wpAny _ _ (callAny (.type "set") _) _ _ _
  refine wpAny_pure ⟨Code.quiet_builtin _ (by decide +kernel), codeAny_builtin F.entry_type_call ?_⟩
  rw [Around.under_plain (weight_type_call_type "set" [arg] []) rfl]
  have h1 := F.called_set.notType
  have h2 := F.called_set.canCreate
  have hct := F.typeCall_set_1 arg
  repeat (any_goals (first | assumption | wp_step))
  refine codeAny_mono (code_set_led1 arg (E := E) (Q₁ := fun obj s₁ => obj = .ref s.heap.objs.size ∧ s₁ = { s with heap := s.heap.push { cls := .type "set", dict := none, data := .set #[] 0 (.fresh 0 0 (!w.params.followText "set-order")) } }) ⟨rfl, rfl⟩) fun r s₁ hr => ?_
  cases r with
  | error e => exact hr
  | ok fl =>
    cases fl with
    | ret obj =>
      obtain ⟨rfl, rfl⟩ := hr
      have hS : (s.heap.push { cls := .type "set", dict := none, data := .set #[] 0 (.fresh 0 0 (!w.params.followText "set-order")) }).get? s.heap.objs.size = some { cls := .type "set", dict := none, data := .set #[] 0 (.fresh 0 0 (!w.params.followText "set-order")) } := Heap.get?_push_size _ rfl
      have hTS : Shared.TypeIs { s with heap := s.heap.push { cls := .type "set", dict := none, data := .set #[] 0 (.fresh 0 0 (!w.params.followText "set-order")) } } (.ref s.heap.objs.size) "set" := ⟨_, hS, rfl⟩
      have hli := F.called_set.init.lookup
      have hbi := F.called_set.init.bind (.ref s.heap.objs.size)
      repeat (any_goals (first | assumption | wp_step))
      refine codeAny_mono (codeAny_call_builtin (R := wants (fun r s₂ => r = .none ∧ ∃ h' tk L, s₂ = { s with heap := h', toks := tk } ∧ StG m w h' s.heap.objs.size L ∧ Has ks Pv ks.length L ∧
          (∀ b o, s.heap.get? b = some o → h'.get? b = some o)) E) F.called_set.init.plain F.entry_set_init (check_set_init_1 hTS ?_)) fun r₂ s₂ hr₂ => ?_
      · have hTa := hT { s with heap := s.heap.push { cls := .type "set", dict := none, data := .set #[] 0 (.fresh 0 0 (!w.params.followText "set-order")) } } fun b o e => Heap.get?_push_of_some _ e
        unfold Builtin.«set.__init__» noKeywords
        generalize hU : Builtin.Frozenset.updateFrom = UF
        wp_walk
        subst hU
        unfold Builtin.Frozenset.updateFrom
        refine wpAny_bind ?_
        unfold Builtin.Frozenset.isAnySet orM
        refine wpAny_bind (wpAny_isInstance hTa n1 ?_)
        simp only [Bool.false_eq_true, if_false]
        refine wpAny_isInstance hTa n2 ?_
        simp only [Bool.false_eq_true, if_false]
        refine wpAny_bind (wpAny_typeOf hTa ?_)
        rw [n3]
        simp only [Bool.false_eq_true, if_false]
        refine wpAny_bind (hI A.in1.in1 _ _ _ (fun b o e => Heap.get?_push_of_some _ e) fun ob St fp hW hfp hst => ?_)
        have hz1 : (s.heap.push { cls := .type "set", dict := none, data := .set #[] 0 (.fresh 0 0 (!w.params.followText "set-order")) }).objs.size = s.heap.objs.size + 1 := Heap.size_push ..
        refine wpAny_bind (wpAny_runValue ?_)
        have hSf : s.heap.objs.size ∉ fp := fun z => by
          rcases hfp _ z with z | z
          · have z2 : s.heap.objs.size = s.heap.objs.size + 1 := z.trans hz1
            omega
          · exact Nat.lt_irrefl _ z
        have hnone : ∀ b, s.heap.objs.size ≤ b → s.heap.get? b = none := fun b hb => by
          cases e : s.heap.get? b with
          | none => rfl
          | some o => exact absurd (Heap.lt_size e) (Nat.not_lt.mpr hb)
        refine filled (m := m) (hW A.in1.in1.in1 (by simp [hh])).toS s.heap.objs.size hSf ks rfl hfew s.heap hval (hnone _ (Nat.le_refl _)) (fun b hb => by
          rw [List.mem_singleton.mp hb, hz1]
          exact hnone _ (Nat.le_succ _)) (by simp only [Around.in1_units]; omega) ks.length 0 _ (by omega) (Nat.zero_le _) hst (fun b o e => Heap.get?_push_of_some _ (Heap.get?_push_of_some _ e)) ⟨[], fresh (Heap.get?_push_of_some _ hS), Has.zero ks Pv⟩ fun s' L hm hL hH hk => ?_
        obtain ⟨h', g', d', tk', os'⟩ := s'
        have eg : g' = s.gens := hm.gens
        have ed : d' = s.drawn := hm.drawn
        have eo : os' = s.os := hm.os
        subst eg; subst ed; subst eo
        show wpAny _ _ _ _ _ _
        refine wpAny_pure ?_
        show wpAny _ _ (ret Value.none) _ _ _
        exact wpAny_pure ⟨rfl, h', tk', L, rfl, hL, hH, hk⟩
      · cases r₂ with
        | error e => exact hr₂
        | ok fl₂ =>
          cases fl₂ with
          | ret r =>
            obtain ⟨rfl, h', tk, L, rfl, hS', hc', hk'⟩ := hr₂
            repeat (any_goals (first | assumption | wp_step))
            exact h _ _ _ hS' hc' hk'
          | _ => exact hr₂.elim
    | _ => exact hr.elim
end
end Ds

set_option linter.all false
set_option maxRecDepth 100000
namespace Ds
open PySem PySem.Spec PyProof.Rows L2
section
variable {P : Program} {w : World} {A : Around} {E : Value → Shared → Prop} {s : Shared} {a : Addr} {L : List Rw} {m : Bool}
theorem sorted_set {Q : Value → Shared → Prop} (R : StG m w s.heap a L) (hh : A.handled = none)
    (hQ : ∀ (s' : Shared) (vs : List Value), (∀ b o, s.heap.get? b = some o → s'.heap.get? b = some o) → s'.gens = s.gens → s'.os = s.os → s.heap.objs.size ≤ s'.heap.objs.size → vs.Perm (L.map (·.2)) →
      wpAny (model P w) A.in1 (call (.builtin "list.sort") [.ref s'.heap.objs.size]) (fun _ s'' => Q (.ref s'.heap.objs.size) s'') E { s' with heap := s'.heap.push (seqObj "list" vs.toArray 0) }) :
    wpAny (model P w) A (call (.builtin "sorted") [.ref a]) Q E s := by
  obtain ⟨es, ep, t, R, _⟩ := R
  obtain ⟨o, ho, hex, hd⟩ := R.ob
  have hsl := R.size
  have few := R.few
  refine Calls.call_function_entry kind_sorted plain_sorted entry_sorted (args_sorted1 _) ?_
  unfold Builtin.«sorted»
  refine wpAny_bind (m := checkCount "sorted" 1 1 _) (wpAny_pure ?_)
  refine wpAny_bind (collect_set (A := A.in1) hh ⟨o, ho, hex.1, hd⟩ R.fits (by rw [hsl]; unfold scanBound; omega) R.ris R.led fun s1 vs k1 hz g1 o1 pm => ?_)
  have pm2 : vs.Perm (L.map (·.2)) := by
    rw [R.rows] at pm
    simpa [rws, Function.comp_def] using pm
  refine wpAny_bind (wpAny_newList ?_ (by rw [pm2.length_eq, List.length_map, sizeLine_eq]; omega))
  refine wpAny_bind (wpAny_holding ?_)
  refine wpAny_mono (hQ s1 vs k1 g1 o1 hz pm2) (fun r s' h => ?_) fun _ _ h => h
  exact wpAny_pure ⟨_, rfl, h⟩
theorem len_set {Q : Value → Shared → Prop} (R : StG m w s.heap a L) (h : Q (.int L.length (s.toks + 1)) { s with toks := s.toks + 1 + 1 }) : wpAny (model P w) A (call (.builtin "len") [.ref a]) Q E s := by
  obtain ⟨es, ep, t, R, _⟩ := R
  obtain ⟨o, ho, hex, hd⟩ := R.ob
  have hsl := R.size
  have few := R.few
  refine call_len_set ho hex hd R.fits (by rw [hsl]; omega) ?_
  rw [hsl]
  exact h
end
end Ds

set_option linter.all false
set_option maxRecDepth 100000
namespace Ds
open PySem PySem.W PySem.Calls PyProof.Rows
section
variable {prog : Program} {w : World} {A : Around} {E : Value → Shared → Prop} {s : Shared}
theorem call_tuple_lt {Q : Value → Shared → Prop} {l b : Addr} {items items2 : Array Value} {e r : Nat → Bool} (hl : s.heap.IsTuple l items) (hb : s.heap.IsTuple b items2)
    (he : ∀ j (h1 : j < items.size) (h2 : j < items2.size), SeqAt.EqAt A.in1 s items[j] items2[j] (e j)) (hr : ∀ j (h1 : j < items.size) (h2 : j < items2.size), e j = false → SeqAt.RcLt A.in1 s items[j] items2[j] (r j))
    (h : Q (.bool (SeqAt.firstLt e r (decide (items.size < items2.size)) (List.range (min items.size items2.size)))) s) : wpAny (model prog w) A (call (.builtin "tuple.__lt__") [.ref l, .ref b]) Q E s := by
  obtain ⟨⟨cls, dd, data, sl⟩, ho, hc, n, hd⟩ := id hl
  obtain ⟨⟨cls2, dd2, data2, sl2⟩, ho2, hc2, n2, hd2⟩ := id hb
  simp only at hc hd hc2 hd2
  subst hc hd hc2 hd2
  exact call_meets F.slot_tuple_lt ⟨_, ho, rfl⟩ F.entry_tuple_lt (F.args_tuple_lt_2 _ _) (SeqAt.tuple_ltAt l b items items2 n n2 dd dd2 sl sl2 e r) ⟨ho, ho2, he, hr, h⟩
theorem oneLt_tuple {xs ys : List PyData} {a b : Value} {as bs : List Addr} {Q : Bool → Shared → Prop} (ra : Reads s.heap a (.tuple xs) as) (rb : Reads s.heap b (.tuple ys) bs) (h : alike (.tuple xs) (.tuple ys) = true)
    (hu : A.units + min (PyData.tuple xs).depth (PyData.tuple ys).depth < cLine) (hq : Q (dataLt (.tuple xs) (.tuple ys)) s) : wpAny (model prog w) A (oneLt' true a b) Q E s := by
  have hal : alikeAll xs ys = true := by simpa [alike] using h
  cases ra with
  | @tuple l o vs n _ as₁ h1 h2 h3 h4 =>
    cases rb with
    | @tuple l' o' vs' n' _ bs₁ k1 k2 k3 k4 =>
      have n1 : vs.size = xs.length := by simpa using SeqAt.ReadsAll.length _ _ _ h4
      have n2 : vs'.size = ys.length := by simpa using SeqAt.ReadsAll.length _ _ _ k4
      rw [dataLt_tuple, ← firstLt_toks xs ys hal, ← n1, ← n2] at hq
      rw [oneLt'_eq]
      simp only [if_true]
      refine wpAny_bind (wpAny_cRoomFor (SeqAt.room_here hu) ?_)
      refine wpAny_bind (wpAny_callSpecialIfBound?_slot (T := "tuple") ⟨_, h1, h2⟩ F.slot_tuple_lt (call_tuple_lt (e := SeqAt.pairEq xs ys) (r := fun j => dataLt (xs.getD j .none) (ys.getD j .none)) ⟨_, h1, h2, _, h3⟩ ⟨_, k1, k2, _, k3⟩ (fun j j1 j2 => ?_) (fun j j1 j2 hj => ?_) ?_))
      · have := eqAt_alikeAll xs ys A.in1 s vs.toList vs'.toList _ _ h4 k4 hal (SeqAt.room_in hu) j (by simpa using j1) (by simpa using j2)
        simpa using this
      · have := rcLt_alikeAll xs ys A.in1 s vs.toList vs'.toList _ _ h4 k4 hal (SeqAt.room_in hu) j (by simpa using j1) (by simpa using j2) hj
        simpa using this
      · exact wpAny_truthy_bool hq
theorem firsts : ∀ {vs : List Value} {ds : List PyData} {Q : List (Option Value) → Shared → Prop}, EachIs (fun v d => ∃ as, Reads s.heap v d as) vs ds → (∀ d ∈ ds, ∃ xs, d = .tuple xs) →
    (∀ fs : List (Option Value), fs.length = vs.length → EachIs (fun (f : Option Value) d => f = none → d = .tuple []) fs ds → EachIs (fun (f : Option Value) d => d = .tuple [] → f = none) fs ds → Q fs s) → wpAny (model prog w) A (vs.mapM firstOfTuple') Q E s
  | _, _, Q, .nil, _, h => by rw [List.mapM_nil]; exact wpAny_pure (h [] rfl .nil .nil)
  | _, _, Q, .cons (b := d) ⟨as, r⟩ t, ht, h => by
    obtain ⟨xs, rfl⟩ := ht d List.mem_cons_self
    cases r with
    | @tuple a o its n _ _ ho hc hd hr =>
      rw [List.mapM_cons]
      refine wpAny_bind ?_
      rw [kas_first_eq]
      refine wpAny_bind (Looks.here (show Looks (model prog w) s.heap (typeOf (.ref a)) o.cls from (Looks.ld ho).andThen .now) ?_)
      rw [hc, if_neg (by decide)]
      refine wpAny_bind (listItems_at ho hd (wpAny_pure ?_))
      have hl : its.toList.length = xs.length := SeqAt.ReadsAll.length _ _ _ hr
      refine wpAny_bind (firsts t (fun d hd => ht d (List.mem_cons_of_mem _ hd)) fun fs e1 e2 e3 => wpAny_pure (h _ (by simp [e1]) (.cons (fun z => ?_) e2) (.cons (fun z => ?_) e3)))
      · cases xs with
        | nil => rfl
        | cons x xs =>
          rw [← Array.getElem?_toList, List.getElem?_eq_none_iff] at z
          have z2 : its.toList = [] := List.length_eq_zero_iff.mp (Nat.le_zero.mp z)
          rw [z2] at hl
          cases hl
      · cases z
        rw [← Array.getElem?_toList, List.getElem?_eq_none_iff]
        simp at hl
        simp [hl]
theorem each_all {α β : Type} {R : α → β → Prop} {p : α → Prop} {q : β → Prop} (h : ∀ a b, R a b → q b → p a) : ∀ {as : List α} {bs : List β}, EachIs R as bs → (∀ b ∈ bs, q b) → ∀ a ∈ as, p a
  | _, _, .nil, _, a, ha => nomatch ha
  | _, _, .cons h1 t, hq, a, ha => by
    rcases List.mem_cons.mp ha with rfl | ha
    · exact h _ _ h1 (hq _ List.mem_cons_self)
    · exact each_all h t (fun b hb => hq b (List.mem_cons_of_mem _ hb)) a ha
theorem sortsAt {vs : List Value} {ds : List PyData} (e : EachIs (fun v d => ∃ as, Reads s.heap v d as) vs ds) (hal : AllAlike ds) (hk : (∀ d ∈ ds, ∃ xs, d = .tuple xs) ∨ ∀ d ∈ ds, d ≠ .none ∧ ∀ xs, d ≠ .tuple xs) (hu : ∀ d, d ∈ ds → A.units + d.depth < cLine) : SortsAt prog w A s (dataKind s.heap ds) vs := by
  rcases hk with ht | hn
  rotate_left
  · exact SortsAt.data e hal (.inr hn) hu
  by_cases hall : ∀ d, d ∈ ds → ∃ x r, d = .tuple (x :: r)
  · exact SortsAt.data e hal (.inl hall) hu
  have room : ∀ {d d' : PyData}, d ∈ ds → A.units + min d.depth d'.depth < cLine := fun {d d'} hd => Nat.lt_of_le_of_lt (Nat.add_le_add_left (Nat.min_le_left _ _) _) (hu d hd)
  have hemp : PyData.tuple [] ∈ ds := Classical.byContradiction fun z => hall fun d hd => by
    obtain ⟨xs, rfl⟩ := ht d hd
    cases xs with
    | nil => exact absurd hd z
    | cons x r => exact ⟨x, r, rfl⟩
  refine ⟨fun v hv => ?_, ?_⟩
  · obtain ⟨d, hd, as, r⟩ := e.left v hv
    exact ⟨_, dataKind_some hal hd r⟩
  · have gen : PyProof.Rows.H.LtAt prog w A s (dataKind s.heap ds) general' := by
      intro E x y a b Q ha hb hq
      obtain ⟨d, as, hd, ra, rfl⟩ := dataKind_inv ha
      obtain ⟨d', as', hd', rb, rfl⟩ := dataKind_inv hb
      obtain ⟨xs, rfl⟩ := ht d hd
      show wpAny _ _ (oneLt' false x y) _ _ _
      exact oneLt_alike (fun z => nomatch z) ra rb (hal _ hd _ hd') (fun z => nomatch z) (room hd) hq
    have one : PyProof.Rows.H.LtAt prog w A s (dataKind s.heap ds) oneType' := by
      intro E x y a b Q ha hb hq
      obtain ⟨d, as, hd, ra, rfl⟩ := dataKind_inv ha
      obtain ⟨d', as', hd', rb, rfl⟩ := dataKind_inv hb
      obtain ⟨xs, rfl⟩ := ht d hd
      obtain ⟨ys, rfl⟩ := ht d' hd'
      rw [keyLt'_oneType]
      exact oneLt_tuple ra rb (hal _ hd _ hd') (room hd) hq
    cases ds with
    | nil => exact nomatch hemp
    | cons d₀ ds₀ =>
      obtain ⟨xs₀, rfl⟩ := ht d₀ List.mem_cons_self
      -- what the first items say
      have ask : ∀ (kd : SortKind), (xs₀ ≠ [] → kd = general') → (xs₀ = [] → kd = oneType') → ∀ (E : Value → Shared → Prop) {Q : SortKind → Shared → Prop}, Q kd s → wpAny (model prog w) A (keyKind' vs.toArray) Q E s := by
        intro kd k1 k2 E Q hq
        rw [kat_kind_eq, List.mapM_toArray, map_eq_pure_bind]
        refine wpAny_bind (wpAny_bind (firsts e ht fun fs f1 f2 f3 => wpAny_pure ?_))
        have hnone : ∃ f ∈ fs, f = none := by
          have := f3.left
          refine Classical.byContradiction fun z => ?_
          have : ∀ {fs : List (Option Value)} {ds : List PyData}, EachIs (fun (f : Option Value) d => d = .tuple [] → f = none) fs ds → PyData.tuple [] ∈ ds → ∃ f ∈ fs, f = none := by
            intro fs ds h
            induction h with
            | nil => exact fun z => nomatch z
            | cons h1 t ih =>
              intro hm
              rcases List.mem_cons.mp hm with hm | hm
              · exact ⟨_, List.mem_cons_self, h1 hm.symm⟩
              · obtain ⟨f, hf, e⟩ := ih hm
                exact ⟨f, List.mem_cons_of_mem _ hf, e⟩
          exact z (this f3 hemp)
        obtain ⟨f, hf, rfl⟩ := hnone
        have hall : ¬ (fs.toArray.all fun x => x.isSome) = true := by
          simp only [List.all_toArray, List.all_eq_true]
          intro z
          have := z none hf
          cases this
        rw [if_neg hall]
        cases f2 with
        | @cons f₀ _ fs₀ _ g1 g2 =>
          cases f3 with
          | cons g3 g4 =>
            cases hf0 : f₀ with
            | some x =>
              rw [if_pos (by simp)]
              have hne : xs₀ ≠ [] := fun z => by
                subst z
                have := g3 rfl
                rw [hf0] at this
                cases this
              exact wpAny_pure (k1 hne ▸ hq)
            | none =>
              rw [if_neg (by simp)]
              have he0 : xs₀ = [] := by
                have := g1 hf0
                cases this
                rfl
              rw [oneTypeOnly'_eq, List.mapM_toArray, map_eq_pure_bind]
              refine wpAny_bind (wpAny_bind (wpAny_bind (kas_mapM (r := Value.type "tuple") _ (fun v hv Q' hq => ?_) (wpAny_pure ?_))))
              · obtain ⟨d, hd, as, r⟩ := e.left v hv
                obtain ⟨xs, rfl⟩ := ht d hd
                exact (looks_reads r).here hq
              · have hall2 : ((List.map (fun _ => Value.type "tuple") vs).toArray.all fun x => x == Value.type "tuple") = true := by
                  simp only [List.all_toArray, List.all_map, List.all_eq_true]
                  intro _ _
                  exact (by decide : (Value.type "tuple" == Value.type "tuple") = true)
                cases vs with
                | nil => cases f1
                | cons v vs =>
                  have h0 : (List.map (fun _ => Value.type "tuple") (v :: vs)).toArray[0]? = some (Value.type "tuple") := by simp
                  rw [h0]
                  dsimp only
                  rw [if_pos hall2]
                  refine wpAny_pure ?_
                  have : (if (some (Value.type "tuple")).isSome = true then oneType' else general') = kd := (if_pos rfl).trans (k2 he0).symm
                  rw [this]
                  exact wpAny_pure hq
      by_cases h0 : xs₀ = []
      · exact ⟨oneType', one, fun _ E Q hq => ask oneType' (fun z => absurd h0 z) (fun _ => rfl) E hq⟩
      · exact ⟨general', gen, fun _ E Q hq => ask general' (fun _ => rfl) (fun z => absurd z h0) E hq⟩
theorem list_sort {β : Type} {enc : β → PyData} {R : Value → β → Prop} {vs : List Value} {bs : List β} {a : Addr} {n : Nat} {Q : Value → Shared → Prop} (ho : s.heap.get? a = some (seqObj "list" vs.toArray n)) (e : EachIs R vs bs) (er : EachIs (fun v b => ∃ as, Reads s.heap v (enc b) as ∧ a ∉ as) vs bs) (hal : AllAlike (bs.map enc))
    (hk : (∀ d ∈ bs.map enc, ∃ xs, d = .tuple xs) ∨ ∀ d ∈ bs.map enc, d ≠ .none ∧ ∀ xs, d ≠ .tuple xs) (hL : bs.length ≤ sizeLine)
    (hu : ∀ b, b ∈ bs → A.units + 1 + (enc b).depth < cLine) (h : ∀ out, out.length = bs.length → EachIs R out (bs.mergeSort (dataLe false enc)) → Q .none { s with heap := sortedHeap s.heap a vs (List.toArray out) }) :
    wpAny (model prog w) A (call (.builtin "list.sort") [.ref a]) Q E s := by
  have er' : EachIs (fun v b => ∃ as, Reads (sortingHeap s.heap a vs) v (enc b) as) vs bs := each_keepBut (h' := sortingHeap s.heap a vs) (fun _ _ hb q => sortingHeap_old hb q) (fun o q => by rw [ho] at q; rw [← Option.some.inj q]) hal er
  refine wpAny_call_entry slot_list_sort ⟨_, ho, rfl⟩ entry_list_sort (list_sort_vals (κ := dataKind (sortingHeap s.heap a vs) (bs.map enc)) ho (sortsAt (s := { s with heap := sortingHeap s.heap a vs }) (each_map (R := fun v d => ∃ as, Reads (sortingHeap s.heap a vs) v d as) enc er') hal hk (bound_map hu)) (by rw [e.length]; exact hL) ⟨.none, rfl, ?_⟩) (args_list_sort _)
  exact h _ (by rw [sortVals_length false rfl]; exact e.length) (sortVals_data false e er' hal)
end
end Ds

set_option linter.all false
set_option maxRecDepth 100000
namespace Dl
open PySem PySem.Spec PyProof.Rows L2 Ds
mutual
def D.kok : D → Bool
  | .non => true
  | .int _ => true
  | .str _ => true
  | .tup l => D.koks l
  | _ => false
def D.koks : List D → Bool
  | [] => true
  | d :: l => d.kok && D.koks l
end
mutual
def nkD : D → NK
  | .non => .none
  | .int i => .num i
  | .str l => .text ⟨l.toArray⟩
  | .tup l => .tup (nkDs l)
  | _ => .none
def nkDs : List D → List NK
  | [] => []
  | d :: l => nkD d :: nkDs l
end
mutual
theorem nkD_inj : ∀ a b : D, a.kok = true → b.kok = true → nkD a = nkD b → a = b
  | .non, .non, _, _, _ => rfl
  | .int i, .int j, _, _, e => by simp only [nkD, NestedKey.num.injEq] at e; rw [e]
  | .str i, .str j, _, _, e => by
    simp only [nkD, NestedKey.text.injEq] at e
    have := congrArg (fun x : Str => x.cps.toList) e
    simp only at this
    rw [this]
  | .tup i, .tup j, h, k, e => by
    simp only [nkD, NestedKey.tup.injEq] at e
    rw [nkDs_inj i j (by simpa [D.kok] using h) (by simpa [D.kok] using k) e]
  | .non, .int _, _, _, e => by simp [nkD] at e
  | .non, .str _, _, _, e => by simp [nkD] at e
  | .non, .tup _, _, _, e => by simp [nkD] at e
  | .int _, .non, _, _, e => by simp [nkD] at e
  | .int _, .str _, _, _, e => by simp [nkD] at e
  | .int _, .tup _, _, _, e => by simp [nkD] at e
  | .str _, .non, _, _, e => by simp [nkD] at e
  | .str _, .int _, _, _, e => by simp [nkD] at e
  | .str _, .tup _, _, _, e => by simp [nkD] at e
  | .tup _, .non, _, _, e => by simp [nkD] at e
  | .tup _, .int _, _, _, e => by simp [nkD] at e
  | .tup _, .str _, _, _, e => by simp [nkD] at e
  | .bl _, _, h, _, _ => by simp [D.kok] at h
  | .lst _ _, _, h, _, _ => by simp [D.kok] at h
  | .dic _ _ _, _, h, _, _ => by simp [D.kok] at h
  | .ins _ _ _, _, h, _, _ => by simp [D.kok] at h
  | .cst _, _, h, _, _ => by simp [D.kok] at h
  | .hol _, _, h, _, _ => by simp [D.kok] at h
  | .exv _ _, _, h, _, _ => by simp [D.kok] at h
  | .scr _, _, h, _, _ => by simp [D.kok] at h
  | .non, .bl _, _, h, _ => by simp [D.kok] at h
  | .non, .lst _ _, _, h, _ => by simp [D.kok] at h
  | .non, .dic _ _ _, _, h, _ => by simp [D.kok] at h
  | .non, .ins _ _ _, _, h, _ => by simp [D.kok] at h
  | .non, .cst _, _, h, _ => by simp [D.kok] at h
  | .non, .hol _, _, h, _ => by simp [D.kok] at h
  | .non, .exv _ _, _, h, _ => by simp [D.kok] at h
  | .non, .scr _, _, h, _ => by simp [D.kok] at h
  | .int _, .bl _, _, h, _ => by simp [D.kok] at h
  | .int _, .lst _ _, _, h, _ => by simp [D.kok] at h
  | .int _, .dic _ _ _, _, h, _ => by simp [D.kok] at h
  | .int _, .ins _ _ _, _, h, _ => by simp [D.kok] at h
  | .int _, .cst _, _, h, _ => by simp [D.kok] at h
  | .int _, .hol _, _, h, _ => by simp [D.kok] at h
  | .int _, .exv _ _, _, h, _ => by simp [D.kok] at h
  | .int _, .scr _, _, h, _ => by simp [D.kok] at h
  | .str _, .bl _, _, h, _ => by simp [D.kok] at h
  | .str _, .lst _ _, _, h, _ => by simp [D.kok] at h
  | .str _, .dic _ _ _, _, h, _ => by simp [D.kok] at h
  | .str _, .ins _ _ _, _, h, _ => by simp [D.kok] at h
  | .str _, .cst _, _, h, _ => by simp [D.kok] at h
  | .str _, .hol _, _, h, _ => by simp [D.kok] at h
  | .str _, .exv _ _, _, h, _ => by simp [D.kok] at h
  | .str _, .scr _, _, h, _ => by simp [D.kok] at h
  | .tup _, .bl _, _, h, _ => by simp [D.kok] at h
  | .tup _, .lst _ _, _, h, _ => by simp [D.kok] at h
  | .tup _, .dic _ _ _, _, h, _ => by simp [D.kok] at h
  | .tup _, .ins _ _ _, _, h, _ => by simp [D.kok] at h
  | .tup _, .cst _, _, h, _ => by simp [D.kok] at h
  | .tup _, .hol _, _, h, _ => by simp [D.kok] at h
  | .tup _, .exv _ _, _, h, _ => by simp [D.kok] at h
  | .tup _, .scr _, _, h, _ => by simp [D.kok] at h
theorem nkDs_inj : ∀ a b : List D, D.koks a = true → D.koks b = true → nkDs a = nkDs b → a = b
  | [], [], _, _, _ => rfl
  | a :: l, b :: m, h, k, e => by
    simp only [D.koks, Bool.and_eq_true] at h k
    simp only [nkDs, List.cons.injEq] at e
    rw [nkD_inj a b h.1 k.1 e.1, nkDs_inj l m h.2 k.2 e.2]
  | [], _ :: _, _, _, e => by simp [nkDs] at e
  | _ :: _, [], _, _, e => by simp [nkDs] at e
end
mutual
theorem nkD_dep : ∀ a : D, a.kok = true → (nkD a).depth = a.dep
  | .non, _ => rfl
  | .int _, _ => rfl
  | .str _, _ => rfl
  | .tup l, h => by simp only [nkD, NestedKey.depth, D.dep]; rw [nkDs_dep l (by simpa [D.kok] using h)]
  | .bl _, h => by simp [D.kok] at h
  | .lst _ _, h => by simp [D.kok] at h
  | .dic _ _ _, h => by simp [D.kok] at h
  | .ins _ _ _, h => by simp [D.kok] at h
  | .cst _, h => by simp [D.kok] at h
  | .hol _, h => by simp [D.kok] at h
  | .exv _ _, h => by simp [D.kok] at h
  | .scr _, h => by simp [D.kok] at h
theorem nkDs_dep : ∀ a : List D, D.koks a = true → NestedKey.depthAll (nkDs a) = D.deps a
  | [], _ => rfl
  | a :: l, h => by
    simp only [D.koks, Bool.and_eq_true] at h
    simp only [nkDs, NestedKey.depthAll, D.deps]
    rw [nkD_dep a h.1, nkDs_dep l h.2]
end
mutual
theorem reads_nested {h : Heap} : ∀ (a : D) (u : Value) (as : List Addr), a.kok = true → Reads h u a.P as → NestedIs h (nkD a) u ∧ as = []
  | .non, _, _, _, r => by cases r; exact ⟨.none, rfl⟩
  | .int _, _, _, _, r => by cases r; exact ⟨.int _ _, rfl⟩
  | .str _, _, _, _, r => by cases r; exact ⟨.text _ _, rfl⟩
  | .tup l, _, _, k, r => by
    cases r with
    | tuple h1 h2 h3 h4 =>
      obtain ⟨n, e⟩ := reads_nesteds l _ _ (by simpa [D.kok] using k) h4
      exact ⟨.tup h1 h2 h3 n, e⟩
  | .bl _, _, _, k, _ => by simp [D.kok] at k
  | .lst _ _, _, _, k, _ => by simp [D.kok] at k
  | .dic _ _ _, _, _, k, _ => by simp [D.kok] at k
  | .ins _ _ _, _, _, k, _ => by simp [D.kok] at k
  | .cst _, _, _, k, _ => by simp [D.kok] at k
  | .hol _, _, _, k, _ => by simp [D.kok] at k
  | .exv _ _, _, _, k, _ => by simp [D.kok] at k
  | .scr _, _, _, k, _ => by simp [D.kok] at k
theorem reads_nesteds {h : Heap} : ∀ (a : List D) (u : List Value) (as : List Addr), D.koks a = true → ReadsAll h u (D.Ps a) as → NestedAll h (nkDs a) u ∧ as = []
  | [], _, _, _, r => by cases r; exact ⟨.nil, rfl⟩
  | a :: l, _, _, k, r => by
    simp only [D.koks, Bool.and_eq_true] at k
    cases r with
    | cons h1 h2 =>
      obtain ⟨n1, e1⟩ := reads_nested a _ _ k.1 h1
      obtain ⟨n2, e2⟩ := reads_nesteds l _ _ k.2 h2
      exact ⟨.cons n1 n2, by rw [e1, e2]; rfl⟩
end
def ddk : List D → List D
  | [] => []
  | a :: l => a :: (ddk l).filter fun b => !decide (nkD b = nkD a)
theorem ddk_mem : ∀ {l : List D}, (∀ a ∈ l, a.kok = true) → ∀ a, a ∈ ddk l ↔ a ∈ l
  | [], _, a => Iff.rfl
  | b :: l, h, a => by
    have ih := ddk_mem (fun a ha => h a (List.mem_cons_of_mem _ ha)) a
    rw [ddk, List.mem_cons, List.mem_cons, List.mem_filter, ih]
    refine ⟨fun z => z.imp id And.left, fun z => ?_⟩
    by_cases e : a = b
    · exact .inl e
    · have ha := z.resolve_left e
      refine .inr ⟨ha, ?_⟩
      have : nkD a ≠ nkD b := fun q => e (nkD_inj a b (h a (List.mem_cons_of_mem _ ha)) (h b List.mem_cons_self) q)
      simp [this]
theorem ddk_sub : ∀ {l : List D}, ∀ a ∈ ddk l, a ∈ l
  | [], a, h => h
  | b :: l, a, h => by
    rw [ddk] at h
    rcases List.mem_cons.mp h with rfl | h
    · exact List.mem_cons_self
    · exact List.mem_cons_of_mem _ (ddk_sub a (List.mem_filter.mp h).1)
theorem ddk_nodup : ∀ l : List D, ((ddk l).map nkD).Nodup
  | [] => List.nodup_nil
  | b :: l => by
    rw [ddk, List.map_cons]
    refine List.nodup_cons.mpr ⟨fun z => ?_, ?_⟩
    · obtain ⟨a, ha, e⟩ := List.mem_map.mp z
      have := (List.mem_filter.mp ha).2
      simp [e] at this
    · exact (ddk_nodup l).sublist (List.filter_sublist.map _)
theorem leD_total : PySem.W.TotalLe leD' := PySem.W.sortLe_total _ false _
theorem leD_anti {a b : D} (h : PySem.W.alike a.P b.P = true) (h1 : leD' a b = true) (h2 : leD' b a = true) : PyData.eqv a.P b.P = true := by
  have e1 : PyProof.Rows.lexLt itemOrd (PySem.W.keyToks b.P) (PySem.W.keyToks a.P) = false := by
    have : (!PyProof.Rows.lexLt itemOrd (PySem.W.keyToks b.P) (PySem.W.keyToks a.P)) = true := h1
    simpa using this
  have e2 : PyProof.Rows.lexLt itemOrd (PySem.W.keyToks a.P) (PySem.W.keyToks b.P) = false := by
    have : (!PyProof.Rows.lexLt itemOrd (PySem.W.keyToks a.P) (PySem.W.keyToks b.P)) = true := h2
    simpa using this
  have e := lex_total (O := itemOrd) _ _ e2 e1
  cases q : PyData.eqv a.P b.P with
  | true => rfl
  | false =>
    have t := (PySem.W.toks_eqv _ _ h).2 q [] [.inl 0]
    rw [e, PySem.W.lex_pre, lex_irrefl (O := itemOrd)] at t
    cases t
mutual
theorem eqv_kok : ∀ a b : D, a.kok = true → b.kok = true → PyData.eqv a.P b.P = true → PySem.W.alike a.P b.P = true → a = b
  | .non, b, _, k, e, al => by cases b <;> simp_all [D.kok, D.P, PySem.W.alike]
  | .int i, b, _, k, e, al => by cases b <;> simp_all [D.kok, D.P, PySem.W.alike, PyData.eqv]
  | .str i, b, _, k, e, al => by
    cases b <;> simp_all [D.kok, D.P, PySem.W.alike, PyData.eqv]
  | .tup i, b, h, k, e, al => by
    cases b with
    | tup j =>
      simp only [D.P, PyData.eqv, PySem.W.alike, D.kok] at h k e al
      rw [eqvs_kok i j h k e al]
    | _ => simp_all [D.kok, D.P, PySem.W.alike]
  | .bl _, _, h, _, _, _ => by simp [D.kok] at h
  | .lst _ _, _, h, _, _, _ => by simp [D.kok] at h
  | .dic _ _ _, _, h, _, _, _ => by simp [D.kok] at h
  | .ins _ _ _, _, h, _, _, _ => by simp [D.kok] at h
  | .cst _, _, h, _, _, _ => by simp [D.kok] at h
  | .hol _, _, h, _, _, _ => by simp [D.kok] at h
  | .exv _ _, _, h, _, _, _ => by simp [D.kok] at h
  | .scr _, _, h, _, _, _ => by simp [D.kok] at h
theorem eqvs_kok : ∀ a b : List D, D.koks a = true → D.koks b = true → PyData.eqvAll (D.Ps a) (D.Ps b) = true → PySem.W.alikeAll (D.Ps a) (D.Ps b) = true → a = b
  | [], [], _, _, _, _ => rfl
  | a :: l, b :: m, h, k, e, al => by
    simp only [D.koks, Bool.and_eq_true] at h k
    simp only [D.Ps, PyData.eqvAll, PySem.W.alikeAll, Bool.and_eq_true] at e al
    rw [eqv_kok a b h.1 k.1 e.1 al.1, eqvs_kok l m h.2 k.2 e.2 al.2]
  | [], _ :: _, _, _, e, _ => by simp [D.Ps, PyData.eqvAll] at e
  | _ :: _, [], _, _, e, _ => by simp [D.Ps, PyData.eqvAll] at e
end
def D.isTup : D → Bool
  | .tup _ => true
  | _ => false
def D.isSc : D → Bool
  | .int _ => true
  | .str _ => true
  | _ => false
def ssOk (l : List D) : Bool := l.all (fun a => l.all fun b => PySem.W.alike a.P b.P) && (l.all D.isTup || l.all D.isSc) && l.all D.kok && D.pls l && l.all (fun d => decide (d.dep ≤ 8)) && decide (l.length < 2046)
theorem sort_perm {l m : List D} (hl : ∀ a ∈ l, ∀ b ∈ l, PySem.W.alike a.P b.P = true) (hk : ∀ a ∈ l, a.kok = true) (p : m.Perm l) : sortD m = sortD l := by
  have pm : (sortD m).Perm (sortD l) := ((List.mergeSort_perm m _).trans p).trans (List.mergeSort_perm l _).symm
  refine pm.eq_of_pairwise (le := fun a b => leD' a b = true) (fun a b ha hb h1 h2 => ?_) (PySem.W.sort_pairwise leD_total m) (PySem.W.sort_pairwise leD_total l)
  have ha' : a ∈ l := p.mem_iff.mp ((List.mergeSort_perm m _).mem_iff.mp ha)
  have hb' : b ∈ l := (List.mergeSort_perm l _).mem_iff.mp hb
  exact eqv_kok a b (hk a ha') (hk b hb') (leD_anti (hl a ha' b hb') h1 h2) (hl a ha' b hb')
section
variable {X : Cx} {pins : List (Addr × Obj)} {σ : L2.St} {H : Hp} {s : Shared}
theorem choose_each {α β : Type} {R : α → β → Prop} : ∀ {l : List α}, (∀ a ∈ l, ∃ b, R a b) → ∃ bs, PySem.W.EachIs R l bs
  | [], _ => ⟨[], .nil⟩
  | a :: l, h => by
    obtain ⟨b, hb⟩ := h a List.mem_cons_self
    obtain ⟨bs, hbs⟩ := choose_each fun a ha => h a (List.mem_cons_of_mem _ ha)
    exact ⟨b :: bs, .cons hb hbs⟩
theorem each_map1 {α β γ : Type} {R : α → β → Prop} {f : α → γ} {T : γ → β → Prop} (h : ∀ a b, R a b → T (f a) b) : ∀ {l : List α} {bs : List β}, PySem.W.EachIs R l bs → PySem.W.EachIs T (l.map f) bs
  | _, _, .nil => .nil
  | _, _, .cons h1 t => .cons (h _ _ h1) (each_map1 h t)
theorem each_eq {α β γ : Type} {R : α → β → Prop} {f : α → γ} {g : β → γ} (h : ∀ a b, R a b → f a = g b) : ∀ {l : List α} {bs : List β}, PySem.W.EachIs R l bs → l.map f = bs.map g
  | _, _, .nil => rfl
  | _, _, .cons h1 t => by rw [List.map_cons, List.map_cons, h _ _ h1, each_eq h t]
def Wk (h : Heap) (l : List (V × D)) (Pv : Nat → Value → Prop) : Prop := ∀ i v, Pv i v → ∃ x, l[i]? = some x ∧ RelV x.1 v ∧ ∃ as, Reads h v x.2.P as
def skd (l : List (V × D)) : Bool := (l.map Prod.snd).all D.isTup
structure ArgOk (X : Cx) (s : Shared) (u : Value) (l : List (V × D)) : Prop where
  ex : ∃ (T : String) (Pv : Nat → Value → Prop), (∀ s' : Shared, (∀ b o, s.heap.get? b = some o → s'.heap.get? b = some o) → s'.TypeIs u T) ∧ isSubtype (.type T) (.type "set") = pure false ∧ isSubtype (.type T) (.type "frozenset") = pure false ∧
    (Value.type T == Value.type "dict") = false ∧ Ds.Iters X.prog X.w s.heap u l.length Pv ∧ Wk s.heap l Pv
  ok : ssOk (l.map Prod.snd) = true
theorem ssOk_un {l : List D} (h : ssOk l = true) : (∀ a ∈ l, ∀ b ∈ l, PySem.W.alike a.P b.P = true) ∧ (l.all D.isTup = true ∨ l.all D.isSc = true) ∧ (∀ a ∈ l, a.kok = true) ∧ (∀ a ∈ l, a.dep ≤ 8) ∧ l.length < 2046 := by
  unfold ssOk at h
  simp only [Bool.and_eq_true, Bool.or_eq_true, decide_eq_true_eq, List.all_eq_true] at h
  simp only [List.all_eq_true]
  exact ⟨h.1.1.1.1.1, h.1.1.1.1.2, h.1.1.1.2, h.1.2, h.2⟩
theorem set_of (hc : X.calm = true) (hu : X.A.units + 200 < cLine) (I : Inv X pins σ H s) {u : Value} {l : List (V × D)} (a : ArgOk X s u l) {E : Value → Shared → Prop} {Q : Value → Shared → Prop}
    (h : ∀ (h' : Heap) (tk : Nat) (m : Bool) (L : List Rw) (bs : List (V × D)), (∀ b o, s.heap.get? b = some o → h'.get? b = some o) → StG m X.w h' s.heap.objs.size L →
      PySem.W.EachIs (fun (p : Rw) (x : V × D) => RelV x.1 p.2 ∧ (∃ as, Reads s.heap p.2 x.2.P as) ∧ x ∈ l) L bs → (bs.map Prod.snd).Perm (ddk (l.map Prod.snd)) → Q (.ref s.heap.objs.size) { s with heap := h', toks := tk }) :
    wpAny (model X.prog X.w) X.A (call (.type "set") [u]) Q E s := by
  obtain ⟨T, Pv, hT, n1, n2, n3, hI, hW⟩ := a.ex
  obtain ⟨q1, q2, q3, q4, q5⟩ := ssOk_un a.ok
  rw [List.length_map] at q5
  have hkl : (l.map fun x => nkD x.2).length = l.length := List.length_map _
  have kx : ∀ x ∈ l, x.2.kok = true ∧ x.2.dep ≤ 8 := fun x hx => ⟨q3 _ (List.mem_map.mpr ⟨x, hx, rfl⟩), q4 _ (List.mem_map.mpr ⟨x, hx, rfl⟩)⟩
  refine call_set (m := skd l) (ks := l.map fun x => nkD x.2) (I.ok.hd hc) (by omega) hT n1 n2 n3 (by rw [hkl]; exact hI) (fun i v hv => ?_) (by rw [hkl]; exact q5) fun h' tk L hL g hk => ?_
  · obtain ⟨x, hx, r, as, rd⟩ := hW i v hv
    have hm := List.mem_of_getElem? hx
    obtain ⟨k1, k2⟩ := kx x hm
    refine ⟨nkD x.2, by rw [List.getElem?_map, hx]; rfl, (reads_nested _ _ _ k1 rd).1, by rw [nkD_dep _ k1]; exact k2, ?_⟩
    unfold Elem
    by_cases ht : skd l = true
    · rw [if_pos ht]
      have := List.all_eq_true.mp ht x.2 (List.mem_map.mpr ⟨x, hm, rfl⟩)
      generalize x.2 = d at this rd
      cases d with
      | tup m => cases rd; exact ⟨_, rfl⟩
      | _ => cases this
    · rw [if_neg ht]
      have := List.all_eq_true.mp (q2.resolve_left ht) x.2 (List.mem_map.mpr ⟨x, hm, rfl⟩)
      generalize x.2 = d at this rd
      cases d with
      | int i => cases rd; exact ⟨.inl _, keyIs_int _ _, rfl⟩
      | str t => cases rd; exact ⟨.inr _, keyIs_str _ _, rfl⟩
      | _ => cases this
  · rw [hkl] at g
    obtain ⟨bs, eb⟩ := choose_each (l := L) (R := fun p x => nkD x.2 = p.1 ∧ RelV x.1 p.2 ∧ (∃ as, Reads s.heap p.2 x.2.P as) ∧ x ∈ l) fun p hp => by
      obtain ⟨j, hj, e, hv⟩ := g.sub p hp
      obtain ⟨x, hx, r, rd⟩ := hW j p.2 hv
      rw [List.getElem?_map, hx] at e
      exact ⟨x, Option.some.inj e, r, rd, List.mem_of_getElem? hx⟩
    have ek : L.map Prod.fst = bs.map fun x => nkD x.2 := each_eq (fun a b h => h.1.symm) eb
    have sub : ∀ x ∈ bs, x ∈ l := by
      have : ∀ {L : List Rw} {bs : List (V × D)}, PySem.W.EachIs (fun p x => nkD x.2 = p.1 ∧ RelV x.1 p.2 ∧ (∃ as, Reads s.heap p.2 x.2.P as) ∧ x ∈ l) L bs → ∀ x ∈ bs, x ∈ l := by
        intro L bs h
        induction h with
        | nil => exact fun x hx => nomatch hx
        | cons h1 t ih =>
          intro x hx
          rcases List.mem_cons.mp hx with rfl | hx
          · exact h1.2.2.2
          · exact ih x hx
      exact this eb
    obtain ⟨es, ep, t, R, _⟩ := id hL
    have nd : ((bs.map Prod.snd).map nkD).Nodup := by
      have := R.nd
      rw [ek] at this
      simpa [Function.comp_def] using this
    have nd1 : (bs.map Prod.snd).Nodup := List.Pairwise.of_map nkD (fun _ _ h e => h (congrArg nkD e)) nd
    have nd2 : (ddk (l.map Prod.snd)).Nodup := List.Pairwise.of_map nkD (fun _ _ h e => h (congrArg nkD e)) (ddk_nodup _)
    refine h h' tk (skd l) L bs hk hL (eb.mono fun _ _ h => h.2) ((List.perm_ext_iff_of_nodup nd1 nd2).mpr fun d => ⟨fun hd => ?_, fun hd => ?_⟩)
    · obtain ⟨x, hx, rfl⟩ := List.mem_map.mp hd
      exact (ddk_mem q3 _).mpr (List.mem_map.mpr ⟨x, sub x hx, rfl⟩)
    · obtain ⟨x, hx, rfl⟩ := List.mem_map.mp (ddk_sub _ hd)
      obtain ⟨j, hj⟩ := List.mem_iff_getElem?.mp hx
      have := g.all j (nkD x.2) (List.getElem?_eq_some_iff.mp hj).1 (by rw [List.getElem?_map, hj]; rfl)
      rw [ek] at this
      obtain ⟨y, hy, e⟩ := List.mem_map.mp this
      have := nkD_inj y.2 x.2 (kx y (sub y hy)).1 (kx x hx).1 e
      exact List.mem_map.mpr ⟨y, hy, this⟩
theorem sorted_of (hc : X.calm = true) (hu : X.A.units + 200 < cLine) (I : Inv X pins σ H s) {h' : Heap} {tk : Nat} {m : Bool} {L : List Rw} {l bs : List (V × D)} (hk : ∀ b o, s.heap.get? b = some o → h'.get? b = some o) (hz : s.heap.objs.size ≤ h'.objs.size) (hL : StG m X.w h' s.heap.objs.size L)
    (eb : PySem.W.EachIs (fun (p : Rw) (x : V × D) => RelV x.1 p.2 ∧ (∃ as, Reads s.heap p.2 x.2.P as) ∧ x ∈ l) L bs) (pm : (bs.map Prod.snd).Perm (ddk (l.map Prod.snd))) (ok : ssOk (l.map Prod.snd) = true) {E : Value → Shared → Prop} {Q : Value → Shared → Prop}
    (h : ∀ (s' : Shared) (p : Addr) (l' : List (V × D)), Inv X pins σ (upd H p (.lst (l'.map Prod.fst))) s' → (∀ x ∈ l', x ∈ l) → l'.map Prod.snd = sortD (ddk (l.map Prod.snd)) → H p = none → Q (.ref p) s') :
    wpAny (model X.prog X.w) X.A (call (.builtin "sorted") [.ref s.heap.objs.size]) Q E { s with heap := h', toks := tk } := by
  obtain ⟨q1, q2, q3, q4, q5⟩ := ssOk_un ok
  refine sorted_set hL (I.ok.hd hc) fun s1 vs k1 g1 o1 z1 pv => ?_
  -- the pairs in the order of the walk
  obtain ⟨L', e1, p1⟩ := map_perm (fun p : Rw => p.2) L vs pv
  have look : ∀ p ∈ L, ∃ x, RelV x.1 p.2 ∧ (∃ as, Reads s.heap p.2 x.2.P as) ∧ x ∈ bs ∧ x ∈ l := by
    have : ∀ {L : List Rw} {bs : List (V × D)}, PySem.W.EachIs (fun (p : Rw) (x : V × D) => RelV x.1 p.2 ∧ (∃ as, Reads s.heap p.2 x.2.P as) ∧ x ∈ l) L bs → ∀ p ∈ L, ∃ x, RelV x.1 p.2 ∧ (∃ as, Reads s.heap p.2 x.2.P as) ∧ x ∈ bs ∧ x ∈ l := by
      intro L bs h
      induction h with
      | nil => exact fun p hp => nomatch hp
      | cons h1 t ih =>
        intro p hp
        rcases List.mem_cons.mp hp with rfl | hp
        · exact ⟨_, h1.1, h1.2.1, List.mem_cons_self, h1.2.2⟩
        · obtain ⟨x, a1, a2, a3, a4⟩ := ih p hp
          exact ⟨x, a1, a2, List.mem_cons_of_mem _ a3, a4⟩
    exact this eb
  -- keys say which pair it is
  obtain ⟨es, ep, t, R, _⟩ := id hL
  have kx : ∀ x ∈ l, x.2.kok = true := fun x hx => q3 _ (List.mem_map.mpr ⟨x, hx, rfl⟩)
  have keyof : ∀ {p : Rw} {x : V × D}, p ∈ L → x ∈ l → (∃ as, Reads s.heap p.2 x.2.P as) → p.1 = nkD x.2 := fun {p x} hp hx ⟨as, rd⟩ => by
    have n1 := (reads_nested _ _ _ (kx x hx) rd).1
    exact NestedIs.inj _ _ _ (R.ks p hp).1 (nested_keep hk n1)
  obtain ⟨cs, ec⟩ := choose_each (l := L') (R := fun (p : Rw) (x : V × D) => RelV x.1 p.2 ∧ (∃ as, Reads s.heap p.2 x.2.P as) ∧ x ∈ l ∧ p.1 = nkD x.2) fun p hp => by
    have hp' := p1.mem_iff.mp hp
    obtain ⟨x, a1, a2, _, a4⟩ := look p hp'
    exact ⟨x, a1, a2, a4, keyof hp' a4 a2⟩
  have csub : ∀ x ∈ cs, x ∈ l := by
    have : ∀ {L : List Rw} {bs : List (V × D)}, PySem.W.EachIs (fun (p : Rw) (x : V × D) => RelV x.1 p.2 ∧ (∃ as, Reads s.heap p.2 x.2.P as) ∧ x ∈ l ∧ p.1 = nkD x.2) L bs → ∀ x ∈ bs, x ∈ l := by
      intro L bs h
      induction h with
      | nil => exact fun x hx => nomatch hx
      | cons h1 t ih =>
        intro x hx
        rcases List.mem_cons.mp hx with rfl | hx
        · exact h1.2.2.1
        · exact ih x hx
    exact this ec
  have ck : cs.map (fun x => nkD x.2) = L'.map Prod.fst := (each_eq (fun a b h => h.2.2.2) ec).symm
  have bk : bs.map (fun x => nkD x.2) = L.map Prod.fst := by
    have : ∀ {L1 : List Rw} {bs : List (V × D)}, (∀ p ∈ L1, p ∈ L) → PySem.W.EachIs (fun (p : Rw) (x : V × D) => RelV x.1 p.2 ∧ (∃ as, Reads s.heap p.2 x.2.P as) ∧ x ∈ l) L1 bs → bs.map (fun x => nkD x.2) = L1.map Prod.fst := by
      intro L1 bs hs h
      induction h with
      | nil => rfl
      | cons h1 t ih => rw [List.map_cons, List.map_cons, ih fun p hp => hs p (List.mem_cons_of_mem _ hp), keyof (hs _ List.mem_cons_self) h1.2.2 h1.2.1]
    exact this (fun _ h => h) eb
  have cperm : (cs.map Prod.snd).Perm (ddk (l.map Prod.snd)) := by
    refine List.Perm.trans ?_ pm
    have kp : ((cs.map Prod.snd).map nkD).Perm ((bs.map Prod.snd).map nkD) := by
      simp only [List.map_map]
      show (cs.map fun x => nkD x.2).Perm (bs.map fun x => nkD x.2)
      rw [ck, bk]
      exact p1.map _
    have bsub : ∀ d ∈ bs.map Prod.snd, d ∈ l.map Prod.snd := fun d hd => ddk_sub _ (pm.mem_iff.mp hd)
    have nb : ((bs.map Prod.snd).map nkD).Nodup := by
      rw [List.map_map]
      show (bs.map fun x => nkD x.2).Nodup
      rw [bk]
      exact R.nd
    have nc := kp.nodup_iff.mpr nb
    have nd1 : (cs.map Prod.snd).Nodup := List.Pairwise.of_map nkD (fun _ _ h e => h (congrArg nkD e)) nc
    have nd2 : (bs.map Prod.snd).Nodup := List.Pairwise.of_map nkD (fun _ _ h e => h (congrArg nkD e)) nb
    have csub2 : ∀ d ∈ cs.map Prod.snd, d ∈ l.map Prod.snd := fun d hd => by
      obtain ⟨x, hx, rfl⟩ := List.mem_map.mp hd
      exact List.mem_map.mpr ⟨x, csub x hx, rfl⟩
    refine (List.perm_ext_iff_of_nodup nd1 nd2).mpr fun d => ⟨fun hd => ?_, fun hd => ?_⟩
    · obtain ⟨y, hy, e⟩ := List.mem_map.mp (kp.mem_iff.mp (List.mem_map.mpr ⟨d, hd, rfl⟩))
      rw [← nkD_inj y d (q3 y (bsub y hy)) (q3 d (csub2 d hd)) e]
      exact hy
    · obtain ⟨y, hy, e⟩ := List.mem_map.mp (kp.mem_iff.mpr (List.mem_map.mpr ⟨d, hd, rfl⟩))
      rw [← nkD_inj y d (q3 y (csub2 y hy)) (q3 d (bsub d hd)) e]
      exact hy
  have k2 : ∀ b o, s.heap.get? b = some o → s1.heap.get? b = some o := fun b o e => k1 b o (hk b o e)
  have hcl : cs.length = L.length := by rw [← List.length_map (f := fun x : V × D => nkD x.2), ck, List.length_map, p1.length_eq]
  have few := R.few
  have hnew : (s1.heap.push (seqObj "list" vs.toArray 0)).get? s1.heap.objs.size = some (seqObj "list" vs.toArray 0) := Heap.get?_push_size _ rfl
  have ev : PySem.W.EachIs (fun v (x : V × D) => RelV x.1 v ∧ (∃ as, Reads s.heap v x.2.P as) ∧ x ∈ l) vs cs := by
    rw [e1]
    exact each_map1 (fun a b h => ⟨h.1, h.2.1, h.2.2.1⟩) ec
  refine Ds.list_sort (R := fun u (x : V × D) => RelV x.1 u) (enc := fun x => x.2.P) (bs := cs) hnew (ev.mono fun _ _ h => h.1) (ev.mono fun v x h => ?_) ?_ ?_ (by rw [hcl, sizeLine_eq]; omega) (fun x hx => ?_) fun out ho eo => ?_
  · obtain ⟨_, ⟨as, rd⟩, hx⟩ := h
    have e := (reads_nested _ _ _ (kx x hx) rd).2
    subst e
    exact ⟨[], PyProof.Rows.Reads.keeps (fun b o e => Heap.get?_push_of_some _ (k2 b o e)) rd, fun z => nomatch z⟩
  · intro d hd d' hd'
    obtain ⟨x, hx, rfl⟩ := List.mem_map.mp hd
    obtain ⟨x', hx', rfl⟩ := List.mem_map.mp hd'
    exact q1 _ (List.mem_map.mpr ⟨x, csub x hx, rfl⟩) _ (List.mem_map.mpr ⟨x', csub x' hx', rfl⟩)
  · rcases q2 with z | z
    · refine .inl fun d hd => ?_
      obtain ⟨x, hx, rfl⟩ := List.mem_map.mp hd
      have := List.all_eq_true.mp z x.2 (List.mem_map.mpr ⟨x, csub x hx, rfl⟩)
      revert this
      cases x.2 with
      | tup m => exact fun _ => ⟨D.Ps m, rfl⟩
      | _ => exact fun z => nomatch z
    · refine .inr fun d hd => ?_
      obtain ⟨x, hx, rfl⟩ := List.mem_map.mp hd
      have := List.all_eq_true.mp z x.2 (List.mem_map.mpr ⟨x, csub x hx, rfl⟩)
      revert this
      cases x.2 <;> simp [D.isSc, D.P]
  · have := q4 x.2 (List.mem_map.mpr ⟨x, csub x hx, rfl⟩)
    rw [D.P_depth]
    simp only [Around.in1_units]
    omega
  · obtain ⟨c, hcc⟩ := sortedHeap_at (vs := vs) (out := out.toArray) hnew
    have hn : H s1.heap.objs.size = none := I.hok.fresh (Nat.le_trans hz z1)
    have kall : ∀ b o, s.heap.get? b = some o → (sortedHeap (s1.heap.push (seqObj "list" vs.toArray 0)) s1.heap.objs.size vs out.toArray).get? b = some o := fun b o e => by
      have q := k2 b o e
      have hlt := Heap.lt_size q
      rw [sortedHeap_old (Nat.ne_of_lt hlt) (by rw [size_push']; exact Nat.lt_succ_of_lt hlt)]
      exact Heap.get?_push_of_some _ q
    have hlen : ((cs.mergeSort (PySem.W.dataLe false fun x : V × D => x.2.P)).map Prod.fst).length ≤ sizeLine := by
      rw [List.length_map, List.length_mergeSort, hcl, sizeLine_eq]; omega
    have hp : s.heap.objs.size ≤ s1.heap.objs.size := Nat.le_trans hz z1
    have J : Inv X pins σ (upd H s1.heap.objs.size (.lst ((cs.mergeSort (PySem.W.dataLe false fun x : V × D => x.2.P)).map Prod.fst))) { s with heap := sortedHeap (s1.heap.push (seqObj "list" vs.toArray 0)) s1.heap.objs.size vs out.toArray, gens := s1.gens, drawn := s1.drawn, toks := s1.toks } :=
      I.call (ch := []) (Un.laid kall hp hn) (I.hok.laid kall hp ⟨hlen, out, c, vals_of_each eo, hcc⟩) (by rw [show s1.gens = s.gens from g1]; exact I.bare) (fun _ z => nomatch z)
    have es1 : { s1 with heap := sortedHeap (s1.heap.push (seqObj "list" vs.toArray 0)) s1.heap.objs.size vs out.toArray } = { s with heap := sortedHeap (s1.heap.push (seqObj "list" vs.toArray 0)) s1.heap.objs.size vs out.toArray, gens := s1.gens, drawn := s1.drawn, toks := s1.toks } := by
      obtain ⟨a1, a2, a3, a4, a5⟩ := s1
      have : a5 = s.os := o1
      subst this
      rfl
    show Q (.ref s1.heap.objs.size) { s1 with heap := sortedHeap (s1.heap.push (seqObj "list" vs.toArray 0)) s1.heap.objs.size vs out.toArray }
    rw [es1]
    refine h _ _ _ J (fun x hx => csub x ((List.mergeSort_perm _ _).mem_iff.mp hx)) ?_ hn
    have e3 : ((cs.mergeSort (PySem.W.dataLe false fun x : V × D => x.2.P)).map Prod.snd) = sortD (cs.map Prod.snd) := by
      unfold sortD
      rw [List.map_mergeSort (r := PySem.W.dataLe false fun x : V × D => x.2.P) (s := leD') (f := Prod.snd) (fun a _ b _ => rfl)]
    rw [e3]
    exact sort_perm (fun a ha b hb => q1 _ (ddk_sub _ ha) _ (ddk_sub _ hb)) (fun a ha => q3 _ (ddk_sub _ ha)) cperm
end
end Dl

set_option linter.all false
set_option maxRecDepth 100000
namespace Dl
open PySem PySem.Spec PyProof.Rows L2 Ds
def SArg (K : PySem.W.Frag) (H : Hp) (v : V) (l : List (V × D)) : Prop :=
  (∃ a, v = .ref a ∧ (SqL K H a (l.map Prod.fst) ∨ SqT K H a (l.map Prod.fst)) ∧ DpAll K H (l.map Prod.fst) (l.map fun x => x.2.P)) ∨ ∃ cs : List Nat, v = .str ⟨cs.toArray⟩ ∧ l = cs.map fun c => (V.str ⟨#[c]⟩, D.str [c])
theorem each_at {α β : Type} {R : α → β → Prop} : ∀ {as : List α} {bs : List β} {i : Nat} {a : α}, PySem.W.EachIs R as bs → as[i]? = some a → ∃ b, bs[i]? = some b ∧ R a b
  | _, _, i, _, .nil, e => by simp at e
  | _, _, 0, _, .cons h t, e => by
    simp only [List.getElem?_cons_zero, Option.some.injEq] at e
    subst e
    exact ⟨_, rfl, h⟩
  | _, _, i + 1, _, .cons h t, e => by
    simp only [List.getElem?_cons_succ] at e
    obtain ⟨b, e2, r⟩ := each_at t e
    exact ⟨b, by simpa using e2, r⟩
section
variable {X : Cx} {pins : List (Addr × Obj)} {σ : L2.St} {H : Hp} {s : Shared}
theorem argOk (I : Inv X pins σ H s) {v : V} {u : Value} {l : List (V × D)} (h : SArg X.K H v l) (r : RelV v u) (ok : ssOk (l.map Prod.snd) = true) : ArgOk X s u l := by
  refine ⟨?_, ok⟩
  rcases h with ⟨a, rfl, h, hd⟩ | ⟨cs, rfl, rfl⟩
  · obtain rfl : u = Value.ref a := r
    rcases h with h | h
    · obtain ⟨its, rv, pl, hz⟩ := I.list h
      obtain ⟨as, ra⟩ := Dp.readsAll I _ _ its hd rv
      have e1 := each_of_vals rv
      have e2 := PySem.W.readsAll_each (fun x : V × D => x.2.P) ra
      have hlen : its.length = l.length := e1.length
      refine ⟨"list", fun i v => its.toArray[i]? = some v, fun s' k => ?_, F.sub_list_set, F.sub_list_frozenset, by decide, ?_, fun i v hv => ?_⟩
      · obtain ⟨o, ho, hc, _⟩ := pl.isList
        exact ⟨o, k _ _ ho, hc⟩
      · have := iters_list (P := X.prog) (w := X.w) pl.isList
        rwa [List.size_toArray, hlen] at this
      · have hv' : its[i]? = some v := by simpa using hv
        obtain ⟨x, hx, r1⟩ := each_at e1 hv'
        obtain ⟨y, hy, r2⟩ := each_at e2 hv'
        rw [hx] at hy
        cases hy
        exact ⟨x, hx, r1, r2⟩
    · obtain ⟨its, rv, hT, hz⟩ := I.tuple h
      obtain ⟨as, ra⟩ := Dp.readsAll I _ _ its hd rv
      have e1 := each_of_vals rv
      have e2 := PySem.W.readsAll_each (fun x : V × D => x.2.P) ra
      have hlen : its.length = l.length := e1.length
      refine ⟨"tuple", fun i v => its.toArray[i]? = some v, fun s' k => ?_, F.sub_tuple_set, F.sub_tuple_frozenset, by decide, ?_, fun i v hv => ?_⟩
      · obtain ⟨o, ho, hc, _⟩ := hT
        exact ⟨o, k _ _ ho, hc⟩
      · have := iters_tuple (P := X.prog) (w := X.w) hT
        rwa [List.size_toArray, hlen] at this
      · have hv' : its[i]? = some v := by simpa using hv
        obtain ⟨x, hx, r1⟩ := each_at e1 hv'
        obtain ⟨y, hy, r2⟩ := each_at e2 hv'
        rw [hx] at hy
        cases hy
        exact ⟨x, hx, r1, r2⟩
  · obtain ⟨t, rfl⟩ : ∃ t, u = .str ⟨cs.toArray⟩ t := r
    refine ⟨"str", SignAt ⟨cs.toArray⟩, fun s' k => rfl, by rw [isSubtype_type]; kernel_rfl, by rw [isSubtype_type]; kernel_rfl, by decide, ?_, fun i v hv => ?_⟩
    · have := iters_str (P := X.prog) (w := X.w) (s := s) (x := ⟨cs.toArray⟩) (u := t)
      simpa using this
    · obtain ⟨c, tk, hc, rfl⟩ := hv
      have hc' : cs[i]? = some c := by simpa using hc
      exact ⟨(V.str ⟨#[c]⟩, D.str [c]), by rw [List.getElem?_map, hc']; rfl, ⟨tk, rfl⟩, [], .str _ _⟩
end
def tSrtSet (K : PySem.W.Frag) (te : TE) : TE := fun σ H Q => te σ H fun v H1 => ∃ l : List (V × D), SArg K H1 v l ∧ ssOk (l.map Prod.snd) = true ∧
  ∀ (l' : List (V × D)) p, (∀ x ∈ l', x ∈ l) → l'.map Prod.snd = sortD (ddk (l.map Prod.snd)) → H1 p = none → Q (.ref p) (upd H1 p (.lst (l'.map Prod.fst)))
def tLenSet (K : PySem.W.Frag) (te : TE) : TE := fun σ H Q => te σ H fun v H1 => ∃ l : List (V × D), SArg K H1 v l ∧ ssOk (l.map Prod.snd) = true ∧ Q (.int ((ddk (l.map Prod.snd)).length : Nat)) H1
section
variable {X : Cx} {W : WX} {q : Bool} {e : Expr} {te : TE} {p p2 pos pos2 : Pos} {f : Cm Tm}
theorem pe_srtSet (hc : X.calm = true) (hu : X.A.units + 200 < cLine) (hg : Gl X "sorted") (hm : X.mg "sorted" = none) (hg2 : Gl X "set") (hm2 : X.mg "set" = none) (he : PE X e te)
    (hs : starEach [e] X.env = (false, eval e X.env) :: starEach [] X.env := by rfl)
    (hs2 : starEach [.Call (.Name "set" p2) [e] [] pos2] X.env = (false, eval (.Call (.Name "set" p2) [e] [] pos2) X.env) :: starEach [] X.env := by rfl) :
    PE X (.Call (.Name "sorted" p) [.Call (.Name "set" p2) [e] [] pos2] [] pos) (tSrtSet X.K te) := by
  refine ⟨fun pins s σ H Q I h => ?_⟩
  refine Call_ (ld_blt I hg hm PyProof.Rows.boot_sorted (PyProof.Rows.callWith_builtin1 (args_cons (Call_ (ld_blt I hg2 hm2 PyProof.Rows.boot_set (PyProof.Rows.callWith_type1 (args_cons (thn (he.run pins s σ H _ I h) fun u s1 ⟨v, H1, I1, r1, q1⟩ => args_nil ?_) hs) hs)))
    hs2) hs2))
  obtain ⟨l, sa, ok, q⟩ := q1
  refine set_of hc hu I1 (argOk I1 sa r1 ok) fun h' tk m L bs hk hL eb pm => args_nil ?_
  have hz : s1.heap.objs.size ≤ h'.objs.size := by
    obtain ⟨es, ep, t, R, _⟩ := hL
    obtain ⟨o, ho, _⟩ := R.ob
    exact Nat.le_of_lt (Heap.lt_size ho)
  refine sorted_of hc hu I1 hk hz hL eb pm ok fun s' p l' J h1 h2 h3 => ?_
  exact ⟨.ref p, _, J, rfl, q l' p h1 h2 h3⟩
theorem pe_lenSet (hc : X.calm = true) (hu : X.A.units + 200 < cLine) (hg : Gl X "len") (hm : X.mg "len" = none) (hg2 : Gl X "set") (hm2 : X.mg "set" = none) (he : PE X e te)
    (hs : starEach [e] X.env = (false, eval e X.env) :: starEach [] X.env := by rfl)
    (hs2 : starEach [.Call (.Name "set" p2) [e] [] pos2] X.env = (false, eval (.Call (.Name "set" p2) [e] [] pos2) X.env) :: starEach [] X.env := by rfl) :
    PE X (.Call (.Name "len" p) [.Call (.Name "set" p2) [e] [] pos2] [] pos) (tLenSet X.K te) := by
  refine ⟨fun pins s σ H Q I h => ?_⟩
  refine Call_ (ld_blt I hg hm PySem.boot_len (PyProof.Rows.callWith_builtin1 (args_cons (Call_ (ld_blt I hg2 hm2 PyProof.Rows.boot_set (PyProof.Rows.callWith_type1 (args_cons (thn (he.run pins s σ H _ I h) fun u s1 ⟨v, H1, I1, r1, q1⟩ => args_nil ?_) hs) hs)))
    hs2) hs2))
  obtain ⟨l, sa, ok, q⟩ := q1
  refine set_of hc hu I1 (argOk I1 sa r1 ok) fun h' tk m L bs hk hL eb pm => args_nil ?_
  have hlen : L.length = (ddk (l.map Prod.snd)).length := by
    rw [← pm.length_eq, List.length_map]
    exact eb.length
  refine len_set (s := { s1 with heap := h', toks := tk }) hL ?_
  rw [hlen]
  exact ⟨.int _, H1, I1.kept (t' := tk + 1 + 1) hk, ⟨_, rfl⟩, q⟩
def setL : D → Option (List D)
  | .lst _ l => if ssOk l = true then some l else none
  | .tup l => if ssOk l = true then some l else none
  | .str cs => if ssOk (cs.map fun c => .str [c]) = true then some (cs.map fun c => .str [c]) else none
  | _ => none
def eSrtSet (f : Cm Tm) : Cm Tm := fun ρ => (f ρ).bind fun t ρ1 => match (look ρ1 t).bind setL with
  | some l => .ok (.v (.lst true (sortD (ddk l)))) ρ1
  | none => .bad
def eLenSet (f : Cm Tm) : Cm Tm := fun ρ => (f ρ).bind fun t ρ1 => match (look ρ1 t).bind setL with
  | some l => .ok (.v (.int ((ddk l).length : Nat))) ρ1
  | none => .bad
mutual
theorem kok_own : ∀ d : D, d.kok = true → d.own = false
  | .non, _ => rfl
  | .int _, _ => rfl
  | .str _, _ => rfl
  | .tup l, h => by simpa [D.own] using koks_own l (by simpa [D.kok] using h)
  | .bl _, h => by simp [D.kok] at h
  | .lst _ _, h => by simp [D.kok] at h
  | .dic _ _ _, h => by simp [D.kok] at h
  | .ins _ _ _, h => by simp [D.kok] at h
  | .cst _, h => by simp [D.kok] at h
  | .hol _, h => by simp [D.kok] at h
  | .exv _ _, h => by simp [D.kok] at h
  | .scr _, h => by simp [D.kok] at h
theorem koks_own : ∀ l : List D, D.koks l = true → D.owns l = false
  | [], _ => rfl
  | d :: l, h => by
    simp only [D.koks, Bool.and_eq_true] at h
    simp [D.owns, kok_own d h.1, koks_own l h.2]
end
theorem ssOk_own {l : List D} (h : ssOk l = true) : D.owns l = false ∧ D.pls l = true := by
  have h2 := (ssOk_un h).2.2.1
  unfold ssOk at h
  simp only [Bool.and_eq_true] at h
  refine ⟨koks_own l ?_, h.1.1.2⟩
  clear h
  induction l with
  | nil => rfl
  | cons d l ih =>
    simp only [D.koks, Bool.and_eq_true]
    exact ⟨h2 d List.mem_cons_self, ih fun a ha => h2 a (List.mem_cons_of_mem _ ha)⟩
theorem open_set {K : PySem.W.Frag} {H Z : Hp} {d : D} {l : List D} {v : V} {A : List Addr} (zz : Same Z H) (o : O K H Z d v A) (e : setL d = some l) :
    ∃ l2 : List (V × D), SArg K H v l2 ∧ ssOk (l2.map Prod.snd) = true ∧ l2.map Prod.snd = l ∧ ∀ x ∈ l2, O K H Z x.2 x.1 [] := by
  unfold setL at e
  split at e
  · rename_i o0 l0
    split at e
    · rename_i ok
      cases e
      obtain ⟨p, xs, rfl, hp, C2, os⟩ := o.listV zz
      have os1 := os.nil_of (ssOk_own ok).1
      obtain ⟨z1, z2⟩ := zip_fst os1.length
      refine ⟨xs.zip l, .inl ⟨p, rfl, .inl (by rw [z1]; exact .of hp), ?_⟩, by rw [z2]; exact ok, z2, os1.pairs⟩
      have e2 : ((xs.zip l).map fun x => x.2.P) = D.Ps l := by
        rw [Ps_map, show (fun x : V × D => x.2.P) = D.P ∘ Prod.snd from rfl, ← List.map_map, z2]
      rw [z1, e2]
      exact os1.dp zz (ssOk_own ok).2
    · cases e
  · rename_i l0
    split at e
    · rename_i ok
      cases e
      obtain ⟨p, xs, rfl, hp, os⟩ := o.tupV zz
      have os1 : Os K H Z l xs [] := os.nil_of (ssOk_own ok).1
      obtain ⟨z1, z2⟩ := zip_fst os1.length
      refine ⟨xs.zip l, .inl ⟨p, rfl, .inr (by rw [z1]; exact hp), ?_⟩, by rw [z2]; exact ok, z2, os1.pairs⟩
      have e2 : ((xs.zip l).map fun x => x.2.P) = D.Ps l := by
        rw [Ps_map, show (fun x : V × D => x.2.P) = D.P ∘ Prod.snd from rfl, ← List.map_map, z2]
      rw [z1, e2]
      exact os1.dp zz (ssOk_own ok).2
    · cases e
  · rename_i cs
    split at e
    · rename_i ok
      cases e
      have ev : v = .str ⟨cs.toArray⟩ := o.strV
      have e2 : ((cs.map fun c => (V.str ⟨#[c]⟩, D.str [c])).map Prod.snd) = cs.map fun c => D.str [c] := by simp
      refine ⟨cs.map fun c => (V.str ⟨#[c]⟩, D.str [c]), .inr ⟨cs, ev, rfl⟩, by rw [e2]; exact ok, e2, fun x hx => ?_⟩
      obtain ⟨c, _, rfl⟩ := List.mem_map.mp hx
      exact .str [c]
    · cases e
  · cases e
theorem DE.srtSet (hc : X.calm = true) (hu : X.A.units + 200 < cLine) (hm : X.mg "sorted" = none) (hm2 : X.mg "set" = none) (ha : DE X W q e f) (hg : Gl X "sorted" := by rfl) (hg2 : Gl X "set" := by rfl)
    (hs : starEach [e] X.env = (false, eval e X.env) :: starEach [] X.env := by rfl)
    (hs2 : starEach [.Call (.Name "set" p2) [e] [] pos2] X.env = (false, eval (.Call (.Name "set" p2) [e] [] pos2) X.env) :: starEach [] X.env := by rfl) :
    DE X W q (.Call (.Name "sorted" p) [.Call (.Name "set" p2) [e] [] pos2] [] pos) (eSrtSet f) := by
  refine PE.imp (pe_srtSet hc hu hg hm hg2 hm2 ha hs hs2) fun σ H Q ⟨κ, ρ, τ, vs, st, w⟩ => ?_
  refine ⟨κ, ρ, τ, vs, st, Out.wp_mono (Out.wp_bind w) (fun t ρ1 w1 v H1 st1 k1 => ?_) fun _ _ z => z⟩
  try dsimp only at w1
  split at w1
  · rename_i l hl
    obtain ⟨d, hd, hs⟩ := Option.bind_eq_some_iff.mp hl
    obtain ⟨Z, A, B, C, c, tt, g, od, zz⟩ := st1.opn hd
    obtain ⟨l2, sa, ok, el, os⟩ := open_set zz od hs
    refine ⟨l2, sa, ok, fun l' p h1 h2 h3 => ?_⟩
    have om := Os.of_pairs (K := X.K) (H := H1) (Z := Z) (l := l') fun x hx => os x (h1 x hx)
    rw [h2, el] at om
    exact w1 _ _ (Stt.mkLst c tt g om h3) fun hq => ⟨(k1 hq).1, (k1 hq).2.trans (Same_new h3)⟩
  · exact w1.elim
theorem DE.lenSet (hc : X.calm = true) (hu : X.A.units + 200 < cLine) (hm : X.mg "len" = none) (hm2 : X.mg "set" = none) (ha : DE X W q e f) (hg : Gl X "len" := by rfl) (hg2 : Gl X "set" := by rfl)
    (hs : starEach [e] X.env = (false, eval e X.env) :: starEach [] X.env := by rfl)
    (hs2 : starEach [.Call (.Name "set" p2) [e] [] pos2] X.env = (false, eval (.Call (.Name "set" p2) [e] [] pos2) X.env) :: starEach [] X.env := by rfl) :
    DE X W q (.Call (.Name "len" p) [.Call (.Name "set" p2) [e] [] pos2] [] pos) (eLenSet f) := by
  refine PE.imp (pe_lenSet hc hu hg hm hg2 hm2 ha hs hs2) fun σ H Q ⟨κ, ρ, τ, vs, st, w⟩ => ?_
  refine ⟨κ, ρ, τ, vs, st, Out.wp_mono (Out.wp_bind w) (fun t ρ1 w1 v H1 st1 k1 => ?_) fun _ _ z => z⟩
  try dsimp only at w1
  split at w1
  · rename_i l hl
    obtain ⟨d, hd, hs⟩ := Option.bind_eq_some_iff.mp hl
    obtain ⟨Z, A, B, C, c, tt, g, od, zz⟩ := st1.opn hd
    obtain ⟨l2, sa, ok, el, os⟩ := open_set zz od hs
    refine ⟨l2, sa, ok, ?_⟩
    rw [el]
    exact w1 _ _ (st1.pop.pushI _) k1
  · exact w1.elim
end
end Dl

set_option linter.all false
set_option maxRecDepth 100000
namespace Dl
open PySem PySem.Spec PyProof.Rows L2
abbrev rUpper : V → List V → Hp → VK → Prop := fun x xs H Q => ∃ a : Str, x = .str a ∧ xs = [] ∧ a.length ≤ 5592405 ∧ Q (.str (Txt.upper a)) H
def upperD : List D → Option D
  | [.str a] => if a.all (· < 128) = true ∧ a.length ≤ 5592405 then some (.str (a.map up1)) else none
  | _ => none
theorem ca_upper {K : PySem.W.Frag} : CaD K (rMe rUpper) upperD := by
  intro κ ρ τ vs σ H Z A B ds xs c Q cc tt gg ow zz e k
  unfold upperD at e
  split at e
  · rename_i a
    split at e
    · rename_i h
      cases e
      cases ow with
      | cons o1 o2 =>
        cases o2
        refine ⟨_, _, rfl, _, o1.strV, rfl, by rw [str_len]; exact h.2, ?_⟩
        have := SX.upper_S h.1
        rw [show (⟨a.toArray⟩ : Str) = SX.S a from rfl, this]
        exact k _ H (.mk cc tt gg (.str _)) (Same.refl H)
    · cases e
  · cases e
end Dl

set_option linter.all false
set_option maxRecDepth 100000
namespace Dl
open PySem PySem.Spec PyProof.Rows L2
section
variable {X : Cx} {W : WX} {q : Bool} {a b : Expr} {fs : Cm (List Tm)} {pos px py pt : Pos} {i j : Nat} {x y : Str} {kt k2 : Nat} {pt2 : Pos}
theorem DS.par (hc : X.calm = true) (hN : X.N.Nodup) (ha : DA X W q [a, b] fs) (hi : X.N[i]? = some x := by rfl) (hj : X.N[j]? = some y := by rfl) (hij : i ≠ j := by decide)
    (hx : X.env.scope.names.lookup x = some .local := by rfl) (hy : X.env.scope.names.lookup y = some .local := by rfl)
    (hw : swappedStores [.Tuple [.Name x px, .Name y py] kt pt] (.Tuple [a, b] k2 pt2) X.env = pure (some [x, y]) := by rfl)
    (hs : swapsWithSole [.Tuple [.Name x px, .Name y py] kt pt] (.Tuple [a, b] k2 pt2) pos.line X.env = pure false := by rfl) :
    DS X W [i, j] (.Assign [.Tuple [.Name x px, .Name y py] kt pt] (.Tuple [a, b] k2 pt2) pos) (sAsg (gTupD 2 (gsCons (gN i) (gsCons (gN j) gsNil))) (eTup fs)) := by
  refine PS.imp (ps_par hc hN hi hj hij hx hy ha hw hs) fun D0 σ H ⟨κ, ρ, τ, vs, vo, st, w⟩ => ?_
  have w' : (((fs ρ).bind fun ts ρ1 => match dats ts with
    | some ds => if ds.length ≤ sizeLine then Out.ok (Tm.v (D.tup ds)) ρ1 else .bad
    | none => .bad).bind fun t ρ1 => match t with
    | .v d => match gTupD 2 (gsCons (gN i) (gsCons (gN j) gsNil)) d ρ1 with
      | some ρ2 => Out.ok Fl.nx ρ2
      | none => .bad
    | _ => .bad).wp (postS X.K [i, j] κ τ vs D0 σ) (postX X.K W [i, j] κ τ vs σ) := w
  refine ⟨κ, ρ, τ, vs, st, Out.wp_mono (Out.wp_bind (Out.wp_bind w')) (fun ts ρ1 w1 xs H1 hl st1 k1 => ?_) fun e ρ1 z H' d s2 eo => z σ H' d Frm.refl s2 eo⟩
  try dsimp only at w1
  split at w1
  · rename_i ds hd
    obtain rfl := dats_eq hd
    rw [tms_len] at hl
    split at w1
    · rename_i hz
      try dsimp only [Out.wp] at w1
      cases e : gTupD 2 (gsCons (gN i) (gsCons (gN j) gsNil)) (.tup ds) ρ1 with
      | none => rw [e] at w1; exact w1.elim
      | some ρ2 =>
        rw [e] at w1
        unfold gTupD at e
        simp only at e
        split at e
        · rename_i hlen
          match ds, hlen with
          | [d1, d2], _ =>
            match xs, hl with
            | [v1, v2], _ =>
              refine ⟨v1, v2, rfl, ?_⟩
              unfold gsCons at e
              simp only at e
              obtain ⟨ρ3, e1, e2⟩ := Option.bind_eq_some_iff.mp e
              obtain ⟨ρ4, e3, e4⟩ := Option.bind_eq_some_iff.mp e2
              unfold gN at e1 e3
              split at e1
              · rename_i hi1
                cases e1
                split at e3
                · rename_i hj1
                  cases e3
                  cases e4
                  have s1 : Stt X.K κ (ρ1.set i (some d1)) (.v d2 :: τ) (v2 :: vs) (σ.set i (some v1)) H1 := Stt.put (τ := .v d2 :: τ) (vs := v2 :: vs) st1 hi1 vo
                  have s2 := s1.put hj1 vo
                  exact w1 _ H1 (fun l hl => by
                    simp only [List.mem_cons, List.not_mem_nil, or_false, not_or] at hl
                    rw [List.getElem?_set_ne (Ne.symm hl.2), List.getElem?_set_ne (Ne.symm hl.1)]) s2
                · cases e3
              · cases e1
        · cases e
    · exact w1.elim
  · exact w1.elim
end
end Dl

set_option linter.all false
set_option maxRecDepth 100000
namespace Dl
open PySem PySem.Spec PyProof.Rows L2
def augA : D → D → Option D := gI (fun _ _ => true) fun i j => i + j
def augS : D → D → Option D := gI (fun _ _ => true) fun i j => i - j
theorem op2_augA {K : PySem.W.Frag} : Op2 K true (ipI fun i j => i + j) augA := op2_int0
theorem op2_augS {K : PySem.W.Frag} : Op2 K true (ipI fun i j => i - j) augS := op2_int0
end Dl

set_option linter.all false
set_option maxRecDepth 100000
namespace PySem
open Sem (wp)
set_option maxHeartbeats 1000000 in
theorem dl_enum_newB1 {v : Value} {o : Obj} {H : Heap → Prop} (B : Begins v o H) :
    Meets (Builtin.«enumerate.__new__» ⟨[.type "enumerate", v], []⟩) (fun _ R s => H s.heap ∧
      R (.ok (.ret (.ref (s.heap.push o).objs.size))) { s with heap := (s.heap.push o).push { cls := .type "enumerate", data := .fields #[.none, .bool false, .ref s.heap.objs.size, rawInt 0, .none, .none] } }) :=
  .of_wp fun prog w A R s h => by
    obtain ⟨hp, g, d, tk, os⟩ := s; obtain ⟨h1, h⟩ := h
    have hsub := sub_enumerate
    have q1 : ∀ {A' : Around} {E : Value → Shared → Prop} {Q : Value → Shared → Prop}, Q (.ref hp.objs.size) ⟨hp.push o, g, d, tk, os⟩ → wpAny (model prog w) A' (pyIter v) Q E ⟨hp, g, d, tk, os⟩ :=
      fun q => B.iter prog w _ _ ⟨hp, g, d, tk, os⟩ _ h1 q
    wp_walk using q1
    refine wpAny_stack_any fun st => wpAny_pure ?_
    split
    · rename_i c _ _ _ _ _
      cases (c == Value.type "enumerate")
      · wp_walk using q1
        exact ⟨_, rfl, h⟩
      · wp_walk using q1
        exact ⟨_, rfl, h⟩
    · wp_walk using q1
      exact ⟨_, rfl, h⟩
section
variable {prog : Program} {w : World} {A : Around} {E : Value → Shared → Prop} {s : Shared}
theorem dl_enum_begins {v : Value} {o : Obj} {H : Heap → Prop} {Q : Value → Shared → Prop} (B : Begins v o H) (h1 : H s.heap)
    (h : ∀ h', IsEnum h' (s.heap.objs.size + 1) s.heap.objs.size 0 .none → h'.get? s.heap.objs.size = some o → h'.objs.size = s.heap.objs.size + 2 →
      (∀ b o, s.heap.get? b = some o → h'.get? b = some o) → Q (.ref (s.heap.objs.size + 1)) { s with heap := h' }) :
    wpAny (model prog w) A (call (.type "enumerate") [v]) Q E s := by
  refine callType_new F.called_enumerate (by decide) (F.typeCall_enumerate_1 _) (F.newCall_enumerate_1 _) (fun obj => F.args_object_init_2 obj _) F.entry_enumerate_new
    (dl_enum_newB1 B) ⟨h1, ?_⟩
  have hz : (s.heap.push o).objs.size = s.heap.objs.size + 1 := Heap.size_push ..
  show _ ∧ _
  rw [hz]
  have he : IsEnum ((s.heap.push o).push { cls := .type "enumerate", data := .fields #[.none, .bool false, .ref s.heap.objs.size, rawInt 0, .none, .none] }) (s.heap.objs.size + 1) s.heap.objs.size 0 .none := by
    have := Heap.get?_push_size (s.heap.push o) (o := { cls := .type "enumerate", data := .fields #[.none, .bool false, .ref s.heap.objs.size, rawInt 0, .none, .none] }) rfl
    rw [hz] at this; exact this
  refine ⟨⟨_, he, rfl⟩, h _ he (Heap.get?_push_of_some _ (Heap.get?_push_size _ B.free)) (by rw [Heap.size_push, hz]) fun b o x => Heap.get?_push_of_some _ (Heap.get?_push_of_some _ x)⟩
end
end PySem
namespace Dl
open PySem PySem.Spec PyProof.Rows L2
def ItEt (K : PySem.W.Frag) (a : Addr) : It :=
  ⟨fun i H => ∃ (xs : List V) (x : V), SqT K H a xs ∧ xs[i]? = some x, fun i H v H' => ∃ T x, v = .ref T ∧ H T = none ∧ H' = upd H T (.tup [.int (i : Nat), x]) ∧ ∀ xs, SqT K H a xs → xs[i]? = some x, fun i H => ∃ xs : List V, SqT K H a xs ∧ xs.length = i⟩
theorem turn_enumT {P : Program} {w : World} {K : PySem.W.Frag} {elts : List Expr} {kk : Nat} {tpos : Pos} (a e it : Addr) :
    Turn P w K (.Tuple elts kk tpos) (ItEt K a) [e, it] e (fun i h => (∃ old, IsEnum h e it ((i : Nat) : Int) old) ∧ h.IsTupleIter it a i ∧ e ≠ it ∧ a ≠ it ∧ e ≠ a) where
  mem := by simp
  obj := fun i h st b hb => by
    obtain ⟨⟨old, he⟩, ⟨o, ho, hc, hd⟩, _⟩ := st
    have e' : b = e ∨ b = it := by simpa using hb
    rcases e' with z | z
    · rw [z]; exact ⟨_, he, fun v q => nomatch q⟩
    · rw [z]; exact ⟨o, ho, fun v q => by rw [hd] at q; cases q⟩
  keep := fun i h h' st k => let ⟨⟨old, he⟩, hi, hne⟩ := st; ⟨⟨old, k e (by simp) _ he⟩, hi.at fun o q => k it (by simp) o q, hne⟩
  item := by
    intro X hP hw hK hc i pins s σ H E I hf st hg
    subst hP hw hK
    obtain ⟨⟨old, he⟩, hit, hne, hai, hea⟩ := st
    obtain ⟨xs, x, hq, hx⟩ := hg
    obtain ⟨its, rv, p, hz⟩ := I.tuple hq
    obtain ⟨u, hu, ru⟩ := rv.get hx
    have hel : e < s.heap.objs.size := Heap.lt_size he
    have hil : it < s.heap.objs.size := by obtain ⟨_, q, _⟩ := hit; exact Heap.lt_size q
    have hlt : i < its.toArray.size := by
      have := (List.getElem?_eq_some_iff.mp hu).1
      simpa using this
    refine wpAny_pyNext_enum_itemD (Draws.tuple (A := X.A.in1) (I.ok.hd hc) it a hai its.toArray) he ⟨hit, p⟩ hlt hne (by simp [hne, hea]) fun x' h' tk hx' ho hit' hT hsz hk => ?_
    have ex' : x' = u := by
      have : its.toArray[i]? = some u := by simpa using hu
      rw [this] at hx'
      exact (Option.some.inj hx').symm
    subst ex'
    refine ⟨_, rfl, wpAny_letOwnedTupleGo_enum (s := { s with heap := h', toks := tk + 1 }) ho fun h'' he' sb => ?_⟩
    have hT2 : h''.get? s.heap.objs.size = some { cls := .type "tuple", data := .seq #[.int i tk, x'] } := (sb.2 _ (Nat.ne_of_gt hel)).trans hT
    have new : ObjOk X.prog X.w (upd H s.heap.objs.size (.tup [.int (i : Nat), x])) h'' s.heap.objs.size (.tup [.int (i : Nat), x]) :=
      ⟨by show 2 ≤ sizeLine; decide, [.int i tk, x'], .cons ⟨_, rfl⟩ (.cons ru .nil), ⟨_, hT2, rfl, _, rfl⟩⟩
    have I1 : Inv X pins σ (upd H s.heap.objs.size (.tup [.int (i : Nat), x])) { s with heap := h'', toks := tk + 1 } :=
      I.turnedNew (ch := [e, it]) (fun b ob hb q => (sb.2 b (fun z => hb (by simp [z]))).trans (hk b ob (fun z => hb (by simp [z])) (fun z => hb (by simp [z])) q)) hf (Nat.le_refl _) new
    refine ⟨.ref s.heap.objs.size, _, I1, rfl, ⟨_, x, rfl, I.hok.fresh (Nat.le_refl _), rfl, fun ys hy => by rw [I.tuple_inj hy hq]; exact hx⟩, ⟨⟨x', ?_⟩, hit'.1.at fun o q => (sb.2 it (Ne.symm hne)).trans q, hne, hai, hea⟩, fun b hb => ?_⟩
    · have e1 : ((i + 1 : Nat) : Int) = (i : Int) + 1 := by omega
      rw [e1]; exact he'
    · have hb' : b < s.heap.objs.size := by
        have e' : b = e ∨ b = it := by simpa using hb
        rcases e' with z | z
        · rw [z]; exact hel
        · rw [z]; exact hil
      rw [upd_ne (Nat.ne_of_lt hb')]
      exact (hf b hb).1
  done := by
    intro X hP hw hK hc i pins s σ H E I hf st hg
    subst hP hw hK
    obtain ⟨⟨old, he⟩, hit, hne, hai, hea⟩ := st
    obtain ⟨xs, hq, hx⟩ := hg
    obtain ⟨its, rv, p, hz⟩ := I.tuple hq
    obtain ⟨f0, f1, f2, f3, f4, f5⟩ := hf it (by simp)
    have hl := rv.length
    have ei : i = its.toArray.size := by simp; omega
    subst ei
    exact wpAny_pyNext_enum_endD (Draws.tuple (A := X.A.in1) (I.ok.hd hc) it a hai its.toArray) he ⟨hit, p⟩ fun h' eb => ⟨rfl, I.turned (t' := s.toks) (fun b o hb q => eb b o hb q) f0 f1 f3 f4 f5⟩
  self := fun A i s Q E st h => let ⟨⟨_, he⟩, _⟩ := st; wpAny_pyIter_enum he h
def ItEs (x : Str) : It :=
  ⟨fun i _ => i < x.cps.size, fun i H v H' => ∃ T c, v = .ref T ∧ H T = none ∧ x.cps[i]? = some c ∧ H' = upd H T (.tup [.int (i : Nat), .str ⟨#[c]⟩]), fun i _ => x.cps.size = i⟩
theorem turn_enumS {P : Program} {w : World} {K : PySem.W.Frag} {elts : List Expr} {kk : Nat} {tpos : Pos} (x : Str) (t : Tok) (e it : Addr) :
    Turn P w K (.Tuple elts kk tpos) (ItEs x) [e, it] e (fun i h => (∃ old, IsEnum h e it ((i : Nat) : Int) old) ∧ h.IsStrIter it (strIterType x) x t i ∧ e ≠ it) where
  mem := by simp
  obj := fun i h st b hb => by
    obtain ⟨⟨old, he⟩, ⟨o, ho, hc, hd⟩, _⟩ := st
    have e' : b = e ∨ b = it := by simpa using hb
    rcases e' with z | z
    · rw [z]; exact ⟨_, he, fun v q => nomatch q⟩
    · rw [z]; exact ⟨o, ho, fun v q => by rw [hd] at q; cases q⟩
  keep := fun i h h' st k => let ⟨⟨old, he⟩, ⟨o, ho, r⟩, hne⟩ := st; ⟨⟨old, k e (by simp) _ he⟩, ⟨o, k it (by simp) o ho, r⟩, hne⟩
  item := by
    intro X hP hw hK hc i pins s σ H E I hf st hg
    subst hP hw hK
    obtain ⟨⟨old, he⟩, hit, hne⟩ := st
    have hel : e < s.heap.objs.size := Heap.lt_size he
    have hil : it < s.heap.objs.size := by obtain ⟨_, q, _⟩ := hit; exact Heap.lt_size q
    refine wpAny_pyNext_enum_itemD (Draws.text (A := X.A.in1) (I.ok.hd hc) it x t) he hit hg hne (by simp [hne]) fun x' h' tk hx' ho hit' hT hsz hk => ?_
    obtain ⟨c, u, hcx, rfl⟩ := hx'
    refine ⟨_, rfl, wpAny_letOwnedTupleGo_enum (s := { s with heap := h', toks := tk + 1 }) ho fun h'' he' sb => ?_⟩
    have hT2 : h''.get? s.heap.objs.size = some { cls := .type "tuple", data := .seq #[.int i tk, .str ⟨#[c]⟩ u] } := (sb.2 _ (Nat.ne_of_gt hel)).trans hT
    have new : ObjOk X.prog X.w (upd H s.heap.objs.size (.tup [.int (i : Nat), .str ⟨#[c]⟩])) h'' s.heap.objs.size (.tup [.int (i : Nat), .str ⟨#[c]⟩]) :=
      ⟨by show 2 ≤ sizeLine; decide, [.int i tk, .str ⟨#[c]⟩ u], .cons ⟨_, rfl⟩ (.cons ⟨_, rfl⟩ .nil), ⟨_, hT2, rfl, _, rfl⟩⟩
    have I1 : Inv X pins σ (upd H s.heap.objs.size (.tup [.int (i : Nat), .str ⟨#[c]⟩])) { s with heap := h'', toks := tk + 1 } :=
      I.turnedNew (ch := [e, it]) (fun b ob hb q => (sb.2 b (fun z => hb (by simp [z]))).trans (hk b ob (fun z => hb (by simp [z])) (fun z => hb (by simp [z])) q)) hf (Nat.le_refl _) new
    obtain ⟨oi, g1, g2⟩ := hit'
    refine ⟨.ref s.heap.objs.size, _, I1, rfl, ⟨_, c, rfl, I.hok.fresh (Nat.le_refl _), hcx, rfl⟩, ⟨⟨.str ⟨#[c]⟩ u, ?_⟩, ⟨oi, (sb.2 it (Ne.symm hne)).trans g1, g2⟩, hne⟩, fun b hb => ?_⟩
    · have e1 : ((i + 1 : Nat) : Int) = (i : Int) + 1 := by omega
      rw [e1]; exact he'
    · have hb' : b < s.heap.objs.size := by
        have e' : b = e ∨ b = it := by simpa using hb
        rcases e' with z | z
        · rw [z]; exact hel
        · rw [z]; exact hil
      rw [upd_ne (Nat.ne_of_lt hb')]
      exact (hf b hb).1
  done := by
    intro X hP hw hK hc i pins s σ H E I hf st hg
    subst hP hw hK
    obtain ⟨⟨old, he⟩, hit, hne⟩ := st
    obtain ⟨f0, f1, f2, f3, f4, f5⟩ := hf it (by simp)
    replace hg : x.cps.size = i := hg
    subst hg
    exact wpAny_pyNext_enum_endD (Draws.text (A := X.A.in1) (I.ok.hd hc) it x t) he hit fun h' eb => ⟨rfl, I.turned (t' := s.toks) (fun b o hb q => eb b o hb q) f0 f1 f3 f4 f5⟩
  self := fun A i s Q E st h => let ⟨⟨_, he⟩, _⟩ := st; wpAny_pyIter_enum he h

def iEnumA (K : PySem.W.Frag) (tl : TE) : TI := fun σ H R => tl σ H fun x H1 =>
  (∃ a, x = .ref a ∧ (∃ xs, SqL K H1 a xs) ∧ R (Ite K a) H1) ∨ (∃ a, x = .ref a ∧ (∃ xs, SqT K H1 a xs) ∧ R (ItEt K a) H1) ∨ ∃ z, x = .str z ∧ R (ItEs z) H1
theorem pi_enumA {X : Cx} {e : Expr} {te : TE} {p pos tpos : Pos} {elts : List Expr} {kk : Nat} (hg : Gl X "enumerate") (hm : X.mg "enumerate" = none) (he : PE X e te) (hs : starEach [e] X.env = (false, eval e X.env) :: starEach [] X.env := by rfl) :
    PI X (.Tuple elts kk tpos) (.Call (.Name "enumerate" p) [e] [] pos) (iEnumA X.K te) := by
  refine ⟨fun pins s σ H R I h => ?_⟩
  refine Call_ (ld_blt I hg hm boot_enumerate (PyProof.Rows.callWith_type1 (args_cons (thn (he.run pins s σ H _ I h) fun u s1 ⟨v, H1, I1, r1, alt⟩ => args_nil ?_) hs) hs rfl))
  have fr : ∀ b, b ∈ [s1.heap.objs.size + 1, s1.heap.objs.size] → FpOk X pins H1 b := fun b hb => by
    have e' : b = s1.heap.objs.size + 1 ∨ b = s1.heap.objs.size := by simpa using hb
    have hle : s1.heap.objs.size ≤ b := by
      rcases e' with z | z
      · rw [z]; exact Nat.le_add_right _ _
      · rw [z]; exact Nat.le_refl _
    exact I1.fpOk hle (I1.hok.fresh hle)
  rcases alt with ⟨a, ex, ⟨xs, hq⟩, q⟩ | ⟨a, ex, ⟨xs, hq⟩, q⟩ | ⟨z, ex, q⟩
  · subst ex
    obtain rfl : u = Value.ref a := r1
    obtain ⟨its, rv, p', hz⟩ := I1.list hq
    refine call_enumerate_list p'.isList fun h' he hit hsz hk => wpAny_pyIter_enum he ?_
    have I2 : Inv X pins σ H1 { s1 with heap := h' } := I1.kept (t' := s1.toks) hk
    exact ⟨s1.heap.objs.size + 1, [s1.heap.objs.size + 1, s1.heap.objs.size], _, _, H1, rfl, I2, turn_enum a (s1.heap.objs.size + 1) s1.heap.objs.size, ⟨⟨.none, he⟩, hit, Nat.succ_ne_self _⟩, fr, q⟩
  · subst ex
    obtain rfl : u = Value.ref a := r1
    obtain ⟨its, rv, p', hz⟩ := I1.tuple hq
    have p2 : s1.heap.IsTuple a its.toArray := p'
    have la : a < s1.heap.objs.size := by obtain ⟨o, ho, _⟩ := p2; exact Heap.lt_size ho
    refine dl_enum_begins (begins_tuple a its.toArray) p2 fun h' he hit hsz hk => wpAny_pyIter_enum he ?_
    have I2 : Inv X pins σ H1 { s1 with heap := h' } := I1.kept (t' := s1.toks) hk
    exact ⟨s1.heap.objs.size + 1, [s1.heap.objs.size + 1, s1.heap.objs.size], _, _, H1, rfl, I2, turn_enumT a (s1.heap.objs.size + 1) s1.heap.objs.size, ⟨⟨.none, he⟩, ⟨_, hit, rfl, rfl⟩, Nat.succ_ne_self _, Nat.ne_of_lt la, Nat.ne_of_gt (Nat.lt_succ_of_lt la)⟩, fr, q⟩
  · subst ex
    obtain ⟨t, rfl⟩ := r1
    refine dl_enum_begins (begins_text z t) trivial fun h' he hit hsz hk => wpAny_pyIter_enum he ?_
    have I2 : Inv X pins σ H1 { s1 with heap := h' } := I1.kept (t' := s1.toks) hk
    exact ⟨s1.heap.objs.size + 1, [s1.heap.objs.size + 1, s1.heap.objs.size], _, _, H1, rfl, I2, turn_enumS z t (s1.heap.objs.size + 1) s1.heap.objs.size, ⟨⟨.none, he⟩, ⟨_, hit, rfl, rfl⟩, Nat.succ_ne_self _⟩, fr, q⟩
section
variable {X : Cx} {W : WX} {q : Bool} {e : Expr} {f : Cm Tm} {p pos tpos : Pos} {elts : List Expr} {kk : Nat} {K : PySem.W.Frag} {κ : Fr}
def enumD (ds : List D) : List D := ds.zipIdx.map fun p => .tup [.int (p.2 : Nat), p.1]
theorem enumD_len (ds : List D) : (enumD ds).length = ds.length := by simp [enumD]
theorem enumD_at {ds : List D} {i : Nat} {d : D} (e : (enumD ds)[i]? = some d) : ∃ y, ds[i]? = some y ∧ d = .tup [.int (i : Nat), y] := by
  unfold enumD at e
  rw [List.getElem?_map, List.getElem?_zipIdx] at e
  cases h : ds[i]? with
  | none => rw [h] at e; cases e
  | some y =>
    rw [h] at e
    refine ⟨y, rfl, ?_⟩
    simpa using (Option.some.inj e).symm
theorem Stt.pairI {ρ : Env} {τ : List Tm} {vs : List V} {σ : L2.St} {H : Hp} {d : D} {x : V} {T : Addr} {i : Int} (st : Stt K κ ρ (.v d :: τ) (x :: vs) σ H) (hT : H T = none) :
    Stt K κ ρ (.v (.tup [.int i, d]) :: τ) (.ref T :: vs) σ (upd H T (.tup [.int i, x])) :=
  Stt.tup (ds := [.int i, d]) (xs := [.int i, x]) (st.pushI i) rfl hT
theorem iters_eL {ds : List D} {a : Addr} : Iters K κ (Ite K a) [.lst false ds] [.ref a] (enumD ds) := fun ρ τ vs σ H st => by
  obtain ⟨a', xs, ea, hq, hl, it⟩ := Stt.itemL st
  cases ea
  refine ⟨fun i d ed => ?_, ⟨xs, hq, by rw [enumD_len]; omega⟩⟩
  obtain ⟨y, ey, rfl⟩ := enumD_at ed
  obtain ⟨x, ex⟩ := getElem_of_len hl ey
  refine ⟨⟨xs, x, hq, ex⟩, fun v H' hy => ?_⟩
  obtain ⟨T, x', rfl, hT, rfl, k⟩ := hy
  exact (it i y x' ey (k xs hq)).pairI hT
theorem iters_eO {ds : List D} (n : D.owns ds = false) {a : Addr} : Iters K κ (Ite K a) [.lst true ds] [.ref a] (enumD ds) := fun ρ τ vs σ H st => by
  obtain ⟨a', xs, ea, hq, hl, it⟩ := Stt.itemO n st
  cases ea
  refine ⟨fun i d ed => ?_, ⟨xs, hq, by rw [enumD_len]; omega⟩⟩
  obtain ⟨y, ey, rfl⟩ := enumD_at ed
  obtain ⟨x, ex⟩ := getElem_of_len hl ey
  refine ⟨⟨xs, x, hq, ex⟩, fun v H' hy => ?_⟩
  obtain ⟨T, x', rfl, hT, rfl, k⟩ := hy
  exact (it i y x' ey (k xs hq)).pairI hT
theorem iters_eT {ds : List D} (n : D.owns ds = false) {a : Addr} : Iters K κ (ItEt K a) [.tup ds] [.ref a] (enumD ds) := fun ρ τ vs σ H st => by
  obtain ⟨a', xs, ea, hq, hl, it⟩ := Stt.itemT n st
  cases ea
  refine ⟨fun i d ed => ?_, ⟨xs, hq, by rw [enumD_len]; omega⟩⟩
  obtain ⟨y, ey, rfl⟩ := enumD_at ed
  obtain ⟨x, ex⟩ := getElem_of_len hl ey
  refine ⟨⟨xs, x, hq, ex⟩, fun v H' hy => ?_⟩
  obtain ⟨T, x', rfl, hT, rfl, k⟩ := hy
  exact (it i y x' ey (k xs hq)).pairI hT
theorem iters_eS {l : List Nat} : Iters K κ (ItEs ⟨l.toArray⟩) [] [] (enumD (l.map fun c => .str [c])) := fun ρ τ vs σ H st => by
  refine ⟨fun i d ed => ?_, by rw [enumD_len]; simp [ItEs]⟩
  obtain ⟨y, ey, rfl⟩ := enumD_at ed
  rw [List.getElem?_map] at ey
  cases hl : l[i]? with
  | none => rw [hl] at ey; cases ey
  | some c =>
    rw [hl] at ey
    cases ey
    refine ⟨by simpa [ItEs] using (List.getElem?_eq_some_iff.mp hl).1, fun v H' hy => ?_⟩
    obtain ⟨T, c', rfl, hT, ec, rfl⟩ := hy
    have e2 : c = c' := by
      have : l[i]? = some c' := by simpa using ec
      rw [hl] at this
      exact Option.some.inj this
    subst e2
    exact (Stt.pushS st [c]).pairI hT
def srcE (f : Cm Tm) : Cm Src := fun ρ => (srcA f ρ).bind fun s ρ1 => .ok { s with ds := enumD s.ds } ρ1
theorem DI.enum (hm : X.mg "enumerate" = none) (h : DE X W q e f) (hg : Gl X "enumerate" := by rfl) (hs : starEach [e] X.env = (false, eval e X.env) :: starEach [] X.env := by rfl) :
    DI X W (.Tuple elts kk tpos) (.Call (.Name "enumerate" p) [e] [] pos) (srcE f) := by
  refine PI.imp (pi_enumA hg hm h hs) fun σ H R ⟨κ, ρ, τ, vs, st, w⟩ => ?_
  refine ⟨κ, ρ, τ, vs, st, Out.wp_mono (Out.wp_bind (Out.wp_bind w)) (fun t ρ1 w1 v H1 st1 k1 => ?_) fun _ _ z => z⟩
  cases t with
  | s j => exact w1.elim
  | v d =>
    try dsimp only at w1
    cases es : srcV d with
    | none => rw [es] at w1; exact w1.elim
    | some s =>
      rw [es] at w1
      unfold srcV at es
      split at es
      · rename_i hf
        have st2 := st1.frzT hf
        split at es
        · rename_i o l hd
          cases es
          rw [hd] at st2
          obtain rfl := frz_lst hd
          obtain ⟨a, xs, ea, hq, hl, _⟩ := Stt.itemL st2
          subst ea
          exact .inl ⟨a, rfl, ⟨xs, hq⟩, w1 _ [.ref a] H1 rfl (fun _ z => nomatch z) st2 iters_eL⟩
        · rename_i l hd
          cases es
          rw [hd] at st2
          have n := frz_owns hf hd
          obtain ⟨a, xs, ea, hq, hl, _⟩ := Stt.itemT n st2
          subst ea
          exact .inr (.inl ⟨a, rfl, ⟨xs, hq⟩, w1 _ [.ref a] H1 rfl (fun _ z => nomatch z) st2 (iters_eT n)⟩)
        · rename_i l hd
          cases es
          rw [hd] at st2
          exact .inr (.inr ⟨_, st2.strV, w1 _ [] H1 rfl (fun _ z => nomatch z) st2.pop iters_eS⟩)
        · cases es
      · cases es
def srcEOut (i : Nat) : Cm Src := fun ρ => (srcOut i ρ).bind fun s ρ1 => .ok { s with ds := enumD s.ds } ρ1
theorem DI.enumOut {i : Nat} (hm : X.mg "enumerate" = none) (h : PE X e (tVar i)) (hg : Gl X "enumerate" := by rfl) (hs : starEach [e] X.env = (false, eval e X.env) :: starEach [] X.env := by rfl) :
    DI X W (.Tuple elts kk tpos) (.Call (.Name "enumerate" p) [e] [] pos) (srcEOut i) := by
  refine PI.imp (pi_enumA hg hm h hs) fun σ H R ⟨κ, ρ, τ, vs, st, w⟩ => ?_
  unfold srcEOut srcOut at w
  split at w
  · rename_i o l hd
    obtain ⟨x, hx⟩ := st.slot (join_some hd)
    split at w
    · rename_i n
      split at w
      · rename_i ho
        subst ho
        have st2 := st.take (join_some hd) hx
        obtain ⟨a, xs, ea, hq, hl, _⟩ := Stt.itemO n st2
        subst ea
        exact ⟨_, hx, .inl ⟨a, rfl, ⟨xs, hq⟩, w _ [.ref a] H rfl (fun j z => by cases z; exact ⟨_, _, rfl, rfl, hx⟩) st2 (iters_eO n)⟩⟩
      · rename_i ho
        have ho' : o = false := by cases o with | true => exact absurd rfl ho | false => rfl
        subst ho'
        have st2 := (st.mark hx).copy (t := .s i) (by exact hd) rfl
        obtain ⟨a, xs, ea, hq, hl, _⟩ := Stt.itemL st2
        subst ea
        exact ⟨_, hx, .inl ⟨a, rfl, ⟨xs, hq⟩, w _ [.ref a] H rfl (fun _ z => nomatch z) st2 iters_eL⟩⟩
    · exact w.elim
  · exact w.elim
end
end Dl

set_option linter.all false
set_option maxRecDepth 100000
namespace Dl
open PySem PySem.Spec PyProof.Rows L2
inductive Sk where
  | L (a : Addr) | T (a : Addr) | S (z : Str)
def Sk.val : Sk → V
  | .L a => .ref a
  | .T a => .ref a
  | .S z => .str z
def Sk.fp (it : Addr) : Sk → List Addr
  | .L a => [it, a]
  | .T a => [it, a]
  | .S _ => [it]
def Sk.st (it : Addr) (u : Tok) : Sk → Nat → Heap → Prop
  | .L a => fun i h => h.IsListIter it a i
  | .T a => fun i h => h.IsTupleIter it a i
  | .S z => fun i h => h.IsStrIter it (strIterType z) z u i
def Sk.ats (K : PySem.W.Frag) : Sk → Hp → List V → Prop
  | .L a => fun H xs => SqL K H a xs
  | .T a => fun H xs => SqT K H a xs
  | .S z => fun _ xs => xs = z.cps.toList.map fun c => V.str ⟨#[c]⟩
def Sk.ap (it : Addr) : Sk → Prop
  | .L a => a ≠ it
  | .T a => a ≠ it
  | .S _ => True
theorem Sk.st_obj {it : Addr} {u : Tok} {k : Sk} {i : Nat} {h : Heap} (st : k.st it u i h) : ∃ o, h.get? it = some o ∧ ∃ fs, o.data = .fields fs := by
  cases k with
  | L a => obtain ⟨o, ho, hc, hd⟩ := st; exact ⟨o, ho, _, hd⟩
  | T a => obtain ⟨o, ho, hc, hd⟩ := st; exact ⟨o, ho, _, hd⟩
  | S z => obtain ⟨o, ho, hc, hd⟩ := st; exact ⟨o, ho, _, hd⟩
theorem Sk.st_at {it : Addr} {u : Tok} {k : Sk} {i : Nat} {h h' : Heap} (st : k.st it u i h) (e : ∀ o, h.get? it = some o → h'.get? it = some o) : k.st it u i h' := by
  cases k with
  | L a => exact Heap.IsListIter.at st e
  | T a => exact Heap.IsTupleIter.at st e
  | S z => obtain ⟨o, ho, r⟩ := st; exact ⟨o, e _ ho, r⟩
theorem Sk.inj {X : Cx} {pins : List (Addr × Obj)} {σ : L2.St} {H : Hp} {s : Shared} {k : Sk} {xs ys : List V} (I : Inv X pins σ H s) (h : k.ats X.K H xs) (g : k.ats X.K H ys) : xs = ys := by
  cases k with
  | L a => exact I.list_inj h g
  | T a => exact I.tuple_inj h g
  | S z => exact h.trans g.symm
theorem Sk.draws {X : Cx} {pins : List (Addr × Obj)} {σ : L2.St} {H : Hp} {s : Shared} {k : Sk} {xs : List V} {it : Addr} {u : Tok} (A : Around) (hh : A.handled = none) (ha : k.ap it) (I : Inv X pins σ H s) (h : k.ats X.K H xs) :
    ∃ (P : Nat → Value → Prop) (St : Nat → Heap → Prop), Draws X.prog X.w A it (k.fp it) xs.length P St ∧ (∀ i, k.st it u i s.heap → St i s.heap) ∧ (∀ i v, P i v → ∃ x, xs[i]? = some x ∧ RelV x v) ∧ ∀ i h', St i h' → k.st it u i h' := by
  cases k with
  | L a =>
    obtain ⟨its, rv, p, hz⟩ := I.list h
    have hl : its.toArray.size = xs.length := by simpa using rv.length.symm
    rw [← hl]
    refine ⟨_, _, Draws.list hh it a ha its.toArray, fun i st => ⟨st, p.isList⟩, fun i v hv => ?_, fun i h' st => st.1⟩
    have hi : i < its.length := by
      have := (Array.getElem?_eq_some_iff.mp hv).1
      simpa using this
    have hx : xs[i]? = some xs[i] := List.getElem?_eq_getElem (by have := rv.length; omega)
    obtain ⟨u', hu, ru⟩ := rv.get hx
    have : v = u' := by
      have h3 : its[i]? = some v := by simpa using hv
      rw [hu] at h3
      exact (Option.some.inj h3).symm
    subst this
    exact ⟨_, hx, ru⟩
  | T a =>
    obtain ⟨its, rv, p, hz⟩ := I.tuple h
    have hl : its.toArray.size = xs.length := by simpa using rv.length.symm
    rw [← hl]
    refine ⟨_, _, Draws.tuple hh it a ha its.toArray, fun i st => ⟨st, p⟩, fun i v hv => ?_, fun i h' st => st.1⟩
    have hi : i < its.length := by
      have := (Array.getElem?_eq_some_iff.mp hv).1
      simpa using this
    have hx : xs[i]? = some xs[i] := List.getElem?_eq_getElem (by have := rv.length; omega)
    obtain ⟨u', hu, ru⟩ := rv.get hx
    have : v = u' := by
      have h3 : its[i]? = some v := by simpa using hv
      rw [hu] at h3
      exact (Option.some.inj h3).symm
    subst this
    exact ⟨_, hx, ru⟩
  | S z =>
    have hx : xs = z.cps.toList.map fun c => V.str ⟨#[c]⟩ := h
    have hl : z.cps.size = xs.length := by rw [hx]; simp
    rw [← hl]
    refine ⟨_, _, Draws.text hh it z u, fun i st => st, fun i v hv => ?_, fun i h' st => st⟩
    obtain ⟨c, t, hc, rfl⟩ := hv
    exact ⟨.str ⟨#[c]⟩, by rw [hx, List.getElem?_map]; simp [hc], ⟨_, rfl⟩⟩

def ItZ (K : PySem.W.Frag) (k1 k2 : Sk) : It :=
  ⟨fun i H => ∃ (xs ys : List V) (x y : V), k1.ats K H xs ∧ k2.ats K H ys ∧ xs[i]? = some x ∧ ys[i]? = some y,
    fun i H v H' => ∃ T x y, v = .ref T ∧ H T = none ∧ H' = upd H T (.tup [x, y]) ∧ (∀ xs, k1.ats K H xs → xs[i]? = some x) ∧ ∀ ys, k2.ats K H ys → ys[i]? = some y,
    fun i H => ∃ xs ys : List V, k1.ats K H xs ∧ k2.ats K H ys ∧ i ≤ xs.length ∧ i ≤ ys.length ∧ (i = xs.length ∨ i = ys.length)⟩
theorem turn_zipK {P : Program} {w : World} {K : PySem.W.Frag} {elts : List Expr} {kk : Nat} {tpos : Pos} {k1 k2 : Sk} {u1 u2 : Tok} {z TI TO i1 i2 : Addr} (S : ZipSep2 z TI TO i1 i2 (k1.fp i1) (k2.fp i2)) (a1 : k1.ap i1) (a2 : k2.ap i2)
    (n1 : i1 ≠ z) (n2 : i2 ≠ z) :
    Turn P w K (.Tuple elts kk tpos) (ItZ K k1 k2) [z, TI, TO, i1, i2] z (fun i h => IsZip h z TI TO .none ∧ IsTupOf2 h TI (.ref i1) (.ref i2) ∧ (∃ x y, IsTupOf2 h TO x y) ∧ k1.st i1 u1 i h ∧ k2.st i2 u2 i h) where
  mem := by simp
  obj := fun i h st c hc => by
    obtain ⟨hz, hTI, ⟨x, y, hTO⟩, s1, s2⟩ := st
    obtain ⟨o1, e1, _, d1⟩ := Sk.st_obj (k := k1) (u := u1) s1
    obtain ⟨o2, e2, _, d2⟩ := Sk.st_obj (k := k2) (u := u2) s2
    have e' : c = z ∨ c = TI ∨ c = TO ∨ c = i1 ∨ c = i2 := by simpa using hc
    rcases e' with q | q | q | q | q
    · rw [q]; exact ⟨_, hz, fun v q => nomatch q⟩
    · rw [q]; exact ⟨_, hTI, fun v q => nomatch q⟩
    · rw [q]; exact ⟨_, hTO, fun v q => nomatch q⟩
    · rw [q]; exact ⟨o1, e1, fun v q => by rw [d1] at q; cases q⟩
    · rw [q]; exact ⟨o2, e2, fun v q => by rw [d2] at q; cases q⟩
  keep := fun i h h' st k => by
    obtain ⟨hz, hTI, ⟨x, y, hTO⟩, h1, h2⟩ := st
    exact ⟨k z (by simp) _ hz, k TI (by simp) _ hTI, ⟨x, y, k TO (by simp) _ hTO⟩, Sk.st_at (k := k1) (u := u1) h1 fun o q => k i1 (by simp) o q, Sk.st_at (k := k2) (u := u2) h2 fun o q => k i2 (by simp) o q⟩
  item := by
    intro X hP hw hK hc i pins s σ H E I hf st hg
    subst hP hw hK
    obtain ⟨hz, hTI, ⟨x0, y0, hTO⟩, h1, h2⟩ := st
    obtain ⟨xs, ys, x, y, hqx, hqy, hx, hy⟩ := hg
    obtain ⟨P1, St1, D1, g1, v1, b1⟩ := Sk.draws (u := u1) X.A.in1 (I.ok.hd hc) a1 I hqx
    obtain ⟨P2, St2, D2, g2, v2, b2⟩ := Sk.draws (u := u2) X.A.in1 (I.ok.hd hc) a2 I hqy
    have hzl : z < s.heap.objs.size := Heap.lt_size hz
    refine wpAny_pyNext_zipD2_item S D1 D2 hz hTI hTO (g1 _ h1) (g2 _ h2) (List.getElem?_eq_some_iff.mp hx).1 (List.getElem?_eq_some_iff.mp hy).1 fun w1 w2 h' tk p1 p2 z' TO' h1' h2' hT hsz hk => ?_
    obtain ⟨x', ex, ru⟩ := v1 _ _ p1
    obtain ⟨y', ey, ru2⟩ := v2 _ _ p2
    rw [hx] at ex
    rw [hy] at ey
    cases ex
    cases ey
    refine ⟨_, rfl, wpAny_letOwnedTupleGo_zip (s := { s with heap := h', toks := tk }) z' fun h'' z'' sb => ?_⟩
    have hT2 : h''.get? s.heap.objs.size = some { cls := .type "tuple", data := .seq #[w1, w2] } := (sb.2 _ (Nat.ne_of_gt hzl)).trans hT
    have new : ObjOk X.prog X.w (upd H s.heap.objs.size (.tup [x, y])) h'' s.heap.objs.size (.tup [x, y]) :=
      ⟨by show 2 ≤ sizeLine; decide, [w1, w2], .cons ru (.cons ru2 .nil), ⟨_, hT2, rfl, _, rfl⟩⟩
    have I1 : Inv X pins σ (upd H s.heap.objs.size (.tup [x, y])) { s with heap := h'', toks := tk } :=
      I.turnedNew (t' := tk) (ch := [z, TI, TO, i1, i2]) (fun c o hb q => (sb.2 c (fun q' => hb (by simp [q']))).trans (hk c o (fun q' => hb (by simp [q'])) (fun q' => hb (by simp [q'])) (fun q' => hb (by simp [q'])) (fun q' => hb (by simp [q'])) q)) hf (Nat.le_refl _) new
    refine ⟨.ref s.heap.objs.size, _, I1, rfl, ⟨_, x, y, rfl, I.hok.fresh (Nat.le_refl _), rfl, fun l hl => by rw [Sk.inj I hl hqx]; exact hx, fun l hl => by rw [Sk.inj I hl hqy]; exact hy⟩, ⟨z'', ?_, ⟨w1, w2, ?_⟩, ?_, ?_⟩, fun c hcm => ?_⟩
    · exact (sb.2 _ S.TIz).trans (hk _ _ S.TIz S.TITO S.TIi1 S.TIi2 hTI)
    · exact (sb.2 _ S.TOz).trans TO'
    · exact Sk.st_at (k := k1) (u := u1) (b1 _ _ h1') fun o q => (sb.2 _ n1).trans q
    · exact Sk.st_at (k := k2) (u := u2) (b2 _ _ h2') fun o q => (sb.2 _ n2).trans q
    · have hlt : c < s.heap.objs.size := by
        obtain ⟨_, e1, _⟩ := Sk.st_obj (k := k1) (u := u1) h1
        obtain ⟨_, e2, _⟩ := Sk.st_obj (k := k2) (u := u2) h2
        have e' : c = z ∨ c = TI ∨ c = TO ∨ c = i1 ∨ c = i2 := by simpa using hcm
        rcases e' with q | q | q | q | q
        · rw [q]; exact hzl
        · rw [q]; exact Heap.lt_size hTI
        · rw [q]; exact Heap.lt_size hTO
        · rw [q]; exact Heap.lt_size e1
        · rw [q]; exact Heap.lt_size e2
      rw [upd_ne (Nat.ne_of_lt hlt)]
      exact (hf c hcm).1
  done := by
    intro X hP hw hK hc i pins s σ H E I hf st hg
    subst hP hw hK
    obtain ⟨hz, hTI, ⟨x0, y0, hTO⟩, h1, h2⟩ := st
    obtain ⟨xs, ys, hqx, hqy, l1, l2, hend⟩ := hg
    obtain ⟨P1, St1, D1, g1, v1, b1⟩ := Sk.draws (u := u1) X.A.in1 (I.ok.hd hc) a1 I hqx
    obtain ⟨P2, St2, D2, g2, v2, b2⟩ := Sk.draws (u := u2) X.A.in1 (I.ok.hd hc) a2 I hqy
    exact wpAny_pyNext_zipD2_end S D1 D2 hz hTI hTO (g1 _ h1) (g2 _ h2) l1 l2 hend fun h' tk hk => ⟨rfl, I.turnedL (t' := tk) (ch := [z, TI, TO, i1, i2]) (fun c o hb q =>
      hk c o (fun q' => hb (by simp [q'])) (fun q' => hb (by simp [q'])) (fun q' => hb (by simp [q'])) (fun q' => hb (by simp [q'])) q) hf⟩
  self := fun A i s Q E st h => wpAny_pyIter_zip st.1 h
theorem Sk.begins {X : Cx} {pins : List (Addr × Obj)} {σ : L2.St} {H : Hp} {s : Shared} {k : Sk} {xs : List V} {v : Value} (I : Inv X pins σ H s) (h : k.ats X.K H xs) (r : RelV k.val v) :
    ∃ (o : Obj) (Hh : Heap → Prop) (u : Tok), Begins v o Hh ∧ Hh s.heap ∧ (∀ (it : Addr) (h' : Heap), h'.get? it = some o → k.st it u 0 h') ∧ ∀ it, s.heap.objs.size ≤ it → k.ap it ∧ ∃ l, k.fp it = it :: l ∧ ∀ b ∈ l, b < s.heap.objs.size := by
  cases k with
  | L a =>
    obtain rfl : v = Value.ref a := r
    obtain ⟨its, rv, p, hz⟩ := I.list h
    refine ⟨_, _, 0, begins_list a its.toArray, p.isList, fun it h' e => ⟨_, e, rfl, rfl⟩, fun it hi => ⟨Nat.ne_of_lt (Nat.lt_of_lt_of_le p.lt hi), [a], rfl, fun b hb => ?_⟩⟩
    have : b = a := by simpa using hb
    rw [this]; exact p.lt
  | T a =>
    obtain rfl : v = Value.ref a := r
    obtain ⟨its, rv, p, hz⟩ := I.tuple h
    have p2 : s.heap.IsTuple a its.toArray := p
    have la : a < s.heap.objs.size := by obtain ⟨o, ho, _⟩ := p2; exact Heap.lt_size ho
    refine ⟨_, _, 0, begins_tuple a its.toArray, p2, fun it h' e => ⟨_, e, rfl, rfl⟩, fun it hi => ⟨Nat.ne_of_lt (Nat.lt_of_lt_of_le la hi), [a], rfl, fun b hb => ?_⟩⟩
    have : b = a := by simpa using hb
    rw [this]; exact la
  | S z =>
    obtain ⟨t, rfl⟩ := r
    exact ⟨_, _, t, begins_text z t, trivial, fun it h' e => ⟨_, e, rfl, rfl⟩, fun it hi => ⟨trivial, [], rfl, fun b hb => nomatch hb⟩⟩
def iZipK (K : PySem.W.Frag) (ta : TA) : TI := fun σ H R => ta σ H fun vs H1 => ∃ k1 k2 xs ys, vs = [Sk.val k1, Sk.val k2] ∧ k1.ats K H1 xs ∧ k2.ats K H1 ys ∧ R (ItZ K k1 k2) H1
theorem pi_zipK {X : Cx} {e e2 : Expr} {ta : TA} {p pos tpos : Pos} {elts : List Expr} {kk : Nat} (hg : Gl X "zip") (hm : X.mg "zip" = none) (ha : PA X [e, e2] ta)
    (hs : starEach [e, e2] X.env = (false, eval e X.env) :: starEach [e2] X.env := by rfl) (hpl : (backTo pos (starEach [e2] X.env)).any (·.1) = false := by rfl) :
    PI X (.Tuple elts kk tpos) (.Call (.Name "zip" p) [e, e2] [] pos) (iZipK X.K ta) := by
  refine ⟨fun pins s σ H R I h => ?_⟩
  refine Call_ (ld_blt I hg hm PyProof.Rows.boot_zip (PyProof.Rows.callWith_type1 (thn (ha.run pos pins s σ H _ I h) fun us s1 ⟨vs, H1, I1, r1, q1⟩ => ?_) hs hpl))
  obtain ⟨k1, k2, xs, ys, ex, hqx, hqy, q⟩ := q1
  subst ex
  cases r1 with
  | cons r rr =>
    cases rr with
    | cons r' rr =>
      cases rr
      obtain ⟨o1, Hh1, u1, B1, b1, it1, f1⟩ := Sk.begins I1 hqx r
      obtain ⟨o2, Hh2, u2, B2, b2, it2, f2⟩ := Sk.begins I1 hqy r'
      refine zip_begins2 B1 B2 b1 b2 fun h' hz hTI hTO h1 h2 hsz hk => wpAny_pyIter_zip hz ?_
      have I2 : Inv X pins σ H1 { s1 with heap := h' } := I1.kept (t' := s1.toks) hk
      obtain ⟨a1, l1, e1, m1⟩ := f1 s1.heap.objs.size (Nat.le_refl _)
      obtain ⟨a2, l2, e2, m2⟩ := f2 (s1.heap.objs.size + 1) (Nat.le_add_right _ _)
      have S : ZipSep2 (s1.heap.objs.size + 4) (s1.heap.objs.size + 2) (s1.heap.objs.size + 3) s1.heap.objs.size (s1.heap.objs.size + 1) (k1.fp s1.heap.objs.size) (k2.fp (s1.heap.objs.size + 1)) := by
        rw [e1, e2]
        exact zip_sep2 m1 m2
      have fresh5 : ∀ c, c ∈ [s1.heap.objs.size + 4, s1.heap.objs.size + 2, s1.heap.objs.size + 3, s1.heap.objs.size, s1.heap.objs.size + 1] → FpOk X pins H1 c := fun c hcm => by
        have e' : c = s1.heap.objs.size + 4 ∨ c = s1.heap.objs.size + 2 ∨ c = s1.heap.objs.size + 3 ∨ c = s1.heap.objs.size ∨ c = s1.heap.objs.size + 1 := by simpa using hcm
        have hle : s1.heap.objs.size ≤ c := by
          rcases e' with z | z | z | z | z
          · rw [z]; exact Nat.le_add_right _ _
          · rw [z]; exact Nat.le_add_right _ _
          · rw [z]; exact Nat.le_add_right _ _
          · rw [z]; exact Nat.le_refl _
          · rw [z]; exact Nat.le_add_right _ _
        exact I1.fpOk hle (I1.hok.fresh hle)
      exact ⟨s1.heap.objs.size + 4, [s1.heap.objs.size + 4, s1.heap.objs.size + 2, s1.heap.objs.size + 3, s1.heap.objs.size, s1.heap.objs.size + 1], _, _, H1, rfl, I2,
        turn_zipK (u1 := u1) (u2 := u2) S a1 a2 (Nat.ne_of_lt (Nat.lt_add_of_pos_right (by decide))) (Nat.ne_of_lt (Nat.add_lt_add_left (by decide) _)), ⟨hz, hTI, ⟨_, _, hTO⟩, it1 _ _ h1, it2 _ _ h2⟩, fresh5, q⟩
end Dl

set_option linter.all false
set_option maxRecDepth 100000
namespace Dl
open PySem PySem.Spec PyProof.Rows L2
section
variable {X : Cx} {W : WX} {q : Bool} {e e2 : Expr} {f : Cm Tm} {fs : Cm (List Tm)} {p pos tpos : Pos} {elts : List Expr} {kk : Nat} {K : PySem.W.Frag} {κ : Fr} {H Z : Hp}
def zs : D → Option (List D)
  | .lst _ l => some l
  | .tup l => some l
  | .str l => some (l.map fun c => .str [c])
  | _ => none
def zk (e : D) (v : V) : Sk := match e, v with
  | .lst _ _, .ref a => .L a
  | .tup _, .ref a => .T a
  | .str l, _ => .S ⟨l.toArray⟩
  | _, _ => .S ⟨#[]⟩
theorem O.zk {e : D} {v : V} {A : List Addr} {l : List D} (o : O K H Z e v A) (h : zs e = some l) (n : e.own = false) (zz : Same Z H) :
    (zk e v).val = v ∧ ∃ xs, (Dl.zk e v).ats K H xs ∧ xs.length = l.length ∧ ∀ (i : Nat) (d : D) (x : V), l[i]? = some d → xs[i]? = some x → O K H Z d x [] := by
  cases o with
  | non => cases h
  | bl => cases h
  | int => cases h
  | cst => cases h
  | hol => cases h
  | exv => cases h
  | scr => cases h
  | dsh => cases h
  | dic => cases h
  | ins => cases h
  | lst h1 h2 h3 => cases n
  | str s =>
    cases h
    refine ⟨rfl, _, rfl, by simp, fun i d x ed ex => ?_⟩
    rw [List.getElem?_map] at ed ex
    simp only [List.toList_toArray] at ex
    cases hc : s[i]? with
    | none => rw [hc] at ed; cases ed
    | some c =>
      rw [hc] at ed ex
      cases ed
      cases ex
      exact .str [c]
  | tup h3 h4 =>
    cases h
    have e0 := h4.noown n
    subst e0
    refine ⟨rfl, _, sqT_keep zz h3, h4.length, fun i d x ed ex => ?_⟩
    obtain ⟨y, C, ey, o, sub⟩ := h4.at ed
    rw [ex] at ey
    cases ey
    have eC : C = [] := List.eq_nil_iff_forall_not_mem.mpr fun a ha => nomatch sub a ha
    subst eC
    exact o
  | shr h3 h4 =>
    cases h
    refine ⟨rfl, _, SqL.of (zz _ _ h3), h4.length, fun i d x ed ex => ?_⟩
    obtain ⟨y, C, ey, o, sub⟩ := h4.at ed
    rw [ex] at ey
    cases ey
    have eC : C = [] := List.eq_nil_iff_forall_not_mem.mpr fun a ha => nomatch sub a ha
    subst eC
    exact o
def zipD (l m : List D) : List D := List.zipWith (fun x y => .tup [x, y]) l m
theorem zipD_at {l m : List D} {i : Nat} {d : D} (e : (zipD l m)[i]? = some d) : ∃ x y, l[i]? = some x ∧ m[i]? = some y ∧ d = .tup [x, y] := by
  unfold zipD at e
  rw [List.getElem?_zipWith] at e
  cases h1 : l[i]? with
  | none => rw [h1] at e; cases e
  | some x =>
    cases h2 : m[i]? with
    | none => rw [h1, h2] at e; cases e
    | some y =>
      rw [h1, h2] at e
      exact ⟨x, y, rfl, rfl, (Option.some.inj e).symm⟩
theorem iters_zip {e1 e2 : D} {v1 v2 : V} {l1 l2 : List D} (h1 : zs e1 = some l1) (h2 : zs e2 = some l2) (n1 : e1.own = false) (n2 : e2.own = false) :
    Iters K κ (ItZ K (zk e1 v1) (zk e2 v2)) [e1, e2] [v1, v2] (zipD l1 l2) := fun ρ τ vs σ H st => by
  obtain ⟨Z, A, B, c, t, g⟩ := st
  cases t with
  | v o1 t =>
    cases t with
    | v o2 t =>
      obtain ⟨_, xs, q1, m1, k1⟩ := O.zk o1 h1 n1 g.zh
      obtain ⟨_, ys, q2, m2, k2⟩ := O.zk o2 h2 n2 g.zh
      refine ⟨fun i d ed => ?_, ⟨xs, ys, q1, q2, ?_⟩⟩
      · obtain ⟨x, y, ex, ey, rfl⟩ := zipD_at ed
        obtain ⟨vx, evx⟩ := getElem_of_len m1 ex
        obtain ⟨vy, evy⟩ := getElem_of_len m2 ey
        refine ⟨⟨xs, ys, vx, vy, q1, q2, evx, evy⟩, fun v H' hy => ?_⟩
        obtain ⟨T, x', y', rfl, hT, rfl, w1, w2⟩ := hy
        have st2 : Stt K κ ρ (tms [x, y] ++ (tms [e1, e2] ++ τ)) ([x', y'] ++ ([v1, v2] ++ vs)) σ H :=
          ⟨Z, A, [] ++ ([] ++ _), c, .v (k1 i x x' ex (w1 xs q1)) (.v (k2 i y y' ey (w2 ys q2)) (.v o1 (.v o2 t))), g⟩
        exact Stt.tup st2 rfl hT
      · have : (zipD l1 l2).length = min l1.length l2.length := by simp [zipD]
        rw [this]
        refine ⟨by omega, by omega, by omega⟩
def srcZ (fs : Cm (List Tm)) : Cm Src := fun ρ => (fs ρ).bind fun ts ρ1 => match ts with
  | [.v d1, .v d2] => if d1.fz && d2.fz then match zs d1.frz, zs d2.frz with
    | some l1, some l2 => .ok ⟨[d1.frz, d2.frz], zipD l1 l2, none⟩ ρ1
    | _, _ => .bad else .bad
  | _ => .bad
theorem DI.zip (hm : X.mg "zip" = none) (ha : DA X W q [e, e2] fs) (hg : Gl X "zip" := by rfl)
    (hs : starEach [e, e2] X.env = (false, eval e X.env) :: starEach [e2] X.env := by rfl) (hpl : (backTo pos (starEach [e2] X.env)).any (·.1) = false := by rfl) :
    DI X W (.Tuple elts kk tpos) (.Call (.Name "zip" p) [e, e2] [] pos) (srcZ fs) := by
  refine PI.imp (pi_zipK hg hm ha hs hpl) fun σ H R ⟨κ, ρ, τ, vs, st, w⟩ => ?_
  refine ⟨κ, ρ, τ, vs, st, Out.wp_mono (Out.wp_bind w) (fun ts ρ1 w1 xs H1 hl st1 k1 => ?_) fun _ _ z => z⟩
  try dsimp only at w1
  split at w1
  · rename_i d1 d2
    split at w1
    · rename_i hf
      have hf1 : d1.fz = true := by simp at hf; exact hf.1
      have hf2 : d2.fz = true := by simp at hf; exact hf.2
      split at w1
      · rename_i l1 l2 z1 z2
        match xs, hl with
        | [v1, v2], _ =>
          have st2 : Stt X.K κ ρ1 (.v d1.frz :: .v d2 :: τ) (v1 :: v2 :: vs) σ H1 := Stt.frzT st1 hf1
          have st3 : Stt X.K κ ρ1 (.v d2 :: .v d1.frz :: τ) (v2 :: v1 :: vs) σ H1 := Stt.turn (τ1 := [.v d1.frz]) (τ2 := [.v d2]) (v1 := [v1]) (v2 := [v2]) rfl rfl st2
          have st4 := Stt.turn (τ1 := [.v d2.frz]) (τ2 := [.v d1.frz]) (v1 := [v2]) (v2 := [v1]) rfl rfl (Stt.frzT st3 hf2)
          have n1 := D.own_frz d1 hf1
          have n2 := D.own_frz d2 hf2
          have st5 := st4
          obtain ⟨Z, A, B, c, t, g⟩ := st5
          cases t with
          | v o1 t =>
            cases t with
            | v o2 t =>
              obtain ⟨b1, ys, q1, _⟩ := O.zk o1 z1 n1 g.zh
              obtain ⟨b2, zs', q2, _⟩ := O.zk o2 z2 n2 g.zh
              exact ⟨zk d1.frz v1, zk d2.frz v2, ys, zs', by rw [b1, b2], q1, q2, w1 _ [v1, v2] H1 rfl (fun _ z => nomatch z) st4 (iters_zip z1 z2 n1 n2)⟩
      · exact w1.elim
    · exact w1.elim
  · exact w1.elim
end
end Dl

set_option linter.all false
set_option maxRecDepth 100000
namespace Dl
open PySem PySem.Spec PyProof.Rows L2
section
variable {X : Cx} {W : WX} {q : Bool} {pos : Pos}
theorem DE.tyN {x : Str} {n : String} (hm : X.mg x = none) (hv : bootBuiltins x = some (.type n)) (hg : Gl X x := by rfl) (hn : x ≠ "__name__" := by decide) (hd : (x == ("__debug__" : Str)) = false := by decide) :
    DE X W true (.Name x pos) (eC (.hol (.ty n))) := DE.const (pe_bltn (v := .ty n) hg hm hv rfl hn hd) fun _ _ => .hol _
def tyName : D → Option String
  | .non => some "NoneType"
  | .bl _ => some "bool"
  | .int _ => some "int"
  | .str _ => some "str"
  | .tup _ => some "tuple"
  | .lst _ _ => some "list"
  | .dic _ _ _ => some "dict"
  | _ => none
theorem O.tyX {K : PySem.W.Frag} {H Z : Hp} {d : D} {v : V} {A : List Addr} {t : String} (o : O K H Z d v A) (h : tyName d = some t) (zz : Same Z H) : TyX K H v (.type t) := by
  cases o with
  | non => cases h; exact .base .non
  | bl b => cases h; exact .base (.bl b)
  | int i => cases h; exact .base (.int i)
  | str l => cases h; exact .base (.str _)
  | cst => cases h
  | hol => cases h
  | exv => cases h
  | scr => cases h
  | ins => cases h
  | tup h1 h2 =>
    cases h
    rcases sqT_keep zz h1 with (g | ⟨ob, g⟩) | ⟨ob, its, n, g, c, _⟩
    · exact .base (.tup g)
    · exact .fTuple g
    · exact .kTuple g c
  | shr h1 h2 => cases h; exact .base (.lst (zz _ _ h1))
  | lst h1 _ h2 => cases h; exact .base (.lst h1)
  | dsh h1 h2 =>
    cases h
    obtain ⟨kvs, g, _⟩ := h1
    exact .base (.dK (zz _ _ g))
  | dic h1 _ h2 =>
    cases h
    obtain ⟨kvs, g, _⟩ := h1
    exact .base (.dK g)
def isiD : List D → Option D
  | [d, .hol (.ty T)] => (tyName d).bind fun t => (kitB t T).map .bl
  | _ => none
theorem ca_isi {K : PySem.W.Frag} : CaD K (rIsi K) isiD := by
  intro κ ρ τ vs σ H Z A B ds xs c Q cc tt gg ow zz e k
  unfold isiD at e
  split at e
  · rename_i d T
    cases ht : tyName d with
    | none => rw [ht] at e; cases e
    | some t =>
      rw [ht] at e
      cases hb : kitB t T with
      | none => simp [hb] at e
      | some b =>
        simp [hb] at e
        subst e
        cases ow with
        | cons o1 o2 =>
          cases o2 with
          | cons o2 o3 =>
            cases o3
            cases o2
            exact ⟨_, _, _, _, b, rfl, .ty T, o1.tyX ht zz, kit_ty hb, k _ H (.mk cc tt gg (.bl _)) (Same.refl H)⟩
  · cases e
end
theorem kitB_ss : kitB "str" "str" = some true := by decide +kernel
theorem kitB_ts : kitB "tuple" "str" = some false := by decide +kernel
theorem kitB_ib : kitB "int" "bool" = some false := by decide +kernel
theorem kitB_bi : kitB "bool" "int" = some true := by decide +kernel
end Dl

set_option linter.all false
set_option maxRecDepth 100000
namespace Dl
open PySem PySem.Spec PyProof.Rows L2
section
variable {K : PySem.W.Frag}
abbrev rSplit : V → List V → Hp → VK → Prop := fun x xs H Q => ∃ a b : Str, x = .str a ∧ xs = [.str b] ∧ (b.length == 0) = false ∧ a.length + 2 ≤ sizeLine ∧ rNewStrs (Txt.split a b) H Q
def splitD : List D → Option D
  | [.str a, .str b] => if b ≠ [] ∧ b.all (· < 256) = true ∧ a.length + 2 ≤ sizeLine then some (.lst true ((TL.spl b 0 [] a).map .str)) else none
  | _ => none
theorem ca_split : CaD K (rMe rSplit) splitD := by
  intro κ ρ τ vs σ H Z A B ds xs c Q cc tt gg ow zz e k
  unfold splitD at e
  split at e
  · rename_i a b
    split at e
    · rename_i h
      obtain ⟨hb, hk, hz⟩ := h
      cases e
      cases ow with
      | cons o1 o2 =>
        cases o2 with
        | cons o2 o3 =>
          cases o3
          have e1 := o1.strV
          have e2 := o2.strV
          subst e1 e2
          refine ⟨_, _, rfl, ⟨a.toArray⟩, ⟨b.toArray⟩, rfl, rfl, ?_, by rw [str_len]; exact hz, fun p hp => ?_⟩
          · rw [str_len]
            cases b with
            | nil => exact absurd rfl hb
            | cons x l => rfl
          · have es : Txt.split ⟨a.toArray⟩ ⟨b.toArray⟩ = (TL.spl b 0 [] a).map SX.S := SX.split_S hb hk
            rw [es]
            refine k _ _ (.mkLst cc tt gg ?_ hp) (Same_new hp)
            generalize TL.spl b 0 [] a = ls
            clear es
            induction ls with
            | nil => exact .nil
            | cons x ls ih => exact .cons (A := []) (B := []) (.str x) ih
    · cases e
  · cases e
abbrev rStarts : V → List V → Hp → VK → Prop := fun x xs H Q => ∃ a b : Str, x = .str a ∧ xs = [.str b] ∧ Q (.bl (Txt.startswith a b)) H
def startsD : List D → Option D
  | [.str a, .str b] => some (.bl (Txt.startswith ⟨a.toArray⟩ ⟨b.toArray⟩))
  | _ => none
theorem ca_starts : CaD K (rMe rStarts) startsD := by
  intro κ ρ τ vs σ H Z A B ds xs c Q cc tt gg ow zz e k
  unfold startsD at e
  split at e
  · rename_i a b
    cases e
    cases ow with
    | cons o1 o2 =>
      cases o2 with
      | cons o2 o3 =>
        cases o3
        have e1 := o1.strV
        have e2 := o2.strV
        subst e1 e2
        exact ⟨_, _, rfl, _, _, rfl, rfl, k _ H (.mk cc tt gg (.bl _)) (Same.refl H)⟩
  · cases e
abbrev rCount : V → List V → Hp → VK → Prop := fun x xs H Q => ∃ a b : Str, x = .str a ∧ xs = [.str b] ∧ Q (.int (Txt.count a b)) H
def countD : List D → Option D
  | [.str a, .str b] => some (.int (Txt.count ⟨a.toArray⟩ ⟨b.toArray⟩))
  | _ => none
theorem ca_count : CaD K (rMe rCount) countD := by
  intro κ ρ τ vs σ H Z A B ds xs c Q cc tt gg ow zz e k
  unfold countD at e
  split at e
  · rename_i a b
    cases e
    cases ow with
    | cons o1 o2 =>
      cases o2 with
      | cons o2 o3 =>
        cases o3
        have e1 := o1.strV
        have e2 := o2.strV
        subst e1 e2
        exact ⟨_, _, rfl, _, _, rfl, rfl, k _ H (.mk cc tt gg (.int _)) (Same.refl H)⟩
  · cases e
end
end Dl

set_option linter.all false
set_option maxRecDepth 100000
namespace Dl
open PySem PySem.Spec PyProof.Rows L2
def listRD : List D → Option D
  | [.scr l] => some (.lst true (l.map .int))
  | _ => none
theorem ca_listR {K : PySem.W.Frag} : CaD K (fun xs H Q => ∃ p ys, xs = [.ref p] ∧ (SqL K H p ys ∨ SqT K H p ys) ∧ ∀ l, H l = none → Q (.ref l) (upd H l (.lst ys))) listRD := by
  intro κ ρ τ vs σ H Z A B ds xs c Q cc tt gg ow zz e k
  unfold listRD at e
  split at e
  · rename_i l
    cases e
    cases ow with
    | cons o1 o2 =>
      cases o2
      cases o1 with
      | scr h =>
        refine ⟨_, _, rfl, .inl (zz.seq h), fun r hr => k _ _ (.mkLst cc tt gg ?_ hr) (Same_new hr)⟩
        clear h k
        induction l with
        | nil => exact .nil
        | cons x l ih => exact .cons (A := []) (B := []) (.int x) ih
  · cases e
end Dl

set_option linter.all false
set_option maxRecDepth 100000
namespace Dl
open PySem PySem.Spec PyProof.Rows L2
section
variable {X : Cx} {W : WX} {q1 q2 : Bool} {a b : Expr} {f g : Cm Tm} {pos : Pos}
def rInTD (K : PySem.W.Frag) : R2 := fun x y H Q => ∃ d ds, Dp K H x d ∧ Dp K H y (.tuple ds) ∧ SeqAt.shaped d = true ∧ SeqAt.shaped (.tuple ds) = true ∧ Q (.bl (ds.any fun z => PyData.eqv z d)) H
def rNotInTD (K : PySem.W.Frag) : R2 := fun x y H Q => ∃ d ds, Dp K H x d ∧ Dp K H y (.tuple ds) ∧ SeqAt.shaped d = true ∧ SeqAt.shaped (.tuple ds) = true ∧ Q (.bl (!ds.any fun z => PyData.eqv z d)) H
theorem op_inTD (hu : X.A.units + 65 < cLine) : OpR X (compareOp .In) (rInTD X.K) := by
  intro pins s σ H x y v u Q I rx ry h
  obtain ⟨d, ds, hd, he, sd, se, q⟩ := h
  obtain ⟨as, r1⟩ := Dp.reads I d x v hd rx
  obtain ⟨bs, r2⟩ := Dp.reads I (.tuple ds) y u he ry
  exact SeqAt.in_tuple_reads r2 r1 (SeqAt.canLay_of_shaped se) (SeqAt.canLay_of_shaped sd) (room_in_shaped sd hu) ⟨.bl _, H, I, rfl, q⟩
theorem op_notInTD (hu : X.A.units + 65 < cLine) : OpR X (compareOp .NotIn) (rNotInTD X.K) := by
  intro pins s σ H x y v u Q I rx ry h
  obtain ⟨d, ds, hd, he, sd, se, q⟩ := h
  obtain ⟨as, r1⟩ := Dp.reads I d x v hd rx
  obtain ⟨bs, r2⟩ := Dp.reads I (.tuple ds) y u he ry
  exact SeqAt.notIn_tuple_reads r2 r1 (SeqAt.canLay_of_shaped se) (SeqAt.canLay_of_shaped sd) (room_in_shaped sd hu) ⟨.bl _, H, I, rfl, q⟩
def inTD (n : Bool) : D → D → Option D
  | d, .tup l => if deepOk d (.tup l) then some (.bl ((l.any fun z => eqD z d) ^^ n)) else none
  | _, _ => none
theorem op2_inTD {K : PySem.W.Frag} : Op2 K true (rInTD K) (inTD false) := op2_pure fun Z C1 C2 σ H va vb a b c Q zz o1 o2 e k => by
  unfold inTD at e
  split at e
  · rename_i l
    split at e
    · rename_i hd
      cases e
      have sl : SeqAt.shaped (PyData.tuple (D.Ps l)) = true := shaped_P (d := .tup l) hd.2.1 hd.2.2.2
      have dl : Dp K H vb (.tuple (D.Ps l)) := o2.dp zz hd.2.1
      refine ⟨a.P, D.Ps l, o1.dp zz hd.1, dl, shaped_P hd.1 hd.2.2.1, sl, ?_⟩
      rw [any_Ps]
      exact k H (Same.refl H) _ (fun Z => by simpa using O.bl (l.any fun z => eqD z a)) rfl
    · cases e
  · cases e
theorem op2_notInTD {K : PySem.W.Frag} : Op2 K true (rNotInTD K) (inTD true) := op2_pure fun Z C1 C2 σ H va vb a b c Q zz o1 o2 e k => by
  unfold inTD at e
  split at e
  · rename_i l
    split at e
    · rename_i hd
      cases e
      have sl : SeqAt.shaped (PyData.tuple (D.Ps l)) = true := shaped_P (d := .tup l) hd.2.1 hd.2.2.2
      have dl : Dp K H vb (.tuple (D.Ps l)) := o2.dp zz hd.2.1
      refine ⟨a.P, D.Ps l, o1.dp zz hd.1, dl, shaped_P hd.1 hd.2.2.1, sl, ?_⟩
      rw [any_Ps]
      exact k H (Same.refl H) _ (fun Z => by simpa using O.bl (!l.any fun z => eqD z a)) rfl
    · cases e
  · cases e
theorem DE.isinT (hu : X.A.units + 65 < cLine) (ha : DE X W q1 a f) (hb : DE X W q2 b g) (hm : behindInMarks .In b = false := by rfl) : DE X W (q1 && q2) (.Compare a [.In] [b] pos) (e2 (inTD false) f g) := DE.cmp (op_inTD hu) op2_inTD ha hb hm
theorem DE.notinT (hu : X.A.units + 65 < cLine) (ha : DE X W q1 a f) (hb : DE X W q2 b g) (hm : behindInMarks .NotIn b = false := by rfl) : DE X W (q1 && q2) (.Compare a [.NotIn] [b] pos) (e2 (inTD true) f g) := DE.cmp (op_notInTD hu) op2_notInTD ha hb hm
theorem DT.isinT (hu : X.A.units + 65 < cLine) (ha : DE X W q1 a f) (hb : DE X W q2 b g) (hm : behindInMarks .In b = false := by rfl) : DT X W (.Compare a [.In] [b] pos) (toB (e2 (inTD false) f g)) := DT.cmp (op_inTD hu) op2_inTD ha hb hm
theorem DT.notinT (hu : X.A.units + 65 < cLine) (ha : DE X W q1 a f) (hb : DE X W q2 b g) (hm : behindInMarks .NotIn b = false := by rfl) : DT X W (.Compare a [.NotIn] [b] pos) (toB (e2 (inTD true) f g)) := DT.cmp (op_notInTD hu) op2_notInTD ha hb hm
end
end Dl

set_option linter.all false
set_option maxRecDepth 100000
namespace Dl
open PySem PySem.Spec PyProof.Rows L2
section
variable {X : Cx} {W : WX} {q1 q2 : Bool} {e : Expr} {es : List Expr} {T id : String} {name : Str} {r : V → List V → Hp → VK → Prop} {gg : List D → Option D} {g : Cm Tm} {fs : Cm (List Tm)}
theorem me_imp {K : PySem.W.Frag} (hr : CaD K (rMe r) gg) {σ : L2.St} {H : Hp} {Q : VK} (h : tD K W (q1 && q2) (eMe T gg g fs) σ H Q) : tBM K T r (tD K W q1 g) (tDA K W q2 fs) σ H Q := by
  obtain ⟨κ, ρ, τ, vs, st, w⟩ := h
  refine ⟨κ, ρ, τ, vs, st, Out.wp_mono (Out.wp_bind w) (fun t ρ1 w1 v H1 st1 k1 => ?_) fun _ _ z => z⟩
  try dsimp only at w1
  split at w1
  · rename_i d0 hd0
    split at w1
    · rename_i ht
      obtain ⟨Z, A, B, C, cc, tt, gg', o, zz⟩ := st1.opn hd0
      refine ⟨tyD_ok zz o ht, κ, ρ1, t :: τ, v :: vs, st1, Out.wp_mono (Out.wp_bind w1) (fun ts ρ2 w2 xs H2 hl st2 k2 => ?_) fun e ρ2 z H2 d s2 eo => z H2 d s2.pop eo⟩
      exact me_rest (W := W) (ρ0 := ρ) hr st2 hl w2 fun c w3 u H' s' sm => w3 u H' s' fun hq => by
        rw [Bool.and_eq_true] at hq
        exact ⟨(k2 hq.2).1.trans (k1 hq.1).1, ((k1 hq.1).2.trans (k2 hq.2).2).trans sm⟩
    · exact w1.elim
  · exact w1.elim
def PE1 (X : Cx) (e : Expr) (t : TE) : Prop :=
  ∀ (pins : List (Addr × Obj)) (s : Shared) (σ : L2.St) (H : Hp) (Q : VK), Inv X pins σ H s → t σ H Q → wpAny (model X.prog X.w) X.A (eval e X.env) (fun v s' => 1 ≤ s'.toks ∧ EP X pins σ Q v s') X.xe s
theorem pe1_bm {z0 : Str} {j : Nat} {c0 apos cpos : Pos} {to : TE} {t : TA} (pa : PlainAttrs T) (slot : Slot T name id) (hty : typeOf (.builtin id) = pure (.type "method_descriptor")) (hm : MtR X id r) (ho : ∀ σ H Q, to σ H Q → Q (.str z0) H) (ha : PA X (e :: es) t)
    (hbase : attributeBase (.Constant (.str z0) j c0) name X.env (eval (.Constant (.str z0) j c0) X.env) = eval (.Constant (.str z0) j c0) X.env := by rfl)
    (hfew : ((backTo cpos (starEach (e :: es) X.env)).all (fun x => !x.1) && (backToKw cpos (keywordEach [] X.env)).all (fun x => x.1.isSome)
      && decide ((e :: es).length + ([] : List Keyword).length + (if ([] : List Keyword).isEmpty then 0 else 1) < 30)) = true := by rfl)
    (hline : (apos.endLine == cpos.line) = true := by rfl) (hs : starEach (e :: es) X.env = (false, eval e X.env) :: starEach es X.env := by rfl) (hplain : (backTo cpos (starEach es X.env)).any (·.1) = false := by rfl) :
    PE1 X (.Call (.Attribute (.Constant (.str z0) j c0) name apos) (e :: es) [] cpos) (tBM X.K T r to t) := by
  intro pins s σ H Q I h
  refine wpAny_Call_method_late hbase hfew hline rfl (Calls.Constant_str ?_)
  obtain ⟨ty, q1⟩ := ho σ H _ h
  have I1 : Inv X pins σ H { s with toks := s.toks + 1 } := I.tok _
  have r1 : RelV (.str z0) (.str z0 s.toks) := ⟨_, rfl⟩
  obtain ⟨h1, h2⟩ := tyV_is I1 r1 ty
  refine ⟨T, id, pa, slot, hty, h1, h2, ?_⟩
  have hA := ha.run cpos pins _ σ H _ I1 q1
  rw [hs] at hA ⊢
  refine wpAny_mono (PySem.wpAny_toks_of (n := 1) (Nat.le_add_left 1 s.toks) (Calls.callWith_builtin (by show (false || (backTo cpos (starEach es X.env)).any (·.1)) = false; rw [hplain] <;> rfl) (Calls.evalArgs_plain
    (thn hA fun us s2 ⟨vs, H2, I2, r2, q2⟩ => hm pins s2 σ H2 (.str z0) vs _ us Q I2 r1 r2 q2)))) (fun v s2 q => q) fun _ _ z => z.2
def eRepl (y z : List Nat) (g : Cm Tm) : Cm Tm := fun ρ => (g ρ).bind fun t ρ1 => match t with
  | .v (.str a) => if a.length + (a.length + 1) * z.length ≤ 16777216 then .ok (.v (.str (PySem.StrLaws.replL y z a))) ρ1 else .bad
  | _ => .bad
theorem pe_replT {o : Expr} {t : TE} {y z : Str} {j k : Nat} {c0 c1 apos pos : Pos} (ho : PE1 X o t) (hyz : (y == z) = false)
    (hst : starEach [.Constant (.str y) j c0, .Constant (.str z) k c1] X.env = [(false, eval (.Constant (.str y) j c0) X.env), (false, eval (.Constant (.str z) k c1) X.env)] := by rfl)
    (hbase : attributeBase o "replace" X.env (eval o X.env) = eval o X.env := by rfl) (hline : (apos.endLine == pos.line) = true := by rfl) :
    PE X (.Call (.Attribute o "replace" apos) [.Constant (.str y) j c0, .Constant (.str z) k c1] [] pos) (CwR.tReplC t y z) := by
  refine ⟨fun pins s σ H Q I h => ?_⟩
  refine PySem.Call_method2 hbase hst hline (wpAny_mono (ho pins s σ H _ I h) (fun v s1 q => ?_) fun _ _ z => z)
  obtain ⟨hk, v', H1, I1, r1, x, e1, hb, q⟩ := q
  subst e1
  obtain ⟨tx, e2⟩ := r1
  subst e2
  refine ⟨"str", _, PySem.F.plainAttrs_str, PySem.F.slot_str_replace, PySem.F.type_str_replace, typeIs_str _ _ _, (fun _ e => nomatch e), Calls.callWith_builtin rfl (Calls.evalArgs_plain (Calls.spliced_cons ?_))⟩
  refine Calls.Constant_str (Calls.spliced_cons (Calls.Constant_str (Calls.spliced_nil ?_)))
  exact PySem.SC.replace (by show s1.toks ≠ 0; omega) (by show s1.toks + 1 ≠ 0; omega) (by show s1.toks ≠ s1.toks + 1; omega) hyz hb fun t' k => ⟨.str (Txt.replace x y z), H1, I1.tok k, ⟨t', rfl⟩, q⟩
theorem DE.replJ {z0 y z : Str} {l0 ly lz : List Nat} {j j1 j2 : Nat} {c0 c1 c2 apos cpos apos2 pos : Pos} (e0 : z0 = ⟨l0.toArray⟩) (ey : y = ⟨ly.toArray⟩) (ez : z = ⟨lz.toArray⟩) (hyz : (y == z) = false) (hy : 1 ≤ ly.length) (ha : DA X W q2 (e :: es) fs)
    (hbase : attributeBase (.Constant (.str z0) j c0) "join" X.env (eval (.Constant (.str z0) j c0) X.env) = eval (.Constant (.str z0) j c0) X.env := by rfl)
    (hfew : ((backTo cpos (starEach (e :: es) X.env)).all (fun x => !x.1) && (backToKw cpos (keywordEach [] X.env)).all (fun x => x.1.isSome)
      && decide ((e :: es).length + ([] : List Keyword).length + (if ([] : List Keyword).isEmpty then 0 else 1) < 30)) = true := by rfl)
    (hline : (apos.endLine == cpos.line) = true := by rfl) (hs : starEach (e :: es) X.env = (false, eval e X.env) :: starEach es X.env := by rfl) (hplain : (backTo cpos (starEach es X.env)).any (·.1) = false := by rfl)
    (hst : starEach [.Constant (.str y) j1 c1, .Constant (.str z) j2 c2] X.env = [(false, eval (.Constant (.str y) j1 c1) X.env), (false, eval (.Constant (.str z) j2 c2) X.env)] := by rfl)
    (hbase2 : attributeBase (.Call (.Attribute (.Constant (.str z0) j c0) "join" apos) (e :: es) [] cpos) "replace" X.env (eval (.Call (.Attribute (.Constant (.str z0) j c0) "join" apos) (e :: es) [] cpos) X.env) = eval (.Call (.Attribute (.Constant (.str z0) j c0) "join" apos) (e :: es) [] cpos) X.env := by rfl) (hline2 : (apos2.endLine == pos.line) = true := by rfl) :
    DE X W q2 (.Call (.Attribute (.Call (.Attribute (.Constant (.str z0) j c0) "join" apos) (e :: es) [] cpos) "replace" apos2) [.Constant (.str y) j1 c1, .Constant (.str z) j2 c2] [] pos) (eRepl ly lz (eMe "str" joinD (eC (.str l0)) fs)) := by
  have ho : ∀ σ H Q, tD X.K W true (eC (.str l0)) σ H Q → Q (.str z0) H := fun σ H Q ⟨κ, ρ, τ, vs, st, w⟩ => by
    subst e0
    exact w _ H (st.push fun Z => .str l0) fun _ => ⟨rfl, Same.refl H⟩
  refine PE.imp (pe_replT (pe1_bm PySem.F.plainAttrs_str PySem.F.slot_str_join PySem.F.type_str_join mt_join ho ha hbase hfew hline hs hplain) hyz hst hbase2 hline2) fun σ H Q ⟨κ, ρ, τ, vs, st, w⟩ => ?_
  refine me_imp ca_join ⟨κ, ρ, τ, vs, st, Out.wp_mono (Out.wp_bind w) (fun t ρ1 w1 v H1 st1 k1 => ?_) fun _ _ z => z⟩
  try dsimp only at w1
  split at w1
  · rename_i a
    split at w1
    · rename_i hz
      have ev : v = .str ⟨a.toArray⟩ := by
        obtain ⟨Z, A, B, C, cc, tt, gg', o, zz⟩ := st1.opn (d := .str a) rfl
        exact o.strV
      subst ev
      refine ⟨⟨a.toArray⟩, rfl, ?_, ?_⟩
      · subst ez
        rw [str_len, str_len]
        exact hz
      · have e1 : Txt.replace ⟨a.toArray⟩ y z = ⟨(PySem.StrLaws.replL ly lz a).toArray⟩ := by
          subst ey ez
          have := PySem.StrLaws.replace_list (x := ⟨a.toArray⟩) (y := ⟨ly.toArray⟩) (z := ⟨lz.toArray⟩) (by rw [str_len]; exact hy)
          have h2 : (Txt.replace ⟨a.toArray⟩ ⟨ly.toArray⟩ ⟨lz.toArray⟩).cps = (PySem.StrLaws.replL ly lz a).toArray := by
            apply Array.ext'
            exact this
          cases h3 : Txt.replace ⟨a.toArray⟩ ⟨ly.toArray⟩ ⟨lz.toArray⟩ with
          | mk c =>
            rw [h3] at h2
            exact congrArg Str.mk h2
        rw [e1]
        exact w1 _ H1 (st1.pop.push fun Z => .str _) k1
    · exact w1.elim
  · exact w1.elim
end
end Dl

set_option linter.all false
set_option maxRecDepth 100000
set_option maxHeartbeats 1000000
namespace RS
open PySem PySem.Spec PyProof.Rows
theorem norev_str : typeLookup (.type "str") "__reversed__" = pure none := by rw [typeLookup_type, builtinLookup_eq_fast]; kernel_rfl
theorem get_str : typeLookup (.type "str") "__getitem__" = pure (some (.builtin "str.__getitem__")) := by rw [typeLookup_type, builtinLookup_eq_fast]; kernel_rfl
def rsObj (v : Value) (i : Int) : Obj := { cls := .type "reversed", data := .fields #[v, rawInt i] }
def IsRs (h : Heap) (a : Addr) (v : Value) (i : Int) : Prop := ∃ o, h.get? a = some o ∧ o.cls = .type "reversed" ∧ o.data = .fields #[v, rawInt i]
theorem IsRs.at {h h' : Heap} {a : Addr} {v : Value} {i : Int} (x : IsRs h a v i) (e : ∀ o, h.get? a = some o → h'.get? a = some o) : IsRs h' a v i := let ⟨o, ho, r⟩ := x; ⟨o, e _ ho, r⟩
section
variable {prog : Program} {w : World} {A : Around} {E : Value → Shared → Prop} {s : Shared}
theorem IsRs.typeIs {a : Addr} {v : Value} {i : Int} (x : IsRs s.heap a v i) : s.TypeIs (.ref a) "reversed" := let ⟨o, ho, hc, _⟩ := x; ⟨o, ho, hc⟩
theorem code_reversed_str {x : Str} {t : Tok} {Q₁ : Value → Shared → Prop}
    (hlen : ∀ (A : Around) (E : Value → Shared → Prop) (Q : Value → Shared → Prop), Q (.int x.length (s.toks + 1)) { s with toks := s.toks + 1 + 1 } → wpAny (model prog w) A (call (.builtin "len") [.str x t]) Q E s)
    (h : Q₁ (.ref s.heap.objs.size) { s with heap := s.heap.push (rsObj (.str x t) ((x.length : Int) - 1)), toks := s.toks + 1 + 1 }) :
    codeAny (model prog w) A (.call (.builtin "reversed.__new__") ⟨[.type "reversed", .str x t], []⟩) (wants Q₁ E) s := by
  have hT : s.TypeIs (.str x t) "str" := typeIs_str _ _ _
  refine codeAny_of_tree ?_
  show wpAny _ A.in1 (do checkBuiltinCall "reversed.__new__" ⟨[.type "reversed", .str x t], []⟩; again (.builtin "reversed.__new__" ⟨[.type "reversed", .str x t], []⟩)) _ _ s
  refine wpAny_bind (wpAny_of_eq (F.newCall_reversed_1 _) (wpAny_pure ⟨plainId_quiet F.plain_reversed_new _, codeAny_builtin F.entry_reversed_new ?_⟩))
  rw [Around.under_plainId F.plain_reversed_new _]
  unfold Builtin.«reversed.__new__»
  refine wpAny_bind (wpAny_of_eq (newClass_reversed _) ?_)
  try dsimp only
  refine wpAny_bind (wpAny_of_eq (a := ()) (by first | rfl | kernel_rfl) ?_)
  try dsimp only
  refine wpAny_bind (wpAny_of_eq (a := ()) (by first | rfl | kernel_rfl) ?_)
  try dsimp only
  refine wpAny_bind (wpAny_specialOf hT norev_str ?_)
  try dsimp only
  refine wpAny_bind ?_
  wp_delta
  refine wpAny_bind (wpAny_isInstance (T := "str") (U := "dict") (b := false) hT PySem.F.sub_str_dict ?_)
  try dsimp only
  try rw [if_neg Bool.false_ne_true]
  try dsimp only
  refine wpAny_bind (wpAny_specialOf hT get_str ?_)
  try dsimp only
  try rw [if_pos (by decide +kernel)]
  refine wpAny_pure ?_
  try dsimp only
  try rw [if_neg (by decide)]
  try dsimp only
  refine wpAny_bind (hlen _ _ _ ?_)
  refine wpAny_bind (wpAny_of_eq (a := some ((x.length : Nat) : Int)) rfl ?_)
  try dsimp only
  refine wpAny_bind ?_
  show wpAny _ _ (newObj (.type "reversed") (.fields #[.str x t, rawInt ((x.length : Int) - 1)])) _ _ _
  refine wpAny_newObj_type ?_
  exact wpAny_pure h
theorem call_reversed_str {x : Str} {t : Tok} {Q : Value → Shared → Prop}
    (hlen : ∀ (A : Around) (E : Value → Shared → Prop) (Q : Value → Shared → Prop), Q (.int x.length (s.toks + 1)) { s with toks := s.toks + 1 + 1 } → wpAny (model prog w) A (call (.builtin "len") [.str x t]) Q E s)
    (h : Q (.ref s.heap.objs.size) { s with heap := s.heap.push (rsObj (.str x t) ((x.length : Int) - 1)), toks := s.toks + 1 + 1 }) : wpAny (model prog w) A (call (.type "reversed") [.str x t]) Q E s := by
  refine callType_codes (Q₁ := fun obj s₁ => s₁.TypeIs obj "reversed" ∧ Q obj s₁) RT.called_rt (F.typeCall_reversed_1 _) F.entry_object_init
    (code_reversed_str (A := A.in1) hlen ⟨⟨_, Heap.get?_push_size _ rfl, rfl⟩, h⟩) fun obj s₁ h₁ => ?_
  exact ⟨h₁.1, F.args_object_init_2 obj _, object_init_meets RT.called_rt.init.lookup RT.called_rt.made (by decide) prog w A.in1 _ s₁ ⟨h₁.1, rfl, h₁.2⟩⟩
theorem next_rs_item {it : Addr} {i : Nat} {x : Str} {t : Tok} {c : Nat} {Q : Option Value → Shared → Prop} (hit : IsRs s.heap it (.str x t) (i : Int)) (hx : x.cps[i]? = some c) (hi : i < x.length) (hsz : x.length ≤ sizeLine)
    (hQ : ∀ h' k u, IsRs h' it (.str x t) ((i : Int) - 1) → Heap.SameBut it s.heap h' → Q (some (.str ⟨#[c]⟩ u)) { s with heap := h', toks := k }) : wpAny (model prog w) A (pyNext (.ref it)) Q E s := by
  obtain ⟨o, ho, hc, hd⟩ := id hit
  have hT : s.TypeIs (.str x t) "str" := typeIs_str _ _ _
  rw [sizeLine_eq] at hsz
  unfold pyNext
  refine wpAny_bind (wpAny_attempt (wpAny_callSpecial?_slot (name := Str.ofString "__next__") hit.typeIs RT.slot_rt_next
    (wpAny_call_entry RT.slot_rt_next hit.typeIs RT.entry_rt_next ?_ (RT.args_rt_next _))))
  unfold Builtin.«reversed.__next__»
  refine wpAny_bind (wpAny_of_eq (a := (Value.ref it, [])) rfl ?_)
  try dsimp only
  refine wpAny_bind (wpAny_field ho hd (x := .str x t) rfl ?_)
  try dsimp only
  refine wpAny_bind (wpAny_field ho hd (x := rawInt (i : Int)) rfl ?_)
  show wpAny _ _ (if (i : Int) < 0 then _ else _) _ _ s
  rw [if_neg (by omega)]
  try dsimp only
  refine wpAny_bind (wpAny_specialOf hT get_str ?_)
  try dsimp only
  try rw [if_neg (by decide)]
  try dsimp only
  refine wpAny_bind (wpAny_mkInt ?_)
  refine wpAny_bind (wpAny_attempt ?_)
  have fin : seqIndex? (i : Int) x.length = some i := seqIndex_of (by omega) (by omega)
  refine PyProof.Rows.getItem_str (s := { s with toks := s.toks + 1 }) (c := c) (by simp only [Bool.or_eq_false_iff, decide_eq_false_iff_not]; omega) (by rw [fin]; exact hx) ?_
  try dsimp only
  refine wpAny_bind (wpAny_field (s := { s with toks := s.toks + 1 + 1 }) ho hd (x := rawInt (i : Int)) rfl ?_)
  try dsimp only
  refine wpAny_bind (wpAny_setField (s := { s with toks := s.toks + 1 + 1 }) ho hd (by simp) ?_)
  first
  | refine wpAny_pure ⟨_, rfl, wpAny_pure (hQ _ _ _ ?_ (Heap.SameBut.update ..))⟩
  | refine wpAny_bind (wpAny_pure (wpAny_pure ⟨_, rfl, wpAny_pure (hQ _ _ _ ?_ (Heap.SameBut.update ..))⟩))
  exact ⟨_, Heap.get?_update_self _ ho (Obj.isFreed_of_fields (Obj.data_mapFields hd _)), (Obj.cls_mapFields ..).trans hc, by
    rw [Obj.data_mapFields hd]; simp⟩
theorem next_rs_end {it : Addr} {v : Value} {Q : Option Value → Shared → Prop} (hh : A.handled = none) (hit : IsRs s.heap it v (-1))
    (hQ : ∀ h', Heap.ExtBut it s.heap h' → Q none { s with heap := h' }) : wpAny (model prog w) A (pyNext (.ref it)) Q E s := by
  obtain ⟨o, ho, hc, hd⟩ := id hit
  unfold pyNext
  refine wpAny_bind (wpAny_attempt (wpAny_callSpecial?_slot (name := Str.ofString "__next__") hit.typeIs RT.slot_rt_next
    (wpAny_call_entry RT.slot_rt_next hit.typeIs RT.entry_rt_next ?_ (RT.args_rt_next _))))
  unfold Builtin.«reversed.__next__»
  refine wpAny_bind (wpAny_of_eq (a := (Value.ref it, [])) rfl ?_)
  try dsimp only
  refine wpAny_bind (wpAny_field ho hd (x := v) rfl ?_)
  try dsimp only
  refine wpAny_bind (wpAny_field ho hd (x := rawInt (-1)) rfl ?_)
  show wpAny _ _ (if (-1 : Int) < 0 then _ else _) _ _ s
  rw [if_pos (by decide)]
  try dsimp only
  refine wpAny_bind (wpAny_rule ?_)
  refine wpAny_bind ?_
  wp_delta
  refine wpAny_bind (wpAny_setField ho hd (by simp) ?_)
  have ho2 := Heap.get?_update_self (Obj.mapFields (·.setIfInBounds 1 (rawInt (-1)))) ho (Obj.isFreed_of_fields (Obj.data_mapFields hd _))
  refine wpAny_setField (s := { s with heap := s.heap.update it (Obj.mapFields (·.setIfInBounds 1 (rawInt (-1)))) }) ho2 (Obj.data_mapFields hd _) (by simp) ?_
  try dsimp only
  first
  | show wpAny _ _ (newExc (.type "StopIteration") [] >>= _) _ _ _
  | (refine wpAny_bind ?_; show wpAny _ _ (newExc (.type "StopIteration") [] >>= _) _ _ _)
  | (refine wpAny_bind ?_; wp_delta; show wpAny _ _ (newExc (.type "StopIteration") [] >>= _) _ _ _)
  refine wpAny_bind ?_
  simp only [newExc, newTuple]
  refine wpAny_bind (wpAny_newObj_type ?_ (by size_fits))
  refine wpAny_bind (m := firstArgMember _ _) (wpAny_of_eq (a := Value.none) (by first | rfl | (simp only [firstArgMember]; rfl)) ?_)
  refine wpAny_newObj_type ?_ (by size_fits)
  simp only [raiseNew]
  refine wpAny_bind (wpAny_handled ?_)
  first | rw [show A.in1.handled = none from hh] | rw [hh]
  refine wpAny_bind (wpAny_pure (wpAny_throw ?_))
  refine wpAny_bind (wpAny_isInstance (T := "StopIteration") (b := true) ⟨_, Heap.get?_push_size _ rfl, rfl⟩ isSubtype_stop ?_)
  refine wpAny_pure (hQ _ ?_)
  refine ((?_ : Heap.ExtBut it s.heap _).push _).push _
  exact fun b ob hb e => (Heap.get?_update_other _ _ (Ne.symm hb)).trans ((Heap.get?_update_other _ _ (Ne.symm hb)).trans e)
theorem iter_rs {it : Addr} {v : Value} {i : Int} {Q : Value → Shared → Prop} (hit : IsRs s.heap it v i) (h : Q (.ref it) s) : wpAny (model prog w) A (pyIter (.ref it)) Q E s := by
  refine wpAny_pyIter_slot hit.typeIs RT.slot_rt_iter (wpAny_call_entry RT.slot_rt_iter hit.typeIs RT.entry_rt_iter ?_ (RT.args_rt_iter _))
  show wpAny _ _ (ret (.ref it)) _ _ s
  exact wpAny_pure ⟨_, rfl, "reversed", _, hit.typeIs, RT.slot_rt_next.lookup, h⟩
end
open L2
def ItvS (x : Str) : It :=
  ⟨fun i _ => i < x.length, fun i H v H' => H' = H ∧ ∃ c, x.cps[x.length - 1 - i]? = some c ∧ v = .str ⟨#[c]⟩, fun i _ => x.length ≤ i⟩
theorem turn_rs {P : Program} {w : World} {K : PySem.W.Frag} {tg : Expr} (x : Str) (t : Tok) (it : Addr) (hz : x.length ≤ sizeLine) : Turn P w K tg (ItvS x) [it] it (fun i h => i ≤ x.length ∧ IsRs h it (.str x t) ((x.length : Int) - 1 - (i : Nat))) where
  mem := by simp
  obj := fun i h st b hb => by
    have e : b = it := by simpa using hb
    subst e
    obtain ⟨_, o, e, c, d⟩ := st
    exact ⟨o, e, fun v z => by rw [d] at z; cases z⟩
  keep := fun i h h' st k => ⟨st.1, st.2.at fun o e => k it (by simp) o e⟩
  item := by
    intro X hP hw hK hc i pins s σ H E I hf st hin
    subst hP hw hK
    have hin : i < x.length := hin
    obtain ⟨f0, f1, f2, f3, f4, f5⟩ := hf it (by simp)
    obtain ⟨_, hit⟩ := st
    have e1 : (x.length : Int) - 1 - ((i : Nat) : Int) = ((x.length - 1 - i : Nat) : Int) := by omega
    rw [e1] at hit
    have hlt : x.length - 1 - i < x.cps.size := by show _ < x.length; omega
    have hx : x.cps[x.length - 1 - i]? = some x.cps[x.length - 1 - i] := Array.getElem?_eq_getElem hlt
    refine next_rs_item hit hx hlt hz fun h' k u st' sb => ?_
    have e2 : ((x.length - 1 - i : Nat) : Int) - 1 = (x.length : Int) - 1 - ((i + 1 : Nat) : Int) := by omega
    rw [e2] at st'
    have I1 : Inv X pins σ H { s with heap := h', toks := k } := I.turned (t' := k) (fun b o hb e => (sb.2 b hb).trans e) f0 f1 f3 f4 f5
    obtain ⟨o, e, c, d⟩ := id st'
    exact ⟨_, rfl, go_of (s := { s with heap := h', toks := k }) e c d (by decide) ⟨.str ⟨#[x.cps[x.length - 1 - i]]⟩, H, I1, ⟨_, rfl⟩, ⟨rfl, _, hx, rfl⟩, ⟨hin, st'⟩, fun b hb => (hf b hb).1⟩⟩
  done := by
    intro X hP hw hK hc i pins s σ H E I hf st hg
    subst hP hw hK
    obtain ⟨f0, f1, f2, f3, f4, f5⟩ := hf it (by simp)
    obtain ⟨hin, hit⟩ := st
    have hge : x.length ≤ i := hg
    have e1 : (x.length : Int) - 1 - ((i : Nat) : Int) = -1 := by omega
    rw [e1] at hit
    exact next_rs_end (I.ok.hd hc) hit fun h' eb => ⟨rfl, I.turned (t' := s.toks) (fun b o hb e => eb b o hb e) f0 f1 f3 f4 f5⟩
  self := fun A i s Q E st h => iter_rs st.2 h
def iRevX (K : PySem.W.Frag) (te : TE) : TI := fun σ H R => te σ H fun v H1 => (∃ (a : Addr) (xs : List V), v = .ref a ∧ ((SqL K H1 a xs ∧ R (Itv K a xs.length) H1) ∨ (SqT K H1 a xs ∧ R (RT.ItvT K a xs.length) H1))) ∨ ∃ x : Str, v = .str x ∧ x.length ≤ sizeLine ∧ R (ItvS x) H1
theorem pi_revX {X : Cx} {tg e : Expr} {te : TE} {p pos : Pos} (hg : Gl X "reversed") (hm : X.mg "reversed" = none) (he : PE X e te) (hs : starEach [e] X.env = (false, eval e X.env) :: starEach [] X.env := by rfl) : PI X tg (.Call (.Name "reversed" p) [e] [] pos) (iRevX X.K te) := by
  refine ⟨fun pins s σ H R I h => ?_⟩
  refine Call_ (ld_blt I hg hm PyProof.Rows.boot_reversed (PyProof.Rows.callWith_type1 (args_cons (thn (he.run pins s σ H _ I h) fun u s1 ⟨v, H1, I1, r1, q1⟩ => args_nil ?_) hs) hs rfl))
  have hn := line63
  rcases q1 with ⟨a, xs, ev, q⟩ | ⟨x, ev, hz, q⟩
  · subst ev
    obtain rfl : u = Value.ref a := r1
    rcases q with ⟨hq, q⟩ | ⟨hq, q⟩
    · obtain ⟨its, rv, p', hz⟩ := I1.list hq
      have hl := rv.length
      have e1 : ((its.toArray.size : Nat) : Int) - 1 = (xs.length : Int) - 1 - ((0 : Nat) : Int) := by simp only [List.size_toArray]; omega
      refine call_reversed_list p'.isList (wpAny_pyIter_revIter (l := a) (i := ((its.toArray.size : Nat) : Int) - 1) ⟨_, Heap.get?_push_size _ rfl, rfl, rfl⟩ ?_)
      refine pi_one (tk := s1.toks) I1 _ (turn_rev a _ xs.length) ⟨Nat.zero_le _, ?_⟩ q
      rw [← e1]
      exact ⟨_, Heap.get?_push_size _ rfl, rfl, rfl⟩
    · obtain ⟨its, rv, p', hz⟩ := I1.tuple hq
      have hl := rv.length
      have e1 : ((its.toArray.size : Nat) : Int) - 1 = (xs.length : Int) - 1 - ((0 : Nat) : Int) := by simp only [List.size_toArray]; omega
      refine RT.call_reversed_tup p' (fun A E Q k => len_tuple p' (by simp only [List.size_toArray] <;> omega) k) (RT.iter_rt (t := a) (i := ((its.toArray.size : Nat) : Int) - 1) ⟨_, Heap.get?_push_size _ rfl, rfl, rfl⟩ ?_)
      refine pi_one (tk := s1.toks + 1 + 1) I1 _ (RT.turn_rt a _ xs.length) ⟨Nat.zero_le _, ?_⟩ q
      rw [← e1]
      exact ⟨_, Heap.get?_push_size _ rfl, rfl, rfl⟩
  · subst ev
    obtain ⟨t, rfl⟩ : ∃ t, u = Value.str x t := r1
    refine call_reversed_str (fun A E Q k => PyProof.Rows.len_str (by rw [sizeLine_eq] at hz; omega) k) (iter_rs (v := .str x t) (i := (x.length : Int) - 1) ⟨_, Heap.get?_push_size _ rfl, rfl, rfl⟩ ?_)
    refine pi_one (tk := s1.toks + 1 + 1) I1 _ (turn_rs x t _ hz) ⟨Nat.zero_le _, ?_⟩ q
    have e1 : (x.length : Int) - 1 - ((0 : Nat) : Int) = (x.length : Int) - 1 := by omega
    rw [e1]
    exact ⟨_, Heap.get?_push_size _ rfl, rfl, rfl⟩
end RS
namespace Dl
open PySem PySem.Spec PyProof.Rows L2
section
variable {X : Cx} {W : WX} {q : Bool} {e tg : Expr} {f : Cm Tm} {p pos : Pos}
def srcRX (f : Cm Tm) : Cm Src := fun ρ => (f ρ).bind fun t ρ1 => match t with
  | .v d => match srcVr d with
    | some s => .ok s ρ1
    | none => match d with
      | .str l => if l.length ≤ sizeLine then .ok ⟨[.str l], (l.map fun c => .str [c]).reverse, none⟩ ρ1 else .bad
      | _ => .bad
  | _ => .bad
theorem DI.revX (hm : X.mg "reversed" = none) (h : DE X W q e f) (hg : Gl X "reversed" := by rfl) (hs : starEach [e] X.env = (false, eval e X.env) :: starEach [] X.env := by rfl) : DI X W tg (.Call (.Name "reversed" p) [e] [] pos) (srcRX f) := by
  refine PI.imp (RS.pi_revX hg hm h hs) fun σ H R ⟨κ, ρ, τ, vs, st, w⟩ => ?_
  refine ⟨κ, ρ, τ, vs, st, Out.wp_mono (Out.wp_bind w) (fun t ρ1 w1 v H1 st1 k1 => ?_) fun _ _ z => z⟩
  try dsimp only at w1
  split at w1
  · rename_i d
    split at w1
    · rename_i s hs
      refine .inl ?_
      unfold srcVr srcV at hs
      split at hs
      · rename_i hf
        have st2 := st1.frzT hf
        cases hd : d.frz with
        | lst o l =>
          rw [hd] at hs st2
          have ho := frz_lst hd
          subst ho
          cases hs
          obtain ⟨a, xs, rfl, hq, hl, _⟩ := st2.itemL
          have hlr : xs.length = l.length := hl
          refine ⟨a, xs, rfl, .inl ⟨hq, ?_⟩⟩
          rw [hlr]
          exact w1 _ [.ref a] _ rfl (fun _ z => nomatch z) st2 (iters_rev (a := a) (fun H xs => SqL X.K H a xs) (fun i H hi hx => ⟨hi, hx⟩) (fun i H x H' y => y) (fun H => Nat.le_refl _) fun st => by
            obtain ⟨b, ys, e, h1, h2, h3⟩ := st.itemL
            injection e with e
            subst e
            exact ⟨ys, h1, h2, h3⟩)
        | tup l =>
          rw [hd] at hs st2
          have ho := frz_owns hf hd
          cases hs
          obtain ⟨a, xs, rfl, hq, hl, _⟩ := st2.itemT ho
          refine ⟨a, xs, rfl, .inr ⟨hq, ?_⟩⟩
          rw [hl]
          exact w1 _ [.ref a] _ rfl (fun _ z => nomatch z) st2 (iters_rev (a := a) (fun H xs => SqT X.K H a xs) (fun i H hi hx => ⟨hi, hx⟩) (fun i H x H' y => y) (fun H => Nat.le_refl _) fun st => by
            obtain ⟨b, ys, e, h1, h2, h3⟩ := st.itemT ho
            injection e with e
            subst e
            exact ⟨ys, h1, h2, h3⟩)
        | str l => rw [hd] at hs; cases hs
        | _ => rw [hd] at hs; cases hs
      · cases hs
    · split at w1
      · rename_i l _
        split at w1
        · rename_i hz
          have ev : v = .str ⟨l.toArray⟩ := by
            obtain ⟨Z, A, B, C, cc, tt, gg', o, zz⟩ := st1.opn (d := .str l) rfl
            exact o.strV
          subst ev
          refine .inr ⟨⟨l.toArray⟩, rfl, by rw [str_len]; exact hz, ?_⟩
          refine w1 _ [.str ⟨l.toArray⟩] _ rfl (fun _ z => nomatch z) st1 ?_
          intro ρ τ vs σ H st
          have hl : (⟨l.toArray⟩ : Str).length = l.length := str_len l
          refine ⟨fun i d ed => ?_, by show (⟨l.toArray⟩ : Str).length ≤ _; rw [hl]; simp⟩
          have hi : i < l.length := by
            have := (List.getElem?_eq_some_iff.mp ed).1
            simpa using this
          refine ⟨by show i < (⟨l.toArray⟩ : Str).length; rw [hl]; exact hi, fun x H' y => ?_⟩
          obtain ⟨rfl, c, hc, rfl⟩ := y
          rw [hl] at hc
          have hc' : l[l.length - 1 - i]? = some c := by simpa using hc
          rw [List.getElem?_reverse (by simpa using hi)] at ed
          have ed' : (l.map fun c => D.str [c])[l.length - 1 - i]? = some d := by simpa using ed
          rw [List.getElem?_map, hc'] at ed'
          cases ed'
          exact st.push fun Z => .str [c]
        · exact w1.elim
      · exact w1.elim
  · exact w1.elim
end
end Dl

set_option linter.all false
set_option maxRecDepth 100000
namespace Dl
open PySem PySem.Spec PyProof.Rows L2
section
variable {X : Cx} {pins : List (Addr × Obj)} {σ : L2.St} {H : Hp} {s : Shared}
theorem xo_ok {P : Program} {w : World} {h : Heap} {a : Addr} {cls : Value} {d : Option Addr} {oe : Obj} {vs : Array Value} (e : h.get? a = some oe) (z : Zc cls d oe) (dt : oe.data = .fields vs) : ObjOk P w H h a (XO cls d a) :=
  ⟨⟨oe, vs, e, z, dt⟩, ⟨oe, e⟩, fun _ _ ⟨o, v, q, r⟩ k => ⟨o, v, k o q, r⟩⟩
theorem xo_at {P : Program} {w : World} {h : Heap} {a : Addr} {cls : Value} {d : Option Addr} (x : ObjOk P w H h a (XO cls d a)) : ∃ (oe : Obj) (vs : Array Value), h.get? a = some oe ∧ Zc cls d oe ∧ oe.data = .fields vs := x.1
theorem track {a : Addr} {cls : Value} {d : Option Addr} {oe : Obj} {vs : Array Value} (J : Inv X pins σ H s) (he : s.heap.get? a = some oe) (hz : Zc cls d oe) (hd : oe.data = .fields vs) (na : H a = none) (n0 : X.s_0.heap.get? a = none) (nL : a ≠ X.env.locals)
    (np : ∀ p ∈ X.pn ++ pins, p.1 ≠ a) : Inv X pins σ (upd H a (XO cls d a)) s := by
  have ne : ∀ {b : Addr} {o : HO}, H b = some o → b ≠ a := fun {b o} e => ne_of_none e na
  refine ⟨J.ok, J.os, J.bare, ⟨J.base.keep, J.base.slot, fun b o e n x => ?_, J.base.there, fun b xs e => ?_, fun b o u e => ?_, fun b ps e => ?_⟩, J.loc, J.cell, ?_, fun x c e => ?_, fun p hp => ?_, fun b o e => ?_, J.len⟩
  · rw [upd_ne fun z => by rw [z, n0] at e; cases e]
    exact J.base.free b o e n x
  · have q := J.base.tups b xs e
    rw [upd_ne (ne q)]; exact q
  · have q := J.base.frzs b o u e
    rw [upd_ne (ne q)]; exact q
  · obtain ⟨m, q⟩ := J.base.tbls b ps e
    exact ⟨m, by rw [upd_ne (ne q)]; exact q⟩
  · rw [upd_ne (Ne.symm nL)]; exact J.free
  · have hc : c ≠ a := fun z => by
      obtain ⟨v, oc, e1, e2⟩ := J.cell x c e
      rw [z, he] at e1
      cases e1
      rw [hd] at e2
      cases e2
    rw [upd_ne hc]; exact J.freeC x c e
  · obtain ⟨q1, q2, q3⟩ := J.pin p hp
    exact ⟨q1, by rw [upd_ne (np p hp)]; exact q2, q3⟩
  · by_cases hb : b = a
    · subst hb
      rw [upd_same] at e
      cases e
      exact xo_ok he hz hd
    · rw [upd_ne hb] at e
      exact (J.hok b o e).stay (fun _ _ _ q => q) (fun c q => by rw [upd_ne (ne q)]; exact q) fun c xs q => by rw [upd_ne (ne q)]; exact q
theorem toSuite (I : Inv X pins σ H s) (a : Addr) : Inv (X.suite a (X.pn ++ pins)) [] σ H s :=
  ⟨I.ok.suite _ _, I.os, I.bare, I.base, I.loc, I.cell, I.free, I.freeC, fun p hp => I.pin p (by simpa using hp), I.hok, I.len⟩
theorem ofSuite {a : Addr} {pn' : List (Addr × Obj)} (I : Inv (X.suite a (X.pn ++ pins)) pn' σ H s) (ok : X.Ok) : Inv X pins σ H s :=
  ⟨ok, I.os, I.bare, I.base, I.loc, I.cell, I.free, I.freeC, fun p hp => I.pin p (List.mem_append_left _ hp), I.hok, I.len⟩
end
def wTrk (K : PySem.W.Frag) (c : Value) (io : Option Nat) (ts : TS) (Wout : WX) (D : Ends) : WX := fun cls d σ H =>
  ∃ b, PySem.W.exmOne K cls c = some b ∧ (b = true → ∀ a, H a = none → match io with
    | none => ts D σ (upd H a (XO cls d a))
    | some i => ts { nx := fun σ' H' => D.nx (σ'.set i none) H', rt := D.rt, bk := fun σ' H' => D.bk (σ'.set i none) H', ct := fun σ' H' => D.ct (σ'.set i none) H' } (σ.set i (some (.ref a))) (upd H a (XO cls d a))) ∧ (b = false → Wout cls d σ H)
section
variable {X : Cx} {x n : Str} {c : Value} {i : Nat} {body suite : List Stmt} {b₀ : Stmt} {np pos pos' : Pos} {tb : WX → TS} {ts : TS} {Wout : WX}
theorem ps_tryAs (hs : X.stack = X.env :: X.outer) (hf : X.env.frame = some X.env.locals) (hex : X.ex = []) (hN : X.N.Nodup) (hi : X.N[i]? = some n) (hln : X.env.kindOf n = some .local) (hc : Names X x c) (tk : Takes X Wout)
    (hb : ∀ (W : WX) (pn : List (Addr × Obj)) (xe : Value → Shared → Prop), Takes (X.tr pn xe) W → PassesOwn (model X.prog X.w) X.A X.env xe → PSs (X.tr pn xe) body (tb W))
    (hsu : ∀ (a : Addr) (pn : List (Addr × Obj)), PSs (X.suite a pn) (b₀ :: suite) ts) :
    PS X (.Try body [.ExceptHandler (some (.Name x np)) (some n) (b₀ :: suite) pos'] [] [] pos) (fun D σ H => tb (wTrk X.K c (some i) ts Wout D) D σ H) := by
  refine ⟨fun pins s σ H D I h => ?_⟩
  have ok := I.ok
  have hfr : X.A.frames = some (X.env :: X.outer) := by rw [ok.frames, hs]
  have hloc : Loc X.env.scope n := .inl hln
  refine wpAny_Try_except ?_
  refine wpAny_mono ((hb (wTrk X.K c (some i) ts Wout D) (X.pn ++ pins) (fun e s₁ => wpAny (model X.prog X.w) X.A (noteFrame e X.env) (fun _ s₂ => wpAny (model X.prog X.w) X.A (setFlight e none) (fun _ s₃ =>
    wpAny (model X.prog X.w) X.A (handleBy e X.env [.ExceptHandler (some (.Name x np)) (some n) (b₀ :: suite) pos']) (SP X pins D) X.xe s₃) X.xe s₂) X.xe s₁) (fun u s' xx => ?_) PassesOwn.looking).run [] s σ H D (I.toTry _) h) (fun f s1 hsp => ?_) (fun e s1 he => he)
  · obtain ⟨a, B, sI, pins', σ', H', cls, d, rfl, J', nb, up, sky, na, os, ag, b, hb1, hyes, hno⟩ := xx
    have J : Inv X pins σ' H' sI := J'.ofTry ok
    rw [hs] at sky
    show wpAny (model X.prog X.w) X.A (noteFrame (.ref a) X.env) _ _ _
    refine Sky.land Zc.steady hfr hf sky fun h3 fl3 up3 => ?_
    have J3 : Inv X pins σ' H' { s' with heap := h3 } := J.landed nb fl3.1 (up.trans up3) os ag
    obtain ⟨oe3, vs3, he3, hz3, hd3⟩ := fl3.there
    have nfr : a ∉ frs (X.env :: X.outer) := fun hm => by
      obtain ⟨_, o', e', hnf⟩ := fl3.2.2.1.mem hm
      rw [he3] at e'; cases e'
      exact hnf _ hd3
    have nL : a ≠ X.env.locals := fun z => nfr (List.mem_filterMap.mpr ⟨X.env, List.mem_cons_self, by rw [hf, z]⟩)
    have nB : B.get? a = none := fl3.2.1
    have nI : sI.heap.get? a = none := by
      cases e : sI.heap.get? a with
      | none => rfl
      | some o =>
        have := nb a o e (by rw [hs]; exact nfr)
        rw [nB] at this; cases this
    have n0 : X.s_0.heap.get? a = none := by
      cases e : X.s_0.heap.get? a with
      | none => rfl
      | some o =>
        obtain ⟨o', e'⟩ := J.base.there a o e (by rw [hex]; exact fun z => nomatch z)
        rw [nI] at e'; cases e'
    have npin : ∀ p ∈ X.pn ++ pins, p.1 ≠ a := fun p hp z => by
      have := (J.pin p hp).1
      rw [z, nI] at this; cases this
    have T3 := toSuite (track J3 he3 hz3 hd3 na n0 nL npin) a
    refine wpAny_handleBy_cons (codeAny_handlers_test ?_) (by intro q; cases q)
    have LT : PySem.W.Looks (model X.prog X.w) h3 (typeOf (.ref a)) cls := fun A Q E s k q => wpAny_typeOf_ref (k _ _ he3) (by rw [hz3.1]; exact q)
    have test : ∀ {Q : Value → Shared → Prop} {E : Value → Shared → Prop}, Q c { s' with heap := h3 } → wpAny (model X.prog X.w) (X.A.mark (some (.ref a))) (eval (.Name x np) X.env) Q E { s' with heap := h3 } := fun {Q E} q => by
      obtain ⟨hg, hdbg, hm | ⟨hm, hv, hnn⟩⟩ := hc
      · exact ld_glob (X := X.suite a (X.pn ++ pins)) T3 hg hm q hdbg
      · exact ld_blt (X := X.suite a (X.pn ++ pins)) T3 hg hm hv q hnn hdbg
    refine test ((PySem.W.exm_one (M := model X.prog X.w) J3.kIn LT hb1).here ?_)
    cases b with
    | true =>
      refine codeAny_handlers_suite_as ?_
      refine HandSPX.lands_againZ fl3 fun h4 fl4 up4 => ?_
      have J4 : Inv X pins σ' H' { s' with heap := h4 } := J.landed nb fl4.1 ((up.trans up3).trans up4) os ag
      obtain ⟨oe4, vs4, he4, hz4, hd4⟩ := fl4.there
      have T4 := toSuite (track J4 he4 hz4 hd4 na n0 nL npin) a
      refine store_ok (X := X.suite a (X.pn ++ pins)) (v := .ref a) T4 hN hi hloc rfl (fun s5 S5 => ?_) (.inr hln)
      refine wpAny_mono ((hsu a (X.pn ++ pins)).run [] s5 _ _ _ S5 (hyes rfl a na)) (fun f s6 hsp => ?_) (fun _ _ z => False.elim z)
      have end_ : ∀ {σ6 : L2.St} {H6 : Hp} {Q : Shared → Prop}, Inv (X.suite a (X.pn ++ pins)) [] σ6 H6 s6 → (∀ s7, Inv X pins (σ6.set i none) H6 s7 → Q s7) →
          wpAny (model X.prog X.w) X.A (do bindName X.env n .none; unbindBehindTheSuite X.env n pos') (fun _ s7 => Q s7) X.xe s6 := fun {σ6 H6 Q} S6 hq => gone_ok (ofSuite S6 ok) hN hi hln hq
      cases f with
      | next => obtain ⟨σ6, H6, S6, q6⟩ := hsp; exact end_ S6 fun s7 J7 => ⟨_, _, J7, q6⟩
      | brk => obtain ⟨σ6, H6, S6, q6⟩ := hsp; exact end_ S6 fun s7 J7 => ⟨_, _, J7, q6⟩
      | cont => obtain ⟨σ6, H6, S6, q6⟩ := hsp; exact end_ S6 fun s7 J7 => ⟨_, _, J7, q6⟩
      | ret u => obtain ⟨v6, σ6, H6, S6, r6, q6⟩ := hsp; exact end_ S6 fun s7 J7 => ⟨_, _, _, J7, r6, q6⟩
    | false =>
      show wpAny _ X.A (handleBy (.ref a) X.env []) _ _ _
      refine wpAny_handleBy_nil ?_
      obtain ⟨k1, k2, k3, oe, vs, T, oT, ts', he, hz, hd, h1, hr⟩ := id fl3
      unfold PySem.passOn
      refine wpAny_bind (wpAny_field he hd h1 ?_)
      rw [if_neg (show ¬ ((Value.ref T == Value.none) = true) from by simp)]
      have fin : wpAny (model X.prog X.w) X.A (setFlight (.ref a) X.env.frame) (fun _ s4 => wpAny (model X.prog X.w) X.A (throw (.ref a) : Sem Flow) (SP X pins D) X.xe s4) X.xe { s' with heap := h3 } := by
        rw [hf]
        refine HandSPX.setFlight_upZ fl3 fun h4 hh4 up4 => wpAny_throw (tk _ _ ?_)
        exact ⟨a, B, sI, pins, σ', H', cls, d, rfl, J, nb, (up.trans up3).trans up4, .inr (.inr (by rw [hs]; exact hh4)), na, os, ag, hno rfl⟩
      first
        | exact wpAny_bind (wpAny_pure (wpAny_bind fin))
        | exact wpAny_bind fin
  · cases f with
    | next => obtain ⟨σ', H', J', q⟩ := hsp; exact wpAny_execs_nil ⟨σ', H', J'.ofTry ok, q⟩
    | brk => obtain ⟨σ', H', J', q⟩ := hsp; exact ⟨σ', H', J'.ofTry ok, q⟩
    | cont => obtain ⟨σ', H', J', q⟩ := hsp; exact ⟨σ', H', J'.ofTry ok, q⟩
    | ret u => obtain ⟨v, σ', H', J', r, q⟩ := hsp; exact ⟨v, σ', H', J'.ofTry ok, r, q⟩
theorem ps_tryNo (hs : X.stack = X.env :: X.outer) (hf : X.env.frame = some X.env.locals) (hex : X.ex = []) (hc : Names X x c) (tk : Takes X Wout)
    (hb : ∀ (W : WX) (pn : List (Addr × Obj)) (xe : Value → Shared → Prop), Takes (X.tr pn xe) W → PassesOwn (model X.prog X.w) X.A X.env xe → PSs (X.tr pn xe) body (tb W))
    (hsu : ∀ (a : Addr) (pn : List (Addr × Obj)), PSs (X.suite a pn) (b₀ :: suite) ts) :
    PS X (.Try body [.ExceptHandler (some (.Name x np)) none (b₀ :: suite) pos'] [] [] pos) (fun D σ H => tb (wTrk X.K c none ts Wout D) D σ H) := by
  refine ⟨fun pins s σ H D I h => ?_⟩
  have ok := I.ok
  have hfr : X.A.frames = some (X.env :: X.outer) := by rw [ok.frames, hs]
  refine wpAny_Try_except ?_
  refine wpAny_mono ((hb (wTrk X.K c none ts Wout D) (X.pn ++ pins) (fun e s₁ => wpAny (model X.prog X.w) X.A (noteFrame e X.env) (fun _ s₂ => wpAny (model X.prog X.w) X.A (setFlight e none) (fun _ s₃ =>
    wpAny (model X.prog X.w) X.A (handleBy e X.env [.ExceptHandler (some (.Name x np)) none (b₀ :: suite) pos']) (SP X pins D) X.xe s₃) X.xe s₂) X.xe s₁) (fun u s' xx => ?_) PassesOwn.looking).run [] s σ H D (I.toTry _) h) (fun f s1 hsp => ?_) (fun e s1 he => he)
  · obtain ⟨a, B, sI, pins', σ', H', cls, d, rfl, J', nb, up, sky, na, os, ag, b, hb1, hyes, hno⟩ := xx
    have J : Inv X pins σ' H' sI := J'.ofTry ok
    rw [hs] at sky
    show wpAny (model X.prog X.w) X.A (noteFrame (.ref a) X.env) _ _ _
    refine Sky.land Zc.steady hfr hf sky fun h3 fl3 up3 => ?_
    have J3 : Inv X pins σ' H' { s' with heap := h3 } := J.landed nb fl3.1 (up.trans up3) os ag
    obtain ⟨oe3, vs3, he3, hz3, hd3⟩ := fl3.there
    have nfr : a ∉ frs (X.env :: X.outer) := fun hm => by
      obtain ⟨_, o', e', hnf⟩ := fl3.2.2.1.mem hm
      rw [he3] at e'; cases e'
      exact hnf _ hd3
    have nL : a ≠ X.env.locals := fun z => nfr (List.mem_filterMap.mpr ⟨X.env, List.mem_cons_self, by rw [hf, z]⟩)
    have nB : B.get? a = none := fl3.2.1
    have nI : sI.heap.get? a = none := by
      cases e : sI.heap.get? a with
      | none => rfl
      | some o =>
        have := nb a o e (by rw [hs]; exact nfr)
        rw [nB] at this; cases this
    have n0 : X.s_0.heap.get? a = none := by
      cases e : X.s_0.heap.get? a with
      | none => rfl
      | some o =>
        obtain ⟨o', e'⟩ := J.base.there a o e (by rw [hex]; exact fun z => nomatch z)
        rw [nI] at e'; cases e'
    have npin : ∀ p ∈ X.pn ++ pins, p.1 ≠ a := fun p hp z => by
      have := (J.pin p hp).1
      rw [z, nI] at this; cases this
    have T3 := toSuite (track J3 he3 hz3 hd3 na n0 nL npin) a
    refine wpAny_handleBy_cons (codeAny_handlers_test ?_) (by intro q; cases q)
    have LT : PySem.W.Looks (model X.prog X.w) h3 (typeOf (.ref a)) cls := fun A Q E s k q => wpAny_typeOf_ref (k _ _ he3) (by rw [hz3.1]; exact q)
    have test : ∀ {Q : Value → Shared → Prop} {E : Value → Shared → Prop}, Q c { s' with heap := h3 } → wpAny (model X.prog X.w) (X.A.mark (some (.ref a))) (eval (.Name x np) X.env) Q E { s' with heap := h3 } := fun {Q E} q => by
      obtain ⟨hg, hdbg, hm | ⟨hm, hv, hnn⟩⟩ := hc
      · exact ld_glob (X := X.suite a (X.pn ++ pins)) T3 hg hm q hdbg
      · exact ld_blt (X := X.suite a (X.pn ++ pins)) T3 hg hm hv q hnn hdbg
    refine test ((PySem.W.exm_one (M := model X.prog X.w) J3.kIn LT hb1).here ?_)
    cases b with
    | true =>
      refine codeAny_handlers_suite ?_
      refine HandSPX.lands_againZ fl3 fun h4 fl4 up4 => ?_
      have J4 : Inv X pins σ' H' { s' with heap := h4 } := J.landed nb fl4.1 ((up.trans up3).trans up4) os ag
      obtain ⟨oe4, vs4, he4, hz4, hd4⟩ := fl4.there
      have T4 := toSuite (track J4 he4 hz4 hd4 na n0 nL npin) a
      refine wpAny_mono ((hsu a (X.pn ++ pins)).run [] _ _ _ _ T4 (hyes rfl a na)) (fun f s6 hsp => ?_) (fun _ _ z => False.elim z)
      cases f with
      | next => obtain ⟨σ6, H6, S6, q6⟩ := hsp; exact ⟨_, _, ofSuite S6 ok, q6⟩
      | brk => obtain ⟨σ6, H6, S6, q6⟩ := hsp; exact ⟨_, _, ofSuite S6 ok, q6⟩
      | cont => obtain ⟨σ6, H6, S6, q6⟩ := hsp; exact ⟨_, _, ofSuite S6 ok, q6⟩
      | ret u => obtain ⟨v6, σ6, H6, S6, r6, q6⟩ := hsp; exact ⟨_, _, _, ofSuite S6 ok, r6, q6⟩
    | false =>
      show wpAny _ X.A (handleBy (.ref a) X.env []) _ _ _
      refine wpAny_handleBy_nil ?_
      obtain ⟨k1, k2, k3, oe, vs, T, oT, ts', he, hz, hd, h1, hr⟩ := id fl3
      unfold PySem.passOn
      refine wpAny_bind (wpAny_field he hd h1 ?_)
      rw [if_neg (show ¬ ((Value.ref T == Value.none) = true) from by simp)]
      have fin : wpAny (model X.prog X.w) X.A (setFlight (.ref a) X.env.frame) (fun _ s4 => wpAny (model X.prog X.w) X.A (throw (.ref a) : Sem Flow) (SP X pins D) X.xe s4) X.xe { s' with heap := h3 } := by
        rw [hf]
        refine HandSPX.setFlight_upZ fl3 fun h4 hh4 up4 => wpAny_throw (tk _ _ ?_)
        exact ⟨a, B, sI, pins, σ', H', cls, d, rfl, J, nb, (up.trans up3).trans up4, .inr (.inr (by rw [hs]; exact hh4)), na, os, ag, hno rfl⟩
      first
        | exact wpAny_bind (wpAny_pure (wpAny_bind fin))
        | exact wpAny_bind fin
  · cases f with
    | next => obtain ⟨σ', H', J', q⟩ := hsp; exact wpAny_execs_nil ⟨σ', H', J'.ofTry ok, q⟩
    | brk => obtain ⟨σ', H', J', q⟩ := hsp; exact ⟨σ', H', J'.ofTry ok, q⟩
    | cont => obtain ⟨σ', H', J', q⟩ := hsp; exact ⟨σ', H', J'.ofTry ok, q⟩
    | ret u => obtain ⟨v, σ', H', J', r, q⟩ := hsp; exact ⟨v, σ', H', J'.ofTry ok, r, q⟩
end
end Dl

set_option linter.all false
set_option maxRecDepth 100000
namespace Dl
open PySem PySem.Spec PyProof.Rows L2
section
variable {K : PySem.W.Frag} {H Z H' Z' : Hp}
mutual
theorem O.noxd : ∀ {d : D} {v : V} {A : List Addr}, O K H Z d v A → ∀ a ∈ A, ∀ fs, H a ≠ some (.xd fs)
  | _, _, _, .non, _, h => nomatch h
  | _, _, _, .bl _, _, h => nomatch h
  | _, _, _, .int _, _, h => nomatch h
  | _, _, _, .str _, _, h => nomatch h
  | _, _, _, .cst _, _, h => nomatch h
  | _, _, _, .hol _, _, h => nomatch h
  | _, _, _, .exv _, _, h => nomatch h
  | _, _, _, .scr _, _, h => nomatch h
  | _, _, _, .tup _ h2, a, h => Os.noxd h2 a h
  | _, _, _, .shr _ _, _, h => nomatch h
  | _, _, _, .dsh _ _, _, h => nomatch h
  | _, _, _, .lst h1 h2 h3, a, h => fun fs e => (List.mem_cons.mp h).elim (fun z => by subst z; rw [h1] at e; cases e) fun h => Os.noxd h3 a h fs e
  | _, _, _, .dic h1 h2 h3, a, h => fun fs e => (List.mem_cons.mp h).elim (fun z => by
      subst z
      obtain ⟨kvs, e1, _⟩ := h1
      rw [e1] at e; cases e) fun h => Os.noxd h3 a h fs e
  | _, _, _, .ins h1 h2 h3 h4 h5, a, h => fun fs e => (List.mem_cons.mp h).elim (fun z => by subst z; rw [h1] at e; cases e) fun h => (List.mem_cons.mp h).elim (fun z => by subst z; rw [h3] at e; cases e) fun h => Os.noxd h5 a h fs e
theorem Os.noxd : ∀ {d : List D} {v : List V} {A : List Addr}, Os K H Z d v A → ∀ a ∈ A, ∀ fs, H a ≠ some (.xd fs)
  | _, _, _, .nil, _, h => nomatch h
  | _, _, _, .cons h1 h2, a, h => (List.mem_append.mp h).elim (O.noxd h1 a) (Os.noxd h2 a)
end
theorem Cells.noxd : ∀ {ρ : Env} {σ : L2.St} {A : List Addr}, Cells K H Z ρ σ A → ∀ a ∈ A, ∀ fs, H a ≠ some (.xd fs)
  | _, _, _, .nil, _, h => nomatch h
  | _, _, _, .no h1, a, h => Cells.noxd h1 a h
  | _, _, _, .so h1 h2, a, h => (List.mem_append.mp h).elim (O.noxd h1 a) (Cells.noxd h2 a)
theorem Tms.noxd {σ : L2.St} : ∀ {τ : List Tm} {vs : List V} {A : List Addr}, Tms K H Z σ τ vs A → ∀ a ∈ A, ∀ fs, H a ≠ some (.xd fs)
  | _, _, _, .nil, _, h => nomatch h
  | _, _, _, .v h1 h2, a, h => (List.mem_append.mp h).elim (O.noxd h1 a) (Tms.noxd h2 a)
  | _, _, _, .s _ h2, a, h => Tms.noxd h2 a h
theorem Good.share {κ : Fr} {L : List Addr} {x : Addr} {o : HO} (g : Good κ H Z L) (hx : H x = some o) (nl : x ∉ L) (k : x ∈ κ.G ∨ κ.H0 x = none) : Good κ H (upd Z x o) L := by
  refine ⟨g.nd, fun b u e => ?_, fun b u e => ?_, g.keep, fun a ha => ?_, fun b u e => ?_⟩
  · by_cases q : b = x
    · subst q; rw [upd_same] at e; cases e; exact hx
    · rw [upd_ne q] at e; exact g.zh b u e
  · have e1 := g.z0 b u e
    by_cases q : b = x
    · subst q
      have := (g.zh b u e1).symm.trans hx
      cases this
      exact upd_same
    · rw [upd_ne q]; exact e1
  · obtain ⟨z, y, w⟩ := g.own a ha
    have hn : a ≠ x := fun q => nl (by rw [← q]; exact ha)
    exact ⟨by rw [upd_ne hn]; exact z, y, w⟩
  · by_cases q : b = x
    · subst q; exact .inr k
    · rw [upd_ne q] at e; exact g.zn b u e
theorem share_same {L : List Addr} {κ : Fr} {x : Addr} {o : HO} (g : Good κ H Z L) (hx : H x = some o) : Same Z (upd Z x o) := fun b u e => by
  by_cases q : b = x
  · subst q
    have := (g.zh b u e).symm.trans hx
    cases this
    exact upd_same
  · rw [upd_ne q]; exact e
def fsV (e : Exn) : List (Str × V) := e.fs.map fun p => (p.1, scV p.2)
variable {κ : Fr} {ρ : Env} {τ : List Tm} {vs : List V} {σ : L2.St}
theorem Stt.catch {e : Exn} {d : Option Addr} {a : Addr} (h : Stt K κ ρ τ vs σ H) (eo : ExOk κ H e d) (na : H a = none) : Stt K κ ρ (.v (.exv e.cls (fsV e)) :: τ) (.ref a :: vs) σ (upd H a (XO (.ref (exA K e.cls)) d a)) := by
  obtain ⟨Z, A, B, c, t, g⟩ := h
  have nx : ∀ b ∈ A ++ B, ∀ fs, H b ≠ some (.xd fs) := fun b hb => (List.mem_append.mp hb).elim (c.noxd b) (t.noxd b)
  have fin : ∀ Z1, Same Z Z1 → Good κ H Z1 (A ++ B) → (match fsV e with | [] => d = none | fs => ∃ x, d = some x ∧ Z1 x = some (.xd fs)) → Stt K κ ρ (.v (.exv e.cls (fsV e)) :: τ) (.ref a :: vs) σ (upd H a (XO (.ref (exA K e.cls)) d a)) := fun Z1 zz g1 hd => by
    have g2 : Good κ (upd H a (XO (.ref (exA K e.cls)) d a)) (upd Z1 a (XO (.ref (exA K e.cls)) d a)) (A ++ B) := g1.newZ na
    have z1 : Same Z1 (upd Z1 a (XO (.ref (exA K e.cls)) d a)) := upd_Same (z_new g1 na)
    have keep : ∀ b ∈ A ++ B, (upd H a (XO (.ref (exA K e.cls)) d a)) b = H b ∧ (upd Z1 a (XO (.ref (exA K e.cls)) d a)) b = none := fun b hb => by
      obtain ⟨q1, ⟨o, q2⟩, _⟩ := g1.own b hb
      have hn : b ≠ a := ne_of_none q2 na
      exact ⟨upd_ne hn, by rw [upd_ne hn]; exact q1⟩
    refine ⟨_, A, [] ++ B, c.keep (zz.trans z1) fun b hb => keep b (List.mem_append_left _ hb), .v (.exv ⟨d, upd_same, ?_⟩) (t.keep (zz.trans z1) fun b hb => keep b (List.mem_append_right _ hb)), g2⟩
    cases hf : fsV e with
    | nil => rw [hf] at hd; exact hd
    | cons p l =>
      rw [hf] at hd
      obtain ⟨x, q1, q2⟩ := hd
      exact ⟨x, q1, z1 _ _ q2⟩
  unfold ExOk at eo
  cases he : e.fs with
  | nil =>
    rw [he] at eo
    refine fin Z (Same.refl Z) g ?_
    have : fsV e = [] := by unfold fsV; rw [he]; rfl
    rw [this]; exact eo
  | cons p l =>
    rw [he] at eo
    obtain ⟨x, q1, q2, q3⟩ := eo
    have nl : x ∉ A ++ B := fun hx => nx x hx _ q2
    refine fin _ (share_same g q2) (g.share q2 nl q3) ?_
    have : fsV e = ((p :: l).map fun p => (p.1, scV p.2)) := by unfold fsV; rw [he]
    rw [this]
    exact ⟨x, q1, upd_same⟩
theorem Stt.unset {i : Nat} (vo : vOnly τ) (h : Stt K κ ρ τ vs σ H) : Stt K κ (ρ.set i none) τ vs (σ.set i none) H := h.wipe vo [i]
end
def sTry (m : Nat → Option Bool) (i : Nat) (f g : Cm Fl) : Cm Fl := fun ρ => match f ρ with
  | .exc e ρ1 => match m e.cls with
    | some true => if i < ρ1.length then (match g (ρ1.set i (some (.exv e.cls (fsV e)))) with
      | .ok fl ρ2 => .ok fl (ρ2.set i none)
      | _ => .bad) else .bad
    | some false => .exc e ρ1
    | none => .bad
  | .ok fl ρ1 => .ok fl ρ1
  | .bad => .bad
def sTryN (m : Nat → Option Bool) (f g : Cm Fl) : Cm Fl := fun ρ => match f ρ with
  | .exc e ρ1 => match m e.cls with
    | some true => (match g ρ1 with
      | .ok fl ρ2 => .ok fl ρ2
      | _ => .bad)
    | some false => .exc e ρ1
    | none => .bad
  | .ok fl ρ1 => .ok fl ρ1
  | .bad => .bad
theorem Frm.more {as bs : List Nat} {σ σ' : L2.St} (h : Frm as σ σ') (k : ∀ i ∈ as, i ∈ bs) : Frm bs σ σ' := fun i hi => h i fun q => hi (k i q)
section
variable {X : Cx} {W : WX} {x n : Str} {c : Value} {i : Nat} {as bs : List Nat} {body suite : List Stmt} {b₀ : Stmt} {np pos pos' : Pos} {m : Nat → Option Bool} {f g : Cm Fl}
theorem postS_more {K : PySem.W.Frag} {as bs : List Nat} {κ : Fr} {τ : List Tm} {vs : List V} {D : Ends} {σ : L2.St} (k : ∀ i ∈ as, i ∈ bs) : ∀ {fl : Fl} {ρ : Env}, postS K bs κ τ vs D σ fl ρ → postS K as κ τ vs D σ fl ρ
  | .nx, _, h => fun σ' H' fm st => h σ' H' (fm.more k) st
  | .bk, _, h => fun σ' H' fm st => h σ' H' (fm.more k) st
  | .ct, _, h => fun σ' H' fm st => h σ' H' (fm.more k) st
  | .rt d, _, h => fun v σ' H' fm st => h v σ' H' (fm.more k) st
theorem DS.tryAs (hN : X.N.Nodup) (hc : Names X x c) (hm : ∀ t b, m t = some b → PySem.W.exmOne X.K (.ref (exA X.K t)) c = some b) (tk : Takes X W)
    (hb : ∀ (W : WX) (pn : List (Addr × Obj)) (xe : Value → Shared → Prop), Takes (X.tr pn xe) W → PassesOwn (model X.prog X.w) X.A X.env xe → DSs (X.tr pn xe) W as body f)
    (hsu : ∀ (a : Addr) (pn : List (Addr × Obj)), DSs (X.suite a pn) WF bs (b₀ :: suite) g)
    (hi : X.N[i]? = some n := by rfl) (hs : X.stack = X.env :: X.outer := by rfl) (hf : X.env.frame = some X.env.locals := by rfl) (hex : X.ex = [] := by rfl) (hln : X.env.kindOf n = some .local := by rfl) :
    DS X W (as ++ (i :: bs)) (.Try body [.ExceptHandler (some (.Name x np)) (some n) (b₀ :: suite) pos'] [] [] pos) (sTry m i f g) := by
  have k1 : ∀ j ∈ as, j ∈ as ++ (i :: bs) := fun j h => List.mem_append_left _ h
  have k2 : ∀ j ∈ bs, j ∈ as ++ (i :: bs) := fun j h => List.mem_append_right _ (List.mem_cons_of_mem _ h)
  have k3 : i ∈ as ++ (i :: bs) := List.mem_append_right _ List.mem_cons_self
  refine PS.imp (ps_tryAs (tb := fun W => tDS X.K W as f) (ts := tDS X.K WF bs g) (Wout := W) hs hf hex hN hi hln hc tk hb hsu) fun D σ H ⟨κ, ρ, τ, vs, vo, st, w⟩ => ?_
  refine ⟨κ, ρ, τ, vs, vo, st, ?_⟩
  unfold sTry at w
  cases hfr : f ρ with
  | bad => rw [hfr] at w; exact w
  | ok fl ρ1 => rw [hfr] at w; exact postS_more k1 w
  | exc e ρ1 =>
    rw [hfr] at w
    intro σ' H' d fm st1 eo
    cases hme : m e.cls with
    | none => simp only [hme] at w; exact w.elim
    | some b =>
      refine ⟨b, hm _ _ hme, fun hbt a na => ?_, fun hbf => ?_⟩
      · subst hbt
        simp only [hme] at w
        by_cases hi2 : i < ρ1.length
        · rw [if_pos hi2] at w
          have st2 := (st1.catch eo na).put hi2 vo
          have fm2 : ∀ {σ3 : L2.St}, Frm bs (σ'.set i (some (.ref a))) σ3 → Frm (as ++ (i :: bs)) σ σ3 := fun {σ3} q j hj => by
            have hij : j ≠ i := fun z => hj (z ▸ k3)
            rw [q j fun z => hj (k2 j z), List.getElem?_set_ne (Ne.symm hij)]
            exact fm j fun z => hj (k1 j z)
          have fm3 : ∀ {σ3 : L2.St}, Frm bs (σ'.set i (some (.ref a))) σ3 → Frm (as ++ (i :: bs)) σ (σ3.set i none) := fun {σ3} q j hj => by
            have hij : j ≠ i := fun z => hj (z ▸ k3)
            rw [List.getElem?_set_ne (Ne.symm hij)]
            exact fm2 q j hj
          refine ⟨κ, _, τ, vs, vo, st2, ?_⟩
          cases hg : g (ρ1.set i (some (.exv e.cls (fsV e)))) with
          | bad => simp only [hg] at w; exact w
          | exc e2 ρ2 => simp only [hg] at w; exact w.elim
          | ok fl ρ2 =>
            simp only [hg] at w
            cases fl with
            | nx => exact fun σ3 H3 q st3 => w _ H3 (fm3 q) (st3.unset vo)
            | bk => exact fun σ3 H3 q st3 => w _ H3 (fm3 q) (st3.unset vo)
            | ct => exact fun σ3 H3 q st3 => w _ H3 (fm3 q) (st3.unset vo)
            | rt d => exact fun v σ3 H3 q st3 => w v σ3 H3 (fm2 q) st3.drop
        · rw [if_neg hi2] at w; exact w.elim
      · subst hbf
        simp only [hme] at w
        exact w σ' H' d (fm.more k1) st1 eo
theorem DS.tryN (hc : Names X x c) (hm : ∀ t b, m t = some b → PySem.W.exmOne X.K (.ref (exA X.K t)) c = some b) (tk : Takes X W)
    (hb : ∀ (W : WX) (pn : List (Addr × Obj)) (xe : Value → Shared → Prop), Takes (X.tr pn xe) W → PassesOwn (model X.prog X.w) X.A X.env xe → DSs (X.tr pn xe) W as body f)
    (hsu : ∀ (a : Addr) (pn : List (Addr × Obj)), DSs (X.suite a pn) WF bs (b₀ :: suite) g)
    (hs : X.stack = X.env :: X.outer := by rfl) (hf : X.env.frame = some X.env.locals := by rfl) (hex : X.ex = [] := by rfl) :
    DS X W (as ++ bs) (.Try body [.ExceptHandler (some (.Name x np)) none (b₀ :: suite) pos'] [] [] pos) (sTryN m f g) := by
  have k1 : ∀ j ∈ as, j ∈ as ++ bs := fun j h => List.mem_append_left _ h
  have k2 : ∀ j ∈ bs, j ∈ as ++ bs := fun j h => List.mem_append_right _ h
  refine PS.imp (ps_tryNo (tb := fun W => tDS X.K W as f) (ts := tDS X.K WF bs g) (Wout := W) hs hf hex hc tk hb hsu) fun D σ H ⟨κ, ρ, τ, vs, vo, st, w⟩ => ?_
  refine ⟨κ, ρ, τ, vs, vo, st, ?_⟩
  unfold sTryN at w
  cases hfr : f ρ with
  | bad => rw [hfr] at w; exact w
  | ok fl ρ1 => rw [hfr] at w; exact postS_more k1 w
  | exc e ρ1 =>
    rw [hfr] at w
    intro σ' H' d fm st1 eo
    cases hme : m e.cls with
    | none => simp only [hme] at w; exact w.elim
    | some b =>
      refine ⟨b, hm _ _ hme, fun hbt a na => ?_, fun hbf => ?_⟩
      · subst hbt
        simp only [hme] at w
        have st2 := (st1.catch eo na).pop
        have fm2 : ∀ {σ3 : L2.St}, Frm bs σ' σ3 → Frm (as ++ bs) σ σ3 := fun {σ3} q j hj => by
          rw [q j fun z => hj (k2 j z)]
          exact fm j fun z => hj (k1 j z)
        refine ⟨κ, _, τ, vs, vo, st2, ?_⟩
        cases hg : g ρ1 with
        | bad => simp only [hg] at w; exact w
        | exc e2 ρ2 => simp only [hg] at w; exact w.elim
        | ok fl ρ2 =>
          simp only [hg] at w
          cases fl with
          | nx => exact fun σ3 H3 q st3 => w _ H3 (fm2 q) st3
          | bk => exact fun σ3 H3 q st3 => w _ H3 (fm2 q) st3
          | ct => exact fun σ3 H3 q st3 => w _ H3 (fm2 q) st3
          | rt d => exact fun v σ3 H3 q st3 => w v σ3 H3 (fm2 q) st3
      · subst hbf
        simp only [hme] at w
        exact w σ' H' d (fm.more k1) st1 eo
end
end Dl

set_option linter.all false
set_option maxRecDepth 100000
namespace Dl
open PySem PySem.Spec PyProof.Rows L2
def clsB (K : PySem.W.Frag) (C : Addr) : Bool := match K.lookup C with
  | some ⟨.type t, _, .cls cd, sl⟩ => (match cd.mro, sl.toList with
    | .ref C' :: bm, [_, _, _, _, some (.builtin n), _] => decide (t = "type") && (decide (C' = C) && (decide (n = "ValueError.__new__") && (!cd.hasDel && (cd.hasDict && PySem.HandSPX.refsVE bm))))
    | _, _ => false)
  | _ => false
theorem clsB_ok {K : PySem.W.Frag} {C : Addr} (q : clsB K C = true) : ∃ nm q N bs bm sn sub ab col dd k0 k1 k2 k3 k5, K.lookup C = some (excClassObj nm q C N bs bm true sn sub ab col dd k0 k1 k2 k3 k5 "ValueError.__new__") ∧ PySem.HandSPX.refsVE bm = true := by
  unfold clsB at q
  split at q
  · rename_i t dd cd sl ho
    split at q
    · rename_i C' bm k0 k1 k2 k3 n k5 hm hs
      simp only [Bool.and_eq_true, Bool.not_eq_true', decide_eq_true_eq] at q
      obtain ⟨rfl, rfl, rfl, h1, h2, h3⟩ := q
      obtain ⟨nm, bs, mro, ns, qn, hd, sn, sub, ab, col, del⟩ := cd
      dsimp only at hm h1 h2
      subst hm h1 h2
      have hsl : sl = #[k0, k1, k2, k3, some (.builtin "ValueError.__new__"), k5] := by
        obtain ⟨l⟩ := sl
        simp only at hs
        rw [hs]
      subst hsl
      exact ⟨nm, qn, ns, bs, bm, sn, sub, ab, col, dd, k0, k1, k2, k3, k5, ho, h3⟩
    · cases q
  · cases q
def exB (K : PySem.W.Frag) (t : Nat) (ns : List Str) : Bool :=
  let C := exA K t
  let V := Value.ref C
  clsB K C && (decide (PySem.W.nsIn K mainGlobals (exN t) = some (some V)) && (decide (PySem.W.findIn K V "__setattr__" = some (some (.builtin "object.__setattr__"))) && (decide (PySem.W.subIn K V (.type "BaseException") = some true) &&
    (decide (PySem.W.typeIn K V = some (.type "type")) && (PySem.W.keepIn K V && (decide (PySem.W.findIn K V "__getattribute__" = some (some (.builtin "BaseException.__getattribute__"))) && (decide (PySem.W.findIn K V "__getattr__" = some none) &&
    (PySem.W.hasDictIn K C && (decide (PySem.W.findIn K V "__class__" = some (some (.builtin "object.__class__"))) && (decide (PySem.W.mroIn K C (.type "object") = some true) &&
    (decide (PySem.W.findIn K V "__init__" = some (some (.ref (He.ma K C "__init__")))) && (decide (PySem.W.typeIn K (.ref (He.ma K C "__init__")) = some (.type "function")) && ns.all fun f => decide (PySem.W.findIn K V f = some none)))))))))))))
def clB (K : PySem.W.Frag) : Bool := decide (PySem.W.specialIn K (.builtin "object.__class__") "__get__" = some (some (.builtin "getset_descriptor.__get__"))) && decide (PySem.W.takesIn K (.builtin "object.__class__") = some true)
def exB0 (K : PySem.W.Frag) (t : Nat) : Bool := decide (PySem.W.nsIn K mainGlobals (exN t) = some (some (.ref (exA K t))))
structure ExF (K : PySem.W.Frag) (t : Nat) (ns : List Str) : Prop where
  ns_ : PySem.W.nsIn K mainGlobals (exN t) = some (some (.ref (exA K t)))
  T : OexC K (exA K t)
  xf : XfC K (exA K t)
  ca : PySem.W.findIn K (.ref (exA K t)) "__class__" = some (some (.builtin "object.__class__"))
  mo : PySem.W.mroIn K (exA K t) (.type "object") = some true
  iC : PySem.W.findIn K (.ref (exA K t)) "__init__" = some (some (.ref (He.ma K (exA K t) "__init__")))
  tI : PySem.W.typeIn K (.ref (He.ma K (exA K t) "__init__")) = some (.type "function")
  no : ∀ f ∈ ns, PySem.W.findIn K (.ref (exA K t)) f = some none
theorem exB_ok {K : PySem.W.Frag} {t : Nat} {ns : List Str} (h : exB K t ns = true) : ExF K t ns := by
  unfold exB at h
  simp only [Bool.and_eq_true, decide_eq_true_eq, List.all_eq_true] at h
  obtain ⟨h1, h2, h3, h4, h5, h6, h7, h8, h9, h10, h11, h12, h13, h14⟩ := h
  exact ⟨h2, ⟨clsB_ok h1, h3, h4, h5, h6⟩, ⟨h7, h8, h4, h9⟩, h10, h11, h12, h13, h14⟩
def fldO (ns : List Str) (vs : List V) : List (Str × V) := (ns.zip vs).reverse
def spI1 (C : Addr) (f : Str) : Sp := fun vs H Q _ => ∃ a v, vs = [.ref a, v] ∧ H a = some (exo a C none) ∧ ∀ dx, H dx = none → dx ≠ a → Q .non (upd (upd H dx (exd dx [(f, v)])) a (exo a C (some dx)))
def spI2 (C : Addr) (f g : Str) : Sp := fun vs H Q _ => ∃ a v u, vs = [.ref a, v, u] ∧ H a = some (exo a C none) ∧ ∀ dx, H dx = none → dx ≠ a → Q .non (upd (upd (upd H dx (exd dx [(f, v)])) a (exo a C (some dx))) dx (exd dx [(g, u), (f, v)]))
structure ExMk (P : Program) (w : World) (K : PySem.W.Frag) (mg : Str → Option Value) (base : Heap) (t : Nat) (ns : List Str) : Prop where
  F : ExF K t ns
  gC : mg (exN t) = some (.ref (exA K t))
  mkr : ∃ (fd : FuncData) (ps : List Str) (sp : Sp), FnOk P w K mg base (L2.CX P w) 1 (He.ma K (exA K t) "__init__") fd ps sp ∧ Binds K fd ps [] ∧
    ∀ (vs : List V) (H1 : Hp) (a : Addr) (Q : Option Addr → Hp → Prop), vs.length = ns.length → H1 a = none → (∀ d, H1 d = none → Q (some d) (upd H1 d (.xd (fldO ns vs)))) →
      sp (.ref a :: (vs ++ [])) (upd H1 a (exo a (exA K t) none)) (fun v H2 => v = .non ∧ ∃ (d : Addr) (fs : List (Str × V)), H2 a = some (exo a (exA K t) (some d)) ∧ H2 d = some (exd d fs) ∧ H1 d = none ∧ Q (some d) (upd (L2.del H2 a) d (.xd fs))) (fun _ _ _ => False)
theorem ExMk.one {P : Program} {w : World} {K : PySem.W.Frag} {mg : Str → Option Value} {base : Heap} {t : Nat} {f : Str} {fd : FuncData} {ps : List Str} (F : ExF K t [f]) (gC : mg (exN t) = some (.ref (exA K t)))
    (G : FnOk P w K mg base (L2.CX P w) 1 (He.ma K (exA K t) "__init__") fd ps (spI1 (exA K t) f)) (b : Binds K fd ps []) : ExMk P w K mg base t [f] := by
  refine ⟨F, gC, fd, ps, _, G, b, fun vs H1 a Q hl ha k => ?_⟩
  match vs, hl with
  | [v], _ =>
    refine ⟨a, v, rfl, upd_same, fun dx n ne => ⟨rfl, dx, [(f, v)], upd_same, ?_, ?_, ?_⟩⟩
    · rw [upd_ne ne, upd_same]
    · rw [upd_ne ne] at n; exact n
    · have e : upd (L2.del (upd (upd (upd H1 a (exo a (exA K t) none)) dx (exd dx [(f, v)])) a (exo a (exA K t) (some dx))) a) dx (.xd [(f, v)]) = upd H1 dx (.xd (fldO [f] [v])) := by
        funext b
        show (if b = dx then _ else _) = (if b = dx then _ else _)
        by_cases h1 : b = dx
        · rw [if_pos h1, if_pos h1]; rfl
        · rw [if_neg h1, if_neg h1]
          show (if b = a then none else _) = H1 b
          by_cases h2 : b = a
          · rw [if_pos h2, h2, ha]
          · rw [if_neg h2]
            show (if b = a then _ else if b = dx then _ else if b = a then _ else H1 b) = H1 b
            rw [if_neg h2, if_neg h1, if_neg h2]
      rw [e]
      rw [upd_ne ne] at n
      exact k dx n
theorem ExMk.two {P : Program} {w : World} {K : PySem.W.Frag} {mg : Str → Option Value} {base : Heap} {t : Nat} {f g : Str} {fd : FuncData} {ps : List Str} (F : ExF K t [f, g]) (gC : mg (exN t) = some (.ref (exA K t)))
    (G : FnOk P w K mg base (L2.CX P w) 1 (He.ma K (exA K t) "__init__") fd ps (spI2 (exA K t) f g)) (b : Binds K fd ps []) : ExMk P w K mg base t [f, g] := by
  refine ⟨F, gC, fd, ps, _, G, b, fun vs H1 a Q hl ha k => ?_⟩
  match vs, hl with
  | [v, u], _ =>
    refine ⟨a, v, u, rfl, upd_same, fun dx n ne => ⟨rfl, dx, [(g, u), (f, v)], ?_, upd_same, ?_, ?_⟩⟩
    · rw [upd_ne (Ne.symm ne), upd_same]
    · rw [upd_ne ne] at n; exact n
    · have e : upd (L2.del (upd (upd (upd (upd H1 a (exo a (exA K t) none)) dx (exd dx [(f, v)])) a (exo a (exA K t) (some dx))) dx (exd dx [(g, u), (f, v)])) a) dx (.xd [(g, u), (f, v)]) = upd H1 dx (.xd (fldO [f, g] [v, u])) := by
        funext b
        show (if b = dx then _ else _) = (if b = dx then _ else _)
        by_cases h1 : b = dx
        · rw [if_pos h1, if_pos h1]; rfl
        · rw [if_neg h1, if_neg h1]
          show (if b = a then none else _) = H1 b
          by_cases h2 : b = a
          · rw [if_pos h2, h2, ha]
          · rw [if_neg h2]
            show (if b = dx then _ else if b = a then _ else if b = dx then _ else if b = a then _ else H1 b) = H1 b
            rw [if_neg h1, if_neg h2, if_neg h1, if_neg h2]
      rw [e]
      rw [upd_ne ne] at n
      exact k dx n
def isSc : D → Bool
  | .non => true
  | .bl _ => true
  | .int _ => true
  | .str _ => true
  | _ => false
theorem O.sc {K : PySem.W.Frag} {H Z : Hp} {d : D} {v : V} {A : List Addr} (o : O K H Z d v A) (h : isSc d = true) : v = scV d := by
  cases o <;> first | rfl | cases h
theorem looks_sc {K : PySem.W.Frag} {κ : Fr} {ρ : Env} {σ : L2.St} {H : Hp} : ∀ {ts : List Tm} {xs : List V} {τ : List Tm} {vs : List V} {ds : List D}, xs.length = ts.length → looks ρ ts = some ds → ds.all isSc = true → Stt K κ ρ (ts ++ τ) (xs ++ vs) σ H → xs = ds.map scV
  | [], [], _, _, _, _, e, _, _ => by cases e; rfl
  | [], _ :: _, _, _, _, hl, _, _, _ => by simp at hl
  | _ :: _, [], _, _, _, hl, _, _, _ => by simp at hl
  | t :: ts, x :: xs, τ, vs, ds, hl, e, hs, st => by
    unfold looks at e
    cases hd : look ρ t with
    | none => rw [hd] at e; cases e
    | some d =>
      rw [hd] at e
      obtain ⟨ds', e1, rfl⟩ := Option.map_eq_some_iff.mp e
      simp only [List.all_cons, Bool.and_eq_true] at hs
      obtain ⟨Z, C, o, zz⟩ := st.look hd
      rw [o.sc hs.1, looks_sc (by simpa using hl) e1 hs.2 st.pop]
      rfl
theorem Stt.fresh {K : PySem.W.Frag} {κ : Fr} {ρ : Env} {τ : List Tm} {vs : List V} {σ : L2.St} {H : Hp} {p : Addr} {o : HO} (h : Stt K κ ρ τ vs σ H) (hp : H p = none) : Stt K κ ρ τ vs σ (upd H p o) ∧ (p ∈ κ.G ∨ κ.H0 p = none) := by
  obtain ⟨Z, A, B, c, t, g⟩ := h
  have keep : ∀ b ∈ A ++ B, (upd H p o) b = H b ∧ (upd Z p o) b = none := fun b hb => by
    obtain ⟨q1, ⟨u, q2⟩, _⟩ := g.own b hb
    have hn : b ≠ p := ne_of_none q2 hp
    exact ⟨upd_ne hn, by rw [upd_ne hn]; exact q1⟩
  have z1 : Same Z (upd Z p o) := upd_Same (z_new g hp)
  exact ⟨⟨_, A, B, c.keep z1 fun b hb => keep b (List.mem_append_left _ hb), t.keep z1 fun b hb => keep b (List.mem_append_right _ hb), g.newZ hp⟩, h0_or g hp⟩
def sRaise (t : Nat) (ns : List Str) (fs : Cm (List Tm)) : Cm Fl := fun ρ => (fs ρ).bind fun ts ρ1 => match looks ρ1 ts with
  | some ds => if ds.all isSc = true ∧ ds.length = ns.length then .exc ⟨t, (ns.zip ds).reverse⟩ ρ1 else .bad
  | none => .bad
theorem looks_len {ρ : Env} : ∀ {ts : List Tm} {ds : List D}, looks ρ ts = some ds → ds.length = ts.length
  | [], _, e => by cases e; rfl
  | t :: ts, ds, e => by
    unfold looks at e
    cases hd : look ρ t with
    | none => rw [hd] at e; cases e
    | some d =>
      rw [hd] at e
      obtain ⟨ds', e1, rfl⟩ := Option.map_eq_some_iff.mp e
      simp [looks_len e1]
section
variable {X : Cx} {W : WX} {q : Bool} {e : Expr} {es : List Expr} {fs : Cm (List Tm)} {t k : Nat} {ns : List Str} {x : Str} {p pos pos' : Pos}
theorem DS.raise (M : ExMk X.prog X.w X.K X.mg X.base t ns) (hr : RoomG k X.A) (hk : 2 ≤ k) (tk : Takes X W) (hn : ns ≠ []) (hn2 : ns.length ≤ 1000) (ha : DA X W q (e :: es) fs) (hx : exN t = x := by rfl) (hc : X.calm = true := by rfl) (hg : Gl X x := by rfl)
    (hdb : (x == ("__debug__" : Str)) = false := by decide) (he : starEach (e :: es) X.env = (false, eval e X.env) :: starEach es X.env := by rfl) (hpl : (backTo pos (starEach es X.env)).any (·.1) = false := by rfl) :
    DS X W [] (.Raise (some (.Call (.Name x p) (e :: es) [] pos)) none pos') (sRaise t ns fs) := by
  subst hx
  obtain ⟨fd, ps, sp, F, b, hsp⟩ := M.mkr
  refine PS.imp (ps_raise hc tk (pmk_oex (CX := L2.CX X.prog X.w) M.F.T M.F.iC M.F.tI F (hr.r.mono hk) b (dvs := []) .nil passL hg M.gC ha hdb he hpl)) fun D σ H ⟨κ, ρ, τ, vs, vo, st, w⟩ => ?_
  refine ⟨κ, ρ, τ, vs, st, Out.wp_mono (Out.wp_bind w) (fun ts ρ1 w1 xs H1 hl st1 k1 => ?_) fun e ρ1 z H' d s2 eo => z σ H' d Frm.refl s2 eo⟩
  try dsimp only at w1
  cases hlo : looks ρ1 ts with
  | none => simp only [hlo] at w1; exact w1.elim
  | some ds =>
    simp only [hlo] at w1
    by_cases hd : ds.all isSc = true ∧ ds.length = ns.length
    · rw [if_pos hd] at w1
      have ex := looks_sc hl hlo hd.1 st1
      have hll : xs.length = ns.length := by rw [hl, ← looks_len hlo]; exact hd.2
      refine ⟨?_, fun a na => hsp xs H1 a (fun d H' => W (.ref (exA X.K t)) d σ H') hll na fun d nd => ?_⟩
      · rw [hll]; exact hn2
      · obtain ⟨s3, s4⟩ := (st1.popN hl).fresh (o := .xd (fldO ns xs)) nd
        refine w1 σ _ (some d) Frm.refl s3 ?_
        unfold ExOk
        have e1 : ((ns.zip ds).reverse.map fun p => (p.1, scV p.2)) = fldO ns xs := by
          unfold fldO
          rw [ex, List.map_reverse, List.zip_map_right]
          rfl
        cases hz : (ns.zip ds).reverse with
        | nil =>
          exfalso
          have h2 : ns.zip ds = [] := by simpa using hz
          cases ns with
          | nil => exact hn rfl
          | cons n ns =>
            cases ds with
            | nil => simp at hd
            | cons d ds => simp at h2
        | cons p0 l0 =>
          rw [hz] at e1
          exact ⟨d, rfl, by rw [← e1]; exact upd_same, s4⟩
    · rw [if_neg hd] at w1; exact w1.elim
end
end Dl

set_option linter.all false
set_option maxRecDepth 100000
namespace Dl
open PySem PySem.Spec PyProof.Rows L2
def vD : V → Option D
  | .non => some .non
  | .bl b => some (.bl b)
  | .int i => some (.int i)
  | .str x => some (.str x.cps.toList)
  | _ => none
theorem vD_o {K : PySem.W.Frag} {H Z : Hp} {v : V} {d : D} (h : vD v = some d) : O K H Z d v [] := by
  cases v <;> simp only [vD, Option.some.injEq, reduceCtorEq] at h <;> subst h
  · exact .non
  · exact .bl _
  · exact .int _
  · rename_i x
    have : x = ⟨x.cps.toList.toArray⟩ := by cases x; simp
    rw [this]
    have e : (⟨x.cps.toList.toArray⟩ : Str).cps.toList = x.cps.toList := by simp
    rw [e]
    exact .str _
section
variable {X : Cx} {W : WX} {q : Bool} {e : Expr} {f : Cm Tm} {n : Str} {pos : Pos} {te : TE}
def tXt (K : PySem.W.Frag) (cs : List Nat) (n : Str) (te : TE) : TE := fun σ H Q => te σ H fun x H1 => ∃ (a dd : Addr) (c : Nat) (fs : List (Str × V)) (v : V), x = .ref a ∧ c ∈ cs ∧ H1 a = some (XO (.ref (exA K c)) (some dd) a) ∧ H1 dd = some (.xd fs) ∧ fs.lookup n = some v ∧ Q v H1
theorem pe_xt {cs : List Nat} (T : ∀ c ∈ cs, XfC X.K (exA X.K c) ∧ PySem.W.findIn X.K (.ref (exA X.K c)) n = some none) (he : PE X e te) (hb : attributeBase e n X.env (eval e X.env) = eval e X.env := by rfl) : PE X (.Attribute e n pos) (tXt X.K cs n te) := by
  refine ⟨fun pins s σ H Q I h => attr_of hb (thn (he.run pins s σ H _ I h) fun u s1 hh => ?_)⟩
  obtain ⟨x, H1, I1, rx, a, dd, c, fs, v, ex, hc, ea, ed, l, q⟩ := hh
  subst ex
  obtain rfl : u = Value.ref a := rx
  obtain ⟨T1, hno⟩ := T c hc
  obtain ⟨oe, vs, ha, hz, hd⟩ := xo_at (I1.hok a _ ea)
  have hx : ObjOk X.prog X.w H1 s1.heap dd (.xd fs) := I1.hok dd _ ed
  obtain ⟨mA, hns, hr⟩ := hx
  obtain ⟨od, ho, hl⟩ := lookIn_ns hns
  obtain ⟨u, hu, ru⟩ := RelO.some_of (v := v) (o := mA n) (by rw [← l]; exact hr n)
  have J : PySem.W.InstAt s1.heap a oe (exA X.K c) (some od) := ⟨ha, hz.1, by unfold PySem.W.notCls; rw [hd] <;> rfl, by rw [hz.2]; exact ho⟩
  exact HandSPX.exc_get I1.kIn J T1.ga T1.gg T1.exC (PySem.W.findObj_own T1.hdC hno rfl (by rw [hl, hu])) (handed_of ru) ⟨v, H1, I1.tok _, ru, q⟩
def eXf (cs : List Nat) (n : Str) (f : Cm Tm) : Cm Tm := fun ρ => (f ρ).bind fun t ρ1 => match look ρ1 t with
  | some (.exv c fs) => if c ∈ cs then (match (fs.lookup n).bind vD with
    | some d => .ok (.v d) ρ1
    | none => .bad) else .bad
  | _ => .bad
theorem DE.xf {cs : List Nat} (T : ∀ c ∈ cs, XfC X.K (exA X.K c) ∧ PySem.W.findIn X.K (.ref (exA X.K c)) n = some none) (he : DE X W q e f) (hb : attributeBase e n X.env (eval e X.env) = eval e X.env := by rfl) : DE X W q (.Attribute e n pos) (eXf cs n f) := by
  refine PE.imp (pe_xt T he hb) fun σ H Q ⟨κ, ρ, τ, vs, st, w⟩ => ?_
  refine ⟨κ, ρ, τ, vs, st, Out.wp_mono (Out.wp_bind w) (fun t ρ1 w1 v H1 st1 k1 => ?_) fun _ _ z => z⟩
  try dsimp only at w1
  split at w1
  · rename_i c fs hl
    by_cases hc : c ∈ cs
    · rw [if_pos hc] at w1
      cases hf : (fs.lookup n).bind vD with
      | none => simp only [hf] at w1; exact w1.elim
      | some d =>
        simp only [hf] at w1
        obtain ⟨u, hu, hd⟩ := Option.bind_eq_some_iff.mp hf
        obtain ⟨Z, C, o, zz⟩ := st1.look hl
        cases o with
        | @exv a _ _ hx =>
          obtain ⟨d0, h1, h2⟩ := hx
          cases fs with
          | nil => cases hu
          | cons p l =>
            obtain ⟨dd, rfl, h3⟩ := h2
            exact ⟨a, dd, c, p :: l, u, rfl, hc, zz _ _ h1, zz _ _ h3, hu, w1 u H1 (st1.pop.push fun Z => vD_o hd) k1⟩
    · rw [if_neg hc] at w1; exact w1.elim
  · exact w1.elim
def rIsX (K : PySem.W.Frag) (m : Nat → Option Bool) (c : V) : List V → Hp → VK → Prop := fun xs H Q => ∃ (a : Addr) (d : Option Addr) (t : Nat) (b : Bool), xs = [.ref a, c] ∧ H a = some (XO (.ref (exA K t)) d a) ∧ (d = none ∨ ∃ dd fs, d = some dd ∧ H dd = some (.xd fs)) ∧ m t = some b ∧ Q (.bl b) H
def rIsXT (K : PySem.W.Frag) (m : Nat → Option Bool) (cs : List V) : List V → Hp → VK → Prop := fun xs H Q => ∃ (a tp : Addr) (d : Option Addr) (t : Nat) (b : Bool), xs = [.ref a, .ref tp] ∧ H tp = some (.tup cs) ∧ H a = some (XO (.ref (exA K t)) d a) ∧ (d = none ∨ ∃ dd fs, d = some dd ∧ H dd = some (.xd fs)) ∧ m t = some b ∧ Q (.bl b) H
structure IsxC (K : PySem.W.Frag) (C : Addr) : Prop where
  cl : (PySem.W.clsIn K C).isSome = true
  ga : PySem.W.findIn K (.ref C) "__getattribute__" = some (some (.builtin "BaseException.__getattribute__"))
  gg : PySem.W.findIn K (.ref C) "__getattr__" = some none
  su : PySem.W.subIn K (.ref C) (.type "BaseException") = some true
  ca : PySem.W.findIn K (.ref C) "__class__" = some (some (.builtin "object.__class__"))
  hn : PySem.W.specialIn K (.builtin "object.__class__") "__get__" = some (some (.builtin "getset_descriptor.__get__"))
  tk : PySem.W.takesIn K (.builtin "object.__class__") = some true
  mo : PySem.W.mroIn K C (.type "object") = some true
def isxB (K : PySem.W.Frag) (t : Nat) : Bool :=
  let C := exA K t
  let V := Value.ref C
  (PySem.W.clsIn K C).isSome && (decide (PySem.W.findIn K V "__getattribute__" = some (some (.builtin "BaseException.__getattribute__"))) && (decide (PySem.W.findIn K V "__getattr__" = some none) && (decide (PySem.W.subIn K V (.type "BaseException") = some true) &&
    (decide (PySem.W.findIn K V "__class__" = some (some (.builtin "object.__class__"))) && (decide (PySem.W.specialIn K (.builtin "object.__class__") "__get__" = some (some (.builtin "getset_descriptor.__get__"))) && (decide (PySem.W.takesIn K (.builtin "object.__class__") = some true) &&
    decide (PySem.W.mroIn K C (.type "object") = some true)))))))
theorem isxB_ok {K : PySem.W.Frag} {t : Nat} (h : isxB K t = true) : IsxC K (exA K t) := by
  unfold isxB at h
  simp only [Bool.and_eq_true, decide_eq_true_eq] at h
  obtain ⟨h1, h2, h3, h4, h5, h6, h7, h8⟩ := h
  exact ⟨h1, h2, h3, h4, h5, h6, h7, h8⟩
section
variable {pins : List (Addr × Obj)} {σ : L2.St} {H : Hp} {s : Shared} {a : Addr} {d : Option Addr} {t : Nat}
theorem inst_of (I : Inv X pins σ H s) (ea : H a = some (XO (.ref (exA X.K t)) d a)) (hd : d = none ∨ ∃ dd fs, d = some dd ∧ H dd = some (.xd fs)) : ∃ oe od, PySem.W.InstAt s.heap a oe (exA X.K t) od := by
  obtain ⟨oe, vs, ha, hz, hv⟩ := xo_at (I.hok a _ ea)
  have nc : PySem.W.notCls oe = true := by unfold PySem.W.notCls; rw [hv] <;> rfl
  rcases hd with rfl | ⟨dd, fs, rfl, ed⟩
  · exact ⟨oe, none, ha, hz.1, nc, by rw [hz.2]; trivial⟩
  · have hx : ObjOk X.prog X.w H s.heap dd (.xd fs) := I.hok dd _ ed
    obtain ⟨mA, hns, hr⟩ := hx
    obtain ⟨od, ho, hl⟩ := lookIn_ns hns
    exact ⟨oe, some od, ha, hz.1, nc, by rw [hz.2]; exact ho⟩
theorem kit_x {oe : Obj} {od : Option Obj} (C : IsxC X.K (exA X.K t)) : PySem.W.KitX X.K (.ref a) (.ref (exA X.K t)) (fun h => PySem.W.InstAt h a oe (exA X.K t) od) :=
  PySem.W.kitx_exc C.cl C.ga C.gg C.su C.ca C.hn C.tk C.mo
end
theorem call_isX {m : Nat → Option Bool} {c : V} {cv : Value} (hm : ∀ t b, m t = some b → IsxC X.K (exA X.K t) ∧ PySem.W.kitOne X.K (.ref (exA X.K t)) cv = some b) (kc : ClsV c cv) : CallR X (.builtin "isinstance") (rIsX X.K m c) := by
  intro pins s σ H xs us Q I r h
  obtain ⟨a, d, t, b, rfl, ea, hd, hb, q⟩ := h
  obtain ⟨u1, u2, rfl, r1, r2⟩ := vals2 r
  cases (show u1 = Value.ref a from r1)
  have e2 := kc.eq r2
  subst e2
  obtain ⟨C, hk⟩ := hm t b hb
  obtain ⟨oe, od, J⟩ := inst_of I ea hd
  exact PySem.W.kia_one (kit_x C) I.kIn J hk (fun z => nomatch z) fun tk => ⟨.bl b, H, I.tok tk, rfl, q⟩
theorem call_isXT {m : Nat → Option Bool} {cs : List V} {cvs : List Value} (hm : ∀ t b, m t = some b → IsxC X.K (exA X.K t) ∧ PySem.W.kitAny X.K (.ref (exA X.K t)) cvs = some b) (kc : Paired ClsV cs cvs) : CallR X (.builtin "isinstance") (rIsXT X.K m cs) := by
  intro pins s σ H xs us Q I r h
  obtain ⟨a, tp, d, t, b, rfl, hT, ea, hd, hb, q⟩ := h
  obtain ⟨u1, u2, rfl, r1, r2⟩ := vals2 r
  cases (show u1 = Value.ref a from r1)
  cases (show u2 = Value.ref tp from r2)
  obtain ⟨C, hk⟩ := hm t b hb
  obtain ⟨oe, od, J⟩ := inst_of I ea hd
  obtain ⟨_, its, rv, o, h1, h2, n, h3⟩ := (show ObjOk X.prog X.w H s.heap tp (.tup cs) from I.hok tp _ hT)
  have e3 := ClsV.all kc rv
  subst e3
  obtain ⟨oc, od', dt, sl⟩ := o
  simp only at h2 h3
  subst h2 h3
  exact PySem.W.kia_tup (kit_x C) I.kIn J h1 hk (fun z => nomatch z) fun tk => ⟨.bl b, H, I.tok tk, rfl, q⟩
def eIsX (m : Nat → Option Bool) (f : Cm Tm) : Cm Tm := fun ρ => (f ρ).bind fun t ρ1 => match look ρ1 t with
  | some (.exv c _) => match m c with
    | some b => .ok (.v (.bl b)) ρ1
    | none => .bad
  | _ => .bad
theorem isx_st {κ : Fr} {ρ : Env} {τ : List Tm} {vs : List V} {σ : L2.St} {H : Hp} {t : Tm} {v : V} {K : PySem.W.Frag} {c : Nat} {fs : List (Str × V)} (st : Stt K κ ρ (t :: τ) (v :: vs) σ H) (hl : look ρ t = some (.exv c fs)) :
    ∃ a d, v = .ref a ∧ H a = some (XO (.ref (exA K c)) d a) ∧ (d = none ∨ ∃ dd fs, d = some dd ∧ H dd = some (.xd fs)) := by
  obtain ⟨Z, C, o, zz⟩ := st.look hl
  cases o with
  | @exv a _ _ hx =>
    obtain ⟨d0, h1, h2⟩ := hx
    refine ⟨a, d0, rfl, zz _ _ h1, ?_⟩
    cases fs with
    | nil => exact .inl h2
    | cons p l =>
      obtain ⟨dd, e, h3⟩ := h2
      exact .inr ⟨dd, _, e, zz _ _ h3⟩
variable {x : Str} {p p1 : Pos}
theorem DE.isx {m : Nat → Option Bool} {y : Str} {C : Addr} (hm : ∀ t b, m t = some b → IsxC X.K (exA X.K t) ∧ PySem.W.kitOne X.K (.ref (exA X.K t)) (.ref C) = some b) (hi : X.mg "isinstance" = none) (gy : X.mg y = some (.ref C)) (he : DE X W true e f)
    (hgi : Gl X "isinstance" := by rfl) (hgy : Gl X y := by rfl) (hdy : (y == ("__debug__" : Str)) = false := by decide)
    (hs : starEach [e, .Name y p1] X.env = (false, eval e X.env) :: starEach [.Name y p1] X.env := by rfl) (hs2 : starEach [.Name y p1] X.env = (false, eval (.Name y p1) X.env) :: starEach [] X.env := by rfl)
    (hpl : (backTo pos (starEach [.Name y p1] X.env)).any (·.1) = false := by rfl) : DE X W false (.Call (.Name "isinstance" p) [e, .Name y p1] [] pos) (eIsX m f) := by
  refine PE.imp (pe_callB (call_isX hm (.own C)) hgi hi (by decide +kernel) (pa_cons he (pa_cons (pe_glob (v := .ref C) hgy gy rfl hdy) pa_nil hs2) hs) (by decide) (by decide) hs hpl) fun σ H Q ⟨κ, ρ, τ, vs, st, w⟩ => ?_
  refine ⟨κ, ρ, τ, vs, st, Out.wp_mono (Out.wp_bind w) (fun t ρ1 w1 v H1 st1 k1 => ?_) fun _ _ z => z⟩
  try dsimp only at w1
  split at w1
  · rename_i c fs hl
    cases hb : m c with
    | none => simp only [hb] at w1; exact w1.elim
    | some b =>
      simp only [hb] at w1
      obtain ⟨a, d, rfl, ea, hd⟩ := isx_st st1 hl
      exact ⟨a, d, c, b, rfl, ea, hd, hb, w1 _ H1 (st1.pop.pushB b) fun z => nomatch z⟩
  · exact w1.elim
theorem DE.isxB {m : Nat → Option Bool} {y : Str} {T : String} (hm : ∀ t b, m t = some b → IsxC X.K (exA X.K t) ∧ PySem.W.kitOne X.K (.ref (exA X.K t)) (.type T) = some b) (hi : X.mg "isinstance" = none) (gy : X.mg y = none) (by_ : bootBuiltins y = some (.type T)) (he : DE X W true e f)
    (hgi : Gl X "isinstance" := by rfl) (hgy : Gl X y := by rfl) (hny : y ≠ "__name__" := by decide) (hdy : (y == ("__debug__" : Str)) = false := by decide)
    (hs : starEach [e, .Name y p1] X.env = (false, eval e X.env) :: starEach [.Name y p1] X.env := by rfl) (hs2 : starEach [.Name y p1] X.env = (false, eval (.Name y p1) X.env) :: starEach [] X.env := by rfl)
    (hpl : (backTo pos (starEach [.Name y p1] X.env)).any (·.1) = false := by rfl) : DE X W false (.Call (.Name "isinstance" p) [e, .Name y p1] [] pos) (eIsX m f) := by
  refine PE.imp (pe_callB (call_isX hm (.ty T)) hgi hi (by decide +kernel) (pa_cons he (pa_cons (pe_bltn (v := .ty T) hgy gy by_ rfl hny hdy) pa_nil hs2) hs) (by decide) (by decide) hs hpl) fun σ H Q ⟨κ, ρ, τ, vs, st, w⟩ => ?_
  refine ⟨κ, ρ, τ, vs, st, Out.wp_mono (Out.wp_bind w) (fun t ρ1 w1 v H1 st1 k1 => ?_) fun _ _ z => z⟩
  try dsimp only at w1
  split at w1
  · rename_i c fs hl
    cases hb : m c with
    | none => simp only [hb] at w1; exact w1.elim
    | some b =>
      simp only [hb] at w1
      obtain ⟨a, d, rfl, ea, hd⟩ := isx_st st1 hl
      exact ⟨a, d, c, b, rfl, ea, hd, hb, w1 _ H1 (st1.pop.pushB b) fun z => nomatch z⟩
  · exact w1.elim
def ClsEs (X : Cx) (es : List Expr) (Cs : List Addr) : Prop := PA X es fun σ H Q => Q (Cs.map V.ref) H
theorem ClsEs.nil : ClsEs X [] [] := pa_nil
theorem ClsEs.cons {y : Str} {C : Addr} {es : List Expr} {Cs : List Addr} (gy : X.mg y = some (.ref C)) (h : ClsEs X es Cs) (hgy : Gl X y := by rfl) (hdy : (y == ("__debug__" : Str)) = false := by decide)
    (hs2 : starEach (.Name y p1 :: es) X.env = (false, eval (.Name y p1) X.env) :: starEach es X.env := by rfl) : ClsEs X (.Name y p1 :: es) (C :: Cs) := pa_cons (pe_glob (v := .ref C) hgy gy rfl hdy) h hs2
theorem cls_paired : ∀ Cs : List Addr, Paired ClsV (Cs.map V.ref) (Cs.map Value.ref)
  | [] => .nil
  | C :: Cs => .cons (.own C) (cls_paired Cs)
theorem DE.isxT {m : Nat → Option Bool} {es : List Expr} {Cs : List Addr} {x1 : Nat} (hm : ∀ t b, m t = some b → IsxC X.K (exA X.K t) ∧ PySem.W.kitAny X.K (.ref (exA X.K t)) (Cs.map Value.ref) = some b) (hi : X.mg "isinstance" = none) (hes : ClsEs X es Cs) (hz : Cs.length ≤ 1000) (he : DE X W true e f)
    (hgi : Gl X "isinstance" := by rfl)
    (hs : starEach [e, .Tuple es x1 p1] X.env = (false, eval e X.env) :: starEach [.Tuple es x1 p1] X.env := by rfl) (hs2 : starEach [.Tuple es x1 p1] X.env = (false, eval (.Tuple es x1 p1) X.env) :: starEach [] X.env := by rfl)
    (hpl : (backTo pos (starEach [.Tuple es x1 p1] X.env)).any (·.1) = false := by rfl) : DE X W false (.Call (.Name "isinstance" p) [e, .Tuple es x1 p1] [] pos) (eIsX m f) := by
  refine PE.imp (pe_callB (call_isXT hm (cls_paired Cs)) hgi hi (by decide +kernel) (pa_cons he (pa_cons (pe_tup hes) pa_nil hs2) hs) (by decide) (by decide) hs hpl) fun σ H Q ⟨κ, ρ, τ, vs, st, w⟩ => ?_
  refine ⟨κ, ρ, τ, vs, st, Out.wp_mono (Out.wp_bind w) (fun t ρ1 w1 v H1 st1 k1 => ?_) fun _ _ z => z⟩
  try dsimp only at w1
  split at w1
  · rename_i c fs hl
    cases hb : m c with
    | none => simp only [hb] at w1; exact w1.elim
    | some b =>
      simp only [hb] at w1
      obtain ⟨a, d, rfl, ea, hd⟩ := isx_st st1 hl
      refine ⟨by rw [List.length_map]; rw [sizeLine_eq]; omega, fun tp htp => ?_⟩
      have n1 : a ≠ tp := ne_of_none ea htp
      refine ⟨a, tp, d, c, b, rfl, upd_same, by rw [upd_ne n1]; exact ea, hd.imp id fun ⟨dd, fs, e1, e2⟩ => ⟨dd, fs, e1, by rw [upd_ne (ne_of_none e2 htp)]; exact e2⟩, hb, ?_⟩
      exact w1 _ _ ((st1.fresh htp).1.pop.pushB b) fun z => nomatch z
  · exact w1.elim
end
end Dl

set_option linter.all false
set_option maxRecDepth 100000
namespace Dl
open PySem PySem.Spec PyProof.Rows L2
def exSub (t u : Nat) : Bool := t == u || u == 0
def exFs (t : Nat) : List Str := match t with
  | 1 => ["at"]
  | 2 => ["at", "word"]
  | 3 => ["at"]
  | 4 => ["most"]
  | 5 => ["at"]
  | 6 => ["at"]
  | _ => []
def mEx (cs : List Nat) (u : Nat) (t : Nat) : Option Bool := if t ∈ cs then some (exSub t u) else none
def mExT (cs us : List Nat) (t : Nat) : Option Bool := if t ∈ cs then some (us.any (exSub t)) else none
def mVE (cs : List Nat) (t : Nat) : Option Bool := if t ∈ cs then some true else none
structure ExT (K : PySem.W.Frag) (mg : Str → Option Value) (cs : List Nat) : Prop where
  g : ∀ t ∈ cs, mg (exN t) = some (.ref (exA K t))
  exm : ∀ t ∈ cs, ∀ u ∈ cs, PySem.W.exmOne K (.ref (exA K t)) (.ref (exA K u)) = some (exSub t u)
  kit : ∀ t ∈ cs, ∀ u ∈ cs, PySem.W.kitOne K (.ref (exA K t)) (.ref (exA K u)) = some (exSub t u)
  ve : ∀ t ∈ cs, PySem.W.kitOne K (.ref (exA K t)) (.type "ValueError") = some true
  isx : ∀ t ∈ cs, IsxC K (exA K t)
  fl : ∀ t ∈ cs, ∀ n ∈ exFs t, XfC K (exA K t) ∧ PySem.W.findIn K (.ref (exA K t)) n = some none
def exTB (K : PySem.W.Frag) (cs : List Nat) : Bool :=
  cs.all fun t => decide (PySem.W.nsIn K mainGlobals (exN t) = some (some (.ref (exA K t)))) && ((cs.all fun u => decide (PySem.W.exmOne K (.ref (exA K t)) (.ref (exA K u)) = some (exSub t u)) && decide (PySem.W.kitOne K (.ref (exA K t)) (.ref (exA K u)) = some (exSub t u))) &&
    (decide (PySem.W.kitOne K (.ref (exA K t)) (.type "ValueError") = some true) && (isxB K t && ((exFs t).all fun n => xfB K (exA K t) && decide (PySem.W.findIn K (.ref (exA K t)) n = some none)))))
theorem exTB_ok {K : PySem.W.Frag} {h : Heap} {mg : Str → Option Value} {cs : List Nat} (KX : K.In h) (G : h.Ns mainGlobals mg) (q : exTB K cs = true) : ExT K mg cs := by
  unfold exTB at q
  simp only [List.all_eq_true, Bool.and_eq_true, decide_eq_true_eq] at q
  exact ⟨fun t ht => PySem.W.mg_of KX G (q t ht).1, fun t ht u hu => ((q t ht).2.1 u hu).1, fun t ht u hu => ((q t ht).2.1 u hu).2, fun t ht => (q t ht).2.2.1, fun t ht => isxB_ok (q t ht).2.2.2.1, fun t ht n hn => ⟨xfB_ok ((q t ht).2.2.2.2 n hn).1, ((q t ht).2.2.2.2 n hn).2⟩⟩
section
variable {K : PySem.W.Frag} {mg : Str → Option Value} {cs : List Nat}
theorem ExT.hm (E : ExT K mg cs) (u : Nat) (hu : u ∈ cs) : ∀ t b, mEx cs u t = some b → PySem.W.exmOne K (.ref (exA K t)) (.ref (exA K u)) = some b := fun t b h => by
  unfold mEx at h
  split at h
  · cases h; exact E.exm t ‹_› u hu
  · cases h
theorem ExT.hi (E : ExT K mg cs) (u : Nat) (hu : u ∈ cs) : ∀ t b, mEx cs u t = some b → IsxC K (exA K t) ∧ PySem.W.kitOne K (.ref (exA K t)) (.ref (exA K u)) = some b := fun t b h => by
  unfold mEx at h
  split at h
  · cases h; exact ⟨E.isx t ‹_›, E.kit t ‹_› u hu⟩
  · cases h
theorem ExT.hv (E : ExT K mg cs) : ∀ t b, mVE cs t = some b → IsxC K (exA K t) ∧ PySem.W.kitOne K (.ref (exA K t)) (.type "ValueError") = some b := fun t b h => by
  unfold mVE at h
  split at h
  · cases h; exact ⟨E.isx t ‹_›, E.ve t ‹_›⟩
  · cases h
theorem ExT.any (E : ExT K mg cs) {t : Nat} (ht : t ∈ cs) : ∀ us : List Nat, (∀ u ∈ us, u ∈ cs) → PySem.W.kitAny K (.ref (exA K t)) ((us.map (exA K)).map Value.ref) = some (us.any (exSub t))
  | [], _ => rfl
  | u :: us, h => by
    simp only [List.map_cons, List.any_cons]
    refine kitAny_cons (E.kit t ht u (h u List.mem_cons_self)) (fun hb => ?_) fun hb => by rw [hb]; rfl
    rw [hb, Bool.false_or]
    exact E.any ht us fun v hv => h v (List.mem_cons_of_mem _ hv)
theorem ExT.ht (E : ExT K mg cs) (us : List Nat) (hu : us.all (cs.elem ·) = true) : ∀ t b, mExT cs us t = some b → IsxC K (exA K t) ∧ PySem.W.kitAny K (.ref (exA K t)) ((us.map (exA K)).map Value.ref) = some b := fun t b h => by
  unfold mExT at h
  split at h
  · cases h
    exact ⟨E.isx t ‹_›, E.any ‹_› us fun u q => by simpa using List.all_eq_true.mp hu u q⟩
  · cases h
def exWith (cs : List Nat) (n : Str) : List Nat := cs.filter fun t => decide (n ∈ exFs t)
theorem ExT.fd (E : ExT K mg cs) (n : Str) : ∀ c ∈ exWith cs n, XfC K (exA K c) ∧ PySem.W.findIn K (.ref (exA K c)) n = some none := fun c hc => by
  obtain ⟨h1, h2⟩ := List.mem_filter.mp hc
  exact E.fl c h1 n (of_decide_eq_true h2)
end
abbrev AlC : Type := He.AlD × Bool
def obsC (n : Nat) (fa : List He.Fa) (fn : List He.DefD) (ex : PySem.W.Frag → Bool) (g : Addr → Option Obj) : AlC := (He.obsDG n fa fn g, ex (He.frG g (He.asD g n)))
def hookC (n : Nat) (fa : List He.Fa) (fn : List He.DefD) (ex : PySem.W.Frag → Bool) : PySem.W.Hook where
  α := AlC
  obs := fun s => obsC n fa fn ex s.heap.get?
  val := fun _ => (He.valD fn, true)
  says := fun _ h => ∃ K : PySem.W.Frag, K.In h ∧ He.SaysD fa fn K ∧ ex K = true
  of := fun _ _ e => ⟨_, He.frG_in, congrArg (fun z : AlC => z.1) e, congrArg (fun z : AlC => z.2) e⟩
  keeps := fun _ _ _ ⟨K, hK, c⟩ k => ⟨K, PySem.W.Frag.In.keeps hK k, c⟩
theorem obsC_eq {n : Nat} {fa : List He.Fa} {fn : List He.DefD} {ex : PySem.W.Frag → Bool} {g : Addr → Option Obj} {s : Shared} (h : ∀ a, g a = s.heap.get? a) : obsC n fa fn ex g = (hookC n fa fn ex).obs s := by
  have e : g = s.heap.get? := funext h
  rw [e] <;> rfl
def clsDef (st : Stmt) (j : Nat) : Stmt := match st with
  | .ClassDef _ _ _ body .. => body.getD j (.Pass ⟨0, 0, 0, 0⟩)
  | s => s
end Dl

set_option linter.all false
set_option maxRecDepth 100000
namespace Dl
open PySem PySem.Spec PyProof.Rows L2
def isBD : D → D → Option D := fun a b => match a, b with
  | .bl x, .bl y => some (.bl (decide (x = y)))
  | _, _ => none
section
variable {X : Cx} {W : WX} {q q1 q2 : Bool} {a b : Expr} {f g : Cm Tm} {pos : Pos}
theorem op2_isB {K : PySem.W.Frag} : Op2 K true rIsB isBD := op2_pure fun Z C1 C2 σ H va vb a b c Q zz o1 o2 e k => by
  unfold isBD at e
  split at e
  · cases e
    cases o1
    cases o2
    rename_i x y
    exact ⟨x, y, rfl, rfl, k H (Same.refl H) (.bl (decide (x = y))) (fun Z => O.bl _) rfl⟩
  · cases e
theorem DE.isB (ha : DE X W q1 a f) (hb : DE X W q2 b g) : DE X W (q1 && q2) (.Compare a [.Is] [b] pos) (e2 isBD f g) := DE.cmp op_isBl op2_isB ha hb (nomark _)
theorem DT.isB (ha : DE X W q1 a f) (hb : DE X W q2 b g) : DT X W (.Compare a [.Is] [b] pos) (toB (e2 isBD f g)) := DT.cmp op_isBl op2_isB ha hb (nomark _)
end
end Dl

set_option linter.all false
set_option maxRecDepth 100000
namespace Dl
open PySem L2
section
variable {X : Cx} {pos : Pos} {as : List Nat} {es : List Expr} {gs : List D → Tg}
def gLstD (n : Nat) (gs : List D → Tg) : D → Tg := fun d ρ => match d with
  | .lst _ ds => if ds.length = n then gs ds ρ else none
  | _ => none
theorem Stt.unlst {K : PySem.W.Frag} {κ : Fr} {ρ : Env} {τ : List Tm} {vs : List V} {σ : St} {H : Hp} {v : V} {o : Bool} {ds : List D} (h : Stt K κ ρ (.v (.lst o ds) :: τ) (v :: vs) σ H) :
    ∃ a xs, v = .ref a ∧ SqL K H a xs ∧ xs.length = ds.length ∧ Stt K κ ρ (tms ds ++ τ) (xs ++ vs) σ H := by
  obtain ⟨Z, A, B, c, t, g⟩ := h
  cases t with
  | v h1 h2 =>
    cases h1 with
    | shr h3 h4 => exact ⟨_, _, rfl, SqL.of (g.zh _ _ h3), h4.length, Z, A, _, c, h4.tms h2, g⟩
    | lst h3 hz h4 =>
      rename_i B' a xs C
      exact ⟨_, _, rfl, SqL.of h3, h4.length, Z, A, C ++ B', c, h4.tms h2, g.sub ⟨[a], by
        rw [List.append_assoc]
        refine List.Perm.append_left A ?_
        exact List.perm_append_comm⟩⟩
theorem DG.lst {k : Nat} {n : Nat} (hc : X.calm = true) (h : DGs X as es gs) (hn : (assignEach es X.env).length = n := by rfl) (hst : (assignEach es X.env).findIdx? (·.1) = none := by rfl) : DG X as (.Tuple es k pos) (gLstD n gs) := by
  refine PG.imp (pg_lst hc h hn hst) fun v σ H Q ⟨κ, ρ, τ, vs, d, ρ', vo, st, e, w⟩ => ?_
  unfold gLstD at e
  split at e
  · rename_i ds
    split at e
    · rename_i hl
      obtain ⟨a, xs, rfl, hq, hx, st2⟩ := st.unlst
      exact ⟨a, xs, rfl, hq, hx.trans hl, κ, ρ, τ, vs, ds, ρ', vo, hx, st2, e, w⟩
    · cases e
  · cases e
end
end Dl

set_option linter.all false
set_option maxRecDepth 100000
namespace Dl
open PySem PySem.Spec PyProof.Rows L2
section
variable {X : Cx} {W : WX} {q : Bool} {e : Expr} {es : List Expr} {fs : Cm (List Tm)} {t k : Nat} {ns : List Str} {x : Str} {p pos pos' : Pos}
theorem pe_pmk {tm : L2.St → Hp → XK → Prop} (hex : X.ex = []) (h : PMk X e tm) : PE X e (fun σ H Q => tm σ H fun cls d H1 => ∀ a, H1 a = none → Q (.ref a) (upd H1 a (XO cls d a))) := by
  refine ⟨fun pins s σ H Q I q => thn (h pins s σ H _ I q) fun u s' hu => ?_⟩
  obtain ⟨a, oe, vs, sI, H', cls, d, rfl, J, k, hne, ha, hz, hd, h1, na, os, ag, r, q1⟩ := hu
  have J2 : Inv X pins σ H' s' := J.call' (ch := []) os (Un.kept k) (J.hok.kept k) ag (fun b z => absurd z (by simp))
  have n0 : X.s_0.heap.get? a = none := by
    cases e0 : X.s_0.heap.get? a with
    | none => rfl
    | some o =>
      obtain ⟨o', e1⟩ := J.base.there a o e0 (by rw [hex]; simp)
      rw [hne] at e1; cases e1
  have nL : a ≠ X.env.locals := fun z => by
    have hl := J.loc
    obtain ⟨m, ⟨o, es, ep, ho, _⟩, _⟩ := hl
    rw [← z, hne] at ho; cases ho
  refine ⟨.ref a, _, track J2 ha hz hd na n0 nL (fun p hp z => ?_), rfl, q1 a na⟩
  have := (J.pin p hp).1
  rw [z, hne] at this; cases this
def eMkx (t : Nat) (ns : List Str) (fs : Cm (List Tm)) : Cm Tm := fun ρ => (fs ρ).bind fun ts ρ1 => match looks ρ1 ts with
  | some ds => if ds.all isSc = true ∧ ds.length = ns.length then .ok (.v (.exv t (fsV ⟨t, (ns.zip ds).reverse⟩))) ρ1 else .bad
  | none => .bad
theorem DE.mkx (M : ExMk X.prog X.w X.K X.mg X.base t ns) (hr : RoomG k X.A) (hk : 2 ≤ k) (hn : ns ≠ []) (hn2 : ns.length ≤ 1000) (ha : DA X W q (e :: es) fs) (hx : exN t = x := by rfl) (hex : X.ex = [] := by rfl) (hg : Gl X x := by rfl)
    (hdb : (x == ("__debug__" : Str)) = false := by decide) (he : starEach (e :: es) X.env = (false, eval e X.env) :: starEach es X.env := by rfl) (hpl : (backTo pos (starEach es X.env)).any (·.1) = false := by rfl) :
    DE X W false (.Call (.Name x p) (e :: es) [] pos) (eMkx t ns fs) := by
  subst hx
  obtain ⟨fd, ps, sp, F, b, hsp⟩ := M.mkr
  refine PE.imp (pe_pmk hex (pmk_oex (CX := L2.CX X.prog X.w) M.F.T M.F.iC M.F.tI F (hr.r.mono hk) b (dvs := []) .nil passL hg M.gC ha hdb he hpl)) fun σ H Q ⟨κ, ρ, τ, vs, st, w⟩ => ?_
  refine ⟨κ, ρ, τ, vs, st, Out.wp_mono (Out.wp_bind w) (fun ts ρ1 w1 xs H1 hl st1 k1 => ?_) fun _ _ z => z⟩
  try dsimp only at w1
  cases hlo : looks ρ1 ts with
  | none => simp only [hlo] at w1; exact w1.elim
  | some ds =>
    simp only [hlo] at w1
    by_cases hd : ds.all isSc = true ∧ ds.length = ns.length
    · rw [if_pos hd] at w1
      have ex := looks_sc hl hlo hd.1 st1
      have hll : xs.length = ns.length := by rw [hl, ← looks_len hlo]; exact hd.2
      refine ⟨?_, fun a na => hsp xs H1 a (fun d H' => ∀ a2, H' a2 = none → Q (.ref a2) (upd H' a2 (XO (.ref (exA X.K t)) d a2))) hll na fun d nd a2 na2 => ?_⟩
      · rw [hll]; exact hn2
      · obtain ⟨s3, s4⟩ := (st1.popN hl).fresh (o := .xd (fldO ns xs)) nd
        have eo : ExOk κ (upd H1 d (.xd (fldO ns xs))) ⟨t, (ns.zip ds).reverse⟩ (some d) := by
          unfold ExOk
          have e1 : ((ns.zip ds).reverse.map fun p => (p.1, scV p.2)) = fldO ns xs := by
            unfold fldO
            rw [ex, List.map_reverse, List.zip_map_right]
            rfl
          cases hz : (ns.zip ds).reverse with
          | nil =>
            exfalso
            have h2 : ns.zip ds = [] := by simpa using hz
            cases ns with
            | nil => exact hn rfl
            | cons n ns =>
              cases ds with
              | nil => simp at hd
              | cons d ds => simp at h2
          | cons p0 l0 =>
            rw [hz] at e1
            exact ⟨d, rfl, by rw [← e1]; exact upd_same, s4⟩
        exact w1 _ _ (s3.catch eo na2) (fun hq => nomatch hq)
    · rw [if_neg hd] at w1; exact w1.elim
theorem pmk_own0 {C : Addr} {bmB : List Value} {B newId initId : String} {x : Str} {p : Pos} (F : ExcBaseFacts B newId initId bmB) (q : PySem.W.excIn X.K C bmB newId = true) (gC : X.mg x = some (.ref C))
    (kC : PySem.W.keepIn X.K (.ref C) = true) (r : Raises X (.ref C)) (hg : Gl X x) (hdb : (x == ("__debug__" : Str)) = false := by decide) :
    PMk X (.Call (.Name x p) [] [] pos) (fun σ H Q => Q (.ref C) none H) := by
  intro pins s σ H Q I h
  refine wpAny_Call_Name_kw (ld_glob I hg gC ?_ hdb)
  refine PySem.W.callWith_K0 I.kIn kC ?_
  obtain ⟨bm, N, nm, qn, bs, hdct, sn, sub, ab, col, dd, k0, k1, k2, k3, k5, mN, hC, hN, hni, T⟩ := exc_obj I.kIn q
  refine wpAny_call_exc_subT F T hC hN hni (fun h' e hm => ?_) (Nat.zero_le _)
  exact mk_of I hm r h (I.hok.gone hm.new)
def ex0B (K : PySem.W.Frag) (t : Nat) : Bool :=
  PySem.W.excIn K (exA K t) [.type "ValueError", .type "Exception", .type "BaseException", .type "object"] "ValueError.__new__" && (decide (PySem.W.nsIn K mainGlobals (exN t) = some (some (.ref (exA K t)))) && (PySem.W.keepIn K (.ref (exA K t)) &&
    (decide (PySem.W.subIn K (.ref (exA K t)) (.type "BaseException") = some true) && decide (PySem.W.typeIn K (.ref (exA K t)) = some (.type "type")))))
structure Ex0 (K : PySem.W.Frag) (mg : Str → Option Value) (t : Nat) : Prop where
  q : PySem.W.excIn K (exA K t) [.type "ValueError", .type "Exception", .type "BaseException", .type "object"] "ValueError.__new__" = true
  g : mg (exN t) = some (.ref (exA K t))
  k : PySem.W.keepIn K (.ref (exA K t)) = true
  e : PySem.W.subIn K (.ref (exA K t)) (.type "BaseException") = some true
  y : PySem.W.typeIn K (.ref (exA K t)) = some (.type "type")
theorem ex0B_ok {K : PySem.W.Frag} {h : Heap} {mg : Str → Option Value} {t : Nat} (KX : K.In h) (G : h.Ns mainGlobals mg) (q : ex0B K t = true) : Ex0 K mg t := by
  unfold ex0B at q
  simp only [Bool.and_eq_true, decide_eq_true_eq] at q
  exact ⟨q.1, PySem.W.mg_of KX G q.2.1, q.2.2.1, q.2.2.2.1, q.2.2.2.2⟩
def eMkx0 (t : Nat) : Cm Tm := fun ρ => .ok (.v (.exv t (fsV ⟨t, []⟩))) ρ
theorem DE.mkx0 (M : Ex0 X.K X.mg t) (hx : exN t = x := by rfl) (hex : X.ex = [] := by rfl) (hg : Gl X x := by rfl) (hdb : (x == ("__debug__" : Str)) = false := by decide) :
    DE X W false (.Call (.Name x p) [] [] pos) (eMkx0 t) := by
  subst hx
  refine PE.imp (pe_pmk hex (pmk_own0 PySem.F.excBase_ValueError M.q M.g M.k (raises_own M.e M.y) hg hdb)) fun σ H Q ⟨κ, ρ, τ, vs, st, w⟩ => fun a na => ?_
  have eo : ExOk κ H ⟨t, []⟩ none := rfl
  exact w _ _ (st.catch eo na) (fun hq => nomatch hq)
def sRaise0 (t : Nat) : Cm Fl := fun ρ => .exc ⟨t, []⟩ ρ
theorem DS.raise0 (M : Ex0 X.K X.mg t) (tk : Takes X W) (hx : exN t = x := by rfl) (hc : X.calm = true := by rfl) (hg : Gl X x := by rfl) (hdb : (x == ("__debug__" : Str)) = false := by decide) :
    DS X W [] (.Raise (some (.Call (.Name x p) [] [] pos)) none pos') (sRaise0 t) := by
  subst hx
  refine PS.imp (ps_raise hc tk (pmk_own0 PySem.F.excBase_ValueError M.q M.g M.k (raises_own M.e M.y) hg hdb)) fun D σ H ⟨κ, ρ, τ, vs, vo, st, w⟩ => ?_
  exact w σ H none Frm.refl st rfl
end
end Dl

set_option linter.all false
set_option maxRecDepth 100000
namespace Dl
open PySem PySem.Spec PyProof.Rows L2
section
variable {K : PySem.W.Frag}
def txN (n : Int) : List Nat := (Str.ofString (toString n)).cps.toList
def strID : List D → Option D
  | [.int n] => if n.natAbs.log2 < 1920 then some (.str (txN n)) else none
  | _ => none
theorem ca_strI : CaD K (fun xs H Q => ∃ i, xs = [.int i] ∧ i.natAbs.log2 < 1920 ∧ Q (.str (toString i)) H) strID := by
  intro κ ρ τ vs σ H Z A B ds xs c Q cc tt gg ow zz e k
  unfold strID at e
  split at e
  · rename_i n
    split at e
    · rename_i h
      cases e
      cases ow with
      | cons o1 o2 =>
        cases o2
        refine ⟨n, by rw [o1.intV], h, ?_⟩
        have e2 : (V.str (toString n : String)) = V.str ⟨(txN n).toArray⟩ := congrArg V.str (str_eta (Str.ofString (toString n)))
        rw [e2]
        exact k _ H (.mk cc tt gg (.str _)) (Same.refl H)
    · cases e
  · cases e
def strSD : List D → Option D
  | [.str l] => some (.str l)
  | _ => none
theorem ca_strS : CaD K (fun xs H Q => ∃ a, xs = [.str a] ∧ Q (.str a) H) strSD := by
  intro κ ρ τ vs σ H Z A B ds xs c Q cc tt gg ow zz e k
  unfold strSD at e
  split at e
  · rename_i l
    cases e
    cases ow with
    | cons o1 o2 =>
      cases o2
      exact ⟨_, by rw [o1.strV], k _ H (.mk cc tt gg (.str _)) (Same.refl H)⟩
  · cases e
def strDD : List D → Option D := fun ds => (strID ds).or (strSD ds)
def figs (l : List Nat) : Bool := l.all fun c => decide (48 ≤ c) && decide (c ≤ 57)
def intSD : List D → Option D
  | [.str l] => if figs l = true ∧ l ≠ [] ∧ l.length ≤ 640 then some (.int (NumText.digitsVal l : Nat)) else none
  | _ => none
theorem ca_intS : CaD K (fun xs H Q => ∃ a n, xs = [.str a] ∧ PySem.intText? a = some n ∧ a.length ≤ 640 ∧ Q (.int n) H) intSD := by
  intro κ ρ τ vs σ H Z A B ds xs c Q cc tt gg ow zz e k
  unfold intSD at e
  split at e
  · rename_i l
    split at e
    · rename_i h
      cases e
      cases ow with
      | cons o1 o2 =>
        cases o2
        exact ⟨_, _, by rw [o1.strV], SX.int_S h.1 h.2.1 (by omega), by rw [str_len]; exact h.2.2, k _ H (.mk cc tt gg (.int _)) (Same.refl H)⟩
    · cases e
  · cases e
def intDD : List D → Option D := fun ds => (intD ds).or (intSD ds)
end
theorem call_strS {X : Cx} : CallR X (.type "str") (fun xs H Q => ∃ a, xs = [.str a] ∧ Q (.str a) H) := by
  intro pins s σ H xs us Q I r h
  obtain ⟨a, rfl, q⟩ := h
  obtain ⟨u, rfl, t, rfl⟩ := vals1 r
  exact PySem.P.str_of_str ⟨.str _, H, I, ⟨_, rfl⟩, q⟩
section
variable {X : Cx} {W : WX} {q q1 q2 : Bool} {a b : Expr} {rest : List Expr} {f g : Cm Tm} {pos : Pos}
def eOrS (f g : Cm Tm) : Cm Tm := fun ρ => (f ρ).bind fun t ρ1 => match t with
  | .v (.str l) => if l.length ≤ sizeLine then (if l = [] then g ρ1 else .ok (.v (.str l)) ρ1) else .bad
  | _ => .bad
theorem DE.orS (h : DE X W q1 a f) (h2 : DE X W q2 (.BoolOp .Or (b :: rest) pos) g) : DE X W (q1 && q2) (.BoolOp .Or (a :: b :: rest) pos) (eOrS f g) := by
  refine PE.imp (pe_orT h h2) fun σ H Q ⟨κ, ρ, τ, vs, st, w⟩ => ?_
  refine ⟨κ, ρ, τ, vs, st, Out.wp_mono (Out.wp_bind w) (fun t ρ1 w1 v H1 st1 k1 => ?_) fun _ _ z => z⟩
  try dsimp only at w1
  split at w1
  · rename_i l
    have e := st1.strV
    subst e
    split at w1
    · rename_i hz
      refine ⟨((l.length : Int) != 0), ⟨by rw [str_len]; exact hz, by rw [str_len]⟩, ?_⟩
      split at w1
      · rename_i hl
        subst hl
        refine ⟨κ, ρ1, τ, vs, st1.pop, Out.wp_mono w1 (fun t ρ2 w2 v H2 st2 k2 => w2 v H2 st2 fun hq => ?_) fun _ _ z => z⟩
        rw [Bool.and_eq_true] at hq
        exact ⟨(k2 hq.2).1.trans (k1 hq.1).1, (k1 hq.1).2.trans (k2 hq.2).2⟩
      · rename_i hl
        have hl2 : ((l.length : Int) != 0) = true := by
          cases l with
          | nil => exact absurd rfl hl
          | cons x l => simp; omega
        rw [if_pos hl2]
        exact w1 _ H1 st1 fun hq => by rw [Bool.and_eq_true] at hq; exact k1 hq.1
    · exact w1.elim
  · exact w1.elim
end
end Dl

set_option linter.all false
set_option maxRecDepth 100000
namespace Dl
open PySem PySem.Spec PyProof.Rows L2
def sFz (i : Nat) (b : Cm Fl) : Cm Fl := fun ρ => (b ρ).bind fun fl ρ1 => match fl with
  | .nx => match (ρ1[i]?).join with
    | some d => if d.fz = true then .ok .nx (ρ1.set i (some d.frz)) else .bad
    | none => .ok .nx ρ1
  | fl => .ok fl ρ1
section
variable {X : Cx} {W : WX} {as : List Nat} {s : Stmt} {ss : List Stmt} {b : Cm Fl} {i : Nat}
theorem Stt.frzAt {K : PySem.W.Frag} {κ : Fr} {τ : List Tm} {vs : List V} {σ : L2.St} {H : Hp} {ρ : Env} {d : D} (st : Stt K κ ρ τ vs σ H) (hd : (ρ[i]?).join = some d) (hf : d.fz = true) : Stt K κ (ρ.set i (some d.frz)) τ vs σ H := by
  obtain ⟨x, hx⟩ := st.slot (join_some hd)
  have hi : i < ρ.length := (List.getElem?_eq_some_iff.mp (join_some hd)).1
  have s1 := (st.take (join_some hd) hx).frzT hf
  have s2 := s1.back (by simp [hi]) hx
  rw [List.set_set] at s2
  exact s2
theorem fz_imp {K : PySem.W.Frag} {D : Ends} {σ : L2.St} {H : Hp} (h : tDS K W as (sFz i b) D σ H) : tDS K W as b D σ H := by
  obtain ⟨κ, ρ, τ, vs, vo, st, w⟩ := h
  refine ⟨κ, ρ, τ, vs, vo, st, ?_⟩
  unfold sFz at w
  cases hb : b ρ with
  | bad => rw [hb] at w; exact w.elim
  | exc e ρ1 => rw [hb] at w; exact w
  | ok fl ρ1 =>
    rw [hb] at w
    cases fl with
    | nx =>
      rw [Out.bind_ok] at w
      cases hd : (ρ1[i]?).join with
      | none => simp only [hd] at w; exact w
      | some d =>
        simp only [hd] at w
        by_cases hf : d.fz = true
        · rw [if_pos hf] at w
          exact fun σ' H' f s => w σ' H' f (s.frzAt hd hf)
        · rw [if_neg hf] at w; exact w.elim
    | bk => exact w
    | ct => exact w
    | rt d => exact w
theorem DSs.fz (h : DSs X W as ss b) : DSs X W as ss (sFz i b) := PSs.imp h fun _ _ _ => fz_imp
end
end Dl

set_option linter.all false
set_option maxRecDepth 100000
namespace Dl
open PySem PySem.Spec PyProof.Rows L2
theorem O.key {K : PySem.W.Frag} {H Z : Hp} (k : Key) : O K H Z (keyD k) (kV k) [] := by
  cases k with
  | inl i => exact .int i
  | inr x => exact .str x.cps.toList
section
variable {K : PySem.W.Frag} {κ : Fr} {ρ : Env} {τ : List Tm} {vs : List V} {σ : L2.St} {H : Hp}
theorem Stt.lockOut {i : Nat} {ks ds : List D} (st : Stt K κ ρ τ vs σ H) (hd : ρ[i]? = some (some (.dic true ks ds))) :
    ∃ d kvs, σ[i]? = some (some (.ref d)) ∧ H d = some (.dK kvs) ∧ ks = kvs.map (fun p => keyD p.1) ∧ ∀ od, ∃ κ1, Stt K κ1 (ρ.set i none) τ vs σ (upd H d (.frz od (.dK kvs))) ∧
      ∀ (ρ' : Env) (τ' : List Tm) (vs' : List V) (σ' : L2.St) (H' : Hp), Stt K κ1 ρ' τ' vs' σ' H' → H' d = some (.frz od (.dK kvs)) ∧ (ρ'[i]? = some none → σ'[i]? = some (some (.ref d)) → Stt K κ (ρ'.set i (some (.dic true ks ds))) τ' vs' σ' (upd H' d (.dK kvs))) := by
  obtain ⟨x, hx⟩ := st.slot hd
  obtain ⟨Z, A, B, c, t, g⟩ := st.take hd hx
  cases t with
  | @v _ _ C _ _ B h1 h2 =>
    cases h1 with
    | @dic d ks' xs vs' A0 h3 h4 h5 =>
      obtain ⟨kvs, e1, e2, e3⟩ := h3
      subst e3
      refine ⟨d, kvs, hx, e1, e2, fun od => ?_⟩
      -- the addresses
      have pm : (A ++ ((d :: A0) ++ B)).Perm ((d :: A0) ++ (A ++ B)) := by
        rw [← List.append_assoc, ← List.append_assoc]
        exact List.perm_append_comm.append_right _
      have nd := pm.nodup_iff.mp g.nd
      obtain ⟨n1, n2, n3⟩ := List.nodup_append.mp nd
      have own : ∀ a ∈ (d :: A0) ++ (A ++ B), Z a = none ∧ (∃ o, H a = some o) ∧ (a ∈ κ.G ∨ κ.H0 a = none) := fun a ha => g.own a (pm.mem_iff.mpr ha)
      have dn : ∀ a ∈ A ++ B, a ≠ d := fun a ha e => n3 d List.mem_cons_self a ha e.symm
      have hk : ∀ a ∈ A ++ B, (upd H d (.frz od (.dK kvs))) a = H a ∧ Z a = none := fun a ha => ⟨upd_ne (dn a ha), (own a (List.mem_append_right _ ha)).1⟩
      have dZ : Z d = none := h4
      have zh1 : Same Z (upd H d (.frz od (.dK kvs))) := fun a o e => by
        rw [upd_ne fun q => by rw [q, dZ] at e; cases e]
        exact g.zh a o e
      refine ⟨⟨upd H d (.frz od (.dK kvs)), Z, A ++ B⟩, ⟨Z, A, B, c.keep (Same.refl Z) fun a ha => hk a (List.mem_append_left _ ha), h2.keep (Same.refl Z) fun a ha => hk a (List.mem_append_right _ ha), ?_⟩, ?_⟩
      · refine ⟨n2, zh1, Same.refl Z, fun a o e _ => e, fun a ha => ?_, fun a o e => .inl e⟩
        obtain ⟨q1, ⟨o, q2⟩, q3⟩ := own a (List.mem_append_right _ ha)
        exact ⟨q1, ⟨o, by rw [upd_ne (dn a ha)]; exact q2⟩, .inl ha⟩
      · rintro ρ' τ' vs'' σ' H' ⟨Z', A', B', c', t', g'⟩
        have hdH : H' d = some (.frz od (.dK kvs)) := g'.keep d _ upd_same fun q => dn d q rfl
        refine ⟨hdH, fun q1 q2 => ?_⟩
        -- nothing of the dict is shared, nor owned by another
        have free : ∀ a ∈ d :: A0, Z' a = none ∧ H' a = (upd H d (.frz od (.dK kvs))) a ∧ a ∉ A' ++ B' := fun a ha => by
          have hn : a ∉ A ++ B := fun q => n3 a ha a q rfl
          obtain ⟨z1, ⟨o, z2⟩, z3⟩ := own a (List.mem_append_left _ ha)
          obtain ⟨o', z4⟩ : ∃ o', (upd H d (.frz od (.dK kvs))) a = some o' := by
            by_cases q : a = d
            · subst q; exact ⟨_, upd_same⟩
            · exact ⟨o, by rw [upd_ne q]; exact z2⟩
          refine ⟨?_, ?_, fun q => ?_⟩
          · cases hz : Z' a with
            | none => rfl
            | some u =>
              rcases g'.zn a u hz with q | q | q
              · have q : Z a = some u := q
                rw [z1] at q; cases q
              · exact absurd q hn
              · have q : (upd H d (.frz od (.dK kvs))) a = none := q
                rw [z4] at q; cases q
          · rw [z4]
            exact g'.keep a o' z4 hn
          · rcases (g'.own a q).2.2 with w | w
            · exact hn w
            · have w : (upd H d (.frz od (.dK kvs))) a = none := w
              rw [z4] at w; cases w
        have fd := free d List.mem_cons_self
        have zz : Same Z Z' := g'.z0
        have oD : O K (upd H' d (.dK kvs)) Z' (.dic true ks ds) (.ref d) (d :: A0) := by
          refine .dic ⟨kvs, upd_same, e2, rfl⟩ fd.1 (h5.keep zz fun a ha => ?_)
          have hne : a ≠ d := fun q => by
            have := (List.nodup_cons.mp n1).1
            exact this (q ▸ ha)
          have f := free a (List.mem_cons_of_mem _ ha)
          exact ⟨by rw [upd_ne hne, f.2.1, upd_ne hne], f.1⟩
        have kp : ∀ a ∈ A' ++ B', (upd H' d (.dK kvs)) a = H' a ∧ Z' a = none := fun a ha => ⟨upd_ne fun q => fd.2.2 (q ▸ ha), (g'.own a ha).1⟩
        have c2 := c'.keep (H' := upd H' d (.dK kvs)) (Same.refl Z') fun a ha => kp a (List.mem_append_left _ ha)
        have t2 := t'.keep (H' := upd H' d (.dK kvs)) (Same.refl Z') fun a ha => kp a (List.mem_append_right _ ha)
        have low : ∀ a, κ.H0 a = none ∨ a ∈ κ.G ∨ H a = κ.H0 a := fun a => by
          cases h0 : κ.H0 a with
          | none => exact .inl rfl
          | some o =>
            by_cases q : a ∈ κ.G
            · exact .inr (.inl q)
            · exact .inr (.inr (by rw [← h0]; exact (g.keep a o h0 q).trans h0.symm))
        have g2 : Good κ (upd H' d (.dK kvs)) Z' (A' ++ ((d :: A0) ++ B')) := by
          have pm2 : (A' ++ ((d :: A0) ++ B')).Perm ((d :: A0) ++ (A' ++ B')) := by
            rw [← List.append_assoc, ← List.append_assoc]
            exact List.perm_append_comm.append_right _
          have back : ∀ a, (upd H d (.frz od (.dK kvs))) a = none → a ∈ κ.G ∨ κ.H0 a = none := fun a ha => by
            have hne : a ≠ d := fun q => by rw [q, upd_same] at ha; cases ha
            rw [upd_ne hne] at ha
            rcases low a with q | q | q
            · exact .inr q
            · exact .inl q
            · exact .inr (q ▸ ha)
          refine ⟨pm2.nodup_iff.mpr (List.nodup_append.mpr ⟨n1, g'.nd, fun a ha b hb q => (free a ha).2.2 (q ▸ hb)⟩), fun a o e => ?_, g.z0.trans zz, fun a o e n => ?_, fun a ha => ?_, fun a o e => ?_⟩
          · rw [upd_ne fun q => by rw [q, fd.1] at e; cases e]
            exact g'.zh a o e
          · have nd' : a ≠ d := fun q => by
              rcases (own d (List.mem_append_left _ List.mem_cons_self)).2.2 with w | w
              · exact n (q ▸ w)
              · rw [q, w] at e; cases e
            rw [upd_ne nd']
            refine g'.keep a o ?_ fun q => ?_
            · show (upd H d (.frz od (.dK kvs))) a = some o
              rw [upd_ne nd']
              exact g.keep a o e n
            · rcases (own a (List.mem_append_right _ q)).2.2 with w | w
              · exact n w
              · rw [w] at e; cases e
          · rcases List.mem_append.mp (pm2.mem_iff.mp ha) with q | q
            · have f := free a q
              obtain ⟨z1, ⟨o, z2⟩, z3⟩ := own a (List.mem_append_left _ q)
              refine ⟨f.1, ?_, z3⟩
              by_cases w : a = d
              · subst w; exact ⟨_, upd_same⟩
              · exact ⟨o, by rw [upd_ne w, f.2.1, upd_ne w]; exact z2⟩
            · obtain ⟨z1, ⟨o, z2⟩, z3⟩ := g'.own a q
              refine ⟨z1, ⟨o, by rw [upd_ne (fun w : a = d => fd.2.2 (w ▸ q))]; exact z2⟩, ?_⟩
              rcases z3 with w | w
              · exact (own a (List.mem_append_right _ w)).2.2
              · exact back a w
          · rcases g'.zn a o e with q | q | q
            · exact g.zn a o q
            · exact .inr ((own a (List.mem_append_right _ q)).2.2)
            · exact .inr (back a q)
        have s2 : Stt K κ ρ' (.v (.dic true ks ds) :: τ') (.ref d :: vs'') σ' (upd H' d (.dK kvs)) := ⟨Z', A', (d :: A0) ++ B', c2, .v oD t2, g2⟩
        exact s2.back q1 q2
end
def sForK (as : List Nat) (i : Nat) (g : D → Tg) (b : Cm Fl) : Cm Fl := fun ρ => match (ρ[i]?).join with
  | some (.dic true ks ds) => (loopL g (fun ρ => (b ρ).nox) ks (ρ.set i none)).bind fun fl ρ' => if hole ρ' i = true ∧ i ∉ as then .ok fl (ρ'.set i (some (.dic true ks ds))) else .bad
  | _ => .bad
section
variable {X : Cx} {W : WX} {as bs : List Nat} {tg iter : Expr} {g : D → Tg} {i : Nat} {pos : Pos}
theorem DS.forK {body : List Stmt} {b : Cm Fl} (h : PE X iter (tVar i)) (hp : PassesOwn (model X.prog X.w) X.A X.env X.xe) (hc : X.calm = true) (hg : DG X as tg g) (hb : DSs X W bs body b)
    (hs : ∀ x, foldedSetIterable iter X.env x = pure x := by intro _; rfl) : DS X W (as ++ bs) (.For tg iter body [] pos) (sForK (as ++ bs) i g b) := by
  refine PS.imp (ps_lock (ps_for hp hc (pi_keys h) hg hb hs)) fun E0 σ H ⟨κ, ρ, τ, vs, vo, st, w⟩ => ?_
  unfold sForK at w
  split at w
  · rename_i ks ds hd
    obtain ⟨d, kvs, hx, hH, ek, lk⟩ := st.lockOut (join_some hd)
    refine ⟨d, .dK kvs, hH, trivial, fun od => ?_⟩
    obtain ⟨κ1, st1, out⟩ := lk od
    let back : Fl → Cm Fl := fun fl ρ' => if hole ρ' i = true ∧ i ∉ as ++ bs then .ok fl (ρ'.set i (some (.dic true ks ds))) else .bad
    let P : Out Env Fl → Prop := fun o => (o.bind back).wp (postS X.K (as ++ bs) κ τ vs E0 σ) (fun _ _ => False)
    have w0 : P (loopL g (fun ρ => (b ρ).nox) ks (ρ.set i none)) := by
      have hn : ∀ (l : List D) (ρ0 : Env), ∀ e s, loopL g (fun ρ => (b ρ).nox) l ρ0 ≠ .exc e s := by
        intro l
        induction l with
        | nil => intro ρ0 e s q; cases q
        | cons x l ih =>
          intro ρ0 e s q
          unfold loopL at q
          cases hgx : g x ρ0 with
          | none => rw [hgx] at q; cases q
          | some ρ1 =>
            rw [hgx] at q
            cases hb2 : b ρ1 with
            | exc e' s' => simp only [hb2, Out.nox] at q; cases q
            | bad => simp only [hb2, Out.nox] at q; cases q
            | ok fl ρ2 =>
              simp only [hb2, Out.nox, Out.bind_ok] at q
              cases fl with
              | nx => exact ih ρ2 e s q
              | ct => exact ih ρ2 e s q
              | bk => cases q
              | rt d => cases q
      show (Out.bind _ _).wp _ _
      cases ho : loopL g (fun ρ => (b ρ).nox) ks (ρ.set i none) with
      | exc e s => exact absurd ho (hn _ _ e s)
      | bad => rw [ho] at w; exact w.elim
      | ok fl ρ2 =>
        rw [ho] at w
        simp only [Out.bind_ok] at w ⊢
        show (back fl ρ2).wp _ _
        by_cases hq : hole ρ2 i = true ∧ i ∉ as ++ bs
        · simp only [back, if_pos hq] at w ⊢
          exact w
        · simp only [back, if_neg hq] at w ⊢
          exact w
    -- the end, with the slot put back
    have fin : ∀ (ρ2 : Env) (π : List Tm) (ps : List V) (σ2 : L2.St) (H2 : Hp), Frm (as ++ bs) σ σ2 → Stt X.K κ1 ρ2 (π ++ τ) (ps ++ vs) σ2 H2 → ∀ {fl : Fl} {P' : Fl → Env → Prop} {E' : Exn → Env → Prop}, (back fl ρ2).wp P' E' →
        H2 d = some (.frz od (.dK kvs)) ∧ ∃ ρ3, Stt X.K κ ρ3 (π ++ τ) (ps ++ vs) σ2 (upd H2 d (.dK kvs)) ∧ P' fl ρ3 := by
      intro ρ2 π ps σ2 H2 fm st2 fl P' E' w2
      obtain ⟨q1, q2⟩ := out _ _ _ _ _ st2
      refine ⟨q1, ?_⟩
      by_cases hq : hole ρ2 i = true ∧ i ∉ as ++ bs
      · simp only [back, if_pos hq] at w2
        exact ⟨_, q2 (hole_eq hq.1) (by rw [fm i hq.2]; exact hx), w2⟩
      · simp only [back, if_neg hq] at w2
        exact w2.elim
    refine ⟨.ref d, hx, d, od, rfl, .inl ⟨kvs, upd_same, ?_⟩⟩
    have hlen : ks.length = kvs.length := by rw [ek, List.length_map]
    refine ⟨fun j m σ' H' => m = ks.length - j ∧ j ≤ ks.length ∧ Frm (as ++ bs) σ σ' ∧ ∃ ρ', Stt X.K κ1 ρ' τ vs σ' H' ∧ P (loopL g (fun ρ => (b ρ).nox) (ks.drop j) ρ'), ⟨ks.length, by simp, Nat.zero_le _, Frm.refl, _, st1, by rw [List.drop_zero]; exact w0⟩, ?_⟩
    rintro j m σ1 H2 ⟨rfl, hi, fm1, ρ2, st2, w2⟩
    have hd2 := (out _ _ _ _ _ st2).1
    by_cases hlt : j < ks.length
    · refine .inr ?_
      have ed : ks[j]? = some ks[j] := List.getElem?_eq_getElem hlt
      rw [getElem?_drop_cons ed] at w2
      cases hgd : g ks[j] ρ2 with
      | none =>
        simp only [P, loopL, hgd] at w2
        exact w2.elim
      | some ρ3 =>
        simp only [P, loopL, hgd] at w2
        refine ⟨⟨hd2, by omega⟩, fun σ' H' => Frm (as ++ bs) σ σ' ∧ ∃ ρ', Stt X.K κ1 ρ' τ vs σ' H' ∧ P (loopL g (fun ρ => (b ρ).nox) (ks.drop (j + 1)) ρ'), fun σ' H' ⟨a, b⟩ => ⟨ks.length - (j + 1), by omega, rfl, hlt, a, b⟩, fun x H3 y => ?_⟩
        obtain ⟨rfl, k, v, hkv, rfl⟩ := y
        have ek2 : ks[j] = keyD k := by
          have h1 : (kvs.map fun p => keyD p.1)[j]? = some ks[j] := by rw [← ek]; exact ed
          rw [List.getElem?_map, hkv] at h1
          exact (Option.some.inj h1).symm
        refine ⟨κ1, ρ2, τ, vs, ks[j], ρ3, vo, by rw [ek2]; exact st2.push fun Z => O.key k, hgd, fun σ3 H4 _ f3 st3 => ?_⟩
        have fm3 : Frm (as ++ bs) σ σ3 := fm1.in1 f3
        have w3 : ((b ρ3).nox.bind fun fl ρ4 => (Fl.lp (loopL g (fun ρ => (b ρ).nox) (ks.drop (j + 1))) fl ρ4).bind back).wp (postS X.K (as ++ bs) κ τ vs E0 σ) (fun _ _ => False) := by
          cases hbb : b ρ3 with
          | ok fl ρ4 => simp only [hbb, Out.nox] at w2 ⊢; exact w2
          | exc e s => simp only [hbb, Out.nox] at w2 ⊢; exact w2
          | bad => simp only [hbb, Out.nox] at w2 ⊢; exact w2
        have w4 : (b ρ3).wp (fun fl ρ4 => ((Fl.lp (loopL g (fun ρ => (b ρ).nox) (ks.drop (j + 1))) fl ρ4).bind back).wp (postS X.K (as ++ bs) κ τ vs E0 σ) (fun _ _ => False)) (fun _ _ => False) := by
          cases hbb : b ρ3 with
          | ok fl ρ4 => simp only [hbb, Out.nox, Out.bind_ok] at w3; exact w3
          | exc e s => simp only [hbb, Out.nox] at w3; exact w3.elim
          | bad => simp only [hbb, Out.nox] at w3; exact w3.elim
        refine ⟨κ1, ρ3, τ, vs, vo, st3, Out.wp_mono w4 (fun fl ρ4 w5 => ?_) fun e ρ4 z => z.elim⟩
        have fm4 : ∀ {σ'}, Frm bs σ3 σ' → Frm (as ++ bs) σ σ' := fun f4 => fm3.in2 f4
        cases fl with
        | nx => exact fun σ' H' f4 st4 => ⟨fm4 f4, ρ4, st4, w5⟩
        | ct => exact fun σ' H' f4 st4 => ⟨fm4 f4, ρ4, st4, w5⟩
        | bk =>
          intro σ' H' f4 st4
          obtain ⟨q1, ρ5, st5, w6⟩ := fin ρ4 [] [] σ' H' (fm4 f4) st4 (fl := .nx) w5
          exact ⟨q1, w6 σ' _ (fm4 f4) st5⟩
        | rt d0 =>
          intro v0 σ' H' f4 st4
          obtain ⟨q1, ρ5, st5, w6⟩ := fin ρ4 [.v d0] [v0] σ' H' (fm4 f4) st4 (fl := .rt d0) w5
          exact ⟨q1, w6 v0 σ' _ (fm4 f4) st5⟩
    · have e : j = ks.length := by omega
      subst e
      refine .inl ⟨⟨hd2, by omega⟩, ?_⟩
      rw [List.drop_length] at w2
      obtain ⟨q1, ρ5, st5, w6⟩ := fin ρ2 [] [] σ1 H2 fm1 st2 (fl := .nx) w2
      exact ⟨q1, w6 σ1 _ fm1 st5⟩
  · exact w.elim
end
end Dl

set_option linter.all false
set_option maxRecDepth 100000
namespace Dl
open PySem PySem.Spec PyProof.Rows L2
def kLS (x : Str) : PyData := .tuple [.int x.length, .str x]
def KeyF (P : Program) (w : World) (K : PySem.W.Frag) (mg : Str → Option Value) (base : Heap) (k : Nat) (f : Addr) : Prop :=
  ∀ (A : Around) (outer : List PySem.Env) (t : Shared) (U : Hp) (x : Str) (tk : Tok), RoomG k A → Env0 P w K mg base A outer t U → x.length ≤ sizeLine →
    wpAny (model P w) A (call (.ref f) [.str x tk]) (PySem.W.KeyPure (kLS x) t) (fun _ _ => False) t
theorem read_var {X : Cx} {pins : List (Addr × Obj)} {s : Shared} {σ : L2.St} {H : Hp} {E : Value → Shared → Prop} {Q : Value → Shared → Prop} {i : Nat} {x : Str} {v : V} {pos : Pos} (I : Inv X pins σ H s) (hN : X.N[i]? = some x) (e : σ[i]? = some (some v)) (hv : Vis X.env.scope x)
    (h : ∀ u, RelV v u → Q u s) (hd : (x == ("__debug__" : Str)) = false) (hcd : (x == ("__classdict__" : Str)) = false) : wpAny (model X.prog X.w) X.A (eval (.Name x pos) X.env) Q E s := by
  obtain ⟨m, hn, hl⟩ := I.loc
  obtain ⟨u, r, l⟩ := hl i x v hN e hv
  rcases l with ⟨hk, hm⟩ | ⟨hk, c, hc, hcell⟩
  · exact wpAny_Name (wpAny_loadName_local I.ok.kind hk hn hm (h u r)) hd
  · rcases hk with hk | hk
    · exact wpAny_Name (wpAny_loadName_cell I.ok.kind hk hc hcell (h u r)) hd
    · exact wpAny_Name (wpAny_loadName_free I.ok.kind hk hc hcell (h u r) hcd) hd
theorem key_mk {P : Program} {w : World} {K : PySem.W.Frag} {mg : Str → Option Value} {base : Heap} {x qual p : Str} {params : Arguments} {body : List Stmt} {scope : Scope} {f : Addr} {fd : FuncData} {k : Nat} {p1 p2 p3 p4 p5 p6 : Pos} {x1}
    (F : FunD K x qual params body scope [] [] f fd) (S : FnScope [p] [p] scope) (hb : Binds K fd [p] [])
    (hbody : body = [.Return (some (.Tuple [.Call (.Name "len" p1) [.Name p p2] [] p3, .Name p p4] x1 p5)) p6]) (hv : scope.names.lookup p = some .local) (hl : scope.names.lookup ("len" : Str) = some .globalImplicit) (hm : mg "len" = none)
    (hd : (p == ("__debug__" : Str)) = false) (hcd : (p == ("__classdict__" : Str)) = false) : KeyF P w K mg base (k + 1) f := by
  intro A outer t U z tk hr e0 hz
  obtain ⟨oc, od, dV, kV, doc, pm, an, cdv, ct, osl, rfl, lk, hcd2, _, _⟩ := F.ex
  have KX : K.In t.heap := e0.mod.kin.keeps fun b o e => (e0.bs b o e).1
  have lim : t.heap.NoLimit := e0.mod.nolimit.keeps fun b o e => (e0.bs b o e).1
  have kd : ∀ y ∈ [p].zip ([.str z tk] : List Value), scope.names.lookup y.1 = some .local ∨ (scope.names.lookup y.1 = some .cell ∧ ((cellsFrom (t.heap.objs.size + 1) scope.names []).lookup y.1).isSome = true) := fun y hy => by
    simp only [List.zip_cons_cons, List.zip_nil_right, List.mem_singleton] at hy
    subst hy
    exact .inl hv
  have r : Vals [.str z] ([.str z tk] : List Value) := .cons ⟨tk, rfl⟩ .nil
  refine wpAny_call (codeAny_call_function hr.r.depth (KX _ _ lk) rfl S.co S.gen rfl (PySem.W.codeRec_of KX hcd2) (hb t [.str z tk] KX rfl _ _ _ _ (wpAny_newFunctionEnv_cells S.kind kd fun env he t1 xx => ?_)))
  subst he
  refine ⟨lim.keeps xx.toInCall.keep, codeAny_func ?_⟩
  have I := inv_start (CX := L2.CX P w) (E := fun _ _ _ => False) S hr.r.hd e0 (vs := [.str z]) rfl r xx
  obtain ⟨h1, tk1, rfl, hk⟩ := xx.done
  show wpAny (model P w) (A.deeper (envOfC qual scope t.heap.objs.size f cdv)) (execs body (envOfC qual scope t.heap.objs.size f cdv)) _ _ _
  rw [hbody]
  generalize hX : cxOf (L2.CX P w) P w K mg base [p] qual scope f cdv A outer t U (fun _ _ _ => False) = X at I
  have e1 : X.prog = P := by rw [← hX]; rfl
  have e2 : X.w = w := by rw [← hX]; rfl
  have e3 : X.A = A.deeper (envOfC qual scope t.heap.objs.size f cdv) := by rw [← hX]; rfl
  have e4 : X.env = envOfC qual scope t.heap.objs.size f cdv := by rw [← hX]; rfl
  have e5 : X.N = [p] := by rw [← hX]; rfl
  have e6 : X.mg = mg := by rw [← hX]; rfl
  rw [← e1, ← e2, ← e3, ← e4]
  have hV : Vis X.env.scope p := by rw [e4]; exact .inl hv
  have hG : Gl X "len" := by
    unfold Gl
    rw [e4]
    exact hl
  refine wpAny_execs_cons (wpAny_Return_some (wpAny_Tuple_spliced (Calls.spliced_cons ?_)))
  refine wpAny_Call_Name_kw (ld_blt I hG (by rw [e6]; exact hm) PySem.boot_len (PyProof.Rows.callWith_builtin1 (rest := []) (e := .Name p p2) ?_ rfl rfl))
  refine Calls.spliced_cons (read_var (i := 0) (v := .str z) I (by rw [e5]; rfl) rfl hV (fun u ru => ?_) hd hcd)
  obtain ⟨t2, rfl⟩ := ru
  refine Calls.spliced_nil ?_
  have hs : sizeLine = 16777216 := sizeLine_eq
  refine PySem.P.len_str (by omega) ?_
  refine Calls.spliced_cons (read_var (i := 0) (v := .str z) (I.tok _) (by rw [e5]; rfl) rfl hV (fun u ru => ?_) hd hcd)
  obtain ⟨t3, rfl⟩ := ru
  refine Calls.spliced_nil ⟨by rw [hs]; show 2 ≤ _; omega, ?_⟩
  refine ⟨_, _, rfl, fun b o e => Heap.get?_push_of_some _ (hk b o e), ?_⟩
  refine .tuple (Heap.get?_push_size _ rfl) rfl rfl ?_
  exact .cons (.int _ _) (.cons (.str _ _) .nil)
theorem KeyF.mono {P : Program} {w : World} {K : PySem.W.Frag} {mg : Str → Option Value} {base : Heap} {f : Addr} {j k : Nat} (F : KeyF P w K mg base j f) (h : j ≤ k) : KeyF P w K mg base k f :=
  fun A outer t U x tk hr => F A outer t U x tk ⟨hr.r.mono h, hr.g⟩
theorem RoomG.in1 {k : Nat} {A : Around} (r : RoomG (k + 1) A) : RoomG k A.in1 := ⟨r.r.in1, r.g⟩
theorem each_strs : ∀ {xs : List Str} {us : List Value}, Vals (xs.map V.str) us → PySem.W.EachIs (fun u x => RelV (.str x) u) us xs
  | [], us, h => by cases h; exact .nil
  | x :: xs, us, h => by
    cases h with
    | cons r t => exact .cons r (each_strs t)
theorem strs_each : ∀ {xs : List Str} {us : List Value}, PySem.W.EachIs (fun u x => RelV (.str x) u) us xs → Vals (xs.map V.str) us
  | [], us, h => by cases h; exact .nil
  | x :: xs, us, h => by
    cases h with
    | cons r t => exact .cons r (strs_each t)
theorem kls_alike (xs : List Str) : PySem.W.AllAlike (xs.map kLS) := PySem.W.AllAlike.of fun _ _ => by simp [kLS, PySem.W.alike, PySem.W.alikeAll]
theorem kls_sortable (xs : List Str) : PySem.W.Sortable (xs.map kLS) := PySem.W.Sortable.tuples fun _ => ⟨_, _, rfl⟩
theorem kls_depth (x : Str) : (kLS x).depth = 1 := by simp [kLS, PyData.depth, PyData.depthAll]
def srtK (b : Bool) (xs : List Str) : List Str := xs.mergeSort (PySem.W.dataLe b kLS)
def rSortK (K : PySem.W.Frag) (b : Bool) (zs0 : List V) : List V → List V → Hp → VK → Prop := fun vs zs H Q => ∃ (p : Addr) (xs : List Str), vs = [.ref p] ∧ zs = zs0 ∧
  (SqL K H p (xs.map V.str) ∨ ∃ kvs : List (Key × V), Rd H p (.dK kvs) ∧ kvs.map (·.1) = xs.map Sum.inr) ∧ (∀ x ∈ xs, x.length ≤ sizeLine) ∧
  ∀ p', H p' = none → Q (.ref p') (upd H p' (.lst ((srtK b xs).map V.str)))
section
variable {X : Cx} {k : Nat} {f : Addr}
theorem sortK_run {b : Bool} {kw : List (Str × Value)} {pins : List (Addr × Obj)} {s : Shared} {σ : L2.St} {H : Hp} {p : Addr} {xs : List Str} {Q : VK} (F : KeyF X.prog X.w X.K X.mg X.base k f) (hr : RoomG (k + 2) X.A) (I : Inv X pins σ H s)
    (hs : SqL X.K H p (xs.map V.str)) (hx : ∀ x ∈ xs, x.length ≤ sizeLine) (ha1 : argsOk "sorted" ⟨[.ref p], kw⟩) (ha2 : ∀ x, argsOk "list.sort" ⟨[.ref x], kw⟩) (ht : ∀ x, Builtin.«list.sort» ⟨[.ref x], kw⟩ = PyProof.Rows.ksk_tree x (.ref f) b)
    (q : ∀ p', H p' = none → Q (.ref p') (upd H p' (.lst ((srtK b xs).map V.str)))) : wpAny (model X.prog X.w) X.A (call (.builtin "sorted") [.ref p] kw) (EP X pins σ Q) X.xe s := by
  obtain ⟨its, rv, hl, hz⟩ := I.list hs
  rw [List.length_map] at hz
  have hu := hr.r.un
  refine PySem.W.sorted_key_data (b := b) kLS hl.isList (each_strs rv) (kls_alike xs) (kls_sortable xs) hz (fun x _ => by rw [kls_depth]; omega) ha1 ha2 ht (fun v x rx hxm h tk kp => ?_) fun out c h' tk kp hn hD hlen eo => ?_
  · obtain ⟨t, rfl⟩ := rx
    have I1 : Inv X pins σ H { s with heap := h, toks := tk } := I.kept kp
    exact F X.A.in1.in1 X.stack _ H x t hr.in1.in1 I1.env0.in1.in1 (hx x hxm)
  · have hl2 : ((srtK b xs).map V.str).length ≤ sizeLine := by
      rw [List.length_map]
      show (xs.mergeSort _).length ≤ _
      rw [List.length_mergeSort]
      exact hz
    exact ⟨.ref _, upd H (s.heap.objs.size + 1) (.lst ((srtK b xs).map V.str)), I.laid (t' := tk) kp (Nat.le_succ _) ⟨hl2, out, c, strs_each eo, hD⟩, rfl, q _ (I.hok.fresh (Nat.le_succ _))⟩
theorem sortK_runD {b : Bool} {kw : List (Str × Value)} {pins : List (Addr × Obj)} {s : Shared} {σ : L2.St} {H : Hp} {p : Addr} {xs : List Str} {kvs : List (Key × V)} {Q : VK} (F : KeyF X.prog X.w X.K X.mg X.base k f) (hr : RoomG (k + 2) X.A) (I : Inv X pins σ H s)
    (hcalm : X.calm = true) (hd : Rd H p (.dK kvs)) (hks : kvs.map (·.1) = xs.map Sum.inr) (hx : ∀ x ∈ xs, x.length ≤ sizeLine) (ha1 : argsOk "sorted" ⟨[.ref p], kw⟩) (ha2 : ∀ x, argsOk "list.sort" ⟨[.ref x], kw⟩) (ht : ∀ x, Builtin.«list.sort» ⟨[.ref x], kw⟩ = PyProof.Rows.ksk_tree x (.ref f) b)
    (q : ∀ p', H p' = none → Q (.ref p') (upd H p' (.lst ((srtK b xs).map V.str)))) : wpAny (model X.prog X.w) X.A (call (.builtin "sorted") [.ref p] kw) (EP X pins σ Q) X.xe s := by
  obtain ⟨z, lo, vs, rel, dd⟩ := dk_rd I.hok hd
  obtain ⟨ep, hat⟩ := dd.dictAt
  have hkeys : vs.map (·.1) = xs.map Sum.inr := rel.keys.symm.trans hks
  have hl : vs.length = xs.length := by
    have e := congrArg List.length hkeys
    rw [List.length_map, List.length_map] at e
    exact e
  have h16 : vs.length ≤ sizeLine := by rw [← rel.length]; exact z
  have hu := hr.r.un
  refine PyProof.Rows.call_function_entry_kw PyProof.Rows.kind_sorted PyProof.Rows.plain_sorted PyProof.Rows.entry_sorted ha1 ?_
  unfold Builtin.«sorted»
  refine wpAny_bind (m := checkCount "sorted" 1 1 _) (wpAny_pure ?_)
  refine wpAny_bind (PySem.W.kdu_collect (A := X.A.in1) (PySem.W.kdl_dict (knd := mixKind X.prog X.w) (kvs := vs) (ep := ep) lo) (I.ok.hd hcalm) hat h16 fun h' tk acc hk hacc => ?_)
  have hal : acc.toList.length = xs.length := by rw [Array.length_toList, hacc.1, hl]
  have hv : Vals (xs.map V.str) acc.toList := by
    have h1 : Vals (vs.map fun p => kV p.1) acc.toList := keys_at (by rw [Array.length_toList]; exact hacc.1) fun j v e => hacc.2 j v (by rw [← Array.getElem?_toList]; exact e)
    have e2 : (vs.map fun p => kV p.1) = xs.map V.str := by
      have := congrArg (List.map kV) hkeys
      rw [List.map_map, List.map_map] at this
      exact this
    rw [← e2]
    exact h1
  have I1 : Inv X pins σ H { s with heap := h', toks := tk } := I.kept hk
  have hz : acc.toList.length ≤ sizeLine := by rw [hal, ← hl]; exact h16
  refine wpAny_bind (wpAny_newList ?_ hz)
  have hoL : (h'.push (seqObj "list" acc.toList.toArray 0)).get? h'.objs.size = some (seqObj "list" acc.toList.toArray 0) := Heap.get?_push_size _ rfl
  have old : ∀ b o, h'.get? b = some o → b ≠ h'.objs.size ∧ (h'.push (seqObj "list" acc.toList.toArray 0)).get? b = some o := fun b o e => ⟨Nat.ne_of_lt (Heap.lt_size e), Heap.get?_push_of_some _ e⟩
  show wpAny _ _ _ _ _ { s with heap := h'.push (seqObj "list" acc.toList.toArray 0), toks := tk }
  refine wpAny_bind (wpAny_holding (PyProof.Rows.wpAny_call_entry_kw PyProof.Rows.slot_list_sort ⟨_, hoL, rfl⟩ PyProof.Rows.entry_list_sort ?_ (ha2 _)))
  rw [ht]
  have ev := each_strs hv
  refine PySem.W.keyH_tree (kz := xs.map kLS) (s := { s with heap := h'.push (seqObj "list" acc.toList.toArray 0), toks := tk }) hoL (by rw [List.length_map]; exact hal.symm) hz (kls_alike xs) (kls_sortable xs) (PySem.W.bound_map (A := X.A.in1.in1) fun x _ => by rw [kls_depth]; show X.A.units + 1 + 1 + 1 < _; omega)
    (PySem.W.keyH_turns (s := { s with heap := h'.push (seqObj "list" acc.toList.toArray 0), toks := tk }) ev fun v x rx hxm h tk2 kp => ?_) fun h2 tk2 out c kp hD ko => ⟨.none, rfl, ?_⟩
  · obtain ⟨t, rfl⟩ := rx
    have I2 : Inv X pins σ H { s with heap := h, toks := tk2 } := I1.kept (t' := tk2) fun b o e => kp b o (old b o e).1 (old b o e).2
    exact F X.A.in1.in1 X.stack _ H x t hr.in1.in1 I2.env0.in1.in1 (hx x hxm)
  · have hl2 : ((srtK b xs).map V.str).length ≤ sizeLine := by
      rw [List.length_map]
      show (xs.mergeSort _).length ≤ _
      rw [List.length_mergeSort, ← hl]
      exact h16
    have eo := PySem.W.keyedOut_each kLS ko ev
    refine wpAny_pure ⟨_, rfl, .ref h'.objs.size, upd H h'.objs.size (.lst ((srtK b xs).map V.str)), I1.laid (t' := tk2) (fun b o e => kp b o (old b o e).1 (old b o e).2) (Nat.le_refl _) ⟨hl2, out, c, strs_each eo, hD⟩, rfl, q _ (I1.hok.fresh (Nat.le_refl _))⟩
theorem cr_sortK (F : KeyF X.prog X.w X.K X.mg X.base k f) (hr : RoomG (k + 2) X.A) (hcalm : X.calm = true) : CallRK X (.builtin "sorted") [Str.ofString "key"] (rSortK X.K false [.ref f]) := by
  intro pins s σ H vs zs us ws Q I r rz h
  obtain ⟨p, xs, rfl, rfl, hs, hx, q⟩ := h
  obtain rfl := Vals.ref1 r
  obtain ⟨w1, rfl, e1⟩ := vals1 rz
  obtain rfl : w1 = Value.ref f := e1
  rcases hs with hs | ⟨kvs, hd, hk⟩
  · exact sortK_run F hr I hs hx (PyProof.Rows.ksk_s1 _ _) (fun _ => PyProof.Rows.ksk_l1 _ _) (fun _ => PyProof.Rows.ksk_t1 _ _) q
  · exact sortK_runD F hr I hcalm hd hk hx (PyProof.Rows.ksk_s1 _ _) (fun _ => PyProof.Rows.ksk_l1 _ _) (fun _ => PyProof.Rows.ksk_t1 _ _) q
theorem cr_sortKR {b : Bool} (F : KeyF X.prog X.w X.K X.mg X.base k f) (hr : RoomG (k + 2) X.A) (hcalm : X.calm = true) : CallRK X (.builtin "sorted") [Str.ofString "key", Str.ofString "reverse"] (rSortK X.K b [.ref f, .bl b]) := by
  intro pins s σ H vs zs us ws Q I r rz h
  obtain ⟨p, xs, rfl, rfl, hs, hx, q⟩ := h
  obtain rfl := Vals.ref1 r
  obtain ⟨w1, w2, rfl, e1, e2⟩ := vals2 rz
  obtain rfl : w1 = Value.ref f := e1
  obtain rfl : w2 = Value.bool b := e2
  rcases hs with hs | ⟨kvs, hd, hk⟩
  · exact sortK_run F hr I hs hx (PyProof.Rows.ksk_s2 _ _ _) (fun _ => PyProof.Rows.ksk_l2 _ _ _) (fun _ => PyProof.Rows.ksk_t2 _ _ _) q
  · exact sortK_runD F hr I hcalm hd hk hx (PyProof.Rows.ksk_s2 _ _ _) (fun _ => PyProof.Rows.ksk_l2 _ _ _) (fun _ => PyProof.Rows.ksk_t2 _ _ _) q
end
end Dl

set_option linter.all false
set_option maxRecDepth 100000
namespace Dl
open PySem PySem.Spec PyProof.Rows L2
def ltS (x y : List Nat) : Bool := decide (x.length < y.length ∨ (x.length = y.length ∧ x < y))
def leS (b : Bool) (x y : List Nat) : Bool := cond b (!ltS x y) (!ltS y x)
def srtS (b : Bool) (l : List (List Nat)) : List (List Nat) := l.mergeSort (leS b)
theorem dataLt_kls (x y : List Nat) : PySem.W.dataLt (kLS ⟨x.toArray⟩) (kLS ⟨y.toArray⟩) = ltS x y := by
  unfold kLS
  rw [PySem.W.dataLt_pair (by simp [PySem.W.alike]) (by simp [PySem.W.alike]), PySem.W.dataLt_int, PySem.W.dataLt_str]
  simp only [PyData.eqv, beq_iff_eq, str_len]
  unfold ltS
  by_cases h1 : x.length = y.length
  · by_cases h2 : x = y
    · subst h2
      simp
    · have h3 : ¬ (⟨x.toArray⟩ : Str) = ⟨y.toArray⟩ := fun q => h2 (by injection q with q; simpa using q)
      simp [h1, h3]
  · have h3 : ¬ ((x.length : Int) = y.length) := by omega
    simp [h1, h3]
theorem leS_of (b : Bool) (x y : List Nat) : PySem.W.dataLe b kLS ⟨x.toArray⟩ ⟨y.toArray⟩ = leS b x y := by
  rw [PySem.W.dataLe_eq]
  simp only [dataLt_kls]
  rfl
theorem srtK_of (b : Bool) (l : List (List Nat)) : srtK b (l.map fun z => (⟨z.toArray⟩ : Str)) = (srtS b l).map fun z => ⟨z.toArray⟩ := by
  unfold srtK srtS
  rw [List.map_mergeSort (r := leS b) (s := PySem.W.dataLe b kLS) (f := fun z : List Nat => (⟨z.toArray⟩ : Str)) (fun x _ y _ => (leS_of b x y).symm)]
def strsOf : List D → Option (List (List Nat))
  | [] => some []
  | .str z :: l => (strsOf l).map (z :: ·)
  | _ => none
theorem strsOf_eq : ∀ {l : List D} {zs : List (List Nat)}, strsOf l = some zs → l = zs.map .str
  | [], zs, h => by cases h; rfl
  | d :: l, zs, h => by
    cases d <;> simp only [strsOf] at h <;> first | cases h | skip
    obtain ⟨r, e, rfl⟩ := Option.map_eq_some_iff.mp h
    rw [strsOf_eq e]
    rfl
theorem strsOf_map : ∀ l : List (List Nat), strsOf (l.map .str) = some l
  | [] => rfl
  | z :: l => by simp [strsOf, strsOf_map l]
def sortTo (b : Bool) (l : List D) : Option D := match strsOf l with
  | some zs => if zs.all (fun z => decide (z.length ≤ sizeLine)) = true then some (.lst true ((srtS b zs).map .str)) else none
  | none => none
def sortKD (b : Bool) : List D → Option D
  | [.lst _ l] => sortTo b l
  | [.dic _ l _] => sortTo b l
  | _ => none
theorem os_strs {K : PySem.W.Frag} {H Z : Hp} : ∀ (l : List (List Nat)), Os K H Z (l.map D.str) (l.map fun z => V.str ⟨z.toArray⟩) []
  | [] => .nil
  | z :: l => .cons (A := []) (B := []) (.str z) (os_strs l)
theorem os_strs_eq {K : PySem.W.Frag} {H Z : Hp} : ∀ {l : List (List Nat)} {xs : List V} {C : List Addr}, Os K H Z (l.map D.str) xs C → xs = l.map fun z => V.str ⟨z.toArray⟩
  | [], _, _, .nil => rfl
  | z :: l, _, _, .cons h1 h2 => by rw [os_strs_eq h2, h1.strV]; rfl
theorem ca_sortK {K : PySem.W.Frag} {b : Bool} {zs0 : List V} : CaD K (fun xs H Q => rSortK K b zs0 xs zs0 H Q) (sortKD b) := by
  intro κ ρ τ vs σ H Z A B ds xs c Q cc tt gg ow zz e k
  have go : ∀ {l : List D} {p : Addr}, sortTo b l = some c → (∀ zs : List (List Nat), l = zs.map .str → SqL K H p ((zs.map fun z => (⟨z.toArray⟩ : Str)).map V.str) ∨ ∃ kvs : List (Key × V), Rd H p (.dK kvs) ∧ kvs.map (·.1) = (zs.map fun z => (⟨z.toArray⟩ : Str)).map Sum.inr) → rSortK K b zs0 [.ref p] zs0 H Q := by
    intro l p e h
    unfold sortTo at e
    split at e
    · rename_i zs hz
      split at e
      · rename_i hc
        cases e
        have hl := strsOf_eq hz
        refine ⟨p, zs.map fun z => (⟨z.toArray⟩ : Str), rfl, rfl, h zs hl, fun x hx => ?_, fun p' hp' => ?_⟩
        · obtain ⟨z, hm, rfl⟩ := List.mem_map.mp hx
          rw [List.all_eq_true] at hc
          rw [str_len]
          simpa using hc z hm
        · rw [srtK_of, List.map_map]
          exact k _ _ (.mkLst cc tt gg (os_strs (srtS b zs)) hp') (Same_new hp')
      · cases e
    · cases e
  unfold sortKD at e
  split at e
  · rename_i o l
    cases ow with
    | cons o1 o2 =>
      cases o2
      obtain ⟨p, ys, rfl, hp, C2, q1⟩ := o1.listV zz
      refine go e fun zs hl => .inl (.of ?_)
      subst hl
      rw [os_strs_eq q1] at hp
      rw [List.map_map]
      exact hp
  · rename_i o l vs'
    cases ow with
    | cons o1 o2 =>
      cases o2
      obtain ⟨p, kvs, rfl, hp, hk, C2, q1⟩ := o1.dicV zz
      refine go e fun zs hl => .inr ⟨kvs, .inl hp, ?_⟩
      have e3 : (kvs.map fun p => keyD p.1) = zs.map D.str := by rw [← hk, hl]
      have e4 := congrArg (List.map toKey) e3
      rw [List.map_map, List.map_map] at e4
      rw [List.map_map]
      have e5 : kvs.map (toKey ∘ fun p => keyD p.1) = kvs.map (·.1) := by
        apply List.map_congr_left
        intro p _
        exact toKey_keyD p.1
      rw [e5] at e4
      exact e4
  · cases e
theorem Stt.mkDic {K : PySem.W.Frag} {κ : Fr} {ρ : Env} {τ : List Tm} {vs : List V} {σ : L2.St} {H Z : Hp} {A B : List Addr} {ds : List D} {kvs : List (Key × V)} {p : Addr} (c : Cells K H Z ρ σ A) (t : Tms K H Z σ τ vs B) (g : Good κ H Z (A ++ B)) (o : Os K H Z ds (kvs.map Prod.snd) []) (hp : H p = none) :
    Stt K κ ρ (.v (.dic true (kvs.map fun p => keyD p.1) ds) :: τ) (.ref p :: vs) σ (upd H p (.dK kvs)) := by
  have hz := z_new g hp
  have zz : Same Z Z := Same.refl Z
  have g' := g.newO (o := .dK kvs) hp
  have k := keep_new (o := .dK kvs) g hp
  exact ⟨Z, A, (p :: []) ++ B, c.keep zz fun a ha => k a (List.mem_append_left _ ha), .v (.dic ⟨kvs, upd_same, rfl, rfl⟩ hz (o.keep zz fun _ q => nomatch q)) (t.keep zz fun a ha => k a (List.mem_append_right _ ha)), g'.sub (.of_perm perm_front)⟩
def dictCD : List D → Option D
  | [.dic _ ks vs] => if D.owns vs = false then some (.dic true ks vs) else none
  | _ => none
theorem ca_dictC {K : PySem.W.Frag} : CaD K (fun xs H Q => ∃ (a : Addr) (kvs : List (Key × V)), xs = [.ref a] ∧ Rd H a (.dK kvs) ∧ ∀ p, H p = none → Q (.ref p) (upd H p (.dK kvs))) dictCD := by
  intro κ ρ τ vs σ H Z A B ds xs c Q cc tt gg ow zz e k
  unfold dictCD at e
  split at e
  · rename_i o ks ws
    split at e
    · rename_i hn
      cases e
      cases ow with
      | cons o1 o2 =>
        cases o2
        obtain ⟨p, kvs, rfl, hp, hk, C2, q1⟩ := o1.dicV zz
        refine ⟨p, kvs, rfl, .inl hp, fun p' hp' => ?_⟩
        rw [hk] at k
        exact k _ _ (.mkDic cc tt gg (q1.nil_of hn) hp') (Same_new hp')
    · cases e
  · cases e
def rInK (n : Bool) : R2 := fun x y H Q => ∃ (p : Addr) (kvs : List (Key × V)) (k : Key), x = kV k ∧ y = .ref p ∧ H p = some (.dK kvs) ∧ Q (.bl ((valV kvs k).isSome ^^ n)) H
def inKD (n : Bool) : D → D → Option D
  | a, .dic _ ks _ => if a.isKey then some (.bl (dhas ks a ^^ n)) else none
  | _, _ => none
section
variable {X : Cx}
theorem op_inK (hu : X.A.units + 1 < cLine) : OpR X (compareOp .In) (rInK false) := by
  intro pins s σ H x y v u Q I rx ry h
  obtain ⟨p, kvs, k, rfl, rfl, hp, q⟩ := h
  cases ry
  refine d_in hu I (.k hp) rx fun s' I' => ⟨.bl _, H, I', rfl, ?_⟩
  simpa using q
theorem op_notInK (hu : X.A.units + 1 < cLine) : OpR X (compareOp .NotIn) (rInK true) := by
  intro pins s σ H x y v u Q I rx ry h
  obtain ⟨p, kvs, k, rfl, rfl, hp, q⟩ := h
  cases ry
  refine d_notIn hu I (.k hp) rx fun s' I' => ⟨.bl _, H, I', rfl, ?_⟩
  simpa using q
end
theorem op2_inK {K : PySem.W.Frag} {n : Bool} : Op2 K true (rInK n) (inKD n) := op2_pure fun Z C1 C2 σ H va vb a b c Q zz o1 o2 e k => by
  unfold inKD at e
  split at e
  · rename_i o ks ws
    split at e
    · rename_i hk
      cases e
      obtain ⟨p, kvs, rfl, hp, rfl, D1, q1⟩ := o2.dicV zz
      refine ⟨p, kvs, toKey a, o1.keyV hk, rfl, hp, ?_⟩
      rw [← dhas_kvs hk]
      exact k H (Same.refl H) _ (fun Z => by simpa using O.bl (dhas (kvs.map fun p => keyD p.1) a ^^ n)) rfl
    · cases e
  · cases e
section
variable {X : Cx} {W : WX} {q q1 q2 : Bool} {a b e : Expr} {es : List Expr} {f g : Cm Tm} {fs : Cm (List Tm)} {pos p p2 kp : Pos} {x y : Str} {k : Nat}
theorem DE.inK (hu : X.A.units + 65 < cLine) (ha : DE X W q1 a f) (hb : DE X W q2 b g) (hm : behindInMarks .In b = false := by rfl) : DE X W (q1 && q2) (.Compare a [.In] [b] pos) (e2 (inKD false) f g) := DE.cmp (op_inK (by omega)) op2_inK ha hb hm
theorem DE.notinK (hu : X.A.units + 65 < cLine) (ha : DE X W q1 a f) (hb : DE X W q2 b g) (hm : behindInMarks .NotIn b = false := by rfl) : DE X W (q1 && q2) (.Compare a [.NotIn] [b] pos) (e2 (inKD true) f g) := DE.cmp (op_notInK (by omega)) op2_inK ha hb hm
theorem DT.inK (hu : X.A.units + 65 < cLine) (ha : DE X W q1 a f) (hb : DE X W q2 b g) (hm : behindInMarks .In b = false := by rfl) : DT X W (.Compare a [.In] [b] pos) (toB (e2 (inKD false) f g)) := DT.cmp (op_inK (by omega)) op2_inK ha hb hm
theorem DT.notinK (hu : X.A.units + 65 < cLine) (ha : DE X W q1 a f) (hb : DE X W q2 b g) (hm : behindInMarks .NotIn b = false := by rfl) : DT X W (.Compare a [.NotIn] [b] pos) (toB (e2 (inKD true) f g)) := DT.cmp (op_notInK (by omega)) op2_inK ha hb hm
structure KeyAt (P : Program) (w : World) (K : PySem.W.Frag) (mg : Str → Option Value) (base : Heap) (x : Str) (k : Nat) : Prop where
  ex : ∃ f, KeyF P w K mg base k f ∧ mg x = some (.ref f)
theorem DE.sortK (F : KeyAt X.prog X.w X.K X.mg X.base y k) (hr : RoomG (k + 2) X.A) (hm : X.mg "sorted" = none) (ha : DA X W q (e :: es) fs) (hc : X.calm = true := by rfl) (hg : Gl X "sorted" := by rfl) (hgy : Gl X y := by rfl) (hdy : (y == ("__debug__" : Str)) = false := by decide)
    (he : backTo pos (starEach (e :: es) X.env) = (false, eval e X.env) :: backTo pos (starEach es X.env) := by rfl) (hpl : (backTo pos (starEach (e :: es) X.env)).any (·.1) = false := by rfl)
    (hall : (backToKw pos (keywordEach [⟨some "key", .Name y p2, kp⟩] X.env)).all (·.1.isSome) = true := by rfl) (hnone : (backToKw pos (keywordEach [⟨some "key", .Name y p2, kp⟩] X.env)).any (·.1.isNone) = false := by rfl) (hks : (backToKw pos (keywordEach [⟨some "key", .Name y p2, kp⟩] X.env)).filterMap (·.1) = [Str.ofString "key"] := by rfl) :
    DE X W q (.Call (.Name "sorted" p) (e :: es) [⟨some "key", .Name y p2, kp⟩] pos) (eCa (sortKD false) fs) := by
  obtain ⟨f, hf, hmf⟩ := F.ex
  exact PE.imp (pe_callBK (cr_sortK hf hr hc) hg hm (by decide +kernel) ha (pk_cons (pe_glob (v := .ref f) hgy hmf rfl hdy) pk_nil) (by decide) (by decide) he hpl hall hnone hks) fun _ _ _ h => ca_imp ca_sortK h
theorem DE.sortKR {v : Bool} {j} {p3 kp2 : Pos} (F : KeyAt X.prog X.w X.K X.mg X.base y k) (hr : RoomG (k + 2) X.A) (hm : X.mg "sorted" = none) (ha : DA X W q (e :: es) fs) (hc : X.calm = true := by rfl) (hg : Gl X "sorted" := by rfl) (hgy : Gl X y := by rfl) (hdy : (y == ("__debug__" : Str)) = false := by decide)
    (he : backTo pos (starEach (e :: es) X.env) = (false, eval e X.env) :: backTo pos (starEach es X.env) := by rfl) (hpl : (backTo pos (starEach (e :: es) X.env)).any (·.1) = false := by rfl)
    (hall : (backToKw pos (keywordEach [⟨some "key", .Name y p2, kp⟩, ⟨some "reverse", .Constant (.bool v) j p3, kp2⟩] X.env)).all (·.1.isSome) = true := by rfl) (hnone : (backToKw pos (keywordEach [⟨some "key", .Name y p2, kp⟩, ⟨some "reverse", .Constant (.bool v) j p3, kp2⟩] X.env)).any (·.1.isNone) = false := by rfl)
    (hks : (backToKw pos (keywordEach [⟨some "key", .Name y p2, kp⟩, ⟨some "reverse", .Constant (.bool v) j p3, kp2⟩] X.env)).filterMap (·.1) = [Str.ofString "key", Str.ofString "reverse"] := by rfl) :
    DE X W q (.Call (.Name "sorted" p) (e :: es) [⟨some "key", .Name y p2, kp⟩, ⟨some "reverse", .Constant (.bool v) j p3, kp2⟩] pos) (eCa (sortKD v) fs) := by
  obtain ⟨f, hf, hmf⟩ := F.ex
  exact PE.imp (pe_callBK (cr_sortKR (b := v) hf hr hc) hg hm (by decide +kernel) ha (pk_cons (pe_glob (v := .ref f) hgy hmf rfl hdy) (pk_cons pe_bl pk_nil)) (by decide) (by decide) he hpl hall hnone hks) fun _ _ _ h => ca_imp ca_sortK h
end
end Dl

set_option linter.all false
set_option maxRecDepth 100000
namespace Dl
open PySem PySem.Spec PyProof.Rows L2
section
variable {X : Cx} {W : WX} {q q1 q2 : Bool} {a b : Expr} {f g : Cm Tm} {pos : Pos}
def eDic0 : Cm Tm := fun ρ => .ok (.v (.dic true [] [])) ρ
theorem DE.dic0 : DE X W false (.Dict [] [] pos) eDic0 :=
  PE.imp pe_dnewK fun σ H Q ⟨κ, ρ, τ, vs, st, w⟩ p hp => w _ _ (st.dic0 hp) fun z => nomatch z
end
end Dl

set_option linter.all false
set_option maxRecDepth 100000
namespace Lf
open PySem hiding Env
open PySem.Spec hiding Tm
open PyProof.Rows L2 Dl

structure Ex where
  tag : Nat
  fs : List (Str × D)
inductive R (α : Type) where
  | ok (a : α) | exc (e : Ex) | bad
section
variable {α β γ σ : Type}
def R.bind (x : R α) (f : α → R β) : R β := match x with
  | .ok a => f a
  | .exc e => .exc e
  | .bad => .bad
def call (x : R α) (f : α → R β) : R β := match x with
  | .ok a => f a
  | _ => .bad
def opt (x : Option α) (f : α → R β) : R β := match x with
  | some a => f a
  | none => .bad
open Classical in
noncomputable def grd (c : Prop) (x : R β) : R β := if c then x else .bad
def nm (x : α) (f : α → R β) : R β := f x
@[simp] theorem bind_ok (a : α) (f : α → R β) : (R.ok a).bind f = f a := rfl
@[simp] theorem bind_exc (e : Ex) (f : α → R β) : (R.exc e : R α).bind f = .exc e := rfl
@[simp] theorem bind_bad (f : α → R β) : (R.bad : R α).bind f = .bad := rfl
@[simp] theorem call_ok (a : α) (f : α → R β) : call (R.ok a) f = f a := rfl
@[simp] theorem opt_some (a : α) (f : α → R β) : opt (some a) f = f a := rfl
theorem grd_ok {c : Prop} (h : c) (x : R β) : grd c x = x := if_pos h
@[simp] theorem grd_true (x : R β) : grd True x = x := if_pos trivial
@[simp] theorem nm_eq (x : α) (f : α → R β) : nm x f = f x := rfl
def forK (xs : List α) (body : α → (σ → R β) → σ → R β) (k : σ → R β) : σ → R β := match xs with
  | [] => k
  | x :: xs => body x (forK xs body k)
@[simp] theorem forK_nil (body : α → (σ → R β) → σ → R β) (k : σ → R β) (s : σ) : forK [] body k s = k s := rfl
theorem forK_cons (x : α) (xs : List α) (body : α → (σ → R β) → σ → R β) (k : σ → R β) (s : σ) : forK (x :: xs) body k s = body x (forK xs body k) s := rfl
inductive Fw (σ β : Type) where
  | nx (s : σ) | bk (s : σ) | rt (b : β)
def whileN (c : σ → R Bool) (b : σ → R (Fw σ β)) : Nat → σ → R (Fw σ β)
  | 0, _ => .bad
  | n + 1, s => (c s).bind fun t => if t = true then (b s).bind fun w => match w with
      | .nx s => whileN c b n s
      | .bk s => .ok (.nx s)
      | .rt b => .ok (.rt b)
    else .ok (.nx s)
theorem whileN_more (c : σ → R Bool) (b : σ → R (Fw σ β)) : ∀ n s, whileN c b n s ≠ .bad → whileN c b (n + 1) s = whileN c b n s
  | 0, s, h => (h rfl).elim
  | n + 1, s, h => by
    unfold whileN at h ⊢
    cases hc : c s with
    | bad => rfl
    | exc e => rfl
    | ok t =>
      rw [hc] at h
      simp only [bind_ok] at h ⊢
      cases t with
      | false => rfl
      | true =>
        simp only [if_true] at h ⊢
        cases hb : b s with
        | bad => rfl
        | exc e => rfl
        | ok w =>
          rw [hb] at h
          simp only [bind_ok] at h ⊢
          cases w with
          | nx s' => exact whileN_more c b n s' h
          | bk s' => rfl
          | rt v => rfl
theorem whileN_le (c : σ → R Bool) (b : σ → R (Fw σ β)) {n m : Nat} (hm : n ≤ m) (s : σ) (h : whileN c b n s ≠ .bad) : whileN c b m s = whileN c b n s := by
  obtain ⟨k, rfl⟩ := Nat.exists_eq_add_of_le hm
  induction k with
  | zero => rfl
  | succ k ih =>
    have e := ih (Nat.le_add_right _ _)
    rw [← e]
    exact whileN_more c b (n + k) s (by rw [e]; exact h)
open Classical in
noncomputable def whileR (c : σ → R Bool) (b : σ → R (Fw σ β)) (s : σ) : R (Fw σ β) := if h : ∃ n, whileN c b n s ≠ .bad then whileN c b h.choose s else .bad
theorem whileR_eq {c : σ → R Bool} {b : σ → R (Fw σ β)} {n : Nat} {s : σ} (h : whileN c b n s ≠ .bad) : whileR c b s = whileN c b n s := by
  have hx : ∃ n, whileN c b n s ≠ .bad := ⟨n, h⟩
  unfold whileR
  rw [dif_pos hx]
  rcases Nat.le_total n hx.choose with q | q
  · exact whileN_le c b q s h
  · exact (whileN_le c b q s hx.choose_spec).symm
theorem whileR_step (c : σ → R Bool) (b : σ → R (Fw σ β)) (s : σ) : whileR c b s = (c s).bind fun t => if t = true then (b s).bind fun w => match w with
      | .nx s => whileR c b s
      | .bk s => .ok (.nx s)
      | .rt b => .ok (.rt b)
    else .ok (.nx s) := by
  cases hc : c s with
  | bad =>
    have : ∀ n, whileN c b n s = .bad := fun n => by cases n <;> simp [whileN, hc]
    unfold whileR
    rw [dif_neg (fun ⟨n, h⟩ => h (this n))]
    rfl
  | exc e =>
    have : whileN c b 1 s = .exc e := by simp [whileN, hc]
    rw [whileR_eq (n := 1) (by rw [this]; simp), this]
    rfl
  | ok t =>
    cases t with
    | false =>
      have : whileN c b 1 s = .ok (.nx s) := by simp [whileN, hc]
      rw [whileR_eq (n := 1) (by rw [this]; simp), this]
      rfl
    | true =>
      cases hb : b s with
      | bad =>
        have : ∀ n, whileN c b n s = .bad := fun n => by cases n <;> simp [whileN, hc, hb]
        unfold whileR
        rw [dif_neg (fun ⟨n, h⟩ => h (this n))]
        rfl
      | exc e =>
        have : whileN c b 1 s = .exc e := by simp [whileN, hc, hb]
        rw [whileR_eq (n := 1) (by rw [this]; simp), this]
        rfl
      | ok w =>
        cases w with
        | nx s' =>
          have e : ∀ n, whileN c b (n + 1) s = whileN c b n s' := fun n => by simp [whileN, hc, hb]
          simp only [bind_ok, if_true]
          by_cases h : ∃ n, whileN c b n s' ≠ .bad
          · obtain ⟨n, hn⟩ := h
            rw [whileR_eq hn, whileR_eq (n := n + 1) (by rw [e]; exact hn), e]
          · unfold whileR
            rw [dif_neg h, dif_neg (fun ⟨n, hn⟩ => by
              cases n with
              | zero => exact hn rfl
              | succ n => exact h ⟨n, by rw [← e]; exact hn⟩)]
        | bk s' =>
          have : whileN c b 1 s = .ok (.nx s') := by simp [whileN, hc, hb]
          rw [whileR_eq (n := 1) (by rw [this]; simp), this]
          rfl
        | rt v =>
          have : whileN c b 1 s = .ok (.rt v) := by simp [whileN, hc, hb]
          rw [whileR_eq (n := 1) (by rw [this]; simp), this]
          rfl
def fwd (x : R (Fw σ β)) (k : σ → R β) : R β := x.bind fun w => match w with
  | .nx s => k s
  | .bk s => k s
  | .rt b => .ok b
@[simp] theorem fwd_nx (s : σ) (k : σ → R β) : fwd (.ok (.nx s)) k = k s := rfl
@[simp] theorem fwd_bk (s : σ) (k : σ → R β) : fwd (.ok (.bk s)) k = k s := rfl
@[simp] theorem fwd_rt (b : β) (k : σ → R β) : fwd (.ok (.rt b)) k = .ok b := rfl
def mapR (xs : List α) (f : α → R β) : R (List β) := match xs with
  | [] => .ok []
  | x :: xs => (f x).bind fun y => (mapR xs f).bind fun ys => .ok (y :: ys)
def fmapR (xs : List α) (f : α → R (Option β)) : R (List β) := match xs with
  | [] => .ok []
  | x :: xs => (f x).bind fun y => (fmapR xs f).bind fun ys => .ok (match y with | some y => y :: ys | none => ys)
def mapS (xs : List α) (f : α → σ → R (β × σ)) (s : σ) : R (List β × σ) := match xs with
  | [] => .ok ([], s)
  | x :: xs => (f x s).bind fun y => (mapS xs f y.2).bind fun ys => .ok (y.1 :: ys.1, ys.2)
def fmapS (xs : List α) (f : α → σ → R (Option β × σ)) (s : σ) : R (List β × σ) := match xs with
  | [] => .ok ([], s)
  | x :: xs => (f x s).bind fun y => (fmapS xs f y.2).bind fun ys => .ok (match y.1 with | some y => y :: ys.1 | none => ys.1, ys.2)
theorem mapR_ok {f : α → R β} {g : α → β} : ∀ {xs : List α}, (∀ x ∈ xs, f x = .ok (g x)) → mapR xs f = .ok (xs.map g)
  | [], _ => rfl
  | x :: xs, h => by
    simp [mapR, h x List.mem_cons_self, mapR_ok fun y hy => h y (List.mem_cons_of_mem _ hy)]
theorem fmapR_ok {f : α → R (Option β)} {g : α → Option β} : ∀ {xs : List α}, (∀ x ∈ xs, f x = .ok (g x)) → fmapR xs f = .ok (xs.filterMap g)
  | [], _ => rfl
  | x :: xs, h => by
    simp only [fmapR, h x List.mem_cons_self, fmapR_ok fun y hy => h y (List.mem_cons_of_mem _ hy), bind_ok, List.filterMap_cons]
    cases g x <;> rfl
def R.wp (x : R α) (Q : α → Prop) : Prop := match x with
  | .ok a => Q a
  | _ => False
@[simp] theorem wp_ok (a : α) (Q : α → Prop) : (R.ok a).wp Q ↔ Q a := Iff.rfl
@[simp] theorem wp_bad (Q : α → Prop) : (R.bad : R α).wp Q ↔ False := Iff.rfl
@[simp] theorem wp_exc (e : Ex) (Q : α → Prop) : (R.exc e : R α).wp Q ↔ False := Iff.rfl
theorem wp_iff {x : R α} {Q : α → Prop} : x.wp Q ↔ ∃ a, x = .ok a ∧ Q a := by
  cases x <;> simp
theorem wp_bind {x : R α} {f : α → R β} {Q : β → Prop} : (x.bind f).wp Q ↔ x.wp fun a => (f a).wp Q := by
  cases x <;> rfl
theorem wp_call {x : R α} {f : α → R β} {Q : β → Prop} : (call x f).wp Q ↔ x.wp fun a => (f a).wp Q := by
  cases x <;> rfl
theorem wp_opt {x : Option α} {f : α → R β} {Q : β → Prop} : (opt x f).wp Q ↔ ∃ a, x = some a ∧ (f a).wp Q := by
  cases x <;> simp [opt]
theorem wp_grd {c : Prop} {x : R β} {Q : β → Prop} : (grd c x).wp Q ↔ c ∧ x.wp Q := by
  unfold grd
  split <;> simp [*]
theorem wp_mono {x : R α} {P Q : α → Prop} (h : x.wp P) (k : ∀ a, P a → Q a) : x.wp Q := by
  cases x with
  | ok a => exact k a h
  | exc e => exact h
  | bad => exact h
theorem wp_fwd {x : R (Fw σ β)} {k : σ → R β} {Q : β → Prop} : (fwd x k).wp Q ↔ x.wp fun w => match w with
    | .nx s => (k s).wp Q
    | .bk s => (k s).wp Q
    | .rt b => Q b := by
  unfold fwd
  rw [wp_bind]
  cases x with
  | ok w => cases w <;> rfl
  | exc e => rfl
  | bad => rfl
theorem wp_for {body : α → (σ → R β) → σ → R β} {k : σ → R β} {Q : β → Prop} (I : List α → σ → Prop) (h : ∀ x xs s next, I (x :: xs) s → (∀ s', I xs s' → (next s').wp Q) → (body x next s).wp Q) (hk : ∀ s, I [] s → (k s).wp Q) : ∀ xs s, I xs s → (forK xs body k s).wp Q
  | [], s, hi => hk s hi
  | x :: xs, s, hi => h x xs s _ hi fun s' hs => wp_for I h hk xs s' hs
theorem wp_mapR {f : α → R β} {P : β → Prop} : ∀ {xs : List α}, (∀ x ∈ xs, (f x).wp P) → (mapR xs f).wp fun ys => (∀ y ∈ ys, P y) ∧ ys.length = xs.length
  | [], _ => by simp [mapR]
  | x :: xs, h => by
    simp only [mapR, wp_bind]
    refine wp_mono (h x List.mem_cons_self) fun y hy => wp_mono (wp_mapR fun z hz => h z (List.mem_cons_of_mem _ hz)) fun ys hys => ?_
    simp only [wp_ok, List.mem_cons, List.length_cons, hys.2, and_true]
    rintro z (rfl | hz)
    · exact hy
    · exact hys.1 z hz
theorem wp_mapS {f : α → σ → R (β × σ)} {P : β → Prop} {I : σ → Prop} : ∀ {xs : List α} {s : σ}, I s → (∀ x ∈ xs, ∀ s, I s → (f x s).wp fun y => P y.1 ∧ I y.2) → (mapS xs f s).wp fun ys => (∀ y ∈ ys.1, P y) ∧ ys.1.length = xs.length ∧ I ys.2
  | [], s, hs, _ => by simpa [mapS] using hs
  | x :: xs, s, hs, h => by
    simp only [mapS, wp_bind]
    refine wp_mono (h x List.mem_cons_self s hs) fun y hy => wp_mono (wp_mapS hy.2 fun z hz => h z (List.mem_cons_of_mem _ hz)) fun ys hys => ?_
    simp only [wp_ok, List.mem_cons, List.length_cons, hys.2.1, true_and]
    refine ⟨?_, hys.2.2⟩
    rintro z (rfl | hz)
    · exact hy.1
    · exact hys.1 z hz
theorem wp_mono_mem {f : α → σ → R (Option β × σ)} {P : β → Prop} {I : σ → Prop} : ∀ {xs : List α} {s : σ}, I s → (∀ x ∈ xs, ∀ s, I s → (f x s).wp fun y => (∀ z, y.1 = some z → P z) ∧ I y.2) → (fmapS xs f s).wp fun ys => (∀ y ∈ ys.1, P y) ∧ ys.1.length ≤ xs.length ∧ I ys.2
  | [], s, hs, _ => by simpa [fmapS] using hs
  | x :: xs, s, hs, h => by
    simp only [fmapS, wp_bind]
    refine wp_mono (h x List.mem_cons_self s hs) fun y hy => wp_mono (wp_mono_mem hy.2 fun z hz => h z (List.mem_cons_of_mem _ hz)) fun ys hys => ?_
    simp only [wp_ok]
    cases e : y.1 with
    | none => exact ⟨hys.1, Nat.le_succ_of_le hys.2.1, hys.2.2⟩
    | some v =>
      refine ⟨fun z hz => ?_, by simpa using hys.2.1, hys.2.2⟩
      rcases List.mem_cons.mp hz with rfl | hz
      · exact hy.1 _ e
      · exact hys.1 z hz
end
end Lf

set_option linter.all false
set_option maxRecDepth 100000
namespace Lf
open PySem hiding Env
open PySem.Spec hiding Tm
open PyProof.Rows L2 Dl
section
variable {α β γ δ ε : Type}
abbrev Tx := List Char
def nats (s : Tx) : List Nat := s.map Char.toNat
def zI (n : Int) : D := .int n
def zB (b : Bool) : D := .bl b
def zS (s : Tx) : D := .str (nats s)
def zC (c : Char) : D := .str [c.toNat]
def zU (_ : Unit) : D := .non
def zO (e : α → D) : Option α → D
  | none => .non
  | some a => e a
def zT0 (_ : Unit) : D := .tup []
def zT1 (e : α → D) (a : α) : D := .tup [e a]
def zT2 (e : α → D) (f : β → D) (p : α × β) : D := .tup [e p.1, f p.2]
def zT3 (e : α → D) (f : β → D) (g : γ → D) (p : α × β × γ) : D := .tup [e p.1, f p.2.1, g p.2.2]
def zT4 (e : α → D) (f : β → D) (g : γ → D) (h : δ → D) (p : α × β × γ × δ) : D := .tup [e p.1, f p.2.1, g p.2.2.1, h p.2.2.2]
def zT5 (e : α → D) (f : β → D) (g : γ → D) (h : δ → D) (i : ε → D) (p : α × β × γ × δ × ε) : D := .tup [e p.1, f p.2.1, g p.2.2.1, h p.2.2.2.1, i p.2.2.2.2]
def zQ (e : α → D) (l : List α) : D := .tup (l.map e)
def zL (o : Bool) (e : α → D) (l : List α) : D := .lst o (l.map e)
def zScr (l : List Int) : D := .scr l
structure Nice (n : Nat) (e : α → D) : Prop where
  cold : ∀ a, (e a).cold
  pl : ∀ a, (e a).pl = true
  dep : ∀ a, (e a).dep ≤ n
  eq : ∀ a b, eqD (e a) (e b) = true ↔ a = b
theorem Nice.own {n : Nat} {e : α → D} (h : Nice n e) (a : α) : (e a).own = false := (h.cold a).2.2
theorem nats_inj {a b : Tx} : nats a = nats b ↔ a = b := by
  unfold nats
  rw [List.map_inj_right]
  intro x y h
  exact Char.ext (UInt32.toNat_inj.mp h)
theorem char_lt (c : Char) : c.toNat < 1114112 := by
  have := c.valid
  show c.val.toNat < _
  rcases this with h | h
  · have h : c.val.toNat < 0xd800 := h
    omega
  · have h : _ ∧ c.val.toNat < 0x110000 := h
    omega
theorem nats_ok (s : Tx) : PyData.strOk ⟨(nats s).toArray⟩ = true := by
  unfold PyData.strOk nats
  simp only [List.all_toArray, List.all_map, List.all_eq_true, Function.comp_def, decide_eq_true_eq]
  intro c _
  exact char_lt c
theorem nI : Nice 0 zI := ⟨fun _ => ⟨rfl, rfl, rfl⟩, fun _ => rfl, fun _ => Nat.le_refl _, fun a b => by simp [eqD, zI, D.P, PyData.eqv]⟩
theorem nB : Nice 0 zB := ⟨fun _ => ⟨rfl, rfl, rfl⟩, fun _ => rfl, fun _ => Nat.le_refl _, fun a b => by cases a <;> cases b <;> decide⟩
theorem nU : Nice 0 zU := ⟨fun _ => ⟨rfl, rfl, rfl⟩, fun _ => rfl, fun _ => Nat.le_refl _, fun a b => by simp [eqD, zU, D.P, PyData.eqv]⟩
theorem str_beq (a b : List Nat) : ((⟨a.toArray⟩ : Str) == ⟨b.toArray⟩) = true ↔ a = b := by
  refine ⟨fun h => ?_, fun h => by subst h; simp⟩
  have h := eq_of_beq h
  injection h with h
  simpa using h
theorem nS : Nice 0 zS := ⟨fun _ => ⟨rfl, rfl, rfl⟩, nats_ok, fun _ => Nat.le_refl _, fun a b => by
  show PyData.eqv (.str _) (.str _) = true ↔ _
  rw [PyData.eqv, str_beq]
  exact nats_inj⟩
theorem nC : Nice 0 zC := ⟨fun _ => ⟨rfl, rfl, rfl⟩, fun c => nats_ok [c], fun _ => Nat.le_refl _, fun a b => by
  show PyData.eqv (.str _) (.str _) = true ↔ _
  rw [PyData.eqv, str_beq, show [a.toNat] = nats [a] from rfl, show [b.toNat] = nats [b] from rfl, nats_inj]
  simp⟩
theorem Nice.up {n m : Nat} {e : α → D} (h : Nice n e) (hm : n ≤ m) : Nice m e := ⟨h.cold, h.pl, fun a => Nat.le_trans (h.dep a) hm, h.eq⟩
theorem colds_map {e : α → D} (h : ∀ a, (e a).cold) (l : List α) : D.colds (l.map e) := cold_map h l
theorem Nice.colds {n : Nat} {e : α → D} (h : Nice n e) (l : List α) : D.colds (l.map e) := cold_map h.cold l
theorem cold_tup {l : List D} (h : D.colds l) : (D.tup l).cold := by
  obtain ⟨a, b, c⟩ := cold_list h
  exact ⟨by simp [a], by simp [b], by simp [c]⟩
theorem cold_lst {l : List D} (h : D.colds l) : (D.lst false l).cold := by
  obtain ⟨a, b, c⟩ := cold_list h
  exact ⟨by simp [a], by simp [b], by simp⟩
theorem pls_map {n : Nat} {e : α → D} (h : Nice n e) : ∀ l : List α, D.pls (l.map e) = true
  | [] => rfl
  | a :: l => by simp [D.pls, h.pl a, pls_map h l]
theorem deps_map {n : Nat} {e : α → D} (h : Nice n e) : ∀ l : List α, D.deps (l.map e) ≤ n
  | [] => Nat.zero_le _
  | a :: l => by
    simp only [List.map_cons, D.deps]
    exact Nat.max_le.mpr ⟨h.dep a, deps_map h l⟩
theorem eqs_map {n : Nat} {e : α → D} (h : Nice n e) : ∀ l m : List α, PyData.eqvAll (D.Ps (l.map e)) (D.Ps (m.map e)) = true ↔ l = m
  | [], [] => by simp [D.Ps, PyData.eqvAll]
  | [], _ :: _ => by simp [D.Ps, PyData.eqvAll]
  | _ :: _, [] => by simp [D.Ps, PyData.eqvAll]
  | a :: l, b :: m => by
    simp only [List.map_cons, D.Ps, PyData.eqvAll, Bool.and_eq_true, List.cons.injEq]
    rw [eqs_map h l m]
    have := h.eq a b
    unfold eqD at this
    rw [this]
theorem nQ {n : Nat} {e : α → D} (h : Nice n e) : Nice (n + 1) (zQ e) := ⟨fun l => cold_tup (h.colds l), fun l => by simp [zQ, D.pl, pls_map h l], fun l => by
    simp only [zQ, D.dep]
    have := deps_map h l
    omega, fun a b => by
    show PyData.eqv (.tuple _) (.tuple _) = true ↔ _
    rw [PyData.eqv]
    exact eqs_map h a b⟩
theorem nL {n : Nat} {e : α → D} (h : Nice n e) : Nice (n + 1) (zL false e) := ⟨fun l => cold_lst (h.colds l), fun l => by simp [zL, D.pl, pls_map h l], fun l => by
    simp only [zL, D.dep]
    have := deps_map h l
    omega, fun a b => by
    show PyData.eqv (.list _) (.list _) = true ↔ _
    rw [PyData.eqv]
    exact eqs_map h a b⟩
theorem nT0 : Nice 1 zT0 := ⟨fun _ => cold_tup (fun d h => nomatch h), fun _ => rfl, fun _ => by simp [zT0, D.dep, D.deps], fun a b => by simp [zT0, eqD, D.P, D.Ps, PyData.eqv, PyData.eqvAll]⟩
theorem colds_cons {d : D} {l : List D} (h : d.cold) (k : D.colds l) : D.colds (d :: l) := fun x hx => by
  rcases List.mem_cons.mp hx with rfl | hx
  · exact h
  · exact k x hx
theorem colds_nil : D.colds [] := fun d h => nomatch h
theorem nT1 {n : Nat} {e : α → D} (h : Nice n e) : Nice (n + 1) (zT1 e) := ⟨fun a => cold_tup (colds_cons (h.cold a) colds_nil), fun a => by simp [zT1, D.pl, D.pls, h.pl a], fun a => by
    simp only [zT1, D.dep, D.deps]
    have := h.dep a
    omega, fun a b => by
    have := h.eq a b
    unfold eqD at this
    simp [zT1, eqD, D.P, D.Ps, PyData.eqv, PyData.eqvAll, this]⟩
theorem nT2 {n : Nat} {e : α → D} {f : β → D} (h : Nice n e) (k : Nice n f) : Nice (n + 1) (zT2 e f) := ⟨fun a => cold_tup (colds_cons (h.cold a.1) (colds_cons (k.cold a.2) colds_nil)), fun a => by simp [zT2, D.pl, D.pls, h.pl, k.pl], fun a => by
    simp only [zT2, D.dep, D.deps]
    have := h.dep a.1
    have := k.dep a.2
    omega, fun a b => by
    have h1 := h.eq a.1 b.1
    have h2 := k.eq a.2 b.2
    unfold eqD at h1 h2
    simp [zT2, eqD, D.P, D.Ps, PyData.eqv, PyData.eqvAll, h1, h2, Prod.ext_iff]⟩
theorem nT3 {n : Nat} {e : α → D} {f : β → D} {g : γ → D} (h : Nice n e) (k : Nice n f) (j : Nice n g) : Nice (n + 1) (zT3 e f g) := ⟨fun a => cold_tup (colds_cons (h.cold _) (colds_cons (k.cold _) (colds_cons (j.cold _) colds_nil))), fun a => by simp [zT3, D.pl, D.pls, h.pl, k.pl, j.pl], fun a => by
    simp only [zT3, D.dep, D.deps]
    have := h.dep a.1
    have := k.dep a.2.1
    have := j.dep a.2.2
    omega, fun a b => by
    have h1 := h.eq a.1 b.1
    have h2 := k.eq a.2.1 b.2.1
    have h3 := j.eq a.2.2 b.2.2
    unfold eqD at h1 h2 h3
    simp [zT3, eqD, D.P, D.Ps, PyData.eqv, PyData.eqvAll, h1, h2, h3, Prod.ext_iff]⟩
theorem nT4 {n : Nat} {e : α → D} {f : β → D} {g : γ → D} {i : δ → D} (h : Nice n e) (k : Nice n f) (j : Nice n g) (l : Nice n i) : Nice (n + 1) (zT4 e f g i) := ⟨fun a => cold_tup (colds_cons (h.cold _) (colds_cons (k.cold _) (colds_cons (j.cold _) (colds_cons (l.cold _) colds_nil)))), fun a => by simp [zT4, D.pl, D.pls, h.pl, k.pl, j.pl, l.pl], fun a => by
    simp only [zT4, D.dep, D.deps]
    have := h.dep a.1
    have := k.dep a.2.1
    have := j.dep a.2.2.1
    have := l.dep a.2.2.2
    omega, fun a b => by
    have h1 := h.eq a.1 b.1
    have h2 := k.eq a.2.1 b.2.1
    have h3 := j.eq a.2.2.1 b.2.2.1
    have h4 := l.eq a.2.2.2 b.2.2.2
    unfold eqD at h1 h2 h3 h4
    simp [zT4, eqD, D.P, D.Ps, PyData.eqv, PyData.eqvAll, h1, h2, h3, h4, Prod.ext_iff]⟩
theorem nT5 {n : Nat} {e : α → D} {f : β → D} {g : γ → D} {i : δ → D} {o : ε → D} (h : Nice n e) (k : Nice n f) (j : Nice n g) (l : Nice n i) (m : Nice n o) : Nice (n + 1) (zT5 e f g i o) := ⟨fun a => cold_tup (colds_cons (h.cold _) (colds_cons (k.cold _) (colds_cons (j.cold _) (colds_cons (l.cold _) (colds_cons (m.cold _) colds_nil))))), fun a => by simp [zT5, D.pl, D.pls, h.pl, k.pl, j.pl, l.pl, m.pl], fun a => by
    simp only [zT5, D.dep, D.deps]
    have := h.dep a.1
    have := k.dep a.2.1
    have := j.dep a.2.2.1
    have := l.dep a.2.2.2.1
    have := m.dep a.2.2.2.2
    omega, fun a b => by
    have h1 := h.eq a.1 b.1
    have h2 := k.eq a.2.1 b.2.1
    have h3 := j.eq a.2.2.1 b.2.2.1
    have h4 := l.eq a.2.2.2.1 b.2.2.2.1
    have h5 := m.eq a.2.2.2.2 b.2.2.2.2
    unfold eqD at h1 h2 h3 h4 h5
    simp [zT5, eqD, D.P, D.Ps, PyData.eqv, PyData.eqvAll, h1, h2, h3, h4, h5, Prod.ext_iff]⟩
theorem nO {n : Nat} {e : α → D} (h : Nice n e) (hn : ∀ a, eqD .non (e a) = false ∧ eqD (e a) .non = false) : Nice n (zO e) := ⟨fun a => by
    cases a with
    | none => exact ⟨rfl, rfl, rfl⟩
    | some a => exact h.cold a, fun a => by
    cases a with
    | none => rfl
    | some a => exact h.pl a, fun a => by
    cases a with
    | none => exact Nat.zero_le _
    | some a => exact h.dep a, fun a b => by
    cases a with
    | none =>
      cases b with
      | none => simp [eqD, zO, D.P, PyData.eqv]
      | some b => simp [zO, (hn b).1]
    | some a =>
      cases b with
      | none => simp [zO, (hn a).2]
      | some b => simp [zO, h.eq a b]⟩
theorem none_I (a : Int) : eqD .non (zI a) = false ∧ eqD (zI a) .non = false := by simp [eqD, zI, D.P, PyData.eqv]
theorem none_B (a : Bool) : eqD .non (zB a) = false ∧ eqD (zB a) .non = false := by simp [eqD, zB, D.P, PyData.eqv]
theorem none_S (a : Tx) : eqD .non (zS a) = false ∧ eqD (zS a) .non = false := by simp [eqD, zS, D.P, PyData.eqv]
theorem none_C (a : Char) : eqD .non (zC a) = false ∧ eqD (zC a) .non = false := by simp [eqD, zC, D.P, PyData.eqv]
theorem none_tup (a : List D) : eqD .non (.tup a) = false ∧ eqD (.tup a) .non = false := by simp [eqD, D.P, PyData.eqv]
theorem none_lst (o : Bool) (a : List D) : eqD .non (.lst o a) = false ∧ eqD (.lst o a) .non = false := by simp [eqD, D.P, PyData.eqv]
theorem deep_of {n m : Nat} {e : α → D} {f : β → D} (h : Nice n e) (k : Nice m f) (a : α) (b : β) (hn : n ≤ 64) (hm : m ≤ 64) : deepOk (e a) (f b) := ⟨h.pl a, k.pl b, Nat.le_trans (h.dep a) hn, Nat.le_trans (k.dep b) hm⟩
theorem eq_nice [DecidableEq α] {n : Nat} {e : α → D} (h : Nice n e) (hn : n ≤ 64) (a b : α) (k : Bool) : eqDD k (e a) (e b) = some (.bl (decide (a = b) ^^ k)) := by
  have h1 : eqD (e a) (e b) = decide (a = b) := by
    by_cases q : a = b
    · rw [decide_eq_true q]; exact (h.eq a b).mpr q
    · rw [decide_eq_false q]
      cases e2 : eqD (e a) (e b) with
      | false => rfl
      | true => exact (q ((h.eq a b).mp e2)).elim
  have h2 : eqP k (e a) (e b) = some (.bl (decide (a = b) ^^ k)) := by
    unfold eqP
    rw [if_pos (deep_of h h a b hn hn), h1]
  unfold eqDD
  cases h3 : eqS k (e a) (e b) with
  | none => rw [h2]; rfl
  | some c =>
    -- scalars: the same answer
    have : c = .bl (eqD (e a) (e b) ^^ k) := by
      unfold eqS scD at h3
      split at h3 <;> simp only [Option.map_some, Option.map_none, Option.some.injEq, reduceCtorEq] at h3 <;> subst h3 <;> rename_i q1 q2 <;> try rw [q1, q2]
      · simp only [eqD, D.P, PyData.eqv]
        exact congrArg (fun x => D.bl (x ^^ k)) (Bool.eq_iff_iff.mpr (by simp))
      · rename_i i j
        have := str_beq i j
        by_cases q : i = j
        · subst q; simp [eqD, D.P, PyData.eqv]
        · have : PyData.eqv (.str ⟨i.toArray⟩) (.str ⟨j.toArray⟩) = false := by
            rw [PyData.eqv]
            cases z : ((⟨i.toArray⟩ : Str) == ⟨j.toArray⟩) with
            | false => rfl
            | true => exact (q ((str_beq i j).mp z)).elim
          simp [eqD, D.P, this, q]
      · rename_i i j; cases i <;> cases j <;> simp [eqD, D.P, PyData.eqv]
      all_goals simp [eqD, D.P, PyData.eqv]
    rw [this, h1]
    rfl
end
end Lf

set_option linter.all false
set_option maxRecDepth 100000
namespace Lf
open PySem hiding Env
open PySem.Spec hiding Tm
open PyProof.Rows L2 Dl
section
variable {α β γ σ : Type} {ρ ρ1 ρ2 ρ3 : Env} {i j : Nat} {a b c d d' : D} {t ta tb : Tm} {ts : List Tm} {ds : List D} {f g h : Cm Tm} {fs : Cm (List Tm)} {fb gb : Cm Bool} {k l : Bool}
def Ev (ρ : Env) (m : Cm Tm) (t : Tm) (ρ' : Env) : Prop := m ρ = .ok t ρ'
def EvB (ρ : Env) (m : Cm Bool) (b : Bool) (ρ' : Env) : Prop := m ρ = .ok b ρ'
def EvA (ρ : Env) (m : Cm (List Tm)) (ts : List Tm) (ρ' : Env) : Prop := m ρ = .ok ts ρ'
def EvO (ρ : Env) (m : Cm (Option Int)) (o : Option Int) (ρ' : Env) : Prop := m ρ = .ok o ρ'
theorem ev_N (h : ρ[i]? = some (some d)) (c : d.own = false) : Ev ρ (eN i) (.v d) ρ := by
  unfold Ev eN
  rw [h]
  simp [c]
theorem ev_M (h : ρ[i]? = some (some d)) : Ev ρ (eM i) (.s i) ρ := by
  unfold Ev eM
  rw [h]
  simp
theorem ev_F (h : ρ[i]? = some (some d)) (z : d.fz = true) (e : d.frz = d') : Ev ρ (eF i) (.v d') (ρ.set i (some d')) := by
  unfold Ev eF
  rw [h]
  simp [z, e]
theorem ev_G (h : ρ[i]? = some (some d)) : Ev ρ (eG i) (.v d) (ρ.set i none) := by
  unfold Ev eG
  rw [h]
  simp
theorem ev_C : Ev ρ (eC d) (.v d) ρ := rfl
theorem ev_2 {gg : D → D → Option D} (h1 : Ev ρ f ta ρ1) (h2 : Ev ρ1 g tb ρ2) (l1 : look ρ2 ta = some a) (l2 : look ρ2 tb = some b) (h : gg a b = some c) : Ev ρ (e2 gg f g) (.v c) ρ2 := by
  unfold Ev e2
  rw [h1, Out.bind_ok, h2, Out.bind_ok, l1, l2]
  simp [h]
theorem ev_Z (h1 : Ev ρ f (.v d) ρ1) (z : d.fz = true) (e : d.frz = d') : Ev ρ (eZ f) (.v d') ρ1 := by
  unfold Ev eZ
  rw [h1, Out.bind_ok]
  simp [z, e]
theorem ev_Zc (h1 : Ev ρ f (.v d) ρ1) (z : d.cold) : Ev ρ (eZ f) (.v d) ρ1 := ev_Z h1 z.1 z.2.1
theorem ev_neg {n : Int} (h1 : Ev ρ f t ρ1) (l1 : look ρ1 t = some (zI n)) : Ev ρ (eNeg f) (.v (zI (-n))) ρ1 := by
  unfold Ev eNeg
  rw [h1, Out.bind_ok, l1]
  rfl
theorem ev_not (h1 : Ev ρ f (.v (zB k)) ρ1) : Ev ρ (vNot f) (.v (zB (!k))) ρ1 := by
  unfold Ev vNot
  rw [h1, Out.bind_ok]
  rfl
theorem ev_and (h1 : Ev ρ f (.v (zB k)) ρ1) (h2 : Ev ρ1 g (.v (zB l)) ρ1) : Ev ρ (vAnd f g) (.v (zB (k && l))) ρ1 := by
  unfold Ev vAnd
  rw [h1, Out.bind_ok]
  cases k
  · rfl
  · exact h2
theorem ev_or (h1 : Ev ρ f (.v (zB k)) ρ1) (h2 : Ev ρ1 g (.v (zB l)) ρ1) : Ev ρ (vOr f g) (.v (zB (k || l))) ρ1 := by
  unfold Ev vOr
  rw [h1, Out.bind_ok]
  cases k
  · exact h2
  · rfl
def andR (a : Bool) (y : R Bool) : R Bool := if a = true then y else .ok false
def orR (a : Bool) (y : R Bool) : R Bool := if a = true then .ok true else y
def iteR (a : Bool) (x y : R α) : R α := if a = true then x else y
theorem ev_andR {y : R Bool} (h1 : Ev ρ f (.v (zB k)) ρ1) (h2 : ∀ l, y = .ok l → Ev ρ1 g (.v (zB l)) ρ1) (h : andR k y = .ok l) : Ev ρ (vAnd f g) (.v (zB l)) ρ1 := by
  unfold Ev vAnd
  rw [h1, Out.bind_ok]
  cases k
  · cases h; rfl
  · exact h2 l h
theorem ev_orR {y : R Bool} (h1 : Ev ρ f (.v (zB k)) ρ1) (h2 : ∀ l, y = .ok l → Ev ρ1 g (.v (zB l)) ρ1) (h : orR k y = .ok l) : Ev ρ (vOr f g) (.v (zB l)) ρ1 := by
  unfold Ev vOr
  rw [h1, Out.bind_ok]
  cases k
  · exact h2 l h
  · cases h; rfl
theorem ev_if {m : Cm Bool} (h1 : EvB ρ m k ρ1) (h2 : k = true → Ev ρ1 f (.v d) ρ2) (h3 : k = false → Ev ρ1 g (.v d) ρ2) : Ev ρ (eIf m f g) (.v d) ρ2 := by
  unfold Ev eIf
  rw [h1, Out.bind_ok]
  cases k
  · exact h3 rfl
  · exact h2 rfl
theorem ev_iteR {m : Cm Bool} {x y : R α} {v : α} {e : α → D} (h1 : EvB ρ m k ρ1) (h2 : ∀ v, x = .ok v → Ev ρ1 f (.v (e v)) ρ1) (h3 : ∀ v, y = .ok v → Ev ρ1 g (.v (e v)) ρ1) (h : iteR k x y = .ok v) : Ev ρ (eIf m f g) (.v (e v)) ρ1 := by
  unfold Ev eIf
  rw [h1, Out.bind_ok]
  cases k
  · exact h3 v h
  · exact h2 v h
theorem ev_ite {m : Cm Bool} {x y : α} {e : α → D} (h1 : EvB ρ m k ρ1) (h2 : Ev ρ1 f (.v (e x)) ρ1) (h3 : Ev ρ1 g (.v (e y)) ρ1) : Ev ρ (eIf m f g) (.v (e (if k = true then x else y))) ρ1 := by
  unfold Ev eIf
  rw [h1, Out.bind_ok]
  cases k
  · exact h3
  · exact h2
theorem eb_val (h1 : Ev ρ f (.v (zB k)) ρ1) : EvB ρ (toB f) k ρ1 := by
  unfold EvB toB
  rw [h1, Out.bind_ok]
  rfl
theorem eb_not (h1 : EvB ρ fb k ρ1) : EvB ρ (bNot fb) (!k) ρ1 := by
  unfold EvB bNot
  rw [h1, Out.bind_ok]
theorem eb_and (h1 : EvB ρ fb k ρ1) (h2 : EvB ρ1 gb l ρ1) : EvB ρ (bAnd fb gb) (k && l) ρ1 := by
  unfold EvB bAnd
  rw [h1, Out.bind_ok]
  cases k
  · rfl
  · exact h2
theorem eb_or (h1 : EvB ρ fb k ρ1) (h2 : EvB ρ1 gb l ρ1) : EvB ρ (bOr fb gb) (k || l) ρ1 := by
  unfold EvB bOr
  rw [h1, Out.bind_ok]
  cases k
  · exact h2
  · rfl
theorem eb_andR {y : R Bool} (h1 : EvB ρ fb k ρ1) (h2 : ∀ l, y = .ok l → EvB ρ1 gb l ρ1) (h : andR k y = .ok l) : EvB ρ (bAnd fb gb) l ρ1 := by
  unfold EvB bAnd
  rw [h1, Out.bind_ok]
  cases k
  · cases h; rfl
  · exact h2 l h
theorem eb_orR {y : R Bool} (h1 : EvB ρ fb k ρ1) (h2 : ∀ l, y = .ok l → EvB ρ1 gb l ρ1) (h : orR k y = .ok l) : EvB ρ (bOr fb gb) l ρ1 := by
  unfold EvB bOr
  rw [h1, Out.bind_ok]
  cases k
  · exact h2 l h
  · cases h; rfl
theorem eb_yes : EvB ρ bYes true ρ := rfl
theorem ea_nil : EvA ρ aNil [] ρ := rfl
theorem ea_cons (h1 : Ev ρ f t ρ1) (h2 : EvA ρ1 fs ts ρ2) : EvA ρ (aCons f fs) (t :: ts) ρ2 := by
  unfold EvA aCons
  rw [h1, Out.bind_ok, h2, Out.bind_ok]
theorem dats_tms : ∀ ds : List D, dats (tms ds) = some ds
  | [] => rfl
  | d :: ds => by simp [tms, dats, show dats (List.map Tm.v ds) = some ds from dats_tms ds]
theorem small {n : Nat} (h : n.ble 1000 = true) : n ≤ sizeLine := by
  have := Nat.le_of_ble_eq_true h
  rw [sizeLine_eq]
  omega
theorem ev_tup (h1 : EvA ρ fs (tms ds) ρ1) (hz : ds.length.ble 1000 = true) : Ev ρ (eTup fs) (.v (.tup ds)) ρ1 := by
  unfold Ev eTup
  rw [h1, Out.bind_ok, dats_tms]
  simp [small hz]
theorem ev_lst (h1 : EvA ρ fs (tms ds) ρ1) (hz : ds.length.ble 1000 = true) : Ev ρ (eLst fs) (.v (.lst true ds)) ρ1 := by
  unfold Ev eLst
  rw [h1, Out.bind_ok, dats_tms]
  simp [small hz]
theorem ev_as (h1 : Ev ρ f (.v d) ρ1) (e : d = d') : Ev ρ f (.v d') ρ1 := e ▸ h1
theorem eo_none : EvO ρ oNone none ρ := rfl
theorem eo_some {n : Int} (h1 : Ev ρ f t ρ1) (l1 : look ρ1 t = some (zI n)) : EvO ρ (oSome f) (some n) ρ1 := by
  unfold EvO oSome
  rw [h1, Out.bind_ok, l1]
  rfl
theorem ev_sl {lo hi : Cm (Option Int)} {x y : Option Int} (h1 : Ev ρ f t ρ1) (h2 : EvO ρ1 lo x ρ2) (h3 : EvO ρ2 hi y ρ3) (l1 : look ρ3 t = some a) (h : slD a x y = some b) : Ev ρ (eSl f lo hi) (.v b) ρ3 := by
  unfold Ev eSl
  rw [h1, Out.bind_ok, h2, Out.bind_ok, h3, Out.bind_ok, l1]
  simp [h]
theorem ev_ca {gg : List D → Option D} (h1 : EvA ρ fs ts ρ1) (l1 : looks ρ1 ts = some ds) (h : gg ds = some c) : Ev ρ (eCa gg fs) (.v c) ρ1 := by
  unfold Ev eCa
  rw [h1, Out.bind_ok, l1]
  simp [h]
theorem ev_caP {gg : List D → Option D} {pf : Pf} {ip : Nat × List Pc} (h1 : pf ρ = some ip) (h2 : getP ρ ip = some d) (h : gg [d] = some c) : Ev ρ (eCaP gg pf) (.v c) ρ := by
  unfold Ev eCaP
  rw [h1]
  simp [h2, h]
theorem ev_rd {pf : Pf} {ip : Nat × List Pc} (h1 : pf ρ = some ip) (h2 : getP ρ ip = some d) (c : d.own = false) : Ev ρ (eRd pf) (.v d) ρ := by
  unfold Ev eRd
  rw [h1]
  simp [h2, c]
theorem ev_rg1 {n : Int} (h1 : Ev ρ f t ρ1) (l1 : look ρ1 t = some (zI n)) (h : inG 0 n = true) : Ev ρ (eRg1 false f) (.v (.lst true (rngD 0 n.toNat))) ρ1 := eRg1_ok h1 l1 h
theorem ev_rg2 {m n : Int} (h1 : Ev ρ f ta ρ1) (h2 : Ev ρ1 g tb ρ2) (l1 : look ρ2 ta = some (zI m)) (l2 : look ρ2 tb = some (zI n)) (h : inG m n = true) : Ev ρ (eRg2 false f g) (.v (.lst true (rngD m (n - m).toNat))) ρ2 := eRg2_ok h1 h2 l1 l2 h
theorem ev_me {T : String} {gg : List D → Option D} (h1 : Ev ρ g t ρ1) (l1 : look ρ1 t = some a) (ty : tyD T a = true) (h2 : EvA ρ1 fs ts ρ2) (l2 : looks ρ2 (t :: ts) = some ds) (h : gg ds = some c) : Ev ρ (eMe T gg g fs) (.v c) ρ2 := by
  unfold Ev eMe
  rw [h1, Out.bind_ok, l1]
  simp only [ty, if_true]
  rw [h2, Out.bind_ok, l2]
  simp [h]
theorem ev_mut {T : String} {q : Bool} {gg : D → List D → Option (D × D)} {pf : Pf} {ip : Nat × List Pc} (h1 : pf ρ = some ip) (h2 : getP ρ ip = some a) (ty : tyD T a = true) (ha : EvA ρ fs ts ρ1) (hq : (q || ip.2.isEmpty) = true) (hl : lend ρ1 ts = some (ds, ρ2))
    (h3 : getP ρ2 ip = some b) (h : gg b ds = some (c, d)) : Ev ρ (eMut T q gg pf fs) (.v c) (setP ρ2 ip d) := by
  unfold Ev eMut
  rw [h1]
  simp only [h2, ty, if_true]
  rw [ha, Out.bind_ok]
  simp [hq, hl, h3, h]
theorem ev_mut0 {T : String} {gg : D → List D → Option (D × D)} {pf : Pf} {ip : Nat × List Pc} (h1 : pf ρ = some ip) (h2 : getP ρ ip = some a) (ty : tyD T a = true) (h : gg a [] = some (c, d)) : Ev ρ (eMut0 T gg pf) (.v c) (setP ρ ip d) :=
  ev_mut h1 h2 ty ea_nil rfl rfl h2 h
variable {cl : Nat → Addr}
def RefF (cl : Nat → Addr) (n : Nat) (o : Out (List D) D) (T : R β) (er : β → D × List D) : Prop := match T with
  | .ok b => o = .ok (er b).1 (er b).2
  | .exc e => ∃ s, s.length = n ∧ o = .exc ⟨e.tag, e.fs⟩ s
  | .bad => True
theorem lend_0 : lend ρ [] = some ([], ρ) := rfl
theorem lend_1 (k : lend ρ ts = some (ds, ρ1)) : lend ρ (.v d :: ts) = some (d :: ds, ρ1) := by simp [lend, k]
theorem lend_c (h : ρ[i]? = some (some d)) (c : d.own = false) (k : lend ρ ts = some (ds, ρ1)) : lend ρ (.s i :: ts) = some (d :: ds, ρ1) := by simp [lend, h, c, k]
theorem lend_o (h : ρ[i]? = some (some d)) (c : d.own = true) (k : lend (ρ.set i none) ts = some (ds, ρ1)) : lend ρ (.s i :: ts) = some (d :: ds, ρ1) := by simp [lend, h, c, k]
theorem rest_0 {ds ds' : List D} : restore ρ [] ds ds' = some ρ := by cases ds <;> cases ds' <;> rfl
theorem rest_1 {ds ds' : List D} (k : restore ρ ts ds ds' = some ρ1) : restore ρ (.v d :: ts) (a :: ds) (b :: ds') = some ρ1 := k
theorem rest_c {ds ds' : List D} (c : a.own = false) (k : restore ρ ts ds ds' = some ρ1) : restore ρ (.s i :: ts) (a :: ds) (b :: ds') = some ρ1 := by simp [restore, c, k]
theorem rest_o {ds ds' : List D} (c : a.own = true) (h : hole ρ i = true) (k : restore (ρ.set i (some b)) ts ds ds' = some ρ1) : restore ρ (.s i :: ts) (a :: ds) (b :: ds') = some ρ1 := by simp [restore, c, h, k]
theorem ev_call {n m : Nat} {F : List D → Out (List D) D} {T : R β} {er : β → D × List D} {v : β} (hF : RefF cl m (F ds) T er) (h1 : EvA ρ fs ts ρ1) (hn : (ts.length == n) = true) (hl : lend ρ1 ts = some (ds, ρ2)) (hv : T = .ok v) (hr : restore ρ2 ts ds (er v).2 = some ρ3) :
    Ev ρ (callD n F [] fs) (.v (er v).1) ρ3 := by
  unfold Ev callD
  rw [h1, Out.bind_ok]
  have hn : ts.length = n := by simpa using hn
  simp only [List.length_nil, Nat.add_zero, hn, if_true]
  unfold eCall
  rw [Out.bind_ok]
  simp only [hl, List.append_nil]
  subst hv
  have e : F ds = .ok (er v).1 (er v).2 := hF
  rw [e]
  simp [hr]
def Ref (cl : Nat → Addr) (Fin : γ → Env → β → Prop) (X : Env → Prop) (o : Out Env γ) (T : R β) : Prop := match T with
  | .ok b => ∃ a ρ, o = .ok a ρ ∧ Fin a ρ b
  | .exc e => ∃ ρ, o = .exc ⟨e.tag, e.fs⟩ ρ ∧ X ρ
  | .bad => True
variable {δ : Type} {Fin : δ → Env → β → Prop} {X : Env → Prop} {o : Out Env δ} {T T1 T2 : R β} {K : Fl → Env → Out Env δ} {sg sh : Cm Fl}
theorem ref_grd {c : Prop} (h : c → Ref cl Fin X o T) : Ref cl Fin X o (grd c T) := by
  unfold grd
  split
  · exact h ‹_›
  · trivial
theorem ref_opt {x : Option α} {T : α → R β} (h : ∀ v, x = some v → Ref cl Fin X o (T v)) : Ref cl Fin X o (opt x T) := by
  cases x with
  | none => trivial
  | some v => exact h v rfl
theorem ref_call {x : R α} {T : α → R β} (h : ∀ v, x = .ok v → Ref cl Fin X o (T v)) : Ref cl Fin X o (call x T) := by
  cases x with
  | ok v => exact h v rfl
  | exc e => trivial
  | bad => trivial
def sq (h : Cm Fl) (K : Fl → Env → Out Env δ) : Fl → Env → Out Env δ := fun fl ρ => match fl with
  | .nx => (h ρ).bind K
  | fl => K fl ρ
theorem ref_top {o : Out Env Fl} {Fin : Fl → Env → β → Prop} (h : Ref cl Fin X (o.bind fun fl ρ => .ok fl ρ) T) : Ref cl Fin X o T := by
  have e : (o.bind fun fl ρ => Out.ok fl ρ) = o := by cases o <;> rfl
  rw [e] at h
  exact h
theorem ref_seq (h : Ref cl Fin X ((sg ρ).bind (sq sh K)) T) : Ref cl Fin X ((sSeq sg sh ρ).bind K) T := by
  have e : (sSeq sg sh ρ).bind K = (sg ρ).bind (sq sh K) := by
    unfold sSeq
    cases sg ρ with
    | ok fl ρ1 => cases fl <;> rfl
    | exc e ρ1 => rfl
    | bad => rfl
  rw [e]
  exact h
theorem ref_nx (h : Ref cl Fin X ((sh ρ).bind K) T) : Ref cl Fin X (sq sh K .nx ρ) T := h
theorem ref_nil (h : Ref cl Fin X (K .nx ρ) T) : Ref cl Fin X ((sNil ρ).bind K) T := h
theorem ref_fl {fl : Fl} (h : Ref cl Fin X (K fl ρ) T) : Ref cl Fin X ((sFl fl ρ).bind K) T := h
theorem ref_set (h : Ev ρ f (.v d) ρ1) (hi : Nat.blt i ρ1.length = true) (k : Ref cl Fin X (K .nx (ρ1.set i (some d))) T) : Ref cl Fin X ((sSet i f ρ).bind K) T := by
  have hi : i < ρ1.length := by simpa using hi
  have e : sSet i f ρ = .ok .nx (ρ1.set i (some d)) := by
    unfold sSet
    rw [h, Out.bind_ok]
    simp [hi]
  rw [e]
  exact k
theorem ref_nm {e : α → D} {x : α} {T : α → R β} (h : Ev ρ f (.v (e x)) ρ1) (hi : Nat.blt i ρ1.length = true) (k : ∀ x, Ref cl Fin X (K .nx (ρ1.set i (some (e x)))) (T x)) : Ref cl Fin X ((sSet i f ρ).bind K) (nm x T) := ref_set h hi (k x)
theorem ref_drop (h : Ev ρ f t ρ1) (k : Ref cl Fin X (K .nx ρ1) T) : Ref cl Fin X ((sDrop f ρ).bind K) T := by
  have e : sDrop f ρ = .ok .nx ρ1 := by
    unfold sDrop
    rw [h, Out.bind_ok]
  rw [e]
  exact k
theorem ref_asg {gt : D → Tg} (h : Ev ρ f (.v d) ρ1) (hg : gt d ρ1 = some ρ2) (k : Ref cl Fin X (K .nx ρ2) T) : Ref cl Fin X ((sAsg gt f ρ).bind K) T := by
  have e : sAsg gt f ρ = .ok .nx ρ2 := by
    unfold sAsg
    rw [h, Out.bind_ok]
    simp [hg]
  rw [e]
  exact k
theorem ref_aug {gg : D → D → Option D} (h : Ev ρ f t ρ1) (l1 : look ρ1 (.s i) = some a) (l2 : look ρ1 t = some b) (hg : gg a b = some c) (k : Ref cl Fin X (K .nx (ρ1.set i (some c))) T) : Ref cl Fin X ((sAug i gg f ρ).bind K) T := by
  have e : sAug i gg f ρ = .ok .nx (ρ1.set i (some c)) := by
    unfold sAug
    rw [h, Out.bind_ok, l1, l2]
    simp [hg]
  rw [e]
  exact k
theorem ref_ret (h : Ev ρ f (.v d) ρ1) (k : Ref cl Fin X (K (.rt d) ρ1) T) : Ref cl Fin X ((sRet f ρ).bind K) T := by
  have e : sRet f ρ = .ok (.rt d) ρ1 := by
    unfold sRet
    rw [h, Out.bind_ok]
  rw [e]
  exact k
theorem ref_done {a : δ} {b : β} (h : o = .ok a ρ) (hf : Fin a ρ b) : Ref cl Fin X o (.ok b) := ⟨a, ρ, h, hf⟩
theorem ref_if (h : EvB ρ fb k ρ1) (k1 : k = true → Ref cl Fin X ((sg ρ1).bind K) T1) (k2 : k = false → Ref cl Fin X ((sh ρ1).bind K) T2) : Ref cl Fin X ((sIf fb sg sh ρ).bind K) (if k = true then T1 else T2) := by
  have e : sIf fb sg sh ρ = if k = true then sg ρ1 else sh ρ1 := by
    unfold sIf
    rw [h, Out.bind_ok]
  rw [e]
  cases k
  · exact k2 rfl
  · exact k1 rfl
theorem ref_fgt {W : List Nat} (h : Ref cl Fin X ((sg ρ).bind fun fl ρ1 => match fl with
  | .rt d => K (.rt d) ρ1
  | fl => K fl (wipeD ρ1 W)) T) : Ref cl Fin X ((sFgt W sg ρ).bind K) T := by
  have e : (sFgt W sg ρ).bind K = (sg ρ).bind fun fl ρ1 => match fl with
    | .rt d => K (.rt d) ρ1
    | fl => K fl (wipeD ρ1 W) := by
    unfold sFgt
    cases sg ρ with
    | ok fl ρ1 => cases fl <;> rfl
    | exc e ρ1 => rfl
    | bad => rfl
  rw [e]
  exact h
theorem ref_pre {W : List Nat} (h : Ref cl Fin X ((sg (wipeD ρ W)).bind K) T) : Ref cl Fin X ((sPre W sg ρ).bind K) T := h
def finE (E : σ → Env) (fl : Fl) (ρ : Env) (s : σ) : Prop := fl = .nx ∧ ρ = E s
theorem ref_join {E : σ → Env} {J : R σ} {T : σ → R β} (h : Ref cl (finE E) X (sg ρ) J) (k : ∀ s, Ref cl Fin X (K .nx (E s)) (T s)) : Ref cl Fin X ((sg ρ).bind K) (J.bind T) := by
  cases J with
  | bad => trivial
  | exc e =>
    obtain ⟨ρ', e1, e2⟩ := h
    rw [e1]
    exact ⟨ρ', rfl, e2⟩
  | ok s =>
    obtain ⟨fl, ρ', e1, rfl, rfl⟩ := h
    rw [e1]
    exact k s
def finW (cl : Nat → Addr) (Fin : δ → Env → β → Prop) (X : Env → Prop) (K : Fl → Env → Out Env δ) (E : σ → Env) (fl : Fl) (ρ : Env) (w : Fw σ β) : Prop := match w with
  | .nx s => (fl = .nx ∨ fl = .ct) ∧ ρ = E s
  | .bk s => fl = .bk ∧ ρ = E s
  | .rt v => ∃ d, fl = .rt d ∧ Ref cl Fin X (K (.rt d) ρ) (.ok v)
theorem ref_while {c : Cm Bool} {E : σ → Env} {cc : σ → R Bool} {bb : σ → R (Fw σ β)} {T : σ → R β} {s : σ} (hc : ∀ s, Ref cl (fun b ρ b' => b = b' ∧ ρ = E s) X (c (E s)) (cc s)) (hb : ∀ s, Ref cl (finW cl Fin X K E) X (sg (E s)) (bb s)) (hk : ∀ s, Ref cl Fin X (K .nx (E s)) (T s))
    (hs : ρ = E s) : Ref cl Fin X ((sWhile c sg ρ).bind K) (fwd (whileR cc bb s) T) := by
  subst hs
  have main : ∀ n s, whileN cc bb n s ≠ .bad → Ref cl Fin X ((sWhile c sg (E s)).bind K) (fwd (whileN cc bb n s) T) := by
    intro n
    induction n with
    | zero => exact fun s h => (h rfl).elim
    | succ n ih =>
      intro s h
      rw [sWhile_step]
      have hcs := hc s
      unfold whileN at h ⊢
      cases ec : cc s with
      | bad => rw [ec] at h; exact (h rfl).elim
      | exc e =>
        rw [ec] at hcs
        obtain ⟨ρ', e1, e2⟩ := hcs
        rw [e1]
        exact ⟨ρ', rfl, e2⟩
      | ok b =>
        rw [ec] at hcs h
        obtain ⟨b', ρ', e1, rfl, rfl⟩ := hcs
        rw [e1]
        simp only [Out.bind_ok, bind_ok] at h ⊢
        cases b' with
        | false => exact hk s
        | true =>
          simp only [if_true] at h ⊢
          have hbs := hb s
          cases eb : bb s with
          | bad => rw [eb] at h; exact (h rfl).elim
          | exc e =>
            rw [eb] at hbs
            obtain ⟨ρ', e1, e2⟩ := hbs
            rw [e1]
            exact ⟨ρ', rfl, e2⟩
          | ok w =>
            rw [eb] at hbs h
            obtain ⟨fl, ρ', e1, e2⟩ := hbs
            rw [e1]
            cases w with
            | nx s' =>
              obtain ⟨e3, rfl⟩ := e2
              have := ih s' h
              rcases e3 with rfl | rfl <;> exact this
            | bk s' =>
              obtain ⟨rfl, rfl⟩ := e2
              exact hk s'
            | rt v =>
              obtain ⟨d, rfl, e4⟩ := e2
              exact e4
  by_cases h : ∃ n, whileN cc bb n s ≠ .bad
  · obtain ⟨n, hn⟩ := h
    rw [whileR_eq hn]
    exact main n s hn
  · unfold whileR
    rw [dif_neg h]
    trivial
def lpK (Kn : Env → Out Env δ) (K : Fl → Env → Out Env δ) : Fl → Env → Out Env δ := fun fl ρ => match fl with
  | .nx => Kn ρ
  | .ct => Kn ρ
  | .bk => K .nx ρ
  | .rt d => K (.rt d) ρ
theorem ref_loop {xs : List α} {e : α → D} {E : σ → Env} {gt : D → Tg} {body : α → (σ → R β) → σ → R β} {T : σ → R β}
    (hb : ∀ (x : α) (Kn : Env → Out Env δ) (next : σ → R β), (∀ s, Ref cl Fin X (Kn (E s)) (next s)) → ∀ s, ∃ ρ1, gt (e x) (E s) = some ρ1 ∧ Ref cl Fin X ((sg ρ1).bind (lpK Kn K)) (body x next s)) (hk : ∀ s, Ref cl Fin X (K .nx (E s)) (T s)) :
    ∀ s, Ref cl Fin X ((loopL gt sg (xs.map e) (E s)).bind K) (forK xs body T s) := by
  induction xs with
  | nil => exact hk
  | cons x xs ih =>
    intro s
    obtain ⟨ρ1, e1, h⟩ := hb x (fun ρ => (loopL gt sg (xs.map e) ρ).bind K) (forK xs body T) ih s
    rw [List.map_cons, loopL_cons, e1]
    have e2 : ((sg ρ1).bind (Fl.lp (loopL gt sg (xs.map e)))).bind K = (sg ρ1).bind (lpK (fun ρ => (loopL gt sg (xs.map e) ρ).bind K) K) := by
      cases sg ρ1 with
      | ok fl ρ2 => cases fl <;> rfl
      | exc e ρ2 => rfl
      | bad => rfl
    show Ref cl Fin X (((sg ρ1).bind (Fl.lp (loopL gt sg (xs.map e)))).bind K) _
    rw [e2]
    exact h
theorem ref_for {as : List Nat} {src : Cm Src} {sd : List D} {xs : List α} {e : α → D} {E : σ → Env} {gt : D → Tg} {body : α → (σ → R β) → σ → R β} {T : σ → R β} {s : σ} (hs : src ρ = .ok ⟨sd, xs.map e, none⟩ ρ1) (hE : ρ1 = E s)
    (hb : ∀ (x : α) (Kn : Env → Out Env δ) (next : σ → R β), (∀ s, Ref cl Fin X (Kn (E s)) (next s)) → ∀ s, ∃ ρ1, gt (e x) (E s) = some ρ1 ∧ Ref cl Fin X ((sg ρ1).bind (lpK Kn K)) (body x next s)) (hk : ∀ s, Ref cl Fin X (K .nx (E s)) (T s)) :
    Ref cl Fin X ((sFor as src gt sg ρ).bind K) (forK xs body T s) := by
  subst hE
  have e1 : (sFor as src gt sg ρ).bind K = (loopL gt sg (xs.map e) (E s)).bind K := by
    unfold sFor
    rw [hs, Out.bind_ok]
    have : ∀ o : Out Env Fl, (o.bind (putBack as ⟨sd, xs.map e, none⟩)).bind K = o.bind K := fun o => by cases o <;> rfl
    exact this _
  rw [e1]
  exact ref_loop hb hk s
theorem ref_forO {as : List Nat} {src : Cm Src} {sd : D} {n : Nat} {xs : List α} {e : α → D} {E : σ → Env} {gt : D → Tg} {body : α → (σ → R β) → σ → R β} {T : σ → R β} {s : σ} (hs : src ρ = .ok ⟨[sd], xs.map e, some n⟩ ρ1) (hE : ρ1 = E s) (hh : ∀ s, hole (E s) n = true) (hn : as.elem n = false)
    (hb : ∀ (x : α) (Kn : Env → Out Env δ) (next : σ → R β), (∀ s, Ref cl Fin X (Kn (E s)) (next s)) → ∀ s, ∃ ρ1, gt (e x) (E s) = some ρ1 ∧ Ref cl Fin X ((sg ρ1).bind (lpK Kn fun fl ρ => (putBack as ⟨[sd], xs.map e, some n⟩ fl ρ).bind K)) (body x next s)) (hk : ∀ s, Ref cl Fin X (K .nx ((E s).set n (some sd))) (T s)) :
    Ref cl Fin X ((sFor as src gt sg ρ).bind K) (forK xs body T s) := by
  subst hE
  have e1 : (sFor as src gt sg ρ).bind K = (loopL gt sg (xs.map e) (E s)).bind (fun fl ρ => (putBack as ⟨[sd], xs.map e, some n⟩ fl ρ).bind K) := by
    unfold sFor
    rw [hs, Out.bind_ok]
    have : ∀ o : Out Env Fl, (o.bind (putBack as ⟨[sd], xs.map e, some n⟩)).bind K = o.bind (fun fl ρ => (putBack as ⟨[sd], xs.map e, some n⟩ fl ρ).bind K) := fun o => by cases o <;> rfl
    exact this _
  rw [e1]
  refine ref_loop hb (fun s => ?_) s
  have hn' : n ∉ as := by simpa using hn
  have : putBack as ⟨[sd], xs.map e, some n⟩ .nx (E s) = .ok .nx ((E s).set n (some sd)) := by
    unfold putBack
    simp [hh s, hn']
  rw [this]
  exact hk s
theorem src_L {e : α → D} {l : List α} {o : Bool} (h1 : Ev ρ f (.v (zL o e l)) ρ1) (h : ∀ a, (e a).cold) : srcA f ρ = .ok ⟨[.lst false (l.map e)], l.map e, none⟩ ρ1 := by
  unfold srcA
  rw [h1, Out.bind_ok]
  simp [zL, srcV_lst (colds_map h l)]
theorem src_Q {e : α → D} {l : List α} (h1 : Ev ρ f (.v (zQ e l)) ρ1) (h : ∀ a, (e a).cold) : srcA f ρ = .ok ⟨[.tup (l.map e)], l.map e, none⟩ ρ1 := by
  unfold srcA
  rw [h1, Out.bind_ok]
  simp [zQ, srcV_tup (colds_map h l)]
theorem src_S {s : Tx} (h1 : Ev ρ f (.v (zS s)) ρ1) : srcA f ρ = .ok ⟨[], s.map zC, none⟩ ρ1 := by
  unfold srcA
  rw [h1, Out.bind_ok]
  simp [zS, nats, zC, Function.comp_def]
theorem src_O {e : α → D} {l : List α} (h1 : ρ[i]? = some (some (zL true e l))) (h : ∀ a, (e a).cold) : srcOut i ρ = .ok ⟨[zL true e l], l.map e, some i⟩ (ρ.set i none) := by
  unfold srcOut
  rw [h1]
  simp [zL, (cold_list (colds_map h l)).2.2]
def rgI (lo : Int) (n : Nat) : List Int := (List.range n).map fun i => lo + (i : Nat)
theorem rgI_D (lo : Int) (n : Nat) : rngD lo n = (rgI lo n).map zI := by
  unfold rngD rgI
  rw [List.map_map]
  rfl
theorem src_1 {n : Int} (h1 : EvA ρ fs [.v (zI n)] ρ1) (h : inR n) : rng1 fs ρ = .ok ⟨[], (rgI 0 n.toNat).map zI, none⟩ ρ1 := by
  unfold rng1
  rw [h1, Out.bind_ok, ← rgI_D]
  simp [intsD, zI, h]
theorem src_2 {m n : Int} (h1 : EvA ρ fs [.v (zI m), .v (zI n)] ρ1) (h : inR m) (h' : inR n) : rng2 fs ρ = .ok ⟨[], (rgI m (n - m).toNat).map zI, none⟩ ρ1 := by
  unfold rng2
  rw [h1, Out.bind_ok, ← rgI_D]
  simp [intsD, zI, h, h']
theorem comp_go {own : List Nat} {gt : D → Tg} {e : α → D} {r : β → D} {fx : α → σ → R (Option β × σ)} {E : σ → Env}
    (h : ∀ x s, ∃ ρ1 , gt (e x) (E s) = some ρ1 ∧ ∀ y, fx x s = .ok y → ∃ ρ2 k, fb ρ1 = .ok k ρ2 ∧ match y.1 with
      | some v => k = true ∧ ∃ ρ3, f ρ2 = .ok (.v (r v)) ρ3 ∧ wipeD ρ3 own = E y.2
      | none => k = false ∧ wipeD ρ2 own = E y.2) : ∀ (xs : List α) (s : σ) (acc : List D) (ys : List β × σ), fmapS xs fx s = .ok ys → acc.length + ys.1.length ≤ sizeLine → compL own gt fb f (xs.map e) acc (E s) = .ok (acc ++ ys.1.map r) (E ys.2)
  | [], s, acc, ys, hx, hz => by
    cases hx
    simp
  | x :: xs, s, acc, ys, hx, hz => by
    obtain ⟨ρ1, e1, h1⟩ := h x s
    cases ef : fx x s with
    | bad => simp [fmapS, ef] at hx
    | exc e => simp [fmapS, ef] at hx
    | ok y =>
      cases eg : fmapS xs fx y.2 with
      | bad => simp [fmapS, ef, eg] at hx
      | exc e => simp [fmapS, ef, eg] at hx
      | ok zs =>
        simp only [fmapS, ef, eg, bind_ok, R.ok.injEq] at hx
        obtain ⟨ρ2, k, e2, h2⟩ := h1 y ef
        rw [List.map_cons, compL, e1]
        simp only [e2, Out.nox, Out.bind_ok]
        cases ey : y.1 with
        | none =>
          rw [ey] at h2 hx
          obtain ⟨rfl, e3⟩ := h2
          subst hx
          simp only [Bool.false_eq_true, if_false]
          rw [e3]
          exact comp_go h xs y.2 acc zs eg hz
        | some v =>
          rw [ey] at h2 hx
          obtain ⟨rfl, ρ3, e3, e4⟩ := h2
          subst hx
          simp only [List.length_cons] at hz
          simp only [if_true, e3, Out.nox, Out.bind_ok]
          rw [if_pos (by omega), e4, comp_go h xs y.2 (acc ++ [r v]) zs eg (by simp; omega)]
          simp
theorem ev_comp {own : List Nat} {src : Cm Src} {sd : List D} {gt : D → Tg} {xs : List α} {e : α → D} {r : β → D} {fx : α → σ → R (Option β × σ)} {E : σ → Env} {s : σ} {ys : List β × σ} (hs : src ρ = .ok ⟨sd, xs.map e, none⟩ ρ1) (hE : wipeD ρ1 own = E s)
    (h : ∀ x s, ∃ ρ1 , gt (e x) (E s) = some ρ1 ∧ ∀ y, fx x s = .ok y → ∃ ρ2 k, fb ρ1 = .ok k ρ2 ∧ match y.1 with
      | some v => k = true ∧ ∃ ρ3, f ρ2 = .ok (.v (r v)) ρ3 ∧ wipeD ρ3 own = E y.2
      | none => k = false ∧ wipeD ρ2 own = E y.2) (hy : fmapS xs fx s = .ok ys) (hz : ys.1.length ≤ 16777216) : Ev ρ (eComp own src gt fb f) (.v (zL true r ys.1)) (E ys.2) := by
  unfold Ev eComp
  rw [hs, Out.bind_ok, hE, comp_go h xs s [] ys hy (by rw [sizeLine_eq]; simpa using hz)]
  rfl
theorem fmapS_mapS {f : α → σ → R (β × σ)} : ∀ (xs : List α) (s : σ), fmapS xs (fun x s => (f x s).bind fun y => .ok (some y.1, y.2)) s = mapS xs f s
  | [], s => rfl
  | x :: xs, s => by
    simp only [fmapS, mapS]
    cases f x s with
    | ok y => simp [fmapS_mapS xs y.2]
    | exc e => rfl
    | bad => rfl
theorem fmapS_fmapR {f : α → R (Option β)} : ∀ (xs : List α) (s : σ), fmapS xs (fun x s => (f x).bind fun y => .ok (y, s)) s = (fmapR xs f).bind fun ys => .ok (ys, s)
  | [], s => rfl
  | x :: xs, s => by
    simp only [fmapS, fmapR]
    cases f x with
    | ok y => simp only [bind_ok, fmapS_fmapR xs s]; cases fmapR xs f <;> rfl
    | exc e => rfl
    | bad => rfl
theorem fmapR_mapR {f : α → R β} : ∀ (xs : List α), fmapR xs (fun x => (f x).bind fun y => .ok (some y)) = mapR xs f
  | [] => rfl
  | x :: xs => by
    simp only [fmapR, mapR]
    cases f x with
    | ok y => simp [fmapR_mapR xs]
    | exc e => rfl
    | bad => rfl
end
end Lf

set_option linter.all false
set_option maxRecDepth 100000
namespace Lf
open PySem hiding Env
open PySem.Spec hiding Tm
open PyProof.Rows L2 Dl
section
variable {α β γ δ : Type} {e : α → D} {f : β → D} {n m : Nat} {o : Bool}
theorem lineN {k : Nat} (h : k ≤ 16777216) : k ≤ sizeLine := by rw [sizeLine_eq]; exact h
theorem lineLt {k : Nat} (h : k < 16777216) : k < sizeLine := by rw [sizeLine_eq]; exact h
theorem nats_len (s : Tx) : (nats s).length = s.length := by simp [nats]
theorem nats_app (s t : Tx) : nats (s ++ t) = nats s ++ nats t := by simp [nats]
theorem op_add (a b : Int) : addD (zI a) (zI b) = some (zI (a + b)) := rfl
theorem op_sub (a b : Int) : subD (zI a) (zI b) = some (zI (a - b)) := rfl
def mulOk (a b : Int) : Prop := a.natAbs < 18446744073709551616 ∨ b.natAbs < 18446744073709551616
theorem op_mul (a b : Int) (h : mulOk a b) : mulDD (zI a) (zI b) = some (zI (a * b)) := mulDD_ii h
theorem op_mulR (a b : Int) (h : Nat.blt b.natAbs 18446744073709551616 = true) : mulDD (zI a) (zI b) = some (zI (a * b)) := mulDD_ii (.inr (by simpa using h))
theorem op_mulL (a b : Int) (h : Nat.blt a.natAbs 18446744073709551616 = true) : mulDD (zI a) (zI b) = some (zI (a * b)) := mulDD_ii (.inl (by simpa using h))
theorem op_mod (a b : Int) (h : 0 < b) : modD (zI a) (zI b) = some (zI (a % b)) := by
  show modD (.int a) (.int b) = _
  rw [modD_ii (by omega), fmod_pos h]
  rfl
theorem op_fdiv (a b : Int) (h : 0 < b ∧ b < 1073741824) : fdivD (zI a) (zI b) = some (zI (a / b)) := by
  show fdivD (.int a) (.int b) = _
  rw [fdivD_ii (by omega) (by omega), fdiv_pos h.1]
  rfl
theorem op_pow (a : Int) (b : Nat) (h : Nat.ble b 1000000 = true) (h2 : Nat.blt a.natAbs 18446744073709551616 = true) : powD (zI a) (zI b) = some (zI (a ^ b)) := by
  have h := Nat.le_of_ble_eq_true h
  show powD (.int a) (.int b) = _
  rw [powD_ii (by omega) (by omega) (by simpa using h2)]
  rfl
theorem op_lt (a b : Int) : ltD (zI a) (zI b) = some (zB (decide (a < b))) := rfl
theorem op_le (a b : Int) : leD (zI a) (zI b) = some (zB (decide (a ≤ b))) := rfl
theorem op_gt (a b : Int) : gtD (zI a) (zI b) = some (zB (decide (b < a))) := rfl
theorem op_ge (a b : Int) : geD (zI a) (zI b) = some (zB (decide (b ≤ a))) := rfl
theorem op_eq [DecidableEq α] (h : Nice n e) (a b : α) (hn : n.ble 64 = true) : eqDD false (e a) (e b) = some (zB (decide (a = b))) := by
  rw [eq_nice h (Nat.le_of_ble_eq_true hn)]; simp [zB]
theorem op_ne [DecidableEq α] (h : Nice n e) (a b : α) (hn : n.ble 64 = true) : eqDD true (e a) (e b) = some (zB (!decide (a = b))) := by
  rw [eq_nice h (Nat.le_of_ble_eq_true hn)]; simp [zB]
theorem any_eqD [DecidableEq α] (h : Nice n e) (a : α) : ∀ l : List α, ((l.map e).any fun z => eqD z (e a)) = decide (a ∈ l)
  | [] => rfl
  | b :: l => by
    rw [List.map_cons, List.any_cons, any_eqD h a l]
    have : eqD (e b) (e a) = decide (b = a) := by
      by_cases q : b = a
      · rw [decide_eq_true q]; exact (h.eq b a).mpr q
      · rw [decide_eq_false q]
        cases e2 : eqD (e b) (e a) with
        | false => rfl
        | true => exact (q ((h.eq b a).mp e2)).elim
    rw [this]
    by_cases q : b = a
    · subst q; simp
    · simp [q, Ne.symm q, eq_comm]
theorem inSD_lst {d : D} {l : List D} {k : Bool} : inSD k d (.lst o l) = none := by
  unfold inSD
  split
  · rename_i h; cases h
  · rfl
theorem in_nice [DecidableEq α] (h : Nice n e) (a : α) (l : List α) (hn : n.ble 63 = true) (k : Bool) : inDD k (e a) (zL o e l) = some (.bl (decide (a ∈ l) ^^ k)) := by
  have hn := Nat.le_of_ble_eq_true hn
  unfold inDD zL
  rw [inSD_lst, Option.none_or]
  have h1 : deepOk (e a) (.lst false (l.map e)) := ⟨h.pl a, (nL h).pl l, by have := h.dep a; omega, by have := (nL h).dep l; unfold zL at this; omega⟩
  simp only [inLD, h1, if_true, any_eqD h a l]
theorem op_inL [DecidableEq α] (h : Nice n e) (a : α) (l : List α) (hn : n.ble 63 = true) : inDD false (e a) (zL o e l) = some (zB (decide (a ∈ l))) := by rw [in_nice h a l hn]; simp [zB]
theorem op_ninL [DecidableEq α] (h : Nice n e) (a : α) (l : List α) (hn : n.ble 63 = true) : inDD true (e a) (zL o e l) = some (zB (!decide (a ∈ l))) := by rw [in_nice h a l hn]; simp [zB]
theorem mem_nats (c : Char) (s : Tx) : c.toNat ∈ nats s ↔ c ∈ s := by
  unfold nats
  rw [List.mem_map]
  refine ⟨fun ⟨d, h, e⟩ => ?_, fun h => ⟨c, h, rfl⟩⟩
  have : d = c := Char.ext (UInt32.toNat_inj.mp e)
  exact this ▸ h
theorem op_inS (c : Char) (s : Tx) : inDD false (zC c) (zS s) = some (zB (decide (c ∈ s))) := by
  show inDD false (.str [c.toNat]) (.str (nats s)) = _
  rw [inDD_sign]
  simp [zB, mem_nats]
theorem op_ninS (c : Char) (s : Tx) : inDD true (zC c) (zS s) = some (zB (!decide (c ∈ s))) := by
  show inDD true (.str [c.toNat]) (.str (nats s)) = _
  rw [inDD_sign]
  simp [zB, mem_nats]
theorem isN_of {d : D} {k : Bool} (h : ∀ v, d ≠ .hol v) (h2 : d ≠ .non) : isN k d .non = some (.bl k) := by
  cases d <;> first | rfl | exact (h _ rfl).elim | exact (h2 rfl).elim
theorem cold_hol {d : D} (h : eqD .non d = false) (h2 : d.pl = true) : (∀ v, d ≠ .hol v) ∧ d ≠ .non := ⟨fun v e => by subst e; simp [D.pl] at h2, fun e => by subst e; simp [eqD, D.P, PyData.eqv] at h⟩
theorem op_isO (h : Nice n e) (hn : ∀ a, eqD .non (e a) = false ∧ eqD (e a) .non = false) (x : Option α) : isN false (zO e x) .non = some (zB x.isNone) := by
  cases x with
  | none => rfl
  | some a => exact isN_of (cold_hol (hn a).1 (h.pl a)).1 (cold_hol (hn a).1 (h.pl a)).2
theorem op_notO (h : Nice n e) (hn : ∀ a, eqD .non (e a) = false ∧ eqD (e a) .non = false) (x : Option α) : isN true (zO e x) .non = some (zB x.isSome) := by
  cases x with
  | none => rfl
  | some a => exact isN_of (cold_hol (hn a).1 (h.pl a)).1 (cold_hol (hn a).1 (h.pl a)).2
theorem op_isOL (x : Option (List α)) : isN false (zO (zL o e) x) .non = some (zB x.isNone) := by cases x <;> rfl
theorem op_notOL (x : Option (List α)) : isN true (zO (zL o e) x) .non = some (zB x.isSome) := by cases x <;> rfl
theorem op_catS (a b : Tx) (h : a.length + b.length ≤ 16777216) : addD (zS a) (zS b) = some (zS (a ++ b)) := by
  show (none : Option D).or ((if (nats a).length + (nats b).length ≤ sizeLine then some (D.str (nats a ++ nats b)) else none).or _) = _
  rw [if_pos (by rw [nats_len, nats_len]; exact lineN h), ← nats_app]
  rfl
theorem op_lenS (s : Tx) (h : s.length ≤ 16777216) : lenD [zS s] = some (zI s.length) := by
  show lenD [.str (nats s)] = _
  rw [lenD_str, if_pos (by rw [nats_len]; exact lineN h), nats_len]
  rfl
theorem atI_map' (g : α → β) (l : List α) (i : Int) : atI (l.map g) i = (atI l i).map g := by
  unfold atI
  rw [List.length_map]
  cases ixN l.length i with
  | none => rfl
  | some j => simp
theorem op_ixS (s : Tx) (i : Int) (c : Char) (h : s.length ≤ 16777216) (hc : atI s i = some c) : ixD (zS s) (zI i) = some (zC c) := by
  show ixD (.str (nats s)) (.int i) = _
  rw [ixD_str, if_pos (by rw [nats_len]; exact lineN h)]
  unfold nats
  rw [atI_map', hc]
  rfl
theorem cutL_map' (g : α → β) (l : List α) (lo hi : Option Int) : cutL (l.map g) lo hi = (cutL l lo hi).map g := by
  unfold cutL
  rw [List.length_map, List.map_take, List.map_drop]
theorem op_slS (s : Tx) (lo hi : Option Int) (h : s.length ≤ 16777216) : slD (zS s) lo hi = some (zS (cutL s lo hi)) := by
  show (if (nats s).length ≤ sizeLine then some (D.str (cutL (nats s) lo hi)) else none) = _
  rw [if_pos (by rw [nats_len]; exact lineN h)]
  unfold nats
  rw [cutL_map']
  rfl
def repX (l : List α) (n : Int) : List α := (List.replicate n.toNat l).flatten
theorem nats_rep (s : Tx) (n : Int) : repL (nats s) n = nats (repX s n) := by
  unfold repL repX nats
  rw [List.map_flatten, List.map_replicate]
theorem op_mulS (s : Tx) (n : Int) (h : s.length ≤ 4096 ∧ n ≤ 4096 ∧ -4096 ≤ n) : mulDD (zS s) (zI n) = some (zS (repX s n)) := by
  show ((none : Option D).or ((if (nats s).length ≤ 4096 ∧ n ≤ 4096 ∧ -4096 ≤ n then some (D.str (repL (nats s) n)) else none).or _)).or _ = _
  rw [if_pos (by rw [nats_len]; exact h), nats_rep]
  rfl
def joinX (a : Tx) : List Tx → Tx
  | [] => []
  | [x] => x
  | x :: y :: r => x ++ a ++ joinX a (y :: r)
theorem nats_join (a : Tx) : ∀ l : List Tx, nats (joinX a l) = joinL (nats a) (l.map nats)
  | [] => rfl
  | [x] => rfl
  | x :: y :: r => by
    rw [joinX, nats_app, nats_app, nats_join a (y :: r)]
    rfl
theorem strsL_S (l : List Tx) : strsL (l.map zS) = some (l.map nats) := strsL_map nats l
def joinSz (a : Tx) (l : List Tx) : Prop := (l.map List.length).sum + l.length * a.length ≤ 16777216
theorem join_sz (a : Tx) (l : List Tx) (h : joinSz a l) : ((l.map nats).map List.length).sum + (l.map nats).length * (nats a).length ≤ 16777216 := by
  rw [List.map_map, List.length_map, nats_len]
  have : (List.length ∘ nats : Tx → Nat) = List.length := funext nats_len
  rw [this]
  exact h
theorem op_joinL (a : Tx) (l : List Tx) (h : joinSz a l) : joinD [zS a, zL o zS l] = some (zS (joinX a l)) := by
  show (strsL (l.map zS)).bind _ = _
  rw [strsL_S, Option.bind_some, if_pos (join_sz a l h), ← nats_join]
  rfl
theorem op_joinQ (a : Tx) (l : List Tx) (h : joinSz a l) : joinD [zS a, zQ zS l] = some (zS (joinX a l)) := by
  show (strsL (l.map zS)).bind _ = _
  rw [strsL_S, Option.bind_some, if_pos (join_sz a l h), ← nats_join]
  rfl
theorem zC_map (l : Tx) : l.map zC = (l.map fun c => [c]).map zS := by rw [List.map_map]; rfl
theorem joinX_nil : ∀ l : List Tx, joinX [] l = l.flatten
  | [] => rfl
  | [x] => by simp [joinX]
  | x :: y :: r => by rw [joinX, joinX_nil (y :: r)]; simp
theorem op_joinC (l : Tx) (h : l.length ≤ 16777216) : joinD [zS [], zL o zC l] = some (zS l) := by
  have := op_joinL (o := o) [] (l.map fun c => [c]) (by
    unfold joinSz
    rw [List.map_map, show (List.length ∘ fun c : Char => [c]) = fun _ => 1 from rfl, List.map_const']
    simp [h])
  rw [joinX_nil] at this
  unfold zL at this ⊢
  rw [← zC_map] at this
  rw [this]
  have e : ∀ l : Tx, (l.map fun c => [c]).flatten = l := fun l => by induction l with
    | nil => rfl
    | cons c l ih => simp [ih]
  rw [e]
theorem op_joinCs (a : Tx) (l : Tx) (h : joinSz a (l.map fun c => [c])) : joinD [zS a, zL o zC l] = some (zS (joinX a (l.map fun c => [c]))) := by
  have := op_joinL (o := o) a (l.map fun c => [c]) h
  unfold zL at this ⊢
  rw [← zC_map] at this
  exact this
theorem owns_map {e : α → D} (h : ∀ a, (e a).cold) (l : List α) : D.owns (l.map e) = false := (cold_list (colds_map h l)).2.2
theorem op_ixL (h : ∀ a, (e a).cold) (l : List α) (i : Int) (a : α) (ha : atI l i = some a) : ixD (zL o e l) (zI i) = some (e a) := by
  show plainD (atI (l.map e) i) = _
  rw [atI_map', ha]
  simp [(h a).2.2]
theorem op_ixQ (h : ∀ a, (e a).cold) (l : List α) (i : Int) (a : α) (ha : atI l i = some a) : ixD (zQ e l) (zI i) = some (e a) := by
  show plainD (atI (l.map e) i) = _
  rw [atI_map', ha]
  simp [(h a).2.2]
theorem op_slL (h : ∀ a, (e a).cold) (l : List α) (lo hi : Option Int) : slD (zL o e l) lo hi = some (zL true e (cutL l lo hi)) := by
  show (if D.owns (l.map e) = true then none else some (D.lst true (cutL (l.map e) lo hi))) = _
  rw [owns_map h, cutL_map']
  rfl
theorem op_slQ (h : ∀ a, (e a).cold) (l : List α) (lo hi : Option Int) : slD (zQ e l) lo hi = some (zQ e (cutL l lo hi)) := by
  show (if D.owns (l.map e) = true then none else some (D.tup (cutL (l.map e) lo hi))) = _
  rw [owns_map h, cutL_map']
  rfl
theorem op_slScr (l : List Int) (lo hi : Option Int) : slD (zScr l) lo hi = some (zL true zI (cutL l lo hi)) := rfl
theorem op_catL {p q : Bool} (h : ∀ a, (e a).cold) (a b : List α) (hz : a.length + b.length ≤ 16777216) : addD (zL p e a) (zL q e b) = some (zL true e (a ++ b)) := by
  show (none : Option D).or ((none : Option D).or ((if D.owns (a.map e) = false ∧ D.owns (b.map e) = false ∧ (a.map e).length + (b.map e).length ≤ sizeLine then some (D.lst true (a.map e ++ b.map e)) else none).or _)) = _
  rw [if_pos ⟨owns_map h a, owns_map h b, by rw [List.length_map, List.length_map]; exact lineN hz⟩, ← List.map_append]
  rfl
theorem op_catQ (h : ∀ a, (e a).cold) (a b : List α) (hz : a.length + b.length ≤ 16777216) : addD (zQ e a) (zQ e b) = some (zQ e (a ++ b)) := by
  show (none : Option D).or ((none : Option D).or ((none : Option D).or (if D.owns (a.map e) = false ∧ D.owns (b.map e) = false ∧ (a.map e).length + (b.map e).length ≤ sizeLine then some (D.tup (a.map e ++ b.map e)) else none))) = _
  rw [if_pos ⟨owns_map h a, owns_map h b, by rw [List.length_map, List.length_map]; exact lineN hz⟩, ← List.map_append]
  rfl
theorem map_rep (g : α → β) (l : List α) (n : Nat) : (List.replicate n (l.map g)).flatten = ((List.replicate n l).flatten).map g := by
  rw [List.map_flatten, List.map_replicate]
theorem op_mulQ (h : ∀ a, (e a).cold) (l : List α) (n : Int) (hz : 0 ≤ n ∧ n ≤ 1000 ∧ l.length ≤ 1000) : mulDD (zQ e l) (zI n) = some (zQ e (repX l n)) := by
  show (Option.or (Option.or none (Option.or none none)) (if D.owns (l.map e) = false ∧ Dl.inR n ∧ n ≤ 1000 ∧ (l.map e).length ≤ 1000 then some (D.tup (List.replicate n.toNat (l.map e)).flatten) else none)) = _
  rw [if_pos ⟨owns_map h l, ⟨by omega, by omega⟩, hz.2.1, by rw [List.length_map]; exact hz.2.2⟩, map_rep]
  rfl
theorem op_mulL' (h : ∀ a, (e a).cold) (l : List α) (n : Int) (hz : 0 ≤ n ∧ n ≤ 1000000 ∧ l.length * n.toNat ≤ 16777216) : mulDD (zL o e l) (zI n) = some (zL true e (repX l n)) := by
  show (Option.or (Option.or none (Option.or none (if D.owns (l.map e) = false ∧ -1000000 ≤ n ∧ n ≤ 1000000 ∧ (l.map e).length * n.toNat ≤ sizeLine then some (D.lst true (repL (l.map e) n)) else none))) _) = _
  rw [if_pos ⟨owns_map h l, by omega, hz.2.1, by rw [List.length_map]; exact lineN hz.2.2⟩]
  unfold repL
  rw [map_rep]
  rfl
theorem op_lenL (l : List α) : lenD [zL o e l] = some (zI l.length) := by show lenD [.lst o (l.map e)] = _; rw [lenD_lst, List.length_map]; rfl
theorem op_lenQ (l : List α) : lenD [zQ e l] = some (zI l.length) := by show lenD [.tup (l.map e)] = _; rw [lenD_tup, List.length_map]; rfl
theorem op_all (l : List Bool) : allD [zL o zB l] = some (zB (l.all id)) := by
  show (blsL (l.map zB)).map _ = _
  have := blsL_map (fun b : Bool => b) l
  rw [show l.map zB = l.map fun b => D.bl b from rfl, this]
  simp [zB]
theorem op_any (l : List Bool) : anyD [zL o zB l] = some (zB (l.any id)) := by
  show (blsL (l.map zB)).map _ = _
  have := blsL_map (fun b : Bool => b) l
  rw [show l.map zB = l.map fun b => D.bl b from rfl, this]
  simp [zB]
theorem ints_zI (l : List Int) : intsL (l.map zI) = some l := by
  have := intsL_map (fun b : Int => b) l
  rw [show l.map zI = l.map fun b => D.int b from rfl, this]
  simp
theorem op_sum (l : List Int) : sumD [zL o zI l] = some (zI l.sum) := by
  show (intsL (l.map zI)).map _ = _
  rw [ints_zI]
  rfl
theorem op_max (l : List Int) (x : Int) (h : maxL l = some x) : maxD [zL o zI l] = some (zI x) := by
  show ((intsL (l.map zI)).bind maxL).map _ = _
  rw [ints_zI, Option.bind_some, h]
  rfl
theorem op_min (l : List Int) (x : Int) (h : minL l = some x) : minD [zL o zI l] = some (zI x) := by
  show ((intsL (l.map zI)).bind minL).map _ = _
  rw [ints_zI, Option.bind_some, h]
  rfl
theorem op_max2 (a b : Int) : max2D [zI a, zI b] = some (zI (if b > a then b else a)) := rfl
theorem op_min2 (a b : Int) : min2D [zI a, zI b] = some (zI (if b < a then b else a)) := rfl
def ofB (b : Bool) : Int := if b = true then 1 else 0
theorem op_intB (b : Bool) : intD [zB b] = some (zI (ofB b)) := rfl
theorem op_intI (b : Int) : intD [zI b] = some (zI b) := rfl
theorem op_listL (h : ∀ a, (e a).cold) (l : List α) : listDD [zL o e l] = some (zL true e l) := by
  show (if D.owns (l.map e) = true then none else some (D.lst true (l.map e))).or _ = _
  rw [owns_map h]
  rfl
theorem op_listQ (h : ∀ a, (e a).cold) (l : List α) : listDD [zQ e l] = some (zL true e l) := by
  show (if D.owns (l.map e) = true then none else some (D.lst true (l.map e))).or _ = _
  rw [owns_map h]
  rfl
theorem op_listS (s : Tx) (h : s.length ≤ 16777216) : listDD [zS s] = some (zL true zC s) := by
  show (none : Option D).or (if (nats s).length ≤ sizeLine then some (D.lst true ((nats s).map fun c => .str [c])) else none) = _
  rw [if_pos (by rw [nats_len]; exact lineN h)]
  simp [zL, zC, nats, Function.comp_def]
theorem op_tupL (h : ∀ a, (e a).cold) (l : List α) : tupleD [zL o e l] = some (zQ e l) := by
  show (if D.owns (l.map e) = true then none else some (D.tup (l.map e))) = _
  rw [owns_map h]
  rfl
theorem op_tupQ (h : ∀ a, (e a).cold) (l : List α) : tupleD [zQ e l] = some (zQ e l) := by
  show (if D.owns (l.map e) = true then none else some (D.tup (l.map e))) = _
  rw [owns_map h]
  rfl
theorem rg_L (lo : Int) (n : Nat) : D.lst true (rngD lo n) = zL true zI (rgI lo n) := by rw [rgI_D]; rfl
def leT (e : α → D) (a b : α) : Bool := leD' (e a) (e b)
def sortT (e : α → D) (l : List α) : List α := l.mergeSort (leT e)
theorem sortD_map (e : α → D) (l : List α) : sortD (l.map e) = (sortT e l).map e := by
  unfold sortD sortT
  exact (List.map_mergeSort (f := e) (r := leT e) (s := leD') fun a _ b _ => rfl).symm
def sortP (e : α → D) (l : List α) : Prop := sortOk (l.map e) = true
theorem op_sort (h : ∀ a, (e a).cold) (l : List α) (hs : sortP e l) : sortedD [zL o e l] = some (zL true e (sortT e l)) := by
  show (if D.owns (l.map e) = false ∧ sortOk (l.map e) = true then some (D.lst true (sortD (l.map e))) else none) = _
  rw [if_pos ⟨owns_map h l, hs⟩, sortD_map]
  rfl
theorem fz_L (h : ∀ a, (e a).cold) (l : List α) : (zL o e l).fz = true ∧ (zL o e l).frz = zL false e l := by
  obtain ⟨a, b, c⟩ := cold_list (colds_map h l)
  exact ⟨by simp [zL, a], by simp [zL, b]⟩
theorem op_app (l : List α) (a : α) (h : l.length < 16777216) : appD (zL true e l) [e a] = some (.non, zL true e (l ++ [a])) := appD_map (lineLt h)
theorem op_pop (l : List α) (a : α) (h : l.getLast? = some a) : popD (zL true e l) [] = some (e a, zL true e l.dropLast) := by
  show (match (l.map e)[(l.map e).length - 1]? with | some d => some (d, D.lst true (l.map e).dropLast) | none => none) = _
  rw [List.length_map, List.getElem?_map, ← List.getLast?_eq_getElem?, h]
  simp [zL, List.map_dropLast]
def popX (l : List α) (i : Int) : Option (α × List α) := (ixN l.length i).bind fun n => (l[n]?).map fun a => (a, l.eraseIdx n)
theorem map_eraseIdx' (g : α → β) : ∀ (l : List α) (j : Nat), (l.map g).eraseIdx j = (l.eraseIdx j).map g
  | [], _ => rfl
  | _ :: _, 0 => rfl
  | x :: l, j + 1 => by simp [map_eraseIdx' g l j]
theorem op_popAt (l : List α) (i : Int) (r : α × List α) (h : popX l i = some r) (hz : inR i) : popAtD (zL true e l) [zI i] = some (e r.1, zL true e r.2) := by
  unfold popX at h
  obtain ⟨j, h1, h2⟩ := Option.bind_eq_some_iff.mp h
  obtain ⟨a, h3, rfl⟩ := Option.map_eq_some_iff.mp h2
  show (if inR i then _ else none) = _
  rw [if_pos hz, List.length_map]
  simp [h1, h3, zL, map_eraseIdx']
theorem op_ext (h : ∀ a, (e a).cold) (l m : List α) (hz : l.length + m.length ≤ 16777216) : extD (zL true e l) [zL o e m] = some (.non, zL true e (l ++ m)) := by
  show (if D.owns (m.map e) = false ∧ (l.map e).length + (m.map e).length ≤ sizeLine then some (D.non, D.lst true (l.map e ++ m.map e)) else none) = _
  rw [if_pos ⟨owns_map h m, by rw [List.length_map, List.length_map]; exact lineN hz⟩, ← List.map_append]
  rfl
theorem op_rev (l : List α) : revD (zL true e l) [] = some (.non, zL true e l.reverse) := by
  show some (D.non, D.lst true (l.map e).reverse) = _
  rw [← List.map_reverse]
  rfl
theorem op_clr (l : List α) : clrD (zL true e l) [] = some (.non, zL true e []) := rfl
def insX (l : List α) (i : Int) (a : α) : List α := l.take i.toNat ++ [a] ++ l.drop i.toNat
theorem op_ins (l : List α) (i : Int) (a : α) (h : 0 ≤ i ∧ inR i ∧ l.length < 16777216) : insD (zL true e l) [zI i, e a] = some (.non, zL true e (insX l i a)) := by
  show (if 0 ≤ i ∧ inR i ∧ (l.map e).length < sizeLine then some (D.non, D.lst true ((l.map e).take i.toNat ++ [e a] ++ (l.map e).drop i.toNat)) else none) = _
  rw [if_pos ⟨h.1, h.2.1, by rw [List.length_map]; exact lineLt h.2.2⟩]
  simp [zL, insX, List.map_take, List.map_drop]
end
end Lf

set_option linter.all false
set_option maxRecDepth 100000
namespace Lf
open PySem hiding Env
open PySem.Spec hiding Tm
open PyProof.Rows L2 Dl
section
variable {α β γ δ ε σ : Type} {ρ ρ1 ρ2 ρ3 : Env} {i j : Nat} {a b c d d' : D} {t ta tb tc : Tm} {ts : List Tm} {ds : List D} {f g h : Cm Tm} {fs : Cm (List Tm)} {fb gb : Cm Bool} {k l : Bool} {cl : Nat → Addr}
def FinF (as : List Nat) (ds : List D) (er : β → D × List D) (fl : Fl) (ρ : Env) (b : β) : Prop := (match fl with
  | .nx => some D.non
  | .rt d => some d
  | _ => none) = some (er b).1 ∧ finals as 0 ds ρ = some (er b).2
def XF (as : List Nat) (ds : List D) (ρ : Env) : Prop := ∃ r, finals as 0 ds ρ = some r
theorem finals_len {as : List Nat} : ∀ {j : Nat} {ds : List D} {ρ : Env} {r : List D}, finals as j ds ρ = some r → r.length = ds.length
  | j, [], ρ, r, h => by simp at h; subst h; rfl
  | j, d :: ds, [], r, h => by simp [finals] at h
  | j, d :: ds, c :: ρ, r, h => by
    rw [finals_cons] at h
    split at h
    · obtain ⟨r', h1, rfl⟩ := Option.map_eq_some_iff.mp h
      simp [finals_len h1]
    · cases h
theorem lift_go {nl : Nat} {as : List Nat} {bd : Cm Fl} {ds : List D} {T : R β} {er : β → D × List D} {ρ0 : Env} (h0 : ds.map some ++ List.replicate (nl - ds.length) none = ρ0) (h : Ref cl (FinF as ds er) (XF as ds) (bd ρ0) T) : RefF cl ds.length (bodyF nl as bd ds) T er := by
  unfold bodyF
  rw [h0]
  cases T with
  | bad => trivial
  | ok v =>
    obtain ⟨fl, ρ, e1, e2, e3⟩ := h
    rw [e1]
    show (match finals as 0 ds ρ with | none => _ | some ds' => _) = _
    rw [e3]
    cases fl with
    | nx => show Out.ok _ _ = _; rw [← Option.some.inj e2]
    | rt d => show Out.ok _ _ = _; rw [← Option.some.inj e2]
    | bk => cases e2
    | ct => cases e2
  | exc e =>
    obtain ⟨ρ, e1, r, e2⟩ := h
    refine ⟨r, finals_len e2, ?_⟩
    rw [e1]
    show (match finals as 0 ds ρ with | none => _ | some ds' => _) = _
    rw [e2]
theorem fin_0 {as : List Nat} : finals as j [] ρ = some [] := finals_nil
theorem fin_c {as : List Nat} {x : Option D} {r : List D} (h : d.own = false) (k : finals as (j + 1) ds ρ = some r) : finals as j (d :: ds) (x :: ρ) = some (d :: r) := by simp [h, k]
theorem fin_o {as : List Nat} {r : List D} (h : d.own = true) (hj : as.elem j = false) (k : finals as (j + 1) ds ρ = some r) : finals as j (d :: ds) (some c :: ρ) = some (c :: r) := by
  have hj : j ∉ as := by simpa using hj
  simp [h, hj, k]
theorem grd_inv {c : Prop} {x : R β} {v : β} (h : grd c x = .ok v) : c ∧ x = .ok v := by
  unfold grd at h
  split at h
  · exact ⟨‹_›, h⟩
  · cases h
theorem opt_inv {x : Option α} {f : α → R β} {v : β} (h : opt x f = .ok v) : ∃ a, x = some a ∧ f a = .ok v := by
  cases x with
  | none => cases h
  | some a => exact ⟨a, rfl, h⟩
theorem call_inv {x : R α} {f : α → R β} {v : β} (h : call x f = .ok v) : ∃ a, x = .ok a ∧ f a = .ok v := by
  cases x with
  | ok a => exact ⟨a, rfl, h⟩
  | exc e => cases h
  | bad => cases h
theorem if_inv {c : Bool} {x y : R β} {v : β} (h : (if c = true then x else y) = .ok v) : (c = true ∧ x = .ok v) ∨ (c = false ∧ y = .ok v) := by
  cases c
  · exact .inr ⟨rfl, h⟩
  · exact .inl ⟨rfl, h⟩
theorem eb_eq (h : EvB ρ fb k ρ1) (e : k = l) : EvB ρ fb l ρ1 := e ▸ h
theorem ok_inj {a b : α} (h : R.ok a = .ok b) : a = b := by cases h; rfl
theorem ev_chain {p p' : Int → Int → Bool} {x y z : Int} (h1 : Ev ρ f ta ρ) (h2 : Ev ρ g tb ρ) (h3 : Ev ρ h tc ρ) (l1 : look ρ ta = some (zI x)) (l2 : look ρ tb = some (zI y)) (l3 : look ρ tc = some (zI z)) : Ev ρ (eChain p p' f g h) (.v (zB (p x y && p' y z))) ρ := by
  unfold Ev eChain
  rw [h1, Out.bind_ok, h2, Out.bind_ok, l1, l2]
  show (if p x y = true then _ else _) = _
  by_cases q : p x y = true
  · rw [if_pos q, h3, Out.bind_ok, l3, q]
    rfl
  · rw [if_neg q]
    simp only [Bool.not_eq_true] at q
    rw [q]
    rfl
def andS (a : Bool) (y : R (Bool × σ)) (s : σ) : R (Bool × σ) := if a = true then y else .ok (false, s)
def orS (a : Bool) (y : R (Bool × σ)) (s : σ) : R (Bool × σ) := if a = true then .ok (true, s) else y
theorem eb_andS {E : σ → Env} {y : R (Bool × σ)} {s0 : σ} {x : Bool × σ} (h1 : EvB ρ fb k ρ1) (he : ρ1 = E s0) (h2 : ∀ z, y = .ok z → EvB ρ1 gb z.1 (E z.2)) (h : andS k y s0 = .ok x) : EvB ρ (bAnd fb gb) x.1 (E x.2) := by
  unfold EvB bAnd
  rw [h1, Out.bind_ok]
  cases k
  · cases h; rw [he]; rfl
  · exact h2 x h
theorem eb_orS {E : σ → Env} {y : R (Bool × σ)} {s0 : σ} {x : Bool × σ} (h1 : EvB ρ fb k ρ1) (he : ρ1 = E s0) (h2 : ∀ z, y = .ok z → EvB ρ1 gb z.1 (E z.2)) (h : orS k y s0 = .ok x) : EvB ρ (bOr fb gb) x.1 (E x.2) := by
  unfold EvB bOr
  rw [h1, Out.bind_ok]
  cases k
  · exact h2 x h
  · cases h; rw [he]; rfl
theorem ev_andS {E : σ → Env} {y : R (Bool × σ)} {s0 : σ} {x : Bool × σ} (h1 : Ev ρ f (.v (zB k)) ρ1) (he : ρ1 = E s0) (h2 : ∀ z, y = .ok z → Ev ρ1 g (.v (zB z.1)) (E z.2)) (h : andS k y s0 = .ok x) : Ev ρ (vAnd f g) (.v (zB x.1)) (E x.2) := by
  unfold Ev vAnd
  rw [h1, Out.bind_ok]
  cases k
  · cases h; rw [he]; rfl
  · exact h2 x h
theorem ev_orS {E : σ → Env} {y : R (Bool × σ)} {s0 : σ} {x : Bool × σ} (h1 : Ev ρ f (.v (zB k)) ρ1) (he : ρ1 = E s0) (h2 : ∀ z, y = .ok z → Ev ρ1 g (.v (zB z.1)) (E z.2)) (h : orS k y s0 = .ok x) : Ev ρ (vOr f g) (.v (zB x.1)) (E x.2) := by
  unfold Ev vOr
  rw [h1, Out.bind_ok]
  cases k
  · exact h2 x h
  · cases h; rw [he]; rfl
theorem ev_iteS {m : Cm Bool} {x y : R (α × σ)} {v : α × σ} {e : α → D} {E : σ → Env} (h1 : EvB ρ m k ρ1) (h2 : ∀ v, x = .ok v → Ev ρ1 f (.v (e v.1)) (E v.2)) (h3 : ∀ v, y = .ok v → Ev ρ1 g (.v (e v.1)) (E v.2)) (h : iteR k x y = .ok v) : Ev ρ (eIf m f g) (.v (e v.1)) (E v.2) := by
  unfold Ev eIf
  rw [h1, Out.bind_ok]
  cases k
  · exact h3 v h
  · exact h2 v h
theorem pLt_eq (x y : Int) : pLt x y = decide (x < y) := rfl
theorem pLe_eq (x y : Int) : pLe x y = decide (x ≤ y) := rfl
theorem zO_some {e : α → D} {x : Option α} {v : α} (h : x = some v) : zO e x = e v := by subst h; rfl
theorem lk_O {e : α → D} {x : Option α} {v : α} (h : x = some v) : some (zO e x) = some (e v) := by subst h; rfl
theorem lk_OO {e : α → D} {x : Option α} {v : α} (h : x = some v) : some (some (zO e x)) = some (some (e v)) := by subst h; rfl
theorem own_O {n : Nat} {e : α → D} (h : Nice n e) (x : Option α) : (zO e x).own = false := by
  cases x with
  | none => rfl
  | some a => exact h.own a
theorem op_repr (d : D) (h : reprOk d) : reprD [d] = some (.str (shD d)) := if_pos h
theorem op_eqN (x y : List Nat) : eqDD false (.str x) (.str y) = some (zB (decide (x = y))) := by rw [eqDD_ss]; simp [zB]
theorem op_neN (x y : List Nat) : eqDD true (.str x) (.str y) = some (zB (!decide (x = y))) := by rw [eqDD_ss]; simp [zB]
theorem ev_dsp {ks : List (List Nat)} (h1 : EvA ρ fs (tms ds) ρ1) (hz : (ds.length == ks.length) = true) : Ev ρ (eDsp ks fs) (.v (.dic true (ks.map D.str) ds)) ρ1 := by
  unfold Ev eDsp
  rw [h1, Out.bind_ok, dats_tms]
  have hz : ds.length = ks.length := by simpa using hz
  simp [hz]
theorem ev_lrev {e : α → D} {l : List α} {o : Bool} (h1 : Ev ρ f t ρ1) (l1 : look ρ1 t = some (zL o e l)) (h : ∀ a, (e a).cold) : Ev ρ (eLRev f) (.v (zL true e l.reverse)) ρ1 := by
  unfold Ev eLRev
  rw [h1, Out.bind_ok, l1]
  simp [zL, owns_map h]
theorem src_Lr {e : α → D} {l : List α} {o : Bool} (h1 : Ev ρ f (.v (zL o e l)) ρ1) (h : ∀ a, (e a).cold) : srcR f ρ = .ok ⟨[.lst false (l.map e)], l.reverse.map e, none⟩ ρ1 := by
  unfold srcR
  rw [h1, Out.bind_ok]
  simp [zL, srcVr, srcV_lst (colds_map h l)]
theorem src_Qr {e : α → D} {l : List α} (h1 : Ev ρ f (.v (zQ e l)) ρ1) (h : ∀ a, (e a).cold) : srcR f ρ = .ok ⟨[.tup (l.map e)], l.reverse.map e, none⟩ ρ1 := by
  unfold srcR
  rw [h1, Out.bind_ok]
  simp [zQ, srcVr, srcV_tup (colds_map h l)]
def dnI (lo : Int) (n : Nat) : List Int := (List.range n).map fun i => lo - (i : Nat)
theorem dnI_D (lo : Int) (n : Nat) : stepD lo (-1) n = (dnI lo n).map zI := by
  unfold stepD dnI
  rw [List.map_map]
  refine List.map_congr_left fun i _ => ?_
  simp only [Function.comp_apply, zI]
  congr 1
  omega
theorem dnI_rev (n : Nat) : dnI (0 + ((n : Nat) : Int) - 1) n = (rgI 0 n).reverse := by
  unfold dnI rgI
  apply List.ext_getElem
  · simp
  · intro i h1 h2
    simp only [List.getElem_map, List.getElem_range, List.getElem_reverse, List.length_map, List.length_range]
    simp only [List.length_map, List.length_range] at h1
    omega
theorem src_3 {m n : Int} (h1 : EvA ρ fs [.v (zI m), .v (zI n), .v (zI (-1))] ρ1) (h : inR m) (h' : inR n) : rng3 fs ρ = .ok ⟨[], (dnI m (m - n).toNat).map zI, none⟩ ρ1 := by
  unfold rng3
  rw [h1, Out.bind_ok, ← dnI_D]
  simp [intsD, zI, h, h']
theorem src_Rr {n : Int} (h1 : Ev ρ f t ρ1) (l1 : look ρ1 t = some (zI n)) (h : inR n) : rngRev f ρ = .ok ⟨[], (rgI 0 n.toNat).reverse.map zI, none⟩ ρ1 := by
  unfold rngRev
  rw [h1, Out.bind_ok, l1, ← dnI_rev, ← dnI_D]
  simp [zI, h]
theorem ix_tup {ds : List D} {n : Int} (h : atI ds n = some d) (c : d.own = false) : ixD (.tup ds) (.int n) = some d := by
  show plainD (atI ds n) = _
  rw [h]
  simp [c]
theorem ix_lst {ds : List D} {o : Bool} {n : Int} (h : atI ds n = some d) (c : d.own = false) : ixD (.lst o ds) (.int n) = some d := by
  show plainD (atI ds n) = _
  rw [h]
  simp [c]
theorem ix_dic {ks ds : List D} {o : Bool} {x : D} (hk : x.isKey = true) (h : dget ks ds x = some d) (c : d.own = false) : ixD (.dic o ks ds) x = some d := by
  show (if x.isKey then plainD (dget ks ds x) else none) = _
  rw [hk, h]
  simp [c]
def zA1 (e : α → D) (a : α) : D := .lst true [e a]
def zA2 (e : α → D) (f : β → D) (p : α × β) : D := .lst true [e p.1, f p.2]
def zA3 (e : α → D) (f : β → D) (g : γ → D) (p : α × β × γ) : D := .lst true [e p.1, f p.2.1, g p.2.2]
def zA4 (e : α → D) (f : β → D) (g : γ → D) (h : δ → D) (p : α × β × γ × δ) : D := .lst true [e p.1, f p.2.1, g p.2.2.1, h p.2.2.2]
def zD1 (ks : List D) (e : α → D) (a : α) : D := .dic true ks [e a]
def zD2 (ks : List D) (e : α → D) (f : β → D) (p : α × β) : D := .dic true ks [e p.1, f p.2]
def zD3 (ks : List D) (e : α → D) (f : β → D) (g : γ → D) (p : α × β × γ) : D := .dic true ks [e p.1, f p.2.1, g p.2.2]
def zD4 (ks : List D) (e : α → D) (f : β → D) (g : γ → D) (h : δ → D) (p : α × β × γ × δ) : D := .dic true ks [e p.1, f p.2.1, g p.2.2.1, h p.2.2.2]
theorem eqD_lst {n : Nat} {e : α → D} (h : Nice n e) (o o' : Bool) (x y : List α) [DecidableEq α] : eqD (zL o e x) (zL o' e y) = decide (x = y) := by
  have h2 := (nL h).eq x y
  have h3 : eqD (zL o e x) (zL o' e y) = eqD (zL false e x) (zL false e y) := rfl
  rw [h3]
  by_cases q : x = y
  · rw [decide_eq_true q]; exact h2.mpr q
  · rw [decide_eq_false q]
    cases e2 : eqD (zL false e x) (zL false e y) with
    | false => rfl
    | true => exact (q (h2.mp e2)).elim
theorem eq_lst {n : Nat} {e : α → D} (h : Nice n e) (o o' : Bool) (x y : List α) [DecidableEq α] (hn : n.ble 63 = true) (k : Bool) : eqDD k (zL o e x) (zL o' e y) = some (.bl (decide (x = y) ^^ k)) := by
  have hn := Nat.le_of_ble_eq_true hn
  have d1 : deepOk (zL o e x) (zL o' e y) := ⟨(nL h).pl x, (nL h).pl y, by have := (nL h).dep x; unfold zL at *; simp only [D.dep] at *; omega, by have := (nL h).dep y; unfold zL at *; simp only [D.dep] at *; omega⟩
  show (eqS k (.lst o _) (.lst o' _)).or _ = _
  have : eqS k (.lst o (x.map e)) (.lst o' (y.map e)) = none := rfl
  rw [this, Option.none_or]
  unfold eqP
  rw [if_pos d1, eqD_lst h]
theorem op_eqL {n : Nat} {e : α → D} (h : Nice n e) (o o' : Bool) (x y : List α) [DecidableEq α] (hn : n.ble 63 = true) : eqDD false (zL o e x) (zL o' e y) = some (zB (decide (x = y))) := by rw [eq_lst h o o' x y hn]; simp [zB]
theorem op_neL {n : Nat} {e : α → D} (h : Nice n e) (o o' : Bool) (x y : List α) [DecidableEq α] (hn : n.ble 63 = true) : eqDD true (zL o e x) (zL o' e y) = some (zB (!decide (x = y))) := by rw [eq_lst h o o' x y hn]; simp [zB]
def ltX (a b : Tx) : Bool := decide (nats a < nats b)
theorem op_ltS (a b : Tx) : ltD (zS a) (zS b) = some (zB (ltX a b)) := rfl
theorem op_leS (a b : Tx) : leD (zS a) (zS b) = some (zB (!ltX b a)) := rfl
theorem op_gtS (a b : Tx) : gtD (zS a) (zS b) = some (zB (ltX b a)) := rfl
theorem op_geS (a b : Tx) : geD (zS a) (zS b) = some (zB (!ltX a b)) := rfl
def setX (l : List α) (i : Int) (a : α) : Option (List α) := (ixN l.length i).map fun j => l.set j a
theorem st_L {e : α → D} (l : List α) (n : Int) (v : α) (r : List α) (h : setX l n v = some r) : stD (e v) (zI n) (zL true e l) = some (zL true e r) := by
  unfold setX at h
  obtain ⟨j, h1, rfl⟩ := Option.map_eq_some_iff.mp h
  show (ixN (l.map e).length n).map _ = _
  rw [List.length_map, h1]
  simp [zL, List.map_set]
theorem tg_st {pf : Pf} {ip : Nat × List Pc} (h1 : pf ρ = some ip) (h2 : getP ρ ip = some a) (h3 : Ev ρ f t ρ) (l3 : look ρ t = some b) (h4 : stD d b a = some c) : gSt pf f d ρ = some (setP ρ ip c) := by
  unfold gSt
  rw [h1]
  simp only [h2]
  rw [h3]
  simp [l3, h4]
def Pl (ρ : Env) (pf : Pf) (d : D) : Prop := ∃ ip, pf ρ = some ip ∧ getP ρ ip = some d
theorem pl_S (h : ρ[i]? = some (some d)) : Pl ρ (pSl i) d := ⟨(i, []), by simp [pSl, h], by simp [getP, h, D.childP]⟩
theorem getP_snoc {n : Nat} {p : List Pc} {q : Pc} : getP ρ (n, p ++ [q]) = (getP ρ (n, p)).bind fun e => e.child q := by
  unfold getP
  cases (ρ[n]?).join with
  | none => rfl
  | some d => simp [childP_snoc]
theorem pl_L {pf : Pf} {e : α → D} {l : List α} {n : Int} {x : α} (hp : Pl ρ pf (zL true e l)) (h3 : Ev ρ f t ρ) (l3 : look ρ t = some (zI n)) (h : atI l n = some x) : Pl ρ (pIx pf f) (e x) := by
  obtain ⟨⟨i, p⟩, h1, h2⟩ := hp
  unfold atI at h
  obtain ⟨j, h4, h5⟩ := Option.bind_eq_some_iff.mp h
  have e1 : ixC (zL true e l) (zI n) = some (.ix j) := by
    show (ixN (l.map e).length n).map Pc.ix = _
    rw [List.length_map, h4]
    rfl
  refine ⟨(i, p ++ [.ix j]), ?_, ?_⟩
  · unfold pIx
    have h3 : f ρ = .ok t ρ := h3
    rw [h1, h3]
    simp only [h2, l3, e1, Option.map_some]
  · rw [getP_snoc, h2]
    simp [zL, D.child, D.pidx, D.kids, h5]
theorem ev_caX {gg : List D → Option D} {pf : Pf} (hp : Pl ρ pf d) (h : gg [d] = some c) : Ev ρ (eCaP gg pf) (.v c) ρ := by
  obtain ⟨ip, h1, h2⟩ := hp
  exact ev_caP h1 h2 h
variable {Fin : δ → Env → β → Prop} {X : Env → Prop} {o : Out Env δ} {T T1 T2 : R β} {K : Fl → Env → Out Env δ} {sg sh : Cm Fl}
def fgK (W : List Nat) (K : Fl → Env → Out Env δ) : Fl → Env → Out Env δ := fun fl ρ => match fl with
  | .rt d => K (.rt d) ρ
  | fl => K fl (wipeD ρ W)
theorem ref_fg {W : List Nat} (h : Ref cl Fin X ((sg ρ).bind (fgK W K)) T) : Ref cl Fin X ((sFgt W sg ρ).bind K) T := ref_fgt h
theorem ref_fgnx {W : List Nat} (h : Ref cl Fin X (K .nx (wipeD ρ W)) T) : Ref cl Fin X (fgK W K .nx ρ) T := h
theorem ref_lpnx {Kn : Env → Out Env δ} (h : Ref cl Fin X (Kn ρ) T) : Ref cl Fin X (lpK Kn K .nx ρ) T := h
theorem ref_asgn {gt : D → Tg} {e : α → D} {x : α} {T : α → R β} {ρ2 : α → Env} (h : Ev ρ f (.v (e x)) ρ1) (hg : ∀ x, gt (e x) ρ1 = some (ρ2 x)) (k : ∀ x, Ref cl Fin X (K .nx (ρ2 x)) (T x)) : Ref cl Fin X ((sAsg gt f ρ).bind K) (nm x T) := ref_asg h (hg x) (k x)
theorem ref_augn {gg : D → D → Option D} {e : α → D} {x : α} {T : α → R β} (h : Ev ρ f t ρ1) (l1 : look ρ1 (.s i) = some a) (l2 : look ρ1 t = some b) (hg : gg a b = some (e x)) (k : ∀ x, Ref cl Fin X (K .nx (ρ1.set i (some (e x)))) (T x)) : Ref cl Fin X ((sAug i gg f ρ).bind K) (nm x T) := ref_aug h l1 l2 hg (k x)
theorem ref_ifT (h : EvB ρ fb true ρ1) (k1 : Ref cl Fin X ((sg ρ1).bind K) T) : Ref cl Fin X ((sIf fb sg sh ρ).bind K) T := by
  have e : sIf fb sg sh ρ = sg ρ1 := by
    unfold sIf
    rw [h, Out.bind_ok]
    rfl
  rw [e]
  exact k1
theorem ref_ifF (h : EvB ρ fb false ρ1) (k1 : Ref cl Fin X ((sh ρ1).bind K) T) : Ref cl Fin X ((sIf fb sg sh ρ).bind K) T := by
  have e : sIf fb sg sh ρ = sh ρ1 := by
    unfold sIf
    rw [h, Out.bind_ok]
    rfl
  rw [e]
  exact k1
def caseO (o : Option α) (x : R β) (f : α → R β) : R β := match o with
  | none => x
  | some a => f a
@[simp] theorem caseO_none (x : R β) (f : α → R β) : caseO none x f = x := rfl
@[simp] theorem caseO_some (a : α) (x : R β) (f : α → R β) : caseO (some a) x f = f a := rfl
theorem wp_caseO {o : Option α} {x : R β} {f : α → R β} {Q : β → Prop} : (caseO o x f).wp Q ↔ (o = none → x.wp Q) ∧ ∀ a, o = some a → (f a).wp Q := by
  cases o <;> simp
theorem ref_cN {f : α → R β} (h : Ref cl Fin X o T) : Ref cl Fin X o (caseO none T f) := h
theorem ref_cS {f : α → R β} {v : α} (h : Ref cl Fin X o (f v)) : Ref cl Fin X o (caseO (some v) T f) := h
theorem ref_oN {f : α → R β} : Ref cl Fin X o (opt none f) := trivial
theorem ref_oS {f : α → R β} {v : α} (h : Ref cl Fin X o (f v)) : Ref cl Fin X o (opt (some v) f) := h
theorem ref_bad : Ref cl Fin X o (R.bad : R β) := trivial
theorem ref_fwd {E : σ → Env} {J : R (Fw σ β)} {T : σ → R β} (h : Ref cl (finW cl Fin X K E) X (sg ρ) J) (k : ∀ s, Ref cl Fin X (K .nx (E s)) (T s)) (k2 : ∀ s, Ref cl Fin X (K .ct (E s)) (T s)) (k3 : ∀ s, Ref cl Fin X (K .bk (E s)) (T s)) : Ref cl Fin X ((sg ρ).bind K) (fwd J T) := by
  cases J with
  | bad => trivial
  | exc e =>
    obtain ⟨ρ', e1, e2⟩ := h
    rw [e1]
    exact ⟨ρ', rfl, e2⟩
  | ok w =>
    obtain ⟨fl, ρ', e1, e2⟩ := h
    rw [e1]
    cases w with
    | nx s =>
      obtain ⟨e3, rfl⟩ := e2
      rcases e3 with rfl | rfl
      · exact k s
      · exact k2 s
    | bk s =>
      obtain ⟨rfl, rfl⟩ := e2
      exact k3 s
    | rt v =>
      obtain ⟨d, rfl, e4⟩ := e2
      exact e4
def finV (cl : Nat → Addr) (Fin : δ → Env → β → Prop) (X : Env → Prop) (K : Fl → Env → Out Env δ) (E : σ → Env) (fl : Fl) (ρ : Env) (w : Fw σ β) : Prop := match w with
  | .nx s => fl = .nx ∧ ρ = E s
  | .bk s => False
  | .rt v => Ref cl Fin X (K fl ρ) (.ok v)
theorem ref_fwv {E : σ → Env} {J : R (Fw σ β)} {T : σ → R β} (h : Ref cl (finV cl Fin X K E) X (sg ρ) J) (k : ∀ s, Ref cl Fin X (K .nx (E s)) (T s)) : Ref cl Fin X ((sg ρ).bind K) (fwd J T) := by
  cases J with
  | bad => trivial
  | exc e =>
    obtain ⟨ρ', e1, e2⟩ := h
    rw [e1]
    exact ⟨ρ', rfl, e2⟩
  | ok w =>
    obtain ⟨fl, ρ', e1, e2⟩ := h
    rw [e1]
    cases w with
    | nx s =>
      obtain ⟨rfl, rfl⟩ := e2
      exact k s
    | bk s => exact e2.elim
    | rt v => exact e2
theorem comp_pure {own : List Nat} {gt : D → Tg} {e : α → D} {r : β → D} {p : α → Bool} {q : α → β}
    (h : ∀ x, ∃ ρ1, gt (e x) ρ = some ρ1 ∧ EvB ρ1 fb (p x) ρ1 ∧ Ev ρ1 f (.v (r (q x))) ρ1 ∧ wipeD ρ1 own = ρ) : ∀ (xs : List α) (acc : List D), acc.length + ((xs.filter p).map q).length ≤ sizeLine → compL own gt fb f (xs.map e) acc ρ = .ok (acc ++ ((xs.filter p).map q).map r) ρ
  | [], acc, hz => by simp
  | x :: xs, acc, hz => by
    obtain ⟨ρ1, e1, e2, e3, e4⟩ := h x
    rw [List.map_cons, compL, e1]
    have e2 : fb ρ1 = .ok (p x) ρ1 := e2
    simp only [e2, Out.nox, Out.bind_ok]
    by_cases hp : p x = true
    · have e3 : f ρ1 = .ok (.v (r (q x))) ρ1 := e3
      simp only [hp, if_true, e3, Out.nox, Out.bind_ok, List.filter_cons_of_pos, List.map_cons, List.length_cons] at hz ⊢
      rw [if_pos (by omega), e4, comp_pure h xs (acc ++ [r (q x)]) (by simp only [List.length_append, List.length_cons, List.length_nil]; omega)]
      simp
    · simp only [Bool.not_eq_true] at hp
      simp only [hp, Bool.false_eq_true, if_false, e4]
      rw [List.filter_cons_of_neg (by simp [hp])] at hz ⊢
      exact comp_pure h xs acc hz
theorem ev_compP {own : List Nat} {src : Cm Src} {sd : List D} {gt : D → Tg} {xs : List α} {e : α → D} {r : β → D} {p : α → Bool} {q : α → β} (hs : src ρ = .ok ⟨sd, xs.map e, none⟩ ρ1) (hE : wipeD ρ1 own = ρ2)
    (h : ∀ x, ∃ ρ1, gt (e x) ρ2 = some ρ1 ∧ EvB ρ1 fb (p x) ρ1 ∧ Ev ρ1 f (.v (r (q x))) ρ1 ∧ wipeD ρ1 own = ρ2) (hz : ((xs.filter p).map q).length ≤ 16777216) : Ev ρ (eComp own src gt fb f) (.v (zL true r ((xs.filter p).map q))) ρ2 := by
  unfold Ev eComp
  rw [hs, Out.bind_ok, hE, comp_pure h xs [] (by rw [sizeLine_eq]; simpa using hz)]
  rfl
theorem filter_true (xs : List α) : xs.filter (fun _ => true) = xs := List.filter_eq_self.mpr fun _ _ => rfl
theorem ev_compM {own : List Nat} {src : Cm Src} {sd : List D} {gt : D → Tg} {xs : List α} {e : α → D} {r : β → D} {q : α → β} (hs : src ρ = .ok ⟨sd, xs.map e, none⟩ ρ1) (hE : wipeD ρ1 own = ρ2)
    (h : ∀ x, ∃ ρ1, gt (e x) ρ2 = some ρ1 ∧ Ev ρ1 f (.v (r (q x))) ρ1 ∧ wipeD ρ1 own = ρ2) (hz : xs.length ≤ 16777216) : Ev ρ (eComp own src gt bYes f) (.v (zL true r (xs.map q))) ρ2 := by
  have := ev_compP (fb := bYes) (p := fun _ => true) (q := q) (r := r) (f := f) hs hE (fun x => by
    obtain ⟨ρ1, h1, h2, h3⟩ := h x
    exact ⟨ρ1, h1, rfl, h2, h3⟩) (by rw [filter_true]; simpa using hz)
  rw [filter_true] at this
  exact this
theorem ev_compF {own : List Nat} {src : Cm Src} {sd : List D} {gt : D → Tg} {xs : List α} {e : α → D} {p : α → Bool} (hs : src ρ = .ok ⟨sd, xs.map e, none⟩ ρ1) (hE : wipeD ρ1 own = ρ2)
    (h : ∀ x, ∃ ρ1, gt (e x) ρ2 = some ρ1 ∧ EvB ρ1 fb (p x) ρ1 ∧ Ev ρ1 f (.v (e x)) ρ1 ∧ wipeD ρ1 own = ρ2) (hz : (xs.filter p).length ≤ 16777216) : Ev ρ (eComp own src gt fb f) (.v (zL true e (xs.filter p))) ρ2 := by
  have := ev_compP (q := fun x => x) (r := e) (p := p) (f := f) hs hE h (by simpa using hz)
  rwa [List.map_id'] at this
theorem ev_compR {own : List Nat} {src : Cm Src} {sd : List D} {gt : D → Tg} {xs : List α} {e : α → D} {r : β → D} {fx : α → R β} {ys : List β} (hs : src ρ = .ok ⟨sd, xs.map e, none⟩ ρ1) (hE : wipeD ρ1 own = ρ2)
    (h : ∀ x, ∃ ρ1, gt (e x) ρ2 = some ρ1 ∧ ∀ y, fx x = .ok y → Ev ρ1 f (.v (r y)) ρ1 ∧ wipeD ρ1 own = ρ2) (hy : mapR xs fx = .ok ys) (hz : ys.length ≤ 16777216) : Ev ρ (eComp own src gt bYes f) (.v (zL true r ys)) ρ2 := by
  have hy2 : fmapS xs (fun x (s : Unit) => (fx x).bind fun y => R.ok (some y, s)) () = .ok (ys, ()) := by
    have e1 := fmapS_fmapR (f := fun x => (fx x).bind fun y => R.ok (some y)) xs ()
    rw [fmapR_mapR, hy] at e1
    rw [← show (fun x (s : Unit) => ((fx x).bind fun y => R.ok (some y)).bind fun y => R.ok (y, s)) = fun x (s : Unit) => (fx x).bind fun y => R.ok (some y, s) from by
      funext x s
      cases fx x <;> rfl]
    exact e1
  refine ev_comp (σ := Unit) (E := fun _ => ρ2) (s := ()) hs hE (fun x s => ?_) hy2 hz
  obtain ⟨ρ1, h1, h2⟩ := h x
  refine ⟨ρ1, h1, fun y hy => ?_⟩
  cases hf : fx x with
  | bad => simp [hf] at hy
  | exc e => simp [hf] at hy
  | ok v =>
    simp only [hf, bind_ok, R.ok.injEq] at hy
    subst hy
    obtain ⟨h3, h4⟩ := h2 v hf
    exact ⟨ρ1, true, rfl, rfl, ρ1, h3, h4⟩
theorem ev_compG {own : List Nat} {src : Cm Src} {sd : List D} {gt : D → Tg} {xs : List α} {e : α → D} {r : β → D} {fx : α → R (Option β)} {ys : List β} (hs : src ρ = .ok ⟨sd, xs.map e, none⟩ ρ1) (hE : wipeD ρ1 own = ρ2)
    (h : ∀ x, ∃ ρ1, gt (e x) ρ2 = some ρ1 ∧ wipeD ρ1 own = ρ2 ∧ ∀ y, fx x = .ok y → match y with
      | some v => EvB ρ1 fb true ρ1 ∧ Ev ρ1 f (.v (r v)) ρ1
      | none => EvB ρ1 fb false ρ1) (hy : fmapR xs fx = .ok ys) (hz : ys.length ≤ 16777216) : Ev ρ (eComp own src gt fb f) (.v (zL true r ys)) ρ2 := by
  have hy2 : fmapS xs (fun x (s : Unit) => (fx x).bind fun y => R.ok (y, s)) () = .ok (ys, ()) := by
    rw [fmapS_fmapR, hy]
    rfl
  refine ev_comp (σ := Unit) (E := fun _ => ρ2) (s := ()) hs hE (fun x s => ?_) hy2 hz
  obtain ⟨ρ1, h1, h4, h2⟩ := h x
  refine ⟨ρ1, h1, fun y hy => ?_⟩
  cases hf : fx x with
  | bad => simp [hf] at hy
  | exc e => simp [hf] at hy
  | ok v =>
    simp only [hf, bind_ok, R.ok.injEq] at hy
    subst hy
    have h3 := h2 v hf
    cases v with
    | none => exact ⟨ρ1, false, h3, rfl, h4⟩
    | some w => exact ⟨ρ1, true, h3.1, rfl, ρ1, h3.2, h4⟩
theorem ev_compS {own : List Nat} {src : Cm Src} {sd : List D} {gt : D → Tg} {xs : List α} {e : α → D} {r : β → D} {fx : α → σ → R (β × σ)} {E : σ → Env} {s : σ} {ys : List β × σ} (hs : src ρ = .ok ⟨sd, xs.map e, none⟩ ρ1) (hE : wipeD ρ1 own = E s)
    (h : ∀ x s, ∃ ρ1, gt (e x) (E s) = some ρ1 ∧ ∀ y, fx x s = .ok y → ∃ ρ2, Ev ρ1 f (.v (r y.1)) ρ2 ∧ wipeD ρ2 own = E y.2) (hy : mapS xs fx s = .ok ys) (hz : ys.1.length ≤ 16777216) : Ev ρ (eComp own src gt bYes f) (.v (zL true r ys.1)) (E ys.2) := by
  rw [← fmapS_mapS] at hy
  refine ev_comp hs hE (fun x s => ?_) hy hz
  obtain ⟨ρ1, h1, h2⟩ := h x s
  refine ⟨ρ1, h1, fun y hy => ?_⟩
  cases hf : fx x s with
  | bad => simp [hf] at hy
  | exc e => simp [hf] at hy
  | ok v =>
    simp only [hf, bind_ok, R.ok.injEq] at hy
    subst hy
    obtain ⟨ρ2, h3, h4⟩ := h2 v hf
    exact ⟨ρ1, true, rfl, rfl, ρ2, h3, h4⟩
theorem ev_compT {own : List Nat} {src : Cm Src} {sd : List D} {gt : D → Tg} {xs : List α} {e : α → D} {r : β → D} {fx : α → σ → R (Option β × σ)} {E : σ → Env} {s : σ} {ys : List β × σ} (hs : src ρ = .ok ⟨sd, xs.map e, none⟩ ρ1) (hE : wipeD ρ1 own = E s)
    (h : ∀ x s, ∃ ρ1, gt (e x) (E s) = some ρ1 ∧ ∀ y, fx x s = .ok y → match y.1 with
      | some v => ∃ ρ2 ρ3, EvB ρ1 fb true ρ2 ∧ Ev ρ2 f (.v (r v)) ρ3 ∧ wipeD ρ3 own = E y.2
      | none => ∃ ρ2, EvB ρ1 fb false ρ2 ∧ wipeD ρ2 own = E y.2) (hy : fmapS xs fx s = .ok ys) (hz : ys.1.length ≤ 16777216) : Ev ρ (eComp own src gt fb f) (.v (zL true r ys.1)) (E ys.2) := by
  refine ev_comp hs hE (fun x s => ?_) hy hz
  obtain ⟨ρ1, h1, h2⟩ := h x s
  refine ⟨ρ1, h1, fun y hy => ?_⟩
  have h3 := h2 y hy
  cases e1 : y.1 with
  | none =>
    rw [e1] at h3
    obtain ⟨ρ2, h4, h5⟩ := h3
    exact ⟨ρ2, false, h4, rfl, h5⟩
  | some w =>
    rw [e1] at h3
    obtain ⟨ρ2, ρ3, h4, h5, h6⟩ := h3
    exact ⟨ρ2, true, h4, rfl, ρ3, h5, h6⟩
end
end Lf

set_option linter.all false
set_option maxRecDepth 100000
namespace Lf
open PySem hiding Env
open PySem.Spec hiding Tm
open PyProof.Rows L2 Dl
section
variable {α β γ σ : Type}
theorem wp_while {c : σ → R Bool} {b : σ → R (Fw σ β)} {Q : Fw σ β → Prop} (I : σ → Prop) (m : σ → Nat)
    (h : ∀ s, I s → (c s).wp fun t => if t = true then (b s).wp fun w => match w with
      | .nx s' => I s' ∧ m s' < m s
      | .bk s' => Q (.nx s')
      | .rt v => Q (.rt v)
    else Q (.nx s)) : ∀ s, I s → (whileR c b s).wp Q := by
  have main : ∀ n s, m s < n → I s → (whileR c b s).wp Q := by
    intro n
    induction n with
    | zero => intro s hs; omega
    | succ n ih =>
      intro s hs hi
      rw [whileR_step, wp_bind]
      refine wp_mono (h s hi) fun t ht => ?_
      cases t with
      | false => exact ht
      | true =>
        simp only [if_true] at ht ⊢
        rw [wp_bind]
        refine wp_mono ht fun w hw => ?_
        cases w with
        | nx s' => exact ih s' (by omega) hw.1
        | bk s' => exact hw
        | rt v => exact hw
  exact fun s hi => main (m s + 1) s (Nat.lt_succ_self _) hi
theorem wp_if {c : Bool} {x y : R β} {Q : β → Prop} : (if c = true then x else y).wp Q ↔ (c = true → x.wp Q) ∧ (c = false → y.wp Q) := by
  cases c <;> simp
theorem wp_nm {x : α} {f : α → R β} {Q : β → Prop} : (nm x f).wp Q ↔ (f x).wp Q := Iff.rfl
theorem wp_andR {a : Bool} {y : R Bool} {Q : Bool → Prop} : (andR a y).wp Q ↔ (a = true → y.wp Q) ∧ (a = false → Q false) := by
  cases a <;> simp [andR]
theorem wp_orR {a : Bool} {y : R Bool} {Q : Bool → Prop} : (orR a y).wp Q ↔ (a = true → Q true) ∧ (a = false → y.wp Q) := by
  cases a <;> simp [orR]
theorem wp_andS {a : Bool} {y : R (Bool × σ)} {s : σ} {Q : Bool × σ → Prop} : (andS a y s).wp Q ↔ (a = true → y.wp Q) ∧ (a = false → Q (false, s)) := by
  cases a <;> simp [andS]
theorem wp_orS {a : Bool} {y : R (Bool × σ)} {s : σ} {Q : Bool × σ → Prop} : (orS a y s).wp Q ↔ (a = true → Q (true, s)) ∧ (a = false → y.wp Q) := by
  cases a <;> simp [orS]
theorem wp_iteR {a : Bool} {x y : R β} {Q : β → Prop} : (iteR a x y).wp Q ↔ (a = true → x.wp Q) ∧ (a = false → y.wp Q) := by
  cases a <;> simp [iteR]
@[simp] theorem andR_true (y : R Bool) : andR true y = y := rfl
@[simp] theorem andR_false (y : R Bool) : andR false y = .ok false := rfl
@[simp] theorem orR_true (y : R Bool) : orR true y = .ok true := rfl
@[simp] theorem orR_false (y : R Bool) : orR false y = y := rfl
@[simp] theorem iteR_true (x y : R β) : iteR true x y = x := rfl
@[simp] theorem iteR_false (x y : R β) : iteR false x y = y := rfl
theorem wp_of {x : R α} {a : α} {Q : α → Prop} (h : x = .ok a) (q : Q a) : x.wp Q := by subst h; exact q
theorem eq_of_wp {x : R α} {a : α} (h : x.wp fun b => b = a) : x = .ok a := by
  obtain ⟨b, e, rfl⟩ := wp_iff.mp h
  exact e
theorem wp_mapSA {f : α → σ → R (β × σ)} (I : List α → List β → σ → Prop) (h : ∀ x xs acc s, I (x :: xs) acc s → (f x s).wp fun y => I xs (acc ++ [y.1]) y.2) :
    ∀ (xs : List α) (acc : List β) (s : σ), I xs acc s → (mapS xs f s).wp fun ys => I [] (acc ++ ys.1) ys.2
  | [], acc, s, hi => by simpa [mapS] using hi
  | x :: xs, acc, s, hi => by
    simp only [mapS, wp_bind]
    refine wp_mono (h x xs acc s hi) fun y hy => wp_mono (wp_mapSA I h xs _ _ hy) fun ys hys => ?_
    simpa using hys
theorem wp_fmapSA {f : α → σ → R (Option β × σ)} (I : List α → List β → σ → Prop) (h : ∀ x xs acc s, I (x :: xs) acc s → (f x s).wp fun y => I xs (acc ++ y.1.toList) y.2) :
    ∀ (xs : List α) (acc : List β) (s : σ), I xs acc s → (fmapS xs f s).wp fun ys => I [] (acc ++ ys.1) ys.2
  | [], acc, s, hi => by simpa [fmapS] using hi
  | x :: xs, acc, s, hi => by
    simp only [fmapS, wp_bind]
    refine wp_mono (h x xs acc s hi) fun y hy => wp_mono (wp_fmapSA I h xs _ _ hy) fun ys hys => ?_
    cases e : y.1 <;> simpa [e] using hys
theorem forK_fold {body : α → (σ → R β) → σ → R β} {k : σ → R β} (g : σ → α → σ) : ∀ (xs : List α) (s : σ), (∀ x ∈ xs, ∀ next s, body x next s = next (g s x)) → forK xs body k s = k (xs.foldl g s)
  | [], s, _ => rfl
  | x :: xs, s, h => by
    rw [forK_cons, h x List.mem_cons_self]
    exact forK_fold g xs _ fun y hy => h y (List.mem_cons_of_mem _ hy)
@[simp] theorem rgI_zero (lo : Int) : rgI lo 0 = [] := rfl
theorem rgI_succ (lo : Int) (n : Nat) : rgI lo (n + 1) = lo :: rgI (lo + 1) n := by
  unfold rgI
  rw [List.range_succ_eq_map, List.map_cons, List.map_map]
  congr 1
  · simp
  · refine List.map_congr_left fun i _ => ?_
    simp only [Function.comp_apply]
    omega
@[simp] theorem rgI_len (lo : Int) (n : Nat) : (rgI lo n).length = n := by simp [rgI]
theorem rgI_mem {lo x : Int} {n : Nat} : x ∈ rgI lo n ↔ lo ≤ x ∧ x < lo + n := by
  unfold rgI
  rw [List.mem_map]
  refine ⟨fun ⟨i, h1, h2⟩ => ?_, fun ⟨h1, h2⟩ => ⟨(x - lo).toNat, ?_, ?_⟩⟩
  · have := List.mem_range.mp h1
    omega
  · rw [List.mem_range]
    omega
  · omega
theorem inR_of {n : Int} (h : -4611686018427387904 ≤ n) (h2 : n < 4611686018427387904) : inR n := ⟨h, h2⟩
theorem inG_of {lo hi : Int} (h : -4611686018427387904 ≤ lo) (h2 : hi < 4611686018427387904) (h3 : -4611686018427387904 ≤ hi) (h4 : lo < 4611686018427387904) (h5 : hi - lo ≤ 16777216) : inG lo hi = true := by
  unfold inG
  simp only [Bool.and_eq_true, decide_eq_true_eq]
  exact ⟨⟨⟨h, h4⟩, ⟨h3, h2⟩⟩, by omega⟩
theorem atI_some {l : List α} {i : Int} (h : 0 ≤ i) (h2 : i < l.length) : atI l i = some l[i.toNat] := by
  obtain ⟨n, rfl⟩ := Int.eq_ofNat_of_zero_le h
  rw [atI_nn]
  simp only [Int.toNat_natCast]
  exact List.getElem?_eq_getElem (by omega)
theorem atI_mem {l : List α} {i : Int} {a : α} (h : atI l i = some a) : a ∈ l := by
  unfold atI at h
  obtain ⟨j, h1, h2⟩ := Option.bind_eq_some_iff.mp h
  exact List.mem_of_getElem? h2
theorem atI_last {l : List α} (h : l ≠ []) : atI l (-1) = some (l.getLast h) := by
  have hl : 0 < l.length := List.length_pos_iff.mpr h
  unfold atI ixN
  rw [if_neg (by omega), if_pos (by omega), Option.bind_some, show ((-1 : Int) + (l.length : Int)).toNat = l.length - 1 by omega, ← List.getLast?_eq_getElem?, List.getLast?_eq_some_getLast h]
theorem cutL_sub (l : List α) (lo hi : Option Int) : (cutL l lo hi).Sublist l := (List.take_sublist _ _).trans (List.drop_sublist _ _)
theorem cutL_le (l : List α) (lo hi : Option Int) : (cutL l lo hi).length ≤ l.length := (cutL_sub l lo hi).length_le
theorem cutL_in {l : List α} {lo hi : Option Int} {a : α} (h : a ∈ cutL l lo hi) : a ∈ l := (cutL_sub l lo hi).subset h
theorem cutL_to (l : List α) (n : Nat) : cutL l none (some (n : Int)) = l.take n := by
  unfold cutL
  rw [HT.sIx_none, HT.sIx_nat, List.drop_zero, Nat.sub_zero]
  rcases Nat.le_total n l.length with h | h
  · rw [Nat.min_eq_left h]
  · rw [Nat.min_eq_right h, List.take_of_length_le (Nat.le_refl _), List.take_of_length_le h]
theorem cutL_from (l : List α) (n : Nat) : cutL l (some (n : Int)) none = l.drop n := by
  unfold cutL
  rw [HT.sIx_none, HT.sIx_nat]
  rcases Nat.le_total n l.length with h | h
  · rw [Nat.min_eq_left h, List.take_of_length_le (by simp)]
  · rw [Nat.min_eq_right h, List.drop_eq_nil_of_le (Nat.le_refl _), List.drop_eq_nil_of_le h]; simp
theorem cutL_mid (l : List α) (n m : Nat) : cutL l (some (n : Int)) (some (m : Int)) = (l.take m).drop n := by
  unfold cutL
  rw [HT.sIx_nat, HT.sIx_nat, List.drop_take]
  rcases Nat.le_total n l.length with h | h
  · rcases Nat.le_total m l.length with h2 | h2
    · rw [Nat.min_eq_left h, Nat.min_eq_left h2]
    · rw [Nat.min_eq_left h, Nat.min_eq_right h2, List.take_of_length_le (by simp), List.take_of_length_le (by simp; omega)]
  · rw [Nat.min_eq_right h, List.drop_eq_nil_of_le (Nat.le_refl _), List.drop_eq_nil_of_le h]; simp
theorem cutL_to_le (l : List α) (n : Int) (h : 0 ≤ n) : (cutL l none (some n)).length ≤ n.toNat := by
  obtain ⟨m, rfl⟩ := Int.eq_ofNat_of_zero_le h
  rw [cutL_to, List.length_take]
  simp
  omega
theorem popX_some {l : List α} {i : Int} (h : 0 ≤ i) (h2 : i < l.length) : popX l i = some (l[i.toNat], l.eraseIdx i.toNat) := by
  unfold popX ixN
  rw [if_pos h, if_pos h2, Option.bind_some, List.getElem?_eq_getElem (by omega)]
  rfl
theorem eraseIdx_perm : ∀ (l : List α) (i : Nat) (h : i < l.length), (l[i] :: l.eraseIdx i).Perm l
  | a :: l, 0, h => .refl _
  | a :: l, i + 1, h => by
    have := eraseIdx_perm l i (by simpa using h)
    simp only [List.getElem_cons_succ, List.eraseIdx_cons_succ]
    exact (List.Perm.swap _ _ _).trans (this.cons a)
theorem repX_mem {l : List α} {n : Int} {a : α} (h : a ∈ repX l n) : a ∈ l := by
  unfold repX at h
  obtain ⟨m, h1, h2⟩ := List.mem_flatten.mp h
  rw [(List.mem_replicate.mp h1).2] at h2
  exact h2
theorem repX_len (l : List α) (n : Int) : (repX l n).length = n.toNat * l.length := by simp [repX]
theorem sortT_perm (e : α → D) (l : List α) : (sortT e l).Perm l := List.mergeSort_perm l _
theorem sortP_C (l : List Char) : sortP zC l := by
  have := sgn_sortOk (nats l) (fun c hc => by
    obtain ⟨d, _, rfl⟩ := List.mem_map.mp hc
    exact char_lt d)
  unfold sortP
  have e : l.map zC = sgn (nats l) := by simp [sgn, nats, zC, Function.comp_def]
  rw [e]
  exact this
end
end Lf

set_option linter.all false
set_option maxRecDepth 100000
namespace Lf
open PySem hiding Env
open PySem.Spec hiding Tm
open PyProof.Rows L2 Dl
theorem textFrom_le : ∀ (ts : List Str) (k : Nat) (acc : Str), (textFrom k acc ts).length ≤ acc.length + (ts.map fun t => t.length + 2).sum
  | [], k, acc => by simp [textFrom]
  | t :: r, k, acc => by
    have h := textFrom_le r (k + 1) (acc ++ (if k > 0 then ", " else "" : String) ++ t)
    rw [textFrom]
    refine Nat.le_trans h ?_
    rw [PySem.Str.length_append, PySem.Str.length_append, List.map_cons, List.sum_cons]
    have : (Str.ofString (if k > 0 then ", " else "" : String)).length ≤ 2 := by split <;> decide
    omega
end Lf
namespace Lf
open PySem hiding Env
open PySem.Spec hiding Tm
open PyProof.Rows L2 Dl
mutual
def wt : D → Nat
  | .int i => i.natAbs.log2 + 3
  | .str l => 10 * l.length + 2
  | .tup l => wts l + 3
  | .lst _ l => wts l + 2
  | _ => 5
def wts : List D → Nat
  | [] => 0
  | d :: l => wt d + 2 + wts l
end
theorem cps_len (x : Str) : x.cps.toList.length = x.length := by simp [PySem.Str.length]
theorem shownAll_len : ∀ l : List PyData, (PyData.shownAll l).length = l.length
  | [] => rfl
  | _ :: l => by simp [PyData.shownAll, shownAll_len l]
theorem tupleText_le (ts : List Str) : (tupleText ts).length ≤ 3 + (ts.map fun t => t.length + 2).sum := by
  unfold tupleText
  rw [PySem.Str.length_append, PySem.Str.length_append]
  have h := StrLaws.join_length_le (Str.ofString ", ") ts
  have h2 : (Str.ofString ", ").length = 2 := by decide
  rw [h2] at h
  have h3 : (ts.map fun t => t.length + 2).sum = (ts.map (·.length)).sum + ts.length * 2 := by
    clear h
    induction ts with
    | nil => rfl
    | cons t ts ih => simp only [List.map_cons, List.sum_cons, ih, List.length_cons]; omega
  have h4 : (Str.ofString (if ts.length == 1 then ",)" else ")" : String)).length ≤ 2 := by split <;> decide
  have h5 : (Str.ofString "(").length = 1 := by decide
  omega
theorem reprText_le (l : List Nat) (h : PyData.strOk ⟨l.toArray⟩ = true) : (reprText ⟨l.toArray⟩).length ≤ 10 * l.length + 2 := by
  have := StrLaws.reprText_len ⟨l.toArray⟩ (fun c hc => by
    unfold PyData.strOk at h
    have h : ∀ x ∈ l, x < 1114112 := by simpa using h
    have : c < 1114112 := h c (by simpa using hc)
    omega)
  rw [str_len] at this
  exact this
mutual
theorem shown_le : ∀ d : D, d.pl = true → d.P.showable = true → (d.P.shown).length ≤ wt d
  | .non, _, _ => by show (Str.ofString "None").length ≤ 5; decide
  | .bl b, _, _ => by
    cases b
    · show (Str.ofString "False").length ≤ 5; decide
    · show (Str.ofString "True").length ≤ 5; decide
  | .int i, _, h => by
    simp only [D.P, PyData.showable, decide_eq_true_eq] at h
    simp only [D.P, PyData.shown, wt]
    have := int_text_length_le (a := i) (k := i.natAbs.log2 + 1) (Nat.succ_pos _) (Nat.lt_succ_self _)
    have e : (Str.ofString (toString i)).length = (toString i).length := PySem.ofString_length _
    show (Str.ofString (toString i)).length ≤ _
    omega
  | .str l, h, _ => by
    simp only [D.P, PyData.shown, wt]
    exact reprText_le l h
  | .tup l, h, hs => by
    simp only [D.P, PyData.shown, wt]
    have := tupleText_le (PyData.shownAll (D.Ps l))
    have := shownAll_le l (by simpa [D.pl] using h) (by simpa [D.P, PyData.showable] using hs)
    omega
  | .lst o l, h, hs => by
    simp only [D.P, PyData.shown, wt]
    have h1 := textFrom_le (PyData.shownAll (D.Ps l)) 0 (Str.ofString "[")
    have h2 := shownAll_le l (by simpa [D.pl] using h) (by simpa [D.P, PyData.showable] using hs)
    have h3 : (Str.ofString "[").length = 1 := by decide
    have h4 : (Str.ofString "]").length = 1 := by decide
    show (textFrom 0 (Str.ofString "[") (PyData.shownAll (D.Ps l)) ++ Str.ofString "]").length ≤ _
    rw [PySem.Str.length_append]
    omega
  | .dic _ _ _, h, _ => by simp [D.pl] at h
  | .ins _ _ _, h, _ => by simp [D.pl] at h
  | .cst _, h, _ => by simp [D.pl] at h
  | .hol _, h, _ => by simp [D.pl] at h
  | .exv _ _, h, _ => by simp [D.pl] at h
  | .scr _, h, _ => by simp [D.pl] at h
theorem shownAll_le : ∀ l : List D, D.pls l = true → PyData.showableAll (D.Ps l) = true → ((PyData.shownAll (D.Ps l)).map fun t => t.length + 2).sum ≤ wts l
  | [], _, _ => by simp [D.Ps, PyData.shownAll, wts]
  | d :: l, h, hs => by
    simp only [D.pls, Bool.and_eq_true] at h
    simp only [D.Ps, PyData.showableAll, Bool.and_eq_true] at hs
    simp only [D.Ps, PyData.shownAll, List.map_cons, List.sum_cons, wts]
    have h1 := shown_le d h.1 hs.1
    have h2 := shownAll_le l h.2 hs.2
    omega
end
def Sh (n : Nat) (d : D) : Prop := d.P.showable = true ∧ wt d ≤ n
theorem repr_of {α : Type} {n k : Nat} {e : α → D} (h : Nice n e) (a : α) (hn : n ≤ 64) (hs : Sh k (e a)) (hk : k ≤ 16777216) : reprOk (e a) := by
  refine ⟨h.pl a, hs.1, Nat.le_trans (h.dep a) hn, ?_⟩
  have := shown_le (e a) (h.pl a) hs.1
  have e1 := cps_len (e a).P.shown
  unfold shD
  rw [e1, sizeLine_eq]
  exact Nat.le_trans this (Nat.le_trans hs.2 hk)
theorem repr_ofL {α : Type} {n k : Nat} {e : α → D} (h : Nice n e) (l : List α) (hn : n ≤ 63) (hs : Sh k (zL true e l)) (hk : k ≤ 16777216) : reprOk (zL true e l) := by
  have := repr_of (nL h) l (by omega) (k := k) hs hk
  exact this
theorem shD_own {α : Type} (e : α → D) (l : List α) : shD (zL true e l) = shD (zL false e l) := rfl
section
variable {α β γ δ : Type} {k m n j : Nat} {e : α → D} {f : β → D} {g : γ → D} {h : δ → D}
theorem sh_up {d : D} (h : Sh k d) (hk : k ≤ m) : Sh m d := ⟨h.1, Nat.le_trans h.2 hk⟩
theorem sh_B (b : Bool) : Sh 5 (zB b) := ⟨rfl, Nat.le_refl _⟩
theorem sh_U (b : Unit) : Sh 5 (zU b) := ⟨rfl, Nat.le_refl _⟩
theorem sh_I {i : Int} {b : Nat} (h : i.natAbs < 2 ^ b) (hb : b ≤ 1900) : Sh (b + 3) (zI i) := by
  have : i.natAbs.log2 ≤ b := by
    by_cases h0 : i.natAbs = 0
    · rw [h0]; simp
    · exact Nat.le_of_lt ((Nat.log2_lt h0).mpr h)
  refine ⟨?_, ?_⟩
  · simp only [zI, D.P, PyData.showable, decide_eq_true_eq]
    omega
  · simp only [zI, wt]
    omega
theorem sh_S {s : Tx} (h : s.length ≤ k) : Sh (10 * k + 2) (zS s) := ⟨rfl, by simp only [zS, wt, nats_len]; omega⟩
theorem sh_C (c : Char) : Sh 12 (zC c) := ⟨rfl, by simp [zC, wt]⟩
theorem showAll : ∀ {l : List D}, (∀ d ∈ l, Sh k d) → PyData.showableAll (D.Ps l) = true ∧ wts l ≤ l.length * (k + 2)
  | [], _ => ⟨rfl, by simp [wts]⟩
  | d :: l, h => by
    have h1 := h d List.mem_cons_self
    have h2 := showAll fun x hx => h x (List.mem_cons_of_mem _ hx)
    refine ⟨by simp [D.Ps, PyData.showableAll, h1.1, h2.1], ?_⟩
    have := h1.2
    simp only [wts, List.length_cons, Nat.succ_mul]
    omega
theorem sh_Q {l : List α} (h : ∀ a ∈ l, Sh k (e a)) (hl : l.length ≤ n) : Sh (n * (k + 2) + 3) (zQ e l) := by
  have h2 := showAll (k := k) (l := l.map e) fun d hd => by
    obtain ⟨a, ha, rfl⟩ := List.mem_map.mp hd
    exact h a ha
  refine ⟨by simpa [zQ, D.P, PyData.showable] using h2.1, ?_⟩
  rw [List.length_map] at h2
  have := Nat.mul_le_mul_right (k + 2) hl
  simp only [zQ, wt]
  omega
theorem sh_L {o : Bool} {l : List α} (h : ∀ a ∈ l, Sh k (e a)) (hl : l.length ≤ n) : Sh (n * (k + 2) + 3) (zL o e l) := by
  have h2 := showAll (k := k) (l := l.map e) fun d hd => by
    obtain ⟨a, ha, rfl⟩ := List.mem_map.mp hd
    exact h a ha
  refine ⟨by simpa [zL, D.P, PyData.showable] using h2.1, ?_⟩
  rw [List.length_map] at h2
  have := Nat.mul_le_mul_right (k + 2) hl
  simp only [zL, wt]
  omega
theorem sh_T2 {p : α × β} (h1 : Sh k (e p.1)) (h2 : Sh m (f p.2)) : Sh (k + m + 7) (zT2 e f p) := by
  refine ⟨by simp [zT2, D.P, D.Ps, PyData.showable, PyData.showableAll, h1.1, h2.1], ?_⟩
  have := h1.2
  have := h2.2
  simp only [zT2, wt, wts]
  omega
theorem sh_T3 {p : α × β × γ} (h1 : Sh k (e p.1)) (h2 : Sh m (f p.2.1)) (h3 : Sh n (g p.2.2)) : Sh (k + m + n + 9) (zT3 e f g p) := by
  refine ⟨by simp [zT3, D.P, D.Ps, PyData.showable, PyData.showableAll, h1.1, h2.1, h3.1], ?_⟩
  have := h1.2
  have := h2.2
  have := h3.2
  simp only [zT3, wt, wts]
  omega
theorem sh_T4 {p : α × β × γ × δ} (h1 : Sh k (e p.1)) (h2 : Sh m (f p.2.1)) (h3 : Sh n (g p.2.2.1)) (h4 : Sh j (h p.2.2.2)) : Sh (k + m + n + j + 11) (zT4 e f g h p) := by
  refine ⟨by simp [zT4, D.P, D.Ps, PyData.showable, PyData.showableAll, h1.1, h2.1, h3.1, h4.1], ?_⟩
  have := h1.2
  have := h2.2
  have := h3.2
  have := h4.2
  simp only [zT4, wt, wts]
  omega
theorem sh_O {x : Option α} (h : ∀ a, x = some a → Sh k (e a)) (hk : 5 ≤ k) : Sh k (zO e x) := by
  cases x with
  | none => exact ⟨rfl, hk⟩
  | some a => exact h a rfl
end
end Lf

set_option linter.all false
set_option maxRecDepth 100000
namespace Lf
open PySem hiding Env
open PySem.Spec hiding Tm
open PyProof.Rows L2 Dl
inductive Py where
  | non | int (i : Int) | str (s : Tx) | tup (l : List Py) | lst (l : List Py)
mutual
def zP : Py → D
  | .non => .non
  | .int i => .int i
  | .str s => .str (nats s)
  | .tup l => .tup (zPs l)
  | .lst l => .lst false (zPs l)
def zPs : List Py → List D
  | [] => []
  | a :: l => zP a :: zPs l
end
mutual
def Py.dep : Py → Nat
  | .tup l => Py.deps l + 1
  | .lst l => Py.deps l + 1
  | _ => 0
def Py.deps : List Py → Nat
  | [] => 0
  | a :: l => max a.dep (Py.deps l)
end
mutual
def Py.beq : Py → Py → Bool
  | .non, .non => true
  | .int i, .int j => decide (i = j)
  | .str i, .str j => decide (i = j)
  | .tup i, .tup j => Py.beqs i j
  | .lst i, .lst j => Py.beqs i j
  | _, _ => false
def Py.beqs : List Py → List Py → Bool
  | [], [] => true
  | a :: l, b :: m => a.beq b && Py.beqs l m
  | _, _ => false
end
mutual
theorem Py.beq_iff : ∀ a b : Py, a.beq b = true ↔ a = b
  | .non, .non => by simp [Py.beq]
  | .int i, .int j => by simp [Py.beq]
  | .str i, .str j => by simp [Py.beq]
  | .tup i, .tup j => by simp [Py.beq, Py.beqs_iff i j]
  | .lst i, .lst j => by simp [Py.beq, Py.beqs_iff i j]
  | .non, .int _ => by simp [Py.beq]
  | .non, .str _ => by simp [Py.beq]
  | .non, .tup _ => by simp [Py.beq]
  | .non, .lst _ => by simp [Py.beq]
  | .int _, .non => by simp [Py.beq]
  | .int _, .str _ => by simp [Py.beq]
  | .int _, .tup _ => by simp [Py.beq]
  | .int _, .lst _ => by simp [Py.beq]
  | .str _, .non => by simp [Py.beq]
  | .str _, .int _ => by simp [Py.beq]
  | .str _, .tup _ => by simp [Py.beq]
  | .str _, .lst _ => by simp [Py.beq]
  | .tup _, .non => by simp [Py.beq]
  | .tup _, .int _ => by simp [Py.beq]
  | .tup _, .str _ => by simp [Py.beq]
  | .tup _, .lst _ => by simp [Py.beq]
  | .lst _, .non => by simp [Py.beq]
  | .lst _, .int _ => by simp [Py.beq]
  | .lst _, .str _ => by simp [Py.beq]
  | .lst _, .tup _ => by simp [Py.beq]
theorem Py.beqs_iff : ∀ a b : List Py, Py.beqs a b = true ↔ a = b
  | [], [] => by simp [Py.beqs]
  | a :: l, b :: m => by simp [Py.beqs, Py.beq_iff a b, Py.beqs_iff l m]
  | [], _ :: _ => by simp [Py.beqs]
  | _ :: _, [] => by simp [Py.beqs]
end
instance : DecidableEq Py := fun a b => decidable_of_iff (a.beq b = true) (Py.beq_iff a b)
theorem zPs_map : ∀ l : List Py, zPs l = l.map zP
  | [] => rfl
  | a :: l => by simp [zPs, zPs_map l]
mutual
theorem zP_cold : ∀ a : Py, (zP a).cold
  | .non => ⟨rfl, rfl, rfl⟩
  | .int _ => ⟨rfl, rfl, rfl⟩
  | .str _ => ⟨rfl, rfl, rfl⟩
  | .tup l => cold_tup (zPs_cold l)
  | .lst l => cold_lst (zPs_cold l)
theorem zPs_cold : ∀ l : List Py, D.colds (zPs l)
  | [] => colds_nil
  | a :: l => colds_cons (zP_cold a) (zPs_cold l)
end
mutual
theorem zP_pl : ∀ a : Py, (zP a).pl = true
  | .non => rfl
  | .int _ => rfl
  | .str s => nats_ok s
  | .tup l => by simp [zP, D.pl, zPs_pl l]
  | .lst l => by simp [zP, D.pl, zPs_pl l]
theorem zPs_pl : ∀ l : List Py, D.pls (zPs l) = true
  | [] => rfl
  | a :: l => by simp [zPs, D.pls, zP_pl a, zPs_pl l]
end
mutual
theorem zP_dep : ∀ a : Py, (zP a).dep = a.dep
  | .non => rfl
  | .int _ => rfl
  | .str _ => rfl
  | .tup l => by simp [zP, D.dep, Py.dep, zPs_dep l]
  | .lst l => by simp [zP, D.dep, Py.dep, zPs_dep l]
theorem zPs_dep : ∀ l : List Py, D.deps (zPs l) = Py.deps l
  | [] => rfl
  | a :: l => by simp [zPs, D.deps, Py.deps, zP_dep a, zPs_dep l]
end
mutual
theorem zP_eq : ∀ a b : Py, eqD (zP a) (zP b) = a.beq b
  | .non, .non => rfl
  | .int i, .int j => by
    simp only [eqD, zP, D.P, PyData.eqv, Py.beq]
    exact Bool.eq_iff_iff.mpr (by simp)
  | .str i, .str j => by
    have := nS.eq i j
    unfold eqD zS at this
    show PyData.eqv _ _ = decide (i = j)
    by_cases h : i = j
    · rw [decide_eq_true h]; exact this.mpr h
    · rw [decide_eq_false h]
      cases e : PyData.eqv (zP (.str i)).P (zP (.str j)).P with
      | false => rfl
      | true => exact (h (this.mp e)).elim
  | .tup i, .tup j => by simp only [eqD, zP, D.P, PyData.eqv, Py.beq]; exact zPs_eq i j
  | .lst i, .lst j => by simp only [eqD, zP, D.P, PyData.eqv, Py.beq]; exact zPs_eq i j
  | .non, .int _ => by simp [eqD, zP, D.P, PyData.eqv, Py.beq]
  | .non, .str _ => by simp [eqD, zP, D.P, PyData.eqv, Py.beq]
  | .non, .tup _ => by simp [eqD, zP, D.P, PyData.eqv, Py.beq]
  | .non, .lst _ => by simp [eqD, zP, D.P, PyData.eqv, Py.beq]
  | .int _, .non => by simp [eqD, zP, D.P, PyData.eqv, Py.beq]
  | .int _, .str _ => by simp [eqD, zP, D.P, PyData.eqv, Py.beq]
  | .int _, .tup _ => by simp [eqD, zP, D.P, PyData.eqv, Py.beq]
  | .int _, .lst _ => by simp [eqD, zP, D.P, PyData.eqv, Py.beq]
  | .str _, .non => by simp [eqD, zP, D.P, PyData.eqv, Py.beq]
  | .str _, .int _ => by simp [eqD, zP, D.P, PyData.eqv, Py.beq]
  | .str _, .tup _ => by simp [eqD, zP, D.P, PyData.eqv, Py.beq]
  | .str _, .lst _ => by simp [eqD, zP, D.P, PyData.eqv, Py.beq]
  | .tup _, .non => by simp [eqD, zP, D.P, PyData.eqv, Py.beq]
  | .tup _, .int _ => by simp [eqD, zP, D.P, PyData.eqv, Py.beq]
  | .tup _, .str _ => by simp [eqD, zP, D.P, PyData.eqv, Py.beq]
  | .tup _, .lst _ => by simp [eqD, zP, D.P, PyData.eqv, Py.beq]
  | .lst _, .non => by simp [eqD, zP, D.P, PyData.eqv, Py.beq]
  | .lst _, .int _ => by simp [eqD, zP, D.P, PyData.eqv, Py.beq]
  | .lst _, .str _ => by simp [eqD, zP, D.P, PyData.eqv, Py.beq]
  | .lst _, .tup _ => by simp [eqD, zP, D.P, PyData.eqv, Py.beq]
theorem zPs_eq : ∀ a b : List Py, PyData.eqvAll (D.Ps (zPs a)) (D.Ps (zPs b)) = Py.beqs a b
  | [], [] => by simp [zPs, D.Ps, PyData.eqvAll, Py.beqs]
  | a :: l, b :: m => by
    simp only [zPs, D.Ps, PyData.eqvAll, Py.beqs]
    rw [zPs_eq l m]
    have := zP_eq a b
    unfold eqD at this
    rw [this]
  | [], _ :: _ => by simp [zPs, D.Ps, PyData.eqvAll, Py.beqs]
  | _ :: _, [] => by simp [zPs, D.Ps, PyData.eqvAll, Py.beqs]
end
theorem eq_py (a b : Py) (h : a.dep ≤ 64 ∧ b.dep ≤ 64) (k : Bool) : eqDD k (zP a) (zP b) = some (.bl (decide (a = b) ^^ k)) := by
  have h1 : eqD (zP a) (zP b) = decide (a = b) := by
    rw [zP_eq]
    by_cases q : a = b
    · rw [decide_eq_true q]; exact (Py.beq_iff a b).mpr q
    · rw [decide_eq_false q]
      cases e : a.beq b with
      | false => rfl
      | true => exact (q ((Py.beq_iff a b).mp e)).elim
  have h2 : eqP k (zP a) (zP b) = some (.bl (decide (a = b) ^^ k)) := by
    unfold eqP
    rw [if_pos ⟨zP_pl a, zP_pl b, by rw [zP_dep]; exact h.1, by rw [zP_dep]; exact h.2⟩, h1]
  unfold eqDD
  cases h3 : eqS k (zP a) (zP b) with
  | none => rw [h2]; rfl
  | some c =>
    have : c = .bl (decide (a = b) ^^ k) := by
      rw [← h1]
      unfold eqS scD at h3
      split at h3 <;> simp only [Option.map_some, Option.map_none, Option.some.injEq, reduceCtorEq] at h3 <;> subst h3 <;> rename_i q1 q2 <;> try rw [q1, q2]
      · simp only [eqD, D.P, PyData.eqv]
        exact congrArg (fun x => D.bl (x ^^ k)) (Bool.eq_iff_iff.mpr (by simp))
      · rename_i i j
        by_cases q : i = j
        · subst q; simp [eqD, D.P, PyData.eqv]
        · have : PyData.eqv (.str ⟨i.toArray⟩) (.str ⟨j.toArray⟩) = false := by
            rw [PyData.eqv]
            cases z : ((⟨i.toArray⟩ : Str) == ⟨j.toArray⟩) with
            | false => rfl
            | true => exact (q ((str_beq i j).mp z)).elim
          simp [eqD, D.P, this, q]
      · rename_i i j; cases i <;> cases j <;> simp [eqD, D.P, PyData.eqv]
      all_goals simp [eqD, D.P, PyData.eqv]
    rw [this]
    rfl
theorem op_eqP (a b : Py) (h : a.dep ≤ 64 ∧ b.dep ≤ 64) : eqDD false (zP a) (zP b) = some (zB (decide (a = b))) := by rw [eq_py a b h]; simp [zB]
theorem op_neP (a b : Py) (h : a.dep ≤ 64 ∧ b.dep ≤ 64) : eqDD true (zP a) (zP b) = some (zB (!decide (a = b))) := by rw [eq_py a b h]; simp [zB]
def Py.items : Py → Option (List Py)
  | .tup l => some l
  | .lst l => some l
  | _ => none
def Py.item (a : Py) (i : Int) : Option Py := a.items.bind fun l => atI l i
def Py.asStr : Py → Option Tx
  | .str s => some s
  | _ => none
def Py.asInt : Py → Option Int
  | .int s => some s
  | _ => none
def Py.asTup : Py → Option (List Py)
  | .tup s => some s
  | _ => none
theorem asStr_eq {a : Py} {s : Tx} (h : a.asStr = some s) : zP a = zS s := by
  cases a <;> cases h
  rfl
theorem asInt_eq {a : Py} {s : Int} (h : a.asInt = some s) : zP a = zI s := by
  cases a <;> cases h
  rfl
theorem asTup_eq {a : Py} {s : List Py} (h : a.asTup = some s) : zP a = zQ zP s := by
  cases a <;> cases h
  show D.tup _ = D.tup _
  rw [zPs_map]
theorem op_ixP (a : Py) (i : Int) (v : Py) (h : a.item i = some v) : ixD (zP a) (zI i) = some (zP v) := by
  unfold Py.item at h
  obtain ⟨l, h1, h2⟩ := Option.bind_eq_some_iff.mp h
  have e : atI (zPs l) i = some (zP v) := by rw [zPs_map, atI_map', h2]; rfl
  cases a with
  | tup m => cases h1; exact ix_tup e (zP_cold v).2.2
  | lst m => cases h1; exact ix_lst e (zP_cold v).2.2
  | _ => cases h1
theorem op_lenP (a : Py) (l : List Py) (h : a.items = some l) : lenD [zP a] = some (zI l.length) := by
  cases a with
  | tup m => cases h; show lenD [.tup (zPs l)] = _; rw [lenD_tup, zPs_map, List.length_map]; rfl
  | lst m => cases h; show lenD [.lst false (zPs l)] = _; rw [lenD_lst, zPs_map, List.length_map]; rfl
  | _ => cases h
theorem op_isP (a : Py) : isN false (zP a) .non = some (zB (decide (a = .non))) := by cases a <;> rfl
theorem op_notP (a : Py) : isN true (zP a) .non = some (zB (!decide (a = .non))) := by cases a <;> rfl
section
variable {α β γ δ ε : Type} {e : α → D} {f : β → D} {g : γ → D} {h : δ → D} {i : ε → D}
theorem cQ (c : ∀ a, (e a).cold) (l : List α) : (zQ e l).cold := cold_tup (colds_map c l)
theorem cL (c : ∀ a, (e a).cold) (l : List α) : (zL false e l).cold := cold_lst (colds_map c l)
theorem cO (c : ∀ a, (e a).cold) (x : Option α) : (zO e x).cold := by
  cases x with
  | none => exact ⟨rfl, rfl, rfl⟩
  | some a => exact c a
theorem cT1 (c : ∀ a, (e a).cold) (x : α) : (zT1 e x).cold := cold_tup (colds_cons (c _) colds_nil)
theorem cT2 (c : ∀ a, (e a).cold) (d : ∀ a, (f a).cold) (x : α × β) : (zT2 e f x).cold := cold_tup (colds_cons (c _) (colds_cons (d _) colds_nil))
theorem cT3 (c : ∀ a, (e a).cold) (d : ∀ a, (f a).cold) (k : ∀ a, (g a).cold) (x : α × β × γ) : (zT3 e f g x).cold := cold_tup (colds_cons (c _) (colds_cons (d _) (colds_cons (k _) colds_nil)))
theorem cT4 (c : ∀ a, (e a).cold) (d : ∀ a, (f a).cold) (k : ∀ a, (g a).cold) (l : ∀ a, (h a).cold) (x : α × β × γ × δ) : (zT4 e f g h x).cold := cold_tup (colds_cons (c _) (colds_cons (d _) (colds_cons (k _) (colds_cons (l _) colds_nil))))
theorem cT5 (c : ∀ a, (e a).cold) (d : ∀ a, (f a).cold) (k : ∀ a, (g a).cold) (l : ∀ a, (h a).cold) (m : ∀ a, (i a).cold) (x : α × β × γ × δ × ε) : (zT5 e f g h i x).cold := cold_tup (colds_cons (c _) (colds_cons (d _) (colds_cons (k _) (colds_cons (l _) (colds_cons (m _) colds_nil)))))
end
theorem lk_eq {d d' : D} (h : d = d') : some d = some d' := congrArg some h
theorem lk_eq2 {d d' : D} (h : d = d') : some (some d) = some (some d') := congrArg (fun x => some (some x)) h
end Lf

set_option linter.all false
set_option maxRecDepth 100000
namespace Lf
open PySem hiding Env
open PySem.Spec hiding Tm
open PyProof.Rows L2 Dl
section
variable {α β γ δ : Type} {ρ ρ1 : Env} {f : Cm Tm} {t : Tm} {n : Nat} {e : α → D}
open Classical in
noncomputable def ddX : List α → List α
  | [] => []
  | a :: l => a :: (ddX l).filter fun b => !decide (b = a)
theorem ddX_mem {a : α} : ∀ {l : List α}, a ∈ ddX l ↔ a ∈ l
  | [] => Iff.rfl
  | b :: l => by
    rw [ddX, List.mem_cons, List.mem_cons, List.mem_filter, ddX_mem]
    by_cases h : a = b
    · simp [h]
    · simp [h]
theorem ddX_nodup : ∀ l : List α, (ddX l).Nodup
  | [] => List.nodup_nil
  | b :: l => by
    rw [ddX]
    refine List.nodup_cons.mpr ⟨fun z => ?_, (ddX_nodup l).sublist List.filter_sublist⟩
    have := (List.mem_filter.mp z).2
    simp at this
theorem ddX_len : ∀ l : List α, (ddX l).length ≤ l.length
  | [] => Nat.le_refl _
  | b :: l => by
    rw [ddX, List.length_cons, List.length_cons]
    exact Nat.succ_le_succ (Nat.le_trans (List.length_filter_le _ _) (ddX_len l))
theorem ddX_id : ∀ {l : List α}, l.Nodup → ddX l = l
  | [], _ => rfl
  | b :: l, h => by
    have hn := List.nodup_cons.mp h
    rw [ddX, ddX_id hn.2]
    congr 1
    refine List.filter_eq_self.mpr fun a ha => ?_
    have : a ≠ b := fun z => hn.1 (z ▸ ha)
    simp [this]
def setP (e : α → D) (l : List α) : Prop := ssOk (l.map e) = true
noncomputable def srtX (e : α → D) (l : List α) : List α := sortT e (ddX l)
theorem Nice.inj (h : Nice n e) {a b : α} (q : e a = e b) : a = b := (h.eq a b).mp (q ▸ (h.eq a a).mpr rfl)
theorem ddk_map (h : Nice n e) : ∀ (l : List α), (∀ a ∈ l, (e a).kok = true) → ddk (l.map e) = (ddX l).map e
  | [], _ => rfl
  | a :: l, k => by
    rw [List.map_cons, ddk, ddk_map h l fun b hb => k b (List.mem_cons_of_mem _ hb), ddX, List.map_cons]
    congr 1
    rw [List.filter_map]
    congr 1
    refine List.filter_congr fun b hb => ?_
    have kb := k b (List.mem_cons_of_mem _ (ddX_mem.mp hb))
    have ka := k a List.mem_cons_self
    simp only [Function.comp_apply]
    congr 1
    rw [decide_eq_decide]
    exact ⟨fun q => h.inj (nkD_inj _ _ kb ka q), fun q => by rw [q]⟩
theorem setP_kok {l : List α} (hs : setP e l) : ∀ a ∈ l, (e a).kok = true := fun a ha => (ssOk_un hs).2.2.1 _ (List.mem_map.mpr ⟨a, ha, rfl⟩)
theorem srt_map (h : Nice n e) {l : List α} (hs : setP e l) : sortD (ddk (l.map e)) = (srtX e l).map e := by
  rw [ddk_map h l (setP_kok hs), sortD_map]
  rfl
theorem ev_srt (h1 : Ev ρ f t ρ1) {d : D} (l1 : look ρ1 t = some d) (h : Nice n e) {l : List α} (hd : setL d = some (l.map e)) (hs : setP e l) : Ev ρ (eSrtSet f) (.v (zL true e (srtX e l))) ρ1 := by
  unfold Ev eSrtSet
  rw [h1, Out.bind_ok, l1, Option.bind_some, hd]
  show Out.ok (Tm.v (D.lst true (sortD (ddk (l.map e))))) ρ1 = _
  rw [srt_map h hs]
  rfl
theorem ev_lnset (h1 : Ev ρ f t ρ1) {d : D} (l1 : look ρ1 t = some d) (h : Nice n e) {l : List α} (hd : setL d = some (l.map e)) (hs : setP e l) : Ev ρ (eLenSet f) (.v (zI ((ddX l).length : Int))) ρ1 := by
  unfold Ev eLenSet
  rw [h1, Out.bind_ok, l1, Option.bind_some, hd]
  show Out.ok (Tm.v (D.int ((ddk (l.map e)).length : Nat))) ρ1 = _
  rw [ddk_map h l (setP_kok hs), List.length_map]
  rfl
theorem set_L {l : List α} {o : Bool} (hs : setP e l) : setL (zL o e l) = some (l.map e) := by
  unfold setP at hs
  unfold zL setL
  simp only [hs, if_true]
theorem set_Q {l : List α} (hs : setP e l) : setL (zQ e l) = some (l.map e) := by
  unfold setP at hs
  unfold zQ setL
  simp only [hs, if_true]
theorem set_S {l : Tx} (hs : setP zC l) : setL (zS l) = some (l.map zC) := by
  unfold setP at hs
  have e1 : (nats l).map (fun c => D.str [c]) = l.map zC := by simp [nats, zC, Function.comp_def]
  unfold zS setL
  simp only [e1, hs, if_true]
structure Ky (d : Nat) (e : α → D) : Prop where
  al : ∀ a b, PySem.W.alike (e a).P (e b).P = true
  kok : ∀ a, (e a).kok = true
  pl : ∀ a, (e a).pl = true
  dep : ∀ a, (e a).dep ≤ d
theorem kyI : Ky 0 zI := ⟨fun _ _ => rfl, fun _ => rfl, fun _ => rfl, fun _ => Nat.le_refl _⟩
theorem kyS : Ky 0 zS := ⟨fun _ _ => rfl, fun _ => rfl, nS.pl, fun _ => Nat.le_refl _⟩
theorem kyC : Ky 0 zC := ⟨fun _ _ => rfl, fun _ => rfl, nC.pl, fun _ => Nat.le_refl _⟩
theorem pls_all : ∀ {l : List D}, (∀ d ∈ l, d.pl = true) → D.pls l = true
  | [], _ => rfl
  | d :: l, h => by
    simp only [D.pls, Bool.and_eq_true]
    exact ⟨h d List.mem_cons_self, pls_all fun a ha => h a (List.mem_cons_of_mem _ ha)⟩
theorem koks_all : ∀ {l : List D}, (∀ d ∈ l, d.kok = true) → D.koks l = true
  | [], _ => rfl
  | d :: l, h => by
    simp only [D.koks, Bool.and_eq_true]
    exact ⟨h d List.mem_cons_self, koks_all fun a ha => h a (List.mem_cons_of_mem _ ha)⟩
theorem deps_all {k : Nat} : ∀ {l : List D}, (∀ d ∈ l, d.dep ≤ k) → D.deps l ≤ k
  | [], _ => Nat.zero_le _
  | d :: l, h => by
    simp only [D.deps]
    have := h d List.mem_cons_self
    have := deps_all fun a ha => h a (List.mem_cons_of_mem _ ha)
    omega
theorem alike_rows {k : Nat} (h : Ky k e) : ∀ a b : List α, PySem.W.alikeAll (D.Ps (a.map e)) (D.Ps (b.map e)) = true
  | [], _ => by simp [D.Ps, PySem.W.alikeAll]
  | _ :: _, [] => by simp [D.Ps, PySem.W.alikeAll]
  | a :: l, b :: m => by simp [D.Ps, PySem.W.alikeAll, h.al a b, alike_rows h l m]
theorem kyQ {k : Nat} (h : Ky k e) : Ky (k + 1) (zQ e) := by
  refine ⟨fun a b => ?_, fun a => ?_, fun a => ?_, fun a => ?_⟩
  · simp only [zQ, D.P, PySem.W.alike]
    exact alike_rows h a b
  · simp only [zQ, D.kok]
    exact koks_all fun d hd => by
      obtain ⟨x, _, rfl⟩ := List.mem_map.mp hd
      exact h.kok x
  · simp only [zQ, D.pl]
    exact pls_all fun d hd => by
      obtain ⟨x, _, rfl⟩ := List.mem_map.mp hd
      exact h.pl x
  · simp only [zQ, D.dep]
    exact Nat.succ_le_succ (deps_all fun d hd => by
      obtain ⟨x, _, rfl⟩ := List.mem_map.mp hd
      exact h.dep x)
theorem Ky.up {k m : Nat} (h : Ky k e) (hk : k ≤ m) : Ky m e := ⟨h.al, h.kok, h.pl, fun a => Nat.le_trans (h.dep a) hk⟩
theorem kyT2 {k : Nat} {g : β → D} (h1 : Ky k e) (h2 : Ky k g) : Ky (k + 1) (zT2 e g) :=
  ⟨fun a b => by simp [zT2, D.P, D.Ps, PySem.W.alike, PySem.W.alikeAll, h1.al, h2.al], fun a => by simp [zT2, D.kok, D.koks, h1.kok, h2.kok], fun a => by simp [zT2, D.pl, D.pls, h1.pl, h2.pl],
   fun a => by
    have := h1.dep a.1
    have := h2.dep a.2
    simp only [zT2, D.dep, D.deps]
    omega⟩
theorem kyT3 {k : Nat} {g : β → D} {q : γ → D} (h1 : Ky k e) (h2 : Ky k g) (h3 : Ky k q) : Ky (k + 1) (zT3 e g q) :=
  ⟨fun a b => by simp [zT3, D.P, D.Ps, PySem.W.alike, PySem.W.alikeAll, h1.al, h2.al, h3.al], fun a => by simp [zT3, D.kok, D.koks, h1.kok, h2.kok, h3.kok], fun a => by simp [zT3, D.pl, D.pls, h1.pl, h2.pl, h3.pl],
   fun a => by
    have := h1.dep a.1
    have := h2.dep a.2.1
    have := h3.dep a.2.2
    simp only [zT3, D.dep, D.deps]
    omega⟩
theorem setP_of {k : Nat} (h : Ky k e) (hk : k ≤ 8) (hs : (∀ a, (e a).isTup = true) ∨ ∀ a, (e a).isSc = true) {l : List α} (hl : l.length < 2046) : setP e l := by
  unfold setP ssOk
  simp only [Bool.and_eq_true, Bool.or_eq_true, decide_eq_true_eq, List.all_eq_true, List.length_map, List.mem_map, forall_exists_index, and_imp, forall_apply_eq_imp_iff₂]
  refine ⟨⟨⟨⟨⟨fun a _ b _ => h.al a b, ?_⟩, fun a _ => h.kok a⟩, ?_⟩, fun a _ => Nat.le_trans (h.dep a) hk⟩, hl⟩
  · exact hs.imp (fun z a _ => z a) (fun z a _ => z a)
  · exact pls_all fun d hd => by
      obtain ⟨x, _, rfl⟩ := List.mem_map.mp hd
      exact h.pl x
theorem srtX_mem {l : List α} {a : α} : a ∈ srtX e l ↔ a ∈ l := by
  unfold srtX
  rw [(sortT_perm e _).mem_iff, ddX_mem]
theorem srtX_nodup (l : List α) : (srtX e l).Nodup := (sortT_perm e _).nodup_iff.mpr (ddX_nodup l)
theorem srtX_len (l : List α) : (srtX e l).length ≤ l.length := by
  unfold srtX
  rw [(sortT_perm e _).length_eq]
  exact ddX_len l
theorem map_inj_list {f : α → β} (h : ∀ a b, f a = f b → a = b) : ∀ {l m : List α}, l.map f = m.map f → l = m
  | [], [], _ => rfl
  | a :: l, b :: m, q => by
    simp only [List.map_cons, List.cons.injEq] at q
    rw [h a b q.1, map_inj_list h q.2]
  | [], _ :: _, q => by simp at q
  | _ :: _, [], q => by simp at q
theorem sortT_congr {k : Nat} (h : Nice n e) (y : Ky k e) {l m : List α} (p : l.Perm m) : sortT e l = sortT e m := by
  refine map_inj_list (fun a b q => h.inj q) ?_
  rw [← sortD_map, ← sortD_map]
  exact sort_perm (fun a ha b hb => by
    obtain ⟨x, _, rfl⟩ := List.mem_map.mp ha
    obtain ⟨z, _, rfl⟩ := List.mem_map.mp hb
    exact y.al x z) (fun a ha => by
    obtain ⟨x, _, rfl⟩ := List.mem_map.mp ha
    exact y.kok x) (p.map e)
theorem srtX_congr {k : Nat} (h : Nice n e) (y : Ky k e) {l m : List α} (q : ∀ a, a ∈ l ↔ a ∈ m) : srtX e l = srtX e m := by
  unfold srtX
  refine sortT_congr h y ((List.perm_ext_iff_of_nodup (ddX_nodup l) (ddX_nodup m)).mpr fun a => ?_)
  rw [ddX_mem, ddX_mem]
  exact q a
theorem sortT_pairwise (e : α → D) (l : List α) : (sortT e l).Pairwise fun a b => leT e a b = true := PySem.W.sort_pairwise (PySem.W.sortLe_total _ false _) l
end
end Lf

set_option linter.all false
set_option maxRecDepth 100000
namespace Lf
open PySem hiding Env
open PySem.Spec hiding Tm
open PyProof.Rows L2 Dl
def upC (c : Char) : Char := if 97 ≤ c.toNat ∧ c.toNat ≤ 122 then Char.ofNat (c.toNat - 32) else c
def upX (s : Tx) : Tx := s.map upC
def upP (s : Tx) : Prop := (∀ c ∈ s, c.toNat < 128) ∧ s.length ≤ 5592405
theorem upC_nat (c : Char) : (upC c).toNat = up1 c.toNat := by
  unfold upC up1
  split
  · rename_i h
    have hv : (c.toNat - 32).isValidChar := .inl (by omega)
    unfold Char.ofNat
    rw [dif_pos hv]
    rfl
  · rfl
theorem op_upS (s : Tx) (h : upP s) : upperD [zS s] = some (zS (upX s)) := by
  have h1 : (nats s).all (fun x => decide (x < 128)) = true := by
    rw [List.all_eq_true]
    intro x hx
    obtain ⟨c, hc, rfl⟩ := List.mem_map.mp hx
    exact decide_eq_true (h.1 c hc)
  have h2 : (nats s).map up1 = nats (upX s) := by
    unfold nats upX
    rw [List.map_map, List.map_map]
    exact List.map_congr_left fun c _ => (upC_nat c).symm
  show (if (nats s).all (· < 128) = true ∧ (nats s).length ≤ 5592405 then some (D.str ((nats s).map up1)) else none) = _
  rw [if_pos ⟨h1, by rw [nats_len]; exact h.2⟩, h2]
  rfl
theorem op_augA (a b : Int) : augA (zI a) (zI b) = some (zI (a + b)) := rfl
theorem op_augS (a b : Int) : augS (zI a) (zI b) = some (zI (a - b)) := rfl
section
variable {α : Type} {n : Nat} {e : α → D} {ρ ρ1 : Env} {f : Cm Tm}
def zLQ (e : α → D) (p : Bool × List α) : D := if p.1 = true then zQ e p.2 else zL false e p.2
theorem zLQ_f (e : α → D) (l : List α) : zLQ e (false, l) = zL false e l := rfl
theorem zLQ_t (e : α → D) (l : List α) : zLQ e (true, l) = zQ e l := rfl
theorem nLQ (h : Nice n e) : Nice (n + 1) (zLQ e) := by
  refine ⟨fun p => ?_, fun p => ?_, fun p => ?_, fun p q => ?_⟩
  · obtain ⟨b, l⟩ := p
    cases b
    · exact (nL h).cold l
    · exact (nQ h).cold l
  · obtain ⟨b, l⟩ := p
    cases b
    · exact (nL h).pl l
    · exact (nQ h).pl l
  · obtain ⟨b, l⟩ := p
    cases b
    · exact (nL h).dep l
    · exact (nQ h).dep l
  · obtain ⟨b, l⟩ := p
    obtain ⟨c, m⟩ := q
    cases b <;> cases c
    · exact ((nL h).eq l m).trans ⟨fun z => by rw [z], fun z => (Prod.mk.inj z).2⟩
    · refine ⟨fun z => ?_, fun z => nomatch (Prod.mk.inj z).1⟩
      have : eqD (zL false e l) (zQ e m) = true := z
      simp [eqD, zL, zQ, D.P, PyData.eqv] at this
    · refine ⟨fun z => ?_, fun z => nomatch (Prod.mk.inj z).1⟩
      have : eqD (zQ e l) (zL false e m) = true := z
      simp [eqD, zL, zQ, D.P, PyData.eqv] at this
    · exact ((nQ h).eq l m).trans ⟨fun z => by rw [z], fun z => (Prod.mk.inj z).2⟩
theorem none_LQ (p : Bool × List α) : eqD (zLQ e p) .non = false ∧ eqD .non (zLQ e p) = false := by
  obtain ⟨b, l⟩ := p
  cases b <;> simp [zLQ, zL, zQ, eqD, D.P, PyData.eqv]
theorem src_LQ {p : Bool × List α} (h1 : Ev ρ f (.v (zLQ e p)) ρ1) (h : ∀ a, (e a).cold) : srcA f ρ = .ok ⟨[zLQ e p], p.2.map e, none⟩ ρ1 := by
  obtain ⟨b, l⟩ := p
  cases b
  · exact src_L (o := false) h1 h
  · exact src_Q h1 h
theorem op_listLQ (h : ∀ a, (e a).cold) (p : Bool × List α) : listDD [zLQ e p] = some (zL true e p.2) := by
  obtain ⟨b, l⟩ := p
  cases b
  · exact op_listL h l
  · exact op_listQ h l
theorem op_tupLQ (h : ∀ a, (e a).cold) (p : Bool × List α) : tupleD [zLQ e p] = some (zQ e p.2) := by
  obtain ⟨b, l⟩ := p
  cases b
  · exact op_tupL h l
  · exact op_tupQ h l
theorem op_lenLQ (p : Bool × List α) : lenD [zLQ e p] = some (zI (p.2.length : Int)) := by
  obtain ⟨b, l⟩ := p
  cases b
  · exact op_lenL l
  · exact op_lenQ l
theorem ev_compO {own : List Nat} {src : Cm Src} {gt : D → Tg} {fb : Cm Bool} {xs : List α} {d r : D} {i : Nat} {ρ2 : Env} (hs : src ρ = .ok ⟨[d], xs.map e, some i⟩ ρ1) (h : Ev ρ (eComp own (fun _ => .ok ⟨[d], xs.map e, none⟩ ρ1) gt fb f) (.v r) ρ2)
    (hh : hole ρ2 i = true) (hn : own.elem i = false) : Ev ρ (eComp own src gt fb f) (.v r) (ρ2.set i (some d)) := by
  unfold Ev eComp at *
  rw [hs]
  rw [Out.bind_ok] at h ⊢
  cases hc : compL own gt fb f (xs.map e) [] (wipeD ρ1 own) with
  | ok acc ρ3 =>
    simp only [hc, Out.bind_ok] at h ⊢
    unfold compEnd at h ⊢
    simp only at h ⊢
    cases h
    have hn' : i ∉ own := fun z => by
      have : own.elem i = true := List.elem_eq_true_of_mem z
      rw [hn] at this
      cases this
    rw [if_pos ⟨hh, hn'⟩]
  | exc x ρ3 => simp only [hc] at h; cases h
  | bad => simp only [hc] at h; cases h
end
end Lf

set_option linter.all false
set_option maxRecDepth 100000
namespace Lf
open PySem hiding Env
open PySem.Spec hiding Tm
open PyProof.Rows L2 Dl
section
variable {α β : Type} {ρ ρ1 ρ2 : Env} {f g : Cm Tm} {fs : Cm (List Tm)} {i : Nat} {b : Option Nat} {ts : List D}
def enX (l : List α) : List (Int × α) := l.zipIdx.map fun p => ((p.2 : Nat), p.1)
theorem enumD_map {e : α → D} {l : List α} : enumD (l.map e) = (enX l).map (zT2 zI e) := by
  unfold enumD enX
  rw [List.zipIdx_map, List.map_map, List.map_map]
  rfl
theorem src_E {e : α → D} {l : List α} (h : srcA f ρ = .ok ⟨ts, l.map e, b⟩ ρ1) : srcE f ρ = .ok ⟨ts, (enX l).map (zT2 zI e), b⟩ ρ1 := by
  unfold srcE
  rw [h, Out.bind_ok, ← enumD_map]
theorem src_EO {e : α → D} {l : List α} (h : srcOut i ρ = .ok ⟨ts, l.map e, b⟩ ρ1) : srcEOut i ρ = .ok ⟨ts, (enX l).map (zT2 zI e), b⟩ ρ1 := by
  unfold srcEOut
  rw [h, Out.bind_ok, ← enumD_map]
def ZsOk (d : D) (ds : List D) : Prop := d.fz = true ∧ zs d.frz = some ds
theorem zs_L {e : α → D} {l : List α} {o : Bool} (h : ∀ a, (e a).cold) : ZsOk (zL o e l) (l.map e) := by
  have c := cold_list (colds_map h l)
  constructor
  · simp [zL, D.fz, c]
  · simp [zL, D.frz, zs, c]
theorem zs_Q {e : α → D} {l : List α} (h : ∀ a, (e a).cold) : ZsOk (zQ e l) (l.map e) := by
  have c := cold_list (colds_map h l)
  constructor
  · simp [zQ, D.fz, c]
  · simp [zQ, D.frz, zs, c]
theorem zs_S {s : Tx} : ZsOk (zS s) (s.map zC) := by
  constructor
  · simp [zS, D.fz]
  · simp [zS, D.frz, zs, nats, zC, Function.comp_def]
theorem zipD_map {e : α → D} {f : β → D} {l : List α} {m : List β} : zipD (l.map e) (m.map f) = (l.zip m).map (zT2 e f) := by
  unfold zipD
  rw [List.zipWith_map, List.zip, List.map_zipWith]
  rfl
theorem src_Z {e : α → D} {f : β → D} {l : List α} {m : List β} {d1 d2 : D} (h : EvA ρ fs [.v d1, .v d2] ρ1) (h1 : ZsOk d1 (l.map e)) (h2 : ZsOk d2 (m.map f)) :
    srcZ fs ρ = .ok ⟨[d1.frz, d2.frz], (l.zip m).map (zT2 e f), none⟩ ρ1 := by
  unfold srcZ
  rw [h, Out.bind_ok]
  simp only [h1.1, h2.1, h1.2, h2.2, Bool.and_self, if_true, zipD_map]
theorem op_listScr (l : List Int) : listRD [zScr l] = some (zL true zI l) := rfl
end
end Lf

set_option linter.all false
set_option maxRecDepth 100000
namespace Lf
open PySem hiding Env
open PySem.Spec hiding Tm
open PyProof.Rows L2 Dl
section
variable {α β γ δ : Type} {e : α → D} {f : β → D} {g : γ → D} {h : δ → D} {pe : α → Py} {pf : β → Py} {pg : γ → Py} {ph : δ → Py}
theorem py_I (i : Int) : zI i = zP (.int i) := rfl
theorem py_S (s : Tx) : zS s = zP (.str s) := rfl
theorem py_C (c : Char) : zC c = zP (.str [c]) := rfl
theorem py_Q (he : ∀ a, e a = zP (pe a)) (l : List α) : zQ e l = zP (.tup (l.map pe)) := by
  show D.tup _ = D.tup _
  rw [zPs_map, List.map_map]
  congr 1
  exact List.map_congr_left fun a _ => he a
theorem py_L (he : ∀ a, e a = zP (pe a)) (l : List α) : zL false e l = zP (.lst (l.map pe)) := by
  show D.lst false _ = D.lst false _
  rw [zPs_map, List.map_map]
  congr 1
  exact List.map_congr_left fun a _ => he a
theorem py_T1 (he : ∀ a, e a = zP (pe a)) (p : α) : zT1 e p = zP (.tup [pe p]) := by
  show D.tup [_] = D.tup [_]
  rw [he]
theorem py_T2 (he : ∀ a, e a = zP (pe a)) (hf : ∀ a, f a = zP (pf a)) (p : α × β) : zT2 e f p = zP (.tup [pe p.1, pf p.2]) := by
  show D.tup [_, _] = D.tup [_, _]
  rw [he, hf]
theorem py_T3 (he : ∀ a, e a = zP (pe a)) (hf : ∀ a, f a = zP (pf a)) (hg : ∀ a, g a = zP (pg a)) (p : α × β × γ) : zT3 e f g p = zP (.tup [pe p.1, pf p.2.1, pg p.2.2]) := by
  show D.tup [_, _, _] = D.tup [_, _, _]
  rw [he, hf, hg]
theorem py_T4 (he : ∀ a, e a = zP (pe a)) (hf : ∀ a, f a = zP (pf a)) (hg : ∀ a, g a = zP (pg a)) (hh : ∀ a, h a = zP (ph a)) (p : α × β × γ × δ) : zT4 e f g h p = zP (.tup [pe p.1, pf p.2.1, pg p.2.2.1, ph p.2.2.2]) := by
  show D.tup [_, _, _, _] = D.tup [_, _, _, _]
  rw [he, hf, hg, hh]
end
def Py.ty : Py → String
  | .non => "NoneType"
  | .int _ => "int"
  | .str _ => "str"
  | .tup _ => "tuple"
  | .lst _ => "list"
theorem tyName_P (a : Py) : tyName (zP a) = some a.ty := by cases a <;> rfl
theorem kitB_all : ∀ t ∈ ["NoneType", "int", "str", "tuple", "list"], ∀ u ∈ ["int", "str", "tuple", "list", "bool"], kitB t u = some (t == u) := by decide +kernel
theorem op_isiP {T : String} (a : Py) (hT : T ∈ ["int", "str", "tuple", "list", "bool"]) : isiD [zP a, .hol (.ty T)] = some (zB (a.ty == T)) := by
  show (tyName (zP a)).bind _ = _
  rw [tyName_P, Option.bind_some, kitB_all a.ty (by cases a <;> simp [Py.ty]) T hT]
  rfl
theorem op_slP (a : Py) (l : List Py) (lo hi : Option Int) (h : a.asTup = some l) : slD (zP a) lo hi = some (zP (.tup (cutL l lo hi))) := by
  rw [asTup_eq h]
  have := op_slQ zP_cold l lo hi
  rw [this]
  show some (D.tup _) = some (D.tup _)
  rw [zPs_map]
theorem op_slT {ds : List D} (h : D.own (.tup ds) = false) (lo hi : Option Int) : slD (.tup ds) lo hi = some (.tup (cutL ds lo hi)) := by
  have h' : D.owns ds = false := h
  show (if D.owns ds then none else some (D.tup (cutL ds lo hi))) = _
  rw [h']
  rfl
example (p : Int × Tx × Int) : slD (zT3 zI zS zI p) (some 1) none = some (zT2 zS zI (p.2.1, p.2.2)) := op_slT (nT3 nI nS nI |>.own _) _ _
theorem op_catT {ds es : List D} (h : D.own (.tup ds) = false) (h' : D.own (.tup es) = false) (hz : ds.length + es.length ≤ 16777216) : addD (.tup ds) (.tup es) = some (.tup (ds ++ es)) := by
  show (none : Option D).or ((none : Option D).or ((none : Option D).or (if D.owns ds = false ∧ D.owns es = false ∧ ds.length + es.length ≤ sizeLine then some (D.tup (ds ++ es)) else none))) = _
  rw [if_pos ⟨h, h', lineN hz⟩]
  rfl
example (p : Int × Tx) (q : Int × Tx) : addD (zT2 zI zS p) (zT2 zI zS q) = some (zT4 zI zS zI zS (p.1, p.2, q.1, q.2)) := op_catT ((nT2 nI nS).own _) ((nT2 nI nS).own _) (Nat.le_of_ble_eq_true rfl)
theorem inT_nice {α : Type} {n : Nat} {e : α → D} [DecidableEq α] (h : Nice n e) (a : α) (l : List α) (hn : n.ble 63 = true) (k : Bool) : inTD k (e a) (zQ e l) = some (.bl (decide (a ∈ l) ^^ k)) := by
  have hn := Nat.le_of_ble_eq_true hn
  have h1 : deepOk (e a) (.tup (l.map e)) := ⟨h.pl a, (nQ h).pl l, by have := h.dep a; omega, by have := (nQ h).dep l; unfold zQ at this; omega⟩
  show (if deepOk (e a) (.tup (l.map e)) then some (D.bl (((l.map e).any fun z => eqD z (e a)) ^^ k)) else none) = _
  rw [if_pos h1, any_eqD h a l]
theorem op_inT {α : Type} {n : Nat} {e : α → D} [DecidableEq α] (h : Nice n e) (a : α) (l : List α) (hn : n.ble 63 = true) : inTD false (e a) (zQ e l) = some (zB (decide (a ∈ l))) := by rw [inT_nice h a l hn]; simp [zB]
theorem op_ninT {α : Type} {n : Nat} {e : α → D} [DecidableEq α] (h : Nice n e) (a : α) (l : List α) (hn : n.ble 63 = true) : inTD true (e a) (zQ e l) = some (zB (!decide (a ∈ l))) := by rw [inT_nice h a l hn]; simp [zB]
theorem inT_P (a : Py) (l : List Py) (h : a.dep ≤ 64 ∧ (Py.tup l).dep ≤ 64) (k : Bool) : inTD k (zP a) (zQ zP l) = some (.bl (decide (a ∈ l) ^^ k)) := by
  have e1 : zQ zP l = zP (.tup l) := by show D.tup _ = D.tup _; rw [zPs_map]
  have h1 : deepOk (zP a) (.tup (l.map zP)) := ⟨zP_pl a, by show D.pl (zQ zP l) = true; rw [e1]; exact zP_pl _, by rw [zP_dep]; exact h.1, by show D.dep (zQ zP l) ≤ 64; rw [e1, zP_dep]; exact h.2⟩
  show (if deepOk (zP a) (.tup (l.map zP)) then some (D.bl (((l.map zP).any fun z => eqD z (zP a)) ^^ k)) else none) = _
  rw [if_pos h1]
  have : ((l.map zP).any fun z => eqD z (zP a)) = decide (a ∈ l) := by
    rw [List.any_map, Bool.eq_iff_iff, List.any_eq_true]
    constructor
    · rintro ⟨x, hx, q⟩
      simp only [Function.comp, zP_eq] at q
      have := (Py.beq_iff x a).mp q
      subst this
      simpa using hx
    · intro q
      refine ⟨a, by simpa using q, ?_⟩
      simp only [Function.comp, zP_eq]
      exact (Py.beq_iff a a).mpr rfl
  rw [this]
theorem op_inTP (a : Py) (l : List Py) (h : a.dep ≤ 64 ∧ (Py.tup l).dep ≤ 64) : inTD false (zP a) (zQ zP l) = some (zB (decide (a ∈ l))) := by rw [inT_P a l h]; simp [zB]
theorem op_ninTP (a : Py) (l : List Py) (h : a.dep ≤ 64 ∧ (Py.tup l).dep ≤ 64) : inTD true (zP a) (zQ zP l) = some (zB (!decide (a ∈ l))) := by rw [inT_P a l h]; simp [zB]
end Lf

set_option linter.all false
set_option maxRecDepth 100000
namespace Lf
open PySem hiding Env
open PySem.Spec hiding Tm
open PyProof.Rows L2 Dl
def delX (c : Char) (s : Tx) : Tx := s.filter fun x => decide (x ≠ c)
theorem char_nat {a b : Char} (h : a.toNat = b.toNat) : a = b := Char.ext (UInt32.toNat_inj.mp h)
theorem replL_del (c : Char) : ∀ s : Tx, PySem.StrLaws.replL [c.toNat] [] (nats s) = nats (delX c s)
  | [] => PySem.StrLaws.replL_nil
  | x :: s => by
    show PySem.StrLaws.replL [c.toNat] [] (x.toNat :: nats s) = _
    by_cases h : x = c
    · subst h
      rw [PySem.StrLaws.replL_hit (by simp) (by simp)]
      have : delX x (x :: s) = delX x s := by simp [delX]
      rw [this, ← replL_del x s]
      rfl
    · rw [PySem.StrLaws.replL_miss (by
        intro q
        have q2 : x.toNat = c.toNat := by simpa using q
        exact h (char_nat q2))]
      have : delX c (x :: s) = x :: delX c s := by simp [delX, h]
      rw [this, replL_del c s]
      rfl
theorem ev_del {ρ ρ1 : Env} {f : Cm Tm} {s : Tx} (c : Char) (h1 : Ev ρ f (.v (zS s)) ρ1) (hz : s.length ≤ 16777216) : Ev ρ (eRepl [c.toNat] [] f) (.v (zS (delX c s))) ρ1 := by
  unfold Ev eRepl
  rw [h1, Out.bind_ok]
  have e : zS s = .str (nats s) := rfl
  rw [e]
  simp only [List.length_nil, Nat.mul_zero, Nat.add_zero]
  rw [if_pos (by unfold nats; rw [List.length_map]; exact hz), replL_del]
  rfl
theorem fz_O {α : Type} {e e' : α → D} (h : ∀ a, (e a).fz = true ∧ (e a).frz = e' a) : ∀ o : Option α, (zO e o).fz = true ∧ (zO e o).frz = zO e' o
  | none => ⟨rfl, rfl⟩
  | some a => h a
theorem src_RX {f : Cm Tm} {ρ ρ1 : Env} {s : Src} (h : srcR f ρ = .ok s ρ1) : srcRX f ρ = .ok s ρ1 := by
  unfold srcR at h
  unfold srcRX
  cases hf : f ρ with
  | bad => rw [hf] at h; cases h
  | exc e ρ2 => rw [hf] at h; cases h
  | ok t ρ2 =>
    rw [hf, Out.bind_ok] at h
    rw [Out.bind_ok]
    cases t with
    | s i => cases h
    | v d =>
      simp only at h ⊢
      cases hs : srcVr d with
      | none => rw [hs] at h; cases h
      | some s' =>
        rw [hs] at h
        exact h
theorem src_Sr {f : Cm Tm} {ρ ρ1 : Env} {s : Tx} (h1 : Ev ρ f (.v (zS s)) ρ1) (hz : s.length ≤ 16777216) : srcRX f ρ = .ok ⟨[zS s], s.reverse.map zC, none⟩ ρ1 := by
  unfold srcRX
  rw [h1, Out.bind_ok]
  have e : srcVr (zS s) = none := by simp [zS, srcVr, srcV]
  simp only [e]
  show (if (nats s).length ≤ sizeLine then _ else _) = _
  rw [if_pos (by unfold nats; rw [List.length_map, sizeLine_eq]; exact hz)]
  congr 2
  unfold nats
  rw [List.map_map, ← List.map_reverse]
  rfl
theorem tg_tup2 {g1 g2 : D → Tg} {a b : D} {ρ ρ1 ρ2 : Env} (h1 : g1 a ρ = some ρ1) (h2 : g2 b ρ1 = some ρ2) : gTupD 2 (gsCons g1 (gsCons g2 gsNil)) (.tup [a, b]) ρ = some ρ2 := by
  show (g1 a ρ).bind (fun ρ1 => (g2 b ρ1).bind fun ρ2 => some ρ2) = some ρ2
  rw [h1, Option.bind_some, h2, Option.bind_some]
end Lf

set_option linter.all false
set_option maxRecDepth 100000
namespace Lf
open PySem hiding Env
open PySem.Spec hiding Tm
open PyProof.Rows L2 Dl
section
variable {α β γ δ σ : Type} {ρ ρ1 ρ2 ρ3 : Env} {i j : Nat} {a b c d d' : D} {t ta tb : Tm} {ts : List Tm} {ds : List D} {f g h : Cm Tm} {fs : Cm (List Tm)} {fb gb : Cm Bool} {k l : Bool} {cl : Nat → Addr} {e : Exn}
def EvX (ρ : Env) (m : Cm γ) (e : Exn) (ρ' : Env) : Prop := m ρ = .exc e ρ'
theorem ex_cons1 (h : EvX ρ f e ρ1) : EvX ρ (aCons f fs) e ρ1 := by unfold EvX at *; unfold aCons; rw [h]; rfl
theorem ex_cons2 (h1 : Ev ρ f t ρ1) (h : EvX ρ1 fs e ρ2) : EvX ρ (aCons f fs) e ρ2 := by unfold EvX at *; unfold aCons; rw [h1, Out.bind_ok, h]; rfl
theorem ex_tup (h : EvX ρ fs e ρ1) : EvX ρ (eTup fs) e ρ1 := by unfold EvX at *; unfold eTup; rw [h]; rfl
theorem ex_lst (h : EvX ρ fs e ρ1) : EvX ρ (eLst fs) e ρ1 := by unfold EvX at *; unfold eLst; rw [h]; rfl
theorem ex_2l {gg : D → D → Option D} (h : EvX ρ f e ρ1) : EvX ρ (e2 gg f g) e ρ1 := by unfold EvX at *; unfold e2; rw [h]; rfl
theorem ex_2r {gg : D → D → Option D} (h1 : Ev ρ f t ρ1) (h : EvX ρ1 g e ρ2) : EvX ρ (e2 gg f g) e ρ2 := by unfold EvX at *; unfold e2; rw [h1, Out.bind_ok, h]; rfl
theorem ex_Z (h : EvX ρ f e ρ1) : EvX ρ (eZ f) e ρ1 := by unfold EvX at *; unfold eZ; rw [h]; rfl
theorem ex_ca {gg : List D → Option D} (h : EvX ρ fs e ρ1) : EvX ρ (eCa gg fs) e ρ1 := by unfold EvX at *; unfold eCa; rw [h]; rfl
theorem ex_not (h : EvX ρ f e ρ1) : EvX ρ (vNot f) e ρ1 := by unfold EvX at *; unfold vNot; rw [h]; rfl
theorem ex_toB (h : EvX ρ f e ρ1) : EvX ρ (toB f) e ρ1 := by unfold EvX at *; unfold toB; rw [h]; rfl
theorem ex_bNot (h : EvX ρ fb e ρ1) : EvX ρ (bNot fb) e ρ1 := by unfold EvX at *; unfold bNot; rw [h]; rfl
theorem ex_bAnd (h : EvX ρ fb e ρ1) : EvX ρ (bAnd fb gb) e ρ1 := by unfold EvX at *; unfold bAnd; rw [h]; rfl
theorem ex_bOr (h : EvX ρ fb e ρ1) : EvX ρ (bOr fb gb) e ρ1 := by unfold EvX at *; unfold bOr; rw [h]; rfl
theorem ex_and (h : EvX ρ f e ρ1) : EvX ρ (vAnd f g) e ρ1 := by unfold EvX at *; unfold vAnd; rw [h]; rfl
theorem ex_or (h : EvX ρ f e ρ1) : EvX ρ (vOr f g) e ρ1 := by unfold EvX at *; unfold vOr; rw [h]; rfl
theorem ex_if (h : EvX ρ fb e ρ1) : EvX ρ (eIf fb f g) e ρ1 := by unfold EvX at *; unfold eIf; rw [h]; rfl
theorem ex_args {n : Nat} {F : List D → Out (List D) D} (h : EvX ρ fs e ρ1) : EvX ρ (callD n F [] fs) e ρ1 := by unfold EvX at *; unfold callD; rw [h]; rfl
theorem ex_isx {m : Nat → Option Bool} (h : EvX ρ f e ρ1) : EvX ρ (eIsX m f) e ρ1 := by unfold EvX at *; unfold eIsX; rw [h]; rfl
theorem ex_srcA (h : EvX ρ f e ρ1) : EvX ρ (srcA f) e ρ1 := by unfold EvX at *; unfold srcA; rw [h]; rfl
theorem lend_un : ∀ {ts : List Tm} {ds : List D} {ρ : Env}, lend ρ ts = some (ds, ρ) → D.owns ds = false → ∀ s : List D, s.length = ds.length → restore ρ ts ds s = some ρ
  | [], ds, ρ, h, _, s, hs => by cases ds <;> cases s <;> rfl
  | .v d :: ts, ds, ρ, h, hu, s, hs => by
    unfold lend at h
    obtain ⟨⟨ds1, ρ1⟩, h1, h2⟩ := Option.map_eq_some_iff.mp h
    cases h2
    cases s with
    | nil => simp at hs
    | cons b s =>
      simp only [D.owns, Bool.or_eq_false_iff] at hu
      exact lend_un h1 hu.2 s (by simpa using hs)
  | .s i :: ts, ds, ρ, h, hu, s, hs => by
    unfold lend at h
    cases hd : (ρ[i]?).join with
    | none => simp [hd] at h
    | some d =>
      simp only [hd] at h
      obtain ⟨⟨ds1, ρ1⟩, h1, h2⟩ := Option.map_eq_some_iff.mp h
      cases h2
      simp only [D.owns, Bool.or_eq_false_iff] at hu
      rw [hu.1, if_neg Bool.false_ne_true] at h1
      cases s with
      | nil => simp at hs
      | cons b s =>
        unfold restore
        rw [hu.1, if_neg Bool.false_ne_true]
        exact lend_un h1 hu.2 s (by simpa using hs)
theorem ex_call {n m : Nat} {F : List D → Out (List D) D} {T : R β} {er : β → D × List D} {x : Ex} (hF : RefF cl m (F ds) T er) (hx : T = .exc x) (h1 : EvA ρ fs ts ρ1) (hn : (ts.length == n) = true) (hl : lend ρ1 ts = some (ds, ρ1)) (hu : D.owns ds = false) (hm : (ds.length == m) = true) :
    EvX ρ (callD n F [] fs) ⟨x.tag, x.fs⟩ ρ1 := by
  subst hx
  unfold EvX callD
  rw [h1, Out.bind_ok]
  have hn : ts.length = n := by simpa using hn
  have hm : ds.length = m := by simpa using hm
  simp only [List.length_nil, Nat.add_zero, hn, if_true]
  unfold eCall
  rw [Out.bind_ok]
  simp only [hl, List.append_nil]
  obtain ⟨s, hs, e⟩ := hF
  rw [e]
  simp only [lend_un hl hu s (by rw [hs, hm])]
variable {Fin : δ → Env → β → Prop} {X : Env → Prop} {o : Out Env δ} {T T1 T2 : R β} {K : Fl → Env → Out Env δ} {sg sh : Cm Fl}
theorem st_set (h : EvX ρ f e ρ1) : EvX ρ (sSet i f) e ρ1 := by unfold EvX at *; unfold sSet; rw [h]; rfl
theorem st_asg {gt : D → Tg} (h : EvX ρ f e ρ1) : EvX ρ (sAsg gt f) e ρ1 := by unfold EvX at *; unfold sAsg; rw [h]; rfl
theorem st_drop (h : EvX ρ f e ρ1) : EvX ρ (sDrop f) e ρ1 := by unfold EvX at *; unfold sDrop; rw [h]; rfl
theorem st_ret (h : EvX ρ f e ρ1) : EvX ρ (sRet f) e ρ1 := by unfold EvX at *; unfold sRet; rw [h]; rfl
theorem st_if (h : EvX ρ fb e ρ1) : EvX ρ (sIf fb sg sh) e ρ1 := by unfold EvX at *; unfold sIf; rw [h]; rfl
theorem st_for {as : List Nat} {src : Cm Src} {gt : D → Tg} (h : EvX ρ src e ρ1) : EvX ρ (sFor as src gt sg) e ρ1 := by unfold EvX at *; unfold sFor; rw [h]; rfl
theorem ref_bcall {x : R α} {T : α → R β} (hx : ∀ y, x = .exc y → ∃ ρ1, EvX ρ sg ⟨y.tag, y.fs⟩ ρ1 ∧ X ρ1) (h : ∀ v, x = .ok v → Ref cl Fin X ((sg ρ).bind K) (T v)) : Ref cl Fin X ((sg ρ).bind K) (x.bind T) := by
  cases x with
  | ok v => exact h v rfl
  | exc y =>
    obtain ⟨ρ1, h1, h2⟩ := hx y rfl
    have h1 : sg ρ = .exc ⟨y.tag, y.fs⟩ ρ1 := h1
    rw [h1]
    exact ⟨ρ1, rfl, h2⟩
  | bad => trivial
theorem looks_v : ∀ ds : List D, looks ρ (tms ds) = some ds
  | [] => rfl
  | d :: ds => by
    show (match look ρ (.v d) with | some d => (looks ρ (tms ds)).map (d :: ·) | none => none) = _
    rw [looks_v ds]
    rfl
theorem ref_raise {n : Nat} {ns : List Str} {fs0 : List (Str × D)} (h : EvA ρ fs ts ρ1) (hl : looks ρ1 ts = some ds) (hs : ds.all isSc = true) (hz : (ds.length == ns.length) = true) (he : (ns.zip ds).reverse = fs0) (hx : X ρ1) :
    Ref cl Fin X ((sRaise n ns fs ρ).bind K) (.exc ⟨n, fs0⟩) := by
  have e1 : sRaise n ns fs ρ = .exc ⟨n, (ns.zip ds).reverse⟩ ρ1 := by
    unfold sRaise
    rw [h, Out.bind_ok]
    simp only [hl]
    rw [if_pos ⟨hs, by simpa using hz⟩]
  rw [e1, he]
  exact ⟨ρ1, rfl, hx⟩
def tryR (m : Nat → Option Bool) (B : R σ) (S : Ex → R σ) : R σ := match B with
  | .exc x => match m x.tag with
    | some true => S x
    | some false => .exc x
    | none => .bad
  | .ok s => .ok s
  | .bad => .bad
def zX (x : Ex) : D := .exv x.tag (fsV ⟨x.tag, x.fs⟩)
theorem zX_cold (x : Ex) : (zX x).cold := ⟨rfl, rfl, rfl⟩
theorem ref_try {m : Nat → Option Bool} {E : σ → Env} {B : R σ} {S : Ex → R σ} {T : σ → R β} {E0 : Env} (hB : Ref cl (finE E) (fun ρ' => ρ' = E0) (sg ρ) B) (hi : Nat.blt i E0.length = true)
    (hS : ∀ x, Ref cl (fun fl ρ' s => fl = Fl.nx ∧ ρ'.set i none = E s) (fun _ => False) (sh (E0.set i (some (zX x)))) (S x)) (hx : X E0) (k : ∀ s, Ref cl Fin X (K .nx (E s)) (T s)) : Ref cl Fin X ((sTry m i sg sh ρ).bind K) ((tryR m B S).bind T) := by
  have hi : i < E0.length := by simpa using hi
  cases B with
  | bad => trivial
  | ok s =>
    obtain ⟨fl, ρ', e1, rfl, rfl⟩ := hB
    have e2 : sTry m i sg sh ρ = .ok .nx (E s) := by unfold sTry; rw [e1]
    rw [e2]
    exact k s
  | exc x =>
    obtain ⟨ρ', e1, rfl⟩ := hB
    cases hm : m x.tag with
    | none =>
      have : tryR m (.exc x) S = .bad := by unfold tryR; simp only [hm]
      rw [this]; trivial
    | some b =>
      cases b with
      | false =>
        have e2 : sTry m i sg sh ρ = .exc ⟨x.tag, x.fs⟩ ρ' := by unfold sTry; rw [e1]; simp only [hm]
        have : tryR m (.exc x) S = .exc x := by unfold tryR; simp only [hm]
        rw [this, e2]
        exact ⟨ρ', rfl, hx⟩
      | true =>
        have : tryR m (.exc x) S = S x := by unfold tryR; simp only [hm]
        rw [this]
        have h1 := hS x
        cases hs : S x with
        | bad => trivial
        | exc y =>
          rw [hs] at h1
          obtain ⟨_, _, z⟩ := h1
          exact z.elim
        | ok s =>
          rw [hs] at h1
          obtain ⟨fl, ρ2, e3, rfl, e4⟩ := h1
          have e2 : sTry m i sg sh ρ = .ok .nx (E s) := by
            unfold sTry
            rw [e1]
            simp only [hm]
            rw [if_pos hi]
            have e3' : sh (ρ'.set i (some (.exv x.tag (fsV ⟨x.tag, x.fs⟩)))) = .ok .nx ρ2 := e3
            rw [e3']
            simp only [e4]
          rw [e2]
          exact k s
theorem ref_tryN {m : Nat → Option Bool} {E : σ → Env} {B : R σ} {S : Ex → R σ} {T : σ → R β} {E0 : Env} (hB : Ref cl (finE E) (fun ρ' => ρ' = E0) (sg ρ) B)
    (hS : ∀ x, Ref cl (finE E) (fun _ => False) (sh E0) (S x)) (hx : X E0) (k : ∀ s, Ref cl Fin X (K .nx (E s)) (T s)) : Ref cl Fin X ((sTryN m sg sh ρ).bind K) ((tryR m B S).bind T) := by
  cases B with
  | bad => trivial
  | ok s =>
    obtain ⟨fl, ρ', e1, rfl, rfl⟩ := hB
    have e2 : sTryN m sg sh ρ = .ok .nx (E s) := by unfold sTryN; rw [e1]
    rw [e2]
    exact k s
  | exc x =>
    obtain ⟨ρ', e1, rfl⟩ := hB
    cases hm : m x.tag with
    | none =>
      have : tryR m (.exc x) S = .bad := by unfold tryR; simp only [hm]
      rw [this]; trivial
    | some b =>
      cases b with
      | false =>
        have e2 : sTryN m sg sh ρ = .exc ⟨x.tag, x.fs⟩ ρ' := by unfold sTryN; rw [e1]; simp only [hm]
        have : tryR m (.exc x) S = .exc x := by unfold tryR; simp only [hm]
        rw [this, e2]
        exact ⟨ρ', rfl, hx⟩
      | true =>
        have : tryR m (.exc x) S = S x := by unfold tryR; simp only [hm]
        rw [this]
        have h1 := hS x
        cases hs : S x with
        | bad => trivial
        | exc y =>
          rw [hs] at h1
          obtain ⟨_, _, z⟩ := h1
          exact z.elim
        | ok s =>
          rw [hs] at h1
          obtain ⟨fl, ρ2, e3, rfl, rfl⟩ := h1
          have e2 : sTryN m sg sh ρ = .ok .nx (E s) := by
            unfold sTryN
            rw [e1]
            simp only [hm]
            rw [e3]
          rw [e2]
          exact k s
end
end Lf

set_option linter.all false
set_option maxRecDepth 100000
namespace Lf
open PySem hiding Env
open PySem.Spec hiding Tm
open PyProof.Rows L2 Dl
section
variable {α β γ δ σ : Type} {ρ ρ1 ρ2 ρ3 : Env} {i j : Nat} {a b c d d' : D} {t ta tb : Tm} {ts : List Tm} {ds : List D} {f g h : Cm Tm} {fs : Cm (List Tm)} {k l : Bool} {cl : Nat → Addr}
variable {Fin : δ → Env → β → Prop} {X : Env → Prop} {K : Fl → Env → Out Env δ} {sg sh : Cm Fl}
theorem ref_tryV {m : Nat → Option Bool} {E : σ → Env} {B : R (Fw σ β)} {S : Ex → R (Fw σ β)} {T : σ → R β} {E0 : Env} (hB : Ref cl (finV cl Fin X K E) (fun ρ' => ρ' = E0) (sg ρ) B) (hi : Nat.blt i E0.length = true)
    (hS : ∀ x, Ref cl (fun fl ρ' w => finV cl Fin X K E fl (ρ'.set i none) w) (fun _ => False) (sh (E0.set i (some (zX x)))) (S x)) (hx : X E0) (k : ∀ s, Ref cl Fin X (K .nx (E s)) (T s)) : Ref cl Fin X ((sTry m i sg sh ρ).bind K) (fwd (tryR m B S) T) := by
  refine ref_fwv (E := E) ?_ k
  have hi : i < E0.length := by simpa using hi
  cases B with
  | bad => trivial
  | ok w =>
    obtain ⟨fl, ρ', e1, e2⟩ := hB
    have e3 : sTry m i sg sh ρ = .ok fl ρ' := by unfold sTry; rw [e1]
    exact ⟨fl, ρ', e3, e2⟩
  | exc x =>
    obtain ⟨ρ', e1, rfl⟩ := hB
    cases hm : m x.tag with
    | none =>
      have : tryR m (.exc x) S = .bad := by unfold tryR; simp only [hm]
      rw [this]; trivial
    | some b =>
      cases b with
      | false =>
        have e2 : sTry m i sg sh ρ = .exc ⟨x.tag, x.fs⟩ ρ' := by unfold sTry; rw [e1]; simp only [hm]
        have : tryR m (.exc x) S = .exc x := by unfold tryR; simp only [hm]
        rw [this]
        exact ⟨ρ', e2, hx⟩
      | true =>
        have : tryR m (.exc x) S = S x := by unfold tryR; simp only [hm]
        rw [this]
        have h1 := hS x
        cases hs : S x with
        | bad => trivial
        | exc y =>
          rw [hs] at h1
          obtain ⟨_, _, z⟩ := h1
          exact z.elim
        | ok w =>
          rw [hs] at h1
          obtain ⟨fl, ρ2, e3, e4⟩ := h1
          refine ⟨fl, ρ2.set i none, ?_, e4⟩
          unfold sTry
          rw [e1]
          simp only [hm]
          rw [if_pos hi]
          have e3' : sh (ρ'.set i (some (.exv x.tag (fsV ⟨x.tag, x.fs⟩)))) = .ok fl ρ2 := e3
          rw [e3']
theorem ref_tryW {m : Nat → Option Bool} {E : σ → Env} {B : R (Fw σ β)} {S : Ex → R (Fw σ β)} {T : σ → R β} {E0 : Env} (hB : Ref cl (finV cl Fin X K E) (fun ρ' => ρ' = E0) (sg ρ) B)
    (hS : ∀ x, Ref cl (finV cl Fin X K E) (fun _ => False) (sh E0) (S x)) (hx : X E0) (k : ∀ s, Ref cl Fin X (K .nx (E s)) (T s)) : Ref cl Fin X ((sTryN m sg sh ρ).bind K) (fwd (tryR m B S) T) := by
  refine ref_fwv (E := E) ?_ k
  cases B with
  | bad => trivial
  | ok w =>
    obtain ⟨fl, ρ', e1, e2⟩ := hB
    have e3 : sTryN m sg sh ρ = .ok fl ρ' := by unfold sTryN; rw [e1]
    exact ⟨fl, ρ', e3, e2⟩
  | exc x =>
    obtain ⟨ρ', e1, rfl⟩ := hB
    cases hm : m x.tag with
    | none =>
      have : tryR m (.exc x) S = .bad := by unfold tryR; simp only [hm]
      rw [this]; trivial
    | some b =>
      cases b with
      | false =>
        have e2 : sTryN m sg sh ρ = .exc ⟨x.tag, x.fs⟩ ρ' := by unfold sTryN; rw [e1]; simp only [hm]
        have : tryR m (.exc x) S = .exc x := by unfold tryR; simp only [hm]
        rw [this]
        exact ⟨ρ', e2, hx⟩
      | true =>
        have : tryR m (.exc x) S = S x := by unfold tryR; simp only [hm]
        rw [this]
        have h1 := hS x
        cases hs : S x with
        | bad => trivial
        | exc y =>
          rw [hs] at h1
          obtain ⟨_, _, z⟩ := h1
          exact z.elim
        | ok w =>
          rw [hs] at h1
          obtain ⟨fl, ρ2, e3, e4⟩ := h1
          refine ⟨fl, ρ2, ?_, e4⟩
          unfold sTryN
          rw [e1]
          simp only [hm]
          rw [e3]
def exI (x : Ex) (n : PySem.Str) : Option Int := match (fsV ⟨x.tag, x.fs⟩).lookup n with
  | some (.int i) => some i
  | _ => none
def exS (x : Ex) (n : PySem.Str) : Option (List Nat) := match (fsV ⟨x.tag, x.fs⟩).lookup n with
  | some (.str s) => some s.cps.toList
  | _ => none
theorem ev_xfI {cs : List Nat} {n : PySem.Str} {x : Ex} {v : Int} (h1 : Ev ρ f t ρ1) (l1 : look ρ1 t = some (zX x)) (hc : x.tag ∈ cs) (hv : exI x n = some v) : Ev ρ (eXf cs n f) (.v (zI v)) ρ1 := by
  unfold Ev eXf
  rw [h1, Out.bind_ok, l1]
  simp only [zX]
  rw [if_pos hc]
  unfold exI at hv
  split at hv
  · rename_i i hl
    cases hv
    rw [hl]
    rfl
  · cases hv
theorem ev_xfS {cs : List Nat} {n : PySem.Str} {x : Ex} {v : List Nat} (h1 : Ev ρ f t ρ1) (l1 : look ρ1 t = some (zX x)) (hc : x.tag ∈ cs) (hv : exS x n = some v) : Ev ρ (eXf cs n f) (.v (.str v)) ρ1 := by
  unfold Ev eXf
  rw [h1, Out.bind_ok, l1]
  simp only [zX]
  rw [if_pos hc]
  unfold exS at hv
  split at hv
  · rename_i i hl
    cases hv
    rw [hl]
    rfl
  · cases hv
theorem ev_isx {m : Nat → Option Bool} {x : Ex} {v : Bool} (h1 : Ev ρ f t ρ1) (l1 : look ρ1 t = some (zX x)) (hv : m x.tag = some v) : Ev ρ (eIsX m f) (.v (zB v)) ρ1 := by
  unfold Ev eIsX
  rw [h1, Out.bind_ok, l1]
  simp only [zX, hv]
  rfl
theorem op_isOX (x : Option Ex) : isN false (zO zX x) .non = some (zB x.isNone) := by cases x <;> rfl
theorem op_notOX (x : Option Ex) : isN true (zO zX x) .non = some (zB x.isSome) := by cases x <;> rfl
theorem own_OX (x : Option Ex) : (zO zX x).own = false := by cases x <;> rfl
end
end Lf
namespace Lf
open PySem hiding Env
open PySem.Spec hiding Tm
open PyProof.Rows L2 Dl
theorem own_0 : D.owns [] = false := rfl
theorem own_1 {d : D} {l : List D} (h : d.own = false) (k : D.owns l = false) : D.owns (d :: l) = false := by simp [D.owns, h, k]
end Lf

set_option linter.all false
set_option maxRecDepth 100000
namespace Lf
open PySem hiding Env
open PySem.Spec hiding Tm
open PyProof.Rows L2 Dl
theorem op_isi0 {d : D} {t T : String} {b : Bool} (h : tyName d = some t) (hk : kitB t T = some b) : isiD [d, .hol (.ty T)] = some (zB b) := by
  show (tyName d).bind _ = _
  rw [h, Option.bind_some, hk]
  rfl
def startsX (a b : Tx) : Bool := b.isPrefixOf a
theorem nats_take (a : Tx) (n : Nat) : (nats a).take n = nats (a.take n) := by simp [nats, List.map_take]
theorem op_starts (a b : Tx) (h : b ≠ []) : startsD [zS a, zS b] = some (zB (startsX a b)) := by
  show some (D.bl (PySem.Txt.startswith ⟨(nats a).toArray⟩ ⟨(nats b).toArray⟩)) = _
  have hl : 1 ≤ (nats b).length := by unfold nats; rw [List.length_map]; exact List.length_pos_iff.mpr h
  have key : PySem.Txt.startswith ⟨(nats a).toArray⟩ ⟨(nats b).toArray⟩ = startsX a b := by
    rw [Bool.eq_iff_iff]
    unfold startsX
    rw [List.isPrefixOf_iff_prefix, List.prefix_iff_eq_take]
    constructor
    · intro q
      unfold PySem.Txt.startswith at q
      simp only [Bool.and_eq_true, decide_eq_true_eq] at q
      have := PySem.StrLaws.at_take (x := ⟨(nats a).toArray⟩) (y := ⟨(nats b).toArray⟩) (k := 0) q
      simp only [List.toList_toArray, List.drop_zero] at this
      rw [nats_take] at this
      have e := nats_inj.mp this
      unfold nats at e
      rw [List.length_map] at e
      exact e.symm
    · intro q
      have e : ((nats a).drop 0).take (nats b).length = nats b := by
        rw [List.drop_zero, nats_take]
        unfold nats
        rw [List.length_map, ← q]
      have := PySem.StrLaws.take_at (x := ⟨(nats a).toArray⟩) (y := ⟨(nats b).toArray⟩) (k := 0) (by rw [str_len]; exact hl) (by simpa using e)
      unfold PySem.StrLaws.At at this
      unfold PySem.Txt.startswith
      simp only [Bool.and_eq_true, decide_eq_true_eq]
      exact this
  rw [key]
  rfl
theorem lk_as {ρ : Env} {t : Tm} {d d' : D} (h : look ρ t = some d) (e : d = d') : look ρ t = some d' := e ▸ h
end Lf
namespace Lf
open PySem hiding Env
open PySem.Spec hiding Tm
open PyProof.Rows L2 Dl
theorem looks2 {ρ : Env} {t u : Tm} {a b : D} (h : look ρ t = some a) (k : look ρ u = some b) : looks ρ [t, u] = some [a, b] := by
  show (match look ρ t with | some d => (looks ρ [u]).map (d :: ·) | none => none) = _
  rw [h]
  show ((match look ρ u with | some d => (looks ρ []).map (d :: ·) | none => none)).map (a :: ·) = _
  rw [k]
  rfl
theorem ev_meL {ρ ρ1 ρ2 : Env} {g : Cm Tm} {fs : Cm (List Tm)} {t : Tm} {ts : List Tm} {a c : D} {ds : List D} {T : String} {gg : List D → Option D} (h1 : Ev ρ g t ρ1) (l1 : look ρ1 t = some a) (ty : tyD T a = true) (h2 : EvA ρ1 fs ts ρ2) (l2 : looks ρ2 (t :: ts) = some ds) (h : gg ds = some c) : Ev ρ (eMe T gg g fs) (.v c) ρ2 := ev_me h1 l1 ty h2 l2 h
end Lf
namespace Lf
open PySem hiding Env
open PySem.Spec hiding Tm
open PyProof.Rows L2 Dl
section
variable {α β γ δ ε α' β' γ' δ' ε' : Type} {e : α → D} {f : β → D} {g : γ → D} {h : δ → D} {i : ε → D} {e' : α' → D} {f' : β' → D} {g' : γ' → D} {h' : δ' → D} {i' : ε' → D} {p : α → α'} {q : β → β'} {r : γ → γ'} {s : δ → δ'} {t : ε → ε'}
theorem mO (k : ∀ a, e a = e' (p a)) (x : Option α) : zO e x = zO e' (x.map p) := by
  cases x with
  | none => rfl
  | some a => exact k a
theorem mQ (k : ∀ a, e a = e' (p a)) (x : List α) : zQ e x = zQ e' (x.map p) := by
  show D.tup _ = D.tup _
  rw [List.map_map]
  congr 1
  exact List.map_congr_left fun a _ => k a
theorem mL {o : Bool} (k : ∀ a, e a = e' (p a)) (x : List α) : zL o e x = zL o e' (x.map p) := by
  show D.lst o _ = D.lst o _
  rw [List.map_map]
  congr 1
  exact List.map_congr_left fun a _ => k a
theorem mT1 (k : ∀ a, e a = e' (p a)) (x : α) : zT1 e x = zT1 e' (p x) := by show D.tup [_] = D.tup [_]; rw [k]
theorem mT2 (k : ∀ a, e a = e' (p a)) (l : ∀ a, f a = f' (q a)) (x : α × β) : zT2 e f x = zT2 e' f' (p x.1, q x.2) := by show D.tup [_, _] = D.tup [_, _]; rw [k, l]
theorem mT3 (k : ∀ a, e a = e' (p a)) (l : ∀ a, f a = f' (q a)) (m : ∀ a, g a = g' (r a)) (x : α × β × γ) : zT3 e f g x = zT3 e' f' g' (p x.1, q x.2.1, r x.2.2) := by show D.tup [_, _, _] = D.tup [_, _, _]; rw [k, l, m]
theorem mT4 (k : ∀ a, e a = e' (p a)) (l : ∀ a, f a = f' (q a)) (m : ∀ a, g a = g' (r a)) (n : ∀ a, h a = h' (s a)) (x : α × β × γ × δ) : zT4 e f g h x = zT4 e' f' g' h' (p x.1, q x.2.1, r x.2.2.1, s x.2.2.2) := by show D.tup [_, _, _, _] = D.tup [_, _, _, _]; rw [k, l, m, n]
end
end Lf
namespace Lf
open PySem hiding Env
open PySem.Spec hiding Tm
open PyProof.Rows L2 Dl
section
variable {α β γ δ ε υ : Type} {e : α → D} {f : β → D} {g : γ → D} {h : δ → D} {u : υ → D} {p : α → υ} {q : β → υ} {r : γ → υ} {s : δ → υ}
theorem mS1 (k : ∀ a, e a = u (p a)) (x : α) : zT1 e x = zQ u [p x] := by show D.tup [_] = D.tup [_]; rw [k]
theorem mS2 (k : ∀ a, e a = u (p a)) (l : ∀ a, f a = u (q a)) (x : α × β) : zT2 e f x = zQ u [p x.1, q x.2] := by show D.tup [_, _] = D.tup [_, _]; rw [k, l]
theorem mS3 (k : ∀ a, e a = u (p a)) (l : ∀ a, f a = u (q a)) (m : ∀ a, g a = u (r a)) (x : α × β × γ) : zT3 e f g x = zQ u [p x.1, q x.2.1, r x.2.2] := by show D.tup [_, _, _] = D.tup [_, _, _]; rw [k, l, m]
theorem mS4 (k : ∀ a, e a = u (p a)) (l : ∀ a, f a = u (q a)) (m : ∀ a, g a = u (r a)) (n : ∀ a, h a = u (s a)) (x : α × β × γ × δ) : zT4 e f g h x = zQ u [p x.1, q x.2.1, r x.2.2.1, s x.2.2.2] := by show D.tup [_, _, _, _] = D.tup [_, _, _, _]; rw [k, l, m, n]
end
def chr1 : Tx → Option Char
  | [c] => some c
  | _ => none
theorem chr1_eq {s : Tx} {c : Char} (h : chr1 s = some c) : zS s = zC c := by
  cases s with
  | nil => cases h
  | cons x l =>
    cases l with
    | nil => cases h; rfl
    | cons y l => cases h
def Py.size : Py → Option Int
  | .str s => if s.length ≤ 16777216 then some (s.length : Int) else none
  | .tup l => some (l.length : Int)
  | .lst l => some (l.length : Int)
  | _ => none
theorem op_sizeP (a : Py) (n : Int) (h : a.size = some n) : lenD [zP a] = some (zI n) := by
  cases a with
  | str s =>
    have h : (if s.length ≤ 16777216 then some (s.length : Int) else none) = some n := h
    split at h
    · cases h; exact op_lenS s ‹_›
    · cases h
  | tup m => cases h; exact op_lenP (.tup m) m rfl
  | lst m => cases h; exact op_lenP (.lst m) m rfl
  | _ => cases h
end Lf

set_option linter.all false
set_option maxRecDepth 100000
namespace Lf
open PySem hiding Env
open PySem.Spec hiding Tm
open PyProof.Rows L2 Dl
variable {α : Type} {e : α → D} {o : Bool} {l : List α} {ρ ρ' : Env} {gs : List D → Tg}
def lst1 : List α → Option α
  | [a] => some a
  | _ => none
def lst2 : List α → Option (α × α)
  | [a, b] => some (a, b)
  | _ => none
def lst3 : List α → Option (α × α × α)
  | [a, b, c] => some (a, b, c)
  | _ => none
def lst4 : List α → Option (α × α × α × α)
  | [a, b, c, d] => some (a, b, c, d)
  | _ => none
theorem tg_lst1 {p : α} (h : lst1 l = some p) (k : gs [e p] ρ = some ρ') : gLstD 1 gs (zL o e l) ρ = some ρ' := by
  match l, h with
  | [_], rfl => exact k
theorem tg_lst2 {p : α × α} (h : lst2 l = some p) (k : gs [e p.1, e p.2] ρ = some ρ') : gLstD 2 gs (zL o e l) ρ = some ρ' := by
  match l, h with
  | [_, _], rfl => exact k
theorem tg_lst3 {p : α × α × α} (h : lst3 l = some p) (k : gs [e p.1, e p.2.1, e p.2.2] ρ = some ρ') : gLstD 3 gs (zL o e l) ρ = some ρ' := by
  match l, h with
  | [_, _, _], rfl => exact k
theorem tg_lst4 {p : α × α × α × α} (h : lst4 l = some p) (k : gs [e p.1, e p.2.1, e p.2.2.1, e p.2.2.2] ρ = some ρ') : gLstD 4 gs (zL o e l) ρ = some ρ' := by
  match l, h with
  | [_, _, _, _], rfl => exact k
end Lf

set_option linter.all false
set_option maxRecDepth 100000
namespace Lf
open PySem hiding Env
open PySem.Spec hiding Tm
open PyProof.Rows L2 Dl
variable {α1 α2 α3 α4 α5 α6 α7 : Type} {ρ ρ1 ρ2 : Env} {fs : Cm (List Tm)} {ts : List Tm} {ds : List D} {f g : Cm Tm}
theorem ev_mkx {n : Nat} {ns : List Str} {fs0 : List (Str × D)} (h : EvA ρ fs ts ρ1) (hl : looks ρ1 ts = some ds) (hs : ds.all isSc = true) (hz : (ds.length == ns.length) = true) (he : (ns.zip ds).reverse = fs0) :
    Ev ρ (eMkx n ns fs) (.v (zX ⟨n, fs0⟩)) ρ1 := by
  subst he
  unfold Ev eMkx
  rw [h, Out.bind_ok]
  simp only [hl]
  rw [if_pos ⟨hs, by simpa using hz⟩]
  rfl
theorem ev_mkx0 {n : Nat} : Ev ρ (eMkx0 n) (.v (zX ⟨n, []⟩)) ρ := rfl
def zA5 (e1 : α1 → D) (e2 : α2 → D) (e3 : α3 → D) (e4 : α4 → D) (e5 : α5 → D) (p : α1 × α2 × α3 × α4 × α5) : D := .lst true [e1 p.1, e2 p.2.1, e3 p.2.2.1, e4 p.2.2.2.1, e5 p.2.2.2.2]
def zA6 (e1 : α1 → D) (e2 : α2 → D) (e3 : α3 → D) (e4 : α4 → D) (e5 : α5 → D) (e6 : α6 → D) (p : α1 × α2 × α3 × α4 × α5 × α6) : D := .lst true [e1 p.1, e2 p.2.1, e3 p.2.2.1, e4 p.2.2.2.1, e5 p.2.2.2.2.1, e6 p.2.2.2.2.2]
def zA7 (e1 : α1 → D) (e2 : α2 → D) (e3 : α3 → D) (e4 : α4 → D) (e5 : α5 → D) (e6 : α6 → D) (e7 : α7 → D) (p : α1 × α2 × α3 × α4 × α5 × α6 × α7) : D := .lst true [e1 p.1, e2 p.2.1, e3 p.2.2.1, e4 p.2.2.2.1, e5 p.2.2.2.2.1, e6 p.2.2.2.2.2.1, e7 p.2.2.2.2.2.2]
def txI (n : Int) : Tx := (toString n).toList
theorem txN_eq (n : Int) : txN n = nats (txI n) := by
  unfold txN txI nats
  rw [Str.ofString_eq_toList]
theorem op_str (n : Int) (h : n.natAbs.log2 < 1920) : strID [zI n] = some (zS (txI n)) := by
  show (if n.natAbs.log2 < 1920 then some (D.str (txN n)) else none) = _
  rw [if_pos h, txN_eq]
  rfl
theorem txI_nat (n : Nat) : nats (txI (n : Int)) = TL.numL n := by
  rw [← txN_eq]
  exact TL.tl_num n
def numX (s : Tx) : Int := (NumText.digitsVal (nats s) : Nat)
def figC (c : Char) : Bool := decide (48 ≤ c.toNat) && decide (c.toNat ≤ 57)
def figX (s : Tx) : Bool := s.all figC
theorem figs_eq (s : Tx) : figs (nats s) = figX s := by
  unfold figs figX nats
  rw [List.all_map]
  rfl
theorem op_intB2 (b : Bool) : intDD [zB b] = some (zI (ofB b)) := rfl
theorem op_intI2 (b : Int) : intDD [zI b] = some (zI b) := rfl
theorem op_intS (s : Tx) (h : figX s = true ∧ s ≠ [] ∧ s.length ≤ 640) : intDD [zS s] = some (zI (numX s)) := by
  show (none : Option D).or (if figs (nats s) = true ∧ nats s ≠ [] ∧ (nats s).length ≤ 640 then some (D.int (NumText.digitsVal (nats s) : Nat)) else none) = _
  rw [if_pos ⟨by rw [figs_eq]; exact h.1, fun e => h.2.1 (List.map_eq_nil_iff.mp e), by unfold nats; rw [List.length_map]; exact h.2.2⟩]
  rfl
theorem numX_txI (n : Nat) : numX (txI (n : Int)) = n := by
  unfold numX
  rw [txI_nat, TL.numL_val]
theorem figX_txI (n : Nat) : figX (txI (n : Int)) = true := by
  rw [← figs_eq, txI_nat]
  unfold figs
  rw [List.all_eq_true]
  intro c hc
  have := TL.numL_digits n c hc
  simp [this.1, this.2]
theorem txI_ne (n : Nat) : txI (n : Int) ≠ [] := fun e => by
  have h := txI_nat n
  rw [e] at h
  exact TL.numL_ne n h.symm
theorem txI_len {n k : Nat} (hk : 0 < k) (h : n < 10 ^ k) : (txI (n : Int)).length ≤ k := by
  have e := congrArg List.length (txI_nat n)
  unfold nats at e
  rw [List.length_map] at e
  rw [e]
  exact TL.numL_len hk h
theorem ev_orTx {a b : Tx} (h1 : Ev ρ f (.v (zS a)) ρ1) (h2 : Ev ρ1 g (.v (zS b)) ρ1) (hz : a.length ≤ 16777216) : Ev ρ (eOrS f g) (.v (zS (if a = [] then b else a))) ρ1 := by
  unfold Ev eOrS
  rw [h1, Out.bind_ok]
  have hz' : (nats a).length ≤ sizeLine := by unfold nats; rw [List.length_map, sizeLine_eq]; exact hz
  show (if (nats a).length ≤ sizeLine then (if nats a = [] then g ρ1 else Out.ok (.v (.str (nats a))) ρ1) else .bad) = _
  rw [if_pos hz']
  by_cases ha : a = []
  · subst ha
    rw [if_pos (show nats ([] : Tx) = [] from rfl), if_pos rfl]
    exact h2
  · rw [if_neg ha, if_neg (show ¬ nats a = [] from fun e => ha (List.map_eq_nil_iff.mp e))]
    rfl
def splC (c : Char) : Tx → Tx → List Tx
  | acc, [] => [acc]
  | acc, x :: r => if x = c then acc :: splC c [] r else splC c (acc ++ [x]) r
theorem spl_splC (c : Char) : ∀ (s acc : Tx), TL.spl [c.toNat] 0 (nats acc) (nats s) = (splC c acc s).map nats
  | [], acc => by rw [show nats ([] : Tx) = [] from rfl, TL.spl_nil]; rfl
  | x :: r, acc => by
    have hp : TL.pre [c.toNat] (x.toNat :: nats r) = decide (x = c) := by
      show (([x.toNat] : List Nat) == [c.toNat]) = _
      by_cases h : x = c
      · subst h
        rw [decide_eq_true rfl]
        exact beq_self_eq_true _
      · rw [decide_eq_false h]
        exact beq_eq_false_iff_ne.mpr fun e => h (char_nat (List.cons.inj e).1)
    show TL.spl [c.toNat] 0 (nats acc) (x.toNat :: nats r) = _
    by_cases hx : x = c
    · rw [TL.spl_hit (by rw [hp]; simp [hx])]
      rw [splC, if_pos hx]
      show nats acc :: TL.spl [c.toNat] 0 (nats []) (nats r) = _
      rw [spl_splC c r []]
      rfl
    · have e1 : TL.spl [c.toNat] 0 (nats acc) (x.toNat :: nats r) = TL.spl [c.toNat] 0 (nats acc ++ [x.toNat]) (nats r) := by
        show (if TL.pre [c.toNat] (x.toNat :: nats r) = true then _ else _) = _
        rw [if_neg (by rw [hp]; simp [hx])]
      rw [e1, splC, if_neg hx, ← spl_splC c r (acc ++ [x])]
      congr 1
      unfold nats
      rw [List.map_append]
      rfl
theorem op_split (s : Tx) (c : Char) (hc : c.toNat < 256) (hz : s.length ≤ 16777214) : splitD [zS s, zC c] = some (zL true zS (splC c [] s)) := by
  show (if [c.toNat] ≠ [] ∧ [c.toNat].all (· < 256) = true ∧ (nats s).length + 2 ≤ sizeLine then some (D.lst true ((TL.spl [c.toNat] 0 [] (nats s)).map .str)) else none) = _
  rw [if_pos ⟨by simp, by simp [hc], by unfold nats; rw [List.length_map, sizeLine_eq]; omega⟩]
  have := spl_splC c s []
  rw [show nats ([] : Tx) = [] from rfl] at this
  rw [this, List.map_map]
  rfl
end Lf

set_option linter.all false
set_option maxRecDepth 100000
namespace Lf
open PySem hiding Env
open PySem.Spec hiding Tm
open PyProof.Rows L2 Dl
def strsP : List Py → Option (List Tx)
  | [] => some []
  | .str s :: l => (strsP l).map (s :: ·)
  | _ :: _ => none
theorem strsP_map : ∀ {l : List Py} {r : List Tx}, strsP l = some r → l.map zP = r.map zS
  | [], r, h => by cases h; rfl
  | .str s :: l, r, h => by
    obtain ⟨q, h1, rfl⟩ := Option.map_eq_some_iff.mp h
    rw [List.map_cons, List.map_cons, strsP_map h1]
    rfl
  | .non :: _, _, h => by cases h
  | .int _ :: _, _, h => by cases h
  | .tup _ :: _, _, h => by cases h
  | .lst _ :: _, _, h => by cases h
theorem strsP_L {o : Bool} {l : List Py} {r : List Tx} (h : strsP l = some r) : zL o zP l = zL o zS r := congrArg (D.lst o) (strsP_map h)
theorem strsP_Q {l : List Py} {r : List Tx} (h : strsP l = some r) : zQ zP l = zQ zS r := congrArg D.tup (strsP_map h)
def intsP : List Py → Option (List Int)
  | [] => some []
  | .int s :: l => (intsP l).map (s :: ·)
  | _ :: _ => none
theorem intsP_map : ∀ {l : List Py} {r : List Int}, intsP l = some r → l.map zP = r.map zI
  | [], r, h => by cases h; rfl
  | .int s :: l, r, h => by
    obtain ⟨q, h1, rfl⟩ := Option.map_eq_some_iff.mp h
    rw [List.map_cons, List.map_cons, intsP_map h1]
    rfl
  | .non :: _, _, h => by cases h
  | .str _ :: _, _, h => by cases h
  | .tup _ :: _, _, h => by cases h
  | .lst _ :: _, _, h => by cases h
theorem intsP_L {o : Bool} {l : List Py} {r : List Int} (h : intsP l = some r) : zL o zP l = zL o zI r := congrArg (D.lst o) (intsP_map h)
theorem intsP_Q {l : List Py} {r : List Int} (h : intsP l = some r) : zQ zP l = zQ zI r := congrArg D.tup (intsP_map h)
def Py.tex : Py → Option Tx
  | .int n => if n.natAbs.log2 < 1920 then some (txI n) else none
  | .str s => some s
  | _ => none
theorem op_str2 (n : Int) (h : n.natAbs.log2 < 1920) : strDD [zI n] = some (zS (txI n)) := by
  unfold strDD
  rw [op_str n h]
  rfl
theorem op_strS (s : Tx) : strDD [zS s] = some (zS s) := rfl
theorem op_strP (p : Py) (r : Tx) (h : p.tex = some r) : strDD [zP p] = some (zS r) := by
  cases p with
  | int n =>
    simp only [Py.tex] at h
    split at h
    · cases h; exact op_str2 n ‹_›
    · cases h
  | str s => exact (Option.some.inj h) ▸ op_strS s
  | non => cases h
  | tup l => cases h
  | lst l => cases h
end Lf

set_option linter.all false
set_option maxRecDepth 100000
namespace Lf
open PySem hiding Env
open PySem.Spec hiding Tm
open PyProof.Rows L2 Dl
variable {β δ : Type} {cl : Nat → Addr} {Fin : δ → Env → β → Prop} {X : Env → Prop} {ρ : Env} {T : R β} {sg : Cm Fl} {K : Fl → Env → Out Env δ} {i : Nat} {d d' : D}
def fzK (i : Nat) (K : Fl → Env → Out Env δ) : Fl → Env → Out Env δ := fun fl ρ1 => match fl with
  | .nx => match (ρ1[i]?).join with
    | some d => if d.fz = true then K .nx (ρ1.set i (some d.frz)) else .bad
    | none => K .nx ρ1
  | fl => K fl ρ1
theorem ref_fz (h : Ref cl Fin X ((sg ρ).bind (fzK i K)) T) : Ref cl Fin X ((sFz i sg ρ).bind K) T := by
  have e : (sFz i sg ρ).bind K = (sg ρ).bind (fzK i K) := by
    unfold sFz
    cases hs : sg ρ with
    | ok fl ρ1 =>
      cases fl with
      | nx =>
        show (match (ρ1[i]?).join with | some d => if d.fz = true then Out.ok Fl.nx (ρ1.set i (some d.frz)) else .bad | none => Out.ok Fl.nx ρ1).bind K = fzK i K .nx ρ1
        unfold fzK
        cases hd : (ρ1[i]?).join with
        | none => rfl
        | some d =>
          simp only
          split <;> rfl
      | bk => rfl
      | ct => rfl
      | rt d => rfl
    | exc e ρ1 => rfl
    | bad => rfl
  rw [e]
  exact h
theorem ref_fznx (h0 : ρ[i]? = some (some d)) (z : d.fz = true) (e : d.frz = d') (h : Ref cl Fin X (K .nx (ρ.set i (some d'))) T) : Ref cl Fin X (fzK i K .nx ρ) T := by
  unfold fzK
  rw [h0]
  simp only [Option.join_some, z, if_true, e]
  exact h
theorem ref_fzno (h0 : ρ[i]? = some none) (h : Ref cl Fin X (K .nx ρ) T) : Ref cl Fin X (fzK i K .nx ρ) T := by
  unfold fzK
  rw [h0]
  exact h
end Lf

set_option linter.all false
set_option maxRecDepth 100000
namespace Lf
open PySem hiding Env
open PySem.Spec hiding Tm
open PyProof.Rows L2 Dl
variable {α : Type} {e : α → D} {pe : α → Py}
def optP (f : α → Py) : Option α → Py
  | none => .non
  | some a => f a
theorem py_O (he : ∀ a, e a = zP (pe a)) (x : Option α) : zO e x = zP (optP pe x) := by
  cases x with
  | none => rfl
  | some a => exact he a
theorem zO_sm {o : Option α} {x : α} (h : o = some x) : zO e o = e x := by subst h; rfl
theorem inL_P (o : Bool) (a : Py) (l : List Py) (h : a.dep ≤ 64 ∧ (Py.lst l).dep ≤ 64) (k : Bool) : inDD k (zP a) (zL o zP l) = some (.bl (decide (a ∈ l) ^^ k)) := by
  have e1 : zL false zP l = zP (.lst l) := by show D.lst false _ = D.lst false _; rw [zPs_map]
  unfold inDD zL
  rw [inSD_lst, Option.none_or]
  have h1 : deepOk (zP a) (.lst false (l.map zP)) := ⟨zP_pl a, by show D.pl (zL false zP l) = true; rw [e1]; exact zP_pl _, by rw [zP_dep]; exact h.1, by show D.dep (zL false zP l) ≤ 64; rw [e1, zP_dep]; exact h.2⟩
  simp only [inLD, h1, if_true]
  have : ((l.map zP).any fun z => eqD z (zP a)) = decide (a ∈ l) := by
    rw [List.any_map, Bool.eq_iff_iff, List.any_eq_true]
    constructor
    · rintro ⟨x, hx, q⟩
      simp only [Function.comp, zP_eq] at q
      have := (Py.beq_iff x a).mp q
      subst this
      simpa using hx
    · intro q
      refine ⟨a, by simpa using q, ?_⟩
      simp only [Function.comp, zP_eq]
      exact (Py.beq_iff a a).mpr rfl
  rw [this]
theorem op_inLP (o : Bool) (a : Py) (l : List Py) (h : a.dep ≤ 64 ∧ (Py.lst l).dep ≤ 64) : inDD false (zP a) (zL o zP l) = some (zB (decide (a ∈ l))) := by rw [inL_P o a l h]; simp [zB]
theorem op_ninLP (o : Bool) (a : Py) (l : List Py) (h : a.dep ≤ 64 ∧ (Py.lst l).dep ≤ 64) : inDD true (zP a) (zL o zP l) = some (zB (!decide (a ∈ l))) := by rw [inL_P o a l h]; simp [zB]
theorem src_Tt {ρ ρ1 : Env} {f : Cm Tm} {ds : List D} (h : Ev ρ f (.v (.tup ds)) ρ1) (c : D.cold (.tup ds)) : srcA f ρ = .ok ⟨[.tup ds], ds, none⟩ ρ1 := by
  unfold srcA
  rw [h, Out.bind_ok]
  simp only
  unfold srcV
  rw [if_pos c.1, c.2.1]
section
variable {own : List Nat} {ρ ρ1 ρ2 ρa ρb ρc ρd : Env} {src : Cm Src} {sd : List D} {gt : D → Tg} {f : Cm Tm} {d1 d2 d3 d4 a1 a2 a3 a4 : D}
theorem comp_one {ds acc : List D} {d a : D} {ρa : Env} (h : gt d ρ2 = some ρa) (v : Ev ρa f (.v a) ρa) (w : wipeD ρa own = ρ2) (hz : acc.length < sizeLine) : compL own gt bYes f (d :: ds) acc ρ2 = compL own gt bYes f ds (acc ++ [a]) ρ2 := by
  rw [compL, h]
  have v' : f ρa = .ok (.v a) ρa := v
  simp only [bYes, Out.nox, Out.bind_ok, if_true, v', w, hz]
theorem ev_comp2 (hs : src ρ = .ok ⟨sd, [d1, d2], none⟩ ρ1) (hE : wipeD ρ1 own = ρ2) (h1 : gt d1 ρ2 = some ρa) (v1 : Ev ρa f (.v a1) ρa) (w1 : wipeD ρa own = ρ2) (h2 : gt d2 ρ2 = some ρb) (v2 : Ev ρb f (.v a2) ρb) (w2 : wipeD ρb own = ρ2) :
    Ev ρ (eComp own src gt bYes f) (.v (.lst true [a1, a2])) ρ2 := by
  have z : ∀ n, n < 10 → n < sizeLine := fun n h => by rw [sizeLine_eq]; omega
  unfold Ev eComp
  rw [hs, Out.bind_ok, hE, comp_one h1 v1 w1 (z _ (by simp)), comp_one h2 v2 w2 (z _ (by simp))]
  rfl
theorem ev_comp3 (hs : src ρ = .ok ⟨sd, [d1, d2, d3], none⟩ ρ1) (hE : wipeD ρ1 own = ρ2) (h1 : gt d1 ρ2 = some ρa) (v1 : Ev ρa f (.v a1) ρa) (w1 : wipeD ρa own = ρ2) (h2 : gt d2 ρ2 = some ρb) (v2 : Ev ρb f (.v a2) ρb) (w2 : wipeD ρb own = ρ2)
    (h3 : gt d3 ρ2 = some ρc) (v3 : Ev ρc f (.v a3) ρc) (w3 : wipeD ρc own = ρ2) : Ev ρ (eComp own src gt bYes f) (.v (.lst true [a1, a2, a3])) ρ2 := by
  have z : ∀ n, n < 10 → n < sizeLine := fun n h => by rw [sizeLine_eq]; omega
  unfold Ev eComp
  rw [hs, Out.bind_ok, hE, comp_one h1 v1 w1 (z _ (by simp)), comp_one h2 v2 w2 (z _ (by simp)), comp_one h3 v3 w3 (z _ (by simp))]
  rfl
end
end Lf

set_option linter.all false
set_option maxRecDepth 100000
namespace Lf
open PySem hiding Env
open PySem.Spec hiding Tm
open PyProof.Rows L2 Dl
variable {α β γ δ : Type} {e e' : α → D} {f f' : β → D} {g g' : γ → D} {h h' : δ → D}
def zF1 (e : α → D) (p : α) : D := .lst false [e p]
def zF2 (e : α → D) (f : β → D) (p : α × β) : D := .lst false [e p.1, f p.2]
def zF3 (e : α → D) (f : β → D) (g : γ → D) (p : α × β × γ) : D := .lst false [e p.1, f p.2.1, g p.2.2]
def zF4 (e : α → D) (f : β → D) (g : γ → D) (h : δ → D) (p : α × β × γ × δ) : D := .lst false [e p.1, f p.2.1, g p.2.2.1, h p.2.2.2]
def Fz (e e' : α → D) : Prop := ∀ a, (e a).fz = true ∧ (e a).frz = e' a
theorem fz_c (c : ∀ a, (e a).cold) : ∀ a, (e a).fz = true ∧ (e a).frz = e a := fun a => ⟨(c a).1, (c a).2.1⟩
theorem fz_A1 (k : ∀ a, (e a).fz = true ∧ (e a).frz = e' a) (p : α) : (D.lst o [e p]).fz = true ∧ (D.lst o [e p]).frz = zF1 e' p := by
  simp [zF1, D.fz, D.fzs, D.frz, D.frzs, k]
theorem fz_A2 (k : ∀ a, (e a).fz = true ∧ (e a).frz = e' a) (l : ∀ a, (f a).fz = true ∧ (f a).frz = f' a) (p : α × β) : (D.lst o [e p.1, f p.2]).fz = true ∧ (D.lst o [e p.1, f p.2]).frz = zF2 e' f' p := by
  simp [zF2, D.fz, D.fzs, D.frz, D.frzs, k, l]
theorem fz_A3 (k : ∀ a, (e a).fz = true ∧ (e a).frz = e' a) (l : ∀ a, (f a).fz = true ∧ (f a).frz = f' a) (m : ∀ a, (g a).fz = true ∧ (g a).frz = g' a) (p : α × β × γ) : (D.lst o [e p.1, f p.2.1, g p.2.2]).fz = true ∧ (D.lst o [e p.1, f p.2.1, g p.2.2]).frz = zF3 e' f' g' p := by
  simp [zF3, D.fz, D.fzs, D.frz, D.frzs, k, l, m]
theorem fz_A4 (k : ∀ a, (e a).fz = true ∧ (e a).frz = e' a) (l : ∀ a, (f a).fz = true ∧ (f a).frz = f' a) (m : ∀ a, (g a).fz = true ∧ (g a).frz = g' a) (n : ∀ a, (h a).fz = true ∧ (h a).frz = h' a) (p : α × β × γ × δ) :
    (D.lst o [e p.1, f p.2.1, g p.2.2.1, h p.2.2.2]).fz = true ∧ (D.lst o [e p.1, f p.2.1, g p.2.2.1, h p.2.2.2]).frz = zF4 e' f' g' h' p := by
  simp [zF4, D.fz, D.fzs, D.frz, D.frzs, k, l, m, n]
theorem cF1 (c : ∀ a, (e a).cold) (x : α) : (zF1 e x).cold := cold_lst (colds_cons (c _) colds_nil)
theorem cF2 (c : ∀ a, (e a).cold) (d : ∀ a, (f a).cold) (x : α × β) : (zF2 e f x).cold := cold_lst (colds_cons (c _) (colds_cons (d _) colds_nil))
theorem cF3 (c : ∀ a, (e a).cold) (d : ∀ a, (f a).cold) (k : ∀ a, (g a).cold) (x : α × β × γ) : (zF3 e f g x).cold := cold_lst (colds_cons (c _) (colds_cons (d _) (colds_cons (k _) colds_nil)))
theorem cF4 (c : ∀ a, (e a).cold) (d : ∀ a, (f a).cold) (k : ∀ a, (g a).cold) (l : ∀ a, (h a).cold) (x : α × β × γ × δ) : (zF4 e f g h x).cold := cold_lst (colds_cons (c _) (colds_cons (d _) (colds_cons (k _) (colds_cons (l _) colds_nil))))
def memX [DecidableEq α] (a : α) (l : List α) : Bool := decide (a ∈ l)
theorem memX_iff [DecidableEq α] (a : α) (l : List α) : memX a l = true ↔ a ∈ l := by unfold memX; rw [decide_eq_true_eq]
theorem op_inLX {n : Nat} {o : Bool} [DecidableEq α] (h : Nice n e) (a : α) (l : List α) (hn : n.ble 63 = true) : inDD false (e a) (zL o e l) = some (zB (memX a l)) := op_inL h a l hn
theorem op_ninLX {n : Nat} {o : Bool} [DecidableEq α] (h : Nice n e) (a : α) (l : List α) (hn : n.ble 63 = true) : inDD true (e a) (zL o e l) = some (zB (!memX a l)) := op_ninL h a l hn
theorem op_inTX {n : Nat} [DecidableEq α] (h : Nice n e) (a : α) (l : List α) (hn : n.ble 63 = true) : inTD false (e a) (zQ e l) = some (zB (memX a l)) := op_inT h a l hn
theorem op_ninTX {n : Nat} [DecidableEq α] (h : Nice n e) (a : α) (l : List α) (hn : n.ble 63 = true) : inTD true (e a) (zQ e l) = some (zB (!memX a l)) := op_ninT h a l hn
end Lf

set_option linter.all false
set_option maxRecDepth 100000
namespace Lf
open PySem hiding Env
open PySem.Spec hiding Tm
open PyProof.Rows L2 Dl
variable {α β σ δ : Type} {e : α → D} {o : Bool} {ρ ρ1 : Env} {cl : Nat → Addr}
def zK (o : Bool) (e : α → D) (l : List α) : D := .dic o (l.map e) (List.replicate l.length (.bl true))
theorem colds_rep : ∀ n : Nat, D.colds (List.replicate n (.bl true)) := fun n d h => by
  rw [List.eq_of_mem_replicate h]
  exact ⟨rfl, rfl, rfl⟩
theorem cK (l : List α) : (zK false e l).cold := by
  obtain ⟨a, b, c⟩ := cold_list (colds_rep l.length)
  exact ⟨by simp [zK, D.fz, a], by simp [zK, D.frz, b], rfl⟩
theorem fz_K (l : List α) : (zK o e l).fz = true ∧ (zK o e l).frz = zK false e l := by
  obtain ⟨a, b, c⟩ := cold_list (colds_rep l.length)
  exact ⟨by simp [zK, D.fz, a], by simp [zK, D.frz, b]⟩
theorem op_dictK (l : List α) : dictCD [zK o e l] = some (zK true e l) := by
  obtain ⟨a, b, c⟩ := cold_list (colds_rep l.length)
  simp [zK, dictCD, c]
theorem op_lenK (l : List α) : (zK o e l).own = o := rfl
structure KeyOf (e : α → D) [DecidableEq α] : Prop where
  key : ∀ a, (e a).isKey = true
  eq : ∀ a b, keyEq (e a) (e b) = decide (a = b)
theorem kS : KeyOf zS := ⟨fun _ => rfl, fun a b => by
  show decide (nats a = nats b) = decide (a = b)
  simp only [nats_inj]⟩
theorem kI : KeyOf zI := ⟨fun _ => rfl, fun a b => rfl⟩
variable [DecidableEq α]
theorem dhas_map (k : KeyOf e) (a : α) : ∀ l : List α, dhas (l.map e) (e a) = decide (a ∈ l)
  | [] => by simp [dhas]
  | b :: l => by
    have ih := dhas_map k a l
    unfold dhas at ih ⊢
    rw [List.map_cons, List.any_cons, ih, k.eq]
    by_cases h : b = a
    · subst h; simp
    · have h2 : ¬ a = b := fun q => h q.symm
      simp [h, h2]
theorem op_inK (k : KeyOf e) (a : α) (l : List α) : inKD false (e a) (zK o e l) = some (zB (memX a l)) := by
  show (if (e a).isKey = true then some (D.bl (dhas (l.map e) (e a) ^^ false)) else none) = _
  rw [if_pos (k.key a), dhas_map k]
  simp [zB, memX]
theorem op_ninK (k : KeyOf e) (a : α) (l : List α) : inKD true (e a) (zK o e l) = some (zB (!memX a l)) := by
  show (if (e a).isKey = true then some (D.bl (dhas (l.map e) (e a) ^^ true)) else none) = _
  rw [if_pos (k.key a), dhas_map k]
  simp [zB, memX]
def putX (l : List α) (a : α) : List α := if a ∈ l then l else l ++ [a]
omit [DecidableEq α] in
theorem dputV_rep : ∀ (ks : List D) (n : Nat) (x : D), ks.length = n → dputV ks (List.replicate n (.bl true)) x (.bl true) = List.replicate n (.bl true)
  | [], 0, x, _ => rfl
  | k :: ks, n + 1, x, h => by
    have h : ks.length = n := by simpa using h
    show (if keyEq k x then D.bl true else D.bl true) :: dputV ks (List.replicate n (.bl true)) x (.bl true) = _
    rw [dputV_rep ks n x h]
    simp [List.replicate_succ]
  | [], _ + 1, _, h => by simp at h
  | _ :: _, 0, _, h => by simp at h
theorem st_K (k : KeyOf e) (l : List α) (a : α) (h : l.length < 16777216) : stD (.bl true) (e a) (zK true e l) = some (zK true e (putX l a)) := by
  show (if (e a).isKey = true ∧ (l.map e).length < sizeLine ∧ (D.bl true).own = false then some (if dhas (l.map e) (e a) = true then D.dic true (l.map e) (dputV (l.map e) (List.replicate l.length (.bl true)) (e a) (.bl true)) else D.dic true (l.map e ++ [e a]) (List.replicate l.length (.bl true) ++ [.bl true])) else none) = _
  rw [if_pos ⟨k.key a, by rw [List.length_map]; exact lineLt h, rfl⟩, dhas_map k]
  unfold putX
  by_cases hm : a ∈ l
  · rw [if_pos hm, if_pos (by simpa using hm), dputV_rep _ _ _ (by rw [List.length_map])]
    rfl
  · rw [if_neg hm, if_neg (by simpa using hm)]
    unfold zK
    rw [List.map_append, List.length_append]
    simp [List.replicate_succ']
def lsX (x y : Tx) : Bool := decide (x.length < y.length) || (decide (x.length = y.length) && ltX x y)
def leX (b : Bool) (x y : Tx) : Bool := cond b (!lsX x y) (!lsX y x)
def srtLX (b : Bool) (l : List Tx) : List Tx := l.mergeSort (leX b)
theorem ltS_nats (x y : Tx) : ltS (nats x) (nats y) = lsX x y := by
  unfold ltS lsX ltX
  rw [nats_len, nats_len]
  by_cases h1 : x.length < y.length <;> by_cases h2 : x.length = y.length <;> simp [h1, h2]
theorem leS_nats (b : Bool) (x y : Tx) : leS b (nats x) (nats y) = leX b x y := by
  unfold leS leX
  rw [ltS_nats, ltS_nats]
theorem srtS_nats (b : Bool) (l : List Tx) : srtS b (l.map nats) = (srtLX b l).map nats := by
  unfold srtS srtLX
  rw [List.map_mergeSort (r := leX b) (s := leS b) (f := nats) (fun x _ y _ => (leS_nats b x y).symm)]
theorem sortTo_nats (b : Bool) (l : List Tx) (h : (l.all fun s => decide (s.length ≤ 16777216)) = true) : sortTo b (l.map zS) = some (zL true zS (srtLX b l)) := by
  have e0 : l.map zS = (l.map nats).map D.str := by rw [List.map_map]; rfl
  have h2 : ((l.map nats).all fun z => decide (z.length ≤ sizeLine)) = true := by
    rw [List.all_map]
    rw [List.all_eq_true] at h ⊢
    intro x hx
    have := h x hx
    simp only [Function.comp_apply, nats_len, sizeLine_eq]
    exact this
  unfold sortTo
  rw [e0, strsOf_map]
  try dsimp only
  rw [if_pos h2, srtS_nats]
  unfold zL
  rw [List.map_map]
  rfl
theorem op_sortK (b : Bool) (l : List Tx) (h : (l.all fun s => decide (s.length ≤ 16777216)) = true) : sortKD b [zK o zS l] = some (zL true zS (srtLX b l)) := sortTo_nats b l h
theorem op_sortL (b : Bool) (l : List Tx) (h : (l.all fun s => decide (s.length ≤ 16777216)) = true) : sortKD b [zL o zS l] = some (zL true zS (srtLX b l)) := sortTo_nats b l h
theorem op_shl (a b : Int) (h : 0 ≤ b ∧ b ≤ 1000000 ∧ a.natAbs < 18446744073709551616) : shlD (zI a) (zI b) = some (zI (a * 2 ^ b.toNat)) := by
  have hc : (decide (0 ≤ b) && decide (b ≤ 1000000) && decide (a.natAbs < 18446744073709551616)) = true := by simpa [and_assoc] using h
  show (if (decide (0 ≤ b) && decide (b ≤ 1000000) && decide (a.natAbs < 18446744073709551616)) = true then some (D.int _) else none) = _
  rw [if_pos hc]
  rfl
theorem op_shr (a b : Int) (h : 0 ≤ b) : shrD (zI a) (zI b) = some (zI (a / 2 ^ b.toNat)) := by
  show (if decide (0 ≤ b) = true then some (D.int _) else none) = _
  rw [if_pos (by simpa using h)]
  rfl
theorem op_odd (a : Int) : bandD (zI a) (zI 1) = some (zI (a % 2)) := by
  show (if true = true then some (D.int (Builtin.bitAnd a 1)) else none) = _
  rw [if_pos rfl]
  have e := PySem.W.kbt_mask a 1
  have e2 : (2 : Int) ^ 1 - 1 = 1 := by decide
  rw [e2] at e
  rw [e]
  rfl
theorem ev_dic0 : Ev ρ eDic0 (.v (zK true e [])) ρ := rfl
variable {γ : Type} {Fin : γ → Env → β → Prop} {X : Env → Prop} {K : Fl → Env → Out Env γ} {sg : Cm Fl}
def finD (E : σ → Env) (fl : Fl) (ρ : Env) (s : σ) : Prop := (fl = .nx ∨ fl = .ct) ∧ ρ = E s
omit [DecidableEq α] in
theorem ref_forD {as : List Nat} {i : Nat} {xs : List α} {E : σ → Env} {g : D → Tg} {body : α → σ → R σ} {T : σ → R β} {s : σ} (hd : (ρ[i]?).join = some (zK true e xs)) (hE : ρ.set i none = E s) (hh : ∀ s, hole (E s) i = true) (hn : as.elem i = false)
    (hb : ∀ x s, ∃ ρ1, g (e x) (E s) = some ρ1 ∧ Ref cl (finD E) (fun _ => False) (sg ρ1) (body x s)) (hk : ∀ s, Ref cl Fin X (K .nx ((E s).set i (some (zK true e xs)))) (T s)) :
    Ref cl Fin X ((sForK as i g sg ρ).bind K) (forK xs (fun x next s => R.bind (body x s) next) T s) := by
  have hn' : i ∉ as := by simpa using hn
  have e1 : sForK as i g sg ρ = (loopL g (fun ρ => (sg ρ).nox) (xs.map e) (ρ.set i none)).bind fun fl ρ' => if hole ρ' i = true ∧ i ∉ as then .ok fl (ρ'.set i (some (zK true e xs))) else .bad := by
    unfold sForK
    rw [hd]
    rfl
  rw [e1, hE]
  clear e1 hE hd
  generalize hz : zK true e xs = dd at hk ⊢
  clear hz
  have main : ∀ (ys : List α) (s : σ), Ref cl Fin X (((loopL g (fun ρ => (sg ρ).nox) (ys.map e) (E s)).bind fun fl ρ' => if hole ρ' i = true ∧ i ∉ as then .ok fl (ρ'.set i (some dd)) else .bad).bind K) (forK ys (fun x next s => R.bind (body x s) next) T s) := by
    intro ys
    induction ys with
    | nil =>
      intro s
      show Ref cl Fin X (((Out.ok Fl.nx (E s)).bind fun fl ρ' => if hole ρ' i = true ∧ i ∉ as then .ok fl (ρ'.set i (some dd)) else .bad).bind K) (T s)
      rw [Out.bind_ok, if_pos ⟨hh s, hn'⟩, Out.bind_ok]
      exact hk s
    | cons y ys ih =>
      intro s
      obtain ⟨ρ1, g1, r1⟩ := hb y s
      rw [forK_cons, List.map_cons, loopL_cons, g1]
      try dsimp only
      cases hbo : body y s with
      | bad => trivial
      | exc x =>
        rw [hbo] at r1
        obtain ⟨_, _, q⟩ := r1
        exact q.elim
      | ok s' =>
        rw [hbo] at r1
        obtain ⟨fl, ρ', e2, hf, rfl⟩ := r1
        rw [e2]
        show Ref cl Fin X (((((Out.ok fl (E s') : Out Env Fl).nox).bind (Fl.lp (loopL g (fun ρ => (sg ρ).nox) (ys.map e)))).bind _).bind K) (forK ys _ T s')
        rcases hf with rfl | rfl
        · exact ih s'
        · exact ih s'
  exact main xs s
end Lf

set_option linter.all false
set_option maxRecDepth 100000
set_option maxHeartbeats 0
namespace Lw
open PySem PySem.Spec PyProof.Rows L2 Dl
noncomputable def b_in_order : Cm Fl := (sRet (eTup (aCons (eCa lenD (aCons (eM 0) aNil)) (aCons (eN 0) aNil))))
noncomputable def sem_in_order : List D → Out (List D) D := bodyF 1 [] b_in_order
noncomputable def with_letter_f1b : Cm Fl := (sFgt [4] (sIf (toB (e2 (ltD) (eCa lenD (aCons (eM 4) aNil)) (eM 2))) (sAsg (gSt (pSl 3) (e2 (addD) (eM 4) (eM 1))) (eC (.bl true))) sNil))
noncomputable def b_with_letter : Cm Fl := (sSeq (sSet 3 (eCa dictCD (aCons (eM 0) aNil)))
  (sSeq (sPre [4] (sForK [4] 0 (gN 4) with_letter_f1b))
  (sRet (eG 3))))
noncomputable def sem_with_letter : List D → Out (List D) D := bodyF 5 [3, 4] b_with_letter
noncomputable def answered_yes_f1b : Cm Fl := (sFgt [3] (sSet 2 (callD 3 sem_with_letter [] (aCons (eM 2) (aCons (eM 3) (aCons (eM 1) aNil))))))
noncomputable def b_answered_yes : Cm Fl := (sSeq (sSet 2 (eDsp [[]] (aCons (eC (.bl true)) aNil)))
  (sSeq (sPre [3] (sFor [3, 2] (srcA (eN 0)) (gN 3) answered_yes_f1b))
  (sRet (eG 2))))
noncomputable def sem_answered_yes : List D → Out (List D) D := bodyF 4 [2, 3, 2] b_answered_yes
noncomputable def b_answers : Cm Fl := (sRet (eCa tupleD (aCons (eCa (sortKD false) (aCons (callD 2 sem_answered_yes [] (aCons (eM 0) (aCons (eM 1) aNil))) aNil)) aNil)))
noncomputable def sem_answers : List D → Out (List D) D := bodyF 2 [] b_answers
noncomputable def law_deal_f1b : Cm Fl := (sFgt [4] (sSet 3 (e2 (modD) (e2 (addD) (e2 (addD) (e2 (mulDD) (eM 3) (eC (.int 69313))) (e2 (modD) (eM 4) (eC (.int 2147483579)))) (eC (.int 17))) (eC (.int 2147483647)))))
noncomputable def b_law_deal : Cm Fl := (sSeq (sSet 2 (eZ (eComp [4] (srcA (eSl (eM 0) (oSome (eM 1)) (oSome (eC (.int 63))))) (gN 4) bYes (eZ (eCa max2D (aCons (eM 4) (aCons (e2 (subD) (eC (.int 0)) (eM 4)) aNil)))))))
  (sSeq (sSet 3 (e2 (addD) (eC (.int 6271)) (e2 (mulDD) (eC (.int 11)) (eM 1))))
  (sSeq (sPre [4] (sFor [4, 3] (srcA (eN 2)) (gN 4) law_deal_f1b))
  (sRet (eDsp [[115, 101, 101, 100], [110, 117, 109, 98, 101, 114], [108, 101, 102, 116]] (aCons (eN 3) (aCons (eC (.int 0)) (aCons (eLRev (eComp [4] (srcA (eN 2)) (gN 4) (toB (e2 (geD) (eM 4) (e2 (powD) (eC (.int 10)) (eC (.int 18))))) (eN 4))) aNil))))))))
noncomputable def sem_law_deal : List D → Out (List D) D := bodyF 5 [2, 3, 4, 3] b_law_deal
noncomputable def law_draw_w1b : Cm Fl := (sAsg (gSt (pSl 0) (eC (.str [110, 117, 109, 98, 101, 114]))) (eZ (eMut0 "list" popD (pIx (pSl 0) (eC (.str [108, 101, 102, 116]))))))
noncomputable def b_law_draw : Cm Fl := (sSeq (sWhile (bAnd (toB (e2 (eqDD false) (e2 (ixD) (eM 0) (eC (.str [110, 117, 109, 98, 101, 114]))) (eC (.int 0)))) (toB (e2 (gtD) (eCaP lenD (pIx (pSl 0) (eC (.str [108, 101, 102, 116])))) (eC (.int 0))))) law_draw_w1b)
  (sSeq (sSet 2 (e2 (ixD) (eM 0) (eC (.str [110, 117, 109, 98, 101, 114]))))
  (sSeq (sIf (toB (e2 (gtD) (eM 2) (eC (.int 0)))) (sSeq (sAsg (gSt (pSl 0) (eC (.str [110, 117, 109, 98, 101, 114]))) (e2 (fdivD) (eM 2) (eM 1)))
  (sRet (e2 (modD) (eM 2) (eM 1)))) sNil)
  (sSeq (sSet 3 (e2 (modD) (e2 (addD) (e2 (mulDD) (e2 (ixD) (eM 0) (eC (.str [115, 101, 101, 100]))) (eC (.int 48271))) (eC (.int 5003))) (eC (.int 2147483647))))
  (sSeq (sAsg (gSt (pSl 0) (eC (.str [115, 101, 101, 100]))) (e2 (modD) (e2 (addD) (e2 (mulDD) (eM 3) (eC (.int 39373))) (eC (.int 60013))) (eC (.int 2147483587))))
  (sSeq (sSet 4 (e2 (modD) (e2 (mulDD) (e2 (ixD) (eM 0) (eC (.str [115, 101, 101, 100]))) (e2 (ixD) (eM 0) (eC (.str [115, 101, 101, 100])))) (eC (.int 2147483549))))
  (sRet (e2 (modD) (e2 (addD) (e2 (mulDD) (e2 (modD) (e2 (mulDD) (eM 3) (eM 3)) (eC (.int 2147483563))) (eC (.int 2147483549))) (eM 4)) (eM 1)))))))))
noncomputable def sem_law_draw : List D → Out (List D) D := bodyF 5 [2, 3, 4] b_law_draw
noncomputable def b_law_alphabet : Cm Fl := (sSeq (sSet 2 (eCa listDD (aCons (eC (.str [97, 98, 99, 100, 101, 102, 103, 104, 105, 106, 107, 108, 109, 110, 111, 112, 113, 114, 115, 116, 117, 118, 119, 120, 121, 122])) aNil)))
  (sRet (eMe "str" joinD (eC (.str [])) (aCons (eCa sortedD (aCons (eComp [3] (rng1 (aCons (eN 1) aNil)) (gN 3) bYes (eZ (eMut "list" false popAtD (pSl 2) (aCons (eZ (callD 2 sem_law_draw [] (aCons (eM 0) (aCons (eCa lenD (aCons (eM 2) aNil)) aNil)))) aNil)))) aNil)) aNil))))
noncomputable def sem_law_alphabet : List D → Out (List D) D := bodyF 4 [2] b_law_alphabet
noncomputable def b_law_word : Cm Fl := (sSeq (sSet 3 (eZ (callD 2 sem_law_draw [] (aCons (eM 0) (aCons (e2 (addD) (eM 2) (eC (.int 1))) aNil)))))
  (sSeq (sSet 4 (eMe "str" joinD (eC (.str [])) (aCons (eComp [5] (rng1 (aCons (eN 3) aNil)) (gN 5) bYes (e2 (ixD) (eM 1) (callD 2 sem_law_draw [] (aCons (eM 0) (aCons (eCa lenD (aCons (eM 1) aNil)) aNil))))) aNil)))
  (sSeq (sIf (toB (e2 (eqDD false) (callD 2 sem_law_draw [] (aCons (eM 0) (aCons (eC (.int 4)) aNil))) (eC (.int 0)))) (sSet 4 (eZ (eSl (e2 (mulDD) (eSl (eM 4) oNone (oSome (e2 (addD) (eC (.int 1)) (callD 2 sem_law_draw [] (aCons (eM 0) (aCons (eC (.int 3)) aNil)))))) (eC (.int 6))) oNone (oSome (eM 3))))) sNil)
  (sRet (eN 4)))))
noncomputable def sem_law_word : List D → Out (List D) D := bodyF 6 [3, 4, 4] b_law_word
noncomputable def b_law_order : Cm Fl := (sRet (eTup (aCons (eCa lenD (aCons (eM 0) aNil)) (aCons (eN 0) aNil))))
noncomputable def sem_law_order : List D → Out (List D) D := bodyF 1 [] b_law_order
noncomputable def law_due_f1b : Cm Fl := (sFgt [3, 4] (sSeq (sSet 4 (eMe "str" joinD (eC (.str [])) (aCons (eComp [5, 6] (srcE (eN 0)) (gTupD 2 (gsCons (gN 5) (gsCons (gN 6) gsNil))) (toB (e2 (eqDD false) (e2 (bandD) (e2 (shrD) (eM 3) (eM 5)) (eC (.int 1))) (eC (.int 1)))) (eN 6)) aNil)))
  (sIf (bAnd (toB (e2 (leD) (eCa lenD (aCons (eM 4) aNil)) (eM 1))) (toB (e2 (inDD true) (eM 4) (eM 2)))) (sDrop (eMut "list" true appD (pSl 2) (aCons (eM 4) aNil))) sNil)))
noncomputable def b_law_due : Cm Fl := (sSeq (sSet 2 (eLst aNil))
  (sSeq (sPre [3, 4] (sFor [3, 4] (rng1 (aCons (e2 (shlD) (eC (.int 1)) (eCa lenD (aCons (eM 0) aNil))) aNil)) (gN 3) law_due_f1b))
  (sRet (eCa tupleD (aCons (eCa (sortKD false) (aCons (eM 2) aNil)) aNil)))))
noncomputable def sem_law_due : List D → Out (List D) D := bodyF 7 [2, 3, 4] b_law_due
noncomputable def law_f1b : Cm Fl := (sFgt [4, 5] (sIf (toB (e2 (eqDD true) (eCa reprD (aCons (callD 2 sem_answers [] (aCons (eM 4) (aCons (eM 5) aNil))) aNil)) (eCa reprD (aCons (callD 2 sem_law_due [] (aCons (eM 4) (aCons (eM 5) aNil))) aNil)))) (sRet (eC (.bl false))) sNil))
noncomputable def b_law : Cm Fl := (sSeq (sSet 1 (callD 2 sem_law_deal [] (aCons (eM 0) (aCons (eC (.int 0)) aNil))))
  (sSeq (sSet 2 (eZ (callD 2 sem_law_alphabet [] (aCons (eM 1) (aCons (eZ (e2 (addD) (eC (.int 1)) (callD 2 sem_law_draw [] (aCons (eM 1) (aCons (eC (.int 3)) aNil))))) aNil)))))
  (sSeq (sSet 3 (eComp [6] (rng1 (aCons (eC (.int 3)) aNil)) (gN 6) bYes (eZ (eTup (aCons (eZ (callD 3 sem_law_word [] (aCons (eM 1) (aCons (eM 2) (aCons (eC (.int 6)) aNil))))) (aCons (eZ (callD 2 sem_law_draw [] (aCons (eM 1) (aCons (eC (.int 4)) aNil)))) aNil))))))
  (sSeq (sDrop (eMut "list" false appD (pSl 3) (aCons (eZ (eTup (aCons (e2 (ixD) (e2 (ixD) (eM 3) (eC (.int 0))) (eC (.int 0))) (aCons (eZ (callD 2 sem_law_draw [] (aCons (eM 1) (aCons (eC (.int 4)) aNil)))) aNil)))) aNil)))
  (sSeq (sPre [4, 5] (sFor [4, 5] (srcA (e2 (addD) (eM 3) (eSl (eM 3) oNone (oSome (eC (.int 1)))))) (gTupD 2 (gsCons (gN 4) (gsCons (gN 5) gsNil))) law_f1b))
  (sRet (eC (.bl true))))))))
noncomputable def sem_law : List D → Out (List D) D := bodyF 7 [1, 2, 3, 4, 5] b_law
end Lw

set_option linter.all false
set_option maxRecDepth 100000
set_option maxHeartbeats 0
namespace Ty
open Lf Dl L2
noncomputable def law_deal (script1 : (List Int)) (base2 : Int) : R (Int × Int × (List Int)) :=
  grd ((cutL script1 (some base2) (some (63 : Int))).length ≤ 16777216) <|
  nm (((cutL script1 (some base2) (some (63 : Int))).map fun x3 => (if ((0 : Int) - x3) > x3 then ((0 : Int) - x3) else x3))) fun cells5 =>
  nm (((6271 : Int) + ((11 : Int) * base2))) fun number6 =>
  forK cells5 (fun cell7 next9 number8 =>
    nm (((((number8 * (69313 : Int)) + (cell7 % (2147483579 : Int))) + (17 : Int)) % (2147483647 : Int))) fun number14 =>
    next9 number14) (fun number8 =>
    grd ((cells5.filter fun x12 => (decide (((10 : Int) ^ 18) ≤ x12))).length ≤ 16777216) <|
    .ok (number8, (0 : Int), ((cells5.filter fun x12 => (decide (((10 : Int) ^ 18) ≤ x12))).reverse))) number6
noncomputable def law_draw (deal1 : (Int × Int × (List Int))) (many2 : Int) : R (Int × (Int × Int × (List Int))) :=
  fwd (whileR (fun deal3 =>
    .ok ((decide (deal3.2.1 = (0 : Int))) && (decide ((0 : Int) < (deal3.2.2.length : Int))))) (fun deal3 =>
    opt (deal3.2.2.getLast?) fun x4 =>
    .ok (.nx (deal3.1, x4, deal3.2.2.dropLast))) deal1) fun deal3 =>
  if (decide ((0 : Int) < deal3.2.1)) = true then
    grd (0 < many2 ∧ many2 < 1073741824) <|
    grd (0 < many2) <|
    .ok ((deal3.2.1 % many2), (deal3.1, (deal3.2.1 / many2), deal3.2.2))
  else
    nm ((((deal3.1 * (48271 : Int)) + (5003 : Int)) % (2147483647 : Int))) fun one8 =>
    grd (mulOk (((one8 * (39373 : Int)) + (60013 : Int)) % (2147483587 : Int)) (((one8 * (39373 : Int)) + (60013 : Int)) % (2147483587 : Int))) <|
    nm ((((((one8 * (39373 : Int)) + (60013 : Int)) % (2147483587 : Int)) * (((one8 * (39373 : Int)) + (60013 : Int)) % (2147483587 : Int))) % (2147483549 : Int))) fun other10 =>
    grd (mulOk one8 one8) <|
    grd (0 < many2) <|
    .ok ((((((one8 * one8) % (2147483563 : Int)) * (2147483549 : Int)) + other10) % many2), ((((one8 * (39373 : Int)) + (60013 : Int)) % (2147483587 : Int)), deal3.2.1, deal3.2.2))
noncomputable def law_alphabet (deal1 : (Int × Int × (List Int))) (many2 : Int) : R (Tx × (Int × Int × (List Int))) :=
  grd ((['a', 'b', 'c', 'd', 'e', 'f', 'g', 'h', 'i', 'j', 'k', 'l', 'm', 'n', 'o', 'p', 'q', 'r', 's', 't', 'u', 'v', 'w', 'x', 'y', 'z']).length ≤ 16777216) <|
  nm (['a', 'b', 'c', 'd', 'e', 'f', 'g', 'h', 'i', 'j', 'k', 'l', 'm', 'n', 'o', 'p', 'q', 'r', 's', 't', 'u', 'v', 'w', 'x', 'y', 'z']) fun left4 =>
  grd (inR many2) <|
  call (mapS (rgI (0 : Int) many2.toNat) (fun x6 s12 => call (law_draw s12.1 (s12.2.length : Int)) fun draw13 => opt (popX s12.2 draw13.1) fun x15 => grd (inR draw13.1) <| .ok (x15.1, (draw13.2, x15.2))) (deal1, left4)) fun ys18 =>
  grd (ys18.1.length ≤ 16777216) <|
  grd (sortP zC ys18.1) <|
  grd ((sortT zC ys18.1).length ≤ 16777216) <|
  .ok (sortT zC ys18.1, ys18.2.1)
noncomputable def law_word (deal1 : (Int × Int × (List Int))) (letters2 : Tx) (most3 : Int) : R (Tx × (Int × Int × (List Int))) :=
  call (law_draw deal1 (most3 + (1 : Int))) fun draw4 =>
  grd (inR draw4.1) <|
  call (mapS (rgI (0 : Int) draw4.1.toNat) (fun x7 s14 => grd (letters2.length ≤ 16777216) <| call (law_draw s14 (letters2.length : Int)) fun draw16 => grd (letters2.length ≤ 16777216) <| opt (atI letters2 draw16.1) fun c19 => .ok (c19, draw16.2)) draw4.2) fun ys21 =>
  grd (ys21.1.length ≤ 16777216) <|
  grd (ys21.1.length ≤ 16777216) <|
  call (law_draw ys21.2 (4 : Int)) fun draw25 =>
  R.bind (if (decide (draw25.1 = (0 : Int))) = true then
    call (law_draw draw25.2 (3 : Int)) fun draw28 =>
    grd (ys21.1.length ≤ 16777216) <|
    grd ((cutL ys21.1 none (some ((1 : Int) + draw28.1))).length ≤ 4096 ∧ (6 : Int) ≤ 4096 ∧ -4096 ≤ (6 : Int)) <|
    grd ((repX (cutL ys21.1 none (some ((1 : Int) + draw28.1))) (6 : Int)).length ≤ 16777216) <|
    nm (cutL (repX (cutL ys21.1 none (some ((1 : Int) + draw28.1))) (6 : Int)) none (some draw4.1)) fun word33 =>
    .ok (draw28.2, word33)
  else
    .ok (draw25.2, ys21.1)) fun j27 =>
  .ok (j27.2, j27.1)
noncomputable def with_letter (known1 : (List Tx)) (letter2 : Char) (n3 : Int) : R ((List Tx) × (List Tx)) :=
  forK known1 (fun one4 next6 (found5 : ((List Tx))) => R.bind (
    grd (one4.length ≤ 16777216) <|
    if (decide ((one4.length : Int) < n3)) = true then
      grd (one4.length + ([letter2]).length ≤ 16777216) <|
      grd (found5.length < 16777216) <|
      .ok (putX found5 (one4 ++ [letter2]))
    else
      .ok found5) next6) (fun found5 =>
    .ok (found5, known1)) known1
noncomputable def answered_yes (word1 : Tx) (n2 : Int) : R (List Tx) :=
  nm (([[]] : List Tx)) fun known3 =>
  forK word1 (fun letter4 next6 known5 =>
    call (with_letter known5 letter4 n2) fun with_l9 =>
    next6 with_l9.1) (fun known5 =>
    .ok known5) known3
noncomputable def answers (word1 : Tx) (n2 : Int) : R (List Tx) :=
  call (answered_yes word1 n2) fun answer3 =>
  grd ((answer3.all fun s => decide (s.length ≤ 16777216)) = true) <|
  .ok (srtLX false answer3)
noncomputable def law_due (word1 : Tx) (n2 : Int) : R (List Tx) :=
  grd (word1.length ≤ 16777216) <|
  grd (0 ≤ (word1.length : Int) ∧ (word1.length : Int) ≤ 1000000 ∧ (1 : Int).natAbs < 18446744073709551616) <|
  grd (inR ((1 : Int) * 2 ^ (word1.length : Int).toNat)) <|
  forK (rgI (0 : Int) ((1 : Int) * 2 ^ (word1.length : Int).toNat).toNat) (fun picked6 next8 found7 =>
    call (fmapR (enX word1) fun x12 => grd (0 ≤ x12.1) <| if (decide (((picked6 / 2 ^ x12.1.toNat) % 2) = (1 : Int))) = true then .ok (some x12.2) else .ok none) fun ys14 =>
    grd (ys14.length ≤ 16777216) <|
    grd (ys14.length ≤ 16777216) <|
    grd (ys14.length ≤ 16777216) <|
    if ((decide ((ys14.length : Int) ≤ n2)) && (!memX ys14 found7)) = true then
      grd (found7.length < 16777216) <|
      next8 (found7 ++ [ys14])
    else
      next8 found7) (fun found7 =>
    grd ((found7.all fun s => decide (s.length ≤ 16777216)) = true) <|
    .ok (srtLX false found7)) ([] : (List Tx))
noncomputable def law (script1 : (List Int)) : R Bool :=
  call (law_deal script1 (0 : Int)) fun deal2 =>
  call (law_draw deal2 (3 : Int)) fun draw4 =>
  call (law_alphabet draw4.2 ((1 : Int) + draw4.1)) fun alphab6 =>
  grd (inR (3 : Int)) <|
  call (mapS (rgI (0 : Int) (3 : Int).toNat) (fun x9 s14 => call (law_word s14 alphab6.1 (6 : Int)) fun word15 => call (law_draw word15.2 (4 : Int)) fun draw17 => .ok ((word15.1, draw17.1), draw17.2)) alphab6.2) fun ys19 =>
  grd (ys19.1.length ≤ 16777216) <|
  opt (atI ys19.1 (0 : Int)) fun v22 =>
  call (law_draw ys19.2 (4 : Int)) fun draw24 =>
  grd (ys19.1.length < 16777216) <|
  grd ((ys19.1 ++ [(v22.1, draw24.1)]).length + (cutL (ys19.1 ++ [(v22.1, draw24.1)]) none (some (1 : Int))).length ≤ 16777216) <|
  forK ((ys19.1 ++ [(v22.1, draw24.1)]) ++ cutL (ys19.1 ++ [(v22.1, draw24.1)]) none (some (1 : Int))) (fun x28 next30 s29 =>
    call (answers x28.1 x28.2) fun answer33 =>
    grd (reprOk ((zQ zS) answer33)) <|
    call (law_due x28.1 x28.2) fun due36 =>
    grd (reprOk ((zQ zS) due36)) <|
    if (!decide (shD ((zQ zS) answer33) = shD ((zQ zS) due36))) = true then .ok false else next30 ()) (fun s29 =>
    .ok true) ()
end Ty

set_option linter.all false
set_option maxRecDepth 100000
set_option maxHeartbeats 0
namespace Lw
open PySem hiding Env
open PySem.Spec hiding Tm
open PyProof.Rows L2 Dl Lf
theorem l_law_deal (cl : Nat → Addr) (script1 : (List Int)) (base2 : Int) : RefF cl 2 (sem_law_deal [zScr script1, zI base2]) (Ty.law_deal script1 base2) (fun v => ((zD3 [(.str [115, 101, 101, 100]), (.str [110, 117, 109, 98, 101, 114]), (.str [108, 101, 102, 116])] zI zI (zL true zI)) v, [zScr script1, zI base2])) := by
  refine lift_go (nl := 5) (ds := [zScr script1, zI base2]) (ρ0 := [some (zScr script1), some (zI base2), none, none, none]) rfl ?_
  refine ref_top ?_
  refine ref_seq ?_
  refine ref_grd fun h4 => ?_
  refine ref_nm (e := (zL false zI)) (ev_Z (ev_compM (ρ2 := [some (zScr script1), some (zI base2), none, none, none]) (e := zI) (xs := (cutL script1 (some base2) (some (63 : Int)))) (r := zI) (q := fun x3 => (if ((0 : Int) - x3) > x3 then ((0 : Int) - x3) else x3)) (src_L (ev_sl (ev_M rfl) (eo_some (ev_M rfl) rfl) (eo_some ev_C rfl) rfl (op_slScr script1 _ _)) nI.cold) rfl (fun x3 => ⟨_, rfl, (ev_Zc (ev_ca (ea_cons (ev_M rfl) (ea_cons (ev_2 ev_C (ev_M rfl) rfl rfl (op_sub (0 : Int) x3)) ea_nil)) rfl (op_max2 x3 ((0 : Int) - x3))) (nI.cold _)), rfl⟩) h4) (fz_L nI.cold _).1 (fz_L nI.cold _).2) rfl fun cells5 => ?_
  refine ref_nx ?_
  refine ref_seq ?_
  refine ref_nm (e := zI) (ev_2 ev_C (ev_2 ev_C (ev_M rfl) rfl rfl (op_mulL (11 : Int) base2 rfl)) rfl rfl (op_add (6271 : Int) ((11 : Int) * base2))) rfl fun number6 => ?_
  refine ref_nx ?_
  refine ref_seq ?_
  refine ref_pre ?_
  refine ref_for (E := (fun (number8 : (Int)) => [some (zScr script1), some (zI base2), some ((zL false zI) cells5), some (zI number8), none])) (e := zI) (src_L (ev_N rfl ((nL nI).own _)) nI.cold) rfl (fun cell7 Kn10 next9 h11 number8 => ⟨_, rfl, ?_⟩) fun number8 => ?_
  · refine ref_fg ?_
    refine ref_nm (e := zI) (ev_2 (ev_2 (ev_2 (ev_2 (ev_M rfl) ev_C rfl rfl (op_mulR number8 (69313 : Int) rfl)) (ev_2 (ev_M rfl) ev_C rfl rfl (op_mod cell7 (2147483579 : Int) (by decide))) rfl rfl (op_add (number8 * (69313 : Int)) (cell7 % (2147483579 : Int)))) ev_C rfl rfl (op_add ((number8 * (69313 : Int)) + (cell7 % (2147483579 : Int))) (17 : Int))) ev_C rfl rfl (op_mod (((number8 * (69313 : Int)) + (cell7 % (2147483579 : Int))) + (17 : Int)) (2147483647 : Int) (by decide))) rfl fun number14 => ?_
    refine ref_fgnx ?_
    exact h11 number14
  · refine ref_nx ?_
    refine ref_grd fun h13 => ?_
    refine ref_ret (d := (zD3 [(.str [115, 101, 101, 100]), (.str [110, 117, 109, 98, 101, 114]), (.str [108, 101, 102, 116])] zI zI (zL true zI)) (number8, (0 : Int), ((cells5.filter fun x12 => (decide (((10 : Int) ^ 18) ≤ x12))).reverse))) (ev_as (d' := (zD3 [(.str [115, 101, 101, 100]), (.str [110, 117, 109, 98, 101, 114]), (.str [108, 101, 102, 116])] zI zI (zL true zI)) (number8, (0 : Int), ((cells5.filter fun x12 => (decide (((10 : Int) ^ 18) ≤ x12))).reverse))) (ev_dsp (ds := [zI number8, zI (0 : Int), (zL true zI) ((cells5.filter fun x12 => (decide (((10 : Int) ^ 18) ≤ x12))).reverse)]) (ea_cons (ev_N rfl (nI.own _)) (ea_cons ev_C (ea_cons (ev_lrev (l := (cells5.filter fun x12 => (decide (((10 : Int) ^ 18) ≤ x12)))) (ev_compF (ρ2 := [some (zScr script1), some (zI base2), some ((zL false zI) cells5), some (zI number8), none]) (e := zI) (xs := cells5) (p := fun x12 => (decide (((10 : Int) ^ 18) ≤ x12))) (src_L (ev_N rfl ((nL nI).own _)) nI.cold) rfl (fun x12 => ⟨_, rfl, (eb_val (ev_2 (ev_M rfl) (ev_2 ev_C ev_C rfl rfl (op_pow (10 : Int) 18 rfl rfl)) rfl rfl (op_ge x12 ((10 : Int) ^ 18)))), (ev_N rfl (nI.own _)), rfl⟩) h13) rfl nI.cold) ea_nil))) rfl) rfl) ?_
    exact ref_done rfl ⟨rfl, (fin_c rfl (fin_c (nI.own _) fin_0))⟩
theorem l_law_draw (cl : Nat → Addr) (deal1 : (Int × Int × (List Int))) (many2 : Int) : RefF cl 2 (sem_law_draw [(zD3 [(.str [115, 101, 101, 100]), (.str [110, 117, 109, 98, 101, 114]), (.str [108, 101, 102, 116])] zI zI (zL true zI)) deal1, zI many2]) (Ty.law_draw deal1 many2) (fun v => (zI v.1, [(zD3 [(.str [115, 101, 101, 100]), (.str [110, 117, 109, 98, 101, 114]), (.str [108, 101, 102, 116])] zI zI (zL true zI)) v.2, zI many2])) := by
  refine lift_go (nl := 5) (ds := [(zD3 [(.str [115, 101, 101, 100]), (.str [110, 117, 109, 98, 101, 114]), (.str [108, 101, 102, 116])] zI zI (zL true zI)) deal1, zI many2]) (ρ0 := [some ((zD3 [(.str [115, 101, 101, 100]), (.str [110, 117, 109, 98, 101, 114]), (.str [108, 101, 102, 116])] zI zI (zL true zI)) deal1), some (zI many2), none, none, none]) rfl ?_
  refine ref_top ?_
  refine ref_seq ?_
  refine ref_while (E := (fun (deal3 : ((Int × Int × (List Int)))) => [some ((zD3 [(.str [115, 101, 101, 100]), (.str [110, 117, 109, 98, 101, 114]), (.str [108, 101, 102, 116])] zI zI (zL true zI)) deal3), some (zI many2), none, none, none])) (fun deal3 => ?_) (fun deal3 => ?_) (fun deal3 => ?_) rfl
  · exact ref_done (eb_and (eb_val (ev_2 (ev_2 (ev_M rfl) ev_C rfl rfl (ix_dic (d := zI deal3.2.1) rfl rfl (nI.own _))) ev_C rfl rfl (op_eq nI deal3.2.1 (0 : Int) rfl))) (eb_val (ev_2 (ev_caX ⟨_, rfl, rfl⟩ (op_lenL deal3.2.2)) ev_C rfl rfl (op_gt (deal3.2.2.length : Int) (0 : Int))))) ⟨rfl, rfl⟩
  · refine ref_top ?_
    refine ref_opt fun x4 h5 => ?_
    refine ref_asg (d := zI x4) (ev_Zc (ev_mut0 rfl rfl rfl (op_pop (e := zI) deal3.2.2 x4 h5)) (nI.cold _)) rfl ?_
    exact ref_done rfl ⟨.inl rfl, rfl⟩
  · refine ref_nx ?_
    refine ref_seq ?_
    refine ref_set (d := zI deal3.2.1) (ev_2 (ev_M rfl) ev_C rfl rfl (ix_dic (d := zI deal3.2.1) rfl rfl (nI.own _))) rfl ?_
    refine ref_nx ?_
    refine ref_seq ?_
    refine ref_if (k := (decide ((0 : Int) < deal3.2.1))) (eb_val (ev_2 (ev_M rfl) ev_C rfl rfl (op_gt deal3.2.1 (0 : Int)))) (fun h13 => ?_) fun h13 => ?_
    · refine ref_seq ?_
      refine ref_grd fun h6 => ?_
      refine ref_asg (d := zI (deal3.2.1 / many2)) (ev_2 (ev_M rfl) (ev_M rfl) rfl rfl (op_fdiv deal3.2.1 many2 h6)) rfl ?_
      refine ref_nx ?_
      refine ref_grd fun h7 => ?_
      refine ref_ret (d := zI (deal3.2.1 % many2)) (ev_2 (ev_M rfl) (ev_M rfl) rfl rfl (op_mod deal3.2.1 many2 h7)) ?_
      exact ref_done rfl ⟨rfl, (fin_o rfl rfl (fin_c (nI.own _) fin_0))⟩
    · refine ref_nil ?_
      refine ref_nx ?_
      refine ref_seq ?_
      refine ref_nm (e := zI) (ev_2 (ev_2 (ev_2 (ev_2 (ev_M rfl) ev_C rfl rfl (ix_dic (d := zI deal3.1) rfl rfl (nI.own _))) ev_C rfl rfl (op_mulR deal3.1 (48271 : Int) rfl)) ev_C rfl rfl (op_add (deal3.1 * (48271 : Int)) (5003 : Int))) ev_C rfl rfl (op_mod ((deal3.1 * (48271 : Int)) + (5003 : Int)) (2147483647 : Int) (by decide))) rfl fun one8 => ?_
      refine ref_nx ?_
      refine ref_seq ?_
      refine ref_asg (d := zI (((one8 * (39373 : Int)) + (60013 : Int)) % (2147483587 : Int))) (ev_2 (ev_2 (ev_2 (ev_M rfl) ev_C rfl rfl (op_mulR one8 (39373 : Int) rfl)) ev_C rfl rfl (op_add (one8 * (39373 : Int)) (60013 : Int))) ev_C rfl rfl (op_mod ((one8 * (39373 : Int)) + (60013 : Int)) (2147483587 : Int) (by decide))) rfl ?_
      refine ref_nx ?_
      refine ref_seq ?_
      refine ref_grd fun h9 => ?_
      refine ref_nm (e := zI) (ev_2 (ev_2 (ev_2 (ev_M rfl) ev_C rfl rfl (ix_dic (d := zI (((one8 * (39373 : Int)) + (60013 : Int)) % (2147483587 : Int))) rfl rfl (nI.own _))) (ev_2 (ev_M rfl) ev_C rfl rfl (ix_dic (d := zI (((one8 * (39373 : Int)) + (60013 : Int)) % (2147483587 : Int))) rfl rfl (nI.own _))) rfl rfl (op_mul (((one8 * (39373 : Int)) + (60013 : Int)) % (2147483587 : Int)) (((one8 * (39373 : Int)) + (60013 : Int)) % (2147483587 : Int)) h9)) ev_C rfl rfl (op_mod ((((one8 * (39373 : Int)) + (60013 : Int)) % (2147483587 : Int)) * (((one8 * (39373 : Int)) + (60013 : Int)) % (2147483587 : Int))) (2147483549 : Int) (by decide))) rfl fun other10 => ?_
      refine ref_nx ?_
      refine ref_grd fun h11 => ?_
      refine ref_grd fun h12 => ?_
      refine ref_ret (d := zI (((((one8 * one8) % (2147483563 : Int)) * (2147483549 : Int)) + other10) % many2)) (ev_2 (ev_2 (ev_2 (ev_2 (ev_2 (ev_M rfl) (ev_M rfl) rfl rfl (op_mul one8 one8 h11)) ev_C rfl rfl (op_mod (one8 * one8) (2147483563 : Int) (by decide))) ev_C rfl rfl (op_mulR ((one8 * one8) % (2147483563 : Int)) (2147483549 : Int) rfl)) (ev_M rfl) rfl rfl (op_add (((one8 * one8) % (2147483563 : Int)) * (2147483549 : Int)) other10)) (ev_M rfl) rfl rfl (op_mod ((((one8 * one8) % (2147483563 : Int)) * (2147483549 : Int)) + other10) many2 h12)) ?_
      exact ref_done rfl ⟨rfl, (fin_o rfl rfl (fin_c (nI.own _) fin_0))⟩
theorem l_law_alphabet (cl : Nat → Addr) (deal1 : (Int × Int × (List Int))) (many2 : Int) : RefF cl 2 (sem_law_alphabet [(zD3 [(.str [115, 101, 101, 100]), (.str [110, 117, 109, 98, 101, 114]), (.str [108, 101, 102, 116])] zI zI (zL true zI)) deal1, zI many2]) (Ty.law_alphabet deal1 many2) (fun v => (zS v.1, [(zD3 [(.str [115, 101, 101, 100]), (.str [110, 117, 109, 98, 101, 114]), (.str [108, 101, 102, 116])] zI zI (zL true zI)) v.2, zI many2])) := by
  refine lift_go (nl := 4) (ds := [(zD3 [(.str [115, 101, 101, 100]), (.str [110, 117, 109, 98, 101, 114]), (.str [108, 101, 102, 116])] zI zI (zL true zI)) deal1, zI many2]) (ρ0 := [some ((zD3 [(.str [115, 101, 101, 100]), (.str [110, 117, 109, 98, 101, 114]), (.str [108, 101, 102, 116])] zI zI (zL true zI)) deal1), some (zI many2), none, none]) rfl ?_
  refine ref_top ?_
  refine ref_seq ?_
  refine ref_grd fun h3 => ?_
  refine ref_nm (e := (zL true zC)) (ev_ca (ea_cons ev_C ea_nil) rfl (op_listS (['a', 'b', 'c', 'd', 'e', 'f', 'g', 'h', 'i', 'j', 'k', 'l', 'm', 'n', 'o', 'p', 'q', 'r', 's', 't', 'u', 'v', 'w', 'x', 'y', 'z']) h3)) rfl fun left4 => ?_
  refine ref_nx ?_
  refine ref_grd fun h5 => ?_
  refine ref_call fun ys18 h19 => ?_
  refine ref_grd fun h20 => ?_
  refine ref_grd fun h21 => ?_
  refine ref_grd fun h22 => ?_
  refine ref_ret (d := zS (sortT zC ys18.1)) (ev_me ev_C rfl rfl (ea_cons (ev_ca (ea_cons (ev_compS (σ := (Int × Int × (List Int)) × (List Char)) (E := fun s12 => [some ((zD3 [(.str [115, 101, 101, 100]), (.str [110, 117, 109, 98, 101, 114]), (.str [108, 101, 102, 116])] zI zI (zL true zI)) s12.1), some (zI many2), some ((zL true zC) s12.2), none]) (e := zI) (r := zC) (src_1 (ea_cons (ev_N rfl (nI.own _)) ea_nil) h5) rfl (fun x6 s12 => ⟨_, rfl, fun y hh => by obtain ⟨draw13, h14, hh⟩ := call_inv hh; obtain ⟨x15, h16, hh⟩ := opt_inv hh; obtain ⟨h17, hh⟩ := grd_inv hh; cases ok_inj hh; exact ⟨_, (ev_Zc (ev_mut rfl rfl rfl (ea_cons (ev_Zc (ev_call (ρ3 := [some ((zD3 [(.str [115, 101, 101, 100]), (.str [110, 117, 109, 98, 101, 114]), (.str [108, 101, 102, 116])] zI zI (zL true zI)) draw13.2), some (zI many2), some ((zL true zC) s12.2), some (zI x6)]) (l_law_draw cl s12.1 (s12.2.length : Int)) (ea_cons (ev_M rfl) (ea_cons (ev_ca (ea_cons (ev_M rfl) ea_nil) rfl (op_lenL s12.2)) ea_nil)) rfl (lend_o rfl rfl (lend_1 lend_0)) h14 (rest_o rfl rfl (rest_1 rest_0))) (nI.cold _)) ea_nil) rfl (lend_1 lend_0) rfl (op_popAt (e := zC) s12.2 draw13.1 x15 h16 h17)) (nC.cold _)), rfl⟩⟩) h19 h20) ea_nil) rfl (op_sort nC.cold ys18.1 h21)) ea_nil) rfl (op_joinC (sortT zC ys18.1) h22)) ?_
  exact ref_done rfl ⟨rfl, (fin_o rfl rfl (fin_c (nI.own _) fin_0))⟩
theorem l_law_word (cl : Nat → Addr) (deal1 : (Int × Int × (List Int))) (letters2 : Tx) (most3 : Int) : RefF cl 3 (sem_law_word [(zD3 [(.str [115, 101, 101, 100]), (.str [110, 117, 109, 98, 101, 114]), (.str [108, 101, 102, 116])] zI zI (zL true zI)) deal1, zS letters2, zI most3]) (Ty.law_word deal1 letters2 most3) (fun v => (zS v.1, [(zD3 [(.str [115, 101, 101, 100]), (.str [110, 117, 109, 98, 101, 114]), (.str [108, 101, 102, 116])] zI zI (zL true zI)) v.2, zS letters2, zI most3])) := by
  refine lift_go (nl := 6) (ds := [(zD3 [(.str [115, 101, 101, 100]), (.str [110, 117, 109, 98, 101, 114]), (.str [108, 101, 102, 116])] zI zI (zL true zI)) deal1, zS letters2, zI most3]) (ρ0 := [some ((zD3 [(.str [115, 101, 101, 100]), (.str [110, 117, 109, 98, 101, 114]), (.str [108, 101, 102, 116])] zI zI (zL true zI)) deal1), some (zS letters2), some (zI most3), none, none, none]) rfl ?_
  refine ref_top ?_
  refine ref_seq ?_
  refine ref_call fun draw4 h5 => ?_
  refine ref_set (d := zI draw4.1) (ev_Zc (ev_call (ρ3 := [some ((zD3 [(.str [115, 101, 101, 100]), (.str [110, 117, 109, 98, 101, 114]), (.str [108, 101, 102, 116])] zI zI (zL true zI)) draw4.2), some (zS letters2), some (zI most3), none, none, none]) (l_law_draw cl deal1 (most3 + (1 : Int))) (ea_cons (ev_M rfl) (ea_cons (ev_2 (ev_M rfl) ev_C rfl rfl (op_add most3 (1 : Int))) ea_nil)) rfl (lend_o rfl rfl (lend_1 lend_0)) h5 (rest_o rfl rfl (rest_1 rest_0))) (nI.cold _)) rfl ?_
  refine ref_nx ?_
  refine ref_seq ?_
  refine ref_grd fun h6 => ?_
  refine ref_call fun ys21 h22 => ?_
  refine ref_grd fun h23 => ?_
  refine ref_grd fun h24 => ?_
  refine ref_set (d := zS ys21.1) (ev_me ev_C rfl rfl (ea_cons (ev_compS (σ := (Int × Int × (List Int))) (E := fun s14 => [some ((zD3 [(.str [115, 101, 101, 100]), (.str [110, 117, 109, 98, 101, 114]), (.str [108, 101, 102, 116])] zI zI (zL true zI)) s14), some (zS letters2), some (zI most3), some (zI draw4.1), none, none]) (e := zI) (r := zC) (src_1 (ea_cons (ev_N rfl (nI.own _)) ea_nil) h6) rfl (fun x7 s14 => ⟨_, rfl, fun y hh => by obtain ⟨h15, hh⟩ := grd_inv hh; obtain ⟨draw16, h17, hh⟩ := call_inv hh; obtain ⟨h18, hh⟩ := grd_inv hh; obtain ⟨c19, h20, hh⟩ := opt_inv hh; cases ok_inj hh; exact ⟨_, (ev_2 (ev_M rfl) (ev_call (ρ3 := [some ((zD3 [(.str [115, 101, 101, 100]), (.str [110, 117, 109, 98, 101, 114]), (.str [108, 101, 102, 116])] zI zI (zL true zI)) draw16.2), some (zS letters2), some (zI most3), some (zI draw4.1), none, some (zI x7)]) (l_law_draw cl s14 (letters2.length : Int)) (ea_cons (ev_M rfl) (ea_cons (ev_ca (ea_cons (ev_M rfl) ea_nil) rfl (op_lenS letters2 h15)) ea_nil)) rfl (lend_o rfl rfl (lend_1 lend_0)) h17 (rest_o rfl rfl (rest_1 rest_0))) rfl rfl (op_ixS letters2 draw16.1 c19 h18 h20)), rfl⟩⟩) h22 h23) ea_nil) rfl (op_joinC ys21.1 h24)) rfl ?_
  refine ref_nx ?_
  refine ref_seq ?_
  refine ref_call fun draw25 h26 => ?_
  refine ref_join (E := (fun (j27 : ((Int × Int × (List Int)) × Tx)) => [some ((zD3 [(.str [115, 101, 101, 100]), (.str [110, 117, 109, 98, 101, 114]), (.str [108, 101, 102, 116])] zI zI (zL true zI)) j27.1), some (zS letters2), some (zI most3), some (zI draw4.1), some (zS j27.2), none])) ?_ fun j27 => ?_
  · refine ref_top ?_
    refine ref_if (k := (decide (draw25.1 = (0 : Int)))) (eb_val (ev_2 (ev_call (ρ3 := [some ((zD3 [(.str [115, 101, 101, 100]), (.str [110, 117, 109, 98, 101, 114]), (.str [108, 101, 102, 116])] zI zI (zL true zI)) draw25.2), some (zS letters2), some (zI most3), some (zI draw4.1), some (zS ys21.1), none]) (l_law_draw cl ys21.2 (4 : Int)) (ea_cons (ev_M rfl) (ea_cons ev_C ea_nil)) rfl (lend_o rfl rfl (lend_1 lend_0)) h26 (rest_o rfl rfl (rest_1 rest_0))) ev_C rfl rfl (op_eq nI draw25.1 (0 : Int) rfl))) (fun h34 => ?_) fun h34 => ?_
    · refine ref_call fun draw28 h29 => ?_
      refine ref_grd fun h30 => ?_
      refine ref_grd fun h31 => ?_
      refine ref_grd fun h32 => ?_
      refine ref_nm (e := zS) (ev_Zc (ev_sl (ev_2 (ev_sl (ev_M rfl) eo_none (eo_some (ev_2 ev_C (ev_call (ρ3 := [some ((zD3 [(.str [115, 101, 101, 100]), (.str [110, 117, 109, 98, 101, 114]), (.str [108, 101, 102, 116])] zI zI (zL true zI)) draw28.2), some (zS letters2), some (zI most3), some (zI draw4.1), some (zS ys21.1), none]) (l_law_draw cl draw25.2 (3 : Int)) (ea_cons (ev_M rfl) (ea_cons ev_C ea_nil)) rfl (lend_o rfl rfl (lend_1 lend_0)) h29 (rest_o rfl rfl (rest_1 rest_0))) rfl rfl (op_add (1 : Int) draw28.1)) rfl) rfl (op_slS ys21.1 _ _ h30)) ev_C rfl rfl (op_mulS (cutL ys21.1 none (some ((1 : Int) + draw28.1))) (6 : Int) h31)) eo_none (eo_some (ev_M rfl) rfl) rfl (op_slS (repX (cutL ys21.1 none (some ((1 : Int) + draw28.1))) (6 : Int)) _ _ h32)) (nS.cold _)) rfl fun word33 => ?_
      exact ref_done rfl ⟨rfl, rfl⟩
    · refine ref_nil ?_
      exact ref_done rfl ⟨rfl, rfl⟩
  · refine ref_nx ?_
    refine ref_ret (d := zS j27.2) (ev_N rfl (nS.own _)) ?_
    exact ref_done rfl ⟨rfl, (fin_o rfl rfl (fin_c (nS.own _) (fin_c (nI.own _) fin_0)))⟩
theorem l_with_letter (cl : Nat → Addr) (known1 : (List Tx)) (letter2 : Char) (n3 : Int) : RefF cl 3 (sem_with_letter [(zK true zS) known1, zC letter2, zI n3]) (Ty.with_letter known1 letter2 n3) (fun v => ((zK true zS) v.1, [(zK true zS) v.2, zC letter2, zI n3])) := by
  refine lift_go (nl := 5) (ds := [(zK true zS) known1, zC letter2, zI n3]) (ρ0 := [some ((zK true zS) known1), some (zC letter2), some (zI n3), none, none]) rfl ?_
  refine ref_top ?_
  refine ref_seq ?_
  refine ref_set (d := (zK true zS) known1) (ev_ca (ea_cons (ev_M rfl) ea_nil) rfl (op_dictK known1)) rfl ?_
  refine ref_nx ?_
  refine ref_seq ?_
  refine ref_pre ?_
  refine ref_forD (E := (fun (found5 : ((List Tx))) => [none, some (zC letter2), some (zI n3), some ((zK true zS) found5), none])) (e := zS) (xs := known1) rfl rfl (fun _ => rfl) rfl (fun one4 found5 => ⟨_, rfl, ?_⟩) fun found5 => ?_
  · refine ref_top ?_
    refine ref_fg ?_
    refine ref_grd fun h7 => ?_
    refine ref_if (k := (decide ((one4.length : Int) < n3))) (eb_val (ev_2 (ev_ca (ea_cons (ev_M rfl) ea_nil) rfl (op_lenS one4 h7)) (ev_M rfl) rfl rfl (op_lt (one4.length : Int) n3))) (fun h11 => ?_) fun h11 => ?_
    · refine ref_grd fun h8 => ?_
      refine ref_grd fun h9 => ?_
      refine ref_asg (d := .bl true) ev_C (tg_st rfl rfl (ev_2 (ev_M rfl) (ev_M rfl) rfl rfl (op_catS one4 ([letter2]) h8)) rfl (st_K kS _ _ h9)) ?_
      refine ref_fgnx ?_
      exact ref_done rfl ⟨.inl rfl, rfl⟩
    · refine ref_nil ?_
      refine ref_fgnx ?_
      exact ref_done rfl ⟨.inl rfl, rfl⟩
  · refine ref_nx ?_
    refine ref_ret (d := (zK true zS) found5) (ev_G rfl) ?_
    exact ref_done rfl ⟨rfl, (fin_o rfl rfl (fin_c (nC.own _) (fin_c (nI.own _) fin_0)))⟩
theorem l_answered_yes (cl : Nat → Addr) (word1 : Tx) (n2 : Int) : RefF cl 2 (sem_answered_yes [zS word1, zI n2]) (Ty.answered_yes word1 n2) (fun v => ((zK true zS) v, [zS word1, zI n2])) := by
  refine lift_go (nl := 4) (ds := [zS word1, zI n2]) (ρ0 := [some (zS word1), some (zI n2), none, none]) rfl ?_
  refine ref_top ?_
  refine ref_seq ?_
  refine ref_nm (e := (zK true zS)) (ev_as (d' := (zK true zS) ([[]] : List Tx)) (ev_dsp (ds := [zB true]) (ea_cons ev_C ea_nil) rfl) rfl) rfl fun known3 => ?_
  refine ref_nx ?_
  refine ref_seq ?_
  refine ref_pre ?_
  refine ref_for (E := (fun (known5 : ((List Tx))) => [some (zS word1), some (zI n2), some ((zK true zS) known5), none])) (e := zC) (src_S (ev_N rfl (nS.own _))) rfl (fun letter4 Kn7 next6 h8 known5 => ⟨_, rfl, ?_⟩) fun known5 => ?_
  · refine ref_fg ?_
    refine ref_call fun with_l9 h10 => ?_
    refine ref_set (d := (zK true zS) with_l9.1) (ev_call (ρ3 := [some (zS word1), some (zI n2), some ((zK true zS) with_l9.2), some (zC letter4)]) (l_with_letter cl known5 letter4 n2) (ea_cons (ev_M rfl) (ea_cons (ev_M rfl) (ea_cons (ev_M rfl) ea_nil))) rfl (lend_o rfl rfl (lend_c rfl (nC.own _) (lend_c rfl (nI.own _) lend_0))) h10 (rest_o rfl rfl (rest_c (nC.own _) (rest_c (nI.own _) rest_0)))) rfl ?_
    refine ref_fgnx ?_
    exact h8 with_l9.1
  · refine ref_nx ?_
    refine ref_ret (d := (zK true zS) known5) (ev_G rfl) ?_
    exact ref_done rfl ⟨rfl, (fin_c (nS.own _) (fin_c (nI.own _) fin_0))⟩
theorem l_answers (cl : Nat → Addr) (word1 : Tx) (n2 : Int) : RefF cl 2 (sem_answers [zS word1, zI n2]) (Ty.answers word1 n2) (fun v => ((zQ zS) v, [zS word1, zI n2])) := by
  refine lift_go (nl := 2) (ds := [zS word1, zI n2]) (ρ0 := [some (zS word1), some (zI n2)]) rfl ?_
  refine ref_top ?_
  refine ref_call fun answer3 h4 => ?_
  refine ref_grd fun h5 => ?_
  refine ref_ret (d := (zQ zS) (srtLX false answer3)) (ev_ca (ea_cons (ev_ca (ea_cons (ev_call (ρ3 := [some (zS word1), some (zI n2)]) (l_answered_yes cl word1 n2) (ea_cons (ev_M rfl) (ea_cons (ev_M rfl) ea_nil)) rfl (lend_c rfl (nS.own _) (lend_c rfl (nI.own _) lend_0)) h4 (rest_c (nS.own _) (rest_c (nI.own _) rest_0))) ea_nil) rfl (op_sortK false answer3 h5)) ea_nil) rfl (op_tupL nS.cold (srtLX false answer3))) ?_
  exact ref_done rfl ⟨rfl, (fin_c (nS.own _) (fin_c (nI.own _) fin_0))⟩
theorem l_law_due (cl : Nat → Addr) (word1 : Tx) (n2 : Int) : RefF cl 2 (sem_law_due [zS word1, zI n2]) (Ty.law_due word1 n2) (fun v => ((zQ zS) v, [zS word1, zI n2])) := by
  refine lift_go (nl := 7) (ds := [zS word1, zI n2]) (ρ0 := [some (zS word1), some (zI n2), none, none, none, none, none]) rfl ?_
  refine ref_top ?_
  refine ref_seq ?_
  refine ref_set (d := (zL true zS) ([] : (List Tx))) (ev_as (d' := (zL true zS) ([] : (List Tx))) (ev_lst (ds := []) ea_nil rfl) rfl) rfl ?_
  refine ref_nx ?_
  refine ref_seq ?_
  refine ref_pre ?_
  refine ref_grd fun h3 => ?_
  refine ref_grd fun h4 => ?_
  refine ref_grd fun h5 => ?_
  refine ref_for (E := (fun (found7 : ((List Tx))) => [some (zS word1), some (zI n2), some ((zL true zS) found7), none, none, none, none])) (e := zI) (src_1 (ea_cons (ev_2 ev_C (ev_ca (ea_cons (ev_M rfl) ea_nil) rfl (op_lenS word1 h3)) rfl rfl (op_shl (1 : Int) (word1.length : Int) h4)) ea_nil) h5) rfl (fun picked6 Kn9 next8 h10 found7 => ⟨_, rfl, ?_⟩) fun found7 => ?_
  · refine ref_fg ?_
    refine ref_seq ?_
    refine ref_call fun ys14 h15 => ?_
    refine ref_grd fun h16 => ?_
    refine ref_grd fun h18 => ?_
    refine ref_set (d := zS ys14) (ev_me ev_C rfl rfl (ea_cons (ev_compG (ρ2 := [some (zS word1), some (zI n2), some ((zL true zS) found7), some (zI picked6), none, none, none]) (e := (zT2 zI zC)) (r := zC) (src_E (src_S (ev_N rfl (nS.own _)))) rfl (fun x12 => ⟨_, rfl, rfl, fun y hh => by obtain ⟨h13, hh⟩ := grd_inv hh; rcases if_inv hh with ⟨hc, hh⟩ | ⟨hc, hh⟩; (· cases ok_inj hh; exact ⟨eb_eq (eb_val (ev_2 (ev_2 (ev_2 (ev_M rfl) (ev_M rfl) rfl rfl (op_shr picked6 x12.1 h13)) ev_C rfl rfl (op_odd (picked6 / 2 ^ x12.1.toNat))) ev_C rfl rfl (op_eq nI ((picked6 / 2 ^ x12.1.toNat) % 2) (1 : Int) rfl))) hc, (ev_N rfl (nC.own _))⟩); (· cases ok_inj hh; exact eb_eq (eb_val (ev_2 (ev_2 (ev_2 (ev_M rfl) (ev_M rfl) rfl rfl (op_shr picked6 x12.1 h13)) ev_C rfl rfl (op_odd (picked6 / 2 ^ x12.1.toNat))) ev_C rfl rfl (op_eq nI ((picked6 / 2 ^ x12.1.toNat) % 2) (1 : Int) rfl))) hc)⟩) h15 h16) ea_nil) rfl (op_joinC ys14 h18)) rfl ?_
    refine ref_nx ?_
    refine ref_grd fun h19 => ?_
    refine ref_if (k := ((decide ((ys14.length : Int) ≤ n2)) && (!memX ys14 found7))) (eb_and (eb_val (ev_2 (ev_ca (ea_cons (ev_M rfl) ea_nil) rfl (op_lenS ys14 h19)) (ev_M rfl) rfl rfl (op_le (ys14.length : Int) n2))) (eb_val (ev_2 (ev_M rfl) (ev_M rfl) rfl rfl (op_ninLX nS ys14 found7 rfl)))) (fun h21 => ?_) fun h21 => ?_
    · refine ref_grd fun h20 => ?_
      refine ref_drop (ev_mut rfl rfl rfl (ea_cons (ev_M rfl) ea_nil) rfl (lend_c rfl (nS.own _) lend_0) rfl (op_app (e := zS) found7 ys14 h20)) ?_
      refine ref_fgnx ?_
      exact h10 (found7 ++ [ys14])
    · refine ref_nil ?_
      refine ref_fgnx ?_
      exact h10 found7
  · refine ref_nx ?_
    refine ref_grd fun h11 => ?_
    refine ref_ret (d := (zQ zS) (srtLX false found7)) (ev_ca (ea_cons (ev_ca (ea_cons (ev_M rfl) ea_nil) rfl (op_sortL false found7 h11)) ea_nil) rfl (op_tupL nS.cold (srtLX false found7))) ?_
    exact ref_done rfl ⟨rfl, (fin_c (nS.own _) (fin_c (nI.own _) fin_0))⟩
theorem l_law (cl : Nat → Addr) (script1 : (List Int)) : RefF cl 1 (sem_law [zScr script1]) (Ty.law script1) (fun v => (zB v, [zScr script1])) := by
  refine lift_go (nl := 7) (ds := [zScr script1]) (ρ0 := [some (zScr script1), none, none, none, none, none, none]) rfl ?_
  refine ref_top ?_
  refine ref_seq ?_
  refine ref_call fun deal2 h3 => ?_
  refine ref_set (d := (zD3 [(.str [115, 101, 101, 100]), (.str [110, 117, 109, 98, 101, 114]), (.str [108, 101, 102, 116])] zI zI (zL true zI)) deal2) (ev_call (ρ3 := [some (zScr script1), none, none, none, none, none, none]) (l_law_deal cl script1 (0 : Int)) (ea_cons (ev_M rfl) (ea_cons ev_C ea_nil)) rfl (lend_c rfl rfl (lend_1 lend_0)) h3 (rest_c rfl (rest_1 rest_0))) rfl ?_
  refine ref_nx ?_
  refine ref_seq ?_
  refine ref_call fun draw4 h5 => ?_
  refine ref_call fun alphab6 h7 => ?_
  refine ref_set (d := zS alphab6.1) (ev_Zc (ev_call (ρ3 := [some (zScr script1), some ((zD3 [(.str [115, 101, 101, 100]), (.str [110, 117, 109, 98, 101, 114]), (.str [108, 101, 102, 116])] zI zI (zL true zI)) alphab6.2), none, none, none, none, none]) (l_law_alphabet cl draw4.2 ((1 : Int) + draw4.1)) (ea_cons (ev_M rfl) (ea_cons (ev_Zc (ev_2 ev_C (ev_call (ρ3 := [some (zScr script1), some ((zD3 [(.str [115, 101, 101, 100]), (.str [110, 117, 109, 98, 101, 114]), (.str [108, 101, 102, 116])] zI zI (zL true zI)) draw4.2), none, none, none, none, none]) (l_law_draw cl deal2 (3 : Int)) (ea_cons (ev_M rfl) (ea_cons ev_C ea_nil)) rfl (lend_o rfl rfl (lend_1 lend_0)) h5 (rest_o rfl rfl (rest_1 rest_0))) rfl rfl (op_add (1 : Int) draw4.1)) (nI.cold _)) ea_nil)) rfl (lend_o rfl rfl (lend_1 lend_0)) h7 (rest_o rfl rfl (rest_1 rest_0))) (nS.cold _)) rfl ?_
  refine ref_nx ?_
  refine ref_seq ?_
  refine ref_grd fun h8 => ?_
  refine ref_call fun ys19 h20 => ?_
  refine ref_grd fun h21 => ?_
  refine ref_set (d := (zL true (zT2 zS zI)) ys19.1) (ev_compS (σ := (Int × Int × (List Int))) (E := fun s14 => [some (zScr script1), some ((zD3 [(.str [115, 101, 101, 100]), (.str [110, 117, 109, 98, 101, 114]), (.str [108, 101, 102, 116])] zI zI (zL true zI)) s14), some (zS alphab6.1), none, none, none, none]) (e := zI) (r := (zT2 zS zI)) (src_1 (ea_cons ev_C ea_nil) h8) rfl (fun x9 s14 => ⟨_, rfl, fun y hh => by obtain ⟨word15, h16, hh⟩ := call_inv hh; obtain ⟨draw17, h18, hh⟩ := call_inv hh; cases ok_inj hh; exact ⟨_, (ev_Zc (ev_as (d' := (zT2 zS zI) (word15.1, draw17.1)) (ev_tup (ds := [zS word15.1, zI draw17.1]) (ea_cons (ev_Zc (ev_call (ρ3 := [some (zScr script1), some ((zD3 [(.str [115, 101, 101, 100]), (.str [110, 117, 109, 98, 101, 114]), (.str [108, 101, 102, 116])] zI zI (zL true zI)) word15.2), some (zS alphab6.1), none, none, none, some (zI x9)]) (l_law_word cl s14 alphab6.1 (6 : Int)) (ea_cons (ev_M rfl) (ea_cons (ev_M rfl) (ea_cons ev_C ea_nil))) rfl (lend_o rfl rfl (lend_c rfl (nS.own _) (lend_1 lend_0))) h16 (rest_o rfl rfl (rest_c (nS.own _) (rest_1 rest_0)))) (nS.cold _)) (ea_cons (ev_Zc (ev_call (ρ3 := [some (zScr script1), some ((zD3 [(.str [115, 101, 101, 100]), (.str [110, 117, 109, 98, 101, 114]), (.str [108, 101, 102, 116])] zI zI (zL true zI)) draw17.2), some (zS alphab6.1), none, none, none, some (zI x9)]) (l_law_draw cl word15.2 (4 : Int)) (ea_cons (ev_M rfl) (ea_cons ev_C ea_nil)) rfl (lend_o rfl rfl (lend_1 lend_0)) h18 (rest_o rfl rfl (rest_1 rest_0))) (nI.cold _)) ea_nil)) rfl) rfl) ((nT2 nS nI).cold _)), rfl⟩⟩) h20 h21) rfl ?_
  refine ref_nx ?_
  refine ref_seq ?_
  refine ref_opt fun v22 h23 => ?_
  refine ref_call fun draw24 h25 => ?_
  refine ref_grd fun h26 => ?_
  refine ref_drop (ev_mut rfl rfl rfl (ea_cons (ev_Zc (ev_as (d' := (zT2 zS zI) (v22.1, draw24.1)) (ev_tup (ds := [zS v22.1, zI draw24.1]) (ea_cons (ev_2 (ev_2 (ev_M rfl) ev_C rfl rfl (op_ixL (nT2 nS nI).cold ys19.1 (0 : Int) v22 h23)) ev_C rfl rfl (ix_tup (d := zS v22.1) rfl (nS.own _))) (ea_cons (ev_Zc (ev_call (ρ3 := [some (zScr script1), some ((zD3 [(.str [115, 101, 101, 100]), (.str [110, 117, 109, 98, 101, 114]), (.str [108, 101, 102, 116])] zI zI (zL true zI)) draw24.2), some (zS alphab6.1), some ((zL true (zT2 zS zI)) ys19.1), none, none, none]) (l_law_draw cl ys19.2 (4 : Int)) (ea_cons (ev_M rfl) (ea_cons ev_C ea_nil)) rfl (lend_o rfl rfl (lend_1 lend_0)) h25 (rest_o rfl rfl (rest_1 rest_0))) (nI.cold _)) ea_nil)) rfl) rfl) ((nT2 nS nI).cold _)) ea_nil) rfl (lend_1 lend_0) rfl (op_app (e := (zT2 zS zI)) ys19.1 (v22.1, draw24.1) h26)) ?_
  refine ref_nx ?_
  refine ref_seq ?_
  refine ref_pre ?_
  refine ref_grd fun h27 => ?_
  refine ref_for (E := (fun (s29 : Unit) => [some (zScr script1), some ((zD3 [(.str [115, 101, 101, 100]), (.str [110, 117, 109, 98, 101, 114]), (.str [108, 101, 102, 116])] zI zI (zL true zI)) draw24.2), some (zS alphab6.1), some ((zL true (zT2 zS zI)) (ys19.1 ++ [(v22.1, draw24.1)])), none, none, none])) (e := (zT2 zS zI)) (src_L (ev_2 (ev_M rfl) (ev_sl (ev_M rfl) eo_none (eo_some ev_C rfl) rfl (op_slL (nT2 nS nI).cold (ys19.1 ++ [(v22.1, draw24.1)]) _ _)) rfl rfl (op_catL (nT2 nS nI).cold (ys19.1 ++ [(v22.1, draw24.1)]) (cutL (ys19.1 ++ [(v22.1, draw24.1)]) none (some (1 : Int))) h27)) (nT2 nS nI).cold) rfl (fun x28 Kn31 next30 h32 s29 => ⟨_, rfl, ?_⟩) fun s29 => ?_
  · refine ref_fg ?_
    refine ref_call fun answer33 h34 => ?_
    refine ref_grd fun h35 => ?_
    refine ref_call fun due36 h37 => ?_
    refine ref_grd fun h38 => ?_
    refine ref_if (k := (!decide (shD ((zQ zS) answer33) = shD ((zQ zS) due36)))) (eb_val (ev_2 (ev_ca (ea_cons (ev_call (ρ3 := [some (zScr script1), some ((zD3 [(.str [115, 101, 101, 100]), (.str [110, 117, 109, 98, 101, 114]), (.str [108, 101, 102, 116])] zI zI (zL true zI)) draw24.2), some (zS alphab6.1), some ((zL true (zT2 zS zI)) (ys19.1 ++ [(v22.1, draw24.1)])), some (zS x28.1), some (zI x28.2), none]) (l_answers cl x28.1 x28.2) (ea_cons (ev_M rfl) (ea_cons (ev_M rfl) ea_nil)) rfl (lend_c rfl (nS.own _) (lend_c rfl (nI.own _) lend_0)) h34 (rest_c (nS.own _) (rest_c (nI.own _) rest_0))) ea_nil) rfl (op_repr _ h35)) (ev_ca (ea_cons (ev_call (ρ3 := [some (zScr script1), some ((zD3 [(.str [115, 101, 101, 100]), (.str [110, 117, 109, 98, 101, 114]), (.str [108, 101, 102, 116])] zI zI (zL true zI)) draw24.2), some (zS alphab6.1), some ((zL true (zT2 zS zI)) (ys19.1 ++ [(v22.1, draw24.1)])), some (zS x28.1), some (zI x28.2), none]) (l_law_due cl x28.1 x28.2) (ea_cons (ev_M rfl) (ea_cons (ev_M rfl) ea_nil)) rfl (lend_c rfl (nS.own _) (lend_c rfl (nI.own _) lend_0)) h37 (rest_c (nS.own _) (rest_c (nI.own _) rest_0))) ea_nil) rfl (op_repr _ h38)) rfl rfl (op_neN (shD ((zQ zS) answer33)) (shD ((zQ zS) due36))))) (fun h39 => ?_) fun h39 => ?_
    · refine ref_ret (d := zB false) ev_C ?_
      exact ref_done rfl ⟨rfl, (fin_c rfl fin_0)⟩
    · refine ref_nil ?_
      refine ref_fgnx ?_
      exact h32 ()
  · refine ref_nx ?_
    refine ref_ret (d := zB true) ev_C ?_
    exact ref_done rfl ⟨rfl, (fin_c rfl fin_0)⟩
end Lw

set_option linter.all false
set_option maxRecDepth 100000
set_option maxHeartbeats 0
namespace Lw
open PySem PySem.Spec PyProof.Rows L2 Dl
def topS (i : Nat) : Stmt := PySem.Challenge.pw_lostpost_k60_answers_told.main.body.getD i (.Pass ⟨0, 0, 0, 0⟩)
section
variable {P : Program} {w : World} {K : PySem.W.Frag} {mg : Str → Option Value} {base : Heap}
theorem sc_in_order : FnScope ["word"] ["word"] (defScope (topS 1)) := ⟨rfl, rfl, rfl, by decide +kernel, rfl, by decide +kernel, by decide +kernel⟩
theorem d_in_order {f : Addr} {fd : FuncData} (F : FunD K "in_order" "in_order" (defArgs (topS 1)) (defBody (topS 1)) (defScope (topS 1)) [] [] f fd) (m_len : mg "len" = none) : FnG P w K mg base 1 f fd ["word"] (spD K 1 sem_in_order) := by
  refine def_go (N := ["word"]) (as := []) (b := b_in_order) F sc_in_order fun cd A outer t U E hr hp W tk => ?_
  have hN := sc_in_order.nd
  exact (DSs.one (DS.ret (DE.tup (DA.cons (DE.bi call_len ca_len m_len PySem.boot_len (DA.cons (DE.mark (pv 0)) DA.nil)) (DA.cons (DE.name (pv 0)) DA.nil)))))
theorem sc_with_letter : FnScope ["known", "letter", "n", "found", "one"] ["known", "letter", "n"] (defScope (topS 2)) := ⟨rfl, rfl, rfl, by decide +kernel, rfl, by decide +kernel, by decide +kernel⟩
theorem d_with_letter {f : Addr} {fd : FuncData} (F : FunD K "with_letter" "with_letter" (defArgs (topS 2)) (defBody (topS 2)) (defScope (topS 2)) [] [] f fd) (m_dict : mg "dict" = none) (m_len : mg "len" = none) : FnG P w K mg base 1 f fd ["known", "letter", "n"] (spD K 3 sem_with_letter) := by
  refine def_go (N := ["known", "letter", "n", "found", "one"]) (as := [3, 4]) (b := b_with_letter) F sc_with_letter fun cd A outer t U E hr hp W tk => ?_
  have hN := sc_with_letter.nd
  exact (DSs.cons (DS.set (i := 3) hN (DE.ty call_dictD ca_dictC m_dict (by decide +kernel) (DA.cons (DE.mark (pv 0)) DA.nil)))
  (DSs.cons (DS.pre (l := [4]) (DS.forK (pv 0) hp rfl (DG.name (i := 4) hN) (DSs.fgt (l := [4]) (DSs.one (DS.ite (DT.lt  (DE.bi call_len ca_len m_len PySem.boot_len (DA.cons (DE.mark (pv 4)) DA.nil)) (DE.mark (pv 2))) (DSs.one (DS.asg DE.bl (DG.sub (W := W) hr.u1 (DP.slot (pv 3)) (DE.add (DE.mark (pv 4)) (DE.mark (pv 1)))))) DSs.nil)))))
  (DSs.one (DS.ret (DE.give (pv 3))))))
theorem sc_answered_yes : FnScope ["word", "n", "known", "letter"] ["word", "n"] (defScope (topS 3)) := ⟨rfl, rfl, rfl, by decide +kernel, rfl, by decide +kernel, by decide +kernel⟩
theorem d_answered_yes {f : Addr} {fd : FuncData} (F : FunD K "answered_yes" "answered_yes" (defArgs (topS 3)) (defBody (topS 3)) (defScope (topS 3)) [] [] f fd) (c_with_letter : DefAt P w K mg base "with_letter" 1 3 [] sem_with_letter) : FnG P w K mg base 2 f fd ["word", "n"] (spD K 2 sem_answered_yes) := by
  refine def_go (N := ["word", "n", "known", "letter"]) (as := [2, 3, 2]) (b := b_answered_yes) F sc_answered_yes fun cd A outer t U E hr hp W tk => ?_
  have hN := sc_answered_yes.nd
  exact (DSs.cons (DS.set (i := 2) hN (DE.disp (DPp.cons (l := []) (by decide +kernel) DE.bl DPp.nil) (by decide) (by simp) (by decide)))
  (DSs.cons (DS.pre (l := [3]) (DS.for hp rfl (DI.any (DE.name (pv 0))) (DG.name (i := 3) hN) (DSs.fgt (l := [3]) (DSs.one (DS.set (i := 2) hN (DE.call c_with_letter (hr.mono (by decide)) tk (DA.cons (DE.mark (pv 2)) (DA.cons (DE.mark (pv 3)) (DA.cons (DE.mark (pv 1)) DA.nil))) rfl))))))
  (DSs.one (DS.ret (DE.give (pv 2))))))
theorem sc_answers : FnScope ["word", "n"] ["word", "n"] (defScope (topS 4)) := ⟨rfl, rfl, rfl, by decide +kernel, rfl, by decide +kernel, by decide +kernel⟩
theorem d_answers {f : Addr} {fd : FuncData} (F : FunD K "answers" "answers" (defArgs (topS 4)) (defBody (topS 4)) (defScope (topS 4)) [] [] f fd) (m_sorted : mg "sorted" = none) (m_tuple : mg "tuple" = none) (c_answered_yes : DefAt P w K mg base "answered_yes" 2 2 [] sem_answered_yes) (y_in_order : KeyAt P w K mg base "in_order" 1) : FnG P w K mg base 4 f fd ["word", "n"] (spD K 2 sem_answers) := by
  refine def_go (N := ["word", "n"]) (as := []) (b := b_answers) F sc_answers fun cd A outer t U E hr hp W tk => ?_
  have hN := sc_answers.nd
  exact (DSs.one (DS.ret (DE.ty call_tuple_of ca_tuple m_tuple (by decide +kernel) (DA.cons (DE.sortK y_in_order (hr.mono (by decide)) m_sorted (DA.cons (DE.call c_answered_yes (hr.mono (by decide)) tk (DA.cons (DE.mark (pv 0)) (DA.cons (DE.mark (pv 1)) DA.nil)) rfl) DA.nil)) DA.nil))))
theorem sc_law_deal : FnScope ["_law_script", "_law_base", "_law_cells", "_law_number", "_law_cell"] ["_law_script", "_law_base"] (defScope (topS 6)) := ⟨rfl, rfl, rfl, by decide +kernel, rfl, by decide +kernel, by decide +kernel⟩
theorem d_law_deal {f : Addr} {fd : FuncData} (F : FunD K "_law_deal" "_law_deal" (defArgs (topS 6)) (defBody (topS 6)) (defScope (topS 6)) [] [] f fd) (m_list : mg "list" = none) (m_max : mg "max" = none) (m_reversed : mg "reversed" = none) : FnG P w K mg base 1 f fd ["_law_script", "_law_base"] (spD K 2 sem_law_deal) := by
  refine def_go (N := ["_law_script", "_law_base", "_law_cells", "_law_number", "_law_cell"]) (as := [2, 3, 4, 3]) (b := b_law_deal) F sc_law_deal fun cd A outer t U E hr hp W tk => ?_
  have hN := sc_law_deal.nd
  exact (DSs.cons (DS.setCompZ (own := [("_law_cell", 4)]) (i := 2) rfl hN (sw_true rfl rfl rfl rfl) (DI.any (DE.slice (DE.mark (pv 0)) (DO.some (DE.mark (pv 1))) (DO.some DE.int))) (blkOf (by kernel_rfl)) (by decide) (fun _ _ _ _ _ => (DG.name (i := 4) hN)) (fun _ _ _ _ _ => DTs.nil) (fun _ _ _ _ _ => (DE.frz (DE.bi (call_max2 rfl) ca_max2 m_max (by decide +kernel) (DA.cons (DE.mark (pv 4)) (DA.cons (DE.sub DE.int (DE.mark (pv 4))) DA.nil))))))
  (DSs.cons (DS.set (i := 3) hN (DE.add DE.int (DE.mul2 DE.int (DE.mark (pv 1)))))
  (DSs.cons (DS.pre (l := [4]) (DS.for hp rfl (DI.any (DE.name (pv 2))) (DG.name (i := 4) hN) (DSs.fgt (l := [4]) (DSs.one (DS.set (i := 3) hN (DE.mod (DE.add (DE.add (DE.mul2 (DE.mark (pv 3)) DE.int) (DE.mod (DE.mark (pv 4)) DE.int)) DE.int) DE.int))))))
  (DSs.one (DS.ret (DE.disp (DPp.cons (l := [115, 101, 101, 100]) (by decide +kernel) (DE.name (pv 3)) (DPp.cons (l := [110, 117, 109, 98, 101, 114]) (by decide +kernel) DE.int (DPp.cons (l := [108, 101, 102, 116]) (by decide +kernel) (DE.listRev rfl m_list m_reversed (DE.comp (own := [("_law_cell", 4)]) rfl hN (DI.any (DE.name (pv 2))) (blkOf (by kernel_rfl)) (by decide) (fun _ _ _ _ _ => (DG.name (i := 4) hN)) (fun _ _ _ _ _ => (DTs.one (DT.ge  (DE.mark (pv 4)) (DE.pow DE.int DE.int)))) (fun _ _ _ _ _ => (DE.name (pv 4))))) DPp.nil))) (by decide) (by simp) (by decide)))))))
theorem sc_law_draw : FnScope ["_law_deal_here", "_law_many", "_law_number", "_law_one", "_law_other"] ["_law_deal_here", "_law_many"] (defScope (topS 7)) := ⟨rfl, rfl, rfl, by decide +kernel, rfl, by decide +kernel, by decide +kernel⟩
theorem d_law_draw {f : Addr} {fd : FuncData} (F : FunD K "_law_draw" "_law_draw" (defArgs (topS 7)) (defBody (topS 7)) (defScope (topS 7)) [] [] f fd) (m_len : mg "len" = none) : FnG P w K mg base 1 f fd ["_law_deal_here", "_law_many"] (spD K 2 sem_law_draw) := by
  refine def_go (N := ["_law_deal_here", "_law_many", "_law_number", "_law_one", "_law_other"]) (as := [2, 3, 4]) (b := b_law_draw) F sc_law_draw fun cd A outer t U E hr hp W tk => ?_
  have hN := sc_law_draw.nd
  exact (DSs.cons (DS.wh hp (DW.dt (DW.and (DT.eq hr.u64 (DE.ix hr.u1 (DE.mark (pv 0)) (DE.str (l := [110, 117, 109, 98, 101, 114]) (by decide +kernel))) DE.int) (DW.and1 (DT.gt  (DE.biP call_len ca_len m_len PySem.boot_len (DP.ix (W := W) hr.u1 (DP.slot (pv 0)) (DE.str (l := [108, 101, 102, 116]) (by decide +kernel)))) DE.int)))) (DSs.one (DS.asg (DE.frz (DE.mut0 PySem.F.plainAttrs_list PySem.F.slot_list_pop PySem.F.type_list_pop mt_pop mu_pop (DP.ix (W := W) hr.u1 (DP.slot (pv 0)) (DE.str (l := [108, 101, 102, 116]) (by decide +kernel))))) (DG.sub (W := W) hr.u1 (DP.slot (pv 0)) (DE.str (l := [110, 117, 109, 98, 101, 114]) (by decide +kernel))))))
  (DSs.cons (DS.set (i := 2) hN (DE.ix hr.u1 (DE.mark (pv 0)) (DE.str (l := [110, 117, 109, 98, 101, 114]) (by decide +kernel))))
  (DSs.cons (DS.ite (DT.gt  (DE.mark (pv 2)) DE.int) (DSs.cons (DS.asg (DE.fdiv (DE.mark (pv 2)) (DE.mark (pv 1))) (DG.sub (W := W) hr.u1 (DP.slot (pv 0)) (DE.str (l := [110, 117, 109, 98, 101, 114]) (by decide +kernel))))
  (DSs.one (DS.ret (DE.mod (DE.mark (pv 2)) (DE.mark (pv 1)))))) DSs.nil)
  (DSs.cons (DS.set (i := 3) hN (DE.mod (DE.add (DE.mul2 (DE.ix hr.u1 (DE.mark (pv 0)) (DE.str (l := [115, 101, 101, 100]) (by decide +kernel))) DE.int) DE.int) DE.int))
  (DSs.cons (DS.asg (DE.mod (DE.add (DE.mul2 (DE.mark (pv 3)) DE.int) DE.int) DE.int) (DG.sub (W := W) hr.u1 (DP.slot (pv 0)) (DE.str (l := [115, 101, 101, 100]) (by decide +kernel))))
  (DSs.cons (DS.set (i := 4) hN (DE.mod (DE.mul2 (DE.ix hr.u1 (DE.mark (pv 0)) (DE.str (l := [115, 101, 101, 100]) (by decide +kernel))) (DE.ix hr.u1 (DE.mark (pv 0)) (DE.str (l := [115, 101, 101, 100]) (by decide +kernel)))) DE.int))
  (DSs.one (DS.ret (DE.mod (DE.add (DE.mul2 (DE.mod (DE.mul2 (DE.mark (pv 3)) (DE.mark (pv 3))) DE.int) DE.int) (DE.mark (pv 4))) (DE.mark (pv 1)))))))))))
theorem sc_law_alphabet : FnScope ["_law_deal_here", "_law_many", "_law_left", "_law_k"] ["_law_deal_here", "_law_many"] (defScope (topS 8)) := ⟨rfl, rfl, rfl, by decide +kernel, rfl, by decide +kernel, by decide +kernel⟩
theorem d_law_alphabet {f : Addr} {fd : FuncData} (F : FunD K "_law_alphabet" "_law_alphabet" (defArgs (topS 8)) (defBody (topS 8)) (defScope (topS 8)) [] [] f fd) (m_len : mg "len" = none) (m_list : mg "list" = none) (m_range : mg "range" = none) (m_sorted : mg "sorted" = none) (c_law_draw : DefAt P w K mg base "_law_draw" 1 2 [] sem_law_draw) : FnG P w K mg base 2 f fd ["_law_deal_here", "_law_many"] (spD K 2 sem_law_alphabet) := by
  refine def_go (N := ["_law_deal_here", "_law_many", "_law_left", "_law_k"]) (as := [2]) (b := b_law_alphabet) F sc_law_alphabet fun cd A outer t U E hr hp W tk => ?_
  have hN := sc_law_alphabet.nd
  exact (DSs.cons (DS.set (i := 2) hN (DE.ty (call_list_of.or (call_list_txt rfl)) (ca_list.or ca_listS) m_list (by decide +kernel) (DA.cons (DE.str (l := [97, 98, 99, 100, 101, 102, 103, 104, 105, 106, 107, 108, 109, 110, 111, 112, 113, 114, 115, 116, 117, 118, 119, 120, 121, 122]) (by decide +kernel)) DA.nil)))
  (DSs.one (DS.ret (DE.me PySem.F.plainAttrs_str PySem.F.slot_str_join PySem.F.type_str_join mt_join ca_join (DE.str (l := []) (by decide +kernel)) (DA.cons (DE.bi (cr_sortD hr.u200) ca_sorted m_sorted (by decide +kernel) (DA.cons (DE.comp (own := [("_law_k", 3)]) rfl hN (DI.range1 m_range (DA.cons (DE.name (pv 1)) DA.nil)) (blkOf (by kernel_rfl)) (by decide) (fun _ _ _ _ _ => (DG.name (i := 3) hN)) (fun _ _ _ _ _ => DTs.nil) (fun _ _ _ _ _ => (DE.frz (DE.mut PySem.F.plainAttrs_list PySem.F.slot_list_pop PySem.F.type_list_pop mt_popAt mu_popAt (DP.slot (pv 2)) (DA.cons (DE.frz (DE.call c_law_draw (hr.mono (by decide)) takesF (DA.cons (DE.mark (pv 0)) (DA.cons (DE.bi call_len ca_len m_len PySem.boot_len (DA.cons (DE.mark (pv 2)) DA.nil)) DA.nil)) rfl)) DA.nil))))) DA.nil)) DA.nil)))))
theorem sc_law_word : FnScope ["_law_deal_here", "_law_letters", "_law_most", "_law_many", "_law_word_here", "_law_k"] ["_law_deal_here", "_law_letters", "_law_most"] (defScope (topS 9)) := ⟨rfl, rfl, rfl, by decide +kernel, rfl, by decide +kernel, by decide +kernel⟩
theorem d_law_word {f : Addr} {fd : FuncData} (F : FunD K "_law_word" "_law_word" (defArgs (topS 9)) (defBody (topS 9)) (defScope (topS 9)) [] [] f fd) (m_len : mg "len" = none) (m_range : mg "range" = none) (c_law_draw : DefAt P w K mg base "_law_draw" 1 2 [] sem_law_draw) : FnG P w K mg base 2 f fd ["_law_deal_here", "_law_letters", "_law_most"] (spD K 3 sem_law_word) := by
  refine def_go (N := ["_law_deal_here", "_law_letters", "_law_most", "_law_many", "_law_word_here", "_law_k"]) (as := [3, 4, 4]) (b := b_law_word) F sc_law_word fun cd A outer t U E hr hp W tk => ?_
  have hN := sc_law_word.nd
  exact (DSs.cons (DS.set (i := 3) hN (DE.frz (DE.call c_law_draw (hr.mono (by decide)) tk (DA.cons (DE.mark (pv 0)) (DA.cons (DE.add (DE.mark (pv 2)) DE.int) DA.nil)) rfl)))
  (DSs.cons (DS.set (i := 4) hN (DE.me PySem.F.plainAttrs_str PySem.F.slot_str_join PySem.F.type_str_join mt_join ca_join (DE.str (l := []) (by decide +kernel)) (DA.cons (DE.comp (own := [("_law_k", 5)]) rfl hN (DI.range1 m_range (DA.cons (DE.name (pv 3)) DA.nil)) (blkOf (by kernel_rfl)) (by decide) (fun _ _ _ _ _ => (DG.name (i := 5) hN)) (fun _ _ _ _ _ => DTs.nil) (fun _ _ _ _ _ => (DE.ix hr.u1 (DE.mark (pv 1)) (DE.call c_law_draw (hr.mono (by decide)) takesF (DA.cons (DE.mark (pv 0)) (DA.cons (DE.bi call_len ca_len m_len PySem.boot_len (DA.cons (DE.mark (pv 1)) DA.nil)) DA.nil)) rfl)))) DA.nil)))
  (DSs.cons (DS.ite (DT.eq hr.u64 (DE.call c_law_draw (hr.mono (by decide)) tk (DA.cons (DE.mark (pv 0)) (DA.cons DE.int DA.nil)) rfl) DE.int) (DSs.one (DS.set (i := 4) hN (DE.frz (DE.slice (DE.mul2 (DE.slice (DE.mark (pv 4)) DO.none (DO.some (DE.add DE.int (DE.call c_law_draw (hr.mono (by decide)) tk (DA.cons (DE.mark (pv 0)) (DA.cons DE.int DA.nil)) rfl)))) DE.int) DO.none (DO.some (DE.mark (pv 3))))))) DSs.nil)
  (DSs.one (DS.ret (DE.name (pv 4)))))))
theorem sc_law_order : FnScope ["_law_word_here"] ["_law_word_here"] (defScope (topS 10)) := ⟨rfl, rfl, rfl, by decide +kernel, rfl, by decide +kernel, by decide +kernel⟩
theorem d_law_order {f : Addr} {fd : FuncData} (F : FunD K "_law_order" "_law_order" (defArgs (topS 10)) (defBody (topS 10)) (defScope (topS 10)) [] [] f fd) (m_len : mg "len" = none) : FnG P w K mg base 1 f fd ["_law_word_here"] (spD K 1 sem_law_order) := by
  refine def_go (N := ["_law_word_here"]) (as := []) (b := b_law_order) F sc_law_order fun cd A outer t U E hr hp W tk => ?_
  have hN := sc_law_order.nd
  exact (DSs.one (DS.ret (DE.tup (DA.cons (DE.bi call_len ca_len m_len PySem.boot_len (DA.cons (DE.mark (pv 0)) DA.nil)) (DA.cons (DE.name (pv 0)) DA.nil)))))
theorem sc_law_due : FnScope ["_law_word_here", "_law_n", "_law_found", "_law_picked", "_law_one", "_law_k", "_law_letter"] ["_law_word_here", "_law_n"] (defScope (topS 11)) := ⟨rfl, rfl, rfl, by decide +kernel, rfl, by decide +kernel, by decide +kernel⟩
theorem d_law_due {f : Addr} {fd : FuncData} (F : FunD K "_law_due" "_law_due" (defArgs (topS 11)) (defBody (topS 11)) (defScope (topS 11)) [] [] f fd) (m_enumerate : mg "enumerate" = none) (m_len : mg "len" = none) (m_range : mg "range" = none) (m_sorted : mg "sorted" = none) (m_tuple : mg "tuple" = none) (y_law_order : KeyAt P w K mg base "_law_order" 1) : FnG P w K mg base 4 f fd ["_law_word_here", "_law_n"] (spD K 2 sem_law_due) := by
  refine def_go (N := ["_law_word_here", "_law_n", "_law_found", "_law_picked", "_law_one", "_law_k", "_law_letter"]) (as := [2, 3, 4]) (b := b_law_due) F sc_law_due fun cd A outer t U E hr hp W tk => ?_
  have hN := sc_law_due.nd
  exact (DSs.cons (DS.set (i := 2) hN (DE.lst DA.nil))
  (DSs.cons (DS.pre (l := [3, 4]) (DS.for hp rfl (DI.range1 m_range (DA.cons (DE.shl DE.int (DE.bi call_len ca_len m_len PySem.boot_len (DA.cons (DE.mark (pv 0)) DA.nil))) DA.nil)) (DG.name (i := 3) hN) (DSs.fgt (l := [3, 4]) (DSs.cons (DS.set (i := 4) hN (DE.me PySem.F.plainAttrs_str PySem.F.slot_str_join PySem.F.type_str_join mt_join ca_join (DE.str (l := []) (by decide +kernel)) (DA.cons (DE.comp (own := [("_law_k", 5), ("_law_letter", 6)]) rfl hN (DI.enum m_enumerate (DE.name (pv 0))) (blkOf (by kernel_rfl)) (by decide) (fun _ _ _ _ _ => (DG.tup rfl (DGs.cons (DG.name (i := 5) hN) (DGs.cons (DG.name (i := 6) hN) DGs.nil)))) (fun _ _ _ _ _ => (DTs.one (DT.eq hr.u64 (DE.band (DE.shr (DE.mark (pv 3)) (DE.mark (pv 5))) DE.int) DE.int))) (fun _ _ _ _ _ => (DE.name (pv 6)))) DA.nil)))
  (DSs.one (DS.ite (DW.dt (DW.and (DT.le  (DE.bi call_len ca_len m_len PySem.boot_len (DA.cons (DE.mark (pv 4)) DA.nil)) (DE.mark (pv 1))) (DW.and1 (DT.notin hr.u65 (DE.mark (pv 4)) (DE.mark (pv 2)))))) (DSs.one (DS.expr (DE.mut PySem.F.plainAttrs_list PySem.F.slot_list_append PySem.F.type_list_append mt_append mu_append (DP.slot (pv 2)) (DA.cons (DE.mark (pv 4)) DA.nil)))) DSs.nil))))))
  (DSs.one (DS.ret (DE.ty call_tuple_of ca_tuple m_tuple (by decide +kernel) (DA.cons (DE.sortK y_law_order (hr.mono (by decide)) m_sorted (DA.cons (DE.mark (pv 2)) DA.nil)) DA.nil))))))
theorem sc_law : FnScope ["_law_script", "_law_deal_here", "_law_letters", "_law_asked", "_law_word_here", "_law_n", "_law_turn"] ["_law_script"] (defScope (topS 12)) := ⟨rfl, rfl, rfl, by decide +kernel, rfl, by decide +kernel, by decide +kernel⟩
theorem d_law {f : Addr} {fd : FuncData} (F : FunD K "law" "law" (defArgs (topS 12)) (defBody (topS 12)) (defScope (topS 12)) [] [] f fd) (m_range : mg "range" = none) (m_repr : mg "repr" = none) (c_law_alphabet : DefAt P w K mg base "_law_alphabet" 2 2 [] sem_law_alphabet) (c_law_deal : DefAt P w K mg base "_law_deal" 1 2 [] sem_law_deal) (c_law_draw : DefAt P w K mg base "_law_draw" 1 2 [] sem_law_draw) (c_law_due : DefAt P w K mg base "_law_due" 4 2 [] sem_law_due) (c_law_word : DefAt P w K mg base "_law_word" 2 3 [] sem_law_word) (c_answers : DefAt P w K mg base "answers" 4 2 [] sem_answers) : FnG P w K mg base 5 f fd ["_law_script"] (spD K 1 sem_law) := by
  refine def_go (N := ["_law_script", "_law_deal_here", "_law_letters", "_law_asked", "_law_word_here", "_law_n", "_law_turn"]) (as := [1, 2, 3, 4, 5]) (b := b_law) F sc_law fun cd A outer t U E hr hp W tk => ?_
  have hN := sc_law.nd
  exact (DSs.cons (DS.set (i := 1) hN (DE.call c_law_deal (hr.mono (by decide)) tk (DA.cons (DE.mark (pv 0)) (DA.cons DE.int DA.nil)) rfl))
  (DSs.cons (DS.set (i := 2) hN (DE.frz (DE.call c_law_alphabet (hr.mono (by decide)) tk (DA.cons (DE.mark (pv 1)) (DA.cons (DE.frz (DE.add DE.int (DE.call c_law_draw (hr.mono (by decide)) tk (DA.cons (DE.mark (pv 1)) (DA.cons DE.int DA.nil)) rfl))) DA.nil)) rfl)))
  (DSs.cons (DS.setComp (own := [("_law_turn", 6)]) (i := 3) rfl hN (sw_true rfl rfl rfl rfl) (DI.range1 m_range (DA.cons DE.int DA.nil)) (blkOf (by kernel_rfl)) (by decide) (fun _ _ _ _ _ => (DG.name (i := 6) hN)) (fun _ _ _ _ _ => DTs.nil) (fun _ _ _ _ _ => (DE.frz (DE.tup (DA.cons (DE.frz (DE.call c_law_word (hr.mono (by decide)) takesF (DA.cons (DE.mark (pv 1)) (DA.cons (DE.mark (pv 2)) (DA.cons DE.int DA.nil))) rfl)) (DA.cons (DE.frz (DE.call c_law_draw (hr.mono (by decide)) takesF (DA.cons (DE.mark (pv 1)) (DA.cons DE.int DA.nil)) rfl)) DA.nil))))))
  (DSs.cons (DS.expr (DE.mut PySem.F.plainAttrs_list PySem.F.slot_list_append PySem.F.type_list_append mt_append mu_append (DP.slot (pv 3)) (DA.cons (DE.frz (DE.tup (DA.cons (DE.ix hr.u1 (DE.ix hr.u1 (DE.mark (pv 3)) DE.int) DE.int) (DA.cons (DE.frz (DE.call c_law_draw (hr.mono (by decide)) tk (DA.cons (DE.mark (pv 1)) (DA.cons DE.int DA.nil)) rfl)) DA.nil)))) DA.nil)))
  (DSs.cons (DS.pre (l := [4, 5]) (DS.for hp rfl (DI.any (DE.add (DE.mark (pv 3)) (DE.slice (DE.mark (pv 3)) DO.none (DO.some DE.int)))) (DG.tup rfl (DGs.cons (DG.name (i := 4) hN) (DGs.cons (DG.name (i := 5) hN) DGs.nil))) (DSs.fgt (l := [4, 5]) (DSs.one (DS.ite (DT.ne hr.u64 (DE.bi (cr_repr hr.u200 hr.g) ca_repr m_repr (by decide +kernel) (DA.cons (DE.call c_answers (hr.mono (by decide)) tk (DA.cons (DE.mark (pv 4)) (DA.cons (DE.mark (pv 5)) DA.nil)) rfl) DA.nil)) (DE.bi (cr_repr hr.u200 hr.g) ca_repr m_repr (by decide +kernel) (DA.cons (DE.call c_law_due (hr.mono (by decide)) tk (DA.cons (DE.mark (pv 4)) (DA.cons (DE.mark (pv 5)) DA.nil)) rfl) DA.nil))) (DSs.one (DS.ret DE.bl)) DSs.nil)))))
  (DSs.one (DS.ret DE.bl)))))))
theorem yk_in_order {f : Addr} {fd : FuncData} (F : FunD K "in_order" "in_order" (defArgs (topS 1)) (defBody (topS 1)) (defScope (topS 1)) [] [] f fd) (m_len : mg "len" = none) : KeyF P w K mg base 1 f :=
  key_mk (k := 0) F sc_in_order (F.bindsN (ps := ["word"]) fun _ _ _ _ _ _ us hl => match us, hl with | [_], _ => rfl) rfl (by rfl) (by rfl) m_len (by decide) (by decide)
theorem yk_law_order {f : Addr} {fd : FuncData} (F : FunD K "_law_order" "_law_order" (defArgs (topS 10)) (defBody (topS 10)) (defScope (topS 10)) [] [] f fd) (m_len : mg "len" = none) : KeyF P w K mg base 1 f :=
  key_mk (k := 0) F sc_law_order (F.bindsN (ps := ["_law_word_here"]) fun _ _ _ _ _ _ us hl => match us, hl with | [_], _ => rfl) rfl (by rfl) (by rfl) m_len (by decide) (by decide)
end
end Lw

set_option linter.all false
set_option maxRecDepth 100000
set_option maxHeartbeats 0
namespace Lw
open PySem PySem.Spec PyProof.Rows L2 Dl
def dd_in_order : He.DefD := ⟨("in_order", none), "in_order", "in_order", defArgs (topS 1), defBody (topS 1), defScope (topS 1), [], []⟩
def dd_with_letter : He.DefD := ⟨("with_letter", none), "with_letter", "with_letter", defArgs (topS 2), defBody (topS 2), defScope (topS 2), [], []⟩
def dd_answered_yes : He.DefD := ⟨("answered_yes", none), "answered_yes", "answered_yes", defArgs (topS 3), defBody (topS 3), defScope (topS 3), [], []⟩
def dd_answers : He.DefD := ⟨("answers", none), "answers", "answers", defArgs (topS 4), defBody (topS 4), defScope (topS 4), [], []⟩
def dd_law_deal : He.DefD := ⟨("_law_deal", none), "_law_deal", "_law_deal", defArgs (topS 6), defBody (topS 6), defScope (topS 6), [], []⟩
def dd_law_draw : He.DefD := ⟨("_law_draw", none), "_law_draw", "_law_draw", defArgs (topS 7), defBody (topS 7), defScope (topS 7), [], []⟩
def dd_law_alphabet : He.DefD := ⟨("_law_alphabet", none), "_law_alphabet", "_law_alphabet", defArgs (topS 8), defBody (topS 8), defScope (topS 8), [], []⟩
def dd_law_word : He.DefD := ⟨("_law_word", none), "_law_word", "_law_word", defArgs (topS 9), defBody (topS 9), defScope (topS 9), [], []⟩
def dd_law_order : He.DefD := ⟨("_law_order", none), "_law_order", "_law_order", defArgs (topS 10), defBody (topS 10), defScope (topS 10), [], []⟩
def dd_law_due : He.DefD := ⟨("_law_due", none), "_law_due", "_law_due", defArgs (topS 11), defBody (topS 11), defScope (topS 11), [], []⟩
def dd_law : He.DefD := ⟨("law", none), "law", "law", defArgs (topS 12), defBody (topS 12), defScope (topS 12), [], []⟩
def hfn : List He.DefD := [dd_in_order, dd_with_letter, dd_answered_yes, dd_answers, dd_law_deal, dd_law_draw, dd_law_alphabet, dd_law_word, dd_law_order, dd_law_due, dd_law]
def hfa : List He.Fa := [.glo "in_order", .glo "with_letter", .glo "answered_yes", .glo "answers", .glo "_law_deal", .glo "_law_draw", .glo "_law_alphabet", .glo "_law_word", .glo "_law_order", .glo "_law_due", .glo "law", .free "dict", .free "enumerate", .free "len", .free "list", .free "max", .free "range", .free "repr", .free "reversed", .free "sorted", .free "tuple"]
abbrev hrow : PySem.W.OpenRow := PySem.W.OpenLaw.row PySem.Challenge.rw_lostpost_k60_answers_told
abbrev hhk : PySem.W.Hook := He.hookD 4 hfa hfn
def hob (s : PySem.W.SharedT) : He.AlD := He.obsDG 4 hfa hfn (HandSHeadRun.getT s)
theorem hob_eq (s : PySem.W.SharedT) : hob s = hhk.obs s.abs := He.obsDG_eq (HandSHeadRun.getT_eq s)
theorem hrun (w : World) : HandSHeadRun.RunEq hrow (PySem.W.view hrow.prog [12]) hhk hob 4000 ["in_order", "with_letter", "answered_yes", "answers", "_law_deal", "_law_draw", "_law_alphabet", "_law_word", "_law_order", "_law_due"] w := by
  intro os
  kernel_rfl
theorem hfacts {P : Program} {w : World} {K : PySem.W.Frag} {h : Heap} {mg : Str → Option Value} {f : Addr} (KX : K.In h) (G : h.Ns mainGlobals mg) (hfa0 : mg ("law" : Str) = some (.ref f)) (c : He.SaysD hfa hfn K) :
    ∃ fd : FuncData, (∀ (s : Shared) (v : Value), BindsTo s fd ⟨[v], []⟩ [("_law_script", v)]) ∧ ∀ base : Heap, K.In base → base.Ns mainGlobals mg → FnG P w K mg base 5 f fd ["_law_script"] (spD K 1 sem_law) := by
  obtain ⟨fd0, F0⟩ := c.def_ 0 (d := dd_in_order) rfl
  obtain ⟨fd1, F1⟩ := c.def_ 1 (d := dd_with_letter) rfl
  obtain ⟨fd2, F2⟩ := c.def_ 2 (d := dd_answered_yes) rfl
  obtain ⟨fd3, F3⟩ := c.def_ 3 (d := dd_answers) rfl
  obtain ⟨fd4, F4⟩ := c.def_ 4 (d := dd_law_deal) rfl
  obtain ⟨fd5, F5⟩ := c.def_ 5 (d := dd_law_draw) rfl
  obtain ⟨fd6, F6⟩ := c.def_ 6 (d := dd_law_alphabet) rfl
  obtain ⟨fd7, F7⟩ := c.def_ 7 (d := dd_law_word) rfl
  obtain ⟨fd8, F8⟩ := c.def_ 8 (d := dd_law_order) rfl
  obtain ⟨fd9, F9⟩ := c.def_ 9 (d := dd_law_due) rfl
  obtain ⟨fd10, F10⟩ := c.def_ 10 (d := dd_law) rfl
  have y_law_order : ∀ base : Heap, KeyAt P w K mg base "_law_order" 1 := fun base => ⟨⟨_, yk_law_order F8 (He.free_ok KX G (c.fact 13 (f := .free "len") rfl)), He.glo_ok KX G (c.fact 8 (f := .glo "_law_order") rfl)⟩⟩
  have y_in_order : ∀ base : Heap, KeyAt P w K mg base "in_order" 1 := fun base => ⟨⟨_, yk_in_order F0 (He.free_ok KX G (c.fact 13 (f := .free "len") rfl)), He.glo_ok KX G (c.fact 0 (f := .glo "in_order") rfl)⟩⟩
  have c_in_order : ∀ base : Heap, DefAt P w K mg base "in_order" 1 1 [] sem_in_order := fun base => DefAt.go F0 (ps := ["word"]) (d_in_order F0 (He.free_ok KX G (c.fact 13 (f := .free "len") rfl))) (He.glo_ok KX G (c.fact 0 (f := .glo "in_order") rfl)) fun _ _ _ _ _ _ us hl => match us, hl with | [_], _ => rfl
  have c_with_letter : ∀ base : Heap, DefAt P w K mg base "with_letter" 1 3 [] sem_with_letter := fun base => DefAt.go F1 (ps := ["known", "letter", "n"]) (d_with_letter F1 (He.free_ok KX G (c.fact 11 (f := .free "dict") rfl)) (He.free_ok KX G (c.fact 13 (f := .free "len") rfl))) (He.glo_ok KX G (c.fact 1 (f := .glo "with_letter") rfl)) fun _ _ _ _ _ _ us hl => match us, hl with | [_, _, _], _ => rfl
  have c_answered_yes : ∀ base : Heap, DefAt P w K mg base "answered_yes" 2 2 [] sem_answered_yes := fun base => DefAt.go F2 (ps := ["word", "n"]) (d_answered_yes F2 (c_with_letter base)) (He.glo_ok KX G (c.fact 2 (f := .glo "answered_yes") rfl)) fun _ _ _ _ _ _ us hl => match us, hl with | [_, _], _ => rfl
  have c_answers : ∀ base : Heap, DefAt P w K mg base "answers" 4 2 [] sem_answers := fun base => DefAt.go F3 (ps := ["word", "n"]) (d_answers F3 (He.free_ok KX G (c.fact 19 (f := .free "sorted") rfl)) (He.free_ok KX G (c.fact 20 (f := .free "tuple") rfl)) (c_answered_yes base) (y_in_order base)) (He.glo_ok KX G (c.fact 3 (f := .glo "answers") rfl)) fun _ _ _ _ _ _ us hl => match us, hl with | [_, _], _ => rfl
  have c_law_deal : ∀ base : Heap, DefAt P w K mg base "_law_deal" 1 2 [] sem_law_deal := fun base => DefAt.go F4 (ps := ["_law_script", "_law_base"]) (d_law_deal F4 (He.free_ok KX G (c.fact 14 (f := .free "list") rfl)) (He.free_ok KX G (c.fact 15 (f := .free "max") rfl)) (He.free_ok KX G (c.fact 18 (f := .free "reversed") rfl))) (He.glo_ok KX G (c.fact 4 (f := .glo "_law_deal") rfl)) fun _ _ _ _ _ _ us hl => match us, hl with | [_, _], _ => rfl
  have c_law_draw : ∀ base : Heap, DefAt P w K mg base "_law_draw" 1 2 [] sem_law_draw := fun base => DefAt.go F5 (ps := ["_law_deal_here", "_law_many"]) (d_law_draw F5 (He.free_ok KX G (c.fact 13 (f := .free "len") rfl))) (He.glo_ok KX G (c.fact 5 (f := .glo "_law_draw") rfl)) fun _ _ _ _ _ _ us hl => match us, hl with | [_, _], _ => rfl
  have c_law_alphabet : ∀ base : Heap, DefAt P w K mg base "_law_alphabet" 2 2 [] sem_law_alphabet := fun base => DefAt.go F6 (ps := ["_law_deal_here", "_law_many"]) (d_law_alphabet F6 (He.free_ok KX G (c.fact 13 (f := .free "len") rfl)) (He.free_ok KX G (c.fact 14 (f := .free "list") rfl)) (He.free_ok KX G (c.fact 16 (f := .free "range") rfl)) (He.free_ok KX G (c.fact 19 (f := .free "sorted") rfl)) (c_law_draw base)) (He.glo_ok KX G (c.fact 6 (f := .glo "_law_alphabet") rfl)) fun _ _ _ _ _ _ us hl => match us, hl with | [_, _], _ => rfl
  have c_law_word : ∀ base : Heap, DefAt P w K mg base "_law_word" 2 3 [] sem_law_word := fun base => DefAt.go F7 (ps := ["_law_deal_here", "_law_letters", "_law_most"]) (d_law_word F7 (He.free_ok KX G (c.fact 13 (f := .free "len") rfl)) (He.free_ok KX G (c.fact 16 (f := .free "range") rfl)) (c_law_draw base)) (He.glo_ok KX G (c.fact 7 (f := .glo "_law_word") rfl)) fun _ _ _ _ _ _ us hl => match us, hl with | [_, _, _], _ => rfl
  have c_law_order : ∀ base : Heap, DefAt P w K mg base "_law_order" 1 1 [] sem_law_order := fun base => DefAt.go F8 (ps := ["_law_word_here"]) (d_law_order F8 (He.free_ok KX G (c.fact 13 (f := .free "len") rfl))) (He.glo_ok KX G (c.fact 8 (f := .glo "_law_order") rfl)) fun _ _ _ _ _ _ us hl => match us, hl with | [_], _ => rfl
  have c_law_due : ∀ base : Heap, DefAt P w K mg base "_law_due" 4 2 [] sem_law_due := fun base => DefAt.go F9 (ps := ["_law_word_here", "_law_n"]) (d_law_due F9 (He.free_ok KX G (c.fact 12 (f := .free "enumerate") rfl)) (He.free_ok KX G (c.fact 13 (f := .free "len") rfl)) (He.free_ok KX G (c.fact 16 (f := .free "range") rfl)) (He.free_ok KX G (c.fact 19 (f := .free "sorted") rfl)) (He.free_ok KX G (c.fact 20 (f := .free "tuple") rfl)) (y_law_order base)) (He.glo_ok KX G (c.fact 9 (f := .glo "_law_due") rfl)) fun _ _ _ _ _ _ us hl => match us, hl with | [_, _], _ => rfl
  have e := hfa0.symm.trans (He.glo_ok KX G (c.fact 10 (f := .glo "law") rfl))
  cases e
  have b := FunD.bindsA (ps := ["_law_script"]) F10 fun _ _ _ _ _ _ us hl => match us, hl with | [_], _ => rfl
  exact ⟨fd10, fun s v => b s [v] rfl, fun base _ _ => d_law F10 (He.free_ok KX G (c.fact 16 (f := .free "range") rfl)) (He.free_ok KX G (c.fact 17 (f := .free "repr") rfl)) (c_law_alphabet base) (c_law_deal base) (c_law_draw base) (c_law_due base) (c_law_word base) (c_answers base)⟩
end Lw

set_option linter.all false
set_option maxRecDepth 100000
namespace Lw
open PySem hiding Env
open PySem.Spec hiding Tm
open PyProof.Rows L2 Dl Lf
theorem deal_ok (script : List Int) (base : Int) (h : script.length ≤ 63) : (Ty.law_deal script base).wp fun _ => True := by
  unfold Ty.law_deal
  have h1 := cutL_le script (some base) (some 63)
  rw [grd_ok (by omega), nm_eq, nm_eq]
  refine wp_for (fun _ _ => True) (fun x xs s next _ hn => ?_) (fun s _ => ?_) _ _ trivial
  · rw [nm_eq]
    exact hn _ trivial
  · rw [grd_ok (Nat.le_trans (List.length_filter_le _ _) (by rw [List.length_map]; omega))]
    trivial
theorem draw_ok (p : Int × Int × List Int) (n : Int) (h : 0 < n) (h2 : n < 1073741824) : (Ty.law_draw p n).wp fun r => 0 ≤ r.1 ∧ r.1 < n := by
  unfold Ty.law_draw
  rw [wp_fwd]
  refine wp_while (fun _ => True) (fun s => s.2.2.length) (fun s _ => ?_) p trivial
  simp only [wp_ok]
  split
  · rename_i ht
    simp only [Bool.and_eq_true, decide_eq_true_eq] at ht
    have hne : s.2.2 ≠ [] := fun e => by rw [e] at ht; simp at ht
    rw [wp_opt]
    refine ⟨_, List.getLast?_eq_some_getLast hne, trivial, ?_⟩
    have := List.length_pos_iff.mpr hne
    simp only [List.length_dropLast]
    omega
  · simp only [nm_eq]
    rw [wp_if]
    have b1 := Int.emod_nonneg (s.1 * 48271 + 5003) (show (2147483647 : Int) ≠ 0 by omega)
    have b2 := Int.emod_lt_of_pos (s.1 * 48271 + 5003) (show (0 : Int) < 2147483647 by omega)
    refine ⟨fun _ => ?_, fun _ => ?_⟩
    · simp only [wp_grd, wp_ok]
      exact ⟨⟨h, h2⟩, h, Int.emod_nonneg _ (by omega), Int.emod_lt_of_pos _ h⟩
    · generalize (s.1 * 48271 + 5003) % 2147483647 = one at b1 b2
      have b3 := Int.emod_nonneg (one * 39373 + 60013) (show (2147483587 : Int) ≠ 0 by omega)
      have b4 := Int.emod_lt_of_pos (one * 39373 + 60013) (show (0 : Int) < 2147483587 by omega)
      simp only [wp_grd, wp_ok]
      generalize (one * 39373 + 60013) % 2147483587 = two at b3 b4
      exact ⟨.inl (by omega), .inl (by omega), h, Int.emod_nonneg _ (by omega), Int.emod_lt_of_pos _ h⟩
def abc : Tx := ['a', 'b', 'c', 'd', 'e', 'f', 'g', 'h', 'i', 'j', 'k', 'l', 'm', 'n', 'o', 'p', 'q', 'r', 's', 't', 'u', 'v', 'w', 'x', 'y', 'z']
theorem abc_len : abc.length = 26 := rfl
def Ltr (ls : Tx) : Prop := ∃ r, (ls ++ r).Perm abc
theorem Ltr.len {ls : Tx} (h : Ltr ls) : ls.length ≤ 26 := by
  obtain ⟨r, h⟩ := h
  have := h.length_eq
  rw [List.length_append, abc_len] at this
  omega
theorem Ltr.mem {ls : Tx} (h : Ltr ls) : ∀ c ∈ ls, c ∈ abc := by
  obtain ⟨r, h⟩ := h
  exact fun c hc => h.mem_iff.mp (List.mem_append_left _ hc)
theorem alphabet_ok (p : Int × Int × List Int) (n : Int) (h : 0 ≤ n) (h2 : n ≤ 26) : (Ty.law_alphabet p n).wp fun r => Ltr r.1 ∧ (r.1.length : Int) = n := by
  unfold Ty.law_alphabet
  rw [wp_grd]
  refine ⟨by decide, ?_⟩
  rw [nm_eq, wp_grd]
  refine ⟨inR_of (by omega) (by omega), ?_⟩
  rw [wp_call]
  refine wp_mono (wp_mapSA (fun xs acc s => (acc ++ s.2).Perm abc ∧ (acc.length + xs.length : Int) = n) (fun x xs acc s hi => ?_) (rgI 0 n.toNat) [] (p, abc) ⟨.refl _, by simp; omega⟩) fun ys hys => ?_
  · obtain ⟨hp, hl⟩ := hi
    have h3 := hp.length_eq
    rw [List.length_append, abc_len] at h3
    simp only [List.length_cons] at hl
    rw [wp_call]
    refine wp_mono (draw_ok s.1 s.2.length (by omega) (by omega)) fun d hd => ?_
    rw [wp_opt]
    refine ⟨_, popX_some hd.1 hd.2, ?_⟩
    rw [wp_grd]
    refine ⟨inR_of (by omega) (by omega), ?_, by simp; omega⟩
    show ((acc ++ [s.2[d.1.toNat]]) ++ s.2.eraseIdx d.1.toNat).Perm abc
    refine List.Perm.trans ?_ hp
    rw [List.append_assoc]
    refine List.Perm.append_left _ ?_
    exact eraseIdx_perm _ _ (by omega)
  · simp only [List.nil_append, List.length_nil] at hys
    have h3 := hys.1.length_eq
    rw [List.length_append, abc_len] at h3
    have hs := sortT_perm zC ys.1
    have hs2 := hs.length_eq
    simp only [wp_grd, wp_ok]
    refine ⟨by omega, sortP_C _, by omega, ⟨ys.2.2, (hs.append_right _).trans hys.1⟩, by omega⟩
theorem repN_len (l : List α) (n : Nat) : (repX l (n : Int)).length = n * l.length := by
  rw [repX_len]
  simp
theorem word_ok (p : Int × Int × List Int) (ls : Tx) (m : Nat) (h : ls ≠ []) (h2 : ls.length ≤ 26) (hm : m ≤ 100) : (Ty.law_word p ls m).wp fun r => r.1.length ≤ m := by
  have h0 : 0 < ls.length := List.length_pos_iff.mpr h
  unfold Ty.law_word
  rw [wp_call]
  refine wp_mono (draw_ok p _ (by omega) (by omega)) fun d hd => ?_
  rw [grd_ok (inR_of (by omega) (by omega)), wp_call]
  refine wp_mono (wp_mapS (P := fun c => c ∈ ls) (I := fun _ => True) trivial fun x _ s _ => ?_) fun ys hys => ?_
  · rw [grd_ok (by omega), wp_call]
    refine wp_mono (draw_ok s ls.length (by omega) (by omega)) fun d hd => ?_
    rw [grd_ok (by omega), wp_opt]
    exact ⟨_, atI_some hd.1 hd.2, List.getElem_mem _, trivial⟩
  · rw [rgI_len] at hys
    have hl : ys.1.length ≤ m := by omega
    rw [grd_ok (by omega), grd_ok (by omega), wp_call]
    refine wp_mono (draw_ok ys.2 4 (by omega) (by omega)) fun d2 hd2 => ?_
    rw [wp_bind, wp_if]
    refine ⟨fun _ => ?_, fun _ => hl⟩
    rw [wp_call]
    refine wp_mono (draw_ok d2.2 3 (by omega) (by omega)) fun d3 hd3 => ?_
    have hc := cutL_le ys.1 none (some (1 + d3.1))
    have hr := repN_len (cutL ys.1 none (some (1 + d3.1))) 6
    have hr : (repX (cutL ys.1 none (some (1 + d3.1))) (6 : Int)).length = 6 * (cutL ys.1 none (some (1 + d3.1))).length := hr
    rw [grd_ok (by omega), grd_ok (by omega), grd_ok (by omega), nm_eq]
    show (cutL _ none (some d.1)).length ≤ m
    have := cutL_to_le (repX (cutL ys.1 none (some (1 + d3.1))) (6 : Int)) d.1 hd.1
    omega
theorem ltX_irrefl (x : Tx) : ltX x x = false := by
  unfold ltX
  simp
theorem ltX_trans {x y z : Tx} (h : ltX x y = true) (k : ltX y z = true) : ltX x z = true := by
  unfold ltX at *
  rw [decide_eq_true_eq] at *
  exact List.lt_trans h k
theorem ltX_total {x y : Tx} (h : ltX x y = false) (k : ltX y x = false) : x = y := by
  unfold ltX at *
  rw [decide_eq_false_iff_not] at *
  exact nats_inj.mp (List.le_antisymm (List.not_lt.mp k) (List.not_lt.mp h))
theorem lsX_iff (x y : Tx) : lsX x y = true ↔ x.length < y.length ∨ (x.length = y.length ∧ ltX x y = true) := by
  unfold lsX
  simp
theorem lsX_irrefl (x : Tx) : lsX x x = false := by
  cases h : lsX x x with
  | false => rfl
  | true =>
    rw [lsX_iff, ltX_irrefl] at h
    simp at h
theorem lsX_trans {x y z : Tx} (h : lsX x y = true) (k : lsX y z = true) : lsX x z = true := by
  rw [lsX_iff] at *
  rcases h with h | ⟨h1, h2⟩ <;> rcases k with k | ⟨k1, k2⟩
  · exact .inl (by omega)
  · exact .inl (by omega)
  · exact .inl (by omega)
  · exact .inr ⟨by omega, ltX_trans h2 k2⟩
theorem lsX_total {x y : Tx} (h : lsX x y = false) (k : lsX y x = false) : x = y := by
  have h' : ¬ (x.length < y.length ∨ (x.length = y.length ∧ ltX x y = true)) := fun q => by rw [(lsX_iff x y).mpr q] at h; cases h
  have k' : ¬ (y.length < x.length ∨ (y.length = x.length ∧ ltX y x = true)) := fun q => by rw [(lsX_iff y x).mpr q] at k; cases k
  have e : x.length = y.length := by omega
  refine ltX_total ?_ ?_
  · cases q : ltX x y with
    | false => rfl
    | true => exact absurd (.inr ⟨e, q⟩) h'
  · cases q : ltX y x with
    | false => rfl
    | true => exact absurd (.inr ⟨e.symm, q⟩) k'
theorem leX_trans (b : Bool) (x y z : Tx) (h : leX b x y = true) (k : leX b y z = true) : leX b x z = true := by
  have main : ∀ x y z : Tx, lsX y x = false → lsX z y = false → lsX z x = false := fun x y z h k => by
    cases q : lsX z x with
    | false => rfl
    | true =>
      cases q2 : lsX x y with
      | true =>
        have := lsX_trans q q2
        rw [k] at this
        cases this
      | false =>
        have := lsX_total h q2
        subst this
        rw [k] at q
        cases q
  cases b with
  | false =>
    simp only [leX, cond_false, Bool.not_eq_true'] at *
    exact main x y z h k
  | true =>
    simp only [leX, cond_true, Bool.not_eq_true'] at *
    exact main z y x k h
theorem leX_total (b : Bool) (x y : Tx) : (leX b x y || leX b y x) = true := by
  have main : ∀ x y : Tx, lsX x y = true → lsX y x = false := fun x y h => by
    cases q : lsX y x with
    | false => rfl
    | true =>
      have := lsX_trans h q
      rw [lsX_irrefl] at this
      cases this
  cases b <;> simp only [leX, cond_false, cond_true] <;> cases h : lsX x y <;> cases k : lsX y x <;> first | rfl | (have := main _ _ h; rw [k] at this; cases this)
theorem leX_anti (b : Bool) {x y : Tx} (h : leX b x y = true) (k : leX b y x = true) : x = y := by
  cases b with
  | false =>
    simp only [leX, cond_false, Bool.not_eq_true'] at h k
    exact lsX_total k h
  | true =>
    simp only [leX, cond_true, Bool.not_eq_true'] at h k
    exact lsX_total h k
theorem srtLX_perm (b : Bool) (l : List Tx) : (srtLX b l).Perm l := List.mergeSort_perm l _
theorem srtLX_mem {b : Bool} {l : List Tx} {x : Tx} : x ∈ srtLX b l ↔ x ∈ l := (srtLX_perm b l).mem_iff
theorem srtLX_len (b : Bool) (l : List Tx) : (srtLX b l).length = l.length := (srtLX_perm b l).length_eq
theorem srtLX_nodup {b : Bool} {l : List Tx} (h : l.Nodup) : (srtLX b l).Nodup := (srtLX_perm b l).nodup_iff.mpr h
theorem srtLX_pw (b : Bool) (l : List Tx) : (srtLX b l).Pairwise fun x y => leX b x y = true := List.pairwise_mergeSort (leX_trans b) (leX_total b) l
theorem srtLX_eq {b : Bool} {l m : List Tx} (h : l.Perm m) : srtLX b l = srtLX b m :=
  List.Perm.eq_of_pairwise (fun x y _ _ p q => leX_anti b p q) (srtLX_pw b l) (srtLX_pw b m) ((srtLX_perm b l).trans (h.trans (srtLX_perm b m).symm))
theorem perm_of_mem {l m : List Tx} (hl : l.Nodup) (hm : m.Nodup) (h : ∀ x, x ∈ l ↔ x ∈ m) : l.Perm m := (List.perm_ext_iff_of_nodup hl hm).mpr h
theorem putX_mem {l : List Tx} {a x : Tx} : x ∈ putX l a ↔ x ∈ l ∨ x = a := by
  unfold putX
  split
  · rename_i h
    constructor
    · exact .inl
    · rintro (q | q)
      · exact q
      · subst q; exact h
  · simp
theorem putX_nodup {l : List Tx} {a : Tx} (h : l.Nodup) : (putX l a).Nodup := by
  unfold putX
  split
  · exact h
  · rename_i n
    rw [List.nodup_append]
    exact ⟨h, by simp, fun x hx y hy e => by simp at hy; subst hy; subst e; exact n hx⟩
theorem putX_len (l : List Tx) (a : Tx) : (putX l a).length ≤ l.length + 1 := by
  unfold putX
  split <;> simp
theorem with_ok (known : List Tx) (c : Char) (n : Int) (hk : known.Nodup) (hz : known.length ≤ 4000000) (hl : ∀ x ∈ known, x.length ≤ 1000000) :
    (Ty.with_letter known c n).wp fun r => r.2 = known ∧ r.1.Nodup ∧ (∀ x, x ∈ r.1 ↔ x ∈ known ∨ ∃ one ∈ known, (one.length : Int) < n ∧ x = one ++ [c]) ∧ r.1.length ≤ 2 * known.length := by
  unfold Ty.with_letter
  refine wp_for (fun rest found => ∃ dn, dn ++ rest = known ∧ found.Nodup ∧ (∀ x, x ∈ found ↔ x ∈ known ∨ ∃ one ∈ dn, (one.length : Int) < n ∧ x = one ++ [c]) ∧ found.length ≤ known.length + dn.length) ?_ ?_ known known ⟨[], rfl, hk, by simp, by simp⟩
  · rintro x xs s next ⟨dn, e, h1, h2, h3⟩ hn
    have hm : x ∈ known := by rw [← e]; simp
    have hx := hl x hm
    have hd : dn.length < known.length := by rw [← e]; simp
    rw [wp_bind, grd_ok (by omega), wp_if]
    refine ⟨fun ht => ?_, fun hf => ?_⟩
    · rw [decide_eq_true_eq] at ht
      rw [grd_ok (by simp; omega), grd_ok (by omega)]
      refine hn _ ⟨dn ++ [x], by rw [← e]; simp, putX_nodup h1, fun y => ?_, ?_⟩
      · rw [putX_mem, h2]
        constructor
        · rintro ((q | ⟨o, ho, q⟩) | q)
          · exact .inl q
          · exact .inr ⟨o, List.mem_append_left _ ho, q⟩
          · exact .inr ⟨x, by simp, ht, q⟩
        · rintro (q | ⟨o, ho, q1, q2⟩)
          · exact .inl (.inl q)
          · rcases List.mem_append.mp ho with ho | ho
            · exact .inl (.inr ⟨o, ho, q1, q2⟩)
            · rw [List.mem_singleton] at ho
              subst ho
              exact .inr q2
      · have := putX_len s (x ++ [c])
        simp only [List.length_append, List.length_cons, List.length_nil]
        omega
    · rw [decide_eq_false_iff_not] at hf
      refine hn _ ⟨dn ++ [x], by rw [← e]; simp, h1, fun y => ?_, by simp; omega⟩
      rw [h2]
      constructor
      · rintro (q | ⟨o, ho, q⟩)
        · exact .inl q
        · exact .inr ⟨o, List.mem_append_left _ ho, q⟩
      · rintro (q | ⟨o, ho, q1, q2⟩)
        · exact .inl q
        · rcases List.mem_append.mp ho with ho | ho
          · exact .inr ⟨o, ho, q1, q2⟩
          · rw [List.mem_singleton] at ho
            subst ho
            exact absurd q1 hf
  · rintro s ⟨dn, e, h1, h2, h3⟩
    rw [List.append_nil] at e
    subst e
    exact ⟨rfl, h1, h2, by show s.length ≤ _; omega⟩
def Ans (w : Tx) (n : Int) (l : List Tx) : Prop := l.Nodup ∧ ∀ x, x ∈ l ↔ x.Sublist w ∧ (x.length : Int) ≤ n
theorem Ans.perm {w : Tx} {n : Int} {l m : List Tx} (h : Ans w n l) (k : Ans w n m) : l.Perm m := perm_of_mem h.1 k.1 fun x => by rw [h.2, k.2]
theorem Ans.srt {w : Tx} {n : Int} {l : List Tx} {b : Bool} (h : Ans w n l) : Ans w n (srtLX b l) := ⟨srtLX_nodup h.1, fun x => by rw [srtLX_mem, h.2]⟩
theorem sub_snoc {x w : Tx} {c : Char} : x.Sublist (w ++ [c]) ↔ x.Sublist w ∨ ∃ y, y.Sublist w ∧ x = y ++ [c] := by
  constructor
  · intro h
    rw [List.sublist_append_iff] at h
    obtain ⟨a, b, rfl, h1, h2⟩ := h
    cases b with
    | nil => rw [List.append_nil]; exact .inl h1
    | cons d b =>
      have hl := h2.length_le
      simp only [List.length_cons, List.length_nil] at hl
      have hb : b = [] := List.length_eq_zero_iff.mp (by omega)
      subst hb
      have hd : d = c := by
        have := h2.subset (a := d) (by simp)
        simpa using this
      subst hd
      exact .inr ⟨a, h1, rfl⟩
  · rintro (h | ⟨y, h, rfl⟩)
    · exact h.trans (List.sublist_append_left _ _)
    · exact h.append (List.Sublist.refl _)
theorem answered_ok (w : Tx) (n : Int) (hn : 0 ≤ n) (hw : w.length ≤ 12) : (Ty.answered_yes w n).wp fun r => Ans w n r ∧ r.length ≤ 2 ^ w.length := by
  unfold Ty.answered_yes
  rw [nm_eq]
  refine wp_for (fun rest s => ∃ dn, dn ++ rest = w ∧ Ans dn n s ∧ s.length ≤ 2 ^ dn.length) ?_ ?_ w _ ⟨[], rfl, ⟨by simp, fun x => ?_⟩, by simp⟩
  · rintro x xs s next ⟨dn, e, h1, h2⟩ hx
    have hd : dn.length < w.length := by rw [← e]; simp
    have hp : 2 ^ dn.length ≤ 2 ^ 12 := Nat.pow_le_pow_right (by omega) (by omega)
    rw [wp_call]
    refine wp_mono (with_ok s x n h1.1 (by omega) fun y hy => ?_) fun r hr => ?_
    · have := ((h1.2 y).mp hy).1.length_le
      omega
    · obtain ⟨_, r1, r2, r3⟩ := hr
      refine hx _ ⟨dn ++ [x], by rw [← e]; simp, ⟨r1, fun y => ?_⟩, ?_⟩
      · rw [r2, sub_snoc]
        constructor
        · rintro (q | ⟨o, ho, q1, rfl⟩)
          · have := (h1.2 y).mp q
            exact ⟨.inl this.1, this.2⟩
          · have := (h1.2 o).mp ho
            refine ⟨.inr ⟨o, this.1, rfl⟩, ?_⟩
            rw [List.length_append, List.length_singleton]
            omega
        · rintro ⟨q | ⟨o, q, rfl⟩, k⟩
          · exact .inl ((h1.2 y).mpr ⟨q, k⟩)
          · rw [List.length_append, List.length_singleton] at k
            exact .inr ⟨o, (h1.2 o).mpr ⟨q, by omega⟩, by omega, rfl⟩
      · rw [List.length_append, List.length_singleton, Nat.pow_succ]
        omega
  · rintro s ⟨dn, e, h1, h2⟩
    rw [List.append_nil] at e
    subst e
    exact ⟨h1, h2⟩
  · simp only [List.mem_singleton, List.sublist_nil]
    constructor
    · rintro rfl
      exact ⟨rfl, by simpa using hn⟩
    · exact fun h => h.1
theorem short_all {l : List Tx} {k : Nat} (h : ∀ x ∈ l, x.length ≤ k) (hk : k ≤ 16777216) : (l.all fun s => decide (s.length ≤ 16777216)) = true := by
  rw [List.all_eq_true]
  intro x hx
  have := h x hx
  rw [decide_eq_true_eq]
  omega
theorem Ans.short {w : Tx} {n : Int} {l : List Tx} (h : Ans w n l) : ∀ x ∈ l, x.length ≤ w.length := fun x hx => ((h.2 x).mp hx).1.length_le
theorem answers_ok (w : Tx) (n : Int) (hn : 0 ≤ n) (hw : w.length ≤ 12) : (Ty.answers w n).wp fun r => ∃ l, r = srtLX false l ∧ Ans w n l ∧ l.length ≤ 2 ^ w.length := by
  unfold Ty.answers
  rw [wp_call]
  refine wp_mono (answered_ok w n hn hw) fun l ⟨h, h2⟩ => ?_
  rw [grd_ok (short_all h.short (by omega))]
  exact ⟨l, rfl, h, h2⟩
def pick : Nat → Tx → Tx
  | _, [] => []
  | p, c :: w => if p % 2 = 1 then c :: pick (p / 2) w else pick (p / 2) w
theorem pick_sub : ∀ (p : Nat) (w : Tx), (pick p w).Sublist w
  | _, [] => by simp [pick]
  | p, c :: w => by
    unfold pick
    split
    · exact (pick_sub (p / 2) w).cons₂ c
    · exact (pick_sub (p / 2) w).cons c
theorem sub_pick : ∀ {x w : Tx}, x.Sublist w → ∃ p, p < 2 ^ w.length ∧ pick p w = x
  | _, _, .slnil => ⟨0, by simp, rfl⟩
  | _, _, .cons (l₂ := w) c h => by
    obtain ⟨p, h1, h2⟩ := sub_pick h
    refine ⟨2 * p, by rw [List.length_cons, Nat.pow_succ]; omega, ?_⟩
    unfold pick
    rw [if_neg (by omega), show 2 * p / 2 = p by omega]
    exact h2
  | _, _, .cons₂ (l₂ := w) c h => by
    obtain ⟨p, h1, h2⟩ := sub_pick h
    refine ⟨2 * p + 1, by rw [List.length_cons, Nat.pow_succ]; omega, ?_⟩
    unfold pick
    rw [if_pos (by omega), show (2 * p + 1) / 2 = p by omega, h2]
theorem pick_en (p : Nat) : ∀ (w : Tx) (j : Nat), ((w.zipIdx j).map fun q : Char × Nat => ((q.2 : Int), q.1)).filterMap (fun x : Int × Char => if decide (((p : Int) / 2 ^ x.1.toNat) % 2 = 1) = true then some x.2 else none) = pick (p / 2 ^ j) w
  | [], j => by simp [pick]
  | c :: w, j => by
    have e : ((p : Int) / 2 ^ j) % 2 = ((p / 2 ^ j % 2 : Nat) : Int) := by
      rw [Int.natCast_emod, Int.natCast_ediv, Int.natCast_pow]
      rfl
    have ih := pick_en p w (j + 1)
    rw [List.zipIdx_cons, List.map_cons, List.filterMap_cons]
    unfold pick
    rw [ih, Nat.pow_succ, Nat.div_div_eq_div_mul]
    simp only [Int.toNat_natCast, e]
    by_cases h : p / 2 ^ j % 2 = 1
    · rw [if_pos h, if_pos (by rw [decide_eq_true_eq]; omega)]
    · rw [if_neg h, if_neg (by rw [decide_eq_true_eq]; omega)]
theorem due_ok (w : Tx) (n : Int) (hw : w.length ≤ 12) : (Ty.law_due w n).wp fun r => ∃ l, r = srtLX false l ∧ Ans w n l := by
  have hp : 2 ^ w.length ≤ 2 ^ 12 := Nat.pow_le_pow_right (by omega) hw
  have hp : 2 ^ w.length ≤ 4096 := hp
  have e : (1 : Int) * 2 ^ ((w.length : Nat) : Int).toNat = ((2 ^ w.length : Nat) : Int) := by
    rw [Int.toNat_natCast, Int.one_mul, Int.natCast_pow]
    rfl
  unfold Ty.law_due
  rw [grd_ok (by omega), grd_ok ⟨by omega, by omega, by decide⟩]
  simp only [e]
  clear e
  rw [Int.toNat_natCast]
  generalize hM : 2 ^ w.length = M at hp ⊢
  rw [grd_ok (inR_of (by omega) (by omega))]
  refine wp_for (fun rest found => ∃ k, rest = (rgI 0 M).drop k ∧ k ≤ M ∧ found.Nodup ∧ found.length ≤ k ∧ ∀ x, x ∈ found ↔ ∃ p, p < k ∧ pick p w = x ∧ (x.length : Int) ≤ n) ?_ ?_ _ _ ⟨0, rfl, by omega, by simp, by simp, by simp⟩
  · rintro x xs found next ⟨k, e1, hk, h1, h2, h3⟩ hn
    have hkM : k < M := by
      have := congrArg List.length e1
      rw [List.length_drop, rgI_len] at this
      simp at this
      omega
    have ex : x = (k : Int) ∧ xs = (rgI 0 M).drop (k + 1) := by
      have hlt : k < (rgI 0 M).length := by rw [rgI_len]; exact hkM
      rw [List.drop_eq_getElem_cons hlt] at e1
      have h4 := List.cons.inj e1
      refine ⟨?_, h4.2⟩
      rw [h4.1]
      simp [rgI]
    obtain ⟨rfl, e2⟩ := ex
    have pk : fmapR (enX w) (fun x12 => grd (0 ≤ x12.1) <| if (decide ((((k : Int) / 2 ^ x12.1.toNat) % 2) = (1 : Int))) = true then R.ok (some x12.2) else .ok none) = .ok (pick k w) := by
      rw [fmapR_ok (g := fun x : Int × Char => if decide (((k : Int) / 2 ^ x.1.toNat) % 2 = 1) = true then some x.2 else none)]
      · have := pick_en k w 0
        rw [Nat.pow_zero, Nat.div_one] at this
        show R.ok _ = _
        congr 1
      · intro y hy
        obtain ⟨q, _, rfl⟩ := List.mem_map.mp hy
        rw [grd_ok (by simp)]
        split <;> rfl
    rw [pk, call_ok]
    have hs := (pick_sub k w).length_le
    rw [grd_ok (by omega), grd_ok (by omega), grd_ok (by omega), wp_if]
    refine ⟨fun ht => ?_, fun hf => ?_⟩
    · simp only [Bool.and_eq_true, decide_eq_true_eq, Bool.not_eq_true', ← Bool.not_eq_true, memX_iff] at ht
      rw [grd_ok (by omega)]
      refine hn _ ⟨k + 1, e2, hkM, ?_, by simp; omega, fun y => ?_⟩
      · rw [List.nodup_append]
        exact ⟨h1, by simp, fun a ha b hb e => by simp at hb; subst hb; subst e; exact ht.2 ha⟩
      · rw [List.mem_append, List.mem_singleton, h3]
        constructor
        · rintro (⟨p, q1, q2⟩ | rfl)
          · exact ⟨p, by omega, q2⟩
          · exact ⟨k, by omega, rfl, ht.1⟩
        · rintro ⟨p, q1, q2, q3⟩
          by_cases hpk : p = k
          · subst hpk; exact .inr q2.symm
          · exact .inl ⟨p, by omega, q2, q3⟩
    · refine hn _ ⟨k + 1, e2, hkM, h1, by omega, fun y => ?_⟩
      rw [h3]
      constructor
      · rintro ⟨p, q1, q2⟩
        exact ⟨p, by omega, q2⟩
      · rintro ⟨p, q1, q2, q3⟩
        by_cases hpk : p = k
        · subst hpk
          simp only [Bool.and_eq_false_iff, decide_eq_false_iff_not, Bool.not_eq_false', memX_iff] at hf
          rcases hf with hf | hf
          · rw [q2] at hf; exact absurd q3 hf
          · rw [q2] at hf
            exact (h3 y).mp hf
        · exact ⟨p, by omega, q2, q3⟩
  · rintro found ⟨k, e1, hk, h1, h2, h3⟩
    have hkM : k = M := by
      have := congrArg List.length e1
      rw [List.length_drop, rgI_len] at this
      simp at this
      omega
    subst hkM
    have an : Ans w n found := ⟨h1, fun x => by
      rw [h3]
      constructor
      · rintro ⟨p, _, rfl, q⟩
        exact ⟨pick_sub p w, q⟩
      · rintro ⟨q1, q2⟩
        obtain ⟨p, q3, q4⟩ := sub_pick q1
        exact ⟨p, by omega, q4, q2⟩⟩
    rw [grd_ok (short_all an.short (by omega))]
    exact ⟨found, rfl, an⟩
theorem law_ok (script : List Int) (h : script.length ≤ 63) : Ty.law script = .ok true := by
  refine eq_of_wp ?_
  unfold Ty.law
  rw [wp_call]
  refine wp_mono (deal_ok script 0 h) fun p _ => ?_
  rw [wp_call]
  refine wp_mono (draw_ok p 3 (by omega) (by omega)) fun d hd => ?_
  rw [wp_call]
  refine wp_mono (alphabet_ok d.2 (1 + d.1) (by omega) (by omega)) fun al hal => ?_
  have hne : al.1 ≠ [] := fun e => by rw [e] at hal; simp at hal; omega
  have hl := hal.1.len
  rw [grd_ok (inR_of (by omega) (by omega)), wp_call]
  refine wp_mono (wp_mapS (P := fun r : Tx × Int => r.1.length ≤ 6 ∧ 0 ≤ r.2 ∧ r.2 < 4) (I := fun _ => True) trivial fun x _ s _ => ?_) fun ys hys => ?_
  · rw [wp_call]
    refine wp_mono (word_ok s al.1 6 hne hl (by omega)) fun r hr => ?_
    rw [wp_call]
    exact wp_mono (draw_ok r.2 4 (by omega) (by omega)) fun d2 hd2 => ⟨⟨hr, hd2⟩, trivial⟩
  obtain ⟨y1, y2, _⟩ := hys
  rw [rgI_len] at y2
  have y2 : ys.1.length = 3 := y2
  rw [grd_ok (by omega), atI_some (i := 0) (by omega) (by omega), opt_some]
  have q1 := y1 _ (List.getElem_mem (l := ys.1) (n := (0 : Int).toNat) (by simp; omega))
  generalize ys.1[(0 : Int).toNat]'(by simp; omega) = v at q1 ⊢
  rw [wp_call]
  refine wp_mono (draw_ok ys.2 4 (by omega) (by omega)) fun d3 hd3 => ?_
  rw [grd_ok (by omega)]
  have hall : ∀ r ∈ ys.1 ++ [(v.1, d3.1)], r.1.length ≤ 6 ∧ 0 ≤ r.2 ∧ r.2 < 4 := fun r hr => by
    rcases List.mem_append.mp hr with hr | hr
    · exact y1 r hr
    · rw [List.mem_singleton] at hr
      subst hr
      exact ⟨q1.1, hd3⟩
  have hlen : (ys.1 ++ [(v.1, d3.1)]).length = 4 := by simp [y2]
  generalize ys.1 ++ [(v.1, d3.1)] = asked at hall hlen ⊢
  have hc := cutL_le asked none (some 1)
  rw [grd_ok (by omega)]
  have hall2 : ∀ r ∈ asked ++ cutL asked none (some 1), r.1.length ≤ 6 ∧ 0 ≤ r.2 ∧ r.2 < 4 := fun r hr => by
    rcases List.mem_append.mp hr with hr | hr
    · exact hall r hr
    · exact hall r (cutL_in hr)
  generalize asked ++ cutL asked none (some 1) = qs at hall2 ⊢
  refine wp_for (fun xs _ => ∀ r ∈ xs, r.1.length ≤ 6 ∧ 0 ≤ r.2 ∧ r.2 < 4) (fun x xs s next hx hn => ?_) (fun s _ => show (R.ok true).wp (fun b => b = true) from rfl) qs () hall2
  have hx0 := hx x List.mem_cons_self
  rw [wp_call]
  refine wp_mono (answers_ok x.1 x.2 hx0.2.1 (by omega)) fun r ⟨l, e, hl1, hl2⟩ => ?_
  have hp : 2 ^ x.1.length ≤ 2 ^ 6 := Nat.pow_le_pow_right (by omega) hx0.1
  have rp : ∀ {m : List Tx}, Ans x.1 x.2 m → m.length ≤ 64 → reprOk (zQ zS m) := fun {m} hm hz =>
    repr_of (nQ nS) m (by omega) (sh_Q (n := 64) (fun a ha => sh_S (k := 6) (Nat.le_trans (hm.short a ha) hx0.1)) hz) (by omega)
  subst e
  rw [grd_ok (rp hl1.srt (by rw [srtLX_len]; omega)), wp_call]
  refine wp_mono (due_ok x.1 x.2 (by omega)) fun r2 ⟨m, e2, hm⟩ => ?_
  have em := srtLX_eq (b := false) (hm.perm hl1)
  subst e2
  rw [em, grd_ok (rp hl1.srt (by rw [srtLX_len]; omega)), if_neg (by simp)]
  exact hn _ fun r hr => hx r (List.mem_cons_of_mem _ hr)
theorem plain_law : ∀ ns : List Int, ns.length ≤ 63 → ∃ ds, sem_law [.scr ns] = .ok (.bl true) ds := fun ns h => by
  have := l_law (fun _ => 0) ns
  rw [law_ok ns h] at this
  exact ⟨_, this⟩
end Lw

set_option linter.all false
set_option maxRecDepth 100000
set_option maxHeartbeats 0
open PySem PySem.W PySem.Calls PyProof.Rows
theorem PySem.Challenge.cw_lostpost_k60_answers_told_holds : PySem.Challenge.rw_lostpost_k60_answers_told.Holds := by
  w_on; o_law
  refine HandSHeadRun.head_any (r := OpenLaw.row PySem.Challenge.rw_lostpost_k60_answers_told) (q := view (OpenLaw.row PySem.Challenge.rw_lostpost_k60_answers_told).prog [12]) (H := Lw.hhk) (ob := Lw.hob) (M := 4000) (loose := ["in_order", "with_letter", "answered_yes", "answers", "_law_deal", "_law_draw", "_law_alphabet", "_law_word", "_law_order", "_law_due"]) (d := HandSHeadRun.topDef (OpenLaw.row PySem.Challenge.rw_lostpost_k60_answers_told).prog 12) (kwd := []) Lw.hob_eq
    (by kernel_rfl) (fun s => by kernel_rfl) Lw.hrun (by kernel_rfl) (by kernel_rfl) (by kernel_rfl) (by rfl) (by first | assumption | decide +kernel) (by decide +kernel) ⟨rfl, rfl, rfl, rfl, rfl, by decide +kernel⟩ ?hw ?hc
  case hw => w_witness2
  case hc =>
    refine Dl.walk_G (l := PySem.Challenge.rw_lostpost_k60_answers_told) (n := 63) (k := 5) (x := "_law_script") rfl (by decide) (by kernel_rfl) ⟨rfl, by decide, by decide⟩ ?F
    intro w mg fa h Y G hmg0
    obtain ⟨K, KX, c⟩ := Y
    have hmg : mg ("law" : PySem.Str) = some (.ref fa) := by
      have e : (HandSHeadRun.topDef (OpenLaw.row PySem.Challenge.rw_lostpost_k60_answers_told).prog 12).name = ("law" : PySem.Str) := by kernel_rfl
      rw [← e]
      exact hmg0
    obtain ⟨fd, hb, hF⟩ := Lw.hfacts (P := (PySem.Challenge.rw_lostpost_k60_answers_told).prog) (w := w) KX G hmg c
    exact ⟨K, fd, Lw.sem_law, KX, hb, Lw.plain_law, hF⟩

