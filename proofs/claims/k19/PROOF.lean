import PyProof.Rows.All
import Wide.All
import OpenK.AllK
import Wide.FinOn
import HandS.ForMost
import HandS.Exc
import HandS.WordsExc
import HandS.Zip
import HandS.Rev
import HandS.RevRange
import HandS.CallSlots
import HandS.Defaults
import HandS.Deep
import HandS.TupAny
import HandS.SortInts
import KE.SortData
import HandS.More
import HandS.Small
import HandS.Conv
import HandS.TupMul
import HandS.Steps
import PyProof.ListStr
import PyProof.StrLaws
import PyProof.ReprRoads
import HandS.Ends
import HandS.HeadEnd
import HandS.HeadHook2
import HandS.Head0
import HandS.Head1
import HandS.Head2
import PySem.Challenge.RW_lostpost_k19_products_within
set_option Elab.async false
set_option linter.all false
set_option maxRecDepth 100000
/-! Dl0: values as data with owned lists and dicts; the state of a def's body told by data. -/
namespace Dl
open PySem L2

/-- data: what a value is, lists and dicts and instances within it; the flag of a list or dict: whether it is owned (held by one place alone, so that it may be changed) -/
inductive D where
  | non | bl (b : Bool) | int (i : Int) | str (l : List Nat) | tup (l : List D)
  | lst (o : Bool) (l : List D) | dic (o : Bool) (ks vs : List D) | ins (C : Addr) (ns : List Str) (vs : List D) | cst (a : Addr) | hol (v : V) | scr (l : List Int)

mutual
/-- whether something owned is in it -/
def D.own : D → Bool
  | .tup l => D.owns l
  | .lst o _ => o
  | .dic o _ _ => o
  | .ins _ _ _ => true
  | _ => false
def D.owns : List D → Bool
  | [] => false
  | d :: l => d.own || D.owns l
end
mutual
/-- nothing in it is owned any more -/
def D.frz : D → D
  | .tup l => .tup (D.frzs l)
  | .lst _ l => .lst false (D.frzs l)
  | .dic _ ks vs => .dic false ks (D.frzs vs)
  | d => d
def D.frzs : List D → List D
  | [] => []
  | d :: l => d.frz :: D.frzs l
end

/-- a dict's key as data -/
def keyD : Key → D
  | .inl i => .int i
  | .inr x => .str x.cps.toList
/-- a dict at an address: with the keys ks (as data) and the values xs -/
def DicAt (H : Hp) (a : Addr) (ks : List D) (xs : List V) : Prop :=
  ∃ kvs : List (Key × V), H a = some (.dK kvs) ∧ ks = kvs.map (fun p => keyD p.1) ∧ xs = kvs.map Prod.snd

section
variable (K : PySem.W.Frag) (H Z : Hp)
mutual
/-- O d v A: the value v is the data d; what is owned in it stands at A, in H; the rest stands in Z, where nothing changes any more -/
inductive O : D → V → List Addr → Prop
  | non : O .non .non []
  | bl (b) : O (.bl b) (.bl b) []
  | int (i) : O (.int i) (.int i) []
  | str (l) : O (.str l) (.str ⟨l.toArray⟩) []
  | cst (a) : O (.cst a) (.ref a) []
  | hol (v) : O (.hol v) v []
  | tup {a xs l A} : SqT K Z a xs → Os l xs A → O (.tup l) (.ref a) A
  | scr {a l} : SqL K Z a (l.map V.int) → O (.scr l) (.ref a) []
  | shr {a xs l} : Z a = some (.lst xs) → Os l xs [] → O (.lst false l) (.ref a) []
  | lst {a xs l A} : H a = some (.lst xs) → Z a = none → Os l xs A → O (.lst true l) (.ref a) (a :: A)
  | dsh {a ks xs vs} : DicAt Z a ks xs → Os vs xs [] → O (.dic false ks vs) (.ref a) []
  | dic {a ks xs vs A} : DicAt H a ks xs → Z a = none → Os vs xs A → O (.dic true ks vs) (.ref a) (a :: A)
  | ins {a dx C fs vs A} : H a = some (.ins C dx fs) → Z a = none → H dx = some (.own a) → Z dx = none → Os vs (fs.map Prod.snd) A → O (.ins C (fs.map Prod.fst) vs) (.ref a) (a :: dx :: A)
inductive Os : List D → List V → List Addr → Prop
  | nil : Os [] [] []
  | cons {d v A ds vs B} : O d v A → Os ds vs B → Os (d :: ds) (v :: vs) (A ++ B)
end
/-- the slots of a def -/
inductive Cells : List (Option D) → List (Option V) → List Addr → Prop
  | nil : Cells [] [] []
  | no {ρ x σ A} : Cells ρ σ A → Cells (none :: ρ) (x :: σ) A
  | so {d v A ρ σ B} : O K H Z d v A → Cells ρ σ B → Cells (some d :: ρ) (some v :: σ) (A ++ B)
end

/-- a value on its way: data, or what stands in a slot -/
inductive Tm where
  | v (d : D) | s (i : Nat)
inductive Tms (K : PySem.W.Frag) (H Z : Hp) (σ : St) : List Tm → List V → List Addr → Prop
  | nil : Tms K H Z σ [] [] []
  | v {d x A τ vs B} : O K H Z d x A → Tms K H Z σ τ vs B → Tms K H Z σ (.v d :: τ) (x :: vs) (A ++ B)
  | s {i x τ vs B} : σ[i]? = some (some x) → Tms K H Z σ τ vs B → Tms K H Z σ (.s i :: τ) (x :: vs) B

/-- where a def stands: the heap at its entry, what was shared then, what it was lent -/
structure Fr where
  H0 : Hp
  Z0 : Hp
  G : List Addr
structure Good (κ : Fr) (H Z : Hp) (L : List Addr) : Prop where
  nd : L.Nodup
  zh : Same Z H
  z0 : Same κ.Z0 Z
  keep : ∀ a o, κ.H0 a = some o → a ∉ κ.G → H a = some o
  own : ∀ a ∈ L, Z a = none ∧ (∃ o, H a = some o) ∧ (a ∈ κ.G ∨ κ.H0 a = none)
  zn : ∀ a o, Z a = some o → κ.Z0 a = some o ∨ a ∈ κ.G ∨ κ.H0 a = none
def Stt (K : PySem.W.Frag) (κ : Fr) (ρ : List (Option D)) (τ : List Tm) (vs : List V) (σ : St) (H : Hp) : Prop :=
  ∃ Z A B, Cells K H Z ρ σ A ∧ Tms K H Z σ τ vs B ∧ Good κ H Z (A ++ B)

/-! ### the relations by themselves -/
section
variable {K : PySem.W.Frag} {H Z H' Z' : Hp}
theorem sqT_keep {a : Addr} {xs : List V} (e : Same Z Z') (h : SqT K Z a xs) : SqT K Z' a xs := by
  rcases h with (h | ⟨o, h⟩) | h
  · exact .inl (.inl (e _ _ h))
  · exact .inl (.inr ⟨o, e _ _ h⟩)
  · exact .inr h
theorem dic_keep {a : Addr} {ks : List D} {xs : List V} (e : Same Z Z') (h : DicAt Z a ks xs) : DicAt Z' a ks xs :=
  let ⟨kvs, h1, h2, h3⟩ := h; ⟨kvs, e _ _ h1, h2, h3⟩
mutual
/-- what stays of it -/
theorem O.keep (zz : Same Z Z') : ∀ {d : D} {v : V} {A : List Addr}, O K H Z d v A → (∀ a ∈ A, H' a = H a ∧ Z' a = none) → O K H' Z' d v A
  | _, _, _, .non, _ => .non
  | _, _, _, .bl _, _ => .bl _
  | _, _, _, .int _, _ => .int _
  | _, _, _, .str _, _ => .str _
  | _, _, _, .cst _, _ => .cst _
  | _, _, _, .hol _, _ => .hol _
  | _, _, _, .scr h, _ => .scr (zz.seq h)
  | _, _, _, .tup h1 h2, k => .tup (sqT_keep zz h1) (Os.keep zz h2 k)
  | _, _, _, .shr h1 h2, k => .shr (zz _ _ h1) (Os.keep zz h2 fun _ q => nomatch q)
  | _, _, _, .lst h1 h2 h3, k => .lst ((k _ List.mem_cons_self).1.trans h1) (k _ List.mem_cons_self).2 (Os.keep zz h3 fun a q => k a (List.mem_cons_of_mem _ q))
  | _, _, _, .dsh h1 h2, k => .dsh (dic_keep zz h1) (Os.keep zz h2 fun _ q => nomatch q)
  | _, _, _, .dic ⟨kvs, h1, e1, e2⟩ h2 h3, k => .dic ⟨kvs, (k _ List.mem_cons_self).1.trans h1, e1, e2⟩ (k _ List.mem_cons_self).2 (Os.keep zz h3 fun a q => k a (List.mem_cons_of_mem _ q))
  | _, _, _, .ins h1 h2 h3 h4 h5, k => .ins ((k _ List.mem_cons_self).1.trans h1) (k _ List.mem_cons_self).2 ((k _ (List.mem_cons_of_mem _ List.mem_cons_self)).1.trans h3) (k _ (List.mem_cons_of_mem _ List.mem_cons_self)).2
      (Os.keep zz h5 fun a q => k a (List.mem_cons_of_mem _ (List.mem_cons_of_mem _ q)))
theorem Os.keep (zz : Same Z Z') : ∀ {ds : List D} {vs : List V} {A : List Addr}, Os K H Z ds vs A → (∀ a ∈ A, H' a = H a ∧ Z' a = none) → Os K H' Z' ds vs A
  | _, _, _, .nil, _ => .nil
  | _, _, _, .cons h1 h2, k => .cons (O.keep zz h1 fun a q => k a (List.mem_append_left _ q)) (Os.keep zz h2 fun a q => k a (List.mem_append_right _ q))
end
theorem Cells.keep (zz : Same Z Z') : ∀ {ρ : List (Option D)} {σ : St} {A : List Addr}, Cells K H Z ρ σ A → (∀ a ∈ A, H' a = H a ∧ Z' a = none) → Cells K H' Z' ρ σ A
  | _, _, _, .nil, _ => .nil
  | _, _, _, .no h, k => .no (Cells.keep zz h k)
  | _, _, _, .so h1 h2, k => .so (h1.keep zz fun a q => k a (List.mem_append_left _ q)) (Cells.keep zz h2 fun a q => k a (List.mem_append_right _ q))
theorem Tms.keep (zz : Same Z Z') {σ : St} : ∀ {τ : List Tm} {vs : List V} {A : List Addr}, Tms K H Z σ τ vs A → (∀ a ∈ A, H' a = H a ∧ Z' a = none) → Tms K H' Z' σ τ vs A
  | _, _, _, .nil, _ => .nil
  | _, _, _, .v h1 h2, k => .v (h1.keep zz fun a q => k a (List.mem_append_left _ q)) (Tms.keep zz h2 fun a q => k a (List.mem_append_right _ q))
  | _, _, _, .s h1 h2, k => .s h1 (Tms.keep zz h2 k)
theorem Os.length : ∀ {ds : List D} {vs : List V} {A : List Addr}, Os K H Z ds vs A → vs.length = ds.length
  | _, _, _, .nil => rfl
  | _, _, _, .cons _ h => by simp [Os.length h]
theorem Os.append : ∀ {ds es : List D} {vs ws : List V} {A B : List Addr}, Os K H Z ds vs A → Os K H Z es ws B → Os K H Z (ds ++ es) (vs ++ ws) (A ++ B)
  | _, _, _, _, _, _, .nil, h => h
  | _, _, _, _, _, _, .cons h1 h2, h => by
    rw [List.append_assoc]
    exact .cons h1 (Os.append h2 h)
theorem Os.split : ∀ {ds es : List D} {vs : List V} {A : List Addr}, Os K H Z (ds ++ es) vs A → ∃ v1 v2 A1 A2, vs = v1 ++ v2 ∧ A = A1 ++ A2 ∧ Os K H Z ds v1 A1 ∧ Os K H Z es v2 A2
  | [], es, vs, A, h => ⟨[], vs, [], A, rfl, rfl, .nil, h⟩
  | d :: ds, es, _, _, .cons h1 h2 => by
    obtain ⟨v1, v2, A1, A2, rfl, rfl, q1, q2⟩ := Os.split h2
    exact ⟨_ :: v1, v2, _ ++ A1, A2, rfl, by simp, .cons h1 q1, q2⟩
mutual
theorem O.noown : ∀ {d : D} {v : V} {A : List Addr}, O K H Z d v A → d.own = false → A = []
  | _, _, _, .non, _ => rfl
  | _, _, _, .bl _, _ => rfl
  | _, _, _, .int _, _ => rfl
  | _, _, _, .str _, _ => rfl
  | _, _, _, .cst _, _ => rfl
  | _, _, _, .hol _, _ => rfl
  | _, _, _, .scr _, _ => rfl
  | _, _, _, .tup h1 h2, e => Os.noown h2 (by simpa [D.own] using e)
  | _, _, _, .shr h1 h2, e => rfl
  | _, _, _, .lst h1 h2 h3, e => by simp [D.own] at e
  | _, _, _, .dsh h1 h2, e => rfl
  | _, _, _, .dic h1 h2 h3, e => by simp [D.own] at e
  | _, _, _, .ins h1 h2 h3 h4 h5, e => by simp [D.own] at e
theorem Os.noown : ∀ {ds : List D} {vs : List V} {A : List Addr}, Os K H Z ds vs A → D.owns ds = false → A = []
  | _, _, _, .nil, _ => rfl
  | _, _, _, .cons h1 h2, e => by
    simp only [D.owns, Bool.or_eq_false_iff] at e
    rw [O.noown h1 e.1, Os.noown h2 e.2]; rfl
end
/-- the i-th of them -/
theorem Os.at : ∀ {ds : List D} {vs : List V} {A : List Addr} {i : Nat} {d : D}, Os K H Z ds vs A → ds[i]? = some d → ∃ v C, vs[i]? = some v ∧ O K H Z d v C ∧ ∀ a ∈ C, a ∈ A
  | _, _, _, i, _, .nil, e => by simp at e
  | _, _, _, 0, _, .cons h1 _, e => by
    simp only [List.getElem?_cons_zero, Option.some.injEq] at e
    subst e
    exact ⟨_, _, rfl, h1, fun a q => List.mem_append_left _ q⟩
  | _, _, _, i + 1, _, .cons _ h2, e => by
    simp only [List.getElem?_cons_succ] at e
    obtain ⟨v, C, e1, h, q⟩ := Os.at h2 e
    exact ⟨v, C, by simpa using e1, h, fun a m => List.mem_append_right _ (q a m)⟩
theorem Cells.at : ∀ {ρ : List (Option D)} {σ : St} {A : List Addr} {i : Nat} {d : D}, Cells K H Z ρ σ A → ρ[i]? = some (some d) → ∃ v C, σ[i]? = some (some v) ∧ O K H Z d v C ∧ ∀ a ∈ C, a ∈ A
  | _, _, _, i, _, .nil, e => by simp at e
  | _, _, _, 0, _, .no _, e => by simp at e
  | _, _, _, 0, _, .so h1 _, e => by
    simp only [List.getElem?_cons_zero, Option.some.injEq] at e
    subst e
    exact ⟨_, _, rfl, h1, fun a q => List.mem_append_left _ q⟩
  | _, _, _, i + 1, _, .no h, e => by
    simp only [List.getElem?_cons_succ] at e
    obtain ⟨v, C, e1, h, q⟩ := Cells.at h e
    exact ⟨v, C, by simpa using e1, h, q⟩
  | _, _, _, i + 1, _, .so _ h2, e => by
    simp only [List.getElem?_cons_succ] at e
    obtain ⟨v, C, e1, h, q⟩ := Cells.at h2 e
    exact ⟨v, C, by simpa using e1, h, fun a m => List.mem_append_right _ (q a m)⟩
/-- a slot taken out: what is left, up to the order of addresses -/
theorem Cells.take : ∀ {ρ : List (Option D)} {σ : St} {A : List Addr} {i : Nat} {d : D}, Cells K H Z ρ σ A → ρ[i]? = some (some d) →
    ∃ v C A', σ[i]? = some (some v) ∧ O K H Z d v C ∧ Cells K H Z (ρ.set i none) σ A' ∧ (C ++ A').Perm A
  | _, _, _, i, _, .nil, e => by simp at e
  | _, _, _, 0, _, .no _, e => by simp at e
  | _, _, _, 0, _, .so h1 h2, e => by
    simp only [List.getElem?_cons_zero, Option.some.injEq] at e
    subst e
    exact ⟨_, _, _, rfl, h1, .no h2, .refl _⟩
  | _, _, _, i + 1, _, .no h, e => by
    simp only [List.getElem?_cons_succ] at e
    obtain ⟨v, C, A', e1, h, q, p⟩ := Cells.take h e
    exact ⟨v, C, A', by simpa using e1, h, .no q, p⟩
  | _, _, _, i + 1, _, @Cells.so _ _ _ _ _ A0 _ _ B0 h1 h2, e => by
    simp only [List.getElem?_cons_succ] at e
    obtain ⟨v, C, A', e1, h, q, p⟩ := Cells.take h2 e
    refine ⟨v, C, A0 ++ A', by simpa using e1, h, .so h1 q, ?_⟩
    have p1 : (C ++ (A0 ++ A')).Perm (A0 ++ (C ++ A')) := by
      rw [← List.append_assoc, ← List.append_assoc]
      exact List.perm_append_comm.append_right _
    exact p1.trans (p.append_left _)
/-- a slot is stored -/
theorem Cells.put : ∀ {ρ : List (Option D)} {σ : St} {A C : List Addr} {i : Nat} {d : D} {v : V}, Cells K H Z ρ σ A → i < ρ.length → O K H Z d v C →
    ∃ A', Cells K H Z (ρ.set i (some d)) (σ.set i (some v)) A' ∧ ∃ R, A'.Perm (C ++ R) ∧ R.Sublist A
  | _, _, _, _, i, _, _, .nil, hi, _ => by simp at hi
  | _, _, _, C, 0, _, _, .no h, _, o => ⟨_, .so o h, _, .refl _, .refl _⟩
  | _, _, _, C, 0, _, _, .so h1 h2, _, o => ⟨_, .so o h2, _, .refl _, List.sublist_append_right _ _⟩
  | _, _, _, C, i + 1, _, _, .no h, hi, o => by
    obtain ⟨A', h', R, p, s⟩ := Cells.put h (by simpa using hi) o
    exact ⟨A', .no h', R, p, s⟩
  | _, _, _, C, i + 1, _, _, @Cells.so _ _ _ _ _ A0 _ _ B0 h1 h2, hi, o => by
    obtain ⟨A', h', R, p, s⟩ := Cells.put h2 (by simpa using hi) o
    refine ⟨A0 ++ A', .so h1 h', A0 ++ R, ?_, s.append_left _⟩
    have p1 : (A0 ++ (C ++ R)).Perm (C ++ (A0 ++ R)) := by
      rw [← List.append_assoc, ← List.append_assoc]
      exact List.perm_append_comm.append_right _
    exact (p.append_left _).trans p1
theorem Cells.length : ∀ {ρ : List (Option D)} {σ : St} {A : List Addr}, Cells K H Z ρ σ A → σ.length = ρ.length
  | _, _, _, .nil => rfl
  | _, _, _, .no h => by simp [Cells.length h]
  | _, _, _, .so _ h => by simp [Cells.length h]
theorem Cells.drop : ∀ {ρ : List (Option D)} {σ : St} {A : List Addr} {i : Nat}, Cells K H Z ρ σ A → ∃ A', Cells K H Z (ρ.set i none) σ A' ∧ A'.Sublist A
  | _, _, _, i, .nil => ⟨[], by simpa using .nil, .refl _⟩
  | _, _, _, 0, .no h => ⟨_, .no h, .refl _⟩
  | _, _, _, 0, .so _ h => ⟨_, .no h, List.sublist_append_right _ _⟩
  | _, _, _, i + 1, .no h => by
    obtain ⟨A', h', s⟩ := Cells.drop (i := i) h
    exact ⟨A', .no h', s⟩
  | _, _, _, i + 1, .so h1 h => by
    obtain ⟨A', h', s⟩ := Cells.drop (i := i) h
    exact ⟨_, .so h1 h', s.append_left _⟩
end
end Dl

set_option linter.all false
set_option maxRecDepth 100000
/-! Dl1: what may be done to a state: a value pushed, dropped, frozen, stored, taken, a new object, a list changed. -/
namespace Dl
open PySem L2

/-- L' is a part of L, in whatever order -/
def Sub (L' L : List Addr) : Prop := ∃ R, (L' ++ R).Perm L
theorem Sub.refl {L : List Addr} : Sub L L := ⟨[], by simp⟩
theorem Sub.of_perm {L' L : List Addr} (p : L'.Perm L) : Sub L' L := ⟨[], by simpa using p⟩
theorem Sub.trans {a b c : List Addr} : Sub a b → Sub b c → Sub a c
  | ⟨R, p⟩, ⟨S, q⟩ => ⟨R ++ S, by rw [← List.append_assoc]; exact (p.append_right S).trans q⟩
theorem Sub.mem {a b : List Addr} : Sub a b → ∀ x ∈ a, x ∈ b
  | ⟨R, p⟩, x, h => p.mem_iff.mp (List.mem_append_left _ h)
theorem Sub.nodup {a b : List Addr} : Sub a b → b.Nodup → a.Nodup
  | ⟨R, p⟩, h => (List.nodup_append.mp (p.nodup_iff.mpr h)).1
theorem sub_right {a b : List Addr} : Sub b (a ++ b) := ⟨a, List.perm_append_comm⟩
theorem sub_left {a b : List Addr} : Sub a (a ++ b) := ⟨b, .refl _⟩
theorem Sub.of_sublist {a b : List Addr} (h : a.Sublist b) : Sub a b := by
  induction h with
  | slnil => exact .refl
  | cons x _ ih => obtain ⟨R, p⟩ := ih; exact ⟨x :: R, (List.perm_middle).trans (p.cons x)⟩
  | cons_cons x _ ih => obtain ⟨R, p⟩ := ih; exact ⟨R, p.cons x⟩
theorem Sub.app {a b c d : List Addr} : Sub a b → Sub c d → Sub (a ++ c) (b ++ d)
  | ⟨R, p⟩, ⟨S, q⟩ => ⟨R ++ S, by
    have e : ((a ++ c) ++ (R ++ S)).Perm ((a ++ R) ++ (c ++ S)) := by
      rw [List.append_assoc, List.append_assoc]
      refine List.Perm.append_left a ?_
      rw [← List.append_assoc, ← List.append_assoc]
      exact List.perm_append_comm.append_right S
    exact e.trans (p.append q)⟩
theorem Good.sub {κ : Fr} {H Z : Hp} {L L' : List Addr} (g : Good κ H Z L) (s : Sub L' L) : Good κ H Z L' :=
  ⟨s.nodup g.nd, g.zh, g.z0, g.keep, fun a h => g.own a (s.mem a h), g.zn⟩

section
variable {K : PySem.W.Frag} {κ : Fr} {ρ : List (Option D)} {τ : List Tm} {vs : List V} {σ : St} {H : Hp} {d : D} {v : V} {i : Nat}

theorem Stt.len (h : Stt K κ ρ τ vs σ H) : σ.length = ρ.length := by
  obtain ⟨Z, A, B, c, _, _⟩ := h
  exact c.length
theorem Stt.pop {t : Tm} (h : Stt K κ ρ (t :: τ) (v :: vs) σ H) : Stt K κ ρ τ vs σ H := by
  obtain ⟨Z, A, B, c, t, g⟩ := h
  cases t with
  | v h1 h2 => exact ⟨Z, A, _, c, h2, g.sub (.app .refl sub_right)⟩
  | s h1 h2 => exact ⟨Z, A, _, c, h2, g⟩
theorem Stt.pop2 {t u : Tm} {w : V} (h : Stt K κ ρ (t :: u :: τ) (v :: w :: vs) σ H) : Stt K κ ρ τ vs σ H := h.pop.pop
theorem Stt.push (h : Stt K κ ρ τ vs σ H) (o : ∀ Z, O K H Z d v []) : Stt K κ ρ (.v d :: τ) (v :: vs) σ H := by
  obtain ⟨Z, A, B, c, t, g⟩ := h
  exact ⟨Z, A, [] ++ B, c, .v (o Z) t, g⟩
theorem Stt.pushI (h : Stt K κ ρ τ vs σ H) (n : Int) : Stt K κ ρ (.v (.int n) :: τ) (.int n :: vs) σ H := h.push fun _ => .int n
theorem Stt.pushB (h : Stt K κ ρ τ vs σ H) (b : Bool) : Stt K κ ρ (.v (.bl b) :: τ) (.bl b :: vs) σ H := h.push fun _ => .bl b
theorem Stt.pushN (h : Stt K κ ρ τ vs σ H) : Stt K κ ρ (.v .non :: τ) (.non :: vs) σ H := h.push fun _ => .non
theorem Stt.pushS (h : Stt K κ ρ τ vs σ H) (l : List Nat) : Stt K κ ρ (.v (.str l) :: τ) (.str ⟨l.toArray⟩ :: vs) σ H := h.push fun _ => .str l
theorem Stt.slot (h : Stt K κ ρ τ vs σ H) (e : ρ[i]? = some (some d)) : ∃ x, σ[i]? = some (some x) := by
  obtain ⟨Z, A, B, c, t, g⟩ := h
  obtain ⟨x, C, q, _⟩ := c.at e
  exact ⟨x, q⟩
theorem Stt.mark (h : Stt K κ ρ τ vs σ H) (e : σ[i]? = some (some v)) : Stt K κ ρ (.s i :: τ) (v :: vs) σ H := by
  obtain ⟨Z, A, B, c, t, g⟩ := h
  exact ⟨Z, A, B, c, .s e t, g⟩
/-- what a value on its way is, by data -/
def look (ρ : List (Option D)) : Tm → Option D
  | .v d => some d
  | .s i => (ρ[i]?).join
/-- .. and in the heap -/
theorem Stt.look {t : Tm} (h : Stt K κ ρ (t :: τ) (v :: vs) σ H) (e : look ρ t = some d) : ∃ Z C, O K H Z d v C ∧ Same Z H := by
  obtain ⟨Z, A, B, c, t, g⟩ := h
  cases t with
  | v h1 h2 => cases e; exact ⟨Z, _, h1, g.zh⟩
  | @s i _ _ _ _ h1 h2 =>
    have e' : ρ[i]? = some (some d) := by
      simp only [Dl.look, Option.join_eq_some_iff] at e
      exact e
    obtain ⟨x, C, q, o, _⟩ := c.at e'
    rw [h1] at q
    cases q
    exact ⟨Z, C, o, g.zh⟩
/-- something not owned may be held twice -/
theorem Stt.copy {t : Tm} (h : Stt K κ ρ (t :: τ) (v :: vs) σ H) (e : Dl.look ρ t = some d) (n : d.own = false) : Stt K κ ρ (.v d :: τ) (v :: vs) σ H := by
  obtain ⟨Z, A, B, c, t, g⟩ := h
  cases t with
  | v h1 h2 => cases e; exact ⟨Z, A, _, c, .v h1 h2, g⟩
  | @s i _ _ _ _ h1 h2 =>
    have e' : ρ[i]? = some (some d) := by
      simp only [Dl.look, Option.join_eq_some_iff] at e
      exact e
    obtain ⟨x, C, q, o, _⟩ := c.at e'
    rw [h1] at q
    cases q
    have z := o.noown n
    subst z
    exact ⟨Z, A, [] ++ B, c, .v o h2, g⟩
/-- a slot's value taken out of it -/
theorem Stt.take (h : Stt K κ ρ τ vs σ H) (e : ρ[i]? = some (some d)) (s : σ[i]? = some (some v)) : Stt K κ (ρ.set i none) (.v d :: τ) (v :: vs) σ H := by
  obtain ⟨Z, A, B, c, t, g⟩ := h
  obtain ⟨x, C, A', q, o, c', p⟩ := c.take e
  rw [s] at q
  cases q
  refine ⟨Z, A', C ++ B, c', .v o t, g.sub (.of_perm ?_)⟩
  rw [← List.append_assoc]
  exact (List.perm_append_comm.append_right B).trans (p.append_right B)
/-- all temps are data -/
def vOnly : List Tm → Prop
  | [] => True
  | .v _ :: τ => vOnly τ
  | .s _ :: _ => False
theorem Tms.otherσ {Z : Hp} {σ' : St} : ∀ {τ : List Tm} {vs : List V} {A : List Addr}, vOnly τ → Tms K H Z σ τ vs A → Tms K H Z σ' τ vs A
  | _, _, _, _, .nil => .nil
  | _, _, _, h, .v h1 h2 => .v h1 (Tms.otherσ h h2)
/-- a value is stored in a slot -/
theorem Stt.put (h : Stt K κ ρ (.v d :: τ) (v :: vs) σ H) (hi : i < ρ.length) (ht : vOnly τ) : Stt K κ (ρ.set i (some d)) τ vs (σ.set i (some v)) H := by
  obtain ⟨Z, A, B, c, t, g⟩ := h
  cases t with
  | @v _ _ C _ _ B h1 h2 =>
    obtain ⟨A', c', R, p, s⟩ := c.put hi h1
    refine ⟨Z, A', B, c', h2.otherσ ht, g.sub ?_⟩
    refine Sub.trans (.app (.trans (.of_perm p) (.app .refl (.of_sublist s))) .refl) (.of_perm ?_)
    rw [← List.append_assoc]
    exact List.perm_append_comm.append_right B
/-- .. of the same place (behind a take) -/
theorem Cells.back {Z : Hp} : ∀ {ρ : List (Option D)} {σ : St} {A C : List Addr} {i : Nat} {d : D} {v : V}, Cells K H Z ρ σ A → i < ρ.length → ρ[i]? = some none → σ[i]? = some (some v) → O K H Z d v C →
    ∃ A', Cells K H Z (ρ.set i (some d)) σ A' ∧ A'.Perm (C ++ A)
  | _, _, _, _, i, _, _, .nil, hi, _, _, _ => by simp at hi
  | _, _, _, C, 0, _, _, .no h, _, _, e, o => by
    simp only [List.getElem?_cons_zero, Option.some.injEq] at e
    subst e
    exact ⟨_, .so o h, .refl _⟩
  | _, _, _, C, 0, _, _, .so h1 h2, _, e, _, o => by simp at e
  | _, _, _, C, i + 1, _, _, .no h, hi, e, s, o => by
    obtain ⟨A', h', p⟩ := Cells.back h (by simpa using hi) (by simpa using e) (by simpa using s) o
    exact ⟨A', .no h', p⟩
  | _, _, _, C, i + 1, _, _, @Cells.so _ _ _ _ _ A0 _ _ B0 h1 h2, hi, e, s, o => by
    obtain ⟨A', h', p⟩ := Cells.back h2 (by simpa using hi) (by simpa using e) (by simpa using s) o
    refine ⟨A0 ++ A', .so h1 h', (p.append_left _).trans ?_⟩
    rw [← List.append_assoc, ← List.append_assoc]
    exact List.perm_append_comm.append_right _
theorem Stt.back (h : Stt K κ ρ (.v d :: τ) (v :: vs) σ H) (e : ρ[i]? = some none) (s : σ[i]? = some (some v)) : Stt K κ (ρ.set i (some d)) τ vs σ H := by
  obtain ⟨Z, A, B, c, t, g⟩ := h
  cases t with
  | @v _ _ C _ _ B h1 h2 =>
    obtain ⟨A', c', p⟩ := c.back (List.getElem?_eq_some_iff.mp e).1 e s h1
    refine ⟨Z, A', B, c', h2, g.sub (.of_perm ((p.append_right B).trans ?_))⟩
    rw [← List.append_assoc]
    exact List.perm_append_comm.append_right B
theorem Stt.drop (h : Stt K κ ρ τ vs σ H) : Stt K κ (ρ.set i none) τ vs σ H := by
  obtain ⟨Z, A, B, c, t, g⟩ := h
  obtain ⟨A', c', s⟩ := c.drop (i := i)
  exact ⟨Z, A', B, c', t, g.sub (.app (.of_sublist s) .refl)⟩

/-! ### frozen -/
mutual
/-- no instance is in it -/
def D.fz : D → Bool
  | .tup l => D.fzs l
  | .lst _ l => D.fzs l
  | .dic _ _ l => D.fzs l
  | .ins _ _ _ => false
  | _ => true
def D.fzs : List D → Bool
  | [] => true
  | d :: l => d.fz && D.fzs l
end
def zf (Z H : Hp) (A : List Addr) : Hp := fun a => if a ∈ A then H a else Z a
theorem zf_same {Z : Hp} {A : List Addr} (h : ∀ a ∈ A, Z a = none) : Same Z (zf Z H A) := fun a o e => by
  have n : a ∉ A := fun q => by rw [h a q] at e; cases e
  unfold zf; rw [if_neg n]; exact e
mutual
theorem O.frz {Z : Hp} : ∀ {d : D} {v : V} {A A' : List Addr}, O K H Z d v A → d.fz = true → (∀ a ∈ A, a ∈ A') → (∀ a ∈ A', Z a = none) → O K H (zf Z H A') d.frz v []
  | _, _, _, _, .non, _, _, _ => .non
  | _, _, _, _, .bl _, _, _, _ => .bl _
  | _, _, _, _, .int _, _, _, _ => .int _
  | _, _, _, _, .str _, _, _, _ => .str _
  | _, _, _, _, .cst _, _, _, _ => .cst _
  | _, _, _, _, .hol _, _, _, _ => .hol _
  | _, _, _, _, .scr h, _, _, z => .scr ((zf_same z).seq h)
  | _, _, _, _, .tup h1 h2, f, s, z => .tup (sqT_keep (zf_same z) h1) (Os.frz h2 (by simpa [D.fz] using f) s z)
  | _, _, _, _, .shr h1 h2, f, s, z => .shr (zf_same z _ _ h1) (Os.frz h2 (by simpa [D.fz] using f) (fun _ q => nomatch q) z)
  | _, _, _, _, .lst h1 h2 h3, f, s, z => .shr (by unfold zf; rw [if_pos (s _ List.mem_cons_self)]; exact h1) (Os.frz h3 (by simpa [D.fz] using f) (fun a q => s a (List.mem_cons_of_mem _ q)) z)
  | _, _, _, _, .dsh h1 h2, f, s, z => .dsh (dic_keep (zf_same z) h1) (Os.frz h2 (by simpa [D.fz] using f) (fun _ q => nomatch q) z)
  | _, _, _, _, .dic ⟨kvs, h1, e1, e2⟩ h2 h3, f, s, z => .dsh ⟨kvs, (by unfold zf; rw [if_pos (s _ List.mem_cons_self)]; exact h1), e1, e2⟩ (Os.frz h3 (by simpa [D.fz] using f) (fun a q => s a (List.mem_cons_of_mem _ q)) z)
  | _, _, _, _, .ins h1 h2 h3 h4 h5, f, _, _ => by simp [D.fz] at f
theorem Os.frz {Z : Hp} : ∀ {d : List D} {v : List V} {A A' : List Addr}, Os K H Z d v A → D.fzs d = true → (∀ a ∈ A, a ∈ A') → (∀ a ∈ A', Z a = none) → Os K H (zf Z H A') (D.frzs d) v []
  | _, _, _, _, .nil, _, _, _ => .nil
  | _, _, _, _, .cons h1 h2, f, s, z => by
    simp only [D.fzs, Bool.and_eq_true] at f
    exact .cons (A := []) (B := []) (O.frz h1 f.1 (fun a q => s a (List.mem_append_left _ q)) z) (Os.frz h2 f.2 (fun a q => s a (List.mem_append_right _ q)) z)
end
theorem nodup_split {A B C : List Addr} (h : (A ++ (C ++ B)).Nodup) : (∀ a ∈ A ++ B, a ∉ C) ∧ (A ++ B).Nodup := by
  have p : (A ++ (C ++ B)).Perm (C ++ (A ++ B)) := by
    rw [← List.append_assoc, ← List.append_assoc]
    exact List.perm_append_comm.append_right _
  have q := p.nodup_iff.mp h
  obtain ⟨_, q2, q3⟩ := List.nodup_append.mp q
  exact ⟨fun a ha hc => q3 a hc a ha rfl, q2⟩
theorem Stt.frzT (h : Stt K κ ρ (.v d :: τ) (v :: vs) σ H) (f : d.fz = true) : Stt K κ ρ (.v d.frz :: τ) (v :: vs) σ H := by
  obtain ⟨Z, A, B, c, t, g⟩ := h
  cases t with
  | @v _ _ C _ _ B h1 h2 =>
    have zC : ∀ a ∈ C, Z a = none := fun a ha => (g.own a (List.mem_append_right _ (List.mem_append_left _ ha))).1
    obtain ⟨ap, nd⟩ := nodup_split g.nd
    have zz := zf_same (H := H) zC
    have kz : ∀ a ∈ A ++ B, zf Z H C a = none := fun a ha => by
      unfold zf
      rw [if_neg (ap a ha)]
      rcases List.mem_append.mp ha with q | q
      · exact (g.own a (List.mem_append_left _ q)).1
      · exact (g.own a (List.mem_append_right _ (List.mem_append_right _ q))).1
    refine ⟨zf Z H C, A, [] ++ B, c.keep zz fun a ha => ⟨rfl, kz a (List.mem_append_left _ ha)⟩, .v (h1.frz f (fun _ q => q) zC) (h2.keep zz fun a ha => ⟨rfl, kz a (List.mem_append_right _ ha)⟩), ?_⟩
    refine ⟨nd, fun a o e => ?_, fun a o e => zz a o (g.z0 a o e), g.keep, fun a ha => ⟨kz a ha, ?_⟩, fun a o e => ?_⟩
    · unfold zf at e
      by_cases hc : a ∈ C
      · rw [if_pos hc] at e; exact e
      · rw [if_neg hc] at e; exact g.zh a o e
    · rcases List.mem_append.mp ha with q | q
      · exact (g.own a (List.mem_append_left _ q)).2
      · exact (g.own a (List.mem_append_right _ (List.mem_append_right _ q))).2
    · unfold zf at e
      by_cases hc : a ∈ C
      · exact .inr (g.own a (List.mem_append_right _ (List.mem_append_left _ hc))).2.2
      · rw [if_neg hc] at e; exact g.zn a o e

/-! ### new objects -/
/-- several temps at once -/
def tms (ds : List D) : List Tm := ds.map .v
theorem Tms.split {Z : Hp} : ∀ {ds : List D} {τ : List Tm} {ws : List V} {A : List Addr}, Tms K H Z σ (tms ds ++ τ) ws A → ∃ xs vs B C, ws = xs ++ vs ∧ A = B ++ C ∧ Os K H Z ds xs B ∧ Tms K H Z σ τ vs C
  | [], _, ws, A, h => ⟨[], ws, [], A, rfl, rfl, .nil, h⟩
  | d :: ds, _, _, _, .v h1 h2 => by
    obtain ⟨xs, vs, B, C, rfl, rfl, q1, q2⟩ := Tms.split (ds := ds) h2
    exact ⟨_ :: xs, vs, _ ++ B, C, rfl, by simp, .cons h1 q1, q2⟩
theorem Os.tms {Z : Hp} : ∀ {ds : List D} {τ : List Tm} {xs vs : List V} {A B : List Addr}, Os K H Z ds xs A → Tms K H Z σ τ vs B → Tms K H Z σ (tms ds ++ τ) (xs ++ vs) (A ++ B)
  | _, _, _, _, _, _, .nil, h => h
  | _, _, _, _, _, _, .cons h1 h2, h => by
    rw [List.append_assoc]
    exact .v h1 (Os.tms h2 h)
theorem keep_new {Z : Hp} {p : Addr} {o : HO} {L : List Addr} (g : Good κ H Z L) (hp : H p = none) : ∀ a ∈ L, upd H p o a = H a ∧ Z a = none := fun a ha => by
  obtain ⟨z, ⟨u, e⟩, _⟩ := g.own a ha
  exact ⟨upd_ne (ne_of_none e hp), z⟩
theorem z_new {Z : Hp} {p : Addr} {L : List Addr} (g : Good κ H Z L) (hp : H p = none) : Z p = none := by
  cases e : Z p with
  | none => rfl
  | some u => rw [g.zh p u e] at hp; cases hp
theorem h0_new {Z : Hp} {p : Addr} {L : List Addr} (g : Good κ H Z L) (hp : H p = none) (hG : p ∉ κ.G) : κ.H0 p = none := by
  cases e : κ.H0 p with
  | none => rfl
  | some u => rw [g.keep p u e hG] at hp; cases hp
theorem h0_or {Z : Hp} {p : Addr} {L : List Addr} (g : Good κ H Z L) (hp : H p = none) : p ∈ κ.G ∨ κ.H0 p = none := by
  by_cases hG : p ∈ κ.G
  · exact .inl hG
  · exact .inr (h0_new g hp hG)
/-- a new shared thing (a tuple) -/
theorem Good.newZ {Z : Hp} {p : Addr} {o : HO} {L : List Addr} (g : Good κ H Z L) (hp : H p = none) : Good κ (upd H p o) (upd Z p o) L := by
  have hz := z_new g hp
  refine ⟨g.nd, fun a u e => ?_, fun a u e => ?_, fun a u e n => ?_, fun a ha => ?_, fun a u e => ?_⟩
  · by_cases q : a = p
    · subst q; rw [upd_same] at e ⊢; exact e
    · rw [upd_ne q] at e ⊢; exact g.zh a u e
  · have e' := g.z0 a u e
    rw [upd_ne (fun q => by rw [q, hz] at e'; cases e')]; exact e'
  · have e' := g.keep a u e n
    rw [upd_ne (ne_of_none e' hp)]; exact e'
  · obtain ⟨z, ⟨u, e⟩, w⟩ := g.own a ha
    have q := ne_of_none e hp
    exact ⟨by rw [upd_ne q]; exact z, ⟨u, by rw [upd_ne q]; exact e⟩, w⟩
  · by_cases q : a = p
    · subst q; exact .inr (h0_or g hp)
    · rw [upd_ne q] at e; exact g.zn a u e
theorem upd_Same {Z : Hp} {p : Addr} {o : HO} (hz : Z p = none) : Same Z (upd Z p o) := fun a u e => by rw [upd_ne (ne_of_none e hz)]; exact e
theorem Good.newO {Z : Hp} {p : Addr} {o : HO} {L : List Addr} (g : Good κ H Z L) (hp : H p = none) : Good κ (upd H p o) Z (p :: L) := by
  have hz := z_new g hp
  have np : p ∉ L := fun q => by
    obtain ⟨_, ⟨u, e⟩, _⟩ := g.own p q
    rw [hp] at e; cases e
  refine ⟨List.nodup_cons.mpr ⟨np, g.nd⟩, fun a u e => ?_, g.z0, fun a u e n => ?_, fun a ha => ?_, g.zn⟩
  · rw [upd_ne (fun q => by rw [q, hz] at e; cases e)]; exact g.zh a u e
  · have e' := g.keep a u e n
    rw [upd_ne (ne_of_none e' hp)]; exact e'
  · rcases List.mem_cons.mp ha with q | ha
    · subst q; exact ⟨hz, ⟨_, upd_same⟩, h0_or g hp⟩
    · obtain ⟨z, ⟨u, e⟩, w⟩ := g.own a ha
      exact ⟨z, ⟨u, by rw [upd_ne (ne_of_none e hp)]; exact e⟩, w⟩
/-- a new tuple of the temps -/
theorem Stt.tup {ds : List D} {p : Addr} {xs : List V} (h : Stt K κ ρ (tms ds ++ τ) (xs ++ vs) σ H) (hl : xs.length = ds.length) (hp : H p = none) : Stt K κ ρ (.v (.tup ds) :: τ) (.ref p :: vs) σ (upd H p (.tup xs)) := by
  obtain ⟨Z, A, B, c, t, g⟩ := h
  obtain ⟨ys, ws, B1, B2, e, rfl, o, t'⟩ := t.split
  obtain ⟨e1, e2⟩ := List.append_inj e (by rw [hl, o.length])
  subst e1 e2
  have hz := z_new g hp
  have zz : Same Z (upd Z p (.tup xs)) := upd_Same hz
  have g' := g.newZ (o := .tup xs) hp
  have k : ∀ a ∈ A ++ (B1 ++ B2), upd H p (.tup xs) a = H a ∧ upd Z p (.tup xs) a = none := fun a ha => ⟨(keep_new g hp a ha).1, (g'.own a ha).1⟩
  exact ⟨_, A, B1 ++ B2, c.keep zz fun a ha => k a (List.mem_append_left _ ha), .v (.tup (.of upd_same) (o.keep zz fun a ha => k a (List.mem_append_right _ (List.mem_append_left _ ha)))) (t'.keep zz fun a ha => k a (List.mem_append_right _ (List.mem_append_right _ ha))), g'⟩
theorem perm_front {A B C : List Addr} {p : Addr} : (A ++ ((p :: C) ++ B)).Perm (p :: (A ++ (C ++ B))) := List.perm_middle
/-- a new list of the temps -/
theorem Stt.lst {ds : List D} {p : Addr} {xs : List V} (h : Stt K κ ρ (tms ds ++ τ) (xs ++ vs) σ H) (hl : xs.length = ds.length) (hp : H p = none) : Stt K κ ρ (.v (.lst true ds) :: τ) (.ref p :: vs) σ (upd H p (.lst xs)) := by
  obtain ⟨Z, A, B, c, t, g⟩ := h
  obtain ⟨ys, ws, B1, B2, e, rfl, o, t'⟩ := t.split
  obtain ⟨e1, e2⟩ := List.append_inj e (by rw [hl, o.length])
  subst e1 e2
  have hz := z_new g hp
  have zz : Same Z Z := Same.refl Z
  have g' := g.newO (o := .lst xs) hp
  have k := keep_new (o := .lst xs) g hp
  refine ⟨Z, A, (p :: B1) ++ B2, c.keep zz fun a ha => k a (List.mem_append_left _ ha), .v (.lst upd_same hz (o.keep zz fun a ha => k a (List.mem_append_right _ (List.mem_append_left _ ha)))) (t'.keep zz fun a ha => k a (List.mem_append_right _ (List.mem_append_right _ ha))), ?_⟩
  exact g'.sub (.of_perm perm_front)
/-- a new empty dict -/
theorem Stt.dic0 {p : Addr} (h : Stt K κ ρ τ vs σ H) (hp : H p = none) : Stt K κ ρ (.v (.dic true [] []) :: τ) (.ref p :: vs) σ (upd H p (.dK [])) := by
  obtain ⟨Z, A, B, c, t, g⟩ := h
  have hz := z_new g hp
  have zz : Same Z Z := Same.refl Z
  have g' := g.newO (o := .dK []) hp
  have k := keep_new (o := .dK []) g hp
  exact ⟨Z, A, (p :: []) ++ B, c.keep zz fun a ha => k a (List.mem_append_left _ ha), .v (.dic ⟨[], upd_same, rfl, rfl⟩ hz .nil) (t.keep zz fun a ha => k a (List.mem_append_right _ ha)), g'.sub (.of_perm perm_front)⟩
/-- nothing tracked is lost by a new object -/
theorem Same_new {p : Addr} {o : HO} (hp : H p = none) : Same H (upd H p o) := fun a u e => by rw [upd_ne (ne_of_none e hp)]; exact e
end
end Dl

set_option linter.all false
set_option maxRecDepth 100000
/-! Dl2: what code does, told as a function on data; the judgements over HandS. -/
namespace Dl
open PySem L2

abbrev Env := List (Option D)
/-- an exception: its class, its fields -/
structure Exn where
  cls : Addr
  fs : List (Str × D)
inductive Out (S α : Type) where
  | ok (a : α) (s : S) | exc (e : Exn) (s : S) | bad
def Out.wp {S α : Type} (o : Out S α) (P : α → S → Prop) (E : Exn → S → Prop) : Prop := match o with
  | .ok a s => P a s
  | .exc e s => E e s
  | .bad => False
def Out.bind {S α β : Type} (o : Out S α) (f : α → S → Out S β) : Out S β := match o with
  | .ok a s => f a s
  | .exc e s => .exc e s
  | .bad => .bad
theorem Out.wp_bind {S α β : Type} {o : Out S α} {f : α → S → Out S β} {P : β → S → Prop} {E : Exn → S → Prop} (h : (o.bind f).wp P E) : o.wp (fun a s => (f a s).wp P E) E := by
  cases o with
  | ok a s => exact h
  | exc e s => exact h
  | bad => exact h
theorem Out.wp_mono {S α : Type} {o : Out S α} {P P' : α → S → Prop} {E E' : Exn → S → Prop} (h : o.wp P E) (hP : ∀ a s, P a s → P' a s) (hE : ∀ e s, E e s → E' e s) : o.wp P' E' := by
  cases o with
  | ok a s => exact hP a s h
  | exc e s => exact hE e s h
  | bad => exact h
@[simp] theorem Out.bind_ok {S α β : Type} (a : α) (s : S) (f : α → S → Out S β) : (Out.ok a s).bind f = f a s := rfl
@[simp] theorem Out.bind_exc {S α β : Type} (e : Exn) (s : S) (f : α → S → Out S β) : (Out.exc e s : Out S α).bind f = .exc e s := rfl
@[simp] theorem Out.bind_bad {S α β : Type} (f : α → S → Out S β) : (Out.bad : Out S α).bind f = .bad := rfl
/-- code by data -/
abbrev Cm (α : Type) := Env → Out Env α
/-- scalars, as they stand in an exception's field -/
def scV : D → V
  | .bl b => .bl b
  | .int i => .int i
  | .str l => .str ⟨l.toArray⟩
  | _ => .non
def ExOk (H : Hp) (e : Exn) (d : Option Addr) : Prop := match e.fs with
  | [] => d = none
  | fs => ∃ a, d = some a ∧ H a = some (.xd (fs.map fun p => (p.1, scV p.2)))

/-- how a statement ends -/
inductive Fl where
  | nx | rt (d : D) | bk | ct

section
variable (K : PySem.W.Frag) (W : WX)
/-- an expression that does f; q: it changes nothing -/
def tD (q : Bool) (f : Cm Tm) : TE := fun σ H Q => ∃ κ ρ τ vs, Stt K κ ρ τ vs σ H ∧
  (f ρ).wp (fun t ρ' => ∀ v H', Stt K κ ρ' (t :: τ) (v :: vs) σ H' → (q = true → ρ' = ρ ∧ Same H H') → Q v H') (fun e ρ' => ∀ H' d, Stt K κ ρ' τ vs σ H' → ExOk H' e d → W (.ref e.cls) d σ H')
def tDT (f : Cm Bool) : TT := fun σ H Q => ∃ κ ρ τ vs, Stt K κ ρ τ vs σ H ∧
  (f ρ).wp (fun b ρ' => ∀ H', Stt K κ ρ' τ vs σ H' → Q b H') (fun e ρ' => ∀ H' d, Stt K κ ρ' τ vs σ H' → ExOk H' e d → W (.ref e.cls) d σ H')
def tDA (q : Bool) (f : Cm (List Tm)) : TA := fun σ H Q => ∃ κ ρ τ vs, Stt K κ ρ τ vs σ H ∧
  (f ρ).wp (fun ts ρ' => ∀ xs H', xs.length = ts.length → Stt K κ ρ' (ts ++ τ) (xs ++ vs) σ H' → (q = true → ρ' = ρ ∧ Same H H') → Q xs H') (fun e ρ' => ∀ H' d, Stt K κ ρ' τ vs σ H' → ExOk H' e d → W (.ref e.cls) d σ H')
/-- nothing but the slots of as is stored -/
def Frm (as : List Nat) (σ σ' : St) : Prop := ∀ i, i ∉ as → σ'[i]? = σ[i]?
def postS (as : List Nat) (κ : Fr) (τ : List Tm) (vs : List V) (D : Ends) (σ : St) : Fl → Env → Prop
  | .nx, ρ' => ∀ σ' H', Frm as σ σ' → Stt K κ ρ' τ vs σ' H' → D.nx σ' H'
  | .bk, ρ' => ∀ σ' H', Frm as σ σ' → Stt K κ ρ' τ vs σ' H' → D.bk σ' H'
  | .ct, ρ' => ∀ σ' H', Frm as σ σ' → Stt K κ ρ' τ vs σ' H' → D.ct σ' H'
  | .rt d, ρ' => ∀ v σ' H', Frm as σ σ' → Stt K κ ρ' (.v d :: τ) (v :: vs) σ' H' → D.rt v H'
def postX (as : List Nat) (κ : Fr) (τ : List Tm) (vs : List V) (σ : St) : Exn → Env → Prop := fun e ρ' => ∀ σ' H' d, Frm as σ σ' → Stt K κ ρ' τ vs σ' H' → ExOk H' e d → W (.ref e.cls) d σ' H'
def tDS (as : List Nat) (f : Cm Fl) : TS := fun D σ H => ∃ κ ρ τ vs, vOnly τ ∧ Stt K κ ρ τ vs σ H ∧ (f ρ).wp (postS K as κ τ vs D σ) (postX K W as κ τ vs σ)
end
def DE (X : Cx) (W : WX) (q : Bool) (e : Expr) (f : Cm Tm) : Prop := PE X e (tD X.K W q f)
def DT (X : Cx) (W : WX) (e : Expr) (f : Cm Bool) : Prop := PT X e (tDT X.K W f)
def DA (X : Cx) (W : WX) (q : Bool) (es : List Expr) (f : Cm (List Tm)) : Prop := PA X es (tDA X.K W q f)
def DS (X : Cx) (W : WX) (as : List Nat) (s : Stmt) (f : Cm Fl) : Prop := PS X s (tDS X.K W as f)
def DSs (X : Cx) (W : WX) (as : List Nat) (s : List Stmt) (f : Cm Fl) : Prop := PSs X s (tDS X.K W as f)

theorem PE.imp {X : Cx} {e : Expr} {t t' : TE} (h : PE X e t) (i : ∀ σ H Q, t' σ H Q → t σ H Q) : PE X e t' := ⟨fun pins s σ H Q I q => h.run pins s σ H Q I (i σ H Q q)⟩
theorem PT.imp {X : Cx} {e : Expr} {t t' : TT} (h : PT X e t) (i : ∀ σ H Q, t' σ H Q → t σ H Q) : PT X e t' := ⟨fun pins s σ H Q I q => h.run pins s σ H Q I (i σ H Q q)⟩
theorem PA.imp {X : Cx} {e : List Expr} {t t' : TA} (h : PA X e t) (i : ∀ σ H Q, t' σ H Q → t σ H Q) : PA X e t' := ⟨fun pos pins s σ H Q I q => h.run pos pins s σ H Q I (i σ H Q q)⟩
theorem PS.imp {X : Cx} {e : Stmt} {t t' : TS} (h : PS X e t) (i : ∀ D σ H, t' D σ H → t D σ H) : PS X e t' := ⟨fun pins s σ H D I q => h.run pins s σ H D I (i D σ H q)⟩
theorem PSs.imp {X : Cx} {e : List Stmt} {t t' : TS} (h : PSs X e t) (i : ∀ D σ H, t' D σ H → t D σ H) : PSs X e t' := ⟨fun pins s σ H D I q => h.run pins s σ H D I (i D σ H q)⟩

section
variable {X : Cx} {W : WX} {q q1 q2 : Bool} {e a b : Expr} {f g : Cm Tm} {pos : Pos} {i : Nat}

/-! ### names, constants -/
/-- a name whose value is not owned -/
def eN (i : Nat) : Cm Tm := fun ρ => match (ρ[i]?).join with
  | some d => if d.own then .bad else .ok (.v d) ρ
  | none => .bad
/-- a name, its value to be read where it stands -/
def eM (i : Nat) : Cm Tm := fun ρ => match (ρ[i]?).join with
  | some _ => .ok (.s i) ρ
  | none => .bad
/-- a name whose value is given away: frozen -/
def eF (i : Nat) : Cm Tm := fun ρ => match (ρ[i]?).join with
  | some d => if d.fz then .ok (.v d.frz) (ρ.set i (some d.frz)) else .bad
  | none => .bad
/-- a name whose value is taken out of it (the def ends) -/
def eG (i : Nat) : Cm Tm := fun ρ => match (ρ[i]?).join with
  | some d => .ok (.v d) (ρ.set i none)
  | none => .bad
theorem join_some {ρ : Env} {d : D} (h : (ρ[i]?).join = some d) : ρ[i]? = some (some d) := Option.join_eq_some_iff.mp h
theorem DE.name (h : PE X e (tVar i)) : DE X W true e (eN i) := by
  refine PE.imp h fun σ H Q ⟨κ, ρ, τ, vs, st, w⟩ => ?_
  unfold eN at w
  split at w
  · rename_i d hd
    split at w
    · exact w.elim
    · rename_i n
      obtain ⟨x, hx⟩ := st.slot (join_some hd)
      exact ⟨x, hx, w x H ((st.mark hx).copy hd (by simpa using n)) fun _ => ⟨rfl, Same.refl H⟩⟩
  · exact w.elim
theorem DE.mark (h : PE X e (tVar i)) : DE X W true e (eM i) := by
  refine PE.imp h fun σ H Q ⟨κ, ρ, τ, vs, st, w⟩ => ?_
  unfold eM at w
  split at w
  · rename_i d hd
    obtain ⟨x, hx⟩ := st.slot (join_some hd)
    exact ⟨x, hx, w x H (st.mark hx) fun _ => ⟨rfl, Same.refl H⟩⟩
  · exact w.elim
theorem DE.give (h : PE X e (tVar i)) : DE X W false e (eG i) := by
  refine PE.imp h fun σ H Q ⟨κ, ρ, τ, vs, st, w⟩ => ?_
  unfold eG at w
  split at w
  · rename_i d hd
    obtain ⟨x, hx⟩ := st.slot (join_some hd)
    exact ⟨x, hx, w x H (st.take (join_some hd) hx) fun z => nomatch z⟩
  · exact w.elim
mutual
theorem D.own_frz : ∀ d : D, d.fz = true → d.frz.own = false
  | .non, _ => rfl
  | .bl _, _ => rfl
  | .int _, _ => rfl
  | .str _, _ => rfl
  | .cst _, _ => rfl
  | .hol _, _ => rfl
  | .scr _, _ => rfl
  | .tup l, h => by simp only [D.frz, D.own]; exact D.owns_frz l (by simpa [D.fz] using h)
  | .lst _ l, h => rfl
  | .dic _ _ _, h => rfl
  | .ins _ _ _, h => by simp [D.fz] at h
theorem D.owns_frz : ∀ l : List D, D.fzs l = true → D.owns (D.frzs l) = false
  | [], _ => rfl
  | d :: l, h => by
    simp only [D.fzs, Bool.and_eq_true] at h
    simp only [D.frzs, D.owns, D.own_frz d h.1, D.owns_frz l h.2, Bool.or_self]
end
theorem DE.free (h : PE X e (tVar i)) : DE X W false e (eF i) := by
  refine PE.imp h fun σ H Q ⟨κ, ρ, τ, vs, st, w⟩ => ?_
  unfold eF at w
  split at w
  · rename_i d hd
    split at w
    · rename_i hf
      obtain ⟨x, hx⟩ := st.slot (join_some hd)
      have hi : i < ρ.length := (List.getElem?_eq_some_iff.mp (join_some hd)).1
      have s1 := (st.take (join_some hd) hx).frzT hf
      have s2 := s1.back (by simp [hi]) hx
      rw [List.set_set] at s2
      refine ⟨x, hx, w x H ((s2.mark hx).copy (by simp [look, hi]) (D.own_frz d hf)) fun z => nomatch z⟩
    · exact w.elim
  · exact w.elim
/-- a constant -/
def eC (d : D) : Cm Tm := fun ρ => .ok (.v d) ρ
theorem DE.const {v : V} {d : D} (h : PE X e (tC v)) (o : ∀ H Z, O X.K H Z d v []) : DE X W true e (eC d) := by
  refine PE.imp h fun σ H Q ⟨κ, ρ, τ, vs, st, w⟩ => ?_
  exact w v H (st.push fun Z => o H Z) fun _ => ⟨rfl, Same.refl H⟩
theorem DE.int {n : Int} {k} : DE X W true (.Constant (.int n) k pos) (eC (.int n)) := DE.const pe_int fun _ _ => .int n
theorem DE.bl {n : Bool} {k} : DE X W true (.Constant (.bool n) k pos) (eC (.bl n)) := DE.const pe_bl fun _ _ => .bl n
theorem DE.non {k} : DE X W true (.Constant .none k pos) (eC .non) := DE.const pe_non fun _ _ => .non
theorem DE.str {z : Str} {l : List Nat} {k} (h : z = ⟨l.toArray⟩) : DE X W true (.Constant (.str z) k pos) (eC (.str l)) := by
  subst h
  exact DE.const pe_str fun _ _ => .str l

/-! ### operators -/
/-- an operator's reading, by data -/
def Op2 (K : PySem.W.Frag) (q : Bool) (r : R2) (g : D → D → Option D) : Prop := ∀ (κ : Fr) (ρ : Env) (τ : List Tm) (vs : List V) (σ : St) (H : Hp) (ta tb : Tm) (va vb : V) (a b c : D) (Q : VK),
  Stt K κ ρ (tb :: ta :: τ) (vb :: va :: vs) σ H → look ρ ta = some a → look ρ tb = some b → g a b = some c →
  (∀ v H', Stt K κ ρ (.v c :: τ) (v :: vs) σ H' → (q = true → Same H H') → Q v H') → r va vb H Q
def e2 (g : D → D → Option D) (f h : Cm Tm) : Cm Tm := fun ρ => (f ρ).bind fun ta ρ1 => (h ρ1).bind fun tb ρ2 =>
  match look ρ2 ta, look ρ2 tb with
  | some a, some b => match g a b with
    | some c => .ok (.v c) ρ2
    | none => .bad
  | _, _ => .bad
theorem e2_imp {K : PySem.W.Frag} {r : R2} {gg : D → D → Option D} (hr : Op2 K true r gg) {σ : St} {H : Hp} {Q : VK} (h : tD K W (q1 && q2) (e2 gg f g) σ H Q) : tOp r (tD K W q1 f) (tD K W q2 g) σ H Q := by
  obtain ⟨κ, ρ, τ, vs, st, w⟩ := h
  refine ⟨κ, ρ, τ, vs, st, Out.wp_mono (Out.wp_bind w) (fun ta ρ1 w1 v H1 st1 k1 => ?_) fun _ _ z => z⟩
  refine ⟨κ, ρ1, ta :: τ, v :: vs, st1, Out.wp_mono (Out.wp_bind w1) (fun tb ρ2 w2 u H2 st2 k2 => ?_) fun e ρ2 z H2 d s2 eo => z H2 d s2.pop eo⟩
  try dsimp only at w2
  split at w2
  · rename_i a b ea eb
    split at w2
    · rename_i c hc
      refine hr κ ρ2 τ vs σ H2 ta tb v u a b c Q st2 ea eb hc fun x H3 st3 k3 => w2 x H3 st3 fun hq => ?_
      rw [Bool.and_eq_true] at hq
      obtain ⟨z1, z2⟩ := k1 hq.1
      obtain ⟨z3, z4⟩ := k2 hq.2
      exact ⟨z3.trans z1, (z2.trans z4).trans (k3 rfl)⟩
    · exact w2.elim
  · exact w2.elim
theorem DE.bin {op : Operator} {r : R2} {gg : D → D → Option D} (ho : OpR X (binaryOp op) r) (hr : Op2 X.K true r gg) (ha : DE X W q1 a f) (hb : DE X W q2 b g) : DE X W (q1 && q2) (.BinOp a op b pos) (e2 gg f g) :=
  PE.imp (pe_op ho ha hb) fun _ _ _ h => e2_imp hr h
theorem DE.cmp {op : CmpOp} {r : R2} {gg : D → D → Option D} (ho : OpR X (compareOp op) r) (hr : Op2 X.K true r gg) (ha : DE X W q1 a f) (hb : DE X W q2 b g) (hm : behindInMarks op b = false) : DE X W (q1 && q2) (.Compare a [op] [b] pos) (e2 gg f g) :=
  PE.imp (pe_cmpR ho ha hb hm) fun _ _ _ h => e2_imp hr h
/-- tests -/
def toB (f : Cm Tm) : Cm Bool := fun ρ => (f ρ).bind fun t ρ1 => match t with
  | .v (.bl b) => .ok b ρ1
  | _ => .bad
theorem Stt.bl {K : PySem.W.Frag} {κ : Fr} {ρ : Env} {τ : List Tm} {vs : List V} {σ : St} {H : Hp} {v : V} {b : Bool} (h : Stt K κ ρ (.v (.bl b) :: τ) (v :: vs) σ H) : v = .bl b := by
  obtain ⟨Z, A, B, c, t, g⟩ := h
  cases t with
  | v h1 h2 => cases h1; rfl
theorem DT.val (h : DE X W q e f) (he : ∀ whole, isTrue e X.env whole = (do let v ← whole; standAt e.pos; holding [v] (truthy v)) := by intro _; rfl) : DT X W e (toB f) := by
  refine PT.imp (pt_val h he) fun σ H Q ⟨κ, ρ, τ, vs, st, w⟩ => ?_
  refine ⟨κ, ρ, τ, vs, st, Out.wp_mono (Out.wp_bind w) (fun t ρ1 w1 v H1 st1 k1 => ?_) fun _ _ z => z⟩
  try dsimp only at w1
  split at w1
  · rename_i b
    have e := st1.bl
    subst e
    exact ⟨b, rfl, w1 H1 st1.pop⟩
  · exact w1.elim
theorem DT.cmp {op : CmpOp} {r : R2} {gg : D → D → Option D} (ho : OpR X (compareOp op) r) (hr : Op2 X.K true r gg) (ha : DE X W q1 a f) (hb : DE X W q2 b g) (hm : behindInMarks op b = false) : DT X W (.Compare a [op] [b] pos) (toB (e2 gg f g)) := by
  refine PT.imp (pt_cmpR ho ha hb hm) fun σ H Q ⟨κ, ρ, τ, vs, st, w⟩ => ?_
  show tOp r (tD X.K W q1 f) (tD X.K W q2 g) σ H _
  refine e2_imp hr ⟨κ, ρ, τ, vs, st, Out.wp_mono (Out.wp_bind w) (fun t ρ1 w1 v H1 st1 k1 => ?_) fun _ _ z => z⟩
  try dsimp only at w1
  split at w1
  · rename_i b
    have e := st1.bl
    subst e
    exact ⟨b, rfl, w1 H1 st1.pop⟩
  · exact w1.elim
end
end Dl

set_option linter.all false
set_option maxRecDepth 100000
/-! Dl3: tests, argument lists, displays; statements: blocks, stores, if, while, return. -/
namespace Dl
open PySem L2
section
variable {X : Cx} {W : WX} {q q1 q2 : Bool} {e a b c : Expr} {es rest : List Expr} {f g : Cm Tm} {fb gb : Cm Bool} {fs : Cm (List Tm)} {pos : Pos} {i : Nat}

/-! ### tests -/
def bNot (f : Cm Bool) : Cm Bool := fun ρ => (f ρ).bind fun b ρ1 => .ok (!b) ρ1
def bAnd (f g : Cm Bool) : Cm Bool := fun ρ => (f ρ).bind fun b ρ1 => if b = true then g ρ1 else .ok false ρ1
def bOr (f g : Cm Bool) : Cm Bool := fun ρ => (f ρ).bind fun b ρ1 => if b = true then .ok true ρ1 else g ρ1
theorem DT.not (h : DT X W a fb) : DT X W (.UnaryOp .Not a pos) (bNot fb) := by
  refine PT.imp (pt_not h) fun σ H Q ⟨κ, ρ, τ, vs, st, w⟩ => ?_
  exact ⟨κ, ρ, τ, vs, st, Out.wp_mono (Out.wp_bind w) (fun t ρ1 w1 H1 st1 => w1 H1 st1) fun _ _ z => z⟩
def DW (X : Cx) (W : WX) (e : Expr) (f : Cm Bool) : Prop := PW X e (tDT X.K W f)
theorem PW.imp {X : Cx} {e : Expr} {t t' : TT} (h : PW X e t) (i : ∀ σ H Q, t' σ H Q → t σ H Q) : PW X e t' := ⟨fun wh pins s σ H Q I q => h.run wh pins s σ H Q I (i σ H Q q)⟩
theorem DW.and1 (h : DT X W a fb) : DW X W (.BoolOp .And [a] pos) fb := pw_and1 h
theorem DW.or1 (h : DT X W a fb) : DW X W (.BoolOp .Or [a] pos) fb := pw_or1 h
theorem DW.and (h : DT X W a fb) (h2 : DW X W (.BoolOp .And (b :: rest) pos) gb) : DW X W (.BoolOp .And (a :: b :: rest) pos) (bAnd fb gb) := by
  refine PW.imp (pw_and h h2) fun σ H Q ⟨κ, ρ, τ, vs, st, w⟩ => ?_
  refine ⟨κ, ρ, τ, vs, st, Out.wp_mono (Out.wp_bind w) (fun t ρ1 w1 H1 st1 => ?_) fun _ _ z => z⟩
  cases t with
  | true => exact ⟨κ, ρ1, τ, vs, st1, w1⟩
  | false => exact w1 H1 st1
theorem DW.or (h : DT X W a fb) (h2 : DW X W (.BoolOp .Or (b :: rest) pos) gb) : DW X W (.BoolOp .Or (a :: b :: rest) pos) (bOr fb gb) := by
  refine PW.imp (pw_or h h2) fun σ H Q ⟨κ, ρ, τ, vs, st, w⟩ => ?_
  refine ⟨κ, ρ, τ, vs, st, Out.wp_mono (Out.wp_bind w) (fun t ρ1 w1 H1 st1 => ?_) fun _ _ z => z⟩
  cases t with
  | true => exact w1 H1 st1
  | false => exact ⟨κ, ρ1, τ, vs, st1, w1⟩
theorem DW.dt (h : DW X W a fb) : DT X W a fb := PW.pt h
/-- .. as values, of truths -/
def vNot (f : Cm Tm) : Cm Tm := fun ρ => (f ρ).bind fun t ρ1 => match t with
  | .v (.bl b) => .ok (.v (.bl (!b))) ρ1
  | _ => .bad
def vAnd (f g : Cm Tm) : Cm Tm := fun ρ => (f ρ).bind fun t ρ1 => match t with
  | .v (.bl b) => if b = true then g ρ1 else .ok (.v (.bl false)) ρ1
  | _ => .bad
def vOr (f g : Cm Tm) : Cm Tm := fun ρ => (f ρ).bind fun t ρ1 => match t with
  | .v (.bl b) => if b = true then .ok (.v (.bl true)) ρ1 else g ρ1
  | _ => .bad
theorem DE.not (h : DE X W q a f) : DE X W q (.UnaryOp .Not a pos) (vNot f) := by
  refine PE.imp (pe_not h) fun σ H Q ⟨κ, ρ, τ, vs, st, w⟩ => ?_
  refine ⟨κ, ρ, τ, vs, st, Out.wp_mono (Out.wp_bind w) (fun t ρ1 w1 v H1 st1 k1 => ?_) fun _ _ z => z⟩
  try dsimp only at w1
  split at w1
  · rename_i b
    have e := st1.bl
    subst e
    exact ⟨b, rfl, w1 _ H1 (st1.pop.pushB _) k1⟩
  · exact w1.elim
theorem DE.one {op} (h : DE X W q a f) : DE X W q (.BoolOp op [a] pos) f := pe_one h
theorem DE.and (h : DE X W q1 a f) (h2 : DE X W q2 (.BoolOp .And (b :: rest) pos) g) : DE X W (q1 && q2) (.BoolOp .And (a :: b :: rest) pos) (vAnd f g) := by
  refine PE.imp (pe_and h h2) fun σ H Q ⟨κ, ρ, τ, vs, st, w⟩ => ?_
  refine ⟨κ, ρ, τ, vs, st, Out.wp_mono (Out.wp_bind w) (fun t ρ1 w1 v H1 st1 k1 => ?_) fun _ _ z => z⟩
  try dsimp only at w1
  split at w1
  · rename_i b
    have e := st1.bl
    subst e
    refine ⟨b, rfl, ?_⟩
    cases b with
    | true =>
      refine ⟨κ, ρ1, τ, vs, st1.pop, Out.wp_mono w1 (fun t ρ2 w2 v H2 st2 k2 => w2 v H2 st2 fun hq => ?_) fun _ _ z => z⟩
      rw [Bool.and_eq_true] at hq
      exact ⟨(k2 hq.2).1.trans (k1 hq.1).1, (k1 hq.1).2.trans (k2 hq.2).2⟩
    | false => exact w1 _ H1 (st1.pop.pushB _) fun hq => by rw [Bool.and_eq_true] at hq; exact k1 hq.1
  · exact w1.elim
theorem DE.or (h : DE X W q1 a f) (h2 : DE X W q2 (.BoolOp .Or (b :: rest) pos) g) : DE X W (q1 && q2) (.BoolOp .Or (a :: b :: rest) pos) (vOr f g) := by
  refine PE.imp (pe_or h h2) fun σ H Q ⟨κ, ρ, τ, vs, st, w⟩ => ?_
  refine ⟨κ, ρ, τ, vs, st, Out.wp_mono (Out.wp_bind w) (fun t ρ1 w1 v H1 st1 k1 => ?_) fun _ _ z => z⟩
  try dsimp only at w1
  split at w1
  · rename_i b
    have e := st1.bl
    subst e
    refine ⟨b, rfl, ?_⟩
    cases b with
    | false =>
      refine ⟨κ, ρ1, τ, vs, st1.pop, Out.wp_mono w1 (fun t ρ2 w2 v H2 st2 k2 => w2 v H2 st2 fun hq => ?_) fun _ _ z => z⟩
      rw [Bool.and_eq_true] at hq
      exact ⟨(k2 hq.2).1.trans (k1 hq.1).1, (k1 hq.1).2.trans (k2 hq.2).2⟩
    | true => exact w1 _ H1 (st1.pop.pushB _) fun hq => by rw [Bool.and_eq_true] at hq; exact k1 hq.1
  · exact w1.elim
def eIf (c : Cm Bool) (f g : Cm Tm) : Cm Tm := fun ρ => (c ρ).bind fun b ρ1 => if b = true then f ρ1 else g ρ1
theorem DE.ite (h : DT X W c fb) (ha : DE X W q1 a f) (hb : DE X W q2 b g) : DE X W false (.IfExp c a b pos) (eIf fb f g) := by
  refine PE.imp (pe_ifExp h ha hb) fun σ H Q ⟨κ, ρ, τ, vs, st, w⟩ => ?_
  refine ⟨κ, ρ, τ, vs, st, Out.wp_mono (Out.wp_bind w) (fun t ρ1 w1 H1 st1 => ?_) fun _ _ z => z⟩
  cases t with
  | true => exact ⟨κ, ρ1, τ, vs, st1, Out.wp_mono w1 (fun t ρ2 w2 v H2 st2 _ => w2 v H2 st2 fun z => nomatch z) fun _ _ z => z⟩
  | false => exact ⟨κ, ρ1, τ, vs, st1, Out.wp_mono w1 (fun t ρ2 w2 v H2 st2 _ => w2 v H2 st2 fun z => nomatch z) fun _ _ z => z⟩
/-- nothing said of what is changed -/
theorem DE.weak (h : DE X W q a f) : DE X W false a f := PE.imp h fun σ H Q ⟨κ, ρ, τ, vs, st, w⟩ => ⟨κ, ρ, τ, vs, st, Out.wp_mono w (fun t ρ2 w2 v H2 st2 _ => w2 v H2 st2 fun z => nomatch z) fun _ _ z => z⟩

/-! ### argument lists, displays -/
def aNil : Cm (List Tm) := fun ρ => .ok [] ρ
def aCons (f : Cm Tm) (g : Cm (List Tm)) : Cm (List Tm) := fun ρ => (f ρ).bind fun t ρ1 => (g ρ1).bind fun ts ρ2 => .ok (t :: ts) ρ2
theorem Tms.app {K : PySem.W.Frag} {H Z : Hp} {σ : St} : ∀ {τ1 τ2 : List Tm} {v1 v2 : List V} {A B : List Addr}, Tms K H Z σ τ1 v1 A → Tms K H Z σ τ2 v2 B → Tms K H Z σ (τ1 ++ τ2) (v1 ++ v2) (A ++ B)
  | _, _, _, _, _, _, .nil, h => h
  | _, _, _, _, _, _, .v h1 h2, h => by rw [List.append_assoc]; exact .v h1 (Tms.app h2 h)
  | _, _, _, _, _, _, .s h1 h2, h => .s h1 (Tms.app h2 h)
theorem Tms.cut {K : PySem.W.Frag} {H Z : Hp} {σ : St} : ∀ {τ1 τ2 : List Tm} {v1 v2 : List V} {A : List Addr}, v1.length = τ1.length → Tms K H Z σ (τ1 ++ τ2) (v1 ++ v2) A → ∃ A1 A2, A = A1 ++ A2 ∧ Tms K H Z σ τ1 v1 A1 ∧ Tms K H Z σ τ2 v2 A2
  | [], _, [], _, _, _, h => ⟨[], _, rfl, .nil, h⟩
  | [], _, _ :: _, _, _, e, _ => by simp at e
  | _ :: _, _, [], _, _, e, _ => by simp at e
  | _ :: _, _, _ :: _, _, _, e, .v h1 h2 => by
    obtain ⟨A1, A2, rfl, q1, q2⟩ := Tms.cut (by simpa using e) h2
    exact ⟨_ ++ A1, A2, by simp, .v h1 q1, q2⟩
  | _ :: _, _, _ :: _, _, _, e, .s h1 h2 => by
    obtain ⟨A1, A2, rfl, q1, q2⟩ := Tms.cut (by simpa using e) h2
    exact ⟨A1, A2, rfl, .s h1 q1, q2⟩
/-- temps in another order -/
theorem Stt.turn {K : PySem.W.Frag} {κ : Fr} {ρ : Env} {τ1 τ2 τ : List Tm} {v1 v2 vs : List V} {σ : St} {H : Hp} (e1 : v1.length = τ1.length) (e2 : v2.length = τ2.length)
    (h : Stt K κ ρ (τ1 ++ (τ2 ++ τ)) (v1 ++ (v2 ++ vs)) σ H) : Stt K κ ρ (τ2 ++ (τ1 ++ τ)) (v2 ++ (v1 ++ vs)) σ H := by
  obtain ⟨Z, A, B, c, t, g⟩ := h
  obtain ⟨A1, A2, rfl, t1, t2⟩ := t.cut e1
  obtain ⟨A3, A4, rfl, t3, t4⟩ := t2.cut e2
  refine ⟨Z, A, _, c, t3.app (t1.app t4), g.sub (.of_perm (List.Perm.append_left _ ?_))⟩
  rw [← List.append_assoc, ← List.append_assoc]
  exact List.perm_append_comm.append_right _
theorem DA.nil : DA X W true [] aNil := PA.imp pa_nil fun σ H Q ⟨κ, ρ, τ, vs, st, w⟩ => w [] H rfl st fun _ => ⟨rfl, Same.refl H⟩
theorem Stt.popN {K : PySem.W.Frag} {κ : Fr} {ρ : Env} {τ : List Tm} {vs : List V} {σ : St} {H : Hp} : ∀ {ts : List Tm} {xs : List V}, xs.length = ts.length → Stt K κ ρ (ts ++ τ) (xs ++ vs) σ H → Stt K κ ρ τ vs σ H
  | [], [], _, h => h
  | [], _ :: _, e, _ => by simp at e
  | _ :: _, [], e, _ => by simp at e
  | _ :: ts, _ :: xs, e, h => Stt.popN (ts := ts) (xs := xs) (by simpa using e) (Stt.pop h)
theorem DA.cons (h : DE X W q1 e f) (h2 : DA X W q2 es fs) (hs : starEach (e :: es) X.env = (false, eval e X.env) :: starEach es X.env := by rfl) : DA X W (q1 && q2) (e :: es) (aCons f fs) := by
  refine PA.imp (pa_cons h h2 hs) fun σ H Q ⟨κ, ρ, τ, vs, st, w⟩ => ?_
  refine ⟨κ, ρ, τ, vs, st, Out.wp_mono (Out.wp_bind w) (fun t ρ1 w1 v H1 st1 k1 => ?_) fun _ _ z => z⟩
  refine ⟨κ, ρ1, t :: τ, v :: vs, st1, Out.wp_mono (Out.wp_bind w1) (fun ts ρ2 w2 xs H2 hl st2 k2 => ?_) fun e ρ2 z H2 d s2 eo => z H2 d s2.pop eo⟩
  refine w2 (v :: xs) H2 (by simp [hl]) ?_ fun hq => ?_
  · exact Stt.turn (τ1 := ts) (τ2 := [t]) (v1 := xs) (v2 := [v]) hl rfl st2
  · rw [Bool.and_eq_true] at hq
    exact ⟨(k2 hq.2).1.trans (k1 hq.1).1, (k1 hq.1).2.trans (k2 hq.2).2⟩
/-- all are data, none a slot -/
def dats : List Tm → Option (List D)
  | [] => some []
  | .v d :: ts => (dats ts).map (d :: ·)
  | .s _ :: _ => none
theorem dats_eq : ∀ {ts : List Tm} {ds : List D}, dats ts = some ds → ts = tms ds
  | [], ds, h => by cases h; rfl
  | .v d :: ts, ds, h => by
    simp only [dats, Option.map_eq_some_iff] at h
    obtain ⟨r, h1, rfl⟩ := h
    rw [dats_eq h1]; rfl
  | .s _ :: _, _, h => by cases h
def eTup (f : Cm (List Tm)) : Cm Tm := fun ρ => (f ρ).bind fun ts ρ1 => match dats ts with
  | some ds => if ds.length ≤ sizeLine then .ok (.v (.tup ds)) ρ1 else .bad
  | none => .bad
def eLst (f : Cm (List Tm)) : Cm Tm := fun ρ => (f ρ).bind fun ts ρ1 => match dats ts with
  | some ds => if ds.length ≤ sizeLine then .ok (.v (.lst true ds)) ρ1 else .bad
  | none => .bad
theorem tms_len (ds : List D) : (tms ds).length = ds.length := by simp [tms]
theorem DE.tup {x1} (h : DA X W q es fs) : DE X W q (.Tuple es x1 pos) (eTup fs) := by
  refine PE.imp (pe_tup h) fun σ H Q ⟨κ, ρ, τ, vs, st, w⟩ => ?_
  refine ⟨κ, ρ, τ, vs, st, Out.wp_mono (Out.wp_bind w) (fun ts ρ1 w1 xs H1 hl st1 k1 => ?_) fun _ _ z => z⟩
  try dsimp only at w1
  split at w1
  · rename_i ds hd
    obtain rfl := dats_eq hd
    split at w1
    · rename_i hz
      rw [tms_len] at hl
      exact ⟨by rw [hl]; exact hz, fun p hp => w1 _ _ (st1.tup hl hp) fun hq => ⟨(k1 hq).1, (k1 hq).2.trans (Same_new hp)⟩⟩
    · exact w1.elim
  · exact w1.elim
theorem DE.lst (h : DA X W q es fs) : DE X W q (.List es pos) (eLst fs) := by
  refine PE.imp (pe_lst h) fun σ H Q ⟨κ, ρ, τ, vs, st, w⟩ => ?_
  refine ⟨κ, ρ, τ, vs, st, Out.wp_mono (Out.wp_bind w) (fun ts ρ1 w1 xs H1 hl st1 k1 => ?_) fun _ _ z => z⟩
  try dsimp only at w1
  split at w1
  · rename_i ds hd
    obtain rfl := dats_eq hd
    split at w1
    · rename_i hz
      rw [tms_len] at hl
      exact ⟨by rw [hl]; exact hz, fun p hp => w1 _ _ (st1.lst hl hp) fun hq => ⟨(k1 hq).1, (k1 hq).2.trans (Same_new hp)⟩⟩
    · exact w1.elim
  · exact w1.elim
/-- a value frozen on its way -/
def eZ (f : Cm Tm) : Cm Tm := fun ρ => (f ρ).bind fun t ρ1 => match t with
  | .v d => if d.fz then .ok (.v d.frz) ρ1 else .bad
  | _ => .bad
theorem DE.frz (h : DE X W q e f) : DE X W q e (eZ f) := by
  refine PE.imp h fun σ H Q ⟨κ, ρ, τ, vs, st, w⟩ => ?_
  refine ⟨κ, ρ, τ, vs, st, Out.wp_mono (Out.wp_bind w) (fun t ρ1 w1 v H1 st1 k1 => ?_) fun _ _ z => z⟩
  try dsimp only at w1
  split at w1
  · rename_i d
    split at w1
    · rename_i hf
      exact w1 _ _ (st1.frzT hf) k1
    · exact w1.elim
  · exact w1.elim
end

/-! ### statements -/
section
variable {X : Cx} {W : WX} {q : Bool} {as bs : List Nat} {s : Stmt} {ss : List Stmt} {e c : Expr} {f : Cm Tm} {fb : Cm Bool} {g h : Cm Fl} {pos : Pos} {i : Nat}
theorem Frm.refl {σ : St} : Frm as σ σ := fun _ _ => rfl
theorem Frm.trans {σ σ1 σ2 : St} (a : Frm as σ σ1) (b : Frm bs σ1 σ2) : Frm (as ++ bs) σ σ2 := fun i n => by
  rw [List.mem_append, not_or] at n
  rw [b i n.2, a i n.1]
theorem Frm.mono {σ σ1 : St} (a : Frm as σ σ1) (h : ∀ i ∈ as, i ∈ bs) : Frm bs σ σ1 := fun i n => a i fun q => n (h i q)
theorem Frm.left {σ σ1 : St} (a : Frm as σ σ1) : Frm (as ++ bs) σ σ1 := a.mono fun _ q => List.mem_append_left _ q
theorem Frm.right {σ σ1 : St} (a : Frm bs σ σ1) : Frm (as ++ bs) σ σ1 := a.mono fun _ q => List.mem_append_right _ q
theorem Frm.set {σ : St} {v : Option V} : Frm [i] σ (σ.set i v) := fun j n => by
  rw [List.getElem?_set_ne (fun q => n (by simp [q]))]

def sNil : Cm Fl := fun ρ => .ok .nx ρ
def sSeq (g h : Cm Fl) : Cm Fl := fun ρ => (g ρ).bind fun fl ρ1 => match fl with
  | .nx => h ρ1
  | fl => .ok fl ρ1
theorem DSs.nil : DSs X W [] [] sNil := PSs.imp pss_nil fun D σ H ⟨κ, ρ, τ, vs, vo, st, w⟩ => w σ H Frm.refl st
theorem DSs.one (h : DS X W as s g) : DSs X W as [s] g := pss_one h
theorem DSs.cons (h1 : DS X W as s g) (h2 : DSs X W bs ss h) : DSs X W (as ++ bs) (s :: ss) (sSeq g h) := by
  refine PSs.imp (pss_cons h1 h2) fun D σ H ⟨κ, ρ, τ, vs, vo, st, w⟩ => ?_
  refine ⟨κ, ρ, τ, vs, vo, st, Out.wp_mono (Out.wp_bind w) (fun fl ρ1 w1 => ?_) fun e ρ1 z σ' H' d fm s2 eo => z σ' H' d fm.left s2 eo⟩
  cases fl with
  | nx =>
    intro σ1 H1 fm st1
    refine ⟨κ, ρ1, τ, vs, vo, st1, Out.wp_mono w1 (fun fl ρ2 w2 => ?_) fun e ρ1 z σ' H' d fm2 s2 eo => z σ' H' d (fm.trans fm2) s2 eo⟩
    cases fl with
    | nx => exact fun σ2 H2 fm2 st2 => w2 σ2 H2 (fm.trans fm2) st2
    | bk => exact fun σ2 H2 fm2 st2 => w2 σ2 H2 (fm.trans fm2) st2
    | ct => exact fun σ2 H2 fm2 st2 => w2 σ2 H2 (fm.trans fm2) st2
    | rt d => exact fun v σ2 H2 fm2 st2 => w2 v σ2 H2 (fm.trans fm2) st2
  | bk => exact fun σ2 H2 fm2 st2 => w1 σ2 H2 fm2.left st2
  | ct => exact fun σ2 H2 fm2 st2 => w1 σ2 H2 fm2.left st2
  | rt d => exact fun v σ2 H2 fm2 st2 => w1 v σ2 H2 fm2.left st2
def sFl (fl : Fl) : Cm Fl := fun ρ => .ok fl ρ
theorem DS.pass : DS X W [] (.Pass pos) (sFl .nx) := PS.imp ps_pass fun D σ H ⟨κ, ρ, τ, vs, vo, st, w⟩ => w σ H Frm.refl st
theorem DS.brk : DS X W [] (.Break pos) (sFl .bk) := PS.imp ps_break fun D σ H ⟨κ, ρ, τ, vs, vo, st, w⟩ => w σ H Frm.refl st
theorem DS.cont : DS X W [] (.Continue pos) (sFl .ct) := PS.imp ps_continue fun D σ H ⟨κ, ρ, τ, vs, vo, st, w⟩ => w σ H Frm.refl st
theorem DS.retN : DS X W [] (.Return none pos) (sFl (.rt .non)) := PS.imp ps_retN fun D σ H ⟨κ, ρ, τ, vs, vo, st, w⟩ => w .non σ H Frm.refl st.pushN
def sRet (f : Cm Tm) : Cm Fl := fun ρ => (f ρ).bind fun t ρ1 => match t with
  | .v d => .ok (.rt d) ρ1
  | _ => .bad
theorem DS.ret (h : DE X W q e f) : DS X W [] (.Return (some e) pos) (sRet f) := by
  refine PS.imp (ps_ret h) fun D σ H ⟨κ, ρ, τ, vs, vo, st, w⟩ => ?_
  refine ⟨κ, ρ, τ, vs, st, Out.wp_mono (Out.wp_bind w) (fun t ρ1 w1 v H1 st1 k1 => ?_) fun e ρ1 z H' d s2 eo => z σ H' d Frm.refl s2 eo⟩
  cases t with
  | v d => exact w1 v σ H1 Frm.refl st1
  | s i => exact w1.elim
def sDrop (f : Cm Tm) : Cm Fl := fun ρ => (f ρ).bind fun _ ρ1 => .ok .nx ρ1
theorem DS.expr (h : DE X W q e f) (hs : swapsWith e none pos.line X.env = pure false := by rfl) : DS X W [] (.Expr e pos) (sDrop f) := by
  refine PS.imp (ps_expr h hs) fun D σ H ⟨κ, ρ, τ, vs, vo, st, w⟩ => ?_
  exact ⟨κ, ρ, τ, vs, st, Out.wp_mono (Out.wp_bind w) (fun t ρ1 w1 v H1 st1 k1 => w1 σ H1 Frm.refl st1.pop) fun e ρ1 z H' d s2 eo => z σ H' d Frm.refl s2 eo⟩
def sIf (c : Cm Bool) (g h : Cm Fl) : Cm Fl := fun ρ => (c ρ).bind fun b ρ1 => if b = true then g ρ1 else h ρ1
theorem DS.ite {ss2 : List Stmt} (hc : DT X W c fb) (h1 : DSs X W as ss g) (h2 : DSs X W bs ss2 h) : DS X W (as ++ bs) (.If c ss ss2 pos) (sIf fb g h) := by
  refine PS.imp (ps_if hc h1 h2) fun D σ H ⟨κ, ρ, τ, vs, vo, st, w⟩ => ?_
  refine ⟨κ, ρ, τ, vs, st, Out.wp_mono (Out.wp_bind w) (fun b ρ1 w1 H1 st1 => ?_) fun e ρ1 z H' d s2 eo => z σ H' d Frm.refl s2 eo⟩
  cases b with
  | true =>
    refine ⟨κ, ρ1, τ, vs, vo, st1, Out.wp_mono (show (g ρ1).wp _ _ from w1) (fun fl ρ2 w2 => ?_) fun e ρ1 z σ' H' d fm2 s2 eo => z σ' H' d fm2.left s2 eo⟩
    cases fl with
    | nx => exact fun σ2 H2 fm2 st2 => w2 σ2 H2 fm2.left st2
    | bk => exact fun σ2 H2 fm2 st2 => w2 σ2 H2 fm2.left st2
    | ct => exact fun σ2 H2 fm2 st2 => w2 σ2 H2 fm2.left st2
    | rt d => exact fun v σ2 H2 fm2 st2 => w2 v σ2 H2 fm2.left st2
  | false =>
    refine ⟨κ, ρ1, τ, vs, vo, st1, Out.wp_mono (show (h ρ1).wp _ _ from w1) (fun fl ρ2 w2 => ?_) fun e ρ1 z σ' H' d fm2 s2 eo => z σ' H' d fm2.right s2 eo⟩
    cases fl with
    | nx => exact fun σ2 H2 fm2 st2 => w2 σ2 H2 fm2.right st2
    | bk => exact fun σ2 H2 fm2 st2 => w2 σ2 H2 fm2.right st2
    | ct => exact fun σ2 H2 fm2 st2 => w2 σ2 H2 fm2.right st2
    | rt d => exact fun v σ2 H2 fm2 st2 => w2 v σ2 H2 fm2.right st2
/-- name = e -/
def sSet (i : Nat) (f : Cm Tm) : Cm Fl := fun ρ => (f ρ).bind fun t ρ1 => match t with
  | .v d => if i < ρ1.length then .ok .nx (ρ1.set i (some d)) else .bad
  | _ => .bad
theorem DS.set_of {e2 : Expr} {t : TE} {T : TS} {f : Cm Tm} (hT : PS X s (tAsg (tD X.K W q f) (gName i))) : DS X W [i] s (sSet i f) := by
  refine PS.imp hT fun D σ H ⟨κ, ρ, τ, vs, vo, st, w⟩ => ?_
  refine ⟨κ, ρ, τ, vs, st, Out.wp_mono (Out.wp_bind w) (fun t ρ1 w1 v H1 st1 k1 => ?_) fun e ρ1 z H' d s2 eo => z σ H' d Frm.refl s2 eo⟩
  cases t with
  | v d =>
    by_cases hi : i < ρ1.length
    · try dsimp only at w1
      rw [if_pos hi] at w1
      exact w1 _ H1 Frm.set (st1.put hi vo)
    · try dsimp only at w1
      rw [if_neg hi] at w1
      exact w1.elim
  | s i => exact w1.elim
theorem DS.set {x : Str} {pos' : Pos} (hN : X.N.Nodup) (h : DE X W q e f) (hi : X.N[i]? = some x := by rfl) (hx : Loc X.env.scope x := by first | exact Or.inl rfl | exact Or.inr rfl) (hs : swapsWith e (some (.Name x pos')) pos.line X.env = pure false := by rfl)
    (hf : X.fn x = true ∨ X.env.scope.names.lookup x = some .local := by first | exact .inl rfl | exact .inr rfl) : DS X W [i] (.Assign [.Name x pos'] e pos) (sSet i f) :=
  DS.set_of (e2 := e) (t := tD X.K W q f) (T := fun _ _ _ => True) (ps_set hN hi hx h hs hf)
/-- name op= e -/
def sAug (i : Nat) (g : D → D → Option D) (f : Cm Tm) : Cm Fl := fun ρ => (f ρ).bind fun t ρ1 => match look ρ1 (.s i), look ρ1 t with
  | some a, some b => match g a b with
    | some c => .ok .nx (ρ1.set i (some c))
    | none => .bad
  | _, _ => .bad
theorem DS.aug {x : Str} {pos' : Pos} {op : Operator} {ti : TIp} {gg : D → D → Option D} (hN : X.N.Nodup) (h : DE X W q e f) (ho : PIp X op ti) (hr : Op2 X.K true ti gg) (hi : X.N[i]? = some x := by rfl) (hx : Loc X.env.scope x := by first | exact Or.inl rfl | exact Or.inr rfl)
    (hf : X.fn x = true ∨ X.env.scope.names.lookup x = some .local := by first | exact .inl rfl | exact .inr rfl) : DS X W [i] (.AugAssign (.Name x pos') op e pos) (sAug i gg (fun ρ => (eM i ρ).bind fun _ ρ1 => f ρ1)) := by
  refine PS.imp (ps_aug hN hi hx h ho hf) fun D σ H ⟨κ, ρ, τ, vs, vo, st, w⟩ => ?_
  have w' := Out.wp_bind (Out.wp_bind w)
  unfold eM at w'
  split at w'
  · rename_i d hd
    obtain ⟨x, hx⟩ := st.slot (join_some hd)
    refine ⟨x, hx, κ, ρ, .s i :: τ, x :: vs, st.mark hx, Out.wp_mono w' (fun t ρ1 w1 v H1 st1 k1 => ?_) fun e ρ1 z H' d s2 eo => z σ H' d Frm.refl s2.pop eo⟩
    try dsimp only at w1
    split at w1
    · rename_i a b ea eb
      split at w1
      · rename_i c hc
        refine hr κ ρ1 τ vs σ H1 (.s i) t x v a b c _ st1 ea eb hc fun y H2 st2 k2 => ?_
        have hi' : i < ρ1.length := (List.getElem?_eq_some_iff.mp (join_some (show (ρ1[i]?).join = some a from ea))).1
        exact w1 _ H2 Frm.set (st2.put hi' vo)
      · exact w1.elim
    · exact w1.elim
  · exact w'.elim

/-! ### while -/
/-- behind a turn of a loop -/
def Fl.lp (k : Cm Fl) : Fl → Cm Fl
  | .nx => k
  | .ct => k
  | .bk => fun ρ => .ok .nx ρ
  | .rt d => fun ρ => .ok (.rt d) ρ
/-- so many turns -/
noncomputable def whileF (c : Cm Bool) (g : Cm Fl) : Nat → Cm Fl
  | 0 => fun _ => .bad
  | n + 1 => fun ρ => (c ρ).bind fun b ρ1 => if b = true then (g ρ1).bind (Fl.lp (whileF c g n))
    else .ok .nx ρ1
theorem whileF_more (c : Cm Bool) (g : Cm Fl) : ∀ n ρ, whileF c g n ρ ≠ .bad → whileF c g (n + 1) ρ = whileF c g n ρ
  | 0, ρ, h => absurd rfl h
  | n + 1, ρ, h => by
    show ((c ρ).bind _) = ((c ρ).bind _)
    unfold whileF at h
    cases hc : c ρ with
    | bad => rfl
    | exc e s => rfl
    | ok b ρ1 =>
      rw [hc] at h
      simp only [Out.bind_ok] at h ⊢
      cases b with
      | false => rfl
      | true =>
        simp only [if_true] at h ⊢
        cases hg : g ρ1 with
        | bad => rfl
        | exc e s => rfl
        | ok fl ρ2 =>
          rw [hg] at h
          simp only [Out.bind_ok] at h ⊢
          cases fl with
          | nx => exact whileF_more c g n ρ2 h
          | ct => exact whileF_more c g n ρ2 h
          | bk => rfl
          | rt d => rfl
theorem whileF_le (c : Cm Bool) (g : Cm Fl) {n m : Nat} (hm : n ≤ m) (ρ : Env) (h : whileF c g n ρ ≠ .bad) : whileF c g m ρ = whileF c g n ρ := by
  obtain ⟨k, rfl⟩ := Nat.exists_eq_add_of_le hm
  induction k with
  | zero => rfl
  | succ k ih =>
    have e := ih (Nat.le_add_right _ _)
    rw [← Nat.add_assoc, whileF_more c g (n + k) ρ (by rw [e]; exact h), e]
open Classical in
noncomputable def sWhile (c : Cm Bool) (g : Cm Fl) : Cm Fl := fun ρ => if h : ∃ n, whileF c g n ρ ≠ .bad then whileF c g h.choose ρ else .bad
theorem sWhile_eq {c : Cm Bool} {g : Cm Fl} {n : Nat} {ρ : Env} (h : whileF c g n ρ ≠ .bad) : sWhile c g ρ = whileF c g n ρ := by
  have hx : ∃ n, whileF c g n ρ ≠ .bad := ⟨n, h⟩
  unfold sWhile
  rw [dif_pos hx]
  have h2 := hx.choose_spec
  rcases Nat.le_total n hx.choose with q | q
  · exact whileF_le c g q ρ h
  · exact (whileF_le c g q ρ h2).symm
/-- a loop unrolled once -/
theorem sWhile_step (c : Cm Bool) (g : Cm Fl) (ρ : Env) : sWhile c g ρ = (c ρ).bind fun b ρ1 => if b = true then (g ρ1).bind (Fl.lp (sWhile c g))
    else .ok .nx ρ1 := by
  cases hc : c ρ with
  | bad =>
    simp only [Out.bind_bad]
    unfold sWhile
    rw [dif_neg]
    rintro ⟨n, h⟩
    cases n with
    | zero => exact h rfl
    | succ n => unfold whileF at h; rw [hc] at h; exact h rfl
  | exc e s =>
    simp only [Out.bind_exc]
    have h : whileF c g 1 ρ = .exc e s := by unfold whileF; rw [hc]; rfl
    rw [sWhile_eq (n := 1) (by rw [h]; exact fun q => nomatch q), h]
  | ok b ρ1 =>
    simp only [Out.bind_ok]
    cases b with
    | false =>
      have h : whileF c g 1 ρ = .ok .nx ρ1 := by unfold whileF; rw [hc]; rfl
      rw [sWhile_eq (n := 1) (by rw [h]; exact fun q => nomatch q), h]
      rfl
    | true =>
      simp only [if_true]
      cases hg : g ρ1 with
      | bad =>
        simp only [Out.bind_bad]
        unfold sWhile
        rw [dif_neg]
        rintro ⟨n, h⟩
        cases n with
        | zero => exact h rfl
        | succ n => unfold whileF at h; rw [hc] at h; simp only [Out.bind_ok, if_true, hg, Out.bind_bad] at h; exact h rfl
      | exc e s =>
        simp only [Out.bind_exc]
        have h : whileF c g 1 ρ = .exc e s := by unfold whileF; rw [hc]; simp only [Out.bind_ok, if_true, hg, Out.bind_exc]
        rw [sWhile_eq (n := 1) (by rw [h]; exact fun q => nomatch q), h]
      | ok fl ρ2 =>
        simp only [Out.bind_ok]
        have st : ∀ n, whileF c g (n + 1) ρ = Fl.lp (whileF c g n) fl ρ2 := fun n => by
          show ((c ρ).bind _) = _
          rw [hc]
          show ((g ρ1).bind _) = _
          rw [hg]
          rfl
        have again : ∀ (h0 : ∀ n, whileF c g (n + 1) ρ = whileF c g n ρ2), sWhile c g ρ = sWhile c g ρ2 := fun h0 => by
          by_cases hx : ∃ n, whileF c g n ρ2 ≠ .bad
          · obtain ⟨n, h⟩ := hx
            rw [sWhile_eq h, sWhile_eq (n := n + 1) (by rw [h0]; exact h), h0]
          · unfold sWhile
            rw [dif_neg hx, dif_neg]
            rintro ⟨n, h⟩
            cases n with
            | zero => exact h rfl
            | succ n => exact hx ⟨n, by rw [← h0]; exact h⟩
        cases fl with
        | nx => exact again st
        | ct => exact again st
        | bk => rw [sWhile_eq (n := 1) (by rw [st]; exact fun q => nomatch q), st]; rfl
        | rt d => rw [sWhile_eq (n := 1) (by rw [st]; exact fun q => nomatch q), st]; rfl
theorem DS.wh (hp : PassesOwn (model X.prog X.w) X.A X.env X.xe) (hc : DT X W c fb) (hb : DSs X W as ss g) : DS X W as (.While c ss [] pos) (sWhile fb g) := by
  refine PS.imp (ps_while hp hc hb) fun D σ H ⟨κ, ρ, τ, vs, vo, st, w⟩ => ?_
  have hx : ∃ n, whileF fb g n ρ ≠ .bad := by
    by_cases hx : ∃ n, whileF fb g n ρ ≠ .bad
    · exact hx
    · exfalso
      unfold sWhile at w
      rw [dif_neg hx] at w
      exact w
  obtain ⟨n, hn⟩ := hx
  rw [sWhile_eq hn] at w
  let P : Env → St → Out Env Fl → Prop := fun _ σ0 o => o.wp (postS X.K as κ τ vs D σ0) (postX X.K W as κ τ vs σ0)
  refine ⟨fun m σ1 H1 => ∃ ρ1, Stt X.K κ ρ1 τ vs σ1 H1 ∧ P ρ1 σ1 (whileF fb g m ρ1), ⟨n, ρ, st, w⟩, ?_⟩
  rintro m σ1 H1 ⟨ρ1, st1, w1⟩
  cases m with
  | zero => exact w1.elim
  | succ m =>
    refine ⟨κ, ρ1, τ, vs, st1, Out.wp_mono (Out.wp_bind w1) (fun b ρ2 w2 H2 st2 => ?_) fun e ρ2 z H' d s2 eo => z σ1 H' d Frm.refl s2 eo⟩
    cases b with
    | true =>
      rw [if_pos rfl] at w2 ⊢
      refine ⟨fun σ3 H3 => Frm as σ1 σ3 ∧ ∃ ρ3, Stt X.K κ ρ3 τ vs σ3 H3 ∧ P ρ3 σ3 (whileF fb g m ρ3), fun σ3 H3 ⟨_, ρ3, s3, w3⟩ => ⟨m, Nat.lt_succ_self _, ρ3, s3, w3⟩, κ, ρ2, τ, vs, vo, st2, Out.wp_mono (Out.wp_bind w2) (fun fl ρ3 w3 => ?_) fun e ρ3 z σ' H' d fm s2 eo => z σ' H' d fm s2 eo⟩
      have down : ∀ {σ3 : St} (fm : Frm as σ1 σ3), P ρ3 σ1 (whileF fb g m ρ3) → P ρ3 σ3 (whileF fb g m ρ3) := fun {σ3} fm w => by
        refine Out.wp_mono w (fun fl ρ4 w4 => ?_) fun e ρ3 z σ' H' d fm2 s2 eo => z σ' H' d ((fm.trans fm2).mono (by simp)) s2 eo
        cases fl with
        | nx => exact fun σ' H' fm2 s => w4 σ' H' ((fm.trans fm2).mono (by simp)) s
        | bk => exact fun σ' H' fm2 s => w4 σ' H' ((fm.trans fm2).mono (by simp)) s
        | ct => exact fun σ' H' fm2 s => w4 σ' H' ((fm.trans fm2).mono (by simp)) s
        | rt d => exact fun v σ' H' fm2 s => w4 v σ' H' ((fm.trans fm2).mono (by simp)) s
      cases fl with
      | nx => exact fun σ3 H3 fm s3 => ⟨fm, ρ3, s3, down fm w3⟩
      | ct => exact fun σ3 H3 fm s3 => ⟨fm, ρ3, s3, down fm w3⟩
      | bk => exact fun σ3 H3 fm s3 => w3 σ3 H3 fm s3
      | rt d => exact fun v σ3 H3 fm s3 => w3 v σ3 H3 fm s3
    | false =>
      rw [if_neg Bool.false_ne_true] at w2 ⊢
      exact w2 σ1 H2 Frm.refl st2
end
end Dl

set_option linter.all false
set_option maxRecDepth 100000
/-! Dl4: what a loop walks, targets, for, list comprehensions; lists that are changed. -/
namespace Dl
open PySem L2

/-! ### targets -/
abbrev Tg := Env → Option Env
def tDG (K : PySem.W.Frag) (as : List Nat) (g : D → Tg) : TG := fun v σ H Q => ∃ κ ρ τ vs d ρ', vOnly τ ∧ Stt K κ ρ (.v d :: τ) (v :: vs) σ H ∧ g d ρ = some ρ' ∧
  ∀ σ' H', σ'.length = σ.length → Frm as σ σ' → Stt K κ ρ' τ vs σ' H' → Q σ' H'
def DG (X : Cx) (as : List Nat) (tg : Expr) (g : D → Tg) : Prop := PG X tg (tDG X.K as g)
def tDGs (K : PySem.W.Frag) (as : List Nat) (g : List D → Tg) : TGs := fun xs σ H Q => ∃ κ ρ τ vs ds ρ', vOnly τ ∧ xs.length = ds.length ∧ Stt K κ ρ (tms ds ++ τ) (xs ++ vs) σ H ∧ g ds ρ = some ρ' ∧
  ∀ σ' H', σ'.length = σ.length → Frm as σ σ' → Stt K κ ρ' τ vs σ' H' → Q σ' H'
def DGs (X : Cx) (as : List Nat) (tg : List Expr) (g : List D → Tg) : Prop := PGs X tg (tDGs X.K as g)
theorem PG.imp {X : Cx} {e : Expr} {t t' : TG} (h : PG X e t) (i : ∀ v σ H Q, t' v σ H Q → t v σ H Q) : PG X e t' := ⟨fun pins s σ H v u Q I r q => h.run pins s σ H v u Q I r (i v σ H Q q)⟩
theorem PGs.imp {X : Cx} {e : List Expr} {t t' : TGs} (h : PGs X e t) (i : ∀ v σ H Q, t' v σ H Q → t v σ H Q) : PGs X e t' := ⟨fun pins s σ H v u Q I r q => h.run pins s σ H v u Q I r (i v σ H Q q)⟩
theorem PI.imp {X : Cx} {tg e : Expr} {t t' : TI} (h : PI X tg e t) (i : ∀ σ H Q, t' σ H Q → t σ H Q) : PI X tg e t' := ⟨fun pins s σ H R I q => h.run pins s σ H R I (i σ H R q)⟩
section
variable {X : Cx} {W : WX} {q q1 q2 : Bool} {as bs : List Nat} {tg e : Expr} {es : List Expr} {g : D → Tg} {gs : List D → Tg} {pos : Pos} {i : Nat}
def gN (i : Nat) : D → Tg := fun d ρ => if i < ρ.length then some (ρ.set i (some d)) else none
theorem DG.name {x : Str} (hN : X.N.Nodup) (hi : X.N[i]? = some x := by rfl) (hx : Loc X.env.scope x := by first | exact Or.inl rfl | exact Or.inr rfl)
    (hf : X.fn x = true ∨ X.env.scope.names.lookup x = some .local := by first | exact .inl rfl | exact .inr rfl) : DG X [i] (.Name x pos) (gN i) := by
  refine PG.imp (pg_name hN hi hx hf) fun v σ H Q ⟨κ, ρ, τ, vs, d, ρ', vo, st, e, w⟩ => ?_
  unfold gN at e
  split at e
  · rename_i hi
    cases e
    exact w _ H (List.length_set) Frm.set (st.put hi vo)
  · cases e
def gsNil : List D → Tg := fun ds ρ => match ds with
  | [] => some ρ
  | _ => none
def gsCons (g : D → Tg) (gs : List D → Tg) : List D → Tg := fun ds ρ => match ds with
  | [] => none
  | d :: ds => (g d ρ).bind fun ρ1 => gs ds ρ1
theorem DGs.nil : DGs X [] [] gsNil := by
  refine PGs.imp pgs_nil fun xs σ H Q ⟨κ, ρ, τ, vs, ds, ρ', vo, hl, st, e, w⟩ => ?_
  cases ds with
  | nil =>
    cases e
    have e : xs = [] := List.length_eq_zero_iff.mp hl
    subst e
    exact ⟨rfl, w σ H rfl Frm.refl st⟩
  | cons d ds => cases e
theorem vOnly_tms : ∀ (ds : List D) {τ : List Tm}, vOnly τ → vOnly (tms ds ++ τ)
  | [], _, h => h
  | _ :: ds, _, h => vOnly_tms ds h
theorem DGs.cons (h : DG X as e g) (h2 : DGs X bs es gs) (hs : (assignEach (e :: es) X.env).map (·.2) = assign e X.env :: (assignEach es X.env).map (·.2) := by rfl) : DGs X (as ++ bs) (e :: es) (gsCons g gs) := by
  refine PGs.imp (pgs_cons h h2 hs) fun xs σ H Q ⟨κ, ρ, τ, vs, ds, ρ', vo, hl, st, e, w⟩ => ?_
  cases ds with
  | nil => cases e
  | cons d ds =>
    cases xs with
    | nil => simp at hl
    | cons x xs =>
      have hl' : xs.length = ds.length := by simpa using hl
      obtain ⟨ρ1, e1, e2⟩ := Option.bind_eq_some_iff.mp (show ((g d ρ).bind fun ρ1 => gs ds ρ1) = some ρ' from e)
      exact ⟨x, xs, rfl, κ, ρ, tms ds ++ τ, xs ++ vs, d, ρ1, vOnly_tms ds vo, st, e1, fun σ1 H1 l1 f1 st1 => ⟨κ, ρ1, τ, vs, ds, ρ', vo, hl', st1, e2, fun σ2 H2 l2 f2 st2 => w σ2 H2 (l2.trans l1) (f1.trans f2) st2⟩⟩
def gTupD (n : Nat) (gs : List D → Tg) : D → Tg := fun d ρ => match d with
  | .tup ds => if ds.length = n then gs ds ρ else none
  | _ => none
/-- a tuple's items, as temps -/
theorem Stt.untup {K : PySem.W.Frag} {κ : Fr} {ρ : Env} {τ : List Tm} {vs : List V} {σ : St} {H : Hp} {v : V} {ds : List D} (h : Stt K κ ρ (.v (.tup ds) :: τ) (v :: vs) σ H) :
    ∃ a xs, v = .ref a ∧ SqT K H a xs ∧ xs.length = ds.length ∧ Stt K κ ρ (tms ds ++ τ) (xs ++ vs) σ H := by
  obtain ⟨Z, A, B, c, t, g⟩ := h
  cases t with
  | v h1 h2 =>
    cases h1 with
    | tup h3 h4 => exact ⟨_, _, rfl, sqT_keep g.zh h3, h4.length, Z, A, _, c, h4.tms h2, g⟩
theorem DG.tup {k : Nat} {n : Nat} (hc : X.calm = true) (h : DGs X as es gs) (hn : (assignEach es X.env).length = n := by rfl) (hst : (assignEach es X.env).findIdx? (·.1) = none := by rfl) : DG X as (.Tuple es k pos) (gTupD n gs) := by
  refine PG.imp (pg_tup hc h hn hst) fun v σ H Q ⟨κ, ρ, τ, vs, d, ρ', vo, st, e, w⟩ => ?_
  unfold gTupD at e
  split at e
  · rename_i ds
    split at e
    · rename_i hl
      obtain ⟨a, xs, rfl, hq, hx, st2⟩ := st.untup
      exact ⟨a, xs, rfl, hq, hx.trans hl, κ, ρ, τ, vs, ds, ρ', vo, hx, st2, e, w⟩
    · cases e
  · cases e
/-- target = e -/
def sAsg (g : D → Tg) (f : Cm Tm) : Cm Fl := fun ρ => (f ρ).bind fun t ρ1 => match t with
  | .v d => match g d ρ1 with
    | some ρ2 => .ok .nx ρ2
    | none => .bad
  | _ => .bad
theorem DS.asg {f : Cm Tm} (he : DE X W q e f) (hg : DG X as tg g) (hs : swapsWithSole [tg] e pos.line X.env = pure false := by rfl) (hw : swappedStores [tg] e X.env = pure none := by rfl)
    (h1 : (assignEach [tg] X.env).map (·.2) = [assign tg X.env] := by rfl) : DS X W as (.Assign [tg] e pos) (sAsg g f) := by
  refine PS.imp (ps_asg he hg hs hw h1) fun D σ H ⟨κ, ρ, τ, vs, vo, st, w⟩ => ?_
  refine ⟨κ, ρ, τ, vs, st, Out.wp_mono (Out.wp_bind w) (fun t ρ1 w1 v H1 st1 k1 => ?_) fun e ρ1 z H' d s2 eo => z σ H' d Frm.refl s2 eo⟩
  cases t with
  | v d =>
    cases hg : g d ρ1 with
    | some ρ2 =>
      refine ⟨κ, ρ1, τ, vs, d, ρ2, vo, st1, hg, fun σ' H' l fm st2 => ?_⟩
      try dsimp only at w1
      rw [hg] at w1
      exact w1 σ' H' fm st2
    | none =>
      try dsimp only at w1
      rw [hg] at w1
      exact w1.elim
  | s i => exact w1.elim

/-! ### what is walked -/
/-- what is walked: the temps that stand while it is walked, the items, the slot from which it was taken -/
structure Src where
  ts : List D
  ds : List D
  bk : Option Nat
/-- J gives the items ds while ts stands -/
def Iters (K : PySem.W.Frag) (κ : Fr) (J : It) (ts : List D) (xs : List V) (ds : List D) : Prop := ∀ (ρ : Env) (τ : List Tm) (vs : List V) (σ : St) (H : Hp), Stt K κ ρ (tms ts ++ τ) (xs ++ vs) σ H →
  (∀ i d, ds[i]? = some d → J.go i H ∧ ∀ x H', J.yld i H x H' → Stt K κ ρ (.v d :: (tms ts ++ τ)) (x :: (xs ++ vs)) σ H') ∧ J.stop ds.length H
def tDI (K : PySem.W.Frag) (W : WX) (f : Cm Src) : TI := fun σ H R => ∃ κ ρ τ vs, Stt K κ ρ τ vs σ H ∧
  (f ρ).wp (fun s ρ' => ∀ J xs H', xs.length = s.ts.length → (∀ i, s.bk = some i → ∃ x d, xs = [x] ∧ s.ts = [d] ∧ σ[i]? = some (some x)) → Stt K κ ρ' (tms s.ts ++ τ) (xs ++ vs) σ H' → Iters K κ J s.ts xs s.ds → R J H')
    (fun e ρ' => ∀ H' d, Stt K κ ρ' τ vs σ H' → ExOk H' e d → W (.ref e.cls) d σ H')
def DI (X : Cx) (W : WX) (tg e : Expr) (f : Cm Src) : Prop := PI X tg e (tDI X.K W f)

/-! ### for -/
def loopL (g : D → Tg) (b : Cm Fl) : List D → Cm Fl
  | [] => fun ρ => .ok .nx ρ
  | d :: ds => fun ρ => match g d ρ with
    | some ρ1 => (b ρ1).bind (Fl.lp (loopL g b ds))
    | none => .bad
/-- a slot from which something was taken -/
def hole (ρ : Env) (i : Nat) : Bool := match ρ[i]? with
  | some none => true
  | _ => false
theorem hole_eq {ρ : Env} {i : Nat} (h : hole ρ i = true) : ρ[i]? = some none := by
  unfold hole at h
  split at h
  · assumption
  · cases h
theorem Frm.in1 {as bs : List Nat} {σ σ1 σ3 : St} (a : Frm (as ++ bs) σ σ1) (b : Frm as σ1 σ3) : Frm (as ++ bs) σ σ3 := fun i n => by
  rw [List.mem_append, not_or] at n
  rw [b i n.1, a i (by simp [n.1, n.2])]
theorem Frm.in2 {as bs : List Nat} {σ σ1 σ3 : St} (a : Frm (as ++ bs) σ σ1) (b : Frm bs σ1 σ3) : Frm (as ++ bs) σ σ3 := fun i n => by
  rw [List.mem_append, not_or] at n
  rw [b i n.2, a i (by simp [n.1, n.2])]
/-- what was taken goes back -/
def putBack (as : List Nat) (s : Src) (fl : Fl) : Cm Fl := fun ρ => match s.bk with
  | none => .ok fl ρ
  | some i => match s.ts with
    | [d] => if hole ρ i = true ∧ i ∉ as then .ok fl (ρ.set i (some d)) else .bad
    | _ => .bad
def sFor (as : List Nat) (f : Cm Src) (g : D → Tg) (b : Cm Fl) : Cm Fl := fun ρ => (f ρ).bind fun s ρ1 => (loopL g b s.ds ρ1).bind (putBack as s)
theorem getElem?_drop_cons {α : Type} {l : List α} {i : Nat} {x : α} (h : l[i]? = some x) : l.drop i = x :: l.drop (i + 1) := by
  obtain ⟨hi, e⟩ := List.getElem?_eq_some_iff.mp h
  rw [List.drop_eq_getElem_cons hi, e]
theorem DS.for {iter : Expr} {body : List Stmt} {f : Cm Src} {b : Cm Fl} (hp : PassesOwn (model X.prog X.w) X.A X.env X.xe) (hc : X.calm = true) (hi : DI X W tg iter f) (hg : DG X as tg g) (hb : DSs X W bs body b)
    (hs : ∀ x, foldedSetIterable iter X.env x = pure x := by intro _; rfl) : DS X W (as ++ bs) (.For tg iter body [] pos) (sFor (as ++ bs) f g b) := by
  refine PS.imp (ps_for hp hc hi hg hb hs) fun D σ H ⟨κ, ρ, τ, vs, vo, st, w⟩ => ?_
  refine ⟨κ, ρ, τ, vs, st, Out.wp_mono (Out.wp_bind w) (fun s ρ1 w1 J xs H1 hl hbk st1 it => ?_) fun e ρ1 z H' d s2 eo => z σ H' d Frm.refl s2 eo⟩
  -- what is wanted of the rest of the loop
  let P : Out Env Fl → Prop := fun o => (o.bind (putBack (as ++ bs) s)).wp (postS X.K (as ++ bs) κ τ vs D σ) (postX X.K W (as ++ bs) κ τ vs σ)
  have hts : xs.length = (tms s.ts).length := by rw [tms_len]; exact hl
  -- the end, with the slot put back
  have fin : ∀ (ρ2 : Env) (π : List Tm) (ps : List V) (σ2 : St) (H2 : Hp), ps.length = π.length → Frm (as ++ bs) σ σ2 → Stt X.K κ ρ2 (tms s.ts ++ (π ++ τ)) (xs ++ (ps ++ vs)) σ2 H2 → ∀ {fl : Fl} {P' : Fl → Env → Prop} {E' : Exn → Env → Prop}, (putBack (as ++ bs) s fl ρ2).wp P' E' →
      ∃ ρ3, Stt X.K κ ρ3 (π ++ τ) (ps ++ vs) σ2 H2 ∧ P' fl ρ3 := by
    intro ρ2 π ps σ2 H2 hπ fm st2 fl P' E' w2
    unfold putBack at w2
    split at w2
    · exact ⟨ρ2, st2.popN hts, w2⟩
    · rename_i i hb
      obtain ⟨x, d, rfl, ed, ex⟩ := hbk i hb
      rw [ed] at w2 st2
      dsimp only at w2
      split at w2
      · rename_i hz
        exact ⟨_, Stt.back (d := d) (v := x) st2 (hole_eq hz.1) (by rw [fm i hz.2]; exact ex), w2⟩
      · exact w2.elim
  refine ⟨fun i m σ' H' => m = s.ds.length - i ∧ i ≤ s.ds.length ∧ Frm (as ++ bs) σ σ' ∧ ∃ ρ', Stt X.K κ ρ' (tms s.ts ++ τ) (xs ++ vs) σ' H' ∧ P (loopL g b (s.ds.drop i) ρ'), ⟨s.ds.length, by simp, Nat.zero_le _, Frm.refl, ρ1, st1, by rw [List.drop_zero]; exact w1⟩, ?_⟩
  rintro i m σ1 H2 ⟨rfl, hi, fm1, ρ2, st2, w2⟩
  obtain ⟨ig, is⟩ := it ρ2 τ vs σ1 H2 st2
  by_cases hlt : i < s.ds.length
  · refine .inr ?_
    have ed : s.ds[i]? = some s.ds[i] := List.getElem?_eq_getElem hlt
    obtain ⟨go, yl⟩ := ig i _ ed
    rw [getElem?_drop_cons ed] at w2
    cases hgd : g s.ds[i] ρ2 with
    | none =>
      unfold loopL at w2
      rw [hgd] at w2
      exact w2.elim
    | some ρ3 =>
      unfold loopL at w2
      rw [hgd] at w2
      refine ⟨go, fun σ' H' => Frm (as ++ bs) σ σ' ∧ ∃ ρ', Stt X.K κ ρ' (tms s.ts ++ τ) (xs ++ vs) σ' H' ∧ P (loopL g b (s.ds.drop (i + 1)) ρ'), fun σ' H' ⟨a, b⟩ => ⟨s.ds.length - (i + 1), by omega, rfl, hlt, a, b⟩, fun x H3 y => ?_⟩
      refine ⟨κ, ρ2, tms s.ts ++ τ, xs ++ vs, s.ds[i], ρ3, vOnly_tms _ vo, yl x H3 y, hgd, fun σ3 H4 _ f3 st3 => ?_⟩
      have fm3 : Frm (as ++ bs) σ σ3 := fm1.in1 f3
      have w3 : ((b ρ3).bind fun fl ρ4 => (Fl.lp (loopL g b (s.ds.drop (i + 1))) fl ρ4).bind (putBack (as ++ bs) s)).wp (postS X.K (as ++ bs) κ τ vs D σ) (postX X.K W (as ++ bs) κ τ vs σ) := by
        have w3 : (((b ρ3).bind (Fl.lp (loopL g b (s.ds.drop (i + 1))))).bind (putBack (as ++ bs) s)).wp (postS X.K (as ++ bs) κ τ vs D σ) (postX X.K W (as ++ bs) κ τ vs σ) := w2
        cases hbb : b ρ3 with
        | ok fl ρ4 => rw [hbb] at w3; exact w3
        | exc e s => rw [hbb] at w3; exact w3
        | bad => rw [hbb] at w3; exact w3
      refine ⟨κ, ρ3, tms s.ts ++ τ, xs ++ vs, vOnly_tms _ vo, st3, Out.wp_mono (Out.wp_bind w3) (fun fl ρ4 w4 => ?_) fun e ρ4 z σ' H' d f4 s2 eo => z σ' H' d (fm3.in2 f4) (s2.popN hts) eo⟩
      have fm4 : ∀ {σ'}, Frm bs σ3 σ' → Frm (as ++ bs) σ σ' := fun f4 => fm3.in2 f4
      cases fl with
      | nx => exact fun σ' H' f4 st4 => ⟨fm4 f4, ρ4, st4, w4⟩
      | ct => exact fun σ' H' f4 st4 => ⟨fm4 f4, ρ4, st4, w4⟩
      | bk =>
        intro σ' H' f4 st4
        obtain ⟨ρ5, st5, w5⟩ := fin ρ4 [] [] σ' H' rfl (fm4 f4) st4 (fl := .nx) w4
        exact w5 σ' H' (fm4 f4) st5
      | rt d =>
        intro v σ' H' f4 st4
        have st4' := Stt.turn (τ1 := [.v d]) (v1 := [v]) (τ2 := tms s.ts) (v2 := xs) rfl hts st4
        obtain ⟨ρ5, st5, w5⟩ := fin ρ4 [.v d] [v] σ' H' rfl (fm4 f4) st4' (fl := .rt d) w4
        exact w5 v σ' H' (fm4 f4) st5
  · have e : i = s.ds.length := by omega
    subst e
    refine .inl ⟨is, ?_⟩
    rw [List.drop_length] at w2
    obtain ⟨ρ5, st5, w5⟩ := fin ρ2 [] [] σ1 H2 rfl fm1 st2 (fl := .nx) w2
    exact w5 σ1 H2 fm1 st5
end

/-! ### lists that are changed -/
section
variable {K : PySem.W.Frag} {κ : Fr} {ρ : List (Option D)} {τ : List Tm} {vs : List V} {σ : St} {H : Hp} {d : D} {v : V} {i : Nat}
/-- an owned root is changed: the addresses behind it -/
theorem Good.swap {Z : Hp} {A B1 B4 B3 C' : List Addr} {p : Addr} (o : HO) (g : Good κ H Z (A ++ (B1 ++ ((p :: B4) ++ B3)))) (sub : Sub C' (B1 ++ B4)) :
    Good κ (upd H p o) Z (p :: (A ++ (C' ++ B3))) ∧ ∀ a ∈ A ++ (C' ++ B3), upd H p o a = H a ∧ Z a = none := by
  have s1 : Sub (p :: (A ++ (C' ++ B3))) (A ++ (B1 ++ ((p :: B4) ++ B3))) := by
    obtain ⟨R, pr⟩ := sub
    refine ⟨R, ?_⟩
    have e1 : (A ++ (B1 ++ ((p :: B4) ++ B3))).Perm (p :: (A ++ ((B1 ++ B4) ++ B3))) := by
      have q1 : B1 ++ ((p :: B4) ++ B3) = (B1 ++ p :: B4) ++ B3 := by simp
      rw [q1]
      have : (A ++ ((B1 ++ p :: B4) ++ B3)).Perm (A ++ ((p :: (B1 ++ B4)) ++ B3)) := (List.perm_middle.append_right B3).append_left A
      exact this.trans perm_front
    refine List.Perm.trans ?_ e1.symm
    show (p :: ((A ++ (C' ++ B3)) ++ R)).Perm _
    refine List.Perm.cons p ?_
    rw [List.append_assoc A]
    refine List.Perm.append_left A ?_
    refine List.Perm.trans ?_ (pr.append_right B3)
    rw [List.append_assoc, List.append_assoc]
    exact List.perm_append_comm.append_left C'
  have g2 := g.sub s1
  obtain ⟨np, nd2⟩ := List.nodup_cons.mp g2.nd
  have zp := (g2.own p List.mem_cons_self).1
  refine ⟨⟨g2.nd, fun a u e => ?_, g.z0, fun a u e n => ?_, fun a ha => ?_, g.zn⟩, fun a ha => ⟨upd_ne fun q => np (q ▸ ha), (g2.own a (List.mem_cons_of_mem _ ha)).1⟩⟩
  · rw [upd_ne (fun q => by rw [q, zp] at e; cases e)]
    exact g.zh a u e
  · by_cases q : a = p
    · subst q
      rcases (g2.own a List.mem_cons_self).2.2 with z | z
      · exact absurd z n
      · rw [z] at e; cases e
    · rw [upd_ne q]
      exact g.keep a u e n
  · obtain ⟨z, ⟨u, e⟩, r⟩ := g2.own a ha
    refine ⟨z, ?_, r⟩
    by_cases q : a = p
    · subst q; exact ⟨_, upd_same⟩
    · exact ⟨u, by rw [upd_ne q]; exact e⟩
/-- the list on top is changed: its items, and what comes out of it, now come of its own and of the temps ahead of it -/
theorem Stt.chgO {es ds : List D} {ys : List V} (h : Stt K κ ρ (tms es ++ (.v (.lst true ds) :: τ)) (ys ++ (v :: vs)) σ H) (hy : ys.length = es.length) :
    ∃ p xs, v = .ref p ∧ H p = some (.lst xs) ∧ xs.length = ds.length ∧ ∀ (xs' os : List V) (ds' ods : List D), (∀ Z A B, Same Z H → Os K H Z es ys A → Os K H Z ds xs B → ∃ C1 C2, Os K H Z ods os C1 ∧ Os K H Z ds' xs' C2 ∧ Sub (C1 ++ C2) (A ++ B)) →
      Stt K κ ρ (tms ods ++ (.v (.lst true ds') :: τ)) (os ++ (v :: vs)) σ (upd H p (.lst xs')) := by
  obtain ⟨Z, A, B, c, t, g⟩ := h
  obtain ⟨zs, ws, B1, B2, e, rfl, o1, t2⟩ := t.split
  obtain ⟨rfl, rfl⟩ := List.append_inj e (by rw [hy, o1.length])
  cases t2 with
  | @v _ _ C _ _ B3 h1 h2 =>
    cases h1 with
    | @lst p xs _ B4 h3 h4 h5 =>
      refine ⟨p, xs, rfl, h3, h5.length, fun xs' os ds' ods conv => ?_⟩
      obtain ⟨C1, C2, oo, o', sub⟩ := conv Z B1 B4 g.zh o1 h5
      obtain ⟨g3, k⟩ := g.swap (.lst xs') sub
      have zz : Same Z Z := Same.refl Z
      refine ⟨Z, A, C1 ++ ((p :: C2) ++ B3), c.keep zz fun a ha => k a (List.mem_append_left _ ha), Os.tms (oo.keep zz fun a ha => k a (List.mem_append_right _ (List.mem_append_left _ (List.mem_append_left _ ha))))
        (.v (.lst upd_same h4 (o'.keep zz fun a ha => k a (List.mem_append_right _ (List.mem_append_left _ (List.mem_append_right _ ha))))) (h2.keep zz fun a ha => k a (List.mem_append_right _ (List.mem_append_right _ ha)))), g3.sub (.of_perm ?_)⟩
      have q1 : C1 ++ ((p :: C2) ++ B3) = (C1 ++ p :: C2) ++ B3 := by simp
      rw [q1]
      have : (A ++ ((C1 ++ p :: C2) ++ B3)).Perm (A ++ ((p :: (C1 ++ C2)) ++ B3)) := (List.perm_middle.append_right B3).append_left A
      exact this.trans perm_front
theorem Stt.chg {es ds : List D} {ys : List V} (h : Stt K κ ρ (tms es ++ (.v (.lst true ds) :: τ)) (ys ++ (v :: vs)) σ H) (hy : ys.length = es.length) :
    ∃ p xs, v = .ref p ∧ H p = some (.lst xs) ∧ xs.length = ds.length ∧ ∀ (xs' : List V) (ds' : List D), (∀ Z A B, Same Z H → Os K H Z es ys A → Os K H Z ds xs B → ∃ C, Os K H Z ds' xs' C ∧ Sub C (A ++ B)) →
      Stt K κ ρ (.v (.lst true ds') :: τ) (v :: vs) σ (upd H p (.lst xs')) := by
  obtain ⟨p, xs, e, hp, hl, k⟩ := h.chgO hy
  exact ⟨p, xs, e, hp, hl, fun xs' ds' conv => k xs' [] ds' [] fun Z A B zz o1 o2 => let ⟨C, q1, q2⟩ := conv Z A B zz o1 o2; ⟨[], C, .nil, q1, q2⟩⟩
/-- .. of a dict -/
theorem Stt.chgD {es ks ds : List D} {ys : List V} (h : Stt K κ ρ (tms es ++ (.v (.dic true ks ds) :: τ)) (ys ++ (v :: vs)) σ H) (hy : ys.length = es.length) :
    ∃ p kvs, v = .ref p ∧ H p = some (.dK kvs) ∧ ks = kvs.map (fun p => keyD p.1) ∧ kvs.length = ds.length ∧ ∀ (kvs' : List (Key × V)) (os : List V) (ds' ods : List D), (∀ Z A B, Same Z H → Os K H Z es ys A → Os K H Z ds (kvs.map Prod.snd) B → ∃ C1 C2, Os K H Z ods os C1 ∧ Os K H Z ds' (kvs'.map Prod.snd) C2 ∧ Sub (C1 ++ C2) (A ++ B)) →
      Stt K κ ρ (tms ods ++ (.v (.dic true (kvs'.map fun p => keyD p.1) ds') :: τ)) (os ++ (v :: vs)) σ (upd H p (.dK kvs')) := by
  obtain ⟨Z, A, B, c, t, g⟩ := h
  obtain ⟨zs, ws, B1, B2, e, rfl, o1, t2⟩ := t.split
  obtain ⟨rfl, rfl⟩ := List.append_inj e (by rw [hy, o1.length])
  cases t2 with
  | @v _ _ C _ _ B3 h1 h2 =>
    cases h1 with
    | @dic p ks xs _ B4 h3 h4 h5 =>
      obtain ⟨kvs, hk, rfl, rfl⟩ := h3
      refine ⟨p, kvs, rfl, hk, rfl, by simpa using h5.length, fun kvs' os ds' ods conv => ?_⟩
      obtain ⟨C1, C2, oo, o', sub⟩ := conv Z B1 B4 g.zh o1 h5
      obtain ⟨g3, k⟩ := g.swap (.dK kvs') sub
      have zz : Same Z Z := Same.refl Z
      refine ⟨Z, A, C1 ++ ((p :: C2) ++ B3), c.keep zz fun a ha => k a (List.mem_append_left _ ha), Os.tms (oo.keep zz fun a ha => k a (List.mem_append_right _ (List.mem_append_left _ (List.mem_append_left _ ha))))
        (.v (.dic ⟨kvs', upd_same, rfl, rfl⟩ h4 (o'.keep zz fun a ha => k a (List.mem_append_right _ (List.mem_append_left _ (List.mem_append_right _ ha))))) (h2.keep zz fun a ha => k a (List.mem_append_right _ (List.mem_append_right _ ha)))), g3.sub (.of_perm ?_)⟩
      have q1 : C1 ++ ((p :: C2) ++ B3) = (C1 ++ p :: C2) ++ B3 := by simp
      rw [q1]
      have : (A ++ ((C1 ++ p :: C2) ++ B3)).Perm (A ++ ((p :: (C1 ++ C2)) ++ B3)) := (List.perm_middle.append_right B3).append_left A
      exact this.trans perm_front
/-- an item behind the others -/
theorem Stt.app {r : D} {ds : List D} {y : V} (h : Stt K κ ρ (.v r :: (.v (.lst true ds) :: τ)) (y :: (v :: vs)) σ H) :
    ∃ p xs, v = .ref p ∧ H p = some (.lst xs) ∧ xs.length = ds.length ∧ Stt K κ ρ (.v (.lst true (ds ++ [r])) :: τ) (v :: vs) σ (upd H p (.lst (xs ++ [y]))) := by
  obtain ⟨p, xs, e, hp, hl, k⟩ := Stt.chg (es := [r]) (ys := [y]) h rfl
  refine ⟨p, xs, e, hp, hl, k _ _ fun Z A B _ o1 o2 => ⟨B ++ A, o2.append o1, .of_perm List.perm_append_comm⟩⟩
end

/-! ### list comprehensions -/
section
variable {X : Cx} {W : WX} {q : Bool} {as : List Nat} {tg elt iter : Expr} {ifs : List Expr} {pos : Pos}
def WF : WX := fun _ _ _ _ => False
def wipeD (ρ : Env) : List Nat → Env
  | [] => ρ
  | i :: l => (wipeD ρ l).set i none
theorem Cells.none_set {K : PySem.W.Frag} {H Z : Hp} : ∀ {ρ : Env} {σ : St} {A : List Addr} {i : Nat} {x : Option V}, Cells K H Z ρ σ A → (ρ[i]? = some none ∨ ρ[i]? = none) → Cells K H Z ρ (σ.set i x) A
  | _, _, _, i, _, .nil, _ => by simpa using .nil
  | _, _, _, 0, _, .no h, _ => .no h
  | _, _, _, 0, _, .so _ _, e => by simp at e
  | _, _, _, i + 1, _, .no h, e => .no (Cells.none_set h (by simpa using e))
  | _, _, _, i + 1, _, .so h1 h, e => .so h1 (Cells.none_set h (by simpa using e))
/-- nothing stands at these slots -/
def Gone (ρ : Env) (l : List Nat) : Prop := ∀ i ∈ l, ρ[i]? = some none ∨ ρ[i]? = none
theorem wipeD_gone (ρ : Env) : ∀ l, Gone (wipeD ρ l) l
  | [] => fun _ h => nomatch h
  | j :: l => fun i hi => by
    show ((wipeD ρ l).set j none)[i]? = some none ∨ ((wipeD ρ l).set j none)[i]? = none
    by_cases e : i = j
    · subst e
      rw [List.getElem?_set_self']
      cases (wipeD ρ l)[i]? with
      | none => exact .inr rfl
      | some x => exact .inl rfl
    · rw [List.getElem?_set_ne (Ne.symm e)]
      exact wipeD_gone ρ l i ((List.mem_cons.mp hi).resolve_left e)
variable {K : PySem.W.Frag} {κ : Fr} {τ : List Tm} {vs : List V} {H : Hp}
theorem Stt.wipe {ρ : Env} {σ : St} (vo : vOnly τ) : ∀ (l : List Nat), Stt K κ ρ τ vs σ H → Stt K κ (wipeD ρ l) τ vs (wipe σ l) H
  | [], h => h
  | j :: l, h => by
    have h1 := (Stt.wipe vo l h).drop (i := j)
    obtain ⟨Z, A, B, c, t, g⟩ := h1
    refine ⟨Z, A, B, c.none_set ?_, t.otherσ vo, g⟩
    exact wipeD_gone ρ (j :: l) j List.mem_cons_self
theorem wipe_other {σ : St} {i : Nat} : ∀ {l : List Nat}, i ∉ l → (wipe σ l)[i]? = σ[i]?
  | [], _ => rfl
  | j :: l, h => by
    rw [List.mem_cons, not_or] at h
    show ((wipe σ l).set j none)[i]? = _
    rw [List.getElem?_set_ne (Ne.symm h.1), wipe_other h.2]
/-- slots where nothing is told may hold anything -/
theorem Cells.same_but {H Z : Hp} : ∀ {ρ : Env} {σ σ' : St} {A : List Addr}, Cells K H Z ρ σ A → σ'.length = σ.length → (∀ i : Nat, σ'[i]? ≠ σ[i]? → ρ[i]? = some none) → Cells K H Z ρ σ' A
  | _, _, [], _, .nil, _, _ => .nil
  | _, _, _ :: _, _, .nil, hl, _ => by simp at hl
  | _, _, [], _, .no h, hl, _ => by simp at hl
  | _, _, x :: σ', _, .no h, hl, e => .no (Cells.same_but h (by simpa using hl) fun i q => by simpa using e (i + 1) (by simpa using q))
  | _, _, [], _, .so h1 h, hl, _ => by simp at hl
  | _, _, x :: σ', _, @Cells.so _ _ _ d v _ ρ σ _ h1 h, hl, e => by
    have hx : x = some v := by
      by_cases q : x = some v
      · exact q
      · have := e 0 (by simpa using q)
        simp at this
    subst hx
    exact .so h1 (Cells.same_but h (by simpa using hl) fun i q => by simpa using e (i + 1) (by simpa using q))
theorem Stt.unwipe {ρ : Env} {σ : St} {l : List Nat} (vo : vOnly τ) (h : Stt K κ ρ τ vs (L2.wipe σ l) H) (gn : Gone ρ l) : Stt K κ ρ τ vs σ H := by
  obtain ⟨Z, A, B, c, t, g⟩ := h
  refine ⟨Z, A, B, c.same_but (by rw [wipe_length]) fun i q => ?_, t.otherσ vo, g⟩
  have hi : i ∈ l := by
    by_cases hi : i ∈ l
    · exact hi
    · exact absurd (wipe_other hi).symm q
  rcases gn i hi with z | z
  · exact z
  · exfalso
    have hc := c.length
    rw [wipe_length] at hc
    have h1 : ρ.length ≤ i := List.getElem?_eq_none_iff.mp z
    apply q
    rw [List.getElem?_eq_none_iff.mpr (by omega), List.getElem?_eq_none_iff.mpr (by rw [wipe_length]; omega)]
/-- the marks among the temps taken out, and put in again -/
theorem Tms.unmark {σ : St} : ∀ {τ : List Tm} {vs : List V} {H Z : Hp} {B : List Addr}, Tms K H Z σ τ vs B → ∃ τ' vs', vOnly τ' ∧ Tms K H Z σ τ' vs' B ∧ (∀ H' Z' B', Tms K H' Z' σ τ' vs' B' → Tms K H' Z' σ τ vs B')
  | _, _, _, _, _, .nil => ⟨[], [], trivial, .nil, fun _ _ _ h => h⟩
  | _, _, _, _, _, .v h1 h2 => by
    obtain ⟨τ', vs', vo, t, k⟩ := Tms.unmark h2
    refine ⟨_, _, (show vOnly (.v _ :: τ') from vo), .v h1 t, fun H' Z' B' h => ?_⟩
    cases h with
    | v q1 q2 => exact .v q1 (k _ _ _ q2)
  | _, _, _, _, _, .s h1 h2 => by
    obtain ⟨τ', vs', vo, t, k⟩ := Tms.unmark h2
    exact ⟨τ', vs', vo, t, fun H' Z' B' h => .s h1 (k _ _ _ h)⟩
theorem Stt.unmark {ρ : Env} {σ : St} {ds : List D} {xs : List V} (hl : xs.length = ds.length) (h : Stt K κ ρ (tms ds ++ τ) (xs ++ vs) σ H) : ∃ τ' vs', vOnly τ' ∧ Stt K κ ρ (tms ds ++ τ') (xs ++ vs') σ H ∧
    ∀ ρ' H' (es : List D) (ys : List V), ys.length = es.length → Stt K κ ρ' (tms es ++ τ') (ys ++ vs') σ H' → Stt K κ ρ' (tms es ++ τ) (ys ++ vs) σ H' := by
  obtain ⟨Z, A, B, c, t, g⟩ := h
  obtain ⟨B1, B2, rfl, t1, t2⟩ := t.cut (by rw [tms_len]; exact hl)
  obtain ⟨τ', vs', vo, t', k⟩ := t2.unmark
  refine ⟨τ', vs', vo, ⟨Z, A, _, c, t1.app t', g⟩, fun ρ' H' ds xs hl h => ?_⟩
  obtain ⟨Z', A', B', c', t2, g'⟩ := h
  obtain ⟨B1, B2, rfl, t3, t4⟩ := t2.cut (by rw [tms_len]; exact hl)
  exact ⟨Z', A', _, c', t3.app (k _ _ _ t4), g'⟩
/-- code out of which no exception comes -/
def Out.nox {S α : Type} (o : Out S α) : Out S α := match o with
  | .exc _ _ => .bad
  | o => o
theorem Out.wp_nox {S α : Type} {o : Out S α} {P : α → S → Prop} {E : Exn → S → Prop} (h : o.nox.wp P E) : o.wp P (fun _ _ => False) := by
  cases o with
  | ok a s => exact h
  | exc e s => exact h
  | bad => exact h

def DTs (X : Cx) (W : WX) (ifs : List Expr) (f : Cm Bool) : Prop := PTs X ifs (tDT X.K W f)
theorem PTs.imp {X : Cx} {e : List Expr} {t t' : TT} (h : PTs X e t) (i : ∀ σ H Q, t' σ H Q → t σ H Q) : PTs X e t' := ⟨fun pins s σ H Q I q => h.run pins s σ H Q I (i σ H Q q)⟩
def bYes : Cm Bool := fun ρ => .ok true ρ
theorem DTs.nil : DTs X W [] bYes := PTs.imp pts_nil fun σ H Q ⟨κ, ρ, τ, vs, st, w⟩ => w H st
theorem DTs.one {c : Expr} {f : Cm Bool} (h : DT X W c f) : DTs X W [c] f := pts_one h
def compL (own : List Nat) (g : D → Tg) (t : Cm Bool) (e : Cm Tm) : List D → List D → Env → Out Env (List D)
  | [], acc, ρ => .ok acc ρ
  | d :: ds, acc, ρ => match g d ρ with
    | none => .bad
    | some ρ1 => (t ρ1).nox.bind fun b ρ2 => if b = true then (e ρ2).nox.bind fun r ρ3 => match r with
        | .v r => if acc.length < sizeLine then compL own g t e ds (acc ++ [r]) (wipeD ρ3 own) else .bad
        | _ => .bad
      else compL own g t e ds acc (wipeD ρ2 own)
/-- behind it the slots of the names of its own are forgotten -/
def compEnd (as : List Nat) (s : Src) (acc : List D) : Cm Tm := fun ρ => match s.bk with
  | none => .ok (.v (.lst true acc)) ρ
  | some i => match s.ts with
    | [d] => if hole ρ i = true ∧ i ∉ as then .ok (.v (.lst true acc)) (ρ.set i (some d)) else .bad
    | _ => .bad
def eComp (own : List Nat) (f : Cm Src) (g : D → Tg) (t : Cm Bool) (e : Cm Tm) : Cm Tm := fun ρ => (f ρ).bind fun s ρ1 => (compL own g t e s.ds [] (wipeD ρ1 own)).bind (compEnd own s)
theorem wipe_twice {σ σ2 : St} {own : List Nat} (hl : σ2.length = (L2.wipe σ own).length) (f : Frm as (L2.wipe σ own) σ2) (ha : ∀ i ∈ as, i ∈ own) : L2.wipe σ2 own = L2.wipe σ own := by
  have at_in : ∀ (σ : St) (l : List Nat) (i : Nat), i ∈ l → (L2.wipe σ l)[i]? = if i < σ.length then some none else none := by
    intro σ l
    induction l with
    | nil => intro i h; cases h
    | cons j l ih =>
      intro i h
      show ((L2.wipe σ l).set j none)[i]? = _
      by_cases e : i = j
      · subst e
        rw [List.getElem?_set_self']
        have hw := wipe_length σ l
        by_cases hi : i < σ.length
        · rw [if_pos hi, List.getElem?_eq_getElem (by omega)]; rfl
        · rw [if_neg hi, List.getElem?_eq_none_iff.mpr (by omega)]; rfl
      · rw [List.getElem?_set_ne (Ne.symm e)]
        exact ih i ((List.mem_cons.mp h).resolve_left e)
  apply List.ext_getElem?
  intro i
  by_cases hi : i ∈ own
  · rw [at_in _ _ _ hi, at_in _ _ _ hi]
    rw [wipe_length] at hl
    rw [hl]
  · rw [wipe_other hi, f i fun q => hi (ha i q)]
theorem comp_imp {f : Cm Src} {g : D → Tg} {t : Cm Bool} {e : Cm Tm} {own : List Nat} (ha : ∀ i ∈ as, i ∈ own) {σ : St} {H : Hp} {Q : VK} (h : tD K W false (eComp own f g t e) σ H Q) :
    tLc (tDI K W f) (tDG K as g) (tDT K WF t) (tD K WF q e) own σ H Q := by
  obtain ⟨κ, ρ, τ, vs, st, w⟩ := h
  refine ⟨κ, ρ, τ, vs, st, Out.wp_mono (Out.wp_bind w) (fun s ρ1 w1 J xs H1 hl hbk st1 it => ?_) fun _ _ z => z⟩
  intro D hD
  have hts : xs.length = (tms s.ts).length := by rw [tms_len]; exact hl
  -- the temps without marks; the new list below what is walked
  obtain ⟨τ', vs', vo, st2, remark⟩ := st1.unmark hl
  have st3 : Stt K κ ρ1 (tms s.ts ++ ([.v (.lst true [])] ++ τ')) (xs ++ ([.ref D] ++ vs')) σ (upd H1 D (.lst [])) := Stt.turn (τ1 := [.v (.lst true [])]) (v1 := [.ref D]) rfl hts (Stt.lst (ds := []) (xs := []) st2 rfl hD)
  have von : ∀ acc, vOnly (tms s.ts ++ ([.v (.lst true acc)] ++ τ')) := fun acc => vOnly_tms _ vo
  have st4 := st3.wipe (von []) own
  let P : Out Env (List Dl.D) → Prop := fun o => (o.bind (compEnd own s)).wp (fun t ρ' => ∀ v H', Stt K κ ρ' (t :: τ) (v :: vs) σ H' → (false = true → ρ' = ρ ∧ Same H H') → Q v H') (fun e ρ' => ∀ H' d, Stt K κ ρ' τ vs σ H' → ExOk H' e d → W (.ref e.cls) d σ H')
  refine ⟨fun i m H' => m = s.ds.length - i ∧ i ≤ s.ds.length ∧ ∃ ρ' acc, Gone ρ' own ∧ Stt K κ ρ' (tms s.ts ++ ([.v (.lst true acc)] ++ τ')) (xs ++ ([.ref D] ++ vs')) (L2.wipe σ own) H' ∧ P (compL own g t e (s.ds.drop i) acc ρ'),
    ⟨s.ds.length, by simp, Nat.zero_le _, wipeD ρ1 own, [], wipeD_gone _ _, st4, by rw [List.drop_zero]; exact w1⟩, ?_⟩
  rintro i m H2 ⟨rfl, hi, ρ2, acc, gn, st5, w2⟩
  obtain ⟨ig, is⟩ := it ρ2 _ _ _ H2 st5
  by_cases hlt : i < s.ds.length
  · refine .inr ?_
    have ed : s.ds[i]? = some s.ds[i] := List.getElem?_eq_getElem hlt
    obtain ⟨go, yl⟩ := ig i _ ed
    rw [getElem?_drop_cons ed] at w2
    cases hgd : g s.ds[i] ρ2 with
    | none =>
      unfold compL at w2
      rw [hgd] at w2
      exact w2.elim
    | some ρ3 =>
      unfold compL at w2
      rw [hgd] at w2
      refine ⟨go, fun H' => ∃ ρ' acc, Gone ρ' own ∧ Stt K κ ρ' (tms s.ts ++ ([.v (.lst true acc)] ++ τ')) (xs ++ ([.ref D] ++ vs')) (L2.wipe σ own) H' ∧ P (compL own g t e (s.ds.drop (i + 1)) acc ρ'), fun H' b => ⟨s.ds.length - (i + 1), by omega, rfl, hlt, b⟩, fun x H3 y => ?_⟩
      refine ⟨κ, ρ2, _, _, s.ds[i], ρ3, von acc, yl x H3 y, hgd, fun σ2 H4 l2 f2 st6 => ?_⟩
      have wt := wipe_twice l2 f2 ha
      refine ⟨wt, κ, ρ3, _, _, st6, ?_⟩
      cases htt : t ρ3 with
      | exc ex s' => simp only [htt, Out.nox, Out.bind_bad] at w2; exact w2.elim
      | bad => simp only [htt, Out.nox, Out.bind_bad] at w2; exact w2.elim
      | ok b ρ4 =>
        simp only [htt, Out.nox, Out.bind_ok] at w2
        intro H5 st7
        cases b with
        | false =>
          rw [if_neg Bool.false_ne_true] at w2 ⊢
          have st8 := st7.wipe (von acc) own
          rw [wt] at st8
          exact ⟨wipeD ρ4 own, acc, wipeD_gone _ _, st8, w2⟩
        | true =>
          rw [if_pos rfl] at w2 ⊢
          refine ⟨κ, ρ4, _, _, st7, ?_⟩
          cases hee : e ρ4 with
          | exc ex s' => simp only [hee, Out.nox, Out.bind_bad] at w2; exact w2.elim
          | bad => simp only [hee, Out.nox, Out.bind_bad] at w2; exact w2.elim
          | ok r ρ5 =>
            simp only [hee, Out.nox, Out.bind_ok] at w2
            intro y H6 st8 _
            cases r with
            | s j => exact w2.elim
            | v r =>
              simp only at w2
              by_cases hz : acc.length < sizeLine
              · rw [if_pos hz] at w2
                have a1 : Stt K κ ρ5 ([.v (.lst true acc)] ++ ((.v r :: tms s.ts) ++ τ')) ([.ref D] ++ ((y :: xs) ++ vs')) σ2 H6 := Stt.turn (τ1 := .v r :: tms s.ts) (v1 := y :: xs) (τ2 := [.v (.lst true acc)]) (v2 := [.ref D]) (by simp [hts]) rfl st8
                have a2 : Stt K κ ρ5 ([.v r] ++ ([.v (.lst true acc)] ++ (tms s.ts ++ τ'))) ([y] ++ ([.ref D] ++ (xs ++ vs'))) σ2 H6 := Stt.turn (τ1 := [.v (.lst true acc)]) (v1 := [.ref D]) (τ2 := [.v r]) (v2 := [y]) rfl rfl a1
                obtain ⟨p, ys, ep, hp, hln, a3⟩ := Stt.app (r := r) (ds := acc) a2
                cases ep
                have a4 : Stt K κ ρ5 (tms s.ts ++ ([.v (.lst true (acc ++ [r]))] ++ τ')) (xs ++ ([.ref D] ++ vs')) σ2 (upd H6 D (.lst (ys ++ [y]))) := Stt.turn (τ1 := [.v (.lst true (acc ++ [r]))]) (v1 := [.ref D]) (τ2 := tms s.ts) (v2 := xs) rfl hts a3
                have a5 := a4.wipe (von _) own
                rw [wt] at a5
                exact ⟨ys, hp, by omega, wipeD ρ5 own, acc ++ [r], wipeD_gone _ _, a5, w2⟩
              · rw [if_neg hz] at w2
                exact w2.elim
  · have e : i = s.ds.length := by omega
    subst e
    refine .inl ⟨is, ?_⟩
    rw [List.drop_length] at w2
    have a1 := st5.unwipe (von acc) gn
    have w3 : (compEnd own s acc ρ2).wp (fun t ρ' => ∀ v H', Stt K κ ρ' (t :: τ) (v :: vs) σ H' → (false = true → ρ' = ρ ∧ Same H H') → Q v H') (fun e ρ' => ∀ H' d, Stt K κ ρ' τ vs σ H' → ExOk H' e d → W (.ref e.cls) d σ H') := w2
    unfold compEnd at w3
    split at w3
    · exact w3 _ _ (remark _ _ [.lst true acc] [.ref D] rfl (a1.popN hts)) fun z => nomatch z
    · rename_i j hb
      obtain ⟨x, d, rfl, ed, ex⟩ := hbk j hb
      rw [ed] at w3 a1
      dsimp only at w3
      split at w3
      · rename_i hz
        have a2 := Stt.back (d := d) (v := x) a1 (hole_eq hz.1) ex
        exact w3 _ _ (remark _ _ [.lst true acc] [.ref D] rfl a2) fun z => nomatch z
      · exact w3.elim
theorem DE.comp {scope : Scope} {own : List (Str × Nat)} {f : Cm Src} {g : D → Tg} {t : Cm Bool} {e : Cm Tm} (hc : X.calm = true) (hN : X.N.Nodup) (hi : DI X W tg iter f) (ok : BlkOk X.N X.env.scope scope own) (ha : ∀ i ∈ as, i ∈ own.map (·.2))
    (hg : ∀ (s : Shared) (H : Hp) (C : Addr) (cl : List (Str × Addr)) (fp : List Addr), DG (X.blk s H scope (compEnvC scope cl C X.env) fp) as tg g) (ht : ∀ (s : Shared) (H : Hp) (C : Addr) (cl : List (Str × Addr)) (fp : List Addr), DTs (X.blk s H scope (compEnvC scope cl C X.env) fp) WF ifs t)
    (he : ∀ (s : Shared) (H : Hp) (C : Addr) (cl : List (Str × Addr)) (fp : List Addr), DE (X.blk s H scope (compEnvC scope cl C X.env) fp) WF q elt e) (hs : ∀ x, foldedSetIterable iter X.env x = pure x := by intro _; rfl) :
    DE X W false (.ListComp elt [⟨tg, iter, ifs, 0⟩] scope pos) (eComp (own.map (·.2)) f g t e) :=
  PE.imp (pe_lc (g := tDG X.K as g) (tt := tDT X.K WF t) (te := tD X.K WF q e) hc hN hi ok hg ht he hs) fun _ _ _ h => comp_imp ha h
end
end Dl

set_option linter.all false
set_option maxRecDepth 100000
/-! Dl5: what may be walked: a list, a tuple, a text, a range, pairs of places and items, of two lists' items. -/
namespace Dl
open PySem PySem.Spec PyProof.Rows L2
section
variable {X : Cx} {W : WX} {q q1 q2 : Bool} {tg e a b c : Expr} {f g h : Cm Tm} {pos : Pos} {i : Nat}

/-- a list, a tuple or a text is walked -/
def iAny (K : PySem.W.Frag) (tl : TE) : TI := fun σ H R => tl σ H fun x H1 =>
  (∃ a, x = .ref a ∧ (∃ xs, SqL K H1 a xs) ∧ R (Itl K a) H1) ∨ (∃ a, x = .ref a ∧ (∃ xs, SqT K H1 a xs) ∧ R (Itt K a) H1) ∨ ∃ z, x = .str z ∧ R (Its z) H1
theorem pi_any {l : Expr} {tl : TE} (hl : PE X l tl) : PI X tg l (iAny X.K tl) := by
  refine ⟨fun pins s σ H R I h => thn (hl.run pins s σ H _ I h) fun v s1 ⟨x, H1, I1, r1, alt⟩ => ?_⟩
  rcases alt with ⟨a, ex, ⟨xs, hq⟩, q⟩ | ⟨a, ex, ⟨xs, hq⟩, q⟩ | ⟨z, ex, q⟩
  · subst ex
    obtain rfl : v = Value.ref a := r1
    obtain ⟨its, rv, p, hz⟩ := I1.list hq
    exact wpAny_pyIter_list p.isList (pi_one (tk := s1.toks) I1 _ (turn_list a _) ⟨_, Heap.get?_push_size _ rfl, rfl, rfl⟩ q)
  · subst ex
    obtain rfl : v = Value.ref a := r1
    obtain ⟨its, rv, p, hz⟩ := I1.tuple hq
    exact wpAny_pyIter_tuple (show s1.heap.IsTuple a its.toArray from p) (pi_one (tk := s1.toks) I1 _ (turn_tuple a _) ⟨_, Heap.get?_push_size _ rfl, rfl, rfl⟩ q)
  · subst ex
    obtain ⟨t, rfl⟩ := r1
    cases ha : z.cps.all (· < 128)
    · exact wpAny_pyIter_wide ha (pi_one (tk := s1.toks) I1 _ (turn_str _ z t _ (.inr rfl)) ⟨_, Heap.get?_push_size _ rfl, rfl, rfl⟩ q)
    · exact wpAny_pyIter_ascii ha (pi_one (tk := s1.toks) I1 _ (turn_str _ z t _ (.inl rfl)) ⟨_, Heap.get?_push_size _ rfl, rfl, rfl⟩ q)

section
variable {K : PySem.W.Frag} {κ : Fr} {ρ : List (Option D)} {τ : List Tm} {vs : List V} {σ : L2.St} {H : Hp} {d : D} {v : V}
/-- an item of a shared list, tuple -/
theorem Stt.itemL {ds : List D} (h : Stt K κ ρ (.v (.lst false ds) :: τ) (v :: vs) σ H) : ∃ (a : Addr) (xs : List V), v = .ref a ∧ SqL K H a xs ∧ xs.length = ds.length ∧
    ∀ (i : Nat) (d : D) (x : V), ds[i]? = some d → xs[i]? = some x → Stt K κ ρ (.v d :: (.v (.lst false ds) :: τ)) (x :: (v :: vs)) σ H := by
  obtain ⟨Z, A, B, c, t, g⟩ := h
  cases t with
  | v h1 h2 =>
    cases h1 with
    | shr h3 h4 =>
      refine ⟨_, _, rfl, SqL.of (g.zh _ _ h3), h4.length, fun i d x ed ex => ?_⟩
      obtain ⟨y, C, ey, o, sub⟩ := h4.at ed
      rw [ex] at ey
      cases ey
      have eC : C = [] := List.eq_nil_iff_forall_not_mem.mpr fun a ha => nomatch sub a ha
      subst eC
      exact ⟨Z, A, [] ++ ([] ++ _), c, .v o (.v (.shr h3 h4) h2), g⟩
theorem Stt.itemT {ds : List D} (n : D.owns ds = false) (h : Stt K κ ρ (.v (.tup ds) :: τ) (v :: vs) σ H) : ∃ (a : Addr) (xs : List V), v = .ref a ∧ SqT K H a xs ∧ xs.length = ds.length ∧
    ∀ (i : Nat) (d : D) (x : V), ds[i]? = some d → xs[i]? = some x → Stt K κ ρ (.v d :: (.v (.tup ds) :: τ)) (x :: (v :: vs)) σ H := by
  obtain ⟨Z, A, B, c, t, g⟩ := h
  cases t with
  | v h1 h2 =>
    cases h1 with
    | tup h3 h4 =>
      have e := h4.noown n
      subst e
      refine ⟨_, _, rfl, sqT_keep g.zh h3, h4.length, fun i d x ed ex => ?_⟩
      obtain ⟨y, C, ey, o, sub⟩ := h4.at ed
      rw [ex] at ey
      cases ey
      have eC : C = [] := List.eq_nil_iff_forall_not_mem.mpr fun a ha => nomatch sub a ha
      subst eC
      exact ⟨Z, A, [] ++ ([] ++ _), c, .v o (.v (.tup h3 h4) h2), g⟩
/-- an item of an owned list that holds nothing owned -/
theorem Stt.itemO {ds : List D} (n : D.owns ds = false) (h : Stt K κ ρ (.v (.lst true ds) :: τ) (v :: vs) σ H) : ∃ (a : Addr) (xs : List V), v = .ref a ∧ SqL K H a xs ∧ xs.length = ds.length ∧
    ∀ (i : Nat) (d : D) (x : V), ds[i]? = some d → xs[i]? = some x → Stt K κ ρ (.v d :: (.v (.lst true ds) :: τ)) (x :: (v :: vs)) σ H := by
  obtain ⟨Z, A, B, c, t, g⟩ := h
  cases t with
  | v h1 h2 =>
    cases h1 with
    | lst h3 hz h4 =>
      have e := h4.noown n
      subst e
      refine ⟨_, _, rfl, .of h3, h4.length, fun i d x ed ex => ?_⟩
      obtain ⟨y, C, ey, o, sub⟩ := h4.at ed
      rw [ex] at ey
      cases ey
      have eC : C = [] := List.eq_nil_iff_forall_not_mem.mpr fun a ha => nomatch sub a ha
      subst eC
      exact ⟨Z, A, [] ++ _, c, .v o (.v (.lst h3 hz h4) h2), g⟩
theorem Stt.strV {l : List Nat} (h : Stt K κ ρ (.v (.str l) :: τ) (v :: vs) σ H) : v = .str ⟨l.toArray⟩ := by
  obtain ⟨Z, A, B, c, t, g⟩ := h
  cases t with
  | v h1 h2 => cases h1; rfl
theorem Stt.intV {n : Int} (h : Stt K κ ρ (.v (.int n) :: τ) (v :: vs) σ H) : v = .int n := by
  obtain ⟨Z, A, B, c, t, g⟩ := h
  cases t with
  | v h1 h2 => cases h1; rfl
theorem getElem_of_len {α β : Type} {xs : List α} {ds : List β} (h : xs.length = ds.length) {i : Nat} {d : β} (e : ds[i]? = some d) : ∃ x, xs[i]? = some x := by
  have hi := (List.getElem?_eq_some_iff.mp e).1
  exact ⟨xs[i], List.getElem?_eq_getElem (by omega)⟩
theorem iters_L {ds : List D} {a : Addr} : Iters K κ (Itl K a) [.lst false ds] [.ref a] ds := fun ρ τ vs σ H st => by
  obtain ⟨a', xs, ea, hq, hl, it⟩ := Stt.itemL st
  cases ea
  refine ⟨fun i d ed => ?_, ⟨xs, hq, by omega⟩⟩
  obtain ⟨x, ex⟩ := getElem_of_len hl ed
  refine ⟨⟨xs, x, hq, ex⟩, fun y H' hy => ?_⟩
  obtain ⟨rfl, k⟩ := hy
  exact it i d y ed (k xs hq)
theorem iters_O {ds : List D} (n : D.owns ds = false) {a : Addr} : Iters K κ (Itl K a) [.lst true ds] [.ref a] ds := fun ρ τ vs σ H st => by
  obtain ⟨a', xs, ea, hq, hl, it⟩ := Stt.itemO n st
  cases ea
  refine ⟨fun i d ed => ?_, ⟨xs, hq, by omega⟩⟩
  obtain ⟨x, ex⟩ := getElem_of_len hl ed
  refine ⟨⟨xs, x, hq, ex⟩, fun y H' hy => ?_⟩
  obtain ⟨rfl, k⟩ := hy
  exact it i d y ed (k xs hq)
theorem iters_T {ds : List D} (n : D.owns ds = false) {a : Addr} : Iters K κ (Itt K a) [.tup ds] [.ref a] ds := fun ρ τ vs σ H st => by
  obtain ⟨a', xs, ea, hq, hl, it⟩ := Stt.itemT n st
  cases ea
  refine ⟨fun i d ed => ?_, ⟨xs, hq, by omega⟩⟩
  obtain ⟨x, ex⟩ := getElem_of_len hl ed
  refine ⟨⟨xs, x, hq, ex⟩, fun y H' hy => ?_⟩
  obtain ⟨rfl, k⟩ := hy
  exact it i d y ed (k xs hq)
/-- the items of a walk that are scalars of their place alone -/
theorem iters_fn {J : It} {n : Nat} {fd : Nat → D} {fv : Nat → V} (hg : ∀ i H, i < n → J.go i H) (hy : ∀ i H x H', i < n → J.yld i H x H' → H' = H ∧ x = fv i) (hs : ∀ H, J.stop n H) (o : ∀ i H Z, O K H Z (fd i) (fv i) []) :
    Iters K κ J [] [] ((List.range n).map fd) := fun ρ τ vs σ H st => by
  refine ⟨fun i d ed => ?_, by simpa using hs H⟩
  have hi : i < n := by simpa using (List.getElem?_eq_some_iff.mp ed).1
  have e : d = fd i := by
    rw [List.getElem?_map, List.getElem?_range hi] at ed
    exact (Option.some.inj ed).symm
  subst e
  refine ⟨hg i H hi, fun x H' hx => ?_⟩
  obtain ⟨rfl, rfl⟩ := hy i H x H' hi hx
  exact st.push fun Z => o i _ Z
theorem str_items (l : List Nat) : (l.map fun c => D.str [c]) = (List.range l.length).map fun i => D.str [l.getD i 0] := by
  apply List.ext_getElem?
  intro i
  rw [List.getElem?_map, List.getElem?_map]
  by_cases h : i < l.length
  · rw [List.getElem?_range h, List.getElem?_eq_getElem h]
    simp [List.getD, h]
  · rw [List.getElem?_eq_none (by omega), List.getElem?_eq_none (by simp; omega)]
    rfl
theorem iters_S {l : List Nat} : Iters K κ (Its ⟨l.toArray⟩) [] [] (l.map fun c => .str [c]) := by
  rw [str_items]
  refine iters_fn (fv := fun i => .str ⟨#[l.getD i 0]⟩) (fun i H hi => by simpa [Its] using hi) (fun i H x H' hi hy => ?_) (fun H => by simp [Its]) fun i H Z => .str _
  obtain ⟨rfl, c, ec, rfl⟩ := hy
  refine ⟨rfl, ?_⟩
  have e : l[i]? = some c := by simpa using ec
  simp [List.getD, e]
end

/-- the walk of a value, frozen -/
def srcV (d : D) : Option Src := if d.fz then match d.frz with
  | .lst o l => some ⟨[.lst o l], l, none⟩
  | .tup l => some ⟨[.tup l], l, none⟩
  | .str l => some ⟨[], l.map fun c => .str [c], none⟩
  | _ => none else none
def srcA (f : Cm Tm) : Cm Src := fun ρ => (f ρ).bind fun t ρ1 => match t with
  | .v d => match srcV d with
    | some s => .ok s ρ1
    | none => .bad
  | _ => .bad
theorem frz_lst {d : D} {o : Bool} {l : List D} (h : d.frz = .lst o l) : o = false := by
  cases d <;> simp [D.frz] at h
  exact h.1
theorem frz_owns {d : D} {l : List D} (f : d.fz = true) (h : d.frz = .tup l) : D.owns l = false := by
  have e := D.own_frz d f
  rw [h] at e
  simpa [D.own] using e
theorem DI.any (h : DE X W q e f) : DI X W tg e (srcA f) := by
  refine PI.imp (pi_any h) fun σ H R ⟨κ, ρ, τ, vs, st, w⟩ => ?_
  refine ⟨κ, ρ, τ, vs, st, Out.wp_mono (Out.wp_bind w) (fun t ρ1 w1 v H1 st1 k1 => ?_) fun _ _ z => z⟩
  cases t with
  | s j => exact w1.elim
  | v d =>
    try dsimp only at w1
    cases es : srcV d with
    | none => rw [es] at w1; exact w1.elim
    | some s =>
      rw [es] at w1
      unfold srcV at es
      split at es
      · rename_i hf
        have st2 := st1.frzT hf
        split at es
        · rename_i o l hd
          cases es
          rw [hd] at st2
          obtain rfl := frz_lst hd
          obtain ⟨a, xs, ea, hq, hl, _⟩ := Stt.itemL st2
          subst ea
          exact .inl ⟨a, rfl, ⟨xs, hq⟩, w1 _ [.ref a] H1 rfl (fun _ z => nomatch z) st2 iters_L⟩
        · rename_i l hd
          cases es
          rw [hd] at st2
          have n := frz_owns hf hd
          obtain ⟨a, xs, ea, hq, hl, _⟩ := Stt.itemT n st2
          subst ea
          exact .inr (.inl ⟨a, rfl, ⟨xs, hq⟩, w1 _ [.ref a] H1 rfl (fun _ z => nomatch z) st2 (iters_T n)⟩)
        · rename_i l hd
          cases es
          rw [hd] at st2
          exact .inr (.inr ⟨_, st2.strV, w1 _ [] H1 rfl (fun _ z => nomatch z) st2.pop iters_S⟩)
        · cases es
      · cases es
/-- the owned list of a slot, taken out while it is walked -/
def srcOut (i : Nat) : Cm Src := fun ρ => match (ρ[i]?).join with
  | some (.lst o l) => if D.owns l = false then if o = true then .ok ⟨[.lst true l], l, some i⟩ (ρ.set i none) else .ok ⟨[.lst false l], l, none⟩ ρ else .bad
  | _ => .bad
theorem DI.out (h : PE X e (tVar i)) : DI X W tg e (srcOut i) := by
  refine PI.imp (pi_any h) fun σ H R ⟨κ, ρ, τ, vs, st, w⟩ => ?_
  unfold srcOut at w
  split at w
  · rename_i o l hd
    obtain ⟨x, hx⟩ := st.slot (join_some hd)
    split at w
    · rename_i n
      split at w
      · rename_i ho
        subst ho
        have st2 := st.take (join_some hd) hx
        obtain ⟨a, xs, ea, hq, hl, _⟩ := Stt.itemO n st2
        subst ea
        exact ⟨_, hx, .inl ⟨a, rfl, ⟨xs, hq⟩, w _ [.ref a] H rfl (fun j z => by cases z; exact ⟨_, _, rfl, rfl, hx⟩) st2 (iters_O n)⟩⟩
      · rename_i ho
        have ho' : o = false := by cases o with | true => exact absurd rfl ho | false => rfl
        subst ho'
        have st2 := (st.mark hx).copy (t := .s i) (by exact hd) rfl
        obtain ⟨a, xs, ea, hq, hl, _⟩ := Stt.itemL st2
        subst ea
        exact ⟨_, hx, .inl ⟨a, rfl, ⟨xs, hq⟩, w _ [.ref a] H rfl (fun _ z => nomatch z) st2 iters_L⟩⟩
    · exact w.elim
  · exact w.elim

/-! ### ranges -/
def intsD : List Tm → Option (List Int)
  | [] => some []
  | .v (.int n) :: ts => (intsD ts).map (n :: ·)
  | _ :: _ => none
theorem Stt.ints {K : PySem.W.Frag} {κ : Fr} {ρ : Env} {σ : L2.St} {H : Hp} : ∀ {ts : List Tm} {xs : List V} {τ : List Tm} {vs : List V} {ns : List Int}, xs.length = ts.length → intsD ts = some ns → Stt K κ ρ (ts ++ τ) (xs ++ vs) σ H → xs = ns.map V.int
  | [], [], _, _, _, _, e, _ => by cases e; rfl
  | [], _ :: _, _, _, _, hl, _, _ => by simp at hl
  | .v (.int n) :: ts, x :: xs, _, _, ns, hl, e, h => by
    simp only [intsD, Option.map_eq_some_iff] at e
    obtain ⟨r, e1, rfl⟩ := e
    have e2 := Stt.intV h
    subst e2
    rw [Stt.ints (by simpa using hl) e1 h.pop]
    rfl
  | .v (.int _) :: _, [], _, _, _, hl, _, _ => by simp at hl
  | .s _ :: _, _, _, _, _, _, e, _ => by simp [intsD] at e
  | .v .non :: _, _, _, _, _, _, e, _ => by simp [intsD] at e
  | .v (.bl _) :: _, _, _, _, _, _, e, _ => by simp [intsD] at e
  | .v (.str _) :: _, _, _, _, _, _, e, _ => by simp [intsD] at e
  | .v (.tup _) :: _, _, _, _, _, _, e, _ => by simp [intsD] at e
  | .v (.lst _ _) :: _, _, _, _, _, _, e, _ => by simp [intsD] at e
  | .v (.dic _ _ _) :: _, _, _, _, _, _, e, _ => by simp [intsD] at e
  | .v (.ins _ _ _) :: _, _, _, _, _, _, e, _ => by simp [intsD] at e
  | .v (.cst _) :: _, _, _, _, _, _, e, _ => by simp [intsD] at e
  | .v (.hol _) :: _, _, _, _, _, _, e, _ => by simp [intsD] at e
  | .v (.scr _) :: _, _, _, _, _, _, e, _ => by simp [intsD] at e
/-- small enough; told by no calculation, so that none is tried -/
structure inR (n : Int) : Prop where
  lo : -4611686018427387904 ≤ n
  hi : n < 4611686018427387904
noncomputable instance (n : Int) : Decidable (inR n) := Classical.propDecidable _
theorem inR.two {n : Int} (h : inR n) : -4611686018427387904 ≤ n ∧ n < 4611686018427387904 := ⟨h.lo, h.hi⟩
/-- the numbers of a range -/
def rngD (lo : Int) (n : Nat) : List D := (List.range n).map fun (i : Nat) => .int (lo + (i : Nat))
noncomputable def rng1 (f : Cm (List Tm)) : Cm Src := fun ρ => (f ρ).bind fun ts ρ1 => match intsD ts with
  | some [n] => if inR n then .ok ⟨[], rngD 0 n.toNat, none⟩ ρ1 else .bad
  | _ => .bad
noncomputable def rng2 (f : Cm (List Tm)) : Cm Src := fun ρ => (f ρ).bind fun ts ρ1 => match intsD ts with
  | some [n, m] => if inR n ∧ inR m then .ok ⟨[], rngD n (m - n).toNat, none⟩ ρ1 else .bad
  | _ => .bad
theorem iters_R {K : PySem.W.Frag} {κ : Fr} {lo : Int} {n : Nat} : Iters K κ (Itr lo n) [] [] (rngD lo n) :=
  iters_fn (fd := fun i => .int (lo + (i : Nat))) (fv := fun i => .int (lo + (i : Nat))) (fun i H hi => hi) (fun i H x H' hi hy => hy) (fun H => Nat.le_refl _) fun i H Z => .int _
theorem DI.range1 {fs : Cm (List Tm)} {p : Pos} (hm : X.mg "range" = none) (ha : DA X W q [a] fs) (hg : Gl X "range" := by rfl) (hs : starEach [a] X.env = [(false, eval a X.env)] := by rfl) : DI X W tg (.Call (.Name "range" p) [a] [] pos) (rng1 fs) := by
  refine PI.imp (pi_range1 hg hm ha hs) fun σ H R ⟨κ, ρ, τ, vs, st, w⟩ => ?_
  refine ⟨κ, ρ, τ, vs, st, Out.wp_mono (Out.wp_bind w) (fun ts ρ1 w1 xs H1 hl st1 k1 => ?_) fun _ _ z => z⟩
  try dsimp only at w1
  split at w1
  · rename_i n e
    split at w1
    · rename_i hr
      have ex := st1.ints hl e
      subst ex
      exact ⟨n, rfl, by simpa using hr.lo, by simpa using hr.hi, w1 _ [] H1 rfl (fun _ z => nomatch z) (st1.popN hl) iters_R⟩
    · exact w1.elim
  · exact w1.elim
theorem DI.range2 {fs : Cm (List Tm)} {p : Pos} (hm : X.mg "range" = none) (ha : DA X W q [a, b] fs) (hg : Gl X "range" := by rfl) (hs : starEach [a, b] X.env = [(false, eval a X.env), (false, eval b X.env)] := by rfl) (hs2 : starEach [b] X.env = [(false, eval b X.env)] := by rfl) : DI X W tg (.Call (.Name "range" p) [a, b] [] pos) (rng2 fs) := by
  refine PI.imp (pi_range2 hg hm ha hs hs2) fun σ H R ⟨κ, ρ, τ, vs, st, w⟩ => ?_
  refine ⟨κ, ρ, τ, vs, st, Out.wp_mono (Out.wp_bind w) (fun ts ρ1 w1 xs H1 hl st1 k1 => ?_) fun _ _ z => z⟩
  try dsimp only at w1
  split at w1
  · rename_i n m e
    split at w1
    · rename_i hr
      have ex := st1.ints hl e
      subst ex
      exact ⟨n, m, rfl, ⟨by simpa using hr.1.lo, by simpa using hr.1.hi, by simpa using hr.2.lo, by simpa using hr.2.hi⟩, w1 _ [] H1 rfl (fun _ z => nomatch z) (st1.popN hl) iters_R⟩
    · exact w1.elim
  · exact w1.elim
end
end Dl

set_option linter.all false
set_option maxRecDepth 100000
/-! Dl6: defs and their calls, by data. -/
namespace Dl
open PySem L2
section
variable {K : PySem.W.Frag} {H Z H' Z' : Hp}
theorem DicAt.some {a : Addr} {ks : List D} {xs : List V} (h : DicAt H a ks xs) : ∃ o, H a = some o := let ⟨_, e, _⟩ := h; ⟨_, e⟩
mutual
theorem O.owned : ∀ {d : D} {v : V} {A : List Addr}, O K H Z d v A → ∀ a ∈ A, Z a = none ∧ ∃ o, H a = some o
  | _, _, _, .non, _, h => nomatch h
  | _, _, _, .bl _, _, h => nomatch h
  | _, _, _, .int _, _, h => nomatch h
  | _, _, _, .str _, _, h => nomatch h
  | _, _, _, .cst _, _, h => nomatch h
  | _, _, _, .hol _, _, h => nomatch h
  | _, _, _, .scr _, _, h => nomatch h
  | _, _, _, .tup _ h2, a, h => Os.owned h2 a h
  | _, _, _, .shr _ _, _, h => nomatch h
  | _, _, _, .dsh _ _, _, h => nomatch h
  | _, _, _, .lst h1 h2 h3, a, h => (List.mem_cons.mp h).elim (fun e => by subst e; exact ⟨h2, _, h1⟩) (Os.owned h3 a)
  | _, _, _, .dic h1 h2 h3, a, h => (List.mem_cons.mp h).elim (fun e => by subst e; exact ⟨h2, h1.some⟩) (Os.owned h3 a)
  | _, _, _, .ins h1 h2 h3 h4 h5, a, h => (List.mem_cons.mp h).elim (fun e => by subst e; exact ⟨h2, _, h1⟩) fun h => (List.mem_cons.mp h).elim (fun e => by subst e; exact ⟨h4, _, h3⟩) (Os.owned h5 a)
theorem Os.owned : ∀ {d : List D} {v : List V} {A : List Addr}, Os K H Z d v A → ∀ a ∈ A, Z a = none ∧ ∃ o, H a = some o
  | _, _, _, .nil, _, h => nomatch h
  | _, _, _, .cons h1 h2, a, h => (List.mem_append.mp h).elim (O.owned h1 a) (Os.owned h2 a)
end
end

/-- behind a def: its value and what became of its arguments -/
def Ret (K : PySem.W.Frag) (κ : Fr) (d : D) (ds' : List D) (v : V) (vs : List V) (H' : Hp) : Prop := ∃ Z' B A', O K H' Z' d v B ∧ Os K H' Z' ds' vs A' ∧ Good κ H' Z' (B ++ A')
def RetX (K : PySem.W.Frag) (κ : Fr) (ds' : List D) (vs : List V) (H' : Hp) : Prop := ∃ Z' A', Os K H' Z' ds' vs A' ∧ Good κ H' Z' A'
/-- the promise: f says what comes of the arguments, and what the arguments then are -/
def spD (K : PySem.W.Frag) (n : Nat) (f : List D → Out (List D) D) : Sp := fun vs H Q E => ∃ Z ds A, Os K H Z ds vs A ∧ ds.length = n ∧ Same Z H ∧ A.Nodup ∧
  (f ds).wp (fun d ds' => ∀ v H', Ret K ⟨H, Z, A⟩ d ds' v vs H' → Q v H') (fun e ds' => ∀ H' d, RetX K ⟨H, Z, A⟩ ds' vs H' → ExOk H' e d → E (.ref e.cls) d H')

/-- what became of the arguments: of an owned one what stands in its slot (never stored), any other is as it was -/
def finals (as : List Nat) : Nat → List D → Env → Option (List D)
  | _, [], _ => some []
  | _, _ :: _, [] => none
  | j, d :: ds, c :: ρ => match (if d.own then (if j ∈ as then none else c) else some d) with
    | some x => (finals as (j + 1) ds ρ).map (x :: ·)
    | none => none
def bodyF (nl : Nat) (as : List Nat) (b : Cm Fl) : List D → Out (List D) D := fun ds =>
  match b (ds.map some ++ List.replicate (nl - ds.length) none) with
  | .ok fl ρ => match finals as 0 ds ρ with
    | none => .bad
    | some ds' => match fl with
      | .nx => .ok .non ds'
      | .rt d => .ok d ds'
      | _ => .bad
  | .exc e ρ => match finals as 0 ds ρ with
    | none => .bad
    | some ds' => .exc e ds'
  | .bad => .bad
section
variable {K : PySem.W.Frag} {H Z H' Z' : Hp}
theorem cells_nones : ∀ n, Cells K H Z (List.replicate n none) (List.replicate n none) []
  | 0 => .nil
  | n + 1 => .no (cells_nones n)
theorem cells_start {n : Nat} : ∀ {ds : List D} {vs : List V} {A : List Addr}, Os K H Z ds vs A → Cells K H Z (ds.map some ++ List.replicate n none) (vs.map some ++ List.replicate n none) A
  | _, _, _, .nil => cells_nones n
  | _, _, _, .cons h1 h2 => .so h1 (cells_start h2)
theorem finals_os {as : List Nat} (zz : Same Z Z') : ∀ {ds : List D} {vs : List V} {A : List Addr} {j : Nat} {ρ : Env} {σ : St} {C : List Addr} {ds' : List D}, Os K H Z ds vs A → Cells K H' Z' ρ σ C → finals as j ds ρ = some ds' →
    (∀ i, i + j ∉ as → i < vs.length → σ[i]? = (vs[i]?).map some) → ∃ A', Os K H' Z' ds' vs A' ∧ Sub A' C
  | _, _, _, j, ρ, σ, C, ds', .nil, c, e, _ => by
    unfold finals at e
    cases e
    exact ⟨[], .nil, ⟨C, .refl _⟩⟩
  | _, _, _, j, _, _, C, ds', @Os.cons _ _ _ d v A1 ds vs A2 h1 h2, c, e, fr => by
    have tail : ∀ {c0 ρ0 x σ0}, (∀ i, i + j ∉ as → i < (v :: vs).length → (x :: σ0 : St)[i]? = ((v :: vs)[i]?).map some) → ∀ i, i + (j + 1) ∉ as → i < vs.length → σ0[i]? = (vs[i]?).map some := fun {c0 : Unit} {ρ0 : Unit} {x σ0} fr i hi hl => by
      have := fr (i + 1) (by rw [show i + 1 + j = i + (j + 1) by omega]; exact hi) (by simpa using hl)
      simpa using this
    cases c with
    | nil => unfold finals at e; cases e
    | @no ρ x σ _ c =>
      unfold finals at e
      cases ho : d.own with
      | true => rw [ho] at e; simp at e
      | false =>
        rw [ho] at e
        simp only [Bool.false_eq_true, if_false, Option.map_eq_some_iff] at e
        obtain ⟨r, e1, rfl⟩ := e
        obtain ⟨A', o', s⟩ := finals_os zz h2 c e1 (tail (c0 := ()) (ρ0 := ()) fr)
        have z := h1.noown ho
        subst z
        exact ⟨[] ++ A', .cons (h1.keep zz fun _ q => nomatch q) o', s⟩
    | @so d' v' B ρ σ C2 q1 c =>
      unfold finals at e
      cases ho : d.own with
      | true =>
        rw [ho] at e
        simp only [if_true] at e
        by_cases hj : j ∈ as
        · rw [if_pos hj] at e; cases e
        · rw [if_neg hj] at e
          simp only [Option.map_eq_some_iff] at e
          obtain ⟨r, e1, rfl⟩ := e
          obtain ⟨A', o', s⟩ := finals_os zz h2 c e1 (tail (c0 := ()) (ρ0 := ()) fr)
          have ev := fr 0 (by simpa using hj) (by simp)
          simp at ev
          subst ev
          exact ⟨B ++ A', .cons q1 o', .app .refl s⟩
      | false =>
        rw [ho] at e
        simp only [Bool.false_eq_true, if_false, Option.map_eq_some_iff] at e
        obtain ⟨r, e1, rfl⟩ := e
        obtain ⟨A', o', s⟩ := finals_os zz h2 c e1 (tail (c0 := ()) (ρ0 := ()) fr)
        have z := h1.noown ho
        subst z
        exact ⟨[] ++ A', .cons (h1.keep zz fun _ q => nomatch q) o', s.trans sub_right⟩
end
/-! ### defs that may ask for texts of values: no text is under way around them -/
structure RoomG (k : Nat) (A : Around) : Prop where
  r : Room k A
  g : A.guards = some []
structure FnG (P : Program) (w : World) (K : PySem.W.Frag) (mg : Str → Option Value) (base : Heap) (k : Nat) (f : Addr) (fd : FuncData) (ps : List Str) (sp : Sp) : Prop where
  len : ∀ vs U Q E, sp vs U Q E → vs.length = ps.length
  run : ∀ (A : Around) (outer : List PySem.Env) (t : Shared) (U : Hp) (args : Args) (us : List Value) (vs : List V) (Q : VK) (E : XK), RoomG k A → Env0 P w K mg base A outer t U → BindsTo t fd args (ps.zip us) → Vals vs us → sp vs U Q E →
    codeAny (model P w) A (.call (.ref f) args) (CR (L2.CX P w) outer P w U t Q E) t
theorem FnG.mono {P : Program} {w : World} {K : PySem.W.Frag} {mg : Str → Option Value} {base : Heap} {j k : Nat} {f : Addr} {fd : FuncData} {ps : List Str} {sp : Sp} (F : FnG P w K mg base j f fd ps sp) (h : j ≤ k) : FnG P w K mg base k f fd ps sp :=
  ⟨F.len, fun A outer t U args us vs Q E hr => F.run A outer t U args us vs Q E ⟨hr.r.mono h, hr.g⟩⟩
theorem okG {P : Program} {w : World} {K : PySem.W.Frag} {mg : Str → Option Value} {base : Heap} {x qual : Str} {params : Arguments} {body : List Stmt} {scope : Scope} {dvs : List V} {kws : List (Str × V)} {f : Addr} {fd : FuncData} {N ps : List Str} {k : Nat} {sp : Sp}
    (F : FunD K x qual params body scope dvs kws f fd) (S : FnScope N ps scope) (len : ∀ vs U Q E, sp vs U Q E → vs.length = ps.length)
    (hbody : ∀ (cdv : Value) (A : Around) (outer : List PySem.Env) (t : Shared) (U : Hp) (vs : List V) (Q : VK) (E : XK), RoomG k (A.deeper (PyProof.Rows.envOfC qual scope t.heap.objs.size f cdv)) → sp vs U Q E →
      ∃ T, PSs (cxOf (L2.CX P w) P w K mg base N qual scope f cdv A outer t U E) body T ∧ T { nx := fun _ U' => Q .non U', rt := Q } (L2.start N vs) U) : FnG P w K mg base (k + 1) f fd ps sp := by
  obtain ⟨oc, od, dV, kV, doc, pm, an, cdv, ct, osl, rfl, lk, hcd, _, _⟩ := F.ex
  refine ⟨len, fun A outer t U args us vs Q E hr e0 hb r hsp => ?_⟩
  have hl := len _ _ _ _ hsp
  have KX : K.In t.heap := e0.mod.kin.keeps fun b o e => (e0.bs b o e).1
  have lim : t.heap.NoLimit := e0.mod.nolimit.keeps fun b o e => (e0.bs b o e).1
  have kd : ∀ y ∈ ps.zip us, scope.names.lookup y.1 = some .local ∨ (scope.names.lookup y.1 = some .cell ∧ ((cellsFrom (t.heap.objs.size + 1) scope.names []).lookup y.1).isSome = true) := fun ⟨n, v⟩ hy =>
    (S.par n (List.of_mem_zip hy).1).elim .inl fun q => .inr ⟨q, PySem.W.cellsFrom_some _ _ _ (.inl q)⟩
  refine codeAny_call_function hr.r.depth (KX _ _ lk) rfl S.co S.gen rfl (PySem.W.codeRec_of KX hcd) (hb _ _ _ _ (wpAny_newFunctionEnv_cells S.kind kd fun env he t1 x => ?_))
  subst he
  refine ⟨lim.keeps x.toInCall.keep, codeAny_func ?_⟩
  obtain ⟨T, hT, hq⟩ := hbody cdv A outer t U vs Q E ⟨hr.r.deeper _, hr.g⟩ hsp
  refine wpAny_mono (hT.run [] t1 (L2.start N vs) U _ (inv_start S hr.r.hd e0 hl r x) hq) (fun fl t' hs => ?_) fun e t' hs => hs
  cases fl with
  | ret u =>
    obtain ⟨v, σ', U', J, rv, q⟩ := hs
    exact ⟨v, U', J.os, J.bare, J.base, J.hok, rv, q⟩
  | next =>
    obtain ⟨σ', U', J, q⟩ := hs
    exact ⟨V.non, U', J.os, J.bare, J.base, J.hok, rfl, q⟩
  | brk =>
    obtain ⟨_, _, _, q⟩ := hs
    exact q.elim
  | cont =>
    obtain ⟨_, _, _, q⟩ := hs
    exact q.elim
section
variable {X : Cx} {k : Nat} {f : Addr} {fd : FuncData} {ps : List Str} {sp : Sp} {dvs : List V} {ds : List Value} {E : L2.St → XK} {x : Str} {p pos : Pos} {e : Expr} {es : List Expr} {t : TA}
theorem run_fnG {pins : List (Addr × Obj)} {σ : L2.St} {U : Hp} {s : Shared} {Q : VK} {us : List Value} {vs : List V} (F : FnG X.prog X.w X.K X.mg X.base k f fd ps sp) (hr : RoomG k X.A) (hb : Binds X.K fd ps ds) (hd : Vals dvs ds) (hx : PassesAt (L2.CX X.prog X.w) X σ (E σ))
    (I : Inv X pins σ U s) (r : Vals vs us) (h : sp (vs ++ dvs) U Q (E σ)) : wpAny (model X.prog X.w) X.A (call (.ref f) us) (EP X pins σ Q) X.xe s := by
  have r2 := r.append hd
  have hl : (us ++ ds).length = ps.length := r2.length.symm.trans (F.len _ _ _ _ h)
  refine wpAny_call (codeAny_mono (F.run X.A X.stack s U ⟨us, []⟩ _ _ Q (E σ) hr I.env0 (hb s us I.kIn hl) r2 h) fun z s' hq => ?_)
  cases z with
  | error e => exact hx pins U s e s' I hq
  | ok fl =>
    cases fl with
    | ret u => exact I.after hq
    | next => exact hq.elim
    | brk => exact hq.elim
    | cont => exact hq.elim
theorem pe_callG (F : FnG X.prog X.w X.K X.mg X.base k f fd ps sp) (hr : RoomG k X.A) (hg : Gl X x) (hm : X.mg x = some (.ref f)) (hk : PySem.W.keepIn X.K (.ref f) = true) (hb : Binds X.K fd ps ds) (hd : Vals dvs ds) (hx : ∀ σ, PassesAt (L2.CX X.prog X.w) X σ (E σ))
    (ha : PA X (e :: es) t) (hdb : (x == ("__debug__" : Str)) = false := by decide) (he : starEach (e :: es) X.env = (false, eval e X.env) :: starEach es X.env := by rfl) (hpl : (backTo pos (starEach es X.env)).any (·.1) = false := by rfl) :
    PE X (.Call (.Name x p) (e :: es) [] pos) (tCallSD sp dvs E t) :=
  ⟨fun pins s σ U Q I h => wpAny_Call_Name_kw (ld_glob I hg hm (PySem.W.callWith_K (h₀ := X.base) I.ok.mod.kin hk (thn (ha.run pos pins s σ U _ I h) fun us s1 ⟨vs, U1, I1, r, q⟩ => ⟨I1.kIn, run_fnG F hr hb hd (hx σ) I1 r q⟩) he hpl) hdb)⟩
end
/-- the whole of a def, from its body -/
structure DefAt (P : Program) (w : World) (K : PySem.W.Frag) (mg : Str → Option Value) (base : Heap) (x : Str) (k n : Nat) (dd : List D) (f : List D → Out (List D) D) : Prop where
  ex : ∃ (a : Addr) (fd : FuncData) (ps : List Str) (ds : List Value) (dvs : List V), FnG P w K mg base k a fd ps (spD K n f) ∧ mg x = some (.ref a) ∧ PySem.W.keepIn K (.ref a) = true ∧ Binds K fd ps ds ∧ Vals dvs ds ∧ ∀ H Z, Os K H Z dd dvs []
theorem spD_len {K : PySem.W.Frag} {n : Nat} {f : List D → Out (List D) D} {vs : List V} {H : Hp} {Q : VK} {E : XK} (h : spD K n f vs H Q E) : vs.length = n := by
  obtain ⟨Z, ds, A, o, hl, _⟩ := h
  rw [o.length, hl]
theorem def_mk2 {P : Program} {w : World} {K : PySem.W.Frag} {mg : Str → Option Value} {base : Heap} {x qual : Str} {st : Stmt} {f : Addr} {fd : FuncData} {dvs : List V} {kws : List (Str × V)} {N ps : List Str} {k : Nat} {as : List Nat} {b : Cm Fl}
    (F : FunD K x qual (defArgs st) (defBody st) (defScope st) dvs kws f fd) (S : FnScope N ps (defScope st))
    (hb : ∀ (cd : Value) (A : Around) (outer : List PySem.Env) (t : Shared) (U : Hp) (E : XK), RoomG k (A.deeper (PyProof.Rows.envOfC qual (defScope st) t.heap.objs.size f cd)) →
      DSs (cxOf (L2.CX P w) P w K mg base N qual (defScope st) f cd A outer t U E) (fun cls d _ H => E cls d H) as (defBody st) b) : FnG P w K mg base (k + 1) f fd ps (spD K ps.length (bodyF N.length as b)) := by
  refine okG F S (fun vs H Q E h => spD_len h) fun cdv A outer s H vs Q E hr h => ?_
  obtain ⟨Z, ds, G, o, hl, zh, nd, w⟩ := h
  refine ⟨_, hb cdv A outer s H E hr, ?_⟩
  have hv := o.length
  have own := o.owned
  have hN : L2.start N vs = vs.map some ++ List.replicate (N.length - ds.length) none := by unfold L2.start; rw [hv]
  have st0 : Stt K ⟨H, Z, G⟩ (ds.map some ++ List.replicate (N.length - ds.length) none) [] [] (L2.start N vs) H := by
    rw [hN]
    refine ⟨Z, G, [], cells_start o, .nil, ?_⟩
    rw [List.append_nil]
    exact ⟨nd, zh, Same.refl Z, fun a o e _ => e, fun a ha => ⟨(own a ha).1, (own a ha).2, .inl ha⟩, fun a o e => .inl e⟩
  have fin : ∀ {ρ : Env} {σ' : St} {ds' : List D} {H' Z' : Hp} {C : List Addr}, finals as 0 ds ρ = some ds' → Frm as (L2.start N vs) σ' → Same Z Z' → Cells K H' Z' ρ σ' C → ∃ A', Os K H' Z' ds' vs A' ∧ Sub A' C := fun {ρ σ' ds' H' Z' C} e fm zz c => by
    refine finals_os zz o c e fun i hi hlt => ?_
    rw [fm i (by simpa using hi), hN, List.getElem?_append_left (by simpa using hlt), List.getElem?_map]
  refine ⟨_, _, [], [], trivial, st0, ?_⟩
  unfold bodyF at w
  cases hbb : b (ds.map some ++ List.replicate (N.length - ds.length) none) with
  | bad => rw [hbb] at w; exact w
  | exc e ρ =>
    rw [hbb] at w
    intro σ' H' d fm st1 eo
    cases hf : finals as 0 ds ρ with
    | none => simp only [hf] at w; exact w.elim
    | some ds' =>
      simp only [hf] at w
      obtain ⟨Z', C, B, c, t, g⟩ := st1
      cases t
      rw [List.append_nil] at g
      obtain ⟨A', o', s⟩ := fin hf fm g.z0 c
      exact w H' d ⟨Z', A', o', g.sub s⟩ eo
  | ok fl ρ =>
    rw [hbb] at w
    cases hf : finals as 0 ds ρ with
    | none => simp only [hf] at w; exact w.elim
    | some ds' =>
      simp only [hf] at w
      cases fl with
      | nx =>
        intro σ' H' fm st1
        obtain ⟨Z', C, B, c, t, g⟩ := st1
        cases t
        rw [List.append_nil] at g
        obtain ⟨A', o', s⟩ := fin hf fm g.z0 c
        exact w .non H' ⟨Z', [], A', .non, o', g.sub s⟩
      | rt d =>
        intro v σ' H' fm st1
        obtain ⟨Z', C, B, c, t, g⟩ := st1
        cases t with
        | @v _ _ B1 _ _ B2 h1 h2 =>
          cases h2
          obtain ⟨A', o', s⟩ := fin hf fm g.z0 c
          refine w v H' ⟨Z', B1, A', h1, o', g.sub ?_⟩
          refine Sub.trans (.app .refl s) (.of_perm ?_)
          rw [List.append_nil]
          exact List.perm_append_comm
      | bk => exact w.elim
      | ct => exact w.elim

/-! ### calls -/
/-- the arguments handed over: what is owned leaves its slot -/
def lend : Env → List Tm → Option (List D × Env)
  | ρ, [] => some ([], ρ)
  | ρ, .v d :: ts => (lend ρ ts).map fun p => (d :: p.1, p.2)
  | ρ, .s i :: ts => match (ρ[i]?).join with
    | none => none
    | some d => (lend (if d.own then ρ.set i none else ρ) ts).map fun p => (d :: p.1, p.2)
/-- .. and back -/
def restore : Env → List Tm → List D → List D → Option Env
  | ρ, .v _ :: ts, _ :: ds, _ :: ds' => restore ρ ts ds ds'
  | ρ, .s i :: ts, d :: ds, d' :: ds' => if d.own then (if hole ρ i then restore (ρ.set i (some d')) ts ds ds' else none) else restore ρ ts ds ds'
  | ρ, [], _, _ => some ρ
  | _, _, _, _ => none
def eCall (f : List D → Out (List D) D) (dd : List D) (fs : Cm (List Tm)) : Cm Tm := fun ρ => (fs ρ).bind fun ts ρ1 => match lend ρ1 ts with
  | none => .bad
  | some (ds, ρ2) => match f (ds ++ dd) with
    | .ok d ds' => match restore ρ2 ts ds ds' with
      | some ρ3 => .ok (.v d) ρ3
      | none => .bad
    | .exc e ds' => match restore ρ2 ts ds ds' with
      | some ρ3 => .exc e ρ3
      | none => .bad
    | .bad => .bad
section
variable {K : PySem.W.Frag} {H Z H' Z' : Hp} {σ : St}
theorem lend_os : ∀ {ts : List Tm} {xs : List V} {ρ ρ2 : Env} {A B : List Addr} {ds : List D}, Tms K H Z σ ts xs B → Cells K H Z ρ σ A → lend ρ ts = some (ds, ρ2) →
    ∃ A2 B2, Cells K H Z ρ2 σ A2 ∧ Os K H Z ds xs B2 ∧ (B2 ++ A2).Perm (A ++ B)
  | _, _, ρ, ρ2, A, _, ds, .nil, c, e => by
    unfold lend at e
    cases e
    exact ⟨A, [], c, .nil, by simp⟩
  | _, _, ρ, ρ2, A, _, ds, @Tms.v _ _ _ _ d x B1 τ vs B0 h1 h2, c, e => by
    unfold lend at e
    simp only [Option.map_eq_some_iff] at e
    obtain ⟨⟨ds1, ρ1⟩, e1, e2⟩ := e
    cases e2
    obtain ⟨A2, B2, c2, o2, p⟩ := lend_os h2 c e1
    refine ⟨A2, B1 ++ B2, c2, .cons h1 o2, ?_⟩
    have p1 : (B1 ++ B2 ++ A2).Perm (B1 ++ (A ++ B0)) := by rw [List.append_assoc]; exact p.append_left B1
    refine p1.trans ?_
    rw [← List.append_assoc, ← List.append_assoc]
    exact List.perm_append_comm.append_right B0
  | _, _, ρ, ρ2, A, _, ds, @Tms.s _ _ _ _ i x τ vs B h1 h2, c, e => by
    unfold lend at e
    cases hd : (ρ[i]?).join with
    | none => simp only [hd] at e; cases e
    | some d =>
      simp only [hd, Option.map_eq_some_iff] at e
      obtain ⟨⟨ds1, ρ1⟩, e1, e2⟩ := e
      cases e2
      have hd' := join_some hd
      cases ho : d.own with
      | true =>
        rw [ho, if_pos rfl] at e1
        obtain ⟨v, C, A', ev, o, c', p⟩ := c.take hd'
        rw [h1] at ev
        cases ev
        obtain ⟨A2, B2, c2, o2, p2⟩ := lend_os h2 c' e1
        refine ⟨A2, C ++ B2, c2, .cons o o2, ?_⟩
        rw [List.append_assoc]
        exact (p2.append_left C).trans (by rw [← List.append_assoc]; exact p.append_right B)
      | false =>
        rw [ho, if_neg Bool.false_ne_true] at e1
        obtain ⟨v, C, ev, o, _⟩ := c.at hd'
        rw [h1] at ev
        cases ev
        have z := o.noown ho
        subst z
        obtain ⟨A2, B2, c2, o2, p2⟩ := lend_os h2 c e1
        exact ⟨A2, [] ++ B2, c2, .cons o o2, p2⟩
theorem restore_os : ∀ {ts : List Tm} {xs : List V} {ρ ρ3 : Env} {A B G : List Addr} {ds ds' : List D} {H0 Z0 : Hp}, Tms K H0 Z0 σ ts xs G → Cells K H' Z' ρ σ A → Os K H' Z' ds' xs B → restore ρ ts ds ds' = some ρ3 → ∃ A3, Cells K H' Z' ρ3 σ A3 ∧ Sub A3 (A ++ B)
  | _, _, ρ, ρ3, A, B, _, ds, ds', H0, Z0, .nil, c, o, e => by
    unfold restore at e
    cases e
    exact ⟨A, c, sub_left⟩
  | _, _, ρ, ρ3, A, _, _, ds, _, H0, Z0, .v h1 h2, c, o, e => by
    cases o with
    | cons o1 o2 =>
      cases ds with
      | nil => unfold restore at e; cases e
      | cons d ds =>
        unfold restore at e
        obtain ⟨A3, c3, s⟩ := restore_os h2 c o2 e
        exact ⟨A3, c3, s.trans (.app .refl sub_right)⟩
  | _, _, ρ, ρ3, A, _, _, ds, _, H0, Z0, @Tms.s _ _ _ _ i x τ vs _ h1 h2, c, o, e => by
    cases o with
    | @cons d' v B1 ds' vs B2 o1 o2 =>
      cases ds with
      | nil => unfold restore at e; cases e
      | cons d ds =>
        unfold restore at e
        split at e
        · split at e
          · rename_i hh
            have hn := hole_eq hh
            obtain ⟨A', c', p⟩ := c.back (List.getElem?_eq_some_iff.mp hn).1 hn h1 o1
            obtain ⟨A3, c3, s⟩ := restore_os h2 c' o2 e
            refine ⟨A3, c3, s.trans ?_⟩
            refine .trans (.app (.of_perm p) .refl) (.of_perm ?_)
            rw [List.append_assoc, ← List.append_assoc A]
            have q : (B1 ++ (A ++ B2)).Perm ((A ++ B1) ++ B2) := by
              rw [← List.append_assoc]
              exact List.perm_append_comm.append_right B2
            exact q
          · cases e
        · obtain ⟨A3, c3, s⟩ := restore_os h2 c o2 e
          exact ⟨A3, c3, s.trans (.app .refl sub_right)⟩
/-- a callee's state is good for the caller -/
theorem Good.behind {κ : Fr} {L G : List Addr} {Lc : List Addr} (g : Good κ H Z (G ++ L)) (r : Good ⟨H, Z, G⟩ H' Z' Lc) : (∀ a ∈ L, H' a = H a ∧ Z' a = none) ∧ Good κ H' Z' (L ++ Lc) := by
  have nd := List.nodup_append.mp g.nd
  have gL : ∀ a ∈ L, a ∉ G := fun a ha hg => nd.2.2 a hg a ha rfl
  have kL : ∀ a ∈ L, H' a = H a ∧ Z' a = none := fun a ha => by
    obtain ⟨z, ⟨o, e⟩, _⟩ := g.own a (List.mem_append_right _ ha)
    refine ⟨(r.keep a o e (gL a ha)).trans e.symm, ?_⟩
    cases hz : Z' a with
    | none => rfl
    | some u =>
      rcases r.zn a u hz with q | q | q
      · have q' : Z a = some u := q
        rw [z] at q'; cases q'
      · exact absurd q (gL a ha)
      · have q' : H a = none := q
        rw [e] at q'; cases q'
  have gG : ∀ a ∈ G, a ∈ κ.G ∨ κ.H0 a = none := fun a ha => (g.own a (List.mem_append_left _ ha)).2.2
  refine ⟨kL, ⟨?_, r.zh, fun a o e => r.z0 a o (g.z0 a o e), fun a o e n => ?_, fun a ha => ?_, fun a o e => ?_⟩⟩
  · refine List.nodup_append.mpr ⟨nd.2.1, r.nd, fun a ha b hb e => ?_⟩
    subst e
    obtain ⟨_, ⟨o, e⟩, _⟩ := g.own a (List.mem_append_right _ ha)
    rcases (r.own a hb).2.2 with q | q
    · exact gL a ha q
    · have q' : H a = none := q
      rw [e] at q'; cases q'
  · have e1 := g.keep a o e n
    refine r.keep a o e1 fun hg => ?_
    rcases gG a hg with q | q
    · exact n q
    · rw [e] at q; cases q
  · rcases List.mem_append.mp ha with q | q
    · obtain ⟨z, ⟨o, e⟩, w⟩ := g.own a (List.mem_append_right _ q)
      exact ⟨(kL a q).2, ⟨o, (kL a q).1.trans e⟩, w⟩
    · obtain ⟨z, x, w⟩ := r.own a q
      refine ⟨z, x, ?_⟩
      rcases w with w | w
      · exact gG a w
      · exact h0_or g w
  · rcases r.zn a o e with q | q | q
    · exact g.zn a o q
    · exact .inr (gG a q)
    · exact .inr (h0_or g q)
theorem Stt.call {κ : Fr} {ρ1 ρ2 : Env} {ts τ : List Tm} {xs vs dvs : List V} {ds dd : List D} (hl : xs.length = ts.length) (h : Stt K κ ρ1 (ts ++ τ) (xs ++ vs) σ H) (e : lend ρ1 ts = some (ds, ρ2)) (hd : ∀ H Z, Os K H Z dd dvs []) :
    ∃ Z G, Os K H Z (ds ++ dd) (xs ++ dvs) G ∧ Same Z H ∧ G.Nodup ∧ ds.length = xs.length ∧
      (∀ d ds' v H' ρ3, Ret K ⟨H, Z, G⟩ d ds' v (xs ++ dvs) H' → restore ρ2 ts ds ds' = some ρ3 → Stt K κ ρ3 (.v d :: τ) (v :: vs) σ H') ∧
      (∀ ds' H' ρ3, RetX K ⟨H, Z, G⟩ ds' (xs ++ dvs) H' → restore ρ2 ts ds ds' = some ρ3 → Stt K κ ρ3 τ vs σ H') := by
  obtain ⟨Z, A, B, c, t, g⟩ := h
  obtain ⟨B1, B2, rfl, t1, t2⟩ := t.cut hl
  obtain ⟨A2, G, c2, o, p⟩ := lend_os t1 c e
  have g2 : Good κ H Z (G ++ (A2 ++ B2)) := g.sub (.of_perm (by rw [← List.append_assoc, ← List.append_assoc]; exact p.append_right B2))
  have back : ∀ {ds' : List D} {H' Z' : Hp} {ρ3 : Env} {A' Lc : List Addr}, Os K H' Z' ds' (xs ++ dvs) A' → Good ⟨H, Z, G⟩ H' Z' Lc → restore ρ2 ts ds ds' = some ρ3 → (∀ a ∈ A2 ++ B2, H' a = H a ∧ Z' a = none) → ∃ A3, Cells K H' Z' ρ3 σ A3 ∧ Sub A3 (A2 ++ A') := fun {ds' H' Z' ρ3 A' Lc} o' r e3 k => by
    have hlen : ds'.length = (xs ++ dvs).length := o'.length.symm
    have e4 : ds' = ds'.take xs.length ++ ds'.drop xs.length := (List.take_append_drop _ _).symm
    rw [e4] at o'
    obtain ⟨v1, v2, A3, A4, ev, ea, q1, q2⟩ := o'.split
    have hv1 : v1.length = xs.length := by
      rw [q1.length, List.length_take, hlen, List.length_append]
      omega
    obtain ⟨rfl, rfl⟩ := List.append_inj ev hv1.symm
    subst ea
    have e5 : restore ρ2 ts ds (ds'.take xs.length) = some ρ3 := by
      have gen : ∀ (ts : List Tm) (ρ : Env) (ds a b : List D), ts.length ≤ a.length → restore ρ ts ds (a ++ b) = restore ρ ts ds a := by
        intro ts
        induction ts with
        | nil => intro ρ ds a b _; simp [restore]
        | cons t ts ih =>
          intro ρ ds a b hn
          cases a with
          | nil => simp at hn
          | cons x a =>
            cases ds with
            | nil => cases t <;> simp [restore]
            | cons d ds =>
              cases t with
              | v y => exact ih ρ ds a b (by simpa using hn)
              | s i =>
                simp only [List.cons_append, restore]
                rw [ih _ _ _ _ (by simpa using hn), ih _ _ _ _ (by simpa using hn)]
      rw [← gen ts ρ2 ds (ds'.take xs.length) (ds'.drop xs.length) (by rw [List.length_take, hlen, List.length_append]; omega), List.take_append_drop]
      exact e3
    obtain ⟨A5, c5, s5⟩ := restore_os t1 (c2.keep (fun a o e => r.z0 a o e) fun a ha => k a (List.mem_append_left _ ha)) q1 e5
    exact ⟨A5, c5, s5.trans (.app .refl sub_left)⟩
  refine ⟨Z, G, ?_, g.zh, (List.nodup_append.mp g2.nd).1, o.length.symm, fun d ds' v H' ρ3 r e3 => ?_, fun ds' H' ρ3 r e3 => ?_⟩
  · have q := o.append (hd H Z)
    rw [List.append_nil] at q
    exact q
  · obtain ⟨Z', B, A', o1, o2, r⟩ := r
    obtain ⟨k, g3⟩ := g2.behind r
    obtain ⟨A3, c3, s3⟩ := back o2 r e3 k
    refine ⟨Z', A3, B ++ B2, c3, .v o1 (t2.keep (fun a o e => r.z0 a o e) fun a ha => k a (List.mem_append_right _ ha)), g3.sub ?_⟩
    refine .trans (.app s3 .refl) (.of_perm ?_)
    -- (A2 ++ A') ++ (B ++ B2) ~ (A2 ++ B2) ++ (B ++ A')
    rw [List.append_assoc, List.append_assoc]
    refine List.Perm.append_left A2 ?_
    have p1 : (A' ++ (B ++ B2)).Perm ((B ++ B2) ++ A') := List.perm_append_comm
    refine p1.trans ?_
    rw [← List.append_assoc B2]
    refine List.Perm.trans ?_ (List.perm_append_comm.append_right A')
    exact .refl _
  · obtain ⟨Z', A', o2, r⟩ := r
    obtain ⟨k, g3⟩ := g2.behind r
    obtain ⟨A3, c3, s3⟩ := back o2 r e3 k
    refine ⟨Z', A3, B2, c3, t2.keep (fun a o e => r.z0 a o e) fun a ha => k a (List.mem_append_right _ ha), g3.sub ?_⟩
    refine .trans (.app s3 .refl) (.of_perm ?_)
    rw [List.append_assoc, List.append_assoc]
    exact List.perm_append_comm.append_left A2
end
section
variable {X : Cx} {W : WX} {q : Bool} {x : Str} {k n : Nat} {dd : List D} {f : List D → Out (List D) D} {e : Expr} {es : List Expr} {fs : Cm (List Tm)} {p pos : Pos}
theorem DE.call (F : DefAt X.prog X.w X.K X.mg X.base x k n dd f) (hr : RoomG k X.A) (tk : Takes X W) (ha : DA X W q (e :: es) fs) (hn : (e :: es).length + dd.length = n) (hg : Gl X x := by rfl)
    (hdb : (x == ("__debug__" : Str)) = false := by decide) (he : starEach (e :: es) X.env = (false, eval e X.env) :: starEach es X.env := by rfl) (hpl : (backTo pos (starEach es X.env)).any (·.1) = false := by rfl) :
    DE X W false (.Call (.Name x p) (e :: es) [] pos) (fun ρ => (fs ρ).bind fun ts ρ1 => if ts.length + dd.length = n then eCall f dd (fun ρ => .ok ts ρ) ρ1 else .bad) := by
  obtain ⟨a, fd, ps, ds, dvs, G, mx, kp, b, hv, od⟩ := F.ex
  refine PE.imp (pe_callG (E := WE W) G hr hg mx kp b hv (fun σ => passAt tk σ) ha hdb he hpl) fun σ H Q ⟨κ, ρ, τ, vs, st, w⟩ => ?_
  refine ⟨κ, ρ, τ, vs, st, Out.wp_mono (Out.wp_bind w) (fun ts ρ1 w1 xs H1 hl st1 k1 => ?_) fun e ρ1 z => z⟩
  split at w1
  · rename_i hts
    unfold eCall at w1
    simp only [Out.bind_ok] at w1
    split at w1
    · exact w1.elim
    · rename_i ds0 ρ2 hle
      obtain ⟨Z, G0, o, zh, nd, hdl, kr, kx⟩ := st1.call hl hle od
      refine ⟨Z, ds0 ++ dd, G0, o, by rw [List.length_append, hdl, hl]; exact hts, zh, nd, ?_⟩
      split at w1
      · rename_i d ds' hf
        rw [hf]
        split at w1
        · rename_i ρ3 h3
          exact fun v H' r => w1 v H' (kr d ds' v H' ρ3 r h3) fun z => nomatch z
        · exact w1.elim
      · rename_i e ds' hf
        rw [hf]
        split at w1
        · rename_i ρ3 h3
          exact fun H' d r eo => w1 H' d (kx ds' H' ρ3 r h3) eo
        · exact w1.elim
      · exact w1.elim
  · exact w1.elim
end
end Dl

set_option linter.all false
set_option maxRecDepth 100000
/-! Dl7: operators, comparisons, subscripts, built-ins, by data. -/
namespace Dl
open PySem L2

/-! ### plain data -/
mutual
def D.pl : D → Bool
  | .non => true | .bl _ => true | .int _ => true
  | .str l => PyData.strOk ⟨l.toArray⟩
  | .tup l => D.pls l
  | .lst _ l => D.pls l
  | _ => false
def D.pls : List D → Bool
  | [] => true
  | d :: l => d.pl && D.pls l
end
mutual
def D.P : D → PyData
  | .bl b => .bool b
  | .int i => .int i
  | .str l => .str ⟨l.toArray⟩
  | .tup l => .tuple (D.Ps l)
  | .lst _ l => .list (D.Ps l)
  | _ => .none
def D.Ps : List D → List PyData
  | [] => []
  | d :: l => d.P :: D.Ps l
end
mutual
def D.dep : D → Nat
  | .tup l => D.deps l + 1
  | .lst _ l => D.deps l + 1
  | _ => 0
def D.deps : List D → Nat
  | [] => 0
  | d :: l => max d.dep (D.deps l)
end
section
variable {K : PySem.W.Frag} {κ : Fr} {ρ : List (Option D)} {τ : List Tm} {vs : List V} {σ : St} {H Z : Hp} {a b c d : D} {u v w : V}
mutual
theorem O.dp (zz : Same Z H) : ∀ {d : D} {v : V} {A : List Addr}, O K H Z d v A → d.pl = true → Dp K H v d.P
  | _, _, _, .non, _ => .non
  | _, _, _, .bl b, _ => .bl b
  | _, _, _, .int i, _ => .int i
  | _, _, _, .str l, _ => .str _
  | _, _, _, .cst _, h => by simp [D.pl] at h
  | _, _, _, .hol _, h => by simp [D.pl] at h
  | _, _, _, .scr _, h => by simp [D.pl] at h
  | _, _, _, .tup h1 h2, h => .tup (sqT_keep zz h1) (Os.dp zz h2 (by simpa [D.pl] using h))
  | _, _, _, .shr h1 h2, h => .lst (.of (zz _ _ h1)) (Os.dp zz h2 (by simpa [D.pl] using h))
  | _, _, _, .lst h1 _ h2, h => .lst (.of h1) (Os.dp zz h2 (by simpa [D.pl] using h))
  | _, _, _, .dsh _ _, h => by simp [D.pl] at h
  | _, _, _, .dic _ _ _, h => by simp [D.pl] at h
  | _, _, _, .ins _ _ _ _ _, h => by simp [D.pl] at h
theorem Os.dp (zz : Same Z H) : ∀ {d : List D} {v : List V} {A : List Addr}, Os K H Z d v A → D.pls d = true → DpAll K H v (D.Ps d)
  | _, _, _, .nil, _ => .nil
  | _, _, _, .cons h1 h2, h => by
    simp only [D.pls, Bool.and_eq_true] at h
    exact .cons (O.dp zz h1 h.1) (Os.dp zz h2 h.2)
end
mutual
theorem D.P_lay : ∀ d : D, d.pl = true → d.P.canLay0 = true
  | .non, _ => by simp [D.P, PyData.canLay0]
  | .bl _, _ => by simp [D.P, PyData.canLay0]
  | .int _, _ => by simp [D.P, PyData.canLay0]
  | .str _, h => by simpa [D.P, PyData.canLay0, D.pl] using h
  | .cst _, h => by simp [D.pl] at h
  | .hol _, h => by simp [D.pl] at h
  | .scr _, h => by simp [D.pl] at h
  | .dic _ _ _, h => by simp [D.pl] at h
  | .ins _ _ _, h => by simp [D.pl] at h
  | .tup l, h => by simp only [D.P, PyData.canLay0]; exact D.Ps_lay l (by simpa [D.pl] using h)
  | .lst _ l, h => by simp only [D.P, PyData.canLay0]; exact D.Ps_lay l (by simpa [D.pl] using h)
theorem D.Ps_lay : ∀ l : List D, D.pls l = true → PyData.canLayAll0 (D.Ps l) = true
  | [], _ => by simp only [D.Ps, PyData.canLayAll0]
  | d :: l, h => by
    simp only [D.pls, Bool.and_eq_true] at h
    simp only [D.Ps, PyData.canLayAll0, D.P_lay d h.1, D.Ps_lay l h.2, Bool.and_self]
end
mutual
theorem D.P_depth : ∀ d : D, d.P.depth = d.dep
  | .non => by simp [D.P, PyData.depth, D.dep]
  | .bl _ => by simp [D.P, PyData.depth, D.dep]
  | .int _ => by simp [D.P, PyData.depth, D.dep]
  | .str _ => by simp [D.P, PyData.depth, D.dep]
  | .cst _ => by simp [D.P, PyData.depth, D.dep]
  | .hol _ => by simp [D.P, PyData.depth, D.dep]
  | .scr _ => by simp [D.P, PyData.depth, D.dep]
  | .dic _ _ _ => by simp [D.P, PyData.depth, D.dep]
  | .ins _ _ _ => by simp [D.P, PyData.depth, D.dep]
  | .tup l => by simp only [D.P, PyData.depth, D.dep, D.Ps_depth l]
  | .lst _ l => by simp only [D.P, PyData.depth, D.dep, D.Ps_depth l]
theorem D.Ps_depth : ∀ l : List D, PyData.depthAll (D.Ps l) = D.deps l
  | [] => by simp only [D.Ps, PyData.depthAll, D.deps]
  | d :: l => by simp only [D.Ps, PyData.depthAll, D.deps, D.P_depth d, D.Ps_depth l]
end
theorem shaped_P {d : D} (f : d.pl = true) (h : d.dep ≤ 64) : SeqAt.shaped d.P = true := by
  show (d.P.canLay0 && decide (d.P.depth ≤ 64)) = true
  rw [D.P_lay d f, D.P_depth]
  simpa using h
/-- equal as Python says it -/
def eqD (a b : D) : Bool := PyData.eqv a.P b.P
def eqDs : List D → List D → Bool := fun a b => PyData.eqvAll (D.Ps a) (D.Ps b)

/-! ### a state laid open -/
theorem Stt.opn {t : Tm} (h : Stt K κ ρ (t :: τ) (v :: vs) σ H) (e : Dl.look ρ t = some d) : ∃ Z A B C, Cells K H Z ρ σ A ∧ Tms K H Z σ τ vs B ∧ Good κ H Z (A ++ B) ∧ O K H Z d v C ∧ Same Z H := by
  obtain ⟨Z, A, B, c, t, g⟩ := h
  cases t with
  | v h1 h2 => cases e; exact ⟨Z, A, _, _, c, h2, g.sub (.app .refl sub_right), h1, g.zh⟩
  | @s i _ _ _ _ h1 h2 =>
    obtain ⟨x, C, q, o, _⟩ := c.at (join_some e)
    rw [h1] at q
    cases q
    exact ⟨Z, A, _, C, c, h2, g, o, g.zh⟩
theorem Stt.opn2 {t s : Tm} (h : Stt K κ ρ (t :: s :: τ) (v :: u :: vs) σ H) (e : Dl.look ρ t = some d) (e2 : Dl.look ρ s = some a) :
    ∃ Z A B C C2, Cells K H Z ρ σ A ∧ Tms K H Z σ τ vs B ∧ Good κ H Z (A ++ B) ∧ O K H Z d v C ∧ O K H Z a u C2 ∧ Same Z H := by
  obtain ⟨Z, A, B, c, t, g⟩ := h
  have one : ∀ {t : Tm} {x : V} {d : D} {τ vs B}, Tms K H Z σ (t :: τ) (x :: vs) B → Dl.look ρ t = some d → ∃ C B', O K H Z d x C ∧ Tms K H Z σ τ vs B' ∧ Sub B' B := fun {t x d τ vs B} h e => by
    cases h with
    | v h1 h2 => cases e; exact ⟨_, _, h1, h2, sub_right⟩
    | @s i _ _ _ _ h1 h2 =>
      obtain ⟨x, C, q, o, _⟩ := c.at (join_some e)
      rw [h1] at q
      cases q
      exact ⟨C, _, o, h2, .refl⟩
  obtain ⟨C, B1, o1, t1, s1⟩ := one t e
  obtain ⟨C2, B2, o2, t2, s2⟩ := one t1 e2
  exact ⟨Z, A, B2, C, C2, c, t2, g.sub (.app .refl (s2.trans s1)), o1, o2, g.zh⟩
theorem Stt.mkTup {A B : List Addr} {ds : List D} {xs : List V} {p : Addr} (c : Cells K H Z ρ σ A) (t : Tms K H Z σ τ vs B) (g : Good κ H Z (A ++ B)) (o : Os K H Z ds xs []) (hp : H p = none) :
    Stt K κ ρ (.v (.tup ds) :: τ) (.ref p :: vs) σ (upd H p (.tup xs)) := by
  have h : Stt K κ ρ (tms ds ++ τ) (xs ++ vs) σ H := ⟨Z, A, [] ++ B, c, o.tms t, g⟩
  exact h.tup o.length hp
theorem Stt.mkLst {A B : List Addr} {ds : List D} {xs : List V} {p : Addr} (c : Cells K H Z ρ σ A) (t : Tms K H Z σ τ vs B) (g : Good κ H Z (A ++ B)) (o : Os K H Z ds xs []) (hp : H p = none) :
    Stt K κ ρ (.v (.lst true ds) :: τ) (.ref p :: vs) σ (upd H p (.lst xs)) := by
  have h : Stt K κ ρ (tms ds ++ τ) (xs ++ vs) σ H := ⟨Z, A, [] ++ B, c, o.tms t, g⟩
  exact h.lst o.length hp
theorem Stt.mk {A B : List Addr} (c : Cells K H Z ρ σ A) (t : Tms K H Z σ τ vs B) (g : Good κ H Z (A ++ B)) (o : O K H Z d v []) : Stt K κ ρ (.v d :: τ) (v :: vs) σ H := ⟨Z, A, [] ++ B, c, .v o t, g⟩
theorem Stt.mk0 {A B : List Addr} (c : Cells K H Z ρ σ A) (t : Tms K H Z σ τ vs B) (g : Good κ H Z (A ++ B)) : Stt K κ ρ τ vs σ H := ⟨Z, A, B, c, t, g⟩
/-- a list's items in the heap -/
theorem O.listV {l : List D} {o : Bool} {C : List Addr} (zz : Same Z H) (h : O K H Z (.lst o l) v C) : ∃ p xs, v = .ref p ∧ H p = some (.lst xs) ∧ ∃ C2, Os K H Z l xs C2 := by
  cases h with
  | shr h1 h2 => exact ⟨_, _, rfl, zz _ _ h1, _, h2⟩
  | lst h1 _ h2 => exact ⟨_, _, rfl, h1, _, h2⟩
theorem O.tupV {l : List D} {C : List Addr} (zz : Same Z H) (h : O K H Z (.tup l) v C) : ∃ p xs, v = .ref p ∧ SqT K H p xs ∧ Os K H Z l xs C := by
  cases h with
  | tup h1 h2 => exact ⟨_, _, rfl, sqT_keep zz h1, h2⟩
theorem O.intV {n : Int} {C : List Addr} (h : O K H Z (.int n) v C) : v = .int n := by cases h; rfl
theorem O.strV {n : List Nat} {C : List Addr} (h : O K H Z (.str n) v C) : v = .str ⟨n.toArray⟩ := by cases h; rfl
theorem O.blV {n : Bool} {C : List Addr} (h : O K H Z (.bl n) v C) : v = .bl n := by cases h; rfl
theorem O.nonV {C : List Addr} (h : O K H Z .non v C) : v = .non := by cases h; rfl
theorem Os.nil_of {l : List D} {xs : List V} {C : List Addr} (h : Os K H Z l xs C) (n : D.owns l = false) : Os K H Z l xs [] := by
  have e := h.noown n
  subst e
  exact h

/-! ### operators -/
theorem Op2.or {q : Bool} {r r' : R2} {g g' : D → D → Option D} (h : Op2 K q r g) (h' : Op2 K q r' g') : Op2 K q (fun x y H Q => r x y H Q ∨ r' x y H Q) (fun a b => (g a b).or (g' a b)) := by
  intro κ ρ τ vs σ H ta tb va vb a b c Q st ea eb e k
  cases hg : g a b with
  | some z =>
    simp only [hg, Option.some_or, Option.some.injEq] at e
    exact .inl (h κ ρ τ vs σ H ta tb va vb a b c Q st ea eb (by rw [hg, e]) k)
  | none =>
    simp only [hg, Option.none_or] at e
    exact .inr (h' κ ρ τ vs σ H ta tb va vb a b c Q st ea eb e k)
/-- two whole numbers -/
def gI (C : Int → Int → Bool) (g : Int → Int → Int) : D → D → Option D
  | .int i, .int j => if C i j then some (.int (g i j)) else none
  | _, _ => none
theorem op2_int {C : Int → Int → Bool} {P : Int → Int → Prop} {g : Int → Int → Int} (hC : ∀ i j, C i j = true → P i j) : Op2 K true (rI P fun i j => .int (g i j)) (gI C g) := by
  intro κ ρ τ vs σ H ta tb va vb a b c Q st ea eb e k
  obtain ⟨Z, A, B, C1, C2, cc, tt, gg, o1, o2, zz⟩ := st.opn2 eb ea
  unfold gI at e
  split at e
  · rename_i i j
    split at e
    · rename_i hc
      cases e
      exact ⟨i, j, o2.intV, o1.intV, hC i j hc, k _ H (.mk cc tt gg (.int _)) fun _ => Same.refl H⟩
    · cases e
  · cases e
theorem op2_int0 {g : Int → Int → Int} : Op2 K true (rI0 fun i j => .int (g i j)) (gI (fun _ _ => true) g) := by
  intro κ ρ τ vs σ H ta tb va vb a b c Q st ea eb e k
  obtain ⟨i, j, e1, e2, _, q⟩ := (op2_int (P := fun _ _ => True) (C := fun _ _ => true) (g := g) fun _ _ _ => trivial) κ ρ τ vs σ H ta tb va vb a b c Q st ea eb e k
  exact ⟨i, j, e1, e2, q⟩
def gStr : D → D → Option D
  | .str a, .str b => if a.length + b.length ≤ sizeLine then some (.str (a ++ b)) else none
  | _, _ => none
theorem str_app (a b : List Nat) : ((⟨a.toArray⟩ : Str) ++ (⟨b.toArray⟩ : Str)) = ⟨(a ++ b).toArray⟩ := by
  show (⟨a.toArray ++ b.toArray⟩ : Str) = _
  simp
theorem str_len (a : List Nat) : (⟨a.toArray⟩ : Str).length = a.length := by
  show a.toArray.size = _
  simp
theorem op2_str : Op2 K true (fun x y H Q => ∃ i j, x = .str i ∧ y = .str j ∧ i.length + j.length ≤ sizeLine ∧ Q (.str (i ++ j)) H) gStr := by
  intro κ ρ τ vs σ H ta tb va vb a b c Q st ea eb e k
  obtain ⟨Z, A, B, C1, C2, cc, tt, gg, o1, o2, zz⟩ := st.opn2 eb ea
  unfold gStr at e
  split at e
  · rename_i i j
    split at e
    · rename_i hc
      cases e
      refine ⟨_, _, o2.strV, o1.strV, by rw [str_len, str_len]; exact hc, ?_⟩
      rw [str_app]
      exact k _ H (.mk cc tt gg (.str _)) fun _ => Same.refl H
    · cases e
  · cases e
def gLst : D → D → Option D
  | .lst _ a, .lst _ b => if D.owns a = false ∧ D.owns b = false ∧ a.length + b.length ≤ sizeLine then some (.lst true (a ++ b)) else none
  | _, _ => none
theorem op2_lst : Op2 K true rCat gLst := by
  intro κ ρ τ vs σ H ta tb va vb a b c Q st ea eb e k
  obtain ⟨Z, A, B, C1, C2, cc, tt, gg, o1, o2, zz⟩ := st.opn2 eb ea
  unfold gLst at e
  split at e
  · rename_i o1' a o2' b
    split at e
    · rename_i hc
      cases e
      obtain ⟨p, xs, rfl, hp, D1, q1⟩ := o2.listV zz
      obtain ⟨p2, ys, rfl, hp2, D2, q2⟩ := o1.listV zz
      have r1 := q1.nil_of hc.1
      have r2 := q2.nil_of hc.2.1
      exact ⟨p, p2, xs, ys, rfl, rfl, hp, hp2, by rw [r1.length, r2.length]; exact hc.2.2, fun r hr => k _ _ (.mkLst cc tt gg (r1.append r2) hr) fun _ => Same_new hr⟩
    · cases e
  · cases e
def gTup : D → D → Option D
  | .tup a, .tup b => if D.owns a = false ∧ D.owns b = false ∧ a.length + b.length ≤ sizeLine then some (.tup (a ++ b)) else none
  | _, _ => none
theorem op2_tup : Op2 K true (rCatA K) gTup := by
  intro κ ρ τ vs σ H ta tb va vb a b c Q st ea eb e k
  obtain ⟨Z, A, B, C1, C2, cc, tt, gg, o1, o2, zz⟩ := st.opn2 eb ea
  unfold gTup at e
  split at e
  · rename_i a b
    split at e
    · rename_i hc
      cases e
      have n1 := o2.noown (by simpa [D.own] using hc.1)
      have n2 := o1.noown (by simpa [D.own] using hc.2.1)
      subst n1 n2
      obtain ⟨p, xs, rfl, hp, q1⟩ := id (o2.tupV zz)
      obtain ⟨p2, ys, rfl, hp2, q2⟩ := id (o1.tupV zz)
      refine ⟨p, p2, xs, ys, rfl, rfl, hp, hp2, by rw [q1.length, q2.length]; exact hc.2.2, fun e => ?_, fun _ e => ?_, fun _ _ r hr => k _ _ (.mkTup cc tt gg (q1.append q2) hr) fun _ => Same_new hr⟩
      · subst e
        have ea : a = [] := List.length_eq_zero_iff.mp q1.length.symm
        subst ea
        exact k _ H (.mk cc tt gg o1) fun _ => Same.refl H
      · subst e
        have eb : b = [] := List.length_eq_zero_iff.mp q2.length.symm
        subst eb
        rw [List.append_nil] at k
        exact k _ H (.mk cc tt gg o2) fun _ => Same.refl H
    · cases e
  · cases e
def addD : D → D → Option D := fun a b => (gI (fun _ _ => true) (fun i j => i + j) a b).or ((gStr a b).or ((gLst a b).or (gTup a b)))
theorem op2_add {X : Cx} : OpR X (binaryOp .Add) (fun x y H Q => rI0 (fun i j => .int (i + j)) x y H Q ∨ (∃ i j, x = .str i ∧ y = .str j ∧ i.length + j.length ≤ sizeLine ∧ Q (.str (i ++ j)) H) ∨ rCat x y H Q ∨ rCatA X.K x y H Q) ∧
    Op2 X.K true (fun x y H Q => rI0 (fun i j => .int (i + j)) x y H Q ∨ (∃ i j, x = .str i ∧ y = .str j ∧ i.length + j.length ≤ sizeLine ∧ Q (.str (i ++ j)) H) ∨ rCat x y H Q ∨ rCatA X.K x y H Q) addD :=
  ⟨op_add.or (op_add_str.or (op_cat.or op_catA)), op2_int0.or (op2_str.or (op2_lst.or op2_tup))⟩
end
section
variable {X : Cx} {W : WX} {q q1 q2 : Bool} {a b : Expr} {f g : Cm Tm} {pos : Pos}
theorem DE.add (ha : DE X W q1 a f) (hb : DE X W q2 b g) : DE X W (q1 && q2) (.BinOp a .Add b pos) (e2 addD f g) := DE.bin op2_add.1 op2_add.2 ha hb
def subD : D → D → Option D := gI (fun _ _ => true) (fun i j => i - j)
theorem DE.sub (ha : DE X W q1 a f) (hb : DE X W q2 b g) : DE X W (q1 && q2) (.BinOp a .Sub b pos) (e2 subD f g) := DE.bin op_sub op2_int0 ha hb
def modD : D → D → Option D := gI (fun _ j => j != 0) (fun i j => i.fmod j)
theorem DE.mod (ha : DE X W q1 a f) (hb : DE X W q2 b g) : DE X W (q1 && q2) (.BinOp a .Mod b pos) (e2 modD f g) := DE.bin op_modN (op2_int fun _ _ h => by simpa using h) ha hb
def fdivD : D → D → Option D := gI (fun _ j => j != 0 && decide (j.natAbs < 1073741824)) (fun i j => i.fdiv j)
theorem DE.fdiv (ha : DE X W q1 a f) (hb : DE X W q2 b g) : DE X W (q1 && q2) (.BinOp a .FloorDiv b pos) (e2 fdivD f g) := DE.bin op_fdivN (op2_int (P := CDivN) fun i j h => by unfold CDivN; simpa using h) ha hb
end
end Dl

set_option linter.all false
set_option maxRecDepth 100000
/-! Dl8: more operators; comparisons; subscripts and slices. -/
namespace Dl
open PySem L2
section
variable {K : PySem.W.Frag} {κ : Fr} {ρ : List (Option D)} {τ : List Tm} {vs : List V} {σ : St} {H Z : Hp} {a b c d : D} {u v w : V}
/-- a result that is told by the values' data alone, a scalar -/
theorem op2_pure {r : R2} {g : D → D → Option D} (h : ∀ (Z : Hp) (C1 C2 : List Addr) (σ : St) (H : Hp) (va vb : V) (a b c : D) (Q : VK), Same Z H → O K H Z a va C1 → O K H Z b vb C2 → g a b = some c → ((∀ H', Same H H' → ∀ v, (∀ Z, O K H' Z c v []) → H' = H → Q v H')) → r va vb H Q) : Op2 K true r g := by
  intro κ ρ τ vs σ H ta tb va vb a b c Q st ea eb e k
  obtain ⟨Z, A, B, C1, C2, cc, tt, gg, o1, o2, zz⟩ := st.opn2 eb ea
  exact h Z C2 C1 σ H va vb a b c Q zz o2 o1 e fun H' s v o eh => by subst eh; exact k v _ (.mk cc tt gg (o Z)) fun _ => s
end
section
variable {X : Cx} {W : WX} {q q1 q2 q3 : Bool} {a b c e : Expr} {f g h : Cm Tm} {pos : Pos}

/-! ### products, powers -/
noncomputable def mulI : D → D → Option D := gI (fun i j => @decide ((-18446744073709551616 < i ∧ i < 18446744073709551616) ∨ (-18446744073709551616 < j ∧ j < 18446744073709551616)) (Classical.propDecidable _)) (fun i j => i * j)
theorem op2_mulI {K : PySem.W.Frag} : Op2 K true (rI CMul fun i j => .int (i * j)) mulI := op2_int (P := CMul) fun i j h => by unfold CMul; simpa using h
/-- a text again and again -/
def repL {α : Type} (l : List α) (n : Int) : List α := (List.replicate n.toNat l).flatten
def mulS : D → D → Option D
  | .str l, .int n => if l.length ≤ 4096 ∧ n ≤ 4096 ∧ -4096 ≤ n then some (.str (repL l n)) else none
  | _, _ => none
def rMulS : R2 := fun x y H Q => ∃ (l : List Nat) (n : Int), x = .str ⟨l.toArray⟩ ∧ y = .int n ∧ (l.length ≤ 4096 ∧ n ≤ 4096 ∧ -4096 ≤ n) ∧ Q (.str ⟨(repL l n).toArray⟩) H
theorem fold_rep (l : List Nat) : ∀ (k : Nat) (acc : Array Nat), ((List.replicate k l.toArray).foldl (· ++ ·) acc).toList = acc.toList ++ (List.replicate k l).flatten
  | 0, acc => by simp
  | k + 1, acc => by
    simp only [List.replicate_succ, List.foldl_cons, List.flatten_cons]
    rw [fold_rep l k]
    simp
theorem txt_mul (l : List Nat) (n : Int) : PySem.Txt.mul ⟨l.toArray⟩ n = ⟨(repL l n).toArray⟩ := by
  unfold PySem.Txt.mul repL
  by_cases h1 : n < 1
  · rw [if_pos h1]
    have e : n.toNat = 0 := by omega
    rw [e]
    rfl
  · rw [if_neg h1]
    by_cases h2 : (n == 1 || (⟨l.toArray⟩ : Str).length == 0) = true
    · rw [if_pos h2]
      rw [str_len] at h2
      simp only [Bool.or_eq_true, beq_iff_eq] at h2
      rcases h2 with rfl | h2
      · simp
      · have e : l = [] := List.length_eq_zero_iff.mp h2
        subst e
        simp
    · rw [if_neg h2]
      have e := fold_rep l n.toNat #[]
      simp only [List.nil_append] at e
      have e2 : (List.replicate n.toNat l.toArray).foldl (· ++ ·) #[] = ((List.replicate n.toNat l).flatten).toArray := by
        apply Array.toList_inj.mp
        simpa using e
      show (⟨(List.replicate n.toNat l.toArray).foldl (· ++ ·) #[]⟩ : Str) = _
      rw [e2]
theorem op_mulS : OpR X (binaryOp .Mult) rMulS := by
  intro pins s σ H x y v u Q I rx ry hh
  obtain ⟨l, n, rfl, rfl, ⟨h1, h2, h3⟩, q⟩ := hh
  obtain ⟨t, rfl⟩ := rx
  obtain ⟨t', rfl⟩ := ry
  refine PySem.SB.mul ⟨?_, fun h4 h5 => ?_, fun h4 h5 => ?_⟩ fun t'' k => ?_
  · rw [decide_eq_false (by omega), decide_eq_false (by omega)]; rfl
  · rw [str_len]
    have : (4096 : Int) ≤ (2 ^ 63 - 1) / n := by
      apply (Int.le_ediv_iff_mul_le (by omega)).mpr
      omega
    omega
  · rw [str_len]
    have e : l.length * n.toNat ≤ 4096 * 4096 := Nat.mul_le_mul h1 (by omega)
    unfold Builtin.Str.tooLong
    rw [sizeLine_eq]
    exact decide_eq_false (by omega)
  · rw [txt_mul]
    exact ⟨.str _, H, I.tok _, ⟨_, rfl⟩, q⟩
theorem op2_mulS {K : PySem.W.Frag} : Op2 K true rMulS mulS := op2_pure fun Z C1 C2 σ H va vb a b c Q zz o1 o2 e k => by
  unfold mulS at e
  split at e
  · rename_i l n
    split at e
    · rename_i hc
      cases e
      exact ⟨l, n, o1.strV, o2.intV, hc, k H (Same.refl H) _ (fun Z => .str _) rfl⟩
    · cases e
  · cases e
/-- a list again and again -/
def mulL : D → D → Option D
  | .lst _ l, .int n => if D.owns l = false ∧ -1000000 ≤ n ∧ n ≤ 1000000 ∧ l.length * n.toNat ≤ sizeLine then some (.lst true (repL l n)) else none
  | _, _ => none
section
variable {K : PySem.W.Frag} {H Z : Hp}
theorem Os.rep {l : List D} {xs : List V} (o : Os K H Z l xs []) : ∀ n, Os K H Z (List.replicate n l).flatten (List.replicate n xs).flatten []
  | 0 => .nil
  | n + 1 => by
    simp only [List.replicate_succ, List.flatten_cons]
    exact o.append (Os.rep o n)
end
theorem op2_mulL {K : PySem.W.Frag} : Op2 K true rRep mulL := by
  intro κ ρ τ vs σ H ta tb va vb a b c Q st ea eb e k
  obtain ⟨Z, A, B, C1, C2, cc, tt, gg, o1, o2, zz⟩ := st.opn2 eb ea
  unfold mulL at e
  split at e
  · rename_i o1' l n
    split at e
    · rename_i hc
      cases e
      obtain ⟨p, xs, rfl, hp, D1, q1⟩ := o2.listV zz
      have r1 := q1.nil_of hc.1
      refine ⟨p, n, xs, rfl, o1.intV, hp, by omega, by omega, by rw [r1.length]; exact hc.2.2.2, fun r hr => k _ _ (.mkLst cc tt gg (r1.rep n.toNat) hr) fun _ => Same_new hr⟩
    · cases e
  · cases e
noncomputable def mulD : D → D → Option D := fun a b => (mulI a b).or ((mulS a b).or (mulL a b))
theorem DE.mul (ha : DE X W q1 a f) (hb : DE X W q2 b g) : DE X W (q1 && q2) (.BinOp a .Mult b pos) (e2 mulD f g) := DE.bin (op_mul.or (op_mulS.or op_rep)) (op2_mulI.or (op2_mulS.or op2_mulL)) ha hb
def powD : D → D → Option D := gI (fun i j => decide (0 ≤ j) && decide (j ≤ 1000000) && decide (i.natAbs < 18446744073709551616)) (fun i j => i ^ j.toNat)
theorem DE.pow (ha : DE X W q1 a f) (hb : DE X W q2 b g) : DE X W (q1 && q2) (.BinOp a .Pow b pos) (e2 powD f g) := DE.bin op_pow (op2_int (P := CPow) fun i j h => by unfold CPow; simpa [and_assoc] using h) ha hb
def shlD : D → D → Option D := gI (fun i j => decide (0 ≤ j) && decide (j ≤ 1000000) && decide (i.natAbs < 18446744073709551616)) (fun i j => i * 2 ^ j.toNat)
theorem DE.shl (ha : DE X W q1 a f) (hb : DE X W q2 b g) : DE X W (q1 && q2) (.BinOp a .LShift b pos) (e2 shlD f g) := DE.bin op_shl (op2_int (P := CPow) fun i j h => by unfold CPow; simpa [and_assoc] using h) ha hb
def shrD : D → D → Option D := gI (fun _ j => decide (0 ≤ j)) (fun i j => i / 2 ^ j.toNat)
theorem DE.shr (ha : DE X W q1 a f) (hb : DE X W q2 b g) : DE X W (q1 && q2) (.BinOp a .RShift b pos) (e2 shrD f g) := DE.bin op_shr (op2_int fun _ _ h => by simpa using h) ha hb
def bandD : D → D → Option D := gI (fun _ _ => true) Builtin.bitAnd
theorem DE.band (ha : DE X W q1 a f) (hb : DE X W q2 b g) : DE X W (q1 && q2) (.BinOp a .BitAnd b pos) (e2 bandD f g) := DE.bin op_and op2_int0 ha hb
/-- -a -/
def eNeg (f : Cm Tm) : Cm Tm := fun ρ => (f ρ).bind fun t ρ1 => match look ρ1 t with
  | some (.int n) => .ok (.v (.int (-n))) ρ1
  | _ => .bad
theorem DE.neg (ha : DE X W q a f) : DE X W q (.UnaryOp .USub a pos) (eNeg f) := by
  refine PE.imp (pe_un un_neg ha) fun σ H Q ⟨κ, ρ, τ, vs, st, w⟩ => ?_
  refine ⟨κ, ρ, τ, vs, st, Out.wp_mono (Out.wp_bind w) (fun t ρ1 w1 v H1 st1 k1 => ?_) fun _ _ z => z⟩
  try dsimp only at w1
  split at w1
  · rename_i n hn
    obtain ⟨Z, A, B, C1, cc, tt, gg, o1, zz⟩ := st1.opn hn
    exact ⟨n, o1.intV, w1 _ H1 (.mk cc tt gg (.int _)) k1⟩
  · exact w1.elim

/-! ### comparisons -/
def cI (p : Int → Int → Bool) : D → D → Option D
  | .int i, .int j => some (.bl (p i j))
  | _, _ => none
def cS (p : List Nat → List Nat → Bool) : D → D → Option D
  | .str i, .str j => some (.bl (p i j))
  | _, _ => none
theorem op2_cI {K : PySem.W.Frag} {p : Int → Int → Bool} : Op2 K true (rI0 fun i j => .bl (p i j)) (cI p) := op2_pure fun Z C1 C2 σ H va vb a b c Q zz o1 o2 e k => by
  unfold cI at e
  split at e
  · rename_i i j
    cases e
    exact ⟨i, j, o1.intV, o2.intV, k H (Same.refl H) _ (fun Z => .bl _) rfl⟩
  · cases e
theorem op2_cS {K : PySem.W.Frag} {p : List Nat → List Nat → Bool} : Op2 K true (fun x y H Q => ∃ i j, x = .str i ∧ y = .str j ∧ Q (.bl (p i.cps.toList j.cps.toList)) H) (cS p) := op2_pure fun Z C1 C2 σ H va vb a b c Q zz o1 o2 e k => by
  unfold cS at e
  split at e
  · rename_i i j
    cases e
    exact ⟨_, _, o1.strV, o2.strV, k H (Same.refl H) _ (fun Z => .bl _) rfl⟩
  · cases e
def ltD : D → D → Option D := fun a b => (cI (fun i j => decide (i < j)) a b).or (cS (fun i j => decide (i < j)) a b)
def leD : D → D → Option D := fun a b => (cI (fun i j => decide (i ≤ j)) a b).or (cS (fun i j => !decide (j < i)) a b)
def gtD : D → D → Option D := fun a b => (cI (fun i j => decide (j < i)) a b).or (cS (fun i j => decide (j < i)) a b)
def geD : D → D → Option D := fun a b => (cI (fun i j => decide (j ≤ i)) a b).or (cS (fun i j => !decide (i < j)) a b)
theorem DE.lt (ha : DE X W q1 a f) (hb : DE X W q2 b g) : DE X W (q1 && q2) (.Compare a [.Lt] [b] pos) (e2 ltD f g) := DE.cmp (op_lt.or op_lt_str) (op2_cI.or op2_cS) ha hb (nomark _)
theorem DE.gt (ha : DE X W q1 a f) (hb : DE X W q2 b g) : DE X W (q1 && q2) (.Compare a [.Gt] [b] pos) (e2 gtD f g) := DE.cmp (op_gt.or op_gt_str) (op2_cI.or op2_cS) ha hb (nomark _)
theorem DE.le (ha : DE X W q1 a f) (hb : DE X W q2 b g) : DE X W (q1 && q2) (.Compare a [.LtE] [b] pos) (e2 leD f g) := DE.cmp (op_le.or op_le_str) (op2_cI.or op2_cS) ha hb (nomark _)
theorem DE.ge (ha : DE X W q1 a f) (hb : DE X W q2 b g) : DE X W (q1 && q2) (.Compare a [.GtE] [b] pos) (e2 geD f g) := DE.cmp (op_ge.or op_ge_str) (op2_cI.or op2_cS) ha hb (nomark _)
theorem DT.lt (ha : DE X W q1 a f) (hb : DE X W q2 b g) : DT X W (.Compare a [.Lt] [b] pos) (toB (e2 ltD f g)) := DT.cmp (op_lt.or op_lt_str) (op2_cI.or op2_cS) ha hb (nomark _)
theorem DT.gt (ha : DE X W q1 a f) (hb : DE X W q2 b g) : DT X W (.Compare a [.Gt] [b] pos) (toB (e2 gtD f g)) := DT.cmp (op_gt.or op_gt_str) (op2_cI.or op2_cS) ha hb (nomark _)
theorem DT.le (ha : DE X W q1 a f) (hb : DE X W q2 b g) : DT X W (.Compare a [.LtE] [b] pos) (toB (e2 leD f g)) := DT.cmp (op_le.or op_le_str) (op2_cI.or op2_cS) ha hb (nomark _)
theorem DT.ge (ha : DE X W q1 a f) (hb : DE X W q2 b g) : DT X W (.Compare a [.GtE] [b] pos) (toB (e2 geD f g)) := DT.cmp (op_ge.or op_ge_str) (op2_cI.or op2_cS) ha hb (nomark _)
/-- ==: of scalars by themselves, of anything else as data -/
def scD : D → D → Option Bool
  | .int i, .int j => some (decide (i = j))
  | .str i, .str j => some (decide (i = j))
  | .bl i, .bl j => some (decide (i = j))
  | .non, .non => some true
  | .int _, .str _ => some false
  | .str _, .int _ => some false
  | .int _, .non => some false
  | .non, .int _ => some false
  | .str _, .non => some false
  | .non, .str _ => some false
  | _, _ => none
def eqS (n : Bool) : D → D → Option D := fun a b => (scD a b).map fun k => .bl (k ^^ n)
def deepOk (a b : D) : Prop := a.pl = true ∧ b.pl = true ∧ a.dep ≤ 64 ∧ b.dep ≤ 64
instance (a b : D) : Decidable (deepOk a b) := by unfold deepOk; exact inferInstance
def eqP (n : Bool) : D → D → Option D := fun a b => if deepOk a b then some (.bl (eqD a b ^^ n)) else none
def eqDD (n : Bool) : D → D → Option D := fun a b => (eqS n a b).or (eqP n a b)
theorem str_eq_iff (i j : List Nat) : decide (V.str ⟨i.toArray⟩ = V.str ⟨j.toArray⟩) = decide (i = j) := by
  by_cases h : i = j
  · subst h; simp
  · rw [decide_eq_false h]
    apply decide_eq_false
    intro e
    injection e with e
    injection e with e
    exact h (by simpa using e)
theorem eqS_ok {a b c : D} {n : Bool} {K : PySem.W.Frag} {H Z : Hp} {va vb : V} {C1 C2 : List Addr} (o1 : O K H Z a va C1) (o2 : O K H Z b vb C2) (e : eqS n a b = some c) : scal va vb = true ∧ c = .bl ((decide (va = vb)) ^^ n) := by
  unfold eqS scD at e
  split at e <;> simp only [Option.map_some, Option.map_none, Option.some.injEq, reduceCtorEq] at e
  · rw [o1.intV, o2.intV]; subst e; simp [scal]
  · rw [o1.strV, o2.strV, str_eq_iff]; subst e; simp [scal]
  · rw [o1.blV, o2.blV]; subst e; simp [scal]
  · rw [o1.nonV, o2.nonV]; subst e; simp [scal]
  · rw [o1.intV, o2.strV]; subst e; simp [scal]
  · rw [o1.strV, o2.intV]; subst e; simp [scal]
  · rw [o1.intV, o2.nonV]; subst e; simp [scal]
  · rw [o1.nonV, o2.intV]; subst e; simp [scal]
  · rw [o1.strV, o2.nonV]; subst e; simp [scal]
  · rw [o1.nonV, o2.strV]; subst e; simp [scal]
theorem op2_eqS {K : PySem.W.Frag} : Op2 K true rEq (eqS false) := op2_pure fun Z C1 C2 σ H va vb a b c Q zz o1 o2 e k => by
  obtain ⟨h1, rfl⟩ := eqS_ok o1 o2 e
  exact ⟨h1, by simpa using k H (Same.refl H) (.bl (decide (va = vb))) (fun Z => by simpa using O.bl _) rfl⟩
theorem op2_neS {K : PySem.W.Frag} : Op2 K true rNe (eqS true) := op2_pure fun Z C1 C2 σ H va vb a b c Q zz o1 o2 e k => by
  obtain ⟨h1, rfl⟩ := eqS_ok o1 o2 e
  exact ⟨h1, by simpa using k H (Same.refl H) (.bl (!decide (va = vb))) (fun Z => by simpa using O.bl _) rfl⟩
theorem op2_eqP {K : PySem.W.Frag} : Op2 K true (rEqD K) (eqP false) := op2_pure fun Z C1 C2 σ H va vb a b c Q zz o1 o2 e k => by
  unfold eqP at e
  split at e
  · rename_i hd
    cases e
    exact ⟨a.P, b.P, o1.dp zz hd.1, o2.dp zz hd.2.1, shaped_P hd.1 hd.2.2.1, shaped_P hd.2.1 hd.2.2.2, k H (Same.refl H) _ (fun Z => by simpa [eqD] using O.bl (PyData.eqv a.P b.P)) rfl⟩
  · cases e
theorem op2_neP {K : PySem.W.Frag} : Op2 K true (rNeD K) (eqP true) := op2_pure fun Z C1 C2 σ H va vb a b c Q zz o1 o2 e k => by
  unfold eqP at e
  split at e
  · rename_i hd
    cases e
    exact ⟨a.P, b.P, o1.dp zz hd.1, o2.dp zz hd.2.1, shaped_P hd.1 hd.2.2.1, shaped_P hd.2.1 hd.2.2.2, k H (Same.refl H) _ (fun Z => by simpa [eqD] using O.bl _) rfl⟩
  · cases e
theorem DE.eq (hu : X.A.units + 64 < cLine) (ha : DE X W q1 a f) (hb : DE X W q2 b g) : DE X W (q1 && q2) (.Compare a [.Eq] [b] pos) (e2 (eqDD false) f g) := DE.cmp (op_eq.or (op_eqD hu)) (op2_eqS.or op2_eqP) ha hb (nomark _)
theorem DE.ne (hu : X.A.units + 64 < cLine) (ha : DE X W q1 a f) (hb : DE X W q2 b g) : DE X W (q1 && q2) (.Compare a [.NotEq] [b] pos) (e2 (eqDD true) f g) := DE.cmp (op_ne.or (op_neD hu)) (op2_neS.or op2_neP) ha hb (nomark _)
theorem DT.eq (hu : X.A.units + 64 < cLine) (ha : DE X W q1 a f) (hb : DE X W q2 b g) : DT X W (.Compare a [.Eq] [b] pos) (toB (e2 (eqDD false) f g)) := DT.cmp (op_eq.or (op_eqD hu)) (op2_eqS.or op2_eqP) ha hb (nomark _)
theorem DT.ne (hu : X.A.units + 64 < cLine) (ha : DE X W q1 a f) (hb : DE X W q2 b g) : DT X W (.Compare a [.NotEq] [b] pos) (toB (e2 (eqDD true) f g)) := DT.cmp (op_ne.or (op_neD hu)) (op2_neS.or op2_neP) ha hb (nomark _)
/-- is None -/
def isN (n : Bool) : D → D → Option D := fun a b => match b with
  | .non => match a with
    | .hol _ => none
    | .non => some (.bl (!n))
    | _ => some (.bl n)
  | _ => none
theorem isN_ok {a b c : D} {n : Bool} {K : PySem.W.Frag} {H Z : Hp} {va vb : V} {C1 C2 : List Addr} (o1 : O K H Z a va C1) (o2 : O K H Z b vb C2) (e : isN n a b = some c) : vb = .non ∧ c = .bl ((decide (va = .non)) ^^ n) := by
  unfold isN at e
  split at e
  · refine ⟨o2.nonV, ?_⟩
    cases o1 <;> simp at e <;> first | exact (by subst e; simp) | exact absurd e (by simp)
  · cases e
theorem op2_isN {K : PySem.W.Frag} : Op2 K true (fun x y H Q => y = .non ∧ Q (.bl (decide (x = .non))) H) (isN false) := op2_pure fun Z C1 C2 σ H va vb a b c Q zz o1 o2 e k => by
  obtain ⟨h1, rfl⟩ := isN_ok o1 o2 e
  exact ⟨h1, by simpa using k H (Same.refl H) (.bl (decide (va = .non))) (fun Z => by simpa using O.bl _) rfl⟩
theorem op2_notN {K : PySem.W.Frag} : Op2 K true (fun x y H Q => y = .non ∧ Q (.bl (!decide (x = .non))) H) (isN true) := op2_pure fun Z C1 C2 σ H va vb a b c Q zz o1 o2 e k => by
  obtain ⟨h1, rfl⟩ := isN_ok o1 o2 e
  exact ⟨h1, by simpa using k H (Same.refl H) (.bl (!decide (va = .non))) (fun Z => by simpa using O.bl _) rfl⟩
theorem DE.isN (ha : DE X W q1 a f) (hb : DE X W q2 b g) : DE X W (q1 && q2) (.Compare a [.Is] [b] pos) (e2 (isN false) f g) := DE.cmp op_isN op2_isN ha hb (nomark _)
theorem DE.notN (ha : DE X W q1 a f) (hb : DE X W q2 b g) : DE X W (q1 && q2) (.Compare a [.IsNot] [b] pos) (e2 (Dl.isN true) f g) := DE.cmp op_notN op2_notN ha hb (nomark _)
theorem DT.isN (ha : DE X W q1 a f) (hb : DE X W q2 b g) : DT X W (.Compare a [.Is] [b] pos) (toB (e2 (Dl.isN false) f g)) := DT.cmp op_isN op2_isN ha hb (nomark _)
theorem DT.notN (ha : DE X W q1 a f) (hb : DE X W q2 b g) : DT X W (.Compare a [.IsNot] [b] pos) (toB (e2 (Dl.isN true) f g)) := DT.cmp op_notN op2_notN ha hb (nomark _)
/-- i op j op' k of whole numbers -/
def eChain (p p' : Int → Int → Bool) (f g h : Cm Tm) : Cm Tm := fun ρ => (f ρ).bind fun ta ρ1 => (g ρ1).bind fun tb ρ2 => match look ρ2 ta, look ρ2 tb with
  | some (.int i), some (.int j) => if p i j = true then (h ρ2).bind fun tc ρ3 => match look ρ3 tc with
      | some (.int k) => .ok (.v (.bl (p' j k))) ρ3
      | _ => .bad
    else .ok (.v (.bl false)) ρ2
  | _, _ => .bad
theorem chain_imp {K : PySem.W.Frag} {p p' : Int → Int → Bool} {σ : St} {H : Hp} {Q : VK} (hh : tD K W false (eChain p p' f g h) σ H Q) : tChain (rI0 fun i j => .bl (p i j)) (rI0 fun i j => .bl (p' i j)) (tD K W q1 f) (tD K W q2 g) (tD K W q3 h) σ H Q := by
  obtain ⟨κ, ρ, τ, vs, st, w⟩ := hh
  refine ⟨κ, ρ, τ, vs, st, Out.wp_mono (Out.wp_bind w) (fun ta ρ1 w1 v H1 st1 k1 => ?_) fun _ _ z => z⟩
  refine ⟨κ, ρ1, ta :: τ, v :: vs, st1, Out.wp_mono (Out.wp_bind w1) (fun tb ρ2 w2 u H2 st2 k2 => ?_) fun e ρ2 z H2 d s2 eo => z H2 d s2.pop eo⟩
  try dsimp only at w2
  split at w2
  · rename_i i j ea eb
    obtain ⟨Z, A, B, C1, C2, cc, tt, gg, o1, o2, zz⟩ := st2.opn2 eb ea
    refine ⟨i, j, o2.intV, o1.intV, p i j, rfl, ?_⟩
    by_cases hp : p i j = true
    · rw [if_pos hp] at w2 ⊢
      refine ⟨κ, ρ2, τ, vs, st2.pop2, Out.wp_mono (Out.wp_bind w2) (fun tc ρ3 w3 x H3 st3 k3 => ?_) fun _ _ z => z⟩
      try dsimp only at w3
      split at w3
      · rename_i k ec
        obtain ⟨Z, A, B, C3, cc, tt, gg, o3, zz⟩ := st3.opn ec
        exact ⟨j, k, o1.intV, o3.intV, w3 _ H3 (.mk cc tt gg (.bl _)) fun z => nomatch z⟩
      · exact w3.elim
    · rw [if_neg hp] at w2 ⊢
      exact w2 _ H2 (st2.pop2.pushB _) fun z => nomatch z
  · exact w2.elim
/-- the two forms of a chain of whole numbers: <=, < and <=, <= and <, < -/
def pLt (i j : Int) : Bool := decide (i < j)
def pLe (i j : Int) : Bool := decide (i ≤ j)
theorem DE.chain {o o' : CmpOp} {p p' : Int → Int → Bool} (ho : OpR X (compareOp o) (rI0 fun i j => .bl (p i j))) (ho' : OpR X (compareOp o') (rI0 fun i j => .bl (p' i j))) (ha : DE X W q1 a f) (hb : DE X W q2 b g) (hc : DE X W q3 c h)
    (hm : lastMarks [o, o'] [b, c] = false := by with_unfolding_all rfl) : DE X W false (.Compare a [o, o'] [b, c] pos) (eChain p p' f g h) := PE.imp (pe_chain ho ho' ha hb hc hm) fun _ _ _ hh => chain_imp hh
theorem DT.chain {o o' : CmpOp} {p p' : Int → Int → Bool} (ho : OpR X (compareOp o) (rI0 fun i j => .bl (p i j))) (ho' : OpR X (compareOp o') (rI0 fun i j => .bl (p' i j))) (ha : DE X W q1 a f) (hb : DE X W q2 b g) (hc : DE X W q3 c h)
    (hm : lastMarks [o, o'] [b, c] = false := by with_unfolding_all rfl) : DT X W (.Compare a [o, o'] [b, c] pos) (toB (eChain p p' f g h)) := by
  refine PT.imp (pt_chain ho ho' ha hb hc hm) fun σ H Q ⟨κ, ρ, τ, vs, st, w⟩ => ?_
  show tChain _ _ _ _ _ σ H _
  refine chain_imp ⟨κ, ρ, τ, vs, st, Out.wp_mono (Out.wp_bind w) (fun t ρ1 w1 v H1 st1 k1 => ?_) fun _ _ z => z⟩
  try dsimp only at w1
  split at w1
  · rename_i b
    have e := st1.bl
    subst e
    exact ⟨b, rfl, w1 H1 st1.pop⟩
  · exact w1.elim
theorem pOpLt : OpR X (compareOp .Lt) (rI0 fun i j => .bl (pLt i j)) := op_lt
theorem pOpLe : OpR X (compareOp .LtE) (rI0 fun i j => .bl (pLe i j)) := op_le
end
end Dl

set_option linter.all false
set_option maxRecDepth 100000
/-! Dl9: subscripts, slices, dicts by keys, stores into what a slot owns. -/
namespace Dl
open PySem L2

/-! ### keys -/
def keyEq : D → D → Bool
  | .int i, .int j => decide (i = j)
  | .str i, .str j => decide (i = j)
  | _, _ => false
def D.isKey : D → Bool
  | .int _ => true
  | .str _ => true
  | _ => false
/-- a dict's value at a key -/
def dget : List D → List D → D → Option D
  | k :: ks, v :: vs, x => if keyEq k x then some v else dget ks vs x
  | _, _, _ => none
def dputV : List D → List D → D → D → List D
  | k :: ks, v :: vs, x, y => (if keyEq k x then y else v) :: dputV ks vs x y
  | _, _, _, _ => []
def dhas (ks : List D) (x : D) : Bool := ks.any fun k => keyEq k x
def toKey : D → Key
  | .int i => .inl i
  | .str l => .inr ⟨l.toArray⟩
  | _ => .inl 0
theorem keyD_toKey {d : D} (h : d.isKey = true) : keyD (toKey d) = d := by
  cases d <;> simp [D.isKey] at h <;> simp [toKey, keyD]
theorem toKey_keyD (k : Key) : toKey (keyD k) = k := by
  cases k with
  | inl i => rfl
  | inr x => simp [keyD, toKey]
theorem keyEq_key (k : Key) {d : D} (h : d.isKey = true) : keyEq (keyD k) d = decide (k = toKey d) := by
  cases k with
  | inl i =>
    cases d <;> simp [D.isKey] at h
    · simp [keyD, keyEq, toKey]
    · simp [keyD, keyEq, toKey]
  | inr x =>
    cases d <;> simp [D.isKey] at h
    · simp [keyD, keyEq, toKey]
    · rename_i l
      have e : (x = ⟨l.toArray⟩) ↔ x.cps.toList = l := by
        constructor
        · intro q; rw [q]
        · intro q; subst q; cases x; simp
      simp only [keyD, keyEq, toKey, Sum.inr.injEq, decide_eq_decide]
      exact e.symm
section
variable {K : PySem.W.Frag} {κ : Fr} {ρ : List (Option D)} {τ : List Tm} {vs : List V} {σ : St} {H Z : Hp} {a b c d : D} {u v w : V}
theorem O.keyV {C : List Addr} (h : O K H Z d v C) (k : d.isKey = true) : v = kV (toKey d) := by
  cases h <;> simp [D.isKey] at k <;> rfl
theorem dget_kvs {k : D} (hk : k.isKey = true) : ∀ {kvs : List (Key × V)} {ds : List D} {C : List Addr}, Os K H Z ds (kvs.map Prod.snd) C →
    match dget (kvs.map fun p => keyD p.1) ds k with
    | some d => ∃ v C', valV kvs (toKey k) = some v ∧ O K H Z d v C' ∧ ∀ a ∈ C', a ∈ C
    | none => valV kvs (toKey k) = none
  | [], ds, C, h => by simp [dget, valV]
  | (k', x) :: kvs, _, _, .cons h1 h2 => by
    simp only [List.map_cons, dget]
    rw [keyEq_key _ hk]
    by_cases e : k' = toKey k
    · simp only [decide_eq_true e, if_true]
      exact ⟨x, _, valV_pos e, h1, fun a q => List.mem_append_left _ q⟩
    · simp only [decide_eq_false e, Bool.false_eq_true, if_false]
      have ih := dget_kvs hk h2
      rw [valV_neg e]
      split at ih
      · obtain ⟨v, C', q1, q2, q3⟩ := ih
        exact ⟨v, C', q1, q2, fun a q => List.mem_append_right _ (q3 a q)⟩
      · exact ih
theorem dhas_kvs {k : D} (hk : k.isKey = true) (kvs : List (Key × V)) : dhas (kvs.map fun p => keyD p.1) k = (valV kvs (toKey k)).isSome := by
  rw [← valV_any]
  unfold dhas
  rw [List.any_map]
  congr 1
  funext p
  exact keyEq_key _ hk
/-- a dict in the heap -/
theorem O.dicV {ks vs : List D} {o : Bool} {C : List Addr} (zz : Same Z H) (h : O K H Z (.dic o ks vs) v C) : ∃ p kvs, v = .ref p ∧ H p = some (.dK kvs) ∧ ks = kvs.map (fun p => keyD p.1) ∧ ∃ C2, Os K H Z vs (kvs.map Prod.snd) C2 := by
  cases h with
  | dsh h1 h2 =>
    obtain ⟨kvs, e1, e2, e3⟩ := h1
    subst e3
    exact ⟨_, kvs, rfl, zz _ _ e1, e2, _, h2⟩
  | dic h1 _ h2 =>
    obtain ⟨kvs, e1, e2, e3⟩ := h1
    subst e3
    exact ⟨_, kvs, rfl, e1, e2, _, h2⟩
end

/-! ### a[b] -/
/-- an item that is not owned -/
def plainD (d : Option D) : Option D := d.bind fun d => if d.own then none else some d
def ixD : D → D → Option D
  | .lst _ l, .int i => plainD (atI l i)
  | .tup l, .int i => plainD (atI l i)
  | .str l, .int i => if l.length ≤ sizeLine then (atI l i).map fun c => .str [c] else none
  | .dic _ ks vs, k => if k.isKey then plainD (dget ks vs k) else none
  | _, _ => none
theorem atI_map {α β : Type} {xs : List α} {ds : List β} {i : Int} {d : β} (hl : xs.length = ds.length) (h : atI ds i = some d) : ∃ (j : Nat) (x : α), ds[j]? = some d ∧ xs[j]? = some x ∧ atI xs i = some x := by
  unfold atI at h ⊢
  rw [hl]
  obtain ⟨j, e1, e2⟩ := Option.bind_eq_some_iff.mp h
  have hj := (List.getElem?_eq_some_iff.mp e2).1
  have hx : xs[j]? = some (xs[j]'(by omega)) := List.getElem?_eq_getElem (by omega)
  exact ⟨j, _, e2, hx, by rw [e1]; exact hx⟩
section
variable {X : Cx} {W : WX} {q q1 q2 q3 : Bool} {a b c e : Expr} {f g h : Cm Tm} {pos : Pos}
def rDk (K : PySem.W.Frag) : R2 := fun x y H Q => ∃ (p : Addr) (kvs : List (Key × V)) (k : Key) (v : V), x = .ref p ∧ y = kV k ∧ H p = some (.dK kvs) ∧ valV kvs k = some v ∧ Q v H
open PyProof.Rows in
theorem ix_dk (hu : X.A.units + 1 < cLine) : IxR X (rDk X.K) := by
  intro value slice pins s σ H x y v u Q I rx ry hh hs
  obtain ⟨p, kvs, k, z, rfl, rfl, hp, hv, q⟩ := hh
  cases rx
  have g : DGet H p (kV k) (some z) := by rw [← hv]; exact .k hp
  have hT := dict_typeIs I g
  unfold PyProof.Rows.subscriptTail
  refine wpAny_bind ?_
  rw [getitemInPython_of_ne hT.not_modules]
  have fin : wpAny (model X.prog X.w) X.A (subscripted slice false (.ref p) u) (fun r s3 => wpAny (model X.prog X.w) X.A (letTemporaryGo value (.ref p) r >>= fun _ => pure r) (EP X pins σ Q) X.xe s3) X.xe s := by
    rw [hs]
    exact wpAny_operating (d_getItem hu I g ry fun w' s3 I3 rw' => wpAny_bind (wpAny_letTemporaryGo (wpAny_pure ⟨z, H, I3, rw', q⟩)))
  refine wpAny_bind (wpAny_specialOf hT PySem.F.slot_dict_getitem.lookup ?_)
  first
    | exact wpAny_pure (wpAny_bind fin)
    | exact wpAny_bind (wpAny_pure (wpAny_bind fin))
    | exact wpAny_bind fin
theorem op2_ix {K : PySem.W.Frag} : Op2 K true (fun x y H Q => rIx K x y H Q ∨ rDk K x y H Q) ixD := by
  intro κ ρ τ vs σ H ta tb va vb a b c Q st ea eb e k
  obtain ⟨Z, A, B, C1, C2, cc, tt, gg, o1, o2, zz⟩ := st.opn2 eb ea
  have take : ∀ {o : Option D}, plainD o = some c → o = some c ∧ c.own = false := fun {o} h => by
    unfold plainD at h
    obtain ⟨d, h1, h2⟩ := Option.bind_eq_some_iff.mp h
    split at h2
    · cases h2
    · rename_i n
      cases h2
      exact ⟨h1, by simpa using n⟩
  unfold ixD at e
  split at e
  · rename_i o l i
    obtain ⟨e1, n⟩ := take e
    obtain ⟨p, xs, rfl, hp, D1, q1⟩ := o2.listV zz
    obtain ⟨j, x, ed, ex, ei⟩ := atI_map q1.length e1
    obtain ⟨y, C, ey, oy, _⟩ := q1.at ed
    rw [ex] at ey
    cases ey
    have z := oy.noown n
    subst z
    exact .inl (.inl ⟨p, xs, i, x, rfl, o1.intV, .of hp, ei, k _ H (.mk cc tt gg oy) fun _ => Same.refl H⟩)
  · rename_i l i
    obtain ⟨e1, n⟩ := take e
    obtain ⟨p, xs, rfl, hp, q1⟩ := o2.tupV zz
    obtain ⟨j, x, ed, ex, ei⟩ := atI_map q1.length e1
    obtain ⟨y, C, ey, oy, _⟩ := q1.at ed
    rw [ex] at ey
    cases ey
    have z := oy.noown n
    subst z
    exact .inl (.inr (.inl ⟨p, xs, i, x, rfl, o1.intV, hp, ei, k _ H (.mk cc tt gg oy) fun _ => Same.refl H⟩))
  · rename_i l i
    split at e
    · rename_i hz
      obtain ⟨ch, e1, rfl⟩ := Option.map_eq_some_iff.mp e
      exact .inl (.inr (.inr ⟨_, i, ch, o2.strV, o1.intV, by rw [str_len]; exact hz, by simpa using e1, k _ H (.mk cc tt gg (.str [ch])) fun _ => Same.refl H⟩))
    · cases e
  · rename_i o ks ds
    split at e
    · rename_i hk
      obtain ⟨e1, n⟩ := take e
      obtain ⟨p, kvs, rfl, hp, rfl, D1, q1⟩ := o2.dicV zz
      have g := dget_kvs hk q1
      rw [e1] at g
      obtain ⟨x, C', ex, ox, _⟩ := g
      have z := ox.noown n
      subst z
      exact .inr ⟨p, kvs, toKey _, x, rfl, o1.keyV hk, hp, ex, k _ H (.mk cc tt gg ox) fun _ => Same.refl H⟩
    · cases e
  · cases e
theorem DE.ix (hu : X.A.units + 1 < cLine) (ha : DE X W q1 a f) (hb : DE X W q2 b g) (hs : PlainIx b := by intro _ _; rfl) : DE X W (q1 && q2) (.Subscript a b pos) (e2 ixD f g) :=
  PE.imp (pe_ix (ix_seq.or (ix_dk hu)) ha hb hs) fun _ _ _ h => e2_imp op2_ix h

/-! ### slices -/
/-- a part of a slice -/
def tDO (K : PySem.W.Frag) (W : WX) (q : Bool) (f : Cm (Option Int)) : TO := fun σ H Q => ∃ κ ρ τ vs, Stt K κ ρ τ vs σ H ∧
  (f ρ).wp (fun o ρ' => ∀ H', Stt K κ ρ' τ vs σ H' → (q = true → ρ' = ρ ∧ Same H H') → Q o H') (fun e ρ' => ∀ H' d, Stt K κ ρ' τ vs σ H' → ExOk H' e d → W (.ref e.cls) d σ H')
def DO (X : Cx) (W : WX) (q : Bool) (e : Option Expr) (f : Cm (Option Int)) : Prop := PO X e (tDO X.K W q f)
theorem PO.imp {X : Cx} {e : Option Expr} {t t' : TO} (h : PO X e t) (i : ∀ σ H Q, t' σ H Q → t σ H Q) : PO X e t' := ⟨fun pins s σ H Q I q => h.run pins s σ H Q I (i σ H Q q)⟩
def oNone : Cm (Option Int) := fun ρ => .ok none ρ
def oSome (f : Cm Tm) : Cm (Option Int) := fun ρ => (f ρ).bind fun t ρ1 => match look ρ1 t with
  | some (.int n) => .ok (some n) ρ1
  | _ => .bad
theorem DO.none : DO X W true none oNone := PO.imp po_none fun σ H Q ⟨κ, ρ, τ, vs, st, w⟩ => w H st fun _ => ⟨rfl, Same.refl H⟩
theorem DO.some (h : DE X W q e f) : DO X W q (some e) (oSome f) := by
  refine PO.imp (po_some h) fun σ H Q ⟨κ, ρ, τ, vs, st, w⟩ => ?_
  refine ⟨κ, ρ, τ, vs, st, Out.wp_mono (Out.wp_bind w) (fun t ρ1 w1 v H1 st1 k1 => ?_) fun _ _ z => z⟩
  try dsimp only at w1
  split at w1
  · rename_i n hn
    obtain ⟨Z, A, B, C1, cc, tt, gg, o1, zz⟩ := st1.opn hn
    exact ⟨n, o1.intV, w1 H1 st1.pop k1⟩
  · exact w1.elim
def cutL {α : Type} (l : List α) (lo hi : Option Int) : List α := (l.drop (HT.sIx l.length 0 lo)).take (HT.sIx l.length l.length hi - HT.sIx l.length 0 lo)
def slD (d : D) (lo hi : Option Int) : Option D := match d with
  | .str l => if l.length ≤ sizeLine then some (.str (cutL l lo hi)) else none
  | .lst _ l => if D.owns l then none else some (.lst true (cutL l lo hi))
  | .tup l => if D.owns l then none else some (.tup (cutL l lo hi))
  | .scr l => some (.lst true ((cutL l lo hi).map .int))
  | _ => none
def eSl (f : Cm Tm) (lo hi : Cm (Option Int)) : Cm Tm := fun ρ => (f ρ).bind fun t ρ1 => (lo ρ1).bind fun l ρ2 => (hi ρ2).bind fun h ρ3 => match look ρ3 t with
  | some d => match slD d l h with
    | some r => .ok (.v r) ρ3
    | none => .bad
  | none => .bad
section
variable {K : PySem.W.Frag} {H Z : Hp}
theorem Os.drop : ∀ {l : List D} {xs : List V} (n : Nat), Os K H Z l xs [] → Os K H Z (l.drop n) (xs.drop n) []
  | _, _, 0, h => by simpa using h
  | [], _, n + 1, h => by cases h; simpa using .nil
  | d :: l, _, n + 1, h => by
    generalize hA : ([] : List Addr) = A at h
    cases h with
    | cons h1 h2 =>
      have e := (List.append_eq_nil_iff.mp hA.symm)
      rw [e.2] at h2
      rw [← hA]
      simpa using Os.drop n h2
theorem Os.take : ∀ {l : List D} {xs : List V} (n : Nat), Os K H Z l xs [] → Os K H Z (l.take n) (xs.take n) []
  | _, _, 0, h => by simpa using .nil
  | [], _, n + 1, h => by cases h; simpa using .nil
  | d :: l, _, n + 1, h => by
    generalize hA : ([] : List Addr) = A at h
    cases h with
    | cons h1 h2 =>
      have e := (List.append_eq_nil_iff.mp hA.symm)
      rw [e.1] at h1
      rw [e.2] at h2
      rw [← hA]
      simpa using Os.cons h1 (Os.take n h2)
theorem Os.cut {l : List D} {xs : List V} (lo hi : Option Int) (h : Os K H Z l xs []) : Os K H Z (cutL l lo hi) (cutV xs lo hi) [] := by
  unfold cutL cutV
  rw [h.length]
  exact Os.take _ (Os.drop _ h)
end
def rSl (K : PySem.W.Frag) : V → Option Int → Option Int → Hp → VK → Prop := fun x lo hi H Q => rSlL K x lo hi H Q ∨ rSlA K x lo hi H Q ∨ rSlS x lo hi H Q
theorem sl_any : SlR X (rSl X.K) := sl_list.or (sl_tupA.or sl_str)
theorem cut_all {α : Type} {l : List α} {lo hi : Option Int} (h : HT.sIx l.length 0 lo = 0 ∧ HT.sIx l.length l.length hi = l.length) : cutL l lo hi = l := by
  unfold cutL
  rw [h.1, h.2]
  simp
theorem DE.slice {lo hi : Option Expr} {p2 : Pos} {fl fh : Cm (Option Int)} (ha : DE X W q1 a f) (hl : DO X W q2 lo fl) (hh : DO X W q3 hi fh) : DE X W (q1 && q2 && q3) (.Subscript a (.Slice lo hi none p2) pos) (eSl f fl fh) := by
  refine PE.imp (pe_slice sl_any ha hl hh) fun σ H Q ⟨κ, ρ, τ, vs, st, w⟩ => ?_
  refine ⟨κ, ρ, τ, vs, st, Out.wp_mono (Out.wp_bind w) (fun t ρ1 w1 v H1 st1 k1 => ?_) fun _ _ z => z⟩
  refine ⟨κ, ρ1, t :: τ, v :: vs, st1, Out.wp_mono (Out.wp_bind w1) (fun l ρ2 w2 H2 st2 k2 => ?_) fun e ρ2 z H2 d s2 eo => z H2 d s2.pop eo⟩
  refine ⟨κ, ρ2, t :: τ, v :: vs, st2, Out.wp_mono (Out.wp_bind w2) (fun h ρ3 w3 H3 st3 k3 => ?_) fun e ρ2 z H2 d s2 eo => z H2 d s2.pop eo⟩
  try dsimp only at w3
  split at w3
  · rename_i d hd
    split at w3
    · rename_i r hr
      obtain ⟨Z, A, B, C1, cc, tt, gg, o1, zz⟩ := st3.opn hd
      have kk : (q1 && q2 && q3) = true → ρ3 = ρ ∧ Same H H3 := fun hq => by
        rw [Bool.and_eq_true, Bool.and_eq_true] at hq
        exact ⟨((k3 hq.2).1.trans (k2 hq.1.2).1).trans (k1 hq.1.1).1, ((k1 hq.1.1).2.trans (k2 hq.1.2).2).trans (k3 hq.2).2⟩
      unfold slD at hr
      split at hr
      · rename_i z
        split at hr
        · rename_i hz
          cases hr
          refine .inr (.inr ⟨_, o1.strV, by rw [str_len]; exact hz, ?_⟩)
          have e : cutS ⟨z.toArray⟩ l h = ⟨(cutL z l h).toArray⟩ := by
            unfold cutS cutL
            rw [str_len]
          rw [e]
          exact w3 _ H3 (.mk cc tt gg (.str _)) kk
        · cases hr
      · rename_i o z
        split at hr
        · cases hr
        · rename_i n
          cases hr
          obtain ⟨p, xs, rfl, hp, D1, q1⟩ := o1.listV zz
          have r1 := q1.nil_of (by simpa using n)
          exact .inl ⟨p, xs, rfl, .of hp, fun r hr => w3 _ _ (.mkLst cc tt gg (r1.cut l h) hr) fun hq => ⟨(kk hq).1, (kk hq).2.trans (Same_new hr)⟩⟩
      · rename_i z
        split at hr
        · cases hr
        · rename_i n
          cases hr
          have n' : D.owns z = false := by simpa using n
          have o1' := o1
          have z0 := o1.noown (by simpa [D.own] using n')
          subst z0
          obtain ⟨p, xs, rfl, hp, q1⟩ := o1'.tupV zz
          refine .inr (.inl ⟨p, xs, rfl, hp, fun hw => ?_, fun _ r hr => w3 _ _ (.mkTup cc tt gg (q1.cut l h) hr) fun hq => ⟨(kk hq).1, (kk hq).2.trans (Same_new hr)⟩⟩)
          rw [q1.length] at hw
          rw [cut_all hw] at w3
          exact w3 _ H3 (.mk cc tt gg o1) kk
      · rename_i z
        cases hr
        cases o1 with
        | @scr p _ hp =>
          refine .inl ⟨p, _, rfl, zz.seq hp, fun r hr => w3 _ _ ?_ fun hq => ⟨(kk hq).1, (kk hq).2.trans (Same_new hr)⟩⟩
          have e : cutV (z.map V.int) l h = (cutL z l h).map V.int := by
            unfold cutV cutL
            rw [List.length_map, List.map_take, List.map_drop]
          rw [e]
          have os : ∀ m : List Int, Os X.K H3 Z (m.map .int) (m.map V.int) [] := fun m => by
            induction m with
            | nil => exact .nil
            | cons i m ih => exact .cons (A := []) (B := []) (.int i) ih
          exact .mkLst cc tt gg (os _) hr
      · cases hr
    · exact w3.elim
  · exact w3.elim
end
end Dl

set_option linter.all false
set_option maxRecDepth 100000
/-! Dl10: methods of built-in types, what a slot owns changed, built-ins called by name. -/
namespace Dl
open PySem L2

/-- several values, each known -/
inductive Ow (K : PySem.W.Frag) (H Z : Hp) : List D → List V → Prop
  | nil : Ow K H Z [] []
  | cons {d v C ds vs} : O K H Z d v C → Ow K H Z ds vs → Ow K H Z (d :: ds) (v :: vs)
def looks (ρ : Env) : List Tm → Option (List D)
  | [] => some []
  | t :: ts => match look ρ t with
    | some d => (looks ρ ts).map (d :: ·)
    | none => none
section
variable {K : PySem.W.Frag} {κ : Fr} {ρ : List (Option D)} {τ : List Tm} {vs : List V} {σ : St} {H Z : Hp} {d : D} {v : V} {i : Nat}
theorem Tms.opns {A : List Addr} (c : Cells K H Z ρ σ A) : ∀ {ts : List Tm} {xs : List V} {B : List Addr} {ds : List D}, Tms K H Z σ ts xs B → looks ρ ts = some ds → Ow K H Z ds xs
  | _, _, _, ds, .nil, e => by cases e; exact .nil
  | _, _, _, ds, .v h1 h2, e => by
    simp only [looks, look, Option.map_eq_some_iff] at e
    obtain ⟨r, e1, rfl⟩ := e
    exact .cons h1 (Tms.opns c h2 e1)
  | _, _, _, ds, @Tms.s _ _ _ _ i _ _ _ _ h1 h2, e => by
    simp only [looks] at e
    split at e
    · rename_i d hd
      obtain ⟨r, e1, rfl⟩ := Option.map_eq_some_iff.mp e
      obtain ⟨x, C, q, o, _⟩ := c.at (join_some hd)
      rw [h1] at q
      cases q
      exact .cons o (Tms.opns c h2 e1)
    · cases e
theorem Stt.opns {ts : List Tm} {xs : List V} {ds : List D} (h : Stt K κ ρ (ts ++ τ) (xs ++ vs) σ H) (hl : xs.length = ts.length) (e : looks ρ ts = some ds) :
    ∃ Z A B, Cells K H Z ρ σ A ∧ Tms K H Z σ τ vs B ∧ Good κ H Z (A ++ B) ∧ Ow K H Z ds xs ∧ Same Z H := by
  obtain ⟨Z, A, B, c, t, g⟩ := h
  obtain ⟨A1, A2, rfl, t1, t2⟩ := t.cut hl
  exact ⟨Z, A, A2, c, t2, g.sub (.app .refl sub_right), Tms.opns c t1 e, g.zh⟩

/-! ### built-ins by name -/
/-- what a built-in does, by data -/
def CaD (K : PySem.W.Frag) (r : List V → Hp → VK → Prop) (g : List D → Option D) : Prop := ∀ (κ : Fr) (ρ : Env) (τ : List Tm) (vs : List V) (σ : St) (H Z : Hp) (A B : List Addr) (ds : List D) (xs : List V) (c : D) (Q : VK),
  Cells K H Z ρ σ A → Tms K H Z σ τ vs B → Good κ H Z (A ++ B) → Ow K H Z ds xs → Same Z H → g ds = some c → (∀ v H', Stt K κ ρ (.v c :: τ) (v :: vs) σ H' → Same H H' → Q v H') → r xs H Q
theorem CaD.or {r r' : List V → Hp → VK → Prop} {g g' : List D → Option D} (h : CaD K r g) (h' : CaD K r' g') : CaD K (fun xs H Q => r xs H Q ∨ r' xs H Q) (fun ds => (g ds).or (g' ds)) := by
  intro κ ρ τ vs σ H Z A B ds xs c Q cc tt gg ow zz e k
  cases hg : g ds with
  | some z =>
    simp only [hg, Option.some_or, Option.some.injEq] at e
    exact .inl (h κ ρ τ vs σ H Z A B ds xs c Q cc tt gg ow zz (by rw [hg, e]) k)
  | none =>
    simp only [hg, Option.none_or] at e
    exact .inr (h' κ ρ τ vs σ H Z A B ds xs c Q cc tt gg ow zz e k)
def eCa (g : List D → Option D) (fs : Cm (List Tm)) : Cm Tm := fun ρ => (fs ρ).bind fun ts ρ1 => match looks ρ1 ts with
  | some ds => match g ds with
    | some c => .ok (.v c) ρ1
    | none => .bad
  | none => .bad
theorem ca_imp {W : WX} {q : Bool} {r : List V → Hp → VK → Prop} {g : List D → Option D} {fs : Cm (List Tm)} (hr : CaD K r g) {σ : St} {H : Hp} {Q : VK} (h : tD K W q (eCa g fs) σ H Q) : tDA K W q fs σ H (fun xs H1 => r xs H1 Q) := by
  obtain ⟨κ, ρ, τ, vs, st, w⟩ := h
  refine ⟨κ, ρ, τ, vs, st, Out.wp_mono (Out.wp_bind w) (fun ts ρ1 w1 xs H1 hl st1 k1 => ?_) fun _ _ z => z⟩
  try dsimp only at w1
  split at w1
  · rename_i ds hd
    split at w1
    · rename_i c hc
      obtain ⟨Z, A, B, cc, tt, gg, ow, zz⟩ := st1.opns hl hd
      exact hr κ ρ1 τ vs σ H1 Z A B ds xs c Q cc tt gg ow zz hc fun v H' s' sm => w1 v H' s' fun hq => ⟨(k1 hq).1, (k1 hq).2.trans sm⟩
    · exact w1.elim
  · exact w1.elim
end
theorem CallR.or {X : Cx} {f : Value} {r r' : List V → Hp → VK → Prop} (h : CallR X f r) (h' : CallR X f r') : CallR X f (fun xs H Q => r xs H Q ∨ r' xs H Q) := by
  intro pins s σ H xs us Q I rx q
  rcases q with q | q
  · exact h pins s σ H xs us Q I rx q
  · exact h' pins s σ H xs us Q I rx q
section
variable {X : Cx} {W : WX} {q q1 q2 q3 : Bool} {a b c e : Expr} {es : List Expr} {f h : Cm Tm} {fs : Cm (List Tm)} {pos p : Pos} {x : Str} {i : Nat}
theorem DE.bi {id : String} {r : List V → Hp → VK → Prop} {g : List D → Option D} (hc : CallR X (.builtin id) r) (hr : CaD X.K r g) (hm : X.mg x = none) (hv : bootBuiltins x = some (.builtin id)) (ha : DA X W q (e :: es) fs) (hg : Gl X x := by rfl) (hn : x ≠ "__name__" := by decide) (hdb : (x == ("__debug__" : Str)) = false := by decide)
    (he : starEach (e :: es) X.env = (false, eval e X.env) :: starEach es X.env := by rfl) (hpl : (backTo pos (starEach es X.env)).any (·.1) = false := by rfl) : DE X W q (.Call (.Name x p) (e :: es) [] pos) (eCa g fs) :=
  PE.imp (pe_callB hc hg hm hv ha hn hdb he hpl) fun _ _ _ h => ca_imp hr h
theorem DE.ty {T : String} {r : List V → Hp → VK → Prop} {g : List D → Option D} (hc : CallR X (.type T) r) (hr : CaD X.K r g) (hm : X.mg x = none) (hv : bootBuiltins x = some (.type T)) (ha : DA X W q (e :: es) fs) (hg : Gl X x := by rfl) (hn : x ≠ "__name__" := by decide) (hdb : (x == ("__debug__" : Str)) = false := by decide)
    (he : starEach (e :: es) X.env = (false, eval e X.env) :: starEach es X.env := by rfl) (hpl : (backTo pos (starEach es X.env)).any (·.1) = false := by rfl) : DE X W q (.Call (.Name x p) (e :: es) [] pos) (eCa g fs) :=
  PE.imp (pe_callTy hc hg hm hv ha hn hdb he hpl) fun _ _ _ h => ca_imp hr h
/-- len -/
def lenD : List D → Option D
  | [.str l] => if l.length ≤ sizeLine then some (.int l.length) else none
  | [.lst _ l] => some (.int l.length)
  | [.tup l] => some (.int l.length)
  | _ => none
theorem ca_len {K : PySem.W.Frag} : CaD K (fun xs H Q => ∃ x n, xs = [x] ∧ LenV K x H n ∧ Q (.int n) H) lenD := by
  intro κ ρ τ vs σ H Z A B ds xs c Q cc tt gg ow zz e k
  unfold lenD at e
  split at e
  · split at e
    · rename_i l hz
      cases e
      cases ow with
      | cons o1 o2 =>
        cases o2
        refine ⟨_, _, rfl, ?_, k _ H (.mk cc tt gg (.int _)) (Same.refl H)⟩
        rw [o1.strV]
        exact ⟨by rw [str_len]; exact hz, (str_len l).symm⟩
    · cases e
  · rename_i o l
    cases e
    cases ow with
    | cons o1 o2 =>
      cases o2
      obtain ⟨p, xs, rfl, hp, C2, q1⟩ := o1.listV zz
      exact ⟨_, _, rfl, .inl ⟨xs, .of hp, by rw [q1.length]⟩, k _ H (.mk cc tt gg (.int _)) (Same.refl H)⟩
  · rename_i l
    cases e
    cases ow with
    | cons o1 o2 =>
      cases o2
      obtain ⟨p, xs, rfl, hp, q1⟩ := o1.tupV zz
      exact ⟨_, _, rfl, .inr ⟨xs, hp, by rw [q1.length]⟩, k _ H (.mk cc tt gg (.int _)) (Same.refl H)⟩
  · cases e
/-- max(i, j), min(i, j) -/
def max2D : List D → Option D
  | [.int i, .int j] => some (.int (if j > i then j else i))
  | _ => none
def min2D : List D → Option D
  | [.int i, .int j] => some (.int (if j < i then j else i))
  | _ => none
theorem ca_max2 {K : PySem.W.Frag} : CaD K (fun xs H Q => ∃ i j, xs = [.int i, .int j] ∧ Q (.int (if j > i then j else i)) H) max2D := by
  intro κ ρ τ vs σ H Z A B ds xs c Q cc tt gg ow zz e k
  unfold max2D at e
  split at e
  · cases e
    cases ow with
    | cons o1 o2 =>
      cases o2 with
      | cons o2 o3 =>
        cases o3
        exact ⟨_, _, by rw [o1.intV, o2.intV], k _ H (.mk cc tt gg (.int _)) (Same.refl H)⟩
  · cases e
theorem ca_min2 {K : PySem.W.Frag} : CaD K (fun xs H Q => ∃ i j, xs = [.int i, .int j] ∧ Q (.int (if j < i then j else i)) H) min2D := by
  intro κ ρ τ vs σ H Z A B ds xs c Q cc tt gg ow zz e k
  unfold min2D at e
  split at e
  · cases e
    cases ow with
    | cons o1 o2 =>
      cases o2 with
      | cons o2 o3 =>
        cases o3
        exact ⟨_, _, by rw [o1.intV, o2.intV], k _ H (.mk cc tt gg (.int _)) (Same.refl H)⟩
  · cases e
/-- list(x), tuple(x) of a list, a tuple -/
def listD : List D → Option D
  | [.lst _ l] => if D.owns l then none else some (.lst true l)
  | [.tup l] => if D.owns l then none else some (.lst true l)
  | _ => none
def tupleD : List D → Option D
  | [.lst _ l] => if D.owns l then none else some (.tup l)
  | [.tup l] => if D.owns l then none else some (.tup l)
  | _ => none
theorem ca_list {K : PySem.W.Frag} : CaD K (fun xs H Q => ∃ p ys, xs = [.ref p] ∧ (SqL K H p ys ∨ SqT K H p ys) ∧ ∀ l, H l = none → Q (.ref l) (upd H l (.lst ys))) listD := by
  intro κ ρ τ vs σ H Z A B ds xs c Q cc tt gg ow zz e k
  unfold listD at e
  split at e
  · rename_i o l
    split at e
    · cases e
    · rename_i n
      cases e
      cases ow with
      | cons o1 o2 =>
        cases o2
        obtain ⟨p, xs, rfl, hp, C2, q1⟩ := o1.listV zz
        have r1 := q1.nil_of (by simpa using n)
        exact ⟨p, xs, rfl, .inl (.of hp), fun r hr => k _ _ (.mkLst cc tt gg r1 hr) (Same_new hr)⟩
  · rename_i l
    split at e
    · cases e
    · rename_i n
      cases e
      cases ow with
      | cons o1 o2 =>
        cases o2
        obtain ⟨p, xs, rfl, hp, q1⟩ := o1.tupV zz
        have r1 := q1.nil_of (by simpa using n)
        exact ⟨p, xs, rfl, .inr hp, fun r hr => k _ _ (.mkLst cc tt gg r1 hr) (Same_new hr)⟩
  · cases e
theorem ca_tuple {K : PySem.W.Frag} : CaD K (fun xs H Q => ∃ p ys, xs = [.ref p] ∧ ((SqL K H p ys ∧ ∀ l, H l = none → Q (.ref l) (upd H l (.tup ys))) ∨ (SqT K H p ys ∧ Q (.ref p) H))) tupleD := by
  intro κ ρ τ vs σ H Z A B ds xs c Q cc tt gg ow zz e k
  unfold tupleD at e
  split at e
  · rename_i o l
    split at e
    · cases e
    · rename_i n
      cases e
      cases ow with
      | cons o1 o2 =>
        cases o2
        obtain ⟨p, xs, rfl, hp, C2, q1⟩ := o1.listV zz
        have r1 := q1.nil_of (by simpa using n)
        exact ⟨p, xs, rfl, .inl ⟨.of hp, fun r hr => k _ _ (.mkTup cc tt gg r1 hr) (Same_new hr)⟩⟩
  · rename_i l
    split at e
    · cases e
    · rename_i n
      cases e
      cases ow with
      | cons o1 o2 =>
        cases o2
        have n' : D.owns l = false := by simpa using n
        have z0 := o1.noown (by simpa [D.own] using n')
        subst z0
        obtain ⟨p, xs, rfl, hp, q1⟩ := id (o1.tupV zz)
        exact ⟨p, xs, rfl, .inr ⟨hp, k _ H (.mk cc tt gg o1) (Same.refl H)⟩⟩
  · cases e
/-- int(n), int(flag) -/
def intD : List D → Option D
  | [.int n] => some (.int n)
  | [.bl b] => some (.int (if b then 1 else 0))
  | _ => none
theorem ca_int {K : PySem.W.Frag} : CaD K (fun xs H Q => (∃ i, xs = [.int i] ∧ Q (.int i) H) ∨ ∃ k, xs = [.bl k] ∧ Q (.int (if k then 1 else 0)) H) intD := by
  intro κ ρ τ vs σ H Z A B ds xs c Q cc tt gg ow zz e k
  unfold intD at e
  split at e
  · cases e
    cases ow with
    | cons o1 o2 =>
      cases o2
      exact .inl ⟨_, by rw [o1.intV], k _ H (.mk cc tt gg (.int _)) (Same.refl H)⟩
  · cases e
    cases ow with
    | cons o1 o2 =>
      cases o2
      exact .inr ⟨_, by rw [o1.blV], k _ H (.mk cc tt gg (.int _)) (Same.refl H)⟩
  · cases e
/-- sums, greatest, least of a list of whole numbers; any, all of a list of truths -/
def intsL : List D → Option (List Int)
  | [] => some []
  | .int n :: ts => (intsL ts).map (n :: ·)
  | _ :: _ => none
def blsL : List D → Option (List Bool)
  | [] => some []
  | .bl n :: ts => (blsL ts).map (n :: ·)
  | _ :: _ => none
def strsL : List D → Option (List (List Nat))
  | [] => some []
  | .str n :: ts => (strsL ts).map (n :: ·)
  | _ :: _ => none
section
variable {K : PySem.W.Frag} {H Z : Hp}
theorem Os.ints : ∀ {l : List D} {xs : List V} {C : List Addr} {ns : List Int}, Os K H Z l xs C → intsL l = some ns → xs = ns.map V.int ∧ l = ns.map D.int
  | _, _, _, _, .nil, e => by cases e; exact ⟨rfl, rfl⟩
  | d :: _, _, _, _, .cons h1 h2, e => by
    cases d <;> simp only [intsL, reduceCtorEq] at e
    obtain ⟨r, e1, rfl⟩ := Option.map_eq_some_iff.mp e
    obtain ⟨a1, a2⟩ := Os.ints h2 e1
    exact ⟨by rw [h1.intV, a1]; rfl, by rw [a2]; rfl⟩
theorem Os.bls : ∀ {l : List D} {xs : List V} {C : List Addr} {ns : List Bool}, Os K H Z l xs C → blsL l = some ns → xs = ns.map V.bl
  | _, _, _, _, .nil, e => by cases e; rfl
  | d :: _, _, _, _, .cons h1 h2, e => by
    cases d <;> simp only [blsL, reduceCtorEq] at e
    obtain ⟨r, e1, rfl⟩ := Option.map_eq_some_iff.mp e
    rw [h1.blV, Os.bls h2 e1]; rfl
theorem Os.strs : ∀ {l : List D} {xs : List V} {C : List Addr} {ns : List (List Nat)}, Os K H Z l xs C → strsL l = some ns → xs = (ns.map fun n => (⟨n.toArray⟩ : Str)).map V.str
  | _, _, _, _, .nil, e => by cases e; rfl
  | d :: _, _, _, _, .cons h1 h2, e => by
    cases d <;> simp only [strsL, reduceCtorEq] at e
    obtain ⟨r, e1, rfl⟩ := Option.map_eq_some_iff.mp e
    rw [h1.strV, Os.strs h2 e1]; rfl
end
def seqOf : D → Option (List D)
  | .lst _ l => some l
  | _ => none
def anyD : List D → Option D
  | [.lst _ l] => (blsL l).map fun bs => .bl (bs.any id)
  | _ => none
def allD : List D → Option D
  | [.lst _ l] => (blsL l).map fun bs => .bl (bs.all id)
  | _ => none
theorem ca_any {K : PySem.W.Frag} : CaD K (rAny K) anyD := by
  intro κ ρ τ vs σ H Z A B ds xs c Q cc tt gg ow zz e k
  unfold anyD at e
  split at e
  · rename_i o l
    obtain ⟨bs, e1, rfl⟩ := Option.map_eq_some_iff.mp e
    cases ow with
    | cons o1 o2 =>
      cases o2
      obtain ⟨p, xs, rfl, hp, C2, q1⟩ := o1.listV zz
      have ex := q1.bls e1
      subst ex
      exact ⟨p, bs, rfl, .of hp, k _ H (.mk cc tt gg (.bl _)) (Same.refl H)⟩
  · cases e
theorem ca_all {K : PySem.W.Frag} : CaD K (rAll K) allD := by
  intro κ ρ τ vs σ H Z A B ds xs c Q cc tt gg ow zz e k
  unfold allD at e
  split at e
  · rename_i o l
    obtain ⟨bs, e1, rfl⟩ := Option.map_eq_some_iff.mp e
    cases ow with
    | cons o1 o2 =>
      cases o2
      obtain ⟨p, xs, rfl, hp, C2, q1⟩ := o1.listV zz
      have ex := q1.bls e1
      subst ex
      exact ⟨p, bs, rfl, .of hp, k _ H (.mk cc tt gg (.bl _)) (Same.refl H)⟩
  · cases e
def sumD : List D → Option D
  | [.lst _ l] => (intsL l).map fun bs => .int bs.sum
  | _ => none
theorem ca_sum {K : PySem.W.Frag} : CaD K (rSum K) sumD := by
  intro κ ρ τ vs σ H Z A B ds xs c Q cc tt gg ow zz e k
  unfold sumD at e
  split at e
  · rename_i o l
    obtain ⟨bs, e1, rfl⟩ := Option.map_eq_some_iff.mp e
    cases ow with
    | cons o1 o2 =>
      cases o2
      obtain ⟨p, xs, rfl, hp, C2, q1⟩ := o1.listV zz
      obtain ⟨ex, _⟩ := q1.ints e1
      subst ex
      exact ⟨p, bs, rfl, .of hp, k _ H (.mk cc tt gg (.int _)) (Same.refl H)⟩
  · cases e
/-- the greatest, the least of a list that has one -/
def maxL : List Int → Option Int
  | [] => none
  | n :: ns => some (ns.foldl max n)
def minL : List Int → Option Int
  | [] => none
  | n :: ns => some (ns.foldl min n)
theorem foldl_max : ∀ (ns : List Int) (n m : Int), (m = n ∨ m ∈ ns) → (∀ y, y = n ∨ y ∈ ns → y ≤ m) → ns.foldl max n = m
  | [], n, m, h, _ => (by simpa using h : m = n).symm
  | a :: ns, n, m, h, k => by
    rw [List.foldl_cons]
    refine foldl_max ns (max n a) m ?_ fun y hy => ?_
    · rcases h with rfl | h
      · have := k a (.inr List.mem_cons_self)
        exact .inl (by omega)
      · rcases List.mem_cons.mp h with rfl | h
        · have := k n (.inl rfl)
          exact .inl (by omega)
        · exact .inr h
    · rcases hy with rfl | hy
      · have h1 := k a (.inr List.mem_cons_self)
        have h2 := k n (.inl rfl)
        omega
      · exact k y (.inr (List.mem_cons_of_mem _ hy))
theorem foldl_min : ∀ (ns : List Int) (n m : Int), (m = n ∨ m ∈ ns) → (∀ y, y = n ∨ y ∈ ns → m ≤ y) → ns.foldl min n = m
  | [], n, m, h, _ => (by simpa using h : m = n).symm
  | a :: ns, n, m, h, k => by
    rw [List.foldl_cons]
    refine foldl_min ns (min n a) m ?_ fun y hy => ?_
    · rcases h with rfl | h
      · have := k a (.inr List.mem_cons_self)
        exact .inl (by omega)
      · rcases List.mem_cons.mp h with rfl | h
        · have := k n (.inl rfl)
          exact .inl (by omega)
        · exact .inr h
    · rcases hy with rfl | hy
      · have h1 := k a (.inr List.mem_cons_self)
        have h2 := k n (.inl rfl)
        omega
      · exact k y (.inr (List.mem_cons_of_mem _ hy))
def maxD : List D → Option D
  | [.lst _ l] => ((intsL l).bind maxL).map .int
  | _ => none
def minD : List D → Option D
  | [.lst _ l] => ((intsL l).bind minL).map .int
  | _ => none
theorem ca_max {K : PySem.W.Frag} : CaD K (rMax K) maxD := by
  intro κ ρ τ vs σ H Z A B ds xs c Q cc tt gg ow zz e k
  unfold maxD at e
  split at e
  · rename_i o l
    obtain ⟨m, e1, rfl⟩ := Option.map_eq_some_iff.mp e
    obtain ⟨bs, e2, e3⟩ := Option.bind_eq_some_iff.mp e1
    cases ow with
    | cons o1 o2 =>
      cases o2
      obtain ⟨p, xs, rfl, hp, C2, q1⟩ := o1.listV zz
      obtain ⟨ex, _⟩ := q1.ints e2
      subst ex
      cases bs with
      | nil => cases e3
      | cons n ns =>
        cases e3
        refine ⟨p, n :: ns, rfl, .of hp, by simp, fun m h1 h2 => ?_⟩
        have em := foldl_max ns n m (by simpa using h1) (by simpa using h2)
        rw [em] at k
        exact k _ H (.mk cc tt gg (.int _)) (Same.refl H)
  · cases e
theorem ca_min {K : PySem.W.Frag} : CaD K (rMin K) minD := by
  intro κ ρ τ vs σ H Z A B ds xs c Q cc tt gg ow zz e k
  unfold minD at e
  split at e
  · rename_i o l
    obtain ⟨m, e1, rfl⟩ := Option.map_eq_some_iff.mp e
    obtain ⟨bs, e2, e3⟩ := Option.bind_eq_some_iff.mp e1
    cases ow with
    | cons o1 o2 =>
      cases o2
      obtain ⟨p, xs, rfl, hp, C2, q1⟩ := o1.listV zz
      obtain ⟨ex, _⟩ := q1.ints e2
      subst ex
      cases bs with
      | nil => cases e3
      | cons n ns =>
        cases e3
        refine ⟨p, n :: ns, rfl, .of hp, by simp, fun m h1 h2 => ?_⟩
        have em := foldl_min ns n m (by simpa using h1) (by simpa using h2)
        rw [em] at k
        exact k _ H (.mk cc tt gg (.int _)) (Same.refl H)
  · cases e
end
end Dl

set_option linter.all false
set_option maxRecDepth 100000
/-! Dl11: places: a slot's value, what it owns within; reads there, changes there. -/
namespace Dl
open PySem L2

inductive Pc where
  | ix (n : Nat) | key (k : D) | fld (f : Str)
def kidx : List D → D → Option Nat
  | [], _ => none
  | k :: ks, x => if keyEq k x then some 0 else (kidx ks x).map (· + 1)
def nidx : List Str → Str → Option Nat
  | [], _ => none
  | k :: ks, x => if x == k then some 0 else (nidx ks x).map (· + 1)
def D.kids : D → List D
  | .lst _ l => l
  | .dic _ _ vs => vs
  | .ins _ _ vs => vs
  | _ => []
def D.withK (d : D) (l : List D) : D := match d with
  | .lst o _ => .lst o l
  | .dic o ks _ => .dic o ks l
  | .ins C ns _ => .ins C ns l
  | d => d
/-- the number of a child, of what is owned alone -/
def D.pidx (d : D) (c : Pc) : Option Nat := match d, c with
  | .lst true _, .ix n => some n
  | .dic true ks _, .key k => if k.isKey then kidx ks k else none
  | .ins _ ns _, .fld f => nidx ns f
  | _, _ => none
def D.child (d : D) (c : Pc) : Option D := (d.pidx c).bind fun n => d.kids[n]?
def D.putC (d : D) (c : Pc) (y : D) : D := match d.pidx c with
  | some n => d.withK (d.kids.set n y)
  | none => d
def D.childP (d : D) : List Pc → Option D
  | [] => some d
  | c :: p => (d.child c).bind fun e => e.childP p
def D.putP (d : D) (p : List Pc) (y : D) : D := match p with
  | [] => y
  | c :: p => match d.child c with
    | some e => d.putC c (e.putP p y)
    | none => d
def Step (H : Hp) (x : V) (c : Pc) (v : V) : Prop := match c with
  | .ix n => ∃ a xs, x = .ref a ∧ H a = some (.lst xs) ∧ xs[n]? = some v
  | .key k => ∃ a kvs, x = .ref a ∧ H a = some (.dK kvs) ∧ valV kvs (toKey k) = some v
  | .fld f => ∃ a C dx fs, x = .ref a ∧ H a = some (.ins C dx fs) ∧ fs.lookup f = some v
def At (H : Hp) (x : V) : List Pc → V → Prop
  | [], v => v = x
  | c :: p, v => ∃ y, Step H x c y ∧ At H y p v
theorem Step.det {H : Hp} {x : V} {c : Pc} {v w : V} (h : Step H x c v) (h' : Step H x c w) : v = w := by
  cases c with
  | ix n =>
    obtain ⟨a, xs, rfl, e, e2⟩ := h
    obtain ⟨b, ys, eb, e3, e4⟩ := h'
    cases eb
    rw [e] at e3; cases e3
    rw [e2] at e4; cases e4; rfl
  | key k =>
    obtain ⟨a, xs, rfl, e, e2⟩ := h
    obtain ⟨b, ys, eb, e3, e4⟩ := h'
    cases eb
    rw [e] at e3; cases e3
    rw [e2] at e4; cases e4; rfl
  | fld f =>
    obtain ⟨a, C, dx, xs, rfl, e, e2⟩ := h
    obtain ⟨b, C', dx', ys, eb, e3, e4⟩ := h'
    cases eb
    rw [e] at e3; cases e3
    rw [e2] at e4; cases e4; rfl
theorem Step.same {H H' : Hp} {x : V} {c : Pc} {v : V} (s : Same H H') (h : Step H x c v) : Step H' x c v := by
  cases c with
  | ix n => obtain ⟨a, xs, e, e1, e2⟩ := h; exact ⟨a, xs, e, s _ _ e1, e2⟩
  | key k => obtain ⟨a, xs, e, e1, e2⟩ := h; exact ⟨a, xs, e, s _ _ e1, e2⟩
  | fld f => obtain ⟨a, C, dx, xs, e, e1, e2⟩ := h; exact ⟨a, C, dx, xs, e, s _ _ e1, e2⟩
theorem At.same {H H' : Hp} (s : Same H H') : ∀ {p : List Pc} {x v : V}, At H x p v → At H' x p v
  | [], _, _, h => h
  | _ :: _, _, _, ⟨y, h1, h2⟩ => ⟨y, h1.same s, At.same s h2⟩
theorem At.snoc {H : Hp} {c : Pc} : ∀ {p : List Pc} {x y v : V}, At H x p y → Step H y c v → At H x (p ++ [c]) v
  | [], _, _, _, h, h2 => by cases h; exact ⟨_, h2, rfl⟩
  | _ :: _, _, _, _, ⟨z, h1, h3⟩, h2 => ⟨z, h1, At.snoc h3 h2⟩
theorem childP_snoc {c : Pc} : ∀ {p : List Pc} {d : D}, d.childP (p ++ [c]) = (d.childP p).bind fun e => e.child c
  | [], d => by
    show (d.child c).bind _ = d.child c
    cases d.child c <;> rfl
  | a :: p, d => by
    show (d.child a).bind _ = ((d.child a).bind _).bind _
    cases d.child a with
    | none => rfl
    | some e => exact childP_snoc (p := p) (d := e)
section
variable {K : PySem.W.Frag} {H Z : Hp}
/-- the n-th of them taken out -/
theorem Os.out : ∀ {l : List D} {xs : List V} {A : List Addr} {n : Nat} {e : D}, Os K H Z l xs A → l[n]? = some e → ∃ v C R, xs[n]? = some v ∧ O K H Z e v C ∧ Os K H Z (l.set n (.hol v)) xs R ∧ (C ++ R).Perm A
  | [], _, _, n, _, .nil, h => by simp at h
  | d :: l, _, _, 0, e, @Os.cons _ _ _ _ v A0 _ vs B0 h1 h2, h => by
    simp only [List.getElem?_cons_zero, Option.some.injEq] at h
    subst h
    exact ⟨v, A0, B0, rfl, h1, .cons (A := []) (.hol v) h2, .refl _⟩
  | d :: l, _, _, n + 1, e, @Os.cons _ _ _ _ v A0 _ vs B0 h1 h2, h => by
    obtain ⟨w, C, R, e1, o, os, p⟩ := Os.out h2 (by simpa using h)
    refine ⟨w, C, A0 ++ R, by simpa using e1, o, .cons h1 os, ?_⟩
    have p1 : (C ++ (A0 ++ R)).Perm (A0 ++ (C ++ R)) := by
      rw [← List.append_assoc, ← List.append_assoc]
      exact List.perm_append_comm.append_right _
    exact p1.trans (p.append_left _)
/-- .. and put in where there is nothing -/
theorem Os.into : ∀ {l : List D} {xs : List V} {R C : List Addr} {n : Nat} {e : D} {v : V}, Os K H Z l xs R → l[n]? = some (.hol v) → O K H Z e v C → ∃ A, Os K H Z (l.set n e) xs A ∧ A.Perm (C ++ R)
  | [], _, _, _, n, _, _, .nil, h, _ => by simp at h
  | d :: l, _, _, C, 0, e, v, @Os.cons _ _ _ _ w A0 _ vs B0 h1 h2, h, o => by
    simp only [List.getElem?_cons_zero, Option.some.injEq] at h
    subst h
    cases h1
    exact ⟨C ++ B0, .cons o h2, .refl _⟩
  | d :: l, _, _, C, n + 1, e, v, @Os.cons _ _ _ _ w A0 _ vs B0 h1 h2, h, o => by
    obtain ⟨A, os, p⟩ := Os.into h2 (by simpa using h) o
    refine ⟨A0 ++ A, .cons h1 os, ?_⟩
    have p1 : (A0 ++ (C ++ B0)).Perm (C ++ (A0 ++ B0)) := by
      rw [← List.append_assoc, ← List.append_assoc]
      exact List.perm_append_comm.append_right _
    exact (p.append_left _).trans p1
theorem kidx_val {k : D} (hk : k.isKey = true) : ∀ {kvs : List (Key × V)} {n : Nat} {v : V}, kidx (kvs.map fun p => keyD p.1) k = some n → (kvs.map Prod.snd)[n]? = some v → valV kvs (toKey k) = some v
  | [], n, v, h, _ => by simp [kidx] at h
  | (k', x) :: kvs, n, v, h, h2 => by
    simp only [List.map_cons, kidx] at h
    rw [keyEq_key _ hk] at h
    by_cases e : k' = toKey k
    · simp only [decide_eq_true e, if_true, Option.some.injEq] at h
      subst h
      simp only [List.map_cons, List.getElem?_cons_zero, Option.some.injEq] at h2
      rw [valV_pos e]
      simpa using h2
    · simp only [decide_eq_false e, Bool.false_eq_true, if_false, Option.map_eq_some_iff] at h
      obtain ⟨m, h1, rfl⟩ := h
      rw [valV_neg (p := (k', x)) e]
      exact kidx_val hk h1 (by simpa using h2)
theorem nidx_val {f : Str} : ∀ {fs : List (Str × V)} {n : Nat} {v : V}, nidx (fs.map Prod.fst) f = some n → (fs.map Prod.snd)[n]? = some v → fs.lookup f = some v
  | [], n, v, h, _ => by simp [nidx] at h
  | (k', x) :: fs, n, v, h, h2 => by
    simp only [List.map_cons, nidx] at h
    rw [List.lookup_cons]
    cases e : f == k' with
    | true =>
      simp only [e, if_true, Option.some.injEq] at h
      subst h
      simp only [List.map_cons, List.getElem?_cons_zero, Option.some.injEq] at h2
      simpa using h2
    | false =>
      simp only [e, Bool.false_eq_true, if_false, Option.map_eq_some_iff] at h
      obtain ⟨m, h1, rfl⟩ := h
      exact nidx_val h1 (by simpa using h2)
/-- what owns its items, laid open -/
theorem O.kids {d : D} {x : V} {A : List Addr} {c : Pc} {n : Nat} (h : O K H Z d x A) (hc : d.pidx c = some n) : ∃ xs B r, Os K H Z d.kids xs B ∧ A = r ++ B ∧ (∀ v, xs[n]? = some v → Step H x c v) ∧
    ∀ l' B', Os K H Z l' xs B' → O K H Z (d.withK l') x (r ++ B') := by
  cases h with
  | @lst a xs l B h1 h2 h3 =>
    cases c with
    | ix m =>
      simp only [D.pidx, Option.some.injEq] at hc
      subst hc
      exact ⟨xs, B, [a], h3, rfl, fun v e => ⟨a, xs, rfl, h1, e⟩, fun l' B' o => .lst h1 h2 o⟩
    | key k => simp [D.pidx] at hc
    | fld f => simp [D.pidx] at hc
  | @dic a ks xs vs B h1 h2 h3 =>
    cases c with
    | key k =>
      simp only [D.pidx] at hc
      split at hc
      · rename_i hk
        have h1' := h1
        obtain ⟨kvs, e1, e2, e3⟩ := h1'
        subst e2 e3
        exact ⟨_, B, [a], h3, rfl, fun v e => ⟨a, kvs, rfl, e1, kidx_val hk hc e⟩, fun l' B' o => .dic h1 h2 o⟩
      · cases hc
    | ix m => simp [D.pidx] at hc
    | fld f => simp [D.pidx] at hc
  | @ins a dx C fs vs B h1 h2 h3 h4 h5 =>
    cases c with
    | fld f =>
      simp only [D.pidx] at hc
      exact ⟨_, B, [a, dx], h5, rfl, fun v e => ⟨a, C, dx, fs, rfl, h1, nidx_val hc e⟩, fun l' B' o => .ins h1 h2 h3 h4 o⟩
    | ix m => simp [D.pidx] at hc
    | key k => simp [D.pidx] at hc
  | shr => cases c <;> simp [D.pidx] at hc
  | dsh => cases c <;> simp [D.pidx] at hc
  | non => cases c <;> simp [D.pidx] at hc
  | bl => cases c <;> simp [D.pidx] at hc
  | int => cases c <;> simp [D.pidx] at hc
  | str => cases c <;> simp [D.pidx] at hc
  | cst => cases c <;> simp [D.pidx] at hc
  | hol => cases c <;> simp [D.pidx] at hc
  | tup => cases c <;> simp [D.pidx] at hc
  | scr => cases c <;> simp [D.pidx] at hc
theorem pidx_withK {d : D} {c : Pc} (l : List D) : (d.withK l).pidx c = d.pidx c := by
  cases d with
  | lst o l => cases o <;> cases c <;> rfl
  | dic o ks l => cases o <;> cases c <;> rfl
  | ins C ns l => cases c <;> rfl
  | _ => rfl
theorem kids_withK {d : D} {c : Pc} {n : Nat} (h : d.pidx c = some n) (l : List D) : (d.withK l).kids = l := by
  cases d <;> first | rfl | (cases c <;> simp [D.pidx] at h)
theorem withK_withK {d : D} (l l' : List D) : (d.withK l).withK l' = d.withK l' := by cases d <;> rfl
theorem child_some {d e : D} {c : Pc} (h : d.child c = some e) : ∃ n, d.pidx c = some n ∧ d.kids[n]? = some e := Option.bind_eq_some_iff.mp h
theorem child_putC {d e : D} {c : Pc} (h : d.child c = some e) (y : D) : (d.putC c y).child c = some y := by
  obtain ⟨n, h1, h2⟩ := child_some h
  unfold D.child D.putC
  rw [h1]
  dsimp only
  rw [pidx_withK, h1, Option.bind_some, kids_withK h1, List.getElem?_set_self (List.getElem?_eq_some_iff.mp h2).1]
theorem putC_putC {d e : D} {c : Pc} (h : d.child c = some e) (y z : D) : (d.putC c y).putC c z = d.putC c z := by
  obtain ⟨n, h1, h2⟩ := child_some h
  unfold D.putC
  rw [h1]
  dsimp only
  rw [pidx_withK, h1]
  dsimp only
  rw [kids_withK h1, withK_withK, List.set_set]
theorem O.outC {d e : D} {x : V} {A : List Addr} {c : Pc} (h : O K H Z d x A) (he : d.child c = some e) : ∃ v C R, Step H x c v ∧ O K H Z e v C ∧ O K H Z (d.putC c (.hol v)) x R ∧ (C ++ R).Perm A := by
  obtain ⟨n, h1, h2⟩ := child_some he
  obtain ⟨xs, B, r, os, ea, st, mk⟩ := h.kids h1
  obtain ⟨v, C, R, e1, o, o2, p⟩ := os.out h2
  refine ⟨v, C, r ++ R, st v e1, o, ?_, ?_⟩
  · unfold D.putC
    rw [h1]
    exact mk _ _ o2
  · rw [ea]
    have p1 : (C ++ (r ++ R)).Perm (r ++ (C ++ R)) := by
      rw [← List.append_assoc, ← List.append_assoc]
      exact List.perm_append_comm.append_right _
    exact p1.trans (p.append_left _)
theorem O.intoC {d e : D} {x v : V} {R C : List Addr} {c : Pc} (h : O K H Z d x R) (he : d.child c = some (.hol v)) (o : O K H Z e v C) : ∃ A, O K H Z (d.putC c e) x A ∧ A.Perm (C ++ R) := by
  obtain ⟨n, h1, h2⟩ := child_some he
  obtain ⟨xs, B, r, os, ea, st, mk⟩ := h.kids h1
  obtain ⟨A, o2, p⟩ := os.into h2 o
  refine ⟨r ++ A, ?_, ?_⟩
  · unfold D.putC
    rw [h1]
    exact mk _ _ o2
  · rw [ea]
    have p1 : (r ++ (C ++ B)).Perm (C ++ (r ++ B)) := by
      rw [← List.append_assoc, ← List.append_assoc]
      exact List.perm_append_comm.append_right _
    exact (p.append_left _).trans p1
theorem O.outP : ∀ {p : List Pc} {d e : D} {x v : V} {A : List Addr}, O K H Z d x A → d.childP p = some e → At H x p v → ∃ C R, O K H Z e v C ∧ O K H Z (d.putP p (.hol v)) x R ∧ (C ++ R).Perm A
  | [], d, e, x, v, A, h, he, ha => by
    cases he
    cases ha
    exact ⟨A, [], h, .hol _, by simp⟩
  | c :: p, d, e, x, v, A, h, he, ⟨y, h1, h2⟩ => by
    obtain ⟨e1, he1, he2⟩ := Option.bind_eq_some_iff.mp he
    obtain ⟨v1, C1, R1, s1, o1, o2, q⟩ := h.outC he1
    obtain rfl := h1.det s1
    obtain ⟨C, R, o3, o4, q2⟩ := O.outP o1 he2 h2
    obtain ⟨A2, o5, q3⟩ := o2.intoC (child_putC he1 _) o4
    rw [putC_putC he1] at o5
    refine ⟨C, A2, o3, ?_, ?_⟩
    · show O K H Z (match d.child c with | some e => d.putC c (e.putP p (.hol v)) | none => d) x A2
      rw [he1]
      exact o5
    · refine (q3.append_left C).trans ?_
      rw [← List.append_assoc]
      exact (q2.append_right R1).trans q
theorem O.intoP : ∀ {p : List Pc} {d e e' : D} {x v : V} {R C : List Addr}, O K H Z (d.putP p (.hol v)) x R → d.childP p = some e → O K H Z e' v C → ∃ A, O K H Z (d.putP p e') x A ∧ A.Perm (C ++ R)
  | [], d, e, e', x, v, R, C, h, he, o => by
    cases (show O K H Z (.hol v) x R from h)
    exact ⟨C, o, by simp⟩
  | c :: p, d, e, e', x, v, R, C, h, he, o => by
    obtain ⟨e1, he1, he2⟩ := Option.bind_eq_some_iff.mp he
    have hh : O K H Z (d.putC c (e1.putP p (.hol v))) x R := by
      have h' : O K H Z (match d.child c with | some e => d.putC c (e.putP p (.hol v)) | none => d) x R := h
      rw [he1] at h'
      exact h'
    obtain ⟨v1, C1, R1, s1, o1, o2, q⟩ := hh.outC (child_putC he1 _)
    rw [putC_putC he1] at o2
    obtain ⟨A1, o3, q1⟩ := O.intoP o1 he2 o
    obtain ⟨A2, o4, q2⟩ := o2.intoC (child_putC he1 _) o3
    rw [putC_putC he1] at o4
    refine ⟨A2, ?_, ?_⟩
    · show O K H Z (match d.child c with | some e => d.putC c (e.putP p e') | none => d) x A2
      rw [he1]
      exact o4
    · refine q2.trans ((q1.append_right R1).trans ?_)
      rw [List.append_assoc]
      exact q.append_left C
end
section
variable {K : PySem.W.Frag} {κ : Fr} {ρ : List (Option D)} {τ : List Tm} {vs : List V} {σ : St} {H : Hp} {d e e' : D} {x v : V} {i : Nat} {p : List Pc}
theorem Stt.outP (h : Stt K κ ρ τ vs σ H) (hd : ρ[i]? = some (some d)) (he : d.childP p = some e) (hx : σ[i]? = some (some x)) (ha : At H x p v) : Stt K κ (ρ.set i (some (d.putP p (.hol v)))) (.v e :: τ) (v :: vs) σ H := by
  obtain ⟨Z, A, B, c, t, g⟩ := h
  obtain ⟨x', C0, A', q, o, c', pp⟩ := c.take hd
  rw [hx] at q
  cases q
  obtain ⟨C, R, o1, o2, q2⟩ := o.outP he ha
  have hi : i < ρ.length := (List.getElem?_eq_some_iff.mp hd).1
  obtain ⟨A2, c2, q3⟩ := c'.back (by simpa using hi) (by simp [hi]) hx o2
  rw [List.set_set] at c2
  refine ⟨Z, A2, C ++ B, c2, .v o1 t, g.sub (.of_perm ?_)⟩
  rw [← List.append_assoc]
  refine List.Perm.append_right B ?_
  refine (q3.append_right C).trans ?_
  refine List.Perm.trans ?_ pp
  refine List.Perm.trans ?_ (q2.append_right A')
  rw [List.append_assoc]
  refine List.Perm.trans List.perm_append_comm ?_
  rw [List.append_assoc, List.append_assoc]
  exact (List.perm_append_comm).trans (by rw [List.append_assoc])
theorem Stt.inP (h : Stt K κ ρ (.v e' :: τ) (v :: vs) σ H) (hd : ρ[i]? = some (some (d.putP p (.hol v)))) (he : d.childP p = some e) : Stt K κ (ρ.set i (some (d.putP p e'))) τ vs σ H := by
  obtain ⟨Z, A, B, c, t, g⟩ := h
  cases t with
  | @v _ _ C _ _ B h1 h2 =>
    obtain ⟨x, C0, A', q, o, c', pp⟩ := c.take hd
    obtain ⟨A1, o1, q1⟩ := o.intoP he h1
    have hi : i < ρ.length := (List.getElem?_eq_some_iff.mp hd).1
    obtain ⟨A2, c2, q3⟩ := c'.back (by simpa using hi) (by simp [hi]) q o1
    rw [List.set_set] at c2
    refine ⟨Z, A2, B, c2, h2, g.sub (.of_perm ?_)⟩
    rw [← List.append_assoc]
    refine List.Perm.append_right B ?_
    refine q3.trans ((q1.append_right A').trans ?_)
    rw [List.append_assoc]
    exact (pp.append_left C).trans List.perm_append_comm
/-- what stands at a place, looked at -/
theorem Stt.peek (h : Stt K κ ρ τ vs σ H) (hd : ρ[i]? = some (some d)) (he : d.childP p = some e) (hx : σ[i]? = some (some x)) (ha : At H x p v) : ∃ Z A B C, Cells K H Z ρ σ A ∧ Tms K H Z σ τ vs B ∧ Good κ H Z (A ++ B) ∧ O K H Z e v C ∧ Same Z H := by
  obtain ⟨Z, A, B, c, t, g⟩ := h
  obtain ⟨x', C0, q, o, _⟩ := c.at hd
  rw [hx] at q
  cases q
  obtain ⟨C, R, o1, _, _⟩ := o.outP he ha
  exact ⟨Z, A, B, C, c, t, g, o1, g.zh⟩
end
end Dl

set_option linter.all false
set_option maxRecDepth 100000
/-! Dl12: expressions that are places: reads there, methods that change what stands there, stores. -/
namespace Dl
open PySem L2

abbrev Pf := Env → Option (Nat × List Pc)
/-- an expression that is the place f, and changes nothing -/
def tDP (K : PySem.W.Frag) (f : Pf) : TE := fun σ H Q => ∃ κ ρ τ vs i p d e, Stt K κ ρ τ vs σ H ∧ f ρ = some (i, p) ∧ ρ[i]? = some (some d) ∧ d.childP p = some e ∧
  ∀ v H', Same H H' → Stt K κ ρ τ vs σ H' → (∃ x, σ[i]? = some (some x) ∧ At H' x p v) → Q v H'
def DP (X : Cx) (e : Expr) (f : Pf) : Prop := PE X e (tDP X.K f)
/-- what stands at a place -/
def getP (ρ : Env) (ip : Nat × List Pc) : Option D := ((ρ[ip.1]?).join).bind fun d => d.childP ip.2
theorem getP_some {ρ : Env} {i : Nat} {p : List Pc} {e : D} (h : getP ρ (i, p) = some e) : ∃ d, ρ[i]? = some (some d) ∧ d.childP p = some e := by
  obtain ⟨d, h1, h2⟩ := Option.bind_eq_some_iff.mp h
  exact ⟨d, join_some h1, h2⟩
def setP (ρ : Env) (ip : Nat × List Pc) (y : D) : Env := match (ρ[ip.1]?).join with
  | some d => ρ.set ip.1 (some (d.putP ip.2 y))
  | none => ρ
section
variable {X : Cx} {W : WX} {q q1 q2 : Bool} {a b c e : Expr} {es : List Expr} {f : Pf} {g : Cm Tm} {fs : Cm (List Tm)} {pos apos cpos : Pos} {i : Nat}
def pSl (i : Nat) : Pf := fun ρ => match (ρ[i]?).join with
  | some _ => some (i, [])
  | none => none
/-- what an expression that is a place asks: it is one, and something stands there -/
theorem tDP_of {K : PySem.W.Frag} {κ : Fr} {ρ : Env} {τ : List Tm} {vs : List V} {σ : St} {H : Hp} {Q : VK} {f : Pf} {i : Nat} {p : List Pc} {e : D} (st : Stt K κ ρ τ vs σ H) (hf : f ρ = some (i, p)) (he : getP ρ (i, p) = some e)
    (k : ∀ v H', Same H H' → Stt K κ ρ τ vs σ H' → (∃ x, σ[i]? = some (some x) ∧ At H' x p v) → Q v H') : tDP K f σ H Q := by
  obtain ⟨d, h1, h2⟩ := getP_some he
  exact ⟨κ, ρ, τ, vs, i, p, d, e, st, hf, h1, h2, k⟩
theorem DP.slot (h : PE X e (tVar i)) : DP X e (pSl i) := by
  refine PE.imp h fun σ H Q ⟨κ, ρ, τ, vs, j, p, d, e, st, hf, hd, he, k⟩ => ?_
  unfold pSl at hf
  split at hf
  · cases hf
    obtain ⟨x, hx⟩ := st.slot hd
    exact ⟨x, hx, k x H (Same.refl H) st ⟨x, hx, rfl⟩⟩
  · cases hf
/-- a place's item, at an index, at a key -/
def ixC (e k : D) : Option Pc := match e, k with
  | .lst true l, .int n => (ixN l.length n).map .ix
  | .dic true ks _, k => if k.isKey then some (.key k) else none
  | _, _ => none
def pIx (f : Pf) (g : Cm Tm) : Pf := fun ρ => match f ρ, g ρ with
  | some (i, p), .ok t _ => match getP ρ (i, p), look ρ t with
    | some e, some k => (ixC e k).map fun c => (i, p ++ [c])
    | _, _ => none
  | _, _ => none
theorem DP.ix (hu : X.A.units + 1 < cLine) (ha : DP X a f) (hb : DE X W true b g) (hs : PlainIx b := by intro _ _; rfl) : DP X (.Subscript a b pos) (pIx f g) := by
  refine PE.imp (pe_ix (ix_seq.or (ix_dk hu)) ha hb hs) fun σ H Q ⟨κ, ρ, τ, vs, j, p', d, e', st, hf, hd, he, k⟩ => ?_
  unfold pIx at hf
  split at hf
  · rename_i i p t ρ1 h1 h2
    split at hf
    · rename_i e kd hg hk
      obtain ⟨c, hc, hf⟩ := Option.map_eq_some_iff.mp hf
      cases hf
      obtain ⟨d2, hd2, he2⟩ := getP_some hg
      rw [hd] at hd2
      cases hd2
      rw [childP_snoc, he2, Option.bind_some] at he
      refine ⟨κ, ρ, τ, vs, j, p, d, e, st, h1, hd, he2, fun v H1 s1 st1 ⟨x, hx, hat⟩ => ?_⟩
      refine ⟨κ, ρ, τ, vs, st1, ?_⟩
      rw [h2]
      intro y H2 st2 kk
      obtain ⟨rfl, s2⟩ := kk rfl
      have hat2 := hat.same s2
      obtain ⟨Z, A, B, C, cc, tt, gg, o2, zz⟩ := Stt.peek st2 hd he2 hx hat2
      obtain ⟨Z', A', B', C', cc', tt', gg', o1, zz'⟩ := st2.opn hk
      have fin : ∀ w, Step H2 v c w → Q w H2 := fun w sw => k w H2 (s1.trans s2) st2.pop ⟨x, hx, hat2.snoc sw⟩
      unfold ixC at hc
      split at hc
      · rename_i l n
        obtain ⟨j, hj, rfl⟩ := Option.map_eq_some_iff.mp hc
        obtain ⟨m, hm, hl⟩ := child_some he
        simp only [D.pidx, Option.some.injEq] at hm
        subst hm
        obtain ⟨a, xs, rfl, ha, D1, q1⟩ := o2.listV zz
        obtain ⟨w, C2, ew, ow, _⟩ := q1.at hl
        exact .inl (.inl ⟨a, xs, n, w, rfl, o1.intV, .of ha, by unfold atI; rw [q1.length, hj]; exact ew, fin w ⟨a, xs, rfl, ha, ew⟩⟩)
      · rename_i ks vs0 
        split at hc
        · rename_i hkk
          cases hc
          obtain ⟨a, kvs, rfl, ha, rfl, D1, q1⟩ := o2.dicV zz
          obtain ⟨m, hm, hl⟩ := child_some he
          simp only [D.pidx, hkk, if_true] at hm
          obtain ⟨w, C2, ew, ow, _⟩ := q1.at hl
          have ev := kidx_val hkk hm ew
          exact .inr ⟨a, kvs, toKey _, w, rfl, o1.keyV hkk, ha, ev, fin w ⟨a, kvs, rfl, ha, ev⟩⟩
        · cases hc
      · cases hc
    · cases hf
  · cases hf
/-- .. a field -/
def pFld (f : Pf) (n : Str) : Pf := fun ρ => (f ρ).map fun ip => (ip.1, ip.2 ++ [.fld n])
theorem DP.fld {n : Str} {C : Addr} (hC : Cls X.K C) (hn : NoAttr X.K C n) (ha : DP X a f) (hcl : ∀ ρ i p e, f ρ = some (i, p) → getP ρ (i, p) = some e → (∃ C' ns vs, e = .ins C' ns vs) → ∃ ns vs, e = .ins C ns vs) (hb : attributeBase a n X.env (eval a X.env) = eval a X.env := by rfl) : DP X (.Attribute a n pos) (pFld f n) := by
  refine PE.imp (pe_fld ha hb) fun σ H Q ⟨κ, ρ, τ, vs, j, p', d, e', st, hf, hd, he, k⟩ => ?_
  unfold pFld at hf
  obtain ⟨⟨i, p⟩, h1, h2⟩ := Option.map_eq_some_iff.mp hf
  cases h2
  rw [childP_snoc] at he
  obtain ⟨e, he2, he3⟩ := Option.bind_eq_some_iff.mp he
  refine ⟨κ, ρ, τ, vs, i, p, d, e, st, h1, hd, he2, fun v H1 s1 st1 ⟨x, hx, hat⟩ => ?_⟩
  obtain ⟨Z, A, B, C0, cc, tt, gg, o2, zz⟩ := Stt.peek st1 hd he2 hx hat
  obtain ⟨m, hm, hl⟩ := child_some he3
  have hins : ∃ C' ns vs, e = .ins C' ns vs := by
    cases e with
    | ins C ns vs => exact ⟨_, _, _, rfl⟩
    | lst o l => cases o <;> simp [D.pidx] at hm
    | dic o l => cases o <;> simp [D.pidx] at hm
    | _ => simp [D.pidx] at hm
  obtain ⟨ns, vs0, rfl⟩ := hcl ρ i p e h1 (by unfold getP; simp [hd, he2]) hins
  obtain ⟨w, Cw, Rw, sw, ow, _, _⟩ := o2.outC he3
  obtain ⟨a, C', dx, fs, rfl, hH, hlk⟩ := sw
  have ec : C' = C := by
    cases o2 with
    | ins h1 => 
      rw [hH] at h1
      cases h1
      rfl
  subst ec
  exact ⟨a, C', dx, fs, w, rfl, hH, hC, hn, hlk, k w H1 s1 st1 ⟨x, hx, hat.snoc ⟨a, C', dx, fs, rfl, hH, hlk⟩⟩⟩

/-! ### reads -/
/-- what stands at a place is read: it is not owned -/
def eRd (f : Pf) : Cm Tm := fun ρ => match f ρ with
  | some ip => match getP ρ ip with
    | some d => if d.own then .bad else .ok (.v d) ρ
    | none => .bad
  | none => .bad
theorem DE.rd (h : DP X e f) : DE X W true e (eRd f) := by
  refine PE.imp h fun σ H Q ⟨κ, ρ, τ, vs, st, w⟩ => ?_
  unfold eRd at w
  split at w
  · rename_i ip hf
    obtain ⟨i, p⟩ := ip
    split at w
    · rename_i d hg
      split at w
      · exact w.elim
      · rename_i n
        obtain ⟨d0, hd, he⟩ := getP_some hg
        refine tDP_of st hf hg fun v H' s st' ⟨x, hx, hat⟩ => ?_
        obtain ⟨Z, A, B, C, cc, tt, gg, o, zz⟩ := Stt.peek st' hd he hx hat
        have z := o.noown (by simpa using n)
        subst z
        exact w v H' (.mk cc tt gg o) fun _ => ⟨rfl, s⟩
    · exact w.elim
  · exact w.elim
/-- a place as a value that is looked at: by a built-in with one argument -/
def eCaP (g : List D → Option D) (f : Pf) : Cm Tm := fun ρ => match f ρ with
  | some ip => match (getP ρ ip).bind fun d => g [d] with
    | some c => .ok (.v c) ρ
    | none => .bad
  | none => .bad
theorem caP_imp {K : PySem.W.Frag} {r : List V → Hp → VK → Prop} {gg : List D → Option D} (hr : CaD K r gg) {σ : St} {H : Hp} {Q : VK} (h : tD K W true (eCaP gg f) σ H Q) : tDP K f σ H (fun x H1 => r [x] H1 Q) := by
  obtain ⟨κ, ρ, τ, vs, st, w⟩ := h
  unfold eCaP at w
  split at w
  · rename_i ip hf
    obtain ⟨i, p⟩ := ip
    split at w
    · rename_i c hg
      obtain ⟨d, h1, h2⟩ := Option.bind_eq_some_iff.mp hg
      obtain ⟨d0, hd, he⟩ := getP_some h1
      refine tDP_of st hf h1 fun v H' s st' ⟨x, hx, hat⟩ => ?_
      obtain ⟨Z, A, B, C, cc, tt, gg', o, zz⟩ := Stt.peek st' hd he hx hat
      exact hr κ ρ τ vs σ H' Z A B [d] [v] c Q cc tt gg' (.cons o .nil) zz h2 fun v2 H2 s2 sm => w v2 H2 s2 fun _ => ⟨rfl, s.trans sm⟩
    · exact w.elim
  · exact w.elim
theorem tOne {X : Cx} {te : TE} (h : PE X a te) (hs : starEach [a] X.env = (false, eval a X.env) :: starEach [] X.env := by rfl) : PA X [a] (fun σ H Q => te σ H fun x H1 => Q [x] H1) :=
  PA.imp (pa_cons h pa_nil hs) fun σ H Q h => h
theorem DE.biP {x : Str} {p : Pos} {id : String} {r : List V → Hp → VK → Prop} {gg : List D → Option D} (hc : CallR X (.builtin id) r) (hr : CaD X.K r gg) (hm : X.mg x = none) (hv : bootBuiltins x = some (.builtin id)) (ha : DP X a f) (hg : Gl X x := by rfl) (hn : x ≠ "__name__" := by decide) (hdb : (x == ("__debug__" : Str)) = false := by decide)
    (he : starEach [a] X.env = (false, eval a X.env) :: starEach [] X.env := by rfl) (hpl : (backTo pos (starEach [] X.env)).any (·.1) = false := by rfl) : DE X W true (.Call (.Name x p) [a] [] pos) (eCaP gg f) :=
  PE.imp (pe_callB hc hg hm hv (tOne ha he) hn hdb he hpl) fun _ _ _ h => caP_imp hr h
theorem DE.tyP {x : Str} {p : Pos} {T : String} {r : List V → Hp → VK → Prop} {gg : List D → Option D} (hc : CallR X (.type T) r) (hr : CaD X.K r gg) (hm : X.mg x = none) (hv : bootBuiltins x = some (.type T)) (ha : DP X a f) (hg : Gl X x := by rfl) (hn : x ≠ "__name__" := by decide) (hdb : (x == ("__debug__" : Str)) = false := by decide)
    (he : starEach [a] X.env = (false, eval a X.env) :: starEach [] X.env := by rfl) (hpl : (backTo pos (starEach [] X.env)).any (·.1) = false := by rfl) : DE X W true (.Call (.Name x p) [a] [] pos) (eCaP gg f) :=
  PE.imp (pe_callTy hc hg hm hv (tOne ha he) hn hdb he hpl) fun _ _ _ h => caP_imp hr h

/-! ### methods that change what stands at a place -/
/-- a method's law, by data: of the receiver's data and the arguments' the answer and the receiver's data behind it -/
def MuD (K : PySem.W.Frag) (r : V → List V → Hp → VK → Prop) (g : D → List D → Option (D × D)) : Prop :=
  ∀ (κ : Fr) (ρ : Env) (τ : List Tm) (vs : List V) (σ : St) (H : Hp) (d : D) (x : V) (ds : List D) (xs : List V) (c d' : D) (Q : VK), Stt K κ ρ (tms ds ++ (.v d :: τ)) (xs ++ (x :: vs)) σ H → xs.length = ds.length → g d ds = some (c, d') →
    (∀ v H', Stt K κ ρ (.v c :: (.v d' :: τ)) (v :: (x :: vs)) σ H' → Q v H') → r x xs H Q
/-- a built-in type's name, of data -/
def tyD (T : String) (d : D) : Bool := match d with
  | .lst _ _ => T == "list"
  | .dic _ _ _ => T == "dict"
  | .str _ => T == "str"
  | _ => false
theorem tyD_ok {K : PySem.W.Frag} {H Z : Hp} {T : String} {d : D} {v : V} {C : List Addr} (zz : Same Z H) (o : O K H Z d v C) (h : tyD T d = true) : tyV K T v H := by
  cases d with
  | lst b l =>
    obtain ⟨p, xs, rfl, hp, _⟩ := o.listV zz
    exact .inl ⟨by simpa [tyD] using h, xs, .of hp⟩
  | dic b ks l =>
    obtain ⟨p, xs, rfl, hp, _⟩ := o.dicV zz
    exact .inr (.inr (.inl ⟨by simpa [tyD] using h, .inl ⟨xs, hp⟩⟩))
  | str l =>
    rw [o.strV]
    exact (show T = "str" by simpa [tyD] using h)
  | _ => simp [tyD] at h
theorem Stt.lend {K : PySem.W.Frag} {κ : Fr} {ρ ρ2 : Env} {ts τ : List Tm} {xs vs : List V} {σ : St} {H : Hp} {ds : List D} (h : Stt K κ ρ (ts ++ τ) (xs ++ vs) σ H) (hl : xs.length = ts.length) (e : lend ρ ts = some (ds, ρ2)) :
    Stt K κ ρ2 (tms ds ++ τ) (xs ++ vs) σ H ∧ ds.length = xs.length := by
  obtain ⟨Z, A, B, c, t, g⟩ := h
  obtain ⟨B1, B2, rfl, t1, t2⟩ := t.cut hl
  obtain ⟨A2, G, c2, o, p⟩ := lend_os t1 c e
  refine ⟨⟨Z, A2, G ++ B2, c2, o.tms t2, g.sub (.of_perm ?_)⟩, o.length.symm⟩
  rw [← List.append_assoc, ← List.append_assoc]
  exact ((List.perm_append_comm).trans p).append_right B2
/-- place.m(args): the arguments change nothing where the place is within a slot's value -/
def eMut (T : String) (q : Bool) (g : D → List D → Option (D × D)) (f : Pf) (fs : Cm (List Tm)) : Cm Tm := fun ρ => match f ρ with
  | some ip => match getP ρ ip with
    | some d0 => if tyD T d0 = true then (fs ρ).bind fun ts ρ1 => if (q || ip.2.isEmpty) = true then match lend ρ1 ts with
        | some (ds, ρ2) => match getP ρ2 ip with
          | some d => match g d ds with
            | some (c, d') => .ok (.v c) (setP ρ2 ip d')
            | none => .bad
          | none => .bad
        | none => .bad
      else .bad else .bad
    | none => .bad
  | none => .bad
theorem mut_core {K : PySem.W.Frag} {r : V → List V → Hp → VK → Prop} {g : D → List D → Option (D × D)} (hr : MuD K r g) {κ : Fr} {ρ1 ρ2 : Env} {ts τ : List Tm} {xs vs : List V} {σ : St} {H : Hp} {ds : List D} {i : Nat} {p : List Pc} {x v : V} {d c d' : D} {Q : VK}
    (st : Stt K κ ρ1 (ts ++ τ) (xs ++ vs) σ H) (hl : xs.length = ts.length) (le : lend ρ1 ts = some (ds, ρ2)) (hx : σ[i]? = some (some x)) (hat : At H x p v) (hg : getP ρ2 (i, p) = some d) (hgg : g d ds = some (c, d'))
    (w : ∀ u H', Stt K κ (setP ρ2 (i, p) d') (.v c :: τ) (u :: vs) σ H' → Q u H') : r v xs H Q := by
  obtain ⟨s1, hdl⟩ := st.lend hl le
  obtain ⟨d0, hd, he⟩ := getP_some hg
  have s2 := s1.outP hd he hx hat
  have s3 := Stt.turn (τ1 := [.v d]) (v1 := [v]) (τ2 := tms ds) (v2 := xs) rfl (by rw [tms_len]; exact hdl.symm) s2
  refine hr κ _ τ vs σ H d v ds xs c d' Q s3 hdl.symm hgg fun u H' s4 => w u H' ?_
  have s5 := Stt.turn (τ1 := [.v c]) (v1 := [u]) (τ2 := [.v d']) (v2 := [v]) rfl rfl s4
  have hi : i < ρ2.length := (List.getElem?_eq_some_iff.mp hd).1
  have s6 := Stt.inP (p := p) (d := d0) s5 (by rw [List.getElem?_set_self hi]) he
  rw [List.set_set] at s6
  unfold setP
  rw [show ((ρ2[(i, p).1]?).join) = some d0 from by rw [show (i, p).1 = i from rfl, hd]; rfl]
  exact s6
theorem At.stays {H H' : Hp} {x v : V} {p : List Pc} {q : Bool} (h : At H x p v) (hq : (q || p.isEmpty) = true) (s : q = true → Same H H') : At H' x p v := by
  cases p with
  | nil => exact h
  | cons c p =>
    simp at hq
    exact h.same (s hq)
theorem DE.mut {T id : String} {name : Str} {r : V → List V → Hp → VK → Prop} {gg : D → List D → Option (D × D)} (pa : PlainAttrs T) (slot : Slot T name id) (hty : typeOf (.builtin id) = pure (.type "method_descriptor")) (hm : MtR X id r) (hr : MuD X.K r gg)
    (ho : DP X a f) (ha : DA X W q (e :: es) fs)
    (hbase : attributeBase a name X.env (eval a X.env) = eval a X.env := by rfl)
    (hfew : ((backTo cpos (starEach (e :: es) X.env)).all (fun x => !x.1) && (backToKw cpos (keywordEach [] X.env)).all (fun x => x.1.isSome)
      && decide ((e :: es).length + ([] : List Keyword).length + (if ([] : List Keyword).isEmpty then 0 else 1) < 30)) = true := by rfl)
    (hline : (apos.endLine == cpos.line) = true := by rfl) (hs : starEach (e :: es) X.env = (false, eval e X.env) :: starEach es X.env := by rfl) (hplain : (backTo cpos (starEach es X.env)).any (·.1) = false := by rfl) :
    DE X W false (.Call (.Attribute a name apos) (e :: es) [] cpos) (eMut T q gg f fs) := by
  refine PE.imp (pe_bm pa slot hty hm ho ha hbase hfew hline hs hplain) fun σ H Q ⟨κ, ρ, τ, vs, st, w⟩ => ?_
  unfold eMut at w
  split at w
  · rename_i ip hf
    obtain ⟨i, p⟩ := ip
    split at w
    · rename_i d1 hg1
      split at w
      · rename_i ht
        obtain ⟨d0, hd0, he0⟩ := getP_some hg1
        refine tDP_of st hf hg1 fun v H1 sm1 st1 ⟨x, hx, hat⟩ => ⟨?_, κ, ρ, τ, vs, st1, Out.wp_mono (Out.wp_bind w) (fun ts ρ1 w1 xs H2 hl st2 k2 => ?_) fun _ _ z => z⟩
        · obtain ⟨Z, A, B, C, cc, tt, gg', o, zz⟩ := Stt.peek st1 hd0 he0 hx hat
          exact tyD_ok zz o ht
        · split at w1
          · rename_i hq
            split at w1
            · rename_i ds ρ2 hle
              split at w1
              · rename_i d hg2
                split at w1
                · rename_i c d' hgg
                  exact mut_core hr st2 hl hle hx (hat.stays hq fun z => (k2 z).2) hg2 hgg fun u H' s3 => w1 u H' s3 fun z => nomatch z
                · exact w1.elim
              · exact w1.elim
            · exact w1.elim
          · exact w1.elim
      · exact w.elim
    · exact w.elim
  · exact w.elim
def eMut0 (T : String) (g : D → List D → Option (D × D)) (f : Pf) : Cm Tm := eMut T true g f aNil
theorem DE.mut0 {T id : String} {name : Str} {r : V → List V → Hp → VK → Prop} {gg : D → List D → Option (D × D)} (pa : PlainAttrs T) (slot : Slot T name id) (hty : typeOf (.builtin id) = pure (.type "method_descriptor")) (hm : MtR X id r) (hr : MuD X.K r gg)
    (ho : DP X a f) (hbase : attributeBase a name X.env (eval a X.env) = eval a X.env := by rfl) (hline : (apos.endLine == cpos.line) = true := by rfl) :
    DE X W false (.Call (.Attribute a name apos) [] [] cpos) (eMut0 T gg f) := by
  refine PE.imp (pe_bm0 pa slot hty hm ho hbase hline) fun σ H Q ⟨κ, ρ, τ, vs, st, w⟩ => ?_
  unfold eMut0 eMut at w
  split at w
  · rename_i ip hf
    obtain ⟨i, p⟩ := ip
    split at w
    · rename_i d1 hg1
      split at w
      · rename_i ht
        obtain ⟨d0, hd0, he0⟩ := getP_some hg1
        refine tDP_of st hf hg1 fun v H1 sm1 st1 ⟨x, hx, hat⟩ => ⟨?_, ?_⟩
        · obtain ⟨Z, A, B, C, cc, tt, gg', o, zz⟩ := Stt.peek st1 hd0 he0 hx hat
          exact tyD_ok zz o ht
        · simp only [aNil, Out.bind_ok, Bool.true_or, if_true] at w
          split at w
          · rename_i ds ρ2 hle
            split at w
            · rename_i d hg2
              split at w
              · rename_i c d' hgg
                exact mut_core (ts := []) (xs := []) hr st1 rfl hle hx hat hg2 hgg fun u H' s3 => w u H' s3 fun z => nomatch z
              · exact w.elim
            · exact w.elim
          · exact w.elim
      · exact w.elim
    · exact w.elim
  · exact w.elim

/-! ### the methods -/
/-- .append(x) -/
def appD : D → List D → Option (D × D)
  | .lst true l, [d] => if l.length < sizeLine then some (.non, .lst true (l ++ [d])) else none
  | _, _ => none
theorem mu_append {K : PySem.W.Frag} : MuD K rAppend appD := by
  intro κ ρ τ vs σ H d x ds xs c d' Q st hl e k
  unfold appD at e
  split at e
  · rename_i l d
    split at e
    · rename_i hz
      cases e
      obtain ⟨y, rfl⟩ := List.length_eq_one_iff.mp hl
      obtain ⟨p, zs, rfl, hp, hlen, s⟩ := Stt.app st
      exact ⟨p, zs, y, rfl, rfl, hp, by omega, k _ _ s.pushN⟩
    · cases e
  · cases e
/-- .pop() -/
def popD : D → List D → Option (D × D)
  | .lst true l, [] => match l[l.length - 1]? with
    | some d => some (d, .lst true l.dropLast)
    | none => none
  | _, _ => none
theorem Os.eraseIdx {K : PySem.W.Frag} {H Z : Hp} : ∀ {l : List D} {xs : List V} {A : List Addr} {n : Nat} {d : D}, Os K H Z l xs A → l[n]? = some d → ∃ v C R, xs[n]? = some v ∧ O K H Z d v C ∧ Os K H Z (l.eraseIdx n) (xs.eraseIdx n) R ∧ (C ++ R).Perm A
  | [], _, _, n, _, .nil, h => by simp at h
  | d :: l, _, _, 0, e, @Os.cons _ _ _ _ v A0 _ vs B0 h1 h2, h => by
    simp only [List.getElem?_cons_zero, Option.some.injEq] at h
    subst h
    exact ⟨v, A0, B0, rfl, h1, h2, .refl _⟩
  | d :: l, _, _, n + 1, e, @Os.cons _ _ _ _ v A0 _ vs B0 h1 h2, h => by
    obtain ⟨w, C, R, e1, o, os, p⟩ := Os.eraseIdx h2 (by simpa using h)
    refine ⟨w, C, A0 ++ R, by simpa using e1, o, .cons h1 os, ?_⟩
    have p1 : (C ++ (A0 ++ R)).Perm (A0 ++ (C ++ R)) := by
      rw [← List.append_assoc, ← List.append_assoc]
      exact List.perm_append_comm.append_right _
    exact p1.trans (p.append_left _)
theorem pop_core {K : PySem.W.Frag} {κ : Fr} {ρ : Env} {τ : List Tm} {vs : List V} {σ : St} {H : Hp} {x : V} {es l : List D} {ys : List V} {n : Nat} {d : D} (st : Stt K κ ρ (tms es ++ (.v (.lst true l) :: τ)) (ys ++ (x :: vs)) σ H) (hy : ys.length = es.length) (hd : l[n]? = some d) :
    ∃ p xs v, x = .ref p ∧ H p = some (.lst xs) ∧ xs.length = l.length ∧ xs[n]? = some v ∧ Stt K κ ρ (.v d :: (.v (.lst true (l.eraseIdx n)) :: τ)) (v :: (x :: vs)) σ (upd H p (.lst (xs.eraseIdx n))) := by
  obtain ⟨p, xs, e, hp, hln, k⟩ := Stt.chgO st hy
  have hn := (List.getElem?_eq_some_iff.mp hd).1
  have hx : xs[n]? = some (xs[n]'(by omega)) := List.getElem?_eq_getElem (by omega)
  refine ⟨p, xs, _, e, hp, hln, hx, ?_⟩
  refine k (xs.eraseIdx n) [xs[n]'(by omega)] (l.eraseIdx n) [d] fun Z A B _ _ o2 => ?_
  obtain ⟨v, C, R, ev, o, os, pp⟩ := o2.eraseIdx hd
  rw [hx] at ev
  cases ev
  refine ⟨C, R, ?_, os, (Sub.of_perm pp).trans sub_right⟩
  have := Os.cons o (Os.nil (K := K) (H := H) (Z := Z))
  rw [List.append_nil] at this
  exact this
theorem eraseIdx_last {α : Type} (l : List α) : l.eraseIdx (l.length - 1) = l.dropLast := by
  rw [List.eraseIdx_eq_take_drop_succ, List.dropLast_eq_take]
  cases l with
  | nil => simp
  | cons a l => simp
theorem mu_pop {K : PySem.W.Frag} : MuD K rPop popD := by
  intro κ ρ τ vs σ H d x ds xs c d' Q st hl e k
  unfold popD at e
  split at e
  · rename_i l
    split at e
    · rename_i d hd
      cases e
      obtain rfl := List.length_eq_zero_iff.mp hl
      obtain ⟨p, zs, v, rfl, hp, hln, ev, s⟩ := pop_core st rfl hd
      refine ⟨p, zs, v, rfl, rfl, hp, by rw [hln]; exact ev, ?_⟩
      rw [eraseIdx_last] at s
      rw [show l.length - 1 = zs.length - 1 by rw [hln], eraseIdx_last] at s
      exact k _ _ s
    · cases e
  · cases e
/-- .pop(i) -/
noncomputable def popAtD : D → List D → Option (D × D)
  | .lst true l, [.int i] => if inR i then match ixN l.length i with
    | some n => match l[n]? with
      | some d => some (d, .lst true (l.eraseIdx n))
      | none => none
    | none => none else none
  | _, _ => none
theorem mu_popAt {K : PySem.W.Frag} : MuD K rPopAt popAtD := by
  intro κ ρ τ vs σ H d x ds xs c d' Q st hl e k
  unfold popAtD at e
  split at e
  · rename_i l i
    split at e
    · rename_i hi
      split at e
      · rename_i n hn
        split at e
        · rename_i d hd
          cases e
          obtain ⟨y, rfl⟩ := List.length_eq_one_iff.mp hl
          have ey : y = .int i := Stt.intV (K := K) (κ := κ) (ρ := ρ) (σ := σ) (H := H) st
          subst ey
          obtain ⟨p, zs, v, rfl, hp, hln, ev, s⟩ := pop_core (es := [.int i]) st rfl hd
          exact ⟨p, zs, i, n, v, rfl, rfl, hp, by have := hi.lo; omega, by have := hi.hi; omega, by rw [hln]; exact (ixN_seq hn).1, ev, k _ _ s⟩
        · cases e
      · cases e
    · cases e
  · cases e
/-- .reverse(), .clear() -/
def revD : D → List D → Option (D × D)
  | .lst true l, [] => some (.non, .lst true l.reverse)
  | _, _ => none
theorem Os.rev {K : PySem.W.Frag} {H Z : Hp} : ∀ {l : List D} {xs : List V} {A : List Addr}, Os K H Z l xs A → ∃ B, Os K H Z l.reverse xs.reverse B ∧ B.Perm A
  | [], _, _, .nil => ⟨[], .nil, .refl _⟩
  | d :: l, _, _, @Os.cons _ _ _ _ v A0 _ vs B0 h1 h2 => by
    obtain ⟨B, o, p⟩ := Os.rev h2
    refine ⟨B ++ (A0 ++ []), ?_, ?_⟩
    · rw [List.reverse_cons, List.reverse_cons]
      exact o.append (.cons h1 .nil)
    · rw [List.append_nil]
      exact (List.perm_append_comm).trans (p.append_left A0)
theorem mu_reverse {K : PySem.W.Frag} : MuD K rReverse revD := by
  intro κ ρ τ vs σ H d x ds xs c d' Q st hl e k
  unfold revD at e
  split at e
  · rename_i l
    cases e
    obtain rfl := List.length_eq_zero_iff.mp hl
    obtain ⟨p, zs, rfl, hp, hln, kk⟩ := Stt.chg (es := []) (ys := []) st rfl
    refine ⟨p, zs, rfl, rfl, hp, k _ _ (Stt.pushN (kk zs.reverse l.reverse fun Z A B _ _ o => ?_))⟩
    obtain ⟨C, o2, p2⟩ := o.rev
    exact ⟨C, o2, (Sub.of_perm p2).trans sub_right⟩
  · cases e
def clrD : D → List D → Option (D × D)
  | .lst true l, [] => some (.non, .lst true [])
  | _, _ => none
theorem mu_clear {K : PySem.W.Frag} : MuD K rClear clrD := by
  intro κ ρ τ vs σ H d x ds xs c d' Q st hl e k
  unfold clrD at e
  split at e
  · rename_i l
    cases e
    obtain rfl := List.length_eq_zero_iff.mp hl
    obtain ⟨p, zs, rfl, hp, hln, kk⟩ := Stt.chg (es := []) (ys := []) st rfl
    exact ⟨p, zs, rfl, rfl, hp, k _ _ (Stt.pushN (kk [] [] fun Z A B _ _ o => ⟨[], .nil, A ++ B, by simp⟩))⟩
  · cases e
/-- .extend(list) -/
def extD : D → List D → Option (D × D)
  | .lst true l, [.lst _ m] => if D.owns m = false ∧ l.length + m.length ≤ sizeLine then some (.non, .lst true (l ++ m)) else none
  | _, _ => none
theorem mu_extend {K : PySem.W.Frag} : MuD K rExtend extD := by
  intro κ ρ τ vs σ H d x ds xs c d' Q st hl e k
  unfold extD at e
  split at e
  · rename_i l b m
    split at e
    · rename_i hz
      cases e
      obtain ⟨y, rfl⟩ := List.length_eq_one_iff.mp hl
      obtain ⟨p, zs, rfl, hp, hln, kk⟩ := Stt.chg (es := [.lst b m]) (ys := [y]) st rfl
      obtain ⟨Z, A, B, C, cc, tt, gg, o, zz⟩ := Stt.opn (d := .lst b m) (t := .v (.lst b m)) st rfl
      obtain ⟨p2, ys, rfl, hp2, D1, q1⟩ := o.listV zz
      refine ⟨p, p2, zs, ys, rfl, rfl, hp, hp2, by rw [hln, q1.length]; exact hz.2, k _ _ (Stt.pushN (kk _ _ fun Z' A' B' zz' o1 o2 => ?_))⟩
      cases o1 with
      | cons o1 o3 =>
        cases o3
        obtain ⟨p3, ys', e3, hp3, D2, q2⟩ := o1.listV zz'
        cases e3
        rw [hp2] at hp3
        cases hp3
        exact ⟨B' ++ [], o2.append (q2.nil_of hz.1), by rw [List.append_nil]; exact sub_right⟩
    · cases e
  · cases e
end
end Dl

set_option linter.all false
set_option maxRecDepth 100000
/-! Dl13: stores at places; methods that change nothing; insert. -/
namespace Dl
open PySem L2
section
variable {K : PySem.W.Frag} {H Z : Hp}
theorem Os.put : ∀ {l : List D} {xs : List V} {B C : List Addr} {j : Nat} {d : D} {v : V}, Os K H Z l xs B → O K H Z d v C → ∃ A, Os K H Z (l.set j d) (xs.set j v) A ∧ Sub A (C ++ B)
  | [], _, _, C, j, d, v, .nil, o => ⟨[], .nil, C ++ [], by simp⟩
  | a :: l, _, _, C, 0, d, v, @Os.cons _ _ _ _ w A0 _ vs B0 h1 h2, o => ⟨C ++ B0, .cons o h2, .app .refl sub_right⟩
  | a :: l, _, _, C, j + 1, d, v, @Os.cons _ _ _ _ w A0 _ vs B0 h1 h2, o => by
    obtain ⟨A, o2, s⟩ := Os.put (j := j) h2 o
    refine ⟨A0 ++ A, .cons h1 o2, (Sub.app .refl s).trans (.of_perm ?_)⟩
    rw [← List.append_assoc, ← List.append_assoc]
    exact List.perm_append_comm.append_right _
theorem Os.dput {k : D} (hk : k.isKey = true) {d : D} {v : V} (o : O K H Z d v []) : ∀ {kvs : List (Key × V)} {ds : List D} {B : List Addr}, Os K H Z ds (kvs.map Prod.snd) B →
    ∃ A, Os K H Z (dputV (kvs.map fun p => keyD p.1) ds k d) ((kvs.map fun kv => if kv.1 = toKey k then (kv.1, v) else kv).map Prod.snd) A ∧ Sub A B
  | [], _, _, .nil => ⟨[], .nil, .refl⟩
  | (k', x) :: kvs, _, _, .cons h1 h2 => by
    obtain ⟨A, o2, s⟩ := Os.dput hk o h2
    simp only [List.map_cons, dputV, keyEq_key k' hk]
    by_cases e : k' = toKey k
    · simp only [e, decide_true, if_true]
      exact ⟨[] ++ A, .cons o o2, s.trans sub_right⟩
    · simp only [e, decide_false, Bool.false_eq_true, if_false]
      exact ⟨_ ++ A, .cons h1 o2, .app .refl s⟩
end
/-- place[e] = value -/
def stD (v k : D) : D → Option D
  | .lst true l => match k with
    | .int n => (ixN l.length n).map fun j => .lst true (l.set j v)
    | _ => none
  | .dic true ks vs => if k.isKey = true ∧ ks.length < sizeLine ∧ v.own = false then some (if dhas ks k = true then .dic true ks (dputV ks vs k v) else .dic true (ks ++ [k]) (vs ++ [v])) else none
  | _ => none
/-- set a key -/
def gSt (f : Pf) (g : Cm Tm) : D → Tg := fun d ρ => match f ρ with
  | some ip => match getP ρ ip, g ρ with
    | some e, .ok t _ => match look ρ t with
      | some k => (stD d k e).map (setP ρ ip)
      | none => none
    | _, _ => none
  | none => none
section
variable {X : Cx} {W : WX} {q q1 q2 : Bool} {a b c e : Expr} {es : List Expr} {f : Pf} {g h : Cm Tm} {fs : Cm (List Tm)} {pos apos cpos : Pos} {i : Nat}
theorem PSet.or {t t' : TSet} (h : PSet X t) (h' : PSet X t') : PSet X (fun o i v H Q => t o i v H Q ∨ t' o i v H Q) := by
  intro pins s σ H o i v ov iv u Q I ro ri rv q
  rcases q with q | q
  · exact h pins s σ H o i v ov iv u Q I ro ri rv q
  · exact h' pins s σ H o i v ov iv u Q I ro ri rv q
theorem st_core {κ : Fr} {ρ : Env} {τ : List Tm} {vs : List V} {σ : St} {H : Hp} {K : PySem.W.Frag} {i : Nat} {p : List Pc} {x v y kv : V} {d e k e' : D} {Q : Hp → Prop} {C : List Addr} {Z0 : Hp}
    (st : Stt K κ ρ (.v d :: τ) (y :: vs) σ H) (hx : σ[i]? = some (some x)) (hat : At H x p v) (hg : getP ρ (i, p) = some e) (ok : O K H Z0 k kv C) (hs : stD d k e = some e')
    (w : ∀ H', Stt K κ (setP ρ (i, p) e') τ vs σ H' → Q H') : rSetL v kv y H Q ∨ rSetD v kv y H Q := by
  obtain ⟨d0, hd, he⟩ := getP_some hg
  have s2 := st.outP hd he hx hat
  have s3 := Stt.turn (τ1 := [.v e]) (v1 := [v]) (τ2 := [.v d]) (v2 := [y]) rfl rfl s2
  have hi : i < ρ.length := (List.getElem?_eq_some_iff.mp hd).1
  have fin : ∀ H', Stt K κ (ρ.set i (some (d0.putP p (.hol v)))) (.v e' :: τ) (v :: vs) σ H' → Q H' := fun H' s5 => by
    have s6 := Stt.inP (p := p) (d := d0) s5 (by rw [List.getElem?_set_self hi]) he
    rw [List.set_set] at s6
    refine w H' ?_
    unfold setP
    rw [show ((ρ[(i, p).1]?).join) = some d0 from by rw [show (i, p).1 = i from rfl, hd]; rfl]
    exact s6
  unfold stD at hs
  split at hs
  · rename_i l
    split at hs
    · rename_i n
      obtain ⟨j, hj, rfl⟩ := Option.map_eq_some_iff.mp hs
      obtain ⟨a, xs, rfl, ha, hl, kk⟩ := Stt.chg (es := [d]) (ys := [y]) s3 rfl
      refine .inl ⟨a, xs, n, j, rfl, ok.intV, ha, by rw [hl]; exact hj, fin _ (kk _ _ fun Z A B _ o1 o2 => ?_)⟩
      cases o1 with
      | cons o1 o3 =>
        cases o3
        obtain ⟨A2, o4, s⟩ := o2.put (j := j) o1
        exact ⟨A2, o4, by rw [List.append_nil]; exact s⟩
    · cases hs
  · rename_i ks ds
    split at hs
    · rename_i hc
      obtain ⟨hk, hz, hn⟩ := hc
      obtain ⟨a, kvs, rfl, ha, rfl, hl, kk⟩ := Stt.chgD (es := [d]) (ys := [y]) s3 rfl
      have one : ∀ {Z : Hp} {A : List Addr}, Os K H Z [d] [y] A → O K H Z d y [] := fun {Z A} o => by
        cases o with
        | cons o1 o3 =>
          cases o3
          have z := o1.noown hn
          subst z
          exact o1
      refine .inr ⟨a, _, rfl, .inl ⟨kvs, toKey k, ha, ok.keyV hk, by simpa using hz, rfl⟩, fin _ ?_⟩
      have hh := dhas_kvs hk kvs
      rw [← valV_any] at hh
      unfold putK
      split at hs
      · rename_i hd2
        cases hs
        rw [hh] at hd2
        rw [if_pos hd2]
        have q := kk (kvs.map fun kv => if kv.1 = toKey k then (kv.1, y) else kv) [] (dputV (kvs.map fun p => keyD p.1) ds k d) [] fun Z A B _ o1 o2 => by
          obtain ⟨A2, o4, s⟩ := o2.dput hk (one o1)
          exact ⟨[], A2, .nil, o4, s.trans sub_right⟩
        have ek : ((kvs.map fun kv => if kv.1 = toKey k then (kv.1, y) else kv).map fun p => keyD p.1) = kvs.map fun p => keyD p.1 := by
          rw [List.map_map]
          apply List.map_congr_left
          intro kv _
          simp only [Function.comp]
          split <;> rfl
        rw [ek] at q
        exact q
      · rename_i hd2
        cases hs
        rw [hh] at hd2
        rw [if_neg hd2]
        have q := kk (kvs ++ [(toKey k, y)]) [] (ds ++ [d]) [] fun Z A B _ o1 o2 => by
          refine ⟨[], B ++ ([] ++ []), .nil, ?_, ?_⟩
          · rw [List.map_append]
            exact o2.append (.cons (one o1) .nil)
          · simp only [List.append_nil, List.nil_append]
            exact sub_right
        rw [List.map_append] at q
        simp only [List.map_cons, List.map_nil, keyD_toKey hk] at q
        exact q
    · cases hs
  · cases hs
theorem DG.sub (hu : X.A.units + 1 < cLine) (ho : DP X a f) (hi : DE X W true b g)
    (ha : ∀ v, assign (.Subscript a b pos) X.env v = (do
      let ov ← holding [v] (eval a X.env)
      let iv ← holding [v, ov] (eval b X.env)
      standAt pos
      holding [v, ov, iv] (setItem ov iv v)
      release [v, ov, iv] []) := by intro _; rfl) : DG X [] (.Subscript a b pos) (gSt f g) := by
  refine PG.imp (pg_sub ho hi (PSet.or set_list (set_dict hu)) ha) fun v σ H Q ⟨κ, ρ, τ, vs, d, ρ', vo, st, e, w⟩ => ?_
  unfold gSt at e
  split at e
  · rename_i ip hf
    obtain ⟨i, p⟩ := ip
    split at e
    · rename_i e0 t ρ1 hg ht
      split at e
      · rename_i k hk
        obtain ⟨e', hs, rfl⟩ := Option.map_eq_some_iff.mp e
        refine tDP_of st hf hg fun ov H1 sm1 st1 ⟨x, hx, hat⟩ => ⟨κ, ρ, _, _, st1, ?_⟩
        rw [ht]
        intro iv H2 st2 k2
        obtain ⟨rfl, sm2⟩ := k2 rfl
        obtain ⟨Z, A, B, C, cc, tt, gg, o, zz⟩ := st2.opn hk
        exact st_core st2.pop hx (hat.same sm2) hg o hs fun H' s3 => w σ H' rfl Frm.refl s3
      · cases e
    · cases e
  · cases e
/-- .insert(i, x) -/
noncomputable def insD : D → List D → Option (D × D)
  | .lst true l, [.int i, d] => if 0 ≤ i ∧ inR i ∧ l.length < sizeLine then some (.non, .lst true (l.take i.toNat ++ [d] ++ l.drop i.toNat)) else none
  | _, _ => none
theorem Os.insert {K : PySem.W.Frag} {H Z : Hp} {d : D} {v : V} {C : List Addr} (o : O K H Z d v C) : ∀ {l : List D} {xs : List V} {B : List Addr} (n : Nat), Os K H Z l xs B → ∃ A, Os K H Z (l.take n ++ [d] ++ l.drop n) (xs.take n ++ [v] ++ xs.drop n) A ∧ A.Perm (C ++ B)
  | l, xs, B, 0, h => ⟨C ++ B, by simpa using Os.cons o h, .refl _⟩
  | [], _, _, n + 1, .nil => ⟨C ++ [], by simpa using Os.cons o .nil, .refl _⟩
  | a :: l, _, _, n + 1, @Os.cons _ _ _ _ w A0 _ vs B0 h1 h2 => by
    obtain ⟨A, o2, p⟩ := Os.insert o n h2
    refine ⟨A0 ++ A, by simpa using Os.cons h1 o2, (p.append_left A0).trans ?_⟩
    rw [← List.append_assoc, ← List.append_assoc]
    exact List.perm_append_comm.append_right _
theorem mu_insert {K : PySem.W.Frag} : MuD K (fun x vs H Q => ∃ (l : Addr) (xs : List V) (i : Int) (y : V), x = .ref l ∧ vs = [.int i, y] ∧ H l = some (.lst xs) ∧ xs.length < sizeLine ∧ 0 ≤ i ∧ i < 2 ^ 63 ∧
    Q .non (upd H l (.lst (xs.take i.toNat ++ [y] ++ xs.drop i.toNat)))) insD := by
  intro κ ρ τ vs σ H d x ds xs c d' Q st hl e k
  unfold insD at e
  split at e
  · rename_i l i d
    split at e
    · rename_i hz
      cases e
      obtain ⟨y1, y2, rfl⟩ : ∃ a b, xs = [a, b] := match xs, hl with | [a, b], _ => ⟨a, b, rfl⟩
      have ey : y1 = .int i := Stt.intV (K := K) (κ := κ) (ρ := ρ) (σ := σ) (H := H) st
      subst ey
      obtain ⟨p, zs, rfl, hp, hln, kk⟩ := Stt.chg (es := [.int i, d]) (ys := [.int i, y2]) st rfl
      refine ⟨p, zs, i, y2, rfl, rfl, hp, by omega, hz.1, by have := hz.2.1.hi; omega, k _ _ (Stt.pushN (kk _ _ fun Z A B _ o1 o2 => ?_))⟩
      cases o1 with
      | cons o1 o3 =>
        cases o3 with
        | cons o3 o4 =>
          cases o4
          obtain ⟨A2, o5, p5⟩ := o2.insert o3 i.toNat
          refine ⟨A2, o5, (Sub.of_perm p5).trans ?_⟩
          rw [List.append_nil]
          exact .app sub_right .refl
    · cases e
  · cases e

/-! ### methods that change nothing -/
/-- receiver and arguments together -/
def rMe (r : V → List V → Hp → VK → Prop) : List V → Hp → VK → Prop := fun zs H Q => ∃ x xs, zs = x :: xs ∧ r x xs H Q
def eMe (T : String) (gg : List D → Option D) (g : Cm Tm) (fs : Cm (List Tm)) : Cm Tm := fun ρ => (g ρ).bind fun t ρ1 => match look ρ1 t with
  | some d0 => if tyD T d0 = true then (fs ρ1).bind fun ts ρ2 => match looks ρ2 (t :: ts) with
      | some ds => match gg ds with
        | some c => .ok (.v c) ρ2
        | none => .bad
      | none => .bad
    else .bad
  | none => .bad
theorem me_rest {K : PySem.W.Frag} {W : WX} {r : V → List V → Hp → VK → Prop} {gg : List D → Option D} (hr : CaD K (rMe r) gg) {κ : Fr} {ρ0 ρ2 : Env} {τ : List Tm} {vs : List V} {σ : St} {H2 : Hp} {t : Tm} {ts : List Tm} {v : V} {xs : List V} {Q : VK} {P : Tm → Env → Prop} {E : Exn → Env → Prop}
    (st2 : Stt K κ ρ2 (ts ++ (t :: τ)) (xs ++ (v :: vs)) σ H2) (hl : xs.length = ts.length) (w : Out.wp (match looks ρ2 (t :: ts) with
      | some ds => match gg ds with
        | some c => Out.ok (Tm.v c) ρ2
        | none => .bad
      | none => .bad) P E) (k : ∀ c, P (.v c) ρ2 → ∀ v H', Stt K κ ρ2 (.v c :: τ) (v :: vs) σ H' → Same H2 H' → Q v H') : r v xs H2 Q := by
  split at w
  · rename_i ds hd
    split at w
    · rename_i c hc
      have st3 := Stt.turn (τ1 := ts) (v1 := xs) (τ2 := [t]) (v2 := [v]) hl rfl st2
      obtain ⟨Z, A, B, cc, tt, gg', ow, zz⟩ := Stt.opns (ts := t :: ts) (xs := v :: xs) st3 (by simp [hl]) hd
      obtain ⟨x, ys, e, q⟩ := hr κ ρ2 τ vs σ H2 Z A B ds (v :: xs) c Q cc tt gg' ow zz hc fun u H' s' sm => k c w u H' s' sm
      cases e
      exact q
    · exact w.elim
  · exact w.elim
theorem DE.me {T id : String} {name : Str} {r : V → List V → Hp → VK → Prop} {gg : List D → Option D} (pa : PlainAttrs T) (slot : Slot T name id) (hty : typeOf (.builtin id) = pure (.type "method_descriptor")) (hm : MtR X id r) (hr : CaD X.K (rMe r) gg)
    (ho : DE X W q1 a g) (ha : DA X W q2 (e :: es) fs)
    (hbase : attributeBase a name X.env (eval a X.env) = eval a X.env := by rfl)
    (hfew : ((backTo cpos (starEach (e :: es) X.env)).all (fun x => !x.1) && (backToKw cpos (keywordEach [] X.env)).all (fun x => x.1.isSome)
      && decide ((e :: es).length + ([] : List Keyword).length + (if ([] : List Keyword).isEmpty then 0 else 1) < 30)) = true := by rfl)
    (hline : (apos.endLine == cpos.line) = true := by rfl) (hs : starEach (e :: es) X.env = (false, eval e X.env) :: starEach es X.env := by rfl) (hplain : (backTo cpos (starEach es X.env)).any (·.1) = false := by rfl) :
    DE X W (q1 && q2) (.Call (.Attribute a name apos) (e :: es) [] cpos) (eMe T gg g fs) := by
  refine PE.imp (pe_bm pa slot hty hm ho ha hbase hfew hline hs hplain) fun σ H Q ⟨κ, ρ, τ, vs, st, w⟩ => ?_
  refine ⟨κ, ρ, τ, vs, st, Out.wp_mono (Out.wp_bind w) (fun t ρ1 w1 v H1 st1 k1 => ?_) fun _ _ z => z⟩
  try dsimp only at w1
  split at w1
  · rename_i d0 hd0
    split at w1
    · rename_i ht
      obtain ⟨Z, A, B, C, cc, tt, gg', o, zz⟩ := st1.opn hd0
      refine ⟨tyD_ok zz o ht, κ, ρ1, t :: τ, v :: vs, st1, Out.wp_mono (Out.wp_bind w1) (fun ts ρ2 w2 xs H2 hl st2 k2 => ?_) fun e ρ2 z H2 d s2 eo => z H2 d s2.pop eo⟩
      exact me_rest (W := W) (ρ0 := ρ) hr st2 hl w2 fun c w3 u H' s' sm => w3 u H' s' fun hq => by
        rw [Bool.and_eq_true] at hq
        exact ⟨(k2 hq.2).1.trans (k1 hq.1).1, ((k1 hq.1).2.trans (k2 hq.2).2).trans sm⟩
    · exact w1.elim
  · exact w1.elim
theorem DE.me0 {T id : String} {name : Str} {r : V → List V → Hp → VK → Prop} {gg : List D → Option D} (pa : PlainAttrs T) (slot : Slot T name id) (hty : typeOf (.builtin id) = pure (.type "method_descriptor")) (hm : MtR X id r) (hr : CaD X.K (rMe r) gg)
    (ho : DE X W q a g) (hbase : attributeBase a name X.env (eval a X.env) = eval a X.env := by rfl) (hline : (apos.endLine == cpos.line) = true := by rfl) :
    DE X W q (.Call (.Attribute a name apos) [] [] cpos) (eMe T gg g aNil) := by
  refine PE.imp (pe_bm0 pa slot hty hm ho hbase hline) fun σ H Q ⟨κ, ρ, τ, vs, st, w⟩ => ?_
  refine ⟨κ, ρ, τ, vs, st, Out.wp_mono (Out.wp_bind w) (fun t ρ1 w1 v H1 st1 k1 => ?_) fun _ _ z => z⟩
  try dsimp only at w1
  split at w1
  · rename_i d0 hd0
    split at w1
    · rename_i ht
      obtain ⟨Z, A, B, C, cc, tt, gg', o, zz⟩ := st1.opn hd0
      refine ⟨tyD_ok zz o ht, ?_⟩
      exact me_rest (W := W) (ρ0 := ρ) (ts := []) (xs := []) hr st1 rfl w1 fun c w3 u H' s' sm => w3 u H' s' fun hq => ⟨(k1 hq).1, (k1 hq).2.trans sm⟩
    · exact w1.elim
  · exact w1.elim
/-- a.join(texts) -/
def joinL (a : List Nat) : List (List Nat) → List Nat
  | [] => []
  | [x] => x
  | x :: y :: r => x ++ a ++ joinL a (y :: r)
def joinD : List D → Option D
  | [.str a, .lst _ l] => (strsL l).bind fun ys => if (ys.map List.length).sum + ys.length * a.length ≤ 16777216 then some (.str (joinL a ys)) else none
  | [.str a, .tup l] => (strsL l).bind fun ys => if (ys.map List.length).sum + ys.length * a.length ≤ 16777216 then some (.str (joinL a ys)) else none
  | _ => none
end
end Dl

set_option linter.all false
set_option maxRecDepth 100000
/-! Dl14: texts joined, lists made of ranges and texts, sorted lists, membership, texts of scalars. -/
namespace Dl
open PySem PySem.Spec PyProof.Rows L2
section
variable {K : PySem.W.Frag}
theorem str_join0 (a : List Nat) : ∀ ys : List (List Nat), Str.join (⟨a.toArray⟩ : Str) (ys.map fun n => (⟨n.toArray⟩ : Str)) = ⟨(joinL a ys).toArray⟩
  | [] => rfl
  | [x] => rfl
  | x :: y :: r => by
    have ih := str_join0 a (y :: r)
    show (⟨x.toArray⟩ : Str) ++ ⟨a.toArray⟩ ++ Str.join (⟨a.toArray⟩ : Str) ((y :: r).map fun n => (⟨n.toArray⟩ : Str)) = _
    rw [ih, str_app, str_app]
    rfl
theorem str_join (a : List Nat) (ys : List (List Nat)) : Txt.join (⟨a.toArray⟩ : Str) (ys.map fun n => (⟨n.toArray⟩ : Str)) = ⟨(joinL a ys).toArray⟩ :=
  (PySem.StrLaws.glued_eq_join _ _).trans (str_join0 a ys)
theorem strs_len (ys : List (List Nat)) : ((ys.map fun n => (⟨n.toArray⟩ : Str)).map (·.length)) = ys.map List.length := by
  rw [List.map_map]
  apply List.map_congr_left
  intro x _
  exact str_len x
abbrev rJoin (K : PySem.W.Frag) : V → List V → Hp → VK → Prop := fun x xs H Q => ∃ a p, ∃ ys : List Str, x = .str a ∧ xs = [.ref p] ∧ (SqL K H p (ys.map V.str) ∨ SqT K H p (ys.map V.str)) ∧
    (ys.map (·.length)).sum + ys.length * a.length ≤ 16777216 ∧ Q (.str (Txt.join a ys)) H
theorem ca_join : CaD K (rMe (rJoin K)) joinD := by
  intro κ ρ τ vs σ H Z A B ds xs c Q cc tt gg ow zz e k
  have fin : ∀ (a : List Nat) (ys : List (List Nat)), (ys.map List.length).sum + ys.length * a.length ≤ 16777216 → c = .str (joinL a ys) →
      (((ys.map fun n => (⟨n.toArray⟩ : Str)).map (·.length)).sum + (ys.map fun n => (⟨n.toArray⟩ : Str)).length * (⟨a.toArray⟩ : Str).length ≤ 16777216 ∧ Q (.str (Txt.join (⟨a.toArray⟩ : Str) (ys.map fun n => (⟨n.toArray⟩ : Str)))) H) := fun a ys hz hc => by
    subst hc
    rw [str_join, strs_len, List.length_map, str_len]
    exact ⟨hz, k _ H (.mk cc tt gg (.str _)) (Same.refl H)⟩
  unfold joinD at e
  split at e
  · rename_i a o l
    obtain ⟨ys, e1, e2⟩ := Option.bind_eq_some_iff.mp e
    split at e2
    · rename_i hz
      cases ow with
      | cons o1 o2 =>
        cases o2 with
        | cons o2 o3 =>
          cases o3
          obtain ⟨p, zs, rfl, hp, C2, q1⟩ := o2.listV zz
          have ez := q1.strs e1
          subst ez
          exact ⟨_, _, rfl, _, p, _, o1.strV, rfl, .inl (.of hp), fin a ys hz (Option.some.inj e2).symm⟩
    · cases e2
  · rename_i a l
    obtain ⟨ys, e1, e2⟩ := Option.bind_eq_some_iff.mp e
    split at e2
    · rename_i hz
      cases ow with
      | cons o1 o2 =>
        cases o2 with
        | cons o2 o3 =>
          cases o3
          obtain ⟨p, zs, rfl, hp, q1⟩ := o2.tupV zz
          have ez := q1.strs e1
          subst ez
          exact ⟨_, _, rfl, _, p, _, o1.strV, rfl, .inr hp, fin a ys hz (Option.some.inj e2).symm⟩
    · cases e2
  · cases e

/-! ### list(range), tuple(range), list(text) -/
end
section
variable {X : Cx} {W : WX} {q q1 q2 : Bool} {a b c e : Expr} {f g : Cm Tm} {fs : Cm (List Tm)} {pos p pos' p' : Pos}
noncomputable def inG (lo hi : Int) : Bool := decide (inR lo) && decide (inR hi) && @decide ((hi - lo).toNat ≤ 16777216) (Classical.propDecidable _)
theorem rgOk_of {lo hi : Int} (h : inG lo hi = true) : RgOk lo hi := by
  unfold inG at h
  simp only [Bool.and_eq_true, decide_eq_true_eq] at h
  obtain ⟨⟨h1, h2⟩, h3⟩ := h
  have h4 := h1.two
  have h5 := h2.two
  unfold RgOk
  omega
/-- list(range(..)), tuple(range(..)): t, the kind -/
noncomputable def eRg1 (t : Bool) (f : Cm Tm) : Cm Tm := fun ρ => (f ρ).bind fun t1 ρ1 => match look ρ1 t1 with
  | some (.int n) => if inG 0 n = true then .ok (.v (if t = true then .tup (rngD 0 n.toNat) else .lst true (rngD 0 n.toNat))) ρ1 else .bad
  | _ => .bad
noncomputable def eRg2 (t : Bool) (f g : Cm Tm) : Cm Tm := fun ρ => (f ρ).bind fun t1 ρ1 => (g ρ1).bind fun t2 ρ2 => match look ρ2 t1, look ρ2 t2 with
  | some (.int m), some (.int n) => if inG m n = true then .ok (.v (if t = true then .tup (rngD m (n - m).toNat) else .lst true (rngD m (n - m).toNat))) ρ2 else .bad
  | _, _ => .bad
theorem Os.rng {K : PySem.W.Frag} {H Z : Hp} (lo : Int) : ∀ (n : Nat), Os K H Z (rngD lo n) ((List.range n).map fun (i : Nat) => V.int (lo + (i : Nat))) [] := fun n => by
  unfold rngD
  generalize List.range n = l
  induction l with
  | nil => exact .nil
  | cons i l ih => exact .cons (A := []) (B := []) (.int _) ih
theorem DE.listRg1 (hc : X.calm = true) (hm : X.mg "list" = none) (hm2 : X.mg "range" = none) (ha : DE X W q a f) (hg : Gl X "list" := by rfl) (hg2 : Gl X "range" := by rfl) (na : starEach [a] X.env = (false, eval a X.env) :: starEach [] X.env := by rfl)
    (nb : starEach [.Call (.Name "range" p) [a] [] pos] X.env = (false, eval (.Call (.Name "range" p) [a] [] pos) X.env) :: starEach [] X.env := by rfl) : DE X W q (.Call (.Name "list" p') [.Call (.Name "range" p) [a] [] pos] [] pos') (eRg1 false f) := by
  refine PE.imp (pe_listRg hc hg hm (prg_1 hg2 hm2 ha na) nb) fun σ H Q ⟨κ, ρ, τ, vs, st, w⟩ => ?_
  refine ⟨κ, ρ, τ, vs, st, Out.wp_mono (Out.wp_bind w) (fun t ρ1 w1 v H1 st1 k1 => ?_) fun _ _ z => z⟩
  try dsimp only at w1
  split at w1
  · rename_i n hn
    split at w1
    · rename_i hr
      obtain ⟨Z, A, B, C1, cc, tt, gg, o1, zz⟩ := st1.opn hn
      refine ⟨n, o1.intV, rgOk_of hr, fun r hr => ?_⟩
      have o := Os.rng (K := X.K) (H := H1) (Z := Z) 0 n.toNat
      refine w1 _ _ ?_ fun hq => ⟨(k1 hq).1, (k1 hq).2.trans (Same_new hr)⟩
      have e : rgV 0 n = (List.range n.toNat).map fun (i : Nat) => V.int (0 + (i : Nat)) := by unfold rgV; rw [Int.sub_zero]
      rw [e]
      exact .mkLst cc tt gg o hr
    · exact w1.elim
  · exact w1.elim
theorem DE.listRg2 (hc : X.calm = true) (hm : X.mg "list" = none) (hm2 : X.mg "range" = none) (ha : DE X W q1 a f) (hb : DE X W q2 b g) (hg : Gl X "list" := by rfl) (hg2 : Gl X "range" := by rfl) (na : starEach [a, b] X.env = (false, eval a X.env) :: starEach [b] X.env := by rfl)
    (nb : starEach [b] X.env = (false, eval b X.env) :: starEach [] X.env := by rfl) (hp : (backTo pos (starEach [b] X.env)).any (·.1) = false := by rfl)
    (nc : starEach [.Call (.Name "range" p) [a, b] [] pos] X.env = (false, eval (.Call (.Name "range" p) [a, b] [] pos) X.env) :: starEach [] X.env := by rfl) : DE X W (q1 && q2) (.Call (.Name "list" p') [.Call (.Name "range" p) [a, b] [] pos] [] pos') (eRg2 false f g) := by
  refine PE.imp (pe_listRg hc hg hm (prg_2 hg2 hm2 ha hb na nb hp) nc) fun σ H Q ⟨κ, ρ, τ, vs, st, w⟩ => ?_
  refine ⟨κ, ρ, τ, vs, st, Out.wp_mono (Out.wp_bind w) (fun t ρ1 w1 v H1 st1 k1 => ?_) fun _ _ z => z⟩
  refine ⟨κ, ρ1, t :: τ, v :: vs, st1, Out.wp_mono (Out.wp_bind w1) (fun t2 ρ2 w2 u H2 st2 k2 => ?_) fun e ρ2 z H2 d s2 eo => z H2 d s2.pop eo⟩
  try dsimp only at w2
  split at w2
  · rename_i m n hm hn
    split at w2
    · rename_i hr
      obtain ⟨Z, A, B, C1, C2, cc, tt, gg, o1, o2, zz⟩ := st2.opn2 hn hm
      refine ⟨m, n, o2.intV, o1.intV, rgOk_of hr, fun r hr => ?_⟩
      have o := Os.rng (K := X.K) (H := H2) (Z := Z) m (n - m).toNat
      refine w2 _ _ ?_ fun hq => ?_
      · exact .mkLst cc tt gg o hr
      · rw [Bool.and_eq_true] at hq
        exact ⟨(k2 hq.2).1.trans (k1 hq.1).1, ((k1 hq.1).2.trans (k2 hq.2).2).trans (Same_new hr)⟩
    · exact w2.elim
  · exact w2.elim
/-- list(text) -/
theorem call_list_txt (hc : X.calm = true) : CallR X (.type "list") (fun xs H Q => ∃ z : List Nat, xs = [.str ⟨z.toArray⟩] ∧ z.length ≤ sizeLine ∧ ∀ l, H l = none → Q (.ref l) (upd H l (.lst (z.map fun c => V.str ⟨#[c]⟩)))) := by
  intro pins s σ H xs us Q I r h
  obtain ⟨z, rfl, hz, q⟩ := h
  obtain ⟨u, rfl, t, rfl⟩ := vals1 r
  refine call_list_str (I.ok.hd hc) ⟨z.toArray⟩ t (fun h' tk acc c' hk e' hi => ?_) (by simpa using hz)
  refine ⟨.ref s.heap.objs.size, _, I.laid (o := .lst (z.map fun c => V.str ⟨#[c]⟩)) hk (Nat.le_refl _) (show ObjOk X.prog X.w _ _ _ (.lst _) from ⟨by rw [List.length_map]; exact hz, acc.toList, c', ?_, by rw [Array.toArray_toList]; exact e'⟩), rfl, q _ (I.hok.fresh (Nat.le_refl _))⟩
  have hl : acc.toList.length = z.length := by rw [Array.length_toList, hi.1]; simp
  refine vals_of_at (by rw [List.length_map, hl]) fun j x u hx hu => ?_
  obtain ⟨c, w, ec, rfl⟩ := hi.2 j u (by rw [← hu, Array.getElem?_toList])
  rw [List.getElem?_map] at hx
  have ec' : z[j]? = some c := by simpa using ec
  rw [ec'] at hx
  cases hx
  exact ⟨w, rfl⟩
def listSD : List D → Option D
  | [.str z] => if z.length ≤ sizeLine then some (.lst true (z.map fun c => .str [c])) else none
  | _ => none
theorem ca_listS {K : PySem.W.Frag} : CaD K (fun xs H Q => ∃ z : List Nat, xs = [.str ⟨z.toArray⟩] ∧ z.length ≤ sizeLine ∧ ∀ l, H l = none → Q (.ref l) (upd H l (.lst (z.map fun c => V.str ⟨#[c]⟩)))) listSD := by
  intro κ ρ τ vs σ H Z A B ds xs c Q cc tt gg ow zz e k
  unfold listSD at e
  split at e
  · rename_i z
    split at e
    · rename_i hz
      cases e
      cases ow with
      | cons o1 o2 =>
        cases o2
        refine ⟨z, by rw [o1.strV], hz, fun l hl => k _ _ (.mkLst cc tt gg ?_ hl) (Same_new hl)⟩
        clear hz o1 k
        induction z with
        | nil => exact .nil
        | cons a z ih => exact .cons (A := []) (B := []) (.str [a]) ih
    · cases e
  · cases e

/-! ### sorted(a list) -/
/-- the order of data -/
def leD' (a b : D) : Bool := PySem.W.dataLe false (fun d : D => d.P) a b
def sortD (l : List D) : List D := l.mergeSort leD'
/-- may be sorted: all alike; all tuples with an item, or none a tuple or None -/
def D.scalar : D → Bool
  | .int _ => true
  | .str _ => true
  | .bl _ => true
  | .lst _ _ => true
  | _ => false
def D.tup1 : D → Bool
  | .tup (_ :: _) => true
  | _ => false
def sortOk (l : List D) : Bool := l.all (fun a => l.all fun b => PySem.W.alike a.P b.P) && (l.all D.tup1 || l.all D.scalar) && D.pls l && l.all fun d => decide (d.dep ≤ 64)
def rSortD (K : PySem.W.Frag) : List V → Hp → VK → Prop := fun vs H Q => ∃ (p : Addr) (l : List (V × D)), vs = [V.ref p] ∧ SqL K H p (l.map Prod.fst) ∧ DpAll K H (l.map Prod.fst) (l.map fun x => x.2.P) ∧ sortOk (l.map Prod.snd) = true ∧
  ∀ p', H p' = none → Q (.ref p') (upd H p' (.lst ((l.mergeSort (PySem.W.dataLe false fun x => x.2.P)).map Prod.fst)))
theorem each_of_vals {l : List (V × D)} : ∀ {us : List Value}, Vals (l.map Prod.fst) us → PySem.W.EachIs (fun u (x : V × D) => RelV x.1 u) us l := by
  induction l with
  | nil => intro us h; cases h; exact .nil
  | cons x l ih =>
    intro us h
    cases h with
    | cons r t => exact .cons r (ih t)
theorem vals_of_each {l : List (V × D)} : ∀ {us : List Value}, PySem.W.EachIs (fun u (x : V × D) => RelV x.1 u) us l → Vals (l.map Prod.fst) us := by
  induction l with
  | nil => intro us h; cases h; exact .nil
  | cons x l ih =>
    intro us h
    cases h with
    | cons r t => exact .cons r (ih t)
theorem cr_sortD (hu : X.A.units + 200 < cLine) : CallR X (.builtin "sorted") (rSortD X.K) := by
  intro pins s σ H vs us Q I r h
  obtain ⟨p, l, rfl, hs, hd, ok, q⟩ := h
  obtain ⟨its, rv, hl, hz⟩ := I.list hs
  rw [Vals.ref1 r]
  obtain ⟨as, ra⟩ := Dp.readsAll I _ _ its hd rv
  unfold sortOk at ok
  simp only [Bool.and_eq_true, Bool.or_eq_true, List.all_eq_true] at ok
  obtain ⟨⟨⟨ok1, ok2⟩, ok3⟩, ok4⟩ := ok
  have al : PySem.W.AllAlike (l.map fun x => x.2.P) := fun d hd d' hd' => by
    obtain ⟨x, hx, rfl⟩ := List.mem_map.mp hd
    obtain ⟨x', hx', rfl⟩ := List.mem_map.mp hd'
    exact ok1 x.2 (List.mem_map.mpr ⟨x, hx, rfl⟩) x'.2 (List.mem_map.mpr ⟨x', hx', rfl⟩)
  have so : PySem.W.Sortable (l.map fun x => x.2.P) := by
    rcases ok2 with h | h
    · refine .inl fun d hd => ?_
      obtain ⟨x, hx, rfl⟩ := List.mem_map.mp hd
      have := h x.2 (List.mem_map.mpr ⟨x, hx, rfl⟩)
      revert this
      cases x.2 with
      | tup m => cases m with
        | nil => intro h; simp [D.tup1] at h
        | cons a m => intro _; exact ⟨a.P, D.Ps m, by simp [D.P, D.Ps]⟩
      | _ => intro h; simp [D.tup1] at h
    · refine .inr fun d hd => ?_
      obtain ⟨x, hx, rfl⟩ := List.mem_map.mp hd
      have := h x.2 (List.mem_map.mpr ⟨x, hx, rfl⟩)
      revert this
      cases x.2 <;> simp [D.scalar, D.P]
  refine PySem.W.sorted_data (R := fun u (x : V × D) => RelV x.1 u) (enc := fun x => x.2.P) (bs := l) hl.isList (each_of_vals rv) (PySem.W.readsAll_each (fun x : V × D => x.2.P) ra) al so ?_ (fun x hx => ?_) fun out ho eo => ?_
  · rw [List.length_map] at hz; exact hz
  · have := ok4 x.2 (List.mem_map.mpr ⟨x, hx, rfl⟩)
    rw [decide_eq_true_eq] at this
    rw [D.P_depth]
    omega
  · obtain ⟨ep, he'⟩ := PyProof.Rows.sortedAll_at s.heap its out.toArray
    have hlen : ((l.mergeSort (PySem.W.dataLe false fun x : V × D => x.2.P)).map Prod.fst).length ≤ sizeLine := by
      rw [List.length_map, List.length_mergeSort]
      rw [List.length_map] at hz
      exact hz
    exact ⟨.ref _, upd H (s.heap.objs.size + 1) (.lst ((l.mergeSort (PySem.W.dataLe false fun x : V × D => x.2.P)).map Prod.fst)), I.laid (t' := s.toks) (fun _ _ => PyProof.Rows.sortedAll_old) (Nat.le_succ _) ⟨hlen, out, ep, vals_of_each eo, he'⟩, rfl, q _ (I.hok.fresh (Nat.le_succ _))⟩
def sortedD : List D → Option D
  | [.lst _ l] => if D.owns l = false ∧ sortOk l = true then some (.lst true (sortD l)) else none
  | _ => none
theorem zip_fst {α β : Type} : ∀ {xs : List α} {ys : List β}, xs.length = ys.length → (xs.zip ys).map Prod.fst = xs ∧ (xs.zip ys).map Prod.snd = ys
  | [], [], _ => ⟨rfl, rfl⟩
  | [], _ :: _, h => by simp at h
  | _ :: _, [], h => by simp at h
  | x :: xs, y :: ys, h => by
    obtain ⟨h1, h2⟩ := zip_fst (xs := xs) (ys := ys) (by simpa using h)
    simp [h1, h2]
theorem Os.pairs {K : PySem.W.Frag} {H Z : Hp} : ∀ {l : List D} {xs : List V}, Os K H Z l xs [] → ∀ x ∈ xs.zip l, O K H Z x.2 x.1 []
  | [], _, .nil => fun x h => by simp at h
  | d :: l, x :: xs, h => by
    generalize hA : ([] : List Addr) = A at h
    cases h with
    | cons h1 h2 =>
      obtain ⟨e1, e2⟩ := List.append_eq_nil_iff.mp hA.symm
      subst e1 e2
      intro y hy
      rcases List.mem_cons.mp hy with rfl | hy
      · exact h1
      · exact Os.pairs h2 y hy
theorem Os.of_pairs {K : PySem.W.Frag} {H Z : Hp} : ∀ {l : List (V × D)}, (∀ x ∈ l, O K H Z x.2 x.1 []) → Os K H Z (l.map Prod.snd) (l.map Prod.fst) []
  | [], _ => .nil
  | x :: l, h => .cons (A := []) (B := []) (h x List.mem_cons_self) (Os.of_pairs fun y hy => h y (List.mem_cons_of_mem _ hy))
theorem Ps_map : ∀ l : List D, D.Ps l = l.map D.P
  | [] => rfl
  | d :: l => by simp only [D.Ps, List.map_cons, Ps_map l]
theorem ca_sorted {K : PySem.W.Frag} : CaD K (rSortD K) sortedD := by
  intro κ ρ τ vs σ H Z A B ds xs c Q cc tt gg ow zz e k
  unfold sortedD at e
  split at e
  · rename_i o l
    split at e
    · rename_i hc
      cases e
      cases ow with
      | cons o1 o2 =>
        cases o2
        obtain ⟨p, zs, rfl, hp, C2, q1⟩ := o1.listV zz
        have r1 := q1.nil_of hc.1
        obtain ⟨z1, z2⟩ := zip_fst r1.length
        have pl : D.pls l = true := by
          have := hc.2
          unfold sortOk at this
          simp only [Bool.and_eq_true] at this
          exact this.1.2
        have pr := r1.pairs
        refine ⟨p, zs.zip l, rfl, by rw [z1]; exact .of hp, ?_, by rw [z2]; exact hc.2, fun p' hp' => ?_⟩
        · have e2 : ((zs.zip l).map fun x => x.2.P) = D.Ps l := by
            rw [Ps_map, show (fun x : V × D => x.2.P) = D.P ∘ Prod.snd from rfl, ← List.map_map, z2]
          rw [z1, e2]
          exact r1.dp zz pl
        · have om := Os.of_pairs (l := (zs.zip l).mergeSort (PySem.W.dataLe false fun x : V × D => x.2.P)) fun x hx => pr x ((List.mergeSort_perm _ _).mem_iff.mp hx)
          have e3 : (((zs.zip l).mergeSort (PySem.W.dataLe false fun x : V × D => x.2.P)).map Prod.snd) = sortD l := by
            unfold sortD
            rw [List.map_mergeSort (r := PySem.W.dataLe false fun x : V × D => x.2.P) (s := leD') (f := Prod.snd) (fun a _ b _ => rfl), z2]
          rw [e3] at om
          exact k _ _ (.mkLst cc tt gg om hp') (Same_new hp')
    · cases e
  · cases e

/-! ### x in y -/
def inSD (n : Bool) : D → D → Option D
  | .str [c], .str z => some (.bl (decide (c ∈ z) ^^ n))
  | _, _ => none
def inLD (n : Bool) : D → D → Option D
  | d, .lst _ l => if deepOk d (.lst false l) then some (.bl ((l.any fun z => eqD z d) ^^ n)) else none
  | _, _ => none
theorem op2_inS {K : PySem.W.Frag} : Op2 K true rInS (inSD false) := op2_pure fun Z C1 C2 σ H va vb a b c Q zz o1 o2 e k => by
  unfold inSD at e
  split at e
  · rename_i c z
    cases e
    exact ⟨c, _, o1.strV, o2.strV, k H (Same.refl H) _ (fun Z => by simpa using O.bl _) rfl⟩
  · cases e
theorem op2_notInS {K : PySem.W.Frag} : Op2 K true rNotInS (inSD true) := op2_pure fun Z C1 C2 σ H va vb a b c Q zz o1 o2 e k => by
  unfold inSD at e
  split at e
  · rename_i c z
    cases e
    exact ⟨c, _, o1.strV, o2.strV, k H (Same.refl H) _ (fun Z => by simpa using O.bl (!decide (c ∈ z))) rfl⟩
  · cases e
theorem any_Ps (l : List D) (d : D) : ((D.Ps l).any fun z => PyData.eqv z d.P) = l.any fun z => eqD z d := by
  rw [Ps_map, List.any_map]
  rfl
theorem op2_inD {K : PySem.W.Frag} : Op2 K true (rInD K) (inLD false) := op2_pure fun Z C1 C2 σ H va vb a b c Q zz o1 o2 e k => by
  unfold inLD at e
  split at e
  · rename_i o l
    split at e
    · rename_i hd
      cases e
      have sl : SeqAt.shaped (PyData.list (D.Ps l)) = true := shaped_P (d := .lst false l) hd.2.1 hd.2.2.2
      have dl : Dp K H vb (.list (D.Ps l)) := o2.dp zz (by have := hd.2.1; simpa [D.pl] using this)
      refine ⟨a.P, D.Ps l, o1.dp zz hd.1, dl, shaped_P hd.1 hd.2.2.1, sl, ?_⟩
      rw [any_Ps]
      exact k H (Same.refl H) _ (fun Z => by simpa using O.bl (l.any fun z => eqD z a)) rfl
    · cases e
  · cases e
theorem op2_notInD {K : PySem.W.Frag} : Op2 K true (rNotInD K) (inLD true) := op2_pure fun Z C1 C2 σ H va vb a b c Q zz o1 o2 e k => by
  unfold inLD at e
  split at e
  · rename_i o l
    split at e
    · rename_i hd
      cases e
      have sl : SeqAt.shaped (PyData.list (D.Ps l)) = true := shaped_P (d := .lst false l) hd.2.1 hd.2.2.2
      have dl : Dp K H vb (.list (D.Ps l)) := o2.dp zz (by have := hd.2.1; simpa [D.pl] using this)
      refine ⟨a.P, D.Ps l, o1.dp zz hd.1, dl, shaped_P hd.1 hd.2.2.1, sl, ?_⟩
      rw [any_Ps]
      exact k H (Same.refl H) _ (fun Z => by simpa using O.bl (!l.any fun z => eqD z a)) rfl
    · cases e
  · cases e
def inDD (n : Bool) : D → D → Option D := fun a b => (inSD n a b).or (inLD n a b)
theorem DE.isin (hu : X.A.units + 65 < cLine) (ha : DE X W q1 a f) (hb : DE X W q2 b g) (hm : behindInMarks .In b = false := by rfl) : DE X W (q1 && q2) (.Compare a [.In] [b] pos) (e2 (inDD false) f g) := DE.cmp (op_inS.or (op_inD hu)) (op2_inS.or op2_inD) ha hb hm
theorem DE.notin (hu : X.A.units + 65 < cLine) (ha : DE X W q1 a f) (hb : DE X W q2 b g) (hm : behindInMarks .NotIn b = false := by rfl) : DE X W (q1 && q2) (.Compare a [.NotIn] [b] pos) (e2 (inDD true) f g) := DE.cmp (op_notInS.or (op_notInD hu)) (op2_notInS.or op2_notInD) ha hb hm
theorem DT.isin (hu : X.A.units + 65 < cLine) (ha : DE X W q1 a f) (hb : DE X W q2 b g) (hm : behindInMarks .In b = false := by rfl) : DT X W (.Compare a [.In] [b] pos) (toB (e2 (inDD false) f g)) := DT.cmp (op_inS.or (op_inD hu)) (op2_inS.or op2_inD) ha hb hm
theorem DT.notin (hu : X.A.units + 65 < cLine) (ha : DE X W q1 a f) (hb : DE X W q2 b g) (hm : behindInMarks .NotIn b = false := by rfl) : DT X W (.Compare a [.NotIn] [b] pos) (toB (e2 (inDD true) f g)) := DT.cmp (op_notInS.or (op_notInD hu)) (op2_notInS.or op2_notInD) ha hb hm

/-! ### repr of a truth, None -/
theorem call_repr_sc : CallR X (.builtin "repr") (fun xs H Q => (∃ b, xs = [.bl b] ∧ Q (.str (if b then "True" else "False")) H) ∨ (xs = [.non] ∧ Q (.str "None") H)) := by
  intro pins s σ H xs us Q I r h
  rcases h with ⟨b, rfl, q⟩ | ⟨rfl, q⟩
  · obtain ⟨u, rfl, rfl⟩ := vals1 r
    exact PySem.P.repr_of_bool ⟨.str _, H, I.tok _, ⟨_, rfl⟩, q⟩
  · obtain ⟨u, rfl, rfl⟩ := vals1 r
    exact PySem.P.repr_of_none ⟨.str _, H, I.tok _, ⟨_, rfl⟩, q⟩
def shB (b : Bool) : List Nat := if b then [84, 114, 117, 101] else [70, 97, 108, 115, 101]
def reprSD : List D → Option D
  | [.bl b] => some (.str (shB b))
  | [.non] => some (.str [78, 111, 110, 101])
  | _ => none
theorem ca_reprS {K : PySem.W.Frag} : CaD K (fun xs H Q => (∃ b, xs = [.bl b] ∧ Q (.str (if b then "True" else "False")) H) ∨ (xs = [.non] ∧ Q (.str "None") H)) reprSD := by
  intro κ ρ τ vs σ H Z A B ds xs c Q cc tt gg ow zz e k
  unfold reprSD at e
  split at e
  · rename_i b
    cases e
    cases ow with
    | cons o1 o2 =>
      cases o2
      refine .inl ⟨b, by rw [o1.blV], ?_⟩
      have e : (if b then "True" else "False" : Str) = ⟨(shB b).toArray⟩ := by cases b <;> decide +kernel
      rw [e]
      exact k _ H (.mk cc tt gg (.str _)) (Same.refl H)
  · cases e
    cases ow with
    | cons o1 o2 =>
      cases o2
      refine .inr ⟨by rw [o1.nonV], ?_⟩
      have e : ("None" : Str) = ⟨[78, 111, 110, 101].toArray⟩ := by decide +kernel
      rw [e]
      exact k _ H (.mk cc tt gg (.str _)) (Same.refl H)
  · cases e
end
end Dl

set_option linter.all false
set_option maxRecDepth 100000
set_option maxHeartbeats 4000000
/-! Dl15: a tuple a few times over. -/
namespace Dl
open PySem PySem.Spec PyProof.Rows L2
theorem tup_times1 (l : Addr) (items : Array Value) (n : Nat) (dd : Option Addr) (sl : Array (Option Value)) (x : Int) (u : Tok) (c0 : (decide (x < -(2 ^ 63)) || decide (x ≥ 2 ^ 63)) = false) (c1 : (items.isEmpty || x == 1) = true) :
    Meets (Builtin.«tuple.__mul__» ⟨[.ref l, .int x u], []⟩) (fun _ R s => s.heap.get? l = some { cls := .type "tuple", dict := dd, data := .seq items n, slots := sl } ∧ R (.ok (.ret (Value.ref l))) s) :=
  .of_wp fun prog w A R s h => by
    obtain ⟨hp, g, d, tk, os⟩ := s
    obtain ⟨hl, h⟩ := h
    have f1 := AutoSeq1.idx_int
    wp_walk using wpAny_loadPart' hl
    repeat (first
      | (refine wpAny_ite_false (decide_eq_false (by rw [c0]; exact Bool.false_ne_true)) ?_; wp_walk using wpAny_loadPart' hl)
      | (refine wpAny_ite_true (decide_eq_true c1) ?_; wp_walk using wpAny_loadPart' hl))
    exact ⟨_, rfl, h⟩
theorem tup_times0 (l : Addr) (items : Array Value) (n : Nat) (dd : Option Addr) (sl : Array (Option Value)) (x : Int) (u : Tok) (c0 : (decide (x < -(2 ^ 63)) || decide (x ≥ 2 ^ 63)) = false) (c1 : (items.isEmpty || x == 1) = false) (c2 : (decide (x ≤ 0) || items.isEmpty) = true) :
    Meets (Builtin.«tuple.__mul__» ⟨[.ref l, .int x u], []⟩) (fun _ R s => s.heap.get? l = some { cls := .type "tuple", dict := dd, data := .seq items n, slots := sl } ∧
      R (.ok (.ret (Value.ref s.heap.objs.size))) { s with heap := s.heap.push { cls := Value.type "tuple", data := Data.seq #[] }, toks := s.toks }) :=
  .of_wp fun prog w A R s h => by
    obtain ⟨hp, g, d, tk, os⟩ := s
    obtain ⟨hl, h⟩ := h
    have f1 := AutoSeq1.idx_int
    wp_walk using wpAny_loadPart' hl
    repeat (first
      | (refine wpAny_ite_false (decide_eq_false (by rw [c0]; exact Bool.false_ne_true)) ?_; wp_walk using wpAny_loadPart' hl)
      | (refine wpAny_ite_false (decide_eq_false (by rw [c1]; exact Bool.false_ne_true)) ?_; wp_walk using wpAny_loadPart' hl)
      | (refine wpAny_ite_true (decide_eq_true c2) ?_; wp_walk using wpAny_loadPart' hl))
    exact ⟨_, rfl, h⟩
def rTimes (K : PySem.W.Frag) : R2 := fun x y H Q => ∃ l k xs, x = .ref l ∧ y = .int k ∧ SqT K H l xs ∧ -(2 ^ 63) ≤ k ∧ k < 2 ^ 63 ∧ (k ≤ 1 ∨ xs = []) ∧ (k = 1 ∨ xs = [] → Q (.ref l) H) ∧ (k ≤ 0 → xs ≠ [] → ∀ p, H p = none → Q (.ref p) (upd H p (.tup [])))
theorem op_times {X : Cx} : OpR X (binaryOp .Mult) (rTimes X.K) := by
  intro pins s σ H x y v u Q I rx ry h
  obtain ⟨l, k, xs, rfl, rfl, hT, h1, h2, h3, q1, q0⟩ := h
  cases rx
  obtain ⟨t, rfl⟩ := ry
  obtain ⟨its, r, ⟨⟨cls, dd, data, sl⟩, ho, hc, n, hd⟩, hs⟩ := I.tuple hT
  simp only at hc hd
  subst hc hd
  have c0 : (decide (k < -(2 ^ 63)) || decide (k ≥ 2 ^ 63)) = false := by
    rw [decide_eq_false (by omega), decide_eq_false (by omega)] <;> rfl
  refine wpAny_binaryOp_repeat_ref (T := "tuple") (U := "int") (by decide) ⟨_, ho, rfl⟩ (fun s' => typeIs_int s' k t) noFill_tuple_mul F.fills_int_mul F.slot_int_rmul repeat_tuple F.slot_int_index.lookup
    (call_meets F.slot_int_rmul (typeIs_int s k t) F.entry_int_rmul (F.args_int_rmul_2 _ _) (int_rmul_tuple k t l its.toArray n dd sl) ⟨ho, rfl, ⟨_, ho, rfl⟩, ?_⟩)
  by_cases hq : k = 1 ∨ xs = []
  · have c1 : (its.toArray.isEmpty || k == 1) = true := by
      rcases hq with e | e
      · simp [e]
      · subst e
        cases r
        simp
    exact call_meets F.slot_tuple_mul ⟨_, ho, rfl⟩ F.entry_tuple_mul (F.args_tuple_mul_2 _ _) (tup_times1 l its.toArray n dd sl k t c0 c1) ⟨ho, .ref l, H, I, rfl, q1 hq⟩
  · rw [not_or] at hq
    have h4 : k ≤ 1 := h3.resolve_right hq.2
    have hi : its.toArray.isEmpty = false := by
      cases r with
      | nil => exact absurd rfl hq.2
      | cons a b => rfl
    have c1 : (its.toArray.isEmpty || k == 1) = false := by
      rw [hi, Bool.false_or]
      exact beq_eq_false_iff_ne.mpr hq.1
    have c2 : (decide (k ≤ 0) || its.toArray.isEmpty) = true := by
      rw [decide_eq_true (by omega)]; rfl
    exact call_meets F.slot_tuple_mul ⟨_, ho, rfl⟩ F.entry_tuple_mul (F.args_tuple_mul_2 _ _) (tup_times0 l its.toArray n dd sl k t c0 c1 c2)
      ⟨ho, .ref s.heap.objs.size, _, I.laid (t' := s.toks) (o := .tup []) (fun b ob q => Heap.get?_push_of_some _ q) (Nat.le_refl _) ⟨Nat.zero_le _, [], .nil, IsTup.new _ _⟩, rfl, q0 (by omega) hq.2 _ (I.hok.fresh (Nat.le_refl _))⟩
noncomputable def mulT : D → D → Option D
  | .tup l, .int k => if D.owns l = false ∧ inR k ∧ k ≤ 1000 ∧ l.length ≤ 1000 then some (.tup (List.replicate k.toNat l).flatten) else none
  | _, _ => none
theorem op2_mulT {K : PySem.W.Frag} : Op2 K true (fun x y H Q => rTimes K x y H Q ∨ rRepT K x y H Q) mulT := by
  intro κ ρ τ vs σ H ta tb va vb a b c Q st ea eb e k
  obtain ⟨Z, A, B, C1, C2, cc, tt, gg, o1, o2, zz⟩ := st.opn2 eb ea
  unfold mulT at e
  split at e
  · rename_i l n
    split at e
    · rename_i hc
      cases e
      obtain ⟨ho, ⟨h1, h1'⟩, h2, h3⟩ := hc
      have z0 := o2.noown (by simpa [D.own] using ho)
      subst z0
      obtain ⟨p, xs, rfl, hp, q1⟩ := id (o2.tupV zz)
      have hlen := q1.length
      by_cases hn : n ≤ 1 ∨ xs = []
      · refine .inl ⟨p, n, xs, rfl, o1.intV, hp, by omega, by omega, hn, fun hq => ?_, fun h0 hne r hr => ?_⟩
        · have e : (List.replicate n.toNat l).flatten = l := by
            rcases hq with rfl | hq
            · simp
            · subst hq
              have : l = [] := List.length_eq_zero_iff.mp (by simpa using hlen.symm)
              subst this
              simp
          rw [e] at k
          exact k _ H (.mk cc tt gg o2) fun _ => Same.refl H
        · have e : (List.replicate n.toNat l).flatten = [] := by
            rw [show n.toNat = 0 by omega]; rfl
          rw [e] at k
          exact k _ _ (.mkTup cc tt gg .nil hr) fun _ => Same_new hr
      · rw [not_or] at hn
        exact .inr ⟨p, n, xs, rfl, o1.intV, hp, hn.2, by omega, h2, by omega, fun r hr => k _ _ (.mkTup cc tt gg (q1.rep n.toNat) hr) fun _ => Same_new hr⟩
    · cases e
  · cases e
noncomputable def mulDD : D → D → Option D := fun a b => (mulD a b).or (mulT a b)
theorem DE.mul2 {X : Cx} {W : WX} {q1 q2 : Bool} {a b : Expr} {f g : Cm Tm} {pos : Pos} (ha : DE X W q1 a f) (hb : DE X W q2 b g) : DE X W (q1 && q2) (.BinOp a .Mult b pos) (e2 mulDD f g) := DE.bin ((op_mul.or (op_mulS.or op_rep)).or (op_times.or op_repT)) ((op2_mulI.or (op2_mulS.or op2_mulL)).or op2_mulT) ha hb
end Dl

set_option linter.all false
set_option maxRecDepth 100000
/-! Dl16: the text of any plain value; the law's end. -/
namespace Dl
open PySem PySem.Spec PyProof.Rows L2
section
variable {X : Cx}
/-- repr(x), x plain data -/
def rRepr (K : PySem.W.Frag) : List V → Hp → VK → Prop := fun xs H Q => ∃ v d, xs = [v] ∧ Dp K H v d ∧ d.showable = true ∧ d.hasDict = false ∧ d.depth ≤ 64 ∧ d.shown.length ≤ sizeLine ∧ Q (.str d.shown) H
theorem cr_repr (hu : X.A.units + 200 < cLine) (hg : X.A.guards = some []) : CallR X (.builtin "repr") (rRepr X.K) := by
  intro pins s σ H xs us Q I r h
  obtain ⟨v, d, rfl, hd, hs, hn, hp, hz, q⟩ := h
  cases r with
  | cons r1 rt =>
    cases rt
    rename_i u
    obtain ⟨as, rd⟩ := Dp.reads I d v u hd r1
    cases hd with
    | non =>
      obtain rfl : u = Value.none := r1
      exact PySem.P.repr_of_none ⟨.str _, H, I.tok _, ⟨_, rfl⟩, q⟩
    | bl b =>
      obtain rfl : u = Value.bool b := r1
      exact PySem.P.repr_of_bool ⟨.str _, H, I.tok _, ⟨_, rfl⟩, q⟩
    | int i =>
      obtain ⟨t, rfl⟩ := r1
      exact PySem.P.repr_of_int (by simpa [PyData.showable] using hs) ⟨.str _, H, I.tok _, ⟨_, rfl⟩, q⟩
    | str x =>
      obtain ⟨t, rfl⟩ := r1
      exact PySem.P.repr_of_str ⟨.str _, H, I.tok _, ⟨_, rfl⟩, q⟩ hz
    | lst hh ha =>
      cases r1
      exact PySem.repr_of_reads' rd hs (fun z => by rw [hn] at z; cases z) hg (by omega) (fun _ _ e => e) (fun h' u tk hk => ⟨.str _, H, I.kept hk, ⟨_, rfl⟩, q⟩) hz
    | tup hh ha =>
      cases r1
      exact PySem.repr_of_reads' rd hs (fun z => by rw [hn] at z; cases z) hg (by omega) (fun _ _ e => e) (fun h' u tk hk => ⟨.str _, H, I.kept hk, ⟨_, rfl⟩, q⟩) hz
/-- the text of data -/
def shD (d : D) : List Nat := d.P.shown.cps.toList
def reprOk (d : D) : Prop := d.pl = true ∧ d.P.showable = true ∧ d.dep ≤ 64 ∧ (shD d).length ≤ sizeLine
instance (d : D) : Decidable (reprOk d) := by unfold reprOk; exact inferInstance
def reprD : List D → Option D
  | [d] => if reprOk d then some (.str (shD d)) else none
  | _ => none
theorem str_eta (x : Str) : x = ⟨x.cps.toList.toArray⟩ := by cases x; simp
theorem ca_repr {K : PySem.W.Frag} : CaD K (rRepr K) reprD := by
  intro κ ρ τ vs σ H Z A B ds xs c Q cc tt gg ow zz e k
  unfold reprD at e
  split at e
  · rename_i d
    split at e
    · rename_i hd
      cases e
      cases ow with
      | cons o1 o2 =>
        cases o2
        refine ⟨_, d.P, rfl, o1.dp zz hd.1, hd.2.1, ?_, by rw [D.P_depth]; exact hd.2.2.1, ?_, ?_⟩
        · exact PySem.PyData.hasDict_of_canLay _ (D.P_lay d hd.1)
        · have := hd.2.2.2
          unfold shD at this
          rw [Array.length_toList] at this
          exact this
        · rw [str_eta d.P.shown]
          exact k _ H (.mk cc tt gg (.str _)) (Same.refl H)
    · cases e
  · cases e
end
end Dl

set_option linter.all false
set_option maxRecDepth 100000
set_option maxHeartbeats 2000000
/-! Dl17: the law's end. -/
namespace Dl
open PySem PySem.Spec PyProof.Rows L2
theorem law_go {P : Program} {w : World} {K : PySem.W.Frag} {mg mb : Str → Option Value} {k : Nat} {fa a : Addr} {fd : FuncData} {x : Str} {sp : Sp} {t : Shared} {us : List Value} {ns : List Int}
    (KX : K.In t.heap) (hns : t.heap.Ns mainGlobals mg) (hb : t.heap.Ns builtinsNs mb) (hbb : ∀ y : Str, y ≠ "__name__" → mb y = bootBuiltins y) (hlim : t.heap.NoLimit) (hg : t.gens = #[])
    (ha : t.heap.get? a = some { cls := .type "list", data := .seq us.toArray }) (hi : IntsAre us ns) (hl : ns.length ≤ sizeLine) (hr : Room k callerA) (hgu : callerA.guards = some [])
    (F : ∀ base : Heap, K.In base → base.Ns mainGlobals mg → FnG P w K mg base k fa fd [x] sp) (hbind : ∀ (s : Shared) (u : Value), BindsTo s fd ⟨[u], []⟩ [(x, u)])
    (hsp : ∀ U : Hp, SqL K U a (ns.map V.int) → sp [.ref a] U (fun v _ => v = .bl true) fun _ _ _ => False) :
    codeAny (model P w) callerA (.call (.ref fa) ⟨[.ref a], []⟩) (fun r s' => r = .ok (.ret (.bool true)) ∧ OldK t.heap s'.heap ∧ s'.os = t.os ∧ AllBare s'.gens) t := by
  have rv := vals_ints hi
  have lenV := hi.length
  have core : ∀ U : Hp, Only U → SqL K U a (ns.map V.int) → HOk P w U t.heap → (∀ b, U b ≠ none → b = a) → (U a ≠ none → K.lookup a = none) →
      codeAny (model P w) callerA (.call (.ref fa) ⟨[.ref a], []⟩) (fun r s' => r = .ok (.ret (.bool true)) ∧ OldK t.heap s'.heap ∧ s'.os = t.os ∧ AllBare s'.gens) t := by
    intro U hO hS hok hA hK
    have to : ∀ {b : Addr} {u : Obj}, t.heap.get? b = some u → U b = none → (hidT t.heap U).get? b = some u := fun e n => hidT_get e n
    have free : ∀ {b : Addr} {u : Obj} {es : Array DictEntry} {ep : Nat}, t.heap.get? b = some u → u.data = .dict es ep → U b = none := fun {b u es ep} e d => by
      by_cases q : U b = none
      · exact q
      · obtain rfl : b = a := hA b q
        rw [ha] at e
        cases e
        cases (show Data.seq us.toArray _ = Data.dict es ep from d)
    have nsT : ∀ {b : Addr} {m : Str → Option Value}, t.heap.Ns b m → (hidT t.heap U).Ns b m := fun {b m} ⟨u, es, ep, e, d, r⟩ => ⟨u, es, ep, to e (free e d), d, r⟩
    have kin : K.In (hidT t.heap U) := fun b u e => to (KX b u e) (by
      by_cases q : U b = none
      · exact q
      · obtain rfl : b = a := hA b q
        rw [hK q] at e
        cases e)
    have md : Mod K mg (hidT t.heap U) := ⟨kin, nsT hns, ⟨mb, nsT hb, hbb⟩, let ⟨mc, h1, h2⟩ := hlim; ⟨mc, nsT h1, h2⟩⟩
    have e0 : Env0 P w K mg (hidT t.heap U) callerA [] t U := ⟨rfl, md, fun b u e => of_hidT e, Nat.le_of_eq (hidT_size _ _), trivial, fun b hb => absurd (show b ∈ ([] : List Addr) from hb) (by simp), hok, .of_eq hg⟩
    refine codeAny_mono ((F _ kin (nsT hns)).run callerA [] t U ⟨[.ref a], []⟩ [.ref a] [.ref a] _ _ ⟨hr, hgu⟩ e0 (hbind t (.ref a)) (.cons rfl .nil) (hsp U hS)) fun r s' h => ?_
    cases r with
    | error e =>
      obtain ⟨_, _, _, _, _, _, _, _, _, _, _, _, z⟩ := h
      exact z.elim
    | ok fl =>
      cases fl with
      | next => exact h.elim
      | brk => exact h.elim
      | cont => exact h.elim
      | ret u =>
        obtain ⟨v, U', os, bare, un, hok', r', q⟩ := h
        have q' : v = .bl true := q
        subst q'
        obtain rfl : u = Value.bool true := r'
        refine ⟨rfl, OldK.of_keep fun b u e => ?_, os, bare⟩
        by_cases q : U b = none
        · exact un.keep b u e q (by intro z; exact absurd (show b ∈ ([] : List Addr) from z) (by simp)) (by simp)
        · rcases hO b with z | ⟨ob, xs, z⟩
          · exact absurd z q
          · obtain ⟨e1, _⟩ := hok b _ z
            obtain ⟨e2, _⟩ := hok' b _ (un.frzs b ob _ z)
            rw [e] at e1
            cases e1
            exact e2
  cases hk : K.lookup a with
  | some u =>
    have e := KX a u hk
    rw [ha] at e
    cases e
    exact core (fun _ => none) (fun _ => .inl rfl) (.inr ⟨_, us.toArray, _, hk, rfl, rfl, rfl, by rw [List.size_toArray, lenV]; exact hl, by simpa using rv⟩) (fun b u z => by cases (show (none : Option HO) = some u from z)) (fun b z => absurd rfl z) fun z => absurd rfl z
  | none =>
    refine core (fun b => if b = a then some (.frz { cls := .type "list", data := .seq us.toArray } (.lst (ns.map V.int))) else none) (fun b => ?_) (.inl (.inr ⟨_, if_pos rfl⟩)) (fun b u z => ?_) (fun b z => ?_) fun _ => hk
    · by_cases hb : b = a
      · exact .inr ⟨_, _, if_pos hb⟩
      · exact .inl (if_neg hb)
    · by_cases hb : b = a
      · cases (if_pos hb).symm.trans z
        subst hb
        exact ⟨ha, by rw [List.length_map]; exact hl, us, _, rv, ha⟩
      · cases (if_neg hb).symm.trans z
    · by_cases hb : b = a
      · exact hb
      · exact absurd (if_neg hb) z
theorem walk_G {l : PySem.W.OpenLaw} {n k : Nat} {q : Program} {loose : List Str} {XP : (Str → Option Value) → Heap → Prop} {YP : World → Heap → Prop} {d : DefRec} {x : Str}
    (hn : l.most = some n) (hn2 : n ≤ sizeLine) (hdf : d.params.defaults = []) (hr : Room k callerA)
    (F : ∀ (w : World) (mg : Str → Option Value) (fa : Addr) (h : Heap), YP w h → h.Ns mainGlobals mg → mg d.name = some (.ref fa) →
      ∃ (K : PySem.W.Frag) (fd : FuncData) (sem : List D → Out (List D) D), K.In h ∧ (∀ (s : Shared) (u : Value), BindsTo s fd ⟨[u], []⟩ [(x, u)]) ∧
        (∀ ns : List Int, ns.length ≤ n → ∃ ds, sem [.scr ns] = .ok (.bl true) ds) ∧
        ∀ base : Heap, K.In base → base.Ns mainGlobals mg → FnG l.prog w K mg base k fa fd [x] (spD K 1 sem)) :
    PySem.W.WalkO q loose XP YP l.row.toRowW d [] (fun f vs => PySem.call f vs) := by
  refine Att.attach_call hn hdf fun w s0 t mg mb fa o pm cd doc a us ns G Y ho hd hcd hmg hobj hints hlen hg => ?_
  obtain ⟨K, fd, sem, KX, hb, hsp, hF⟩ := F w mg fa _ Y G.T.g hmg
  refine law_go KX G.T.g G.T.b G.T.builtins G.T.nolimit hg hobj hints (Nat.le_trans hlen hn2) hr rfl hF hb fun U hS => ?_
  obtain ⟨ds, e⟩ := hsp ns hlen
  refine ⟨U, [.scr ns], [] ++ [], .cons (.scr hS) .nil, rfl, Same.refl U, by simp, ?_⟩
  rw [e]
  intro v U' r
  obtain ⟨Z', B, A', o1, _⟩ := r
  exact o1.blV
end Dl

set_option linter.all false
set_option maxRecDepth 100000
/-! Dl18: what the printed proofs use. -/
namespace Dl
open PySem PySem.Spec PyProof.Rows L2
theorem RoomG.mono {j k : Nat} {A : Around} (r : RoomG k A) (h : j ≤ k) : RoomG j A := ⟨r.r.mono h, r.g⟩
theorem RoomG.u1 {k : Nat} {A : Around} (r : RoomG k A) : A.units + 1 < cLine := by have := r.r.un; omega
theorem RoomG.u64 {k : Nat} {A : Around} (r : RoomG k A) : A.units + 64 < cLine := by have := r.r.un; omega
theorem RoomG.u65 {k : Nat} {A : Around} (r : RoomG k A) : A.units + 65 < cLine := by have := r.r.un; omega
theorem RoomG.u200 {k : Nat} {A : Around} (r : RoomG k A) : A.units + 200 < cLine := by have := r.r.un; omega
theorem takesF {X : Cx} : Takes X WF := takes0
section
variable {P : Program} {w : World} {K : PySem.W.Frag} {mg : Str → Option Value} {base : Heap}
abbrev cx (P : Program) (w : World) (K : PySem.W.Frag) (mg : Str → Option Value) (base : Heap) (N : List Str) (qual : Str) (st : Stmt) (f : Addr) (cd : Value) (A : Around) (outer : List PySem.Env) (t : Shared) (U : Hp) (E : XK) : Cx := cxOf (L2.CX P w) P w K mg base N qual (defScope st) f cd A outer t U E
theorem def_go {x qual : Str} {st : Stmt} {f : Addr} {fd : FuncData} {dvs : List V} {kws : List (Str × V)} {N ps : List Str} {k : Nat} {as : List Nat} {b : Cm Fl}
    (F : FunD K x qual (defArgs st) (defBody st) (defScope st) dvs kws f fd) (S : FnScope N ps (defScope st))
    (hb : ∀ (cd : Value) (A : Around) (outer : List PySem.Env) (t : Shared) (U : Hp) (E : XK), RoomG k (A.deeper (envOfC qual (defScope st) t.heap.objs.size f cd)) → PassesOwn (model P w) (cx P w K mg base N qual st f cd A outer t U E).A (cx P w K mg base N qual st f cd A outer t U E).env (cx P w K mg base N qual st f cd A outer t U E).xe →
      ∀ W : WX, Takes (cx P w K mg base N qual st f cd A outer t U E) W → DSs (cx P w K mg base N qual st f cd A outer t U E) W as (defBody st) b) : FnG P w K mg base (k + 1) f fd ps (spD K ps.length (bodyF N.length as b)) := by
  refine def_mk2 F S fun cd A outer t U E hr => ?_
  exact hb cd A outer t U E hr (passes_of rfl) (fun cls d _ H => E cls d H) (takes_of rfl rfl rfl rfl)
theorem DefAt.go {x : Str} {k n : Nat} {params : Arguments} {body : List Stmt} {scope : Scope} {kws : List (Str × V)} {f : Addr} {fd : FuncData} {ps : List Str} {sem : List D → Out (List D) D} (F : FunD K x x params body scope [] kws f fd) (G : FnG P w K mg base k f fd ps (spD K n sem)) (hm : mg x = some (.ref f))
    (hb : ∀ (kV doc pm : Value) (an : Option Addr) (cdv ct : Value) (us : List Value), us.length = ps.length → bindArgs (PySem.W.fnOf x x params body scope .none kV doc pm an cdv ct) ⟨us, []⟩ = pure (ps.zip us)) : DefAt P w K mg base x k n [] sem :=
  ⟨⟨f, fd, ps, [], [], G, hm, F.kp, F.bindsN hb, .nil, fun _ _ => .nil⟩⟩
end
end Dl

set_option linter.all false
set_option maxRecDepth 100000
/-! Dl19: more that the printed proofs use. -/
namespace Dl
open PySem PySem.Spec PyProof.Rows L2
def blkB (N : List Str) (sc scope : Scope) (own : List (Str × Nat)) : Bool :=
  decide (scope.kind = .function) && scope.names.all (fun y => decide (scope.names.lookup y.1 = some y.2)) && own.all (fun p => decide (N[p.2]? = some p.1)) &&
  scope.names.all (fun y => !decide (y.2 = .free) || (decide (sc.names.lookup y.1 = some .cell) || decide (sc.names.lookup y.1 = some .free))) &&
  scope.names.all fun y => !(decide (y.2 = .local) || decide (y.2 = .cell)) || (decide (y.1 ∈ own.map (·.1)) || !decide (y.1 ∈ N))
theorem blkOf {N : List Str} {sc scope : Scope} {own : List (Str × Nat)} (h : blkB N sc scope own = true) : BlkOk N sc scope own := by
  unfold blkB at h
  simp only [Bool.and_eq_true, List.all_eq_true, decide_eq_true_eq, Bool.or_eq_true, Bool.not_eq_true', decide_eq_false_iff_not, Bool.or_eq_false_iff] at h
  obtain ⟨⟨⟨⟨h1, h2⟩, h3⟩, h4⟩, h5⟩ := h
  refine ⟨h1, h2, h3, fun y hy e => ?_, fun y hy e => ?_⟩
  · rcases h4 y hy with z | z
    · exact absurd e z
    · exact z
  · rcases h5 y hy with z | z
    · rcases e with e | e
      · exact absurd e z.1
      · exact absurd e z.2
    · exact z
/-- a call, by data -/
def callD (k : Nat) (f : List D → Out (List D) D) (dd : List D) (fs : Cm (List Tm)) : Cm Tm := fun ρ => (fs ρ).bind fun ts ρ1 => if ts.length + dd.length = k then eCall f dd (fun ρ => .ok ts ρ) ρ1 else .bad
def listDD (ds : List D) : Option D := (listD ds).or (listSD ds)
theorem frz_imp {K : PySem.W.Frag} {W : WX} {q : Bool} {f : Cm Tm} {σ : L2.St} {H : Hp} {Q : VK} (h : tD K W q (eZ f) σ H Q) : tD K W q f σ H Q := by
  obtain ⟨κ, ρ, τ, vs, st, w⟩ := h
  refine ⟨κ, ρ, τ, vs, st, Out.wp_mono (Out.wp_bind w) (fun t ρ1 w1 v H1 st1 k1 => ?_) fun _ _ z => z⟩
  try dsimp only at w1
  split at w1
  · rename_i d
    split at w1
    · rename_i hf
      exact w1 _ _ (st1.frzT hf) k1
    · exact w1.elim
  · exact w1.elim
section
variable {X : Cx} {W : WX} {q : Bool} {as : List Nat} {tg elt iter : Expr} {ifs : List Expr} {pos spos py : Pos} {i : Nat} {y : Str}
theorem DS.setComp {scope : Scope} {own : List (Str × Nat)} {f : Cm Src} {g : D → Tg} {t : Cm Bool} {e : Cm Tm} (hc : X.calm = true) (hN : X.N.Nodup) (hsw : swapsWith (.ListComp elt [⟨tg, iter, ifs, 0⟩] scope pos) (some (.Name y py)) spos.line X.env = pure true) (hi : DI X W tg iter f) (ok : BlkOk X.N X.env.scope scope own) (ha : ∀ i ∈ as, i ∈ own.map (·.2))
    (hg : ∀ (s : Shared) (H : Hp) (C : Addr) (cl : List (Str × Addr)) (fp : List Addr), DG (X.blk s H scope (compEnvC scope cl C X.env) fp) as tg g) (ht : ∀ (s : Shared) (H : Hp) (C : Addr) (cl : List (Str × Addr)) (fp : List Addr), DTs (X.blk s H scope (compEnvC scope cl C X.env) fp) WF ifs t)
    (he : ∀ (s : Shared) (H : Hp) (C : Addr) (cl : List (Str × Addr)) (fp : List Addr), DE (X.blk s H scope (compEnvC scope cl C X.env) fp) WF q elt e) (hs : ∀ x, foldedSetIterable iter X.env x = pure x := by intro _; rfl) (hy : X.N[i]? = some y := by rfl) (hyl : X.env.scope.names.lookup y = some .local := by rfl) :
    DS X W [i] (.Assign [.Name y py] (.ListComp elt [⟨tg, iter, ifs, 0⟩] scope pos) spos) (sSet i (eComp (own.map (·.2)) f g t e)) :=
  DS.set_of (q := false) (e2 := elt) (t := fun _ _ _ => True) (T := fun _ _ _ => True) (PS.imp (ps_setLc (g := tDG X.K as g) (tt := tDT X.K WF t) (te := tD X.K WF q e) hc hN hy hyl hsw hi ok hg ht he hs) fun _ _ _ h => comp_imp ha h)
theorem DS.setCompZ {scope : Scope} {own : List (Str × Nat)} {f : Cm Src} {g : D → Tg} {t : Cm Bool} {e : Cm Tm} (hc : X.calm = true) (hN : X.N.Nodup) (hsw : swapsWith (.ListComp elt [⟨tg, iter, ifs, 0⟩] scope pos) (some (.Name y py)) spos.line X.env = pure true) (hi : DI X W tg iter f) (ok : BlkOk X.N X.env.scope scope own) (ha : ∀ i ∈ as, i ∈ own.map (·.2))
    (hg : ∀ (s : Shared) (H : Hp) (C : Addr) (cl : List (Str × Addr)) (fp : List Addr), DG (X.blk s H scope (compEnvC scope cl C X.env) fp) as tg g) (ht : ∀ (s : Shared) (H : Hp) (C : Addr) (cl : List (Str × Addr)) (fp : List Addr), DTs (X.blk s H scope (compEnvC scope cl C X.env) fp) WF ifs t)
    (he : ∀ (s : Shared) (H : Hp) (C : Addr) (cl : List (Str × Addr)) (fp : List Addr), DE (X.blk s H scope (compEnvC scope cl C X.env) fp) WF q elt e) (hs : ∀ x, foldedSetIterable iter X.env x = pure x := by intro _; rfl) (hy : X.N[i]? = some y := by rfl) (hyl : X.env.scope.names.lookup y = some .local := by rfl) :
    DS X W [i] (.Assign [.Name y py] (.ListComp elt [⟨tg, iter, ifs, 0⟩] scope pos) spos) (sSet i (eZ (eComp (own.map (·.2)) f g t e))) :=
  DS.set_of (q := false) (e2 := elt) (t := fun _ _ _ => True) (T := fun _ _ _ => True) (PS.imp (ps_setLc (g := tDG X.K as g) (tt := tDT X.K WF t) (te := tD X.K WF q e) hc hN hy hyl hsw hi ok hg ht he hs) fun _ _ _ h => comp_imp ha (frz_imp h))
end
end Dl

set_option linter.all false
set_option maxRecDepth 100000
/-! Dl20: the meanings run: equations for simp. -/
namespace Dl
open PySem L2
section
variable {ρ : Env} {i : Nat} {f g h : Cm Tm} {fs : Cm (List Tm)} {fb gb : Cm Bool} {sg sh : Cm Fl} {d e : D}
@[simp] theorem eN_run : eN i ρ = match (ρ[i]?).join with
  | some d => if d.own then .bad else .ok (.v d) ρ
  | none => .bad := rfl
@[simp] theorem eM_run : eM i ρ = match (ρ[i]?).join with
  | some _ => .ok (.s i) ρ
  | none => .bad := rfl
@[simp] theorem eF_run : eF i ρ = match (ρ[i]?).join with
  | some d => if d.fz then .ok (.v d.frz) (ρ.set i (some d.frz)) else .bad
  | none => .bad := rfl
@[simp] theorem eG_run : eG i ρ = match (ρ[i]?).join with
  | some d => .ok (.v d) (ρ.set i none)
  | none => .bad := rfl
@[simp] theorem eC_run : eC d ρ = .ok (.v d) ρ := rfl
@[simp] theorem look_v : look ρ (.v d) = some d := rfl
@[simp] theorem look_s : look ρ (.s i) = (ρ[i]?).join := rfl
@[simp] theorem e2_run {gg : D → D → Option D} : e2 gg f g ρ = (f ρ).bind fun ta ρ1 => (g ρ1).bind fun tb ρ2 =>
  match look ρ2 ta, look ρ2 tb with
  | some a, some b => match gg a b with
    | some c => .ok (.v c) ρ2
    | none => .bad
  | _, _ => .bad := rfl
@[simp] theorem toB_run : toB f ρ = (f ρ).bind fun t ρ1 => match t with
  | .v (.bl b) => .ok b ρ1
  | _ => .bad := rfl
@[simp] theorem bNot_run : bNot fb ρ = (fb ρ).bind fun b ρ1 => .ok (!b) ρ1 := rfl
@[simp] theorem bAnd_run : bAnd fb gb ρ = (fb ρ).bind fun b ρ1 => if b = true then gb ρ1 else .ok false ρ1 := rfl
@[simp] theorem bOr_run : bOr fb gb ρ = (fb ρ).bind fun b ρ1 => if b = true then .ok true ρ1 else gb ρ1 := rfl
@[simp] theorem bYes_run : bYes ρ = .ok true ρ := rfl
@[simp] theorem vNot_run : vNot f ρ = (f ρ).bind fun t ρ1 => match t with
  | .v (.bl b) => .ok (.v (.bl (!b))) ρ1
  | _ => .bad := rfl
@[simp] theorem vAnd_run : vAnd f g ρ = (f ρ).bind fun t ρ1 => match t with
  | .v (.bl b) => if b = true then g ρ1 else .ok (.v (.bl false)) ρ1
  | _ => .bad := rfl
@[simp] theorem vOr_run : vOr f g ρ = (f ρ).bind fun t ρ1 => match t with
  | .v (.bl b) => if b = true then .ok (.v (.bl true)) ρ1 else g ρ1
  | _ => .bad := rfl
@[simp] theorem eIf_run : eIf fb f g ρ = (fb ρ).bind fun b ρ1 => if b = true then f ρ1 else g ρ1 := rfl
@[simp] theorem aNil_run : aNil ρ = .ok [] ρ := rfl
@[simp] theorem aCons_run : aCons f fs ρ = (f ρ).bind fun t ρ1 => (fs ρ1).bind fun ts ρ2 => .ok (t :: ts) ρ2 := rfl
@[simp] theorem dats_nil : dats [] = some [] := rfl
@[simp] theorem dats_cons {ts : List Tm} : dats (.v d :: ts) = (dats ts).map (d :: ·) := rfl
@[simp] theorem eTup_run : eTup fs ρ = (fs ρ).bind fun ts ρ1 => match dats ts with
  | some ds => if ds.length ≤ sizeLine then .ok (.v (.tup ds)) ρ1 else .bad
  | none => .bad := rfl
@[simp] theorem eLst_run : eLst fs ρ = (fs ρ).bind fun ts ρ1 => match dats ts with
  | some ds => if ds.length ≤ sizeLine then .ok (.v (.lst true ds)) ρ1 else .bad
  | none => .bad := rfl
@[simp] theorem eZ_run : eZ f ρ = (f ρ).bind fun t ρ1 => match t with
  | .v d => if d.fz then .ok (.v d.frz) ρ1 else .bad
  | _ => .bad := rfl
@[simp] theorem sNil_run : sNil ρ = .ok .nx ρ := rfl
@[simp] theorem sSeq_run : sSeq sg sh ρ = (sg ρ).bind fun fl ρ1 => match fl with
  | .nx => sh ρ1
  | fl => .ok fl ρ1 := rfl
@[simp] theorem sFl_run {fl : Fl} : sFl fl ρ = .ok fl ρ := rfl
@[simp] theorem sRet_run : sRet f ρ = (f ρ).bind fun t ρ1 => match t with
  | .v d => .ok (.rt d) ρ1
  | _ => .bad := rfl
@[simp] theorem sDrop_run : sDrop f ρ = (f ρ).bind fun _ ρ1 => .ok .nx ρ1 := rfl
@[simp] theorem sIf_run : sIf fb sg sh ρ = (fb ρ).bind fun b ρ1 => if b = true then sg ρ1 else sh ρ1 := rfl
@[simp] theorem sSet_run : sSet i f ρ = (f ρ).bind fun t ρ1 => match t with
  | .v d => if i < ρ1.length then .ok .nx (ρ1.set i (some d)) else .bad
  | _ => .bad := rfl
@[simp] theorem sAug_run {gg : D → D → Option D} : sAug i gg f ρ = (f ρ).bind fun t ρ1 => match look ρ1 (.s i), look ρ1 t with
  | some a, some b => match gg a b with
    | some c => .ok .nx (ρ1.set i (some c))
    | none => .bad
  | _, _ => .bad := rfl
@[simp] theorem sAsg_run {gg : D → Tg} : sAsg gg f ρ = (f ρ).bind fun t ρ1 => match t with
  | .v d => match gg d ρ1 with
    | some ρ2 => .ok .nx ρ2
    | none => .bad
  | _ => .bad := rfl
@[simp] theorem gN_run : gN i d ρ = if i < ρ.length then some (ρ.set i (some d)) else none := rfl
@[simp] theorem gTupD_run {n : Nat} {gs : List D → Tg} {ds : List D} : gTupD n gs (.tup ds) ρ = if ds.length = n then gs ds ρ else none := rfl
@[simp] theorem gsNil_run : gsNil [] ρ = some ρ := rfl
@[simp] theorem gsCons_run {gg : D → Tg} {gs : List D → Tg} {ds : List D} : gsCons gg gs (d :: ds) ρ = (gg d ρ).bind fun ρ1 => gs ds ρ1 := rfl
@[simp] theorem looks_nil : looks ρ [] = some [] := rfl
@[simp] theorem looks_cons {t : Tm} {ts : List Tm} : looks ρ (t :: ts) = match look ρ t with
  | some d => (looks ρ ts).map (d :: ·)
  | none => none := rfl
@[simp] theorem eCa_run {gg : List D → Option D} : eCa gg fs ρ = (fs ρ).bind fun ts ρ1 => match looks ρ1 ts with
  | some ds => match gg ds with
    | some c => .ok (.v c) ρ1
    | none => .bad
  | none => .bad := rfl
@[simp] theorem eCaP_run {gg : List D → Option D} {pf : Pf} : eCaP gg pf ρ = match pf ρ with
  | some ip => match (getP ρ ip).bind fun d => gg [d] with
    | some c => .ok (.v c) ρ
    | none => .bad
  | none => .bad := rfl
@[simp] theorem eRd_run {pf : Pf} : eRd pf ρ = match pf ρ with
  | some ip => match getP ρ ip with
    | some d => if d.own then .bad else .ok (.v d) ρ
    | none => .bad
  | none => .bad := rfl
@[simp] theorem pSl_run : pSl i ρ = match (ρ[i]?).join with
  | some _ => some (i, [])
  | none => none := rfl
@[simp] theorem getP_run {p : List Pc} : getP ρ (i, p) = ((ρ[i]?).join).bind fun d => d.childP p := rfl
@[simp] theorem setP_run {p : List Pc} : setP ρ (i, p) d = match (ρ[i]?).join with
  | some d0 => ρ.set i (some (d0.putP p d))
  | none => ρ := rfl
@[simp] theorem pIx_run {pf : Pf} : pIx pf g ρ = match pf ρ, g ρ with
  | some (i, p), .ok t _ => match getP ρ (i, p), look ρ t with
    | some e, some k => (ixC e k).map fun c => (i, p ++ [c])
    | _, _ => none
  | _, _ => none := rfl
@[simp] theorem gSt_run {pf : Pf} : gSt pf g d ρ = match pf ρ with
  | some ip => match getP ρ ip, g ρ with
    | some e, .ok t _ => match look ρ t with
      | some k => (stD d k e).map (setP ρ ip)
      | none => none
    | _, _ => none
  | none => none := rfl
@[simp] theorem childP_nil : d.childP [] = some d := rfl
@[simp] theorem childP_cons {c : Pc} {p : List Pc} : d.childP (c :: p) = (d.child c).bind fun e => e.childP p := rfl
@[simp] theorem putP_nil : d.putP [] e = e := rfl
@[simp] theorem putP_cons {c : Pc} {p : List Pc} : d.putP (c :: p) e = match d.child c with
  | some x => d.putC c (x.putP p e)
  | none => d := rfl
@[simp] theorem child_ix {n : Nat} {l : List D} : (D.lst true l).child (.ix n) = l[n]? := rfl
@[simp] theorem putC_ix {n : Nat} {l : List D} : (D.lst true l).putC (.ix n) e = .lst true (l.set n e) := rfl
@[simp] theorem ixC_lst {l : List D} {n : Int} : ixC (.lst true l) (.int n) = (ixN l.length n).map .ix := rfl
@[simp] theorem ixC_dic {ks vs : List D} : ixC (.dic true ks vs) d = if d.isKey then some (.key d) else none := by
  cases d <;> rfl
@[simp] theorem eMut_run {T : String} {q : Bool} {gg : D → List D → Option (D × D)} {pf : Pf} : eMut T q gg pf fs ρ = match pf ρ with
  | some ip => match getP ρ ip with
    | some d0 => if tyD T d0 = true then (fs ρ).bind fun ts ρ1 => if (q || ip.2.isEmpty) = true then match lend ρ1 ts with
        | some (ds, ρ2) => match getP ρ2 ip with
          | some d => match gg d ds with
            | some (c, d') => .ok (.v c) (setP ρ2 ip d')
            | none => .bad
          | none => .bad
        | none => .bad
      else .bad else .bad
    | none => .bad
  | none => .bad := rfl
@[simp] theorem eMut0_run {T : String} {gg : D → List D → Option (D × D)} {pf : Pf} : eMut0 T gg pf ρ = eMut T true gg pf aNil ρ := rfl
@[simp] theorem eMe_run {T : String} {gg : List D → Option D} : eMe T gg g fs ρ = (g ρ).bind fun t ρ1 => match look ρ1 t with
  | some d0 => if tyD T d0 = true then (fs ρ1).bind fun ts ρ2 => match looks ρ2 (t :: ts) with
      | some ds => match gg ds with
        | some c => .ok (.v c) ρ2
        | none => .bad
      | none => .bad
    else .bad
  | none => .bad := rfl
@[simp] theorem tyD_lst {T : String} {o : Bool} {l : List D} : tyD T (.lst o l) = (T == "list") := rfl
@[simp] theorem tyD_dic {T : String} {o : Bool} {l m : List D} : tyD T (.dic o l m) = (T == "dict") := rfl
@[simp] theorem tyD_str {T : String} {l : List Nat} : tyD T (.str l) = (T == "str") := rfl
@[simp] theorem lend_nil : lend ρ [] = some ([], ρ) := rfl
@[simp] theorem lend_v {ts : List Tm} : lend ρ (.v d :: ts) = (lend ρ ts).map fun p => (d :: p.1, p.2) := rfl
@[simp] theorem lend_s {ts : List Tm} : lend ρ (.s i :: ts) = match (ρ[i]?).join with
    | none => none
    | some d => (lend (if d.own then ρ.set i none else ρ) ts).map fun p => (d :: p.1, p.2) := rfl
@[simp] theorem restore_nil {ds ds' : List D} : restore ρ [] ds ds' = some ρ := by
  unfold restore
  rfl
@[simp] theorem restore_v {ts : List Tm} {x y : D} {ds ds' : List D} : restore ρ (.v d :: ts) (x :: ds) (y :: ds') = restore ρ ts ds ds' := rfl
@[simp] theorem restore_s {ts : List Tm} {x y : D} {ds ds' : List D} : restore ρ (.s i :: ts) (x :: ds) (y :: ds') = if x.own then (if hole ρ i then restore (ρ.set i (some y)) ts ds ds' else none) else restore ρ ts ds ds' := rfl
@[simp] theorem callD_run {k : Nat} {F : List D → Out (List D) D} {dd : List D} : callD k F dd fs ρ = (fs ρ).bind fun ts ρ1 => if ts.length + dd.length = k then (match lend ρ1 ts with
  | none => .bad
  | some (ds, ρ2) => match F (ds ++ dd) with
    | .ok d ds' => match restore ρ2 ts ds ds' with
      | some ρ3 => .ok (.v d) ρ3
      | none => .bad
    | .exc e ds' => match restore ρ2 ts ds ds' with
      | some ρ3 => .exc e ρ3
      | none => .bad
    | .bad => .bad) else .bad := rfl
@[simp] theorem oNone_run : oNone ρ = .ok none ρ := rfl
@[simp] theorem oSome_run : oSome f ρ = (f ρ).bind fun t ρ1 => match look ρ1 t with
  | some (.int n) => .ok (some n) ρ1
  | _ => .bad := rfl
@[simp] theorem eSl_run {lo hi : Cm (Option Int)} : eSl f lo hi ρ = (f ρ).bind fun t ρ1 => (lo ρ1).bind fun l ρ2 => (hi ρ2).bind fun h ρ3 => match look ρ3 t with
  | some d => match slD d l h with
    | some r => .ok (.v r) ρ3
    | none => .bad
  | none => .bad := rfl
theorem eRg1_run {t : Bool} : eRg1 t f ρ = (f ρ).bind fun t1 ρ1 => match look ρ1 t1 with
  | some (.int n) => if inG 0 n = true then .ok (.v (if t = true then .tup (rngD 0 n.toNat) else .lst true (rngD 0 n.toNat))) ρ1 else .bad
  | _ => .bad := rfl
theorem eRg2_run {t : Bool} : eRg2 t f g ρ = (f ρ).bind fun t1 ρ1 => (g ρ1).bind fun t2 ρ2 => match look ρ2 t1, look ρ2 t2 with
  | some (.int m), some (.int n) => if inG m n = true then .ok (.v (if t = true then .tup (rngD m (n - m).toNat) else .lst true (rngD m (n - m).toNat))) ρ2 else .bad
  | _, _ => .bad := rfl
@[simp] theorem srcA_run : srcA f ρ = (f ρ).bind fun t ρ1 => match t with
  | .v d => match srcV d with
    | some s => .ok s ρ1
    | none => .bad
  | _ => .bad := rfl
@[simp] theorem srcOut_run : srcOut i ρ = match (ρ[i]?).join with
  | some (.lst o l) => if D.owns l = false then if o = true then .ok ⟨[.lst true l], l, some i⟩ (ρ.set i none) else .ok ⟨[.lst false l], l, none⟩ ρ else .bad
  | _ => .bad := rfl
@[simp] theorem rng1_run : rng1 fs ρ = (fs ρ).bind fun ts ρ1 => match intsD ts with
  | some [n] => if inR n then .ok ⟨[], rngD 0 n.toNat, none⟩ ρ1 else .bad
  | _ => .bad := rfl
@[simp] theorem rng2_run : rng2 fs ρ = (fs ρ).bind fun ts ρ1 => match intsD ts with
  | some [n, m] => if inR n ∧ inR m then .ok ⟨[], rngD n (m - n).toNat, none⟩ ρ1 else .bad
  | _ => .bad := rfl
@[simp] theorem intsD_nil : intsD [] = some [] := rfl
@[simp] theorem intsD_cons {n : Int} {ts : List Tm} : intsD (.v (.int n) :: ts) = (intsD ts).map (n :: ·) := rfl
@[simp] theorem sFor_run {as : List Nat} {s : Cm Src} {gg : D → Tg} : sFor as s gg sg ρ = (s ρ).bind fun s ρ1 => (loopL gg sg s.ds ρ1).bind (putBack as s) := rfl
@[simp] theorem eComp_run {own : List Nat} {s : Cm Src} {gg : D → Tg} : eComp own s gg fb f ρ = (s ρ).bind fun s ρ1 => (compL own gg fb f s.ds [] (wipeD ρ1 own)).bind (compEnd own s) := rfl
@[simp] theorem putBack_none {as : List Nat} {ts ds : List D} {fl : Fl} : putBack as ⟨ts, ds, none⟩ fl ρ = .ok fl ρ := rfl
@[simp] theorem compEnd_none {as : List Nat} {ts ds acc : List D} : compEnd as ⟨ts, ds, none⟩ acc ρ = .ok (.v (.lst true acc)) ρ := rfl
@[simp] theorem wipeD_nil : wipeD ρ [] = ρ := rfl
@[simp] theorem wipeD_cons {l : List Nat} : wipeD ρ (i :: l) = (wipeD ρ l).set i none := rfl
@[simp] theorem loopL_nil {gg : D → Tg} : loopL gg sg [] ρ = .ok .nx ρ := rfl
@[simp] theorem compL_nil {own : List Nat} {gg : D → Tg} {acc : List D} : compL own gg fb f [] acc ρ = .ok acc ρ := rfl
@[simp] theorem addD_ii {a b : Int} : addD (.int a) (.int b) = some (.int (a + b)) := rfl
@[simp] theorem subD_ii {a b : Int} : subD (.int a) (.int b) = some (.int (a - b)) := rfl
@[simp] theorem isN_non {n : Bool} : isN n .non .non = some (.bl (!n)) := rfl
@[simp] theorem isN_int {n : Bool} {a : Int} : isN n (.int a) .non = some (.bl n) := rfl
@[simp] theorem isN_lst {n o : Bool} {a : List D} : isN n (.lst o a) .non = some (.bl n) := rfl
@[simp] theorem isN_str {n : Bool} {a : List Nat} : isN n (.str a) .non = some (.bl n) := rfl
@[simp] theorem ltD_ii {a b : Int} : ltD (.int a) (.int b) = some (.bl (decide (a < b))) := rfl
@[simp] theorem leD_ii {a b : Int} : leD (.int a) (.int b) = some (.bl (decide (a ≤ b))) := rfl
@[simp] theorem gtD_ii {a b : Int} : gtD (.int a) (.int b) = some (.bl (decide (b < a))) := rfl
@[simp] theorem geD_ii {a b : Int} : geD (.int a) (.int b) = some (.bl (decide (b ≤ a))) := rfl
@[simp] theorem eqDD_ii {n : Bool} {a b : Int} : eqDD n (.int a) (.int b) = some (.bl (decide (a = b) ^^ n)) := rfl
@[simp] theorem eqDD_ss {n : Bool} {a b : List Nat} : eqDD n (.str a) (.str b) = some (.bl (decide (a = b) ^^ n)) := rfl
@[simp] theorem eqDD_bb {n : Bool} {a b : Bool} : eqDD n (.bl a) (.bl b) = some (.bl (decide (a = b) ^^ n)) := rfl
@[simp] theorem lenD_str {l : List Nat} : lenD [.str l] = if l.length ≤ sizeLine then some (.int l.length) else none := rfl
@[simp] theorem lenD_lst {o : Bool} {l : List D} : lenD [.lst o l] = some (.int l.length) := rfl
@[simp] theorem lenD_tup {l : List D} : lenD [.tup l] = some (.int l.length) := rfl
@[simp] theorem intD_int {n : Int} : intD [.int n] = some (.int n) := rfl
@[simp] theorem intD_bl {b : Bool} : intD [.bl b] = some (.int (if b then 1 else 0)) := rfl
@[simp] theorem inDD_sign {n : Bool} {c : Nat} {z : List Nat} : inDD n (.str [c]) (.str z) = some (.bl (decide (c ∈ z) ^^ n)) := rfl
@[simp] theorem ixD_lst {o : Bool} {l : List D} {n : Int} : ixD (.lst o l) (.int n) = plainD (atI l n) := rfl
@[simp] theorem ixD_tup {l : List D} {n : Int} : ixD (.tup l) (.int n) = plainD (atI l n) := rfl
@[simp] theorem ixD_str {l : List Nat} {n : Int} : ixD (.str l) (.int n) = if l.length ≤ sizeLine then (atI l n).map fun c => .str [c] else none := rfl
@[simp] theorem plainD_some : plainD (some d) = if d.own then none else some d := rfl
@[simp] theorem plainD_none : plainD none = none := rfl
@[simp] theorem atI_nn {α : Type} (l : List α) (n : Nat) : atI l (n : Int) = l[n]? := by
  unfold atI ixN
  rw [if_pos (Int.natCast_nonneg n)]
  by_cases h : n < l.length
  · rw [if_pos (by omega)]
    simp
  · rw [if_neg (by omega)]
    simp [List.getElem?_eq_none (by omega : l.length ≤ n)]
@[simp] theorem atI_zero {α : Type} (l : List α) : atI l 0 = l[0]? := atI_nn l 0
@[simp] theorem atI_one {α : Type} (l : List α) : atI l 1 = l[1]? := atI_nn l 1
@[simp] theorem atI_two {α : Type} (l : List α) : atI l 2 = l[2]? := atI_nn l 2
@[simp] theorem own_non : D.own .non = false := rfl
@[simp] theorem own_bl {b : Bool} : D.own (.bl b) = false := rfl
@[simp] theorem own_int {b : Int} : D.own (.int b) = false := rfl
@[simp] theorem own_str {b : List Nat} : D.own (.str b) = false := rfl
@[simp] theorem own_tup {l : List D} : D.own (.tup l) = D.owns l := by simp [D.own]
@[simp] theorem own_lst {o : Bool} {l : List D} : D.own (.lst o l) = o := rfl
@[simp] theorem own_dic {o : Bool} {l m : List D} : D.own (.dic o l m) = o := rfl
@[simp] theorem own_scr {l : List Int} : D.own (.scr l) = false := rfl
@[simp] theorem owns_nil : D.owns [] = false := by simp [D.owns]
@[simp] theorem owns_cons {l : List D} : D.owns (d :: l) = (d.own || D.owns l) := by simp [D.owns]
@[simp] theorem fz_non : D.fz .non = true := rfl
@[simp] theorem fz_bl {b : Bool} : D.fz (.bl b) = true := rfl
@[simp] theorem fz_int {b : Int} : D.fz (.int b) = true := rfl
@[simp] theorem fz_str {b : List Nat} : D.fz (.str b) = true := rfl
@[simp] theorem fz_tup {l : List D} : D.fz (.tup l) = D.fzs l := by simp [D.fz]
@[simp] theorem fz_lst {o : Bool} {l : List D} : D.fz (.lst o l) = D.fzs l := by simp [D.fz]
@[simp] theorem fzs_nil : D.fzs [] = true := by simp [D.fzs]
@[simp] theorem fzs_cons {l : List D} : D.fzs (d :: l) = (d.fz && D.fzs l) := by simp [D.fzs]
@[simp] theorem frz_non : D.frz .non = .non := rfl
@[simp] theorem frz_bl {b : Bool} : D.frz (.bl b) = .bl b := rfl
@[simp] theorem frz_int {b : Int} : D.frz (.int b) = .int b := rfl
@[simp] theorem frz_str {b : List Nat} : D.frz (.str b) = .str b := rfl
@[simp] theorem frz_tup {l : List D} : D.frz (.tup l) = .tup (D.frzs l) := by simp [D.frz]
@[simp] theorem frz_lst' {o : Bool} {l : List D} : D.frz (.lst o l) = .lst false (D.frzs l) := by simp [D.frz]
@[simp] theorem frzs_nil : D.frzs [] = [] := by simp [D.frzs]
@[simp] theorem frzs_cons {l : List D} : D.frzs (d :: l) = d.frz :: D.frzs l := by simp [D.frzs]
end
/-- nothing owned in it, nothing to be frozen -/
def D.cold (d : D) : Prop := d.fz = true ∧ d.frz = d ∧ d.own = false
def D.colds (l : List D) : Prop := ∀ d ∈ l, d.cold
theorem cold_list {l : List D} (h : D.colds l) : D.fzs l = true ∧ D.frzs l = l ∧ D.owns l = false := by
  induction l with
  | nil => simp
  | cons d l ih =>
    obtain ⟨a, b, c⟩ := h d List.mem_cons_self
    obtain ⟨a2, b2, c2⟩ := ih fun x hx => h x (List.mem_cons_of_mem _ hx)
    simp [a, b, c, a2, b2, c2]
theorem cold_map {α : Type} {f : α → D} (h : ∀ a, (f a).cold) (l : List α) : D.colds (l.map f) := fun d hd => by
  obtain ⟨a, _, rfl⟩ := List.mem_map.mp hd
  exact h a
/-- a cold list, tuple, text walked -/
theorem srcV_lst {l : List D} {o : Bool} (h : D.colds l) : srcV (.lst o l) = some ⟨[.lst false l], l, none⟩ := by
  obtain ⟨a, b, c⟩ := cold_list h
  unfold srcV
  simp [a, b]
theorem srcV_tup {l : List D} (h : D.colds l) : srcV (.tup l) = some ⟨[.tup l], l, none⟩ := by
  obtain ⟨a, b, c⟩ := cold_list h
  unfold srcV
  simp [a, b]
@[simp] theorem srcV_str {l : List Nat} : srcV (.str l) = some ⟨[], l.map fun c => .str [c], none⟩ := rfl
/-! ### loops -/
/-- a comprehension whose turns leave the slots as they are -/
theorem compL_pure {own : List Nat} {g : D → Tg} {t : Cm Bool} {e : Cm Tm} {ρ : Env} {p : D → Bool} {r : D → D} : ∀ {ds acc : List D}, (∀ d ∈ ds, ∃ ρ1 ρ2, g d ρ = some ρ1 ∧ t ρ1 = .ok (p d) ρ2 ∧ (p d = true → ∃ ρ3, e ρ2 = .ok (.v (r d)) ρ3 ∧ wipeD ρ3 own = ρ) ∧ (p d = false → wipeD ρ2 own = ρ)) →
    acc.length + ds.length ≤ sizeLine → compL own g t e ds acc ρ = .ok (acc ++ (ds.filter p).map r) ρ
  | [], acc, _, _ => by simp
  | d :: ds, acc, h, hz => by
    obtain ⟨ρ1, ρ2, h1, h2, h3, h4⟩ := h d List.mem_cons_self
    have hz' : acc.length + (ds.length + 1) ≤ sizeLine := by simpa using hz
    unfold compL
    rw [h1]
    simp only [h2, Out.nox, Out.bind_ok]
    cases hp : p d with
    | false =>
      simp only [Bool.false_eq_true, if_false]
      rw [h4 hp, compL_pure (fun x hx => h x (List.mem_cons_of_mem _ hx)) (by omega), List.filter_cons, hp]
      simp
    | true =>
      obtain ⟨ρ3, h5, h6⟩ := h3 hp
      simp only [if_true, h5, Out.nox, Out.bind_ok]
      rw [if_pos (by omega), h6, compL_pure (fun x hx => h x (List.mem_cons_of_mem _ hx)) (by simp; omega), List.filter_cons, hp]
      simp
/-- .. that change the slots within what I says: the results are as R says -/
theorem compL_inv {own : List Nat} {g : D → Tg} {t : Cm Bool} {e : Cm Tm} {I : Env → Prop} {R : D → D → Prop} : ∀ {ds acc : List D} {ρ : Env}, I ρ → (∀ d ∈ ds, ∀ ρ, I ρ → ∃ b ρ1 ρ2, g d ρ = some ρ1 ∧ t ρ1 = .ok b ρ2 ∧ (b = true → ∃ r ρ3, e ρ2 = .ok (.v r) ρ3 ∧ R d r ∧ I (wipeD ρ3 own)) ∧ (b = false → I (wipeD ρ2 own))) →
    acc.length + ds.length ≤ sizeLine → ∃ rs ρ', compL own g t e ds acc ρ = .ok (acc ++ rs) ρ' ∧ I ρ' ∧ (∀ r ∈ rs, ∃ d ∈ ds, R d r) ∧ rs.length ≤ ds.length
  | [], acc, ρ, hi, _, _ => ⟨[], ρ, by simp, hi, by simp, by simp⟩
  | d :: ds, acc, ρ, hi, h, hz => by
    obtain ⟨b, ρ1, ρ2, h1, h2, h3, h4⟩ := h d List.mem_cons_self ρ hi
    have hz' : acc.length + (ds.length + 1) ≤ sizeLine := by simpa using hz
    unfold compL
    rw [h1]
    simp only [h2, Out.nox, Out.bind_ok]
    cases b with
    | false =>
      simp only [Bool.false_eq_true, if_false]
      obtain ⟨rs, ρ', q1, q2, q3, q4⟩ := compL_inv (acc := acc) (h4 rfl) (fun x hx => h x (List.mem_cons_of_mem _ hx)) (by omega)
      exact ⟨rs, ρ', q1, q2, fun r hr => let ⟨x, hx, z⟩ := q3 r hr; ⟨x, List.mem_cons_of_mem _ hx, z⟩, by simp; omega⟩
    | true =>
      obtain ⟨r, ρ3, h5, h6, h7⟩ := h3 rfl
      simp only [if_true, h5, Out.nox, Out.bind_ok]
      rw [if_pos (by omega)]
      obtain ⟨rs, ρ', q1, q2, q3, q4⟩ := compL_inv (acc := acc ++ [r]) h7 (fun x hx => h x (List.mem_cons_of_mem _ hx)) (by simp; omega)
      refine ⟨r :: rs, ρ', by rw [q1]; simp, q2, fun y hy => ?_, by simp; omega⟩
      rcases List.mem_cons.mp hy with rfl | hy
      · exact ⟨d, List.mem_cons_self, h6⟩
      · obtain ⟨x, hx, z⟩ := q3 y hy
        exact ⟨x, List.mem_cons_of_mem _ hx, z⟩
/-- .. without a test: one result for each -/
theorem compL_each {own : List Nat} {g : D → Tg} {e : Cm Tm} {I : Env → Prop} {R : D → D → Prop} : ∀ {ds acc : List D} {ρ : Env}, I ρ → (∀ d ∈ ds, ∀ ρ, I ρ → ∃ ρ1 r ρ3, g d ρ = some ρ1 ∧ e ρ1 = .ok (.v r) ρ3 ∧ R d r ∧ I (wipeD ρ3 own)) →
    acc.length + ds.length ≤ sizeLine → ∃ rs ρ', compL own g bYes e ds acc ρ = .ok (acc ++ rs) ρ' ∧ I ρ' ∧ (∀ r ∈ rs, ∃ d ∈ ds, R d r) ∧ rs.length = ds.length
  | [], acc, ρ, hi, _, _ => ⟨[], ρ, by simp, hi, by simp, by simp⟩
  | d :: ds, acc, ρ, hi, h, hz => by
    obtain ⟨ρ1, r, ρ3, h1, h5, h6, h7⟩ := h d List.mem_cons_self ρ hi
    have hz' : acc.length + (ds.length + 1) ≤ sizeLine := by simpa using hz
    unfold compL
    rw [h1]
    simp only [bYes, if_true, h5, Out.nox, Out.bind_ok]
    rw [if_pos (by omega)]
    obtain ⟨rs, ρ', q1, q2, q3, q4⟩ := compL_each (acc := acc ++ [r]) h7 (fun x hx => h x (List.mem_cons_of_mem _ hx)) (by simp; omega)
    refine ⟨r :: rs, ρ', by rw [q1]; simp, q2, fun y hy => ?_, by simp; omega⟩
    rcases List.mem_cons.mp hy with rfl | hy
    · exact ⟨d, List.mem_cons_self, h6⟩
    · obtain ⟨x, hx, z⟩ := q3 y hy
      exact ⟨x, List.mem_cons_of_mem _ hx, z⟩
/-- a for loop that never leaves: I, what holds of the items left and the slots -/
theorem loopL_inv {g : D → Tg} {b : Cm Fl} {I : List D → Env → Prop} : ∀ {ds : List D} {ρ : Env}, I ds ρ → (∀ d ds ρ, I (d :: ds) ρ → ∃ ρ1 ρ2, g d ρ = some ρ1 ∧ b ρ1 = .ok .nx ρ2 ∧ I ds ρ2) → ∃ ρ', loopL g b ds ρ = .ok .nx ρ' ∧ I [] ρ'
  | [], ρ, hi, _ => ⟨ρ, rfl, hi⟩
  | d :: ds, ρ, hi, h => by
    obtain ⟨ρ1, ρ2, h1, h2, h3⟩ := h d ds ρ hi
    obtain ⟨ρ', q1, q2⟩ := loopL_inv h3 h
    refine ⟨ρ', ?_, q2⟩
    unfold loopL
    rw [h1]
    simp only [h2, Out.bind_ok, Fl.lp, q1]
/-- a while loop by a measure -/
theorem sWhile_inv {c : Cm Bool} {g : Cm Fl} (I : Nat → Env → Prop) (E : Env → Prop) (h : ∀ n ρ, I n ρ → ∃ b ρ1, c ρ = .ok b ρ1 ∧ (b = false → E ρ1) ∧ (b = true → ∃ ρ2 m, g ρ1 = .ok .nx ρ2 ∧ m < n ∧ I m ρ2)) : ∀ n ρ, I n ρ → ∃ ρ', sWhile c g ρ = .ok .nx ρ' ∧ E ρ' := by
  intro n
  induction n using Nat.strongRecOn with
  | _ n ih =>
    intro ρ hi
    obtain ⟨b, ρ1, h1, h2, h3⟩ := h n ρ hi
    rw [sWhile_step, h1]
    simp only [Out.bind_ok]
    cases b with
    | false => exact ⟨ρ1, rfl, h2 rfl⟩
    | true =>
      obtain ⟨ρ2, m, h4, h5, h6⟩ := h3 rfl
      obtain ⟨ρ', q1, q2⟩ := ih m h5 ρ2 h6
      exact ⟨ρ', by simp only [if_true, h4, Out.bind_ok, Fl.lp, q1], q2⟩
theorem loopL_cons {g : D → Tg} {b : Cm Fl} {d : D} {ds : List D} {ρ : Env} : loopL g b (d :: ds) ρ = match g d ρ with
    | some ρ1 => (b ρ1).bind (Fl.lp (loopL g b ds))
    | none => .bad := rfl
@[simp] theorem lp_nx {k : Cm Fl} : Fl.lp k .nx = k := rfl
@[simp] theorem lp_ct {k : Cm Fl} : Fl.lp k .ct = k := rfl
@[simp] theorem lp_bk {k : Cm Fl} {ρ : Env} : Fl.lp k .bk ρ = .ok .nx ρ := rfl
@[simp] theorem lp_rt {k : Cm Fl} {d : D} {ρ : Env} : Fl.lp k (.rt d) ρ = .ok (.rt d) ρ := rfl
theorem rngD_mem {lo : Int} {n : Nat} {d : D} (h : d ∈ rngD lo n) : ∃ i : Nat, i < n ∧ d = .int (lo + i) := by
  unfold rngD at h
  obtain ⟨i, hi, rfl⟩ := List.mem_map.mp h
  exact ⟨i, List.mem_range.mp hi, rfl⟩
@[simp] theorem rngD_len {lo : Int} {n : Nat} : (rngD lo n).length = n := by simp [rngD]
@[simp] theorem finals_nil {as : List Nat} {j : Nat} {ρ : Env} : finals as j [] ρ = some [] := by unfold finals; rfl
@[simp] theorem finals_cons {as : List Nat} {j : Nat} {d : D} {ds : List D} {c : Option D} {ρ : Env} : finals as j (d :: ds) (c :: ρ) = match (if d.own then (if j ∈ as then none else c) else some d) with
    | some x => (finals as (j + 1) ds ρ).map (x :: ·)
    | none => none := by
  conv => lhs; unfold finals
  all_goals rfl
theorem bodyF_rt {nl : Nat} {as : List Nat} {b : Cm Fl} {ds ds' : List D} {d : D} {ρ : Env} (h : b (ds.map some ++ List.replicate (nl - ds.length) none) = .ok (.rt d) ρ) (hf : finals as 0 ds ρ = some ds') : bodyF nl as b ds = .ok d ds' := by
  unfold bodyF
  rw [h]
  simp only [hf]
theorem bodyF_nx {nl : Nat} {as : List Nat} {b : Cm Fl} {ds ds' : List D} {ρ : Env} (h : b (ds.map some ++ List.replicate (nl - ds.length) none) = .ok .nx ρ) (hf : finals as 0 ds ρ = some ds') : bodyF nl as b ds = .ok .non ds' := by
  unfold bodyF
  rw [h]
  simp only [hf]
theorem compL_map {α : Type} {own : List Nat} {g : D → Tg} {t : Cm Bool} {e : Cm Tm} {ρ : Env} {F : α → D} {p : α → Bool} {r : α → D} : ∀ {l : List α} {acc : List D}, (∀ a ∈ l, ∃ ρ1 ρ2, g (F a) ρ = some ρ1 ∧ t ρ1 = .ok (p a) ρ2 ∧ (p a = true → ∃ ρ3, e ρ2 = .ok (.v (r a)) ρ3 ∧ wipeD ρ3 own = ρ) ∧ (p a = false → wipeD ρ2 own = ρ)) →
    acc.length + l.length ≤ sizeLine → compL own g t e (l.map F) acc ρ = .ok (acc ++ (l.filter p).map r) ρ
  | [], acc, _, _ => by simp
  | a :: l, acc, h, hz => by
    obtain ⟨ρ1, ρ2, h1, h2, h3, h4⟩ := h a List.mem_cons_self
    have hz' : acc.length + (l.length + 1) ≤ sizeLine := by simpa using hz
    rw [List.map_cons]
    unfold compL
    rw [h1]
    simp only [h2, Out.nox, Out.bind_ok]
    cases hp : p a with
    | false =>
      simp only [Bool.false_eq_true, if_false]
      rw [h4 hp, compL_map (fun x hx => h x (List.mem_cons_of_mem _ hx)) (by omega), List.filter_cons, hp]
      simp
    | true =>
      obtain ⟨ρ3, h5, h6⟩ := h3 hp
      simp only [if_true, h5, Out.nox, Out.bind_ok]
      rw [if_pos (by omega), h6, compL_map (fun x hx => h x (List.mem_cons_of_mem _ hx)) (by simp; omega), List.filter_cons, hp]
      simp
/-- .. without a test -/
theorem compL_map1 {α : Type} {own : List Nat} {g : D → Tg} {e : Cm Tm} {ρ : Env} {F : α → D} {r : α → D} {l : List α} (h : ∀ a ∈ l, ∃ ρ1 ρ3, g (F a) ρ = some ρ1 ∧ e ρ1 = .ok (.v (r a)) ρ3 ∧ wipeD ρ3 own = ρ) (hz : l.length ≤ sizeLine) : compL own g bYes e (l.map F) [] ρ = .ok (l.map r) ρ := by
  have q := compL_map (own := own) (g := g) (t := bYes) (e := e) (ρ := ρ) (F := F) (p := fun _ => true) (r := r) (l := l) (acc := []) (fun a ha => by
    obtain ⟨ρ1, ρ3, h1, h2, h3⟩ := h a ha
    exact ⟨ρ1, ρ1, h1, rfl, fun _ => ⟨ρ3, h2, h3⟩, fun z => by cases z⟩) (by simpa using hz)
  rw [q, List.filter_eq_self.mpr (fun _ _ => rfl), List.nil_append]
@[simp] theorem blsL_map {α : Type} (f : α → Bool) : ∀ l : List α, blsL (l.map fun a => D.bl (f a)) = some (l.map f)
  | [] => rfl
  | a :: l => by simp [blsL, blsL_map f l]
@[simp] theorem intsL_map {α : Type} (f : α → Int) : ∀ l : List α, intsL (l.map fun a => D.int (f a)) = some (l.map f)
  | [] => rfl
  | a :: l => by simp [intsL, intsL_map f l]
@[simp] theorem strsL_map {α : Type} (f : α → List Nat) : ∀ l : List α, strsL (l.map fun a => D.str (f a)) = some (l.map f)
  | [] => rfl
  | a :: l => by simp [strsL, strsL_map f l]
@[simp] theorem allD_lst {o : Bool} {l : List D} : allD [.lst o l] = (blsL l).map fun bs => .bl (bs.all id) := rfl
@[simp] theorem anyD_lst {o : Bool} {l : List D} : anyD [.lst o l] = (blsL l).map fun bs => .bl (bs.any id) := rfl
theorem mulDD_ii {a b : Int} (h : a.natAbs < 18446744073709551616 ∨ b.natAbs < 18446744073709551616) : mulDD (.int a) (.int b) = some (.int (a * b)) := by
  have e : mulI (.int a) (.int b) = some (.int (a * b)) := by
    unfold mulI gI
    dsimp only
    rw [if_pos]
    simp only [Bool.or_eq_true, Bool.and_eq_true, decide_eq_true_eq]
    omega
  unfold mulDD mulD
  rw [e]
  rfl
theorem modD_ii {a b : Int} (h : b ≠ 0) : modD (.int a) (.int b) = some (.int (a.fmod b)) := by
  unfold modD gI
  simp [h]
theorem fdivD_ii {a b : Int} (h : b ≠ 0) (h2 : b.natAbs < 1073741824) : fdivD (.int a) (.int b) = some (.int (a.fdiv b)) := by
  unfold fdivD gI
  simp [h, h2]
theorem powD_ii {a b : Int} (h : 0 ≤ b) (h1 : b ≤ 1000000) (h2 : a.natAbs < 18446744073709551616) : powD (.int a) (.int b) = some (.int (a ^ b.toNat)) := by
  unfold powD gI
  simp [h, h1, h2]
theorem fmod_pos {a b : Int} (h : 0 < b) : a.fmod b = a % b := Int.fmod_eq_emod_of_nonneg a (by omega)
theorem fdiv_pos {a b : Int} (h : 0 < b) : a.fdiv b = a / b := Int.fdiv_eq_ediv_of_nonneg a (by omega)
theorem appD_ok {l : List D} {d : D} (h : l.length < sizeLine) : appD (.lst true l) [d] = some (.non, .lst true (l ++ [d])) := by
  unfold appD
  simp [h]
theorem popD_snoc {l : List D} {d : D} : popD (.lst true (l ++ [d])) [] = some (d, .lst true l) := by
  unfold popD
  simp
theorem appD_map {α : Type} {f : α → D} {l : List α} {a : α} (h : l.length < sizeLine) : appD (.lst true (l.map f)) [f a] = some (.non, .lst true ((l ++ [a]).map f)) := by
  rw [appD_ok (by rw [List.length_map]; exact h), List.map_append]
  rfl
@[simp] theorem sz_ofNat1 : 1 ≤ sizeLine := by rw [sizeLine_eq]; decide
@[simp] theorem sz_ofNat2 : 2 ≤ sizeLine := by rw [sizeLine_eq]; decide
@[simp] theorem sz_ofNat3 : 3 ≤ sizeLine := by rw [sizeLine_eq]; decide
@[simp] theorem sz_ofNat4 : 4 ≤ sizeLine := by rw [sizeLine_eq]; decide
@[simp] theorem sz_ofNat5 : 5 ≤ sizeLine := by rw [sizeLine_eq]; decide
@[simp] theorem sz_ofNat6 : 6 ≤ sizeLine := by rw [sizeLine_eq]; decide
@[simp] theorem sz_ofNat7 : 7 ≤ sizeLine := by rw [sizeLine_eq]; decide
@[simp] theorem sz_ofNat8 : 8 ≤ sizeLine := by rw [sizeLine_eq]; decide
@[simp] theorem sz_ofNat9 : 9 ≤ sizeLine := by rw [sizeLine_eq]; decide
@[simp] theorem sz_ofNat10 : 10 ≤ sizeLine := by rw [sizeLine_eq]; decide
@[simp] theorem sz_ofNat11 : 11 ≤ sizeLine := by rw [sizeLine_eq]; decide
@[simp] theorem sz_ofNat12 : 12 ≤ sizeLine := by rw [sizeLine_eq]; decide
@[simp] theorem sz_ofNat13 : 13 ≤ sizeLine := by rw [sizeLine_eq]; decide
@[simp] theorem sz_ofNat14 : 14 ≤ sizeLine := by rw [sizeLine_eq]; decide
@[simp] theorem sz_ofNat15 : 15 ≤ sizeLine := by rw [sizeLine_eq]; decide
@[simp] theorem sz_ofNat16 : 16 ≤ sizeLine := by rw [sizeLine_eq]; decide
@[simp] theorem sz_ofNat17 : 17 ≤ sizeLine := by rw [sizeLine_eq]; decide
@[simp] theorem sz_ofNat18 : 18 ≤ sizeLine := by rw [sizeLine_eq]; decide
@[simp] theorem sz_ofNat19 : 19 ≤ sizeLine := by rw [sizeLine_eq]; decide
@[simp] theorem sz_ofNat20 : 20 ≤ sizeLine := by rw [sizeLine_eq]; decide
@[simp] theorem sz_ofNat21 : 21 ≤ sizeLine := by rw [sizeLine_eq]; decide
@[simp] theorem sz_ofNat22 : 22 ≤ sizeLine := by rw [sizeLine_eq]; decide
@[simp] theorem sz_ofNat23 : 23 ≤ sizeLine := by rw [sizeLine_eq]; decide
@[simp] theorem sz_ofNat24 : 24 ≤ sizeLine := by rw [sizeLine_eq]; decide
@[simp] theorem sz_ofNat25 : 25 ≤ sizeLine := by rw [sizeLine_eq]; decide
@[simp] theorem sz_ofNat26 : 26 ≤ sizeLine := by rw [sizeLine_eq]; decide
@[simp] theorem sz_ofNat27 : 27 ≤ sizeLine := by rw [sizeLine_eq]; decide
@[simp] theorem sz_ofNat28 : 28 ≤ sizeLine := by rw [sizeLine_eq]; decide
@[simp] theorem sz_ofNat29 : 29 ≤ sizeLine := by rw [sizeLine_eq]; decide
@[simp] theorem sz_ofNat30 : 30 ≤ sizeLine := by rw [sizeLine_eq]; decide
@[simp] theorem sz_ofNat31 : 31 ≤ sizeLine := by rw [sizeLine_eq]; decide
@[simp] theorem sz_ofNat32 : 32 ≤ sizeLine := by rw [sizeLine_eq]; decide
theorem popAtD_ok {l : List D} {n : Nat} {d : D} (h : l[n]? = some d) (hz : l.length ≤ sizeLine) : popAtD (.lst true l) [.int (n : Int)] = some (d, .lst true (l.eraseIdx n)) := by
  have hn := (List.getElem?_eq_some_iff.mp h).1
  rw [sizeLine_eq] at hz
  unfold popAtD
  dsimp only
  rw [if_pos ⟨by omega, by omega⟩]
  have e : ixN l.length (n : Int) = some n := by
    unfold ixN
    rw [if_pos (by omega), if_pos (by omega)]
    simp
  rw [e]
  dsimp only
  rw [h]
theorem popAt0 {l : List D} {d : D} : popAtD (.lst true (d :: l)) [.int 0] = some (d, .lst true l) := by
  unfold popAtD
  dsimp only
  rw [if_pos ⟨by decide, by decide⟩]
  have e : ixN (d :: l).length (0 : Int) = some 0 := by
    unfold ixN
    rw [if_pos (by decide), if_pos (by simp)]
    rfl
  rw [e]
  rfl
theorem eRg2_ok {f g : Cm Tm} {ρ ρ1 ρ2 : Env} {t1 t2 : Tm} {m n : Int} (h1 : f ρ = .ok t1 ρ1) (h2 : g ρ1 = .ok t2 ρ2) (h3 : look ρ2 t1 = some (.int m)) (h4 : look ρ2 t2 = some (.int n)) (h : inG m n = true) : eRg2 false f g ρ = .ok (.v (.lst true (rngD m (n - m).toNat))) ρ2 := by
  unfold eRg2
  rw [h1]
  show ((g ρ1).bind _) = _
  rw [h2]
  show (match look ρ2 t1, look ρ2 t2 with
    | some (.int m), some (.int n) => if inG m n = true then Out.ok (Tm.v (if false = true then D.tup (rngD m (n - m).toNat) else .lst true (rngD m (n - m).toNat))) ρ2 else .bad
    | _, _ => .bad) = _
  rw [h3, h4]
  show (if inG m n = true then _ else _) = _
  rw [if_pos h]
  rfl
theorem eRg1_ok {f : Cm Tm} {ρ ρ1 : Env} {t1 : Tm} {n : Int} (h1 : f ρ = .ok t1 ρ1) (h3 : look ρ1 t1 = some (.int n)) (h : inG 0 n = true) : eRg1 false f ρ = .ok (.v (.lst true (rngD 0 n.toNat))) ρ1 := by
  unfold eRg1
  rw [h1]
  show (match look ρ1 t1 with
    | some (.int n) => if inG 0 n = true then Out.ok (Tm.v (if false = true then D.tup (rngD 0 n.toNat) else .lst true (rngD 0 n.toNat))) ρ1 else .bad
    | _ => .bad) = _
  rw [h3]
  show (if inG 0 n = true then _ else _) = _
  rw [if_pos h]
  rfl
/-- .. the slots within what I says of the items left -/
theorem compL_eachN {own : List Nat} {g : D → Tg} {e : Cm Tm} {I : List D → Env → Prop} {R : D → Prop} : ∀ {ds acc : List D} {ρ : Env}, I ds ρ → (∀ d ds ρ, I (d :: ds) ρ → ∃ ρ1 r ρ3, g d ρ = some ρ1 ∧ e ρ1 = .ok (.v r) ρ3 ∧ R r ∧ I ds (wipeD ρ3 own)) →
    acc.length + ds.length ≤ sizeLine → ∃ rs ρ', compL own g bYes e ds acc ρ = .ok (acc ++ rs) ρ' ∧ I [] ρ' ∧ (∀ r ∈ rs, R r) ∧ rs.length = ds.length
  | [], acc, ρ, hi, _, _ => ⟨[], ρ, by simp, hi, by simp, by simp⟩
  | d :: ds, acc, ρ, hi, h, hz => by
    obtain ⟨ρ1, r, ρ3, h1, h5, h6, h7⟩ := h d ds ρ hi
    have hz' : acc.length + (ds.length + 1) ≤ sizeLine := by simpa using hz
    unfold compL
    rw [h1]
    simp only [bYes, if_true, h5, Out.nox, Out.bind_ok]
    rw [if_pos (by omega)]
    obtain ⟨rs, ρ', q1, q2, q3, q4⟩ := compL_eachN (acc := acc ++ [r]) h7 h (by simp; omega)
    refine ⟨r :: rs, ρ', by rw [q1]; simp, q2, fun y hy => ?_, by simp; omega⟩
    rcases List.mem_cons.mp hy with rfl | hy
    · exact h6
    · exact q3 y hy
/-- signs, each a text of its own -/
def sgn (cs : List Nat) : List D := cs.map fun c => .str [c]
theorem sgn_of {P : Nat → Prop} : ∀ {rs : List D}, (∀ r ∈ rs, ∃ c, P c ∧ r = .str [c]) → ∃ cs, rs = sgn cs ∧ ∀ c ∈ cs, P c
  | [], _ => ⟨[], rfl, by simp⟩
  | r :: rs, h => by
    obtain ⟨c, hc, rfl⟩ := h r List.mem_cons_self
    obtain ⟨cs, e, hcs⟩ := sgn_of (P := P) (rs := rs) fun x hx => h x (List.mem_cons_of_mem _ hx)
    exact ⟨c :: cs, by rw [e]; rfl, fun x hx => (List.mem_cons.mp hx).elim (fun e => e ▸ hc) (hcs x)⟩
theorem sgn_sort (cs : List Nat) : ∃ cs', sortD (sgn cs) = sgn cs' ∧ cs'.Perm cs := by
  have hp : (sortD (sgn cs)).Perm (sgn cs) := List.mergeSort_perm _ _
  obtain ⟨cs', e, _⟩ := sgn_of (P := fun _ => True) (rs := sortD (sgn cs)) fun r hr => by
    obtain ⟨c, _, rfl⟩ := List.mem_map.mp (hp.mem_iff.mp hr)
    exact ⟨c, trivial, rfl⟩
  refine ⟨cs', e, ?_⟩
  rw [e] at hp
  unfold sgn at hp
  let F : D → Nat := fun d => match d with
    | .str [c] => c
    | _ => 0
  have h2 := hp.map F
  have e0 : ∀ l : List Nat, (l.map fun c => D.str [c]).map F = l := fun l => by
    rw [List.map_map]
    exact List.map_id l
  rw [e0, e0] at h2
  exact h2
theorem sgn_sortOk (cs : List Nat) (h : ∀ c ∈ cs, c < 1114112) : sortOk (sgn cs) = true := by
  have hp : D.pls (sgn cs) = true := by
    induction cs with
    | nil => rfl
    | cons c cs ih =>
      show (D.pl (.str [c]) && D.pls (sgn cs)) = true
      rw [ih fun x hx => h x (List.mem_cons_of_mem _ hx), Bool.and_true]
      show PyData.strOk ⟨[c].toArray⟩ = true
      unfold PyData.strOk
      simpa using h c List.mem_cons_self
  unfold sortOk
  simp only [Bool.and_eq_true, Bool.or_eq_true, List.all_eq_true, decide_eq_true_eq]
  refine ⟨⟨⟨fun a ha b hb => ?_, .inr fun a ha => ?_⟩, hp⟩, fun a ha => ?_⟩
  · obtain ⟨x, _, rfl⟩ := List.mem_map.mp ha
    obtain ⟨y, _, rfl⟩ := List.mem_map.mp hb
    rfl
  · obtain ⟨x, _, rfl⟩ := List.mem_map.mp ha
    rfl
  · obtain ⟨x, _, rfl⟩ := List.mem_map.mp ha
    simp [D.dep]
theorem sgn_owns (cs : List Nat) : D.owns (sgn cs) = false := by
  induction cs with
  | nil => rfl
  | cons c cs ih =>
    show ((D.str [c]).own || D.owns (sgn cs)) = false
    rw [ih]
    rfl
theorem joinL_empty : ∀ l : List (List Nat), joinL [] l = l.flatten
  | [] => rfl
  | [x] => by simp [joinL]
  | x :: y :: r => by
    have ih := joinL_empty (y :: r)
    simp only [joinL, List.append_nil]
    rw [ih]
    simp
theorem sgn_join (cs : List Nat) (h : cs.length ≤ 1000000) (o : Bool) : joinD [.str [], .lst o (sgn cs)] = some (.str cs) := by
  unfold joinD sgn
  dsimp only
  rw [strsL_map (fun c : Nat => [c]), Option.bind_some, if_pos, joinL_empty]
  · congr 2
    induction cs with
    | nil => rfl
    | cons c cs ih =>
      rw [List.map_cons, List.flatten_cons, ih (by simp at h; omega)]
      rfl
  · rw [List.map_map]
    have : ((cs.map (List.length ∘ fun c => [c])).sum) = cs.length := by
      clear h
      induction cs with
      | nil => rfl
      | cons c cs ih => simp [ih]; omega
    rw [this]
    simp only [List.length_nil, Nat.mul_zero]
    omega
theorem sgn_sorted {o : Bool} (cs : List Nat) (h : ∀ c ∈ cs, c < 1114112) : ∃ cs', sortedD [.lst o (sgn cs)] = some (.lst true (sgn cs')) ∧ cs'.Perm cs := by
  obtain ⟨cs', e, p⟩ := sgn_sort cs
  refine ⟨cs', ?_, p⟩
  unfold sortedD
  dsimp only
  rw [if_pos ⟨sgn_owns cs, sgn_sortOk cs h⟩, e]
end Dl

set_option linter.all false
set_option maxRecDepth 100000
set_option maxHeartbeats 0
namespace Lw
open PySem PySem.Spec PyProof.Rows L2 Dl
noncomputable def swallows_c1e : Cm Dl.Tm := (e2 (inDD false) (eM 2) (e2 ixD (eM 0) (eC (.int 1))))
noncomputable def b_swallows : Cm Fl := (sRet (vAnd (e2 (eqDD false) (e2 ixD (eM 0) (eC (.int 0))) (eC (.str [97, 110, 121]))) (eCa allD (aCons (eComp [2] (srcA (e2 ixD (eM 1) (eC (.int 1)))) (gN 2) bYes swallows_c1e) aNil))))
noncomputable def sem_swallows : List D → Out (List D) D := bodyF 3 [] b_swallows
noncomputable def b_may_take : Cm Fl := (sRet (vOr (callD 2 sem_swallows [] (aCons (eM 0) (aCons (eM 1) aNil))) (e2 (eqDD false) (eM 0) (eM 1))))
noncomputable def sem_may_take : List D → Out (List D) D := bodyF 2 [] b_may_take
noncomputable def product_within_w1c : Cm Bool := (bAnd (toB (e2 (ltD) (eM 2) (eCa lenD (aCons (eM 1) aNil)))) (bNot (toB (callD 2 sem_may_take [] (aCons (e2 ixD (eM 1) (eM 2)) (aCons (eM 3) aNil))))))
noncomputable def product_within_w1b : Cm Fl := (sSet 2 (e2 addD (eM 2) (eC (.int 1))))
noncomputable def product_within_f1b : Cm Fl := (sSeq (sWhile product_within_w1c product_within_w1b)
  (sSeq (sIf (toB (e2 (eqDD false) (eM 2) (eCa lenD (aCons (eM 1) aNil)))) (sRet (eC (.bl false))) sNil)
  (sSet 2 (e2 addD (eM 2) (eCa intD (aCons (e2 (eqDD false) (e2 ixD (e2 ixD (eM 1) (eM 2)) (eC (.int 0))) (eC (.str [109, 97, 121, 98, 101]))) aNil))))))
noncomputable def b_product_within : Cm Fl := (sSeq (sSet 2 (eC (.int 0)))
  (sSeq (sFor [3, 2, 2] (srcA (eN 0)) (gN 3) product_within_f1b)
  (sRet (eC (.bl true)))))
noncomputable def sem_product_within : List D → Out (List D) D := bodyF 4 [2, 3, 2, 2] b_product_within
noncomputable def law_pot_f1b : Cm Fl := (sSeq (sSet 2 (e2 modD (e2 addD (e2 addD (e2 mulDD (eM 2) (eC (.int 48271))) (e2 modD (eM 4) (eC (.int 2147483629)))) (eC (.int 1))) (eC (.int 2147483647))))
  (sIf (toB (e2 (geD) (eM 4) (e2 powD (eC (.int 10)) (eC (.int 18))))) (sDrop (eMut "list" true appD (pSl 3) (aCons (eM 4) aNil))) sNil))
noncomputable def b_law_pot : Cm Fl := (sSeq (sSet 2 (e2 addD (e2 mulDD (eC (.int 7919)) (eM 1)) (eC (.int 104729))))
  (sSeq (sSet 3 (eLst aNil))
  (sSeq (sFor [4, 2] (srcA (eSl (eM 0) (oSome (eM 1)) (oSome (eC (.int 63))))) (gN 4) law_pot_f1b)
  (sRet (eLst (aCons (eN 2) (aCons (eC (.int 0)) (aCons (eG 3) aNil))))))))
noncomputable def sem_law_pot : List D → Out (List D) D := bodyF 5 [2, 3, 4, 2] b_law_pot
noncomputable def law_draw_w1c : Cm Bool := (bAnd (toB (e2 (eqDD false) (e2 ixD (eM 0) (eC (.int 1))) (eC (.int 0)))) (toB (e2 (gtD) (eCaP lenD (pIx (pSl 0) (eC (.int 2)))) (eC (.int 0)))))
noncomputable def law_draw_w1b : Cm Fl := (sAsg (gSt (pSl 0) (eC (.int 1))) (eZ (eMut "list" true popAtD (pIx (pSl 0) (eC (.int 2))) (aCons (eC (.int 0)) aNil))))
noncomputable def b_law_draw : Cm Fl := (sSeq (sWhile law_draw_w1c law_draw_w1b)
  (sSeq (sIf (toB (e2 (gtD) (e2 ixD (eM 0) (eC (.int 1))) (eC (.int 0)))) (sSeq (sSet 3 (e2 modD (e2 ixD (eM 0) (eC (.int 1))) (eM 1)))
  (sSeq (sAsg (gSt (pSl 0) (eC (.int 1))) (e2 fdivD (e2 ixD (eM 0) (eC (.int 1))) (eM 1)))
  (sRet (eN 3)))) sNil)
  (sSeq (sSet 2 (e2 modD (e2 addD (e2 mulDD (e2 ixD (eM 0) (eC (.int 0))) (eC (.int 48271))) (eC (.int 7919))) (eC (.int 2147483647))))
  (sSeq (sAsg (gSt (pSl 0) (eC (.int 0))) (e2 addD (e2 modD (e2 addD (e2 mulDD (eM 2) (eC (.int 40692))) (eC (.int 12345))) (eC (.int 2147483399))) (eC (.int 1))))
  (sRet (e2 modD (e2 fdivD (e2 addD (e2 mulDD (e2 modD (e2 mulDD (eM 2) (eM 2)) (eC (.int 2147483629))) (eC (.int 31))) (e2 ixD (eM 0) (eC (.int 0)))) (eC (.int 64))) (eM 1)))))))
noncomputable def sem_law_draw : List D → Out (List D) D := bodyF 4 [3, 2] b_law_draw
noncomputable def law_letters_c1e : Cm Dl.Tm := (eZ (eMut "list" false popAtD (pSl 2) (aCons (eZ (callD 2 sem_law_draw [] (aCons (eM 0) (aCons (eCa lenD (aCons (eM 2) aNil)) aNil)))) aNil)))
noncomputable def b_law_letters : Cm Fl := (sSeq (sSet 2 (eCa listDD (aCons (eC (.str [97, 98, 99, 100, 101, 102, 103, 104, 105, 106, 107, 108, 109, 110, 111, 112, 113, 114, 115, 116, 117, 118, 119, 120, 121, 122])) aNil)))
  (sRet (eMe "str" joinD (eC (.str [])) (aCons (eCa sortedD (aCons (eComp [3] (rng1 (aCons (eN 1) aNil)) (gN 3) bYes law_letters_c1e) aNil)) aNil))))
noncomputable def sem_law_letters : List D → Out (List D) D := bodyF 4 [2] b_law_letters
noncomputable def law_piece_c1t : Cm Bool := (toB (e2 (eqDD false) (callD 2 sem_law_draw [] (aCons (eM 0) (aCons (eC (.int 2)) aNil))) (eC (.int 0))))
noncomputable def law_piece_c1e : Cm Dl.Tm := (eN 3)
noncomputable def b_law_piece : Cm Fl := (sSeq (sIf (toB (e2 (eqDD false) (callD 2 sem_law_draw [] (aCons (eM 0) (aCons (eC (.int 2)) aNil))) (eC (.int 0)))) (sRet (eTup (aCons (eC (.str [109, 97, 121, 98, 101])) (aCons (e2 ixD (eM 1) (callD 2 sem_law_draw [] (aCons (eM 0) (aCons (eCa lenD (aCons (eM 1) aNil)) aNil)))) aNil)))) sNil)
  (sSeq (sSet 2 (eMe "str" joinD (eC (.str [])) (aCons (eComp [3] (srcA (eN 1)) (gN 3) law_piece_c1t law_piece_c1e) aNil)))
  (sSeq (sIf (toB (e2 (eqDD false) (eM 2) (eC (.str [])))) (sSet 2 (e2 ixD (eM 1) (callD 2 sem_law_draw [] (aCons (eM 0) (aCons (eCa lenD (aCons (eM 1) aNil)) aNil))))) sNil)
  (sRet (eTup (aCons (eC (.str [97, 110, 121])) (aCons (eN 2) aNil)))))))
noncomputable def sem_law_piece : List D → Out (List D) D := bodyF 4 [2, 2] b_law_piece
noncomputable def law_product_c1e : Cm Dl.Tm := (eZ (callD 2 sem_law_piece [] (aCons (eM 0) (aCons (eM 1) aNil))))
noncomputable def b_law_product : Cm Fl := (sRet (eCa tupleD (aCons (eComp [3] (rng1 (aCons (eZ (callD 2 sem_law_draw [] (aCons (eM 0) (aCons (e2 addD (eM 2) (eC (.int 1))) aNil)))) aNil)) (gN 3) bYes law_product_c1e) aNil)))
noncomputable def sem_law_product : List D → Out (List D) D := bodyF 4 [] b_law_product
noncomputable def law_has_f1b : Cm Fl := (sIf (bAnd (toB (e2 (ltD) (eM 5) (eCa lenD (aCons (eM 0) aNil)))) (toB (e2 (inDD false) (eM 3) (e2 ixD (e2 ixD (eM 0) (eM 5)) (eC (.int 1)))))) (sDrop (eMut "list" true appD (pSl 4) (aCons (e2 addD (eM 5) (eCa intD (aCons (e2 (eqDD false) (e2 ixD (e2 ixD (eM 0) (eM 5)) (eC (.int 0))) (eC (.str [109, 97, 121, 98, 101]))) aNil))) aNil))) sNil)
noncomputable def law_has_f2b : Cm Fl := (sSeq (sSet 4 (eLst aNil))
  (sSeq (sFor [5] (srcA (eN 2)) (gN 5) law_has_f1b)
  (sSeq (sIf (toB (e2 (eqDD false) (eCa lenD (aCons (eM 4) aNil)) (eC (.int 0)))) (sRet (eC (.bl false))) sNil)
  (sSet 2 (eZ (eRg2 false (eCa minD (aCons (eM 4) aNil)) (e2 addD (eCa lenD (aCons (eM 0) aNil)) (eC (.int 1)))))))))
noncomputable def b_law_has : Cm Fl := (sSeq (sSet 2 (eZ (eRg1 false (e2 addD (eCa lenD (aCons (eM 0) aNil)) (eC (.int 1))))))
  (sSeq (sFor [3, 4, 5, 2] (srcA (eN 1)) (gN 3) law_has_f2b)
  (sRet (eC (.bl true)))))
noncomputable def sem_law_has : List D → Out (List D) D := bodyF 6 [2, 3, 4, 5, 2] b_law_has
noncomputable def law_full_c1e : Cm Dl.Tm := (eZ (e2 mulDD (eM 3) (e2 ixD (eLst (aCons (eC (.int 1)) (aCons (eN 1) aNil))) (eCa intD (aCons (e2 (eqDD false) (eM 2) (eC (.str [97, 110, 121]))) aNil)))))
noncomputable def b_law_full : Cm Fl := (sRet (eMe "str" joinD (eC (.str [])) (aCons (eComp [2, 3] (srcA (eN 0)) (gTupD 2 (gsCons (gN 2) (gsCons (gN 3) gsNil))) bYes law_full_c1e) aNil)))
noncomputable def sem_law_full : List D → Out (List D) D := bodyF 4 [] b_law_full
noncomputable def b_law_under : Cm Fl := (sRet (callD 2 sem_law_has [] (aCons (eM 1) (aCons (eZ (callD 2 sem_law_full [] (aCons (eM 0) (aCons (e2 addD (eCa lenD (aCons (eM 1) aNil)) (eC (.int 1))) aNil)))) aNil))))
noncomputable def sem_law_under : List D → Out (List D) D := bodyF 2 [] b_law_under
noncomputable def law_c1e : Cm Dl.Tm := (eZ (callD 3 sem_law_product [] (aCons (eM 1) (aCons (eM 2) (aCons (eC (.int 5)) aNil)))))
noncomputable def law_f1b : Cm Fl := (sSeq (sIf (toB (e2 (eqDD true) (eCa reprD (aCons (callD 2 sem_product_within [] (aCons (eM 6) (aCons (eM 7) aNil))) aNil)) (eCa reprD (aCons (callD 2 sem_law_under [] (aCons (eM 6) (aCons (eM 7) aNil))) aNil)))) (sRet (eC (.bl false))) sNil)
  (sIf (toB (e2 (eqDD true) (eCa reprD (aCons (callD 2 sem_product_within [] (aCons (eM 7) (aCons (eM 6) aNil))) aNil)) (eCa reprD (aCons (callD 2 sem_law_under [] (aCons (eM 7) (aCons (eM 6) aNil))) aNil)))) (sRet (eC (.bl false))) sNil))
noncomputable def law_f2b : Cm Fl := (sFor [7] (srcA (e2 addD (eM 3) (eLst (aCons (eTup aNil) aNil)))) (gN 7) law_f1b)
noncomputable def b_law : Cm Fl := (sSeq (sSet 1 (callD 2 sem_law_pot [] (aCons (eM 0) (aCons (eC (.int 0)) aNil))))
  (sSeq (sSet 2 (eZ (callD 2 sem_law_letters [] (aCons (eM 1) (aCons (eZ (e2 addD (eC (.int 1)) (callD 2 sem_law_draw [] (aCons (eM 1) (aCons (eC (.int 3)) aNil))))) aNil)))))
  (sSeq (sSet 3 (eComp [8] (rng1 (aCons (eC (.int 3)) aNil)) (gN 8) bYes law_c1e))
  (sSeq (sSet 4 (eZ (callD 2 sem_law_draw [] (aCons (eM 1) (aCons (e2 addD (eCaP lenD (pIx (pSl 3) (eC (.int 0)))) (eC (.int 1))) aNil)))))
  (sSeq (sSet 5 (eZ (e2 mulDD (eTup (aCons (eZ (callD 2 sem_law_piece [] (aCons (eM 1) (aCons (eM 2) aNil)))) aNil)) (callD 2 sem_law_draw [] (aCons (eM 1) (aCons (eC (.int 3)) aNil))))))
  (sSeq (sSet 6 (e2 ixD (eM 3) (eC (.int 0))))
  (sSeq (sSet 6 (eZ (e2 addD (e2 addD (eSl (eM 6) oNone (oSome (eM 4))) (eM 5)) (eSl (eM 6) (oSome (e2 addD (eM 4) (callD 2 sem_law_draw [] (aCons (eM 1) (aCons (eC (.int 2)) aNil))))) oNone))))
  (sSeq (sDrop (eMut "list" true appD (pSl 3) (aCons (eZ (eSl (eM 6) oNone (oSome (eC (.int 5))))) aNil)))
  (sSeq (sFor [6, 7] (srcA (eF 3)) (gN 6) law_f2b)
  (sRet (eC (.bl true))))))))))))
noncomputable def sem_law : List D → Out (List D) D := bodyF 9 [1, 2, 3, 4, 5, 6, 6, 6, 7] b_law
end Lw

set_option linter.all false
set_option maxRecDepth 100000
namespace Lw
/-- a piece: whether it is an any, its letters -/
abbrev Pc1 := Bool × List Nat
def swal (p q : Pc1) : Bool := p.1 && q.2.all fun c => decide (c ∈ p.2)
def take (p q : Pc1) : Bool := swal p q || decide (p = q)
def first (f : Pc1 → Bool) (l : List Pc1) (n : Nat) : Nat := n + (l.drop n).findIdx f
def bit (p : Pc1) : Nat := if p.1 = true then 0 else 1
def step (l : List Pc1) (f : Pc1 → Bool) (n : Nat) : Option Nat := (l[first f l n]?).map fun q => first f l n + bit q
def run (l : List Pc1) : List (Pc1 → Bool) → Nat → Option Nat
  | [], n => some n
  | f :: fs, n => (step l f n).bind (run l fs)
theorem bit_le (p : Pc1) : bit p ≤ 1 := by unfold bit; split <;> omega
theorem run_app (l : List Pc1) : ∀ (a b : List (Pc1 → Bool)) (n : Nat), run l (a ++ b) n = (run l a n).bind (run l b)
  | [], b, n => rfl
  | f :: a, b, n => by
    show (step l f n).bind (run l (a ++ b)) = ((step l f n).bind (run l a)).bind (run l b)
    cases step l f n with
    | none => rfl
    | some m => exact run_app l a b m
theorem first_ge (f : Pc1 → Bool) (l : List Pc1) (n : Nat) : n ≤ first f l n := Nat.le_add_right _ _
theorem first_le (f : Pc1 → Bool) (l : List Pc1) (n : Nat) (h : n ≤ l.length) : first f l n ≤ l.length := by
  unfold first
  have := List.findIdx_le_length (p := f) (xs := l.drop n)
  rw [List.length_drop] at this
  omega
theorem first_is {f : Pc1 → Bool} {l : List Pc1} {n : Nat} {q : Pc1} (h : l[first f l n]? = some q) : f q = true := by
  unfold first at h
  rw [← List.getElem?_drop] at h
  obtain ⟨hl, e⟩ := List.getElem?_eq_some_iff.mp h
  rw [← e]
  exact List.findIdx_getElem
theorem first_not {f : Pc1 → Bool} {l : List Pc1} {n j : Nat} {q : Pc1} (h1 : n ≤ j) (h2 : j < first f l n) (h : l[j]? = some q) : f q = false := by
  unfold first at h2
  have h3 : j - n < (l.drop n).findIdx f := by omega
  have e : (l.drop n)[j - n]? = some q := by
    rw [List.getElem?_drop]
    rw [show n + (j - n) = j by omega]
    exact h
  obtain ⟨hl, e⟩ := List.getElem?_eq_some_iff.mp e
  have := List.not_of_lt_findIdx h3
  rw [e] at this
  simpa using this
theorem first_eq {f : Pc1 → Bool} {l : List Pc1} {n i : Nat} {q : Pc1} (h1 : n ≤ i) (h : l[i]? = some q) (hf : f q = true) (hn : ∀ j q', n ≤ j → j < i → l[j]? = some q' → f q' = false) : first f l n = i := by
  have hi := (List.getElem?_eq_some_iff.mp h).1
  rcases Nat.lt_trichotomy (first f l n) i with c | c | c
  · have hl : first f l n < l.length := by omega
    have e := List.getElem?_eq_getElem hl
    have := hn _ _ (first_ge f l n) c e
    rw [first_is e] at this
    cases this
  · exact c
  · have := first_not h1 c h
    rw [hf] at this
    cases this
theorem step_some {l : List Pc1} {f : Pc1 → Bool} {n m : Nat} (h : step l f n = some m) : ∃ i q, l[i]? = some q ∧ f q = true ∧ n ≤ i ∧ m = i + bit q ∧ i = first f l n := by
  unfold step at h
  obtain ⟨q, h1, h2⟩ := Option.map_eq_some_iff.mp h
  exact ⟨_, q, h1, first_is h1, first_ge f l n, h2.symm, rfl⟩
theorem step_none {l : List Pc1} {f : Pc1 → Bool} {n : Nat} (h : step l f n = none) : ∀ j q, n ≤ j → l[j]? = some q → f q = false := by
  intro j q h1 h2
  unfold step at h
  have h3 := List.getElem?_eq_none_iff.mp (Option.map_eq_none_iff.mp h)
  have hj := (List.getElem?_eq_some_iff.mp h2).1
  exact first_not h1 (by omega) h2
theorem step_of {l : List Pc1} {f : Pc1 → Bool} {n i : Nat} {q : Pc1} (h1 : n ≤ i) (h : l[i]? = some q) (hf : f q = true) (hn : ∀ j q', n ≤ j → j < i → l[j]? = some q' → f q' = false) : step l f n = some (i + bit q) := by
  unfold step
  rw [first_eq h1 h hf hn, h]
  rfl
def cf (c : Nat) : Pc1 → Bool := fun q => decide (c ∈ q.2)
theorem step_len {l : List Pc1} {f : Pc1 → Bool} {n m : Nat} (h : step l f n = some m) : n ≤ m ∧ m ≤ l.length := by
  obtain ⟨i, q, h1, _, h2, h3, _⟩ := step_some h
  have := (List.getElem?_eq_some_iff.mp h1).1
  have := bit_le q
  omega
theorem run_len {l : List Pc1} : ∀ {fs : List (Pc1 → Bool)} {n m : Nat}, run l fs n = some m → n ≤ m ∧ (n ≤ l.length → m ≤ l.length)
  | [], n, m, h => by
    cases h
    exact ⟨Nat.le_refl _, fun h => h⟩
  | f :: fs, n, m, h => by
    obtain ⟨k, h1, h2⟩ := Option.bind_eq_some_iff.mp h
    have a := step_len h1
    have b := run_len h2
    exact ⟨by omega, fun _ => b.2 a.2⟩
/-- a pass that stays stands at an any with all letters -/
theorem run_stay {l : List Pc1} : ∀ {cs : List Nat} {n : Nat}, run l (cs.map cf) n = some n → ∀ c ∈ cs, ∃ q, l[n]? = some q ∧ q.1 = true ∧ c ∈ q.2
  | [], n, _ => fun c h => nomatch h
  | c :: cs, n, h => by
    obtain ⟨k, h1, h2⟩ := Option.bind_eq_some_iff.mp (show (step l (cf c) n).bind (run l (cs.map cf)) = some n from h)
    have a := step_len h1
    have b := run_len h2
    have e : k = n := by omega
    subst e
    obtain ⟨i, q, h3, h4, h5, h6, _⟩ := step_some h1
    have hb := bit_le q
    have e2 : i = k := by omega
    subst e2
    have hq : q.1 = true := by
      have hb0 : bit q = 0 := by omega
      unfold bit at hb0
      split at hb0
      · assumption
      · omega
    intro x hx
    rcases List.mem_cons.mp hx with rfl | hx
    · exact ⟨q, h3, hq, by simpa [cf] using h4⟩
    · exact run_stay h2 x hx
/-- not past an any that has all letters -/
theorem run_upto {l : List Pc1} {k : Nat} {q : Pc1} (hk : l[k]? = some q) (ha : q.1 = true) : ∀ {cs : List Nat} {n : Nat}, n ≤ k → (∀ c ∈ cs, c ∈ q.2) → ∃ m, run l (cs.map cf) n = some m ∧ n ≤ m ∧ m ≤ k
  | [], n, h, _ => ⟨n, rfl, Nat.le_refl _, h⟩
  | c :: cs, n, h, hc => by
    have hs : ∃ m, step l (cf c) n = some m ∧ n ≤ m ∧ m ≤ k := by
      cases hs : step l (cf c) n with
      | none =>
        have := step_none hs k q h hk
        simp [cf, hc c List.mem_cons_self] at this
      | some m =>
        obtain ⟨i, q', h1, h2, h3, h4, h5⟩ := step_some hs
        have hik : i ≤ k := by
          by_cases hik : i ≤ k
          · exact hik
          · have := first_not (f := cf c) (n := n) (j := k) h (by omega) hk
            simp [cf, hc c List.mem_cons_self] at this
        refine ⟨m, rfl, by omega, ?_⟩
        have hb := bit_le q'
        by_cases e : i = k
        · subst e
          rw [hk] at h1
          cases h1
          have : bit q = 0 := by unfold bit; rw [if_pos ha]
          omega
        · omega
    obtain ⟨m, h1, h2, h3⟩ := hs
    obtain ⟨m', h4, h5, h6⟩ := run_upto hk ha (cs := cs) h3 fun x hx => hc x (List.mem_cons_of_mem _ hx)
    exact ⟨m', by show (step l (cf c) n).bind (run l (cs.map cf)) = _; rw [h1]; exact h4, by omega, h6⟩
def reps (N : Nat) (cs : List Nat) : List Nat := (List.replicate N cs).flatten
theorem reps_succ (N : Nat) (cs : List Nat) : reps (N + 1) cs = cs ++ reps N cs := by simp [reps, List.replicate_succ]
theorem run_reps {l : List Pc1} {cs : List Nat} (N n : Nat) : run l ((reps (N + 1) cs).map cf) n = (run l (cs.map cf) n).bind (run l ((reps N cs).map cf)) := by
  rw [reps_succ, List.map_append, run_app]
/-- an any that all letters go to: it is come to -/
theorem reps_to {l : List Pc1} {cs : List Nat} {k : Nat} {q : Pc1} (hk : l[k]? = some q) (ha : q.1 = true) (hc : ∀ c ∈ cs, c ∈ q.2) (hn0 : cs ≠ []) : ∀ (N n : Nat), n ≤ k → k ≤ n + N → (∀ j q', n ≤ j → j < k → l[j]? = some q' → ¬ (q'.1 = true ∧ ∀ c ∈ cs, c ∈ q'.2)) → run l ((reps N cs).map cf) n = some k
  | 0, n, h1, h2, _ => by
    have : n = k := by omega
    subst this
    rfl
  | N + 1, n, h1, h2, hno => by
    rw [run_reps]
    obtain ⟨m, e, h3, h4⟩ := run_upto hk ha h1 hc
    rw [e]
    show run l ((reps N cs).map cf) m = some k
    refine reps_to hk ha hc hn0 N m h4 ?_ fun j q' hj => hno j q' (by omega)
    by_cases hm : m = n
    · subst hm
      by_cases hmk : m = k
      · omega
      · exfalso
        cases cs with
        | nil => exact hn0 rfl
        | cons c cs =>
          have hst := run_stay e
          obtain ⟨q0, e0, e1, _⟩ := hst c List.mem_cons_self
          refine hno m q0 (Nat.le_refl _) (by omega) e0 ⟨e1, fun x hx => ?_⟩
          obtain ⟨q1, e2, _, e3⟩ := hst x hx
          rw [e0] at e2
          cases e2
          exact e3
    · omega
/-- .. or there is no way -/
theorem reps_none {l : List Pc1} {cs : List Nat} (hn0 : cs ≠ []) : ∀ (N n : Nat), n ≤ l.length → l.length < n + N → (∀ j q', n ≤ j → l[j]? = some q' → ¬ (q'.1 = true ∧ ∀ c ∈ cs, c ∈ q'.2)) → run l ((reps N cs).map cf) n = none
  | 0, n, h1, h2, _ => by omega
  | N + 1, n, h1, h2, hno => by
    rw [run_reps]
    cases e : run l (cs.map cf) n with
    | none => rfl
    | some m =>
      have hl := run_len e
      show run l ((reps N cs).map cf) m = none
      have hm : m ≠ n := by
        intro hm
        subst hm
        cases cs with
        | nil => exact hn0 rfl
        | cons c cs =>
          have hst := run_stay e
          obtain ⟨q0, e0, e1, _⟩ := hst c List.mem_cons_self
          refine hno m q0 (Nat.le_refl _) e0 ⟨e1, fun x hx => ?_⟩
          obtain ⟨q1, e2, _, e3⟩ := hst x hx
          rw [e0] at e2
          cases e2
          exact e3
      exact reps_none hn0 N m (hl.2 h1) (by omega) fun j q' hj => hno j q' (by omega)
/-- the letters of a piece, an any's so many times over -/
def blk (N : Nat) (p : Pc1) : List Nat := if p.1 = true then reps N p.2 else p.2
def Pv (p : Pc1) : Prop := p.2 ≠ [] ∧ (p.1 = false → ∃ c, p.2 = [c])
theorem block {l : List Pc1} (hv : ∀ q ∈ l, Pv q) {p : Pc1} (hp : Pv p) {n N : Nat} (hn : n ≤ l.length) (hN : l.length < N) : run l ((blk N p).map cf) n = step l (fun q => take q p) n := by
  cases hb : p.1 with
  | false =>
    obtain ⟨c, hc⟩ := hp.2 hb
    have e : blk N p = [c] := by unfold blk; rw [hb, hc]; rfl
    rw [e]
    show (step l (cf c) n).bind (run l []) = _
    have same : ∀ q ∈ l, cf c q = take q p := fun q hq => by
      unfold cf take swal
      obtain ⟨b, s⟩ := p
      simp only at hb hc
      subst hb hc
      have v := hv q hq
      obtain ⟨b', s'⟩ := q
      cases b' with
      | true => simp
      | false =>
        obtain ⟨x, hx⟩ := v.2 rfl
        simp only at hx
        subst hx
        simp [eq_comm]
    have ef : step l (cf c) n = step l (fun q => take q p) n := by
      cases hs : step l (cf c) n with
      | none =>
        cases hs2 : step l (fun q => take q p) n with
        | none => rfl
        | some m =>
          obtain ⟨i, q, h1, h2, h3, _, _⟩ := step_some hs2
          have := step_none hs i q h3 h1
          rw [same q (List.mem_of_getElem? h1), h2] at this
          cases this
      | some m =>
        obtain ⟨i, q, h1, h2, h3, h4, h5⟩ := step_some hs
        rw [h4]
        refine (step_of h3 h1 ?_ fun j q' hj1 hj2 hq => ?_).symm
        · rw [← same q (List.mem_of_getElem? h1)]; exact h2
        · rw [← same q' (List.mem_of_getElem? hq)]
          exact first_not hj1 (by omega) hq
    rw [ef]
    cases step l (fun q => take q p) n <;> rfl
  | true =>
    have e : blk N p = reps N p.2 := by unfold blk; rw [if_pos hb]
    rw [e]
    have same : ∀ q : Pc1, take q p = true ↔ (q.1 = true ∧ ∀ c ∈ p.2, c ∈ q.2) := fun q => by
      unfold take swal
      simp only [Bool.or_eq_true, Bool.and_eq_true, List.all_eq_true, decide_eq_true_eq]
      constructor
      · rintro (h | h)
        · exact h
        · subst h; exact ⟨hb, fun c hc => hc⟩
      · exact .inl
    cases hs : step l (fun q => take q p) n with
    | none =>
      refine reps_none hp.1 N n hn (by omega) fun j q' hj hq h => ?_
      have := step_none hs j q' hj hq
      rw [(same q').mpr h] at this
      cases this
    | some m =>
      obtain ⟨i, q, h1, h2, h3, h4, h5⟩ := step_some hs
      have hq := (same q).mp h2
      have hb0 : bit q = 0 := by unfold bit; rw [if_pos hq.1]
      have hi := (List.getElem?_eq_some_iff.mp h1).1
      rw [reps_to h1 hq.1 hq.2 hp.1 N n h3 (by omega) fun j q' hj1 hj2 hq' h => ?_]
      · rw [h4, hb0]; rfl
      · have := first_not (f := fun q => take q p) hj1 (by omega) hq'
        rw [(same q').mpr h] at this
        cases this
/-- the word that goes round each any often: come through just where each piece is taken -/
theorem full_run {l : List Pc1} (hv : ∀ q ∈ l, Pv q) {N : Nat} (hN : l.length < N) : ∀ {ps : List Pc1} {n : Nat}, (∀ p ∈ ps, Pv p) → n ≤ l.length → run l ((ps.flatMap (blk N)).map cf) n = run l (ps.map fun p q => take q p) n
  | [], n, _, _ => rfl
  | p :: ps, n, hp, hn => by
    rw [List.flatMap_cons, List.map_append, run_app, block hv (hp p List.mem_cons_self) hn hN]
    show _ = (step l (fun q => take q p) n).bind (run l (ps.map fun p q => take q p))
    cases hs : step l (fun q => take q p) n with
    | none => rfl
    | some m => exact full_run hv hN (fun x hx => hp x (List.mem_cons_of_mem _ hx)) (step_len hs).2
end Lw

set_option linter.all false
set_option maxRecDepth 100000
namespace Lw
open PySem PySem.Spec PyProof.Rows L2 Dl
def kd (b : Bool) : List Nat := if b = true then [97, 110, 121] else [109, 97, 121, 98, 101]
def enc (p : Pc1) : D := .tup [.str (kd p.1), .str p.2]
theorem enc_cold (p : Pc1) : (enc p).cold := by
  unfold enc D.cold
  simp
@[simp] theorem enc_own (p : Pc1) : (enc p).own = false := (enc_cold p).2.2
theorem kd_any (b : Bool) : (kd b = [97, 110, 121]) = (b = true) := by cases b <;> simp [kd]
theorem kd_maybe (b : Bool) : (kd b = [109, 97, 121, 98, 101]) = (b = false) := by cases b <;> simp [kd]
/-- a piece as it is drawn -/
def Ok1 (p : Pc1) : Prop := Pv p ∧ p.2.length ≤ 26 ∧ ∀ c ∈ p.2, c < 1114112
theorem small26 {n : Nat} (h : n ≤ 26) : n ≤ sizeLine := by rw [sizeLine_eq]; omega
theorem s_swallows (p q : Pc1) (hq : Ok1 q) : sem_swallows [enc p, enc q] = .ok (.bl (swal p q)) [enc p, enc q] := by
  have hc := compL_map1 (own := [2]) (g := gN 2) (e := swallows_c1e) (ρ := [some (enc p), some (enc q), none]) (F := fun c => .str [c]) (r := fun c => .bl (decide (c ∈ p.2))) (l := q.2) (fun a ha => by
    simp [swallows_c1e, enc]) (small26 hq.2.1)
  unfold enc at hc
  refine bodyF_rt (ρ := [some (enc p), some (enc q), none]) ?_ (by simp)
  unfold b_swallows enc
  simp [kd_any, hc]
  unfold swal
  cases h : p.1 <;> simp
theorem strOk_of {l : List Nat} (h : ∀ c ∈ l, c < 1114112) : (D.str l).pl = true := by
  show PyData.strOk ⟨l.toArray⟩ = true
  unfold PyData.strOk
  simpa using h
theorem enc_pl (p : Pc1) (h : ∀ c ∈ p.2, c < 1114112) : (enc p).pl = true := by
  unfold enc
  simp only [D.pl, D.pls, Bool.and_true, Bool.and_eq_true]
  refine ⟨?_, strOk_of h⟩
  cases p.1 <;> decide +kernel
theorem enc_eqD (p q : Pc1) : eqD (enc p) (enc q) = decide (p = q) := by
  obtain ⟨a, b⟩ := p
  obtain ⟨c, d⟩ := q
  unfold eqD enc
  have e1 : ((⟨(kd a).toArray⟩ : Str) == ⟨(kd c).toArray⟩) = decide (a = c) := by cases a <;> cases c <;> decide +kernel
  have e2 : ((⟨b.toArray⟩ : Str) == ⟨d.toArray⟩) = decide (b = d) := by
    by_cases h : b = d
    · subst h; simp
    · rw [decide_eq_false h]
      refine beq_eq_false_iff_ne.mpr fun z => h ?_
      injection z with z
      simpa using z
  simp only [D.P, D.Ps, PyData.eqv, PyData.eqvAll, Bool.and_true]
  rw [e1, e2]
  simp [Prod.mk.injEq]
theorem enc_eq (p q : Pc1) (hp : Ok1 p) (hq : Ok1 q) : eqDD false (enc p) (enc q) = some (.bl (decide (p = q))) := by
  have e1 : eqS false (enc p) (enc q) = none := rfl
  have e2 : eqP false (enc p) (enc q) = some (.bl (decide (p = q))) := by
    unfold eqP
    rw [if_pos ⟨enc_pl p hp.2.2, enc_pl q hq.2.2, by simp [enc, D.dep, D.deps], by simp [enc, D.dep, D.deps]⟩, enc_eqD]
    simp
  unfold eqDD
  rw [e1, e2]
  rfl
theorem s_may_take (p q : Pc1) (hp : Ok1 p) (hq : Ok1 q) : sem_may_take [enc p, enc q] = .ok (.bl (Lw.take p q)) [enc p, enc q] := by
  refine bodyF_rt (ρ := [some (enc p), some (enc q)]) ?_ (by simp)
  unfold b_may_take
  simp [s_swallows p q hq, enc_eq p q hp hq]
  unfold Lw.take
  cases swal p q <;> simp
/-- a product -/
def encP (l : List Pc1) : D := .tup (l.map enc)
theorem encP_colds (l : List Pc1) : D.colds (l.map enc) := cold_map enc_cold l
theorem encP_own (l : List Pc1) : (encP l).own = false := by
  unfold encP
  rw [own_tup]
  exact (cold_list (encP_colds l)).2.2
@[simp] theorem encP_owns (l : List Pc1) : D.owns (l.map enc) = false := (cold_list (encP_colds l)).2.2
theorem len_ok {l : List Pc1} (h : l.length ≤ 5) : l.length ≤ sizeLine := by rw [sizeLine_eq]; omega
@[simp] theorem encP_own' (l : List Pc1) : (encP l).own = false := encP_own l
@[simp] theorem enc_ix0 (p : Pc1) : ixD (enc p) (.int 0) = some (.str (kd p.1)) := rfl
@[simp] theorem enc_ix1 (p : Pc1) : ixD (enc p) (.int 1) = some (.str p.2) := rfl
@[simp] theorem encP_len (l : List Pc1) : lenD [encP l] = some (.int l.length) := by simp [encP]
@[simp] theorem encP_ix (l : List Pc1) (n : Nat) : ixD (encP l) (.int n) = (l[n]?).map enc := by
  unfold encP
  rw [ixD_tup, atI_nn, List.getElem?_map]
  cases l[n]? <;> simp
/-- the inner loop of product_within: on to the next piece that takes p -/
theorem seek (one other : List Pc1) (p : Pc1) (hp : Ok1 p) (ho : ∀ q ∈ other, Ok1 q) {n : Nat} (hn : n ≤ other.length) :
    sWhile product_within_w1c product_within_w1b [some (encP one), some (encP other), some (.int n), some (enc p)] =
      .ok .nx [some (encP one), some (encP other), some (.int (first (fun q => Lw.take q p) other n : Nat)), some (enc p)] := by
  have gen : ∀ (k n : Nat), n + k = first (fun q => Lw.take q p) other n → n ≤ other.length →
      sWhile product_within_w1c product_within_w1b [some (encP one), some (encP other), some (.int n), some (enc p)] =
        .ok .nx [some (encP one), some (encP other), some (.int (n + k : Nat)), some (enc p)] := by
    intro k
    induction k with
    | zero =>
      intro n e hn
      rw [sWhile_step]
      by_cases hl : n < other.length
      · have hq : other[n]? = some other[n] := List.getElem?_eq_getElem hl
        have ht : Lw.take other[n] p = true := first_is (f := fun q => Lw.take q p) (by rw [← e]; exact hq)
        simp [product_within_w1c, product_within_w1b, hq, hl, s_may_take _ p (ho _ (List.getElem_mem hl)) hp, ht]
      · simp [product_within_w1c, hl]
    | succ k ih =>
      intro n e hn
      have hl : n < other.length := by
        have := first_le (fun q => Lw.take q p) other n hn
        omega
      have hq : other[n]? = some other[n] := List.getElem?_eq_getElem hl
      have ht : Lw.take other[n] p = false := first_not (f := fun q => Lw.take q p) (Nat.le_refl _) (by omega) hq
      have e2 : n + 1 + k = first (fun q => Lw.take q p) other (n + 1) := by
        by_cases hx : first (fun q => Lw.take q p) other n < other.length
        · have hg := List.getElem?_eq_getElem hx
          have := first_eq (f := fun q => Lw.take q p) (n := n + 1) (by omega) hg (first_is (f := fun q => Lw.take q p) (l := other) (n := n) hg) fun j q1 h1 h2 h3 => first_not (f := fun q => Lw.take q p) (n := n) (by omega) h2 h3
          omega
        · have h1 := first_le (fun q => Lw.take q p) other (n + 1) hl
          have h2 := first_ge (fun q => Lw.take q p) other (n + 1)
          have h3 := first_le (fun q => Lw.take q p) other n hn
          by_cases hy : first (fun q => Lw.take q p) other (n + 1) < other.length
          · have hg := List.getElem?_eq_getElem hy
            have := first_not (f := fun q => Lw.take q p) (n := n) (by omega) (by omega) hg
            have h5 := first_is (f := fun q => Lw.take q p) (l := other) (n := n + 1) hg
            rw [h5] at this
            cases this
          · omega
      rw [sWhile_step]
      have ih' := ih (n + 1) e2 hl
      have hb : product_within_w1b [some (encP one), some (encP other), some (.int n), some (enc p)] = .ok .nx [some (encP one), some (encP other), some (.int (n + 1 : Nat)), some (enc p)] := by simp [product_within_w1b]
      rw [show n + (k + 1) = n + 1 + k by omega]
      simp [product_within_w1c, hq, hl, s_may_take _ p (ho _ (List.getElem_mem hl)) hp, ht, hb] at ih' ⊢
      exact ih'
  have := gen (first (fun q => Lw.take q p) other n - n) n (by have := first_ge (fun q => Lw.take q p) other n; omega) hn
  rw [this]
  have := first_ge (fun q => Lw.take q p) other n
  rw [show n + (first (fun q => Lw.take q p) other n - n) = first (fun q => Lw.take q p) other n by omega]

/-- the outer loop of product_within -/
theorem within_loop (one other : List Pc1) (ho : ∀ q ∈ other, Ok1 q) (hz : other.length ≤ 5) : ∀ (ps : List Pc1) (n : Nat) (c : Option D), (∀ p ∈ ps, Ok1 p) → n ≤ other.length →
    ∃ m c', loopL (gN 3) product_within_f1b (ps.map enc) [some (encP one), some (encP other), some (.int n), c] =
      .ok (if (run other (ps.map fun p q => Lw.take q p) n).isSome = true then .nx else .rt (.bl false)) [some (encP one), some (encP other), some (.int m), c']
  | [], n, c, _, hn => ⟨n, c, by simp [run]⟩
  | p :: ps, n, c, hp, hn => by
    have hs := seek one other p (hp p List.mem_cons_self) ho hn
    have hf := first_le (fun q => Lw.take q p) other n hn
    generalize hk : first (fun q => Lw.take q p) other n = k at hs hf
    by_cases hl : k < other.length
    · have hq : other[k]? = some other[k] := List.getElem?_eq_getElem hl
      have hst : step other (fun q => Lw.take q p) n = some (k + bit other[k]) := by
        unfold step
        rw [hk, hq]
        rfl
      have hb := bit_le other[k]
      obtain ⟨m, c', ih⟩ := within_loop one other ho hz ps (k + bit other[k]) (some (enc p)) (fun x hx => hp x (List.mem_cons_of_mem _ hx)) (by omega)
      refine ⟨m, c', ?_⟩
      rw [List.map_cons, List.map_cons]
      show _ = Out.ok (if ((step other (fun q => Lw.take q p) n).bind (run other (ps.map fun p q => Lw.take q p))).isSome = true then _ else _) _
      rw [hst, Option.bind_some, ← ih]
      rw [loopL_cons]
      have hne : ¬ ((k : Int) = (other.length : Int)) := by omega
      have e3 : (if other[k].1 = false then (1 : Int) else 0) = ((bit other[k] : Nat) : Int) := by unfold bit; cases other[k].1 <;> simp
      simp [product_within_f1b, hs, hne, hq, kd_maybe, e3]
    · have hke : k = other.length := by omega
      have hst : step other (fun q => Lw.take q p) n = none := by
        unfold step
        rw [hk, List.getElem?_eq_none (by omega)]
        rfl
      refine ⟨k, some (enc p), ?_⟩
      rw [List.map_cons, List.map_cons]
      show _ = Out.ok (if ((step other (fun q => Lw.take q p) n).bind (run other (ps.map fun p q => Lw.take q p))).isSome = true then _ else _) _
      rw [hst]
      rw [loopL_cons]
      simp [product_within_f1b, hs, hke]
theorem s_within (one other : List Pc1) (h1 : ∀ q ∈ one, Ok1 q) (h2 : ∀ q ∈ other, Ok1 q) (hz1 : one.length ≤ 5) (hz : other.length ≤ 5) : sem_product_within [encP one, encP other] = .ok (.bl (run other (one.map fun p q => Lw.take q p) 0).isSome) [encP one, encP other] := by
  obtain ⟨m, c', hL⟩ := within_loop one other h2 hz one 0 none h1 (Nat.zero_le _)
  have ho1 := encP_own one
  have ho2 := encP_own other
  refine bodyF_rt (ρ := [some (encP one), some (encP other), some (.int m), c']) ?_ (by simp [ho1, ho2])
  unfold b_product_within
  have hsrc : srcV (encP one) = some ⟨[.tup (one.map enc)], one.map enc, none⟩ := srcV_tup (encP_colds one)
  simp [ho1, ho2, hsrc]
  rw [show ((0 : Nat) : Int) = 0 from rfl] at hL
  rw [hL]
  cases (run other (one.map fun p q => Lw.take q p) 0).isSome <;> simp
end Lw

set_option linter.all false
set_option maxRecDepth 100000
namespace Lw
open PySem PySem.Spec PyProof.Rows L2 Dl
/-! ### the drawn numbers -/
def pot (s n : Int) (l : List Int) : D := .lst true [.int s, .int n, .lst true (l.map .int)]
def PotOk (d : D) : Prop := ∃ s n l, d = pot s n l ∧ 0 ≤ n ∧ 0 ≤ s ∧ ∀ x ∈ l, (0 : Int) ≤ x
@[simp] theorem pot_own (s n : Int) (l : List Int) : (pot s n l).own = true := rfl
@[simp] theorem pot_ix0 (s n : Int) (l : List Int) : ixD (pot s n l) (.int 0) = some (.int s) := rfl
@[simp] theorem pot_ix1 (s n : Int) (l : List Int) : ixD (pot s n l) (.int 1) = some (.int n) := rfl
@[simp] theorem pot_c2 (s n : Int) (l : List Int) : ixC (pot s n l) (.int 2) = some (.ix 2) := rfl
@[simp] theorem pot_k2 (s n : Int) (l : List Int) : (pot s n l).child (.ix 2) = some (.lst true (l.map .int)) := rfl
@[simp] theorem pot_p2 (s n : Int) (l m : List Int) : (pot s n l).putC (.ix 2) (.lst true (m.map .int)) = pot s n m := rfl
theorem s_pot (ns : List Int) (h : ns.length ≤ 63) : ∃ p, PotOk p ∧ sem_law_pot [.scr ns, .int 0] = .ok p [.scr ns, .int 0] := by
  have hz := sizeLine_eq
  have hl : (cutL ns (some 0) (some 63)).length ≤ 63 := by
    unfold cutL
    rw [List.length_take]
    have : HT.sIx ns.length ns.length (some 63) ≤ 63 := by
      unfold HT.sIx
      simp only
      split <;> omega
    omega
  have loop : ∀ (cs : List Int) (s : Int) (l : List Int) (c : Option D), 0 ≤ s → (∀ x ∈ l, (0 : Int) ≤ x) → l.length + cs.length ≤ 63 → ∃ (s' : Int) (l' : List Int) (c' : Option D), 0 ≤ s' ∧ (∀ x ∈ l', (0 : Int) ≤ x) ∧
      loopL (gN 4) law_pot_f1b (cs.map .int) [some (.scr ns), some (.int 0), some (.int s), some (.lst true (l.map .int)), c] = .ok .nx [some (.scr ns), some (.int 0), some (.int s'), some (.lst true (l'.map .int)), c'] := by
    intro cs
    induction cs with
    | nil => intro s l c hs hl hn; exact ⟨s, l, c, hs, hl, rfl⟩
    | cons x cs ih =>
      intro s l c hs hl hn
      simp only [List.length_cons] at hn
      rw [List.map_cons, loopL_cons]
      have e1 : mulDD (.int s) (.int 48271) = some (.int (s * 48271)) := mulDD_ii (.inr (by decide))
      have e2 : modD (.int x) (.int 2147483629) = some (.int (x.fmod 2147483629)) := modD_ii (by decide)
      have e3 : powD (.int 10) (.int 18) = some (.int 1000000000000000000) := powD_ii (by decide) (by decide) (by decide)
      have e4 : modD (.int (s * 48271 + x.fmod 2147483629 + 1)) (.int 2147483647) = some (.int ((s * 48271 + x.fmod 2147483629 + 1).fmod 2147483647)) := modD_ii (by decide)
      have p1 : 0 ≤ (s * 48271 + x.fmod 2147483629 + 1).fmod 2147483647 := by rw [fmod_pos (by decide)]; exact Int.emod_nonneg _ (by decide)
      by_cases hx : (1000000000000000000 : Int) ≤ x
      · obtain ⟨s', l', c', q1, q2, q3⟩ := ih ((s * 48271 + x.fmod 2147483629 + 1).fmod 2147483647) (l ++ [x]) (some (.int x)) p1 (fun y hy => by
          rcases List.mem_append.mp hy with hy | hy
          · exact hl y hy
          · rw [List.mem_singleton.mp hy]; omega) (by simp; omega)
        refine ⟨s', l', c', q1, q2, ?_⟩
        have hap : appD (.lst true (l.map .int)) [.int x] = some (.non, .lst true ((l ++ [x]).map .int)) := appD_map (f := D.int) (a := x) (by omega)
        have hb : law_pot_f1b [some (.scr ns), some (.int 0), some (.int s), some (.lst true (l.map .int)), some (.int x)] = .ok .nx [some (.scr ns), some (.int 0), some (.int ((s * 48271 + x.fmod 2147483629 + 1).fmod 2147483647)), some (.lst true ((l ++ [x]).map .int)), some (.int x)] := by
          simp only [law_pot_f1b]
          simp [e1, e2, e3, e4, hx, hap]
        simp [hb]
        simpa using q3
      · obtain ⟨s', l', c', q1, q2, q3⟩ := ih ((s * 48271 + x.fmod 2147483629 + 1).fmod 2147483647) l (some (.int x)) p1 hl (by omega)
        refine ⟨s', l', c', q1, q2, ?_⟩
        have hb : law_pot_f1b [some (.scr ns), some (.int 0), some (.int s), some (.lst true (l.map .int)), some (.int x)] = .ok .nx [some (.scr ns), some (.int 0), some (.int ((s * 48271 + x.fmod 2147483629 + 1).fmod 2147483647)), some (.lst true (l.map .int)), some (.int x)] := by
          simp only [law_pot_f1b]
          simp [e1, e2, e3, e4, hx]
        simp [hb]
        simpa using q3
  obtain ⟨s', l', c', q1, q2, q3⟩ := loop (cutL ns (some 0) (some 63)) 104729 [] none (by decide) (by simp) (by simpa using hl)
  refine ⟨pot s' 0 l', ⟨s', 0, l', rfl, by decide, q1, q2⟩, ?_⟩
  have hc : D.colds ((cutL ns (some 0) (some 63)).map D.int) := cold_map (fun n => ⟨rfl, rfl, rfl⟩) _
  have e0 : mulDD (.int 7919) (.int 0) = some (.int 0) := mulDD_ii (.inl (by decide))
  have esl : slD (.scr ns) (some 0) (some 63) = some (.lst true ((cutL ns (some 0) (some 63)).map D.int)) := rfl
  refine bodyF_rt (ρ := [some (.scr ns), some (.int 0), some (.int s'), none, c']) ?_ (by simp)
  unfold b_law_pot
  simp [e0, esl, srcV_lst hc]
  simp at q3
  simp [q3, pot]
/-- a digit below m, and the pot behind it -/
theorem s_draw (p : D) (hp : PotOk p) (m : Int) (h1 : 0 < m) (h2 : m < 1073741824) : ∃ r p', PotOk p' ∧ 0 ≤ r ∧ r < m ∧ sem_law_draw [p, .int m] = .ok (.int r) [p', .int m] := by
  obtain ⟨s, n, l, rfl, hn, hs, hl⟩ := hp
  have wh := sWhile_inv (c := law_draw_w1c) (g := law_draw_w1b) (I := fun k ρ => ∃ n l, 0 ≤ n ∧ (∀ x ∈ l, (0 : Int) ≤ x) ∧ l.length = k ∧ ρ = [some (pot s n l), some (.int m), none, none]) (E := fun ρ => ∃ n l, 0 ≤ n ∧ (∀ x ∈ l, (0 : Int) ≤ x) ∧ ρ = [some (pot s n l), some (.int m), none, none]) (fun k ρ hi => by
    obtain ⟨n, l, hn, hl, rfl, rfl⟩ := hi
    by_cases h0 : n = 0
    · subst h0
      cases l with
      | nil =>
        refine ⟨false, _, ?_, fun _ => ⟨0, [], by decide, by simp, rfl⟩, fun z => (by cases z)⟩
        simp [law_draw_w1c]
      | cons x l =>
        refine ⟨true, [some (pot s 0 (x :: l)), some (.int m), none, none], ?_, fun z => (by cases z), fun _ => ?_⟩
        · simp [law_draw_w1c]
        · refine ⟨[some (pot s x l), some (.int m), none, none], l.length, ?_, by simp, x, l, hl x List.mem_cons_self, fun y hy => hl y (List.mem_cons_of_mem _ hy), rfl, rfl⟩
          have hpo : popAtD (.lst true (D.int x :: l.map .int)) [.int 0] = some (.int x, .lst true (l.map .int)) := popAt0
          have hst : stD (.int x) (.int 1) (pot s 0 l) = some (pot s x l) := rfl
          simp [law_draw_w1b, hpo, hst]
    · refine ⟨false, [some (pot s n l), some (.int m), none, none], ?_, fun _ => ⟨n, l, hn, hl, rfl⟩, fun z => (by cases z)⟩
      simp [law_draw_w1c, h0])
  obtain ⟨ρ', hw, n', l', hn', hl', rfl⟩ := wh l.length [some (pot s n l), some (.int m), none, none] ⟨n, l, hn, hl, rfl, rfl⟩
  by_cases hp : 0 < n'
  · refine ⟨n'.fmod m, pot s (n'.fdiv m) l', ⟨s, _, l', rfl, ?_, hs, hl'⟩, ?_, ?_, ?_⟩
    · rw [fdiv_pos h1]; exact Int.ediv_nonneg hn' (by omega)
    · rw [fmod_pos h1]; exact Int.emod_nonneg _ (by omega)
    · rw [fmod_pos h1]; exact Int.emod_lt_of_pos _ h1
    · have e1 : modD (.int n') (.int m) = some (.int (n'.fmod m)) := modD_ii (by omega)
      have e2 : fdivD (.int n') (.int m) = some (.int (n'.fdiv m)) := fdivD_ii (by omega) (by omega)
      have hst : stD (.int (n'.fdiv m)) (.int 1) (pot s n' l') = some (pot s (n'.fdiv m) l') := rfl
      refine bodyF_rt (ρ := [some (pot s (n'.fdiv m) l'), some (.int m), none, some (.int (n'.fmod m))]) ?_ (by simp)
      unfold b_law_draw
      simp [hw, hp, e1, e2, hst]
  · have h0 : n' = 0 := by omega
    subst h0
    have p1 : 0 ≤ (s * 48271 + 7919).fmod 2147483647 := by rw [fmod_pos (by decide)]; exact Int.emod_nonneg _ (by decide)
    have p2 : (s * 48271 + 7919).fmod 2147483647 < 2147483647 := by rw [fmod_pos (by decide)]; exact Int.emod_lt_of_pos _ (by decide)
    generalize ho : (s * 48271 + 7919).fmod 2147483647 = one at p1 p2
    have p3 : 0 ≤ (one * 40692 + 12345).fmod 2147483399 := by rw [fmod_pos (by decide)]; exact Int.emod_nonneg _ (by decide)
    generalize ho2 : (one * 40692 + 12345).fmod 2147483399 = two at p3
    refine ⟨((((one * one).fmod 2147483629) * 31 + (two + 1)).fdiv 64).fmod m, pot (two + 1) 0 l', ⟨_, _, l', rfl, by decide, by omega, hl'⟩, ?_, ?_, ?_⟩
    · rw [fmod_pos h1]; exact Int.emod_nonneg _ (by omega)
    · rw [fmod_pos h1]; exact Int.emod_lt_of_pos _ h1
    · have e1 : mulDD (.int s) (.int 48271) = some (.int (s * 48271)) := mulDD_ii (.inr (by decide))
      have e2 : modD (.int (s * 48271 + 7919)) (.int 2147483647) = some (.int one) := by rw [modD_ii (by decide), ho]
      have e3 : mulDD (.int one) (.int 40692) = some (.int (one * 40692)) := mulDD_ii (.inr (by decide))
      have e4 : modD (.int (one * 40692 + 12345)) (.int 2147483399) = some (.int two) := by rw [modD_ii (by decide), ho2]
      have e5 : mulDD (.int one) (.int one) = some (.int (one * one)) := mulDD_ii (.inl (by omega))
      have e6 : modD (.int (one * one)) (.int 2147483629) = some (.int ((one * one).fmod 2147483629)) := modD_ii (by decide)
      have e7 : mulDD (.int ((one * one).fmod 2147483629)) (.int 31) = some (.int ((one * one).fmod 2147483629 * 31)) := mulDD_ii (.inr (by decide))
      have e8 : ∀ x, fdivD (.int x) (.int 64) = some (.int (x.fdiv 64)) := fun x => fdivD_ii (by decide) (by decide)
      have e9 : ∀ x, modD (.int x) (.int m) = some (.int (x.fmod m)) := fun x => modD_ii (by omega)
      have hst : stD (.int (two + 1)) (.int 0) (pot s 0 l') = some (pot (two + 1) 0 l') := rfl
      refine bodyF_rt (ρ := [some (pot (two + 1) 0 l'), some (.int m), some (.int one), none]) ?_ (by simp)
      unfold b_law_draw
      simp [hw, e1, e2, e3, e4, e5, e6, e7, e8, e9, hst]
end Lw

set_option linter.all false
set_option maxRecDepth 100000
namespace Lw
open PySem PySem.Spec PyProof.Rows L2 Dl
/-! ### _law_has -/
/-- the places behind a letter, from some places -/
def later (l : List Pc1) (c : Nat) (ks : List Nat) : List Nat := ks.filterMap fun k => (l[k]?).bind fun q => if c ∈ q.2 then some (k + bit q) else none
theorem inner (l : List Pc1) (w : List Nat) (sp : D) (c : Nat) : ∀ (ks acc : List Nat) (x : Option D), acc.length + ks.length ≤ 100 →
    ∃ x', loopL (gN 5) law_has_f1b (ks.map fun k => D.int (k : Nat)) [some (encP l), some (.str w), some sp, some (.str [c]), some (.lst true (acc.map fun k => D.int (k : Nat))), x] =
      .ok .nx [some (encP l), some (.str w), some sp, some (.str [c]), some (.lst true ((acc ++ later l c ks).map fun k => D.int (k : Nat))), x']
  | [], acc, x, _ => ⟨x, by simp [later]⟩
  | k :: ks, acc, x, hz => by
    have hs := sizeLine_eq
    simp only [List.length_cons] at hz
    rw [List.map_cons, loopL_cons]
    by_cases hk : k < l.length
    · have hq : l[k]? = some l[k] := List.getElem?_eq_getElem hk
      by_cases hc : c ∈ l[k].2
      · obtain ⟨x', ih⟩ := inner l w sp c ks (acc ++ [k + bit l[k]]) (some (.int k)) (by simp; omega)
        have hap : appD (.lst true (acc.map fun k => D.int (k : Nat))) [D.int ((k + bit l[k] : Nat) : Int)] = some (.non, .lst true ((acc ++ [k + bit l[k]]).map fun k => D.int (k : Nat))) := appD_map (f := fun k : Nat => D.int (k : Int)) (by omega)
        have e3 : (if l[k].1 = false then (1 : Int) else 0) = ((bit l[k] : Nat) : Int) := by unfold bit; cases l[k].1 <;> simp
        have hb : law_has_f1b [some (encP l), some (.str w), some sp, some (.str [c]), some (.lst true (acc.map fun k => D.int (k : Nat))), some (.int k)] =
            .ok .nx [some (encP l), some (.str w), some sp, some (.str [c]), some (.lst true ((acc ++ [k + bit l[k]]).map fun k => D.int (k : Nat))), some (.int k)] := by
          simp only [law_has_f1b]
          simp only [Int.natCast_add] at hap
          simp [hk, hq, hc, kd_maybe, e3, hap]
        refine ⟨x', ?_⟩
        have el : later l c (k :: ks) = (k + bit l[k]) :: later l c ks := by simp [later, hq, hc]
        rw [el]
        simp [hb]
        simpa using ih
      · obtain ⟨x', ih⟩ := inner l w sp c ks acc (some (.int k)) (by omega)
        have hb : law_has_f1b [some (encP l), some (.str w), some sp, some (.str [c]), some (.lst true (acc.map fun k => D.int (k : Nat))), some (.int k)] =
            .ok .nx [some (encP l), some (.str w), some sp, some (.str [c]), some (.lst true (acc.map fun k => D.int (k : Nat))), some (.int k)] := by
          simp only [law_has_f1b]
          simp [hk, hq, hc]
        refine ⟨x', ?_⟩
        have el : later l c (k :: ks) = later l c ks := by simp [later, hq, hc]
        rw [el]
        simp [hb]
        simpa using ih
    · obtain ⟨x', ih⟩ := inner l w sp c ks acc (some (.int k)) (by omega)
      have hb : law_has_f1b [some (encP l), some (.str w), some sp, some (.str [c]), some (.lst true (acc.map fun k => D.int (k : Nat))), some (.int k)] =
          .ok .nx [some (encP l), some (.str w), some sp, some (.str [c]), some (.lst true (acc.map fun k => D.int (k : Nat))), some (.int k)] := by
        simp only [law_has_f1b]
        simp [hk]
      refine ⟨x', ?_⟩
      have el : later l c (k :: ks) = later l c ks := by simp [later, List.getElem?_eq_none (by omega : l.length ≤ k)]
      rw [el]
      simp [hb]
      simpa using ih
theorem step_skip {l : List Pc1} {f : Pc1 → Bool} {n : Nat} {q : Pc1} (h : l[n]? = some q) (hf : f q = false) : step l f n = step l f (n + 1) := by
  cases hs : step l f (n + 1) with
  | some m =>
    obtain ⟨i, q', h1, h2, h3, h4, h5⟩ := step_some hs
    rw [h4]
    refine step_of (by omega) h1 h2 fun j q2 hj1 hj2 hq => ?_
    by_cases e : j = n
    · subst e
      rw [h] at hq
      cases hq
      exact hf
    · exact first_not (f := f) (n := n + 1) (by omega) (by omega) hq
  | none =>
    have hn := step_none hs
    cases hs2 : step l f n with
    | none => rfl
    | some m =>
      obtain ⟨i, q', h1, h2, h3, h4, h5⟩ := step_some hs2
      by_cases e : i = n
      · subst e
        rw [h] at h1
        cases h1
        rw [hf] at h2
        cases h2
      · have := hn i q' (by omega) h1
        rw [h2] at this
        cases this
theorem later_ge {l : List Pc1} {c : Nat} : ∀ {ks : List Nat} {n : Nat}, (∀ k ∈ ks, n ≤ k) → ∀ y ∈ later l c ks, n ≤ y
  | [], n, _ => fun y hy => by simp [later] at hy
  | k :: ks, n, h => fun y hy => by
    unfold later at hy
    rw [List.mem_filterMap] at hy
    obtain ⟨k', hk', e⟩ := hy
    obtain ⟨q, _, e2⟩ := Option.bind_eq_some_iff.mp e
    split at e2
    · cases e2
      have := h k' hk'
      omega
    · cases e2
/-- the least of the places behind a letter is the step's -/
theorem later_step {l : List Pc1} {c : Nat} : ∀ (m s : Nat), s + m = l.length + 1 → match step l (cf c) s with
    | none => later l c (List.range' s m) = []
    | some a => ∃ r, later l c (List.range' s m) = a :: r ∧ ∀ y ∈ r, a ≤ y
  | 0, s, h => by
    have e : step l (cf c) s = none := by
      cases hs : step l (cf c) s with
      | none => rfl
      | some a =>
        obtain ⟨i, q, h1, _, h3, _⟩ := step_some hs
        have := (List.getElem?_eq_some_iff.mp h1).1
        omega
    rw [e]
    rfl
  | m + 1, s, h => by
    rw [List.range'_succ]
    by_cases hl : s < l.length
    · have hq : l[s]? = some l[s] := List.getElem?_eq_getElem hl
      by_cases hc : c ∈ l[s].2
      · have e : step l (cf c) s = some (s + bit l[s]) := step_of (Nat.le_refl _) hq (by simpa [cf] using hc) fun j q' h1 h2 => by omega
        rw [e]
        refine ⟨later l c (List.range' (s + 1) m), by simp [later, hq, hc], fun y hy => ?_⟩
        have := later_ge (n := s + 1) (fun k hk => (List.mem_range'_1.mp hk).1) y hy
        have := bit_le l[s]
        omega
      · have e : step l (cf c) s = step l (cf c) (s + 1) := step_skip hq (by simpa [cf] using hc)
        rw [e]
        have ih := later_step (l := l) (c := c) m (s + 1) (by omega)
        have el : later l c (s :: List.range' (s + 1) m) = later l c (List.range' (s + 1) m) := by simp [later, hq, hc]
        rw [el]
        exact ih
    · have hm : m = 0 := by omega
      subst hm
      have e : step l (cf c) s = none := by
        cases hs : step l (cf c) s with
        | none => rfl
        | some a =>
          obtain ⟨i, q, h1, _, h3, _⟩ := step_some hs
          have := (List.getElem?_eq_some_iff.mp h1).1
          omega
      rw [e]
      have hn : l[s]? = none := by exact List.getElem?_eq_none (by omega)
      simp [later, hn]
theorem rng_nat (s n : Nat) : rngD (s : Int) n = (List.range' s n).map fun k => D.int (k : Nat) := by
  unfold rngD
  rw [List.range'_eq_map_range, List.map_map]
  apply List.map_congr_left
  intro i _
  simp
theorem ints_colds {α : Type} (f : α → Int) (l : List α) : D.colds (l.map fun a => D.int (f a)) := cold_map (fun a => ⟨rfl, rfl, rfl⟩) l
theorem minD_head {o : Bool} (a : Nat) (r : List Nat) (h : ∀ y ∈ r, a ≤ y) : minD [.lst o ((a :: r).map fun k => D.int (k : Nat))] = some (.int a) := by
  have e : (intsL ((a :: r).map fun k => D.int (k : Nat))).bind minL = some (a : Int) := by
    rw [intsL_map (fun k : Nat => (k : Int)), Option.bind_some]
    show some (List.foldl min (a : Int) (r.map fun k : Nat => (k : Int))) = _
    rw [foldl_min (r.map fun k : Nat => (k : Int)) a a (.inl rfl) fun y hy => ?_]
    rcases hy with rfl | hy
    · exact Int.le_refl _
    · obtain ⟨k, hk, rfl⟩ := List.mem_map.mp hy
      have := h k hk
      omega
  show ((intsL ((a :: r).map fun k => D.int (k : Nat))).bind minL).map D.int = _
  rw [e]
  rfl
end Lw

set_option linter.all false
set_option maxRecDepth 100000
namespace Lw
open PySem PySem.Spec PyProof.Rows L2 Dl
/-- places from s on -/
def spots (l : List Pc1) (s : Nat) : D := .lst false ((List.range' s (l.length + 1 - s)).map fun k => D.int (k : Nat))

theorem rng0 (n : Nat) : rngD 0 n = (List.range' 0 n).map fun k => D.int (k : Nat) := rng_nat 0 n
theorem inGa (a n : Nat) (h : n ≤ 5) (ha : a ≤ n) : inG (a : Int) ((n : Int) + 1) = true := by
  unfold inG
  rw [Bool.and_eq_true, Bool.and_eq_true]
  exact ⟨⟨decide_eq_true ⟨by omega, by omega⟩, decide_eq_true ⟨by omega, by omega⟩⟩, @decide_eq_true _ (Classical.propDecidable _) (by omega)⟩
theorem inG0 (n : Nat) (h : n ≤ 5) : inG 0 ((n : Int) + 1) = true := inGa 0 n h (Nat.zero_le _)
end Lw

set_option linter.all false
set_option maxRecDepth 100000
namespace Lw
open PySem PySem.Spec PyProof.Rows L2 Dl
theorem outer (l : List Pc1) (w : List Nat) (hz : l.length ≤ 5) : ∀ (cs : List Nat) (s : Nat) (x y z : Option D), s ≤ l.length →
    ∃ s' x' y' z', loopL (gN 3) law_has_f2b (cs.map fun c => D.str [c]) [some (encP l), some (.str w), some (spots l s), x, y, z] =
      .ok (if (run l (cs.map cf) s).isSome = true then .nx else .rt (.bl false)) [some (encP l), some (.str w), s', x', y', z']
  | [], s, x, y, z, _ => ⟨some (spots l s), x, y, z, by simp [run]⟩
  | c :: cs, s, x, y, z, hs => by
    have hsz := sizeLine_eq
    rw [List.map_cons, loopL_cons, List.map_cons]
    obtain ⟨z1, hi⟩ := inner l w (spots l s) c (List.range' s (l.length + 1 - s)) [] z (by simp; omega)
    have hst := later_step (l := l) (c := c) (l.length + 1 - s) s (by omega)
    have hsrc : srcV (spots l s) = some ⟨[spots l s], (List.range' s (l.length + 1 - s)).map fun k => D.int (k : Nat), none⟩ := srcV_lst (ints_colds _ _)
    have hown : (spots l s).own = false := rfl
    rw [List.nil_append, List.map_nil] at hi
    cases hr : step l (cf c) s with
    | none =>
      rw [hr] at hst
      simp only at hst
      rw [hst] at hi
      refine ⟨some (spots l s), some (.str [c]), some (.lst true []), z1, ?_⟩
      have hb : law_has_f2b [some (encP l), some (.str w), some (spots l s), some (.str [c]), y, z] = .ok (.rt (.bl false)) [some (encP l), some (.str w), some (spots l s), some (.str [c]), some (.lst true []), z1] := by
        simp only [law_has_f2b]
        simp [hsrc, hown]
        simp at hi
        simp [hi]
      simp [hb, run, hr]
    | some a =>
      rw [hr] at hst
      obtain ⟨r, e1, q2⟩ := hst
      rw [e1] at hi
      have ha := step_len hr
      obtain ⟨s', x', y', z', ih⟩ := outer l w hz cs a (some (.str [c])) (some (.lst true ((a :: r).map fun k => D.int (k : Nat)))) z1 ha.2
      refine ⟨s', x', y', z', ?_⟩
      have hmin := minD_head (o := true) a r q2
      have hg := inGa a l.length hz ha.2
      have hsp : D.lst false (D.frzs (rngD (a : Int) (l.length + 1 - a))) = spots l a := by
        unfold spots
        rw [rng_nat, (cold_list (ints_colds _ _)).2.1]
      have hfz : D.fzs (rngD (a : Int) (l.length + 1 - a)) = true := by
        rw [rng_nat, (cold_list (ints_colds _ _)).1]
      simp only [List.map_cons] at hi hmin ih
      have hr0 : ¬ ((r.length : Int) + 1 = 0) := by omega
      have he := eRg2_ok (f := eCa minD (aCons (eM 4) aNil)) (g := e2 addD (eCa lenD (aCons (eM 0) aNil)) (eC (.int 1))) (ρ := [some (encP l), some (.str w), some (spots l s), some (.str [c]), some (.lst true (D.int a :: r.map fun k => D.int (k : Nat))), z1]) (ρ1 := [some (encP l), some (.str w), some (spots l s), some (.str [c]), some (.lst true (D.int a :: r.map fun k => D.int (k : Nat))), z1]) (ρ2 := [some (encP l), some (.str w), some (spots l s), some (.str [c]), some (.lst true (D.int a :: r.map fun k => D.int (k : Nat))), z1]) (t1 := .v (.int a)) (t2 := .v (.int ((l.length : Int) + 1))) (by simp [hmin]) (by simp) rfl rfl hg
      rw [show ((l.length : Int) + 1 - a).toNat = l.length + 1 - a by omega] at he
      have hz' : eZ (eRg2 false (eCa minD (aCons (eM 4) aNil)) (e2 addD (eCa lenD (aCons (eM 0) aNil)) (eC (.int 1)))) [some (encP l), some (.str w), some (spots l s), some (.str [c]), some (.lst true (D.int a :: r.map fun k => D.int (k : Nat))), z1] =
          .ok (.v (spots l a)) [some (encP l), some (.str w), some (spots l s), some (.str [c]), some (.lst true (D.int a :: r.map fun k => D.int (k : Nat))), z1] := by
        rw [eZ_run, he]
        simp [hsp, hfz]
      have hb : law_has_f2b [some (encP l), some (.str w), some (spots l s), some (.str [c]), y, z] = .ok .nx [some (encP l), some (.str w), some (spots l a), some (.str [c]), some (.lst true (D.int a :: r.map fun k => D.int (k : Nat))), z1] := by
        simp only [law_has_f2b]
        generalize eZ (eRg2 false (eCa minD (aCons (eM 4) aNil)) (e2 addD (eCa lenD (aCons (eM 0) aNil)) (eC (.int 1)))) = F at hz' ⊢
        simp [hsrc, hown, hi, hr0, hz']
      simp [hb, run, hr]
      simpa using ih
theorem s_has (l : List Pc1) (w : List Nat) (hz : l.length ≤ 5) : sem_law_has [encP l, .str w] = .ok (.bl (run l (w.map cf) 0).isSome) [encP l, .str w] := by
  obtain ⟨s', x', y', z', ho⟩ := outer l w hz w 0 none none none (Nat.zero_le _)
  have hg := inG0 l.length hz
  have hsp : D.lst false (D.frzs (rngD 0 (l.length + 1))) = spots l 0 := by
    unfold spots
    rw [rng0, (cold_list (ints_colds _ _)).2.1, Nat.sub_zero]
  have hfz : D.fzs (rngD 0 (l.length + 1)) = true := by
    rw [rng0, (cold_list (ints_colds _ _)).1]
  have he := eRg1_ok (f := e2 addD (eCa lenD (aCons (eM 0) aNil)) (eC (.int 1))) (ρ := [some (encP l), some (.str w), none, none, none, none]) (ρ1 := [some (encP l), some (.str w), none, none, none, none]) (t1 := .v (.int ((l.length : Int) + 1))) (by simp) rfl hg
  rw [show ((l.length : Int) + 1).toNat = l.length + 1 by omega] at he
  have hz' : eZ (eRg1 false (e2 addD (eCa lenD (aCons (eM 0) aNil)) (eC (.int 1)))) [some (encP l), some (.str w), none, none, none, none] = .ok (.v (spots l 0)) [some (encP l), some (.str w), none, none, none, none] := by
    rw [eZ_run, he]
    simp [hsp, hfz]
  refine bodyF_rt (ρ := [some (encP l), some (.str w), s', x', y', z']) ?_ (by simp)
  unfold b_law_has
  generalize eZ (eRg1 false (e2 addD (eCa lenD (aCons (eM 0) aNil)) (eC (.int 1)))) = F at hz' ⊢
  simp [hz', ho]
  cases (run l (w.map cf) 0).isSome <;> simp
end Lw

set_option linter.all false
set_option maxRecDepth 100000
namespace Lw
open PySem PySem.Spec PyProof.Rows L2 Dl
theorem joinL_nil : ∀ l : List (List Nat), joinL [] l = l.flatten
  | [] => rfl
  | [x] => by simp [joinL]
  | x :: y :: r => by
    have ih := joinL_nil (y :: r)
    simp only [joinL, List.append_nil]
    rw [ih]
    simp
theorem mulS_ok {s : List Nat} {n : Nat} (hn : n ≤ 6) (hs : s.length ≤ 26) : mulDD (.str s) (.int (n : Int)) = some (.str (reps n s)) := by
  have hsz := sizeLine_eq
  have e : mulS (.str s) (.int (n : Int)) = some (.str (reps n s)) := by
    unfold mulS
    dsimp only
    rw [if_pos]
    · rfl
    · have h6 : s.length * n ≤ 26 * 6 := Nat.mul_le_mul hs hn
      exact ⟨by omega, by omega, by omega⟩
  have e1 : mulI (.str s) (.int (n : Int)) = none := rfl
  unfold mulDD mulD
  rw [e1, e]
  rfl
theorem blk_len {p : Pc1} (h : p.2.length ≤ 26) {N : Nat} (hN : N ≤ 6) : (blk N p).length ≤ 156 := by
  unfold blk
  split
  · unfold reps
    rw [List.length_flatten, List.map_replicate, List.sum_replicate_nat]
    have h6 : N * p.2.length ≤ 6 * 26 := Nat.mul_le_mul hN h
    omega
  · omega
theorem sum_le {α : Type} (f : α → Nat) (b : Nat) : ∀ l : List α, (∀ a ∈ l, f a ≤ b) → (l.map f).sum ≤ b * l.length
  | [], _ => by simp
  | a :: l, h => by
    have h1 := h a List.mem_cons_self
    have h2 := sum_le f b l fun x hx => h x (List.mem_cons_of_mem _ hx)
    rw [List.map_cons, List.sum_cons, List.length_cons, Nat.mul_add]
    omega
theorem s_full (ps : List Pc1) (N : Nat) (hp : ∀ p ∈ ps, Ok1 p) (hz : ps.length ≤ 5) (hN : N ≤ 6) : sem_law_full [encP ps, .int (N : Int)] = .ok (.str (ps.flatMap (blk N))) [encP ps, .int (N : Int)] := by
  have hsz := sizeLine_eq
  have hc := compL_map1 (own := [2, 3]) (g := gTupD 2 (gsCons (gN 2) (gsCons (gN 3) gsNil))) (e := law_full_c1e) (ρ := [some (encP ps), some (.int (N : Int)), none, none]) (F := enc) (r := fun p => .str (blk N p)) (l := ps) (fun p hpp => by
    obtain ⟨b, s⟩ := p
    have ho := hp _ hpp
    have m1 : mulDD (.str s) (.int ((1 : Nat) : Int)) = some (.str (reps 1 s)) := mulS_ok (by omega) ho.2.1
    have m2 := mulS_ok hN (s := s) ho.2.1
    have r1 : reps 1 s = s := by simp [reps]
    rw [r1] at m1
    simp only [Int.natCast_one] at m1
    refine ⟨[some (encP ps), some (.int (N : Int)), some (.str (kd b)), some (.str s)], [some (encP ps), some (.int (N : Int)), some (.str (kd b)), some (.str s)], ?_, ?_, ?_⟩
    · simp [enc]
    · cases b
      · simp [law_full_c1e, kd_any, m1, blk]
      · simp [law_full_c1e, kd_any, m2, blk]
    · simp) (by omega)
  have hj : joinD [.str [], .lst true (ps.map fun p => .str (blk N p))] = some (.str (ps.flatMap (blk N))) := by
    unfold joinD
    dsimp only
    rw [strsL_map, Option.bind_some, if_pos, joinL_nil, List.flatMap_def]
    have := sum_le (fun p => (blk N p).length) 156 ps fun p hpp => blk_len (hp p hpp).2.1 hN
    rw [List.map_map]
    simp only [List.length_nil, Nat.mul_zero, Nat.add_zero]
    have e : (List.length ∘ blk N) = fun p => (blk N p).length := rfl
    rw [e]
    omega
  have hsrc : srcV (encP ps) = some ⟨[.tup (ps.map enc)], ps.map enc, none⟩ := srcV_tup (encP_colds ps)
  refine bodyF_rt (ρ := [some (encP ps), some (.int (N : Int)), none, none]) ?_ (by simp)
  unfold b_law_full
  simp [hsrc, hc, hj]
end Lw

set_option linter.all false
set_option maxRecDepth 100000
namespace Lw
open PySem PySem.Spec PyProof.Rows L2 Dl
theorem under_go (A B : D) (n : Nat) (w : List Nat) (b : Bool) (F1 F2 : List D → Out (List D) D) (h1 : A.own = false) (h2 : B.own = false) (hl : lenD [B] = some (.int n)) (hf : F1 [A, .int ((n : Int) + 1)] = .ok (.str w) [A, .int ((n : Int) + 1)]) (hh : F2 [B, .str w] = .ok (.bl b) [B, .str w]) :
    (sRet (callD 2 F2 [] (aCons (eM 1) (aCons (eZ (callD 2 F1 [] (aCons (eM 0) (aCons (e2 addD (eCa lenD (aCons (eM 1) aNil)) (eC (.int 1))) aNil)))) aNil)))) [some A, some B] = .ok (.rt (.bl b)) [some A, some B] := by
  simp [hf, hh, hl, h1, h2]
theorem s_under (one other : List Pc1) (h1 : ∀ q ∈ one, Ok1 q) (h2 : ∀ q ∈ other, Ok1 q) (hz1 : one.length ≤ 5) (hz : other.length ≤ 5) : sem_law_under [encP one, encP other] = .ok (.bl (run other (one.map fun p q => Lw.take q p) 0).isSome) [encP one, encP other] := by
  have hf := s_full one (other.length + 1) h1 hz1 (by omega)
  have hh := s_has other (one.flatMap (blk (other.length + 1))) hz
  rw [full_run (fun q hq => (h2 q hq).1) (Nat.lt_succ_self _) (fun q hq => (h1 q hq).1) (Nat.zero_le _)] at hh
  rw [Int.natCast_add, Int.natCast_one] at hf
  exact bodyF_rt (under_go _ _ _ _ _ sem_law_full sem_law_has (encP_own one) (encP_own other) (encP_len other) hf hh) (by simp)
end Lw

set_option linter.all false
set_option maxRecDepth 100000
namespace Lw
open PySem PySem.Spec PyProof.Rows L2 Dl
def Lc (c : Nat) : Prop := 97 ≤ c ∧ c ≤ 122
theorem pot_own' {p : D} (h : PotOk p) : p.own = true := by
  obtain ⟨s, n, l, rfl, _⟩ := h
  rfl
def alph : List Nat := [97, 98, 99, 100, 101, 102, 103, 104, 105, 106, 107, 108, 109, 110, 111, 112, 113, 114, 115, 116, 117, 118, 119, 120, 121, 122]
theorem alph_ok : ∀ c ∈ alph, Lc c := by unfold Lc alph; decide
theorem Lc.small {c : Nat} (h : Lc c) : c < 1114112 := by unfold Lc at h; omega
/-- a letter drawn out of those that are left -/
theorem letters_turn (DR : List D → Out (List D) D) (p p' : D) (hp : p.own = true) (m : Int) (x : Option D) (l l' : List D) (c : Nat) (r : Nat) (hr : DR [p, .int l.length] = .ok (.int (r : Int)) [p', .int l.length]) (hpo : popAtD (.lst true l) [.int (r : Int)] = some (.str [c], .lst true l')) :
    (eZ (eMut "list" false popAtD (pSl 2) (aCons (eZ (callD 2 DR [] (aCons (eM 0) (aCons (eCa lenD (aCons (eM 2) aNil)) aNil)))) aNil))) [some p, some (.int m), some (.lst true l), x] = .ok (.v (.str [c])) [some p', some (.int m), some (.lst true l'), x] := by
  simp [hr, hpo, hp, hole]
theorem letters_go (L0 : List D) (c0 : Cm Dl.Tm) (p p' : D) (m : Int) (w : List Nat) (ys ls : List D) (hl : listDD [.str alph] = some (.lst true L0)) (hr : Dl.inR m)
    (hc : compL [3] (gN 3) bYes c0 (rngD 0 m.toNat) [] [some p, some (.int m), some (.lst true L0), none] = .ok ys [some p', some (.int m), some (.lst true ls), none]) (zs : List D) (hs : sortedD [.lst true ys] = some (.lst true zs)) (hj : joinD [.str [], .lst true zs] = some (.str w)) :
    (sSeq (sSet 2 (eCa listDD (aCons (eC (.str alph)) aNil)))
  (sRet (eMe "str" joinD (eC (.str [])) (aCons (eCa sortedD (aCons (eComp [3] (rng1 (aCons (eN 1) aNil)) (gN 3) bYes c0) aNil)) aNil)))) [some p, some (.int m), none, none] = .ok (.rt (.str w)) [some p', some (.int m), some (.lst true ls), none] := by
  simp [hl, hr, hc, hs, hj]

theorem sgn_erase : ∀ (l : List Nat) (k : Nat), (sgn l).eraseIdx k = sgn (l.eraseIdx k)
  | [], _ => rfl
  | c :: l, 0 => rfl
  | c :: l, k + 1 => by
    show D.str [c] :: (sgn l).eraseIdx k = D.str [c] :: sgn (l.eraseIdx k)
    rw [sgn_erase l k]
theorem inR3 (m : Nat) (h : m ≤ 100) : Dl.inR (m : Int) := ⟨by omega, by omega⟩
theorem s_letters (p : D) (hp : PotOk p) (m : Nat) (h1 : 1 ≤ m) (h2 : m ≤ 3) : ∃ w p', PotOk p' ∧ w.length = m ∧ (∀ c ∈ w, Lc c) ∧ sem_law_letters [p, .int (m : Int)] = .ok (.str w) [p', .int (m : Int)] := by
  have hsz := sizeLine_eq
  have q := compL_eachN (own := [3]) (g := gN 3) (e := law_letters_c1e) (I := fun ds ρ => ∃ p l, PotOk p ∧ 23 + ds.length ≤ l.length ∧ l.length ≤ 26 ∧ (∀ c ∈ l, Lc c) ∧ ρ = [some p, some (.int (m : Int)), some (.lst true (sgn l)), none]) (R := fun r => ∃ c, Lc c ∧ r = .str [c]) (ds := rngD 0 m) (acc := []) (ρ := [some p, some (.int (m : Int)), some (.lst true (sgn alph)), none])
    ⟨p, _, hp, by rw [rngD_len]; have : alph.length = 26 := rfl; omega, by decide, alph_ok, rfl⟩ (fun d ds ρ hi => by
      obtain ⟨p, l, hp, hl, hl2, hlc, rfl⟩ := hi
      simp only [List.length_cons] at hl
      obtain ⟨r, p', hp', hr0, hr1, hd⟩ := s_draw p hp (l.length : Int) (by omega) (by omega)
      obtain ⟨k, rfl⟩ := Int.eq_ofNat_of_zero_le hr0
      have hk : k < l.length := by omega
      have hlen : (sgn l).length = l.length := by simp [sgn]
      have hg : (sgn l)[k]? = some (.str [l[k]]) := by simp [sgn, List.getElem?_eq_getElem hk]
      have hpo := popAtD_ok hg (by rw [hlen]; omega)
      have he : (sgn l).eraseIdx k = sgn (l.eraseIdx k) := sgn_erase l k
      rw [he] at hpo
      rw [← hlen] at hd
      have ht := letters_turn sem_law_draw p p' (pot_own' hp) (m : Int) (some d) (sgn l) (sgn (l.eraseIdx k)) l[k] k hd hpo
      refine ⟨[some p, some (.int (m : Int)), some (.lst true (sgn l)), some d], .str [l[k]], [some p', some (.int (m : Int)), some (.lst true (sgn (l.eraseIdx k))), some d], by simp, ht, ⟨_, hlc _ (List.getElem_mem hk), rfl⟩, p', l.eraseIdx k, hp', ?_, ?_, fun c hc => hlc c (List.mem_of_mem_eraseIdx hc), by simp⟩
      · rw [List.length_eraseIdx_of_lt hk]; omega
      · rw [List.length_eraseIdx_of_lt hk]; omega) (by simp; omega)
  obtain ⟨rs, ρ', q1, ⟨p', l', hp', _, _, _, rfl⟩, q3, q4⟩ := q
  obtain ⟨cs, rfl, hcs⟩ := sgn_of q3
  obtain ⟨cs', hs, hperm⟩ := sgn_sorted (o := true) cs fun c hc => (hcs c hc).small
  have hlc : cs'.length = m := by
    rw [hperm.length_eq]
    simpa [sgn] using q4
  refine ⟨cs', p', hp', hlc, fun c hc => hcs c (hperm.mem_iff.mp hc), ?_⟩
  have hl : listDD [.str alph] = some (.lst true (sgn alph)) := by
    show (if alph.length ≤ sizeLine then some (D.lst true (sgn alph)) else none) = _
    rw [if_pos (by rw [hsz]; decide)]
  refine bodyF_rt (letters_go (sgn alph) law_letters_c1e p p' (m : Int) cs' (sgn cs) (sgn l') hl (inR3 m (by omega)) ?_ (sgn cs') hs (sgn_join cs' (by omega) true)) (by simp [pot_own' hp, pot_own' hp'])
  rw [Int.toNat_natCast]
  simpa using q1

/-! ### _law_piece -/
theorem piece_test (DR : List D → Out (List D) D) (p p' w x : D) (hp : p.own = true) (r : Int) (hr : DR [p, .int 2] = .ok (.int r) [p', .int 2]) :
    (toB (e2 (eqDD false) (callD 2 DR [] (aCons (eM 0) (aCons (eC (.int 2)) aNil))) (eC (.int 0)))) [some p, some w, none, some x] = .ok (decide (r = 0)) [some p', some w, none, some x] := by
  simp [hr, hp, hole]
def pbody (DR : List D → Out (List D) D) (t0 : Cm Bool) (c0 : Cm Dl.Tm) : Cm Fl := (sSeq (sIf (toB (e2 (eqDD false) (callD 2 DR [] (aCons (eM 0) (aCons (eC (.int 2)) aNil))) (eC (.int 0)))) (sRet (eTup (aCons (eC (.str [109, 97, 121, 98, 101])) (aCons (e2 ixD (eM 1) (callD 2 DR [] (aCons (eM 0) (aCons (eCa lenD (aCons (eM 1) aNil)) aNil)))) aNil)))) sNil)
  (sSeq (sSet 2 (eMe "str" joinD (eC (.str [])) (aCons (eComp [3] (srcA (eN 1)) (gN 3) t0 c0) aNil)))
  (sSeq (sIf (toB (e2 (eqDD false) (eM 2) (eC (.str [])))) (sSet 2 (e2 ixD (eM 1) (callD 2 DR [] (aCons (eM 0) (aCons (eCa lenD (aCons (eM 1) aNil)) aNil))))) sNil)
  (sRet (eTup (aCons (eC (.str [97, 110, 121])) (aCons (eN 2) aNil)))))))
theorem piece_a (DR : List D → Out (List D) D) (t0 : Cm Bool) (c0 : Cm Dl.Tm) (p p1 p2 : D) (w : List Nat) (c : Nat) (k : Int) (hp : p.own = true) (hp1 : p1.own = true) (h1 : DR [p, .int 2] = .ok (.int 0) [p1, .int 2]) (hl : lenD [.str w] = some (.int w.length)) (h2 : DR [p1, .int w.length] = .ok (.int k) [p2, .int w.length]) (h3 : ixD (.str w) (.int k) = some (.str [c])) :
    pbody DR t0 c0 [some p, some (.str w), none, none] = .ok (.rt (.tup [.str [109, 97, 121, 98, 101], .str [c]])) [some p2, some (.str w), none, none] := by
  simp only [lenD_str] at hl
  simp only [ixD_str] at h3
  simp [pbody, h1, h2, h3, hp, hp1, hole, hl]
theorem piece_b (DR : List D → Out (List D) D) (t0 : Cm Bool) (c0 : Cm Dl.Tm) (p p1 p2 : D) (w v : List Nat) (r : Int) (hr : r ≠ 0) (ys : List D) (hp : p.own = true) (h1 : DR [p, .int 2] = .ok (.int r) [p1, .int 2])
    (h2 : compL [3] (gN 3) t0 c0 (w.map fun c => .str [c]) [] [some p1, some (.str w), none, none] = .ok ys [some p2, some (.str w), none, none]) (hj : joinD [.str [], .lst true ys] = some (.str v)) (hv : v ≠ []) :
    pbody DR t0 c0 [some p, some (.str w), none, none] = .ok (.rt (.tup [.str [97, 110, 121], .str v])) [some p2, some (.str w), some (.str v), none] := by
  simp [pbody, h1, h2, hp, hole, hr, hj, hv]
theorem piece_c (DR : List D → Out (List D) D) (t0 : Cm Bool) (c0 : Cm Dl.Tm) (p p1 p2 p3 : D) (w : List Nat) (c : Nat) (k r : Int) (hr : r ≠ 0) (ys : List D) (hp : p.own = true) (hp2 : p2.own = true) (h1 : DR [p, .int 2] = .ok (.int r) [p1, .int 2])
    (h2 : compL [3] (gN 3) t0 c0 (w.map fun c => .str [c]) [] [some p1, some (.str w), none, none] = .ok ys [some p2, some (.str w), none, none]) (hj : joinD [.str [], .lst true ys] = some (.str [])) (hl : lenD [.str w] = some (.int w.length)) (h3 : DR [p2, .int w.length] = .ok (.int k) [p3, .int w.length]) (h4 : ixD (.str w) (.int k) = some (.str [c])) :
    pbody DR t0 c0 [some p, some (.str w), none, none] = .ok (.rt (.tup [.str [97, 110, 121], .str [c]])) [some p3, some (.str w), some (.str [c]), none] := by
  simp only [lenD_str] at hl
  simp only [ixD_str] at h4
  simp [pbody, h1, h2, hp, hp2, hole, hr, hj, hl, h3, h4]
end Lw

set_option linter.all false
set_option maxRecDepth 100000
namespace Lw
open PySem PySem.Spec PyProof.Rows L2 Dl
/-- some letters -/
def Wd (w : List Nat) : Prop := w ≠ [] ∧ w.length ≤ 3 ∧ ∀ c ∈ w, Lc c
theorem Wd.len {w : List Nat} (h : Wd w) : lenD [.str w] = some (.int w.length) := by
  rw [lenD_str, if_pos (by have := h.2.1; rw [sizeLine_eq]; omega)]
theorem Wd.ix {w : List Nat} (h : Wd w) {k : Int} (h0 : 0 ≤ k) (h1 : k < w.length) : ∃ c, Lc c ∧ ixD (.str w) (.int k) = some (.str [c]) := by
  obtain ⟨n, rfl⟩ := Int.eq_ofNat_of_zero_le h0
  have hn : n < w.length := by omega
  refine ⟨w[n], h.2.2 _ (List.getElem_mem hn), ?_⟩
  rw [ixD_str, if_pos (by have := h.2.1; rw [sizeLine_eq]; omega)]
  simp [List.getElem?_eq_getElem hn]
theorem ok_one {b : Bool} {c : Nat} (h : Lc c) : Ok1 (b, [c]) := ⟨⟨by simp, fun _ => ⟨c, rfl⟩⟩, by simp, fun x hx => by rw [List.mem_singleton.mp hx]; exact h.small⟩
theorem s_piece (p : D) (hp : PotOk p) (w : List Nat) (hw : Wd w) : ∃ q p', PotOk p' ∧ Ok1 q ∧ sem_law_piece [p, .str w] = .ok (enc q) [p', .str w] := by
  have hsz := sizeLine_eq
  have hwl := hw.2.1
  have hw0 : 0 < w.length := List.length_pos_iff.mpr hw.1
  obtain ⟨r, p1, hp1, hr0, hr1, d1⟩ := s_draw p hp 2 (by decide) (by decide)
  by_cases hr : r = 0
  · subst hr
    obtain ⟨k, p2, hp2, hk0, hk1, d2⟩ := s_draw p1 hp1 (w.length : Int) (by omega) (by omega)
    obtain ⟨c, hc, hi⟩ := hw.ix hk0 hk1
    refine ⟨(false, [c]), p2, hp2, ok_one hc, ?_⟩
    exact bodyF_rt (piece_a sem_law_draw law_piece_c1t law_piece_c1e p p1 p2 w c k (pot_own' hp) (pot_own' hp1) d1 hw.len d2 hi) (by simp [pot_own' hp])
  · have q := compL_inv (own := [3]) (g := gN 3) (t := law_piece_c1t) (e := law_piece_c1e) (I := fun ρ => ∃ p, PotOk p ∧ ρ = [some p, some (.str w), none, none]) (R := fun d r => r = d) (ds := w.map fun c => .str [c]) (acc := []) (ρ := [some p1, some (.str w), none, none]) ⟨p1, hp1, rfl⟩ (fun d hd ρ hi => by
      obtain ⟨p, hp, rfl⟩ := hi
      obtain ⟨c, _, rfl⟩ := List.mem_map.mp hd
      obtain ⟨r, p', hp', _, _, dr⟩ := s_draw p hp 2 (by decide) (by decide)
      have ht := piece_test sem_law_draw p p' (.str w) (.str [c]) (pot_own' hp) r dr
      refine ⟨decide (r = 0), [some p, some (.str w), none, some (.str [c])], [some p', some (.str w), none, some (.str [c])], by simp, ht, fun _ => ⟨.str [c], [some p', some (.str w), none, some (.str [c])], by simp [law_piece_c1e], rfl, p', hp', by simp⟩, fun _ => ⟨p', hp', by simp⟩⟩) (by simp; omega)
    obtain ⟨rs, ρ', q1, ⟨p2, hp2, rfl⟩, q3, q4⟩ := q
    rw [List.nil_append] at q1
    obtain ⟨cs, rfl, hcs⟩ := sgn_of (P := fun c => Lc c) (rs := rs) fun r hr => by
      obtain ⟨d, hd, rfl⟩ := q3 r hr
      obtain ⟨c, hc, rfl⟩ := List.mem_map.mp hd
      exact ⟨c, hw.2.2 c hc, rfl⟩
    have hcl : cs.length ≤ 3 := by
      have : (sgn cs).length = cs.length := by simp [sgn]
      rw [List.length_map] at q4
      omega
    have hj := sgn_join cs (by omega) true
    by_cases hv : cs = []
    · subst hv
      obtain ⟨k, p3, hp3, hk0, hk1, d3⟩ := s_draw p2 hp2 (w.length : Int) (by omega) (by omega)
      obtain ⟨c, hc, hi⟩ := hw.ix hk0 hk1
      refine ⟨(true, [c]), p3, hp3, ok_one hc, ?_⟩
      exact bodyF_rt (piece_c sem_law_draw law_piece_c1t law_piece_c1e p p1 p2 p3 w c k r hr _ (pot_own' hp) (pot_own' hp2) d1 q1 hj hw.len d3 hi) (by simp [pot_own' hp])
    · refine ⟨(true, cs), p2, hp2, ⟨⟨hv, fun z => by cases z⟩, by show cs.length ≤ 26; omega, fun c hc => (hcs c hc).small⟩, ?_⟩
      exact bodyF_rt (piece_b sem_law_draw law_piece_c1t law_piece_c1e p p1 p2 w cs r hr _ (pot_own' hp) d1 q1 hj hv) (by simp [pot_own' hp])
/-! ### _law_product -/
theorem product_turn (PC : List D → Out (List D) D) (p p' w m x d : D) (hp : p.own = true) (hw : w.own = false) (hd : d.cold) (hr : PC [p, w] = .ok d [p', w]) :
    (eZ (callD 2 PC [] (aCons (eM 0) (aCons (eM 1) aNil)))) [some p, some w, some m, some x] = .ok (.v d) [some p', some w, some m, some x] := by
  obtain ⟨a, b, c⟩ := hd
  simp [hr, hp, hw, hole, a, b]
theorem product_go (DR : List D → Out (List D) D) (c0 : Cm Dl.Tm) (p p1 p2 w : D) (m r : Int) (ys : List D) (hp : p.own = true) (h1 : DR [p, .int (m + 1)] = .ok (.int r) [p1, .int (m + 1)]) (hr : Dl.inR r) (ho : D.owns ys = false)
    (hc : compL [3] (gN 3) bYes c0 (rngD 0 r.toNat) [] [some p1, some w, some (.int m), none] = .ok ys [some p2, some w, some (.int m), none]) :
    (sRet (eCa tupleD (aCons (eComp [3] (rng1 (aCons (eZ (callD 2 DR [] (aCons (eM 0) (aCons (e2 addD (eM 2) (eC (.int 1))) aNil)))) aNil)) (gN 3) bYes c0) aNil))) [some p, some w, some (.int m), none] = .ok (.rt (.tup ys)) [some p2, some w, some (.int m), none] := by
  have ht : tupleD [.lst true ys] = some (.tup ys) := by
    show (if D.owns ys = true then none else some (D.tup ys)) = _
    rw [ho]
    rfl
  simp [h1, hp, hole, hr, hc, ht]
theorem encs_of : ∀ {rs : List D}, (∀ r ∈ rs, ∃ q, Ok1 q ∧ r = enc q) → ∃ l : List Pc1, rs = l.map enc ∧ ∀ q ∈ l, Ok1 q
  | [], _ => ⟨[], rfl, fun _ h => nomatch h⟩
  | r :: rs, h => by
    obtain ⟨c, hc, rfl⟩ := h r List.mem_cons_self
    obtain ⟨cs, e, hcs⟩ := encs_of (rs := rs) fun x hx => h x (List.mem_cons_of_mem _ hx)
    exact ⟨c :: cs, by rw [e]; rfl, fun x hx => (List.mem_cons.mp hx).elim (fun e => e ▸ hc) (hcs x)⟩
theorem s_product (p : D) (hp : PotOk p) (w : List Nat) (hw : Wd w) : ∃ l p', PotOk p' ∧ (∀ q ∈ l, Ok1 q) ∧ l.length ≤ 5 ∧ sem_law_product [p, .str w, .int 5] = .ok (encP l) [p', .str w, .int 5] := by
  have hsz := sizeLine_eq
  obtain ⟨r, p1, hp1, hr0, hr1, d1⟩ := s_draw p hp (5 + 1) (by decide) (by decide)
  obtain ⟨n, rfl⟩ := Int.eq_ofNat_of_zero_le hr0
  have q := compL_each (own := [3]) (g := gN 3) (e := law_product_c1e) (I := fun ρ => ∃ p, PotOk p ∧ ρ = [some p, some (.str w), some (.int 5), none]) (R := fun _ r => ∃ q, Ok1 q ∧ r = enc q) (ds := rngD 0 n) (acc := []) (ρ := [some p1, some (.str w), some (.int 5), none]) ⟨p1, hp1, rfl⟩ (fun d hd ρ hi => by
    obtain ⟨p, hp, rfl⟩ := hi
    obtain ⟨q, p', hp', hq, dp⟩ := s_piece p hp w hw
    have ht := product_turn sem_law_piece p p' (.str w) (.int 5) d (enc q) (pot_own' hp) rfl (enc_cold q) dp
    exact ⟨[some p, some (.str w), some (.int 5), some d], enc q, [some p', some (.str w), some (.int 5), some d], by simp, ht, ⟨q, hq, rfl⟩, p', hp', by simp⟩) (by simp; omega)
  obtain ⟨rs, ρ', q1, ⟨p2, hp2, rfl⟩, q3, q4⟩ := q
  obtain ⟨l, rfl, hl⟩ := encs_of (rs := rs) fun r hr => let ⟨_, _, z⟩ := q3 r hr; z
  rw [List.nil_append] at q1
  refine ⟨l, p2, hp2, hl, by rw [List.length_map, rngD_len] at q4; omega, ?_⟩
  refine bodyF_rt (product_go sem_law_draw law_product_c1e p p1 p2 (.str w) 5 (n : Int) (l.map enc) (pot_own' hp) d1 (inR3 n (by omega)) (encP_owns l) ?_) (by simp [pot_own' hp])
  rw [Int.toNat_natCast]
  exact q1
end Lw

set_option linter.all false
set_option maxRecDepth 100000
namespace Lw
open PySem PySem.Spec PyProof.Rows L2 Dl
def Okp (l : List Pc1) : Prop := (∀ q ∈ l, Ok1 q) ∧ l.length ≤ 5
theorem reprD_bl (b : Bool) : reprD [.bl b] = some (.str (shD (.bl b))) := by
  have h : reprOk (.bl b) := by
    refine ⟨rfl, rfl, by simp [D.dep], ?_⟩
    rw [sizeLine_eq]
    cases b <;> decide +kernel
  show (if reprOk (.bl b) then some (D.str (shD (.bl b))) else none) = _
  rw [if_pos h]
theorem f1_go (PW UN : List D → Out (List D) D) (A B s0 s1 s2 s3 s4 s5 s8 : D) (x8 : Option D) (b c : Bool) (hA : A.own = false) (hB : B.own = false) (h1 : PW [A, B] = .ok (.bl b) [A, B]) (h2 : UN [A, B] = .ok (.bl b) [A, B]) (h3 : PW [B, A] = .ok (.bl c) [B, A]) (h4 : UN [B, A] = .ok (.bl c) [B, A]) :
    (sSeq (sIf (toB (e2 (eqDD true) (eCa reprD (aCons (callD 2 PW [] (aCons (eM 6) (aCons (eM 7) aNil))) aNil)) (eCa reprD (aCons (callD 2 UN [] (aCons (eM 6) (aCons (eM 7) aNil))) aNil)))) (sRet (eC (.bl false))) sNil)
  (sIf (toB (e2 (eqDD true) (eCa reprD (aCons (callD 2 PW [] (aCons (eM 7) (aCons (eM 6) aNil))) aNil)) (eCa reprD (aCons (callD 2 UN [] (aCons (eM 7) (aCons (eM 6) aNil))) aNil)))) (sRet (eC (.bl false))) sNil)) [some s0, some s1, some s2, some s3, some s4, some s5, some A, some B, x8] = .ok .nx [some s0, some s1, some s2, some s3, some s4, some s5, some A, some B, x8] := by
  simp [h1, h2, h3, h4, hA, hB, reprD_bl]
theorem f1_ok (x y : List Pc1) (hx : Okp x) (hy : Okp y) (s0 s1 s2 s3 s4 s5 s8 : D) (x8 : Option D) : law_f1b [some s0, some s1, some s2, some s3, some s4, some s5, some (encP x), some (encP y), x8] = .ok .nx [some s0, some s1, some s2, some s3, some s4, some s5, some (encP x), some (encP y), x8] :=
  f1_go sem_product_within sem_law_under _ _ s0 s1 s2 s3 s4 s5 s8 x8 _ _ (encP_own x) (encP_own y) (s_within x y hx.1 hy.1 hx.2 hy.2) (s_under x y hx.1 hy.1 hx.2 hy.2) (s_within y x hy.1 hx.1 hy.2 hx.2) (s_under y x hy.1 hx.1 hy.2 hx.2)
def encPs (L : List (List Pc1)) : List D := L.map encP
theorem encP_cold (l : List Pc1) : (encP l).cold := by
  obtain ⟨a, b, c⟩ := cold_list (encP_colds l)
  refine ⟨?_, ?_, encP_own l⟩
  · unfold encP; simp [a]
  · unfold encP; simp [b]
theorem encPs_colds (L : List (List Pc1)) : D.colds (encPs L) := cold_map encP_cold L
theorem f1_loop (x : List Pc1) (hx : Okp x) (s0 s1 s2 s3 s4 s5 : D) (x8 : Option D) : ∀ (L : List (List Pc1)) (x7 : Option D), (∀ y ∈ L, Okp y) → ∃ x7', loopL (gN 7) law_f1b (encPs L) [some s0, some s1, some s2, some s3, some s4, some s5, some (encP x), x7, x8] = .ok .nx [some s0, some s1, some s2, some s3, some s4, some s5, some (encP x), x7', x8]
  | [], x7, _ => ⟨x7, rfl⟩
  | y :: L, x7, h => by
    obtain ⟨x7', ih⟩ := f1_loop x hx s0 s1 s2 s3 s4 s5 x8 L (some (encP y)) fun z hz => h z (List.mem_cons_of_mem _ hz)
    refine ⟨x7', ?_⟩
    have hb := f1_ok x y hx (h y List.mem_cons_self) s0 s1 s2 s3 s4 s5 s0 x8
    show loopL (gN 7) law_f1b (encP y :: encPs L) _ = _
    rw [loopL_cons]
    simp [hb, ih]
theorem addD_lst {o1 o2 : Bool} {a b : List D} (h1 : D.owns a = false) (h2 : D.owns b = false) (hz : a.length + b.length ≤ sizeLine) : addD (.lst o1 a) (.lst o2 b) = some (.lst true (a ++ b)) := by
  show (Option.or none (Option.or none (Option.or (if D.owns a = false ∧ D.owns b = false ∧ a.length + b.length ≤ sizeLine then some (D.lst true (a ++ b)) else none) _))) = _
  rw [if_pos ⟨h1, h2, hz⟩]
  rfl
theorem addD_tup {a b : List D} (h1 : D.owns a = false) (h2 : D.owns b = false) (hz : a.length + b.length ≤ sizeLine) : addD (.tup a) (.tup b) = some (.tup (a ++ b)) := by
  show (Option.or none (Option.or none (Option.or none (if D.owns a = false ∧ D.owns b = false ∧ a.length + b.length ≤ sizeLine then some (D.tup (a ++ b)) else none)))) = _
  rw [if_pos ⟨h1, h2, hz⟩]
  rfl
theorem f2_go (F : Cm Fl) (Ps Qs : List D) (A s0 s1 s2 s4 s5 : D) (x7 x7' x8 : Option D) (ha : addD (.lst false Ps) (.lst true [.tup []]) = some (.lst true Qs)) (hc : D.colds Qs) (h : loopL (gN 7) F Qs [some s0, some s1, some s2, some (.lst false Ps), some s4, some s5, some A, x7, x8] = .ok .nx [some s0, some s1, some s2, some (.lst false Ps), some s4, some s5, some A, x7', x8]) :
    (sFor [7] (srcA (e2 addD (eM 3) (eLst (aCons (eTup aNil) aNil)))) (gN 7) F) [some s0, some s1, some s2, some (.lst false Ps), some s4, some s5, some A, x7, x8] = .ok .nx [some s0, some s1, some s2, some (.lst false Ps), some s4, some s5, some A, x7', x8] := by
  simp [ha, srcV_lst hc, h]
theorem f2_loop (L : List (List Pc1)) (hL : ∀ y ∈ L, Okp y) (hz : L.length ≤ 100) (s0 s1 s2 s4 s5 : D) (x8 : Option D) : ∀ (M : List (List Pc1)) (x6 x7 : Option D), (∀ y ∈ M, Okp y) → ∃ x6' x7', loopL (gN 6) law_f2b (encPs M) [some s0, some s1, some s2, some (.lst false (encPs L)), some s4, some s5, x6, x7, x8] = .ok .nx [some s0, some s1, some s2, some (.lst false (encPs L)), some s4, some s5, x6', x7', x8]
  | [], x6, x7, _ => ⟨x6, x7, rfl⟩
  | y :: M, x6, x7, h => by
    have hy := h y List.mem_cons_self
    have hq : ∀ z ∈ L ++ [[]], Okp z := fun z hz => by
      rcases List.mem_append.mp hz with hz | hz
      · exact hL z hz
      · rw [List.mem_singleton.mp hz]
        exact ⟨fun _ q => (nomatch q), Nat.zero_le _⟩
    obtain ⟨x7', h1⟩ := f1_loop y hy s0 s1 s2 (.lst false (encPs L)) s4 s5 x8 (L ++ [[]]) x7 hq
    have ha : addD (.lst false (encPs L)) (.lst true [.tup []]) = some (.lst true (encPs (L ++ [[]]))) := by
      have e : encPs (L ++ [[]]) = encPs L ++ [.tup []] := by simp [encPs, encP]
      rw [e]
      refine addD_lst (cold_list (encPs_colds L)).2.2 rfl ?_
      simp [encPs, sizeLine_eq]
      omega
    have hb : law_f2b [some s0, some s1, some s2, some (.lst false (encPs L)), some s4, some s5, some (encP y), x7, x8] = _ := f2_go law_f1b (encPs L) _ (encP y) s0 s1 s2 s4 s5 x7 x7' x8 ha (encPs_colds _) h1
    obtain ⟨x6', x7'', ih⟩ := f2_loop L hL hz s0 s1 s2 s4 s5 x8 M (some (encP y)) x7' fun z hz => h z (List.mem_cons_of_mem _ hz)
    refine ⟨x6', x7'', ?_⟩
    show loopL (gN 6) law_f2b (encP y :: encPs M) _ = _
    rw [loopL_cons]
    simp [hb, ih]

theorem cutL_map {α β : Type} (f : α → β) (l : List α) (lo hi : Option Int) : cutL (l.map f) lo hi = (cutL l lo hi).map f := by
  unfold cutL
  rw [List.length_map, ← List.map_drop, ← List.map_take]
theorem cutL_mem {α : Type} {l : List α} {lo hi : Option Int} {a : α} (h : a ∈ cutL l lo hi) : a ∈ l := List.mem_of_mem_drop (List.mem_of_mem_take h)
theorem cutL_len {α : Type} (l : List α) (lo hi : Option Int) : (cutL l lo hi).length ≤ l.length := by
  unfold cutL
  rw [List.length_take, List.length_drop]
  omega
theorem cutL_5 {α : Type} (l : List α) : (cutL l none (some 5)).length ≤ 5 := by
  unfold cutL
  rw [List.length_take]
  have : HT.sIx l.length l.length (some 5) ≤ 5 := by
    unfold HT.sIx
    simp only
    split <;> omega
  omega
theorem slD_encP (l : List Pc1) (lo hi : Option Int) : slD (encP l) lo hi = some (encP (cutL l lo hi)) := by
  show (if D.owns (l.map enc) = true then none else some (D.tup (cutL (l.map enc) lo hi))) = _
  rw [encP_owns, cutL_map]
  rfl
theorem addD_encP (a b : List Pc1) (h : a.length + b.length ≤ 1000) : addD (encP a) (encP b) = some (encP (a ++ b)) := by
  have hz := sizeLine_eq
  unfold encP
  rw [addD_tup (encP_owns a) (encP_owns b) (by rw [List.length_map, List.length_map]; omega), List.map_append]
theorem mul_encP (q : Pc1) (t : Int) (h0 : 0 ≤ t) (h1 : t < 3) : ∃ l, (∀ x ∈ l, x = q) ∧ l.length ≤ 2 ∧ mulDD (.tup [enc q]) (.int t) = some (encP l) := by
  obtain ⟨n, rfl⟩ := Int.eq_ofNat_of_zero_le h0
  refine ⟨List.replicate n q, fun x hx => (List.mem_replicate.mp hx).2, by rw [List.length_replicate]; omega, ?_⟩
  show (Option.or (Option.or none (Option.or none none)) (if D.owns [enc q] = false ∧ Dl.inR (n : Int) ∧ (n : Int) ≤ 1000 ∧ [enc q].length ≤ 1000 then some (D.tup (List.replicate (n : Int).toNat [enc q]).flatten) else none)) = _
  rw [if_pos ⟨by simp, inR3 n (by omega), by omega, by simp⟩]
  unfold encP
  rw [List.map_replicate, Int.toNat_natCast]
  have : (List.replicate n [enc q]).flatten = List.replicate n (enc q) := by
    induction n with
    | zero => rfl
    | succ n ih => rw [List.replicate_succ, List.flatten_cons, ih (by omega) (by omega), List.replicate_succ]; rfl
  rw [this]
  rfl
/-! ### the law -/
noncomputable def lbody (PT LT DR PC : List D → Out (List D) D) (c0 : Cm Dl.Tm) (F : Cm Fl) : Cm Fl := (sSeq (sSet 1 (callD 2 PT [] (aCons (eM 0) (aCons (eC (.int 0)) aNil))))
  (sSeq (sSet 2 (eZ (callD 2 LT [] (aCons (eM 1) (aCons (eZ (e2 addD (eC (.int 1)) (callD 2 DR [] (aCons (eM 1) (aCons (eC (.int 3)) aNil))))) aNil)))))
  (sSeq (sSet 3 (eComp [8] (rng1 (aCons (eC (.int 3)) aNil)) (gN 8) bYes c0))
  (sSeq (sSet 4 (eZ (callD 2 DR [] (aCons (eM 1) (aCons (e2 addD (eCaP lenD (pIx (pSl 3) (eC (.int 0)))) (eC (.int 1))) aNil)))))
  (sSeq (sSet 5 (eZ (e2 mulDD (eTup (aCons (eZ (callD 2 PC [] (aCons (eM 1) (aCons (eM 2) aNil)))) aNil)) (callD 2 DR [] (aCons (eM 1) (aCons (eC (.int 3)) aNil))))))
  (sSeq (sSet 6 (e2 ixD (eM 3) (eC (.int 0))))
  (sSeq (sSet 6 (eZ (e2 addD (e2 addD (eSl (eM 6) oNone (oSome (eM 4))) (eM 5)) (eSl (eM 6) (oSome (e2 addD (eM 4) (callD 2 DR [] (aCons (eM 1) (aCons (eC (.int 2)) aNil))))) oNone))))
  (sSeq (sDrop (eMut "list" true appD (pSl 3) (aCons (eZ (eSl (eM 6) oNone (oSome (eC (.int 5))))) aNil)))
  (sSeq (sFor [6, 7] (srcA (eF 3)) (gN 6) F)
  (sRet (eC (.bl true))))))))))))
theorem ixN_zero (n : Nat) : ixN (n + 1) 0 = some 0 := by
  unfold ixN
  rw [if_pos (by decide), if_pos (by omega)]
  rfl
theorem law_go (PT LT DR PC : List D → Out (List D) D) (c0 : Cm Dl.Tm) (F : Cm Fl) (sc p0 p1 p2 p3 p4 p5 p6 p7 q M A1 A2 A3 A4 A5 P0 P1 P2 : D) (w : List Nat) (n0 : Nat) (r0 a t b : Int) (x6 x7 : Option D)
    (hsc : sc.own = false) (o0 : p0.own = true) (o1 : p1.own = true) (o2 : p2.own = true) (o3 : p3.own = true) (o4 : p4.own = true) (o5 : p5.own = true) (o6 : p6.own = true)
    (cq : q.cold) (cM : M.cold) (c1 : P0.cold) (c2 : P1.cold) (c3 : P2.cold) (c4 : A4.cold) (c5 : A5.cold)
    (h1 : PT [sc, .int 0] = .ok p0 [sc, .int 0]) (h2 : DR [p0, .int 3] = .ok (.int r0) [p1, .int 3]) (h3 : LT [p1, .int (1 + r0)] = .ok (.str w) [p2, .int (1 + r0)])
    (h4 : compL [8] (gN 8) bYes c0 (rngD 0 3) [] [some sc, some p2, some (.str w), none, none, none, none, none, none] = .ok [P0, P1, P2] [some sc, some p3, some (.str w), none, none, none, none, none, none])
    (h5 : lenD [P0] = some (.int n0)) (h6 : DR [p3, .int ((n0 : Int) + 1)] = .ok (.int a) [p4, .int ((n0 : Int) + 1)]) (h7 : PC [p4, .str w] = .ok q [p5, .str w]) (h8 : DR [p5, .int 3] = .ok (.int t) [p6, .int 3]) (h9 : mulDD (.tup [q]) (.int t) = some M)
    (h10 : slD P0 none (some a) = some A1) (h11 : addD A1 M = some A2) (h12 : DR [p6, .int 2] = .ok (.int b) [p7, .int 2]) (h13 : slD P0 (some (a + b)) none = some A3) (h14 : addD A2 A3 = some A4) (h15 : slD A4 none (some 5) = some A5)
    (h16 : appD (.lst true [P0, P1, P2]) [A5] = some (.non, .lst true [P0, P1, P2, A5])) (h17 : Dl.inR 3)
    (hF : loopL (gN 6) F [P0, P1, P2, A5] [some sc, some p7, some (.str w), some (.lst false [P0, P1, P2, A5]), some (.int a), some M, some A4, none, none] = .ok .nx [some sc, some p7, some (.str w), some (.lst false [P0, P1, P2, A5]), some (.int a), some M, x6, x7, none]) :
    lbody PT LT DR PC c0 F [some sc, none, none, none, none, none, none, none, none] = .ok (.rt (.bl true)) [some sc, some p7, some (.str w), some (.lst false [P0, P1, P2, A5]), some (.int a), some M, x6, x7, none] := by
  obtain ⟨q1, q2, q3⟩ := cq
  obtain ⟨m1, m2, m3⟩ := cM
  obtain ⟨u1, u2, u3⟩ := c1
  obtain ⟨v1, v2, v3⟩ := c2
  obtain ⟨w1, w2, w3⟩ := c3
  obtain ⟨y1, y2, y3⟩ := c4
  obtain ⟨z1, z2, z3⟩ := c5
  have hs : srcV (.lst false [P0, P1, P2, A5]) = some ⟨[.lst false [P0, P1, P2, A5]], [P0, P1, P2, A5], none⟩ := srcV_lst (fun d hd => by
    simp only [List.mem_cons, List.not_mem_nil, or_false] at hd
    rcases hd with rfl | rfl | rfl | rfl
    · exact ⟨u1, u2, u3⟩
    · exact ⟨v1, v2, v3⟩
    · exact ⟨w1, w2, w3⟩
    · exact ⟨z1, z2, z3⟩)
  simp [lbody, h1, h2, h3, h4, h5, h6, h7, h8, h9, h10, h11, h12, h13, h14, h15, h16, h17, hF, hs, hsc, o0, o1, o2, o3, o4, o5, o6, q1, q2, q3, m1, m2, m3, u1, u2, u3, v1, v2, v3, w1, w2, w3, y1, y2, y3, z1, z2, z3, hole, ixN_zero]
end Lw

set_option linter.all false
set_option maxRecDepth 100000
namespace Lw
open PySem PySem.Spec PyProof.Rows L2 Dl
theorem prod_turn (PR : List D → Out (List D) D) (sc p p' w d x : D) (hp : p.own = true) (hw : w.own = false) (hd : d.cold) (hr : PR [p, w, .int 5] = .ok d [p', w, .int 5]) :
    (eZ (callD 3 PR [] (aCons (eM 1) (aCons (eM 2) (aCons (eC (.int 5)) aNil))))) [some sc, some p, some w, none, none, none, none, none, some x] = .ok (.v d) [some sc, some p', some w, none, none, none, none, none, some x] := by
  obtain ⟨a, b, c⟩ := hd
  simp [hr, hp, hw, hole, a, b]
theorem prods_of : ∀ {rs : List D}, (∀ r ∈ rs, ∃ l : List Pc1, Okp l ∧ r = encP l) → ∃ L : List (List Pc1), rs = encPs L ∧ ∀ l ∈ L, Okp l
  | [], _ => ⟨[], rfl, fun _ h => (nomatch h)⟩
  | r :: rs, h => by
    obtain ⟨c, hc, rfl⟩ := h r List.mem_cons_self
    obtain ⟨cs, e, hcs⟩ := prods_of (rs := rs) fun x hx => h x (List.mem_cons_of_mem _ hx)
    exact ⟨c :: cs, by rw [e]; rfl, fun x hx => (List.mem_cons.mp hx).elim (fun e => e ▸ hc) (hcs x)⟩
theorem plain_law : ∀ ns : List Int, ns.length ≤ 63 → ∃ ds, sem_law [.scr ns] = .ok (.bl true) ds := by
  intro ns hns
  have hsz := sizeLine_eq
  obtain ⟨p0, hp0, h1⟩ := s_pot ns hns
  obtain ⟨r0, p1, hp1, a0, a1, h2⟩ := s_draw p0 hp0 3 (by decide) (by decide)
  obtain ⟨m0, rfl⟩ := Int.eq_ofNat_of_zero_le a0
  obtain ⟨w, p2, hp2, hwl, hwc, h3⟩ := s_letters p1 hp1 (1 + m0) (by omega) (by omega)
  rw [Int.natCast_add, Int.natCast_one] at h3
  have hw : Wd w := ⟨fun e => by rw [e] at hwl; simp at hwl; omega, by omega, hwc⟩
  have hq := compL_each (own := [8]) (g := gN 8) (e := law_c1e) (I := fun ρ => ∃ p, PotOk p ∧ ρ = [some (.scr ns), some p, some (.str w), none, none, none, none, none, none]) (R := fun _ r => ∃ l : List Pc1, Okp l ∧ r = encP l) (ds := rngD 0 3) (acc := []) (ρ := [some (.scr ns), some p2, some (.str w), none, none, none, none, none, none]) ⟨p2, hp2, rfl⟩ (fun d hd ρ hi => by
    obtain ⟨p, hp, rfl⟩ := hi
    obtain ⟨l, p', hp', hl, hl5, hd⟩ := s_product p hp w hw
    have ht := prod_turn sem_law_product (.scr ns) p p' (.str w) (encP l) d (pot_own' hp) rfl (encP_cold l) hd
    exact ⟨[some (.scr ns), some p, some (.str w), none, none, none, none, none, some d], encP l, [some (.scr ns), some p', some (.str w), none, none, none, none, none, some d], by simp, ht, ⟨l, ⟨hl, hl5⟩, rfl⟩, p', hp', by simp⟩) (by simp)
  obtain ⟨rs, ρ', h4, ⟨p3, hp3, rfl⟩, q3, q4⟩ := hq
  obtain ⟨L, rfl, hL⟩ := prods_of (rs := rs) fun r hr => let ⟨_, _, z⟩ := q3 r hr; z
  rw [rngD_len] at q4
  obtain ⟨l0, l1, l2, rfl⟩ : ∃ a b c, L = [a, b, c] := by
    match L, q4 with
    | [a, b, c], _ => exact ⟨a, b, c, rfl⟩
  have k0 : Okp l0 := hL l0 (by simp)
  have k1 : Okp l1 := hL l1 (by simp)
  have k2 : Okp l2 := hL l2 (by simp)
  obtain ⟨a, p4, hp4, b0, b1, h6⟩ := s_draw p3 hp3 ((l0.length : Int) + 1) (by omega) (by have := k0.2; omega)
  obtain ⟨q, p5, hp5, hq, h7⟩ := s_piece p4 hp4 w hw
  obtain ⟨t, p6, hp6, t0, t1, h8⟩ := s_draw p5 hp5 3 (by decide) (by decide)
  obtain ⟨more, hm, hm2, h9⟩ := mul_encP q t t0 t1
  obtain ⟨b, p7, hp7, c0, c1, h12⟩ := s_draw p6 hp6 2 (by decide) (by decide)
  have hA1 := cutL_len l0 none (some a)
  have hA3 := cutL_len l0 (some (a + b)) none
  have k05 := k0.2
  have k4 : ∀ x ∈ (cutL l0 none (some a) ++ more) ++ cutL l0 (some (a + b)) none, Ok1 x := fun x hx => by
    rcases List.mem_append.mp hx with hx | hx
    · rcases List.mem_append.mp hx with hx | hx
      · exact k0.1 x (cutL_mem hx)
      · rw [hm x hx]; exact hq
    · exact k0.1 x (cutL_mem hx)
  have k5 : Okp (cutL ((cutL l0 none (some a) ++ more) ++ cutL l0 (some (a + b)) none) none (some 5)) := ⟨fun x hx => k4 x (cutL_mem hx), cutL_5 _⟩
  generalize hl3 : cutL ((cutL l0 none (some a) ++ more) ++ cutL l0 (some (a + b)) none) none (some 5) = l3 at k5
  have hall : ∀ y ∈ [l0, l1, l2, l3], Okp y := fun y hy => by
    simp only [List.mem_cons, List.not_mem_nil, or_false] at hy
    rcases hy with rfl | rfl | rfl | rfl <;> assumption
  obtain ⟨x6, x7, hF⟩ := f2_loop [l0, l1, l2, l3] hall (by simp) (.scr ns) p7 (.str w) (.int a) (encP more) none [l0, l1, l2, l3] (some (encP ((cutL l0 none (some a) ++ more) ++ cutL l0 (some (a + b)) none))) none hall
  refine ⟨[.scr ns], bodyF_rt (law_go sem_law_pot sem_law_letters sem_law_draw sem_law_piece law_c1e law_f2b (.scr ns) p0 p1 p2 p3 p4 p5 p6 p7 (enc q) (encP more) (encP (cutL l0 none (some a))) (encP (cutL l0 none (some a) ++ more)) (encP (cutL l0 (some (a + b)) none)) (encP ((cutL l0 none (some a) ++ more) ++ cutL l0 (some (a + b)) none)) (encP l3) (encP l0) (encP l1) (encP l2) w l0.length (m0 : Int) a t b x6 x7
    rfl (pot_own' hp0) (pot_own' hp1) (pot_own' hp2) (pot_own' hp3) (pot_own' hp4) (pot_own' hp5) (pot_own' hp6) (enc_cold q) (encP_cold _) (encP_cold _) (encP_cold _) (encP_cold _) (encP_cold _) (encP_cold _)
    h1 h2 h3 h4 (encP_len l0) h6 h7 h8 h9 (slD_encP _ _ _) (addD_encP _ _ (by omega)) h12 (slD_encP _ _ _) (addD_encP _ _ (by rw [List.length_append]; omega)) (by rw [slD_encP, hl3]) (appD_ok (by show 3 < sizeLine; rw [hsz]; decide)) (inR3 3 (by decide)) hF) (by simp)⟩
end Lw

set_option linter.all false
set_option maxRecDepth 100000
set_option maxHeartbeats 0
namespace Lw
open PySem PySem.Spec PyProof.Rows L2 Dl
def topS (i : Nat) : Stmt := PySem.Challenge.pw_lostpost_k19_products_within.main.body.getD i (.Pass ⟨0, 0, 0, 0⟩)
section
variable {P : Program} {w : World} {K : PySem.W.Frag} {mg : Str → Option Value} {base : Heap}
theorem sc_swallows : FnScope ["one", "other", "letter"] ["one", "other"] (defScope (topS 1)) := ⟨rfl, rfl, rfl, by decide +kernel, rfl, by decide +kernel, by decide +kernel⟩
theorem d_swallows {f : Addr} {fd : FuncData} (F : FunD K "swallows" "swallows" (defArgs (topS 1)) (defBody (topS 1)) (defScope (topS 1)) [] [] f fd) (m_all : mg "all" = none) : FnG P w K mg base 1 f fd ["one", "other"] (spD K 2 sem_swallows) := by
  refine def_go (N := ["one", "other", "letter"]) (as := []) (b := b_swallows) F sc_swallows fun cd A outer t U E hr hp W tk => ?_
  have hN := sc_swallows.nd
  exact (DSs.one (DS.ret (DE.and (DE.eq hr.u64 (DE.ix hr.u1 (DE.mark (pv 0)) DE.int) (DE.str (l := [97, 110, 121]) (by decide +kernel))) (DE.one (DE.bi (cr_all rfl) ca_all m_all (by decide +kernel) (DA.cons (DE.comp (own := [("letter", 2)]) rfl hN (DI.any (DE.ix hr.u1 (DE.mark (pv 1)) DE.int)) (blkOf (by kernel_rfl)) (by decide) (fun _ _ _ _ _ => (DG.name (i := 2) hN)) (fun _ _ _ _ _ => DTs.nil) (fun _ _ _ _ _ => (DE.isin hr.u65 (DE.mark (pv 2)) (DE.ix hr.u1 (DE.mark (pv 0)) DE.int)))) DA.nil))))))
theorem sc_may_take : FnScope ["one", "other"] ["one", "other"] (defScope (topS 2)) := ⟨rfl, rfl, rfl, by decide +kernel, rfl, by decide +kernel, by decide +kernel⟩
theorem d_may_take {f : Addr} {fd : FuncData} (F : FunD K "may_take" "may_take" (defArgs (topS 2)) (defBody (topS 2)) (defScope (topS 2)) [] [] f fd) (c_swallows : DefAt P w K mg base "swallows" 1 2 [] sem_swallows) : FnG P w K mg base 2 f fd ["one", "other"] (spD K 2 sem_may_take) := by
  refine def_go (N := ["one", "other"]) (as := []) (b := b_may_take) F sc_may_take fun cd A outer t U E hr hp W tk => ?_
  have hN := sc_may_take.nd
  exact (DSs.one (DS.ret (DE.or (DE.call c_swallows (hr.mono (by decide)) tk (DA.cons (DE.mark (pv 0)) (DA.cons (DE.mark (pv 1)) DA.nil)) rfl) (DE.one (DE.eq hr.u64 (DE.mark (pv 0)) (DE.mark (pv 1)))))))
theorem sc_product_within : FnScope ["one", "other", "place", "piece"] ["one", "other"] (defScope (topS 3)) := ⟨rfl, rfl, rfl, by decide +kernel, rfl, by decide +kernel, by decide +kernel⟩
theorem d_product_within {f : Addr} {fd : FuncData} (F : FunD K "product_within" "product_within" (defArgs (topS 3)) (defBody (topS 3)) (defScope (topS 3)) [] [] f fd) (m_int : mg "int" = none) (m_len : mg "len" = none) (c_may_take : DefAt P w K mg base "may_take" 2 2 [] sem_may_take) : FnG P w K mg base 3 f fd ["one", "other"] (spD K 2 sem_product_within) := by
  refine def_go (N := ["one", "other", "place", "piece"]) (as := [2, 3, 2, 2]) (b := b_product_within) F sc_product_within fun cd A outer t U E hr hp W tk => ?_
  have hN := sc_product_within.nd
  exact (DSs.cons (DS.set (i := 2) hN DE.int)
  (DSs.cons (DS.for hp rfl (DI.any (DE.name (pv 0))) (DG.name (i := 3) hN) (DSs.cons (DS.wh hp (DW.dt (DW.and (DT.lt  (DE.mark (pv 2)) (DE.bi call_len ca_len m_len PySem.boot_len (DA.cons (DE.mark (pv 1)) DA.nil))) (DW.and1 (DT.not (DT.val (DE.call c_may_take (hr.mono (by decide)) tk (DA.cons (DE.ix hr.u1 (DE.mark (pv 1)) (DE.mark (pv 2))) (DA.cons (DE.mark (pv 3)) DA.nil)) rfl)))))) (DSs.one (DS.set (i := 2) hN (DE.add (DE.mark (pv 2)) DE.int))))
  (DSs.cons (DS.ite (DT.eq hr.u64 (DE.mark (pv 2)) (DE.bi call_len ca_len m_len PySem.boot_len (DA.cons (DE.mark (pv 1)) DA.nil))) (DSs.one (DS.ret DE.bl)) DSs.nil)
  (DSs.one (DS.set (i := 2) hN (DE.add (DE.mark (pv 2)) (DE.ty call_int1 ca_int m_int (by decide +kernel) (DA.cons (DE.eq hr.u64 (DE.ix hr.u1 (DE.ix hr.u1 (DE.mark (pv 1)) (DE.mark (pv 2))) DE.int) (DE.str (l := [109, 97, 121, 98, 101]) (by decide +kernel))) DA.nil))))))))
  (DSs.one (DS.ret DE.bl))))
theorem sc_law_pot : FnScope ["_law_script", "_law_base", "_law_seed", "_law_left", "_law_cell"] ["_law_script", "_law_base"] (defScope (topS 5)) := ⟨rfl, rfl, rfl, by decide +kernel, rfl, by decide +kernel, by decide +kernel⟩
theorem d_law_pot {f : Addr} {fd : FuncData} (F : FunD K "_law_pot" "_law_pot" (defArgs (topS 5)) (defBody (topS 5)) (defScope (topS 5)) [] [] f fd) : FnG P w K mg base 1 f fd ["_law_script", "_law_base"] (spD K 2 sem_law_pot) := by
  refine def_go (N := ["_law_script", "_law_base", "_law_seed", "_law_left", "_law_cell"]) (as := [2, 3, 4, 2]) (b := b_law_pot) F sc_law_pot fun cd A outer t U E hr hp W tk => ?_
  have hN := sc_law_pot.nd
  exact (DSs.cons (DS.set (i := 2) hN (DE.add (DE.mul2 DE.int (DE.mark (pv 1))) DE.int))
  (DSs.cons (DS.set (i := 3) hN (DE.lst DA.nil))
  (DSs.cons (DS.for hp rfl (DI.any (DE.slice (DE.mark (pv 0)) (DO.some (DE.mark (pv 1))) (DO.some DE.int))) (DG.name (i := 4) hN) (DSs.cons (DS.set (i := 2) hN (DE.mod (DE.add (DE.add (DE.mul2 (DE.mark (pv 2)) DE.int) (DE.mod (DE.mark (pv 4)) DE.int)) DE.int) DE.int))
  (DSs.one (DS.ite (DT.ge  (DE.mark (pv 4)) (DE.pow DE.int DE.int)) (DSs.one (DS.expr (DE.mut PySem.F.plainAttrs_list PySem.F.slot_list_append PySem.F.type_list_append mt_append mu_append (DP.slot (pv 3)) (DA.cons (DE.mark (pv 4)) DA.nil)))) DSs.nil))))
  (DSs.one (DS.ret (DE.lst (DA.cons (DE.name (pv 2)) (DA.cons DE.int (DA.cons (DE.give (pv 3)) DA.nil)))))))))
theorem sc_law_draw : FnScope ["_law_pot_here", "_law_many", "_law_one", "_law_digit"] ["_law_pot_here", "_law_many"] (defScope (topS 6)) := ⟨rfl, rfl, rfl, by decide +kernel, rfl, by decide +kernel, by decide +kernel⟩
theorem d_law_draw {f : Addr} {fd : FuncData} (F : FunD K "_law_draw" "_law_draw" (defArgs (topS 6)) (defBody (topS 6)) (defScope (topS 6)) [] [] f fd) (m_len : mg "len" = none) : FnG P w K mg base 1 f fd ["_law_pot_here", "_law_many"] (spD K 2 sem_law_draw) := by
  refine def_go (N := ["_law_pot_here", "_law_many", "_law_one", "_law_digit"]) (as := [3, 2]) (b := b_law_draw) F sc_law_draw fun cd A outer t U E hr hp W tk => ?_
  have hN := sc_law_draw.nd
  exact (DSs.cons (DS.wh hp (DW.dt (DW.and (DT.eq hr.u64 (DE.ix hr.u1 (DE.mark (pv 0)) DE.int) DE.int) (DW.and1 (DT.gt  (DE.biP call_len ca_len m_len PySem.boot_len (DP.ix (W := W) hr.u1 (DP.slot (pv 0)) DE.int)) DE.int)))) (DSs.one (DS.asg (DE.frz (DE.mut PySem.F.plainAttrs_list PySem.F.slot_list_pop PySem.F.type_list_pop mt_popAt mu_popAt (DP.ix (W := W) hr.u1 (DP.slot (pv 0)) DE.int) (DA.cons DE.int DA.nil))) (DG.sub (W := W) hr.u1 (DP.slot (pv 0)) DE.int))))
  (DSs.cons (DS.ite (DT.gt  (DE.ix hr.u1 (DE.mark (pv 0)) DE.int) DE.int) (DSs.cons (DS.set (i := 3) hN (DE.mod (DE.ix hr.u1 (DE.mark (pv 0)) DE.int) (DE.mark (pv 1))))
  (DSs.cons (DS.asg (DE.fdiv (DE.ix hr.u1 (DE.mark (pv 0)) DE.int) (DE.mark (pv 1))) (DG.sub (W := W) hr.u1 (DP.slot (pv 0)) DE.int))
  (DSs.one (DS.ret (DE.name (pv 3)))))) DSs.nil)
  (DSs.cons (DS.set (i := 2) hN (DE.mod (DE.add (DE.mul2 (DE.ix hr.u1 (DE.mark (pv 0)) DE.int) DE.int) DE.int) DE.int))
  (DSs.cons (DS.asg (DE.add (DE.mod (DE.add (DE.mul2 (DE.mark (pv 2)) DE.int) DE.int) DE.int) DE.int) (DG.sub (W := W) hr.u1 (DP.slot (pv 0)) DE.int))
  (DSs.one (DS.ret (DE.mod (DE.fdiv (DE.add (DE.mul2 (DE.mod (DE.mul2 (DE.mark (pv 2)) (DE.mark (pv 2))) DE.int) DE.int) (DE.ix hr.u1 (DE.mark (pv 0)) DE.int)) DE.int) (DE.mark (pv 1)))))))))
theorem sc_law_letters : FnScope ["_law_pot_here", "_law_many", "_law_left", "_law_k"] ["_law_pot_here", "_law_many"] (defScope (topS 7)) := ⟨rfl, rfl, rfl, by decide +kernel, rfl, by decide +kernel, by decide +kernel⟩
theorem d_law_letters {f : Addr} {fd : FuncData} (F : FunD K "_law_letters" "_law_letters" (defArgs (topS 7)) (defBody (topS 7)) (defScope (topS 7)) [] [] f fd) (m_len : mg "len" = none) (m_list : mg "list" = none) (m_range : mg "range" = none) (m_sorted : mg "sorted" = none) (c_law_draw : DefAt P w K mg base "_law_draw" 1 2 [] sem_law_draw) : FnG P w K mg base 2 f fd ["_law_pot_here", "_law_many"] (spD K 2 sem_law_letters) := by
  refine def_go (N := ["_law_pot_here", "_law_many", "_law_left", "_law_k"]) (as := [2]) (b := b_law_letters) F sc_law_letters fun cd A outer t U E hr hp W tk => ?_
  have hN := sc_law_letters.nd
  exact (DSs.cons (DS.set (i := 2) hN (DE.ty (call_list_of.or (call_list_txt rfl)) (ca_list.or ca_listS) m_list (by decide +kernel) (DA.cons (DE.str (l := [97, 98, 99, 100, 101, 102, 103, 104, 105, 106, 107, 108, 109, 110, 111, 112, 113, 114, 115, 116, 117, 118, 119, 120, 121, 122]) (by decide +kernel)) DA.nil)))
  (DSs.one (DS.ret (DE.me PySem.F.plainAttrs_str PySem.F.slot_str_join PySem.F.type_str_join mt_join ca_join (DE.str (l := []) (by decide +kernel)) (DA.cons (DE.bi (cr_sortD hr.u200) ca_sorted m_sorted (by decide +kernel) (DA.cons (DE.comp (own := [("_law_k", 3)]) rfl hN (DI.range1 m_range (DA.cons (DE.name (pv 1)) DA.nil)) (blkOf (by kernel_rfl)) (by decide) (fun _ _ _ _ _ => (DG.name (i := 3) hN)) (fun _ _ _ _ _ => DTs.nil) (fun _ _ _ _ _ => (DE.frz (DE.mut PySem.F.plainAttrs_list PySem.F.slot_list_pop PySem.F.type_list_pop mt_popAt mu_popAt (DP.slot (pv 2)) (DA.cons (DE.frz (DE.call c_law_draw (hr.mono (by decide)) takesF (DA.cons (DE.mark (pv 0)) (DA.cons (DE.bi call_len ca_len m_len PySem.boot_len (DA.cons (DE.mark (pv 2)) DA.nil)) DA.nil)) rfl)) DA.nil))))) DA.nil)) DA.nil)))))
theorem sc_law_piece : FnScope ["_law_pot_here", "_law_letters_here", "_law_some", "_law_letter"] ["_law_pot_here", "_law_letters_here"] (defScope (topS 8)) := ⟨rfl, rfl, rfl, by decide +kernel, rfl, by decide +kernel, by decide +kernel⟩
theorem d_law_piece {f : Addr} {fd : FuncData} (F : FunD K "_law_piece" "_law_piece" (defArgs (topS 8)) (defBody (topS 8)) (defScope (topS 8)) [] [] f fd) (m_len : mg "len" = none) (c_law_draw : DefAt P w K mg base "_law_draw" 1 2 [] sem_law_draw) : FnG P w K mg base 2 f fd ["_law_pot_here", "_law_letters_here"] (spD K 2 sem_law_piece) := by
  refine def_go (N := ["_law_pot_here", "_law_letters_here", "_law_some", "_law_letter"]) (as := [2, 2]) (b := b_law_piece) F sc_law_piece fun cd A outer t U E hr hp W tk => ?_
  have hN := sc_law_piece.nd
  exact (DSs.cons (DS.ite (DT.eq hr.u64 (DE.call c_law_draw (hr.mono (by decide)) tk (DA.cons (DE.mark (pv 0)) (DA.cons DE.int DA.nil)) rfl) DE.int) (DSs.one (DS.ret (DE.tup (DA.cons (DE.str (l := [109, 97, 121, 98, 101]) (by decide +kernel)) (DA.cons (DE.ix hr.u1 (DE.mark (pv 1)) (DE.call c_law_draw (hr.mono (by decide)) tk (DA.cons (DE.mark (pv 0)) (DA.cons (DE.bi call_len ca_len m_len PySem.boot_len (DA.cons (DE.mark (pv 1)) DA.nil)) DA.nil)) rfl)) DA.nil))))) DSs.nil)
  (DSs.cons (DS.set (i := 2) hN (DE.me PySem.F.plainAttrs_str PySem.F.slot_str_join PySem.F.type_str_join mt_join ca_join (DE.str (l := []) (by decide +kernel)) (DA.cons (DE.comp (own := [("_law_letter", 3)]) rfl hN (DI.any (DE.name (pv 1))) (blkOf (by kernel_rfl)) (by decide) (fun _ _ _ _ _ => (DG.name (i := 3) hN)) (fun _ _ _ _ _ => (DTs.one (DT.eq hr.u64 (DE.call c_law_draw (hr.mono (by decide)) takesF (DA.cons (DE.mark (pv 0)) (DA.cons DE.int DA.nil)) rfl) DE.int))) (fun _ _ _ _ _ => (DE.name (pv 3)))) DA.nil)))
  (DSs.cons (DS.ite (DT.eq hr.u64 (DE.mark (pv 2)) (DE.str (l := []) (by decide +kernel))) (DSs.one (DS.set (i := 2) hN (DE.ix hr.u1 (DE.mark (pv 1)) (DE.call c_law_draw (hr.mono (by decide)) tk (DA.cons (DE.mark (pv 0)) (DA.cons (DE.bi call_len ca_len m_len PySem.boot_len (DA.cons (DE.mark (pv 1)) DA.nil)) DA.nil)) rfl)))) DSs.nil)
  (DSs.one (DS.ret (DE.tup (DA.cons (DE.str (l := [97, 110, 121]) (by decide +kernel)) (DA.cons (DE.name (pv 2)) DA.nil))))))))
theorem sc_law_product : FnScope ["_law_pot_here", "_law_letters_here", "_law_most", "_law_k"] ["_law_pot_here", "_law_letters_here", "_law_most"] (defScope (topS 9)) := ⟨rfl, rfl, rfl, by decide +kernel, rfl, by decide +kernel, by decide +kernel⟩
theorem d_law_product {f : Addr} {fd : FuncData} (F : FunD K "_law_product" "_law_product" (defArgs (topS 9)) (defBody (topS 9)) (defScope (topS 9)) [] [] f fd) (m_range : mg "range" = none) (m_tuple : mg "tuple" = none) (c_law_draw : DefAt P w K mg base "_law_draw" 1 2 [] sem_law_draw) (c_law_piece : DefAt P w K mg base "_law_piece" 2 2 [] sem_law_piece) : FnG P w K mg base 3 f fd ["_law_pot_here", "_law_letters_here", "_law_most"] (spD K 3 sem_law_product) := by
  refine def_go (N := ["_law_pot_here", "_law_letters_here", "_law_most", "_law_k"]) (as := []) (b := b_law_product) F sc_law_product fun cd A outer t U E hr hp W tk => ?_
  have hN := sc_law_product.nd
  exact (DSs.one (DS.ret (DE.ty call_tuple_of ca_tuple m_tuple (by decide +kernel) (DA.cons (DE.comp (own := [("_law_k", 3)]) rfl hN (DI.range1 m_range (DA.cons (DE.frz (DE.call c_law_draw (hr.mono (by decide)) tk (DA.cons (DE.mark (pv 0)) (DA.cons (DE.add (DE.mark (pv 2)) DE.int) DA.nil)) rfl)) DA.nil)) (blkOf (by kernel_rfl)) (by decide) (fun _ _ _ _ _ => (DG.name (i := 3) hN)) (fun _ _ _ _ _ => DTs.nil) (fun _ _ _ _ _ => (DE.frz (DE.call c_law_piece (hr.mono (by decide)) takesF (DA.cons (DE.mark (pv 0)) (DA.cons (DE.mark (pv 1)) DA.nil)) rfl)))) DA.nil))))
theorem sc_law_has : FnScope ["_law_product_here", "_law_word", "_law_spots_here", "_law_letter", "_law_later", "_law_k"] ["_law_product_here", "_law_word"] (defScope (topS 10)) := ⟨rfl, rfl, rfl, by decide +kernel, rfl, by decide +kernel, by decide +kernel⟩
theorem d_law_has {f : Addr} {fd : FuncData} (F : FunD K "_law_has" "_law_has" (defArgs (topS 10)) (defBody (topS 10)) (defScope (topS 10)) [] [] f fd) (m_int : mg "int" = none) (m_len : mg "len" = none) (m_list : mg "list" = none) (m_min : mg "min" = none) (m_range : mg "range" = none) : FnG P w K mg base 1 f fd ["_law_product_here", "_law_word"] (spD K 2 sem_law_has) := by
  refine def_go (N := ["_law_product_here", "_law_word", "_law_spots_here", "_law_letter", "_law_later", "_law_k"]) (as := [2, 3, 4, 5, 2]) (b := b_law_has) F sc_law_has fun cd A outer t U E hr hp W tk => ?_
  have hN := sc_law_has.nd
  exact (DSs.cons (DS.set (i := 2) hN (DE.frz (DE.listRg1 rfl m_list m_range (DE.add (DE.bi call_len ca_len m_len PySem.boot_len (DA.cons (DE.mark (pv 0)) DA.nil)) DE.int))))
  (DSs.cons (DS.for hp rfl (DI.any (DE.name (pv 1))) (DG.name (i := 3) hN) (DSs.cons (DS.set (i := 4) hN (DE.lst DA.nil))
  (DSs.cons (DS.for hp rfl (DI.any (DE.name (pv 2))) (DG.name (i := 5) hN) (DSs.one (DS.ite (DW.dt (DW.and (DT.lt  (DE.mark (pv 5)) (DE.bi call_len ca_len m_len PySem.boot_len (DA.cons (DE.mark (pv 0)) DA.nil))) (DW.and1 (DT.isin hr.u65 (DE.mark (pv 3)) (DE.ix hr.u1 (DE.ix hr.u1 (DE.mark (pv 0)) (DE.mark (pv 5))) DE.int))))) (DSs.one (DS.expr (DE.mut PySem.F.plainAttrs_list PySem.F.slot_list_append PySem.F.type_list_append mt_append mu_append (DP.slot (pv 4)) (DA.cons (DE.add (DE.mark (pv 5)) (DE.ty call_int1 ca_int m_int (by decide +kernel) (DA.cons (DE.eq hr.u64 (DE.ix hr.u1 (DE.ix hr.u1 (DE.mark (pv 0)) (DE.mark (pv 5))) DE.int) (DE.str (l := [109, 97, 121, 98, 101]) (by decide +kernel))) DA.nil))) DA.nil)))) DSs.nil)))
  (DSs.cons (DS.ite (DT.eq hr.u64 (DE.bi call_len ca_len m_len PySem.boot_len (DA.cons (DE.mark (pv 4)) DA.nil)) DE.int) (DSs.one (DS.ret DE.bl)) DSs.nil)
  (DSs.one (DS.set (i := 2) hN (DE.frz (DE.listRg2 rfl m_list m_range (DE.bi (cr_min rfl) ca_min m_min (by decide +kernel) (DA.cons (DE.mark (pv 4)) DA.nil)) (DE.add (DE.bi call_len ca_len m_len PySem.boot_len (DA.cons (DE.mark (pv 0)) DA.nil)) DE.int)))))))))
  (DSs.one (DS.ret DE.bl))))
theorem sc_law_full : FnScope ["_law_product_here", "_law_many", "_law_kind", "_law_letters_here"] ["_law_product_here", "_law_many"] (defScope (topS 11)) := ⟨rfl, rfl, rfl, by decide +kernel, rfl, by decide +kernel, by decide +kernel⟩
theorem d_law_full {f : Addr} {fd : FuncData} (F : FunD K "_law_full" "_law_full" (defArgs (topS 11)) (defBody (topS 11)) (defScope (topS 11)) [] [] f fd) (m_int : mg "int" = none) : FnG P w K mg base 1 f fd ["_law_product_here", "_law_many"] (spD K 2 sem_law_full) := by
  refine def_go (N := ["_law_product_here", "_law_many", "_law_kind", "_law_letters_here"]) (as := []) (b := b_law_full) F sc_law_full fun cd A outer t U E hr hp W tk => ?_
  have hN := sc_law_full.nd
  exact (DSs.one (DS.ret (DE.me PySem.F.plainAttrs_str PySem.F.slot_str_join PySem.F.type_str_join mt_join ca_join (DE.str (l := []) (by decide +kernel)) (DA.cons (DE.comp (own := [("_law_kind", 2), ("_law_letters_here", 3)]) rfl hN (DI.any (DE.name (pv 0))) (blkOf (by kernel_rfl)) (by decide) (fun _ _ _ _ _ => (DG.tup rfl (DGs.cons (DG.name (i := 2) hN) (DGs.cons (DG.name (i := 3) hN) DGs.nil)))) (fun _ _ _ _ _ => DTs.nil) (fun _ _ _ _ _ => (DE.frz (DE.mul2 (DE.mark (pv 3)) (DE.ix hr.u1 (DE.lst (DA.cons DE.int (DA.cons (DE.name (pv 1)) DA.nil))) (DE.ty call_int1 ca_int m_int (by decide +kernel) (DA.cons (DE.eq hr.u64 (DE.mark (pv 2)) (DE.str (l := [97, 110, 121]) (by decide +kernel))) DA.nil))))))) DA.nil))))
theorem sc_law_under : FnScope ["_law_one", "_law_other"] ["_law_one", "_law_other"] (defScope (topS 12)) := ⟨rfl, rfl, rfl, by decide +kernel, rfl, by decide +kernel, by decide +kernel⟩
theorem d_law_under {f : Addr} {fd : FuncData} (F : FunD K "_law_under" "_law_under" (defArgs (topS 12)) (defBody (topS 12)) (defScope (topS 12)) [] [] f fd) (m_len : mg "len" = none) (c_law_full : DefAt P w K mg base "_law_full" 1 2 [] sem_law_full) (c_law_has : DefAt P w K mg base "_law_has" 1 2 [] sem_law_has) : FnG P w K mg base 2 f fd ["_law_one", "_law_other"] (spD K 2 sem_law_under) := by
  refine def_go (N := ["_law_one", "_law_other"]) (as := []) (b := b_law_under) F sc_law_under fun cd A outer t U E hr hp W tk => ?_
  have hN := sc_law_under.nd
  exact (DSs.one (DS.ret (DE.call c_law_has (hr.mono (by decide)) tk (DA.cons (DE.mark (pv 1)) (DA.cons (DE.frz (DE.call c_law_full (hr.mono (by decide)) tk (DA.cons (DE.mark (pv 0)) (DA.cons (DE.add (DE.bi call_len ca_len m_len PySem.boot_len (DA.cons (DE.mark (pv 1)) DA.nil)) DE.int) DA.nil)) rfl)) DA.nil)) rfl)))
theorem sc_law : FnScope ["_law_script", "_law_pot_here", "_law_letters_here", "_law_products", "_law_at", "_law_more", "_law_one", "_law_other", "_law_k"] ["_law_script"] (defScope (topS 13)) := ⟨rfl, rfl, rfl, by decide +kernel, rfl, by decide +kernel, by decide +kernel⟩
theorem d_law {f : Addr} {fd : FuncData} (F : FunD K "law" "law" (defArgs (topS 13)) (defBody (topS 13)) (defScope (topS 13)) [] [] f fd) (m_len : mg "len" = none) (m_range : mg "range" = none) (m_repr : mg "repr" = none) (c_law_draw : DefAt P w K mg base "_law_draw" 1 2 [] sem_law_draw) (c_law_letters : DefAt P w K mg base "_law_letters" 2 2 [] sem_law_letters) (c_law_piece : DefAt P w K mg base "_law_piece" 2 2 [] sem_law_piece) (c_law_pot : DefAt P w K mg base "_law_pot" 1 2 [] sem_law_pot) (c_law_product : DefAt P w K mg base "_law_product" 3 3 [] sem_law_product) (c_law_under : DefAt P w K mg base "_law_under" 2 2 [] sem_law_under) (c_product_within : DefAt P w K mg base "product_within" 3 2 [] sem_product_within) : FnG P w K mg base 4 f fd ["_law_script"] (spD K 1 sem_law) := by
  refine def_go (N := ["_law_script", "_law_pot_here", "_law_letters_here", "_law_products", "_law_at", "_law_more", "_law_one", "_law_other", "_law_k"]) (as := [1, 2, 3, 4, 5, 6, 6, 6, 7]) (b := b_law) F sc_law fun cd A outer t U E hr hp W tk => ?_
  have hN := sc_law.nd
  exact (DSs.cons (DS.set (i := 1) hN (DE.call c_law_pot (hr.mono (by decide)) tk (DA.cons (DE.mark (pv 0)) (DA.cons DE.int DA.nil)) rfl))
  (DSs.cons (DS.set (i := 2) hN (DE.frz (DE.call c_law_letters (hr.mono (by decide)) tk (DA.cons (DE.mark (pv 1)) (DA.cons (DE.frz (DE.add DE.int (DE.call c_law_draw (hr.mono (by decide)) tk (DA.cons (DE.mark (pv 1)) (DA.cons DE.int DA.nil)) rfl))) DA.nil)) rfl)))
  (DSs.cons (DS.setComp (own := [("_law_k", 8)]) (i := 3) rfl hN (sw_true rfl rfl rfl rfl) (DI.range1 m_range (DA.cons DE.int DA.nil)) (blkOf (by kernel_rfl)) (by decide) (fun _ _ _ _ _ => (DG.name (i := 8) hN)) (fun _ _ _ _ _ => DTs.nil) (fun _ _ _ _ _ => (DE.frz (DE.call c_law_product (hr.mono (by decide)) takesF (DA.cons (DE.mark (pv 1)) (DA.cons (DE.mark (pv 2)) (DA.cons DE.int DA.nil))) rfl))))
  (DSs.cons (DS.set (i := 4) hN (DE.frz (DE.call c_law_draw (hr.mono (by decide)) tk (DA.cons (DE.mark (pv 1)) (DA.cons (DE.add (DE.biP call_len ca_len m_len PySem.boot_len (DP.ix (W := W) hr.u1 (DP.slot (pv 3)) DE.int)) DE.int) DA.nil)) rfl)))
  (DSs.cons (DS.set (i := 5) hN (DE.frz (DE.mul2 (DE.tup (DA.cons (DE.frz (DE.call c_law_piece (hr.mono (by decide)) tk (DA.cons (DE.mark (pv 1)) (DA.cons (DE.mark (pv 2)) DA.nil)) rfl)) DA.nil)) (DE.call c_law_draw (hr.mono (by decide)) tk (DA.cons (DE.mark (pv 1)) (DA.cons DE.int DA.nil)) rfl))))
  (DSs.cons (DS.set (i := 6) hN (DE.ix hr.u1 (DE.mark (pv 3)) DE.int))
  (DSs.cons (DS.set (i := 6) hN (DE.frz (DE.add (DE.add (DE.slice (DE.mark (pv 6)) DO.none (DO.some (DE.mark (pv 4)))) (DE.mark (pv 5))) (DE.slice (DE.mark (pv 6)) (DO.some (DE.add (DE.mark (pv 4)) (DE.call c_law_draw (hr.mono (by decide)) tk (DA.cons (DE.mark (pv 1)) (DA.cons DE.int DA.nil)) rfl))) DO.none))))
  (DSs.cons (DS.expr (DE.mut PySem.F.plainAttrs_list PySem.F.slot_list_append PySem.F.type_list_append mt_append mu_append (DP.slot (pv 3)) (DA.cons (DE.frz (DE.slice (DE.mark (pv 6)) DO.none (DO.some DE.int))) DA.nil)))
  (DSs.cons (DS.for hp rfl (DI.any (DE.free (pv 3))) (DG.name (i := 6) hN) (DSs.one (DS.for hp rfl (DI.any (DE.add (DE.mark (pv 3)) (DE.lst (DA.cons (DE.tup DA.nil) DA.nil)))) (DG.name (i := 7) hN) (DSs.cons (DS.ite (DT.ne hr.u64 (DE.bi (cr_repr hr.u200 hr.g) ca_repr m_repr (by decide +kernel) (DA.cons (DE.call c_product_within (hr.mono (by decide)) tk (DA.cons (DE.mark (pv 6)) (DA.cons (DE.mark (pv 7)) DA.nil)) rfl) DA.nil)) (DE.bi (cr_repr hr.u200 hr.g) ca_repr m_repr (by decide +kernel) (DA.cons (DE.call c_law_under (hr.mono (by decide)) tk (DA.cons (DE.mark (pv 6)) (DA.cons (DE.mark (pv 7)) DA.nil)) rfl) DA.nil))) (DSs.one (DS.ret DE.bl)) DSs.nil)
  (DSs.one (DS.ite (DT.ne hr.u64 (DE.bi (cr_repr hr.u200 hr.g) ca_repr m_repr (by decide +kernel) (DA.cons (DE.call c_product_within (hr.mono (by decide)) tk (DA.cons (DE.mark (pv 7)) (DA.cons (DE.mark (pv 6)) DA.nil)) rfl) DA.nil)) (DE.bi (cr_repr hr.u200 hr.g) ca_repr m_repr (by decide +kernel) (DA.cons (DE.call c_law_under (hr.mono (by decide)) tk (DA.cons (DE.mark (pv 7)) (DA.cons (DE.mark (pv 6)) DA.nil)) rfl) DA.nil))) (DSs.one (DS.ret DE.bl)) DSs.nil))))))
  (DSs.one (DS.ret DE.bl)))))))))))
end
end Lw

set_option linter.all false
set_option maxRecDepth 100000
set_option maxHeartbeats 0
namespace Lw
open PySem PySem.Spec PyProof.Rows L2 Dl
def dd_swallows : He.DefD := ⟨("swallows", none), "swallows", "swallows", defArgs (topS 1), defBody (topS 1), defScope (topS 1), [], []⟩
def dd_may_take : He.DefD := ⟨("may_take", none), "may_take", "may_take", defArgs (topS 2), defBody (topS 2), defScope (topS 2), [], []⟩
def dd_product_within : He.DefD := ⟨("product_within", none), "product_within", "product_within", defArgs (topS 3), defBody (topS 3), defScope (topS 3), [], []⟩
def dd_law_pot : He.DefD := ⟨("_law_pot", none), "_law_pot", "_law_pot", defArgs (topS 5), defBody (topS 5), defScope (topS 5), [], []⟩
def dd_law_draw : He.DefD := ⟨("_law_draw", none), "_law_draw", "_law_draw", defArgs (topS 6), defBody (topS 6), defScope (topS 6), [], []⟩
def dd_law_letters : He.DefD := ⟨("_law_letters", none), "_law_letters", "_law_letters", defArgs (topS 7), defBody (topS 7), defScope (topS 7), [], []⟩
def dd_law_piece : He.DefD := ⟨("_law_piece", none), "_law_piece", "_law_piece", defArgs (topS 8), defBody (topS 8), defScope (topS 8), [], []⟩
def dd_law_product : He.DefD := ⟨("_law_product", none), "_law_product", "_law_product", defArgs (topS 9), defBody (topS 9), defScope (topS 9), [], []⟩
def dd_law_has : He.DefD := ⟨("_law_has", none), "_law_has", "_law_has", defArgs (topS 10), defBody (topS 10), defScope (topS 10), [], []⟩
def dd_law_full : He.DefD := ⟨("_law_full", none), "_law_full", "_law_full", defArgs (topS 11), defBody (topS 11), defScope (topS 11), [], []⟩
def dd_law_under : He.DefD := ⟨("_law_under", none), "_law_under", "_law_under", defArgs (topS 12), defBody (topS 12), defScope (topS 12), [], []⟩
def dd_law : He.DefD := ⟨("law", none), "law", "law", defArgs (topS 13), defBody (topS 13), defScope (topS 13), [], []⟩
def hfn : List He.DefD := [dd_swallows, dd_may_take, dd_product_within, dd_law_pot, dd_law_draw, dd_law_letters, dd_law_piece, dd_law_product, dd_law_has, dd_law_full, dd_law_under, dd_law]
def hfa : List He.Fa := [.glo "swallows", .glo "may_take", .glo "product_within", .glo "_law_pot", .glo "_law_draw", .glo "_law_letters", .glo "_law_piece", .glo "_law_product", .glo "_law_has", .glo "_law_full", .glo "_law_under", .glo "law", .free "all", .free "int", .free "len", .free "list", .free "min", .free "range", .free "repr", .free "sorted", .free "tuple"]
abbrev hrow : PySem.W.OpenRow := PySem.W.OpenLaw.row PySem.Challenge.rw_lostpost_k19_products_within
abbrev hhk : PySem.W.Hook := He.hookD 4 hfa hfn
def hob (s : PySem.W.SharedT) : He.AlD := He.obsDG 4 hfa hfn (HandSHeadRun.getT s)
theorem hob_eq (s : PySem.W.SharedT) : hob s = hhk.obs s.abs := He.obsDG_eq (HandSHeadRun.getT_eq s)
theorem hrun (w : World) : HandSHeadRun.RunEq hrow (PySem.W.view hrow.prog [13]) hhk hob 4000 ["swallows", "may_take", "product_within", "_law_pot", "_law_draw", "_law_letters", "_law_piece", "_law_product", "_law_has", "_law_full", "_law_under"] w := by
  intro os
  kernel_rfl
theorem hfacts {P : Program} {w : World} {K : PySem.W.Frag} {h : Heap} {mg : Str → Option Value} {f : Addr} (KX : K.In h) (G : h.Ns mainGlobals mg) (hfa0 : mg ("law" : Str) = some (.ref f)) (c : He.SaysD hfa hfn K) :
    ∃ fd : FuncData, (∀ (s : Shared) (v : Value), BindsTo s fd ⟨[v], []⟩ [("_law_script", v)]) ∧ ∀ base : Heap, K.In base → base.Ns mainGlobals mg → FnG P w K mg base 4 f fd ["_law_script"] (spD K 1 sem_law) := by
  obtain ⟨fd0, F0⟩ := c.def_ 0 (d := dd_swallows) rfl
  have c_swallows : ∀ base : Heap, DefAt P w K mg base "swallows" 1 2 [] sem_swallows := fun base => DefAt.go F0 (ps := ["one", "other"]) (d_swallows F0 (He.free_ok KX G (c.fact 12 (f := .free "all") rfl))) (He.glo_ok KX G (c.fact 0 (f := .glo "swallows") rfl)) fun _ _ _ _ _ _ us hl => match us, hl with | [_, _], _ => rfl
  obtain ⟨fd1, F1⟩ := c.def_ 1 (d := dd_may_take) rfl
  have c_may_take : ∀ base : Heap, DefAt P w K mg base "may_take" 2 2 [] sem_may_take := fun base => DefAt.go F1 (ps := ["one", "other"]) (d_may_take F1 (c_swallows base)) (He.glo_ok KX G (c.fact 1 (f := .glo "may_take") rfl)) fun _ _ _ _ _ _ us hl => match us, hl with | [_, _], _ => rfl
  obtain ⟨fd2, F2⟩ := c.def_ 2 (d := dd_product_within) rfl
  have c_product_within : ∀ base : Heap, DefAt P w K mg base "product_within" 3 2 [] sem_product_within := fun base => DefAt.go F2 (ps := ["one", "other"]) (d_product_within F2 (He.free_ok KX G (c.fact 13 (f := .free "int") rfl)) (He.free_ok KX G (c.fact 14 (f := .free "len") rfl)) (c_may_take base)) (He.glo_ok KX G (c.fact 2 (f := .glo "product_within") rfl)) fun _ _ _ _ _ _ us hl => match us, hl with | [_, _], _ => rfl
  obtain ⟨fd3, F3⟩ := c.def_ 3 (d := dd_law_pot) rfl
  have c_law_pot : ∀ base : Heap, DefAt P w K mg base "_law_pot" 1 2 [] sem_law_pot := fun base => DefAt.go F3 (ps := ["_law_script", "_law_base"]) (d_law_pot F3) (He.glo_ok KX G (c.fact 3 (f := .glo "_law_pot") rfl)) fun _ _ _ _ _ _ us hl => match us, hl with | [_, _], _ => rfl
  obtain ⟨fd4, F4⟩ := c.def_ 4 (d := dd_law_draw) rfl
  have c_law_draw : ∀ base : Heap, DefAt P w K mg base "_law_draw" 1 2 [] sem_law_draw := fun base => DefAt.go F4 (ps := ["_law_pot_here", "_law_many"]) (d_law_draw F4 (He.free_ok KX G (c.fact 14 (f := .free "len") rfl))) (He.glo_ok KX G (c.fact 4 (f := .glo "_law_draw") rfl)) fun _ _ _ _ _ _ us hl => match us, hl with | [_, _], _ => rfl
  obtain ⟨fd5, F5⟩ := c.def_ 5 (d := dd_law_letters) rfl
  have c_law_letters : ∀ base : Heap, DefAt P w K mg base "_law_letters" 2 2 [] sem_law_letters := fun base => DefAt.go F5 (ps := ["_law_pot_here", "_law_many"]) (d_law_letters F5 (He.free_ok KX G (c.fact 14 (f := .free "len") rfl)) (He.free_ok KX G (c.fact 15 (f := .free "list") rfl)) (He.free_ok KX G (c.fact 17 (f := .free "range") rfl)) (He.free_ok KX G (c.fact 19 (f := .free "sorted") rfl)) (c_law_draw base)) (He.glo_ok KX G (c.fact 5 (f := .glo "_law_letters") rfl)) fun _ _ _ _ _ _ us hl => match us, hl with | [_, _], _ => rfl
  obtain ⟨fd6, F6⟩ := c.def_ 6 (d := dd_law_piece) rfl
  have c_law_piece : ∀ base : Heap, DefAt P w K mg base "_law_piece" 2 2 [] sem_law_piece := fun base => DefAt.go F6 (ps := ["_law_pot_here", "_law_letters_here"]) (d_law_piece F6 (He.free_ok KX G (c.fact 14 (f := .free "len") rfl)) (c_law_draw base)) (He.glo_ok KX G (c.fact 6 (f := .glo "_law_piece") rfl)) fun _ _ _ _ _ _ us hl => match us, hl with | [_, _], _ => rfl
  obtain ⟨fd7, F7⟩ := c.def_ 7 (d := dd_law_product) rfl
  have c_law_product : ∀ base : Heap, DefAt P w K mg base "_law_product" 3 3 [] sem_law_product := fun base => DefAt.go F7 (ps := ["_law_pot_here", "_law_letters_here", "_law_most"]) (d_law_product F7 (He.free_ok KX G (c.fact 17 (f := .free "range") rfl)) (He.free_ok KX G (c.fact 20 (f := .free "tuple") rfl)) (c_law_draw base) (c_law_piece base)) (He.glo_ok KX G (c.fact 7 (f := .glo "_law_product") rfl)) fun _ _ _ _ _ _ us hl => match us, hl with | [_, _, _], _ => rfl
  obtain ⟨fd8, F8⟩ := c.def_ 8 (d := dd_law_has) rfl
  have c_law_has : ∀ base : Heap, DefAt P w K mg base "_law_has" 1 2 [] sem_law_has := fun base => DefAt.go F8 (ps := ["_law_product_here", "_law_word"]) (d_law_has F8 (He.free_ok KX G (c.fact 13 (f := .free "int") rfl)) (He.free_ok KX G (c.fact 14 (f := .free "len") rfl)) (He.free_ok KX G (c.fact 15 (f := .free "list") rfl)) (He.free_ok KX G (c.fact 16 (f := .free "min") rfl)) (He.free_ok KX G (c.fact 17 (f := .free "range") rfl))) (He.glo_ok KX G (c.fact 8 (f := .glo "_law_has") rfl)) fun _ _ _ _ _ _ us hl => match us, hl with | [_, _], _ => rfl
  obtain ⟨fd9, F9⟩ := c.def_ 9 (d := dd_law_full) rfl
  have c_law_full : ∀ base : Heap, DefAt P w K mg base "_law_full" 1 2 [] sem_law_full := fun base => DefAt.go F9 (ps := ["_law_product_here", "_law_many"]) (d_law_full F9 (He.free_ok KX G (c.fact 13 (f := .free "int") rfl))) (He.glo_ok KX G (c.fact 9 (f := .glo "_law_full") rfl)) fun _ _ _ _ _ _ us hl => match us, hl with | [_, _], _ => rfl
  obtain ⟨fd10, F10⟩ := c.def_ 10 (d := dd_law_under) rfl
  have c_law_under : ∀ base : Heap, DefAt P w K mg base "_law_under" 2 2 [] sem_law_under := fun base => DefAt.go F10 (ps := ["_law_one", "_law_other"]) (d_law_under F10 (He.free_ok KX G (c.fact 14 (f := .free "len") rfl)) (c_law_full base) (c_law_has base)) (He.glo_ok KX G (c.fact 10 (f := .glo "_law_under") rfl)) fun _ _ _ _ _ _ us hl => match us, hl with | [_, _], _ => rfl
  obtain ⟨fd11, F11⟩ := c.def_ 11 (d := dd_law) rfl
  have e := hfa0.symm.trans (He.glo_ok KX G (c.fact 11 (f := .glo "law") rfl))
  cases e
  have b := FunD.bindsA (ps := ["_law_script"]) F11 fun _ _ _ _ _ _ us hl => match us, hl with | [_], _ => rfl
  exact ⟨fd11, fun s v => b s [v] rfl, fun base _ _ => d_law F11 (He.free_ok KX G (c.fact 14 (f := .free "len") rfl)) (He.free_ok KX G (c.fact 17 (f := .free "range") rfl)) (He.free_ok KX G (c.fact 18 (f := .free "repr") rfl)) (c_law_draw base) (c_law_letters base) (c_law_piece base) (c_law_pot base) (c_law_product base) (c_law_under base) (c_product_within base)⟩
end Lw

set_option linter.all false
set_option maxRecDepth 100000
set_option maxHeartbeats 0
open PySem PySem.W PySem.Calls PyProof.Rows
theorem PySem.Challenge.cw_lostpost_k19_products_within_holds : PySem.Challenge.rw_lostpost_k19_products_within.Holds := by
  w_on; o_law
  refine HandSHeadRun.head_any (r := OpenLaw.row PySem.Challenge.rw_lostpost_k19_products_within) (q := view (OpenLaw.row PySem.Challenge.rw_lostpost_k19_products_within).prog [13]) (H := Lw.hhk) (ob := Lw.hob) (M := 4000) (loose := ["swallows", "may_take", "product_within", "_law_pot", "_law_draw", "_law_letters", "_law_piece", "_law_product", "_law_has", "_law_full", "_law_under"]) (d := HandSHeadRun.topDef (OpenLaw.row PySem.Challenge.rw_lostpost_k19_products_within).prog 13) (kwd := []) Lw.hob_eq
    (by kernel_rfl) (fun s => by kernel_rfl) Lw.hrun (by kernel_rfl) (by kernel_rfl) (by kernel_rfl) (by rfl) (by first | assumption | decide +kernel) (by decide +kernel) ⟨rfl, rfl, rfl, rfl, rfl, by decide +kernel⟩ ?hw ?hc
  case hw => w_witness2
  case hc =>
    refine Dl.walk_G (l := PySem.Challenge.rw_lostpost_k19_products_within) (n := 63) (k := 4) (x := "_law_script") rfl (by decide) (by kernel_rfl) ⟨rfl, by decide, by decide⟩ ?F
    intro w mg fa h Y G hmg0
    obtain ⟨K, KX, c⟩ := Y
    have hmg : mg ("law" : PySem.Str) = some (.ref fa) := by
      have e : (HandSHeadRun.topDef (OpenLaw.row PySem.Challenge.rw_lostpost_k19_products_within).prog 13).name = ("law" : PySem.Str) := by kernel_rfl
      rw [← e]
      exact hmg0
    obtain ⟨fd, hb, hF⟩ := Lw.hfacts (P := (PySem.Challenge.rw_lostpost_k19_products_within).prog) (w := w) KX G hmg c
    exact ⟨K, fd, Lw.sem_law, KX, hb, Lw.plain_law, hF⟩

