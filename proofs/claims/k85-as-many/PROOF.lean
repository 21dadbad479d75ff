import PyProof.Rows.All
import Wide.All
import OpenK.AllK
import Wide.FinOn
import HandS.CallSlots
import HandS.ClsMeth
import HandS.Conv
import HandS.Deep
import HandS.Defaults
import HandS.DictTup
import HandS.Exc
import HandS.ExcInit
import HandS.ForMost
import HandS.Head0
import HandS.Head1
import HandS.Head2
import HandS.HeadEnd
import HandS.HeadHook1
import HandS.HeadHook2
import HandS.HeadHook3
import HandS.HeadHook4
import HandS.HeadNt
import HandS.IsInst
import HandS.Rev
import HandS.RevTup
import HandS.SortInts
import HandS.SortRule
import HandS.Walk
import HandS.WordsExc
import HandS.Zip
import KE.BitLaws
import KE.KExcInit
import KE.KExcIs
import KE.KIsAll
import KE.KStateDown
import Lean
import PyProof.DictMoreH
import PySem.Challenge.RW_crossracks_k85_whole_as_many
-- KBase
set_option linter.all false
set_option Elab.async false
/-! tables as lists of pairs -/
namespace XR
section
variable {κ α β : Type} [DecidableEq κ]
/-- what stands at a key -/
def aget : List (κ × α) → κ → Option α
  | [], _ => none
  | p :: r, k => if p.1 = k then some p.2 else aget r k
/-- put in its place, or at the end -/
def aput : List (κ × α) → κ → α → List (κ × α)
  | [], k, x => [(k, x)]
  | p :: r, k, x => if p.1 = k then (p.1, x) :: r else p :: aput r k x
/-- taken out -/
def adrop (l : List (κ × α)) (k : κ) : List (κ × α) := l.filter fun p => decide (p.1 ≠ k)
theorem aget_nil (k : κ) : aget ([] : List (κ × α)) k = none := rfl
theorem aget_pos {p : κ × α} {r : List (κ × α)} {k : κ} (e : p.1 = k) : aget (p :: r) k = some p.2 := by
  rw [aget, if_pos e]
theorem aget_neg {p : κ × α} {r : List (κ × α)} {k : κ} (e : ¬ p.1 = k) : aget (p :: r) k = aget r k := by
  rw [aget, if_neg e]
theorem aput_pos {p : κ × α} {r : List (κ × α)} {k : κ} {x : α} (e : p.1 = k) : aput (p :: r) k x = (p.1, x) :: r := by
  rw [aput, if_pos e]
theorem aput_neg {p : κ × α} {r : List (κ × α)} {k : κ} {x : α} (e : ¬ p.1 = k) : aput (p :: r) k x = p :: aput r k x := by
  rw [aput, if_neg e]
theorem aget_aput (k j : κ) (x : α) : ∀ l : List (κ × α), aget (aput l k x) j = if k = j then some x else aget l j
  | [] => by
    by_cases e : k = j
    · rw [if_pos e]; exact aget_pos (p := (k, x)) e
    · rw [if_neg e]; exact aget_neg (p := (k, x)) e
  | p :: r => by
    have ih := aget_aput k j x r
    by_cases h : p.1 = k
    · rw [aput_pos h]
      by_cases e : k = j
      · rw [if_pos e]; exact aget_pos (p := (p.1, x)) (h.trans e)
      · have h2 : ¬ p.1 = j := fun z => e (h.symm.trans z)
        rw [if_neg e, aget_neg (p := (p.1, x)) h2, aget_neg h2]
    · rw [aput_neg h]
      by_cases e : p.1 = j
      · have h2 : ¬ k = j := fun z => h (e.trans z.symm)
        rw [aget_pos e, if_neg h2, aget_pos e]
      · rw [aget_neg e, ih, aget_neg e]
theorem aget_adrop (k j : κ) : ∀ l : List (κ × α), aget (adrop l k) j = if k = j then none else aget l j
  | [] => by
    show none = _
    split <;> rfl
  | p :: r => by
    have ih := aget_adrop k j r
    by_cases h : p.1 = k
    · have e1 : adrop (p :: r) k = adrop r k := by
        unfold adrop
        rw [List.filter_cons, if_neg (by simp [h])]
      rw [e1, ih]
      by_cases e : k = j
      · rw [if_pos e, if_pos e]
      · rw [if_neg e, if_neg e, aget_neg (fun z => e (h.symm.trans z))]
    · have e1 : adrop (p :: r) k = p :: adrop r k := by
        unfold adrop
        rw [List.filter_cons, if_pos (by simp [h])]
      rw [e1]
      by_cases e : p.1 = j
      · rw [aget_pos e, if_neg (fun z => h (e.trans z.symm)), aget_pos e]
      · rw [aget_neg e, ih, aget_neg e]
theorem aget_mem {k : κ} {x : α} : ∀ {l : List (κ × α)}, aget l k = some x → (k, x) ∈ l
  | [], h => by cases h
  | p :: r, h => by
    by_cases e : p.1 = k
    · rw [aget_pos e] at h
      cases h
      rw [← e]
      exact List.mem_cons_self
    · rw [aget_neg e] at h
      exact List.mem_cons_of_mem _ (aget_mem h)
theorem aget_none {k : κ} : ∀ {l : List (κ × α)}, aget l k = none ↔ k ∉ l.map (·.1)
  | [] => by simp [aget]
  | p :: r => by
    by_cases e : p.1 = k
    · rw [aget_pos e]
      simp [e]
    · rw [aget_neg e, aget_none (l := r)]
      simp [Ne.symm e]
theorem aget_isSome {k : κ} {l : List (κ × α)} : (aget l k).isSome = true ↔ k ∈ l.map (·.1) := by
  have h := aget_none (k := k) (l := l)
  cases e : aget l k with
  | none =>
    have h1 := h.mp e
    simp only [Option.isSome_none, Bool.false_eq_true, false_iff]
    exact h1
  | some x =>
    simp only [Option.isSome_some, true_iff]
    exact Classical.byContradiction fun z => by
      rw [h.mpr z] at e
      cases e
theorem aget_of_mem {k : κ} {x : α} : ∀ {l : List (κ × α)}, (l.map (·.1)).Nodup → (k, x) ∈ l → aget l k = some x
  | [], _, h => by cases h
  | p :: r, nd, h => by
    rw [List.map_cons, List.nodup_cons] at nd
    rcases List.mem_cons.mp h with e | h2
    · rw [← e]
      exact aget_pos rfl
    · have hne : ¬ p.1 = k := fun e => nd.1 (by rw [e]; exact List.mem_map_of_mem (f := (·.1)) h2)
      rw [aget_neg hne]
      exact aget_of_mem nd.2 h2
theorem aput_keys_old {k : κ} {x : α} : ∀ {l : List (κ × α)}, k ∈ l.map (·.1) → (aput l k x).map (·.1) = l.map (·.1)
  | [], h => by cases h
  | p :: r, h => by
    by_cases e : p.1 = k
    · rw [aput_pos e] <;> rfl
    · rw [aput_neg e, List.map_cons, List.map_cons]
      have h2 : k ∈ r.map (·.1) := by
        rcases List.mem_cons.mp h with z | z
        · exact absurd z.symm e
        · exact z
      rw [aput_keys_old h2]
theorem aput_new {k : κ} {x : α} : ∀ {l : List (κ × α)}, k ∉ l.map (·.1) → aput l k x = l ++ [(k, x)]
  | [], _ => rfl
  | p :: r, h => by
    rw [List.map_cons, List.mem_cons, not_or] at h
    rw [aput_neg (Ne.symm h.1), aput_new h.2] <;> rfl
theorem aput_nodup {k : κ} {x : α} {l : List (κ × α)} (h : (l.map (·.1)).Nodup) : ((aput l k x).map (·.1)).Nodup := by
  by_cases e : k ∈ l.map (·.1)
  · rw [aput_keys_old e]
    exact h
  · rw [aput_new e, List.map_append, List.nodup_append]
    exact ⟨h, by simp, fun a ha b hb => by
      simp only [List.map_cons, List.map_nil, List.mem_singleton] at hb
      rw [hb]
      exact fun z => e (z ▸ ha)⟩
theorem mem_aput {k j : κ} {x : α} {l : List (κ × α)} : j ∈ (aput l k x).map (·.1) ↔ j = k ∨ j ∈ l.map (·.1) := by
  rw [← aget_isSome, aget_aput, ← aget_isSome]
  by_cases e : k = j
  · rw [if_pos e]
    simp [e]
  · rw [if_neg e]
    simp [Ne.symm e]
theorem aput_len (k : κ) (x : α) : ∀ l : List (κ × α), (aput l k x).length ≤ l.length + 1
  | [] => by simp [aput]
  | p :: r => by
    by_cases e : p.1 = k
    · rw [aput_pos e]
      simp
    · rw [aput_neg e]
      have := aput_len k x r
      simp only [List.length_cons]
      omega
variable {ι : Type} [DecidableEq ι]
/-- keys and values carried over -/
theorem aget_map {f : κ → ι} (hf : ∀ a b, f a = f b → a = b) (g : α → β) (k : κ) : ∀ l : List (κ × α), aget (l.map fun p => (f p.1, g p.2)) (f k) = (aget l k).map g
  | [] => rfl
  | p :: r => by
    rw [List.map_cons]
    by_cases e : p.1 = k
    · rw [aget_pos e]
      exact aget_pos (p := (f p.1, g p.2)) (by rw [e])
    · have e2 : ¬ f p.1 = f k := fun z => e (hf _ _ z)
      rw [aget_neg e, aget_neg (p := (f p.1, g p.2)) e2, aget_map hf g k r]
theorem aput_map {f : κ → ι} (hf : ∀ a b, f a = f b → a = b) (g : α → β) (k : κ) (x : α) : ∀ l : List (κ × α), aput (l.map fun p => (f p.1, g p.2)) (f k) (g x) = (aput l k x).map fun p => (f p.1, g p.2)
  | [] => rfl
  | p :: r => by
    rw [List.map_cons]
    by_cases e : p.1 = k
    · rw [aput_pos e, aput_pos (p := (f p.1, g p.2)) (by rw [e])] <;> rfl
    · have e2 : ¬ f p.1 = f k := fun z => e (hf _ _ z)
      rw [aput_neg e, aput_neg (p := (f p.1, g p.2)) e2, aput_map hf g k x r] <;> rfl
theorem adrop_map {f : κ → ι} (hf : ∀ a b, f a = f b → a = b) (g : α → β) (k : κ) (l : List (κ × α)) : adrop (l.map fun p => (f p.1, g p.2)) (f k) = (adrop l k).map fun p => (f p.1, g p.2) := by
  unfold adrop
  rw [List.filter_map]
  congr 1
  refine List.filter_congr fun p _ => ?_
  show decide (f p.1 ≠ f k) = decide (p.1 ≠ k)
  by_cases e : p.1 = k
  · rw [e] <;> simp
  · have e2 : ¬ f p.1 = f k := fun z => e (hf _ _ z)
    simp [e, e2]
end
end XR
-- KAbs1
set_option Elab.async false
set_option linter.all false
set_option maxRecDepth 100000
/-! values without addresses, what is owned, the rules over them -/
namespace XR
open PySem PySem.Spec PyProof.Rows L2

/-- a value: a number, a truth, None, an object by its address, a tuple by its items -/
inductive D where
  | int (i : Int) | bl (b : Bool) | non | ref (a : Addr) | ty (n : String) | tup (ds : List D)

mutual
/-- v stands for d in H -/
def Rp (H : Hp) : D → V → Prop
  | .int i, v => v = .int i
  | .bl b, v => v = .bl b
  | .non, v => v = .non
  | .ref a, v => v = .ref a
  | .ty n, v => v = .ty n
  | .tup ds, v => ∃ a vs, v = .ref a ∧ H a = some (.tup vs) ∧ Rps H ds vs
def Rps (H : Hp) : List D → List V → Prop
  | [], vs => vs = []
  | d :: ds, vs => ∃ v r, vs = v :: r ∧ Rp H d v ∧ Rps H ds r
end
/-- the tuples stay -/
def Tx (H H' : Hp) : Prop := ∀ a xs, H a = some (.tup xs) → H' a = some (.tup xs)
theorem Tx.refl (H : Hp) : Tx H H := fun _ _ h => h
theorem Tx.trans {H H1 H2 : Hp} (a : Tx H H1) (b : Tx H1 H2) : Tx H H2 := fun c xs h => b c xs (a c xs h)
mutual
theorem Rp.tx {H H' : Hp} (e : Tx H H') : ∀ (d : D) {v : V}, Rp H d v → Rp H' d v
  | .int _, _, h => h
  | .bl _, _, h => h
  | .non, _, h => h
  | .ref _, _, h => h
  | .ty _, _, h => h
  | .tup ds, _, h => by
    obtain ⟨a, vs, e1, h1, h2⟩ := h
    exact ⟨a, vs, e1, e a vs h1, Rps.tx e ds h2⟩
theorem Rps.tx {H H' : Hp} (e : Tx H H') : ∀ (ds : List D) {vs : List V}, Rps H ds vs → Rps H' ds vs
  | [], _, h => h
  | d :: ds, _, h => by
    obtain ⟨v, r, e1, h1, h2⟩ := h
    exact ⟨v, r, e1, Rp.tx e d h1, Rps.tx e ds h2⟩
end
theorem Rps.cons {H : Hp} {d : D} {ds : List D} {v : V} {vs : List V} (h : Rp H d v) (hs : Rps H ds vs) : Rps H (d :: ds) (v :: vs) := ⟨v, vs, rfl, h, hs⟩
theorem Rps.nil {H : Hp} : Rps H [] [] := rfl
theorem Rps.len {H : Hp} : ∀ {ds : List D} {vs : List V}, Rps H ds vs → vs.length = ds.length
  | [], _, h => by rw [show _ = [] from h] <;> rfl
  | d :: ds, _, h => by
    obtain ⟨v, r, rfl, _, h2⟩ := h
    rw [List.length_cons, List.length_cons, Rps.len h2]
theorem Rps.get {H : Hp} : ∀ {ds : List D} {vs : List V} {i : Nat} {d : D}, Rps H ds vs → ds[i]? = some d → ∃ v, vs[i]? = some v ∧ Rp H d v
  | [], _, i, _, _, e => by simp at e
  | d :: ds, _, 0, _, h, e => by
    obtain ⟨v, r, rfl, h1, _⟩ := h
    rw [List.getElem?_cons_zero] at e
    cases e
    exact ⟨v, rfl, h1⟩
  | d :: ds, _, i + 1, d', h, e => by
    obtain ⟨v, r, rfl, _, h2⟩ := h
    rw [List.getElem?_cons_succ] at e
    obtain ⟨v', e1, e2⟩ := Rps.get h2 e
    exact ⟨v', by rw [List.getElem?_cons_succ]; exact e1, e2⟩
theorem Rps.getV {H : Hp} {ds : List D} {vs : List V} {i : Nat} {v : V} (h : Rps H ds vs) (e : vs[i]? = some v) : ∃ d, ds[i]? = some d ∧ Rp H d v := by
  have hi := (List.getElem?_eq_some_iff.mp e).1
  have hl := h.len
  have e2 : ds[i]? = some ds[i] := List.getElem?_eq_getElem (by omega)
  obtain ⟨v', e3, r⟩ := h.get e2
  rw [e] at e3
  cases e3
  exact ⟨_, e2, r⟩
theorem Rps.app {H : Hp} : ∀ {ds es : List D} {vs us : List V}, Rps H ds vs → Rps H es us → Rps H (ds ++ es) (vs ++ us)
  | [], _, _, _, h, k => by
    rw [show _ = [] from h]
    exact k
  | d :: ds, _, _, _, h, k => by
    obtain ⟨v, r, rfl, h1, h2⟩ := h
    exact ⟨v, _, rfl, h1, Rps.app h2 k⟩
theorem Rps.set {H : Hp} : ∀ {ds : List D} {vs : List V} {d : D} {v : V} (i : Nat), Rps H ds vs → Rp H d v → Rps H (ds.set i d) (vs.set i v)
  | [], _, _, _, _, h, _ => by
    rw [show _ = [] from h]
    exact rfl
  | d :: ds, _, _, _, 0, h, k => by
    obtain ⟨v, r, rfl, h1, h2⟩ := h
    exact ⟨_, _, rfl, k, h2⟩
  | d :: ds, _, _, _, i + 1, h, k => by
    obtain ⟨v, r, rfl, h1, h2⟩ := h
    exact ⟨_, _, rfl, h1, Rps.set i h2 k⟩
theorem Rps.take {H : Hp} : ∀ {ds : List D} {vs : List V} (n : Nat), Rps H ds vs → Rps H (ds.take n) (vs.take n)
  | _, _, 0, _ => by
    rw [List.take_zero, List.take_zero]
    exact rfl
  | [], _, n + 1, h => by
    rw [show _ = [] from h]
    exact rfl
  | d :: ds, _, n + 1, h => by
    obtain ⟨v, r, rfl, h1, h2⟩ := h
    exact ⟨_, _, rfl, h1, Rps.take n h2⟩
theorem Rps.drop {H : Hp} : ∀ {ds : List D} {vs : List V} (n : Nat), Rps H ds vs → Rps H (ds.drop n) (vs.drop n)
  | _, _, 0, h => h
  | [], _, n + 1, h => by
    rw [show _ = [] from h]
    exact rfl
  | d :: ds, _, n + 1, h => by
    obtain ⟨v, r, rfl, h1, h2⟩ := h
    exact Rps.drop n h2
theorem Rps.erase {H : Hp} : ∀ {ds : List D} {vs : List V} (i : Nat), Rps H ds vs → Rps H (ds.eraseIdx i) (vs.eraseIdx i)
  | [], _, _, h => by
    rw [show _ = [] from h]
    exact rfl
  | d :: ds, _, 0, h => by
    obtain ⟨v, r, rfl, h1, h2⟩ := h
    exact h2
  | d :: ds, _, i + 1, h => by
    obtain ⟨v, r, rfl, h1, h2⟩ := h
    exact ⟨_, _, rfl, h1, Rps.erase i h2⟩
theorem Rps.rev {H : Hp} : ∀ {ds : List D} {vs : List V}, Rps H ds vs → Rps H ds.reverse vs.reverse
  | [], _, h => by
    rw [show _ = [] from h]
    exact rfl
  | d :: ds, _, h => by
    obtain ⟨v, r, rfl, h1, h2⟩ := h
    rw [List.reverse_cons, List.reverse_cons]
    exact (Rps.rev h2).app (Rps.cons h1 Rps.nil)
theorem Rps.rep {H : Hp} {d : D} {v : V} (h : Rp H d v) : ∀ n : Nat, Rps H (List.replicate n d) (List.replicate n v)
  | 0 => rfl
  | n + 1 => ⟨_, _, rfl, h, Rps.rep h n⟩
theorem Rps.ints {H : Hp} : ∀ {is : List Int} {vs : List V}, Rps H (is.map D.int) vs → vs = is.map V.int
  | [], _, h => h
  | i :: is, _, h => by
    obtain ⟨v, r, rfl, h1, h2⟩ := h
    rw [Rps.ints h2, show v = V.int i from h1] <;> rfl
theorem Rps.ofInts {H : Hp} : ∀ (is : List Int), Rps H (is.map D.int) (is.map V.int)
  | [] => rfl
  | i :: is => ⟨_, _, rfl, rfl, Rps.ofInts is⟩

/-! ### what stands at an address -/
/-- a list; one that is only read; the script; a dict with int keys, with tuples of ints as keys; one that is only read, one that is locked; a dict of lists -/
inductive O where
  | lst (xs : List D) | ro (xs : List D) | sc (xs : List D)
  | dK (kvs : List (Int × D)) | dT (kvs : List (List Int × D))
  | rT (kvs : List (List Int × D)) | fT (kvs : List (List Int × D)) (od : Obj) (ws : List (List Key × V)) | fK (kvs : List (Int × D)) (od : Obj) (ws : List (Key × V))
  | dL (kvs : List (List Int × Addr × List D))
abbrev keyI : Int → Key := Sum.inl
abbrev keyT (k : List Int) : List Key := k.map Sum.inl
theorem keyI_inj : ∀ a b : Int, keyI a = keyI b → a = b := fun _ _ e => Sum.inl.inj e
theorem keyT_inj : ∀ a b : List Int, keyT a = keyT b → a = b
  | [], [], _ => rfl
  | [], _ :: _, e => by cases e
  | _ :: _, [], e => by cases e
  | a :: r, b :: q, e => by
    obtain ⟨e1, e2⟩ := List.cons.inj e
    rw [Sum.inl.inj e1, keyT_inj r q e2]
/-- entries by entries -/
abbrev Kr {κ ι : Type} (f : κ → ι) (H : Hp) (kvs : List (κ × D)) (ws : List (ι × V)) : Prop := Paired (fun p q => q.1 = f p.1 ∧ Rp H p.2 q.2) kvs ws
abbrev Kl (H : Hp) (kvs : List (List Int × Addr × List D)) (ws : List (List Key × V)) : Prop :=
  Paired (fun p q => q.1 = keyT p.1 ∧ q.2 = V.ref p.2.1 ∧ ∃ vs, H p.2.1 = some (.lst vs) ∧ Rps H p.2.2 vs) kvs ws
def Ho (K : PySem.W.Frag) (H : Hp) (a : Addr) : O → Prop
  | .lst xs => ∃ vs, H a = some (.lst vs) ∧ Rps H xs vs
  | .ro xs => ∃ vs, Rd H a (.lst vs) ∧ Rps H xs vs
  | .sc xs => ∃ vs, SqL K H a vs ∧ Rps H xs vs
  | .dK kvs => ∃ ws, H a = some (.dK ws) ∧ Kr keyI H kvs ws ∧ (kvs.map (·.1)).Nodup
  | .dT kvs => ∃ ws, H a = some (.dT ws) ∧ Kr keyT H kvs ws ∧ (kvs.map (·.1)).Nodup
  | .rT kvs => ∃ ws, Rd H a (.dT ws) ∧ Kr keyT H kvs ws
  | .fT kvs od ws => H a = some (.frz od (.dT ws)) ∧ Kr keyT H kvs ws ∧ (kvs.map (·.1)).Nodup
  | .fK kvs od ws => H a = some (.frz od (.dK ws)) ∧ Kr keyI H kvs ws ∧ (kvs.map (·.1)).Nodup
  | .dL kvs => ∃ ws, H a = some (.dT ws) ∧ Kl H kvs ws
/-- the objects within -/
def O.adr : O → List Addr
  | .dL kvs => kvs.map fun p => p.2.1
  | _ => []
abbrev Fp : Type := List (Addr × Bool × O)
/-- not the script -/
def O.own : O → Bool
  | .sc _ => false
  | _ => true
/-- an entry's addresses -/
def eadr (q : Addr × Bool × O) : List Addr := match q.2.2 with
  | .sc _ => []
  | o => q.1 :: o.adr
def adrs (L : Fp) : List Addr := L.flatMap eadr

/-! ### the frame's slots -/
def Sls (H : Hp) : List (Option D) → L2.St → Prop
  | [], σ => σ = []
  | d :: ds, σ => ∃ x r, σ = x :: r ∧ (∀ e, d = some e → ∃ v, x = some v ∧ Rp H e v) ∧ Sls H ds r
theorem Sls.tx {H H' : Hp} (e : Tx H H') : ∀ {ds : List (Option D)} {σ : L2.St}, Sls H ds σ → Sls H' ds σ
  | [], _, h => h
  | d :: ds, _, h => by
    obtain ⟨x, r, e1, h1, h2⟩ := h
    refine ⟨x, r, e1, fun y hy => ?_, Sls.tx e h2⟩
    obtain ⟨v, ev, rv⟩ := h1 y hy
    exact ⟨v, ev, Rp.tx e y rv⟩
theorem Sls.get {H : Hp} : ∀ {ds : List (Option D)} {σ : L2.St} {i : Nat} {d : D}, Sls H ds σ → ds[i]? = some (some d) → ∃ v, σ[i]? = some (some v) ∧ Rp H d v
  | [], _, i, _, _, e => by simp at e
  | d :: ds, _, 0, d', h, e => by
    obtain ⟨x, r, rfl, h1, _⟩ := h
    rw [List.getElem?_cons_zero] at e
    obtain ⟨v, ev, rv⟩ := h1 d' (Option.some.inj e)
    exact ⟨v, by rw [List.getElem?_cons_zero, ev], rv⟩
  | d :: ds, _, i + 1, d', h, e => by
    obtain ⟨x, r, rfl, _, h2⟩ := h
    rw [List.getElem?_cons_succ] at e ⊢
    exact Sls.get h2 e
theorem Sls.set {H : Hp} {d : D} {v : V} : ∀ {ds : List (Option D)} {σ : L2.St} (i : Nat), Sls H ds σ → Rp H d v → Sls H (ds.set i (some d)) (σ.set i (some v))
  | [], _, i, h, _ => by
    rw [show _ = [] from h]
    exact rfl
  | _ :: ds, _, 0, h, k => by
    obtain ⟨x, r, rfl, _, h2⟩ := h
    exact ⟨_, _, rfl, fun e he => ⟨v, rfl, by cases he; exact k⟩, h2⟩
  | _ :: ds, _, i + 1, h, k => by
    obtain ⟨x, r, rfl, h1, h2⟩ := h
    exact ⟨_, _, rfl, h1, Sls.set i h2 k⟩
theorem Sls.forget {H : Hp} : ∀ {ds : List (Option D)} {σ : L2.St} (i : Nat) (x : Option V), Sls H ds σ → Sls H (ds.set i none) (σ.set i x)
  | [], _, i, _, h => by
    rw [show _ = [] from h]
    exact rfl
  | _ :: ds, _, 0, x, h => by
    obtain ⟨y, r, rfl, _, h2⟩ := h
    exact ⟨_, _, rfl, fun e he => (by cases he), h2⟩
  | _ :: ds, _, i + 1, x, h => by
    obtain ⟨y, r, rfl, h1, h2⟩ := h
    exact ⟨_, _, rfl, h1, Sls.forget i x h2⟩
/-- at a def's start -/
theorem Sls.start {H : Hp} : ∀ {ds : List D} {vs : List V} (n : Nat), Rps H ds vs → Sls H (ds.map some ++ List.replicate n none) (vs.map some ++ List.replicate n none)
  | [], _, n, h => by
    rw [show _ = [] from h]
    show Sls H (List.replicate n none) (List.replicate n none)
    induction n with
    | zero => exact rfl
    | succ n ih => exact ⟨none, _, rfl, fun e he => (by cases he), ih⟩
  | d :: ds, _, n, h => by
    obtain ⟨v, r, rfl, h1, h2⟩ := h
    exact ⟨some v, _, rfl, fun e he => ⟨v, rfl, by cases he; exact h1⟩, Sls.start n h2⟩

/-! ### what is known at a place of the body -/
/-- the objects in hand, over the heap H0 at the def's start of which those in M may be changed -/
structure Ow (K : PySem.W.Frag) (H0 : Hp) (M : List Addr) (L : Fp) (H : Hp) : Prop where
  nd : (adrs L).Nodup
  ho : ∀ q ∈ L, Ho K H q.1 q.2.2
  wr : ∀ q ∈ L, q.2.1 = true → ∀ b ∈ eadr q, b ∈ M ∨ H0 b = none
  sc : ∀ q ∈ L, q.2.2.own = false → M = [] ∧ Ho K H0 q.1 q.2.2
  fr : ∀ a o, H0 a = some o → a ∉ M → H a = some o
  th : ∀ a, H0 a ≠ none → H a ≠ none
structure As (K : PySem.W.Frag) (H0 : Hp) (M : List Addr) (ds : List (Option D)) (L : Fp) (σ : L2.St) (H : Hp) : Prop where
  sl : Sls H ds σ
  ow : Ow K H0 M L H

/-- all tracked things stay -/
abbrev Mo (H H' : Hp) : Prop := ∀ a o, H a = some o → H' a = some o
theorem Mo.tx {H H' : Hp} (m : Mo H H') : Tx H H' := fun a xs h => m a _ h
theorem Mo.new {H : Hp} {p : Addr} {o : HO} (h : H p = none) : Mo H (upd H p o) := fun a u e => by
  rw [upd_ne (ne_of_none e h)]
  exact e
theorem Kr.tx {κ ι : Type} {f : κ → ι} {H H' : Hp} {kvs : List (κ × D)} {ws : List (ι × V)} (e : Tx H H') (h : Kr f H kvs ws) : Kr f H' kvs ws := by
  induction h with
  | nil => exact .nil
  | cons r _ ih => exact .cons ⟨r.1, Rp.tx e _ r.2⟩ ih
/-- Ho looks at a, at what lies within and at tuples alone -/
theorem Ho.tx {K : PySem.W.Frag} {H H' : Hp} {a : Addr} {o : O} (e : Tx H H') (k : ∀ b ∈ a :: o.adr, ∀ u, H b = some u → H' b = some u) (h : Ho K H a o) : Ho K H' a o := by
  have ka : ∀ u, H a = some u → H' a = some u := k a List.mem_cons_self
  cases o with
  | lst xs => obtain ⟨vs, h1, h2⟩ := h; exact ⟨vs, ka _ h1, Rps.tx e _ h2⟩
  | ro xs =>
    obtain ⟨vs, h1, h2⟩ := h
    refine ⟨vs, ?_, Rps.tx e _ h2⟩
    rcases h1 with h1 | ⟨o, h1⟩
    · exact .inl (ka _ h1)
    · exact .inr ⟨o, ka _ h1⟩
  | sc xs =>
    obtain ⟨vs, h1, h2⟩ := h
    refine ⟨vs, ?_, Rps.tx e _ h2⟩
    rcases h1 with (h1 | ⟨o, h1⟩) | h1
    · exact .inl (.inl (ka _ h1))
    · exact .inl (.inr ⟨o, ka _ h1⟩)
    · exact .inr h1
  | dK kvs => obtain ⟨vs, h1, h2, h3⟩ := h; exact ⟨vs, ka _ h1, Kr.tx e h2, h3⟩
  | dT kvs => obtain ⟨vs, h1, h2, h3⟩ := h; exact ⟨vs, ka _ h1, Kr.tx e h2, h3⟩
  | rT kvs =>
    obtain ⟨vs, h1, h2⟩ := h
    refine ⟨vs, ?_, Kr.tx e h2⟩
    rcases h1 with h1 | ⟨o, h1⟩
    · exact .inl (ka _ h1)
    · exact .inr ⟨o, ka _ h1⟩
  | fT kvs od ws => obtain ⟨h1, h2, h3⟩ := h; exact ⟨ka _ h1, Kr.tx e h2, h3⟩
  | fK kvs od ws => obtain ⟨h1, h2, h3⟩ := h; exact ⟨ka _ h1, Kr.tx e h2, h3⟩
  | dL kvs =>
    obtain ⟨ws, h1, h2⟩ := h
    refine ⟨ws, ka _ h1, ?_⟩
    have k2 : ∀ p ∈ kvs, ∀ u, H p.2.1 = some u → H' p.2.1 = some u := fun p hp => k _ (List.mem_cons_of_mem _ (List.mem_map_of_mem (f := fun p : List Int × Addr × List D => p.2.1) hp))
    clear h1 k ka
    induction h2 with
    | nil => exact .nil
    | @cons p q l1 l2 r _ ih =>
      obtain ⟨r1, r2, vs, r3, r4⟩ := r
      exact .cons ⟨r1, r2, vs, k2 p List.mem_cons_self _ r3, Rps.tx e _ r4⟩ (ih fun p hp => k2 p (List.mem_cons_of_mem _ hp))
theorem Ho.mo {K : PySem.W.Frag} {H H' : Hp} {a : Addr} {o : O} (m : Mo H H') (h : Ho K H a o) : Ho K H' a o := h.tx m.tx fun b _ u => m b u
/-- what is in hand is tracked, but for objects of the module -/
theorem kl_at {H : Hp} {kvs : List (List Int × Addr × List D)} {ws : List (List Key × V)} (h : Kl H kvs ws) : ∀ b ∈ kvs.map (fun p => p.2.1), ∃ vs, H b = some (.lst vs) := by
  induction h with
  | nil => intro b hb; cases hb
  | @cons p q l1 l2 r _ ih =>
    intro b hb
    rcases List.mem_cons.mp hb with e | hb
    · obtain ⟨_, _, vs, r3, _⟩ := r
      exact ⟨vs, by rw [e]; exact r3⟩
    · exact ih b hb
section
variable {K : PySem.W.Frag} {H0 H H' : Hp} {M : List Addr} {L L' : Fp} {ds : List (Option D)} {σ : L2.St}
theorem mem_adrs {q : Addr × Bool × O} (h : q ∈ L) {b : Addr} (hb : b ∈ eadr q) : b ∈ adrs L := List.mem_flatMap.mpr ⟨q, h, hb⟩
theorem adrs_app (L L' : Fp) : adrs (L ++ L') = adrs L ++ adrs L' := List.flatMap_append
theorem Ow.mo (w : Ow K H0 M L H) (m : Mo H H') : Ow K H0 M L H' :=
  ⟨w.nd, fun q hq => (w.ho q hq).mo m, w.wr, w.sc, fun a o e n => m a o (w.fr a o e n), fun a h => by
    have h1 := w.th a h
    cases e : H a with
    | none => exact absurd e h1
    | some o => rw [m a o e]; exact fun z => by cases z⟩
theorem As.mo (w : As K H0 M ds L σ H) (m : Mo H H') : As K H0 M ds L σ H' := ⟨w.sl.tx m.tx, w.ow.mo m⟩
theorem Ow.fresh (w : Ow K H0 M L H) {p : Addr} (h : H p = none) : H0 p = none := by
  cases e : H0 p with
  | none => rfl
  | some o => exact absurd h (w.th p (by rw [e]; exact fun z => by cases z))
theorem Ho.there {a : Addr} {o : O} (h : Ho K H a o) (ho : o.own = true) : H a ≠ none := by
  intro z
  cases o with
  | sc xs => cases ho
  | ro xs =>
    obtain ⟨vs, h1, h2⟩ := h
    rcases h1 with h1 | ⟨o, h1⟩
    · rw [z] at h1; cases h1
    · rw [z] at h1; cases h1
  | lst xs => obtain ⟨vs, h1, h2⟩ := h; rw [z] at h1; cases h1
  | dK kvs => obtain ⟨vs, h1, h2⟩ := h; rw [z] at h1; cases h1
  | dT kvs => obtain ⟨vs, h1, h2⟩ := h; rw [z] at h1; cases h1
  | rT kvs =>
    obtain ⟨vs, h1, h2⟩ := h
    rcases h1 with h1 | ⟨o, h1⟩
    · rw [z] at h1; cases h1
    · rw [z] at h1; cases h1
  | fT kvs od ws => obtain ⟨h1, h2⟩ := h; rw [z] at h1; cases h1
  | fK kvs od ws => obtain ⟨h1, h2⟩ := h; rw [z] at h1; cases h1
  | dL kvs => obtain ⟨vs, h1, h2⟩ := h; rw [z] at h1; cases h1
end
end XR
-- KAbs2
set_option Elab.async false
set_option linter.all false
set_option maxRecDepth 100000
/-! rules over values without addresses: expressions, tests, statements -/
namespace XR
open PySem PySem.Spec PyProof.Rows L2

/-! ### entries -/
/-- the writable entry of a is changed from o to o' -/
inductive Up : Fp → Addr → O → O → Fp → Prop
  | hd {a : Addr} {o o' : O} {r : Fp} : Up ((a, true, o) :: r) a o o' ((a, true, o') :: r)
  | tl {a : Addr} {o o' : O} {q : Addr × Bool × O} {r r' : Fp} (h : Up r a o o' r') : Up (q :: r) a o o' (q :: r')
theorem Up.mem {L L' : Fp} {a : Addr} {o o' : O} (h : Up L a o o' L') : (a, true, o) ∈ L := by
  induction h with
  | hd => exact List.mem_cons_self
  | tl _ ih => exact List.mem_cons_of_mem _ ih
theorem Up.split {L L' : Fp} {a : Addr} {o o' : O} (h : Up L a o o' L') : ∃ pre post, L = pre ++ (a, true, o) :: post ∧ L' = pre ++ (a, true, o') :: post := by
  induction h with
  | hd => exact ⟨[], _, rfl, rfl⟩
  | @tl a o o' q r r' _ ih =>
    obtain ⟨pre, post, e1, e2⟩ := ih
    exact ⟨q :: pre, post, by rw [e1] <;> rfl, by rw [e2] <;> rfl⟩
/-- the list at a reads xs -/
inductive At : Fp → Addr → List D → Prop
  | lst {a : Addr} {w : Bool} {xs : List D} {r : Fp} : At ((a, w, .lst xs) :: r) a xs
  | ro {a : Addr} {w : Bool} {xs : List D} {r : Fp} : At ((a, w, .ro xs) :: r) a xs
  | sc {a : Addr} {w : Bool} {xs : List D} {r : Fp} : At ((a, w, .sc xs) :: r) a xs
  | dl {a d : Addr} {w : Bool} {k : List Int} {xs : List D} {kvs : List (List Int × Addr × List D)} {r : Fp} (h : (k, a, xs) ∈ kvs) : At ((d, w, .dL kvs) :: r) a xs
  | tl {a : Addr} {xs : List D} {q : Addr × Bool × O} {r : Fp} (h : At r a xs) : At (q :: r) a xs
/-- what the dict at a has at k -/
inductive Dg : Fp → Addr → D → Option D → Prop
  | dK {a : Addr} {w : Bool} {kvs : List (Int × D)} {i : Int} {r : Fp} : Dg ((a, w, .dK kvs) :: r) a (.int i) (aget kvs i)
  | fK {a : Addr} {w : Bool} {kvs : List (Int × D)} {od : Obj} {ws : List (Key × V)} {i : Int} {r : Fp} : Dg ((a, w, .fK kvs od ws) :: r) a (.int i) (aget kvs i)
  | dT {a : Addr} {w : Bool} {kvs : List (List Int × D)} {k : List Int} {r : Fp} : Dg ((a, w, .dT kvs) :: r) a (.tup (k.map D.int)) (aget kvs k)
  | rT {a : Addr} {w : Bool} {kvs : List (List Int × D)} {k : List Int} {r : Fp} : Dg ((a, w, .rT kvs) :: r) a (.tup (k.map D.int)) (aget kvs k)
  | fT {a : Addr} {w : Bool} {kvs : List (List Int × D)} {od : Obj} {ws : List (List Key × V)} {k : List Int} {r : Fp} : Dg ((a, w, .fT kvs od ws) :: r) a (.tup (k.map D.int)) (aget kvs k)
  | dL {a : Addr} {w : Bool} {kvs : List (List Int × Addr × List D)} {k : List Int} {r : Fp} : Dg ((a, w, .dL kvs) :: r) a (.tup (k.map D.int)) ((aget kvs k).map fun p => D.ref p.1)
  | tl {a : Addr} {k : D} {o : Option D} {q : Addr × Bool × O} {r : Fp} (h : Dg r a k o) : Dg (q :: r) a k o
/-- the dict at a is given d at k -/
inductive Dp : Fp → Addr → D → D → Fp → Prop
  | dK {a : Addr} {kvs : List (Int × D)} {i : Int} {d : D} {L L' : Fp} (h : Up L a (.dK kvs) (.dK (aput kvs i d)) L') (hz : kvs.length < 100000) : Dp L a (.int i) d L'
  | dT {a : Addr} {kvs : List (List Int × D)} {k : List Int} {d : D} {L L' : Fp} (h : Up L a (.dT kvs) (.dT (aput kvs k d)) L') (hz : kvs.length < 100000) : Dp L a (.tup (k.map D.int)) d L'

theorem line_lt {n : Nat} (h : n < 100000) : n < sizeLine := Nat.lt_of_lt_of_le h (by rw [sizeLine_eq]; decide)
theorem line_le {n : Nat} (h : n ≤ 100000) : n ≤ sizeLine := Nat.le_trans h (by rw [sizeLine_eq]; decide)

section
variable {K : PySem.W.Frag} {H0 H H' : Hp} {M : List Addr} {L L' L1 : Fp} {ds : List (Option D)} {σ : L2.St}

theorem eadr_own {q : Addr × Bool × O} (h : q.2.2.own = true) : eadr q = q.1 :: q.2.2.adr := by
  obtain ⟨a, w, o⟩ := q
  cases o <;> first | rfl | cases h
theorem eadr_sc {q : Addr × Bool × O} (h : q.2.2.own = false) : eadr q = [] := by
  obtain ⟨a, w, o⟩ := q
  cases o <;> first | rfl | cases h
/-- an address in hand is tracked, by no tuple -/
theorem Ho.tracked {q : Addr × Bool × O} (h : Ho K H q.1 q.2.2) : ∀ b ∈ eadr q, ∃ o, H b = some o ∧ ∀ xs, o ≠ .tup xs := by
  obtain ⟨a, w, o⟩ := q
  intro b hb
  cases o with
  | sc xs => cases hb
  | lst xs => obtain ⟨vs, h1, _⟩ := h; rw [List.mem_singleton.mp hb]; exact ⟨_, h1, fun _ z => by cases z⟩
  | ro xs =>
    obtain ⟨vs, h1, _⟩ := h
    rw [List.mem_singleton.mp hb]
    rcases h1 with h1 | ⟨o, h1⟩
    · exact ⟨_, h1, fun _ z => by cases z⟩
    · exact ⟨_, h1, fun _ z => by cases z⟩
  | dK kvs => obtain ⟨vs, h1, _⟩ := h; rw [List.mem_singleton.mp hb]; exact ⟨_, h1, fun _ z => by cases z⟩
  | dT kvs => obtain ⟨vs, h1, _⟩ := h; rw [List.mem_singleton.mp hb]; exact ⟨_, h1, fun _ z => by cases z⟩
  | rT kvs =>
    obtain ⟨vs, h1, _⟩ := h
    rw [List.mem_singleton.mp hb]
    rcases h1 with h1 | ⟨o, h1⟩
    · exact ⟨_, h1, fun _ z => by cases z⟩
    · exact ⟨_, h1, fun _ z => by cases z⟩
  | fT kvs od ws => obtain ⟨h1, _⟩ := h; rw [List.mem_singleton.mp hb]; exact ⟨_, h1, fun _ z => by cases z⟩
  | fK kvs od ws => obtain ⟨h1, _⟩ := h; rw [List.mem_singleton.mp hb]; exact ⟨_, h1, fun _ z => by cases z⟩
  | dL kvs =>
    obtain ⟨ws, h1, h2⟩ := h
    rcases List.mem_cons.mp hb with e | hb
    · rw [e]; exact ⟨_, h1, fun _ z => by cases z⟩
    · obtain ⟨vs, e⟩ := kl_at h2 b hb
      exact ⟨_, e, fun _ z => by cases z⟩
theorem Ow.tracked (w : Ow K H0 M L H) {b : Addr} (hb : b ∈ adrs L) : ∃ o, H b = some o ∧ ∀ xs, o ≠ .tup xs := by
  obtain ⟨q, hq, h⟩ := List.mem_flatMap.mp hb
  exact (w.ho q hq).tracked b h
theorem Ow.mo0 (w : Ow K H0 [] L H) : Mo H0 H := fun a o h => w.fr a o h (fun z => by cases z)
/-- a new object in hand -/
theorem Ow.add (w : Ow K H0 M L H) {p : Addr} {o : O} {u : HO} (hp : H p = none) (ho : o.own = true) (hd : o.adr = []) (h : Ho K (upd H p u) p o) : Ow K H0 M (L ++ [(p, true, o)]) (upd H p u) := by
  have w2 := w.mo (Mo.new (o := u) hp)
  have e : eadr (p, true, o) = [p] := by rw [eadr_own (q := (p, true, o)) ho, hd]
  refine ⟨?_, fun q hq => ?_, fun q hq => ?_, fun q hq => ?_, w2.fr, w2.th⟩
  · rw [adrs_app]
    show (adrs L ++ (eadr (p, true, o) ++ [])).Nodup
    rw [e]
    refine List.nodup_append.mpr ⟨w.nd, by simp, fun a ha b hb => ?_⟩
    have hb2 : b = p := by simpa using hb
    obtain ⟨o', h1, _⟩ := w.tracked ha
    rw [hb2]
    exact ne_of_none h1 hp
  · rcases List.mem_append.mp hq with hq | hq
    · exact w2.ho q hq
    · rw [List.mem_singleton.mp hq]
      exact h
  · rcases List.mem_append.mp hq with hq | hq
    · exact w2.wr q hq
    · rw [List.mem_singleton.mp hq, e]
      intro _ b hb
      rw [List.mem_singleton.mp hb]
      exact .inr (w.fresh hp)
  · rcases List.mem_append.mp hq with hq | hq
    · exact w2.sc q hq
    · rw [List.mem_singleton.mp hq]
      intro z
      rw [show (p, true, o).2.2.own = true from ho] at z
      cases z
/-- a writable thing in hand is written, at its own address or at one within -/
theorem Ow.put (w : Ow K H0 M L H) {a b : Addr} {o o' : O} {u : HO} (hu : Up L a o o' L') (hs : o.own = true) (hs' : o'.own = true) (hd : o.adr = o'.adr) (hb : b ∈ a :: o.adr) (h : Ho K (upd H b u) a o') : Ow K H0 M L' (upd H b u) := by
  obtain ⟨pre, post, e1, e2⟩ := hu.split
  subst e1 e2
  have hb' : b ∈ eadr (a, true, o) := by
    rw [eadr_own (q := (a, true, o)) hs]
    exact hb
  have ea : eadr (a, true, o) = eadr (a, true, o') := by
    rw [eadr_own (q := (a, true, o)) hs, eadr_own (q := (a, true, o')) hs']
    show a :: o.adr = a :: o'.adr
    rw [hd]
  have em : (a, true, o) ∈ pre ++ (a, true, o) :: post := List.mem_append_right _ List.mem_cons_self
  have wb := w.wr _ em rfl b hb'
  obtain ⟨ob, hob, hnt⟩ := (w.ho _ em).tracked b hb'
  have tx : Tx H (upd H b u) := fun c xs hc => by
    rw [upd_ne (fun z => by
      rw [z, hob] at hc
      exact hnt xs (Option.some.inj hc))]
    exact hc
  have nd := w.nd
  have fr : ∀ c oc, H0 c = some oc → c ∉ M → upd H b u c = some oc := fun c oc hc hn => by
    rw [upd_ne (fun z => by
      rcases wb with wb | wb
      · exact hn (z ▸ wb)
      · rw [z, wb] at hc
        cases hc)]
    exact w.fr c oc hc hn
  have apart : ∀ q, q ∈ pre ∨ q ∈ post → b ∉ eadr q := fun q hq hbq => by
    rw [adrs_app, show adrs ((a, true, o) :: post) = eadr (a, true, o) ++ adrs post from rfl, List.nodup_append] at nd
    obtain ⟨_, n2, n3⟩ := nd
    rw [List.nodup_append] at n2
    rcases hq with hq | hq
    · exact n3 b (mem_adrs hq hbq) b (List.mem_append_left _ hb') rfl
    · exact n2.2.2 b hb' b (mem_adrs hq hbq) rfl
  have others : ∀ q, q ∈ pre ∨ q ∈ post → Ho K (upd H b u) q.1 q.2.2 := fun q hq => by
    have hqL : q ∈ pre ++ (a, true, o) :: post := by
      rcases hq with hq | hq
      · exact List.mem_append_left _ hq
      · exact List.mem_append_right _ (List.mem_cons_of_mem _ hq)
    cases eo : q.2.2.own with
    | true =>
      refine (w.ho q hqL).tx tx fun c hc v hv => ?_
      rw [upd_ne (fun z => apart q hq (by rw [eadr_own eo, ← z]; exact hc))]
      exact hv
    | false =>
      obtain ⟨e, h0⟩ := w.sc q hqL eo
      exact h0.mo fun c oc hc => fr c oc hc (by rw [e]; exact fun z => by cases z)
  refine ⟨?_, fun q hq => ?_, fun q hq => ?_, fun q hq => ?_, fr, fun c hc => ?_⟩
  · have e : adrs (pre ++ (a, true, o') :: post) = adrs (pre ++ (a, true, o) :: post) := by
      rw [adrs_app, adrs_app, show adrs ((a, true, o') :: post) = eadr (a, true, o') ++ adrs post from rfl, show adrs ((a, true, o) :: post) = eadr (a, true, o) ++ adrs post from rfl, ea]
    rw [e]
    exact nd
  · rcases List.mem_append.mp hq with hq | hq
    · exact others q (.inl hq)
    · rcases List.mem_cons.mp hq with hq | hq
      · rw [hq]
        exact h
      · exact others q (.inr hq)
  · rcases List.mem_append.mp hq with hq | hq
    · exact w.wr q (List.mem_append_left _ hq)
    · rcases List.mem_cons.mp hq with hq | hq
      · rw [hq, ← ea]
        exact w.wr _ em
      · exact w.wr q (List.mem_append_right _ (List.mem_cons_of_mem _ hq))
  · rcases List.mem_append.mp hq with hq | hq
    · exact w.sc q (List.mem_append_left _ hq)
    · rcases List.mem_cons.mp hq with hq | hq
      · rw [hq]
        intro z
        rw [show (a, true, o').2.2.own = true from hs'] at z
        cases z
      · exact w.sc q (List.mem_append_right _ (List.mem_cons_of_mem _ hq))
  · unfold upd
    split
    · exact fun z => by cases z
    · exact w.th c hc
theorem put_tx (w : Ow K H0 M L H) {a b : Addr} {o : O} {u : HO} (hm : (a, true, o) ∈ L) (hs : o.own = true) (hb : b ∈ a :: o.adr) : Tx H (upd H b u) := by
  obtain ⟨ob, hob, hnt⟩ := (w.ho _ hm).tracked b (by rw [eadr_own (q := (a, true, o)) hs]; exact hb)
  exact fun c xs hc => by
    rw [upd_ne (fun z => by
      rw [z, hob] at hc
      exact hnt xs (Option.some.inj hc))]
    exact hc
theorem sub_flat {A B : Fp} (h : A.Sublist B) : (adrs A).Sublist (adrs B) := by
  induction h with
  | slnil => exact .slnil
  | @cons l1 l2 a _ ih => exact ih.trans (List.sublist_append_right (eadr a) (adrs l2))
  | @cons_cons l1 l2 a _ ih => exact List.Sublist.append (List.Sublist.refl (eadr a)) ih
/-- entries may be forgotten -/
theorem Ow.sub (w : Ow K H0 M L H) (h : L1.Sublist L) : Ow K H0 M L1 H :=
  ⟨w.nd.sublist (sub_flat h), fun q hq => w.ho q (h.subset hq), fun q hq => w.wr q (h.subset hq), fun q hq => w.sc q (h.subset hq), w.fr, w.th⟩

/-! ### what is read -/
theorem At.mem {a : Addr} {xs : List D} (h : At L a xs) : (∃ w, (a, w, O.lst xs) ∈ L) ∨ (∃ w, (a, w, O.ro xs) ∈ L) ∨ (∃ w, (a, w, O.sc xs) ∈ L) ∨ ∃ d w kvs k, (d, w, O.dL kvs) ∈ L ∧ (k, a, xs) ∈ kvs := by
  induction h with
  | lst => exact .inl ⟨_, List.mem_cons_self⟩
  | ro => exact .inr (.inl ⟨_, List.mem_cons_self⟩)
  | sc => exact .inr (.inr (.inl ⟨_, List.mem_cons_self⟩))
  | dl h => exact .inr (.inr (.inr ⟨_, _, _, _, List.mem_cons_self, h⟩))
  | tl _ ih =>
    rcases ih with ⟨w, h⟩ | ⟨w, h⟩ | ⟨w, h⟩ | ⟨d, w, kvs, k, h, h2⟩
    · exact .inl ⟨w, List.mem_cons_of_mem _ h⟩
    · exact .inr (.inl ⟨w, List.mem_cons_of_mem _ h⟩)
    · exact .inr (.inr (.inl ⟨w, List.mem_cons_of_mem _ h⟩))
    · exact .inr (.inr (.inr ⟨d, w, kvs, k, List.mem_cons_of_mem _ h, h2⟩))
theorem kl_mem {kvs : List (List Int × Addr × List D)} {ws : List (List Key × V)} (h : Kl H kvs ws) {k : List Int} {b : Addr} {xs : List D} (hm : (k, b, xs) ∈ kvs) : ∃ vs, H b = some (.lst vs) ∧ Rps H xs vs := by
  induction h with
  | nil => cases hm
  | @cons p q l1 l2 r _ ih =>
    rcases List.mem_cons.mp hm with e | hm
    · obtain ⟨_, _, vs, r3, r4⟩ := r
      rw [← e] at r3 r4
      exact ⟨vs, r3, r4⟩
    · exact ih hm
theorem At.seq {a : Addr} {xs : List D} (h : At L a xs) (w : Ow K H0 M L H) : ∃ vs, SqL K H a vs ∧ Rps H xs vs := by
  rcases h.mem with ⟨b, h⟩ | ⟨b, h⟩ | ⟨b, h⟩ | ⟨d, b, kvs, k, h, h2⟩
  · obtain ⟨vs, h1, h2⟩ := w.ho _ h
    exact ⟨vs, .inl (.inl h1), h2⟩
  · obtain ⟨vs, h1, h2⟩ := w.ho _ h
    exact ⟨vs, .inl h1, h2⟩
  · obtain ⟨vs, h1, h2⟩ := w.ho _ h
    exact ⟨vs, h1, h2⟩
  · obtain ⟨ws, h1, h3⟩ := w.ho _ h
    obtain ⟨vs, h4, h5⟩ := kl_mem h3 h2
    exact ⟨vs, .inl (.inl h4), h5⟩
theorem kr_get {κ ι : Type} [DecidableEq κ] [DecidableEq ι] {f : κ → ι} (hf : ∀ a b, f a = f b → a = b) {kvs : List (κ × D)} {ws : List (ι × V)} (h : Kr f H kvs ws) (k : κ) :
    (aget kvs k = none → valV ws (f k) = none) ∧ ∀ d, aget kvs k = some d → ∃ v, valV ws (f k) = some v ∧ Rp H d v := by
  induction h with
  | nil => exact ⟨fun _ => rfl, fun d e => by cases e⟩
  | @cons p q l1 l2 r _ ih =>
    by_cases e : p.1 = k
    · have e2 : q.1 = f k := by rw [r.1, e]
      rw [aget_pos e, valV_pos e2]
      exact ⟨fun z => (by cases z), fun d z => ⟨q.2, rfl, by cases z; exact r.2⟩⟩
    · have e2 : ¬ q.1 = f k := fun z => e (hf _ _ (r.1.symm.trans z))
      rw [aget_neg e, valV_neg e2]
      exact ih
theorem kr_keys {κ ι : Type} {f : κ → ι} {kvs : List (κ × D)} {ws : List (ι × V)} (h : Kr f H kvs ws) : ws.map (·.1) = kvs.map fun p => f p.1 := by
  induction h with
  | nil => rfl
  | cons r _ ih => rw [List.map_cons, List.map_cons, ih, r.1]
theorem kr_same {ι : Type} [DecidableEq ι] {v : V} {j : ι} : ∀ {l2 : List (ι × V)}, (∀ q ∈ l2, q.1 ≠ j) → l2.map (fun kv => if kv.1 = j then (kv.1, v) else kv) = l2
  | [], _ => rfl
  | q :: l, hq => by rw [List.map_cons, if_neg (hq q List.mem_cons_self), kr_same fun q' h' => hq q' (List.mem_cons_of_mem _ h')]
theorem kr_put {κ ι : Type} [DecidableEq κ] [DecidableEq ι] {f : κ → ι} (hf : ∀ a b, f a = f b → a = b) {kvs : List (κ × D)} {ws : List (ι × V)} (h : Kr f H kvs ws) (hn : (kvs.map (·.1)).Nodup) (k : κ) {d : D} {v : V} (r : Rp H d v) :
    Kr f H (aput kvs k d) (putK ws (f k) v) := by
  unfold putK
  have hm : (ws.any fun kv => decide (kv.1 = f k)) = true ↔ k ∈ kvs.map (·.1) := by
    rw [List.any_eq_true]
    constructor
    · rintro ⟨q, hq, e⟩
      have e2 : q.1 ∈ ws.map (·.1) := List.mem_map_of_mem (f := (·.1)) hq
      rw [kr_keys h] at e2
      obtain ⟨p, hp, e3⟩ := List.mem_map.mp e2
      have e4 : p.1 = k := hf _ _ (e3.trans (of_decide_eq_true e))
      rw [← e4]
      exact List.mem_map_of_mem (f := (·.1)) hp
    · intro hk
      obtain ⟨p, hp, e3⟩ := List.mem_map.mp hk
      have e2 : f k ∈ ws.map (·.1) := by
        rw [kr_keys h, ← e3]
        exact List.mem_map_of_mem (f := fun p : κ × D => f p.1) hp
      obtain ⟨q, hq, e4⟩ := List.mem_map.mp e2
      exact ⟨q, hq, decide_eq_true e4⟩
  by_cases a : k ∈ kvs.map (·.1)
  · rw [if_pos (hm.mpr a)]
    clear hm
    induction h with
    | nil => cases a
    | @cons p q l1 l2 r0 t ih =>
      rw [List.map_cons, List.nodup_cons] at hn
      by_cases e : p.1 = k
      · have e2 : q.1 = f k := by rw [r0.1, e]
        have hq : ∀ q' ∈ l2, q'.1 ≠ f k := fun q' h' z => by
          have e3 : q'.1 ∈ l2.map (·.1) := List.mem_map_of_mem (f := (·.1)) h'
          rw [kr_keys t] at e3
          obtain ⟨p', hp', e4⟩ := List.mem_map.mp e3
          have e5 : p'.1 = p.1 := (hf _ _ (e4.trans z)).trans e.symm
          exact hn.1 (by rw [← e5]; exact List.mem_map_of_mem (f := (·.1)) hp')
        rw [aput_pos e, List.map_cons, if_pos e2, kr_same hq]
        exact .cons ⟨r0.1, r⟩ t
      · have e2 : ¬ q.1 = f k := fun z => e (hf _ _ (r0.1.symm.trans z))
        rw [aput_neg e, List.map_cons, if_neg e2]
        refine .cons r0 (ih hn.2 ?_)
        rcases List.mem_cons.mp a with z | z
        · exact absurd z.symm e
        · exact z
  · rw [if_neg fun z => a (hm.mp z), aput_new a]
    exact h.snoc ⟨rfl, r⟩
theorem kr_drop {κ ι : Type} [DecidableEq κ] [DecidableEq ι] {f : κ → ι} (hf : ∀ a b, f a = f b → a = b) {kvs : List (κ × D)} {ws : List (ι × V)} (h : Kr f H kvs ws) (k : κ) : Kr f H (adrop kvs k) (dropK ws (f k)) := by
  unfold adrop dropK
  induction h with
  | nil => exact .nil
  | @cons p q l1 l2 r0 t ih =>
    by_cases e : p.1 = k
    · have e2 : q.1 = f k := by rw [r0.1, e]
      rw [List.filter_cons_of_neg (by simp [e]), List.filter_cons_of_neg (by simp [e2])]
      exact ih
    · have e2 : ¬ q.1 = f k := fun z => e (hf _ _ (r0.1.symm.trans z))
      rw [List.filter_cons_of_pos (by simp [e]), List.filter_cons_of_pos (by simp [e2])]
      exact .cons r0 ih
theorem key_tup {ks : List Int} {y : V} (h : Rp H (.tup (ks.map D.int)) y) : ∃ b, y = .ref b ∧ H b = some (.tup ((keyT ks).map kV)) := by
  obtain ⟨b, vs, e, h1, h2⟩ := h
  have e2 := Rps.ints h2
  refine ⟨b, e, ?_⟩
  rw [h1, e2]
  congr 2
  rw [List.map_map] <;> rfl
theorem Dg.mem {a : Addr} {k : D} {o : Option D} (h : Dg L a k o) :
    (∃ w kvs i, ((a, w, O.dK kvs) ∈ L ∨ ∃ od ws, (a, w, O.fK kvs od ws) ∈ L) ∧ k = .int i ∧ o = aget kvs i) ∨
    (∃ w kvs ks, ((a, w, O.dT kvs) ∈ L ∨ (a, w, O.rT kvs) ∈ L ∨ ∃ od ws, (a, w, O.fT kvs od ws) ∈ L) ∧ k = .tup (ks.map D.int) ∧ o = aget kvs ks) ∨
    ∃ w kvs ks, (a, w, O.dL kvs) ∈ L ∧ k = .tup (ks.map D.int) ∧ o = (aget kvs ks).map fun p => D.ref p.1 := by
  induction h with
  | dK => exact .inl ⟨_, _, _, .inl List.mem_cons_self, rfl, rfl⟩
  | fK => exact .inl ⟨_, _, _, .inr ⟨_, _, List.mem_cons_self⟩, rfl, rfl⟩
  | dT => exact .inr (.inl ⟨_, _, _, .inl List.mem_cons_self, rfl, rfl⟩)
  | rT => exact .inr (.inl ⟨_, _, _, .inr (.inl List.mem_cons_self), rfl, rfl⟩)
  | fT => exact .inr (.inl ⟨_, _, _, .inr (.inr ⟨_, _, List.mem_cons_self⟩), rfl, rfl⟩)
  | dL => exact .inr (.inr ⟨_, _, _, List.mem_cons_self, rfl, rfl⟩)
  | tl _ ih =>
    rcases ih with ⟨w, kvs, i, h | ⟨_, _, h⟩, e⟩ | ⟨w, kvs, i, h | h | ⟨_, _, h⟩, e⟩ | ⟨w, kvs, i, h, e⟩
    · exact .inl ⟨_, _, _, .inl (List.mem_cons_of_mem _ h), e⟩
    · exact .inl ⟨_, _, _, .inr ⟨_, _, List.mem_cons_of_mem _ h⟩, e⟩
    · exact .inr (.inl ⟨_, _, _, .inl (List.mem_cons_of_mem _ h), e⟩)
    · exact .inr (.inl ⟨_, _, _, .inr (.inl (List.mem_cons_of_mem _ h)), e⟩)
    · exact .inr (.inl ⟨_, _, _, .inr (.inr ⟨_, _, List.mem_cons_of_mem _ h⟩), e⟩)
    · exact .inr (.inr ⟨_, _, _, List.mem_cons_of_mem _ h, e⟩)
theorem kl_get {kvs : List (List Int × Addr × List D)} {ws : List (List Key × V)} (h : Kl H kvs ws) (k : List Int) :
    valV ws (keyT k) = (aget kvs k).map fun p => V.ref p.1 := by
  induction h with
  | nil => rfl
  | @cons p q l1 l2 r _ ih =>
    by_cases e : p.1 = k
    · have e2 : q.1 = keyT k := by rw [r.1, e]
      rw [aget_pos e, valV_pos e2, r.2.1] <;> rfl
    · have e2 : ¬ q.1 = keyT k := fun z => e (keyT_inj _ _ (r.1.symm.trans z))
      rw [aget_neg e, valV_neg e2]
      exact ih
theorem Dg.get {a : Addr} {k : D} {o : Option D} {y : V} (h : Dg L a k o) (w : Ow K H0 M L H) (ry : Rp H k y) : ∃ ov, DGet H a y ov ∧ (o = none → ov = none) ∧ ∀ d, o = some d → ∃ v, ov = some v ∧ Rp H d v := by
  have tup : ∀ (kvs : List (List Int × D)) (ks : List Int) (ws : List (List Key × V)), Rd H a (.dT ws) → Kr keyT H kvs ws → k = .tup (ks.map D.int) → o = aget kvs ks → ∃ ov, DGet H a y ov ∧ (o = none → ov = none) ∧ ∀ d, o = some d → ∃ v, ov = some v ∧ Rp H d v := fun kvs ks ws h1 h2 ek eo => by
    subst ek eo
    obtain ⟨b, rfl, hb⟩ := key_tup ry
    exact ⟨_, .inr ⟨ws, keyT ks, b, h1, rfl, hb, rfl⟩, kr_get keyT_inj h2 ks⟩
  have int : ∀ (kvs : List (Int × D)) (i : Int) (ws : List (Key × V)), Rd H a (.dK ws) → Kr keyI H kvs ws → k = .int i → o = aget kvs i → ∃ ov, DGet H a y ov ∧ (o = none → ov = none) ∧ ∀ d, o = some d → ∃ v, ov = some v ∧ Rp H d v := fun kvs i ws h1 h2 ek eo => by
    subst ek eo
    exact ⟨_, .inl ⟨ws, keyI i, h1, ry, rfl⟩, kr_get keyI_inj h2 i⟩
  rcases h.mem with ⟨b, kvs, i, h | ⟨od, ws, h⟩, e1, e2⟩ | ⟨b, kvs, i, h | h | ⟨od, ws, h⟩, e1, e2⟩ | ⟨b, kvs, i, h, e1, e2⟩
  · obtain ⟨ws, h1, h2, _⟩ := w.ho _ h
    exact int kvs i ws (.inl h1) h2 e1 e2
  · obtain ⟨h1, h2, _⟩ := w.ho _ h
    exact int kvs i ws (.inr ⟨od, h1⟩) h2 e1 e2
  · obtain ⟨ws, h1, h2, _⟩ := w.ho _ h
    exact tup kvs i ws (.inl h1) h2 e1 e2
  · obtain ⟨ws, h1, h2⟩ := w.ho _ h
    exact tup kvs i ws h1 h2 e1 e2
  · obtain ⟨h1, h2, _⟩ := w.ho _ h
    exact tup kvs i ws (.inr ⟨od, h1⟩) h2 e1 e2
  · obtain ⟨ws, h1, h2⟩ := w.ho _ h
    subst e1 e2
    obtain ⟨b, rfl, hb⟩ := key_tup ry
    refine ⟨_, .inr ⟨ws, keyT i, b, .inl h1, rfl, hb, rfl⟩, fun z => ?_, fun d z => ?_⟩
    · rw [kl_get h2]
      cases q : aget kvs i with
      | none => rfl
      | some p => rw [q] at z; cases z
    · rw [kl_get h2]
      cases q : aget kvs i with
      | none => rw [q] at z; cases z
      | some p => rw [q] at z; cases z; exact ⟨_, rfl, rfl⟩
end
end XR
-- KAbs3
set_option Elab.async false
set_option linter.all false
set_option maxRecDepth 100000
/-! what a reading makes of values without addresses -/
namespace XR
open PySem PySem.Spec PyProof.Rows L2

section
variable (K : PySem.W.Frag) (H0 : Hp) (M : List Addr)
/-- the answers that P allows are answers that Q wants -/
def An (ds : List (Option D)) (σ : L2.St) (H : Hp) (P : D → Fp → Prop) (Q : VK) : Prop := ∀ d L v H', P d L → Rp H' d v → As K H0 M ds L σ H' → Tx H H' → Q v H'
def Ea (te : TE) (ds : List (Option D)) (L : Fp) (P : D → Fp → Prop) : Prop := ∀ σ H Q, As K H0 M ds L σ H → An K H0 M ds σ H P Q → te σ H Q
def Et (tt : TT) (ds : List (Option D)) (L : Fp) (P : Bool → Fp → Prop) : Prop := ∀ σ H (Q : Bool → Hp → Prop), As K H0 M ds L σ H → (∀ b L' H', P b L' → As K H0 M ds L' σ H' → Tx H H' → Q b H') → tt σ H Q
def El (ta : TA) (ds : List (Option D)) (L : Fp) (P : List D → Fp → Prop) : Prop := ∀ σ H (Q : List V → Hp → Prop), As K H0 M ds L σ H → (∀ xs L' vs H', P xs L' → Rps H' xs vs → As K H0 M ds L' σ H' → Tx H H' → Q vs H') → ta σ H Q
/-- an operation on two values, on one, a call -/
def Rb (r : R2) (x y : D) (L : Fp) (P : D → Fp → Prop) : Prop := ∀ ds σ H u v Q, As K H0 M ds L σ H → Rp H x u → Rp H y v → An K H0 M ds σ H P Q → r u v H Q
def Rc (r : List V → Hp → VK → Prop) (xs : List D) (L : Fp) (P : D → Fp → Prop) : Prop := ∀ ds σ H vs Q, As K H0 M ds L σ H → Rps H xs vs → An K H0 M ds σ H P Q → r vs H Q
/-- a method's call -/
def Rm (r : V → List V → Hp → VK → Prop) (x : D) (xs : List D) (L : Fp) (P : D → Fp → Prop) : Prop := ∀ ds σ H u vs Q, As K H0 M ds L σ H → Rp H x u → Rps H xs vs → An K H0 M ds σ H P Q → r u vs H Q
end
/-- both ways of an answer -/
def Cnd (c : Bool) (A B : Prop) : Prop := (c = true → A) ∧ (c = false → B)
theorem cndT {A B : Prop} (h : A) : Cnd true A B := ⟨fun _ => h, fun z => by cases z⟩
theorem cndF {A B : Prop} (h : B) : Cnd false A B := ⟨fun z => (by cases z), fun _ => h⟩
theorem cndD {p : Prop} [Decidable p] {A B : Prop} (h1 : p → A) (h2 : ¬ p → B) : Cnd (decide p) A B := ⟨fun z => h1 (of_decide_eq_true z), fun z => h2 (of_decide_eq_false z)⟩
theorem cndN {p : Prop} [Decidable p] {A B : Prop} (h1 : ¬ p → A) (h2 : p → B) : Cnd (!decide p) A B := by
  by_cases h : p
  · rw [decide_eq_true h]
    exact cndF (h2 h)
  · rw [decide_eq_false h]
    exact cndT (h1 h)

section
variable {K : PySem.W.Frag} {H0 H H' : Hp} {M : List Addr} {L L' L1 : Fp} {ds : List (Option D)} {σ : L2.St} {P : D → Fp → Prop} {Pb : Bool → Fp → Prop} {Pl : List D → Fp → Prop}
theorem An.tx {Q : VK} (n : An K H0 M ds σ H P Q) (e : Tx H H') : An K H0 M ds σ H' P Q := fun d L v H2 p r a e2 => n d L v H2 p r a (e.trans e2)
/-- the answer at hand -/
theorem An.now {Q : VK} {d : D} {v : V} (n : An K H0 M ds σ H P Q) (p : P d L) (r : Rp H d v) (a : As K H0 M ds L σ H) : Q v H := n d L v H p r a (Tx.refl H)
theorem ea_to {te : TE} {P' : D → Fp → Prop} (h : Ea K H0 M te ds L P) (k : ∀ d L, P d L → P' d L) : Ea K H0 M te ds L P' := fun σ H Q a n => h σ H Q a fun d L v H' p r a' e => n d L v H' (k d L p) r a' e

/-! ### names, constants -/
theorem ea_var {i : Nat} {d : D} (h : ds[i]? = some (some d)) (k : P d L) : Ea K H0 M (tVar i) ds L P := fun σ H Q a n => by
  obtain ⟨v, e, r⟩ := a.sl.get h
  exact ⟨v, e, n.now k r a⟩
theorem ea_int {i : Int} (k : P (.int i) L) : Ea K H0 M (tC (.int i)) ds L P := fun σ H Q a n => n.now k (show Rp H (.int i) (.int i) from rfl) a
theorem ea_bl {i : Bool} (k : P (.bl i) L) : Ea K H0 M (tC (.bl i)) ds L P := fun σ H Q a n => n.now k (show Rp H (.bl i) (.bl i) from rfl) a
theorem ea_non (k : P .non L) : Ea K H0 M (tC .non) ds L P := fun σ H Q a n => n.now k (show Rp H .non .non from rfl) a
theorem ea_op {r : R2} {ta tb : TE} (h : Ea K H0 M ta ds L fun x L1 => Ea K H0 M tb ds L1 fun y L2 => Rb K H0 M r x y L2 P) : Ea K H0 M (tOp r ta tb) ds L P := fun σ H Q a n =>
  h σ H _ a fun x L1 u H1 p1 r1 a1 e1 => p1 σ H1 _ a1 fun y L2 v H2 p2 r2 a2 e2 => p2 ds σ H2 u v Q a2 (Rp.tx e2 x r1) r2 (n.tx (e1.trans e2))
theorem ea_un {g : Int → V} {ta : TE} (h : Ea K H0 M ta ds L fun x L1 => ∃ i d, x = .int i ∧ (∀ H, Rp H d (g i)) ∧ P d L1) : Ea K H0 M (tUn (rU g) ta) ds L P := fun σ H Q a n =>
  h σ H _ a fun x L1 u H1 ⟨i, d, ex, hd, p⟩ r1 a1 e1 => by
    subst ex
    exact ⟨i, r1, (n.tx e1).now p (hd H1) a1⟩

/-! ### numbers -/
theorem rb_I0 {g : Int → Int → V} {i j : Int} {d : D} (hd : ∀ H, Rp H d (g i j)) (k : P d L) : Rb K H0 M (rI0 g) (.int i) (.int j) L P := fun ds σ H u v Q a r1 r2 n => ⟨i, j, r1, r2, n.now k (hd H) a⟩
theorem rb_I {C : Int → Int → Prop} {g : Int → Int → V} {i j : Int} {d : D} (hd : ∀ H, Rp H d (g i j)) (hc : C i j) (k : P d L) : Rb K H0 M (rI C g) (.int i) (.int j) L P := fun ds σ H u v Q a r1 r2 n => ⟨i, j, r1, r2, hc, n.now k (hd H) a⟩
abbrev rAddI : R2 := rI0 fun i j => .int (i + j)
abbrev rSubI : R2 := rI0 fun i j => .int (i - j)
abbrev rMulI : R2 := rI CMul fun i j => .int (i * j)
abbrev rDivI : R2 := rI CDiv fun i j => .int (i / j)
abbrev rModI : R2 := rI (fun _ j => 0 < j) fun i j => .int (i % j)
abbrev rShlI : R2 := rI CPow fun i j => .int (i * 2 ^ j.toNat)
abbrev rShrI : R2 := rI (fun _ j => 0 ≤ j) fun i j => .int (i / 2 ^ j.toNat)
abbrev rAndI : R2 := rI0 fun i j => .int (Builtin.bitAnd i j)
abbrev rLtI : R2 := rI0 fun i j => .bl (decide (i < j))
abbrev rLeI : R2 := rI0 fun i j => .bl (decide (i ≤ j))
abbrev rGtI : R2 := rI0 fun i j => .bl (decide (j < i))
abbrev rGeI : R2 := rI0 fun i j => .bl (decide (j ≤ i))
theorem rb_add {i j : Int} (k : P (.int (i + j)) L) : Rb K H0 M rAddI (.int i) (.int j) L P := rb_I0 (d := .int (i + j)) (fun _ => rfl) k
theorem rb_sub {i j : Int} (k : P (.int (i - j)) L) : Rb K H0 M rSubI (.int i) (.int j) L P := rb_I0 (d := .int (i - j)) (fun _ => rfl) k
theorem rb_mul {i j : Int} (h : CMul i j) (k : P (.int (i * j)) L) : Rb K H0 M rMulI (.int i) (.int j) L P := rb_I (d := .int (i * j)) (fun _ => rfl) h k
theorem rb_div {i j : Int} (h : 0 < j) (h2 : j < 1073741824) (k : P (.int (i / j)) L) : Rb K H0 M rDivI (.int i) (.int j) L P := rb_I (d := .int (i / j)) (fun _ => rfl) ⟨h, h2⟩ k
theorem rb_mod {i j : Int} (h : 0 < j) (k : P (.int (i % j)) L) : Rb K H0 M rModI (.int i) (.int j) L P := rb_I (d := .int (i % j)) (fun _ => rfl) h k
theorem rb_shl {i j : Int} (h : CPow i j) (k : P (.int (i * 2 ^ j.toNat)) L) : Rb K H0 M rShlI (.int i) (.int j) L P := rb_I (d := .int (i * 2 ^ j.toNat)) (fun _ => rfl) h k
theorem rb_shr {i j : Int} (h : 0 ≤ j) (k : P (.int (i / 2 ^ j.toNat)) L) : Rb K H0 M rShrI (.int i) (.int j) L P := rb_I (d := .int (i / 2 ^ j.toNat)) (fun _ => rfl) h k
theorem rb_and {i j : Int} (k : P (.int (Builtin.bitAnd i j)) L) : Rb K H0 M rAndI (.int i) (.int j) L P := rb_I0 (d := .int (Builtin.bitAnd i j)) (fun _ => rfl) k
theorem rb_lt {i j : Int} (k : P (.bl (decide (i < j))) L) : Rb K H0 M rLtI (.int i) (.int j) L P := rb_I0 (d := .bl (decide (i < j))) (fun _ => rfl) k
theorem rb_le {i j : Int} (k : P (.bl (decide (i ≤ j))) L) : Rb K H0 M rLeI (.int i) (.int j) L P := rb_I0 (d := .bl (decide (i ≤ j))) (fun _ => rfl) k
theorem rb_gt {i j : Int} (k : P (.bl (decide (j < i))) L) : Rb K H0 M rGtI (.int i) (.int j) L P := rb_I0 (d := .bl (decide (j < i))) (fun _ => rfl) k
theorem rb_ge {i j : Int} (k : P (.bl (decide (j ≤ i))) L) : Rb K H0 M rGeI (.int i) (.int j) L P := rb_I0 (d := .bl (decide (j ≤ i))) (fun _ => rfl) k
theorem rb_eqI {i j : Int} (k : P (.bl (decide (i = j))) L) : Rb K H0 M rEq (.int i) (.int j) L P := fun ds σ H u v Q a r1 r2 n => by
  cases (show u = .int i from r1)
  cases (show v = .int j from r2)
  refine ⟨rfl, ?_⟩
  rw [dec_int, Bool.beq_eq_decide_eq]
  exact n.now k (show Rp H (.bl (decide (i = j))) _ from rfl) a
theorem rb_neI {i j : Int} (k : P (.bl (!decide (i = j))) L) : Rb K H0 M rNe (.int i) (.int j) L P := fun ds σ H u v Q a r1 r2 n => by
  cases (show u = .int i from r1)
  cases (show v = .int j from r2)
  refine ⟨rfl, ?_⟩
  rw [dec_int, Bool.beq_eq_decide_eq]
  exact n.now k (show Rp H (.bl (!decide (i = j))) _ from rfl) a
theorem rb_eqB {i j : Bool} (k : P (.bl (i == j)) L) : Rb K H0 M rEq (.bl i) (.bl j) L P := fun ds σ H u v Q a r1 r2 n => by
  cases (show u = .bl i from r1)
  cases (show v = .bl j from r2)
  refine ⟨rfl, ?_⟩
  rw [dec_bl]
  exact n.now k (show Rp H (.bl (i == j)) _ from rfl) a
/-- is None -/
def D.isN : D → Bool
  | .non => true
  | _ => false
theorem isN_of {d : D} {v : V} (r : Rp H d v) : decide (v = V.non) = d.isN := by
  cases d with
  | non => rw [show v = .non from r] <;> rfl
  | int i => rw [show v = .int i from r] <;> rfl
  | bl i => rw [show v = .bl i from r] <;> rfl
  | ref i => rw [show v = .ref i from r] <;> rfl
  | ty i => rw [show v = .ty i from r] <;> rfl
  | tup i =>
    obtain ⟨a, _, e, _⟩ := r
    rw [e] <;> rfl
abbrev rIsN : R2 := fun x y H Q => y = .non ∧ Q (.bl (decide (x = .non))) H
abbrev rNotN : R2 := fun x y H Q => y = .non ∧ Q (.bl (!decide (x = .non))) H
theorem rb_isN {x : D} (k : P (.bl x.isN) L) : Rb K H0 M rIsN x .non L P := fun ds σ H u v Q a r1 r2 n => by
  refine ⟨r2, ?_⟩
  rw [isN_of r1]
  exact n.now k (show Rp H (.bl x.isN) _ from rfl) a
theorem rb_notN {x : D} (k : P (.bl (!x.isN)) L) : Rb K H0 M rNotN x .non L P := fun ds σ H u v Q a r1 r2 n => by
  refine ⟨r2, ?_⟩
  rw [isN_of r1]
  exact n.now k (show Rp H (.bl (!x.isN)) _ from rfl) a

/-! ### items -/
theorem rb_ixL {a : Addr} {xs : List D} {i : Int} {d : D} (h : At L a xs) (hi : atI xs i = some d) (k : P d L) : Rb K H0 M (rIxL K) (.ref a) (.int i) L P := fun ds σ H u v Q A r1 r2 n => by
  obtain ⟨vs, h1, h2⟩ := h.seq A.ow
  unfold atI at hi
  obtain ⟨j, hj, hd⟩ := Option.bind_eq_some_iff.mp hi
  obtain ⟨x, hx, rx⟩ := h2.get hd
  refine ⟨a, vs, i, x, r1, r2, h1, ?_, n.now k rx A⟩
  unfold atI
  rw [h2.len, hj]
  exact hx
theorem rb_ixT {xs : List D} {i : Int} {d : D} (hi : atI xs i = some d) (k : P d L) : Rb K H0 M (rIxT K) (.tup xs) (.int i) L P := fun ds σ H u v Q A r1 r2 n => by
  obtain ⟨a, vs, e, h1, h2⟩ := r1
  unfold atI at hi
  obtain ⟨j, hj, hd⟩ := Option.bind_eq_some_iff.mp hi
  obtain ⟨x, hx, rx⟩ := h2.get hd
  refine ⟨a, vs, i, x, e, r2, .inl (.inl h1), ?_, n.now k rx A⟩
  unfold atI
  rw [h2.len, hj]
  exact hx
theorem ea_dget {td ty : TE} (h : Ea K H0 M td ds L fun x L1 => Ea K H0 M ty ds L1 fun y L2 => ∃ a d, x = .ref a ∧ Dg L2 a y (some d) ∧ P d L2) : Ea K H0 M (tDGet td ty) ds L P := fun σ H Q A n =>
  h σ H _ A fun x L1 u H1 p1 r1 a1 e1 => p1 σ H1 _ a1 fun y L2 v H2 ⟨a, d, ex, g, p⟩ r2 a2 e2 => by
    subst ex
    obtain ⟨ov, g1, _, g3⟩ := g.get a2.ow r2
    obtain ⟨z, ez, rz⟩ := g3 d rfl
    rw [ez] at g1
    exact ⟨a, z, r1, g1, (n.tx (e1.trans e2)).now p rz a2⟩
theorem ea_din {ty td : TE} (h : Ea K H0 M ty ds L fun y L1 => Ea K H0 M td ds L1 fun x L2 => ∃ a o, x = .ref a ∧ Dg L2 a y o ∧ P (.bl o.isSome) L2) : Ea K H0 M (tDIn ty td) ds L P := fun σ H Q A n =>
  h σ H _ A fun y L1 u H1 p1 r1 a1 e1 => p1 σ H1 _ a1 fun x L2 v H2 ⟨a, o, ex, g, p⟩ r2 a2 e2 => by
    subst ex
    obtain ⟨ov, g1, g2, g3⟩ := g.get a2.ow (Rp.tx e2 y r1)
    have e : ov.isSome = o.isSome := by
      cases o with
      | none =>
        rw [g2 rfl]
        rfl
      | some d =>
        obtain ⟨z, ez, _⟩ := g3 d rfl
        rw [ez] <;> rfl
    refine ⟨a, ov, r2, g1, ?_⟩
    rw [e]
    exact (n.tx (e1.trans e2)).now p (show Rp H2 (.bl o.isSome) _ from rfl) a2
theorem ea_dnin {ty td : TE} (h : Ea K H0 M ty ds L fun y L1 => Ea K H0 M td ds L1 fun x L2 => ∃ a o, x = .ref a ∧ Dg L2 a y o ∧ P (.bl (!o.isSome)) L2) : Ea K H0 M (tDNotIn ty td) ds L P := fun σ H Q A n =>
  h σ H _ A fun y L1 u H1 p1 r1 a1 e1 => p1 σ H1 _ a1 fun x L2 v H2 ⟨a, o, ex, g, p⟩ r2 a2 e2 => by
    subst ex
    obtain ⟨ov, g1, g2, g3⟩ := g.get a2.ow (Rp.tx e2 y r1)
    have e : ov.isSome = o.isSome := by
      cases o with
      | none =>
        rw [g2 rfl]
        rfl
      | some d =>
        obtain ⟨z, ez, _⟩ := g3 d rfl
        rw [ez] <;> rfl
    refine ⟨a, ov, r2, g1, ?_⟩
    rw [e]
    exact (n.tx (e1.trans e2)).now p (show Rp H2 (.bl (!o.isSome)) _ from rfl) a2
theorem Dg.isD {a : Addr} {y : D} {o : Option D} (g : Dg L a y o) (w : Ow K H0 M L H) : IsD H a := by
  rcases g.mem with ⟨b, kvs, i, h | ⟨od, ws, h⟩, _⟩ | ⟨b, kvs, i, h | h | ⟨od, ws, h⟩, _⟩ | ⟨b, kvs, i, h, _⟩
  · obtain ⟨ws, h1, h2, _⟩ := w.ho _ h
    exact .inl ⟨ws, .inl h1⟩
  · obtain ⟨h1, h2⟩ := w.ho _ h
    exact .inl ⟨ws, .inr ⟨od, h1⟩⟩
  · obtain ⟨ws, h1, h2, _⟩ := w.ho _ h
    exact .inr ⟨ws, .inl h1⟩
  · obtain ⟨ws, h1, h2⟩ := w.ho _ h
    exact .inr ⟨ws, h1⟩
  · obtain ⟨h1, h2⟩ := w.ho _ h
    exact .inr ⟨ws, .inr ⟨od, h1⟩⟩
  · obtain ⟨ws, h1, h2⟩ := w.ho _ h
    exact .inr ⟨ws, .inl h1⟩
/-- d.get(k), d.get(k, x); the dict is known ahead of the key's reading -/
theorem ea_dget1 {td ty : TE} (h : Ea K H0 M td ds L fun x L1 => ∃ a y0 o0, x = .ref a ∧ Dg L1 a y0 o0 ∧ Ea K H0 M ty ds L1 fun y L2 => ∃ o, Dg L2 a y o ∧ P (o.getD .non) L2) : Ea K H0 M (tDGet1 td ty) ds L P := fun σ H Q A n =>
  h σ H _ A fun x L1 u H1 ⟨a, y0, o0, ex, g0, p1⟩ r1 a1 e1 => by
    subst ex
    refine ⟨a, r1, g0.isD a1.ow, p1 σ H1 _ a1 fun y L2 v H2 ⟨o, g, p⟩ r2 a2 e2 => ?_⟩
    obtain ⟨ov, g1, g2, g3⟩ := g.get a2.ow r2
    refine ⟨ov, g1, ?_⟩
    cases o with
    | none =>
      rw [g2 rfl]
      exact (n.tx (e1.trans e2)).now p (show Rp H2 .non _ from rfl) a2
    | some d =>
      obtain ⟨z, ez, rz⟩ := g3 d rfl
      rw [ez]
      exact (n.tx (e1.trans e2)).now p rz a2
theorem ea_dget2 {td ty tx : TE} (h : Ea K H0 M td ds L fun x L1 => ∃ a y0 o0, x = .ref a ∧ Dg L1 a y0 o0 ∧ Ea K H0 M ty ds L1 fun y L2 => Ea K H0 M tx ds L2 fun z L3 => ∃ o, Dg L3 a y o ∧ P (o.getD z) L3) : Ea K H0 M (tDGet2 td ty tx) ds L P := fun σ H Q A n =>
  h σ H _ A fun x L1 u H1 ⟨a, y0, o0, ex, g0, p1⟩ r1 a1 e1 => by
    subst ex
    refine ⟨a, r1, g0.isD a1.ow, p1 σ H1 _ a1 fun y L2 v H2 p2 r2 a2 e2 => p2 σ H2 _ a2 fun z L3 v3 H3 ⟨o, g, p⟩ r3 a3 e3 => ?_⟩
    obtain ⟨ov, g1, g2, g3⟩ := g.get a3.ow (Rp.tx e3 y r2)
    refine ⟨ov, g1, ?_⟩
    have nn := n.tx ((e1.trans e2).trans e3)
    cases o with
    | none =>
      rw [g2 rfl]
      exact nn.now p r3 a3
    | some d =>
      obtain ⟨z, ez, rz⟩ := g3 d rfl
      rw [ez]
      exact nn.now p rz a3

/-! ### argument lists, displays, calls -/
theorem el_nil (k : Pl [] L) : El K H0 M tNil ds L Pl := fun σ H Q a n => n [] L [] H k rfl a (Tx.refl H)
theorem el_cons {te : TE} {ta : TA} (h : Ea K H0 M te ds L fun x L1 => El K H0 M ta ds L1 fun xs L2 => Pl (x :: xs) L2) : El K H0 M (tCons te ta) ds L Pl := fun σ H Q A n =>
  h σ H _ A fun x L1 u H1 p1 r1 a1 e1 => p1 σ H1 _ a1 fun xs L2 vs H2 p2 r2 a2 e2 => n (x :: xs) L2 (u :: vs) H2 p2 (Rps.cons (Rp.tx e2 x r1) r2) a2 (e1.trans e2)
theorem As.newT (A : As K H0 M ds L σ H) {p : Addr} (hp : H p = none) (u : HO) : As K H0 M ds L σ (upd H p u) := A.mo (Mo.new hp)
theorem ea_tup {ta : TA} (h : El K H0 M ta ds L fun xs L1 => xs.length ≤ 1000 ∧ P (.tup xs) L1) : Ea K H0 M (tTup ta) ds L P := fun σ H Q A n =>
  h σ H _ A fun xs L1 vs H1 ⟨hz, p1⟩ r1 a1 e1 => ⟨by rw [r1.len]; exact line_le (by omega), fun p hp =>
    n (.tup xs) L1 (.ref p) _ p1 ⟨p, vs, rfl, upd_same, Rps.tx (Mo.new hp).tx _ r1⟩ (a1.newT hp _) (e1.trans (Mo.new hp).tx)⟩
/-- a new object -/
theorem As.add (A : As K H0 M ds L σ H) {p : Addr} {o : O} {u : HO} (hp : H p = none) (ho : o.own = true) (hd : o.adr = []) (h : Ho K (upd H p u) p o) : As K H0 M ds (L ++ [(p, true, o)]) σ (upd H p u) :=
  ⟨A.sl.tx (Mo.new hp).tx, A.ow.add hp ho hd h⟩
theorem As.addL (A : As K H0 M ds L σ H) {p : Addr} {xs : List D} {vs : List V} (hp : H p = none) (r : Rps H xs vs) : As K H0 M ds (L ++ [(p, true, .lst xs)]) σ (upd H p (.lst vs)) :=
  A.add hp rfl rfl ⟨vs, upd_same, Rps.tx (Mo.new hp).tx _ r⟩
theorem ea_lst {ta : TA} (h : El K H0 M ta ds L fun xs L1 => xs.length ≤ 1000 ∧ ∀ p, P (.ref p) (L1 ++ [(p, true, .lst xs)])) : Ea K H0 M (tLst ta) ds L P := fun σ H Q A n =>
  h σ H _ A fun xs L1 vs H1 ⟨hz, p1⟩ r1 a1 e1 => ⟨by rw [r1.len]; exact line_le (by omega), fun p hp =>
    n (.ref p) _ (.ref p) _ (p1 p) rfl (a1.addL hp r1) (e1.trans (Mo.new hp).tx)⟩
theorem ea_dnewK (h : ∀ p, P (.ref p) (L ++ [(p, true, .dK [])])) : Ea K H0 M tDNewK ds L P := fun σ H Q A n p hp =>
  n (.ref p) _ (.ref p) _ (h p) rfl (A.add (o := .dK []) hp rfl rfl ⟨[], upd_same, .nil, List.nodup_nil⟩) (Mo.new hp).tx
theorem ea_dnewT (h : ∀ p, P (.ref p) (L ++ [(p, true, .dT [])])) : Ea K H0 M tDNewT ds L P := fun σ H Q A n p hp =>
  n (.ref p) _ (.ref p) _ (h p) rfl (A.add (o := .dT []) hp rfl rfl ⟨[], upd_same, .nil, List.nodup_nil⟩) (Mo.new hp).tx
/-- an empty dict that is to hold lists -/
theorem ea_dnewL (h : ∀ p, P (.ref p) (L ++ [(p, true, .dL [])])) : Ea K H0 M tDNewT ds L P := fun σ H Q A n p hp =>
  n (.ref p) _ (.ref p) _ (h p) rfl (A.add (o := .dL []) hp rfl rfl ⟨[], upd_same, .nil⟩) (Mo.new hp).tx
theorem ea_cb {r : List V → Hp → VK → Prop} {ta : TA} (h : El K H0 M ta ds L fun xs L1 => Rc K H0 M r xs L1 P) : Ea K H0 M (tCB r ta) ds L P := fun σ H Q A n =>
  h σ H _ A fun xs L1 vs H1 p1 r1 a1 e1 => p1 ds σ H1 vs Q a1 r1 (n.tx e1)
/-- a list's method -/
theorem At.ty {a : Addr} {xs : List D} (h : At L a xs) (w : Ow K H0 M L H) : tyV K "list" (.ref a) H := by
  obtain ⟨vs, h1, _⟩ := h.seq w
  exact .inl ⟨rfl, _, h1⟩
theorem ea_bmL {r : V → List V → Hp → VK → Prop} {to : TE} {ta : TA} (h : Ea K H0 M to ds L fun x L1 => ∃ a xs, x = .ref a ∧ At L1 a xs ∧ El K H0 M ta ds L1 fun ys L2 => Rm K H0 M r (.ref a) ys L2 P) : Ea K H0 M (tBM K "list" r to ta) ds L P := fun σ H Q A n =>
  h σ H _ A fun x L1 u H1 ⟨a, xs, ex, ha, p1⟩ r1 a1 e1 => by
    subst ex
    cases (show u = .ref a from r1)
    exact ⟨ha.ty a1.ow, p1 σ H1 _ a1 fun ys L2 vs H2 p2 r2 a2 e2 => p2 ds σ H2 (.ref a) vs Q a2 rfl r2 (n.tx (e1.trans e2))⟩
theorem ea_bm0L {r : V → List V → Hp → VK → Prop} {to : TE} (h : Ea K H0 M to ds L fun x L1 => ∃ a xs, x = .ref a ∧ At L1 a xs ∧ Rm K H0 M r (.ref a) [] L1 P) : Ea K H0 M (tBM0 K "list" r to) ds L P := fun σ H Q A n =>
  h σ H _ A fun x L1 u H1 ⟨a, xs, ex, ha, p1⟩ r1 a1 e1 => by
    subst ex
    cases (show u = .ref a from r1)
    exact ⟨ha.ty a1.ow, p1 ds σ H1 (.ref a) [] Q a1 rfl rfl (n.tx e1)⟩
theorem As.put (A : As K H0 M ds L σ H) {a : Addr} {o o' : O} {u : HO} (hu : Up L a o o' L') (hs : o.own = true) (hs' : o'.own = true) (hd : o.adr = o'.adr) (h : Tx H (upd H a u) → Ho K (upd H a u) a o') : As K H0 M ds L' σ (upd H a u) ∧ Tx H (upd H a u) := by
  have tx : Tx H (upd H a u) := put_tx A.ow hu.mem hs List.mem_cons_self
  exact ⟨⟨A.sl.tx tx, A.ow.put hu hs hs' hd List.mem_cons_self (h tx)⟩, tx⟩
theorem rm_append {a : Addr} {xs : List D} {d : D} (hu : Up L a (.lst xs) (.lst (xs ++ [d])) L') (hz : xs.length < 100000) (k : P .non L') : Rm K H0 M rAppend (.ref a) [d] L P := fun ds σ H u vs Q A r1 r2 n => by
  obtain ⟨v, r, rfl, rv, e⟩ := r2
  cases (show r = [] from e)
  obtain ⟨ws, h1, h2⟩ := A.ow.ho _ hu.mem
  obtain ⟨A2, tx⟩ := A.put (u := .lst (ws ++ [v])) hu rfl rfl rfl fun tx => ⟨_, upd_same, (Rps.tx tx _ h2).app (Rps.cons (Rp.tx tx d rv) Rps.nil)⟩
  exact ⟨a, ws, v, r1, rfl, h1, by rw [h2.len]; exact line_lt hz, n .non L' .non _ k rfl A2 tx⟩
theorem rm_pop {a : Addr} {xs : List D} {d : D} (hu : Up L a (.lst (xs ++ [d])) (.lst xs) L') (k : P d L') : Rm K H0 M rPop (.ref a) [] L P := fun ds σ H u vs Q A r1 r2 n => by
  cases (show vs = [] from r2)
  obtain ⟨ws, h1, h2⟩ := A.ow.ho _ hu.mem
  obtain ⟨v, e, rv⟩ := h2.get (i := xs.length) (d := d) (by simp)
  have el : ws.length = xs.length + 1 := by rw [h2.len] <;> simp
  obtain ⟨A2, tx⟩ := A.put (u := .lst ws.dropLast) hu rfl rfl rfl fun tx => ⟨_, upd_same, by
    have q := (Rps.tx tx _ h2).take xs.length
    rw [List.take_left] at q
    have ed : ws.dropLast = ws.take xs.length := by rw [List.dropLast_eq_take, el, Nat.add_sub_cancel]
    rw [← ed] at q
    exact q⟩
  exact ⟨a, ws, v, r1, rfl, h1, by rw [el]; exact e, n d L' v _ k (Rp.tx tx d rv) A2 tx⟩
theorem rm_popAt {a : Addr} {xs : List D} {j : Nat} {d : D} (hj : xs[j]? = some d) (hz : xs.length < 100000) (hu : Up L a (.lst xs) (.lst (xs.eraseIdx j)) L') (k : P d L') : Rm K H0 M rPopAt (.ref a) [.int (j : Int)] L P := fun ds σ H u vs Q A r1 r2 n => by
  obtain ⟨v, r, rfl, rv, e⟩ := r2
  cases (show r = [] from e)
  obtain ⟨ws, h1, h2⟩ := A.ow.ho _ hu.mem
  obtain ⟨v', ev, rv'⟩ := h2.get hj
  have hlt : j < xs.length := (List.getElem?_eq_some_iff.mp hj).1
  obtain ⟨A2, tx⟩ := A.put (u := .lst (ws.eraseIdx j)) hu rfl rfl rfl fun tx => ⟨_, upd_same, (Rps.tx tx _ h2).erase j⟩
  refine ⟨a, ws, (j : Int), j, v', r1, by rw [show v = V.int j from rv], h1, by omega, by omega, ?_, ev, n d L' v' _ k (Rp.tx tx d rv') A2 tx⟩
  have q : ixN ws.length (j : Int) = some j := by
    unfold ixN
    rw [if_pos (by omega), if_pos (by rw [h2.len]; omega)]
    simp
  exact (ixN_seq q).1

/-! ### tests -/
theorem et_test {te : TE} (h : Ea K H0 M te ds L fun x L1 => ∃ b, x = .bl b ∧ Pb b L1) : Et K H0 M (tTest te) ds L Pb := fun σ H Q A n =>
  h σ H _ A fun x L1 u H1 ⟨b, ex, p⟩ r1 a1 e1 => by
    subst ex
    exact ⟨b, r1, n b L1 H1 p a1 e1⟩
theorem et_B {te : TE} (h : Ea K H0 M te ds L fun x L1 => ∃ b, x = .bl b ∧ Pb b L1) : Et K H0 M (tB te) ds L Pb := et_test h
theorem et_and {t u : TT} (h : Et K H0 M t ds L fun c L1 => Cnd c (Et K H0 M u ds L1 Pb) (Pb false L1)) : Et K H0 M (tAnd t u) ds L Pb := fun σ H Q A n =>
  h σ H _ A fun c L1 H1 p a1 e1 => by
    cases c with
    | true => exact p.1 rfl σ H1 Q a1 fun b L2 H2 p2 a2 e2 => n b L2 H2 p2 a2 (e1.trans e2)
    | false => exact n false L1 H1 (p.2 rfl) a1 e1
theorem et_or {t u : TT} (h : Et K H0 M t ds L fun c L1 => Cnd c (Pb true L1) (Et K H0 M u ds L1 Pb)) : Et K H0 M (tOr t u) ds L Pb := fun σ H Q A n =>
  h σ H _ A fun c L1 H1 p a1 e1 => by
    cases c with
    | true => exact n true L1 H1 (p.1 rfl) a1 e1
    | false => exact p.2 rfl σ H1 Q a1 fun b L2 H2 p2 a2 e2 => n b L2 H2 p2 a2 (e1.trans e2)
theorem et_not {t : TT} (h : Et K H0 M t ds L fun c L1 => Pb (!c) L1) : Et K H0 M (tNot t) ds L Pb := fun σ H Q A n => h σ H _ A fun c L1 H1 p a1 e1 => n _ L1 H1 p a1 e1
theorem ea_andV {ta tb : TE} (h : Ea K H0 M ta ds L fun x L1 => ∃ c, x = .bl c ∧ Cnd c (Ea K H0 M tb ds L1 P) (P (.bl false) L1)) : Ea K H0 M (tAndV ta tb) ds L P := fun σ H Q A n =>
  h σ H _ A fun x L1 u H1 ⟨c, ex, p⟩ r1 a1 e1 => by
    subst ex
    refine ⟨c, r1, ?_⟩
    cases c with
    | true => exact p.1 rfl σ H1 Q a1 (n.tx e1)
    | false => exact (n.tx e1).now (p.2 rfl) (show Rp H1 (.bl false) _ from rfl) a1
theorem ea_orV {ta tb : TE} (h : Ea K H0 M ta ds L fun x L1 => ∃ c, x = .bl c ∧ Cnd c (P (.bl true) L1) (Ea K H0 M tb ds L1 P)) : Ea K H0 M (tOrV ta tb) ds L P := fun σ H Q A n =>
  h σ H _ A fun x L1 u H1 ⟨c, ex, p⟩ r1 a1 e1 => by
    subst ex
    refine ⟨c, r1, ?_⟩
    cases c with
    | true => exact (n.tx e1).now (p.1 rfl) (show Rp H1 (.bl true) _ from rfl) a1
    | false => exact p.2 rfl σ H1 Q a1 (n.tx e1)
theorem ea_notV {ta : TE} (h : Ea K H0 M ta ds L fun x L1 => ∃ c, x = .bl c ∧ P (.bl (!c)) L1) : Ea K H0 M (tNotV ta) ds L P := fun σ H Q A n =>
  h σ H _ A fun x L1 u H1 ⟨c, ex, p⟩ r1 a1 e1 => by
    subst ex
    exact ⟨c, r1, (n.tx e1).now p (show Rp H1 (.bl (!c)) _ from rfl) a1⟩
/-- a slice of a list -/
def cutD (xs : List D) (lo hi : Option Int) : List D := (xs.drop (HT.sIx xs.length 0 lo)).take (HT.sIx xs.length xs.length hi - HT.sIx xs.length 0 lo)
def Eo (K : PySem.W.Frag) (H0 : Hp) (M : List Addr) (to : TO) (ds : List (Option D)) (L : Fp) (P : Option Int → Fp → Prop) : Prop := ∀ σ H (Q : Option Int → Hp → Prop), As K H0 M ds L σ H → (∀ o L' H', P o L' → As K H0 M ds L' σ H' → Tx H H' → Q o H') → to σ H Q
theorem eo_none {Po : Option Int → Fp → Prop} (k : Po none L) : Eo K H0 M tNoPart ds L Po := fun σ H Q A n => n none L H k A (Tx.refl H)
theorem eo_some {Po : Option Int → Fp → Prop} {te : TE} (h : Ea K H0 M te ds L fun x L1 => ∃ i, x = .int i ∧ Po (some i) L1) : Eo K H0 M (tPart te) ds L Po := fun σ H Q A n =>
  h σ H _ A fun x L1 u H1 ⟨i, ex, p⟩ r1 a1 e1 => by
    subst ex
    exact ⟨i, r1, n (some i) L1 H1 p a1 e1⟩
theorem ea_sl {te : TE} {tl th : TO} (h : Ea K H0 M te ds L fun x L1 => Eo K H0 M tl ds L1 fun lo L2 => Eo K H0 M th ds L2 fun hi L3 => ∃ a xs, x = .ref a ∧ At L3 a xs ∧ ∀ p, P (.ref p) (L3 ++ [(p, true, .lst (cutD xs lo hi))])) :
    Ea K H0 M (tSl (rSlL K) te tl th) ds L P := fun σ H Q A n =>
  h σ H _ A fun x L1 u H1 p1 r1 a1 e1 => p1 σ H1 _ a1 fun lo L2 H2 p2 a2 e2 => p2 σ H2 _ a2 fun hi L3 H3 ⟨a, xs, ex, ha, p3⟩ a3 e3 => by
    subst ex
    obtain ⟨vs, h1, h2⟩ := ha.seq a3.ow
    refine ⟨a, vs, r1, h1, fun p hp => ?_⟩
    have r : Rps H3 (cutD xs lo hi) (cutV vs lo hi) := by
      unfold cutD cutV
      rw [h2.len]
      exact (h2.drop _).take _
    exact n (.ref p) _ (.ref p) _ (p3 p) rfl (a3.addL hp r) (((e1.trans e2).trans e3).trans (Mo.new hp).tx)
end
end XR
-- KAbs4
set_option Elab.async false
set_option linter.all false
set_option maxRecDepth 100000
/-! statements, loops, comprehensions, what a def promises -/
namespace XR
open PySem PySem.Spec PyProof.Rows L2

/-- the ways out of a statement -/
structure Kt where
  nx : List (Option D) → Fp → Prop
  rt : D → Fp → Prop
  bk : List (Option D) → Fp → Prop := fun _ _ => False
  ct : List (Option D) → Fp → Prop := fun _ _ => False
section
variable (K : PySem.W.Frag) (H0 : Hp) (M : List Addr)
structure Ok (k : Kt) (E : Ends) (H : Hp) : Prop where
  nx : ∀ ds L σ H', k.nx ds L → As K H0 M ds L σ H' → Tx H H' → E.nx σ H'
  rt : ∀ d L v H', k.rt d L → Rp H' d v → Ow K H0 M L H' → Tx H H' → E.rt v H'
  bk : ∀ ds L σ H', k.bk ds L → As K H0 M ds L σ H' → Tx H H' → E.bk σ H'
  ct : ∀ ds L σ H', k.ct ds L → As K H0 M ds L σ H' → Tx H H' → E.ct σ H'
def Tr (t : TS) (ds : List (Option D)) (L : Fp) (k : Kt) : Prop := ∀ σ H E, As K H0 M ds L σ H → Ok K H0 M k E H → t E σ H
def Ag (g : TG) (d : D) (ds : List (Option D)) (L : Fp) (P : List (Option D) → Fp → Prop) : Prop := ∀ σ H v (Q : L2.St → Hp → Prop), As K H0 M ds L σ H → Rp H d v → (∀ ds' L' σ' H', P ds' L' → As K H0 M ds' L' σ' H' → Tx H H' → Q σ' H') → g v σ H Q
def Ags (g : TGs) (xs : List D) (ds : List (Option D)) (L : Fp) (P : List (Option D) → Fp → Prop) : Prop := ∀ σ H vs (Q : L2.St → Hp → Prop), As K H0 M ds L σ H → Rps H xs vs → (∀ ds' L' σ' H', P ds' L' → As K H0 M ds' L' σ' H' → Tx H H' → Q σ' H') → g vs σ H Q
end
section
variable {K : PySem.W.Frag} {H0 H H' : Hp} {M : List Addr} {L L' L1 : Fp} {ds : List (Option D)} {σ : L2.St} {k : Kt}
theorem Ok.tx {E : Ends} (o : Ok K H0 M k E H) (e : Tx H H') : Ok K H0 M k E H' :=
  ⟨fun ds L σ H2 p a t => o.nx ds L σ H2 p a (e.trans t), fun d L v H2 p r a t => o.rt d L v H2 p r a (e.trans t), fun ds L σ H2 p a t => o.bk ds L σ H2 p a (e.trans t), fun ds L σ H2 p a t => o.ct ds L σ H2 p a (e.trans t)⟩
/-! ### small statements -/
theorem tr_next (h : k.nx ds L) : Tr K H0 M tNext ds L k := fun σ H E A o => o.nx ds L σ H h A (Tx.refl H)
theorem tr_seq {t u : TS} (h : Tr K H0 M t ds L { k with nx := fun ds' L' => Tr K H0 M u ds' L' k }) : Tr K H0 M (tSeq t u) ds L k := fun σ H E A o =>
  h σ H _ A ⟨fun ds' L' σ' H' p a e => p σ' H' E a (o.tx e), o.rt, o.bk, o.ct⟩
theorem tr_asg {te : TE} {g : TG} (h : Ea K H0 M te ds L fun d L1 => Ag K H0 M g d ds L1 k.nx) : Tr K H0 M (tAsg te g) ds L k := fun σ H E A o =>
  h σ H _ A fun d L1 v H1 p r a e => p σ H1 v _ a r fun ds' L' σ' H' q a' e' => o.nx ds' L' σ' H' q a' (e.trans e')
theorem ag_name {i : Nat} {d : D} {P : List (Option D) → Fp → Prop} (h : P (ds.set i (some d)) L) : Ag K H0 M (gName i) d ds L P := fun σ H v Q A r n => n _ L _ H h ⟨A.sl.set i r, A.ow⟩ (Tx.refl H)
theorem tr_set {te : TE} {i : Nat} (h : Ea K H0 M te ds L fun d L1 => k.nx (ds.set i (some d)) L1) : Tr K H0 M (tAsg te (gName i)) ds L k := tr_asg (ea_to h fun d L p => ag_name p)
theorem ags_nil {P : List (Option D) → Fp → Prop} (h : P ds L) : Ags K H0 M gNil [] ds L P := fun σ H vs Q A r n => ⟨r, n ds L σ H h A (Tx.refl H)⟩
theorem ags_cons {g : TG} {gs : TGs} {d : D} {xs : List D} {P : List (Option D) → Fp → Prop} (h : Ag K H0 M g d ds L fun ds' L' => Ags K H0 M gs xs ds' L' P) : Ags K H0 M (gCons g gs) (d :: xs) ds L P := fun σ H vs Q A r n => by
  obtain ⟨v, r', rfl, rv, rr⟩ := r
  exact ⟨v, r', rfl, h σ H v _ A rv fun ds' L' σ' H' p a e => p σ' H' r' Q a (Rps.tx e _ rr) fun d2 l2 s2 h2 p2 a2 e2 => n d2 l2 s2 h2 p2 a2 (e.trans e2)⟩
theorem ag_tup {n : Nat} {gs : TGs} {xs : List D} {P : List (Option D) → Fp → Prop} (hn : xs.length = n) (h : Ags K H0 M gs xs ds L P) : Ag K H0 M (gTup K n gs) (.tup xs) ds L P := fun σ H v Q A r q => by
  obtain ⟨a, vs, e, h1, h2⟩ := r
  exact ⟨a, vs, e, .inl (.inl h1), by rw [h2.len, hn], h σ H vs Q A h2 q⟩
/-- xs[i] = e -/
theorem tr_setL {te to ti : TE} (h : Ea K H0 M te ds L fun d L1 => Ea K H0 M to ds L1 fun x L2 => Ea K H0 M ti ds L2 fun y L3 => ∃ a xs i j L4, x = .ref a ∧ y = .int i ∧ Up L3 a (.lst xs) (.lst (xs.set j d)) L4 ∧ ixN xs.length i = some j ∧ k.nx ds L4) : Tr K H0 M (tAsg te (gSub to ti rSetL)) ds L k := fun σ H E A o =>
  h σ H _ A fun d L1 v H1 p1 r1 a1 e1 => p1 σ H1 _ a1 fun x L2 u H2 p2 r2 a2 e2 => p2 σ H2 _ a2 fun y L3 w H3 ⟨a, xs, i, j, L4, ex, ey, hu, hj, p3⟩ r3 a3 e3 => by
    subst ex ey
    obtain ⟨vs, h1, h2⟩ := a3.ow.ho _ hu.mem
    have rd := Rp.tx (e2.trans e3) d r1
    obtain ⟨A2, tx⟩ := a3.put (u := .lst (vs.set j v)) hu rfl rfl rfl fun tx => ⟨_, upd_same, (Rps.tx tx _ h2).set j (Rp.tx tx d rd)⟩
    exact ⟨a, vs, i, j, r2, r3, h1, by rw [h2.len]; exact hj, o.nx ds L4 σ _ p3 A2 (((e1.trans e2).trans e3).trans tx)⟩
theorem dp_put {a : Addr} {y d : D} {u v : V} (A : As K H0 M ds L σ H) (h : Dp L a y d L') (ry : Rp H y u) (rd : Rp H d v) : ∃ H', DPut H a u v H' ∧ As K H0 M ds L' σ H' ∧ Tx H H' := by
  cases h with
  | @dK _ kvs i _ _ _ hu hz =>
    obtain ⟨ws, h1, h2, h3⟩ := A.ow.ho _ hu.mem
    obtain ⟨A2, tx⟩ := A.put (u := .dK (putK ws (keyI i) v)) hu rfl rfl rfl fun tx => ⟨_, upd_same, kr_put keyI_inj (Kr.tx tx h2) h3 i (Rp.tx tx d rd), aput_nodup h3⟩
    have hl : ws.length = kvs.length := (Paired.length h2).symm
    exact ⟨_, .inl ⟨ws, keyI i, h1, ry, by rw [hl]; exact line_lt hz, rfl⟩, A2, tx⟩
  | @dT _ kvs ks _ _ _ hu hz =>
    obtain ⟨ws, h1, h2, h3⟩ := A.ow.ho _ hu.mem
    obtain ⟨b, rfl, hb⟩ := key_tup ry
    obtain ⟨A2, tx⟩ := A.put (u := .dT (putK ws (keyT ks) v)) hu rfl rfl rfl fun tx => ⟨_, upd_same, kr_put keyT_inj (Kr.tx tx h2) h3 ks (Rp.tx tx d rd), aput_nodup h3⟩
    have hl : ws.length = kvs.length := (Paired.length h2).symm
    exact ⟨_, .inr ⟨ws, keyT ks, b, h1, rfl, hb, by rw [hl]; exact line_lt hz, rfl⟩, A2, tx⟩
theorem tr_dput {td ty tv : TE} (h : Ea K H0 M tv ds L fun d L1 => Ea K H0 M td ds L1 fun x L2 => Ea K H0 M ty ds L2 fun y L3 => ∃ a L4, x = .ref a ∧ Dp L3 a y d L4 ∧ k.nx ds L4) : Tr K H0 M (sDPut td ty tv) ds L k := fun σ H E A o =>
  h σ H _ A fun d L1 v H1 p1 r1 a1 e1 => p1 σ H1 _ a1 fun x L2 u H2 p2 r2 a2 e2 => p2 σ H2 _ a2 fun y L3 w H3 ⟨a, L4, ex, hp, p3⟩ r3 a3 e3 => by
    subst ex
    obtain ⟨H4, g, A4, tx⟩ := dp_put a3 hp r3 (Rp.tx (e2.trans e3) d r1)
    exact ⟨a, H4, r2, g, o.nx ds L4 σ H4 p3 A4 (((e1.trans e2).trans e3).trans tx)⟩
theorem tr_drop {te : TE} (h : Ea K H0 M te ds L fun _ L1 => k.nx ds L1) : Tr K H0 M (tDrop te) ds L k := fun σ H E A o => h σ H _ A fun d L1 v H1 p r a e => o.nx ds L1 σ H1 p a e
theorem tr_ret {te : TE} (h : Ea K H0 M te ds L k.rt) : Tr K H0 M (tRet te) ds L k := fun σ H E A o => h σ H _ A fun d L1 v H1 p r a e => o.rt d L1 v H1 p r a.ow e
theorem tr_retN (h : k.rt .non L) : Tr K H0 M tRetN ds L k := fun σ H E A o => o.rt .non L .non H h rfl A.ow (Tx.refl H)
theorem tr_if {c : TT} {t u : TS} (h : Et K H0 M c ds L fun b L1 => Cnd b (Tr K H0 M t ds L1 k) (Tr K H0 M u ds L1 k)) : Tr K H0 M (tIfS c t u) ds L k := fun σ H E A o =>
  h σ H _ A fun b L1 H1 p a e => by
    cases b with
    | true => exact p.1 rfl σ H1 E a (o.tx e)
    | false => exact p.2 rfl σ H1 E a (o.tx e)
theorem tr_never (h : False) {t : TS} : Tr K H0 M t ds L k := h.elim
/-- a dict's entry with an int key is taken out -/
theorem ea_dpop1 {td ty : TE} {P : D → Fp → Prop} (h : Ea K H0 M td ds L fun x L1 => ∃ a y0 o0, x = .ref a ∧ Dg L1 a y0 o0 ∧ Ea K H0 M ty ds L1 fun y L2 => ∃ i kvs d L3, y = .int i ∧ aget kvs i = some d ∧ Up L2 a (.dK kvs) (.dK (adrop kvs i)) L3 ∧ P d L3) : Ea K H0 M (tDPop1 td ty) ds L P := fun σ H Q A n =>
  h σ H _ A fun x L1 u H1 ⟨a, y0, o0, ex, g0, p1⟩ r1 a1 e1 => by
    subst ex
    refine ⟨a, r1, g0.isD a1.ow, p1 σ H1 _ a1 fun y L2 v H2 ⟨i, kvs, d, L3, ey, hd, hu, p⟩ r2 a2 e2 => ?_⟩
    subst ey
    obtain ⟨ws, h1, h2, h3⟩ := a2.ow.ho _ hu.mem
    obtain ⟨z, ez, rz⟩ := (kr_get keyI_inj h2 i).2 d hd
    obtain ⟨A2, tx⟩ := a2.put (u := .dK (dropK ws (keyI i))) hu rfl rfl rfl fun tx => ⟨_, upd_same, kr_drop keyI_inj (Kr.tx tx h2) i, h3.sublist (List.Sublist.map _ List.filter_sublist)⟩
    exact ⟨ws, keyI i, z, h1, r2, ez, n d L3 z _ p (Rp.tx tx d rz) A2 ((e1.trans e2).trans tx)⟩

/-! ### loops -/
/-- J walks n items while stay holds, over a heap that has all tuples of Hb -/
structure AW (K : PySem.W.Frag) (H0 : Hp) (M : List Addr) (Hb : Hp) (J : It) (n : Nat) (item : Nat → D) (stay : Fp → Prop) : Prop where
  go : ∀ i ds L σ H, i < n → stay L → As K H0 M ds L σ H → Tx Hb H → J.go i H
  stop : ∀ ds L σ H, stay L → As K H0 M ds L σ H → Tx Hb H → J.stop n H
  yld : ∀ i ds L σ H x H', i < n → stay L → As K H0 M ds L σ H → Tx Hb H → J.yld i H x H' → Rp H' (item i) x ∧ As K H0 M ds L σ H' ∧ Tx H H'
def Ai (K : PySem.W.Frag) (H0 : Hp) (M : List Addr) (wi : TI) (ds : List (Option D)) (L : Fp) (Pi : Nat → (Nat → D) → (Fp → Prop) → Fp → Prop) : Prop :=
  ∀ σ H (R : It → Hp → Prop), As K H0 M ds L σ H → (∀ J H1 n item stay L1, Pi n item stay L1 → AW K H0 M H1 J n item stay → As K H0 M ds L1 σ H1 → Tx H H1 → R J H1) → wi σ H R
theorem tr_for {wi : TI} {g : TG} {tb : TS} (h : Ai K H0 M wi ds L fun n item stay L1 => ∃ I : Nat → List (Option D) → Fp → Prop, I 0 ds L1 ∧ (∀ i ds L, i ≤ n → I i ds L → stay L) ∧
      (∀ i ds L, i < n → I i ds L → Ag K H0 M g (item i) ds L fun ds2 L2 => Tr K H0 M tb ds2 L2 ⟨I (i + 1), k.rt, k.nx, I (i + 1)⟩) ∧ ∀ ds L, I n ds L → k.nx ds L) : Tr K H0 M (tFor wi g tb) ds L k := fun σ H E A o =>
  h σ H _ A fun J H1 n item stay L1 ⟨I, i0, ist, stp, fin⟩ w a1 e1 => by
    refine ⟨fun i m σ H => m = n - i ∧ i ≤ n ∧ Tx H1 H ∧ ∃ ds L, I i ds L ∧ As K H0 M ds L σ H, ⟨n, rfl, Nat.zero_le _, Tx.refl _, ds, L1, i0, a1⟩, ?_⟩
    rintro i m σ H ⟨rfl, hi, tx, ds, L, hI, a⟩
    have st := ist i ds L hi hI
    by_cases hlt : i < n
    · refine .inr ⟨w.go i ds L σ H hlt st a tx, fun σ' H' => Tx H1 H' ∧ ∃ ds L, I (i + 1) ds L ∧ As K H0 M ds L σ' H', fun σ' H' ⟨t, d, l, q, b⟩ => ⟨n - (i + 1), by omega, rfl, hlt, t, d, l, q, b⟩, fun x H' y => ?_⟩
      obtain ⟨rx, a', e'⟩ := w.yld i ds L σ H x H' hlt st a tx y
      refine stp i ds L hlt hI σ H' x _ a' rx fun ds2 L2 σ2 H2 p a2 e2 => p σ2 H2 _ a2 ?_
      have t2 : Tx H1 H2 := (tx.trans e').trans e2
      have t3 : Tx H1 H2 := t2
      exact ⟨fun d l s h q b t => ⟨t2.trans t, d, l, q, b⟩, fun d l v h q r b t => o.rt d l v h q r b ((e1.trans t2).trans t), fun d l s h q b t => o.nx d l s h q b ((e1.trans t2).trans t), fun d l s h q b t => ⟨t2.trans t, d, l, q, b⟩⟩
    · have e : i = n := by omega
      subst e
      exact .inl ⟨w.stop ds L σ H st a tx, o.nx ds L σ H (fin ds L hI) a (e1.trans tx)⟩
theorem tr_while {c : TT} {tb : TS} (W : Nat → List (Option D) → Fp → Prop) (m0 : Nat) (w0 : W m0 ds L)
    (hs : ∀ m ds L, W m ds L → Et K H0 M c ds L fun b L1 => Cnd b (Tr K H0 M tb ds L1 ⟨fun ds2 L2 => ∃ m', m' < m ∧ W m' ds2 L2, k.rt, k.nx, fun ds2 L2 => ∃ m', m' < m ∧ W m' ds2 L2⟩) (k.nx ds L1)) : Tr K H0 M (tWhile c tb) ds L k := fun σ H E A o => by
  refine ⟨fun m σ H' => Tx H H' ∧ ∃ ds L, W m ds L ∧ As K H0 M ds L σ H', ⟨m0, Tx.refl _, ds, L, w0, A⟩, ?_⟩
  rintro m σ' H' ⟨t, ds', L', hw, a⟩
  refine hs m ds' L' hw σ' H' _ a fun b L1 H1 p a1 e1 => ?_
  cases b with
  | true =>
    refine ⟨fun σ2 H2 => Tx H H2 ∧ ∃ m', m' < m ∧ ∃ ds2 L2, W m' ds2 L2 ∧ As K H0 M ds2 L2 σ2 H2, fun σ2 H2 ⟨t2, m', hm, d2, l2, q, b⟩ => ⟨m', hm, t2, d2, l2, q, b⟩, p.1 rfl σ' H1 _ a1 ?_⟩
    have t1 : Tx H H1 := t.trans e1
    exact ⟨fun d l s h ⟨m', hm, q⟩ b t2 => ⟨t1.trans t2, m', hm, d, l, q, b⟩, fun d l v h q r b t2 => o.rt d l v h q r b (t1.trans t2), fun d l s h q b t2 => o.nx d l s h q b (t1.trans t2), fun d l s h ⟨m', hm, q⟩ b t2 => ⟨t1.trans t2, m', hm, d, l, q, b⟩⟩
  | false => exact o.nx ds' L1 σ' H1 (p.2 rfl) a1 (t.trans e1)

/-! ### what is walked -/
section
variable {Pi : Nat → (Nat → D) → (Fp → Prop) → Fp → Prop}
theorem getD_rp {xs : List D} {vs : List V} {i : Nat} {v : V} (h : Rps H xs vs) (e : vs[i]? = some v) : Rp H (xs.getD i .non) v := by
  obtain ⟨d, e1, r⟩ := h.getV e
  rw [List.getD_eq_getElem?_getD, e1]
  exact r
theorem aw_list {Hb : Hp} {a : Addr} {xs : List D} : AW K H0 M Hb (Itl K a) xs.length (fun i => xs.getD i .non) (fun L => At L a xs) := by
  refine ⟨fun i ds L σ H hi h A _ => ?_, fun ds L σ H h A _ => ?_, fun i ds L σ H x H' hi h A _ y => ?_⟩
  · obtain ⟨vs, h1, h2⟩ := h.seq A.ow
    exact ⟨vs, vs[i]'(by rw [h2.len]; exact hi), h1, List.getElem?_eq_getElem _⟩
  · obtain ⟨vs, h1, h2⟩ := h.seq A.ow
    exact ⟨vs, h1, by rw [h2.len]; exact Nat.le_refl _⟩
  · obtain ⟨vs, h1, h2⟩ := h.seq A.ow
    obtain ⟨e, y⟩ := y
    subst e
    exact ⟨getD_rp h2 (y vs h1), A, Tx.refl _⟩
theorem ai_list {tl : TE} (h : Ea K H0 M tl ds L fun x L1 => ∃ a xs, x = .ref a ∧ At L1 a xs ∧ Pi xs.length (fun i => xs.getD i .non) (fun L => At L a xs) L1) : Ai K H0 M (iList K tl) ds L Pi := fun σ H R A n =>
  h σ H _ A fun x L1 v H1 ⟨a, xs, ex, ha, p⟩ r a1 e1 => by
    subst ex
    obtain ⟨vs, h1, h2⟩ := ha.seq a1.ow
    exact ⟨a, r, ⟨vs, h1⟩, n _ H1 _ _ _ L1 p aw_list a1 e1⟩
theorem ai_tup {tl : TE} (h : Ea K H0 M tl ds L fun x L1 => ∃ xs, x = .tup xs ∧ Pi xs.length (fun i => xs.getD i .non) (fun _ => True) L1) : Ai K H0 M (iTup K tl) ds L Pi := fun σ H R A n =>
  h σ H _ A fun x L1 v H1 ⟨xs, ex, p⟩ r a1 e1 => by
    subst ex
    obtain ⟨a, vs, ev, h1, h2⟩ := r
    have st : ∀ {H}, Tx H1 H → SqT K H a vs := fun t => .inl (.inl (t a vs h1))
    refine ⟨a, ev, ⟨vs, st (Tx.refl _)⟩, n _ H1 _ _ _ L1 p ⟨fun i ds L σ H hi _ A t => ⟨vs, vs[i]'(by rw [h2.len]; exact hi), st t, List.getElem?_eq_getElem _⟩, fun ds L σ H _ A t => ⟨vs, st t, by rw [h2.len]; exact Nat.le_refl _⟩, fun i ds L σ H x H' hi _ A t y => ?_⟩ a1 e1⟩
    obtain ⟨e, y⟩ := y
    subst e
    exact ⟨Rp.tx t _ (getD_rp h2 (y vs (st t))), A, Tx.refl _⟩
theorem aw_range {Hb : Hp} {lo : Int} {n : Nat} : AW K H0 M Hb (Itr lo n) n (fun i => .int (lo + i)) (fun _ => True) :=
  ⟨fun i ds L σ H hi _ A _ => hi, fun ds L σ H _ A _ => Nat.le_refl _, fun i ds L σ H x H' hi _ A _ y => by
    obtain ⟨e, y⟩ := y
    subst e
    exact ⟨y, A, Tx.refl _⟩⟩
theorem ai_range1 {ta : TA} (h : El K H0 M ta ds L fun xs L1 => ∃ j : Int, xs = [.int j] ∧ (j < 100000 ∧ -100000 < j) ∧ Pi j.toNat (fun i => .int (0 + i)) (fun _ => True) L1) : Ai K H0 M (iRng1 ta) ds L Pi := fun σ H R A n =>
  h σ H _ A fun xs L1 vs H1 ⟨j, ex, ⟨hj, hj2⟩, p⟩ r a1 e1 => by
    subst ex
    obtain ⟨v, q, ev, rv, rq⟩ := r
    cases (show q = [] from rq)
    exact ⟨j, by rw [ev, show v = V.int j from rv], by omega, by omega, n _ H1 _ _ _ L1 p aw_range a1 e1⟩
theorem ai_range2 {ta : TA} (h : El K H0 M ta ds L fun xs L1 => ∃ i j : Int, xs = [.int i, .int j] ∧ (j < 100000 ∧ -100000 < j ∧ i < 100000 ∧ -100000 < i) ∧ Pi (j - i).toNat (fun m => .int (i + m)) (fun _ => True) L1) : Ai K H0 M (iRng2 ta) ds L Pi := fun σ H R A n =>
  h σ H _ A fun xs L1 vs H1 ⟨i, j, ex, ⟨hj, hj2, hj3, hj4⟩, p⟩ r a1 e1 => by
    subst ex
    obtain ⟨v, q, ev, rv, v2, q2, ev2, rv2, rq⟩ := r
    cases (show q2 = [] from rq)
    exact ⟨i, j, by rw [ev, ev2, show v = V.int i from rv, show v2 = V.int j from rv2], ⟨by omega, by omega, by omega, by omega⟩, n _ H1 _ _ _ L1 p aw_range a1 e1⟩
theorem rp_pair {p : Addr} {d e : D} {x y : V} (hp : H p = none) (rx : Rp H d x) (ry : Rp H e y) : Rp (upd H p (.tup [x, y])) (.tup [d, e]) (.ref p) :=
  ⟨p, [x, y], rfl, upd_same, Rps.tx (Mo.new hp).tx [d, e] (Rps.cons rx (Rps.cons ry Rps.nil))⟩
theorem ai_enum {ta : TA} (h : El K H0 M ta ds L fun ys L1 => ∃ a xs, ys = [.ref a] ∧ At L1 a xs ∧ Pi xs.length (fun i => .tup [.int (i : Nat), xs.getD i .non]) (fun L => At L a xs) L1) : Ai K H0 M (iEnum K ta) ds L Pi := fun σ H R A n =>
  h σ H _ A fun ys L1 vs H1 ⟨a, xs, ex, ha, p⟩ r a1 e1 => by
    subst ex
    obtain ⟨v, q, ev, rv, rq⟩ := r
    cases (show q = [] from rq)
    obtain ⟨ws, h1, h2⟩ := ha.seq a1.ow
    refine ⟨a, ws, by rw [ev, show v = V.ref a from rv], h1, n _ H1 _ _ _ L1 p ⟨fun i ds L σ H hi h A _ => ?_, fun ds L σ H h A _ => ?_, fun i ds L σ H x H' hi h A _ y => ?_⟩ a1 e1⟩
    · obtain ⟨vs, h3, h4⟩ := h.seq A.ow
      exact ⟨vs, vs[i]'(by rw [h4.len]; exact hi), h3, List.getElem?_eq_getElem _⟩
    · obtain ⟨vs, h3, h4⟩ := h.seq A.ow
      exact ⟨vs, h3, by rw [h4.len]; exact Nat.le_refl _⟩
    · obtain ⟨vs, h3, h4⟩ := h.seq A.ow
      obtain ⟨T, z, e5, e6, e7, e8⟩ := y
      subst e5 e7
      exact ⟨rp_pair e6 (show Rp H (.int (i : Nat)) _ from rfl) (getD_rp h4 (e8 vs h3)), A.newT e6 _, (Mo.new e6).tx⟩
theorem ai_zip {ta : TA} (h : El K H0 M ta ds L fun zs L1 => ∃ a b xs ys, zs = [.ref a, .ref b] ∧ At L1 a xs ∧ At L1 b ys ∧ Pi (min xs.length ys.length) (fun i => .tup [xs.getD i .non, ys.getD i .non]) (fun L => At L a xs ∧ At L b ys) L1) : Ai K H0 M (iZip K ta) ds L Pi := fun σ H R A n =>
  h σ H _ A fun zs L1 vs H1 ⟨a, b, xs, ys, ex, ha, hb, p⟩ r a1 e1 => by
    subst ex
    obtain ⟨v, q, ev, rv, v2, q2, ev2, rv2, rq⟩ := r
    cases (show q2 = [] from rq)
    obtain ⟨ws, h1, h2⟩ := ha.seq a1.ow
    obtain ⟨us, h3, h4⟩ := hb.seq a1.ow
    refine ⟨a, b, ws, us, by rw [ev, ev2, show v = V.ref a from rv, show v2 = V.ref b from rv2], h1, h3, n _ H1 _ _ _ L1 p ⟨fun i ds L σ H hi h A _ => ?_, fun ds L σ H h A _ => ?_, fun i ds L σ H x H' hi h A _ y => ?_⟩ a1 e1⟩
    · obtain ⟨vs, h5, h6⟩ := h.1.seq A.ow
      obtain ⟨ts, h7, h8⟩ := h.2.seq A.ow
      exact ⟨vs, ts, vs[i]'(by rw [h6.len]; omega), ts[i]'(by rw [h8.len]; omega), h5, h7, List.getElem?_eq_getElem _, List.getElem?_eq_getElem _⟩
    · obtain ⟨vs, h5, h6⟩ := h.1.seq A.ow
      obtain ⟨ts, h7, h8⟩ := h.2.seq A.ow
      exact ⟨vs, ts, h5, h7, by rw [h6.len, h8.len]; omega⟩
    · obtain ⟨vs, h5, h6⟩ := h.1.seq A.ow
      obtain ⟨ts, h7, h8⟩ := h.2.seq A.ow
      obtain ⟨T, z, z2, e5, e6, e7, e8, e9⟩ := y
      subst e5 e7
      exact ⟨rp_pair e6 (getD_rp h6 (e8 vs h5)) (getD_rp h8 (e9 ts h7)), A.newT e6 _, (Mo.new e6).tx⟩
end
/-! ### a dict walked under its lock -/
theorem kr_at {κ ι : Type} {f : κ → ι} {kvs : List (κ × D)} {ws : List (ι × V)} (h : Kr f H kvs ws) : ∀ {i : Nat} {p : κ × D}, kvs[i]? = some p → ∃ q, ws[i]? = some q ∧ q.1 = f p.1 ∧ Rp H p.2 q.2 := fun {i p} e => paired_get h e
theorem kr_atV {κ ι : Type} {f : κ → ι} {kvs : List (κ × D)} {ws : List (ι × V)} (h : Kr f H kvs ws) {i : Nat} {q : ι × V} (e : ws[i]? = some q) : ∃ p, kvs[i]? = some p ∧ q.1 = f p.1 ∧ Rp H p.2 q.2 := by
  have hl := Paired.length h
  have hi := (List.getElem?_eq_some_iff.mp e).1
  obtain ⟨q', e2, e3⟩ := kr_at h (List.getElem?_eq_getElem (l := kvs) (i := i) (by omega))
  rw [e] at e2
  cases e2
  exact ⟨_, List.getElem?_eq_getElem _, e3⟩
abbrev keyD (k : List Int) : D := .tup (k.map D.int)
/-- for k in d, d a dict with tuples as keys that the body leaves as it is; nothing is handed back from within -/
theorem tr_forD {td : TE} {g : TG} {tb : TS} {a : Addr} {kvs : List (List Int × D)} (hm : ∃ i, ds[i]? = some (some (.ref a)) ∧ td = tVar i)
    (hu : ∀ od ws, ∃ L1, Up L a (.dT kvs) (.fT kvs od ws) L1 ∧ ∃ I : Nat → List (Option D) → Fp → Prop, I 0 ds L1 ∧ (∀ i ds L, i ≤ kvs.length → I i ds L → (a, true, O.fT kvs od ws) ∈ L) ∧
      (∀ i ds L p, kvs[i]? = some p → I i ds L → Ag K H0 M g (keyD p.1) ds L fun ds2 L2 => Tr K H0 M tb ds2 L2 ⟨I (i + 1), fun _ _ => False, fun _ _ => False, I (i + 1)⟩) ∧
      ∀ ds L, I kvs.length ds L → ∃ L3, Up L a (.fT kvs od ws) (.dT kvs) L3 ∧ k.nx ds L3) : Tr K H0 M (tLock (tFor (iKeys td) g tb)) ds L k := fun σ H E A o => by
  obtain ⟨L0, hU0, _⟩ := hu default []
  obtain ⟨ws, h1, h2, h3⟩ := A.ow.ho _ hU0.mem
  obtain ⟨iv, hiv, rfl⟩ := hm
  refine ⟨a, .dT ws, h1, trivial, fun od => ?_⟩
  obtain ⟨L1, hU, I, i0, ist, stp, fin⟩ := hu od ws
  obtain ⟨A1, tx1⟩ := A.put (u := .frz od (.dT ws)) hU rfl rfl rfl fun tx => ⟨upd_same, Kr.tx tx h2, h3⟩
  obtain ⟨v, ev, rv⟩ := A1.sl.get hiv
  refine ⟨v, ev, a, od, rv, .inr ⟨ws, upd_same, ?_⟩⟩
  have hl : ws.length = kvs.length := (Paired.length h2).symm
  refine ⟨fun i m σ H' => m = kvs.length - i ∧ i ≤ kvs.length ∧ Tx (upd H a (.frz od (.dT ws))) H' ∧ ∃ ds L, I i ds L ∧ As K H0 M ds L σ H', ⟨kvs.length, rfl, Nat.zero_le _, Tx.refl _, ds, L1, i0, A1⟩, ?_⟩
  rintro i m σ H' ⟨rfl, hi, tx, ds, L, hI, A2⟩
  have hmem := ist i ds L hi hI
  obtain ⟨g1, g2, g3⟩ := A2.ow.ho _ hmem
  by_cases hlt : i < kvs.length
  · refine .inr ⟨⟨g1, by omega⟩, fun σ' H' => Tx (upd H a (.frz od (.dT ws))) H' ∧ ∃ ds L, I (i + 1) ds L ∧ As K H0 M ds L σ' H', fun σ' H' ⟨t, d, l, q, b⟩ => ⟨kvs.length - (i + 1), by omega, rfl, hlt, t, d, l, q, b⟩, fun x H2 y => ?_⟩
    obtain ⟨e, kk, vv, q, e1, e2, e3⟩ := y
    subst e e2
    obtain ⟨p, ep, ek, _⟩ := kr_atV g2 e1
    have rx : Rp H2 (keyD p.1) (.ref q) := ⟨q, _, rfl, e3, by
      have ek2 : kk = keyT p.1 := ek
      rw [ek2, List.map_map]
      exact Rps.ofInts p.1⟩
    refine stp i ds L p ep hI σ H2 (.ref q) _ A2 rx fun ds2 L2 σ2 H3 pp a3 e4 => pp σ2 H3 _ a3 ?_
    have t2 : Tx (upd H a (.frz od (.dT ws))) H3 := tx.trans e4
    exact ⟨fun d l s h q b t => ⟨t2.trans t, d, l, q, b⟩, fun d l v h q r b t => q.elim, fun d l s h q b t => q.elim, fun d l s h q b t => ⟨t2.trans t, d, l, q, b⟩⟩
  · have e : i = kvs.length := by omega
    subst e
    obtain ⟨L3, hU3, kn⟩ := fin ds L hI
    obtain ⟨A3, tx3⟩ := A2.put (u := .dT ws) hU3 rfl rfl rfl fun tx => ⟨ws, upd_same, Kr.tx tx g2, g3⟩
    exact .inl ⟨⟨g1, by omega⟩, g1, o.nx ds L3 σ _ kn A3 ((tx1.trans tx).trans tx3)⟩
end
end XR
-- KAbs5
set_option Elab.async false
set_option linter.all false
set_option maxRecDepth 100000
/-! comprehensions, promises, calls -/
namespace XR
open PySem PySem.Spec PyProof.Rows L2
/-! ### comprehensions -/
/-- the target stores into the names of vs alone -/
def Gw (g : TG) (vs : List Nat) : Prop := ∀ x σ H Q, g x σ H Q → g x σ H fun σ2 H2 => wipe σ2 vs = wipe σ vs ∧ Q σ2 H2
def Gws (g : TGs) (vs : List Nat) : Prop := ∀ xs σ H Q, g xs σ H Q → g xs σ H fun σ2 H2 => wipe σ2 vs = wipe σ vs ∧ Q σ2 H2
theorem set_swap {α : Type} : ∀ (l : List α) (i j : Nat) (x y : α), i ≠ j → (l.set i x).set j y = (l.set j y).set i x
  | [], _, _, _, _, _ => rfl
  | a :: l, 0, 0, _, _, h => absurd rfl h
  | a :: l, 0, j + 1, _, _, _ => rfl
  | a :: l, i + 1, 0, _, _, _ => rfl
  | a :: l, i + 1, j + 1, x, y, h => by
    rw [List.set_cons_succ, List.set_cons_succ, List.set_cons_succ, List.set_cons_succ, set_swap l i j x y (fun e => h (by rw [e]))]
theorem wipe_set : ∀ (vs : List Nat) (σ : L2.St) (i : Nat) (x : Option V), i ∈ vs → wipe (σ.set i x) vs = wipe σ vs
  | [], _, _, _, h => by cases h
  | v :: vs, σ, i, x, h => by
    show (wipe (σ.set i x) vs).set v none = (wipe σ vs).set v none
    by_cases hv : i ∈ vs
    · rw [wipe_set vs σ i x hv]
    · have e : i = v := by
        rcases List.mem_cons.mp h with e | e
        · exact e
        · exact absurd e hv
      have q : ∀ (us : List Nat), i ∉ us → wipe (σ.set i x) us = (wipe σ us).set i x := fun us hu => by
        induction us with
        | nil => rfl
        | cons u us ih =>
          show (wipe (σ.set i x) us).set u none = ((wipe σ us).set u none).set i x
          rw [ih (fun z => hu (List.mem_cons_of_mem _ z)), set_swap _ _ _ _ _ (fun z => hu (by rw [z]; exact List.mem_cons_self))]
      rw [q vs hv, e, List.set_set]
theorem wipe_idem : ∀ (vs : List Nat) (σ : L2.St), wipe (wipe σ vs) vs = wipe σ vs := fun vs σ => by
  have key : ∀ us : List Nat, (∀ u ∈ us, u ∈ vs) → wipe (wipe σ us) vs = wipe σ vs := fun us hu => by
    induction us with
    | nil => rfl
    | cons u us ih =>
      show wipe ((wipe σ us).set u none) vs = _
      rw [wipe_set vs _ u none (hu u List.mem_cons_self)]
      exact ih fun w hw => hu w (List.mem_cons_of_mem _ hw)
  exact key vs fun _ h => h
theorem gw_name {i : Nat} {vs : List Nat} (h : i ∈ vs) : Gw (gName i) vs := fun x σ H Q q => ⟨wipe_set vs σ i _ h, q⟩
theorem gws_nil {vs : List Nat} : Gws gNil vs := fun xs σ H Q ⟨e, q⟩ => ⟨e, rfl, q⟩
theorem gws_cons {g : TG} {gs : TGs} {vs : List Nat} (mono : ∀ x σ H Q Q', (∀ σ' H', Q σ' H' → Q' σ' H') → g x σ H Q → g x σ H Q') (h : Gw g vs) (hs : Gws gs vs) : Gws (gCons g gs) vs := fun xs σ H Q ⟨v, r, e, q⟩ => by
  refine ⟨v, r, e, mono _ _ _ _ _ ?_ (h v σ H _ q)⟩
  rintro σ' H' ⟨e1, q1⟩
  have q2 := hs r σ' H' _ q1
  rw [e1] at q2
  exact q2
theorem gname_mono {i : Nat} (x : V) (σ : L2.St) (H : Hp) (Q Q' : L2.St → Hp → Prop) (h : ∀ σ' H', Q σ' H' → Q' σ' H') (q : gName i x σ H Q) : gName i x σ H Q' := h _ _ q
theorem gw_tup {K : PySem.W.Frag} {n : Nat} {gs : TGs} {vs : List Nat} (h : Gws gs vs) : Gw (gTup K n gs) vs := fun x σ H Q ⟨a, xs, e, hs, hl, q⟩ => ⟨a, xs, e, hs, hl, h xs σ H Q q⟩
def wipeD (ds : List (Option D)) : List Nat → List (Option D)
  | [] => ds
  | v :: vs => (wipeD ds vs).set v none
theorem Sls.wipe {H : Hp} {ds : List (Option D)} {σ : L2.St} (h : Sls H ds σ) : ∀ vs : List Nat, Sls H (wipeD ds vs) (L2.wipe σ vs)
  | [] => h
  | v :: vs => (Sls.wipe h vs).forget v none
section
variable {K : PySem.W.Frag} {H0 H H' : Hp} {M : List Addr} {L L' L1 : Fp} {ds : List (Option D)} {σ : L2.St} {P : D → Fp → Prop}
theorem ea_lc {wi : TI} {g : TG} {tt : TT} {te : TE} {vs : List Nat} (hg : Gw g vs) (h : Ai K H0 M wi ds L fun n item stay L1 => ∀ p, ∃ I : Nat → Fp → Prop, I 0 (L1 ++ [(p, true, .lst [])]) ∧ (∀ i L, i ≤ n → I i L → stay L) ∧
      (∀ i L, i < n → I i L → Ag K H0 M g (item i) (wipeD ds vs) L fun ds2 L2 => Et K H0 M tt ds2 L2 fun b L3 => Cnd b (Ea K H0 M te ds2 L3 fun d L4 => ∃ acc L5, Up L4 p (.lst acc) (.lst (acc ++ [d])) L5 ∧ acc.length < 100000 ∧ I (i + 1) L5) (I (i + 1) L3)) ∧
      ∀ L, I n L → P (.ref p) L) : Ea K H0 M (tLc wi g tt te vs) ds L P := fun σ H Q A nn =>
  h σ H _ A fun J H1 n item stay L1 hp w a1 e1 p np => by
    obtain ⟨I, i0, ist, stp, fin⟩ := hp p
    have ap : As K H0 M ds (L1 ++ [(p, true, .lst [])]) σ (upd H1 p (.lst [])) := a1.addL np Rps.nil
    have tp : Tx H1 (upd H1 p (.lst [])) := (Mo.new np).tx
    refine ⟨fun i m H => m = n - i ∧ i ≤ n ∧ Tx H1 H ∧ ∃ L, I i L ∧ As K H0 M ds L σ H, ⟨n, rfl, Nat.zero_le _, tp, _, i0, ap⟩, ?_⟩
    rintro i m H ⟨rfl, hi, tx, L, hI, a⟩
    have st := ist i L hi hI
    by_cases hlt : i < n
    · refine .inr ⟨w.go i ds L σ H hlt st a tx, fun H' => Tx H1 H' ∧ ∃ L, I (i + 1) L ∧ As K H0 M ds L σ H', fun H' ⟨t, l, q, b⟩ => ⟨n - (i + 1), by omega, rfl, hlt, t, l, q, b⟩, fun x H' y => ?_⟩
      obtain ⟨rx, a', e'⟩ := w.yld i ds L σ H x H' hlt st a tx y
      have aw : As K H0 M (wipeD ds vs) L (wipe σ vs) H' := ⟨a'.sl.wipe vs, a'.ow⟩
      have q := stp i L hlt hI (wipe σ vs) H' x (fun σ2 H2 => tt σ2 H2 fun b H3 => if b = true then te σ2 H3 fun y H4 => ∃ acc, H4 p = some (.lst acc) ∧ acc.length < sizeLine ∧ (Tx H1 (upd H4 p (.lst (acc ++ [y]))) ∧ ∃ L, I (i + 1) L ∧ As K H0 M ds L σ (upd H4 p (.lst (acc ++ [y])))) else (Tx H1 H3 ∧ ∃ L, I (i + 1) L ∧ As K H0 M ds L σ H3)) aw rx fun ds2 L2 σ2 H2 pp a2 e2 => by
        refine pp σ2 H2 _ a2 fun b L3 H3 p3 a3 e3 => ?_
        have sl : ∀ {H4}, Tx H3 H4 → Sls H4 ds σ := fun t => a.sl.tx (((e'.trans e2).trans e3).trans t)
        have tx3 : Tx H1 H3 := ((tx.trans e').trans e2).trans e3
        cases b with
        | true =>
          show te σ2 H3 _
          refine p3.1 rfl σ2 H3 _ a3 fun d L4 v H4 ⟨acc, L5, hu, hz, hI5⟩ rv a4 e4 => ?_
          obtain ⟨ws, h1, h2⟩ := a4.ow.ho _ hu.mem
          obtain ⟨A2, tx5⟩ := a4.put (u := .lst (ws ++ [v])) hu rfl rfl rfl fun tx => ⟨_, upd_same, (Rps.tx tx _ h2).app (Rps.cons (Rp.tx tx d rv) Rps.nil)⟩
          exact ⟨ws, h1, by rw [h2.len]; exact line_lt hz, (tx3.trans e4).trans tx5, L5, hI5, sl (e4.trans tx5), A2.ow⟩
        | false =>
          show Tx H1 H3 ∧ _
          exact ⟨tx3, L3, p3.2 rfl, sl (Tx.refl _), a3.ow⟩
      have q2 := hg x (wipe σ vs) H' _ q
      rw [wipe_idem] at q2
      exact q2
    · have e : i = n := by omega
      subst e
      exact .inl ⟨w.stop ds L σ H st a tx, nn (.ref p) L (.ref p) H (fin L hI) rfl a (e1.trans tx)⟩
/-! ### the values of a dict -/
theorem tr_forV {td : TE} {g : TG} {tb : TS} {a : Addr} {kvs : List (Int × D)} {k : Kt} {L0 : Fp} (hd : ∀ od ws, ∃ L1, Up L a (.dK kvs) (.fK kvs od ws) L1 ∧ Ea K H0 M td ds L1 fun x L2 => x = .ref a ∧ L2 = L1 ∧ ∃ I : Nat → List (Option D) → Fp → Prop, I 0 ds L1 ∧ (∀ i ds L, i ≤ kvs.length → I i ds L → (a, true, O.fK kvs od ws) ∈ L) ∧
      (∀ i ds L p, kvs[i]? = some p → I i ds L → Ag K H0 M g p.2 ds L fun ds2 L2 => Tr K H0 M tb ds2 L2 ⟨I (i + 1), fun _ _ => False, fun _ _ => False, I (i + 1)⟩) ∧
      ∀ ds L, I kvs.length ds L → ∃ L3, Up L a (.fK kvs od ws) (.dK kvs) L3 ∧ k.nx ds L3) : Tr K H0 M (tLock (tFor (iVals td) g tb)) ds L k := fun σ H E A o => by
  obtain ⟨L00, hU0, _⟩ := hd default []
  obtain ⟨ws, h1, h2, h3⟩ := A.ow.ho _ hU0.mem
  refine ⟨a, .dK ws, h1, trivial, fun od => ?_⟩
  obtain ⟨L1, hU, hev⟩ := hd od ws
  obtain ⟨A1, tx1⟩ := A.put (u := .frz od (.dK ws)) hU rfl rfl rfl fun tx => ⟨upd_same, Kr.tx tx h2, h3⟩
  refine hev σ _ _ A1 fun x L2 v H2 ⟨ex, el, I, i0, ist, stp, fin⟩ rv a2 e2 => ?_
  subst ex el
  have hl : ws.length = kvs.length := (Paired.length h2).symm
  have hm0 := ist 0 ds L2 (Nat.zero_le _) i0
  obtain ⟨f1, _, _⟩ := a2.ow.ho _ hm0
  refine ⟨a, od, ws, rv, f1, ?_⟩
  refine ⟨fun i m σ H' => m = kvs.length - i ∧ i ≤ kvs.length ∧ Tx H2 H' ∧ ∃ ds L, I i ds L ∧ As K H0 M ds L σ H', ⟨kvs.length, rfl, Nat.zero_le _, Tx.refl _, ds, L2, i0, a2⟩, ?_⟩
  rintro i m σ H' ⟨rfl, hi, tx, ds, L, hI, A2⟩
  have hmem := ist i ds L hi hI
  obtain ⟨g1, g2, g3⟩ := A2.ow.ho _ hmem
  by_cases hlt : i < kvs.length
  · refine .inr ⟨⟨g1, by omega⟩, fun σ' H' => Tx H2 H' ∧ ∃ ds L, I (i + 1) ds L ∧ As K H0 M ds L σ' H', fun σ' H' ⟨t, d, l, q, b⟩ => ⟨kvs.length - (i + 1), by omega, rfl, hlt, t, d, l, q, b⟩, fun x H3 y => ?_⟩
    obtain ⟨e, kk, e1⟩ := y
    subst e
    obtain ⟨p, ep, _, rp⟩ := kr_atV g2 e1
    refine stp i ds L p ep hI σ H3 x _ A2 rp fun ds2 L2 σ2 H4 pp a3 e4 => pp σ2 H4 _ a3 ?_
    have t2 : Tx H2 H4 := tx.trans e4
    exact ⟨fun d l s h q b t => ⟨t2.trans t, d, l, q, b⟩, fun d l v h q r b t => q.elim, fun d l s h q b t => q.elim, fun d l s h q b t => ⟨t2.trans t, d, l, q, b⟩⟩
  · have e : i = kvs.length := by omega
    subst e
    obtain ⟨L3, hU3, kn⟩ := fin ds L hI
    obtain ⟨A3, tx3⟩ := A2.put (u := .dK ws) hU3 rfl rfl rfl fun tx => ⟨ws, upd_same, Kr.tx tx g2, g3⟩
    exact .inl ⟨⟨g1, by omega⟩, g1, o.nx ds L3 σ _ kn A3 (((tx1.trans e2).trans tx).trans tx3)⟩

/-! ### promises -/
abbrev tag (q : Addr × O) : Addr × Bool × O := (q.1, true, q.2)
abbrev Nw : Type := List (Addr × O)
def Nw.own (N : Nw) : Bool := N.all fun q => q.2.own
/-- a def that changes nothing: from arguments and what they lean on, its answer and what is new -/
def SpP (K : PySem.W.Frag) (A : List D → Fp → (D → Nw → Prop) → Prop) : Sp := fun vs H Q _ => ∃ xs L P, Rps H xs vs ∧ Ow K H [] L H ∧ A xs L P ∧
  ∀ d N v H', P d N → Rp H' d v → Ow K H [] (L ++ N.map tag) H' → Nw.own N = true → Q v H'
/-- a def that changes one object at m -/
def SpM (K : PySem.W.Frag) (A : List D → Addr → O → Fp → (D → O → Nw → Prop) → Prop) : Sp := fun vs H Q _ => ∃ xs m o L P, Rps H xs vs ∧ Ow K H [m] ((m, true, o) :: L) H ∧ A xs m o L P ∧
  ∀ d o' N v H', P d o' N → Rp H' d v → Ow K H [m] ((m, true, o') :: L ++ N.map tag) H' → Nw.own N = true → Q v H'
/-- how a body ends -/
def Rt (L : Fp) (P : D → Nw → Prop) (d : D) (L' : Fp) : Prop := ∃ N, P d N ∧ Nw.own N = true ∧ (L ++ N.map tag).Sublist L'
abbrev kP (L : Fp) (P : D → Nw → Prop) : Kt := ⟨fun _ => Rt L P .non, Rt L P, fun _ _ => False, fun _ _ => False⟩
def RtM (m : Addr) (L : Fp) (P : D → O → Nw → Prop) (d : D) (L' : Fp) : Prop := ∃ o' N, P d o' N ∧ Nw.own N = true ∧ ((m, true, o') :: L ++ N.map tag).Sublist L'
abbrev kM (m : Addr) (L : Fp) (P : D → O → Nw → Prop) : Kt := ⟨fun _ => RtM m L P .non, RtM m L P, fun _ _ => False, fun _ _ => False⟩
abbrev ini (n : Nat) (xs : List D) : List (Option D) := xs.map some ++ List.replicate (n - xs.length) none
theorem spP_body {A : List D → Fp → (D → Nw → Prop) → Prop} {t : TS} {N : List Str} {vs : List V} {Q : VK} {E : XK} (h : ∀ (H0 : Hp) xs L P, A xs L P → Tr K H0 [] t (ini N.length xs) L (kP L P)) (s : SpP K A vs H Q E) :
    t { nx := fun _ H' => Q .non H', rt := Q } (start N vs) H := by
  obtain ⟨xs, L, P, r, w, a, q⟩ := s
  refine h H xs L P a (start N vs) H _ ⟨?_, w⟩ ⟨?_, ?_, ?_, ?_⟩
  · unfold ini L2.start
    rw [r.len]
    exact Sls.start _ r
  · rintro ds L' σ H' ⟨n, p, ho, sb⟩ a' _
    exact q .non n .non H' p rfl (a'.ow.sub sb) ho
  · rintro d L' v H' ⟨n, p, ho, sb⟩ rv a' _
    exact q d n v H' p rv (a'.sub sb) ho
  · intro ds L' σ H' z
    exact z.elim
  · intro ds L' σ H' z
    exact z.elim
theorem spM_body {A : List D → Addr → O → Fp → (D → O → Nw → Prop) → Prop} {t : TS} {N : List Str} {vs : List V} {Q : VK} {E : XK} (h : ∀ (H0 : Hp) xs m o L P, A xs m o L P → Tr K H0 [m] t (ini N.length xs) ((m, true, o) :: L) (kM m L P)) (s : SpM K A vs H Q E) :
    t { nx := fun _ H' => Q .non H', rt := Q } (start N vs) H := by
  obtain ⟨xs, m, o, L, P, r, w, a, q⟩ := s
  refine h H xs m o L P a (start N vs) H _ ⟨?_, w⟩ ⟨?_, ?_, ?_, ?_⟩
  · unfold ini L2.start
    rw [r.len]
    exact Sls.start _ r
  · rintro ds L' σ H' ⟨o', n, p, ho, sb⟩ a' _
    exact q .non o' n .non H' p rfl (a'.ow.sub sb) ho
  · rintro d L' v H' ⟨o', n, p, ho, sb⟩ rv a' _
    exact q d o' n v H' p rv (a'.sub sb) ho
  · intro ds L' σ H' z
    exact z.elim
  · intro ds L' σ H' z
    exact z.elim

/-! ### what a callee leans on -/
inductive Wk : O → O → Prop
  | rfl {o : O} : Wk o o
  | ro {xs : List D} : Wk (.lst xs) (.ro xs)
  | rT {kvs : List (List Int × D)} : Wk (.dT kvs) (.rT kvs)
  | rF {kvs : List (List Int × D)} {od : Obj} {ws : List (List Key × V)} : Wk (.fT kvs od ws) (.rT kvs)
/-- Lc is read of L -/
inductive Sb : Fp → Fp → Prop
  | nil {L : Fp} : Sb [] L
  | keep {a : Addr} {w : Bool} {o o' : O} {Lc L : Fp} (k : Wk o o') (h : Sb Lc L) : Sb ((a, false, o') :: Lc) ((a, w, o) :: L)
  | skip {q : Addr × Bool × O} {Lc L : Fp} (h : Sb Lc L) : Sb Lc (q :: L)
/-- the same beside m, where o stands -/
inductive Sm : Fp → Fp → Addr → O → Prop
  | here {m : Addr} {o : O} {Lc L : Fp} (h : Sb Lc L) (hc : ∀ q ∈ Lc, q.2.2.own = true) : Sm Lc ((m, true, o) :: L) m o
  | keep {a m : Addr} {w : Bool} {o1 o1' o : O} {Lc L : Fp} (k : Wk o1 o1') (hc : o1'.own = true) (h : Sm Lc L m o) : Sm ((a, false, o1') :: Lc) ((a, w, o1) :: L) m o
  | skip {m : Addr} {o : O} {q : Addr × Bool × O} {Lc L : Fp} (h : Sm Lc L m o) : Sm Lc (q :: L) m o
theorem Wk.ho {a : Addr} {o o' : O} (k : Wk o o') (h : Ho K H a o) : Ho K H a o' := by
  cases k with
  | rfl => exact h
  | ro => obtain ⟨vs, h1, h2⟩ := h; exact ⟨vs, .inl h1, h2⟩
  | rT => obtain ⟨vs, h1, h2, _⟩ := h; exact ⟨vs, .inl h1, h2⟩
  | rF => obtain ⟨h1, h2, _⟩ := h; exact ⟨_, .inr ⟨_, h1⟩, h2⟩
theorem Wk.eadr {a : Addr} {w w' : Bool} {o o' : O} (k : Wk o o') : XR.eadr (a, w', o') = XR.eadr (a, w, o) := by
  cases k with
  | rfl => cases o <;> rfl
  | ro => rfl
  | rT => rfl
  | rF => rfl
theorem Wk.own {o o' : O} (k : Wk o o') : o'.own = o.own := by cases k <;> rfl
theorem Sb.adrs {Lc L : Fp} (h : Sb Lc L) : (XR.adrs Lc).Sublist (XR.adrs L) := by
  induction h with
  | nil => exact List.nil_sublist _
  | @keep a w o o' Lc L k _ ih =>
    show (XR.eadr (a, false, o') ++ XR.adrs Lc).Sublist (XR.eadr (a, w, o) ++ XR.adrs L)
    rw [k.eadr (w := w)]
    exact List.Sublist.append (List.Sublist.refl _) ih
  | skip _ ih => exact ih.trans (List.sublist_append_right _ _)
theorem Sb.of {Lc L : Fp} (h : Sb Lc L) : ∀ q ∈ Lc, q.2.1 = false ∧ ∃ w o, (q.1, w, o) ∈ L ∧ Wk o q.2.2 := by
  induction h with
  | nil => intro q hq; cases hq
  | @keep a w o o' Lc L k _ ih =>
    intro q hq
    rcases List.mem_cons.mp hq with e | hq
    · rw [e]
      exact ⟨rfl, w, o, List.mem_cons_self, k⟩
    · obtain ⟨h1, w2, o2, h2, h3⟩ := ih q hq
      exact ⟨h1, w2, o2, List.mem_cons_of_mem _ h2, h3⟩
  | skip _ ih =>
    intro q hq
    obtain ⟨h1, w2, o2, h2, h3⟩ := ih q hq
    exact ⟨h1, w2, o2, List.mem_cons_of_mem _ h2, h3⟩
theorem Sb.ow {Lc : Fp} (h : Sb Lc L) (w : Ow K H0 M L H) : Ow K H [] Lc H :=
  have ho : ∀ q ∈ Lc, Ho K H q.1 q.2.2 := fun q hq => by
    obtain ⟨_, b, o, h2, h3⟩ := h.of q hq
    exact h3.ho (w.ho _ h2)
  ⟨w.nd.sublist h.adrs, ho, fun q hq e => (by
    rw [(h.of q hq).1] at e
    cases e), fun q hq e => ⟨rfl, ho q hq⟩, fun a o e _ => e, fun a e => e⟩
/-- what a callee made comes to hand -/
theorem Ow.join (w : Ow K H0 M L H) {Lc : Fp} {N : Nw} (mo : Mo H H') (hn : Nw.own N = true) (c : Ow K H [] (Lc ++ N.map tag) H') : Ow K H0 M (L ++ N.map tag) H' := by
  have w2 := w.mo mo
  have new : ∀ q ∈ N.map tag, ∀ b ∈ eadr q, H b = none := fun q hq b hb => by
    have hw : q.2.1 = true := by
      obtain ⟨p, _, e⟩ := List.mem_map.mp hq
      rw [← e]
    rcases c.wr q (List.mem_append_right _ hq) hw b hb with z | z
    · cases z
    · exact z
  refine ⟨?_, fun q hq => ?_, fun q hq => ?_, fun q hq => ?_, w2.fr, w2.th⟩
  · rw [adrs_app]
    have nd := c.nd
    rw [adrs_app] at nd
    refine List.nodup_append.mpr ⟨w.nd, (List.nodup_append.mp nd).2.1, fun a ha b hb => ?_⟩
    obtain ⟨o, h1, _⟩ := w.tracked ha
    obtain ⟨q, hq, h2⟩ := List.mem_flatMap.mp hb
    exact ne_of_none h1 (new q hq b h2)
  · rcases List.mem_append.mp hq with hq | hq
    · exact w2.ho q hq
    · exact c.ho q (List.mem_append_right _ hq)
  · rcases List.mem_append.mp hq with hq | hq
    · exact w2.wr q hq
    · intro _ b hb
      exact .inr (w.fresh (new q hq b hb))
  · rcases List.mem_append.mp hq with hq | hq
    · exact w2.sc q hq
    · intro z
      obtain ⟨p, hp, e⟩ := List.mem_map.mp hq
      have h2 := List.all_eq_true.mp hn p hp
      rw [← e, show (tag p).2.2.own = p.2.own from rfl, h2] at z
      cases z
theorem ea_callP {A : List D → Fp → (D → Nw → Prop) → Prop} {dvs : List V} {dd : List D} {E : XK} {ta : TA} (hd : ∀ H, Rps H dd dvs) (h : El K H0 M ta ds L fun xs L1 => ∃ Lc P', Sb Lc L1 ∧ A (xs ++ dd) Lc P' ∧ ∀ d N, P' d N → P d (L1 ++ N.map tag)) :
    Ea K H0 M (tCall (SpP K A) dvs E ta) ds L P := fun σ H Q a n =>
  h σ H _ a fun xs L1 vs H1 ⟨Lc, P', sb, hA, hP⟩ r1 a1 e1 => ⟨xs ++ dd, Lc, P', r1.app (hd H1), sb.ow a1.ow, hA, fun d N v H' p rv w own => by
    have mo : Mo H1 H' := w.mo0
    exact n d _ v H' (hP d N p) rv ⟨a1.sl.tx mo.tx, a1.ow.join mo own w⟩ (e1.trans mo.tx)⟩
theorem Sm.split {Lc : Fp} {m : Addr} {o : O} (h : Sm Lc L m o) : ∃ pre post, L = pre ++ (m, true, o) :: post ∧ (∃ l1 l2, Lc = l1 ++ l2 ∧ Sb l1 pre ∧ Sb l2 post) ∧ ∀ q ∈ Lc, q.2.2.own = true := by
  induction h with
  | @here m o Lc L h hc => exact ⟨[], L, rfl, ⟨[], Lc, rfl, .nil, h⟩, hc⟩
  | @keep a m w o1 o1' o Lc L k hc _ ih =>
    obtain ⟨pre, post, e, ⟨l1, l2, e1, s1, s2⟩, hh⟩ := ih
    refine ⟨(a, w, o1) :: pre, post, by rw [e] <;> rfl, ⟨(a, false, o1') :: l1, l2, by rw [e1] <;> rfl, .keep k s1, s2⟩, fun q hq => ?_⟩
    rcases List.mem_cons.mp hq with z | z
    · rw [z]
      exact hc
    · exact hh q z
  | @skip m o q Lc L _ ih =>
    obtain ⟨pre, post, e, ⟨l1, l2, e1, s1, s2⟩, hh⟩ := ih
    exact ⟨q :: pre, post, by rw [e] <;> rfl, ⟨l1, l2, e1, .skip s1, s2⟩, hh⟩
theorem ea_callM {A : List D → Addr → O → Fp → (D → O → Nw → Prop) → Prop} {dvs : List V} {dd : List D} {E : XK} {ta : TA} (hd : ∀ H, Rps H dd dvs)
    (h : El K H0 M ta ds L fun xs L1 => ∃ m o Lc P', Sm Lc L1 m o ∧ (o.own = true ∧ o.adr = []) ∧ A (xs ++ dd) m o Lc P' ∧ ∀ d o' N, P' d o' N → (o'.own = true ∧ o'.adr = []) ∧ ∃ L2, Up L1 m o o' L2 ∧ P d (L2 ++ N.map tag)) :
    Ea K H0 M (tCall (SpM K A) dvs E ta) ds L P := fun σ H Q a n =>
  h σ H _ a fun xs L1 vs H1 ⟨m, o, Lc, P', sm, ho, hA, hP⟩ r1 a1 e1 => by
    obtain ⟨pre, post, e, ⟨l1, l2, e2, s1, s2⟩, hown⟩ := sm.split
    have w := a1.ow
    have sb : Sb Lc (pre ++ post) := by
      rw [e2]
      clear e e2 sm
      induction s1 with
      | nil =>
        rename_i L0
        induction L0 with
        | nil => exact s2
        | cons q r ih => exact .skip ih
      | keep k _ ih => exact .keep k ih
      | skip _ ih => exact .skip ih
    subst e
    have em : (m, true, o) ∈ pre ++ (m, true, o) :: post := List.mem_append_right _ List.mem_cons_self
    have hea : eadr (m, true, o) = [m] := by rw [eadr_own (q := (m, true, o)) ho.1, ho.2]
    obtain ⟨om, hom, hnt⟩ := (w.ho _ em).tracked m (by rw [hea]; exact List.mem_singleton.mpr rfl)
    have nd := w.nd
    rw [adrs_app, show adrs ((m, true, o) :: post) = eadr (m, true, o) ++ adrs post from rfl, hea] at nd
    have nd1 := List.nodup_append.mp nd
    have nd2 := List.nodup_append.mp nd1.2.1
    have nm : ∀ b, b ∈ adrs pre ∨ b ∈ adrs post → b ≠ m := fun b hb => by
      rcases hb with hb | hb
      · exact nd1.2.2 b hb m (List.mem_append_left _ (List.mem_singleton.mpr rfl))
      · exact (nd2.2.2 m (List.mem_singleton.mpr rfl) b hb).symm
    have ndpp : (adrs (pre ++ post)).Nodup := by
      rw [adrs_app]
      exact List.nodup_append.mpr ⟨nd1.1, nd2.2.1, fun a ha b hb => nd1.2.2 a ha b (List.mem_append_right _ hb)⟩
    have wpp : ∀ q ∈ pre ++ post, q ∈ pre ++ (m, true, o) :: post := fun q hq => by
      rcases List.mem_append.mp hq with hq | hq
      · exact List.mem_append_left _ hq
      · exact List.mem_append_right _ (List.mem_cons_of_mem _ hq)
    have callee : Ow K H1 [m] ((m, true, o) :: Lc) H1 := by
      refine ⟨?_, fun q hq => ?_, fun q hq => ?_, fun q hq => ?_, fun a o e _ => e, fun a e => e⟩
      · show (eadr (m, true, o) ++ adrs Lc).Nodup
        rw [hea]
        refine List.nodup_append.mpr ⟨by simp, ndpp.sublist sb.adrs, fun a ha b hb => ?_⟩
        rw [List.mem_singleton.mp ha]
        have hb2 := sb.adrs.subset hb
        rw [adrs_app] at hb2
        exact (nm b (List.mem_append.mp hb2)).symm
      · rcases List.mem_cons.mp hq with z | hq
        · rw [z]
          exact w.ho _ em
        · obtain ⟨_, b, oo, h2, h3⟩ := sb.of q hq
          exact h3.ho (w.ho _ (wpp _ h2))
      · rcases List.mem_cons.mp hq with z | hq
        · rw [z, hea]
          intro _ b hb
          exact .inl hb
        · intro z
          rw [(sb.of q hq).1] at z
          cases z
      · rcases List.mem_cons.mp hq with z | hq
        · rw [z]
          intro y
          rw [show (m, true, o).2.2.own = true from ho.1] at y
          cases y
        · intro y
          rw [hown q hq] at y
          cases y
    refine ⟨xs ++ dd, m, o, Lc, P', r1.app (hd H1), callee, hA, fun d o' N v H' p rv c own => ?_⟩
    obtain ⟨ho', L2, hu, pp⟩ := hP d o' N p
    have tx : Tx H1 H' := fun a ys ha => c.fr a _ ha (fun z => by
      rw [List.mem_singleton.mp z, hom] at ha
      exact hnt ys (Option.some.inj ha))
    have hea' : eadr (m, true, o') = [m] := by rw [eadr_own (q := (m, true, o')) ho'.1, ho'.2]
    have keep : ∀ b u, b ≠ m → H1 b = some u → H' b = some u := fun b u hb hu => c.fr b u hu (fun z => hb (List.mem_singleton.mp z))
    have wm := w.wr _ em rfl m (by rw [hea]; exact List.mem_singleton.mpr rfl)
    have fr0 : ∀ b u, H0 b = some u → b ∉ M → H' b = some u := fun b u hb hn => keep b u (fun z => by
      rcases wm with wm | wm
      · exact hn (z ▸ wm)
      · rw [z, wm] at hb
        cases hb) (w.fr b u hb hn)
    have new : ∀ q ∈ N.map tag, ∀ b ∈ eadr q, b ≠ m ∧ H1 b = none := fun q hq b hb => by
      have hw : q.2.1 = true := by
        obtain ⟨p, _, e⟩ := List.mem_map.mp hq
        rw [← e]
      have hne : b ≠ m := fun z => by
        have cn := c.nd
        rw [show ((m, true, o') :: Lc ++ N.map tag) = (m, true, o') :: (Lc ++ N.map tag) from rfl, show adrs ((m, true, o') :: (Lc ++ N.map tag)) = eadr (m, true, o') ++ adrs (Lc ++ N.map tag) from rfl, hea', List.nodup_append] at cn
        exact cn.2.2 m (List.mem_singleton.mpr rfl) b (by rw [adrs_app]; exact List.mem_append_right _ (mem_adrs hq hb)) z.symm
      rcases c.wr q (List.mem_cons_of_mem _ (List.mem_append_right _ hq)) hw b hb with z | z
      · exact absurd (List.mem_singleton.mp z) hne
      · exact ⟨hne, z⟩
    have old : ∀ q ∈ pre ++ post, Ho K H' q.1 q.2.2 := fun q hq => by
      cases eo : q.2.2.own with
      | true =>
        refine (w.ho q (wpp q hq)).tx tx fun b hb u hu => keep b u (nm b ?_) hu
        have hb2 : b ∈ adrs (pre ++ post) := mem_adrs hq (by rw [eadr_own eo]; exact hb)
        rw [adrs_app] at hb2
        exact List.mem_append.mp hb2
      | false =>
        obtain ⟨e, h0⟩ := w.sc q (wpp q hq) eo
        exact h0.mo fun b u hb => fr0 b u hb (by rw [e]; exact fun z => by cases z)
    have e3 : L2 = pre ++ (m, true, o') :: post := by
      obtain ⟨pre2, post2, f1, f2⟩ := hu.split
      rw [f2]
      have key : ∀ {A B A2 B2 : Fp}, m ∉ adrs A → m ∉ adrs A2 → A ++ (m, true, o) :: B = A2 ++ (m, true, o) :: B2 → A = A2 ∧ B = B2 := fun {A B A2 B2} n1 n2 e => by
        induction A generalizing A2 with
        | nil =>
          cases A2 with
          | nil => exact ⟨rfl, (List.cons.inj e).2⟩
          | cons q r =>
            have e4 := (List.cons.inj e).1
            exact absurd (show m ∈ adrs (q :: r) from mem_adrs List.mem_cons_self (by rw [← e4, hea]; exact List.mem_singleton.mpr rfl)) n2
        | cons q r ih =>
          cases A2 with
          | nil =>
            have e4 := (List.cons.inj e).1
            exact absurd (show m ∈ adrs (q :: r) from mem_adrs List.mem_cons_self (by rw [e4, hea]; exact List.mem_singleton.mpr rfl)) n1
          | cons q2 r2 =>
            obtain ⟨e4, e5⟩ := List.cons.inj e
            obtain ⟨i1, i2⟩ := ih (fun z => n1 (List.mem_append_right _ z)) (fun z => n2 (List.mem_append_right _ z)) e5
            exact ⟨by rw [e4, i1], i2⟩
      have np : m ∉ adrs pre := fun z => nm m (.inl z) rfl
      have np2 : m ∉ adrs pre2 := fun z => by
        have nd3 := w.nd
        rw [f1, adrs_app, show adrs ((m, true, o) :: post2) = eadr (m, true, o) ++ adrs post2 from rfl, hea] at nd3
        exact (List.nodup_append.mp nd3).2.2 m z m (List.mem_append_left _ (List.mem_singleton.mpr rfl)) rfl
      obtain ⟨z1, z2⟩ := key np np2 f1
      rw [z1, z2]
    subst e3
    refine n d _ v H' pp rv ⟨a1.sl.tx tx, ?_⟩ (e1.trans tx)
    have all : ∀ q, q ∈ pre ++ (m, true, o') :: post ++ N.map tag → q ∈ pre ++ post ∨ q = (m, true, o') ∨ q ∈ N.map tag := fun q hq => by
      rcases List.mem_append.mp hq with hq | hq
      · rcases List.mem_append.mp hq with hq | hq
        · exact .inl (List.mem_append_left _ hq)
        · rcases List.mem_cons.mp hq with hq | hq
          · exact .inr (.inl hq)
          · exact .inl (List.mem_append_right _ hq)
      · exact .inr (.inr hq)
    refine ⟨?_, fun q hq => ?_, fun q hq => ?_, fun q hq => ?_, fr0, fun b hb => c.th b (w.th b hb)⟩
    · have eL : adrs (pre ++ (m, true, o') :: post) = adrs (pre ++ (m, true, o) :: post) := by
        rw [adrs_app, adrs_app, show adrs ((m, true, o') :: post) = eadr (m, true, o') ++ adrs post from rfl, show adrs ((m, true, o) :: post) = eadr (m, true, o) ++ adrs post from rfl, hea, hea']
      rw [adrs_app, eL]
      have cn := c.nd
      rw [adrs_app] at cn
      refine List.nodup_append.mpr ⟨w.nd, (List.nodup_append.mp cn).2.1, fun a ha b hb => ?_⟩
      obtain ⟨oa, h1, _⟩ := w.tracked ha
      obtain ⟨q, hq, h2⟩ := List.mem_flatMap.mp hb
      exact ne_of_none h1 (new q hq b h2).2
    · rcases all q hq with hq | hq | hq
      · exact old q hq
      · rw [hq]
        exact c.ho _ (List.mem_cons_self)
      · exact c.ho q (List.mem_cons_of_mem _ (List.mem_append_right _ hq))
    · rcases all q hq with hq | hq | hq
      · exact w.wr q (wpp q hq)
      · rw [hq, hea']
        intro _ b hb
        rw [List.mem_singleton.mp hb]
        exact wm
      · intro _ b hb
        exact .inr (w.fresh (new q hq b hb).2)
    · rcases all q hq with hq | hq | hq
      · exact fun z => by
          obtain ⟨e, h0⟩ := w.sc q (wpp q hq) z
          exact ⟨e, h0⟩
      · rw [hq]
        intro y
        rw [show (m, true, o').2.2.own = true from ho'.1] at y
        cases y
      · intro z
        obtain ⟨p, hp, e⟩ := List.mem_map.mp hq
        have h2 := List.all_eq_true.mp own p hp
        rw [← e, show (tag p).2.2.own = p.2.own from rfl, h2] at z
        cases z
end
end XR
-- KHead
set_option Elab.async false
set_option linter.all false
set_option maxRecDepth 100000
set_option maxHeartbeats 0
/-! the text by places, the facts that the head tells, its run -/
namespace XR
open PySem PySem.Spec PyProof.Rows L2
def top (i : Nat) : Stmt := PySem.Challenge.pw_crossracks_k85_whole_as_many.main.body.getD i (.Pass ⟨0, 0, 0, 0⟩)
abbrev s_place_in : Stmt := top 6
abbrev s_place_out : Stmt := top 7
abbrev s_is_place : Stmt := top 9
abbrev s_is_caller : Stmt := top 10
abbrev s_is_ends : Stmt := top 11
abbrev s_partners : Stmt := top 13
abbrev s_give_signs : Stmt := top 14
abbrev s_halves : Stmt := top 15
abbrev s_weights_of : Stmt := top 17
abbrev s_greatest_weight : Stmt := top 18
abbrev s_links_of : Stmt := top 20
abbrev s_exchange : Stmt := top 21
abbrev s_touch : Stmt := top 22
abbrev s_touching : Stmt := top 23
abbrev s_number_off : Stmt := top 24
abbrev s_ask_room : Stmt := top 25
abbrev s_parted : Stmt := top 26
abbrev s_places_of : Stmt := top 28
abbrev s_first_part : Stmt := top 29
abbrev s_with_room : Stmt := top 30
abbrev s_looked_through : Stmt := top 31
abbrev s_turn_over : Stmt := top 32
abbrev s_greatest : Stmt := top 33
abbrev s_is_entry : Stmt := top 35
abbrev s_pairs_of : Stmt := top 36
abbrev s_open_racks : Stmt := top 37
abbrev s_at_once : Stmt := top 38
abbrev s_as_many : Stmt := top 40
abbrev s_law_cell_at : Stmt := top 42
abbrev s_law_mixed : Stmt := top 43
abbrev s_law_whole : Stmt := top 44
abbrev s_law_digit : Stmt := top 45
abbrev s_law_hall : Stmt := top 46
abbrev s_law_free_table : Stmt := top 47
abbrev s_law_table : Stmt := top 48
abbrev s_law_rising : Stmt := top 49
abbrev s_law_paper : Stmt := top 50
abbrev s_law_beside : Stmt := top 51
abbrev s_law_answer : Stmt := top 52
abbrev s_law_calls_right : Stmt := top 53
abbrev s_law_no_table : Stmt := top 54
abbrev s_law : Stmt := top 55
abbrev s_NoTable_init : Stmt := inClass (top 3) 0
def d_place_in : He.DefD := ⟨("place_in", none), "place_in", "place_in", defArgs s_place_in, defBody s_place_in, defScope s_place_in, [], []⟩
def d_place_out : He.DefD := ⟨("place_out", none), "place_out", "place_out", defArgs s_place_out, defBody s_place_out, defScope s_place_out, [], []⟩
def d_is_place : He.DefD := ⟨("is_place", none), "is_place", "is_place", defArgs s_is_place, defBody s_is_place, defScope s_is_place, [], []⟩
def d_is_caller : He.DefD := ⟨("is_caller", none), "is_caller", "is_caller", defArgs s_is_caller, defBody s_is_caller, defScope s_is_caller, [], []⟩
def d_is_ends : He.DefD := ⟨("is_ends", none), "is_ends", "is_ends", defArgs s_is_ends, defBody s_is_ends, defScope s_is_ends, [], []⟩
def d_partners : He.DefD := ⟨("partners", none), "partners", "partners", defArgs s_partners, defBody s_partners, defScope s_partners, [], []⟩
def d_give_signs : He.DefD := ⟨("give_signs", none), "give_signs", "give_signs", defArgs s_give_signs, defBody s_give_signs, defScope s_give_signs, [], []⟩
def d_halves : He.DefD := ⟨("halves", none), "halves", "halves", defArgs s_halves, defBody s_halves, defScope s_halves, [], []⟩
def d_weights_of : He.DefD := ⟨("weights_of", none), "weights_of", "weights_of", defArgs s_weights_of, defBody s_weights_of, defScope s_weights_of, [], []⟩
def d_greatest_weight : He.DefD := ⟨("greatest_weight", none), "greatest_weight", "greatest_weight", defArgs s_greatest_weight, defBody s_greatest_weight, defScope s_greatest_weight, [], []⟩
def d_links_of : He.DefD := ⟨("links_of", none), "links_of", "links_of", defArgs s_links_of, defBody s_links_of, defScope s_links_of, [], []⟩
def d_exchange : He.DefD := ⟨("exchange", none), "exchange", "exchange", defArgs s_exchange, defBody s_exchange, defScope s_exchange, [], []⟩
def d_touch : He.DefD := ⟨("touch", none), "touch", "touch", defArgs s_touch, defBody s_touch, defScope s_touch, [], []⟩
def d_touching : He.DefD := ⟨("touching", none), "touching", "touching", defArgs s_touching, defBody s_touching, defScope s_touching, [], []⟩
def d_number_off : He.DefD := ⟨("number_off", none), "number_off", "number_off", defArgs s_number_off, defBody s_number_off, defScope s_number_off, [], []⟩
def d_ask_room : He.DefD := ⟨("ask_room", none), "ask_room", "ask_room", defArgs s_ask_room, defBody s_ask_room, defScope s_ask_room, [], []⟩
def d_parted : He.DefD := ⟨("parted", none), "parted", "parted", defArgs s_parted, defBody s_parted, defScope s_parted, [], []⟩
def d_places_of : He.DefD := ⟨("places_of", none), "places_of", "places_of", defArgs s_places_of, defBody s_places_of, defScope s_places_of, [], []⟩
def d_first_part : He.DefD := ⟨("first_part", none), "first_part", "first_part", defArgs s_first_part, defBody s_first_part, defScope s_first_part, [], []⟩
def d_with_room : He.DefD := ⟨("with_room", none), "with_room", "with_room", defArgs s_with_room, defBody s_with_room, defScope s_with_room, [], []⟩
def d_looked_through : He.DefD := ⟨("looked_through", none), "looked_through", "looked_through", defArgs s_looked_through, defBody s_looked_through, defScope s_looked_through, [], []⟩
def d_turn_over : He.DefD := ⟨("turn_over", none), "turn_over", "turn_over", defArgs s_turn_over, defBody s_turn_over, defScope s_turn_over, [], []⟩
def d_greatest : He.DefD := ⟨("greatest", none), "greatest", "greatest", defArgs s_greatest, defBody s_greatest, defScope s_greatest, [], []⟩
def d_is_entry : He.DefD := ⟨("is_entry", none), "is_entry", "is_entry", defArgs s_is_entry, defBody s_is_entry, defScope s_is_entry, [], []⟩
def d_pairs_of : He.DefD := ⟨("pairs_of", none), "pairs_of", "pairs_of", defArgs s_pairs_of, defBody s_pairs_of, defScope s_pairs_of, [], []⟩
def d_open_racks : He.DefD := ⟨("open_racks", none), "open_racks", "open_racks", defArgs s_open_racks, defBody s_open_racks, defScope s_open_racks, [.int 0], []⟩
def d_at_once : He.DefD := ⟨("at_once", none), "at_once", "at_once", defArgs s_at_once, defBody s_at_once, defScope s_at_once, [.int 0], []⟩
def d_as_many : He.DefD := ⟨("as_many", none), "as_many", "as_many", defArgs s_as_many, defBody s_as_many, defScope s_as_many, [.int 0], []⟩
def d_law_cell_at : He.DefD := ⟨("_law_cell_at", none), "_law_cell_at", "_law_cell_at", defArgs s_law_cell_at, defBody s_law_cell_at, defScope s_law_cell_at, [], []⟩
def d_law_mixed : He.DefD := ⟨("_law_mixed", none), "_law_mixed", "_law_mixed", defArgs s_law_mixed, defBody s_law_mixed, defScope s_law_mixed, [], []⟩
def d_law_whole : He.DefD := ⟨("_law_whole", none), "_law_whole", "_law_whole", defArgs s_law_whole, defBody s_law_whole, defScope s_law_whole, [], []⟩
def d_law_digit : He.DefD := ⟨("_law_digit", none), "_law_digit", "_law_digit", defArgs s_law_digit, defBody s_law_digit, defScope s_law_digit, [], []⟩
def d_law_hall : He.DefD := ⟨("_law_hall", none), "_law_hall", "_law_hall", defArgs s_law_hall, defBody s_law_hall, defScope s_law_hall, [], []⟩
def d_law_free_table : He.DefD := ⟨("_law_free_table", none), "_law_free_table", "_law_free_table", defArgs s_law_free_table, defBody s_law_free_table, defScope s_law_free_table, [], []⟩
def d_law_table : He.DefD := ⟨("_law_table", none), "_law_table", "_law_table", defArgs s_law_table, defBody s_law_table, defScope s_law_table, [], []⟩
def d_law_rising : He.DefD := ⟨("_law_rising", none), "_law_rising", "_law_rising", defArgs s_law_rising, defBody s_law_rising, defScope s_law_rising, [], []⟩
def d_law_paper : He.DefD := ⟨("_law_paper", none), "_law_paper", "_law_paper", defArgs s_law_paper, defBody s_law_paper, defScope s_law_paper, [], []⟩
def d_law_beside : He.DefD := ⟨("_law_beside", none), "_law_beside", "_law_beside", defArgs s_law_beside, defBody s_law_beside, defScope s_law_beside, [], []⟩
def d_law_answer : He.DefD := ⟨("_law_answer", none), "_law_answer", "_law_answer", defArgs s_law_answer, defBody s_law_answer, defScope s_law_answer, [], []⟩
def d_law_calls_right : He.DefD := ⟨("_law_calls_right", none), "_law_calls_right", "_law_calls_right", defArgs s_law_calls_right, defBody s_law_calls_right, defScope s_law_calls_right, [], []⟩
def d_law_no_table : He.DefD := ⟨("_law_no_table", none), "_law_no_table", "_law_no_table", defArgs s_law_no_table, defBody s_law_no_table, defScope s_law_no_table, [], []⟩
def d_law : He.DefD := ⟨("law", none), "law", "law", defArgs s_law, defBody s_law, defScope s_law, [], []⟩
def d_NoTable_init : He.DefD := ⟨("NoTable", some "__init__"), "__init__", "NoTable.__init__", defArgs s_NoTable_init, defBody s_NoTable_init, defScope s_NoTable_init, [], []⟩
def fn1 : List He.DefD := [d_place_in, d_place_out, d_is_place, d_is_caller, d_is_ends, d_partners, d_give_signs, d_halves, d_weights_of, d_greatest_weight, d_links_of, d_exchange, d_touch, d_touching, d_number_off, d_ask_room, d_parted, d_places_of, d_first_part, d_with_room, d_looked_through]
def fn2 : List He.DefD := [d_turn_over, d_greatest, d_is_entry, d_pairs_of, d_open_racks, d_at_once, d_as_many, d_law_cell_at, d_law_mixed, d_law_whole, d_law_digit, d_law_hall, d_law_free_table, d_law_table, d_law_rising, d_law_paper, d_law_beside, d_law_answer, d_law_calls_right, d_law_no_table, d_law, d_NoTable_init]
def fn : List He.DefD := fn1 ++ fn2
def fa1 : List He.Fa := [.glo "place_in", .glo "place_out", .glo "is_place", .glo "is_caller", .glo "is_ends", .glo "partners", .glo "give_signs", .glo "halves", .glo "weights_of", .glo "greatest_weight", .glo "links_of", .glo "exchange", .glo "touch", .glo "touching", .glo "number_off", .glo "ask_room", .glo "parted", .glo "places_of", .glo "first_part", .glo "with_room", .glo "looked_through", .glo "turn_over", .glo "greatest"]
def fa2 : List He.Fa := [.glo "is_entry", .glo "pairs_of", .glo "open_racks", .glo "at_once", .glo "as_many", .glo "_law_cell_at", .glo "_law_mixed", .glo "_law_whole", .glo "_law_digit", .glo "_law_hall", .glo "_law_free_table", .glo "_law_table", .glo "_law_rising", .glo "_law_paper", .glo "_law_beside", .glo "_law_answer", .glo "_law_calls_right", .glo "_law_no_table", .glo "law", .glo "HallError", .glo "TooFull", .glo "NoTable", .glo "Wide"]
def fa3 : List He.Fa := [.free "isinstance", .free "int", .free "bool", .free "list", .free "tuple", .free "len", .free "set", .free "divmod", .free "range", .free "enumerate", .free "zip", .free "sorted", .free "max", .free "min", .free "abs", .free "reversed", .free "ValueError"]
def fa4 : List He.Fa := [.meth "NoTable" "__init__", .keep "NoTable", .noat "NoTable" "place", .exm "NoTable" "HallError" true]
def fa : List He.Fa := fa1 ++ fa2 ++ fa3 ++ fa4
/-- the class at C: an own one over ValueError with a dict, its maker ValueError's -/
def oexB (K : PySem.W.Frag) (C : Addr) : Bool := match K.lookup C with
  | some ⟨.type "type", _, .cls cd, sl⟩ => (match cd.mro, sl.toList with
    | .ref E :: bm, [_, _, _, _, some (.builtin n), _] => E == C && (n == "ValueError.__new__" && (!cd.hasDel && (cd.hasDict && PySem.HandSPX.refsVE bm)))
    | _, _ => false)
  | _ => false
def valIs (r : Option PySem.W.CFound) (v : Value) : Bool := match r with
  | some (.val u) => decide (u = v)
  | _ => false
def kitB (K : PySem.W.Frag) (t c : Value) (b : Bool) : Bool := decide (PySem.W.kitOne K t c = some b)
def ex (K : PySem.W.Frag) : Bool := oexB K (He.ga K "NoTable") && He.eqO (PySem.W.findIn K (.ref (He.ga K "NoTable")) "__setattr__") (some (some (.builtin "object.__setattr__")))
  && decide (PySem.W.subIn K (.ref (He.ga K "NoTable")) (.type "BaseException") = some true) && decide (PySem.W.typeIn K (.ref (He.ga K "NoTable")) = some (.type "type"))
  && He.eqO (PySem.W.findIn K (.ref (He.ga K "NoTable")) "__getattribute__") (some (some (.builtin "BaseException.__getattribute__"))) && He.eqO (PySem.W.findIn K (.ref (He.ga K "NoTable")) "__getattr__") (some none)
  && He.eqO (PySem.W.findIn K (.ref (He.ga K "NoTable")) "__class__") (some (some (.builtin "object.__class__")))
  && He.eqO (PySem.W.specialIn K (.builtin "object.__class__") "__get__") (some (some (.builtin "getset_descriptor.__get__"))) && decide (PySem.W.takesIn K (.builtin "object.__class__") = some true)
  && decide (PySem.W.mroIn K (He.ga K "NoTable") (.type "object") = some true) && PySem.W.hasDictIn K (He.ga K "NoTable")
  && kitB K (.ref (He.ga K "NoTable")) (.ref (He.ga K "NoTable")) true && kitB K (.ref (He.ga K "NoTable")) (.type "ValueError") true
  && kitB K (.ref (He.ga K "NoTable")) (.ref (He.ga K "TooFull")) false && kitB K (.ref (He.ga K "NoTable")) (.ref (He.ga K "Wide")) false
  && PySem.W.readsIn K (He.ga K "HallError") (.type "type") && He.eqO (PySem.W.specialIn K (.ref (He.ga K "HallError")) "__getattribute__") (some (some (.builtin "type.__getattribute__")))
  && valIs (PySem.W.findCls K (.ref (He.ga K "HallError")) (.type "type") "__init__") (.builtin "ValueError.__init__")
abbrev R : PySem.W.OpenRow := PySem.W.OpenLaw.row PySem.Challenge.rw_crossracks_k85_whole_as_many
/-- what the walk is told of the written part -/
structure Told (K : PySem.W.Frag) : Prop where
  d : He.SaysD fa fn K
  x : ex K = true
abbrev AlY : Type := He.AlD × Bool
def obsY (g : Addr → Option Obj) : AlY := (He.obsD fa fn (He.frG g (He5.asA g 5)), ex (He.frG g (He5.asA g 5)))
def hk : PySem.W.Hook where
  α := AlY
  obs := fun s => obsY s.heap.get?
  val := fun _ => (He.valD fn, true)
  says := fun _ h => ∃ K : PySem.W.Frag, K.In h ∧ Told K
  of := fun _ _ e => ⟨_, He.frG_in, ⟨congrArg (fun z : AlY => z.1) e, congrArg (fun z : AlY => z.2) e⟩⟩
  keeps := fun _ _ _ ⟨K, hK, c⟩ k => ⟨K, PySem.W.Frag.In.keeps hK k, c⟩
def ob (s : PySem.W.SharedT) : AlY := obsY (HandSHeadRun.getT s)
theorem ob_eq (s : PySem.W.SharedT) : ob s = hk.obs s.abs := by
  have e : HandSHeadRun.getT s = s.abs.heap.get? := funext (HandSHeadRun.getT_eq s)
  show obsY (HandSHeadRun.getT s) = obsY s.abs.heap.get?
  rw [e]
def loose1 : List PySem.Str := ["HallError", "TooFull", "NoTable", "Wide", "place_in", "place_out", "is_place", "is_caller", "is_ends", "partners", "give_signs", "halves", "weights_of", "greatest_weight", "links_of", "exchange", "touch", "touching", "number_off", "ask_room", "parted", "places_of", "first_part", "with_room", "looked_through", "turn_over", "greatest", "is_entry", "pairs_of", "open_racks"]
def loose2 : List PySem.Str := ["at_once", "as_many", "_law_cell_at", "_law_mixed", "_law_whole", "_law_digit", "_law_hall", "_law_free_table", "_law_table", "_law_rising", "_law_paper", "_law_beside", "_law_answer", "_law_calls_right", "_law_no_table"]
def loose : List PySem.Str := loose1 ++ loose2
theorem run (w : World) : HandSHeadRun.RunEq R (PySem.W.view R.prog [55]) hk ob 3000 loose w := by
  intro os
  kernel_rfl
end XR
-- KRules
set_option Elab.async false
set_option linter.all false
set_option maxRecDepth 100000
set_option maxHeartbeats 2000000
/-! what the text's defs have in common; readings and rules that the layer lacks -/
namespace XR
open PySem PySem.Spec PyProof.Rows L2

/-- the head's facts, at a heap that has them -/
structure Tp (K : PySem.W.Frag) (mg : Str → Option Value) : Prop where
  c : Told K
  h : ∃ hp : Heap, K.In hp ∧ hp.Ns mainGlobals mg
section
variable {K : PySem.W.Frag} {mg : Str → Option Value}
theorem Tp.glo (T : Tp K mg) (i : Nat) {x : Str} (e : fa[i]? = some (.glo x)) : mg x = some (.ref (He.ga K x)) := by
  obtain ⟨hp, X, G⟩ := T.h
  exact He.glo_ok X G (T.c.d.fact i e)
theorem Tp.free (T : Tp K mg) (i : Nat) {x : Str} (e : fa[i]? = some (.free x)) : mg x = none := by
  obtain ⟨hp, X, G⟩ := T.h
  exact He.free_ok X G (T.c.d.fact i e)
theorem Tp.def_ (T : Tp K mg) (i : Nat) {d : He.DefD} (e : fn[i]? = some d) : ∃ fd, FunD K d.name d.qual d.params d.body d.scope (d.dvs K) (d.kws K) (He.fAd K d.at_) fd := T.c.d.def_ i e
end
/-- what a caller must know of the def called x -/
def Cal (P : Program) (w : World) (K : PySem.W.Frag) (mg : Str → Option Value) (base : Heap) (CX : CXT) (k : Nat) (x : Str) (ps : List Str) (dvs : List V) (sp : Sp) : Prop :=
  ∃ (f : Addr) (fd : FuncData) (ds : List Value), mg x = some (.ref f) ∧ PySem.W.keepIn K (.ref f) = true ∧ FnOk P w K mg base CX k f fd ps sp ∧ Binds K fd ps ds ∧ Vals dvs ds
theorem Cal.mono {P : Program} {w : World} {K : PySem.W.Frag} {mg : Str → Option Value} {base : Heap} {CX : CXT} {j k : Nat} {x : Str} {ps : List Str} {dvs : List V} {sp : Sp} (c : Cal P w K mg base CX j x ps dvs sp) (h : j ≤ k) : Cal P w K mg base CX k x ps dvs sp := by
  obtain ⟨f, fd, ds, h1, h2, h3, h4⟩ := c
  exact ⟨f, fd, ds, h1, h2, h3.mono h, h4⟩
theorem passX {X : Cx} : Passes (L2.CX X.prog X.w) X E0 := passL
theorem hu65_of {A : Around} {k : Nat} (hr : Room k A) : A.units + 65 < cLine := by have := hr.un; omega

/-! ### built-ins by short names -/
abbrev rLenQ (K : PySem.W.Frag) : List V → Hp → VK → Prop := fun xs H Q => (∃ p ys, xs = [.ref p] ∧ (SqL K H p ys ∨ SqT K H p ys) ∧ Q (.int ys.length) H)
abbrev rDivmod : List V → Hp → VK → Prop := fun xs H Q => ∃ i j, xs = [.int i, .int j] ∧ CDiv i j ∧ ∀ p, H p = none → Q (.ref p) (upd H p (.tup [.int (i / j), .int (i % j)]))
abbrev rAbs : List V → Hp → VK → Prop := fun xs H Q => ∃ i, xs = [.int i] ∧ Q (.int (if i < 0 then -i else i)) H
abbrev rMax2 : List V → Hp → VK → Prop := fun xs H Q => ∃ i j, xs = [.int i, .int j] ∧ Q (.int (if j > i then j else i)) H
abbrev rMin2 : List V → Hp → VK → Prop := fun xs H Q => ∃ i j, xs = [.int i, .int j] ∧ Q (.int (if j < i then j else i)) H
abbrev rInt1 : List V → Hp → VK → Prop := fun xs H Q => (∃ i, xs = [.int i] ∧ Q (.int i) H) ∨ ∃ k, xs = [.bl k] ∧ Q (.int (if k then 1 else 0)) H
abbrev rTupleL (K : PySem.W.Frag) : List V → Hp → VK → Prop := fun xs H Q => ∃ p ys, xs = [.ref p] ∧ ((SqL K H p ys ∧ ∀ l, H l = none → Q (.ref l) (upd H l (.tup ys))) ∨ (SqT K H p ys ∧ Q (.ref p) H))
abbrev rListL (K : PySem.W.Frag) : List V → Hp → VK → Prop := fun xs H Q => ∃ p ys, xs = [.ref p] ∧ (SqL K H p ys ∨ SqT K H p ys) ∧ ∀ l, H l = none → Q (.ref l) (upd H l (.lst ys))
abbrev rSortedK : List V → Hp → VK → Prop := fun xs H Q => ∃ (a : Addr) (kvs : List (Key × V)) (ks : List Int), xs = [.ref a] ∧ Rd H a (.dK kvs) ∧ kvs.map (·.1) = ks.map Sum.inl ∧ ks.length < 64 ∧
    ∀ (ys : List Int) (p : Addr), ys.Perm ks → ys.Pairwise (· ≤ ·) → H p = none → Q (.ref p) (upd H p (.lst (ys.map V.int)))
section
variable {X : Cx}
theorem cr_lenQ : CallR X (.builtin "len") (rLenQ X.K) := call_len_seq
theorem cr_divmod : CallR X (.builtin "divmod") rDivmod := call_divmod
theorem cr_abs : CallR X (.builtin "abs") rAbs := call_abs
theorem cr_max2 (hc : X.calm = true) : CallR X (.builtin "max") rMax2 := call_max2 hc
theorem cr_min2 (hc : X.calm = true) : CallR X (.builtin "min") rMin2 := call_min2 hc
theorem cr_int1 : CallR X (.type "int") rInt1 := call_int1
theorem cr_tupleL : CallR X (.type "tuple") (rTupleL X.K) := call_tuple_of
theorem cr_listL : CallR X (.type "list") (rListL X.K) := call_list_of
theorem cr_sortedK (hc : X.calm = true) : CallR X (.builtin "sorted") rSortedK := call_sortedDI hc
end

/-! ### dicts with tuples as keys: setdefault, pop -/
/-- d.setdefault(k, x) -/
def rSdT : V → List V → Hp → VK → Prop := fun x xs H Q => ∃ (a : Addr) (kvs : List (List Key × V)) (k : List Key) (b : Addr) (d : V), x = .ref a ∧ xs = [.ref b, d] ∧ H a = some (.dT kvs) ∧ H b = some (.tup (k.map kV)) ∧ kvs.length < sizeLine ∧
  (∀ v, valV kvs k = some v → Q v H) ∧ (valV kvs k = none → Q d (upd H a (.dT (putK kvs k d))))
/-- d.pop(k), k there -/
def rPop1T : V → List V → Hp → VK → Prop := fun x xs H Q => ∃ (a : Addr) (kvs : List (List Key × V)) (k : List Key) (b : Addr) (v : V), x = .ref a ∧ xs = [.ref b] ∧ H a = some (.dT kvs) ∧ H b = some (.tup (k.map kV)) ∧ valV kvs k = some v ∧ Q v (upd H a (.dT (dropK kvs k)))
theorem kt_none {H : Hp} {kvs : List (List Key × V)} {ys : List (List Key × Addr × Value)} (r : KT H kvs ys) (k : List Key) : atKey ys k = none ↔ valV kvs k = none := by
  have q := r.val k
  constructor
  · intro e
    rw [e] at q
    cases ev : valV kvs k with
    | none => rfl
    | some v => rw [ev] at q; exact (show False from q).elim
  · intro e
    rw [e] at q
    cases ev : atKey ys k with
    | none => rfl
    | some v => rw [ev] at q; exact (show False from q).elim
theorem kt_some {H : Hp} {kvs : List (List Key × V)} {ys : List (List Key × Addr × Value)} (r : KT H kvs ys) {k : List Key} {p : Addr × Value} (e : atKey ys k = some p) : ∃ v, valV kvs k = some v ∧ RelV v p.2 := by
  have q := r.val k
  rw [e] at q
  cases ev : valV kvs k with
  | none => rw [ev] at q; exact (show False from q).elim
  | some v => rw [ev] at q; exact ⟨v, rfl, q⟩
theorem kt_without {H : Hp} (k : List Key) {kvs : List (List Key × V)} {ys : List (List Key × Addr × Value)} (r : KT H kvs ys) : KT H (dropK kvs k) (withoutH ys k) := DX.KT_drop k r
section
variable {X : Cx}
theorem mt_sdT (hu : X.A.units + 1 < cLine) : MtR X "dict.setdefault" rSdT := by
  intro pins s σ H x xs v us Q I rx rxs h
  obtain ⟨a, kvs, k, b, d, rfl, rfl, ha, hb, hlt, q1, q2⟩ := h
  cases rx
  obtain ⟨u1, u2, rfl, r1, r2⟩ := vals2 rxs
  cases r1
  obtain ⟨z, hd, ys, rel, dd⟩ := dt_of I.hok ha
  have hz : ys.length ≤ sizeLine := by
    rw [← Paired.length rel]
    exact z
  refine call_setdefault_heap (knd := tupleKind (mixKind X.prog X.w)) (k := k) (hsz := hz) (tupleKind_room_in1 hu) (key_of I.hok hb) hd dd (fun p hp => ?_) fun hn h' dd' hs => ?_
  · obtain ⟨v0, ev, rv⟩ := kt_some rel hp
    exact ⟨v0, H, I.tok _, rv, q1 v0 ev⟩
  · have en := (kt_none rel k).mp hn
    obtain ⟨q, es, ep, hq, h2, h3, h4, _, h5⟩ := dd'
    have hl : (putK kvs k d).length ≤ sizeLine := by
      have := length_putK kvs k d
      omega
    refine ⟨d, upd H a (.dT (putK kvs k d)), d_write I (by rw [ha]; exact True.intro) hs ⟨q, hq⟩ (show ObjOk X.prog X.w _ _ _ (.dT (putK kvs k d)) from ⟨hl, hd, _, (rel.put k hb r2).keeps fun c zs ec => ?_, q, es, ep, hq, h2, h3, h4, h5⟩), r2, q2 en⟩
    rw [upd_ne (ne_of ec ha (fun z => nomatch z))]
    exact ec
theorem mt_pop1T (hu : X.A.units + 1 < cLine) : MtR X "dict.pop" rPop1T := by
  intro pins s σ H x xs v us Q I rx rxs h
  obtain ⟨a, kvs, k, b, w, rfl, rfl, ha, hb, hv, q⟩ := h
  cases rx
  obtain ⟨u1, rfl, r1⟩ := vals1 rxs
  cases r1
  obtain ⟨z, hd, ys, rel, dd⟩ := dt_of I.hok ha
  have hz : ys.length ≤ sizeLine := by
    rw [← Paired.length rel]
    exact z
  cases ep : atKey ys k with
  | none =>
    rw [(kt_none rel k).mp ep] at hv
    cases hv
  | some p =>
    obtain ⟨v0, ev, rv⟩ := kt_some rel ep
    rw [hv] at ev
    cases ev
    refine call_pop_heap (knd := tupleKind (mixKind X.prog X.w)) (k := k) (more := []) (hsz := hz) (.inl rfl) (PySem.F.args_dict_pop_2 _ _) (tupleKind_room_in1 hu) (key_of I.hok hb) hd dd ep fun h' dd' hs => ?_
    obtain ⟨o, es, n, hq, h2, h3, h4, _, h5⟩ := dd'
    refine ⟨w, upd H a (.dT (dropK kvs k)), d_write I (by rw [ha]; exact True.intro) hs ⟨o, hq⟩ (show ObjOk X.prog X.w _ _ _ (.dT (dropK kvs k)) from ⟨Nat.le_trans (dropK_le kvs k) z, hd, _, (kt_without k rel).keeps fun c zs ec => ?_, o, es, n, hq, h2, h3, h4, h5⟩), rv, q⟩
    rw [upd_ne (ne_of ec ha (fun z => nomatch z))]
    exact ec
end
/-- d.setdefault(k, []).append(x) -/
abbrev sAddTo (K : PySem.W.Frag) (td tk tx : TE) : TS := tDrop (tBM K "list" rAppend (tBM K "dict" rSdT td (tCons tk (tCons (tLst tNil) tNil))) (tCons tx tNil))
abbrev tDPopT (K : PySem.W.Frag) (td tk : TE) : TE := tBM K "dict" rPop1T td (tCons tk tNil)
abbrev tListRange (te : L2.St → Hp → (Int → Int → Hp → Prop) → Prop) : TE := tLstRg te
/-! ### list(reversed(xs)), sorted(d) -/
def tListRev (K : PySem.W.Frag) (ta : TE) : TE := fun σ H Q => ta σ H fun x H1 => ∃ (a : Addr) (xs : List V), x = .ref a ∧ SqL K H1 a xs ∧ ∀ p, H1 p = none → Q (.ref p) (upd H1 p (.lst xs.reverse))

def pk (H : Hp) : Value → Int × Int
  | .ref b => match H b with
    | some (.tup [.int i, .int j]) => (i, j)
    | _ => (0, 0)
  | _ => (0, 0)
theorem pk_eq {H : Hp} {b : Addr} {i j : Int} (h : H b = some (.tup [.int i, .int j])) : pk H (.ref b) = (i, j) := by
  show (match H b with | some (.tup [.int i, .int j]) => (i, j) | _ => (0, 0)) = _
  rw [h]
/-- sorted(d), its keys pairs of ints -/
def rSortedM : List V → Hp → VK → Prop := fun vs H Q => ∃ (a : Addr) (kvs : List (List Key × V)) (ks : List (Int × Int)), vs = [.ref a] ∧ Rd H a (.dT kvs) ∧ kvs.map (·.1) = ks.map (fun p => [Sum.inl p.1, Sum.inl p.2]) ∧
  ∀ (bs : List Addr) (ps : List (Int × Int)) (p : Addr), ps.Perm ks → SrtO.Srtd SrtO.lexB ps → Paired (fun b q => H b = some (.tup [.int q.1, .int q.2])) bs ps → H p = none → Q (.ref p) (upd H p (.lst (bs.map V.ref)))
def backA : Value → Addr
  | .ref a => a
  | _ => 0
theorem pairedGet {α β : Type} {F : α → β → Prop} : ∀ {l₁ : List α} {l₂ : List β}, Paired F l₁ l₂ → ∀ (j : Nat) (h1 : j < l₁.length) (h2 : j < l₂.length), F (l₁[j]'h1) (l₂[j]'h2)
  | _, _, .nil, j, h1, _ => absurd h1 (Nat.not_lt_zero _)
  | _, _, .cons h _, 0, _, _ => h
  | _, _, .cons _ t, j + 1, h1, h2 => pairedGet t j (Nat.lt_of_succ_lt_succ h1) (Nat.lt_of_succ_lt_succ h2)
theorem paired_out {H : Hp} : ∀ {out : List Value}, (∀ v ∈ out, ∃ b i j, v = .ref b ∧ H b = some (.tup [.int i, .int j])) → Paired (fun b q => H b = some (.tup [.int q.1, .int q.2])) (out.map backA) (out.map (pk H)) ∧ (out.map backA).map Value.ref = out
  | [], _ => ⟨.nil, rfl⟩
  | v :: out, h => by
    obtain ⟨b, i, j, rfl, hb⟩ := h v List.mem_cons_self
    obtain ⟨h1, h2⟩ := paired_out fun u hu => h u (List.mem_cons_of_mem _ hu)
    refine ⟨.cons ?_ h1, ?_⟩
    · rw [pk_eq hb]; exact hb
    · show Value.ref b :: (out.map backA).map Value.ref = _
      rw [h2]
section
variable {X : Cx}
theorem cr_sortedM (hcalm : X.calm = true) : CallR X (.builtin "sorted") rSortedM := by
  intro pins s σ H vs us Q I r h
  obtain ⟨d, kvs, ks, rfl, hd, hks, q⟩ := h
  obtain ⟨u, rfl, rx⟩ := r.one
  cases rx
  obtain ⟨z, hs, xs, pr, o, es, ep, ho, hx, hdt, he, hn⟩ := (show ObjOk X.prog X.w H s.heap d (.dT kvs) from hd.ok I.hok)
  have l1 : es.size = xs.length := size_of_entries he
  have l2 : kvs.length = xs.length := Paired.length pr
  have ik : IsKeys H kvs (xs.map fun x => x.2.1) := isKeys_of pr
  refine Calls.call_function_entry PyProof.Rows.kind_sorted PyProof.Rows.plain_sorted PyProof.Rows.entry_sorted (PyProof.Rows.args_sorted1 _) ?_
  unfold Builtin.«sorted»
  refine wpAny_bind (m := checkCount "sorted" 1 1 _) (wpAny_pure ?_)
  refine wpAny_bind (PySem.W.kdu_collect (A := X.A.in1) (kdl_raw hs hx hdt) (I.ok.hd hcalm) ho (by omega) fun h' tk acc hk hacc => ?_)
  have ea : acc.toList = xs.map fun x => Value.ref x.2.1 := by
    have hl : acc.toList.length = xs.length := by rw [Array.length_toList, hacc.1]; exact l1
    apply List.ext_getElem?
    intro j
    rw [List.getElem?_map]
    cases hj : acc.toList[j]? with
    | none =>
      have h1 := List.getElem?_eq_none_iff.mp hj
      rw [List.getElem?_eq_none (by omega)]
      all_goals rfl
    | some v =>
      obtain ⟨en, hen, hv⟩ := hacc.2 j v (by rw [← Array.getElem?_toList]; exact hj)
      have qe := entry_at he j
      rw [hen] at qe
      cases hb : xs[j]? with
      | none =>
        rw [hb] at qe
        exact nomatch (show some en = none from qe)
      | some b =>
        rw [hb] at qe
        have e2 : en = entryOfKey (tupleKind (mixKind X.prog X.w)) b := Option.some.inj qe
        rw [hv, e2]
        all_goals rfl
  have hall : ∀ v ∈ acc.toList, ∃ b i j, v = Value.ref b ∧ H b = some (.tup [.int i, .int j]) := by
    rw [ea]
    intro v hv
    obtain ⟨x, hx, rfl⟩ := List.mem_map.mp hv
    obtain ⟨j, hj, ej⟩ := List.mem_iff_getElem.mp hx
    have hjk : j < kvs.length := by omega
    obtain ⟨b, hb1, hb2⟩ : ∃ b, (xs.map fun x => x.2.1)[j]? = some b ∧ H b = some (.tup ((kvs[j]).1.map kV)) := by
      refine ⟨x.2.1, by rw [List.getElem?_map, List.getElem?_eq_getElem hj, ej]; rfl, ?_⟩
      have := pairedGet pr j hjk hj
      rw [ej] at this
      exact this.2.1
    have e1 : (kvs.map (·.1))[j]? = some kvs[j].1 := by rw [List.getElem?_map, List.getElem?_eq_getElem hjk]; rfl
    rw [hks, List.getElem?_map] at e1
    cases e2 : ks[j]? with
    | none => rw [e2] at e1; cases e1
    | some p =>
      rw [e2] at e1
      have e3 : [Sum.inl p.1, Sum.inl p.2] = kvs[j].1 := Option.some.inj e1
      rw [List.getElem?_map, List.getElem?_eq_getElem hj, ej] at hb1
      have : x.2.1 = b := Option.some.inj hb1
      refine ⟨x.2.1, p.1, p.2, rfl, ?_⟩
      rw [this, hb2, ← e3]
      rfl
  have hpk : acc.toList.map (pk H) = ks := by
    have a1 := Paired.length pr
    rw [ea, List.map_map]
    apply List.ext_getElem?
    intro j
    rw [List.getElem?_map]
    cases hj : xs[j]? with
    | none =>
      have h1 := List.getElem?_eq_none_iff.mp hj
      have : ks.length = kvs.length := by have e := congrArg List.length hks; rw [List.length_map, List.length_map] at e; exact e.symm
      rw [List.getElem?_eq_none (by omega)]
      rfl
    | some x =>
      obtain ⟨hlt, ej⟩ := List.getElem?_eq_some_iff.mp hj
      have hjk : j < kvs.length := by omega
      have hh := pairedGet pr j hjk hlt
      rw [ej] at hh
      have e1 : (kvs.map (·.1))[j]? = some kvs[j].1 := by rw [List.getElem?_map, List.getElem?_eq_getElem hjk]; rfl
      rw [hks, List.getElem?_map] at e1
      cases e2 : ks[j]? with
      | none => rw [e2] at e1; cases e1
      | some p =>
        rw [e2] at e1
        have e3 : [Sum.inl p.1, Sum.inl p.2] = kvs[j].1 := Option.some.inj e1
        show some (pk H (.ref x.2.1)) = some p
        have hb := hh.2.1
        rw [← e3] at hb
        rw [pk_eq (i := p.1) (j := p.2) hb]
  have hal : acc.toList.length = xs.length := by rw [ea, List.length_map]
  have I1 : Inv X pins σ H { s with heap := h', toks := tk } := I.kept hk
  refine wpAny_bind (wpAny_newList ?_ (by rw [hal]; omega))
  have hoL : (h'.push (seqObj "list" acc.toList.toArray 0)).get? h'.objs.size = some (seqObj "list" acc.toList.toArray 0) := Heap.get?_push_size _ rfl
  have hp : ∀ v ∈ acc.toList, Srt.IsPair (h'.push (seqObj "list" acc.toList.toArray 0)) v (pk H v).1 (pk H v).2 := fun v hv => by
    obtain ⟨b, i, j, rfl, hb⟩ := hall v hv
    obtain ⟨_, its2, r2, o2, ho2, hc2, n2, hd2⟩ := I1.hok _ _ hb
    obtain ⟨u1, u2, rfl, ri, rj⟩ := vals2 r2
    obtain ⟨t1, rfl⟩ := ri
    obtain ⟨t2, rfl⟩ := rj
    rw [pk_eq hb]
    exact ⟨b, o2, t1, t2, n2, rfl, Heap.get?_push_of_some _ ho2, hc2, hd2⟩
  show wpAny _ _ _ _ _ { s with heap := h'.push (seqObj "list" acc.toList.toArray 0), toks := tk }
  refine wpAny_bind (wpAny_holding (wpAny_call_entry PyProof.Rows.slot_list_sort ⟨_, hoL, rfl⟩ PyProof.Rows.entry_list_sort
    (SrtO.list_sort_ord (s := { s with heap := h'.push (seqObj "list" acc.toList.toArray 0), toks := tk }) (SrtO.swo_lex (pk H)) hoL (by rw [hal]; omega) (fun h2 => SrtO.pairs_sortableO (by omega) hp fun o e => ?_) fun out g1 g2 => ⟨_, rfl, ?_⟩) (PyProof.Rows.args_list_sort _)))
  · have e' : some o = some (seqObj "list" acc.toList.toArray 0) := e.symm.trans hoL
    cases e'
    intro c
    exact absurd (Value.type.inj c) (by decide)
  · obtain ⟨e', he'⟩ := PyProof.Rows.sortedHeap_at (vs := acc.toList) (out := out.toArray) hoL
    have h3 : ∀ v ∈ out, ∃ b i j, v = Value.ref b ∧ H b = some (.tup [.int i, .int j]) := fun v hv => hall v (g2.perm.mem_iff.mp hv)
    obtain ⟨k1, k2⟩ := paired_out h3
    have hlen : ((out.map backA).map V.ref).length ≤ sizeLine := by
      rw [List.length_map, List.length_map, g2.len, hal]; omega
    have hperm : (out.map (pk H)).Perm ks := by
      have := g2.perm.map (pk H)
      rw [hpk] at this
      exact this
    have hv : Vals ((out.map backA).map V.ref) out := by
      have := vals_refs (out.map backA)
      rw [k2] at this
      exact this
    refine wpAny_pure ⟨_, rfl, .ref h'.objs.size, upd H h'.objs.size (.lst ((out.map backA).map V.ref)), I1.laid (t' := tk) (fun b u e => ?_) (Nat.le_refl _)
      (show ObjOk X.prog X.w _ _ _ (.lst ((out.map backA).map V.ref)) from ⟨hlen, out, e', hv, he'⟩), rfl, q _ _ _ hperm (List.pairwise_map.mpr g1) k1 (I1.hok.fresh (Nat.le_refl _))⟩
    have hb : b < h'.objs.size := Heap.lt_size e
    rw [PyProof.Rows.sortedHeap_old (Nat.ne_of_lt hb) (by rw [size_push']; exact Nat.lt_succ_of_lt hb)]
    exact Heap.get?_push_of_some _ e
end

/-! ### list(reversed(a list)) -/
section
variable {prog : Program} {w : World} {A : Around} {E : Value → Shared → Prop} {s : Shared}
theorem call_list_rev {it l : Addr} {items : Array Value} {Q : Value → Shared → Prop} (hh : A.handled = none) (hit : s.heap.IsRevIter it l ((items.size : Int) - 1)) (hl : s.heap.IsList l items) (hne : l ≠ it) (hn : items.size ≤ sizeLine)
    (hQ : ∀ (h' : Heap) (tk : Nat) (acc : Array Value) (c : Nat), (∀ b o, b ≠ it → s.heap.get? b = some o → h'.get? b = some o) → h'.get? s.heap.objs.size = some { cls := .type "list", dict := none, data := .seq acc c, slots := #[] } → ItemsOf (fun i v => items[items.size - 1 - i]? = some v) acc items.size → Q (.ref s.heap.objs.size) { s with heap := h', toks := tk }) :
    wpAny (model prog w) A (call (.type "list") [.ref it]) Q E s := by
  refine callType_codes (Q₁ := fun obj s₁ => obj = .ref s.heap.objs.size ∧ s₁ = { s with heap := s.heap.push { cls := .type "list", data := .seq #[] } }) PySem.F.called_list (PySem.F.typeCall_list_1 _) PySem.F.entry_list_init
    (code_list_new _ ⟨rfl, rfl⟩) fun obj s₁ h₁ => ?_
  obtain ⟨rfl, rfl⟩ := h₁
  have hS : (s.heap.push { cls := .type "list", data := .seq #[] }).get? s.heap.objs.size = some { cls := .type "list", data := .seq #[] } := Heap.get?_push_size _ rfl
  have W := (Walks.listRev (prog := prog) (w := w) (A := A.in1.in1) hh it l hne items).toS
  obtain ⟨oi, hoi, _⟩ := id hit
  obtain ⟨ol, hol, _⟩ := id hl
  have hSi : s.heap.objs.size ≠ it := Nat.ne_of_gt (Heap.lt_size hoi)
  have hSl : s.heap.objs.size ≠ l := Nat.ne_of_gt (Heap.lt_size hol)
  have hSf : s.heap.objs.size ∉ [it, l] := by simp only [List.mem_cons, List.not_mem_nil, or_false, not_or]; exact ⟨hSi, hSl⟩
  refine ⟨⟨_, hS, rfl⟩, PySem.F.args_list_init_2 _ _, ?_⟩
  show wpAny _ _ (do let old ← Builtin.List.listItems (.ref s.heap.objs.size); Builtin.List.listUpdate (.ref s.heap.objs.size) (fun _ => #[]); letGo old.toList.reverse; Builtin.List.listExtendWith (.ref s.heap.objs.size) (.ref it) .none) _ _ _
  refine wpAny_bind ?_
  unfold Builtin.List.listItems
  refine wpAny_bind (wpAny_seqItems hS rfl (wpAny_pure ?_))
  show wpAny _ _ (updateSeq s.heap.objs.size (fun _ => #[]) >>= fun _ => letGo (#[] : Array Value).toList.reverse >>= fun _ => Builtin.List.listExtendWith (.ref s.heap.objs.size) (.ref it) .none) _ _ _
  refine wpAny_bind (wpAny_updateSeq hS rfl ?_)
  have hS₂ := Heap.get?_update_self (Obj.mapSeq (fun _ => (#[] : Array Value))) hS rfl
  refine wpAny_bind (wpAny_letGo ?_)
  generalize hh2 : (s.heap.push { cls := .type "list", data := .seq #[] }).update s.heap.objs.size (Obj.mapSeq (fun _ => (#[] : Array Value))) = h2 at hS₂
  have oth : ∀ b o, s.heap.get? b = some o → h2.get? b = some o := fun b o e => by
    rw [← hh2]
    exact (Heap.get?_update_other _ _ (Ne.symm (Nat.ne_of_lt (Heap.lt_size e)))).trans (Heap.get?_push_of_some _ e)
  have hit1 : h2.IsRevIter it l ((items.size : Int) - 1) := hit.at fun o e => oth _ _ e
  have hl1 : h2.IsList l items := hl.at fun o e => oth _ _ e
  have hT : ({ s with heap := h2 } : Shared).TypeIs (.ref it) "list_reverseiterator" := Heap.IsRevIter.typeIs (s := { s with heap := h2 }) hit1
  have h1 : Builtin.List.listSameRef (.ref s.heap.objs.size) (.ref it) = false := by simp [Builtin.List.listSameRef, hSi]
  show wpAny _ _ _ _ _ { s with heap := h2 }
  unfold Builtin.List.listExtendWith
  refine wpAny_bind (wpAny_typeOf hT ?_)
  rw [if_neg (by rw [h1]; decide)]
  refine wpAny_bind (wpAny_pyIter_revIter (s := { s with heap := h2 }) hit1 ?_)
  refine wpAny_bind (wpAny_holding ?_)
  unfold Builtin.List.listLengthHint
  refine wpAny_bind (wpAny_specialOf hT RT.nolen_lri ?_)
  show wpAny _ _ (specialOf (Value.ref it) (Str.ofString "__length_hint__") >>= _) _ _ _
  refine wpAny_bind (wpAny_specialOf hT RT.hint_lri ?_)
  generalize hid : ("list_reverseiterator.__length_hint__" : String) = id0
  wp_delta
  rw [show splitId id0 = some ("list_reverseiterator", "__length_hint__") from by subst hid; decide +kernel]
  subst hid
  refine wpAny_bind (wpAny_isInstance (b := true) hT (by rw [isSubtype_type]; kernel_rfl) ?_)
  refine wpAny_pure ?_
  rw [if_neg (by decide)]
  have e0 : ((items.size : Nat) : Int) - 1 - ((0 : Nat) : Int) = (items.size : Int) - 1 := by omega
  refine wpAny_pure ⟨plainId_quiet F.plain_extend_loop _, codeAny_extend_loopS (s := { s with heap := h2 }) W hn _ hSf _ items.size 0 _ _ rfl (Nat.zero_le _) ⟨Nat.zero_le _, by rw [e0]; exact hit1, hl1⟩ hS₂ (ItemsOf.nil _) fun s' acc' c' hm hS' hacc => ?_⟩
  rw [Moved.eq_with hm]
  refine ⟨rfl, hQ s'.heap s'.toks acc' c' (fun b o hb e => hm.heap b o (fun hmem => ?_) (oth b o e)) hS' hacc⟩
  rcases List.mem_cons.mp hmem with e' | hmem
  · exact absurd (Heap.lt_size e) (by rw [e']; exact Nat.lt_irrefl _)
  · exact hb (List.mem_singleton.mp hmem)
end
section
variable {X : Cx}
theorem pe_listrev {e : Expr} {te : TE} {p p2 pos pos2 : Pos} (hc : X.calm = true) (hg : Gl X "list") (hm : X.mg "list" = none) (hg2 : Gl X "reversed") (hm2 : X.mg "reversed" = none) (he : PE X e te)
    (hs : starEach [e] X.env = (false, eval e X.env) :: starEach [] X.env := by rfl)
    (hs2 : starEach [.Call (.Name "reversed" p2) [e] [] pos2] X.env = (false, eval (.Call (.Name "reversed" p2) [e] [] pos2) X.env) :: starEach [] X.env := by rfl) :
    PE X (.Call (.Name "list" p) [.Call (.Name "reversed" p2) [e] [] pos2] [] pos) (tListRev X.K te) := by
  refine ⟨fun pins s σ H Q I h => ?_⟩
  refine Call_ (ld_blt I hg hm boot_list (PyProof.Rows.callWith_type1 (args_cons (Call_ (ld_blt I hg2 hm2 PyProof.Rows.boot_reversed (PyProof.Rows.callWith_type1 (args_cons (thn (he.run pins s σ H _ I h) fun u s1 ⟨v, H1, I1, r1, q1⟩ => args_nil ?_) hs) hs rfl))) hs2) hs2 rfl))
  obtain ⟨a, xs, ev, hq, q⟩ := q1
  subst ev
  obtain rfl : u = Value.ref a := r1
  obtain ⟨its, rv, p', hz⟩ := I1.list hq
  refine call_reversed_list p'.isList (args_nil ?_)
  have k0 : ∀ b o, s1.heap.get? b = some o → (s1.heap.push (revObj a ((its.toArray.size : Int) - 1))).get? b = some o := fun b o e => Heap.get?_push_of_some _ e
  have I2 : Inv X pins σ H1 { s1 with heap := s1.heap.push (revObj a ((its.toArray.size : Int) - 1)) } := I1.kept (t' := s1.toks) k0
  obtain ⟨f0, f1, f2, f3, f4, f5⟩ := I1.fpOk (H' := H1) (b := s1.heap.objs.size) (Nat.le_refl _) (I1.hok.fresh (Nat.le_refl _))
  have hl := p'.isList
  obtain ⟨ol, hol, _⟩ := id hl
  have hne : a ≠ s1.heap.objs.size := Nat.ne_of_lt (Heap.lt_size hol)
  have hn : its.toArray.size ≤ sizeLine := by rw [List.size_toArray, ← rv.length]; exact hz
  refine call_list_rev (s := { s1 with heap := s1.heap.push (revObj a ((its.toArray.size : Int) - 1)) }) (I1.ok.hd hc) ⟨_, Heap.get?_push_size _ rfl, rfl, rfl⟩ (hl.push _) hne hn fun h' tk acc c hk hS hi => ?_
  have hsz : (s1.heap.push (revObj a ((its.toArray.size : Int) - 1))).objs.size = s1.heap.objs.size + 1 := size_push' _ _
  refine ⟨.ref _, upd H1 (s1.heap.push (revObj a ((its.toArray.size : Int) - 1))).objs.size (.lst xs.reverse), I2.turnedNew (t' := tk) (ch := [s1.heap.objs.size]) (fun b o hb e => hk b o (fun z => hb (List.mem_singleton.mpr z)) e) (fun b hb => by rw [List.mem_singleton.mp hb]; exact ⟨f0, f1, f2, f3, f4, f5⟩) (Nat.le_refl _) ?_, rfl, q _ (I2.hok.fresh (Nat.le_refl _))⟩
  exact (show ObjOk X.prog X.w _ _ _ (.lst xs.reverse) from ⟨by rw [List.length_reverse]; exact hz, acc.toList, c, RT.vals_rev rv hi, by rw [Array.toArray_toList]; exact hS⟩)
end

/-! ### an object that an expression has just made, read only from now on -/
def tFrz (td : TE) : TE := fun σ H Q => td σ H fun x H1 => ∃ d u, x = .ref d ∧ H1 d = some u ∧ Mut (some u) ∧ ∀ od, Q x (upd H1 d (.frz od u))
theorem pe_freeze {X : Cx} {e : Expr} {td : TE} (h : PE X e td) : PE X e (tFrz td) := ⟨fun pins s σ H Q I hw =>
  thn (h.run pins s σ H _ I hw) fun v s1 ⟨x, H1, I1, r, d, u, ex, hd, mu, q⟩ => by
    obtain ⟨od, I2⟩ := I1.lock hd mu
    exact ⟨x, _, I2, r, q od⟩⟩
end XR
-- KExc0
set_option Elab.async false
set_option linter.all false
set_option maxRecDepth 100000
set_option maxHeartbeats 2000000
/-! NoTable: its class, its __init__, raise NoTable(place) -/
namespace XR
open PySem PySem.Spec PyProof.Rows L2
abbrev cNT (K : PySem.W.Frag) : Addr := He.ga K "NoTable"
abbrev cHE (K : PySem.W.Frag) : Addr := He.ga K "HallError"
abbrev fNT (K : PySem.W.Frag) : Addr := He.ma K (cNT K) "__init__"
theorem oexB_ok {K : PySem.W.Frag} {C : Addr} (h : oexB K C = true) : ∃ nm q N bs bm sn sub ab col dd k0 k1 k2 k3 k5, K.lookup C = some (excClassObj nm q C N bs bm true sn sub ab col dd k0 k1 k2 k3 k5 "ValueError.__new__") ∧ PySem.HandSPX.refsVE bm = true := by
  unfold oexB at h
  split at h
  case h_2 => cases h
  case h_1 dd cd sl hl =>
    split at h
    case h_2 => cases h
    case h_1 E bm a0 a1 a2 a3 n a5 hm hs =>
      rw [Bool.and_eq_true, Bool.and_eq_true, Bool.and_eq_true, Bool.and_eq_true] at h
      obtain ⟨h1, h2, h3, h4, h5⟩ := h
      have e1 : E = C := eq_of_beq h1
      have e2 : n = "ValueError.__new__" := eq_of_beq h2
      obtain ⟨nm, bs, mro, ns, q, hd, sn, sub, ab, col, del⟩ := cd
      have h3 : (!del) = true := h3
      have h4 : hd = true := h4
      have hm : mro = .ref E :: bm := hm
      have e3 : del = false := by cases del <;> simp at h3 <;> rfl
      have e4 : sl = #[a0, a1, a2, a3, some (.builtin n), a5] := by
        have : sl = sl.toList.toArray := by simp
        rw [this, hs]
      subst e1 e2 e3 e4 hm h4
      exact ⟨nm, q, ns, bs, bm, sn, sub, ab, col, dd, a0, a1, a2, a3, a5, hl, h5⟩
/-- what is known of the classes -/
structure NtC (K : PySem.W.Frag) : Prop where
  ox : OexC K (cNT K)
  ga : PySem.W.findIn K (.ref (cNT K)) "__getattribute__" = some (some (.builtin "BaseException.__getattribute__"))
  gg : PySem.W.findIn K (.ref (cNT K)) "__getattr__" = some none
  hc : PySem.W.findIn K (.ref (cNT K)) "__class__" = some (some (.builtin "object.__class__"))
  hn : PySem.W.specialIn K (.builtin "object.__class__") "__get__" = some (some (.builtin "getset_descriptor.__get__"))
  ht : PySem.W.takesIn K (.builtin "object.__class__") = some true
  mo : PySem.W.mroIn K (cNT K) (.type "object") = some true
  hd : PySem.W.hasDictIn K (cNT K) = true
  k1 : PySem.W.kitOne K (.ref (cNT K)) (.ref (cNT K)) = some true
  k2 : PySem.W.kitOne K (.ref (cNT K)) (.type "ValueError") = some true
  k3 : PySem.W.kitOne K (.ref (cNT K)) (.ref (He.ga K "TooFull")) = some false
  k4 : PySem.W.kitOne K (.ref (cNT K)) (.ref (He.ga K "Wide")) = some false
  rd : PySem.W.readsIn K (cHE K) (.type "type") = true
  sp : PySem.W.specialIn K (.ref (cHE K)) "__getattribute__" = some (some (.builtin "type.__getattribute__"))
  fi : PySem.W.findCls K (.ref (cHE K)) (.type "type") "__init__" = some (.val (.builtin "ValueError.__init__"))
  me : L2.Meth K (cNT K) "__init__" (fNT K)
  no : PySem.W.findIn K (.ref (cNT K)) "place" = some none
  em : PySem.W.exmOne K (.ref (cNT K)) (.ref (cHE K)) = some true
theorem valIs_ok {r : Option PySem.W.CFound} {v : Value} (h : valIs r v = true) : r = some (.val v) := by
  unfold valIs at h
  split at h
  · rw [of_decide_eq_true h]
  · cases h
theorem Told.ntc {K : PySem.W.Frag} (c : Told K) : NtC K := by
  have h := c.x
  unfold ex at h
  simp only [Bool.and_eq_true] at h
  obtain ⟨⟨⟨⟨⟨⟨⟨⟨⟨⟨⟨⟨⟨⟨⟨⟨⟨h1, h2⟩, h3⟩, h4⟩, h5⟩, h6⟩, h7⟩, h8⟩, h9⟩, h10⟩, h11⟩, h12⟩, h13⟩, h14⟩, h15⟩, h16⟩, h17⟩, h18⟩ := h
  have hk : PySem.W.keepIn K (.ref (cNT K)) = true := He.keep_ok (c.d.fact 64 (f := .keep "NoTable") rfl)
  exact ⟨⟨oexB_ok h1, He.eqO_ok h2, of_decide_eq_true h3, of_decide_eq_true h4, hk⟩, He.eqO_ok h5, He.eqO_ok h6, He.eqO_ok h7, He.eqO_ok h8, of_decide_eq_true h9, of_decide_eq_true h10, h11, of_decide_eq_true h12, of_decide_eq_true h13, of_decide_eq_true h14, of_decide_eq_true h15, h16, He.eqO_ok h17, valIs_ok h18,
    He.meth_ok (c.d.fact 63 (f := .meth "NoTable" "__init__") rfl), He.noat_ok (c.d.fact 65 (f := .noat "NoTable" "place") rfl), He.exm_ok (c.d.fact 66 (f := .exm "NoTable" "HallError" true) rfl)⟩

section
variable {X : Cx} {e : Expr} {es : List Expr} {ta : TA} {p1 p2 pos : Pos} {x : Str} {C0 : Addr}
theorem pe_clsinit {pl : Sem Bool} (hg : Gl X x) (hm : X.mg x = some (.ref C0)) (rd : PySem.W.readsIn X.K C0 (.type "type") = true) (hsp : PySem.W.specialIn X.K (.ref C0) "__getattribute__" = some (some (.builtin "type.__getattribute__")))
    (fi : PySem.W.findCls X.K (.ref C0) (.type "type") "__init__" = some (.val (.builtin "ValueError.__init__"))) (ha : PA X (e :: es) ta) (hdb : (x == ("__debug__" : Str)) = false := by decide)
    (hc : eval (.Call (.Attribute (.Name x p1) "__init__" p2) (e :: es) [] pos) X.env = (do
      let ov ← eval (.Name x p1) X.env
      standAt p2.atName
      let (f, first) ← holding [ov] (getMethod ov "__init__" pl)
      callWith pos f first (backTo pos (starEach (e :: es) X.env)) (backToKw pos (keywordEach [] X.env))) := by rfl)
    (he : starEach (e :: es) X.env = (false, eval e X.env) :: starEach es X.env := by rfl) (hpl : (backTo pos (starEach es X.env)).any (·.1) = false := by rfl) :
    PE X (.Call (.Attribute (.Name x p1) "__init__" p2) (e :: es) [] pos) (tVeI X.K ta) := by
  refine ⟨fun pins s σ H Q I h => ?_⟩
  refine PySem.W.methodCall_KW (ld_glob I hg hm ?_ hdb) hc
  refine PySem.W.method_cls I.kIn hsp (PySem.W.cls_value I.kIn rd fi (by rfl) ?_)
  show wpAny _ _ (callWith pos (Value.builtin "ValueError.__init__") [] (backTo pos (starEach (e :: es) X.env)) []) _ _ _
  refine PyProof.Rows.callWith_method1 (thn (ha.run pos pins _ σ H _ (I.tok _) h) fun us s1 ⟨vs, H1, I1, r1, a, C, ws, ev, hl, T, ea, q⟩ => ?_) he hpl
  subst ev
  cases r1 with
  | @cons _ u0 _ ur ra rw' =>
    obtain rfl : u0 = Value.ref a := ra
    have hlen : ur.length ≤ sizeLine := by
      rw [← Paired.length rw', sizeLine_eq]
      omega
    exact oinit_ok T I1 ea hlen fun s' J => ⟨.non, H1, J, rfl, q⟩
end
def names_NTi : List Str := ["self", "place"]
theorem sc_NTi : FnScope names_NTi ["self", "place"] (defScope s_NoTable_init) := ⟨rfl, rfl, rfl, by decide +kernel, rfl, by decide +kernel, by decide +kernel⟩
/-- the dict that a NoTable carries -/
abbrev plc (k : Int) : List (Str × V) := [(("place" : Str), V.int k)]
def spNTi (K : PySem.W.Frag) : Sp := fun vs H Q _ => ∃ (a : Addr) (k : Int), vs = [.ref a, .int k] ∧ H a = some (exo a (cNT K) none) ∧ ∀ dx, H dx = none → dx ≠ a → Q .non (upd (upd H dx (exd dx (plc k))) a (exo a (cNT K) (some dx)))
def t_NTi (K : PySem.W.Frag) : TS := tSeq (tDrop (tVeI K (tCons (tVar 0) (tCons (tC (.str "no table")) tNil)))) (tOst K "place" (tVar 0) (tVar 1))
section
variable {P : Program} {w : World} {K : PySem.W.Frag} {mg : Str → Option Value} {base : Heap}
theorem ok_NTi {lv : Nat} (T : Tp K mg) : ∃ (fd : FuncData), FnOk P w K mg base CX0 (lv + 1) (fNT K) fd ["self", "place"] (spNTi K) ∧ Binds K fd ["self", "place"] [] := by
  obtain ⟨fd, F⟩ := T.def_ 42 (d := d_NoTable_init) rfl
  have C := T.c.ntc
  refine ⟨fd, FunD.ok (k := lv) F sc_NTi (fun vs H Q E ⟨a, k, e, _⟩ => by rw [e]; rfl) fun cdv A outer s H vs Q E hr h => ⟨t_NTi K, PSs.nox ?_, ?_⟩, F.bindsN (fun _ _ _ _ _ _ us hl => match us, hl with | [_, _], _ => rfl)⟩
  · exact pss_cons (ps_expr (pe_clsinit (by rfl) (T.glo 42 rfl) C.rd C.sp C.fi (pa_cons (pv 0) (pa_cons pe_str pa_nil)))) (pss_one (ps_ost (pv 0) (pv 1)))
  · obtain ⟨a, k, rfl, ha, q⟩ := h
    exact ⟨.ref a, rfl, a, cNT K, [.str "no table"], rfl, by show 1 ≤ 1000; decide, C.ox, ha, .int k, rfl, .ref a, rfl, a, cNT K, rfl, C.ox, C.no, .inl ⟨ha, fun dx h1 h2 => q dx h1 h2⟩⟩
end
/-- raise NoTable(e) -/
def tRaiseNT (K : PySem.W.Frag) (W : WX) (ta : TA) : TS := fun _ σ H => tMkO (cNT K) (spNTi K) [] ta σ H fun cls d H' => W cls d σ H'
theorem ps_raiseNT {X : Cx} {W : WX} {k : Nat} {e : Expr} {ta : TA} {p pos pos2 : Pos} (hc : X.calm = true) (tk : Takes X W) (T : Tp X.K X.mg) (hr : Room (k + 2) X.A) (ha : PA X [e] ta) (hg : Gl X "NoTable" := by rfl)
    (he : starEach (e :: []) X.env = (false, eval e X.env) :: starEach [] X.env := by rfl) (hpl : (backTo pos (starEach [] X.env)).any (·.1) = false := by rfl) :
    PS X (.Raise (some (.Call (.Name "NoTable" p) [e] [] pos)) none pos2) (tRaiseNT X.K W ta) := by
  obtain ⟨fd, F, b⟩ := ok_NTi (P := X.prog) (w := X.w) (base := X.base) (lv := k) T
  have C := T.c.ntc
  have tI : PySem.W.typeIn X.K (.ref (fNT X.K)) = some (.type "function") := by
    have h := C.me.fn
    unfold PySem.W.isFn at h
    exact eq_of_beq h
  exact ps_raise hc tk (pmk_oex C.ox C.me.at_ tI F hr b .nil pass0 hg (T.glo 44 rfl) ha (by decide) he hpl)
end XR
-- KTry
set_option Elab.async false
set_option linter.all false
set_option maxRecDepth 100000
set_option maxHeartbeats 2000000
/-! try: .. except X as n: .., the exception looked at behind the suite -/
namespace XR
open PySem PySem.Spec PyProof.Rows L2
/-- nothing behind -/
abbrev noEnds : Ends := ⟨fun _ _ => False, fun _ _ => False, fun _ _ => False, fun _ _ => False⟩
def wThen (K : PySem.W.Frag) (c : Value) (i : Nat) (ts tr : Addr → Value → Option Addr → TS) (D : Ends) : WX := fun cls d σ H =>
  PySem.W.exmOne K cls c = some true ∧ ∀ a, H a = none → ts a cls d ⟨fun σ' H' => tr a cls d D (σ'.set i none) H', fun _ _ => False, fun _ _ => False, fun _ _ => False⟩ (σ.set i (some (.ref a))) H
section
variable {X : Cx} {x n : Str} {c : Value} {i : Nat} {body suite rest : List Stmt} {b₀ : Stmt} {np pos pos' : Pos} {tb : WX → TS} {ts tr : Addr → Value → Option Addr → TS} {pins : List (Addr × Obj)} {σ : L2.St} {H : Hp} {s : Shared}
theorem inv_pin {q : Addr × Obj} (I : L2.Inv (X.tr (q :: (X.pn ++ pins)) X.xe) [] σ H s) (ok : X.Ok) : L2.Inv X pins σ H s :=
  ⟨ok, I.os, I.bare, I.base, I.loc, I.cell, I.free, I.freeC, fun p hp => I.pin p (List.mem_append_left _ (List.mem_cons_of_mem _ hp)), I.hok, I.len⟩
theorem inv_suite {a : Addr} {q : Addr × Obj} {pn : List (Addr × Obj)} (I : L2.Inv (X.suite a (q :: pn)) [] σ H s) (ok : X.Ok) : L2.Inv (X.tr (q :: pn) X.xe) [] σ H s :=
  ⟨ok.toTry _ _, I.os, I.bare, I.base, I.loc, I.cell, I.free, I.freeC, I.pin, I.hok, I.len⟩
theorem sp_pin {q : Addr × Obj} {D : Ends} {f : Flow} (h : SP (X.tr (q :: (X.pn ++ pins)) X.xe) [] D f s) (ok : X.Ok) : SP X pins D f s := by
  cases f with
  | next => obtain ⟨σ', H', I, q⟩ := h; exact ⟨σ', H', inv_pin I ok, q⟩
  | brk => obtain ⟨σ', H', I, q⟩ := h; exact ⟨σ', H', inv_pin I ok, q⟩
  | cont => obtain ⟨σ', H', I, q⟩ := h; exact ⟨σ', H', inv_pin I ok, q⟩
  | ret u => obtain ⟨v, σ', H', I, r, q⟩ := h; exact ⟨v, σ', H', inv_pin I ok, r, q⟩
theorem pss_try_then (hs : X.stack = X.env :: X.outer) (hf : X.env.frame = some X.env.locals) (hN : X.N.Nodup) (hi : X.N[i]? = some n) (hln : X.env.kindOf n = some .local) (hc : Names X x c)
    (hb : ∀ (W : WX) (pn : List (Addr × Obj)) (xe : Value → Shared → Prop), Takes (X.tr pn xe) W → PassesOwn (model X.prog X.w) X.A X.env xe → PSs (X.tr pn xe) body (tb W))
    (hsu : ∀ (a : Addr) (oe : Obj) (cls : Value) (d : Option Addr) (pn : List (Addr × Obj)), Zc cls d oe → (∃ vs, oe.data = .fields vs) → PSs (X.suite a ((a, oe) :: pn)) (b₀ :: suite) (ts a cls d))
    (hr : ∀ (a : Addr) (oe : Obj) (cls : Value) (d : Option Addr) (pn : List (Addr × Obj)), Zc cls d oe → (∃ vs, oe.data = .fields vs) → PSs (X.tr ((a, oe) :: pn) X.xe) rest (tr a cls d)) :
    PSs X (.Try body [.ExceptHandler (some (.Name x np)) (some n) (b₀ :: suite) pos'] [] [] pos :: rest) (fun D σ H => tb (wThen X.K c i ts tr D) noEnds σ H) := by
  refine ⟨fun pins s σ H D I h => ?_⟩
  refine wpAny_execs_cons ?_
  have ok := I.ok
  have hfr : X.A.frames = some (X.env :: X.outer) := by rw [ok.frames, hs]
  have hloc : Loc X.env.scope n := .inl hln
  refine wpAny_Try_except ?_
  refine wpAny_mono ((hb (wThen X.K c i ts tr D) (X.pn ++ pins) (fun e s₁ => wpAny (model X.prog X.w) X.A (noteFrame e X.env) (fun _ s₂ => wpAny (model X.prog X.w) X.A (setFlight e none) (fun _ s₃ =>
    wpAny (model X.prog X.w) X.A (handleBy e X.env [.ExceptHandler (some (.Name x np)) (some n) (b₀ :: suite) pos']) (fun f s' => match f with | .next => wpAny (model X.prog X.w) X.A (execs rest X.env) (SP X pins D) X.xe s' | f => SP X pins D f s') X.xe s₃) X.xe s₂) X.xe s₁) (fun u s' xx => ?_) PassesOwn.looking).run [] s σ H noEnds (I.toTry _) h) (fun f s1 hsp => ?_) (fun e s1 he => he)
  · obtain ⟨a, B, sI, pins', σ', H', cls, d, rfl, J', nb, up, sky, na, os, ag, hb1, hyes⟩ := xx
    have J : L2.Inv X pins σ' H' sI := J'.ofTry ok
    have sky' : Sky B (X.env :: X.outer) a (Zc cls d) X.env.locals s'.heap := by rw [← hs]; exact sky
    show wpAny (model X.prog X.w) X.A (noteFrame (.ref a) X.env) _ _ _
    refine Sky.land Zc.steady hfr hf sky' fun h3 fl3 up3 => ?_
    have J3 : L2.Inv X pins σ' H' { s' with heap := h3 } := J.landed nb fl3.1 (up.trans up3) os ag
    obtain ⟨oe3, vs3, he3, hz3, hd3⟩ := fl3.there
    have notFr : ∀ {h : Heap} {o : Obj} {vs : Array Value}, h.FunFrames B (X.env :: X.outer) → h.get? a = some o → o.data = .fields vs → a ∉ frs (X.env :: X.outer) := fun {h o vs} ff e dd hm => by
      obtain ⟨_, o', e', hnf⟩ := ff.mem hm
      rw [e] at e'; cases e'
      exact hnf _ dd
    have nfr := notFr fl3.2.2.1 he3 hd3
    have nL : a ≠ X.env.locals := fun z => nfr (List.mem_filterMap.mpr ⟨X.env, List.mem_cons_self, by rw [hf, z]⟩)
    have nF : a ∉ X.fs := fun hm => by
      obtain ⟨e, he, q⟩ := List.mem_filterMap.mp hm
      exact nfr (List.mem_filterMap.mpr ⟨e, List.mem_cons_of_mem _ he, q⟩)
    have S3 := J3.suite he3 hd3 na nL nF
    refine wpAny_handleBy_cons (codeAny_handlers_test ?_) (by intro q; cases q)
    have LT : PySem.W.Looks (model X.prog X.w) h3 (typeOf (.ref a)) cls := fun A Q E s k q => wpAny_typeOf_ref (k _ _ he3) (by rw [hz3.1]; exact q)
    have LM := PySem.W.exm_one (M := model X.prog X.w) (J3.kIn) LT hb1
    have test : ∀ {Q : Value → Shared → Prop} {E : Value → Shared → Prop}, Q c { s' with heap := h3 } → wpAny (model X.prog X.w) (X.A.mark (some (.ref a))) (eval (.Name x np) X.env) Q E { s' with heap := h3 } := fun {Q E} q => by
      obtain ⟨hg, hdbg, hm | ⟨hm, hv, hnn⟩⟩ := hc
      · exact ld_glob (X := X.suite a ((a, oe3) :: (X.pn ++ pins))) S3 hg hm q hdbg
      · exact ld_blt (X := X.suite a ((a, oe3) :: (X.pn ++ pins))) S3 hg hm hv q hnn hdbg
    refine test (LM.here ?_)
    refine codeAny_handlers_suite_as ?_
    refine HandSPX.lands_againZ fl3 fun h4 fl4 up4 => ?_
    have J4 : L2.Inv X pins σ' H' { s' with heap := h4 } := J.landed nb fl4.1 ((up.trans up3).trans up4) os ag
    obtain ⟨oe4, vs4, he4, hz4, hd4⟩ := fl4.there
    have S4 := J4.suite he4 hd4 na nL nF
    refine store_ok (X := X.suite a ((a, oe4) :: (X.pn ++ pins))) (v := .ref a) S4 hN hi hloc rfl (fun s5 S5 => ?_) (.inr hln)
    refine wpAny_mono ((hsu a oe4 cls d (X.pn ++ pins) hz4 ⟨_, hd4⟩).run [] s5 _ H' _ S5 (hyes a na)) (fun f s6 hsp => ?_) (fun _ _ z => False.elim z)
    cases f with
    | next =>
      obtain ⟨σ6, H6, S6, q6⟩ := hsp
      refine gone_ok (X := X.tr ((a, oe4) :: (X.pn ++ pins)) X.xe) (inv_suite S6 ok) hN hi hln fun s7 J7 => ?_
      exact wpAny_mono ((hr a oe4 cls d (X.pn ++ pins) hz4 ⟨_, hd4⟩).run [] s7 _ H6 D J7 q6) (fun f s8 q8 => sp_pin q8 ok) fun _ _ z => z
    | brk =>
      obtain ⟨σ6, H6, S6, q6⟩ := hsp
      exact q6.elim
    | cont =>
      obtain ⟨σ6, H6, S6, q6⟩ := hsp
      exact q6.elim
    | ret u =>
      obtain ⟨v6, σ6, H6, S6, r6, q6⟩ := hsp
      exact q6.elim
  · cases f with
    | next =>
      obtain ⟨σ', H', J', q⟩ := hsp
      exact q.elim
    | brk =>
      obtain ⟨σ', H', J', q⟩ := hsp
      exact q.elim
    | cont =>
      obtain ⟨σ', H', J', q⟩ := hsp
      exact q.elim
    | ret u =>
      obtain ⟨v, σ', H', J', r, q⟩ := hsp
      exact q.elim
end
end XR
-- KNt
set_option Elab.async false
set_option linter.all false
set_option maxRecDepth 100000
set_option maxHeartbeats 2000000
/-! the exception looked at behind the suite: isinstance, its place -/
namespace XR
open PySem PySem.Spec PyProof.Rows L2
/-- try: .. except c as n: .., and what comes behind -/
abbrev tTry (K : PySem.W.Frag) (c : Value) (i : Nat) (tb : WX → TS) (ts tr : Addr → Value → Option Addr → TS) : TS := fun D σ H => tb (wThen K c i ts tr D) noEnds σ H
/-- isinstance(error, c), error the NoTable at a with the dict d -/
def rIsiE (K : PySem.W.Frag) (a : Addr) (cls : Value) (d : Option Addr) : List V → Hp → VK → Prop := fun xs H Q => ∃ (dd : Addr) (fs : List (Str × V)) (c : V) (u : Value) (b : Bool), xs = [.ref a, c] ∧ cls = .ref (cNT K) ∧ d = some dd ∧ H dd = some (.xd fs) ∧ ClsV c u ∧ PySem.W.kitOne K (.ref (cNT K)) u = some b ∧ Q (.bl b) H
/-- isinstance(error, (c1, c2, ..)) -/
def rIsiET (K : PySem.W.Frag) (a : Addr) (cls : Value) (d : Option Addr) : List V → Hp → VK → Prop := fun xs H Q => ∃ (dd : Addr) (fs : List (Str × V)) (tp : Addr) (cs : List V) (us : List Value) (b : Bool), xs = [.ref a, .ref tp] ∧ cls = .ref (cNT K) ∧ d = some dd ∧ H dd = some (.xd fs) ∧ H tp = some (.tup cs) ∧ Paired ClsV cs us ∧ PySem.W.kitAny K (.ref (cNT K)) us = some b ∧ Q (.bl b) H
section
variable {X : Cx} {a : Addr} {oe : Obj} {cls : Value} {d : Option Addr} {pn : List (Addr × Obj)} {xe : Value → Shared → Prop}
theorem inst_at {pins : List (Addr × Obj)} {σ : L2.St} {H : Hp} {s : Shared} {dd : Addr} {fs : List (Str × V)} (hz : Zc cls d oe) (hf : ∃ vs, oe.data = .fields vs) (I : L2.Inv (X.tr ((a, oe) :: pn) xe) pins σ H s) (ec : cls = .ref (cNT X.K)) (ed : d = some dd) (ea : H dd = some (.xd fs)) :
    ∃ od, PySem.W.InstAt s.heap a oe (cNT X.K) (some od) ∧ ∀ (name : Str) (v : V), List.lookup name fs = some v → ∃ u, RelV v u ∧ PySem.W.lookIn name od = some (some u) := by
  subst ec
  subst ed
  obtain ⟨ha, _⟩ := I.pin (a, oe) (List.mem_append_left _ List.mem_cons_self)
  obtain ⟨vs, hd⟩ := hf
  have hx : ObjOk X.prog X.w H s.heap dd (.xd fs) := I.hok dd _ ea
  obtain ⟨mA, hns, hr⟩ := hx
  obtain ⟨od, ho, hl⟩ := lookIn_ns hns
  refine ⟨od, ⟨ha, hz.1, by unfold PySem.W.notCls; rw [hd] <;> rfl, by rw [hz.2]; exact ho⟩, fun name v l => ?_⟩
  obtain ⟨u, hu, ru⟩ := RelO.some_of (v := v) (o := mA name) (by rw [← l]; exact hr name)
  exact ⟨u, ru, by rw [hl, hu]⟩
theorem nt_cls {K : PySem.W.Frag} (C : NtC K) : (PySem.W.clsIn K (cNT K)).isSome = true := by
  obtain ⟨nm, q, N, bs, bm, sn, sub, ab, col, dd, k0, k1, k2, k3, k5, h, _⟩ := C.ox.cls
  unfold PySem.W.clsIn
  rw [h]
  rfl
theorem call_isiE (C : NtC X.K) (hz : Zc cls d oe) (hf : ∃ vs, oe.data = .fields vs) : CallR (X.tr ((a, oe) :: pn) xe) (.builtin "isinstance") (rIsiE X.K a cls d) := by
  intro pins s σ H xs us Q I r h
  obtain ⟨dd, fs, c, u, b, rfl, ec, ed, ea, k, e, q⟩ := h
  obtain ⟨u1, u2, rfl, r1, r2⟩ := vals2 r
  have e2 := k.eq r2
  subst e2
  obtain rfl : u1 = Value.ref a := r1
  obtain ⟨od, J, _⟩ := inst_at hz hf I ec ed ea
  exact PySem.W.kia_one (PySem.W.kitx_exc (nt_cls C) C.ga C.gg C.ox.exC C.hc C.hn C.ht C.mo) I.kIn J e (fun z => nomatch z) fun tk => ⟨.bl b, H, I.tok tk, rfl, q⟩
theorem call_isiET (C : NtC X.K) (hz : Zc cls d oe) (hf : ∃ vs, oe.data = .fields vs) : CallR (X.tr ((a, oe) :: pn) xe) (.builtin "isinstance") (rIsiET X.K a cls d) := by
  intro pins s σ H xs us Q I r h
  obtain ⟨dd, fs, tp, cs, ws, b, rfl, ec, ed, ea, hT, k, e, q⟩ := h
  obtain ⟨u1, u2, rfl, r1, r2⟩ := vals2 r
  cases (show u2 = Value.ref tp from r2)
  obtain rfl : u1 = Value.ref a := r1
  obtain ⟨od, J, _⟩ := inst_at hz hf I ec ed ea
  obtain ⟨_, its, rv, o, h1, h2, n, h3⟩ := (show ObjOk X.prog X.w H s.heap tp (.tup cs) from I.hok tp _ hT)
  have e3 := ClsV.all k rv
  subst e3
  obtain ⟨oc, od', dt, sl⟩ := o
  simp only at h2 h3
  subst h2 h3
  exact PySem.W.kia_tup (PySem.W.kitx_exc (nt_cls C) C.ga C.gg C.ox.exC C.hc C.hn C.ht C.mo) I.kIn J h1 e (fun z => nomatch z) fun tk => ⟨.bl b, H, I.tok tk, rfl, q⟩
/-- error.place -/
def tPlace (K : PySem.W.Frag) (a : Addr) (cls : Value) (d : Option Addr) (te : TE) : TE := fun σ H Q => te σ H fun x H1 => x = .ref a ∧ cls = .ref (cNT K) ∧ ∃ (dd : Addr) (k : Int), d = some dd ∧ H1 dd = some (.xd (plc k)) ∧ Q (.int k) H1
theorem pe_place {e : Expr} {te : TE} {pos : Pos} (C : NtC X.K) (hz : Zc cls d oe) (hf : ∃ vs, oe.data = .fields vs) (he : PE (X.tr ((a, oe) :: pn) xe) e te)
    (hb : attributeBase e "place" X.env (eval e X.env) = eval e X.env := by rfl) :
    PE (X.tr ((a, oe) :: pn) xe) (.Attribute e "place" pos) (tPlace X.K a cls d te) := by
  refine ⟨fun pins s σ H Q I h => ?_⟩
  refine attr_of hb (thn (he.run pins s σ H _ I h) fun u s1 hh => ?_)
  obtain ⟨x, H1, I1, rx, ex, ec, dd, k, ed, ea, q⟩ := hh
  subst ex
  obtain rfl : u = Value.ref a := rx
  obtain ⟨od, J, hl⟩ := inst_at hz hf I1 ec ed ea
  obtain ⟨u, ru, hu⟩ := hl "place" (.int k) (by simp [plc, List.lookup])
  exact HandSPX.exc_get I1.kIn J C.ga C.gg C.ox.exC (PySem.W.findObj_own C.hd C.no rfl hu) (handed_of ru) ⟨.int k, H1, I1.tok _, ru, q⟩
end
end XR
-- KDer9
set_option Elab.async false
set_option linter.all false
set_option maxRecDepth 100000
set_option maxHeartbeats 4000000
namespace XR
open PySem PySem.Spec PyProof.Rows L2
section
variable {P : Program} {w : World} {K : PySem.W.Frag} {mg : Str → Option Value} {base : Heap}
/-! ### _law_no_table -/
def names_law_no_table : List Str := ["_law_hall_here", "_law_table_here", "_law_left", "_law_entry", "_law_again", "_law_place", "_law_due", "_law_spoiled", "_law_kept", "_law_error", "_law_k", "e"]
def t_law_no_table (K : PySem.W.Frag) (sp_law_digit sp_as_many sp_law_whole : Sp) : TS :=
  (tSeq (tAsg (tOp (rIxL K) (tLst (tCons (tC .non) (tCons (tC (.int 7)) (tCons (tTup (tCons (tC (.int 0)) (tCons (tC .non) tNil))) tNil)))) (tCall sp_law_digit [] E0 (tCons (tVar 2) (tCons (tC (.int 3)) tNil)))) (gName 3))
    (tSeq (tAsg (tOp rEq (tCall sp_law_digit [] E0 (tCons (tVar 2) (tCons (tC (.int 2)) tNil))) (tC (.int 0))) (gName 4))
    (tSeq (tAsg (tCall sp_law_digit [] E0 (tCons (tVar 2) (tCons (tOp rAddI (tCB (rLenQ K) (tCons (tVar 1) tNil)) (tC (.int 1))) tNil))) (gName 5))
    (tSeq (tAsg (tVar 5) (gName 6))
    (tSeq (tIfS (tAnd (tTest (tOp (rNeD K) (tVar 1) (tLst tNil))) (tB (tVar 4))) (tSeq (tAsg (tCall sp_law_digit [] E0 (tCons (tVar 2) (tCons (tCB (rLenQ K) (tCons (tVar 1) tNil)) tNil))) (gName 10))
    (tSeq (tAsg (tOp (rIxL K) (tVar 1) (tVar 10)) (gName 3))
    (tAsg (tCB rMax2 (tCons (tVar 5) (tCons (tOp rAddI (tVar 10) (tCB rInt1 (tCons (tOp rGeI (tVar 10) (tVar 5)) tNil))) tNil))) (gName 6)))) tNext)
    (tSeq (tAsg (tOp rCat (tOp rCat (tSl (rSlL K) (tVar 1) tNoPart (tPart (tVar 5))) (tLst (tCons (tVar 3) tNil))) (tSl (rSlL K) (tVar 1) (tPart (tVar 5)) tNoPart)) (gName 7))
    (tSeq (tAsg (tCB (rListL K) (tCons (tVar 7) tNil)) (gName 8))
    (tSeq (tAsg (tC .non) (gName 9))
    (tTry K (.ref (cHE K)) 11 (fun W => tDrop (tCallSD sp_as_many [.int 0] (WE W) (tCons (tVar 0) (tCons (tVar 7) tNil)))) (fun _ _ _ => (tAsg (tVar 11) (gName 9))) fun a cls d =>
    (tSeq (tIfS (tOr (tTest (tOp (rNeD K) (tVar 7) (tVar 8))) (tOr (tNot (tB (tCB (rIsiE K a cls d) (tCons (tVar 9) (tCons (tC (.ref (He.ga K "NoTable"))) tNil))))) (tNot (tB (tCB (rIsiE K a cls d) (tCons (tVar 9) (tCons (tC (.ty "ValueError")) tNil))))))) (tRet (tC (.bl false))) tNext)
    (tSeq (tIfS (tB (tCB (rIsiET K a cls d) (tCons (tVar 9) (tCons (tTup (tCons (tC (.ref (He.ga K "TooFull"))) (tCons (tC (.ref (He.ga K "Wide"))) tNil))) tNil)))) (tRet (tC (.bl false))) tNext)
    (tRet (tAndV (tCall sp_law_whole [] E0 (tCons (tPlace K a cls d (tVar 9)) tNil)) (tOp rEq (tPlace K a cls d (tVar 9)) (tVar 6)))))))))))))))
theorem sc_law_no_table : FnScope names_law_no_table ["_law_hall_here", "_law_table_here", "_law_left"] (defScope s_law_no_table) := ⟨rfl, rfl, rfl, by decide +kernel, rfl, by decide +kernel, by decide +kernel⟩
theorem ok_law_no_table {sp sp_law_digit sp_as_many sp_law_whole : Sp} {lv : Nat} (T : Tp K mg) (c0 : Cal P w K mg base CX0 lv "_law_digit" ["_law_left", "_law_many"] [] sp_law_digit) (c1 : Cal P w K mg base (L2.CX P w) lv "as_many" ["hall", "table", "shut"] [.int 0] sp_as_many) (c2 : Cal P w K mg base CX0 lv "_law_whole" ["_law_found"] [] sp_law_whole) (len : ∀ vs H Q E, sp vs H Q E → vs.length = 3)
    (pure : ∀ vs H Q E, sp vs H Q E → t_law_no_table K sp_law_digit sp_as_many sp_law_whole { nx := fun _ H' => Q .non H', rt := Q } (L2.start names_law_no_table vs) H) : Cal P w K mg base CX0 (lv + 1) "_law_no_table" ["_law_hall_here", "_law_table_here", "_law_left"] [] sp := by
  obtain ⟨fd, F⟩ := T.def_ 40 (d := d_law_no_table) rfl
  refine ⟨_, fd, [], T.glo 40 rfl, F.kp, FunD.ok (k := lv) F sc_law_no_table len fun cdv A outer s H vs Q E hr h => ⟨_, PSs.nox ?_, pure vs H Q E h⟩, F.bindsN (fun _ _ _ _ _ _ us hl => match us, hl with | [_, _, _], _ => rfl), .nil⟩
  obtain ⟨f0, fd0, ds0, m0, kp0, G0, b0, v0⟩ := c0
  obtain ⟨f1, fd1, ds1, m1, kp1, G1, b1, v1⟩ := c1
  obtain ⟨f2, fd2, ds2, m2, kp2, G2, b2, v2⟩ := c2
  have C := T.c.ntc
  have hu64 := hr.units
  exact (pss_cons (ps_set (i := 3) sc_law_no_table.nd rfl (by first | exact Or.inl rfl | exact Or.inr rfl) (pe_ix ix_list (pe_lst (pa_cons pe_non (pa_cons pe_int (pa_cons (pe_tup (pa_cons pe_int (pa_cons pe_non pa_nil))) pa_nil)))) (pe_call G0 hr (by rfl) m0 kp0 b0 v0 pass0 (pa_cons (pv 2) (pa_cons pe_int pa_nil))) (fun _ _ => rfl)))
    (pss_cons (ps_set (i := 4) sc_law_no_table.nd rfl (by first | exact Or.inl rfl | exact Or.inr rfl) (pe_cmpR op_eq (pe_call G0 hr (by rfl) m0 kp0 b0 v0 pass0 (pa_cons (pv 2) (pa_cons pe_int pa_nil))) pe_int (nomark _)))
    (pss_cons (ps_set (i := 5) sc_law_no_table.nd rfl (by first | exact Or.inl rfl | exact Or.inr rfl) (pe_call G0 hr (by rfl) m0 kp0 b0 v0 pass0 (pa_cons (pv 2) (pa_cons (pe_op op_add (pe_callB cr_lenQ (by rfl) (T.free 51 rfl) (by decide +kernel) (pa_cons (pv 1) pa_nil)) pe_int) pa_nil))))
    (pss_cons (ps_set (i := 6) sc_law_no_table.nd rfl (by first | exact Or.inl rfl | exact Or.inr rfl) (pv 5))
    (pss_cons (ps_if (PW.pt (pw_and (pt_cmpR (op_neD hu64) (pv 1) (pe_lst pa_nil) (nomark _)) (pw_and1 (pt_val (pv 4))))) (pss_cons (ps_set (i := 10) sc_law_no_table.nd rfl (by first | exact Or.inl rfl | exact Or.inr rfl) (pe_call G0 hr (by rfl) m0 kp0 b0 v0 pass0 (pa_cons (pv 2) (pa_cons (pe_callB cr_lenQ (by rfl) (T.free 51 rfl) (by decide +kernel) (pa_cons (pv 1) pa_nil)) pa_nil))))
    (pss_cons (ps_set (i := 3) sc_law_no_table.nd rfl (by first | exact Or.inl rfl | exact Or.inr rfl) (pe_ix ix_list (pv 1) (pv 10) (fun _ _ => rfl)))
    (pss_one (ps_set (i := 6) sc_law_no_table.nd rfl (by first | exact Or.inl rfl | exact Or.inr rfl) (pe_callB (cr_max2 rfl) (by rfl) (T.free 58 rfl) (by decide +kernel) (pa_cons (pv 5) (pa_cons (pe_op op_add (pv 10) (pe_callTy cr_int1 (by rfl) (T.free 47 rfl) (by decide +kernel) (pa_cons (pe_cmpR op_ge (pv 10) (pv 5) (nomark _)) pa_nil))) pa_nil))))))) pss_nil)
    (pss_cons (ps_set (i := 7) sc_law_no_table.nd rfl (by first | exact Or.inl rfl | exact Or.inr rfl) (pe_op op_cat (pe_op op_cat (pe_slice sl_list (pv 1) po_none (po_some (pv 5))) (pe_lst (pa_cons (pv 3) pa_nil))) (pe_slice sl_list (pv 1) (po_some (pv 5)) po_none)))
    (pss_cons (ps_set (i := 8) sc_law_no_table.nd rfl (by first | exact Or.inl rfl | exact Or.inr rfl) (pe_callTy cr_listL (by rfl) (T.free 49 rfl) (by decide +kernel) (pa_cons (pv 7) pa_nil)))
    (pss_cons (ps_set (i := 9) sc_law_no_table.nd rfl (by first | exact Or.inl rfl | exact Or.inr rfl) pe_non)
    (pss_try_then (i := 11) rfl rfl sc_law_no_table.nd rfl rfl ⟨by rfl, by decide, Or.inl (T.glo 42 rfl)⟩ (fun W pn xe tk po => pss_one (ps_expr (pe_callSD G1 hr (by rfl) m1 kp1 b1 v1 (fun σ => passAt tk σ) (pa_cons (pv 0) (pa_cons (pv 7) pa_nil)))))
    (fun a oe cls d pn hz hf => (pss_one (ps_set (i := 9) sc_law_no_table.nd rfl (by first | exact Or.inl rfl | exact Or.inr rfl) (pv 11))))
    (fun a oe cls d pn hz hf => (pss_cons (ps_if (PW.pt (pw_or (pt_cmpR (op_neD hu64) (pv 7) (pv 8) (nomark _)) (pw_or (pt_not (pt_val (pe_callB (call_isiE C hz hf) (by rfl) (T.free 46 rfl) (by decide +kernel) (pa_cons (pv 9) (pa_cons (pe_glob (v := .ref (He.ga K "NoTable")) (by rfl) (T.glo 44 rfl) rfl) pa_nil))))) (pw_or1 (pt_not (pt_val (pe_callB (call_isiE C hz hf) (by rfl) (T.free 46 rfl) (by decide +kernel) (pa_cons (pv 9) (pa_cons (pe_bltn (v := .ty "ValueError") (by rfl) (T.free 62 rfl) (by decide +kernel) rfl) pa_nil))))))))) (pss_one (ps_ret pe_bl)) pss_nil)
    (pss_cons (ps_if (pt_val (pe_callB (call_isiET C hz hf) (by rfl) (T.free 46 rfl) (by decide +kernel) (pa_cons (pv 9) (pa_cons (pe_tup (pa_cons (pe_glob (v := .ref (He.ga K "TooFull")) (by rfl) (T.glo 43 rfl) rfl) (pa_cons (pe_glob (v := .ref (He.ga K "Wide")) (by rfl) (T.glo 45 rfl) rfl) pa_nil))) pa_nil)))) (pss_one (ps_ret pe_bl)) pss_nil)
    (pss_one (ps_ret (pe_and (pe_call G2 hr (by rfl) m2 kp2 b2 v2 pass0 (pa_cons (pe_place C hz hf (pv 9)) pa_nil)) (pe_one (pe_cmpR op_eq (pe_place C hz hf (pv 9)) (pv 6) (nomark _))))))))))))))))))
end
end XR
-- KM0
set_option Elab.async false
set_option linter.all false
/-! sorting, sums: plain Lean -/
namespace XR
section
variable {α : Type}
def ins (le : α → α → Bool) (x : α) : List α → List α
  | [] => [x]
  | y :: r => if le x y then x :: y :: r else y :: ins le x r
/-- xs in order -/
def srt (le : α → α → Bool) : List α → List α
  | [] => []
  | x :: r => ins le x (srt le r)
theorem ins_perm (le : α → α → Bool) (x : α) : ∀ l : List α, (ins le x l).Perm (x :: l)
  | [] => List.Perm.refl _
  | y :: r => by
    unfold ins
    by_cases h : le x y = true
    · rw [if_pos h]
    · rw [if_neg h]
      exact ((ins_perm le x r).cons y).trans (List.Perm.swap x y r)
theorem srt_perm (le : α → α → Bool) : ∀ l : List α, (srt le l).Perm l
  | [] => List.Perm.refl _
  | x :: r => (ins_perm le x _).trans ((srt_perm le r).cons x)
theorem ins_srt {le : α → α → Bool} (tot : ∀ a b, le a b = true ∨ le b a = true) (tr : ∀ a b c, le a b = true → le b c = true → le a c = true) (x : α) : ∀ {l : List α}, l.Pairwise (fun a b => le a b = true) → (ins le x l).Pairwise (fun a b => le a b = true)
  | [], _ => List.pairwise_singleton _ _
  | y :: r, h => by
    unfold ins
    have hc := List.pairwise_cons.mp h
    by_cases e : le x y = true
    · rw [if_pos e]
      refine List.pairwise_cons.mpr ⟨fun z hz => ?_, h⟩
      rcases List.mem_cons.mp hz with hz | hz
      · rw [hz]; exact e
      · exact tr _ _ _ e (hc.1 z hz)
    · rw [if_neg e]
      refine List.pairwise_cons.mpr ⟨fun z hz => ?_, ins_srt tot tr x hc.2⟩
      rcases List.mem_cons.mp ((ins_perm le x r).mem_iff.mp hz) with hz | hz
      · rw [hz]
        rcases tot x y with q | q
        · exact absurd q e
        · exact q
      · exact hc.1 z hz
theorem srt_srt {le : α → α → Bool} (tot : ∀ a b, le a b = true ∨ le b a = true) (tr : ∀ a b c, le a b = true → le b c = true → le a c = true) : ∀ l : List α, (srt le l).Pairwise (fun a b => le a b = true)
  | [] => List.Pairwise.nil
  | x :: r => ins_srt tot tr x (srt_srt tot tr r)
/-- two lists in order that are rearrangements of each other are one -/
theorem srt_uniq {le : α → α → Prop} (anti : ∀ a b, le a b → le b a → a = b) : ∀ {l m : List α}, l.Pairwise le → m.Pairwise le → l.Perm m → l = m
  | [], m, _, _, p => (List.Perm.eq_nil p.symm).symm
  | x :: l, [], _, _, p => absurd p.length_eq (by simp)
  | x :: l, y :: m, h1, h2, p => by
    have a1 := List.pairwise_cons.mp h1
    have a2 := List.pairwise_cons.mp h2
    have e : x = y := by
      have hx := p.mem_iff.mp (List.mem_cons_self (a := x) (l := l))
      have hy := p.symm.mem_iff.mp (List.mem_cons_self (a := y) (l := m))
      rcases List.mem_cons.mp hx with e | hx
      · exact e
      · rcases List.mem_cons.mp hy with e | hy
        · exact e.symm
        · exact anti _ _ (a1.1 y hy) (a2.1 x hx)
    subst e
    rw [srt_uniq anti a1.2 a2.2 ((List.perm_cons x).mp p)]
end
/-! ### orders -/
def leN (a b : Nat) : Bool := decide (a ≤ b)
def leP (a b : Nat × Nat) : Bool := decide (a.1 < b.1 ∨ (a.1 = b.1 ∧ a.2 ≤ b.2))
def bn (b : Bool) : Nat := if b then 1 else 0
def leR (a b : Bool × Nat) : Bool := leP (bn a.1, a.2) (bn b.1, b.2)
theorem leN_tot (a b : Nat) : leN a b = true ∨ leN b a = true := by unfold leN; rw [decide_eq_true_eq, decide_eq_true_eq]; omega
theorem leN_tr (a b c : Nat) (h1 : leN a b = true) (h2 : leN b c = true) : leN a c = true := by unfold leN at *; rw [decide_eq_true_eq] at *; omega
theorem leN_anti (a b : Nat) (h1 : leN a b = true) (h2 : leN b a = true) : a = b := by unfold leN at *; rw [decide_eq_true_eq] at *; omega
theorem leP_tot (a b : Nat × Nat) : leP a b = true ∨ leP b a = true := by unfold leP; rw [decide_eq_true_eq, decide_eq_true_eq]; omega
theorem leP_tr (a b c : Nat × Nat) (h1 : leP a b = true) (h2 : leP b c = true) : leP a c = true := by unfold leP at *; rw [decide_eq_true_eq] at *; omega
theorem leP_anti (a b : Nat × Nat) (h1 : leP a b = true) (h2 : leP b a = true) : a = b := by
  unfold leP at *
  rw [decide_eq_true_eq] at *
  apply Prod.ext <;> omega
theorem bn_inj {a b : Bool} (h : bn a = bn b) : a = b := by cases a <;> cases b <;> simp [bn] at h <;> rfl
theorem leR_tot (a b : Bool × Nat) : leR a b = true ∨ leR b a = true := leP_tot _ _
theorem leR_tr (a b c : Bool × Nat) (h1 : leR a b = true) (h2 : leR b c = true) : leR a c = true := leP_tr _ _ _ h1 h2
theorem leR_anti (a b : Bool × Nat) (h1 : leR a b = true) (h2 : leR b a = true) : a = b := by
  have e := leP_anti _ _ h1 h2
  have e1 := congrArg Prod.fst e
  have e2 := congrArg Prod.snd e
  exact Prod.ext (bn_inj e1) e2
theorem srtN_srt (l : List Nat) : (srt leN l).Pairwise (fun a b => leN a b = true) := srt_srt leN_tot leN_tr l
theorem srtP_srt (l : List (Nat × Nat)) : (srt leP l).Pairwise (fun a b => leP a b = true) := srt_srt leP_tot leP_tr l
theorem srtR_srt (l : List (Bool × Nat)) : (srt leR l).Pairwise (fun a b => leR a b = true) := srt_srt leR_tot leR_tr l
end XR
-- KAbs6
set_option Elab.async false
set_option linter.all false
set_option maxRecDepth 100000
set_option maxHeartbeats 1000000
/-! rules over values without addresses: built-ins, comparisons -/
namespace XR
open PySem PySem.Spec PyProof.Rows L2
section
variable {K : PySem.W.Frag} {H0 H H' : Hp} {M : List Addr} {L L' L1 : Fp} {ds : List (Option D)} {σ : L2.St} {P : D → Fp → Prop} {Pb : Bool → Fp → Prop}
theorem rps1 {x : D} {vs : List V} (r : Rps H [x] vs) : ∃ v, vs = [v] ∧ Rp H x v := by
  obtain ⟨v, q, rfl, h1, h2⟩ := r
  cases (show q = [] from h2)
  exact ⟨v, rfl, h1⟩
theorem rps2 {x y : D} {vs : List V} (r : Rps H [x, y] vs) : ∃ v u, vs = [v, u] ∧ Rp H x v ∧ Rp H y u := by
  obtain ⟨v, q, rfl, h1, h2⟩ := r
  obtain ⟨u, rfl, h3⟩ := rps1 h2
  exact ⟨v, u, rfl, h1, h3⟩
theorem rc_len {a : Addr} {xs : List D} (h : At L a xs) (k : P (.int xs.length) L) : Rc K H0 M (rLenQ K) [.ref a] L P := fun ds σ H vs Q A r n => by
  obtain ⟨v, rfl, rv⟩ := rps1 r
  obtain ⟨ws, h1, h2⟩ := h.seq A.ow
  refine ⟨a, ws, by rw [show v = V.ref a from rv], .inl h1, ?_⟩
  rw [h2.len]
  exact n.now k rfl A
theorem rc_lenT {xs : List D} (k : P (.int xs.length) L) : Rc K H0 M (rLenQ K) [.tup xs] L P := fun ds σ H vs Q A r n => by
  obtain ⟨v, rfl, a, ws, rfl, h1, h2⟩ := rps1 r
  refine ⟨a, ws, rfl, .inr (.inl (.inl h1)), ?_⟩
  rw [h2.len]
  exact n.now k rfl A
theorem rc_divmod {i j : Int} (h : 0 < j) (h2 : j < 1073741824) (k : P (.tup [.int (i / j), .int (i % j)]) L) : Rc K H0 M rDivmod [.int i, .int j] L P := fun ds σ H vs Q A r n => by
  obtain ⟨v, u, rfl, rv, ru⟩ := rps2 r
  refine ⟨i, j, by rw [show v = V.int i from rv, show u = V.int j from ru], ⟨h, h2⟩, fun p hp => ?_⟩
  exact n _ L _ _ k (rp_pair (d := .int (i / j)) (e := .int (i % j)) hp rfl rfl) (A.newT hp _) (Mo.new hp).tx
theorem rc_abs {i : Int} (k : P (.int (if i < 0 then -i else i)) L) : Rc K H0 M rAbs [.int i] L P := fun ds σ H vs Q A r n => by
  obtain ⟨v, rfl, rv⟩ := rps1 r
  exact ⟨i, by rw [show v = V.int i from rv], n.now k rfl A⟩
theorem rc_max2 {i j : Int} (k : P (.int (if j > i then j else i)) L) : Rc K H0 M rMax2 [.int i, .int j] L P := fun ds σ H vs Q A r n => by
  obtain ⟨v, u, rfl, rv, ru⟩ := rps2 r
  exact ⟨i, j, by rw [show v = V.int i from rv, show u = V.int j from ru], n.now k rfl A⟩
theorem rc_min2 {i j : Int} (k : P (.int (if j < i then j else i)) L) : Rc K H0 M rMin2 [.int i, .int j] L P := fun ds σ H vs Q A r n => by
  obtain ⟨v, u, rfl, rv, ru⟩ := rps2 r
  exact ⟨i, j, by rw [show v = V.int i from rv, show u = V.int j from ru], n.now k rfl A⟩
theorem rc_intB {b : Bool} (k : P (.int (if b then 1 else 0)) L) : Rc K H0 M rInt1 [.bl b] L P := fun ds σ H vs Q A r n => by
  obtain ⟨v, rfl, rv⟩ := rps1 r
  exact .inr ⟨b, by rw [show v = V.bl b from rv], n.now k rfl A⟩
theorem rc_max {a : Addr} {ns : List Int} (h : At L a (ns.map D.int)) (h0 : 0 < ns.length) (k : ∀ m, m ∈ ns → (∀ y, y ∈ ns → y ≤ m) → P (.int m) L) : Rc K H0 M (rMax K) [.ref a] L P := fun ds σ H vs Q A r n => by
  obtain ⟨v, rfl, rv⟩ := rps1 r
  obtain ⟨ws, h1, h2⟩ := h.seq A.ow
  rw [Rps.ints h2] at h1
  exact ⟨a, ns, by rw [show v = V.ref a from rv], h1, h0, fun m hm hx => n.now (k m hm hx) rfl A⟩
theorem rc_tupleL {a : Addr} {xs : List D} (h : At L a xs) (k : P (.tup xs) L) : Rc K H0 M (rTupleL K) [.ref a] L P := fun ds σ H vs Q A r n => by
  obtain ⟨v, rfl, rv⟩ := rps1 r
  obtain ⟨ws, h1, h2⟩ := h.seq A.ow
  exact ⟨a, ws, by rw [show v = V.ref a from rv], .inl ⟨h1, fun p hp => n _ L _ _ k ⟨p, ws, rfl, upd_same, Rps.tx (Mo.new hp).tx _ h2⟩ (A.newT hp _) (Mo.new hp).tx⟩⟩
theorem rc_listL {a : Addr} {xs : List D} (h : At L a xs) (k : ∀ p, P (.ref p) (L ++ [(p, true, .lst xs)])) : Rc K H0 M (rListL K) [.ref a] L P := fun ds σ H vs Q A r n => by
  obtain ⟨v, rfl, rv⟩ := rps1 r
  obtain ⟨ws, h1, h2⟩ := h.seq A.ow
  exact ⟨a, ws, by rw [show v = V.ref a from rv], .inl h1, fun p hp => n _ _ _ _ (k p) rfl (A.addL hp h2) (Mo.new hp).tx⟩
theorem ea_listRange {te : TE} (h : Ea K H0 M te ds L fun x L1 => ∃ m : Nat, x = .int (m : Nat) ∧ m < 100000 ∧ ∀ p, P (.ref p) (L1 ++ [(p, true, .lst ((List.range m).map fun i => D.int (i : Nat)))])) : Ea K H0 M (tListRange (tRg1 te)) ds L P := fun σ H Q A n =>
  h σ H _ A fun x L1 u H1 ⟨m, ex, hm, p1⟩ r1 a1 e1 => by
    subst ex
    refine ⟨(m : Int), r1, .of_le (by omega) (by omega) (by omega) (by omega), fun q hq => ?_⟩
    refine n _ _ _ _ (p1 q) rfl (a1.addL hq ?_) (e1.trans (Mo.new hq).tx)
    have e : rgV 0 (m : Int) = ((List.range m).map fun i : Nat => (i : Int)).map V.int := by
      unfold rgV
      rw [List.map_map, show ((m : Int) - 0).toNat = m by omega]
      refine List.map_congr_left fun i _ => ?_
      show V.int (0 + (i : Int)) = V.int (i : Int)
      rw [Int.zero_add]
    rw [e, show (List.range m).map (fun i => D.int (i : Nat)) = ((List.range m).map fun i : Nat => (i : Int)).map D.int by rw [List.map_map]; rfl]
    exact Rps.ofInts _
theorem ea_listRev {te : TE} (h : Ea K H0 M te ds L fun x L1 => ∃ a xs, x = .ref a ∧ At L1 a xs ∧ ∀ p, P (.ref p) (L1 ++ [(p, true, .lst xs.reverse)])) : Ea K H0 M (tListRev K te) ds L P := fun σ H Q A n =>
  h σ H _ A fun x L1 u H1 ⟨a, xs, ex, ha, p1⟩ r1 a1 e1 => by
    subst ex
    obtain ⟨ws, h1, h2⟩ := ha.seq a1.ow
    exact ⟨a, ws, r1, h1, fun p hp => n _ _ _ _ (p1 p) rfl (a1.addL hp h2.rev) (e1.trans (Mo.new hp).tx)⟩
theorem ea_lenSet {te : TE} (h : Ea K H0 M te ds L fun x L1 => ∃ a i, x = .ref a ∧ At L1 a [.int i] ∧ P (.int 1) L1) : Ea K H0 M (RZ.tLenSetI K te) ds L P := fun σ H Q A n =>
  h σ H _ A fun x L1 u H1 ⟨a, i, ex, ha, p1⟩ r1 a1 e1 => by
    subst ex
    obtain ⟨ws, h1, h2⟩ := ha.seq a1.ow
    rw [Rps.ints (is := [i]) h2] at h1
    refine ⟨a, [i], r1, h1, by simp, by simp, ?_⟩
    exact n _ L1 _ _ p1 rfl a1 e1
theorem ea_chain {r r' : R2} {ta tb tc : TE} (h : Ea K H0 M ta ds L fun x L1 => Ea K H0 M tb ds L1 fun y L2 => Rb K H0 M r x y L2 fun z L3 => ∃ c, z = .bl c ∧ Cnd c (Ea K H0 M tc ds L3 fun w L4 => Rb K H0 M r' y w L4 P) (P (.bl false) L3)) : Ea K H0 M (tChain r r' ta tb tc) ds L P := fun σ H Q A n =>
  h σ H _ A fun x L1 u H1 p1 r1 a1 e1 => p1 σ H1 _ a1 fun y L2 v H2 p2 r2 a2 e2 => p2 ds σ H2 u v _ a2 (Rp.tx e2 x r1) r2 fun z L3 w H3 ⟨c, ez, pc⟩ rz a3 e3 => by
    subst ez
    refine ⟨c, rz, ?_⟩
    cases c with
    | true =>
      rw [if_pos rfl]
      exact pc.1 rfl σ H3 _ a3 fun w L4 v4 H4 p4 r4 a4 e4 => p4 ds σ H4 v v4 Q a4 (Rp.tx (e3.trans e4) y r2) r4 (n.tx (((e1.trans e2).trans e3).trans e4))
    | false =>
      rw [if_neg (by decide)]
      exact n _ L3 _ H3 (pc.2 rfl) rfl a3 ((e1.trans e2).trans e3)
theorem et_yes (k : Pb true L) : Et K H0 M tYes ds L Pb := fun σ H Q A n => n true L H k A (Tx.refl H)
theorem rb_cat {a b : Addr} {xs ys : List D} (ha : ∃ w, (a, w, O.lst xs) ∈ L) (hb : ∃ w, (b, w, O.lst ys) ∈ L) (hz : xs.length + ys.length ≤ 100000) (k : ∀ p, P (.ref p) (L ++ [(p, true, .lst (xs ++ ys))])) : Rb K H0 M rCat (.ref a) (.ref b) L P := fun ds σ H u v Q A r1 r2 n => by
  obtain ⟨_, ha⟩ := ha
  obtain ⟨_, hb⟩ := hb
  obtain ⟨ws, h1, h2⟩ := A.ow.ho _ ha
  obtain ⟨us, h3, h4⟩ := A.ow.ho _ hb
  refine ⟨a, b, ws, us, r1, r2, h1, h3, by rw [h2.len, h4.len]; exact line_le hz, fun p hp => ?_⟩
  exact n _ _ _ _ (k p) rfl (A.addL hp (h2.app h4)) (Mo.new hp).tx
theorem rep_flat (w : V) : ∀ m : Nat, (List.replicate m [w]).flatten = List.replicate m w
  | 0 => rfl
  | m + 1 => by rw [List.replicate_succ, List.flatten_cons, rep_flat w m]; rfl
theorem rb_rep {a : Addr} {d : D} {m : Nat} (ha : ∃ w, (a, w, O.lst [d]) ∈ L) (hz : m ≤ 100000) (k : ∀ p, P (.ref p) (L ++ [(p, true, .lst (List.replicate m d))])) : Rb K H0 M rRep (.ref a) (.int (m : Nat)) L P := fun ds σ H u v Q A r1 r2 n => by
  obtain ⟨_, ha⟩ := ha
  obtain ⟨ws, h1, h2⟩ := A.ow.ho _ ha
  obtain ⟨w, rfl, rw'⟩ := rps1 h2
  have hl : [w].length * ((m : Int)).toNat ≤ sizeLine := by
    have : [w].length * ((m : Int)).toNat = m := by simp
    rw [this]
    exact line_le hz
  refine ⟨a, (m : Int), [w], r1, r2, h1, by omega, by omega, hl, fun p hp => ?_⟩
  have e : (List.replicate ((m : Int)).toNat [w]).flatten = List.replicate m w := by
    rw [Int.toNat_natCast]
    exact rep_flat w m
  rw [e]
  exact n _ _ _ _ (k p) rfl (A.addL hp (Rps.rep rw' m)) (Mo.new hp).tx
theorem rb_catT {xs ys : List D} (h1 : xs ≠ []) (h2 : ys ≠ []) (hz : xs.length + ys.length ≤ 1000) (k : P (.tup (xs ++ ys)) L) : Rb K H0 M (rCatT K) (.tup xs) (.tup ys) L P := fun ds σ H u v Q A r1 r2 n => by
  obtain ⟨a, ws, rfl, ha, hx⟩ := r1
  obtain ⟨b, us, rfl, hb, hy⟩ := r2
  have n1 : ws ≠ [] := fun e => h1 (List.length_eq_zero_iff.mp (by rw [← hx.len, e]; rfl))
  have n2 : us ≠ [] := fun e => h2 (List.length_eq_zero_iff.mp (by rw [← hy.len, e]; rfl))
  refine ⟨a, b, ws, us, rfl, rfl, .inl (.inl ha), .inl (.inl hb), n1, by rw [hx.len, hy.len]; exact line_le (by omega), fun e => absurd e n2, fun _ p hp => ?_⟩
  exact n _ L _ _ k ⟨p, _, rfl, upd_same, Rps.tx (Mo.new hp).tx _ (hx.app hy)⟩ (A.newT hp _) (Mo.new hp).tx
/-! ### membership among numbers -/
theorem inV_ints (i : Int) : ∀ ns : List Int, inV (.int i) (ns.map V.int) = decide (i ∈ ns)
  | [] => by simp [inV]
  | n :: ns => by
    have ih := inV_ints i ns
    unfold inV at ih ⊢
    rw [List.map_cons, List.any_cons, ih, show eqV (.int n) (.int i) = (n == i) from rfl]
    by_cases e : n = i
    · subst e
      simp
    · have e2 : ¬ i = n := fun z => e z.symm
      simp [e, e2]
theorem flat_ints (ns : List Int) : (ns.map V.int).all flatV = true := by
  rw [List.all_map, List.all_eq_true]
  intro x _
  rfl
theorem rb_inI {a : Addr} {i : Int} {ns : List Int} (h : At L a (ns.map D.int)) (k : P (.bl (decide (i ∈ ns))) L) : Rb K H0 M (rIn K false) (.int i) (.ref a) L P := fun ds σ H u v Q A r1 r2 n => by
  obtain ⟨ws, h1, h2⟩ := h.seq A.ow
  rw [Rps.ints h2] at h1
  refine ⟨a, ns.map V.int, r2, .inl h1, by rw [show u = V.int i from r1]; rfl, flat_ints ns, ?_⟩
  rw [if_neg (by decide), show u = V.int i from r1, inV_ints]
  exact n.now k rfl A
theorem rb_ninI {a : Addr} {i : Int} {ns : List Int} (h : At L a (ns.map D.int)) (k : P (.bl (!decide (i ∈ ns))) L) : Rb K H0 M (rIn K true) (.int i) (.ref a) L P := fun ds σ H u v Q A r1 r2 n => by
  obtain ⟨ws, h1, h2⟩ := h.seq A.ow
  rw [Rps.ints h2] at h1
  refine ⟨a, ns.map V.int, r2, .inl h1, by rw [show u = V.int i from r1]; rfl, flat_ints ns, ?_⟩
  rw [if_pos rfl, show u = V.int i from r1, inV_ints]
  exact n.now k rfl A
/-! ### data that is compared -/
mutual
inductive Dd (L : Fp) : D → PyData → Prop
  | int (i : Int) : Dd L (.int i) (.int i)
  | bl (b : Bool) : Dd L (.bl b) (.bool b)
  | non : Dd L .non .none
  | tup {xs : List D} {ps : List PyData} (h : Dds L xs ps) : Dd L (.tup xs) (.tuple ps)
  | ref {a : Addr} {xs : List D} {ps : List PyData} (ha : At L a xs) (h : Dds L xs ps) : Dd L (.ref a) (.list ps)
inductive Dds (L : Fp) : List D → List PyData → Prop
  | nil : Dds L [] []
  | cons {x : D} {xs : List D} {p : PyData} {ps : List PyData} (h : Dd L x p) (hs : Dds L xs ps) : Dds L (x :: xs) (p :: ps)
end
mutual
theorem dd_dp (w : Ow K H0 M L H) : ∀ (p : PyData) (d : D) (v : V), Dd L d p → Rp H d v → L2.Dp K H v p
  | .int i, _, _, h, r => by
    cases h
    rw [show _ = V.int i from r]
    exact .int i
  | .bool b, _, _, h, r => by
    cases h
    rw [show _ = V.bl b from r]
    exact .bl b
  | .none, _, _, h, r => by
    cases h
    rw [show _ = V.non from r]
    exact .non
  | .tuple ps, _, _, h, r => by
    cases h with
    | tup h =>
      obtain ⟨a, vs, rfl, h1, h2⟩ := r
      exact .tup (.inl (.inl h1)) (dds_dp w ps _ _ h h2)
  | .list ps, _, _, h, r => by
    cases h with
    | ref ha h =>
      obtain ⟨vs, h1, h2⟩ := ha.seq w
      rw [show _ = V.ref _ from r]
      exact .lst h1 (dds_dp w ps _ _ h h2)
  | .str _, _, _, h, _ => by cases h
  | .dict _, _, _, h, _ => by cases h
theorem dds_dp (w : Ow K H0 M L H) : ∀ (ps : List PyData) (xs : List D) (vs : List V), Dds L xs ps → Rps H xs vs → DpAll K H vs ps
  | [], _, _, h, r => by
    cases h
    rw [show _ = [] from r]
    exact .nil
  | p :: ps, _, _, h, r => by
    cases h with
    | cons h hs =>
      obtain ⟨v, q, rfl, h1, h2⟩ := r
      exact .cons (dd_dp w p _ _ h h1) (dds_dp w ps _ _ hs h2)
end
theorem rb_eqD {x y : D} {p q : PyData} (hx : Dd L x p) (hy : Dd L y q) (sp : SeqAt.shaped p = true) (sq : SeqAt.shaped q = true) (k : P (.bl (PyData.eqv p q)) L) : Rb K H0 M (rEqD K) x y L P := fun ds σ H u v Q A r1 r2 n =>
  ⟨p, q, dd_dp A.ow p x u hx r1, dd_dp A.ow q y v hy r2, sp, sq, n.now k rfl A⟩
theorem rb_neD {x y : D} {p q : PyData} (hx : Dd L x p) (hy : Dd L y q) (sp : SeqAt.shaped p = true) (sq : SeqAt.shaped q = true) (k : P (.bl (!PyData.eqv p q)) L) : Rb K H0 M (rNeD K) x y L P := fun ds σ H u v Q A r1 r2 n =>
  ⟨p, q, dd_dp A.ow p x u hx r1, dd_dp A.ow q y v hy r2, sp, sq, n.now k rfl A⟩
theorem rb_inD {x y : D} {p : PyData} {qs : List PyData} (hx : Dd L x p) (hy : Dd L y (.list qs)) (sp : SeqAt.shaped p = true) (sq : SeqAt.shaped (.list qs) = true) (k : P (.bl (qs.any fun z => PyData.eqv z p)) L) : Rb K H0 M (rInD K) x y L P := fun ds σ H u v Q A r1 r2 n =>
  ⟨p, qs, dd_dp A.ow p x u hx r1, dd_dp A.ow _ y v hy r2, sp, sq, n.now k rfl A⟩
theorem rb_ninD {x y : D} {p : PyData} {qs : List PyData} (hx : Dd L x p) (hy : Dd L y (.list qs)) (sp : SeqAt.shaped p = true) (sq : SeqAt.shaped (.list qs) = true) (k : P (.bl (!qs.any fun z => PyData.eqv z p)) L) : Rb K H0 M (rNotInD K) x y L P := fun ds σ H u v Q A r1 r2 n =>
  ⟨p, qs, dd_dp A.ow p x u hx r1, dd_dp A.ow _ y v hy r2, sp, sq, n.now k rfl A⟩
/-! ### classes -/
inductive Dty (L : Fp) : D → Value → Prop
  | int (i : Int) : Dty L (.int i) (.type "int")
  | bl (b : Bool) : Dty L (.bl b) (.type "bool")
  | non : Dty L .non (.type "NoneType")
  | tup (xs : List D) : Dty L (.tup xs) (.type "tuple")
  | ref {a : Addr} {xs : List D} (ha : At L a xs) : Dty L (.ref a) (.type "list")
theorem dty_ty {d : D} {v : V} {t : Value} (w : Ow K H0 M L H) (h : Dty L d t) (r : Rp H d v) : TyX K H v t := by
  cases h with
  | int i => rw [show v = V.int i from r]; exact .base (.int i)
  | bl i => rw [show v = V.bl i from r]; exact .base (.bl i)
  | non => rw [show v = V.non from r]; exact .base .non
  | tup xs =>
    obtain ⟨a, vs, rfl, h1, _⟩ := r
    exact .base (.tup h1)
  | ref ha =>
    rw [show v = V.ref _ from r]
    obtain ⟨vs, h1, _⟩ := ha.seq w
    rcases h1 with (h1 | ⟨o, h1⟩) | ⟨o, its, n, h1, h2, _⟩
    · exact .base (.lst h1)
    · exact .base (.frz h1)
    · exact .kList h1 h2
inductive DCls : D → Value → Prop
  | ty (n : String) : DCls (.ty n) (.type n)
  | own (C : Addr) : DCls (.ref C) (.ref C)
theorem dcls {d : D} {v : V} {t : Value} (h : DCls d t) (r : Rp H d v) : ClsV v t := by
  cases h with
  | ty n => rw [show v = V.ty n from r]; exact .ty n
  | own C => rw [show v = V.ref C from r]; exact .own C
theorem rc_isi {x c : D} {t u : Value} {b : Bool} (ht : Dty L x t) (hc : DCls c u) (hk : PySem.W.kitOne K t u = some b) (k : P (.bl b) L) : Rc K H0 M (rIsi K) [x, c] L P := fun ds σ H vs Q A r n => by
  obtain ⟨v, w, rfl, rv, rw'⟩ := rps2 r
  exact ⟨v, w, t, u, b, rfl, dcls hc rw', dty_ty A.ow ht rv, hk, n.now k rfl A⟩
theorem rc_isiT {x c d : D} {t u u' : Value} {b : Bool} (ht : Dty L x t) (hc : DCls c u) (hd : DCls d u') (hk : PySem.W.kitAny K t [u, u'] = some b) (k : P (.bl b) L) : Rc K H0 M (rIsiT K) [x, .tup [c, d]] L P := fun ds σ H vs Q A r n => by
  obtain ⟨v, w, rfl, rv, a, ws, rfl, h1, h2⟩ := rps2 r
  obtain ⟨c1, c2, rfl, r1, r2⟩ := rps2 h2
  exact ⟨v, a, [c1, c2], t, [u, u'], b, rfl, h1, .cons (dcls hc r1) (.cons (dcls hd r2) .nil), dty_ty A.ow ht rv, hk, n.now k rfl A⟩
theorem ea_ty {nm : String} (k : P (.ty nm) L) : Ea K H0 M (tC (.ty nm)) ds L P := fun σ H Q a n => n.now k (show Rp H (.ty nm) (.ty nm) from rfl) a
theorem ea_refC {a : Addr} (k : P (.ref a) L) : Ea K H0 M (tC (.ref a)) ds L P := fun σ H Q A n => n.now k (show Rp H (.ref a) (.ref a) from rfl) A
theorem kit_ii : PySem.W.kitOne K (.type "int") (.type "int") = some true := by rfl
theorem kit_bi : PySem.W.kitOne K (.type "bool") (.type "int") = some true := by kernel_rfl
theorem kit_ib : PySem.W.kitOne K (.type "int") (.type "bool") = some false := by kernel_rfl
theorem kit_ni : PySem.W.kitOne K (.type "NoneType") (.type "int") = some false := by kernel_rfl
theorem kit_ltlt : PySem.W.kitAny K (.type "list") [.type "list", .type "tuple"] = some true := by kernel_rfl
theorem kit_tlt : PySem.W.kitAny K (.type "tuple") [.type "list", .type "tuple"] = some true := by kernel_rfl
theorem kit_tt : PySem.W.kitOne K (.type "tuple") (.type "tuple") = some true := by kernel_rfl
theorem kit_it : PySem.W.kitOne K (.type "int") (.type "tuple") = some false := by kernel_rfl
theorem kit_nt : PySem.W.kitOne K (.type "NoneType") (.type "tuple") = some false := by kernel_rfl
theorem kit_ll : PySem.W.kitOne K (.type "list") (.type "list") = some true := by kernel_rfl
end
end XR
-- KAbs7
set_option Elab.async false
set_option linter.all false
set_option maxRecDepth 100000
set_option maxHeartbeats 1000000
/-! rules: sorted, dicts of lists, a comprehension over a locked dict; how plain data stands as values -/
namespace XR
open PySem PySem.Spec PyProof.Rows L2
abbrev Rk : Type := Bool × Nat
def bi (b : Bool) : Int := if b then 1 else 0
abbrev dN (n : Nat) : D := .int (n : Nat)
abbrev dP (p : Nat × Nat) : D := .tup [.int (p.1 : Nat), .int (p.2 : Nat)]
abbrev kR (r : Rk) : List Int := [bi r.1, (r.2 : Nat)]
abbrev dR (r : Rk) : D := .tup [.int (bi r.1), .int (r.2 : Nat)]
theorem kR_inj : ∀ a b : Rk, kR a = kR b → a = b := fun a b h => by
  obtain ⟨h1, h2⟩ := List.cons.inj h
  obtain ⟨h3, _⟩ := List.cons.inj h2
  refine Prod.ext ?_ (Int.ofNat.inj h3)
  cases e1 : a.1 <;> cases e2 : b.1 <;> rw [e1, e2] at h1 <;> simp [bi] at h1 <;> rfl
theorem nI_inj : ∀ a b : Nat, (a : Int) = (b : Int) → a = b := fun _ _ h => Int.ofNat.inj h
/-- a table by racks, by numbers -/
abbrev eT {α : Type} (f : α → D) (d : List (Rk × α)) : List (List Int × D) := d.map fun p => (kR p.1, f p.2)
abbrev eK {α : Type} (f : α → D) (d : List (Nat × α)) : List (Int × D) := d.map fun p => ((p.1 : Int), f p.2)
theorem eT_get {α : Type} (f : α → D) (d : List (Rk × α)) (k : Rk) : aget (eT f d) (kR k) = (aget d k).map f := aget_map kR_inj f k d
theorem eT_put {α : Type} (f : α → D) (d : List (Rk × α)) (k : Rk) (x : α) : aput (eT f d) (kR k) (f x) = eT f (aput d k x) := aput_map kR_inj f k x d
theorem eT_drop {α : Type} (f : α → D) (d : List (Rk × α)) (k : Rk) : adrop (eT f d) (kR k) = eT f (adrop d k) := adrop_map kR_inj f k d
theorem eK_get {α : Type} (f : α → D) (d : List (Nat × α)) (k : Nat) : aget (eK f d) (k : Int) = (aget d k).map f := aget_map nI_inj f k d
theorem eK_put {α : Type} (f : α → D) (d : List (Nat × α)) (k : Nat) (x : α) : aput (eK f d) (k : Int) (f x) = eK f (aput d k x) := aput_map nI_inj f k x d
theorem eK_drop {α : Type} (f : α → D) (d : List (Nat × α)) (k : Nat) : adrop (eK f d) (k : Int) = eK f (adrop d k) := adrop_map nI_inj f k d
/-! ### order -/
def ciP (p : Nat × Nat) : Int × Int := (p.1, p.2)
def ciR (p : Rk) : Int × Int := (bi p.1, p.2)
theorem lex_anti (p q : Int × Int) (h1 : SrtO.lexB q p = false) (h2 : SrtO.lexB p q = false) : p = q := by
  have a := SrtO.lexB_no.mp h1
  have b := SrtO.lexB_no.mp h2
  apply Prod.ext <;> omega
theorem sortP_uniq {ps : List (Int × Int)} {es : List (Nat × Nat)} (hp : ps.Perm (es.map ciP)) (hs : SrtO.Srtd SrtO.lexB ps) : ps = (srt leP es).map ciP := by
  refine srt_uniq (le := fun p q => SrtO.lexB q p = false) lex_anti hs (List.pairwise_map.mpr ((srtP_srt es).imp fun {a b} h => ?_)) (hp.trans ((srt_perm leP es).symm.map ciP))
  refine SrtO.lexB_no.mpr ?_
  unfold leP at h
  rw [decide_eq_true_eq] at h
  show ¬ ((b.1 : Int) < a.1 ∨ ((b.1 : Int) = a.1 ∧ (b.2 : Int) < a.2))
  omega
theorem bi_bn (b : Bool) : bi b = (bn b : Nat) := by cases b <;> rfl
theorem sortR_uniq {ps : List (Int × Int)} {es : List Rk} (hp : ps.Perm (es.map ciR)) (hs : SrtO.Srtd SrtO.lexB ps) : ps = (srt leR es).map ciR := by
  refine srt_uniq (le := fun p q => SrtO.lexB q p = false) lex_anti hs (List.pairwise_map.mpr ((srtR_srt es).imp fun {a b} h => ?_)) (hp.trans ((srt_perm leR es).symm.map ciR))
  refine SrtO.lexB_no.mpr ?_
  unfold leR leP at h
  rw [decide_eq_true_eq] at h
  show ¬ (bi b.1 < bi a.1 ∨ (bi b.1 = bi a.1 ∧ (b.2 : Int) < a.2))
  rw [bi_bn, bi_bn]
  omega
theorem sortN_uniq {ps : List Int} {ns : List Nat} (hp : ps.Perm (ns.map fun n : Nat => (n : Int))) (hs : ps.Pairwise (· ≤ ·)) : ps = (srt leN ns).map fun n : Nat => (n : Int) := by
  refine srt_uniq (le := fun p q : Int => p ≤ q) (fun a b h1 h2 => by omega) hs (List.pairwise_map.mpr ((srtN_srt ns).imp fun {a b} h => ?_)) (hp.trans ((srt_perm leN ns).symm.map _))
  unfold leN at h
  rw [decide_eq_true_eq] at h
  omega
section
variable {K : PySem.W.Frag} {H0 H H' : Hp} {M : List Addr} {L L' L1 : Fp} {ds : List (Option D)} {σ : L2.St} {P : D → Fp → Prop} {Pb : Bool → Fp → Prop}
theorem map_dN (ns : List Nat) : ns.map dN = (ns.map fun n : Nat => (n : Int)).map D.int := by rw [List.map_map]; rfl
theorem rc_sortN {a : Addr} {ns : List Nat} (h : At L a (ns.map dN)) (k : ∀ p, P (.ref p) (L ++ [(p, true, .lst ((srt leN ns).map dN))])) : Rc K H0 M (rSortedI K) [.ref a] L P := fun ds σ H vs Q A r n => by
  obtain ⟨v, rfl, rv⟩ := rps1 r
  obtain ⟨ws, h1, h2⟩ := h.seq A.ow
  rw [map_dN] at h2
  rw [Rps.ints h2] at h1
  refine ⟨a, _, by rw [show v = V.ref a from rv], h1, fun ns' p hp hs hn => ?_⟩
  rw [sortN_uniq hp hs]
  refine n _ _ _ _ (k p) rfl (A.addL hn ?_) (Mo.new hn).tx
  rw [map_dN]
  exact Rps.ofInts _
/-- the two numbers of a pair -/
def pkV (H : Hp) : V → Int × Int
  | .ref b => match H b with
    | some (.tup [.int i, .int j]) => (i, j)
    | _ => (0, 0)
  | _ => (0, 0)
theorem pkV_eq {H : Hp} {b : Addr} {i j : Int} (h : H b = some (.tup [.int i, .int j])) : pkV H (.ref b) = (i, j) := by
  show (match H b with | some (.tup [.int i, .int j]) => (i, j) | _ => (0, 0)) = _
  rw [h]
theorem rp_dP {p : Nat × Nat} {v : V} (r : Rp H (dP p) v) : ∃ b, v = .ref b ∧ H b = some (.tup [.int (p.1 : Nat), .int (p.2 : Nat)]) := by
  obtain ⟨b, ws, rfl, h1, h2⟩ := r
  obtain ⟨x, y, rfl, rx, ry⟩ := rps2 h2
  exact ⟨b, rfl, by rw [h1, show x = V.int (p.1 : Nat) from rx, show y = V.int (p.2 : Nat) from ry]⟩
theorem rps_dP : ∀ {es : List (Nat × Nat)} {vs : List V}, Rps H (es.map dP) vs → (∀ x ∈ vs, ∃ t, x = V.ref t ∧ H t = some (.tup [.int (pkV H x).1, .int (pkV H x).2])) ∧ vs.map (pkV H) = es.map ciP
  | [], _, r => by
    rw [show _ = [] from r]
    exact ⟨fun x hx => (by cases hx), rfl⟩
  | e :: es, _, r => by
    obtain ⟨v, q, rfl, h1, h2⟩ := r
    obtain ⟨i1, i2⟩ := rps_dP h2
    obtain ⟨b, rfl, hb⟩ := rp_dP h1
    refine ⟨fun x hx => ?_, ?_⟩
    · rcases List.mem_cons.mp hx with hx | hx
      · subst hx
        exact ⟨b, rfl, by rw [pkV_eq hb]; exact hb⟩
      · exact i1 x hx
    · rw [List.map_cons, List.map_cons, i2, pkV_eq hb]
      rfl
theorem dP_rps : ∀ {es : List (Nat × Nat)} {vs : List V}, (∀ x ∈ vs, ∃ t, x = V.ref t ∧ H t = some (.tup [.int (pkV H x).1, .int (pkV H x).2])) → vs.map (pkV H) = es.map ciP → Rps H (es.map dP) vs
  | [], [], _, _ => rfl
  | [], _ :: _, _, e => by simp at e
  | _ :: _, [], _, e => by simp at e
  | e :: es, v :: vs, h, ee => by
    rw [List.map_cons, List.map_cons] at ee
    obtain ⟨e1, e2⟩ := List.cons.inj ee
    obtain ⟨t, rfl, ht⟩ := h v List.mem_cons_self
    rw [e1] at ht
    exact Rps.cons ⟨t, _, rfl, ht, Rps.cons rfl (Rps.cons rfl Rps.nil)⟩ (dP_rps (fun x hx => h x (List.mem_cons_of_mem _ hx)) e2)
theorem rc_sortP {a : Addr} {es : List (Nat × Nat)} (h : At L a (es.map dP)) (k : ∀ p, P (.ref p) (L ++ [(p, true, .lst ((srt leP es).map dP))])) : Rc K H0 M (rSortedPO K) [.ref a] L P := fun ds σ H vs Q A r n => by
  obtain ⟨v, rfl, rv⟩ := rps1 r
  obtain ⟨ws, h1, h2⟩ := h.seq A.ow
  obtain ⟨g1, g2⟩ := rps_dP h2
  refine ⟨a, ws, pkV H, by rw [show v = V.ref a from rv], h1, g1, fun ys p hs hb hn => ?_⟩
  have hp : (ys.map (pkV H)).Perm (es.map ciP) := by
    rw [← g2]
    exact hb.perm.map _
  have e := sortP_uniq hp (SrtO.srtd_map hs)
  refine n _ _ _ _ (k p) rfl (A.addL hn ?_) (Mo.new hn).tx
  exact dP_rps (fun x hx => g1 x (hb.perm.mem_iff.mp hx)) e
/-- the keys of a dict by racks -/
inductive Dk : Fp → Addr → List (List Int) → Prop
  | dT {a : Addr} {w : Bool} {kvs : List (List Int × D)} {r : Fp} : Dk ((a, w, .dT kvs) :: r) a (kvs.map (·.1))
  | rT {a : Addr} {w : Bool} {kvs : List (List Int × D)} {r : Fp} : Dk ((a, w, .rT kvs) :: r) a (kvs.map (·.1))
  | dL {a : Addr} {w : Bool} {kvs : List (List Int × Addr × List D)} {r : Fp} : Dk ((a, w, .dL kvs) :: r) a (kvs.map (·.1))
  | tl {a : Addr} {ks : List (List Int)} {q : Addr × Bool × O} {r : Fp} (h : Dk r a ks) : Dk (q :: r) a ks
theorem kl_keys {kvs : List (List Int × Addr × List D)} {ws : List (List Key × V)} (h : Kl H kvs ws) : ws.map (·.1) = kvs.map fun p => keyT p.1 := by
  induction h with
  | nil => rfl
  | cons r _ ih => rw [List.map_cons, List.map_cons, ih, r.1]
theorem Dk.get {a : Addr} {ks : List (List Int)} (h : Dk L a ks) (w : Ow K H0 M L H) : ∃ ws, Rd H a (.dT ws) ∧ ws.map (·.1) = ks.map keyT := by
  have key : ∀ (L2 : Fp), (∀ q ∈ L2, q ∈ L) → Dk L2 a ks → ∃ ws, Rd H a (.dT ws) ∧ ws.map (·.1) = ks.map keyT := fun L2 hm hd => by
    clear h
    induction hd with
    | @dT a w' kvs r =>
      obtain ⟨ws, h1, h2, _⟩ := w.ho _ (hm _ List.mem_cons_self)
      exact ⟨ws, .inl h1, by rw [kr_keys h2, List.map_map]; rfl⟩
    | @rT a w' kvs r =>
      obtain ⟨ws, h1, h2⟩ := w.ho _ (hm _ List.mem_cons_self)
      exact ⟨ws, h1, by rw [kr_keys h2, List.map_map]; rfl⟩
    | @dL a w' kvs r =>
      obtain ⟨ws, h1, h2⟩ := w.ho _ (hm _ List.mem_cons_self)
      exact ⟨ws, .inl h1, by rw [kl_keys h2, List.map_map]; rfl⟩
    | tl _ ih => exact ih fun q hq => hm q (List.mem_cons_of_mem _ hq)
  exact key L (fun _ h => h) h
theorem rps_bs {rs : List Rk} : ∀ {bs : List Addr} {ps : List (Int × Int)}, Paired (fun b q => H b = some (.tup [.int q.1, .int q.2])) bs ps → ps = rs.map ciR → Rps H (rs.map dR) (bs.map V.ref) := by
  induction rs with
  | nil =>
    intro bs ps h e
    subst e
    cases h
    exact rfl
  | cons r rs ih =>
    intro bs ps h e
    subst e
    cases h with
    | cons h1 h2 => exact Rps.cons ⟨_, _, rfl, h1, Rps.cons rfl (Rps.cons rfl Rps.nil)⟩ (ih h2 rfl)
theorem rc_sortR {a : Addr} {rs : List Rk} (h : Dk L a (rs.map kR)) (k : ∀ p, P (.ref p) (L ++ [(p, true, .lst ((srt leR rs).map dR))])) : Rc K H0 M rSortedM [.ref a] L P := fun ds σ H vs Q A r n => by
  obtain ⟨v, rfl, rv⟩ := rps1 r
  obtain ⟨ws, h1, h2⟩ := h.get A.ow
  refine ⟨a, ws, rs.map ciR, by rw [show v = V.ref a from rv], h1, by rw [h2, List.map_map, List.map_map]; rfl, fun bs ps p hp hs hb hn => ?_⟩
  refine n _ _ _ _ (k p) rfl (A.addL hn ?_) (Mo.new hn).tx
  exact rps_bs (hb) (sortR_uniq hp hs)
/-- d.pop(k), tuples as keys -/
theorem ea_dpopT {td ty : TE} (h : Ea K H0 M td ds L fun x L1 => ∃ a kvs w, x = .ref a ∧ (a, w, O.dT kvs) ∈ L1 ∧ Ea K H0 M ty ds L1 fun y L2 => ∃ i d kvs L3, y = keyD i ∧ aget kvs i = some d ∧ Up L2 a (.dT kvs) (.dT (adrop kvs i)) L3 ∧ P d L3) : Ea K H0 M (tDPopT K td ty) ds L P := fun σ H Q A n =>
  h σ H _ A fun x L1 u H1 ⟨a, kvs, w, ex, ha, p1⟩ r1 a1 e1 => by
    subst ex
    cases (show u = .ref a from r1)
    obtain ⟨ws, h1, _⟩ := a1.ow.ho _ ha
    refine ⟨.inr (.inr (.inl ⟨rfl, .inr ⟨ws, h1⟩⟩)), p1 σ H1 _ a1 fun y L2 v H2 ⟨i, d, kvs, L3, ey, hd, hu, p⟩ r2 a2 e2 => ?_⟩
    subst ey
    show ∃ a kvs k b v, _
    obtain ⟨b, rfl, hb⟩ := key_tup r2
    obtain ⟨ws2, g1, g2, g3⟩ := a2.ow.ho _ hu.mem
    obtain ⟨z, ez, rz⟩ := (kr_get keyT_inj g2 i).2 d hd
    obtain ⟨A2, tx⟩ := a2.put (u := .dT (dropK ws2 (keyT i))) hu rfl rfl rfl fun tx => ⟨_, upd_same, kr_drop keyT_inj (Kr.tx tx g2) i, g3.sublist (List.Sublist.map _ List.filter_sublist)⟩
    exact ⟨a, ws2, keyT i, b, z, rfl, rfl, g1, hb, ez, n d L3 z _ p (Rp.tx tx d rz) A2 ((e1.trans e2).trans tx)⟩
end
end XR
-- KAbs8
set_option Elab.async false
set_option linter.all false
set_option maxRecDepth 100000
set_option maxHeartbeats 1000000
/-! d.setdefault(k, []).append(x); a comprehension over a locked dict -/
namespace XR
open PySem PySem.Spec PyProof.Rows L2
/-- the lists by keys, without where they lie -/
abbrev strip (kvs : List (List Int × Addr × List D)) : List (List Int × List D) := kvs.map fun p => (p.1, p.2.2)
theorem strip_get (kvs : List (List Int × Addr × List D)) (k : List Int) : aget (strip kvs) k = (aget kvs k).map (·.2) := aget_map (f := id) (fun _ _ h => h) (fun p : Addr × List D => p.2) k kvs
theorem strip_put (kvs : List (List Int × Addr × List D)) (k : List Int) (b : Addr) (xs : List D) : strip (aput kvs k (b, xs)) = aput (strip kvs) k xs := (aput_map (f := id) (fun _ _ h => h) (fun p : Addr × List D => p.2) k (b, xs) kvs).symm
section
variable {K : PySem.W.Frag} {H0 H H' : Hp} {M : List Addr} {L L' L1 : Fp} {ds : List (Option D)} {σ : L2.St} {P : D → Fp → Prop} {Pb : Bool → Fp → Prop}
theorem kl_adr : ∀ (kvs : List (List Int × Addr × List D)) (k : List Int) (b : Addr) (xs ys : List D), aget kvs k = some (b, xs) → (aput kvs k (b, ys)).map (fun p => p.2.1) = kvs.map fun p => p.2.1
  | [], _, _, _, _, h => by cases h
  | p :: r, k, b, xs, ys, h => by
    by_cases e : p.1 = k
    · rw [aget_pos e] at h
      rw [aput_pos e, List.map_cons, List.map_cons, Option.some.inj h]
    · rw [aget_neg e] at h
      rw [aput_neg e, List.map_cons, List.map_cons, kl_adr r k b xs ys h]
/-- the list at k grows -/
theorem kl_grow {kvs : List (List Int × Addr × List D)} {ws : List (List Key × V)} {k : List Int} {b : Addr} {xs : List D} {d : D} {v : V} {vs : List V} (h : Kl H kvs ws) (nd : (kvs.map fun p => p.2.1).Nodup) (hg : aget kvs k = some (b, xs)) (hb : H b = some (.lst vs)) (hv : Rps H xs vs)
    (tx : Tx H (upd H b (.lst (vs ++ [v])))) (rd : Rp (upd H b (.lst (vs ++ [v]))) d v) : Kl (upd H b (.lst (vs ++ [v]))) (aput kvs k (b, xs ++ [d])) ws := by
  induction h with
  | nil => cases hg
  | @cons p q l1 l2 r t ih =>
    rw [List.map_cons, List.nodup_cons] at nd
    obtain ⟨r1, r2, us, r3, r4⟩ := r
    have keep : ∀ {l1 : List (List Int × Addr × List D)} {l2 : List (List Key × V)}, Kl H l1 l2 → b ∉ l1.map (fun p => p.2.1) → Kl (upd H b (.lst (vs ++ [v]))) l1 l2 := fun {l1 l2} t hn => by
      induction t with
      | nil => exact .nil
      | cons r _ ih2 =>
        obtain ⟨s1, s2, us, s3, s4⟩ := r
        rw [List.map_cons, List.mem_cons, not_or] at hn
        exact .cons ⟨s1, s2, us, by rw [upd_ne (Ne.symm hn.1)]; exact s3, Rps.tx tx _ s4⟩ (ih2 hn.2)
    by_cases e : p.1 = k
    · rw [aget_pos e] at hg
      have e2 := Option.some.inj hg
      rw [aput_pos e]
      rw [e2] at r2 r3 r4
      refine .cons ⟨r1, r2, vs ++ [v], upd_same, (Rps.tx tx _ hv).app (Rps.cons rd Rps.nil)⟩ (keep t ?_)
      have := nd.1
      rw [e2] at this
      exact this
    · rw [aget_neg e] at hg
      rw [aput_neg e]
      have hne : p.2.1 ≠ b := fun z => by
        have : b ∈ l1.map fun p => p.2.1 := List.mem_map.mpr ⟨_, aget_mem hg, rfl⟩
        exact nd.1 (z ▸ this)
      exact .cons ⟨r1, r2, us, by rw [upd_ne hne]; exact r3, Rps.tx tx _ r4⟩ (ih nd.2 hg)
theorem put_new {ι : Type} [DecidableEq ι] {ws : List (ι × V)} {j : ι} {v : V} (h : valV ws j = none) : putK ws j v = ws ++ [(j, v)] := by
  unfold putK
  rw [if_neg ?_]
  intro z
  obtain ⟨q, hq, e⟩ := List.any_eq_true.mp z
  unfold valV at h
  rw [Option.map_eq_none_iff, List.find?_eq_none] at h
  exact h q hq e
theorem up_at {m : Addr} {o o' : O} {post : Fp} : ∀ pre : Fp, Up (pre ++ (m, true, o) :: post) m o o' (pre ++ (m, true, o') :: post)
  | [] => .hd
  | _ :: r => .tl (up_at r)
theorem kl_oth {F : Hp} {kvs : List (List Int × Addr × List D)} {ws : List (List Key × V)} (h : Kl H kvs ws) (tx : Tx H F) (k : ∀ c ∈ kvs.map (fun p => p.2.1), ∀ u, H c = some u → F c = some u) : Kl F kvs ws := by
  induction h with
  | nil => exact .nil
  | cons r _ ih =>
    obtain ⟨s1, s2, us, s3, s4⟩ := r
    exact .cons ⟨s1, s2, us, k _ List.mem_cons_self _ s3, Rps.tx tx _ s4⟩ (ih fun c hc => k c (List.mem_cons_of_mem _ hc))
theorem snocP {α β : Type} {F : α → β → Prop} {l1 : List α} {l2 : List β} {a : α} {b : β} (h : Paired F l1 l2) (r : F a b) : Paired F (l1 ++ [a]) (l2 ++ [b]) := Paired.snoc h r
theorem tr_addTo {i j : Nat} {m : Addr} {kvs : List (List Int × Addr × List D)} {k : List Int} {d : D} {pre post : Fp} {tk : TE} {kt : Kt} (eL : L = pre ++ (m, true, O.dL kvs) :: post) (hd : ds[i]? = some (some (.ref m))) (hx : ds[j]? = some (some d))
    (hk : Ea K H0 M tk ds L fun y L2 => y = keyD k ∧ L2 = L) (hz : kvs.length < 100000) (hz2 : ∀ xs, aget (strip kvs) k = some xs → xs.length < 100000)
    (kn : ∀ kvs', strip kvs' = aput (strip kvs) k ((aget (strip kvs) k).getD [] ++ [d]) → kt.nx ds (pre ++ (m, true, O.dL kvs') :: post)) : Tr K H0 M (sAddTo K (tVar i) tk (tVar j)) ds L kt := fun σ H E A o => by
  obtain ⟨vm, em, rm⟩ := A.sl.get hd
  obtain rfl : vm = V.ref m := rm
  have hmL : (m, true, O.dL kvs) ∈ L := by rw [eL]; exact List.mem_append_right _ List.mem_cons_self
  obtain ⟨ws0, g1, g2⟩ := A.ow.ho _ hmL
  refine ⟨.ref m, em, .inr (.inr (.inl ⟨rfl, .inr ⟨ws0, g1⟩⟩)), ?_⟩
  refine hk σ H _ A fun y L2 u H1 ⟨ey, eL2⟩ ru a1 e1 => ?_
  subst ey eL2
  refine ⟨by show ([] : List V).length ≤ sizeLine; exact Nat.zero_le _, fun p hp => ?_⟩
  obtain ⟨b, rfl, hb⟩ := key_tup ru
  have np : Mo H1 (upd H1 p (.lst [])) := Mo.new hp
  have a2 : As K H0 M ds L2 σ (upd H1 p (.lst [])) := a1.mo np
  obtain ⟨ws, w1, w2⟩ := a2.ow.ho _ hmL
  have hbk : (upd H1 p (.lst [])) b = some (.tup ((keyT k).map kV)) := np b _ hb
  have hlw : ws.length = kvs.length := (Paired.length w2).symm
  have hvk := kl_get w2 k
  have ndm : (eadr (m, true, O.dL kvs)).Nodup := by
    have nd := a2.ow.nd
    rw [eL, adrs_app] at nd
    exact (List.nodup_append.mp (show (eadr (m, true, O.dL kvs) ++ adrs post).Nodup from (List.nodup_append.mp nd).2.1)).1
  have ndk : (kvs.map fun p => p.2.1).Nodup := (List.nodup_cons.mp (show (m :: kvs.map fun p => p.2.1).Nodup from ndm)).2
  refine ⟨m, ws, keyT k, b, .ref p, rfl, rfl, w1, hbk, by rw [hlw]; exact line_lt hz, fun v0 hv0 => ?_, fun hn0 => ?_⟩
  · rw [hvk] at hv0
    obtain ⟨⟨b0, xs⟩, eg, ev⟩ := Option.map_eq_some_iff.mp hv0
    subst ev
    obtain ⟨vs, s1, s2⟩ := kl_mem w2 (aget_mem eg)
    have es : aget (strip kvs) k = some xs := by rw [strip_get, eg]; rfl
    refine ⟨.inl ⟨rfl, vs, .inl (.inl s1)⟩, ?_⟩
    obtain ⟨vd, ed, rd⟩ := a2.sl.get hx
    refine ⟨vd, ed, ?_⟩
    refine ⟨b0, vs, vd, rfl, rfl, s1, by rw [s2.len]; exact line_lt (hz2 xs es), ?_⟩
    have hbm : b0 ∈ m :: (O.dL kvs).adr := List.mem_cons_of_mem _ (List.mem_map.mpr ⟨_, aget_mem eg, rfl⟩)
    have tx : Tx (upd H1 p (.lst [])) (upd (upd H1 p (.lst [])) b0 (.lst (vs ++ [vd]))) := put_tx (o := .dL kvs) a2.ow hmL rfl hbm
    have hne : b0 ≠ m := fun z => by
      have := (List.nodup_cons.mp (show (m :: kvs.map fun p => p.2.1).Nodup from ndm)).1
      exact this (z ▸ List.mem_map.mpr ⟨_, aget_mem eg, rfl⟩)
    have up : Up L2 m (.dL kvs) (.dL (aput kvs k (b0, xs ++ [d]))) (pre ++ (m, true, O.dL (aput kvs k (b0, xs ++ [d]))) :: post) := by
      rw [eL]
      exact up_at pre
    have ow := a2.ow.put (b := b0) (u := .lst (vs ++ [vd])) up rfl rfl (show (kvs.map fun p => p.2.1) = _ from (kl_adr kvs k b0 xs (xs ++ [d]) eg).symm) hbm
      ⟨ws, by rw [upd_ne (Ne.symm hne)]; exact w1, kl_grow w2 ndk eg s1 s2 tx (Rp.tx tx d rd)⟩
    refine o.nx ds _ σ _ (kn _ ?_) ⟨a2.sl.tx tx, ow⟩ ((e1.trans np.tx).trans tx)
    rw [strip_put, es]
    rfl
  · have hnone : aget kvs k = none := by
      cases eg : aget kvs k with
      | none => rfl
      | some q => rw [hvk, eg] at hn0; cases hn0
    have es : aget (strip kvs) k = none := by rw [strip_get, hnone]; rfl
    have hpm : p ≠ m := fun z => by
      obtain ⟨wsz, q, _⟩ := a1.ow.ho _ hmL
      have q2 : H1 m = some _ := q
      rw [← z, hp] at q2
      cases q2
    have hat : (upd (upd H1 p (.lst [])) m (.dT (putK ws (keyT k) (.ref p)))) p = some (.lst []) := by
      rw [upd_ne hpm, upd_same]
    refine ⟨.inl ⟨rfl, [], .inl (.inl hat)⟩, ?_⟩
    obtain ⟨vd, ed, rd⟩ := a2.sl.get hx
    refine ⟨vd, ed, p, [], vd, rfl, rfl, hat, by show 0 < sizeLine; exact line_lt (by omega), ?_⟩
    have txm : Tx (upd H1 p (.lst [])) (upd (upd H1 p (.lst [])) m (.dT (putK ws (keyT k) (.ref p)))) := put_tx (o := .dL kvs) a2.ow hmL rfl List.mem_cons_self
    have txp : Tx (upd (upd H1 p (.lst [])) m (.dT (putK ws (keyT k) (.ref p)))) (upd (upd (upd H1 p (.lst [])) m (.dT (putK ws (keyT k) (.ref p)))) p (.lst ([] ++ [vd]))) := fun a ys ha => by
      rw [upd_ne (fun z => by rw [z, hat] at ha; cases ha)]
      exact ha
    generalize hF : upd (upd (upd H1 p (.lst [])) m (.dT (putK ws (keyT k) (.ref p)))) p (.lst ([] ++ [vd])) = F at txp
    have tx1 : Tx H1 F := (np.tx.trans txm).trans txp
    have oth : ∀ c u, c ≠ m → H1 c = some u → F c = some u := fun c u hc hu => by
      have hcp : c ≠ p := ne_of_none hu hp
      rw [← hF, upd_ne hcp, upd_ne hc, upd_ne hcp]
      exact hu
    have Fm : F m = some (.dT (putK ws (keyT k) (.ref p))) := by
      rw [← hF, upd_ne (Ne.symm hpm), upd_same]
    have Fp' : F p = some (.lst [vd]) := by rw [← hF, upd_same]; rfl
    have hpa : p ∉ adrs L2 := fun z => by
      obtain ⟨u, hu, _⟩ := a1.ow.tracked z
      rw [hp] at hu
      cases hu
    have wm := a1.ow.wr _ hmL rfl
    have ew : putK ws (keyT k) (.ref p) = ws ++ [(keyT k, .ref p)] := put_new hn0
    have ek : aput kvs k (p, [d]) = kvs ++ [(k, p, [d])] := aput_new (aget_none.mp hnone)
    obtain ⟨ws1, x1, x2⟩ := a1.ow.ho _ hmL
    have ndm1 := (List.nodup_cons.mp (show (m :: kvs.map fun p => p.2.1).Nodup from ndm)).1
    have klF : Kl F kvs ws1 := kl_oth x2 tx1 fun c hc u hu => oth c u (fun z => ndm1 (z ▸ hc)) hu
    have e11 : ws1 = ws := by
      have q : some (HO.dT ws1) = some (HO.dT ws) := (np m _ x1).symm.trans w1
      cases q
      rfl
    have klN : Kl F (aput kvs k (p, [d])) (putK ws (keyT k) (.ref p)) := by
      rw [ew, ek, ← e11]
      exact snocP klF ⟨rfl, rfl, [vd], Fp', Rps.cons (Rp.tx (txm.trans txp) d rd) Rps.nil⟩
    have eadrN : eadr (m, true, O.dL (aput kvs k (p, [d]))) = eadr (m, true, O.dL kvs) ++ [p] := by
      rw [ek]
      show m :: (kvs ++ [(k, p, [d])]).map (fun p => p.2.1) = _
      rw [List.map_append]
      rfl
    have hpp : p ∉ adrs pre ∧ p ∉ eadr (m, true, O.dL kvs) ∧ p ∉ adrs post := by
      rw [eL, adrs_app] at hpa
      exact ⟨fun z => hpa (List.mem_append_left _ z), fun z => hpa (List.mem_append_right _ (List.mem_append_left _ z)), fun z => hpa (List.mem_append_right _ (List.mem_append_right _ z))⟩
    have nd0 := a1.ow.nd
    rw [eL, adrs_app, show adrs ((m, true, O.dL kvs) :: post) = eadr (m, true, O.dL kvs) ++ adrs post from rfl] at nd0
    have nda := List.nodup_append.mp nd0
    have ndb := List.nodup_append.mp nda.2.1
    have ow : Ow K H0 M (pre ++ (m, true, O.dL (aput kvs k (p, [d]))) :: post) F := by
      have inL : ∀ q, q ∈ pre ∨ q ∈ post → q ∈ L2 := fun q hq => by
        rw [eL]
        rcases hq with hq | hq
        · exact List.mem_append_left _ hq
        · exact List.mem_append_right _ (List.mem_cons_of_mem _ hq)
      have hmE : m ∈ eadr (m, true, O.dL kvs) := List.mem_cons_self
      have notm : ∀ q, q ∈ pre ∨ q ∈ post → ∀ c ∈ eadr q, c ≠ m := fun q hq c hc z => by
        rcases hq with hq | hq
        · exact nda.2.2 c (mem_adrs hq hc) m (List.mem_append_left _ hmE) z
        · exact ndb.2.2 m hmE c (mem_adrs hq hc) z.symm
      have all : ∀ q, q ∈ pre ++ (m, true, O.dL (aput kvs k (p, [d]))) :: post → (q ∈ pre ∨ q ∈ post) ∨ q = (m, true, O.dL (aput kvs k (p, [d]))) := fun q hq => by
        rcases List.mem_append.mp hq with hq | hq
        · exact .inl (.inl hq)
        · rcases List.mem_cons.mp hq with hq | hq
          · exact .inr hq
          · exact .inl (.inr hq)
      have fr0 : ∀ c u, H0 c = some u → c ∉ M → F c = some u := fun c u hc hn => by
        have h1 := a1.ow.fr c u hc hn
        refine oth c u (fun z => ?_) h1
        rcases wm m hmE with z2 | z2
        · exact hn (z ▸ z2)
        · rw [z, z2] at hc; cases hc
      refine ⟨?_, fun q hq => ?_, fun q hq => ?_, fun q hq => ?_, fr0, fun c hc => ?_⟩
      · rw [adrs_app, show adrs ((m, true, O.dL (aput kvs k (p, [d]))) :: post) = eadr (m, true, O.dL (aput kvs k (p, [d]))) ++ adrs post from rfl, eadrN]
        refine List.nodup_append.mpr ⟨nda.1, List.nodup_append.mpr ⟨List.nodup_append.mpr ⟨ndb.1, by simp, fun a ha b hb => ?_⟩, ndb.2.1, fun a ha b hb => ?_⟩, fun a ha b hb => ?_⟩
        · intro z
          rw [List.mem_singleton.mp hb] at z
          exact hpp.2.1 (z ▸ ha)
        · rcases List.mem_append.mp ha with ha | ha
          · exact ndb.2.2 a ha b hb
          · intro z
            rw [List.mem_singleton.mp ha] at z
            exact hpp.2.2 (z ▸ hb)
        · rcases List.mem_append.mp hb with hb | hb
          · rcases List.mem_append.mp hb with hb | hb
            · exact nda.2.2 a ha b (List.mem_append_left _ hb)
            · intro z
              rw [List.mem_singleton.mp hb] at z
              exact hpp.1 (z ▸ ha)
          · exact nda.2.2 a ha b (List.mem_append_right _ hb)
      · rcases all q hq with hq | hq
        · cases eo : q.2.2.own with
          | true => exact (a1.ow.ho q (inL q hq)).tx tx1 fun c hc u hu => oth c u (notm q hq c (by rw [eadr_own eo]; exact hc)) hu
          | false =>
            obtain ⟨eM, h0⟩ := a1.ow.sc q (inL q hq) eo
            exact h0.mo fun c u hc => fr0 c u hc (by rw [eM]; exact fun z => by cases z)
        · rw [hq]
          exact ⟨_, Fm, klN⟩
      · rcases all q hq with hq | hq
        · exact a1.ow.wr q (inL q hq)
        · rw [hq, eadrN]
          intro _ c hc
          rcases List.mem_append.mp hc with hc | hc
          · exact wm c hc
          · rw [List.mem_singleton.mp hc]
            exact .inr (a1.ow.fresh hp)
      · rcases all q hq with hq | hq
        · exact a1.ow.sc q (inL q hq)
        · rw [hq]
          intro z
          cases z
      · have h1 := a1.ow.th c hc
        by_cases ec : c = m
        · rw [ec, Fm]
          exact fun z => by cases z
        · cases e9 : H1 c with
          | none => exact absurd e9 h1
          | some u =>
            rw [oth c u ec e9]
            exact fun z => by cases z
    refine o.nx ds _ σ _ (kn _ ?_) ⟨a1.sl.tx tx1, ow⟩ (e1.trans tx1)
    rw [strip_put, es]
    rfl

theorem ea_lcD {td : TE} {g : TG} {tt : TT} {te : TE} {vs : List Nat} {a : Addr} {kvs : List (List Int × D)} (hg : Gw g vs) (hm : ∃ i, ds[i]? = some (some (.ref a)) ∧ td = tVar i)
    (hu : ∀ od ws, ∃ L1, Up L a (.dT kvs) (.fT kvs od ws) L1 ∧ ∀ p, ∃ I : Nat → Fp → Prop, I 0 (L1 ++ [(p, true, .lst [])]) ∧ (∀ i L, i ≤ kvs.length → I i L → (a, true, O.fT kvs od ws) ∈ L) ∧
      (∀ i L q, kvs[i]? = some q → I i L → Ag K H0 M g (keyD q.1) (wipeD ds vs) L fun ds2 L2 => Et K H0 M tt ds2 L2 fun b L3 => Cnd b (Ea K H0 M te ds2 L3 fun d L4 => ∃ acc L5, Up L4 p (.lst acc) (.lst (acc ++ [d])) L5 ∧ acc.length < 100000 ∧ I (i + 1) L5) (I (i + 1) L3)) ∧
      ∀ L, I kvs.length L → ∃ L3, Up L a (.fT kvs od ws) (.dT kvs) L3 ∧ P (.ref p) L3) : Ea K H0 M (tLockE (tLc (iKeys td) g tt te vs)) ds L P := fun σ H Q A nn => by
  obtain ⟨L0, hU0, _⟩ := hu default []
  obtain ⟨ws, h1, h2, h3⟩ := A.ow.ho _ hU0.mem
  obtain ⟨iv, hiv, rfl⟩ := hm
  refine ⟨a, .dT ws, h1, trivial, fun od => ?_⟩
  obtain ⟨L1, hU, hp⟩ := hu od ws
  obtain ⟨A1, tx1⟩ := A.put (u := .frz od (.dT ws)) hU rfl rfl rfl fun tx => ⟨upd_same, Kr.tx tx h2, h3⟩
  obtain ⟨v, ev, rv⟩ := A1.sl.get hiv
  have hl : ws.length = kvs.length := (Paired.length h2).symm
  generalize hH1 : upd H a (.frz od (.dT ws)) = H1 at A1 tx1 rv
  have hat : H1 a = some (.frz od (.dT ws)) := by rw [← hH1, upd_same]
  refine ⟨v, ev, a, od, rv, .inr ⟨ws, hat, fun p np => ?_⟩⟩
  obtain ⟨I, i0, ist, stp, fin⟩ := hp p
  have ap : As K H0 M ds (L1 ++ [(p, true, .lst [])]) σ (upd H1 p (.lst [])) := A1.addL np Rps.nil
  have tp : Tx H1 (upd H1 p (.lst [])) := (Mo.new np).tx
  refine ⟨fun i m H => m = kvs.length - i ∧ i ≤ kvs.length ∧ Tx H1 H ∧ ∃ L, I i L ∧ As K H0 M ds L σ H, ⟨kvs.length, rfl, Nat.zero_le _, tp, _, i0, ap⟩, ?_⟩
  rintro i m H2 ⟨rfl, hi, tx, L, hI, a2⟩
  have hmem := ist i L hi hI
  obtain ⟨g1, g2, g3⟩ := a2.ow.ho _ hmem
  by_cases hlt : i < kvs.length
  · refine .inr ⟨⟨g1, by omega⟩, fun H' => Tx H1 H' ∧ ∃ L, I (i + 1) L ∧ As K H0 M ds L σ H', fun H' ⟨t, l, q, b⟩ => ⟨kvs.length - (i + 1), by omega, rfl, hlt, t, l, q, b⟩, fun x H' y => ?_⟩
    obtain ⟨e, kk, vv, q, e1, e2, e3⟩ := y
    subst e e2
    obtain ⟨pp, ep, ek, _⟩ := kr_atV g2 e1
    have rx : Rp H' (keyD pp.1) (.ref q) := ⟨q, _, rfl, e3, by
      have ek2 : kk = keyT pp.1 := ek
      rw [ek2, List.map_map]
      exact Rps.ofInts pp.1⟩
    have aw : As K H0 M (wipeD ds vs) L (L2.wipe σ vs) H' := ⟨a2.sl.wipe vs, a2.ow⟩
    have qq := stp i L pp ep hI (L2.wipe σ vs) H' (.ref q) (fun σ2 H2 => tt σ2 H2 fun b H3 => if b = true then te σ2 H3 fun y H4 => ∃ acc, H4 p = some (.lst acc) ∧ acc.length < sizeLine ∧ (Tx H1 (upd H4 p (.lst (acc ++ [y]))) ∧ ∃ L, I (i + 1) L ∧ As K H0 M ds L σ (upd H4 p (.lst (acc ++ [y])))) else (Tx H1 H3 ∧ ∃ L, I (i + 1) L ∧ As K H0 M ds L σ H3)) aw rx fun ds2 L2 σ2 H2 pp a3 e4 => by
      refine pp σ2 H2 _ a3 fun b L3 H3 p3 a4 e5 => ?_
      have sl : ∀ {H4}, Tx H3 H4 → Sls H4 ds σ := fun t => a2.sl.tx ((e4.trans e5).trans t)
      have tx3 : Tx H1 H3 := (tx.trans e4).trans e5
      cases b with
      | true =>
        show te σ2 H3 _
        refine p3.1 rfl σ2 H3 _ a4 fun d L4 v H4 ⟨acc, L5, hu5, hz, hI5⟩ rv a5 e6 => ?_
        obtain ⟨ws5, h5, h6⟩ := a5.ow.ho _ hu5.mem
        obtain ⟨A2, tx5⟩ := a5.put (u := .lst (ws5 ++ [v])) hu5 rfl rfl rfl fun tx => ⟨_, upd_same, (Rps.tx tx _ h6).app (Rps.cons (Rp.tx tx d rv) Rps.nil)⟩
        exact ⟨ws5, h5, by rw [h6.len]; exact line_lt hz, (tx3.trans e6).trans tx5, L5, hI5, sl (e6.trans tx5), A2.ow⟩
      | false =>
        show Tx H1 H3 ∧ _
        exact ⟨tx3, L3, p3.2 rfl, sl (Tx.refl _), a4.ow⟩
    have q2 := hg (.ref q) (L2.wipe σ vs) H' _ qq
    rw [wipe_idem] at q2
    exact q2
  · have e : i = kvs.length := by omega
    subst e
    obtain ⟨L3, hU3, kn⟩ := fin L hI
    obtain ⟨A3, tx3⟩ := a2.put (u := .dT ws) hU3 rfl rfl rfl fun tx => ⟨ws, upd_same, Kr.tx tx g2, g3⟩
    exact .inl ⟨⟨g1, by omega⟩, g1, nn (.ref p) L3 (.ref p) _ kn rfl A3 ((tx1.trans tx).trans tx3)⟩
end
end XR
-- KMir
set_option Elab.async false
set_option linter.all false
/-! what the text's defs compute, in plain Lean; none: an index or a key that is not there, or too little fuel -/
namespace XM
open XR
abbrev Pr : Type := Nat × Nat
abbrev Rk : Type := Bool × Nat
def sd (p : Pr) (s : Bool) : Nat := if s then p.2 else p.1
def rk (p : Pr) (s : Bool) : Rk := (s, sd p s)
/-! ### halves -/
def partGo (s : Bool) : Nat → List Pr → List (Option Nat) → List (Nat × Nat) → Option (List (Option Nat))
  | _, [], f, _ => some f
  | i, p :: r, f, a => match aget a (sd p s) with
    | some o => if i < f.length ∧ o < f.length then partGo s (i + 1) r ((f.set i (some o)).set o (some i)) (adrop a (sd p s)) else none
    | none => partGo s (i + 1) r f (aput a (sd p s) i)
def partners (ps : List Pr) (s : Bool) : Option (List (Option Nat)) := partGo s 0 ps (List.replicate ps.length none) []
def push (stk : List (Nat × Bool)) (o : Option Nat) (b : Bool) : List (Nat × Bool) := match o with
  | none => stk
  | some q => (q, b) :: stk
def giveGo (near far : List (Option Nat)) : Nat → List (Nat × Bool) → List (Option Bool) → Option (List (Option Bool))
  | 0, _, _ => none
  | _ + 1, [], signs => some signs
  | f + 1, (p, b) :: stk, signs => match signs[p]? with
    | none => none
    | some (some _) => giveGo near far f stk signs
    | some none => match near[p]?, far[p]? with
      | some q, some q' => giveGo near far f (push (push stk q !b) q' !b) (signs.set p (some b))
      | _, _ => none
def give (near far : List (Option Nat)) (p : Nat) (signs : List (Option Bool)) : Option (List (Option Bool)) := giveGo near far (3 * signs.length + 2) [(p, false)] signs
def halvesGo (near far : List (Option Nat)) : List Nat → List (Option Bool) → Option (List (Option Bool))
  | [], signs => some signs
  | p :: r, signs => match signs[p]? with
    | none => none
    | some (some _) => halvesGo near far r signs
    | some none => match give near far p signs with
      | none => none
      | some signs' => halvesGo near far r signs'
def halves (ps : List Pr) : Option (List (Option Bool)) := match partners ps false, partners ps true with
  | some near, some far => halvesGo near far (List.range ps.length) (List.replicate ps.length none)
  | _, _ => none
/-! ### weights -/
def wtsGo (s : Bool) : List Pr → List (Nat × Nat) → List (Nat × Nat)
  | [], f => f
  | p :: r, f => wtsGo s r (aput f (sd p s) ((aget f (sd p s)).getD 0 + 1))
def wts (ps : List Pr) (s : Bool) : List (Nat × Nat) := wtsGo s ps []
def maxv (m : Nat) : List (Nat × Nat) → Nat
  | [] => m
  | p :: r => maxv (max m p.2) r
def gw (ps : List Pr) : Nat := maxv (maxv 0 (wts ps false)) (wts ps true)
/-! ### links -/
def addTo (d : List (Rk × List Nat)) (k : Rk) (p : Nat) : List (Rk × List Nat) := aput d k ((aget d k).getD [] ++ [p])
def linkGo : Nat → List Pr → List (Rk × List Nat) → List (Rk × List Nat)
  | _, [], d => d
  | i, p :: r, d => linkGo (i + 1) r (addTo (addTo d (rk p false) i) (rk p true) i)
def links (ps : List Pr) : List (Rk × List Nat) := linkGo 0 ps []
/-! ### touching -/
def exGo (ps : List Pr) (came : List (Rk × Nat)) (start : Rk) : Nat → List (Rk × Nat) → Rk → Option (List (Rk × Nat))
  | 0, _, _ => none
  | f + 1, held, last => match aget came last with
    | none => none
    | some pl => match ps[pl]? with
      | none => none
      | some p => if ¬ held.length < 1000 then none else
        if rk p start.1 = start then some (aput (aput held last pl) (rk p start.1) pl)
        else match aget held (rk p start.1) with
          | none => none
          | some b => match ps[b]? with
            | none => none
            | some pb => exGo ps came start f (aput (aput held last pl) (rk p start.1) pl) (rk pb !start.1)
def ex (ps : List Pr) (held came : List (Rk × Nat)) (last start : Rk) : Option (List (Rk × Nat)) := exGo ps came start (came.length + 1) held last
def touchIn (ps : List Pr) (held : List (Rk × Nat)) (heavy : List (Rk × Unit)) (start : Rk) : List Nat → List (Rk × Nat) → List Rk → Option (List (Rk × Nat) ⊕ (List (Rk × Nat) × List Rk))
  | [], came, todo => some (.inr (came, todo))
  | pl :: r, came, todo => match ps[pl]? with
    | none => none
    | some p => match aget came (rk p !start.1) with
      | some _ => touchIn ps held heavy start r came todo
      | none => if ¬ (came.length < 1000 ∧ todo.length < 1000) then none else match aget held (rk p !start.1) with
        | none => (ex ps held (aput came (rk p !start.1) pl) (rk p !start.1) start).map .inl
        | some q => match ps[q]? with
          | none => none
          | some pq => match aget heavy (rk pq start.1) with
            | some _ => touchIn ps held heavy start r (aput came (rk p !start.1) pl) (todo ++ [rk pq start.1])
            | none => match aget held (rk pq start.1) with
              | none => none
              | some _ => (ex ps (adrop held (rk pq start.1)) (aput came (rk p !start.1) pl) (rk p !start.1) start).map .inl
/-- what a walk of one rack's links makes of the rest -/
def after {α β γ : Type} (k : β → γ → Option α) : Option (α ⊕ (β × γ)) → Option α
  | none => none
  | some (.inl h) => some h
  | some (.inr (c, t)) => k c t
def touchGo (ps : List Pr) (lk : List (Rk × List Nat)) (held : List (Rk × Nat)) (heavy : List (Rk × Unit)) (start : Rk) : Nat → Nat → List (Rk × Nat) → List Rk → Option (List (Rk × Nat))
  | 0, _, _, _ => none
  | f + 1, at', came, todo => match todo[at']? with
    | none => some held
    | some k => match aget lk k with
      | none => none
      | some ls => after (fun c t => touchGo ps lk held heavy start f (at' + 1) c t) (touchIn ps held heavy start ls came todo)
def touch (ps : List Pr) (lk : List (Rk × List Nat)) (held : List (Rk × Nat)) (heavy : List (Rk × Unit)) (start : Rk) : Option (List (Rk × Nat)) := touchGo ps lk held heavy start (ps.length + 2) 0 [] [start]
def heavyGo (lk : List (Rk × List Nat)) (most : Nat) : List Rk → List (Rk × Unit) → Option (List (Rk × Unit))
  | [], h => some h
  | k :: r, h => match aget lk k with
    | none => none
    | some ls => heavyGo lk most r (if ls.length = most then aput h k () else h)
def heldGo (ps : List Pr) (lk : List (Rk × List Nat)) (heavy : List (Rk × Unit)) : List (Rk × Unit) → List (Rk × Nat) → Option (List (Rk × Nat))
  | [], held => some held
  | k :: r, held => match aget held k.1 with
    | some _ => heldGo ps lk heavy r held
    | none => match touch ps lk held heavy k.1 with
      | none => none
      | some held' => heldGo ps lk heavy r held'
def heldIn (held : List (Rk × Nat)) : List Nat := held.filterMap fun p => if p.1.1 = false then some p.2 else none
def touching (ps : List Pr) : Option (List Nat) := match heavyGo (links ps) (gw ps) (srt leR ((links ps).map (·.1))) [] with
  | none => none
  | some heavy => match heldGo ps (links ps) heavy heavy [] with
    | none => none
    | some held => some (srt leN (heldIn held))
/-! ### number_off -/
def pick {α : Type} (ps : List α) : List Nat → Option (List α)
  | [] => some []
  | p :: r => match ps[p]? with
    | none => none
    | some x => match pick ps r with
      | none => none
      | some xs => some (x :: xs)
def setAll (v : Nat) : List Nat → List Nat → Option (List Nat)
  | [], found => some found
  | p :: r, found => if p < found.length then setAll v r (found.set p v) else none
def allSome : List (Option Bool) → Option (List Bool)
  | [] => some []
  | none :: _ => none
  | some b :: r => match allSome r with
    | none => none
    | some bs => some (b :: bs)
def part (places : List Nat) (signs : List Bool) (b : Bool) : List Nat := (places.zip signs).filterMap fun q => if q.2 = b then some q.1 else none
def left (places chosen : List Nat) : List Nat := (List.range places.length).filterMap fun i => if i ∈ chosen then none else places[i]?
def numGo (ps : List Pr) : Nat → List Nat → Nat → List Nat → Option (List Nat)
  | 0, _, _, _ => none
  | f + 1, places, start, found => match pick ps places with
    | none => none
    | some some' =>
      if gw some' < 2 then setAll start places found
      else if gw some' % 2 = 0 then match halves some' with
        | none => none
        | some signs => match allSome signs with
          | none => none
          | some bs => match numGo ps f (part places bs false) start found with
            | none => none
            | some found' => numGo ps f (part places bs true) (start + gw some' / 2) found'
      else match touching some' with
        | none => none
        | some chosen => match pick places chosen with
          | none => none
          | some cs => match setAll start cs found with
            | none => none
            | some found' => numGo ps f (left places chosen) (start + 1) found'
def parted (ps : List Pr) : Option (List Nat) := numGo ps 64 (List.range ps.length) 0 (List.replicate ps.length 0)
/-! ### greatest -/
def inc (m : List (Rk × Nat)) (k : Rk) : List (Rk × Nat) := aput m k ((aget m k).getD 0 + 1)
def fpGood (ways : Nat) (m : List (Rk × Nat)) (p : Pr) : Bool := decide (max ((aget m (rk p false)).getD 0) ((aget m (rk p true)).getD 0) < ways)
def fpGo (ways : Nat) : List Pr → List Bool → List (Rk × Nat) → List Bool
  | [], t, _ => t
  | p :: r, t, m => fpGo ways r (t ++ [fpGood ways m p]) (if fpGood ways m p then inc (inc m (rk p false)) (rk p true) else m)
def firstPart (ps : List Pr) (ways : Nat) : List Bool := fpGo ways ps [] []
def cntT (taken : List Bool) : List Nat → Option Nat
  | [] => some 0
  | p :: r => match taken[p]? with
    | none => none
    | some b => match cntT taken r with
      | none => none
      | some n => some (if b then n + 1 else n)
def wrGo (lk : List (Rk × List Nat)) (taken : List Bool) (ways : Nat) : List Rk → List (Rk × Unit) → Option (List (Rk × Unit))
  | [], f => some f
  | k :: r, f => match aget lk k with
    | none => none
    | some ls => match cntT taken ls with
      | none => none
      | some c => wrGo lk taken ways r (if c < ways then aput f k () else f)
def withRoom (lk : List (Rk × List Nat)) (taken : List Bool) (ways : Nat) : Option (List (Rk × Unit)) := wrGo lk taken ways (srt leR (lk.map (·.1))) []
def ltStart : List (Rk × Unit) → List (Rk × Option Nat) → List Rk → List (Rk × Option Nat) × List Rk
  | [], came, todo => (came, todo)
  | k :: r, came, todo => if k.1.1 = false then ltStart r (aput came k.1 none) (todo ++ [k.1]) else ltStart r came todo
def ltIn (ps : List Pr) (taken : List Bool) (ready : List (Rk × Unit)) (s : Bool) : List Nat → List (Rk × Option Nat) → List Rk → Option ((Option Rk × List (Rk × Option Nat)) ⊕ (List (Rk × Option Nat) × List Rk))
  | [], came, todo => some (.inr (came, todo))
  | pl :: r, came, todo => match ps[pl]?, taken[pl]? with
    | some p, some t =>
      if t = s ∧ aget came (rk p !s) = none then
        if ¬ (came.length < 1000 ∧ todo.length < 1000) then none else
        if s = false ∧ aget ready (rk p !s) = some () then some (.inl (some (rk p !s), aput came (rk p !s) (some pl)))
        else ltIn ps taken ready s r (aput came (rk p !s) (some pl)) (todo ++ [rk p !s])
      else ltIn ps taken ready s r came todo
    | _, _ => none
def ltGo (ps : List Pr) (lk : List (Rk × List Nat)) (taken : List Bool) (ready : List (Rk × Unit)) : Nat → Nat → List (Rk × Option Nat) → List Rk → Option (Option Rk × List (Rk × Option Nat))
  | 0, _, _, _ => none
  | f + 1, at', came, todo => match todo[at']? with
    | none => some (none, came)
    | some k => match aget lk k with
      | none => none
      | some ls => after (fun c t => ltGo ps lk taken ready f (at' + 1) c t) (ltIn ps taken ready k.1 ls came todo)
def looked (ps : List Pr) (lk : List (Rk × List Nat)) (taken : List Bool) (ready : List (Rk × Unit)) : Option (Option Rk × List (Rk × Option Nat)) :=
  ltGo ps lk taken ready (2 * ps.length + 2) 0 (ltStart ready [] []).1 (ltStart ready [] []).2
def toGo (ps : List Pr) (came : List (Rk × Option Nat)) : Nat → List Bool → Rk → Option (List Bool)
  | 0, _, _ => none
  | f + 1, taken, last => match aget came last with
    | none => none
    | some none => some taken
    | some (some pl) => match taken[pl]?, ps[pl]? with
      | some t, some p => toGo ps came f (taken.set pl (!t)) (rk p !last.1)
      | _, _ => none
def turnOver (ps : List Pr) (taken : List Bool) (came : List (Rk × Option Nat)) (last : Rk) : Option (List Bool) := toGo ps came (came.length + 1) taken last
def look (ps : List Pr) (ways : Nat) (taken : List Bool) : Option (Option Rk × List (Rk × Option Nat)) := match withRoom (links ps) taken ways with
  | none => none
  | some ready => looked ps (links ps) taken ready
def grRest (ps : List Pr) (ways : Nat) : Nat → List Bool → Option Rk → List (Rk × Option Nat) → Option (List Bool × List (Rk × Option Nat))
  | _, taken, none, came => some (taken, came)
  | 0, _, some _, _ => none
  | f + 1, taken, some last, came => match turnOver ps taken came last with
    | none => none
    | some taken' => match look ps ways taken' with
      | none => none
      | some (last', came') => grRest ps ways f taken' last' came'
def grGo (ps : List Pr) (ways : Nat) : Option (List Bool × List (Rk × Option Nat)) := match look ps ways (firstPart ps ways) with
  | none => none
  | some (last, came) => grRest ps ways (ps.length + 2) (firstPart ps ways) last came
def racksIn (ps : List Pr) (came : List (Rk × Option Nat)) : List Nat := (srt leR ((links ps).map (·.1))).filterMap fun k => if k.1 = false ∧ aget came k = none then some k.2 else none
def racksOut (ps : List Pr) (came : List (Rk × Option Nat)) : List Nat := (srt leR ((links ps).map (·.1))).filterMap fun k => if k.1 = true ∧ aget came k ≠ none then some k.2 else none
def trues (taken : List Bool) : List Nat := (List.range taken.length).filterMap fun i => if taken[i]? = some true then some i else none
def greatest (ps : List Pr) (ways : Nat) : Option (List Nat × List Nat × List Nat) := match grGo ps ways with
  | none => none
  | some (taken, came) => if taken.length = ps.length then some (trues taken, racksIn ps came, racksOut ps came) else none
end XM
-- KAbs9
set_option Elab.async false
set_option linter.all false
set_option maxRecDepth 100000
set_option maxHeartbeats 1000000
/-! rules over plain data -/
namespace XR
open PySem PySem.Spec PyProof.Rows L2
def dO : Option Nat → D
  | none => .non
  | some n => .int (n : Nat)
def dS : Option Bool → D
  | none => .non
  | some b => .int (bi b)
abbrev dB (b : Bool) : D := .bl b
abbrev dU (_ : Unit) : D := .bl true
def dRo : Option Rk → D
  | none => .non
  | some r => dR r
abbrev dK2 (q : Nat × Bool) : D := .tup [.int (q.1 : Nat), .int (bi q.2)]
/-- the lists of links -/
abbrev eL (d : List (Rk × List Nat)) : List (List Int × List D) := d.map fun q => (kR q.1, q.2.map dN)
section
variable {K : PySem.W.Frag} {H0 H H' : Hp} {M : List Addr} {L L' L1 : Fp} {ds : List (Option D)} {σ : L2.St} {P : D → Fp → Prop} {Pb : Bool → Fp → Prop} {α : Type}
/-! ### entries that are no longer looked at -/
theorem As.sub (A : As K H0 M ds L σ H) (h : L1.Sublist L) : As K H0 M ds L1 σ H := ⟨A.sl, A.ow.sub h⟩
theorem tr_sub {t : TS} {k : Kt} (h : L1.Sublist L) (q : Tr K H0 M t ds L1 k) : Tr K H0 M t ds L k := fun σ H E A o => q σ H E (A.sub h) o
theorem ea_sub {t : TE} (h : L1.Sublist L) (q : Ea K H0 M t ds L1 P) : Ea K H0 M t ds L P := fun σ H E A o => q σ H E (A.sub h) o
theorem et_sub {t : TT} (h : L1.Sublist L) (q : Et K H0 M t ds L1 Pb) : Et K H0 M t ds L Pb := fun σ H E A o => q σ H E (A.sub h) o
theorem ag_sub {g : TG} {d : D} {Pg : List (Option D) → Fp → Prop} (h : L1.Sublist L) (q : Ag K H0 M g d ds L1 Pg) : Ag K H0 M g d ds L Pg := fun σ H v Q A r n => q σ H v Q (A.sub h) r n
/-! ### lists of like items -/
theorem at_i {l : List α} {f : α → D} {n : Nat} {x : α} (h : l[n]? = some x) : atI (l.map f) (n : Int) = some (f x) := by
  unfold atI
  have hl : n < l.length := (List.getElem?_eq_some_iff.mp h).1
  have e : ixN (l.map f).length (n : Int) = some n := by
    unfold ixN
    rw [if_pos (by omega), if_pos (by rw [List.length_map]; omega)]
    simp
  rw [e]
  show (l.map f)[n]? = _
  rw [List.getElem?_map, h]
  rfl
theorem rb_ixN {a : Addr} {l : List α} {f : α → D} {n : Nat} {x : α} (h : At L a (l.map f)) (hx : l[n]? = some x) (k : P (f x) L) : Rb K H0 M (rIxL K) (.ref a) (.int (n : Nat)) L P := rb_ixL h (at_i hx) k
theorem atI_sd (p : Nat × Nat) (s : Bool) : atI [D.int (p.1 : Nat), D.int (p.2 : Nat)] (bi s) = some (D.int (XM.sd p s : Nat)) := by
  cases s <;> rfl
theorem rb_sd {p : Nat × Nat} {s : Bool} (k : P (.int (XM.sd p s : Nat)) L) : Rb K H0 M (rIxT K) (dP p) (.int (bi s)) L P := rb_ixT (atI_sd p s) k
theorem rb_t0 {x : D} {xs : List D} (k : P x L) : Rb K H0 M (rIxT K) (.tup (x :: xs)) (.int 0) L P := rb_ixT (by
  unfold atI
  have e : ixN (x :: xs).length (0 : Int) = some 0 := by
    unfold ixN
    rw [if_pos (by omega), if_pos (by rw [List.length_cons]; omega)]
    rfl
  rw [e]
  rfl) k
theorem rb_t1 {x y : D} {xs : List D} (k : P y L) : Rb K H0 M (rIxT K) (.tup (x :: y :: xs)) (.int 1) L P := rb_ixT (by
  unfold atI
  have e : ixN (x :: y :: xs).length (1 : Int) = some 1 := by
    unfold ixN
    rw [if_pos (by omega), if_pos (by rw [List.length_cons, List.length_cons]; omega)]
    rfl
  rw [e]
  rfl) k
theorem rb_flip {s : Bool} (k : P (.int (bi (!s))) L) : Rb K H0 M rSubI (.int 1) (.int (bi s)) L P := rb_sub (by
  have e : (1 : Int) - bi s = bi (!s) := by cases s <;> rfl
  rw [e]
  exact k)
theorem rb_inc {n : Nat} (k : P (.int ((n + 1 : Nat) : Int)) L) : Rb K H0 M rAddI (.int (n : Nat)) (.int 1) L P := rb_add k
theorem rb_addN {m n : Nat} (k : P (.int ((m + n : Nat) : Int)) L) : Rb K H0 M rAddI (.int (m : Nat)) (.int (n : Nat)) L P := rb_add (by rw [← Int.natCast_add]; exact k)
theorem dec_lt (m n : Nat) : decide ((m : Int) < (n : Int)) = decide (m < n) := decide_eq_decide.mpr (by omega)
theorem dec_eq (m n : Nat) : decide ((m : Int) = (n : Int)) = decide (m = n) := decide_eq_decide.mpr (by omega)
theorem dec_le (m n : Nat) : decide ((m : Int) ≤ (n : Int)) = decide (m ≤ n) := decide_eq_decide.mpr (by omega)
theorem rb_ltN {m n : Nat} (k : P (.bl (decide (m < n))) L) : Rb K H0 M rLtI (.int (m : Nat)) (.int (n : Nat)) L P := rb_lt (by rw [dec_lt]; exact k)
theorem rb_gtN {m n : Nat} (k : P (.bl (decide (n < m))) L) : Rb K H0 M rGtI (.int (m : Nat)) (.int (n : Nat)) L P := rb_gt (by rw [dec_lt]; exact k)
theorem rb_eqN {m n : Nat} (k : P (.bl (decide (m = n))) L) : Rb K H0 M rEq (.int (m : Nat)) (.int (n : Nat)) L P := rb_eqI (by rw [dec_eq]; exact k)
theorem rb_eqS {a b : Bool} (k : P (.bl (decide (a = b))) L) : Rb K H0 M rEq (.int (bi a)) (.int (bi b)) L P := rb_eqI (by
  have e : decide (bi a = bi b) = decide (a = b) := by cases a <;> cases b <;> rfl
  rw [e]
  exact k)
theorem isN_O (o : Option Nat) : (dO o).isN = o.isNone := by cases o <;> rfl
theorem isN_S (o : Option Bool) : (dS o).isN = o.isNone := by cases o <;> rfl
theorem isN_R (o : Option Rk) : (dRo o).isN = o.isNone := by cases o <;> rfl
theorem cndO {o : Option α} {A B : Prop} (h1 : o = none → A) (h2 : ∀ x, o = some x → B) : Cnd o.isNone A B := by
  cases o with
  | none => exact cndT (h1 rfl)
  | some x => exact cndF (h2 x rfl)
theorem cndOn {o : Option α} {A B : Prop} (h1 : ∀ x, o = some x → A) (h2 : o = none → B) : Cnd (!o.isNone) A B := by
  cases o with
  | none => exact cndF (h2 rfl)
  | some x => exact cndT (h1 x rfl)
theorem cndG {β : Type} {o : Option α} {f : α → β} {A B : Prop} (h1 : ∀ x, o = some x → A) (h2 : o = none → B) : Cnd (o.map f).isSome A B := by
  cases o with
  | none => exact cndF (h2 rfl)
  | some x => exact cndT (h1 x rfl)
theorem cndGn {β : Type} {o : Option α} {f : α → β} {A B : Prop} (h1 : o = none → A) (h2 : ∀ x, o = some x → B) : Cnd (!(o.map f).isSome) A B := by
  cases o with
  | none => exact cndT (h1 rfl)
  | some x => exact cndF (h2 x rfl)
theorem cndB {b : Bool} {A B : Prop} (h1 : b = true → A) (h2 : b = false → B) : Cnd b A B := ⟨h1, h2⟩
theorem cndBn {b : Bool} {A B : Prop} (h1 : b = false → A) (h2 : b = true → B) : Cnd (!b) A B := by
  cases b with
  | true => exact cndF (h2 rfl)
  | false => exact cndT (h1 rfl)
theorem rm_appendN {a : Addr} {l : List α} {f : α → D} (x : α) (hu : Up L a (.lst (l.map f)) (.lst ((l ++ [x]).map f)) L') (hz : l.length < 100000) (k : P .non L') : Rm K H0 M rAppend (.ref a) [f x] L P :=
  rm_append (xs := l.map f) (d := f x) (by rw [List.map_append] at hu; exact hu) (by rw [List.length_map]; exact hz) k
theorem ixN_of {n m : Nat} (h : m < n) : ixN n (m : Int) = some m := by
  unfold ixN
  rw [if_pos (by omega), if_pos (by omega)]
  simp
theorem tr_setN {te to ti : TE} {k : Kt} (f : α → D) (h : Ea K H0 M te ds L fun d L1 => Ea K H0 M to ds L1 fun x L2 => Ea K H0 M ti ds L2 fun y L3 => ∃ (a : Addr) (l : List α) (j : Nat) (v : α) (L4 : Fp), x = .ref a ∧ y = .int (j : Nat) ∧ d = f v ∧ Up L3 a (.lst (l.map f)) (.lst ((l.set j v).map f)) L4 ∧ j < l.length ∧ k.nx ds L4) :
    Tr K H0 M (tAsg te (gSub to ti rSetL)) ds L k := tr_setL (ea_to h fun d L1 h1 => ea_to h1 fun x L2 h2 => ea_to h2 fun y L3 ⟨a, l, j, v, L4, e1, e2, e3, hu, hj, kk⟩ => ⟨a, l.map f, (j : Int), j, L4, e1, e2, by rw [List.map_set, ← e3] at hu; exact hu, by rw [List.length_map]; exact ixN_of hj, kk⟩)
/-! ### dicts -/
theorem dg_T {a : Addr} {w : Bool} {d : List (Rk × α)} {f : α → D} {k : Rk} {r : Fp} : Dg ((a, w, .dT (eT f d)) :: r) a (dR k) ((aget d k).map f) := by rw [← eT_get]; exact Dg.dT (k := kR k)
theorem dg_rT {a : Addr} {w : Bool} {d : List (Rk × α)} {f : α → D} {k : Rk} {r : Fp} : Dg ((a, w, .rT (eT f d)) :: r) a (dR k) ((aget d k).map f) := by rw [← eT_get]; exact Dg.rT (k := kR k)
theorem dg_fT {a : Addr} {w : Bool} {d : List (Rk × α)} {f : α → D} {k : Rk} {od : Obj} {ws : List (List Key × V)} {r : Fp} : Dg ((a, w, .fT (eT f d) od ws) :: r) a (dR k) ((aget d k).map f) := by rw [← eT_get]; exact Dg.fT (k := kR k)
theorem dg_K {a : Addr} {w : Bool} {d : List (Nat × α)} {f : α → D} {k : Nat} {r : Fp} : Dg ((a, w, .dK (eK f d)) :: r) a (dN k) ((aget d k).map f) := by rw [← eK_get]; exact Dg.dK (i := (k : Int))
theorem ea_dgetN {td ty : TE} (h : Ea K H0 M td ds L fun x L1 => Ea K H0 M ty ds L1 fun y L2 => ∃ a o d, x = .ref a ∧ Dg L2 a y o ∧ o = some d ∧ P d L2) : Ea K H0 M (tDGet td ty) ds L P :=
  ea_dget (ea_to h fun x L1 h1 => ea_to h1 fun y L2 ⟨a, o, d, e1, g, e2, p⟩ => ⟨a, d, e1, e2 ▸ g, p⟩)
/-- links[k] -/
theorem ea_dgetL {td ty : TE} (h : Ea K H0 M td ds L fun x L1 => Ea K H0 M ty ds L1 fun y L2 => ∃ a w kvs lk k ls, x = .ref a ∧ y = dR k ∧ (a, w, O.dL kvs) ∈ L2 ∧ strip kvs = eL lk ∧ aget lk k = some ls ∧ ∀ b, (kR k, b, ls.map dN) ∈ kvs → At L2 b (ls.map dN) → P (.ref b) L2) : Ea K H0 M (tDGet td ty) ds L P :=
  ea_dget (ea_to h fun x L1 h1 => ea_to h1 fun y L2 ⟨a, w, kvs, lk, k, ls, e1, e2, hm, e3, e4, p⟩ => by
    have e5 : aget (strip kvs) (kR k) = some (ls.map dN) := by
      rw [e3]
      have := aget_map (f := kR) kR_inj (fun q : List Nat => q.map dN) k lk
      rw [this, e4]
      rfl
    rw [strip_get] at e5
    obtain ⟨⟨b, xs⟩, e6, e7⟩ := Option.map_eq_some_iff.mp e5
    subst e7
    have hat : At L2 b (ls.map dN) := by
      have key : ∀ L3 : Fp, (a, w, O.dL kvs) ∈ L3 → At L3 b (ls.map dN) := fun L3 h3 => by
        induction L3 with
        | nil => cases h3
        | cons q r ih =>
          rcases List.mem_cons.mp h3 with e | h3
          · rw [← e]; exact At.dl (aget_mem e6)
          · exact .tl (ih h3)
      exact key L2 hm
    have hdg : Dg L2 a y (some (.ref b)) := by
      rw [e2]
      have key : ∀ L3 : Fp, (a, w, O.dL kvs) ∈ L3 → Dg L3 a (dR k) (some (.ref b)) := fun L3 h3 => by
        induction L3 with
        | nil => cases h3
        | cons q r ih =>
          rcases List.mem_cons.mp h3 with e | h3
          · rw [← e]
            have := Dg.dL (a := a) (w := w) (kvs := kvs) (k := kR k) (r := r)
            rw [e6] at this
            exact this
          · exact .tl (ih h3)
      exact key L2 hm
    exact ⟨a, .ref b, e1, hdg, p b (aget_mem e6) hat⟩)
theorem dp_T {a : Addr} {d : List (Rk × α)} {f : α → D} {k : Rk} {v : α} (h : Up L a (.dT (eT f d)) (.dT (eT f (aput d k v))) L') (hz : d.length < 100000) : Dp L a (dR k) (f v) L' :=
  Dp.dT (k := kR k) (by rw [eT_put]; exact h) (by rw [List.length_map]; exact hz)
theorem dp_K {a : Addr} {d : List (Nat × α)} {f : α → D} {k : Nat} {v : α} (h : Up L a (.dK (eK f d)) (.dK (eK f (aput d k v))) L') (hz : d.length < 100000) : Dp L a (dN k) (f v) L' :=
  Dp.dK (i := (k : Int)) (by rw [eK_put]; exact h) (by rw [List.length_map]; exact hz)
/-! ### compared with no items -/
theorem dds_map {f : α → D} {g : α → PyData} (h : ∀ x, Dd L (f x) (g x)) : ∀ l : List α, Dds L (l.map f) (l.map g)
  | [] => .nil
  | x :: l => .cons (h x) (dds_map h l)
theorem lay_map {g : α → PyData} (h : ∀ x, (g x).canLay0 = true) : ∀ l : List α, PyData.canLayAll0 (l.map g) = true
  | [] => rfl
  | x :: l => by
    show (PyData.canLay0 (g x) && PyData.canLayAll0 (l.map g)) = true
    rw [h x, lay_map h l]
    rfl
theorem dep_map {g : α → PyData} {k : Nat} (h : ∀ x, (g x).depth ≤ k) : ∀ l : List α, PyData.depthAll (l.map g) ≤ k
  | [] => Nat.zero_le _
  | x :: l => by
    show max (PyData.depth (g x)) (PyData.depthAll (l.map g)) ≤ k
    exact Nat.max_le.mpr ⟨h x, dep_map h l⟩
/-- g makes data that are equal when their sources are -/
structure Ex [DecidableEq α] (g : α → PyData) (k : Nat) : Prop where
  eq : ∀ x y, PyData.eqv (g x) (g y) = decide (x = y)
  lay : ∀ x, (g x).canLay0 = true
  dep : ∀ x, (g x).depth ≤ k
theorem Ex.shaped [DecidableEq α] {g : α → PyData} {k : Nat} (e : Ex g k) (hk : k ≤ 64) (x : α) : SeqAt.shaped (g x) = true := by
  show ((g x).canLay0 && decide ((g x).depth ≤ 64)) = true
  rw [e.lay x, decide_eq_true (Nat.le_trans (e.dep x) hk)]
  rfl
theorem eqv_all [DecidableEq α] {g : α → PyData} (h : ∀ x y, PyData.eqv (g x) (g y) = decide (x = y)) : ∀ l m : List α, PyData.eqvAll (l.map g) (m.map g) = decide (l = m)
  | [], [] => rfl
  | [], _ :: _ => rfl
  | _ :: _, [] => rfl
  | x :: l, y :: m => by
    show (PyData.eqv (g x) (g y) && PyData.eqvAll (l.map g) (m.map g)) = _
    rw [h x y, eqv_all h l m]
    by_cases e1 : x = y
    · by_cases e2 : l = m
      · simp [e1, e2]
      · simp [e1, e2]
    · simp [e1]
theorem Ex.lst [DecidableEq α] {g : α → PyData} {k : Nat} (e : Ex g k) : Ex (fun l : List α => PyData.list (l.map g)) (k + 1) :=
  ⟨fun x y => eqv_all e.eq x y, fun x => lay_map e.lay x, fun x => Nat.succ_le_succ (dep_map e.dep x)⟩
theorem Ex.int : Ex (fun i : Int => PyData.int i) 0 := ⟨fun x y => by
  show (x == y) = _
  by_cases e : x = y
  · simp [e]
  · simp [e], fun _ => rfl, fun _ => Nat.le_refl _⟩
theorem Ex.nat : Ex (fun i : Nat => PyData.int (i : Nat)) 0 := ⟨fun x y => by
  show ((x : Int) == (y : Int)) = _
  by_cases e : x = y
  · simp [e]
  · have : ¬ (x : Int) = (y : Int) := by omega
    simp [e, this], fun _ => rfl, fun _ => Nat.le_refl _⟩
theorem Ex.pair {β : Type} [DecidableEq α] [DecidableEq β] {g : α → PyData} {h : β → PyData} {k j : Nat} (e : Ex g k) (e' : Ex h j) : Ex (fun p : α × β => PyData.tuple [g p.1, h p.2]) (max k j + 1) :=
  ⟨fun x y => by
    show (PyData.eqv (g x.1) (g y.1) && (PyData.eqv (h x.2) (h y.2) && true)) = _
    rw [e.eq, e'.eq]
    by_cases e1 : x.1 = y.1
    · by_cases e2 : x.2 = y.2
      · simp [e1, e2, Prod.ext e1 e2]
      · have : ¬ x = y := fun z => e2 (by rw [z])
        simp [e1, e2, this]
    · have : ¬ x = y := fun z => e1 (by rw [z])
      simp [e1, this], fun x => by
    show (PyData.canLay0 (g x.1) && (PyData.canLay0 (h x.2) && true)) = true
    rw [e.lay, e'.lay]
    rfl, fun x => by
    show max (PyData.depth (g x.1)) (max (PyData.depth (h x.2)) 0) + 1 ≤ _
    have h1 := e.dep x.1
    have h2 := e'.dep x.2
    omega⟩
theorem Ex.map {β : Type} [DecidableEq α] [DecidableEq β] {g : α → PyData} {k : Nat} (e : Ex g k) (f : β → α) (hf : ∀ x y, f x = f y → x = y) : Ex (fun x => g (f x)) k :=
  ⟨fun x y => by
    rw [e.eq]
    exact decide_eq_decide.mpr ⟨hf x y, fun z => by rw [z]⟩, fun x => e.lay _, fun x => e.dep _⟩
theorem At.app {a : Addr} {xs : List D} {L : Fp} (E : Fp) (h : At L a xs) : At (L ++ E) a xs := by
  induction h with
  | lst => exact .lst
  | ro => exact .ro
  | sc => exact .sc
  | dl h => exact .dl h
  | tl _ ih => exact .tl ih
theorem At.last {p : Addr} {w : Bool} {xs : List D} : ∀ L : Fp, At (L ++ [(p, w, O.lst xs)]) p xs
  | [] => .lst
  | _ :: r => .tl (At.last r)
/-- xs != [] -/
theorem ea_neNil {i : Nat} {a : Addr} {l : List α} {f : α → D} {g : α → PyData} (hi : ds[i]? = some (some (.ref a))) (ha : At L a (l.map f)) (hf : ∀ L x, Dd L (f x) (g x)) (hl : ∀ x, (g x).canLay0 = true) (hd : ∀ x, (g x).depth ≤ 10) (k : ∀ p, P (.bl (!l.isEmpty)) (L ++ [(p, true, .lst [])])) :
    Ea K H0 M (tOp (rNeD K) (tVar i) (tLst tNil)) ds L P := ea_op (ea_var hi (ea_lst (el_nil ⟨Nat.zero_le _, fun p => by
  have e : (!PyData.eqv (.list (l.map g)) (.list [])) = !l.isEmpty := by cases l <;> rfl
  refine rb_neD (p := .list (l.map g)) (q := .list []) (.ref (ha.app _) (dds_map (hf _) l)) (.ref (At.last _) .nil) ?_ rfl ?_
  · show (PyData.canLayAll0 (l.map g) && decide (PyData.depthAll (l.map g) + 1 ≤ 64)) = true
    rw [lay_map hl l, decide_eq_true (by have := dep_map hd l; omega)]
    rfl
  · rw [e]
    exact k p⟩)))

theorem at_sub {a : Addr} {xs : List D} (h : L1.Sublist L) (q : At L1 a xs) : At L a xs := by
  induction h with
  | slnil => exact q
  | cons _ _ ih => exact .tl (ih q)
  | cons_cons _ _ ih =>
    cases q with
    | lst => exact .lst
    | ro => exact .ro
    | sc => exact .sc
    | dl h => exact .dl h
    | tl h => exact .tl (ih h)

/-! ### lists of links -/
theorem eL_get (lk : List (Rk × List Nat)) (k : Rk) : aget (eL lk) (kR k) = (aget lk k).map fun q => q.map dN := aget_map (f := kR) kR_inj (fun q : List Nat => q.map dN) k lk
theorem eL_add (lk : List (Rk × List Nat)) (k : Rk) (p : Nat) : aput (eL lk) (kR k) ((aget (eL lk) (kR k)).getD [] ++ [dN p]) = eL (XM.addTo lk k p) := by
  have e : (aget (eL lk) (kR k)).getD [] ++ [dN p] = ((aget lk k).getD [] ++ [p]).map dN := by
    rw [eL_get]
    cases aget lk k with
    | none => rfl
    | some q => exact (List.map_append (f := dN) (l₁ := q) (l₂ := [p])).symm
  rw [e]
  exact aput_map kR_inj (fun q : List Nat => q.map dN) k _ lk
theorem tr_addToN {i j : Nat} {m : Addr} {kvs : List (List Int × Addr × List D)} {lk : List (Rk × List Nat)} {k : Rk} {p : Nat} {tk : TE} {kt : Kt} (pre post : Fp) (eL' : L = pre ++ (m, true, O.dL kvs) :: post) (hd : ds[i]? = some (some (.ref m))) (hx : ds[j]? = some (some (dN p))) (es : strip kvs = eL lk)
    (hk : Ea K H0 M tk ds L fun y L2 => y = dR k ∧ L2 = L) (hz : lk.length < 100000) (hz2 : ∀ k xs, aget lk k = some xs → xs.length < 100000)
    (kn : ∀ kvs', strip kvs' = eL (XM.addTo lk k p) → kt.nx ds (pre ++ (m, true, O.dL kvs') :: post)) : Tr K H0 M (sAddTo K (tVar i) tk (tVar j)) ds L kt := by
  refine tr_addTo (k := kR k) eL' hd hx hk ?_ (fun xs hxs => ?_) fun kvs' e => kn kvs' ?_
  · have h := congrArg List.length es
    rw [List.length_map, List.length_map] at h
    omega
  · rw [es, eL_get] at hxs
    obtain ⟨q, h1, h2⟩ := Option.map_eq_some_iff.mp hxs
    rw [← h2, List.length_map]
    exact hz2 k q h1
  · rw [e, es, eL_add]
theorem addTo_len (d : List (Rk × List Nat)) (k : Rk) (p : Nat) : (XM.addTo d k p).length ≤ d.length + 1 := aput_len _ _ _
theorem addTo_get (d : List (Rk × List Nat)) (k j : Rk) (p : Nat) : aget (XM.addTo d k p) j = if k = j then some ((aget d k).getD [] ++ [p]) else aget d j := aget_aput _ _ _ _
theorem addTo_small {d : List (Rk × List Nat)} {n : Nat} (h : ∀ k xs, aget d k = some xs → xs.length ≤ n) (k : Rk) (p : Nat) : ∀ j xs, aget (XM.addTo d k p) j = some xs → xs.length ≤ n + 1 := fun j xs e => by
  rw [addTo_get] at e
  by_cases hk : k = j
  · rw [if_pos hk] at e
    rw [← Option.some.inj e]
    cases hg : aget d k with
    | none => show ([] ++ [p] : List Nat).length ≤ _; simp
    | some q =>
      have := h k q hg
      show (q ++ [p]).length ≤ _
      rw [List.length_append]
      exact Nat.succ_le_succ this
  · rw [if_neg hk] at e
    exact Nat.le_succ_of_le (h j xs e)
/-! ### racks compared -/
abbrev pR (r : Rk) : PyData := .tuple [.int (bi r.1), .int (r.2 : Nat)]
theorem exR : Ex pR 1 := (Ex.int.pair Ex.nat).map (fun r : Rk => (bi r.1, r.2)) fun x y h => by
  have h1 := congrArg Prod.fst h
  have h2 := congrArg Prod.snd h
  refine Prod.ext ?_ h2
  have h1 : bi x.1 = bi y.1 := h1
  cases e1 : x.1 <;> cases e2 : y.1 <;> rw [e1, e2] at h1 <;> simp [bi] at h1 <;> rfl
theorem dd_R (L : Fp) (r : Rk) : Dd L (dR r) (pR r) := .tup (.cons (.int _) (.cons (.int _) .nil))
theorem rb_eqR {x y : Rk} (k : P (.bl (decide (x = y))) L) : Rb K H0 M (rEqD K) (dR x) (dR y) L P := rb_eqD (dd_R L x) (dd_R L y) (exR.shaped (by decide) x) (exR.shaped (by decide) y) (by rw [exR.eq]; exact k)

theorem ea_tupR {ta : TA} (h : El K H0 M ta ds L fun xs L1 => ∃ r : Rk, xs = [.int (bi r.1), .int (r.2 : Nat)] ∧ P (dR r) L1) : Ea K H0 M (tTup ta) ds L P :=
  ea_tup (fun σ H Q a n => h σ H Q a fun xs L' vs H' ⟨r, e, p⟩ rr a' e' => n xs L' vs H' (by subst e; exact ⟨by show 2 ≤ 1000; decide, p⟩) rr a' e')
theorem ea_dget1O {td ty : TE} (h : Ea K H0 M td ds L fun x L1 => ∃ a y0 o0, x = .ref a ∧ Dg L1 a y0 o0 ∧ Ea K H0 M ty ds L1 fun y L2 => ∃ o : Option Nat, Dg L2 a y (o.map dN) ∧ P (dO o) L2) : Ea K H0 M (tDGet1 td ty) ds L P :=
  ea_dget1 (ea_to h fun x L1 ⟨a, y0, o0, e, g, h1⟩ => ⟨a, y0, o0, e, g, ea_to h1 fun y L2 ⟨o, g2, p⟩ => ⟨o.map dN, g2, by
    cases o with
    | none => exact p
    | some n => exact p⟩⟩)

theorem dg_T' {a : Addr} {w : Bool} {d : List (Rk × α)} {f : α → D} {k : Rk} (h : (a, w, O.dT (eT f d)) ∈ L) : Dg L a (dR k) ((aget d k).map f) := by
  induction L with
  | nil => cases h
  | cons q r ih =>
    rcases List.mem_cons.mp h with e | h
    · rw [← e]; exact dg_T
    · exact .tl (ih h)
theorem dg_rT' {a : Addr} {w : Bool} {d : List (Rk × α)} {f : α → D} {k : Rk} (h : (a, w, O.rT (eT f d)) ∈ L) : Dg L a (dR k) ((aget d k).map f) := by
  induction L with
  | nil => cases h
  | cons q r ih =>
    rcases List.mem_cons.mp h with e | h
    · rw [← e]; exact dg_rT
    · exact .tl (ih h)
theorem dg_fT' {a : Addr} {w : Bool} {d : List (Rk × α)} {f : α → D} {k : Rk} {od : Obj} {ws : List (List Key × V)} (h : (a, w, O.fT (eT f d) od ws) ∈ L) : Dg L a (dR k) ((aget d k).map f) := by
  induction L with
  | nil => cases h
  | cons q r ih =>
    rcases List.mem_cons.mp h with e | h
    · rw [← e]; exact dg_fT
    · exact .tl (ih h)

theorem hc_nil : ∀ q ∈ ([] : Fp), q.2.2.own = true := fun _ h => nomatch h
theorem hc_cons {q : Addr × Bool × O} {r : Fp} (h : ∀ q ∈ r, q.2.2.own = true) (e : q.2.2.own = true := by rfl) : ∀ p ∈ q :: r, p.2.2.own = true := fun p hp => by
  rcases List.mem_cons.mp hp with z | z
  · rw [z]; exact e
  · exact h p z

theorem strip_keys {kvs : List (List Int × Addr × List D)} {lk : List (Rk × List Nat)} (e : strip kvs = eL lk) : kvs.map (·.1) = (lk.map (·.1)).map kR := by
  have h := congrArg (List.map (·.1)) e
  rw [List.map_map, List.map_map] at h
  rw [List.map_map]
  exact h
theorem dk_L {a : Addr} {w : Bool} {kvs : List (List Int × Addr × List D)} {lk : List (Rk × List Nat)} (e : strip kvs = eL lk) (h : (a, w, O.dL kvs) ∈ L) : Dk L a ((lk.map (·.1)).map kR) := by
  rw [← strip_keys e]
  induction L with
  | nil => cases h
  | cons q r ih =>
    rcases List.mem_cons.mp h with z | h
    · rw [← z]; exact Dk.dL
    · exact .tl (ih h)
theorem up_sub {a : Addr} {o o' : O} {C C' : Fp} (h : C.Sublist L) (u : Up C a o o' C') : ∃ L', Up L a o o' L' ∧ C'.Sublist L' := by
  induction h generalizing C' with
  | slnil => cases u
  | cons q _ ih =>
    obtain ⟨L', h1, h2⟩ := ih u
    exact ⟨_, .tl h1, h2.cons _⟩
  | cons_cons q s ih =>
    cases u with
    | hd => exact ⟨_, .hd, s.cons_cons _⟩
    | tl u =>
      obtain ⟨L', h1, h2⟩ := ih u
      exact ⟨_, .tl h1, h2.cons_cons _⟩
/-- a table's keys are distinct -/
theorem tr_nd {a : Addr} {w : Bool} {d : List (Rk × α)} {f : α → D} {t : TS} {k : Kt} (hm : (a, w, O.dT (eT f d)) ∈ L) (h : (d.map (·.1)).Nodup → Tr K H0 M t ds L k) : Tr K H0 M t ds L k := fun σ H E A o => by
  obtain ⟨ws, _, _, h3⟩ := A.ow.ho _ hm
  have h4 : ((d.map (·.1)).map kR).Nodup := by
    rw [List.map_map] at h3 ⊢
    exact h3
  refine h ?_ σ H E A o
  generalize d.map (·.1) = l at h4
  induction l with
  | nil => exact List.nodup_nil
  | cons x l ih =>
    rw [List.map_cons, List.nodup_cons] at h4
    exact List.nodup_cons.mpr ⟨fun z => h4.1 (List.mem_map_of_mem z), ih h4.2⟩
theorem eT_at {f : α → D} {d : List (Rk × α)} {i : Nat} {p : List Int × D} (h : (eT f d)[i]? = some p) : ∃ k v, d[i]? = some (k, v) ∧ p = (kR k, f v) := by
  rw [List.getElem?_map] at h
  obtain ⟨q, h1, h2⟩ := Option.map_eq_some_iff.mp h
  exact ⟨q.1, q.2, h1, h2.symm⟩
theorem drop_at {l : List α} {i : Nat} {x : α} (h : l[i]? = some x) : l.drop i = x :: l.drop (i + 1) := by
  obtain ⟨h1, h2⟩ := List.getElem?_eq_some_iff.mp h
  rw [List.drop_eq_getElem_cons h1, h2]
end
end XR
-- KAbs10
set_option Elab.async false
set_option linter.all false
set_option maxRecDepth 100000
set_option maxHeartbeats 1000000
/-! loops over plain data -/
namespace XR
open PySem PySem.Spec PyProof.Rows L2
section
variable {K : PySem.W.Frag} {H0 H : Hp} {M : List Addr} {L L' : Fp} {ds : List (Option D)} {P : D → Fp → Prop} {α β : Type} {k : Kt}
theorem el_to {ta : TA} {P' Q' : List D → Fp → Prop} (h : El K H0 M ta ds L P') (q : ∀ xs L, P' xs L → Q' xs L) : El K H0 M ta ds L Q' := fun σ H Q a n => h σ H Q a fun xs L' vs H' p r a' e => n xs L' vs H' (q xs L' p) r a' e
theorem et_to {tt : TT} {P' Q' : Bool → Fp → Prop} (h : Et K H0 M tt ds L P') (q : ∀ b L, P' b L → Q' b L) : Et K H0 M tt ds L Q' := fun σ H Q a n => h σ H Q a fun b L' H' p a' e => n b L' H' (q b L' p) a' e
theorem ag_to {g : TG} {d : D} {P' Q' : List (Option D) → Fp → Prop} (h : Ag K H0 M g d ds L P') (q : ∀ ds L, P' ds L → Q' ds L) : Ag K H0 M g d ds L Q' := fun σ H v Q a r n => h σ H v Q a r fun ds' L' σ' H' p a' e => n ds' L' σ' H' (q ds' L' p) a' e
theorem up_last {p : Addr} {o o' : O} : ∀ L : Fp, Up (L ++ [(p, true, o)]) p o o' (L ++ [(p, true, o')])
  | [] => .hd
  | _ :: r => .tl (up_last r)
theorem ea_dget2N {td ty tx : TE} (f : α → D) (h : Ea K H0 M td ds L fun x L1 => ∃ a y0 o0, x = .ref a ∧ Dg L1 a y0 o0 ∧ Ea K H0 M ty ds L1 fun y L2 => Ea K H0 M tx ds L2 fun z L3 => ∃ (o : Option α) (z0 : α), z = f z0 ∧ Dg L3 a y (o.map f) ∧ P (f (o.getD z0)) L3) : Ea K H0 M (tDGet2 td ty tx) ds L P :=
  ea_dget2 (ea_to h fun x L1 ⟨a, y0, o0, e, g, h1⟩ => ⟨a, y0, o0, e, g, ea_to h1 fun y L2 h2 => ea_to h2 fun z L3 ⟨o, z0, e2, g2, p⟩ => ⟨o.map f, g2, by
    have e3 : (o.map f).getD z = f (o.getD z0) := by
      rw [e2]
      cases o <;> rfl
    rw [e3]
    exact p⟩⟩)
theorem step_at {l : List α} {f : α → D} {i : Nat} (h : i < l.length) : ∃ x, l[i]? = some x ∧ l.drop i = x :: l.drop (i + 1) ∧ (l.map f).getD i .non = f x := by
  refine ⟨l[i], List.getElem?_eq_getElem h, (List.drop_eq_getElem_cons h), ?_⟩
  rw [List.getD_eq_getElem?_getD, List.getElem?_map, List.getElem?_eq_getElem h]
  rfl
/-- for x in xs -/
theorem tr_forL {tl : TE} {g : TG} {tb : TS} (l : List α) (f : α → D) (I : Nat → List (Option D) → Fp → Prop) (h : Ea K H0 M tl ds L fun x L1 => ∃ a, x = .ref a ∧ At L1 a (l.map f) ∧ I 0 ds L1 ∧ (∀ i ds L, I i ds L → At L a (l.map f)) ∧
      (∀ i ds L x, l[i]? = some x → l.drop i = x :: l.drop (i + 1) → i < l.length → I i ds L → Ag K H0 M g (f x) ds L fun ds2 L2 => Tr K H0 M tb ds2 L2 ⟨I (i + 1), k.rt, k.nx, I (i + 1)⟩) ∧
      ∀ ds L, l.drop l.length = [] → I l.length ds L → k.nx ds L) : Tr K H0 M (tFor (iList K tl) g tb) ds L k :=
  tr_for (ai_list (ea_to h fun x L1 ⟨a, e, ha, i0, st, stp, fin⟩ => ⟨a, l.map f, e, ha, I, i0, fun i ds L _ hI => st i ds L hI, fun i ds L hi hI => by
    rw [List.length_map] at hi
    obtain ⟨x, h1, h2, h3⟩ := step_at (f := f) hi
    show Ag K H0 M g ((l.map f).getD i .non) ds L _
    rw [h3]
    exact stp i ds L x h1 h2 hi hI, fun ds L hI => by
    rw [List.length_map] at hI
    exact fin ds L List.drop_length hI⟩))
theorem tr_forLq {tl : TE} {g : TG} {tb : TS} (l : List α) (f : α → D) (h : Ea K H0 M tl ds L fun x L1 => ∃ (a : Addr) (I : Nat → List (Option D) → Fp → Prop), x = .ref a ∧ At L1 a (l.map f) ∧ I 0 ds L1 ∧ (∀ i ds L, I i ds L → At L a (l.map f)) ∧
      (∀ i ds L x, l[i]? = some x → l.drop i = x :: l.drop (i + 1) → i < l.length → I i ds L → Ag K H0 M g (f x) ds L fun ds2 L2 => Tr K H0 M tb ds2 L2 ⟨I (i + 1), k.rt, k.nx, I (i + 1)⟩) ∧
      ∀ ds L, l.drop l.length = [] → I l.length ds L → k.nx ds L) : Tr K H0 M (tFor (iList K tl) g tb) ds L k :=
  tr_for (ai_list (ea_to h fun x L1 ⟨a, I, e, ha, i0, st, stp, fin⟩ => ⟨a, l.map f, e, ha, I, i0, fun i ds L _ hI => st i ds L hI, fun i ds L hi hI => by
    rw [List.length_map] at hi
    obtain ⟨x, h1, h2, h3⟩ := step_at (f := f) hi
    show Ag K H0 M g ((l.map f).getD i .non) ds L _
    rw [h3]
    exact stp i ds L x h1 h2 hi hI, fun ds L hI => by
    rw [List.length_map] at hI
    exact fin ds L List.drop_length hI⟩))
/-- for i, x in enumerate(xs) -/
theorem tr_forE {tl : TA} {g : TG} {tb : TS} (l : List α) (f : α → D) (I : Nat → List (Option D) → Fp → Prop) (h : El K H0 M tl ds L fun xs L1 => ∃ a, xs = [.ref a] ∧ At L1 a (l.map f) ∧ I 0 ds L1 ∧ (∀ i ds L, I i ds L → At L a (l.map f)) ∧
      (∀ i ds L x, l[i]? = some x → l.drop i = x :: l.drop (i + 1) → i < l.length → I i ds L → Ag K H0 M g (.tup [.int (i : Nat), f x]) ds L fun ds2 L2 => Tr K H0 M tb ds2 L2 ⟨I (i + 1), k.rt, k.nx, I (i + 1)⟩) ∧
      ∀ ds L, l.drop l.length = [] → I l.length ds L → k.nx ds L) : Tr K H0 M (tFor (iEnum K tl) g tb) ds L k :=
  tr_for (ai_enum (el_to h fun x L1 ⟨a, e, ha, i0, st, stp, fin⟩ => ⟨a, l.map f, e, ha, I, i0, fun i ds L _ hI => st i ds L hI, fun i ds L hi hI => by
    rw [List.length_map] at hi
    obtain ⟨x, h1, h2, h3⟩ := step_at (f := f) hi
    show Ag K H0 M g (.tup [.int (i : Nat), (l.map f).getD i .non]) ds L _
    rw [h3]
    exact stp i ds L x h1 h2 hi hI, fun ds L hI => by
    rw [List.length_map] at hI
    exact fin ds L List.drop_length hI⟩))
/-- for i in range(n) -/
theorem tr_forR {tl : TA} {g : TG} {tb : TS} (I : Nat → List (Option D) → Fp → Prop) (h : El K H0 M tl ds L fun xs L1 => ∃ n : Nat, xs = [.int (n : Nat)] ∧ n < 100000 ∧ I 0 ds L1 ∧
      (∀ i ds L, i < n → I i ds L → Ag K H0 M g (.int (i : Nat)) ds L fun ds2 L2 => Tr K H0 M tb ds2 L2 ⟨I (i + 1), k.rt, k.nx, I (i + 1)⟩) ∧
      ∀ ds L, I n ds L → k.nx ds L) : Tr K H0 M (tFor (iRng1 tl) g tb) ds L k :=
  tr_for (ai_range1 (el_to h fun xs L1 ⟨n, e, hn, i0, stp, fin⟩ => ⟨(n : Int), e, by omega, I, i0, fun i ds L _ _ => trivial, fun i ds L hi hI => by
    show Ag K H0 M g (.int (0 + (i : Nat))) ds L _
    rw [Int.zero_add]
    exact stp i ds L (by omega) hI, fun ds L hI => by
    rw [Int.toNat_natCast] at hI
    exact fin ds L hI⟩))
/-- for x in (a, b) -/
theorem tr_for2 {tl : TE} {g : TG} {tb : TS} {x y : D} (h : Ea K H0 M tl ds L fun d L1 => d = .tup [x, y] ∧ Ag K H0 M g x ds L1 fun d2 L2 => Tr K H0 M tb d2 L2
      ⟨fun d3 L3 => Ag K H0 M g y d3 L3 fun d4 L4 => Tr K H0 M tb d4 L4 ⟨k.nx, k.rt, k.nx, k.nx⟩, k.rt, k.nx, fun d3 L3 => Ag K H0 M g y d3 L3 fun d4 L4 => Tr K H0 M tb d4 L4 ⟨k.nx, k.rt, k.nx, k.nx⟩⟩) : Tr K H0 M (tFor (iTup K tl) g tb) ds L k :=
  tr_for (ai_tup (ea_to h fun d L1 ⟨e, q⟩ => ⟨[x, y], e, fun i ds' L' => match i with
    | 0 => ds' = ds ∧ L' = L1
    | 1 => Ag K H0 M g y ds' L' fun d4 L4 => Tr K H0 M tb d4 L4 ⟨k.nx, k.rt, k.nx, k.nx⟩
    | _ => k.nx ds' L', ⟨rfl, rfl⟩, fun _ _ _ _ _ => trivial, fun i ds' L' hi hI => by
    match i, hi, hI with
    | 0, _, hI =>
      obtain ⟨rfl, rfl⟩ := hI
      exact q
    | 1, _, hI => exact hI
    | n + 2, hi, _ => exact absurd hi (by show ¬ n + 2 < 2; omega), fun ds' L' hI => hI⟩))
/-- for x in a list that stands at a, while the list is known as l -/
theorem ea_lcL {tl : TE} {g : TG} {tt : TT} {te : TE} {vs : List Nat} (l : List α) (f : α → D) (fo : β → D) (acc : Nat → List β) (hg : Gw g vs) (h : Ea K H0 M tl ds L fun x L1 => ∃ a, x = .ref a ∧ At L1 a (l.map f) ∧ acc 0 = [] ∧ l.length ≤ 10000 ∧ (∀ i, (acc i).length ≤ i) ∧
      (∀ p i x L, l[i]? = some x → (∃ w, L = L1 ++ [(p, w, .lst ((acc i).map fo))]) → Ag K H0 M g (f x) (wipeD ds vs) L fun ds2 L2 => L2 = L ∧ Et K H0 M tt ds2 L fun b L3 => L3 = L ∧ Cnd b (Ea K H0 M te ds2 L fun d L4 => L4 = L ∧ ∃ z, d = fo z ∧ acc (i + 1) = acc i ++ [z]) (acc (i + 1) = acc i)) ∧
      ∀ p, P (.ref p) (L1 ++ [(p, true, .lst ((acc l.length).map fo))])) : Ea K H0 M (tLc (iList K tl) g tt te vs) ds L P :=
  ea_lc hg (ai_list (ea_to h fun x L1 ⟨a, e, ha, a0, hz, hl, stp, fin⟩ => ⟨a, l.map f, e, ha, fun p => ⟨fun i L => L = L1 ++ [(p, true, .lst ((acc i).map fo))], by
    show L1 ++ [(p, true, .lst [])] = L1 ++ [(p, true, .lst ((acc 0).map fo))]
    rw [a0]
    rfl, fun i L _ hI => by rw [hI]; exact ha.app _, fun i L hi hI => by
    rw [List.length_map] at hi
    obtain ⟨x, h1, h2, h3⟩ := step_at (f := f) hi
    show Ag K H0 M g ((l.map f).getD i .non) _ L _
    rw [h3]
    refine ag_to (stp p i x L h1 ⟨true, hI⟩) fun ds2 L2 ⟨e2, q⟩ => ?_
    subst e2
    refine et_to q fun b L3 ⟨e3, c⟩ => ?_
    subst e3
    refine ⟨fun eb => ea_to (c.1 eb) fun d L4 ⟨e4, z, e5, e6⟩ => ?_, fun eb => by
      show L3 = L1 ++ [(p, true, .lst ((acc (i + 1)).map fo))]
      rw [c.2 eb]
      exact hI⟩
    subst e4 e5
    refine ⟨(acc i).map fo, L1 ++ [(p, true, .lst ((acc (i + 1)).map fo))], ?_, by rw [List.length_map]; have := hl i; omega, rfl⟩
    rw [hI, e6, List.map_append]
    exact up_last L1, fun L hI => by
    have hI2 : L = L1 ++ [(p, true, .lst ((acc (l.map f).length).map fo))] := hI
    rw [hI2, List.length_map]
    exact fin p⟩⟩))
theorem fm_step {l : List α} {F : α → Option β} {i : Nat} {x : α} (h : l[i]? = some x) : (l.take (i + 1)).filterMap F = (l.take i).filterMap F ++ (F x).toList := by
  rw [List.take_succ, h, List.filterMap_append]
  cases e : F x <;> simp [e]
theorem fm_len (l : List α) (F : α → Option β) (i : Nat) : ((l.take i).filterMap F).length ≤ i := by
  have h1 := List.length_filterMap_le F (l.take i)
  have h2 : (l.take i).length ≤ i := List.length_take_le i l
  omega
/-- [.. for x in xs if ..] -/
theorem ea_lcF {tl : TE} {g : TG} {tt : TT} {te : TE} {vs : List Nat} (l : List α) (f : α → D) (fo : β → D) (F : α → Option β) (hg : Gw g vs) (h : Ea K H0 M tl ds L fun x L1 => ∃ a, x = .ref a ∧ At L1 a (l.map f) ∧ l.length ≤ 10000 ∧
      (∀ (i : Nat) (x : α) (E : Fp), l[i]? = some x → Ag K H0 M g (f x) (wipeD ds vs) (L1 ++ E) fun ds2 L2 => L2 = L1 ++ E ∧ Et K H0 M tt ds2 (L1 ++ E) fun b L3 => L3 = L1 ++ E ∧ Cnd b (Ea K H0 M te ds2 (L1 ++ E) fun d L4 => L4 = L1 ++ E ∧ ∃ z, d = fo z ∧ F x = some z) (F x = none)) ∧
      ∀ p, P (.ref p) (L1 ++ [(p, true, .lst ((l.filterMap F).map fo))])) : Ea K H0 M (tLc (iList K tl) g tt te vs) ds L P :=
  ea_lcL l f fo (fun i => (l.take i).filterMap F) hg (ea_to h fun x L1 ⟨a, e, ha, hz, stp, fin⟩ => ⟨a, e, ha, rfl, hz, fm_len l F, fun p i x L hx hL => by
    obtain ⟨w, hL⟩ := hL
    subst hL
    refine ag_to (stp i x _ hx) fun ds2 L2 ⟨e2, q⟩ => ⟨e2, et_to q fun b L3 ⟨e3, c⟩ => ⟨e3, fun eb => ea_to (c.1 eb) fun d L4 ⟨e4, z, e5, e6⟩ => ⟨e4, z, e5, ?_⟩, fun eb => ?_⟩⟩
    · rw [fm_step hx, e6]
      rfl
    · rw [fm_step hx, c.2 eb]
      exact List.append_nil _, fun p => by
    rw [List.take_length]
    exact fin p⟩)
/-- the same over range(n) -/
theorem ea_lcR {tl : TA} {g : TG} {tt : TT} {te : TE} {vs : List Nat} (fo : β → D) (F : Nat → Option β) (hg : Gw g vs) (h : El K H0 M tl ds L fun xs L1 => ∃ n : Nat, xs = [.int (n : Nat)] ∧ n ≤ 10000 ∧
      (∀ (i : Nat) (E : Fp), i < n → Ag K H0 M g (.int (i : Nat)) (wipeD ds vs) (L1 ++ E) fun ds2 L2 => L2 = L1 ++ E ∧ Et K H0 M tt ds2 (L1 ++ E) fun b L3 => L3 = L1 ++ E ∧ Cnd b (Ea K H0 M te ds2 (L1 ++ E) fun d L4 => L4 = L1 ++ E ∧ ∃ z, d = fo z ∧ F i = some z) (F i = none)) ∧
      ∀ p, P (.ref p) (L1 ++ [(p, true, .lst (((List.range n).filterMap F).map fo))])) : Ea K H0 M (tLc (iRng1 tl) g tt te vs) ds L P :=
  ea_lc hg (ai_range1 (el_to h fun xs L1 ⟨n, e, hn, stp, fin⟩ => ⟨(n : Int), e, by omega, fun p => ⟨fun i L => L = L1 ++ [(p, true, .lst (((List.range i).filterMap F).map fo))], rfl, fun i L _ _ => trivial, fun i L hi hI => by
    have hI2 : L = L1 ++ [(p, true, .lst (((List.range i).filterMap F).map fo))] := hI
    clear hI
    subst hI2
    show Ag K H0 M g (.int (0 + (i : Nat))) _ _ _
    rw [Int.zero_add]
    refine ag_to (stp i _ (by omega)) fun ds2 L2 ⟨e2, q⟩ => ?_
    subst e2
    refine et_to q fun b L3 ⟨e3, c⟩ => ?_
    subst e3
    refine ⟨fun eb => ea_to (c.1 eb) fun d L4 ⟨e4, z, e5, e6⟩ => ?_, fun eb => ?_⟩
    · subst e4 e5
      refine ⟨((List.range i).filterMap F).map fo, L1 ++ [(p, true, .lst (((List.range (i + 1)).filterMap F).map fo))], ?_, ?_, rfl⟩
      · rw [List.range_succ, List.filterMap_append, show [i].filterMap F = [z] by simp [e6], List.map_append]
        exact up_last L1
      · rw [List.length_map]
        have := List.length_filterMap_le F (List.range i)
        rw [List.length_range] at this
        omega
    · show _ = L1 ++ [(p, true, .lst (((List.range (i + 1)).filterMap F).map fo))]
      rw [List.range_succ, List.filterMap_append, show [i].filterMap F = [] by simp [c.2 eb], List.append_nil], fun L hI => by
    have hI2 : L = L1 ++ [(p, true, .lst (((List.range (n : Int).toNat).filterMap F).map fo))] := hI
    rw [hI2, Int.toNat_natCast]
    exact fin p⟩⟩))

/-- for x in (a dict that was just made).values() -/
theorem ai_valsN {td : TE} {Pi : Nat → (Nat → D) → (Fp → Prop) → Fp → Prop} (h : Ea K H0 M td ds L fun x L1 => ∃ a kvs, x = .ref a ∧ ∀ od ws, ∃ L2, Up L1 a (.dK kvs) (.fK kvs od ws) L2 ∧ Pi kvs.length (fun i => ((kvs[i]?).map (·.2)).getD .non) (fun L => (a, true, O.fK kvs od ws) ∈ L) L2) : Ai K H0 M (iVals (tFrz td)) ds L Pi := fun σ H R A n =>
  h σ H _ A fun x L1 v H1 ⟨a, kvs, ex, q⟩ r1 a1 e1 => by
    subst ex
    obtain ⟨_, u0, _⟩ := q default []
    obtain ⟨ws, h1, h2, h3⟩ := a1.ow.ho _ u0.mem
    refine ⟨a, .dK ws, r1, h1, trivial, fun od => ?_⟩
    obtain ⟨L2, hU, hp⟩ := q od ws
    obtain ⟨A1, tx1⟩ := a1.put (u := .frz od (.dK ws)) hU rfl rfl rfl fun tx => ⟨upd_same, Kr.tx tx h2, h3⟩
    refine ⟨a, od, ws, r1, upd_same, n _ _ _ _ _ L2 hp ?_ A1 (e1.trans tx1)⟩
    have hl : ws.length = kvs.length := (Paired.length h2).symm
    refine ⟨fun i ds L σ H hi hs A _ => ?_, fun ds L σ H hs A _ => ?_, fun i ds L σ H x H' hi hs A _ y => ?_⟩
    · obtain ⟨g1, _⟩ := A.ow.ho _ hs
      exact ⟨g1, by omega⟩
    · obtain ⟨g1, _⟩ := A.ow.ho _ hs
      exact ⟨g1, by omega⟩
    · obtain ⟨g1, g2, g3⟩ := A.ow.ho _ hs
      obtain ⟨e, kk, e1⟩ := y
      subst e
      obtain ⟨p, ep, _, rp⟩ := kr_atV g2 e1
      refine ⟨?_, A, Tx.refl _⟩
      show Rp H' (((kvs[i]?).map (·.2)).getD .non) x
      rw [ep]
      exact rp

theorem rc_maxN {m n : Nat} (q : P (.int ((max m n : Nat) : Int)) L) : Rc K H0 M rMax2 [.int (m : Nat), .int (n : Nat)] L P := rc_max2 (by
  have e : (if (n : Int) > (m : Int) then (n : Int) else (m : Int)) = ((max m n : Nat) : Int) := by
    split <;> omega
  rw [e]
  exact q)
theorem rc_minN {m n : Nat} (q : P (.int ((min m n : Nat) : Int)) L) : Rc K H0 M rMin2 [.int (m : Nat), .int (n : Nat)] L P := rc_min2 (by
  have e : (if (n : Int) < (m : Int) then (n : Int) else (m : Int)) = ((min m n : Nat) : Int) := by
    split <;> omega
  rw [e]
  exact q)
theorem eK_at {f : α → D} {l : List (Nat × α)} {i : Nat} {p : Nat × α} (h : l[i]? = some p) : (((eK f l)[i]?).map (·.2)).getD .non = f p.2 := by
  rw [List.getElem?_map, h]
  rfl

theorem ea_dpop1N {td ty : TE} (f : α → D) (h : Ea K H0 M td ds L fun x L1 => ∃ a y0 o0, x = .ref a ∧ Dg L1 a y0 o0 ∧ Ea K H0 M ty ds L1 fun y L2 => ∃ (i : Nat) (al : List (Nat × α)) (v : α) (L3 : Fp), y = dN i ∧ aget al i = some v ∧ Up L2 a (.dK (eK f al)) (.dK (eK f (adrop al i))) L3 ∧ P (f v) L3) : Ea K H0 M (tDPop1 td ty) ds L P :=
  ea_dpop1 (ea_to h fun x L1 ⟨a, y0, o0, e, g, h1⟩ => ⟨a, y0, o0, e, g, ea_to h1 fun y L2 ⟨i, al, v, L3, e2, hg, hu, p⟩ => ⟨(i : Int), eK f al, f v, L3, e2, by rw [eK_get, hg]; rfl, by rw [eK_drop]; exact hu, p⟩⟩)
theorem ea_dpopTN {td ty : TE} (f : α → D) (h : Ea K H0 M td ds L fun x L1 => ∃ a kvs w, x = .ref a ∧ (a, w, O.dT kvs) ∈ L1 ∧ Ea K H0 M ty ds L1 fun y L2 => ∃ (i : Rk) (al : List (Rk × α)) (v : α) (L3 : Fp), y = dR i ∧ aget al i = some v ∧ Up L2 a (.dT (eT f al)) (.dT (eT f (adrop al i))) L3 ∧ P (f v) L3) : Ea K H0 M (tDPopT K td ty) ds L P :=
  ea_dpopT (ea_to h fun x L1 ⟨a, kvs, w, e, g, h1⟩ => ⟨a, kvs, w, e, g, ea_to h1 fun y L2 ⟨i, al, v, L3, e2, hg, hu, p⟩ => ⟨kR i, f v, eT f al, L3, e2, by rw [eT_get, hg]; rfl, by rw [eT_drop]; exact hu, p⟩⟩)

theorem mem_cast (i : Nat) (ns : List Nat) : decide ((i : Int) ∈ ns.map fun n : Nat => (n : Int)) = decide (i ∈ ns) := decide_eq_decide.mpr ⟨fun h => by
  obtain ⟨n, h1, h2⟩ := List.mem_map.mp h
  have : n = i := by omega
  rw [← this]; exact h1, fun h => List.mem_map.mpr ⟨i, h, rfl⟩⟩
theorem rb_ninN {a : Addr} {i : Nat} {ns : List Nat} (h : At L a (ns.map dN)) (q : P (.bl (!decide (i ∈ ns))) L) : Rb K H0 M (rIn K true) (.int (i : Nat)) (.ref a) L P := rb_ninI (by rw [← map_dN]; exact h) (by rw [mem_cast]; exact q)
theorem rb_inN {a : Addr} {i : Nat} {ns : List Nat} (h : At L a (ns.map dN)) (q : P (.bl (decide (i ∈ ns))) L) : Rb K H0 M (rIn K false) (.int (i : Nat)) (.ref a) L P := rb_inI (by rw [← map_dN]; exact h) (by rw [mem_cast]; exact q)
theorem rb_modN {m n : Nat} (h : 0 < n) (q : P (.int ((m % n : Nat) : Int)) L) : Rb K H0 M rModI (.int (m : Nat)) (.int (n : Nat)) L P := rb_mod (by omega) (by rw [← Int.natCast_emod]; exact q)
theorem rb_divN {m n : Nat} (h : 0 < n) (h2 : n < 1000000) (q : P (.int ((m / n : Nat) : Int)) L) : Rb K H0 M rDivI (.int (m : Nat)) (.int (n : Nat)) L P := rb_div (by omega) (by omega) (by rw [← Int.natCast_ediv]; exact q)
theorem rb_mulS {s : Bool} {n : Nat} (q : P (.int ((if s then n else 0 : Nat) : Int)) L) : Rb K H0 M rMulI (.int (bi s)) (.int (n : Nat)) L P := rb_mul (.inl (by cases s <;> constructor <;> decide)) (by
  have e : bi s * (n : Int) = ((if s then n else 0 : Nat) : Int) := by cases s <;> simp [bi]
  rw [e]
  exact q)
/-- [.. for x, y in zip(xs, ys) if ..] -/
theorem ea_lcZ {γ : Type} {tl : TA} {g : TG} {tt : TT} {te : TE} {vs : List Nat} (l : List α) (l' : List β) (f : α → D) (f' : β → D) (fo : γ → D) (F : α × β → Option γ) (hg : Gw g vs) (h : El K H0 M tl ds L fun xs L1 => ∃ a b, xs = [.ref a, .ref b] ∧ At L1 a (l.map f) ∧ At L1 b (l'.map f') ∧ l.length ≤ 10000 ∧
      (∀ (i : Nat) (x : α) (y : β) (E : Fp), l[i]? = some x → l'[i]? = some y → Ag K H0 M g (.tup [f x, f' y]) (wipeD ds vs) (L1 ++ E) fun ds2 L2 => L2 = L1 ++ E ∧ Et K H0 M tt ds2 (L1 ++ E) fun b L3 => L3 = L1 ++ E ∧ Cnd b (Ea K H0 M te ds2 (L1 ++ E) fun d L4 => L4 = L1 ++ E ∧ ∃ z, d = fo z ∧ F (x, y) = some z) (F (x, y) = none)) ∧
      ∀ p, P (.ref p) (L1 ++ [(p, true, .lst (((l.zip l').filterMap F).map fo))])) : Ea K H0 M (tLc (iZip K tl) g tt te vs) ds L P :=
  ea_lc hg (ai_zip (el_to h fun xs L1 ⟨a, b, e, ha, hb, hz, stp, fin⟩ => ⟨a, b, l.map f, l'.map f', e, ha, hb, fun p => ⟨fun i L => L = L1 ++ [(p, true, .lst ((((l.zip l').take i).filterMap F).map fo))], rfl, fun i L _ hI => by
    have hI2 : L = L1 ++ [(p, true, .lst ((((l.zip l').take i).filterMap F).map fo))] := hI
    rw [hI2]
    exact ⟨ha.app _, hb.app _⟩, fun i L hi hI => by
    have hI2 : L = L1 ++ [(p, true, .lst ((((l.zip l').take i).filterMap F).map fo))] := hI
    clear hI
    subst hI2
    rw [List.length_map, List.length_map] at hi
    obtain ⟨x, h1, h2, h3⟩ := step_at (f := f) (show i < l.length by omega)
    obtain ⟨y, h4, h5, h6⟩ := step_at (f := f') (show i < l'.length by omega)
    show Ag K H0 M g (.tup [(l.map f).getD i .non, (l'.map f').getD i .non]) _ _ _
    rw [h3, h6]
    have hzp : (l.zip l')[i]? = some (x, y) := by
      rw [List.getElem?_zip_eq_some]
      exact ⟨h1, h4⟩
    refine ag_to (stp i x y _ h1 h4) fun ds2 L2 ⟨e2, q⟩ => ?_
    subst e2
    refine et_to q fun b L3 ⟨e3, c⟩ => ?_
    subst e3
    refine ⟨fun eb => ea_to (c.1 eb) fun d L4 ⟨e4, z, e5, e6⟩ => ?_, fun eb => ?_⟩
    · subst e4 e5
      refine ⟨(((l.zip l').take i).filterMap F).map fo, L1 ++ [(p, true, .lst ((((l.zip l').take (i + 1)).filterMap F).map fo))], ?_, ?_, rfl⟩
      · rw [fm_step hzp, e6, List.map_append]
        exact up_last L1
      · rw [List.length_map]
        have := fm_len (l.zip l') F i
        omega
    · show _ = L1 ++ [(p, true, .lst ((((l.zip l').take (i + 1)).filterMap F).map fo))]
      rw [fm_step hzp, c.2 eb]
      show _ = L1 ++ [(p, true, .lst ((_ ++ []).map fo))]
      rw [List.append_nil], fun L hI => by
    have hI2 : L = L1 ++ [(p, true, .lst ((((l.zip l').take (min (l.map f).length (l'.map f').length)).filterMap F).map fo))] := hI
    rw [hI2, List.length_map, List.length_map, ← List.length_zip, List.take_length]
    exact fin p⟩⟩))
end
end XR
-- KDer1
set_option Elab.async false
set_option linter.all false
set_option maxRecDepth 100000
set_option maxHeartbeats 4000000
namespace XR
open PySem PySem.Spec PyProof.Rows L2
section
variable {P : Program} {w : World} {K : PySem.W.Frag} {mg : Str → Option Value} {base : Heap}
/-! ### place_in -/
def names_place_in : List Str := ["hall", "caller"]
def t_place_in (K : PySem.W.Frag) : TS :=
  (tRet (tCB rDivmod (tCons (tVar 1) (tCons (tOp (rIxT K) (tVar 0) (tC (.int 1))) tNil))))
theorem sc_place_in : FnScope names_place_in ["hall", "caller"] (defScope s_place_in) := ⟨rfl, rfl, rfl, by decide +kernel, rfl, by decide +kernel, by decide +kernel⟩
theorem ok_place_in {sp : Sp} {lv : Nat} (T : Tp K mg) (len : ∀ vs H Q E, sp vs H Q E → vs.length = 2)
    (pure : ∀ vs H Q E, sp vs H Q E → t_place_in K { nx := fun _ H' => Q .non H', rt := Q } (L2.start names_place_in vs) H) : Cal P w K mg base CX0 (lv + 1) "place_in" ["hall", "caller"] [] sp := by
  obtain ⟨fd, F⟩ := T.def_ 0 (d := d_place_in) rfl
  refine ⟨_, fd, [], T.glo 0 rfl, F.kp, FunD.ok (k := lv) F sc_place_in len fun cdv A outer s H vs Q E hr h => ⟨_, PSs.nox ?_, pure vs H Q E h⟩, F.bindsN (fun _ _ _ _ _ _ us hl => match us, hl with | [_, _], _ => rfl), .nil⟩
  exact (pss_one (ps_ret (pe_callB cr_divmod (by rfl) (T.free 53 rfl) (by decide +kernel) (pa_cons (pv 1) (pa_cons (pe_ix ix_tup (pv 0) pe_int (fun _ _ => rfl)) pa_nil)))))
/-! ### place_out -/
def names_place_out : List Str := ["hall", "end"]
def t_place_out (K : PySem.W.Frag) : TS :=
  (tRet (tCB rDivmod (tCons (tVar 1) (tCons (tOp (rIxT K) (tVar 0) (tC (.int 4))) tNil))))
theorem sc_place_out : FnScope names_place_out ["hall", "end"] (defScope s_place_out) := ⟨rfl, rfl, rfl, by decide +kernel, rfl, by decide +kernel, by decide +kernel⟩
theorem ok_place_out {sp : Sp} {lv : Nat} (T : Tp K mg) (len : ∀ vs H Q E, sp vs H Q E → vs.length = 2)
    (pure : ∀ vs H Q E, sp vs H Q E → t_place_out K { nx := fun _ H' => Q .non H', rt := Q } (L2.start names_place_out vs) H) : Cal P w K mg base CX0 (lv + 1) "place_out" ["hall", "end"] [] sp := by
  obtain ⟨fd, F⟩ := T.def_ 1 (d := d_place_out) rfl
  refine ⟨_, fd, [], T.glo 1 rfl, F.kp, FunD.ok (k := lv) F sc_place_out len fun cdv A outer s H vs Q E hr h => ⟨_, PSs.nox ?_, pure vs H Q E h⟩, F.bindsN (fun _ _ _ _ _ _ us hl => match us, hl with | [_, _], _ => rfl), .nil⟩
  exact (pss_one (ps_ret (pe_callB cr_divmod (by rfl) (T.free 53 rfl) (by decide +kernel) (pa_cons (pv 1) (pa_cons (pe_ix ix_tup (pv 0) pe_int (fun _ _ => rfl)) pa_nil)))))
/-! ### is_place -/
def names_is_place : List Str := ["thing", "many"]
def t_is_place (K : PySem.W.Frag) : TS :=
  (tRet (tAndV (tCB (rIsi K) (tCons (tVar 0) (tCons (tC (.ty "int")) tNil))) (tAndV (tNotV (tCB (rIsi K) (tCons (tVar 0) (tCons (tC (.ty "bool")) tNil)))) (tChain rLeI rLtI (tC (.int 0)) (tVar 0) (tVar 1)))))
theorem sc_is_place : FnScope names_is_place ["thing", "many"] (defScope s_is_place) := ⟨rfl, rfl, rfl, by decide +kernel, rfl, by decide +kernel, by decide +kernel⟩
theorem ok_is_place {sp : Sp} {lv : Nat} (T : Tp K mg) (len : ∀ vs H Q E, sp vs H Q E → vs.length = 2)
    (pure : ∀ vs H Q E, sp vs H Q E → t_is_place K { nx := fun _ H' => Q .non H', rt := Q } (L2.start names_is_place vs) H) : Cal P w K mg base CX0 (lv + 1) "is_place" ["thing", "many"] [] sp := by
  obtain ⟨fd, F⟩ := T.def_ 2 (d := d_is_place) rfl
  refine ⟨_, fd, [], T.glo 2 rfl, F.kp, FunD.ok (k := lv) F sc_is_place len fun cdv A outer s H vs Q E hr h => ⟨_, PSs.nox ?_, pure vs H Q E h⟩, F.bindsN (fun _ _ _ _ _ _ us hl => match us, hl with | [_, _], _ => rfl), .nil⟩
  exact (pss_one (ps_ret (pe_and (pe_callB call_isi (by rfl) (T.free 46 rfl) (by decide +kernel) (pa_cons (pv 0) (pa_cons (pe_bltn (v := .ty "int") (by rfl) (T.free 47 rfl) (by decide +kernel) rfl) pa_nil))) (pe_and (pe_not (pe_callB call_isi (by rfl) (T.free 46 rfl) (by decide +kernel) (pa_cons (pv 0) (pa_cons (pe_bltn (v := .ty "bool") (by rfl) (T.free 48 rfl) (by decide +kernel) rfl) pa_nil)))) (pe_one (pe_chain op_le op_lt pe_int (pv 0) (pv 1)))))))
/-! ### is_caller -/
def names_is_caller : List Str := ["hall", "thing"]
def t_is_caller (K : PySem.W.Frag) (sp_is_place : Sp) : TS :=
  (tRet (tCall sp_is_place [] E0 (tCons (tVar 1) (tCons (tOp rMulI (tOp (rIxT K) (tVar 0) (tC (.int 0))) (tOp (rIxT K) (tVar 0) (tC (.int 1)))) tNil))))
theorem sc_is_caller : FnScope names_is_caller ["hall", "thing"] (defScope s_is_caller) := ⟨rfl, rfl, rfl, by decide +kernel, rfl, by decide +kernel, by decide +kernel⟩
theorem ok_is_caller {sp sp_is_place : Sp} {lv : Nat} (T : Tp K mg) (c0 : Cal P w K mg base CX0 lv "is_place" ["thing", "many"] [] sp_is_place) (len : ∀ vs H Q E, sp vs H Q E → vs.length = 2)
    (pure : ∀ vs H Q E, sp vs H Q E → t_is_caller K sp_is_place { nx := fun _ H' => Q .non H', rt := Q } (L2.start names_is_caller vs) H) : Cal P w K mg base CX0 (lv + 1) "is_caller" ["hall", "thing"] [] sp := by
  obtain ⟨fd, F⟩ := T.def_ 3 (d := d_is_caller) rfl
  refine ⟨_, fd, [], T.glo 3 rfl, F.kp, FunD.ok (k := lv) F sc_is_caller len fun cdv A outer s H vs Q E hr h => ⟨_, PSs.nox ?_, pure vs H Q E h⟩, F.bindsN (fun _ _ _ _ _ _ us hl => match us, hl with | [_, _], _ => rfl), .nil⟩
  obtain ⟨f0, fd0, ds0, m0, kp0, G0, b0, v0⟩ := c0
  exact (pss_one (ps_ret (pe_call G0 hr (by rfl) m0 kp0 b0 v0 pass0 (pa_cons (pv 1) (pa_cons (pe_op op_mul (pe_ix ix_tup (pv 0) pe_int (fun _ _ => rfl)) (pe_ix ix_tup (pv 0) pe_int (fun _ _ => rfl))) pa_nil)))))
/-! ### is_ends -/
def names_is_ends : List Str := ["hall", "thing", "end"]
def t_is_ends (K : PySem.W.Frag) (sp_is_place : Sp) : TS :=
  (tSeq (tIfS (tOr (tNot (tB (tCB (rIsiT K) (tCons (tVar 1) (tCons (tTup (tCons (tC (.ty "list")) (tCons (tC (.ty "tuple")) tNil))) tNil))))) (tTest (tOp rEq (tCB (rLenQ K) (tCons (tVar 1) tNil)) (tC (.int 0))))) (tRet (tC (.bl false))) tNext)
    (tSeq (tFor (iList K (tVar 1)) (gName 2) (tIfS (tNot (tB (tCall sp_is_place [] E0 (tCons (tVar 2) (tCons (tOp rMulI (tOp (rIxT K) (tVar 0) (tC (.int 3))) (tOp (rIxT K) (tVar 0) (tC (.int 4)))) tNil))))) (tRet (tC (.bl false))) tNext))
    (tRet (tOp rEq (RZ.tLenSetI K (tVar 1)) (tCB (rLenQ K) (tCons (tVar 1) tNil))))))
theorem sc_is_ends : FnScope names_is_ends ["hall", "thing"] (defScope s_is_ends) := ⟨rfl, rfl, rfl, by decide +kernel, rfl, by decide +kernel, by decide +kernel⟩
theorem ok_is_ends {sp sp_is_place : Sp} {lv : Nat} (T : Tp K mg) (c0 : Cal P w K mg base CX0 lv "is_place" ["thing", "many"] [] sp_is_place) (len : ∀ vs H Q E, sp vs H Q E → vs.length = 2)
    (pure : ∀ vs H Q E, sp vs H Q E → t_is_ends K sp_is_place { nx := fun _ H' => Q .non H', rt := Q } (L2.start names_is_ends vs) H) : Cal P w K mg base CX0 (lv + 1) "is_ends" ["hall", "thing"] [] sp := by
  obtain ⟨fd, F⟩ := T.def_ 4 (d := d_is_ends) rfl
  refine ⟨_, fd, [], T.glo 4 rfl, F.kp, FunD.ok (k := lv) F sc_is_ends len fun cdv A outer s H vs Q E hr h => ⟨_, PSs.nox ?_, pure vs H Q E h⟩, F.bindsN (fun _ _ _ _ _ _ us hl => match us, hl with | [_, _], _ => rfl), .nil⟩
  obtain ⟨f0, fd0, ds0, m0, kp0, G0, b0, v0⟩ := c0
  exact (pss_cons (ps_if (PW.pt (pw_or (pt_not (pt_val (pe_callB call_isiT (by rfl) (T.free 46 rfl) (by decide +kernel) (pa_cons (pv 1) (pa_cons (pe_tup (pa_cons (pe_bltn (v := .ty "list") (by rfl) (T.free 49 rfl) (by decide +kernel) rfl) (pa_cons (pe_bltn (v := .ty "tuple") (by rfl) (T.free 50 rfl) (by decide +kernel) rfl) pa_nil))) pa_nil))))) (pw_or1 (pt_cmpR op_eq (pe_callB cr_lenQ (by rfl) (T.free 51 rfl) (by decide +kernel) (pa_cons (pv 1) pa_nil)) pe_int (nomark _))))) (pss_one (ps_ret pe_bl)) pss_nil)
    (pss_cons (ps_for PassesOwn.never rfl (pi_list (pv 1)) (pg_name (i := 2) sc_is_ends.nd rfl (by first | exact Or.inl rfl | exact Or.inr rfl)) (pss_one (ps_if (pt_not (pt_val (pe_call G0 hr (by rfl) m0 kp0 b0 v0 pass0 (pa_cons (pv 2) (pa_cons (pe_op op_mul (pe_ix ix_tup (pv 0) pe_int (fun _ _ => rfl)) (pe_ix ix_tup (pv 0) pe_int (fun _ _ => rfl))) pa_nil))))) (pss_one (ps_ret pe_bl)) pss_nil)))
    (pss_one (ps_ret (pe_cmpR op_eq (RZ.pe_lenSetI (by rfl) (T.free 51 rfl) (by rfl) (T.free 52 rfl) (pv 1)) (pe_callB cr_lenQ (by rfl) (T.free 51 rfl) (by decide +kernel) (pa_cons (pv 1) pa_nil)) (nomark _))))))
/-! ### partners -/
def names_partners : List Str := ["pairs", "side", "found", "alone", "place", "pair", "rack", "other"]
def t_partners (K : PySem.W.Frag) : TS :=
  (tSeq (tAsg (tOp rRep (tLst (tCons (tC .non) tNil)) (tCB (rLenQ K) (tCons (tVar 0) tNil))) (gName 2))
    (tSeq (tAsg tDNewK (gName 3))
    (tSeq (tFor (iEnum K (tCons (tVar 0) tNil)) (gTup K 2 (gCons (gName 4) (gCons (gName 5) gNil))) (tSeq (tAsg (tOp (rIxT K) (tVar 5) (tVar 1)) (gName 6))
    (tIfS (tB (tDIn (tVar 6) (tVar 3))) (tSeq (tAsg (tDPop1 (tVar 3) (tVar 6)) (gName 7))
    (tSeq (tAsg (tVar 7) (gSub (tVar 2) (tVar 4) rSetL))
    (tAsg (tVar 4) (gSub (tVar 2) (tVar 7) rSetL)))) (sDPut (tVar 3) (tVar 6) (tVar 4)))))
    (tRet (tVar 2)))))
theorem sc_partners : FnScope names_partners ["pairs", "side"] (defScope s_partners) := ⟨rfl, rfl, rfl, by decide +kernel, rfl, by decide +kernel, by decide +kernel⟩
theorem ok_partners {sp : Sp} {lv : Nat} (T : Tp K mg) (len : ∀ vs H Q E, sp vs H Q E → vs.length = 2)
    (pure : ∀ vs H Q E, sp vs H Q E → t_partners K { nx := fun _ H' => Q .non H', rt := Q } (L2.start names_partners vs) H) : Cal P w K mg base CX0 (lv + 1) "partners" ["pairs", "side"] [] sp := by
  obtain ⟨fd, F⟩ := T.def_ 5 (d := d_partners) rfl
  refine ⟨_, fd, [], T.glo 5 rfl, F.kp, FunD.ok (k := lv) F sc_partners len fun cdv A outer s H vs Q E hr h => ⟨_, PSs.nox ?_, pure vs H Q E h⟩, F.bindsN (fun _ _ _ _ _ _ us hl => match us, hl with | [_, _], _ => rfl), .nil⟩
  have hu := hu_of hr
  exact (pss_cons (ps_set (i := 2) sc_partners.nd rfl (by first | exact Or.inl rfl | exact Or.inr rfl) (pe_op op_rep (pe_lst (pa_cons pe_non pa_nil)) (pe_callB cr_lenQ (by rfl) (T.free 51 rfl) (by decide +kernel) (pa_cons (pv 0) pa_nil))))
    (pss_cons (ps_set (i := 3) sc_partners.nd rfl (by first | exact Or.inl rfl | exact Or.inr rfl) pe_dnewK)
    (pss_cons (ps_for PassesOwn.never rfl (pi_enum (by rfl) (T.free 55 rfl) (pa_cons (pv 0) pa_nil)) (pg_tup rfl (pgs_cons (pg_name (i := 4) sc_partners.nd rfl (by first | exact Or.inl rfl | exact Or.inr rfl)) (pgs_cons (pg_name (i := 5) sc_partners.nd rfl (by first | exact Or.inl rfl | exact Or.inr rfl)) pgs_nil))) (pss_cons (ps_set (i := 6) sc_partners.nd rfl (by first | exact Or.inl rfl | exact Or.inr rfl) (pe_ix ix_tup (pv 5) (pv 1) (fun _ _ => rfl)))
    (pss_one (ps_if (pt_cmp (pc_din hu (pv 6) (pv 3))) (pss_cons (ps_set (i := 7) sc_partners.nd rfl (by first | exact Or.inl rfl | exact Or.inr rfl) (pe_dpop1 (pv 3) (pv 6) ⟨rfl, rfl, rfl, rfl⟩))
    (pss_cons (ps_asg (pv 7) (pg_sub (pv 2) (pv 4) set_list))
    (pss_one (ps_asg (pv 4) (pg_sub (pv 2) (pv 7) set_list))))) (pss_one (ps_dput hu (pv 3) (pv 6) (pv 4) rfl))))))
    (pss_one (ps_ret (pv 2))))))
/-! ### give_signs -/
def names_give_signs : List Str := ["signs", "first", "near", "far", "todo", "place", "sign", "other"]
def t_give_signs (K : PySem.W.Frag) : TS :=
  (tSeq (tAsg (tLst (tCons (tTup (tCons (tVar 1) (tCons (tC (.int 0)) tNil))) tNil)) (gName 4))
    (tWhile (tTest (tOp (rNeD K) (tVar 4) (tLst tNil))) (tSeq (tAsg (tBM0 K "list" rPop (tVar 4)) (gTup K 2 (gCons (gName 5) (gCons (gName 6) gNil))))
    (tIfS (tTest (tOp rIsN (tOp (rIxL K) (tVar 0) (tVar 5)) (tC .non))) (tSeq (tAsg (tVar 6) (gSub (tVar 0) (tVar 5) rSetL))
    (tFor (iTup K (tTup (tCons (tOp (rIxL K) (tVar 2) (tVar 5)) (tCons (tOp (rIxL K) (tVar 3) (tVar 5)) tNil)))) (gName 7) (tIfS (tTest (tOp rNotN (tVar 7) (tC .non))) (tDrop (tBM K "list" rAppend (tVar 4) (tCons (tTup (tCons (tVar 7) (tCons (tOp rSubI (tC (.int 1)) (tVar 6)) tNil))) tNil))) tNext))) tNext))))
theorem sc_give_signs : FnScope names_give_signs ["signs", "first", "near", "far"] (defScope s_give_signs) := ⟨rfl, rfl, rfl, by decide +kernel, rfl, by decide +kernel, by decide +kernel⟩
theorem ok_give_signs {sp : Sp} {lv : Nat} (T : Tp K mg) (len : ∀ vs H Q E, sp vs H Q E → vs.length = 4)
    (pure : ∀ vs H Q E, sp vs H Q E → t_give_signs K { nx := fun _ H' => Q .non H', rt := Q } (L2.start names_give_signs vs) H) : Cal P w K mg base CX0 (lv + 1) "give_signs" ["signs", "first", "near", "far"] [] sp := by
  obtain ⟨fd, F⟩ := T.def_ 6 (d := d_give_signs) rfl
  refine ⟨_, fd, [], T.glo 6 rfl, F.kp, FunD.ok (k := lv) F sc_give_signs len fun cdv A outer s H vs Q E hr h => ⟨_, PSs.nox ?_, pure vs H Q E h⟩, F.bindsN (fun _ _ _ _ _ _ us hl => match us, hl with | [_, _, _, _], _ => rfl), .nil⟩
  have hu64 := hr.units
  exact (pss_cons (ps_set (i := 4) sc_give_signs.nd rfl (by first | exact Or.inl rfl | exact Or.inr rfl) (pe_lst (pa_cons (pe_tup (pa_cons (pv 1) (pa_cons pe_int pa_nil))) pa_nil)))
    (pss_one (ps_while PassesOwn.never (pt_cmpR (op_neD hu64) (pv 4) (pe_lst pa_nil) (nomark _)) (pss_cons (ps_asg (pe_bm0 PySem.F.plainAttrs_list PySem.F.slot_list_pop PySem.F.type_list_pop mt_pop (pv 4)) (pg_tup rfl (pgs_cons (pg_name (i := 5) sc_give_signs.nd rfl (by first | exact Or.inl rfl | exact Or.inr rfl)) (pgs_cons (pg_name (i := 6) sc_give_signs.nd rfl (by first | exact Or.inl rfl | exact Or.inr rfl)) pgs_nil))))
    (pss_one (ps_if (pt_cmpR op_isN (pe_ix ix_list (pv 0) (pv 5) (fun _ _ => rfl)) pe_non (nomark _)) (pss_cons (ps_asg (pv 6) (pg_sub (pv 0) (pv 5) set_list))
    (pss_one (ps_for PassesOwn.never rfl (pi_tup (pe_tup (pa_cons (pe_ix ix_list (pv 2) (pv 5) (fun _ _ => rfl)) (pa_cons (pe_ix ix_list (pv 3) (pv 5) (fun _ _ => rfl)) pa_nil)))) (pg_name (i := 7) sc_give_signs.nd rfl (by first | exact Or.inl rfl | exact Or.inr rfl)) (pss_one (ps_if (pt_cmpR op_notN (pv 7) pe_non (nomark _)) (pss_one (ps_expr (pe_bm PySem.F.plainAttrs_list PySem.F.slot_list_append PySem.F.type_list_append mt_append (pv 4) (pa_cons (pe_tup (pa_cons (pv 7) (pa_cons (pe_op op_sub pe_int (pv 6)) pa_nil))) pa_nil)))) pss_nil))))) pss_nil))))))
/-! ### halves -/
def names_halves : List Str := ["pairs", "near", "far", "signs", "place"]
def t_halves (K : PySem.W.Frag) (sp_partners sp_give_signs : Sp) : TS :=
  (tSeq (tAsg (tCall sp_partners [] E0 (tCons (tVar 0) (tCons (tC (.int 0)) tNil))) (gName 1))
    (tSeq (tAsg (tCall sp_partners [] E0 (tCons (tVar 0) (tCons (tC (.int 1)) tNil))) (gName 2))
    (tSeq (tAsg (tOp rRep (tLst (tCons (tC .non) tNil)) (tCB (rLenQ K) (tCons (tVar 0) tNil))) (gName 3))
    (tSeq (tFor (iRng1 (tCons (tCB (rLenQ K) (tCons (tVar 0) tNil)) tNil)) (gName 4) (tIfS (tTest (tOp rIsN (tOp (rIxL K) (tVar 3) (tVar 4)) (tC .non))) (tDrop (tCall sp_give_signs [] E0 (tCons (tVar 3) (tCons (tVar 4) (tCons (tVar 1) (tCons (tVar 2) tNil)))))) tNext))
    (tRet (tVar 3))))))
theorem sc_halves : FnScope names_halves ["pairs"] (defScope s_halves) := ⟨rfl, rfl, rfl, by decide +kernel, rfl, by decide +kernel, by decide +kernel⟩
theorem ok_halves {sp sp_partners sp_give_signs : Sp} {lv : Nat} (T : Tp K mg) (c0 : Cal P w K mg base CX0 lv "partners" ["pairs", "side"] [] sp_partners) (c1 : Cal P w K mg base CX0 lv "give_signs" ["signs", "first", "near", "far"] [] sp_give_signs) (len : ∀ vs H Q E, sp vs H Q E → vs.length = 1)
    (pure : ∀ vs H Q E, sp vs H Q E → t_halves K sp_partners sp_give_signs { nx := fun _ H' => Q .non H', rt := Q } (L2.start names_halves vs) H) : Cal P w K mg base CX0 (lv + 1) "halves" ["pairs"] [] sp := by
  obtain ⟨fd, F⟩ := T.def_ 7 (d := d_halves) rfl
  refine ⟨_, fd, [], T.glo 7 rfl, F.kp, FunD.ok (k := lv) F sc_halves len fun cdv A outer s H vs Q E hr h => ⟨_, PSs.nox ?_, pure vs H Q E h⟩, F.bindsN (fun _ _ _ _ _ _ us hl => match us, hl with | [_], _ => rfl), .nil⟩
  obtain ⟨f0, fd0, ds0, m0, kp0, G0, b0, v0⟩ := c0
  obtain ⟨f1, fd1, ds1, m1, kp1, G1, b1, v1⟩ := c1
  exact (pss_cons (ps_set (i := 1) sc_halves.nd rfl (by first | exact Or.inl rfl | exact Or.inr rfl) (pe_call G0 hr (by rfl) m0 kp0 b0 v0 pass0 (pa_cons (pv 0) (pa_cons pe_int pa_nil))))
    (pss_cons (ps_set (i := 2) sc_halves.nd rfl (by first | exact Or.inl rfl | exact Or.inr rfl) (pe_call G0 hr (by rfl) m0 kp0 b0 v0 pass0 (pa_cons (pv 0) (pa_cons pe_int pa_nil))))
    (pss_cons (ps_set (i := 3) sc_halves.nd rfl (by first | exact Or.inl rfl | exact Or.inr rfl) (pe_op op_rep (pe_lst (pa_cons pe_non pa_nil)) (pe_callB cr_lenQ (by rfl) (T.free 51 rfl) (by decide +kernel) (pa_cons (pv 0) pa_nil))))
    (pss_cons (ps_for PassesOwn.never rfl (pi_range1 (by rfl) (T.free 54 rfl) (pa_cons (pe_callB cr_lenQ (by rfl) (T.free 51 rfl) (by decide +kernel) (pa_cons (pv 0) pa_nil)) pa_nil)) (pg_name (i := 4) sc_halves.nd rfl (by first | exact Or.inl rfl | exact Or.inr rfl)) (pss_one (ps_if (pt_cmpR op_isN (pe_ix ix_list (pv 3) (pv 4) (fun _ _ => rfl)) pe_non (nomark _)) (pss_one (ps_expr (pe_call G1 hr (by rfl) m1 kp1 b1 v1 pass0 (pa_cons (pv 3) (pa_cons (pv 4) (pa_cons (pv 1) (pa_cons (pv 2) pa_nil))))))) pss_nil)))
    (pss_one (ps_ret (pv 3)))))))
/-! ### weights_of -/
def names_weights_of : List Str := ["pairs", "side", "found", "pair"]
def t_weights_of (K : PySem.W.Frag) : TS :=
  (tSeq (tAsg tDNewK (gName 2))
    (tSeq (tFor (iList K (tVar 0)) (gName 3) (sDPut (tVar 2) (tOp (rIxT K) (tVar 3) (tVar 1)) (tOp rAddI (tDGet2 (tVar 2) (tOp (rIxT K) (tVar 3) (tVar 1)) (tC (.int 0))) (tC (.int 1)))))
    (tRet (tVar 2))))
theorem sc_weights_of : FnScope names_weights_of ["pairs", "side"] (defScope s_weights_of) := ⟨rfl, rfl, rfl, by decide +kernel, rfl, by decide +kernel, by decide +kernel⟩
theorem ok_weights_of {sp : Sp} {lv : Nat} (T : Tp K mg) (len : ∀ vs H Q E, sp vs H Q E → vs.length = 2)
    (pure : ∀ vs H Q E, sp vs H Q E → t_weights_of K { nx := fun _ H' => Q .non H', rt := Q } (L2.start names_weights_of vs) H) : Cal P w K mg base CX0 (lv + 1) "weights_of" ["pairs", "side"] [] sp := by
  obtain ⟨fd, F⟩ := T.def_ 8 (d := d_weights_of) rfl
  refine ⟨_, fd, [], T.glo 8 rfl, F.kp, FunD.ok (k := lv) F sc_weights_of len fun cdv A outer s H vs Q E hr h => ⟨_, PSs.nox ?_, pure vs H Q E h⟩, F.bindsN (fun _ _ _ _ _ _ us hl => match us, hl with | [_, _], _ => rfl), .nil⟩
  have hu := hu_of hr
  exact (pss_cons (ps_set (i := 2) sc_weights_of.nd rfl (by first | exact Or.inl rfl | exact Or.inr rfl) pe_dnewK)
    (pss_cons (ps_for PassesOwn.never rfl (pi_list (pv 0)) (pg_name (i := 3) sc_weights_of.nd rfl (by first | exact Or.inl rfl | exact Or.inr rfl)) (pss_one (ps_dput hu (pv 2) (pe_ix ix_tup (pv 3) (pv 1) (fun _ _ => rfl)) (pe_op op_add (pe_dget2 hu (pv 2) (pe_ix ix_tup (pv 3) (pv 1) (fun _ _ => rfl)) pe_int ⟨rfl, rfl, rfl, rfl⟩) pe_int) rfl)))
    (pss_one (ps_ret (pv 2)))))
end
end XR
-- KDer4
set_option Elab.async false
set_option linter.all false
set_option maxRecDepth 100000
set_option maxHeartbeats 4000000
namespace XR
open PySem PySem.Spec PyProof.Rows L2
section
variable {P : Program} {w : World} {K : PySem.W.Frag} {mg : Str → Option Value} {base : Heap}
/-! ### greatest -/
def names_greatest : List Str := ["pairs", "ways", "links", "taken", "ins", "outs", "last", "came", "rack", "place"]
def t_greatest (K : PySem.W.Frag) (sp_places_of sp_first_part sp_with_room sp_looked_through sp_turn_over : Sp) : TS :=
  (tSeq (tAsg (tCall sp_places_of [] E0 (tCons (tVar 0) tNil)) (gName 2))
    (tSeq (tAsg (tCall sp_first_part [] E0 (tCons (tVar 0) (tCons (tVar 1) tNil))) (gName 3))
    (tSeq (tAsg (tCall sp_looked_through [] E0 (tCons (tVar 0) (tCons (tVar 2) (tCons (tVar 3) (tCons (tCall sp_with_room [] E0 (tCons (tVar 2) (tCons (tVar 3) (tCons (tVar 1) tNil)))) tNil))))) (gTup K 2 (gCons (gName 6) (gCons (gName 7) gNil))))
    (tSeq (tWhile (tTest (tOp rNotN (tVar 6) (tC .non))) (tSeq (tDrop (tCall sp_turn_over [] E0 (tCons (tVar 0) (tCons (tVar 3) (tCons (tVar 7) (tCons (tVar 6) tNil))))))
    (tAsg (tCall sp_looked_through [] E0 (tCons (tVar 0) (tCons (tVar 2) (tCons (tVar 3) (tCons (tCall sp_with_room [] E0 (tCons (tVar 2) (tCons (tVar 3) (tCons (tVar 1) tNil)))) tNil))))) (gTup K 2 (gCons (gName 6) (gCons (gName 7) gNil))))))
    (tSeq (tAsg (tLc (iList K (tCB rSortedM (tCons (tVar 2) tNil))) (gName 8) (tAnd (tTest (tOp rEq (tOp (rIxT K) (tVar 8) (tC (.int 0))) (tC (.int 0)))) (tB (tDNotIn (tVar 8) (tVar 7)))) (tOp (rIxT K) (tVar 8) (tC (.int 1))) [8]) (gName 4))
    (tSeq (tAsg (tLc (iList K (tCB rSortedM (tCons (tVar 2) tNil))) (gName 8) (tAnd (tTest (tOp rEq (tOp (rIxT K) (tVar 8) (tC (.int 0))) (tC (.int 1)))) (tB (tDIn (tVar 8) (tVar 7)))) (tOp (rIxT K) (tVar 8) (tC (.int 1))) [8]) (gName 5))
    (tRet (tTup (tCons (tLc (iRng1 (tCons (tCB (rLenQ K) (tCons (tVar 0) tNil)) tNil)) (gName 9) (tB (tOp (rIxL K) (tVar 3) (tVar 9))) (tVar 9) [9]) (tCons (tTup (tCons (tVar 4) (tCons (tVar 5) tNil))) tNil))))))))))
theorem sc_greatest : FnScope names_greatest ["pairs", "ways"] (defScope s_greatest) := ⟨rfl, rfl, rfl, by decide +kernel, rfl, by decide +kernel, by decide +kernel⟩
theorem ok_greatest {sp sp_places_of sp_first_part sp_with_room sp_looked_through sp_turn_over : Sp} {lv : Nat} (T : Tp K mg) (c0 : Cal P w K mg base CX0 lv "places_of" ["pairs"] [] sp_places_of) (c1 : Cal P w K mg base CX0 lv "first_part" ["pairs", "ways"] [] sp_first_part) (c2 : Cal P w K mg base CX0 lv "with_room" ["links", "taken", "ways"] [] sp_with_room) (c3 : Cal P w K mg base CX0 lv "looked_through" ["pairs", "links", "taken", "ready"] [] sp_looked_through) (c4 : Cal P w K mg base CX0 lv "turn_over" ["pairs", "taken", "came", "last"] [] sp_turn_over) (len : ∀ vs H Q E, sp vs H Q E → vs.length = 2)
    (pure : ∀ vs H Q E, sp vs H Q E → t_greatest K sp_places_of sp_first_part sp_with_room sp_looked_through sp_turn_over { nx := fun _ H' => Q .non H', rt := Q } (L2.start names_greatest vs) H) : Cal P w K mg base CX0 (lv + 1) "greatest" ["pairs", "ways"] [] sp := by
  obtain ⟨fd, F⟩ := T.def_ 22 (d := d_greatest) rfl
  refine ⟨_, fd, [], T.glo 22 rfl, F.kp, FunD.ok (k := lv) F sc_greatest len fun cdv A outer s H vs Q E hr h => ⟨_, PSs.nox ?_, pure vs H Q E h⟩, F.bindsN (fun _ _ _ _ _ _ us hl => match us, hl with | [_, _], _ => rfl), .nil⟩
  obtain ⟨f0, fd0, ds0, m0, kp0, G0, b0, v0⟩ := c0
  obtain ⟨f1, fd1, ds1, m1, kp1, G1, b1, v1⟩ := c1
  obtain ⟨f2, fd2, ds2, m2, kp2, G2, b2, v2⟩ := c2
  obtain ⟨f3, fd3, ds3, m3, kp3, G3, b3, v3⟩ := c3
  obtain ⟨f4, fd4, ds4, m4, kp4, G4, b4, v4⟩ := c4
  have hu := hu_of hr
  exact (pss_cons (ps_set (i := 2) sc_greatest.nd rfl (by first | exact Or.inl rfl | exact Or.inr rfl) (pe_call G0 hr (by rfl) m0 kp0 b0 v0 pass0 (pa_cons (pv 0) pa_nil)))
    (pss_cons (ps_set (i := 3) sc_greatest.nd rfl (by first | exact Or.inl rfl | exact Or.inr rfl) (pe_call G1 hr (by rfl) m1 kp1 b1 v1 pass0 (pa_cons (pv 0) (pa_cons (pv 1) pa_nil))))
    (pss_cons (ps_asg (pe_call G3 hr (by rfl) m3 kp3 b3 v3 pass0 (pa_cons (pv 0) (pa_cons (pv 2) (pa_cons (pv 3) (pa_cons (pe_call G2 hr (by rfl) m2 kp2 b2 v2 pass0 (pa_cons (pv 2) (pa_cons (pv 3) (pa_cons (pv 1) pa_nil)))) pa_nil))))) (pg_tup rfl (pgs_cons (pg_name (i := 6) sc_greatest.nd rfl (by first | exact Or.inl rfl | exact Or.inr rfl)) (pgs_cons (pg_name (i := 7) sc_greatest.nd rfl (by first | exact Or.inl rfl | exact Or.inr rfl)) pgs_nil))))
    (pss_cons (ps_while PassesOwn.never (pt_cmpR op_notN (pv 6) pe_non (nomark _)) (pss_cons (ps_expr (pe_call G4 hr (by rfl) m4 kp4 b4 v4 pass0 (pa_cons (pv 0) (pa_cons (pv 3) (pa_cons (pv 7) (pa_cons (pv 6) pa_nil))))))
    (pss_one (ps_asg (pe_call G3 hr (by rfl) m3 kp3 b3 v3 pass0 (pa_cons (pv 0) (pa_cons (pv 2) (pa_cons (pv 3) (pa_cons (pe_call G2 hr (by rfl) m2 kp2 b2 v2 pass0 (pa_cons (pv 2) (pa_cons (pv 3) (pa_cons (pv 1) pa_nil)))) pa_nil))))) (pg_tup rfl (pgs_cons (pg_name (i := 6) sc_greatest.nd rfl (by first | exact Or.inl rfl | exact Or.inr rfl)) (pgs_cons (pg_name (i := 7) sc_greatest.nd rfl (by first | exact Or.inl rfl | exact Or.inr rfl)) pgs_nil)))))))
    (pss_cons (ps_setLc (i := 4) (own := [("rack", 8)]) (g := (gName 8)) (tt := (tAnd (tTest (tOp rEq (tOp (rIxT K) (tVar 8) (tC (.int 0))) (tC (.int 0)))) (tB (tDNotIn (tVar 8) (tVar 7))))) (by rfl) sc_greatest.nd rfl rfl (sw_true rfl rfl rfl (by decide +kernel)) (pi_list (pe_callB (cr_sortedM rfl) (by rfl) (T.free 57 rfl) (by decide +kernel) (pa_cons (pv 2) pa_nil))) (blkOk_by (own := [("rack", 8)]) (N := names_greatest) (sc := defScope s_greatest) (by decide +kernel)) (fun _ _ _ _ _ => (pg_name (i := 8) sc_greatest.nd rfl (by first | exact Or.inl rfl | exact Or.inr rfl))) (fun _ _ _ _ _ => (pts_one (PW.pt (pw_and (pt_cmpR op_eq (pe_ix ix_tup (pv 8) pe_int (fun _ _ => rfl)) pe_int (nomark _)) (pw_and1 (pt_cmp (pc_dnotin hu (pv 8) (pv 7)))))))) (fun _ _ _ _ _ => (pe_ix ix_tup (pv 8) pe_int (fun _ _ => rfl))))
    (pss_cons (ps_setLc (i := 5) (own := [("rack", 8)]) (g := (gName 8)) (tt := (tAnd (tTest (tOp rEq (tOp (rIxT K) (tVar 8) (tC (.int 0))) (tC (.int 1)))) (tB (tDIn (tVar 8) (tVar 7))))) (by rfl) sc_greatest.nd rfl rfl (sw_true rfl rfl rfl (by decide +kernel)) (pi_list (pe_callB (cr_sortedM rfl) (by rfl) (T.free 57 rfl) (by decide +kernel) (pa_cons (pv 2) pa_nil))) (blkOk_by (own := [("rack", 8)]) (N := names_greatest) (sc := defScope s_greatest) (by decide +kernel)) (fun _ _ _ _ _ => (pg_name (i := 8) sc_greatest.nd rfl (by first | exact Or.inl rfl | exact Or.inr rfl))) (fun _ _ _ _ _ => (pts_one (PW.pt (pw_and (pt_cmpR op_eq (pe_ix ix_tup (pv 8) pe_int (fun _ _ => rfl)) pe_int (nomark _)) (pw_and1 (pt_cmp (pc_din hu (pv 8) (pv 7)))))))) (fun _ _ _ _ _ => (pe_ix ix_tup (pv 8) pe_int (fun _ _ => rfl))))
    (pss_one (ps_ret (pe_tup (pa_cons (pe_lc (own := [("place", 9)]) (g := (gName 9)) (tt := (tB (tOp (rIxL K) (tVar 3) (tVar 9)))) (by rfl) sc_greatest.nd (pi_range1 (by rfl) (T.free 54 rfl) (pa_cons (pe_callB cr_lenQ (by rfl) (T.free 51 rfl) (by decide +kernel) (pa_cons (pv 0) pa_nil)) pa_nil)) (blkOk_by (own := [("place", 9)]) (N := names_greatest) (sc := defScope s_greatest) (by decide +kernel)) (fun _ _ _ _ _ => (pg_name (i := 9) sc_greatest.nd rfl (by first | exact Or.inl rfl | exact Or.inr rfl))) (fun _ _ _ _ _ => (pts_one (pt_val (pe_ix ix_list (pv 3) (pv 9) (fun _ _ => rfl))))) (fun _ _ _ _ _ => (pv 9))) (pa_cons (pe_tup (pa_cons (pv 4) (pa_cons (pv 5) pa_nil))) pa_nil)))))))))))
/-! ### is_entry -/
def names_is_entry : List Str := ["hall", "thing"]
def t_is_entry (K : PySem.W.Frag) (sp_is_caller sp_is_ends : Sp) : TS :=
  (tSeq (tIfS (tOr (tNot (tB (tCB (rIsi K) (tCons (tVar 1) (tCons (tC (.ty "tuple")) tNil))))) (tTest (tOp rNe (tCB (rLenQ K) (tCons (tVar 1) tNil)) (tC (.int 2))))) (tRet (tC (.bl false))) tNext)
    (tRet (tAndV (tCall sp_is_caller [] E0 (tCons (tVar 0) (tCons (tOp (rIxT K) (tVar 1) (tC (.int 0))) tNil))) (tCall sp_is_ends [] E0 (tCons (tVar 0) (tCons (tLst (tCons (tOp (rIxT K) (tVar 1) (tC (.int 1))) tNil)) tNil))))))
theorem sc_is_entry : FnScope names_is_entry ["hall", "thing"] (defScope s_is_entry) := ⟨rfl, rfl, rfl, by decide +kernel, rfl, by decide +kernel, by decide +kernel⟩
theorem ok_is_entry {sp sp_is_caller sp_is_ends : Sp} {lv : Nat} (T : Tp K mg) (c0 : Cal P w K mg base CX0 lv "is_caller" ["hall", "thing"] [] sp_is_caller) (c1 : Cal P w K mg base CX0 lv "is_ends" ["hall", "thing"] [] sp_is_ends) (len : ∀ vs H Q E, sp vs H Q E → vs.length = 2)
    (pure : ∀ vs H Q E, sp vs H Q E → t_is_entry K sp_is_caller sp_is_ends { nx := fun _ H' => Q .non H', rt := Q } (L2.start names_is_entry vs) H) : Cal P w K mg base CX0 (lv + 1) "is_entry" ["hall", "thing"] [] sp := by
  obtain ⟨fd, F⟩ := T.def_ 23 (d := d_is_entry) rfl
  refine ⟨_, fd, [], T.glo 23 rfl, F.kp, FunD.ok (k := lv) F sc_is_entry len fun cdv A outer s H vs Q E hr h => ⟨_, PSs.nox ?_, pure vs H Q E h⟩, F.bindsN (fun _ _ _ _ _ _ us hl => match us, hl with | [_, _], _ => rfl), .nil⟩
  obtain ⟨f0, fd0, ds0, m0, kp0, G0, b0, v0⟩ := c0
  obtain ⟨f1, fd1, ds1, m1, kp1, G1, b1, v1⟩ := c1
  exact (pss_cons (ps_if (PW.pt (pw_or (pt_not (pt_val (pe_callB call_isi (by rfl) (T.free 46 rfl) (by decide +kernel) (pa_cons (pv 1) (pa_cons (pe_bltn (v := .ty "tuple") (by rfl) (T.free 50 rfl) (by decide +kernel) rfl) pa_nil))))) (pw_or1 (pt_cmpR op_ne (pe_callB cr_lenQ (by rfl) (T.free 51 rfl) (by decide +kernel) (pa_cons (pv 1) pa_nil)) pe_int (nomark _))))) (pss_one (ps_ret pe_bl)) pss_nil)
    (pss_one (ps_ret (pe_and (pe_call G0 hr (by rfl) m0 kp0 b0 v0 pass0 (pa_cons (pv 0) (pa_cons (pe_ix ix_tup (pv 1) pe_int (fun _ _ => rfl)) pa_nil))) (pe_one (pe_call G1 hr (by rfl) m1 kp1 b1 v1 pass0 (pa_cons (pv 0) (pa_cons (pe_lst (pa_cons (pe_ix ix_tup (pv 1) pe_int (fun _ _ => rfl)) pa_nil)) pa_nil))))))))
/-! ### pairs_of -/
def names_pairs_of : List Str := ["hall", "table", "callers", "ends", "found", "place", "entry"]
def t_pairs_of (K : PySem.W.Frag) (W : WX) (sp_is_entry sp_place_in sp_place_out : Sp) : TS :=
  (tSeq (tAsg tDNewK (gName 2))
    (tSeq (tAsg tDNewK (gName 3))
    (tSeq (tAsg (tLst tNil) (gName 4))
    (tSeq (tFor (iEnum K (tCons (tVar 1) tNil)) (gTup K 2 (gCons (gName 5) (gCons (gName 6) gNil))) (tSeq (tIfS (tOr (tNot (tB (tCall sp_is_entry [] E0 (tCons (tVar 0) (tCons (tVar 6) tNil))))) (tOr (tB (tDIn (tOp (rIxT K) (tVar 6) (tC (.int 0))) (tVar 2))) (tB (tDIn (tOp (rIxT K) (tVar 6) (tC (.int 1))) (tVar 3))))) (tRaiseNT K W (tCons (tVar 5) tNil)) tNext)
    (tSeq (sDPut (tVar 2) (tOp (rIxT K) (tVar 6) (tC (.int 0))) (tC (.bl true)))
    (tSeq (sDPut (tVar 3) (tOp (rIxT K) (tVar 6) (tC (.int 1))) (tC (.bl true)))
    (tDrop (tBM K "list" rAppend (tVar 4) (tCons (tTup (tCons (tOp (rIxT K) (tCall sp_place_in [] E0 (tCons (tVar 0) (tCons (tOp (rIxT K) (tVar 6) (tC (.int 0))) tNil))) (tC (.int 0))) (tCons (tOp (rIxT K) (tCall sp_place_out [] E0 (tCons (tVar 0) (tCons (tOp (rIxT K) (tVar 6) (tC (.int 1))) tNil))) (tC (.int 0))) tNil))) tNil)))))))
    (tRet (tVar 4))))))
theorem sc_pairs_of : FnScope names_pairs_of ["hall", "table"] (defScope s_pairs_of) := ⟨rfl, rfl, rfl, by decide +kernel, rfl, by decide +kernel, by decide +kernel⟩
theorem ok_pairs_of {sp sp_is_entry sp_place_in sp_place_out : Sp} {lv : Nat} (T : Tp K mg) (c0 : Cal P w K mg base CX0 (lv + 2) "is_entry" ["hall", "thing"] [] sp_is_entry) (c1 : Cal P w K mg base CX0 (lv + 2) "place_in" ["hall", "caller"] [] sp_place_in) (c2 : Cal P w K mg base CX0 (lv + 2) "place_out" ["hall", "end"] [] sp_place_out) (len : ∀ vs H Q E, sp vs H Q E → vs.length = 2)
    (pure : ∀ vs H Q E, sp vs H Q E → t_pairs_of K (fun cls d _ H => E cls d H) sp_is_entry sp_place_in sp_place_out { nx := fun _ H' => Q .non H', rt := Q } (L2.start names_pairs_of vs) H) : Cal P w K mg base (L2.CX P w) (lv + 2 + 1) "pairs_of" ["hall", "table"] [] sp := by
  obtain ⟨fd, F⟩ := T.def_ 24 (d := d_pairs_of) rfl
  refine ⟨_, fd, [], T.glo 24 rfl, F.kp, FunD.ok (k := lv + 2) F sc_pairs_of len fun cdv A outer s H vs Q E hr h => ⟨_, ?_, pure vs H Q E h⟩, F.bindsN (fun _ _ _ _ _ _ us hl => match us, hl with | [_, _], _ => rfl), .nil⟩
  obtain ⟨f0, fd0, ds0, m0, kp0, G0, b0, v0⟩ := c0
  obtain ⟨f1, fd1, ds1, m1, kp1, G1, b1, v1⟩ := c1
  obtain ⟨f2, fd2, ds2, m2, kp2, G2, b2, v2⟩ := c2
  have hu := hu_of hr
  exact (pss_cons (ps_set (i := 2) sc_pairs_of.nd rfl (by first | exact Or.inl rfl | exact Or.inr rfl) pe_dnewK)
    (pss_cons (ps_set (i := 3) sc_pairs_of.nd rfl (by first | exact Or.inl rfl | exact Or.inr rfl) pe_dnewK)
    (pss_cons (ps_set (i := 4) sc_pairs_of.nd rfl (by first | exact Or.inl rfl | exact Or.inr rfl) (pe_lst pa_nil))
    (pss_cons (ps_for (passes_of rfl) rfl (pi_enum (by rfl) (T.free 55 rfl) (pa_cons (pv 1) pa_nil)) (pg_tup rfl (pgs_cons (pg_name (i := 5) sc_pairs_of.nd rfl (by first | exact Or.inl rfl | exact Or.inr rfl)) (pgs_cons (pg_name (i := 6) sc_pairs_of.nd rfl (by first | exact Or.inl rfl | exact Or.inr rfl)) pgs_nil))) (pss_cons (ps_if (PW.pt (pw_or (pt_not (pt_val (pe_call G0 hr (by rfl) m0 kp0 b0 v0 pass0 (pa_cons (pv 0) (pa_cons (pv 6) pa_nil))))) (pw_or (pt_cmp (pc_din hu (pe_ix ix_tup (pv 6) pe_int (fun _ _ => rfl)) (pv 2))) (pw_or1 (pt_cmp (pc_din hu (pe_ix ix_tup (pv 6) pe_int (fun _ _ => rfl)) (pv 3))))))) (pss_one (ps_raiseNT rfl (takes_of rfl rfl rfl rfl) T hr (pa_cons (pv 5) pa_nil))) pss_nil)
    (pss_cons (ps_dput hu (pv 2) (pe_ix ix_tup (pv 6) pe_int (fun _ _ => rfl)) pe_bl rfl)
    (pss_cons (ps_dput hu (pv 3) (pe_ix ix_tup (pv 6) pe_int (fun _ _ => rfl)) pe_bl rfl)
    (pss_one (ps_expr (pe_bm PySem.F.plainAttrs_list PySem.F.slot_list_append PySem.F.type_list_append mt_append (pv 4) (pa_cons (pe_tup (pa_cons (pe_ix ix_tup (pe_call G1 hr (by rfl) m1 kp1 b1 v1 pass0 (pa_cons (pv 0) (pa_cons (pe_ix ix_tup (pv 6) pe_int (fun _ _ => rfl)) pa_nil))) pe_int (fun _ _ => rfl)) (pa_cons (pe_ix ix_tup (pe_call G2 hr (by rfl) m2 kp2 b2 v2 pass0 (pa_cons (pv 0) (pa_cons (pe_ix ix_tup (pv 6) pe_int (fun _ _ => rfl)) pa_nil))) pe_int (fun _ _ => rfl)) pa_nil))) pa_nil))))))))
    (pss_one (ps_ret (pv 4)))))))
/-! ### open_racks -/
def names_open_racks : List Str := ["hall", "shut", "k"]
def t_open_racks (K : PySem.W.Frag) : TS :=
  (tRet (tLc (iRng1 (tCons (tOp (rIxT K) (tVar 0) (tC (.int 2))) tNil)) (gName 2) (tTest (tOp rEq (tOp rAndI (tOp rShrI (tVar 1) (tVar 2)) (tC (.int 1))) (tC (.int 0)))) (tVar 2) [2]))
theorem sc_open_racks : FnScope names_open_racks ["hall", "shut"] (defScope s_open_racks) := ⟨rfl, rfl, rfl, by decide +kernel, rfl, by decide +kernel, by decide +kernel⟩
theorem ok_open_racks {sp : Sp} {lv : Nat} (T : Tp K mg) (len : ∀ vs H Q E, sp vs H Q E → vs.length = 2)
    (pure : ∀ vs H Q E, sp vs H Q E → t_open_racks K { nx := fun _ H' => Q .non H', rt := Q } (L2.start names_open_racks vs) H) : Cal P w K mg base CX0 (lv + 1) "open_racks" ["hall", "shut"] [] sp ∧ Cal P w K mg base CX0 (lv + 1) "open_racks" ["hall", "shut"] [.int 0] sp := by
  obtain ⟨fd, F⟩ := T.def_ 25 (d := d_open_racks) rfl
  have B1 := F.binds1 (ps := ["hall", "shut"]) 2 1 (List.cons_ne_nil _ _) rfl (fun T kV doc pm an cdv ct us its h1 h2 => match us, its, h1, h2 with | [_, _], [_], _, _ => ⟨_, rfl, rfl⟩)
  have B0 := F.binds1 (ps := ["hall", "shut"]) 1 0 (List.cons_ne_nil _ _) rfl (fun T kV doc pm an cdv ct us its h1 h2 => match us, its, h1, h2 with | [_], [_], _, _ => ⟨_, rfl, rfl⟩)
  obtain ⟨ds1, v1, b1⟩ := B1
  obtain ⟨ds0, v0, b0⟩ := B0
  suffices G : FnOk P w K mg base CX0 (lv + 1) _ fd ["hall", "shut"] sp from ⟨⟨_, fd, ds1, T.glo 25 rfl, F.kp, G, b1, v1⟩, ⟨_, fd, ds0, T.glo 25 rfl, F.kp, G, b0, v0⟩⟩
  refine FunD.ok (k := lv) F sc_open_racks len fun cdv A outer s H vs Q E hr h => ⟨_, PSs.nox ?_, pure vs H Q E h⟩
  exact (pss_one (ps_ret (pe_lc (own := [("k", 2)]) (g := (gName 2)) (tt := (tTest (tOp rEq (tOp rAndI (tOp rShrI (tVar 1) (tVar 2)) (tC (.int 1))) (tC (.int 0))))) (by rfl) sc_open_racks.nd (pi_range1 (by rfl) (T.free 54 rfl) (pa_cons (pe_ix ix_tup (pv 0) pe_int (fun _ _ => rfl)) pa_nil)) (blkOk_by (own := [("k", 2)]) (N := names_open_racks) (sc := defScope s_open_racks) (by decide +kernel)) (fun _ _ _ _ _ => (pg_name (i := 2) sc_open_racks.nd rfl (by first | exact Or.inl rfl | exact Or.inr rfl))) (fun _ _ _ _ _ => (pts_one (pt_cmpR op_eq (pe_op op_and (pe_op op_shr (pv 1) (pv 2)) pe_int) pe_int (nomark _)))) (fun _ _ _ _ _ => (pv 2)))))
/-! ### at_once -/
def names_at_once : List Str := ["hall", "table", "shut", "racks", "some", "numbers", "entry", "number"]
def t_at_once (K : PySem.W.Frag) (sp_open_racks sp_pairs_of sp_parted : Sp) : TS :=
  (tSeq (tAsg (tCall sp_open_racks [] E0 (tCons (tVar 0) (tCons (tVar 2) tNil))) (gName 3))
    (tSeq (tDrop (tCall sp_pairs_of [] E0 (tCons (tVar 0) (tCons (tVar 1) tNil))))
    (tSeq (tAsg (tCB (rSortedPO K) (tCons (tVar 1) tNil)) (gName 4))
    (tSeq (tAsg (tCall sp_parted [] E0 (tCons (tCall sp_pairs_of [] E0 (tCons (tVar 0) (tCons (tVar 4) tNil))) (tCons (tCB (rLenQ K) (tCons (tVar 3) tNil)) tNil))) (gName 5))
    (tRet (tLc (iZip K (tCons (tVar 4) (tCons (tVar 5) tNil))) (gTup K 2 (gCons (gName 6) (gCons (gName 7) gNil))) tYes (tTup (tCons (tOp (rIxT K) (tVar 6) (tC (.int 0))) (tCons (tTup (tCons (tOp (rIxT K) (tVar 6) (tC (.int 1))) tNil)) (tCons (tOp (rIxL K) (tVar 3) (tVar 7)) tNil)))) [6, 7]))))))
theorem sc_at_once : FnScope names_at_once ["hall", "table", "shut"] (defScope s_at_once) := ⟨rfl, rfl, rfl, by decide +kernel, rfl, by decide +kernel, by decide +kernel⟩
theorem ok_at_once {sp sp_open_racks sp_pairs_of sp_parted : Sp} {lv : Nat} (T : Tp K mg) (c0 : Cal P w K mg base CX0 lv "open_racks" ["hall", "shut"] [] sp_open_racks) (c1 : Cal P w K mg base (L2.CX P w) lv "pairs_of" ["hall", "table"] [] sp_pairs_of) (c2 : Cal P w K mg base CX0 lv "parted" ["pairs", "ways"] [] sp_parted) (len : ∀ vs H Q E, sp vs H Q E → vs.length = 3)
    (pure : ∀ vs H Q E, sp vs H Q E → t_at_once K sp_open_racks sp_pairs_of sp_parted { nx := fun _ H' => Q .non H', rt := Q } (L2.start names_at_once vs) H) : Cal P w K mg base CX0 (lv + 1) "at_once" ["hall", "table", "shut"] [] sp ∧ Cal P w K mg base CX0 (lv + 1) "at_once" ["hall", "table", "shut"] [.int 0] sp := by
  obtain ⟨fd, F⟩ := T.def_ 26 (d := d_at_once) rfl
  have B1 := F.binds1 (ps := ["hall", "table", "shut"]) 3 1 (List.cons_ne_nil _ _) rfl (fun T kV doc pm an cdv ct us its h1 h2 => match us, its, h1, h2 with | [_, _, _], [_], _, _ => ⟨_, rfl, rfl⟩)
  have B0 := F.binds1 (ps := ["hall", "table", "shut"]) 2 0 (List.cons_ne_nil _ _) rfl (fun T kV doc pm an cdv ct us its h1 h2 => match us, its, h1, h2 with | [_, _], [_], _, _ => ⟨_, rfl, rfl⟩)
  obtain ⟨ds1, v1, b1⟩ := B1
  obtain ⟨ds0, v0, b0⟩ := B0
  suffices G : FnOk P w K mg base CX0 (lv + 1) _ fd ["hall", "table", "shut"] sp from ⟨⟨_, fd, ds1, T.glo 26 rfl, F.kp, G, b1, v1⟩, ⟨_, fd, ds0, T.glo 26 rfl, F.kp, G, b0, v0⟩⟩
  refine FunD.ok (k := lv) F sc_at_once len fun cdv A outer s H vs Q E hr h => ⟨_, PSs.nox ?_, pure vs H Q E h⟩
  obtain ⟨f0, fd0, ds0, m0, kp0, G0, b0, v0⟩ := c0
  obtain ⟨f1, fd1, ds1, m1, kp1, G1, b1, v1⟩ := c1
  obtain ⟨f2, fd2, ds2, m2, kp2, G2, b2, v2⟩ := c2
  exact (pss_cons (ps_set (i := 3) sc_at_once.nd rfl (by first | exact Or.inl rfl | exact Or.inr rfl) (pe_call G0 hr (by rfl) m0 kp0 b0 v0 pass0 (pa_cons (pv 0) (pa_cons (pv 2) pa_nil))))
    (pss_cons (ps_expr (pe_call G1 hr (by rfl) m1 kp1 b1 v1 passX (pa_cons (pv 0) (pa_cons (pv 1) pa_nil))))
    (pss_cons (ps_set (i := 4) sc_at_once.nd rfl (by first | exact Or.inl rfl | exact Or.inr rfl) (pe_callB cr_sortedPO (by rfl) (T.free 57 rfl) (by decide +kernel) (pa_cons (pv 1) pa_nil)))
    (pss_cons (ps_set (i := 5) sc_at_once.nd rfl (by first | exact Or.inl rfl | exact Or.inr rfl) (pe_call G2 hr (by rfl) m2 kp2 b2 v2 pass0 (pa_cons (pe_call G1 hr (by rfl) m1 kp1 b1 v1 passX (pa_cons (pv 0) (pa_cons (pv 4) pa_nil))) (pa_cons (pe_callB cr_lenQ (by rfl) (T.free 51 rfl) (by decide +kernel) (pa_cons (pv 3) pa_nil)) pa_nil))))
    (pss_one (ps_ret (pe_lc (own := [("entry", 6), ("number", 7)]) (g := (gTup K 2 (gCons (gName 6) (gCons (gName 7) gNil)))) (tt := tYes) (by rfl) sc_at_once.nd (pi_zip (by rfl) (T.free 56 rfl) (pa_cons (pv 4) (pa_cons (pv 5) pa_nil))) (blkOk_by (own := [("entry", 6), ("number", 7)]) (N := names_at_once) (sc := defScope s_at_once) (by decide +kernel)) (fun _ _ _ _ _ => (pg_tup rfl (pgs_cons (pg_name (i := 6) sc_at_once.nd rfl (by first | exact Or.inl rfl | exact Or.inr rfl)) (pgs_cons (pg_name (i := 7) sc_at_once.nd rfl (by first | exact Or.inl rfl | exact Or.inr rfl)) pgs_nil)))) (fun _ _ _ _ _ => pts_nil) (fun _ _ _ _ _ => (pe_tup (pa_cons (pe_ix ix_tup (pv 6) pe_int (fun _ _ => rfl)) (pa_cons (pe_tup (pa_cons (pe_ix ix_tup (pv 6) pe_int (fun _ _ => rfl)) pa_nil)) (pa_cons (pe_ix ix_list (pv 3) (pv 7) (fun _ _ => rfl)) pa_nil))))))))))))
end
end XR
-- KDer5
set_option Elab.async false
set_option linter.all false
set_option maxRecDepth 100000
set_option maxHeartbeats 4000000
namespace XR
open PySem PySem.Spec PyProof.Rows L2
section
variable {P : Program} {w : World} {K : PySem.W.Frag} {mg : Str → Option Value} {base : Heap}
/-! ### as_many -/
def names_as_many : List Str := ["hall", "table", "shut", "some", "calls", "left", "places", "paper", "place"]
def t_as_many (K : PySem.W.Frag) (E : XK) (sp_pairs_of sp_open_racks sp_greatest sp_at_once : Sp) : TS :=
  (tSeq (tDrop (tCall sp_pairs_of [] E (tCons (tVar 0) (tCons (tVar 1) tNil))))
    (tSeq (tAsg (tCB (rSortedPO K) (tCons (tVar 1) tNil)) (gName 3))
    (tSeq (tAsg (tCall sp_greatest [] E0 (tCons (tCall sp_pairs_of [] E0 (tCons (tVar 0) (tCons (tVar 3) tNil))) (tCons (tCB (rLenQ K) (tCons (tCall sp_open_racks [] E0 (tCons (tVar 0) (tCons (tVar 2) tNil))) tNil)) tNil))) (gTup K 2 (gCons (gName 6) (gCons (gName 7) gNil))))
    (tSeq (tAsg (tCall sp_at_once [] E0 (tCons (tVar 0) (tCons (tLc (iList K (tVar 6)) (gName 8) tYes (tOp (rIxL K) (tVar 3) (tVar 8)) [8]) (tCons (tVar 2) tNil)))) (gName 4))
    (tSeq (tAsg (tLc (iRng1 (tCons (tCB (rLenQ K) (tCons (tVar 3) tNil)) tNil)) (gName 8) (tTest (tOp (rIn K true) (tVar 8) (tVar 6))) (tOp (rIxT K) (tOp (rIxL K) (tVar 3) (tVar 8)) (tC (.int 0))) [8]) (gName 5))
    (tRet (tTup (tCons (tVar 4) (tCons (tVar 5) (tCons (tVar 7) tNil))))))))))
theorem sc_as_many : FnScope names_as_many ["hall", "table", "shut"] (defScope s_as_many) := ⟨rfl, rfl, rfl, by decide +kernel, rfl, by decide +kernel, by decide +kernel⟩
theorem ok_as_many {sp sp_pairs_of sp_open_racks sp_greatest sp_at_once : Sp} {lv : Nat} (T : Tp K mg) (c0 : Cal P w K mg base (L2.CX P w) lv "pairs_of" ["hall", "table"] [] sp_pairs_of) (c1 : Cal P w K mg base CX0 lv "open_racks" ["hall", "shut"] [] sp_open_racks) (c2 : Cal P w K mg base CX0 lv "greatest" ["pairs", "ways"] [] sp_greatest) (c3 : Cal P w K mg base CX0 lv "at_once" ["hall", "table", "shut"] [] sp_at_once) (len : ∀ vs H Q E, sp vs H Q E → vs.length = 3)
    (pure : ∀ vs H Q E, sp vs H Q E → t_as_many K E sp_pairs_of sp_open_racks sp_greatest sp_at_once { nx := fun _ H' => Q .non H', rt := Q } (L2.start names_as_many vs) H) : Cal P w K mg base (L2.CX P w) (lv + 1) "as_many" ["hall", "table", "shut"] [] sp ∧ Cal P w K mg base (L2.CX P w) (lv + 1) "as_many" ["hall", "table", "shut"] [.int 0] sp := by
  obtain ⟨fd, F⟩ := T.def_ 27 (d := d_as_many) rfl
  have B1 := F.binds1 (ps := ["hall", "table", "shut"]) 3 1 (List.cons_ne_nil _ _) rfl (fun T kV doc pm an cdv ct us its h1 h2 => match us, its, h1, h2 with | [_, _, _], [_], _, _ => ⟨_, rfl, rfl⟩)
  have B0 := F.binds1 (ps := ["hall", "table", "shut"]) 2 0 (List.cons_ne_nil _ _) rfl (fun T kV doc pm an cdv ct us its h1 h2 => match us, its, h1, h2 with | [_, _], [_], _, _ => ⟨_, rfl, rfl⟩)
  obtain ⟨ds1, v1, b1⟩ := B1
  obtain ⟨ds0, v0, b0⟩ := B0
  suffices G : FnOk P w K mg base (L2.CX P w) (lv + 1) _ fd ["hall", "table", "shut"] sp from ⟨⟨_, fd, ds1, T.glo 27 rfl, F.kp, G, b1, v1⟩, ⟨_, fd, ds0, T.glo 27 rfl, F.kp, G, b0, v0⟩⟩
  refine FunD.ok (k := lv) F sc_as_many len fun cdv A outer s H vs Q E hr h => ⟨_, ?_, pure vs H Q E h⟩
  obtain ⟨f0, fd0, ds0, m0, kp0, G0, b0, v0⟩ := c0
  obtain ⟨f1, fd1, ds1, m1, kp1, G1, b1, v1⟩ := c1
  obtain ⟨f2, fd2, ds2, m2, kp2, G2, b2, v2⟩ := c2
  obtain ⟨f3, fd3, ds3, m3, kp3, G3, b3, v3⟩ := c3
  exact (pss_cons (ps_expr (pe_call G0 hr (by rfl) m0 kp0 b0 v0 (passes_call (takes_of rfl rfl rfl rfl) fun _ _ _ _ h => h) (pa_cons (pv 0) (pa_cons (pv 1) pa_nil))))
    (pss_cons (ps_set (i := 3) sc_as_many.nd rfl (by first | exact Or.inl rfl | exact Or.inr rfl) (pe_callB cr_sortedPO (by rfl) (T.free 57 rfl) (by decide +kernel) (pa_cons (pv 1) pa_nil)))
    (pss_cons (ps_asg (pe_call G2 hr (by rfl) m2 kp2 b2 v2 pass0 (pa_cons (pe_call G0 hr (by rfl) m0 kp0 b0 v0 passX (pa_cons (pv 0) (pa_cons (pv 3) pa_nil))) (pa_cons (pe_callB cr_lenQ (by rfl) (T.free 51 rfl) (by decide +kernel) (pa_cons (pe_call G1 hr (by rfl) m1 kp1 b1 v1 pass0 (pa_cons (pv 0) (pa_cons (pv 2) pa_nil))) pa_nil)) pa_nil))) (pg_tup rfl (pgs_cons (pg_name (i := 6) sc_as_many.nd rfl (by first | exact Or.inl rfl | exact Or.inr rfl)) (pgs_cons (pg_name (i := 7) sc_as_many.nd rfl (by first | exact Or.inl rfl | exact Or.inr rfl)) pgs_nil))))
    (pss_cons (ps_set (i := 4) sc_as_many.nd rfl (by first | exact Or.inl rfl | exact Or.inr rfl) (pe_call G3 hr (by rfl) m3 kp3 b3 v3 pass0 (pa_cons (pv 0) (pa_cons (pe_lc (own := [("place", 8)]) (g := (gName 8)) (tt := tYes) (by rfl) sc_as_many.nd (pi_list (pv 6)) (blkOk_by (own := [("place", 8)]) (N := names_as_many) (sc := defScope s_as_many) (by decide +kernel)) (fun _ _ _ _ _ => (pg_name (i := 8) sc_as_many.nd rfl (by first | exact Or.inl rfl | exact Or.inr rfl))) (fun _ _ _ _ _ => pts_nil) (fun _ _ _ _ _ => (pe_ix ix_list (pv 3) (pv 8) (fun _ _ => rfl)))) (pa_cons (pv 2) pa_nil)))))
    (pss_cons (ps_setLc (i := 5) (own := [("place", 8)]) (g := (gName 8)) (tt := (tTest (tOp (rIn K true) (tVar 8) (tVar 6)))) (by rfl) sc_as_many.nd rfl rfl (sw_true rfl rfl rfl (by decide +kernel)) (pi_range1 (by rfl) (T.free 54 rfl) (pa_cons (pe_callB cr_lenQ (by rfl) (T.free 51 rfl) (by decide +kernel) (pa_cons (pv 3) pa_nil)) pa_nil)) (blkOk_by (own := [("place", 8)]) (N := names_as_many) (sc := defScope s_as_many) (by decide +kernel)) (fun _ _ _ _ _ => (pg_name (i := 8) sc_as_many.nd rfl (by first | exact Or.inl rfl | exact Or.inr rfl))) (fun _ _ _ _ _ => (pts_one (pt_cmpR op_notIn_seq (pv 8) (pv 6) (by rfl)))) (fun _ _ _ _ _ => (pe_ix ix_tup (pe_ix ix_list (pv 3) (pv 8) (fun _ _ => rfl)) pe_int (fun _ _ => rfl))))
    (pss_one (ps_ret (pe_tup (pa_cons (pv 4) (pa_cons (pv 5) (pa_cons (pv 7) pa_nil)))))))))))
/-! ### _law_cell_at -/
def names_law_cell_at : List Str := ["_law_script", "_law_k"]
def t_law_cell_at (K : PySem.W.Frag) : TS :=
  (tSeq (tIfS (tTest (tOp rLtI (tVar 1) (tCB (rLenQ K) (tCons (tVar 0) tNil)))) (tRet (tOp (rIxL K) (tVar 0) (tVar 1))) tNext)
    (tRet (tC (.int 0))))
theorem sc_law_cell_at : FnScope names_law_cell_at ["_law_script", "_law_k"] (defScope s_law_cell_at) := ⟨rfl, rfl, rfl, by decide +kernel, rfl, by decide +kernel, by decide +kernel⟩
theorem ok_law_cell_at {sp : Sp} {lv : Nat} (T : Tp K mg) (len : ∀ vs H Q E, sp vs H Q E → vs.length = 2)
    (pure : ∀ vs H Q E, sp vs H Q E → t_law_cell_at K { nx := fun _ H' => Q .non H', rt := Q } (L2.start names_law_cell_at vs) H) : Cal P w K mg base CX0 (lv + 1) "_law_cell_at" ["_law_script", "_law_k"] [] sp := by
  obtain ⟨fd, F⟩ := T.def_ 28 (d := d_law_cell_at) rfl
  refine ⟨_, fd, [], T.glo 28 rfl, F.kp, FunD.ok (k := lv) F sc_law_cell_at len fun cdv A outer s H vs Q E hr h => ⟨_, PSs.nox ?_, pure vs H Q E h⟩, F.bindsN (fun _ _ _ _ _ _ us hl => match us, hl with | [_, _], _ => rfl), .nil⟩
  exact (pss_cons (ps_if (pt_cmpR op_lt (pv 1) (pe_callB cr_lenQ (by rfl) (T.free 51 rfl) (by decide +kernel) (pa_cons (pv 0) pa_nil)) (nomark _)) (pss_one (ps_ret (pe_ix ix_list (pv 0) (pv 1) (fun _ _ => rfl)))) pss_nil)
    (pss_one (ps_ret pe_int)))
/-! ### _law_mixed -/
def names_law_mixed : List Str := ["_law_cell", "_law_k"]
def t_law_mixed (K : PySem.W.Frag) : TS :=
  (tRet (tOp rModI (tOp rMulI (tOp rAddI (tOp rAddI (tOp rModI (tVar 0) (tC (.int 1000003))) (tOp rMulI (tVar 1) (tVar 1))) (tC (.int 1))) (tC (.int 48271))) (tC (.int 2147483647))))
theorem sc_law_mixed : FnScope names_law_mixed ["_law_cell", "_law_k"] (defScope s_law_mixed) := ⟨rfl, rfl, rfl, by decide +kernel, rfl, by decide +kernel, by decide +kernel⟩
theorem ok_law_mixed {sp : Sp} {lv : Nat} (T : Tp K mg) (len : ∀ vs H Q E, sp vs H Q E → vs.length = 2)
    (pure : ∀ vs H Q E, sp vs H Q E → t_law_mixed K { nx := fun _ H' => Q .non H', rt := Q } (L2.start names_law_mixed vs) H) : Cal P w K mg base CX0 (lv + 1) "_law_mixed" ["_law_cell", "_law_k"] [] sp := by
  obtain ⟨fd, F⟩ := T.def_ 29 (d := d_law_mixed) rfl
  refine ⟨_, fd, [], T.glo 29 rfl, F.kp, FunD.ok (k := lv) F sc_law_mixed len fun cdv A outer s H vs Q E hr h => ⟨_, PSs.nox ?_, pure vs H Q E h⟩, F.bindsN (fun _ _ _ _ _ _ us hl => match us, hl with | [_, _], _ => rfl), .nil⟩
  exact (pss_one (ps_ret (pe_op op_mod (pe_op op_mul (pe_op op_add (pe_op op_add (pe_op op_mod (pv 0) pe_int) (pe_op op_mul (pv 1) (pv 1))) pe_int) pe_int) pe_int)))
/-! ### _law_whole -/
def names_law_whole : List Str := ["_law_found"]
def t_law_whole (K : PySem.W.Frag) : TS :=
  (tRet (tAndV (tCB (rIsi K) (tCons (tVar 0) (tCons (tC (.ty "int")) tNil))) (tNotV (tCB (rIsi K) (tCons (tVar 0) (tCons (tC (.ty "bool")) tNil))))))
theorem sc_law_whole : FnScope names_law_whole ["_law_found"] (defScope s_law_whole) := ⟨rfl, rfl, rfl, by decide +kernel, rfl, by decide +kernel, by decide +kernel⟩
theorem ok_law_whole {sp : Sp} {lv : Nat} (T : Tp K mg) (len : ∀ vs H Q E, sp vs H Q E → vs.length = 1)
    (pure : ∀ vs H Q E, sp vs H Q E → t_law_whole K { nx := fun _ H' => Q .non H', rt := Q } (L2.start names_law_whole vs) H) : Cal P w K mg base CX0 (lv + 1) "_law_whole" ["_law_found"] [] sp := by
  obtain ⟨fd, F⟩ := T.def_ 30 (d := d_law_whole) rfl
  refine ⟨_, fd, [], T.glo 30 rfl, F.kp, FunD.ok (k := lv) F sc_law_whole len fun cdv A outer s H vs Q E hr h => ⟨_, PSs.nox ?_, pure vs H Q E h⟩, F.bindsN (fun _ _ _ _ _ _ us hl => match us, hl with | [_], _ => rfl), .nil⟩
  exact (pss_one (ps_ret (pe_and (pe_callB call_isi (by rfl) (T.free 46 rfl) (by decide +kernel) (pa_cons (pv 0) (pa_cons (pe_bltn (v := .ty "int") (by rfl) (T.free 47 rfl) (by decide +kernel) rfl) pa_nil))) (pe_one (pe_not (pe_callB call_isi (by rfl) (T.free 46 rfl) (by decide +kernel) (pa_cons (pv 0) (pa_cons (pe_bltn (v := .ty "bool") (by rfl) (T.free 48 rfl) (by decide +kernel) rfl) pa_nil))))))))
/-! ### _law_digit -/
def names_law_digit : List Str := ["_law_left", "_law_many", "_law_found"]
def t_law_digit (K : PySem.W.Frag) : TS :=
  (tSeq (tAsg (tOp rModI (tOp (rIxL K) (tVar 0) (tC (.int 0))) (tVar 1)) (gName 2))
    (tSeq (tAsg (tOp rDivI (tOp (rIxL K) (tVar 0) (tC (.int 0))) (tVar 1)) (gSub (tVar 0) (tC (.int 0)) rSetL))
    (tRet (tVar 2))))
theorem sc_law_digit : FnScope names_law_digit ["_law_left", "_law_many"] (defScope s_law_digit) := ⟨rfl, rfl, rfl, by decide +kernel, rfl, by decide +kernel, by decide +kernel⟩
theorem ok_law_digit {sp : Sp} {lv : Nat} (T : Tp K mg) (len : ∀ vs H Q E, sp vs H Q E → vs.length = 2)
    (pure : ∀ vs H Q E, sp vs H Q E → t_law_digit K { nx := fun _ H' => Q .non H', rt := Q } (L2.start names_law_digit vs) H) : Cal P w K mg base CX0 (lv + 1) "_law_digit" ["_law_left", "_law_many"] [] sp := by
  obtain ⟨fd, F⟩ := T.def_ 31 (d := d_law_digit) rfl
  refine ⟨_, fd, [], T.glo 31 rfl, F.kp, FunD.ok (k := lv) F sc_law_digit len fun cdv A outer s H vs Q E hr h => ⟨_, PSs.nox ?_, pure vs H Q E h⟩, F.bindsN (fun _ _ _ _ _ _ us hl => match us, hl with | [_, _], _ => rfl), .nil⟩
  exact (pss_cons (ps_set (i := 2) sc_law_digit.nd rfl (by first | exact Or.inl rfl | exact Or.inr rfl) (pe_op op_mod (pe_ix ix_list (pv 0) pe_int (fun _ _ => rfl)) (pv 1)))
    (pss_cons (ps_asg (pe_op op_fdiv (pe_ix ix_list (pv 0) pe_int (fun _ _ => rfl)) (pv 1)) (pg_sub (pv 0) pe_int set_list))
    (pss_one (ps_ret (pv 2)))))
/-! ### _law_hall -/
def names_law_hall : List Str := ["_law_cell", "_law_number", "_law_small", "_law_left", "_law_big", "_law_most"]
def t_law_hall (K : PySem.W.Frag) (sp_law_digit sp_law_mixed : Sp) : TS :=
  (tSeq (tIfS (tTest (tOp rEq (tOp rModI (tVar 0) (tC (.int 2))) (tC (.int 0)))) (tSeq (tAsg (tLst (tCons (tOp rDivI (tCB rAbs (tCons (tVar 0) tNil)) (tC (.int 2))) tNil)) (gName 3))
    (tRet (tCB (rTupleL K) (tCons (tLc (iTup K (tTup (tCons (tC (.int 12)) (tCons (tC (.int 12)) (tCons (tC (.int 24)) (tCons (tC (.int 12)) (tCons (tC (.int 12)) tNil))))))) (gName 5) tYes (tOp rAddI (tC (.int 1)) (tCall sp_law_digit [] E0 (tCons (tVar 3) (tCons (tVar 5) tNil)))) [5]) tNil)))) tNext)
    (tSeq (tAsg (tCall sp_law_mixed [] E0 (tCons (tVar 0) (tCons (tC (.int 0)) tNil))) (gName 1))
    (tSeq (tIfS (tTest (tOp rEq (tOp rModI (tVar 1) (tC (.int 5))) (tC (.int 2)))) (tSeq (tAsg (tTup (tCons (tOp rAddI (tC (.int 6)) (tOp rModI (tOp rDivI (tVar 1) (tC (.int 5))) (tC (.int 7)))) (tCons (tOp rAddI (tC (.int 6)) (tOp rModI (tOp rDivI (tVar 1) (tC (.int 35))) (tC (.int 7)))) (tCons (tOp rAddI (tC (.int 1)) (tOp rModI (tOp rDivI (tVar 1) (tC (.int 245))) (tC (.int 24)))) tNil)))) (gName 4))
    (tRet (tOp (rCatT K) (tVar 4) (tTup (tCons (tOp rAddI (tC (.int 6)) (tOp rModI (tOp rDivI (tVar 1) (tC (.int 5880))) (tC (.int 7)))) (tCons (tOp rAddI (tC (.int 6)) (tOp rModI (tOp rDivI (tVar 1) (tC (.int 41160))) (tC (.int 7)))) tNil)))))) tNext)
    (tSeq (tAsg (tTup (tCons (tOp rAddI (tC (.int 1)) (tOp rModI (tOp rDivI (tVar 1) (tC (.int 5))) (tC (.int 5)))) (tCons (tOp rAddI (tC (.int 1)) (tOp rModI (tOp rDivI (tVar 1) (tC (.int 25))) (tC (.int 4)))) (tCons (tOp rAddI (tC (.int 1)) (tOp rModI (tOp rDivI (tVar 1) (tC (.int 100))) (tC (.int 6)))) tNil)))) (gName 2))
    (tRet (tOp (rCatT K) (tVar 2) (tTup (tCons (tOp rAddI (tC (.int 1)) (tOp rModI (tOp rDivI (tVar 1) (tC (.int 600))) (tC (.int 5)))) (tCons (tOp rAddI (tC (.int 1)) (tOp rModI (tOp rDivI (tVar 1) (tC (.int 3000))) (tC (.int 4)))) tNil)))))))))
theorem sc_law_hall : FnScope names_law_hall ["_law_cell"] (defScope s_law_hall) := ⟨rfl, rfl, rfl, by decide +kernel, rfl, by decide +kernel, by decide +kernel⟩
theorem ok_law_hall {sp sp_law_digit sp_law_mixed : Sp} {lv : Nat} (T : Tp K mg) (c0 : Cal P w K mg base CX0 lv "_law_digit" ["_law_left", "_law_many"] [] sp_law_digit) (c1 : Cal P w K mg base CX0 lv "_law_mixed" ["_law_cell", "_law_k"] [] sp_law_mixed) (len : ∀ vs H Q E, sp vs H Q E → vs.length = 1)
    (pure : ∀ vs H Q E, sp vs H Q E → t_law_hall K sp_law_digit sp_law_mixed { nx := fun _ H' => Q .non H', rt := Q } (L2.start names_law_hall vs) H) : Cal P w K mg base CX0 (lv + 1) "_law_hall" ["_law_cell"] [] sp := by
  obtain ⟨fd, F⟩ := T.def_ 32 (d := d_law_hall) rfl
  refine ⟨_, fd, [], T.glo 32 rfl, F.kp, FunD.ok (k := lv) F sc_law_hall len fun cdv A outer s H vs Q E hr h => ⟨_, PSs.nox ?_, pure vs H Q E h⟩, F.bindsN (fun _ _ _ _ _ _ us hl => match us, hl with | [_], _ => rfl), .nil⟩
  obtain ⟨f0, fd0, ds0, m0, kp0, G0, b0, v0⟩ := c0
  obtain ⟨f1, fd1, ds1, m1, kp1, G1, b1, v1⟩ := c1
  exact (pss_cons (ps_if (pt_cmpR op_eq (pe_op op_mod (pv 0) pe_int) pe_int (nomark _)) (pss_cons (ps_set (i := 3) sc_law_hall.nd rfl (by first | exact Or.inl rfl | exact Or.inr rfl) (pe_lst (pa_cons (pe_op op_fdiv (pe_callB cr_abs (by rfl) (T.free 60 rfl) (by decide +kernel) (pa_cons (pv 0) pa_nil)) pe_int) pa_nil)))
    (pss_one (ps_ret (pe_callTy cr_tupleL (by rfl) (T.free 50 rfl) (by decide +kernel) (pa_cons (pe_lc (own := [("_law_most", 5)]) (g := (gName 5)) (tt := tYes) (by rfl) sc_law_hall.nd (pi_tup (pe_tup (pa_cons pe_int (pa_cons pe_int (pa_cons pe_int (pa_cons pe_int (pa_cons pe_int pa_nil))))))) (blkOk_by (own := [("_law_most", 5)]) (N := names_law_hall) (sc := defScope s_law_hall) (by decide +kernel)) (fun _ _ _ _ _ => (pg_name (i := 5) sc_law_hall.nd rfl (by first | exact Or.inl rfl | exact Or.inr rfl))) (fun _ _ _ _ _ => pts_nil) (fun _ _ _ _ _ => (pe_op op_add pe_int (pe_call G0 hr (by rfl) m0 kp0 b0 v0 pass0 (pa_cons (pv 3) (pa_cons (pv 5) pa_nil)))))) pa_nil))))) pss_nil)
    (pss_cons (ps_set (i := 1) sc_law_hall.nd rfl (by first | exact Or.inl rfl | exact Or.inr rfl) (pe_call G1 hr (by rfl) m1 kp1 b1 v1 pass0 (pa_cons (pv 0) (pa_cons pe_int pa_nil))))
    (pss_cons (ps_if (pt_cmpR op_eq (pe_op op_mod (pv 1) pe_int) pe_int (nomark _)) (pss_cons (ps_set (i := 4) sc_law_hall.nd rfl (by first | exact Or.inl rfl | exact Or.inr rfl) (pe_tup (pa_cons (pe_op op_add pe_int (pe_op op_mod (pe_op op_fdiv (pv 1) pe_int) pe_int)) (pa_cons (pe_op op_add pe_int (pe_op op_mod (pe_op op_fdiv (pv 1) pe_int) pe_int)) (pa_cons (pe_op op_add pe_int (pe_op op_mod (pe_op op_fdiv (pv 1) pe_int) pe_int)) pa_nil)))))
    (pss_one (ps_ret (pe_op op_catT (pv 4) (pe_tup (pa_cons (pe_op op_add pe_int (pe_op op_mod (pe_op op_fdiv (pv 1) pe_int) pe_int)) (pa_cons (pe_op op_add pe_int (pe_op op_mod (pe_op op_fdiv (pv 1) pe_int) pe_int)) pa_nil))))))) pss_nil)
    (pss_cons (ps_set (i := 2) sc_law_hall.nd rfl (by first | exact Or.inl rfl | exact Or.inr rfl) (pe_tup (pa_cons (pe_op op_add pe_int (pe_op op_mod (pe_op op_fdiv (pv 1) pe_int) pe_int)) (pa_cons (pe_op op_add pe_int (pe_op op_mod (pe_op op_fdiv (pv 1) pe_int) pe_int)) (pa_cons (pe_op op_add pe_int (pe_op op_mod (pe_op op_fdiv (pv 1) pe_int) pe_int)) pa_nil)))))
    (pss_one (ps_ret (pe_op op_catT (pv 2) (pe_tup (pa_cons (pe_op op_add pe_int (pe_op op_mod (pe_op op_fdiv (pv 1) pe_int) pe_int)) (pa_cons (pe_op op_add pe_int (pe_op op_mod (pe_op op_fdiv (pv 1) pe_int) pe_int)) pa_nil))))))))))
/-! ### _law_free_table -/
def names_law_free_table : List Str := ["_law_hall_here", "_law_left", "_law_most", "_law_callers", "_law_ends", "_law_found", "_law_k", "_law_caller"]
def t_law_free_table (K : PySem.W.Frag) (sp_law_digit : Sp) : TS :=
  (tSeq (tAsg (tListRange (tRg1 (tOp rMulI (tOp (rIxT K) (tVar 0) (tC (.int 0))) (tOp (rIxT K) (tVar 0) (tC (.int 1)))))) (gName 3))
    (tSeq (tAsg (tListRange (tRg1 (tOp rMulI (tOp (rIxT K) (tVar 0) (tC (.int 3))) (tOp (rIxT K) (tVar 0) (tC (.int 4)))))) (gName 4))
    (tSeq (tAsg (tLst tNil) (gName 5))
    (tSeq (tFor (iRng1 (tCons (tCall sp_law_digit [] E0 (tCons (tVar 1) (tCons (tOp rAddI (tVar 2) (tC (.int 1))) tNil))) tNil)) (gName 6) (tIfS (tAnd (tTest (tOp (rNeD K) (tVar 3) (tLst tNil))) (tTest (tOp (rNeD K) (tVar 4) (tLst tNil)))) (tSeq (tAsg (tBM K "list" rPopAt (tVar 3) (tCons (tCall sp_law_digit [] E0 (tCons (tVar 1) (tCons (tCB (rLenQ K) (tCons (tVar 3) tNil)) tNil))) tNil)) (gName 7))
    (tDrop (tBM K "list" rAppend (tVar 5) (tCons (tTup (tCons (tVar 7) (tCons (tBM K "list" rPopAt (tVar 4) (tCons (tCall sp_law_digit [] E0 (tCons (tVar 1) (tCons (tCB (rLenQ K) (tCons (tVar 4) tNil)) tNil))) tNil)) tNil))) tNil)))) tNext))
    (tRet (tVar 5))))))
theorem sc_law_free_table : FnScope names_law_free_table ["_law_hall_here", "_law_left", "_law_most"] (defScope s_law_free_table) := ⟨rfl, rfl, rfl, by decide +kernel, rfl, by decide +kernel, by decide +kernel⟩
theorem ok_law_free_table {sp sp_law_digit : Sp} {lv : Nat} (T : Tp K mg) (c0 : Cal P w K mg base CX0 lv "_law_digit" ["_law_left", "_law_many"] [] sp_law_digit) (len : ∀ vs H Q E, sp vs H Q E → vs.length = 3)
    (pure : ∀ vs H Q E, sp vs H Q E → t_law_free_table K sp_law_digit { nx := fun _ H' => Q .non H', rt := Q } (L2.start names_law_free_table vs) H) : Cal P w K mg base CX0 (lv + 1) "_law_free_table" ["_law_hall_here", "_law_left", "_law_most"] [] sp := by
  obtain ⟨fd, F⟩ := T.def_ 33 (d := d_law_free_table) rfl
  refine ⟨_, fd, [], T.glo 33 rfl, F.kp, FunD.ok (k := lv) F sc_law_free_table len fun cdv A outer s H vs Q E hr h => ⟨_, PSs.nox ?_, pure vs H Q E h⟩, F.bindsN (fun _ _ _ _ _ _ us hl => match us, hl with | [_, _, _], _ => rfl), .nil⟩
  obtain ⟨f0, fd0, ds0, m0, kp0, G0, b0, v0⟩ := c0
  have hu64 := hr.units
  exact (pss_cons (ps_set (i := 3) sc_law_free_table.nd rfl (by first | exact Or.inl rfl | exact Or.inr rfl) (pe_listRg rfl (by rfl) (T.free 49 rfl) (prg_1 (by rfl) (T.free 54 rfl) (pe_op op_mul (pe_ix ix_tup (pv 0) pe_int (fun _ _ => rfl)) (pe_ix ix_tup (pv 0) pe_int (fun _ _ => rfl))))))
    (pss_cons (ps_set (i := 4) sc_law_free_table.nd rfl (by first | exact Or.inl rfl | exact Or.inr rfl) (pe_listRg rfl (by rfl) (T.free 49 rfl) (prg_1 (by rfl) (T.free 54 rfl) (pe_op op_mul (pe_ix ix_tup (pv 0) pe_int (fun _ _ => rfl)) (pe_ix ix_tup (pv 0) pe_int (fun _ _ => rfl))))))
    (pss_cons (ps_set (i := 5) sc_law_free_table.nd rfl (by first | exact Or.inl rfl | exact Or.inr rfl) (pe_lst pa_nil))
    (pss_cons (ps_for PassesOwn.never rfl (pi_range1 (by rfl) (T.free 54 rfl) (pa_cons (pe_call G0 hr (by rfl) m0 kp0 b0 v0 pass0 (pa_cons (pv 1) (pa_cons (pe_op op_add (pv 2) pe_int) pa_nil))) pa_nil)) (pg_name (i := 6) sc_law_free_table.nd rfl (by first | exact Or.inl rfl | exact Or.inr rfl)) (pss_one (ps_if (PW.pt (pw_and (pt_cmpR (op_neD hu64) (pv 3) (pe_lst pa_nil) (nomark _)) (pw_and1 (pt_cmpR (op_neD hu64) (pv 4) (pe_lst pa_nil) (nomark _))))) (pss_cons (ps_set (i := 7) sc_law_free_table.nd rfl (by first | exact Or.inl rfl | exact Or.inr rfl) (pe_bm PySem.F.plainAttrs_list PySem.F.slot_list_pop PySem.F.type_list_pop mt_popAt (pv 3) (pa_cons (pe_call G0 hr (by rfl) m0 kp0 b0 v0 pass0 (pa_cons (pv 1) (pa_cons (pe_callB cr_lenQ (by rfl) (T.free 51 rfl) (by decide +kernel) (pa_cons (pv 3) pa_nil)) pa_nil))) pa_nil)))
    (pss_one (ps_expr (pe_bm PySem.F.plainAttrs_list PySem.F.slot_list_append PySem.F.type_list_append mt_append (pv 5) (pa_cons (pe_tup (pa_cons (pv 7) (pa_cons (pe_bm PySem.F.plainAttrs_list PySem.F.slot_list_pop PySem.F.type_list_pop mt_popAt (pv 4) (pa_cons (pe_call G0 hr (by rfl) m0 kp0 b0 v0 pass0 (pa_cons (pv 1) (pa_cons (pe_callB cr_lenQ (by rfl) (T.free 51 rfl) (by decide +kernel) (pa_cons (pv 4) pa_nil)) pa_nil))) pa_nil)) pa_nil))) pa_nil))))) pss_nil)))
    (pss_one (ps_ret (pv 5)))))))
end
end XR
-- KRead5
set_option Elab.async false
set_option linter.all false
set_option maxRecDepth 100000
set_option maxHeartbeats 1000000
/-! the readings of the text's defs: halls, entries -/
namespace XR
open PySem PySem.Spec PyProof.Rows L2 XM
/-- a hall -/
structure Hall where
  a : Nat
  b : Nat
  c : Nat
  d : Nat
  e : Nat
abbrev dH (h : Hall) : D := .tup [dN h.a, dN h.b, dN h.c, dN h.d, dN h.e]
structure HallOk (h : Hall) : Prop where
  a : 1 ≤ h.a ∧ h.a ≤ 24
  b : 1 ≤ h.b ∧ h.b ≤ 24
  c : 1 ≤ h.c ∧ h.c ≤ 24
  d : 1 ≤ h.d ∧ h.d ≤ 24
  e : 1 ≤ h.e ∧ h.e ≤ 24
section
variable {K : PySem.W.Frag} {H0 H : Hp} {M : List Addr} {L L' : Fp} {ds : List (Option D)} {P : D → Fp → Prop} {α : Type}
theorem rb_h0 {h : Hall} (k : P (dN h.a) L) : Rb K H0 M (rIxT K) (dH h) (.int 0) L P := rb_ixT rfl k
theorem rb_h1 {h : Hall} (k : P (dN h.b) L) : Rb K H0 M (rIxT K) (dH h) (.int 1) L P := rb_ixT rfl k
theorem rb_h2 {h : Hall} (k : P (dN h.c) L) : Rb K H0 M (rIxT K) (dH h) (.int 2) L P := rb_ixT rfl k
theorem rb_h3 {h : Hall} (k : P (dN h.d) L) : Rb K H0 M (rIxT K) (dH h) (.int 3) L P := rb_ixT rfl k
theorem rb_h4 {h : Hall} (k : P (dN h.e) L) : Rb K H0 M (rIxT K) (dH h) (.int 4) L P := rb_ixT rfl k
theorem rb_mulN {m n : Nat} (h : m < 1000000) (k : P (.int ((m * n : Nat) : Int)) L) : Rb K H0 M rMulI (.int (m : Nat)) (.int (n : Nat)) L P := rb_mul (.inl ⟨by omega, by omega⟩) (by rw [← Int.natCast_mul]; exact k)
theorem rc_divmodN {m n : Nat} (h : 0 < n) (h2 : n < 1000000) (k : P (dP (m / n, m % n)) L) : Rc K H0 M rDivmod [.int (m : Nat), .int (n : Nat)] L P := rc_divmod (by omega) (by omega) (by rw [← Int.natCast_ediv, ← Int.natCast_emod]; exact k)
end
def A_placeIn : List D → Fp → (D → Nw → Prop) → Prop := fun xs L P => ∃ (h : Hall) (n : Nat), xs = [dH h, dN n] ∧ L = [] ∧ HallOk h ∧ P (dP (n / h.b, n % h.b)) []
theorem rd_place_in {K : PySem.W.Frag} : ∀ vs H Q E, SpP K A_placeIn vs H Q E → t_place_in K { nx := fun _ H' => Q .non H', rt := Q } (L2.start names_place_in vs) H := fun vs H Q E => spP_body fun H0 xs L P => by
  rintro ⟨h, n, rfl, rfl, ok, hp⟩
  have := ok.b
  exact tr_ret (ea_cb (el_cons (ea_var rfl (el_cons (ea_op (ea_var rfl (ea_int (rb_h1 (el_nil (rc_divmodN (by omega) (by omega) ⟨[], hp, rfl, (by repeat (first | exact List.Sublist.refl _ | apply List.Sublist.cons_cons | exact List.nil_sublist _ | apply List.Sublist.cons))⟩))))))))))
def A_placeOut : List D → Fp → (D → Nw → Prop) → Prop := fun xs L P => ∃ (h : Hall) (n : Nat), xs = [dH h, dN n] ∧ L = [] ∧ HallOk h ∧ P (dP (n / h.e, n % h.e)) []
theorem rd_place_out {K : PySem.W.Frag} : ∀ vs H Q E, SpP K A_placeOut vs H Q E → t_place_out K { nx := fun _ H' => Q .non H', rt := Q } (L2.start names_place_out vs) H := fun vs H Q E => spP_body fun H0 xs L P => by
  rintro ⟨h, n, rfl, rfl, ok, hp⟩
  have := ok.e
  exact tr_ret (ea_cb (el_cons (ea_var rfl (el_cons (ea_op (ea_var rfl (ea_int (rb_h4 (el_nil (rc_divmodN (by omega) (by omega) ⟨[], hp, rfl, (by repeat (first | exact List.Sublist.refl _ | apply List.Sublist.cons_cons | exact List.nil_sublist _ | apply List.Sublist.cons))⟩))))))))))
/-- a thing that may stand for a number -/
inductive Thing where
  | int (i : Int) | non
def dT : Thing → D
  | .int i => .int i
  | .non => .non
def okP : Thing → Nat → Bool
  | .int i, n => decide (0 ≤ i) && decide (i < n)
  | .non, _ => false
def A_place : List D → Fp → (D → Nw → Prop) → Prop := fun xs L P => ∃ (x : Thing) (n : Nat), xs = [dT x, dN n] ∧ L = [] ∧ P (.bl (okP x n)) []
theorem rd_is_place {K : PySem.W.Frag} : ∀ vs H Q E, SpP K A_place vs H Q E → t_is_place K { nx := fun _ H' => Q .non H', rt := Q } (L2.start names_is_place vs) H := fun vs H Q E => spP_body fun H0 xs L P => by
  rintro ⟨x, n, rfl, rfl, hp⟩
  cases x with
  | non => exact tr_ret (ea_andV (ea_cb (el_cons (ea_var rfl (el_cons (ea_ty (el_nil (rc_isi .non (.ty _) kit_ni ⟨_, rfl, cndF ⟨[], hp, rfl, (by repeat (first | exact List.Sublist.refl _ | apply List.Sublist.cons_cons | exact List.nil_sublist _ | apply List.Sublist.cons))⟩⟩))))))))
  | int i =>
    refine tr_ret (ea_andV (ea_cb (el_cons (ea_var rfl (el_cons (ea_ty (el_nil (rc_isi (.int i) (.ty _) kit_ii ⟨_, rfl, cndT ?_⟩))))))))
    refine ea_andV (ea_notV (ea_cb (el_cons (ea_var rfl (el_cons (ea_ty (el_nil (rc_isi (.int i) (.ty _) kit_ib ⟨_, rfl, _, rfl, cndT ?_⟩))))))))
    refine ea_chain (ea_int (ea_var (d := .int i) rfl (rb_le ⟨_, rfl, cndD (fun h => ?_) (fun h => ?_)⟩)))
    · refine ea_var rfl (rb_lt ⟨[], ?_, rfl, (by repeat (first | exact List.Sublist.refl _ | apply List.Sublist.cons_cons | exact List.nil_sublist _ | apply List.Sublist.cons))⟩)
      have e : okP (.int i) n = decide (i < (n : Int)) := by
        show (decide (0 ≤ i) && decide (i < n)) = _
        rw [decide_eq_true h]
        rfl
      rw [← e]
      exact hp
    · refine ⟨[], ?_, rfl, (by repeat (first | exact List.Sublist.refl _ | apply List.Sublist.cons_cons | exact List.nil_sublist _ | apply List.Sublist.cons))⟩
      have e : okP (.int i) n = false := by
        show (decide (0 ≤ i) && decide (i < n)) = _
        rw [decide_eq_false h]
        rfl
      rw [← e]
      exact hp
def A_caller : List D → Fp → (D → Nw → Prop) → Prop := fun xs L P => ∃ (h : Hall) (x : Thing), xs = [dH h, dT x] ∧ L = [] ∧ HallOk h ∧ P (.bl (okP x (h.a * h.b))) []
theorem rd_is_caller {K : PySem.W.Frag} : ∀ vs H Q E, SpP K A_caller vs H Q E → t_is_caller K (SpP K A_place) { nx := fun _ H' => Q .non H', rt := Q } (L2.start names_is_caller vs) H := fun vs H Q E => spP_body fun H0 xs L P => by
  rintro ⟨h, x, rfl, rfl, ok, hp⟩
  have := ok.a
  refine tr_ret (ea_callP (dd := []) (fun _ => rfl) (el_cons (ea_var rfl (el_cons (ea_op (ea_op (ea_var rfl (ea_int (rb_h0 (ea_op (ea_var rfl (ea_int (rb_h1 (rb_mulN (by omega) (el_nil ⟨[], fun d N => d = .bl (okP x (h.a * h.b)) ∧ N = [], .nil, ⟨x, h.a * h.b, rfl, rfl, rfl, rfl⟩, ?_⟩)))))))))))))))
  rintro d N ⟨rfl, rfl⟩
  exact ⟨[], hp, rfl, (by repeat (first | exact List.Sublist.refl _ | apply List.Sublist.cons_cons | exact List.nil_sublist _ | apply List.Sublist.cons))⟩
def A_ends : List D → Fp → (D → Nw → Prop) → Prop := fun xs L P => ∃ (h : Hall) (x : Thing) (e : Addr), xs = [dH h, .ref e] ∧ L = [(e, false, .ro [dT x])] ∧ HallOk h ∧ P (.bl (okP x (h.d * h.e))) []
theorem rd_is_ends {K : PySem.W.Frag} : ∀ vs H Q E, SpP K A_ends vs H Q E → t_is_ends K (SpP K A_place) { nx := fun _ H' => Q .non H', rt := Q } (L2.start names_is_ends vs) H := fun vs H Q E => spP_body fun H0 xs L P => by
  rintro ⟨h, x, e, rfl, rfl, ok, hp⟩
  have := ok.d
  refine tr_seq (tr_if (et_or (et_not (et_B (ea_cb (el_cons (ea_var rfl (el_cons (ea_tup (el_cons (ea_ty (el_cons (ea_ty (el_nil ⟨by decide, el_nil (rc_isiT (.ref (by repeat (first | exact At.lst | exact At.ro | exact At.sc | apply At.tl))) (.ty _) (.ty _) kit_ltlt ⟨_, rfl, cndF (et_test (ea_op (ea_cb (el_cons (ea_var rfl (el_nil (rc_len (by repeat (first | exact At.lst | exact At.ro | exact At.sc | apply At.tl)) (ea_int (rb_eqI ⟨_, rfl, cndD (fun z => ?_) (fun z => tr_next ?_)⟩)))))))))⟩)⟩))))))))))))))
  · exact absurd (show ((1 : Nat) : Int) = 0 from z) (by decide)
  refine tr_seq (tr_forL [x] dT (fun i ds L => ∃ x2, ds = [some (dH h), some (.ref e), x2] ∧ L = [(e, false, .ro [dT x])] ∧ (1 ≤ i → okP x (h.d * h.e) = true)) (ea_var rfl ⟨e, rfl, At.ro, ?_, ?_, ?_, ?_⟩))
  · exact ⟨none, rfl, rfl, fun z => by omega⟩
  · rintro i ds L ⟨x2, rfl, rfl, hi⟩
    exact At.ro
  · rintro i ds L y hy hd hlt ⟨x2, rfl, rfl, hi⟩
    have ey : y = x := by
      have h1 : i = 0 := by have : i < 1 := hlt; omega
      subst h1
      exact (Option.some.inj hy).symm
    subst ey
    refine ag_name (tr_if (et_not (et_B (ea_callP (dd := []) (fun _ => rfl) (el_cons (ea_var rfl (el_cons (ea_op (ea_op (ea_var rfl (ea_int (rb_h3 (ea_op (ea_var rfl (ea_int (rb_h4 (rb_mulN (by omega) (el_nil ⟨[], fun d N => d = .bl (okP y (h.d * h.e)) ∧ N = [], .nil, ⟨y, h.d * h.e, rfl, rfl, rfl, rfl⟩, ?_⟩))))))))))))))))))
    rintro d N ⟨rfl, rfl⟩
    refine ⟨_, rfl, ?_⟩
    cases hk : okP y (h.d * h.e) with
    | true => exact cndF (tr_next ⟨_, rfl, rfl, fun _ => rfl⟩)
    | false =>
      rw [hk] at hp
      exact cndT (tr_ret (ea_bl ⟨[], hp, rfl, (by repeat (first | exact List.Sublist.refl _ | apply List.Sublist.cons_cons | exact List.nil_sublist _ | apply List.Sublist.cons))⟩))
  · rintro ds L hd ⟨x2, rfl, rfl, hi⟩
    have hk := hi (Nat.le_refl 1)
    rw [hk] at hp
    cases x with
    | non => cases hk
    | int i =>
      refine tr_ret (ea_op (ea_lenSet (ea_var rfl ⟨e, i, rfl, At.ro, ea_cb (el_cons (ea_var rfl (el_nil (rc_len (xs := [dT (.int i)]) At.ro (rb_eqI ⟨[], ?_, rfl, (by repeat (first | exact List.Sublist.refl _ | apply List.Sublist.cons_cons | exact List.nil_sublist _ | apply List.Sublist.cons))⟩)))))⟩)))
      exact hp
/-- what may stand in a table -/
inductive Ent where
  | one (x : Thing) | two (x y : Thing)
def dE : Ent → D
  | .one x => dT x
  | .two x y => .tup [dT x, dT y]
def okE (h : Hall) : Ent → Bool
  | .one _ => false
  | .two x y => okP x (h.a * h.b) && okP y (h.d * h.e)
def A_entry : List D → Fp → (D → Nw → Prop) → Prop := fun xs L P => ∃ (h : Hall) (x : Ent), xs = [dH h, dE x] ∧ L = [] ∧ HallOk h ∧ P (.bl (okE h x)) []
theorem rd_is_entry {K : PySem.W.Frag} : ∀ vs H Q E, SpP K A_entry vs H Q E → t_is_entry K (SpP K A_caller) (SpP K A_ends) { nx := fun _ H' => Q .non H', rt := Q } (L2.start names_is_entry vs) H := fun vs H Q E => spP_body fun H0 xs L P => by
  rintro ⟨h, x, rfl, rfl, ok, hp⟩
  cases x with
  | one x =>
    have ty : ∃ t, Dty [] (dT x) t ∧ PySem.W.kitOne K t (.type "tuple") = some false := by
      cases x with
      | int i => exact ⟨_, .int i, kit_it⟩
      | non => exact ⟨_, .non, kit_nt⟩
    obtain ⟨t, h1, h2⟩ := ty
    exact tr_seq (tr_if (et_or (et_not (et_B (ea_cb (el_cons (ea_var (d := dT x) rfl (el_cons (ea_ty (el_nil (rc_isi h1 (.ty _) h2 ⟨_, rfl, cndT (cndT (tr_ret (ea_bl ⟨[], hp, rfl, (by repeat (first | exact List.Sublist.refl _ | apply List.Sublist.cons_cons | exact List.nil_sublist _ | apply List.Sublist.cons))⟩)))⟩)))))))))))
  | two x y =>
    refine tr_seq (tr_if (et_or (et_not (et_B (ea_cb (el_cons (ea_var (d := .tup [dT x, dT y]) rfl (el_cons (ea_ty (el_nil (rc_isi (.tup _) (.ty _) kit_tt ⟨_, rfl, cndF (et_test (ea_op (ea_cb (el_cons (ea_var (d := .tup [dT x, dT y]) rfl (el_nil (rc_lenT (ea_int (rb_neI ⟨_, rfl, cndF (tr_next ?_)⟩)))))))))⟩)))))))))))
    refine tr_ret (ea_andV (ea_callP (dd := []) (fun _ => rfl) (el_cons (ea_var rfl (el_cons (ea_op (ea_var (d := .tup [dT x, dT y]) rfl (ea_int (rb_t0 (el_nil ⟨[], fun d N => d = .bl (okP x (h.a * h.b)) ∧ N = [], .nil, ⟨h, x, rfl, rfl, ok, rfl, rfl⟩, ?_⟩))))))))))
    rintro d N ⟨rfl, rfl⟩
    refine ⟨_, rfl, ?_⟩
    cases hk : okP x (h.a * h.b) with
    | false =>
      refine cndF ⟨[], ?_, rfl, (by repeat (first | exact List.Sublist.refl _ | apply List.Sublist.cons_cons | exact List.nil_sublist _ | apply List.Sublist.cons))⟩
      have e : okE h (.two x y) = false := by
        show (okP x (h.a * h.b) && _) = false
        rw [hk]
        rfl
      rw [← e]
      exact hp
    | true =>
      refine cndT (ea_callP (dd := []) (fun _ => rfl) (el_cons (ea_var rfl (el_cons (ea_lst (el_cons (ea_op (ea_var (d := .tup [dT x, dT y]) rfl (ea_int (rb_t1 (el_nil ⟨by show 1 ≤ 1000; decide, fun p => el_nil ⟨[(p, false, .ro [dT y])], fun d N => d = .bl (okP y (h.d * h.e)) ∧ N = [], (by repeat (first | exact Sb.nil | refine Sb.keep (by first | exact Wk.rfl | exact Wk.ro | exact Wk.rT | exact Wk.rF) ?_ | apply Sb.skip)), ⟨h, y, p, rfl, rfl, ok, rfl, rfl⟩, ?_⟩⟩)))))))))))
      rintro d N ⟨rfl, rfl⟩
      refine ⟨[], ?_, rfl, (by repeat (first | exact List.Sublist.refl _ | apply List.Sublist.cons_cons | exact List.nil_sublist _ | apply List.Sublist.cons))⟩
      have e : okE h (.two x y) = okP y (h.d * h.e) := by
        show (okP x (h.a * h.b) && okP y (h.d * h.e)) = _
        rw [hk]
        rfl
      rw [← e]
      exact hp
/-- the racks that are open -/
def opens (h : Hall) (shut : Nat) : List Nat := (List.range h.c).filterMap fun k => if shut / 2 ^ k % 2 = 0 then some k else none
def A_opens : List D → Fp → (D → Nw → Prop) → Prop := fun xs L P => ∃ (h : Hall) (shut : Nat), xs = [dH h, dN shut] ∧ L = [] ∧ HallOk h ∧ ∀ p, P (.ref p) [(p, .lst ((opens h shut).map dN))]
theorem rd_open_racks {K : PySem.W.Frag} : ∀ vs H Q E, SpP K A_opens vs H Q E → t_open_racks K { nx := fun _ H' => Q .non H', rt := Q } (L2.start names_open_racks vs) H := fun vs H Q E => spP_body fun H0 xs L P => by
  rintro ⟨h, shut, rfl, rfl, ok, hp⟩
  have := ok.c
  refine tr_ret (ea_lcR dN (fun k => if shut / 2 ^ k % 2 = 0 then some k else none) (gw_name (by simp)) (el_cons (ea_op (ea_var rfl (ea_int (rb_h2 (el_nil ⟨h.c, rfl, by omega, ?_, fun p => ?_⟩)))))))
  · rintro i E hi
    refine ag_name ⟨rfl, et_test (ea_op (ea_op (ea_op (ea_var rfl (ea_var rfl (rb_shr (by omega) (ea_int (rb_and (ea_int (rb_eqI ⟨_, rfl, rfl, ?_⟩))))))))))⟩
    have e : (Builtin.bitAnd ((shut : Int) / 2 ^ ((i : Nat) : Int).toNat) 1 = 0) ↔ shut / 2 ^ i % 2 = 0 := by
      rw [bitAnd_m1, Int.toNat_natCast]
      have e2 : (shut : Int) / 2 ^ i % 2 = ((shut / 2 ^ i % 2 : Nat) : Int) := by
        rw [Int.natCast_emod, Int.natCast_ediv, Int.natCast_pow]
        rfl
      rw [e2]
      omega
    refine cndD (fun z => ?_) (fun z => ?_)
    · exact ea_var rfl ⟨rfl, i, rfl, by rw [if_pos (e.mp z)]⟩
    · rw [if_neg (fun y => z (e.mpr y))]
  · exact ⟨_, hp p, rfl, (by repeat (first | exact List.Sublist.refl _ | apply List.Sublist.cons_cons | exact List.nil_sublist _ | apply List.Sublist.cons))⟩
end XR
-- KDer6
set_option Elab.async false
set_option linter.all false
set_option maxRecDepth 100000
set_option maxHeartbeats 4000000
namespace XR
open PySem PySem.Spec PyProof.Rows L2
section
variable {P : Program} {w : World} {K : PySem.W.Frag} {mg : Str → Option Value} {base : Heap}
/-! ### _law_table -/
def names_law_table : List Str := ["_law_script", "_law_hall_here", "_law_start", "_law_last", "_law_callers", "_law_ends", "_law_first", "_law_near", "_law_far", "_law_found", "_law_k", "_law_number", "_law_caller"]
def t_law_table (K : PySem.W.Frag) (sp_law_cell_at sp_law_free_table sp_law_mixed : Sp) : TS :=
  (tSeq (tIfS (tTest (tOp rEq (tOp rModI (tCall sp_law_cell_at [] E0 (tCons (tVar 0) (tCons (tC (.int 0)) tNil))) (tC (.int 2))) (tC (.int 0)))) (tRet (tCall sp_law_free_table [] E0 (tCons (tVar 1) (tCons (tLst (tCons (tCB rAbs (tCons (tCall sp_law_cell_at [] E0 (tCons (tVar 0) (tCons (tVar 2) tNil))) tNil)) tNil)) (tCons (tOp rSubI (tVar 3) (tVar 2)) tNil))))) tNext)
    (tSeq (tAsg (tListRange (tRg1 (tOp rMulI (tOp (rIxT K) (tVar 1) (tC (.int 0))) (tOp (rIxT K) (tVar 1) (tC (.int 1)))))) (gName 4))
    (tSeq (tAsg (tListRange (tRg1 (tOp rMulI (tOp (rIxT K) (tVar 1) (tC (.int 3))) (tOp (rIxT K) (tVar 1) (tC (.int 4)))))) (gName 5))
    (tSeq (tAsg (tCall sp_law_mixed [] E0 (tCons (tCall sp_law_cell_at [] E0 (tCons (tVar 0) (tCons (tC (.int 1)) tNil))) (tCons (tC (.int 1)) tNil))) (gName 6))
    (tSeq (tAsg (tOp (rIxL K) (tLst (tCons (tC (.int 1)) (tCons (tC (.int 2)) (tCons (tC (.int 5)) (tCons (tC (.int 200)) tNil))))) (tOp rModI (tVar 6) (tC (.int 4)))) (gName 7))
    (tSeq (tAsg (tOp (rIxL K) (tLst (tCons (tC (.int 1)) (tCons (tC (.int 2)) (tCons (tC (.int 5)) (tCons (tC (.int 200)) tNil))))) (tOp rModI (tOp rDivI (tVar 6) (tC (.int 4))) (tC (.int 4)))) (gName 8))
    (tSeq (tAsg (tLst tNil) (gName 9))
    (tSeq (tFor (iRng2 (tCons (tVar 2) (tCons (tCB rMin2 (tCons (tCB (rLenQ K) (tCons (tVar 0) tNil)) (tCons (tVar 3) tNil))) tNil))) (gName 10) (tIfS (tAnd (tTest (tOp (rNeD K) (tVar 4) (tLst tNil))) (tTest (tOp (rNeD K) (tVar 5) (tLst tNil)))) (tSeq (tAsg (tCall sp_law_mixed [] E0 (tCons (tOp (rIxL K) (tVar 0) (tVar 10)) (tCons (tVar 10) tNil))) (gName 11))
    (tSeq (tAsg (tBM K "list" rPopAt (tVar 4) (tCons (tOp rModI (tVar 11) (tCB rMin2 (tCons (tCB (rLenQ K) (tCons (tVar 4) tNil)) (tCons (tVar 7) tNil)))) tNil)) (gName 12))
    (tDrop (tBM K "list" rAppend (tVar 9) (tCons (tTup (tCons (tVar 12) (tCons (tBM K "list" rPopAt (tVar 5) (tCons (tOp rModI (tOp rDivI (tVar 11) (tC (.int 200))) (tCB rMin2 (tCons (tCB (rLenQ K) (tCons (tVar 5) tNil)) (tCons (tVar 8) tNil)))) tNil)) tNil))) tNil))))) tNext))
    (tRet (tVar 9))))))))))
theorem sc_law_table : FnScope names_law_table ["_law_script", "_law_hall_here", "_law_start", "_law_last"] (defScope s_law_table) := ⟨rfl, rfl, rfl, by decide +kernel, rfl, by decide +kernel, by decide +kernel⟩
theorem ok_law_table {sp sp_law_cell_at sp_law_free_table sp_law_mixed : Sp} {lv : Nat} (T : Tp K mg) (c0 : Cal P w K mg base CX0 lv "_law_cell_at" ["_law_script", "_law_k"] [] sp_law_cell_at) (c1 : Cal P w K mg base CX0 lv "_law_free_table" ["_law_hall_here", "_law_left", "_law_most"] [] sp_law_free_table) (c2 : Cal P w K mg base CX0 lv "_law_mixed" ["_law_cell", "_law_k"] [] sp_law_mixed) (len : ∀ vs H Q E, sp vs H Q E → vs.length = 4)
    (pure : ∀ vs H Q E, sp vs H Q E → t_law_table K sp_law_cell_at sp_law_free_table sp_law_mixed { nx := fun _ H' => Q .non H', rt := Q } (L2.start names_law_table vs) H) : Cal P w K mg base CX0 (lv + 1) "_law_table" ["_law_script", "_law_hall_here", "_law_start", "_law_last"] [] sp := by
  obtain ⟨fd, F⟩ := T.def_ 34 (d := d_law_table) rfl
  refine ⟨_, fd, [], T.glo 34 rfl, F.kp, FunD.ok (k := lv) F sc_law_table len fun cdv A outer s H vs Q E hr h => ⟨_, PSs.nox ?_, pure vs H Q E h⟩, F.bindsN (fun _ _ _ _ _ _ us hl => match us, hl with | [_, _, _, _], _ => rfl), .nil⟩
  obtain ⟨f0, fd0, ds0, m0, kp0, G0, b0, v0⟩ := c0
  obtain ⟨f1, fd1, ds1, m1, kp1, G1, b1, v1⟩ := c1
  obtain ⟨f2, fd2, ds2, m2, kp2, G2, b2, v2⟩ := c2
  have hu64 := hr.units
  exact (pss_cons (ps_if (pt_cmpR op_eq (pe_op op_mod (pe_call G0 hr (by rfl) m0 kp0 b0 v0 pass0 (pa_cons (pv 0) (pa_cons pe_int pa_nil))) pe_int) pe_int (nomark _)) (pss_one (ps_ret (pe_call G1 hr (by rfl) m1 kp1 b1 v1 pass0 (pa_cons (pv 1) (pa_cons (pe_lst (pa_cons (pe_callB cr_abs (by rfl) (T.free 60 rfl) (by decide +kernel) (pa_cons (pe_call G0 hr (by rfl) m0 kp0 b0 v0 pass0 (pa_cons (pv 0) (pa_cons (pv 2) pa_nil))) pa_nil)) pa_nil)) (pa_cons (pe_op op_sub (pv 3) (pv 2)) pa_nil)))))) pss_nil)
    (pss_cons (ps_set (i := 4) sc_law_table.nd rfl (by first | exact Or.inl rfl | exact Or.inr rfl) (pe_listRg rfl (by rfl) (T.free 49 rfl) (prg_1 (by rfl) (T.free 54 rfl) (pe_op op_mul (pe_ix ix_tup (pv 1) pe_int (fun _ _ => rfl)) (pe_ix ix_tup (pv 1) pe_int (fun _ _ => rfl))))))
    (pss_cons (ps_set (i := 5) sc_law_table.nd rfl (by first | exact Or.inl rfl | exact Or.inr rfl) (pe_listRg rfl (by rfl) (T.free 49 rfl) (prg_1 (by rfl) (T.free 54 rfl) (pe_op op_mul (pe_ix ix_tup (pv 1) pe_int (fun _ _ => rfl)) (pe_ix ix_tup (pv 1) pe_int (fun _ _ => rfl))))))
    (pss_cons (ps_set (i := 6) sc_law_table.nd rfl (by first | exact Or.inl rfl | exact Or.inr rfl) (pe_call G2 hr (by rfl) m2 kp2 b2 v2 pass0 (pa_cons (pe_call G0 hr (by rfl) m0 kp0 b0 v0 pass0 (pa_cons (pv 0) (pa_cons pe_int pa_nil))) (pa_cons pe_int pa_nil))))
    (pss_cons (ps_set (i := 7) sc_law_table.nd rfl (by first | exact Or.inl rfl | exact Or.inr rfl) (pe_ix ix_list (pe_lst (pa_cons pe_int (pa_cons pe_int (pa_cons pe_int (pa_cons pe_int pa_nil))))) (pe_op op_mod (pv 6) pe_int) (fun _ _ => rfl)))
    (pss_cons (ps_set (i := 8) sc_law_table.nd rfl (by first | exact Or.inl rfl | exact Or.inr rfl) (pe_ix ix_list (pe_lst (pa_cons pe_int (pa_cons pe_int (pa_cons pe_int (pa_cons pe_int pa_nil))))) (pe_op op_mod (pe_op op_fdiv (pv 6) pe_int) pe_int) (fun _ _ => rfl)))
    (pss_cons (ps_set (i := 9) sc_law_table.nd rfl (by first | exact Or.inl rfl | exact Or.inr rfl) (pe_lst pa_nil))
    (pss_cons (ps_for PassesOwn.never rfl (pi_range2 (by rfl) (T.free 54 rfl) (pa_cons (pv 2) (pa_cons (pe_callB (cr_min2 rfl) (by rfl) (T.free 59 rfl) (by decide +kernel) (pa_cons (pe_callB cr_lenQ (by rfl) (T.free 51 rfl) (by decide +kernel) (pa_cons (pv 0) pa_nil)) (pa_cons (pv 3) pa_nil))) pa_nil))) (pg_name (i := 10) sc_law_table.nd rfl (by first | exact Or.inl rfl | exact Or.inr rfl)) (pss_one (ps_if (PW.pt (pw_and (pt_cmpR (op_neD hu64) (pv 4) (pe_lst pa_nil) (nomark _)) (pw_and1 (pt_cmpR (op_neD hu64) (pv 5) (pe_lst pa_nil) (nomark _))))) (pss_cons (ps_set (i := 11) sc_law_table.nd rfl (by first | exact Or.inl rfl | exact Or.inr rfl) (pe_call G2 hr (by rfl) m2 kp2 b2 v2 pass0 (pa_cons (pe_ix ix_list (pv 0) (pv 10) (fun _ _ => rfl)) (pa_cons (pv 10) pa_nil))))
    (pss_cons (ps_set (i := 12) sc_law_table.nd rfl (by first | exact Or.inl rfl | exact Or.inr rfl) (pe_bm PySem.F.plainAttrs_list PySem.F.slot_list_pop PySem.F.type_list_pop mt_popAt (pv 4) (pa_cons (pe_op op_mod (pv 11) (pe_callB (cr_min2 rfl) (by rfl) (T.free 59 rfl) (by decide +kernel) (pa_cons (pe_callB cr_lenQ (by rfl) (T.free 51 rfl) (by decide +kernel) (pa_cons (pv 4) pa_nil)) (pa_cons (pv 7) pa_nil)))) pa_nil)))
    (pss_one (ps_expr (pe_bm PySem.F.plainAttrs_list PySem.F.slot_list_append PySem.F.type_list_append mt_append (pv 9) (pa_cons (pe_tup (pa_cons (pv 12) (pa_cons (pe_bm PySem.F.plainAttrs_list PySem.F.slot_list_pop PySem.F.type_list_pop mt_popAt (pv 5) (pa_cons (pe_op op_mod (pe_op op_fdiv (pv 11) pe_int) (pe_callB (cr_min2 rfl) (by rfl) (T.free 59 rfl) (by decide +kernel) (pa_cons (pe_callB cr_lenQ (by rfl) (T.free 51 rfl) (by decide +kernel) (pa_cons (pv 5) pa_nil)) (pa_cons (pv 8) pa_nil)))) pa_nil)) pa_nil))) pa_nil)))))) pss_nil)))
    (pss_one (ps_ret (pv 9)))))))))))
/-! ### _law_rising -/
def names_law_rising : List Str := ["_law_some", "_law_most", "_law_last", "_law_one"]
def t_law_rising (K : PySem.W.Frag) (sp_law_whole : Sp) : TS :=
  (tSeq (tIfS (tNot (tB (tCB (rIsi K) (tCons (tVar 0) (tCons (tC (.ty "list")) tNil))))) (tRet (tC (.bl false))) tNext)
    (tSeq (tAsg (tUn (rU fun i => .int (-i)) (tC (.int 1))) (gName 2))
    (tSeq (tFor (iList K (tVar 0)) (gName 3) (tSeq (tIfS (tOr (tNot (tB (tCall sp_law_whole [] E0 (tCons (tVar 3) tNil)))) (tOr (tTest (tOp rLeI (tVar 3) (tVar 2))) (tTest (tOp rGeI (tVar 3) (tVar 1))))) (tRet (tC (.bl false))) tNext)
    (tAsg (tVar 3) (gName 2))))
    (tRet (tC (.bl true))))))
theorem sc_law_rising : FnScope names_law_rising ["_law_some", "_law_most"] (defScope s_law_rising) := ⟨rfl, rfl, rfl, by decide +kernel, rfl, by decide +kernel, by decide +kernel⟩
theorem ok_law_rising {sp sp_law_whole : Sp} {lv : Nat} (T : Tp K mg) (c0 : Cal P w K mg base CX0 lv "_law_whole" ["_law_found"] [] sp_law_whole) (len : ∀ vs H Q E, sp vs H Q E → vs.length = 2)
    (pure : ∀ vs H Q E, sp vs H Q E → t_law_rising K sp_law_whole { nx := fun _ H' => Q .non H', rt := Q } (L2.start names_law_rising vs) H) : Cal P w K mg base CX0 (lv + 1) "_law_rising" ["_law_some", "_law_most"] [] sp := by
  obtain ⟨fd, F⟩ := T.def_ 35 (d := d_law_rising) rfl
  refine ⟨_, fd, [], T.glo 35 rfl, F.kp, FunD.ok (k := lv) F sc_law_rising len fun cdv A outer s H vs Q E hr h => ⟨_, PSs.nox ?_, pure vs H Q E h⟩, F.bindsN (fun _ _ _ _ _ _ us hl => match us, hl with | [_, _], _ => rfl), .nil⟩
  obtain ⟨f0, fd0, ds0, m0, kp0, G0, b0, v0⟩ := c0
  exact (pss_cons (ps_if (pt_not (pt_val (pe_callB call_isi (by rfl) (T.free 46 rfl) (by decide +kernel) (pa_cons (pv 0) (pa_cons (pe_bltn (v := .ty "list") (by rfl) (T.free 49 rfl) (by decide +kernel) rfl) pa_nil))))) (pss_one (ps_ret pe_bl)) pss_nil)
    (pss_cons (ps_set (i := 2) sc_law_rising.nd rfl (by first | exact Or.inl rfl | exact Or.inr rfl) (pe_un un_neg pe_int))
    (pss_cons (ps_for PassesOwn.never rfl (pi_list (pv 0)) (pg_name (i := 3) sc_law_rising.nd rfl (by first | exact Or.inl rfl | exact Or.inr rfl)) (pss_cons (ps_if (PW.pt (pw_or (pt_not (pt_val (pe_call G0 hr (by rfl) m0 kp0 b0 v0 pass0 (pa_cons (pv 3) pa_nil)))) (pw_or (pt_cmpR op_le (pv 3) (pv 2) (nomark _)) (pw_or1 (pt_cmpR op_ge (pv 3) (pv 1) (nomark _)))))) (pss_one (ps_ret pe_bl)) pss_nil)
    (pss_one (ps_set (i := 2) sc_law_rising.nd rfl (by first | exact Or.inl rfl | exact Or.inr rfl) (pv 3)))))
    (pss_one (ps_ret pe_bl)))))
/-! ### _law_paper -/
def names_law_paper : List Str := ["_law_paper_here"]
def t_law_paper (K : PySem.W.Frag) (sp_law_rising : Sp) : TS :=
  (tSeq (tIfS (tOr (tNot (tB (tCB (rIsi K) (tCons (tVar 0) (tCons (tC (.ty "tuple")) tNil))))) (tTest (tOp rNe (tCB (rLenQ K) (tCons (tVar 0) tNil)) (tC (.int 2))))) (tRet (tC (.bl false))) tNext)
    (tRet (tAndV (tCall sp_law_rising [] E0 (tCons (tOp (rIxT K) (tVar 0) (tC (.int 0))) (tCons (tC (.int 32)) tNil))) (tCall sp_law_rising [] E0 (tCons (tOp (rIxT K) (tVar 0) (tC (.int 1))) (tCons (tC (.int 32)) tNil))))))
theorem sc_law_paper : FnScope names_law_paper ["_law_paper_here"] (defScope s_law_paper) := ⟨rfl, rfl, rfl, by decide +kernel, rfl, by decide +kernel, by decide +kernel⟩
theorem ok_law_paper {sp sp_law_rising : Sp} {lv : Nat} (T : Tp K mg) (c0 : Cal P w K mg base CX0 lv "_law_rising" ["_law_some", "_law_most"] [] sp_law_rising) (len : ∀ vs H Q E, sp vs H Q E → vs.length = 1)
    (pure : ∀ vs H Q E, sp vs H Q E → t_law_paper K sp_law_rising { nx := fun _ H' => Q .non H', rt := Q } (L2.start names_law_paper vs) H) : Cal P w K mg base CX0 (lv + 1) "_law_paper" ["_law_paper_here"] [] sp := by
  obtain ⟨fd, F⟩ := T.def_ 36 (d := d_law_paper) rfl
  refine ⟨_, fd, [], T.glo 36 rfl, F.kp, FunD.ok (k := lv) F sc_law_paper len fun cdv A outer s H vs Q E hr h => ⟨_, PSs.nox ?_, pure vs H Q E h⟩, F.bindsN (fun _ _ _ _ _ _ us hl => match us, hl with | [_], _ => rfl), .nil⟩
  obtain ⟨f0, fd0, ds0, m0, kp0, G0, b0, v0⟩ := c0
  exact (pss_cons (ps_if (PW.pt (pw_or (pt_not (pt_val (pe_callB call_isi (by rfl) (T.free 46 rfl) (by decide +kernel) (pa_cons (pv 0) (pa_cons (pe_bltn (v := .ty "tuple") (by rfl) (T.free 50 rfl) (by decide +kernel) rfl) pa_nil))))) (pw_or1 (pt_cmpR op_ne (pe_callB cr_lenQ (by rfl) (T.free 51 rfl) (by decide +kernel) (pa_cons (pv 0) pa_nil)) pe_int (nomark _))))) (pss_one (ps_ret pe_bl)) pss_nil)
    (pss_one (ps_ret (pe_and (pe_call G0 hr (by rfl) m0 kp0 b0 v0 pass0 (pa_cons (pe_ix ix_tup (pv 0) pe_int (fun _ _ => rfl)) (pa_cons pe_int pa_nil))) (pe_one (pe_call G0 hr (by rfl) m0 kp0 b0 v0 pass0 (pa_cons (pe_ix ix_tup (pv 0) pe_int (fun _ _ => rfl)) (pa_cons pe_int pa_nil))))))))
/-! ### _law_beside -/
def names_law_beside : List Str := ["_law_pairs", "_law_paper_here", "_law_many", "_law_pair"]
def t_law_beside (K : PySem.W.Frag) : TS :=
  (tSeq (tAsg (tC (.int 0)) (gName 2))
    (tSeq (tFor (iList K (tVar 0)) (gName 3) (tIfS (tAnd (tTest (tOp (rIn K true) (tOp (rIxT K) (tVar 3) (tC (.int 0))) (tOp (rIxT K) (tVar 1) (tC (.int 0))))) (tTest (tOp (rIn K true) (tOp (rIxT K) (tVar 3) (tC (.int 1))) (tOp (rIxT K) (tVar 1) (tC (.int 1)))))) (tAsg (tOp rAddI (tVar 2) (tC (.int 1))) (gName 2)) tNext))
    (tRet (tVar 2))))
theorem sc_law_beside : FnScope names_law_beside ["_law_pairs", "_law_paper_here"] (defScope s_law_beside) := ⟨rfl, rfl, rfl, by decide +kernel, rfl, by decide +kernel, by decide +kernel⟩
theorem ok_law_beside {sp : Sp} {lv : Nat} (T : Tp K mg) (len : ∀ vs H Q E, sp vs H Q E → vs.length = 2)
    (pure : ∀ vs H Q E, sp vs H Q E → t_law_beside K { nx := fun _ H' => Q .non H', rt := Q } (L2.start names_law_beside vs) H) : Cal P w K mg base CX0 (lv + 1) "_law_beside" ["_law_pairs", "_law_paper_here"] [] sp := by
  obtain ⟨fd, F⟩ := T.def_ 37 (d := d_law_beside) rfl
  refine ⟨_, fd, [], T.glo 37 rfl, F.kp, FunD.ok (k := lv) F sc_law_beside len fun cdv A outer s H vs Q E hr h => ⟨_, PSs.nox ?_, pure vs H Q E h⟩, F.bindsN (fun _ _ _ _ _ _ us hl => match us, hl with | [_, _], _ => rfl), .nil⟩
  exact (pss_cons (ps_set (i := 2) sc_law_beside.nd rfl (by first | exact Or.inl rfl | exact Or.inr rfl) pe_int)
    (pss_cons (ps_for PassesOwn.never rfl (pi_list (pv 0)) (pg_name (i := 3) sc_law_beside.nd rfl (by first | exact Or.inl rfl | exact Or.inr rfl)) (pss_one (ps_if (PW.pt (pw_and (pt_cmpR op_notIn_seq (pe_ix ix_tup (pv 3) pe_int (fun _ _ => rfl)) (pe_ix ix_tup (pv 1) pe_int (fun _ _ => rfl)) (by rfl)) (pw_and1 (pt_cmpR op_notIn_seq (pe_ix ix_tup (pv 3) pe_int (fun _ _ => rfl)) (pe_ix ix_tup (pv 1) pe_int (fun _ _ => rfl)) (by rfl))))) (pss_one (ps_set (i := 2) sc_law_beside.nd rfl (by first | exact Or.inl rfl | exact Or.inr rfl) (pe_op op_add (pv 2) pe_int))) pss_nil)))
    (pss_one (ps_ret (pv 2)))))
/-! ### _law_answer -/
def names_law_answer : List Str := ["_law_hall_here", "_law_table_here", "_law_shut", "_law_told", "_law_handed", "_law_found"]
def t_law_answer (K : PySem.W.Frag) (sp_as_many : Sp) : TS :=
  (tSeq (tAsg (tCB (rListL K) (tCons (tVar 1) tNil)) (gName 4))
    (tSeq (tIfS (tB (tVar 3)) (tAsg (tCall sp_as_many [] E0 (tCons (tVar 0) (tCons (tVar 4) (tCons (tVar 2) tNil)))) (gName 5)) (tAsg (tCall sp_as_many [.int 0] E0 (tCons (tVar 0) (tCons (tVar 4) tNil))) (gName 5)))
    (tSeq (tIfS (tOr (tTest (tOp (rNeD K) (tVar 4) (tVar 1))) (tOr (tNot (tB (tCB (rIsi K) (tCons (tVar 5) (tCons (tC (.ty "tuple")) tNil))))) (tTest (tOp rNe (tCB (rLenQ K) (tCons (tVar 5) tNil)) (tC (.int 3)))))) (tRet (tC .non)) tNext)
    (tRet (tVar 5)))))
theorem sc_law_answer : FnScope names_law_answer ["_law_hall_here", "_law_table_here", "_law_shut", "_law_told"] (defScope s_law_answer) := ⟨rfl, rfl, rfl, by decide +kernel, rfl, by decide +kernel, by decide +kernel⟩
theorem ok_law_answer {sp sp_as_many : Sp} {lv : Nat} (T : Tp K mg) (c0 : Cal P w K mg base (L2.CX P w) lv "as_many" ["hall", "table", "shut"] [] sp_as_many) (c1 : Cal P w K mg base (L2.CX P w) lv "as_many" ["hall", "table", "shut"] [.int 0] sp_as_many) (len : ∀ vs H Q E, sp vs H Q E → vs.length = 4)
    (pure : ∀ vs H Q E, sp vs H Q E → t_law_answer K sp_as_many { nx := fun _ H' => Q .non H', rt := Q } (L2.start names_law_answer vs) H) : Cal P w K mg base CX0 (lv + 1) "_law_answer" ["_law_hall_here", "_law_table_here", "_law_shut", "_law_told"] [] sp := by
  obtain ⟨fd, F⟩ := T.def_ 38 (d := d_law_answer) rfl
  refine ⟨_, fd, [], T.glo 38 rfl, F.kp, FunD.ok (k := lv) F sc_law_answer len fun cdv A outer s H vs Q E hr h => ⟨_, PSs.nox ?_, pure vs H Q E h⟩, F.bindsN (fun _ _ _ _ _ _ us hl => match us, hl with | [_, _, _, _], _ => rfl), .nil⟩
  obtain ⟨f0, fd0, ds0, m0, kp0, G0, b0, v0⟩ := c0
  obtain ⟨f1, fd1, ds1, m1, kp1, G1, b1, v1⟩ := c1
  have hu64 := hr.units
  exact (pss_cons (ps_set (i := 4) sc_law_answer.nd rfl (by first | exact Or.inl rfl | exact Or.inr rfl) (pe_callTy cr_listL (by rfl) (T.free 49 rfl) (by decide +kernel) (pa_cons (pv 1) pa_nil)))
    (pss_cons (ps_if (pt_val (pv 3)) (pss_one (ps_set (i := 5) sc_law_answer.nd rfl (by first | exact Or.inl rfl | exact Or.inr rfl) (pe_call G0 hr (by rfl) m0 kp0 b0 v0 passX (pa_cons (pv 0) (pa_cons (pv 4) (pa_cons (pv 2) pa_nil)))))) (pss_one (ps_set (i := 5) sc_law_answer.nd rfl (by first | exact Or.inl rfl | exact Or.inr rfl) (pe_call G1 hr (by rfl) m1 kp1 b1 v1 passX (pa_cons (pv 0) (pa_cons (pv 4) pa_nil))))))
    (pss_cons (ps_if (PW.pt (pw_or (pt_cmpR (op_neD hu64) (pv 4) (pv 1) (nomark _)) (pw_or (pt_not (pt_val (pe_callB call_isi (by rfl) (T.free 46 rfl) (by decide +kernel) (pa_cons (pv 5) (pa_cons (pe_bltn (v := .ty "tuple") (by rfl) (T.free 50 rfl) (by decide +kernel) rfl) pa_nil))))) (pw_or1 (pt_cmpR op_ne (pe_callB cr_lenQ (by rfl) (T.free 51 rfl) (by decide +kernel) (pa_cons (pv 5) pa_nil)) pe_int (nomark _)))))) (pss_one (ps_ret pe_non)) pss_nil)
    (pss_one (ps_ret (pv 5))))))
/-! ### _law_calls_right -/
def names_law_calls_right : List Str := ["_law_hall_here", "_law_calls", "_law_table_here", "_law_shut", "_law_seen", "_law_last", "_law_call", "_law_lines"]
def t_law_calls_right (K : PySem.W.Frag) (sp_law_whole : Sp) : TS :=
  (tSeq (tIfS (tNot (tB (tCB (rIsi K) (tCons (tVar 1) (tCons (tC (.ty "list")) tNil))))) (tRet (tC (.bl false))) tNext)
    (tSeq (tAsg tDNewT (gName 4))
    (tSeq (tAsg (tUn (rU fun i => .int (-i)) (tC (.int 1))) (gName 5))
    (tSeq (tFor (iList K (tVar 1)) (gName 6) (tSeq (tIfS (tOr (tNot (tB (tCB (rIsi K) (tCons (tVar 6) (tCons (tC (.ty "tuple")) tNil))))) (tOr (tTest (tOp rNe (tCB (rLenQ K) (tCons (tVar 6) tNil)) (tC (.int 3)))) (tOr (tNot (tB (tCB (rIsi K) (tCons (tOp (rIxT K) (tVar 6) (tC (.int 1))) (tCons (tC (.ty "tuple")) tNil))))) (tTest (tOp rNe (tCB (rLenQ K) (tCons (tOp (rIxT K) (tVar 6) (tC (.int 1))) tNil)) (tC (.int 1))))))) (tRet (tC (.bl false))) tNext)
    (tSeq (tIfS (tOr (tNot (tB (tCall sp_law_whole [] E0 (tCons (tOp (rIxT K) (tVar 6) (tC (.int 0))) tNil)))) (tOr (tNot (tB (tCall sp_law_whole [] E0 (tCons (tOp (rIxT K) (tOp (rIxT K) (tVar 6) (tC (.int 1))) (tC (.int 0))) tNil)))) (tNot (tB (tCall sp_law_whole [] E0 (tCons (tOp (rIxT K) (tVar 6) (tC (.int 2))) tNil)))))) (tRet (tC (.bl false))) tNext)
    (tSeq (tIfS (tOr (tTest (tOp rLeI (tOp (rIxT K) (tVar 6) (tC (.int 0))) (tVar 5))) (tOr (tTest (tOp (rNotInD K) (tTup (tCons (tOp (rIxT K) (tVar 6) (tC (.int 0))) (tCons (tOp (rIxT K) (tOp (rIxT K) (tVar 6) (tC (.int 1))) (tC (.int 0))) tNil))) (tVar 2))) (tOr (tTest (tOp rLtI (tOp (rIxT K) (tVar 6) (tC (.int 2))) (tC (.int 0)))) (tTest (tOp rGeI (tOp (rIxT K) (tVar 6) (tC (.int 2))) (tOp (rIxT K) (tVar 0) (tC (.int 2)))))))) (tRet (tC (.bl false))) tNext)
    (tSeq (tAsg (tOp (rIxT K) (tVar 6) (tC (.int 0))) (gName 5))
    (tSeq (tAsg (tLst (tCons (tTup (tCons (tC (.int 0)) (tCons (tOp rDivI (tOp (rIxT K) (tVar 6) (tC (.int 0))) (tOp (rIxT K) (tVar 0) (tC (.int 1)))) (tCons (tOp (rIxT K) (tVar 6) (tC (.int 2))) tNil)))) (tCons (tTup (tCons (tC (.int 1)) (tCons (tOp rDivI (tOp (rIxT K) (tOp (rIxT K) (tVar 6) (tC (.int 1))) (tC (.int 0))) (tOp (rIxT K) (tVar 0) (tC (.int 4)))) (tCons (tOp (rIxT K) (tVar 6) (tC (.int 2))) tNil)))) tNil))) (gName 7))
    (tSeq (tIfS (tOr (tB (tDIn (tOp (rIxL K) (tVar 7) (tC (.int 0))) (tVar 4))) (tOr (tB (tDIn (tOp (rIxL K) (tVar 7) (tC (.int 1))) (tVar 4))) (tTest (tOp rEq (tOp rModI (tOp rShrI (tVar 3) (tOp (rIxT K) (tVar 6) (tC (.int 2)))) (tC (.int 2))) (tC (.int 1)))))) (tRet (tC (.bl false))) tNext)
    (tSeq (sDPut (tVar 4) (tOp (rIxL K) (tVar 7) (tC (.int 0))) (tC (.bl true)))
    (sDPut (tVar 4) (tOp (rIxL K) (tVar 7) (tC (.int 1))) (tC (.bl true)))))))))))
    (tRet (tC (.bl true)))))))
theorem sc_law_calls_right : FnScope names_law_calls_right ["_law_hall_here", "_law_calls", "_law_table_here", "_law_shut"] (defScope s_law_calls_right) := ⟨rfl, rfl, rfl, by decide +kernel, rfl, by decide +kernel, by decide +kernel⟩
theorem ok_law_calls_right {sp sp_law_whole : Sp} {lv : Nat} (T : Tp K mg) (c0 : Cal P w K mg base CX0 lv "_law_whole" ["_law_found"] [] sp_law_whole) (len : ∀ vs H Q E, sp vs H Q E → vs.length = 4)
    (pure : ∀ vs H Q E, sp vs H Q E → t_law_calls_right K sp_law_whole { nx := fun _ H' => Q .non H', rt := Q } (L2.start names_law_calls_right vs) H) : Cal P w K mg base CX0 (lv + 1) "_law_calls_right" ["_law_hall_here", "_law_calls", "_law_table_here", "_law_shut"] [] sp := by
  obtain ⟨fd, F⟩ := T.def_ 39 (d := d_law_calls_right) rfl
  refine ⟨_, fd, [], T.glo 39 rfl, F.kp, FunD.ok (k := lv) F sc_law_calls_right len fun cdv A outer s H vs Q E hr h => ⟨_, PSs.nox ?_, pure vs H Q E h⟩, F.bindsN (fun _ _ _ _ _ _ us hl => match us, hl with | [_, _, _, _], _ => rfl), .nil⟩
  obtain ⟨f0, fd0, ds0, m0, kp0, G0, b0, v0⟩ := c0
  have hu := hu_of hr
  have hu65 := hu65_of hr
  exact (pss_cons (ps_if (pt_not (pt_val (pe_callB call_isi (by rfl) (T.free 46 rfl) (by decide +kernel) (pa_cons (pv 1) (pa_cons (pe_bltn (v := .ty "list") (by rfl) (T.free 49 rfl) (by decide +kernel) rfl) pa_nil))))) (pss_one (ps_ret pe_bl)) pss_nil)
    (pss_cons (ps_set (i := 4) sc_law_calls_right.nd rfl (by first | exact Or.inl rfl | exact Or.inr rfl) pe_dnewT)
    (pss_cons (ps_set (i := 5) sc_law_calls_right.nd rfl (by first | exact Or.inl rfl | exact Or.inr rfl) (pe_un un_neg pe_int))
    (pss_cons (ps_for PassesOwn.never rfl (pi_list (pv 1)) (pg_name (i := 6) sc_law_calls_right.nd rfl (by first | exact Or.inl rfl | exact Or.inr rfl)) (pss_cons (ps_if (PW.pt (pw_or (pt_not (pt_val (pe_callB call_isi (by rfl) (T.free 46 rfl) (by decide +kernel) (pa_cons (pv 6) (pa_cons (pe_bltn (v := .ty "tuple") (by rfl) (T.free 50 rfl) (by decide +kernel) rfl) pa_nil))))) (pw_or (pt_cmpR op_ne (pe_callB cr_lenQ (by rfl) (T.free 51 rfl) (by decide +kernel) (pa_cons (pv 6) pa_nil)) pe_int (nomark _)) (pw_or (pt_not (pt_val (pe_callB call_isi (by rfl) (T.free 46 rfl) (by decide +kernel) (pa_cons (pe_ix ix_tup (pv 6) pe_int (fun _ _ => rfl)) (pa_cons (pe_bltn (v := .ty "tuple") (by rfl) (T.free 50 rfl) (by decide +kernel) rfl) pa_nil))))) (pw_or1 (pt_cmpR op_ne (pe_callB cr_lenQ (by rfl) (T.free 51 rfl) (by decide +kernel) (pa_cons (pe_ix ix_tup (pv 6) pe_int (fun _ _ => rfl)) pa_nil)) pe_int (nomark _))))))) (pss_one (ps_ret pe_bl)) pss_nil)
    (pss_cons (ps_if (PW.pt (pw_or (pt_not (pt_val (pe_call G0 hr (by rfl) m0 kp0 b0 v0 pass0 (pa_cons (pe_ix ix_tup (pv 6) pe_int (fun _ _ => rfl)) pa_nil)))) (pw_or (pt_not (pt_val (pe_call G0 hr (by rfl) m0 kp0 b0 v0 pass0 (pa_cons (pe_ix ix_tup (pe_ix ix_tup (pv 6) pe_int (fun _ _ => rfl)) pe_int (fun _ _ => rfl)) pa_nil)))) (pw_or1 (pt_not (pt_val (pe_call G0 hr (by rfl) m0 kp0 b0 v0 pass0 (pa_cons (pe_ix ix_tup (pv 6) pe_int (fun _ _ => rfl)) pa_nil)))))))) (pss_one (ps_ret pe_bl)) pss_nil)
    (pss_cons (ps_if (PW.pt (pw_or (pt_cmpR op_le (pe_ix ix_tup (pv 6) pe_int (fun _ _ => rfl)) (pv 5) (nomark _)) (pw_or (pt_cmpR (op_notInD hu65) (pe_tup (pa_cons (pe_ix ix_tup (pv 6) pe_int (fun _ _ => rfl)) (pa_cons (pe_ix ix_tup (pe_ix ix_tup (pv 6) pe_int (fun _ _ => rfl)) pe_int (fun _ _ => rfl)) pa_nil))) (pv 2) (by rfl)) (pw_or (pt_cmpR op_lt (pe_ix ix_tup (pv 6) pe_int (fun _ _ => rfl)) pe_int (nomark _)) (pw_or1 (pt_cmpR op_ge (pe_ix ix_tup (pv 6) pe_int (fun _ _ => rfl)) (pe_ix ix_tup (pv 0) pe_int (fun _ _ => rfl)) (nomark _))))))) (pss_one (ps_ret pe_bl)) pss_nil)
    (pss_cons (ps_set (i := 5) sc_law_calls_right.nd rfl (by first | exact Or.inl rfl | exact Or.inr rfl) (pe_ix ix_tup (pv 6) pe_int (fun _ _ => rfl)))
    (pss_cons (ps_set (i := 7) sc_law_calls_right.nd rfl (by first | exact Or.inl rfl | exact Or.inr rfl) (pe_lst (pa_cons (pe_tup (pa_cons pe_int (pa_cons (pe_op op_fdiv (pe_ix ix_tup (pv 6) pe_int (fun _ _ => rfl)) (pe_ix ix_tup (pv 0) pe_int (fun _ _ => rfl))) (pa_cons (pe_ix ix_tup (pv 6) pe_int (fun _ _ => rfl)) pa_nil)))) (pa_cons (pe_tup (pa_cons pe_int (pa_cons (pe_op op_fdiv (pe_ix ix_tup (pe_ix ix_tup (pv 6) pe_int (fun _ _ => rfl)) pe_int (fun _ _ => rfl)) (pe_ix ix_tup (pv 0) pe_int (fun _ _ => rfl))) (pa_cons (pe_ix ix_tup (pv 6) pe_int (fun _ _ => rfl)) pa_nil)))) pa_nil))))
    (pss_cons (ps_if (PW.pt (pw_or (pt_cmp (pc_din hu (pe_ix ix_list (pv 7) pe_int (fun _ _ => rfl)) (pv 4))) (pw_or (pt_cmp (pc_din hu (pe_ix ix_list (pv 7) pe_int (fun _ _ => rfl)) (pv 4))) (pw_or1 (pt_cmpR op_eq (pe_op op_mod (pe_op op_shr (pv 3) (pe_ix ix_tup (pv 6) pe_int (fun _ _ => rfl))) pe_int) pe_int (nomark _)))))) (pss_one (ps_ret pe_bl)) pss_nil)
    (pss_cons (ps_dput hu (pv 4) (pe_ix ix_list (pv 7) pe_int (fun _ _ => rfl)) pe_bl rfl)
    (pss_one (ps_dput hu (pv 4) (pe_ix ix_list (pv 7) pe_int (fun _ _ => rfl)) pe_bl rfl))))))))))
    (pss_one (ps_ret pe_bl))))))
end
end XR
-- KDer7
set_option Elab.async false
set_option linter.all false
set_option maxRecDepth 100000
set_option maxHeartbeats 4000000
namespace XR
open PySem PySem.Spec PyProof.Rows L2
section
variable {P : Program} {w : World} {K : PySem.W.Frag} {mg : Str → Option Value} {base : Heap}
/-! ### law -/
def names_law : List Str := ["_law_script", "_law_hall_here", "_law_table_here", "_law_left", "_law_told", "_law_shut", "_law_found", "_law_joined_ones", "_law_many", "_law_pairs", "_law_racks", "_law_cut", "_law_call", "_law_caller", "_law_entry", "_law_k"]
def t_law (K : PySem.W.Frag) (sp_law_cell_at sp_law_hall sp_law_table sp_law_mixed sp_law_no_table sp_law_answer sp_law_calls_right sp_law_paper sp_law_rising sp_law_beside : Sp) : TS :=
  (tSeq (tAsg (tCall sp_law_hall [] E0 (tCons (tCall sp_law_cell_at [] E0 (tCons (tVar 0) (tCons (tC (.int 0)) tNil))) tNil)) (gName 1))
    (tSeq (tAsg (tCall sp_law_table [] E0 (tCons (tVar 0) (tCons (tVar 1) (tCons (tC (.int 4)) (tCons (tC (.int 63)) tNil))))) (gName 2))
    (tSeq (tAsg (tLst (tCons (tCall sp_law_mixed [] E0 (tCons (tCall sp_law_cell_at [] E0 (tCons (tVar 0) (tCons (tC (.int 3)) tNil))) (tCons (tC (.int 5)) tNil))) tNil)) (gName 3))
    (tSeq (tIfS (tTest (tOp rEq (tOp rModI (tCall sp_law_cell_at [] E0 (tCons (tVar 0) (tCons (tC (.int 0)) tNil))) (tC (.int 2))) (tC (.int 0)))) (tAsg (tLst (tCons (tCB rAbs (tCons (tCall sp_law_cell_at [] E0 (tCons (tVar 0) (tCons (tC (.int 6)) tNil))) tNil)) tNil)) (gName 3)) tNext)
    (tSeq (tIfS (tNot (tB (tCall sp_law_no_table [] E0 (tCons (tVar 1) (tCons (tVar 2) (tCons (tVar 3) tNil)))))) (tRet (tC (.bl false))) tNext)
    (tSeq (tAsg (tOp rEq (tOp rModI (tCall sp_law_cell_at [] E0 (tCons (tVar 0) (tCons (tC (.int 2)) tNil))) (tC (.int 3))) (tC (.int 0))) (gName 4))
    (tSeq (tAsg (tC (.int 0)) (gName 5))
    (tSeq (tIfS (tB (tVar 4)) (tSeq (tAsg (tOp rModI (tCall sp_law_mixed [] E0 (tCons (tCall sp_law_cell_at [] E0 (tCons (tVar 0) (tCons (tC (.int 3)) tNil))) (tCons (tC (.int 3)) tNil))) (tOp rShlI (tC (.int 1)) (tOp (rIxT K) (tVar 1) (tC (.int 2))))) (gName 5))
    (tIfS (tTest (tOp rEq (tOp rModI (tCall sp_law_cell_at [] E0 (tCons (tVar 0) (tCons (tC (.int 0)) tNil))) (tC (.int 2))) (tC (.int 0)))) (tAsg (tOp rModI (tCB rAbs (tCons (tCall sp_law_cell_at [] E0 (tCons (tVar 0) (tCons (tC (.int 3)) tNil))) tNil)) (tOp rShlI (tC (.int 1)) (tOp (rIxT K) (tVar 1) (tC (.int 2))))) (gName 5)) tNext)) tNext)
    (tSeq (tAsg (tCall sp_law_answer [] E0 (tCons (tVar 1) (tCons (tVar 2) (tCons (tVar 5) (tCons (tVar 4) tNil))))) (gName 6))
    (tSeq (tIfS (tOr (tTest (tOp rIsN (tVar 6) (tC .non))) (tOr (tNot (tB (tCall sp_law_calls_right [] E0 (tCons (tVar 1) (tCons (tOp (rIxT K) (tVar 6) (tC (.int 0))) (tCons (tVar 2) (tCons (tVar 5) tNil))))))) (tNot (tB (tCall sp_law_paper [] E0 (tCons (tOp (rIxT K) (tVar 6) (tC (.int 2))) tNil)))))) (tRet (tC (.bl false))) tNext)
    (tSeq (tAsg (tLc (iList K (tOp (rIxT K) (tVar 6) (tC (.int 0)))) (gName 12) tYes (tOp (rIxT K) (tVar 12) (tC (.int 0))) [12]) (gName 7))
    (tSeq (tAsg (tLc (iList K (tCB (rSortedI K) (tCons (tLc (iList K (tVar 2)) (gName 14) tYes (tOp (rIxT K) (tVar 14) (tC (.int 0))) [14]) tNil))) (gName 13) (tTest (tOp (rIn K true) (tVar 13) (tVar 7))) (tVar 13) [13]) (gName 3))
    (tSeq (tIfS (tOr (tNot (tB (tCall sp_law_rising [] E0 (tCons (tOp (rIxT K) (tVar 6) (tC (.int 1))) (tCons (tOp rMulI (tOp (rIxT K) (tVar 1) (tC (.int 0))) (tOp (rIxT K) (tVar 1) (tC (.int 1)))) tNil))))) (tTest (tOp (rNeD K) (tOp (rIxT K) (tVar 6) (tC (.int 1))) (tVar 3)))) (tRet (tC (.bl false))) tNext)
    (tSeq (tAsg (tCB (rLenQ K) (tCons (tLc (iRng1 (tCons (tOp (rIxT K) (tVar 1) (tC (.int 2))) tNil)) (gName 15) (tTest (tOp rEq (tOp rModI (tOp rShrI (tVar 5) (tVar 15)) (tC (.int 2))) (tC (.int 0)))) (tVar 15) [15]) tNil)) (gName 8))
    (tSeq (tAsg (tLc (iList K (tVar 2)) (gName 14) tYes (tTup (tCons (tOp rDivI (tOp (rIxT K) (tVar 14) (tC (.int 0))) (tOp (rIxT K) (tVar 1) (tC (.int 1)))) (tCons (tOp rDivI (tOp (rIxT K) (tVar 14) (tC (.int 1))) (tOp (rIxT K) (tVar 1) (tC (.int 4)))) tNil))) [14]) (gName 9))
    (tSeq (tAsg (tOp rAddI (tCB (rLenQ K) (tCons (tOp (rIxT K) (tOp (rIxT K) (tVar 6) (tC (.int 2))) (tC (.int 0))) tNil)) (tCB (rLenQ K) (tCons (tOp (rIxT K) (tOp (rIxT K) (tVar 6) (tC (.int 2))) (tC (.int 1))) tNil))) (gName 10))
    (tSeq (tIfS (tTest (tOp rNe (tCB (rLenQ K) (tCons (tOp (rIxT K) (tVar 6) (tC (.int 0))) tNil)) (tOp rAddI (tOp rMulI (tVar 8) (tVar 10)) (tCall sp_law_beside [] E0 (tCons (tVar 9) (tCons (tOp (rIxT K) (tVar 6) (tC (.int 2))) tNil)))))) (tRet (tC (.bl false))) tNext)
    (tSeq (tAsg (tOp rModI (tCall sp_law_cell_at [] E0 (tCons (tVar 0) (tCons (tC (.int 5)) tNil))) (tOp rAddI (tCB (rLenQ K) (tCons (tVar 2) tNil)) (tC (.int 1)))) (gName 11))
    (tSeq (tIfS (tTest (tOp (rNeD K) (tCall sp_law_answer [] E0 (tCons (tVar 1) (tCons (tOp rCat (tSl (rSlL K) (tVar 2) (tPart (tVar 11)) tNoPart) (tSl (rSlL K) (tVar 2) tNoPart (tPart (tVar 11)))) (tCons (tVar 5) (tCons (tVar 4) tNil))))) (tVar 6))) (tRet (tC (.bl false))) tNext)
    (tRet (tOp (rEqD K) (tCall sp_law_answer [] E0 (tCons (tVar 1) (tCons (tListRev K (tVar 2)) (tCons (tVar 5) (tCons (tVar 4) tNil))))) (tVar 6))))))))))))))))))))))
theorem sc_law : FnScope names_law ["_law_script"] (defScope s_law) := ⟨rfl, rfl, rfl, by decide +kernel, rfl, by decide +kernel, by decide +kernel⟩
theorem fn_law {sp sp_law_cell_at sp_law_hall sp_law_table sp_law_mixed sp_law_no_table sp_law_answer sp_law_calls_right sp_law_paper sp_law_rising sp_law_beside : Sp} {lv : Nat} {fd : FuncData} (F : FunD K d_law.name d_law.qual d_law.params d_law.body d_law.scope (d_law.dvs K) (d_law.kws K) (He.fAd K d_law.at_) fd) (T : Tp K mg) (c0 : Cal P w K mg base CX0 lv "_law_cell_at" ["_law_script", "_law_k"] [] sp_law_cell_at) (c1 : Cal P w K mg base CX0 lv "_law_hall" ["_law_cell"] [] sp_law_hall) (c2 : Cal P w K mg base CX0 lv "_law_table" ["_law_script", "_law_hall_here", "_law_start", "_law_last"] [] sp_law_table) (c3 : Cal P w K mg base CX0 lv "_law_mixed" ["_law_cell", "_law_k"] [] sp_law_mixed) (c4 : Cal P w K mg base CX0 lv "_law_no_table" ["_law_hall_here", "_law_table_here", "_law_left"] [] sp_law_no_table) (c5 : Cal P w K mg base CX0 lv "_law_answer" ["_law_hall_here", "_law_table_here", "_law_shut", "_law_told"] [] sp_law_answer) (c6 : Cal P w K mg base CX0 lv "_law_calls_right" ["_law_hall_here", "_law_calls", "_law_table_here", "_law_shut"] [] sp_law_calls_right) (c7 : Cal P w K mg base CX0 lv "_law_paper" ["_law_paper_here"] [] sp_law_paper) (c8 : Cal P w K mg base CX0 lv "_law_rising" ["_law_some", "_law_most"] [] sp_law_rising) (c9 : Cal P w K mg base CX0 lv "_law_beside" ["_law_pairs", "_law_paper_here"] [] sp_law_beside) (len : ∀ vs H Q E, sp vs H Q E → vs.length = 1)
    (pure : ∀ vs H Q E, sp vs H Q E → t_law K sp_law_cell_at sp_law_hall sp_law_table sp_law_mixed sp_law_no_table sp_law_answer sp_law_calls_right sp_law_paper sp_law_rising sp_law_beside { nx := fun _ H' => Q .non H', rt := Q } (L2.start names_law vs) H) : FnOk P w K mg base CX0 (lv + 1) (He.fAd K d_law.at_) fd ["_law_script"] sp := by
  refine FunD.ok (k := lv) F sc_law len fun cdv A outer s H vs Q E hr h => ⟨_, PSs.nox ?_, pure vs H Q E h⟩
  obtain ⟨f0, fd0, ds0, m0, kp0, G0, b0, v0⟩ := c0
  obtain ⟨f1, fd1, ds1, m1, kp1, G1, b1, v1⟩ := c1
  obtain ⟨f2, fd2, ds2, m2, kp2, G2, b2, v2⟩ := c2
  obtain ⟨f3, fd3, ds3, m3, kp3, G3, b3, v3⟩ := c3
  obtain ⟨f4, fd4, ds4, m4, kp4, G4, b4, v4⟩ := c4
  obtain ⟨f5, fd5, ds5, m5, kp5, G5, b5, v5⟩ := c5
  obtain ⟨f6, fd6, ds6, m6, kp6, G6, b6, v6⟩ := c6
  obtain ⟨f7, fd7, ds7, m7, kp7, G7, b7, v7⟩ := c7
  obtain ⟨f8, fd8, ds8, m8, kp8, G8, b8, v8⟩ := c8
  obtain ⟨f9, fd9, ds9, m9, kp9, G9, b9, v9⟩ := c9
  have hu64 := hr.units
  exact (pss_cons (ps_set (i := 1) sc_law.nd rfl (by first | exact Or.inl rfl | exact Or.inr rfl) (pe_call G1 hr (by rfl) m1 kp1 b1 v1 pass0 (pa_cons (pe_call G0 hr (by rfl) m0 kp0 b0 v0 pass0 (pa_cons (pv 0) (pa_cons pe_int pa_nil))) pa_nil)))
    (pss_cons (ps_set (i := 2) sc_law.nd rfl (by first | exact Or.inl rfl | exact Or.inr rfl) (pe_call G2 hr (by rfl) m2 kp2 b2 v2 pass0 (pa_cons (pv 0) (pa_cons (pv 1) (pa_cons pe_int (pa_cons pe_int pa_nil))))))
    (pss_cons (ps_set (i := 3) sc_law.nd rfl (by first | exact Or.inl rfl | exact Or.inr rfl) (pe_lst (pa_cons (pe_call G3 hr (by rfl) m3 kp3 b3 v3 pass0 (pa_cons (pe_call G0 hr (by rfl) m0 kp0 b0 v0 pass0 (pa_cons (pv 0) (pa_cons pe_int pa_nil))) (pa_cons pe_int pa_nil))) pa_nil)))
    (pss_cons (ps_if (pt_cmpR op_eq (pe_op op_mod (pe_call G0 hr (by rfl) m0 kp0 b0 v0 pass0 (pa_cons (pv 0) (pa_cons pe_int pa_nil))) pe_int) pe_int (nomark _)) (pss_one (ps_set (i := 3) sc_law.nd rfl (by first | exact Or.inl rfl | exact Or.inr rfl) (pe_lst (pa_cons (pe_callB cr_abs (by rfl) (T.free 60 rfl) (by decide +kernel) (pa_cons (pe_call G0 hr (by rfl) m0 kp0 b0 v0 pass0 (pa_cons (pv 0) (pa_cons pe_int pa_nil))) pa_nil)) pa_nil)))) pss_nil)
    (pss_cons (ps_if (pt_not (pt_val (pe_call G4 hr (by rfl) m4 kp4 b4 v4 pass0 (pa_cons (pv 1) (pa_cons (pv 2) (pa_cons (pv 3) pa_nil)))))) (pss_one (ps_ret pe_bl)) pss_nil)
    (pss_cons (ps_set (i := 4) sc_law.nd rfl (by first | exact Or.inl rfl | exact Or.inr rfl) (pe_cmpR op_eq (pe_op op_mod (pe_call G0 hr (by rfl) m0 kp0 b0 v0 pass0 (pa_cons (pv 0) (pa_cons pe_int pa_nil))) pe_int) pe_int (nomark _)))
    (pss_cons (ps_set (i := 5) sc_law.nd rfl (by first | exact Or.inl rfl | exact Or.inr rfl) pe_int)
    (pss_cons (ps_if (pt_val (pv 4)) (pss_cons (ps_set (i := 5) sc_law.nd rfl (by first | exact Or.inl rfl | exact Or.inr rfl) (pe_op op_mod (pe_call G3 hr (by rfl) m3 kp3 b3 v3 pass0 (pa_cons (pe_call G0 hr (by rfl) m0 kp0 b0 v0 pass0 (pa_cons (pv 0) (pa_cons pe_int pa_nil))) (pa_cons pe_int pa_nil))) (pe_op op_shl pe_int (pe_ix ix_tup (pv 1) pe_int (fun _ _ => rfl)))))
    (pss_one (ps_if (pt_cmpR op_eq (pe_op op_mod (pe_call G0 hr (by rfl) m0 kp0 b0 v0 pass0 (pa_cons (pv 0) (pa_cons pe_int pa_nil))) pe_int) pe_int (nomark _)) (pss_one (ps_set (i := 5) sc_law.nd rfl (by first | exact Or.inl rfl | exact Or.inr rfl) (pe_op op_mod (pe_callB cr_abs (by rfl) (T.free 60 rfl) (by decide +kernel) (pa_cons (pe_call G0 hr (by rfl) m0 kp0 b0 v0 pass0 (pa_cons (pv 0) (pa_cons pe_int pa_nil))) pa_nil)) (pe_op op_shl pe_int (pe_ix ix_tup (pv 1) pe_int (fun _ _ => rfl)))))) pss_nil))) pss_nil)
    (pss_cons (ps_set (i := 6) sc_law.nd rfl (by first | exact Or.inl rfl | exact Or.inr rfl) (pe_call G5 hr (by rfl) m5 kp5 b5 v5 pass0 (pa_cons (pv 1) (pa_cons (pv 2) (pa_cons (pv 5) (pa_cons (pv 4) pa_nil))))))
    (pss_cons (ps_if (PW.pt (pw_or (pt_cmpR op_isN (pv 6) pe_non (nomark _)) (pw_or (pt_not (pt_val (pe_call G6 hr (by rfl) m6 kp6 b6 v6 pass0 (pa_cons (pv 1) (pa_cons (pe_ix ix_tup (pv 6) pe_int (fun _ _ => rfl)) (pa_cons (pv 2) (pa_cons (pv 5) pa_nil))))))) (pw_or1 (pt_not (pt_val (pe_call G7 hr (by rfl) m7 kp7 b7 v7 pass0 (pa_cons (pe_ix ix_tup (pv 6) pe_int (fun _ _ => rfl)) pa_nil)))))))) (pss_one (ps_ret pe_bl)) pss_nil)
    (pss_cons (ps_set (i := 7) sc_law.nd rfl (by first | exact Or.inl rfl | exact Or.inr rfl) (pe_lc (own := [("_law_call", 12)]) (g := (gName 12)) (tt := tYes) (by rfl) sc_law.nd (pi_list (pe_ix ix_tup (pv 6) pe_int (fun _ _ => rfl))) (blkOk_by (own := [("_law_call", 12)]) (N := names_law) (sc := defScope s_law) (by decide +kernel)) (fun _ _ _ _ _ => (pg_name (i := 12) sc_law.nd rfl (by first | exact Or.inl rfl | exact Or.inr rfl))) (fun _ _ _ _ _ => pts_nil) (fun _ _ _ _ _ => (pe_ix ix_tup (pv 12) pe_int (fun _ _ => rfl)))))
    (pss_cons (ps_setLc (i := 3) (own := [("_law_caller", 13)]) (g := (gName 13)) (tt := (tTest (tOp (rIn K true) (tVar 13) (tVar 7)))) (by rfl) sc_law.nd rfl rfl (sw_true rfl rfl rfl (by decide +kernel)) (pi_list (pe_callB cr_sortedI (by rfl) (T.free 57 rfl) (by decide +kernel) (pa_cons (pe_lc (own := [("_law_entry", 14)]) (g := (gName 14)) (tt := tYes) (by rfl) sc_law.nd (pi_list (pv 2)) (blkOk_by (own := [("_law_entry", 14)]) (N := names_law) (sc := defScope s_law) (by decide +kernel)) (fun _ _ _ _ _ => (pg_name (i := 14) sc_law.nd rfl (by first | exact Or.inl rfl | exact Or.inr rfl))) (fun _ _ _ _ _ => pts_nil) (fun _ _ _ _ _ => (pe_ix ix_tup (pv 14) pe_int (fun _ _ => rfl)))) pa_nil))) (blkOk_by (own := [("_law_caller", 13)]) (N := names_law) (sc := defScope s_law) (by decide +kernel)) (fun _ _ _ _ _ => (pg_name (i := 13) sc_law.nd rfl (by first | exact Or.inl rfl | exact Or.inr rfl))) (fun _ _ _ _ _ => (pts_one (pt_cmpR op_notIn_seq (pv 13) (pv 7) (by rfl)))) (fun _ _ _ _ _ => (pv 13)))
    (pss_cons (ps_if (PW.pt (pw_or (pt_not (pt_val (pe_call G8 hr (by rfl) m8 kp8 b8 v8 pass0 (pa_cons (pe_ix ix_tup (pv 6) pe_int (fun _ _ => rfl)) (pa_cons (pe_op op_mul (pe_ix ix_tup (pv 1) pe_int (fun _ _ => rfl)) (pe_ix ix_tup (pv 1) pe_int (fun _ _ => rfl))) pa_nil))))) (pw_or1 (pt_cmpR (op_neD hu64) (pe_ix ix_tup (pv 6) pe_int (fun _ _ => rfl)) (pv 3) (nomark _))))) (pss_one (ps_ret pe_bl)) pss_nil)
    (pss_cons (ps_set (i := 8) sc_law.nd rfl (by first | exact Or.inl rfl | exact Or.inr rfl) (pe_callB cr_lenQ (by rfl) (T.free 51 rfl) (by decide +kernel) (pa_cons (pe_lc (own := [("_law_k", 15)]) (g := (gName 15)) (tt := (tTest (tOp rEq (tOp rModI (tOp rShrI (tVar 5) (tVar 15)) (tC (.int 2))) (tC (.int 0))))) (by rfl) sc_law.nd (pi_range1 (by rfl) (T.free 54 rfl) (pa_cons (pe_ix ix_tup (pv 1) pe_int (fun _ _ => rfl)) pa_nil)) (blkOk_by (own := [("_law_k", 15)]) (N := names_law) (sc := defScope s_law) (by decide +kernel)) (fun _ _ _ _ _ => (pg_name (i := 15) sc_law.nd rfl (by first | exact Or.inl rfl | exact Or.inr rfl))) (fun _ _ _ _ _ => (pts_one (pt_cmpR op_eq (pe_op op_mod (pe_op op_shr (pv 5) (pv 15)) pe_int) pe_int (nomark _)))) (fun _ _ _ _ _ => (pv 15))) pa_nil)))
    (pss_cons (ps_setLc (i := 9) (own := [("_law_entry", 14)]) (g := (gName 14)) (tt := tYes) (by rfl) sc_law.nd rfl rfl (sw_true rfl rfl rfl (by decide +kernel)) (pi_list (pv 2)) (blkOk_by (own := [("_law_entry", 14)]) (N := names_law) (sc := defScope s_law) (by decide +kernel)) (fun _ _ _ _ _ => (pg_name (i := 14) sc_law.nd rfl (by first | exact Or.inl rfl | exact Or.inr rfl))) (fun _ _ _ _ _ => pts_nil) (fun _ _ _ _ _ => (pe_tup (pa_cons (pe_op op_fdiv (pe_ix ix_tup (pv 14) pe_int (fun _ _ => rfl)) (pe_ix ix_tup (pv 1) pe_int (fun _ _ => rfl))) (pa_cons (pe_op op_fdiv (pe_ix ix_tup (pv 14) pe_int (fun _ _ => rfl)) (pe_ix ix_tup (pv 1) pe_int (fun _ _ => rfl))) pa_nil)))))
    (pss_cons (ps_set (i := 10) sc_law.nd rfl (by first | exact Or.inl rfl | exact Or.inr rfl) (pe_op op_add (pe_callB cr_lenQ (by rfl) (T.free 51 rfl) (by decide +kernel) (pa_cons (pe_ix ix_tup (pe_ix ix_tup (pv 6) pe_int (fun _ _ => rfl)) pe_int (fun _ _ => rfl)) pa_nil)) (pe_callB cr_lenQ (by rfl) (T.free 51 rfl) (by decide +kernel) (pa_cons (pe_ix ix_tup (pe_ix ix_tup (pv 6) pe_int (fun _ _ => rfl)) pe_int (fun _ _ => rfl)) pa_nil))))
    (pss_cons (ps_if (pt_cmpR op_ne (pe_callB cr_lenQ (by rfl) (T.free 51 rfl) (by decide +kernel) (pa_cons (pe_ix ix_tup (pv 6) pe_int (fun _ _ => rfl)) pa_nil)) (pe_op op_add (pe_op op_mul (pv 8) (pv 10)) (pe_call G9 hr (by rfl) m9 kp9 b9 v9 pass0 (pa_cons (pv 9) (pa_cons (pe_ix ix_tup (pv 6) pe_int (fun _ _ => rfl)) pa_nil)))) (nomark _)) (pss_one (ps_ret pe_bl)) pss_nil)
    (pss_cons (ps_set (i := 11) sc_law.nd rfl (by first | exact Or.inl rfl | exact Or.inr rfl) (pe_op op_mod (pe_call G0 hr (by rfl) m0 kp0 b0 v0 pass0 (pa_cons (pv 0) (pa_cons pe_int pa_nil))) (pe_op op_add (pe_callB cr_lenQ (by rfl) (T.free 51 rfl) (by decide +kernel) (pa_cons (pv 2) pa_nil)) pe_int)))
    (pss_cons (ps_if (pt_cmpR (op_neD hu64) (pe_call G5 hr (by rfl) m5 kp5 b5 v5 pass0 (pa_cons (pv 1) (pa_cons (pe_op op_cat (pe_slice sl_list (pv 2) (po_some (pv 11)) po_none) (pe_slice sl_list (pv 2) po_none (po_some (pv 11)))) (pa_cons (pv 5) (pa_cons (pv 4) pa_nil))))) (pv 6) (nomark _)) (pss_one (ps_ret pe_bl)) pss_nil)
    (pss_one (ps_ret (pe_cmpR (op_eqD hu64) (pe_call G5 hr (by rfl) m5 kp5 b5 v5 pass0 (pa_cons (pv 1) (pa_cons (pe_listrev rfl (by rfl) (T.free 49 rfl) (by rfl) (T.free 61 rfl) (pv 2)) (pa_cons (pv 5) (pa_cons (pv 4) pa_nil))))) (pv 6) (nomark _)))))))))))))))))))))))
end
end XR
-- KRead6
set_option Elab.async false
set_option linter.all false
set_option maxRecDepth 100000
set_option maxHeartbeats 1000000
/-! the readings of the law's small defs -/
namespace XR
open PySem PySem.Spec PyProof.Rows L2 XM
section
variable {K : PySem.W.Frag} {H0 H : Hp} {M : List Addr} {L L' : Fp} {ds : List (Option D)} {P : D → Fp → Prop} {α : Type}
theorem ea_neg {te : TE} (h : Ea K H0 M te ds L fun x L1 => ∃ i, x = .int i ∧ P (.int (-i)) L1) : Ea K H0 M (tUn (rU fun i => .int (-i)) te) ds L P :=
  ea_un (ea_to h fun x L1 ⟨i, e, p⟩ => ⟨i, .int (-i), e, fun _ => rfl, p⟩)
theorem erase_map (f : α → D) : ∀ (l : List α) (j : Nat), (l.map f).eraseIdx j = (l.eraseIdx j).map f
  | [], _ => rfl
  | _ :: _, 0 => rfl
  | x :: l, j + 1 => by
    rw [List.map_cons, List.eraseIdx_cons_succ, List.eraseIdx_cons_succ, List.map_cons, erase_map f l j]
theorem rm_popAtN {a : Addr} {l : List α} {f : α → D} {j : Nat} {x : α} (hj : l[j]? = some x) (hz : l.length < 100000) (hu : Up L a (.lst (l.map f)) (.lst ((l.eraseIdx j).map f)) L') (k : P (f x) L') : Rm K H0 M rPopAt (.ref a) [.int (j : Nat)] L P :=
  rm_popAt (xs := l.map f) (d := f x) (by rw [List.getElem?_map, hj]; rfl) (by rw [List.length_map]; exact hz) (by rw [erase_map]; exact hu) k
end
theorem perm_erase {α : Type} {x : α} : ∀ {l : List α} {j : Nat}, l[j]? = some x → l.Perm (x :: l.eraseIdx j)
  | [], _, h => by simp at h
  | y :: l, 0, h => by
    rw [List.getElem?_cons_zero] at h
    rw [Option.some.inj h]
    exact List.Perm.refl _
  | y :: l, j + 1, h => by
    rw [List.getElem?_cons_succ] at h
    rw [List.eraseIdx_cons_succ]
    exact ((perm_erase h).cons y).trans (List.Perm.swap x y _)
def A_cell : List D → Fp → (D → Nw → Prop) → Prop := fun xs L P => ∃ (a : Addr) (ns : List Int) (k : Nat), xs = [.ref a, dN k] ∧ L = [(a, false, .sc (ns.map D.int))] ∧ P (.int (ns.getD k 0)) []
theorem rd_cell_at {K : PySem.W.Frag} : ∀ vs H Q E, SpP K A_cell vs H Q E → t_law_cell_at K { nx := fun _ H' => Q .non H', rt := Q } (L2.start names_law_cell_at vs) H := fun vs H Q E => spP_body fun H0 xs L P => by
  rintro ⟨a, ns, k, rfl, rfl, hp⟩
  refine tr_seq (tr_if (et_test (ea_op (ea_var rfl (ea_cb (el_cons (ea_var rfl (el_nil (rc_len (by repeat (first | exact At.lst | exact At.ro | exact At.sc | apply At.tl)) (rb_ltN ⟨_, rfl, cndD (fun h => ?_) (fun h => tr_next ?_)⟩))))))))))
  · rw [List.length_map] at h
    have hx : ns[k]? = some ns[k] := List.getElem?_eq_getElem h
    rw [List.getD_eq_getElem?_getD, hx] at hp
    exact tr_ret (ea_op (ea_var rfl (ea_var rfl (rb_ixN (f := D.int) (by repeat (first | exact At.lst | exact At.ro | exact At.sc | apply At.tl)) hx ⟨[], hp, rfl, (by repeat (first | exact List.Sublist.refl _ | apply List.Sublist.cons_cons | exact List.nil_sublist _ | apply List.Sublist.cons))⟩))))
  · rw [List.length_map] at h
    rw [List.getD_eq_getElem?_getD, List.getElem?_eq_none (by omega)] at hp
    exact tr_ret (ea_int ⟨[], hp, rfl, (by repeat (first | exact List.Sublist.refl _ | apply List.Sublist.cons_cons | exact List.nil_sublist _ | apply List.Sublist.cons))⟩)
def mixed (c : Int) (k : Nat) : Nat := ((c % 1000003).toNat + k * k + 1) * 48271 % 2147483647
def A_mixed : List D → Fp → (D → Nw → Prop) → Prop := fun xs L P => ∃ (c : Int) (k : Nat), xs = [.int c, dN k] ∧ L = [] ∧ k < 1000000 ∧ P (dN (mixed c k)) []
theorem rd_mixed {K : PySem.W.Frag} : ∀ vs H Q E, SpP K A_mixed vs H Q E → t_law_mixed K { nx := fun _ H' => Q .non H', rt := Q } (L2.start names_law_mixed vs) H := fun vs H Q E => spP_body fun H0 xs L P => by
  rintro ⟨c, k, rfl, rfl, hk, hp⟩
  have e : c % 1000003 = (((c % 1000003).toNat : Nat) : Int) := by omega
  refine tr_ret (ea_op (ea_op (ea_op (ea_op (ea_op (ea_var rfl (ea_int (rb_mod (by decide) ?_))))))))
  rw [e]
  refine ea_op (ea_var rfl (ea_var rfl (rb_mulN hk (rb_addN (ea_int (rb_addN (n := 1) (ea_int (rb_mul (.inr (by constructor <;> decide)) ?_))))))))
  have e2 : ((((c % 1000003).toNat + k * k + 1 : Nat) : Int)) * 48271 = ((((c % 1000003).toNat + k * k + 1) * 48271 : Nat) : Int) := by omega
  rw [e2]
  exact ea_int (rb_modN (n := 2147483647) (by decide) ⟨[], hp, rfl, (by repeat (first | exact List.Sublist.refl _ | apply List.Sublist.cons_cons | exact List.nil_sublist _ | apply List.Sublist.cons))⟩)
def A_whole : List D → Fp → (D → Nw → Prop) → Prop := fun xs L P => ∃ i : Int, xs = [.int i] ∧ L = [] ∧ P (.bl true) []
theorem rd_whole {K : PySem.W.Frag} : ∀ vs H Q E, SpP K A_whole vs H Q E → t_law_whole K { nx := fun _ H' => Q .non H', rt := Q } (L2.start names_law_whole vs) H := fun vs H Q E => spP_body fun H0 xs L P => by
  rintro ⟨i, rfl, rfl, hp⟩
  exact tr_ret (ea_andV (ea_cb (el_cons (ea_var rfl (el_cons (ea_ty (el_nil (rc_isi (.int i) (.ty _) kit_ii ⟨_, rfl, cndT (ea_notV (ea_cb (el_cons (ea_var rfl (el_cons (ea_ty (el_nil (rc_isi (.int i) (.ty _) kit_ib ⟨_, rfl, [], hp, rfl, (by repeat (first | exact List.Sublist.refl _ | apply List.Sublist.cons_cons | exact List.nil_sublist _ | apply List.Sublist.cons))⟩))))))))⟩))))))))
def A_digit : List D → Addr → O → Fp → (D → O → Nw → Prop) → Prop := fun xs m o L P => ∃ (v n : Nat), xs = [.ref m, dN n] ∧ o = .lst ([v].map dN) ∧ L = [] ∧ 0 < n ∧ n < 1000000 ∧ P (dN (v % n)) (.lst ([v / n].map dN)) []
theorem rd_digit {K : PySem.W.Frag} : ∀ vs H Q E, SpM K A_digit vs H Q E → t_law_digit K { nx := fun _ H' => Q .non H', rt := Q } (L2.start names_law_digit vs) H := fun vs H Q E => spM_body fun H0 xs m o L P => by
  rintro ⟨v, n, rfl, rfl, rfl, h0, h1, hp⟩
  refine tr_seq (tr_set (ea_op (ea_op (ea_var rfl (ea_int (rb_ixN (f := dN) (l := [v]) (n := 0) (by repeat (first | exact At.lst | exact At.ro | exact At.sc | apply At.tl)) rfl (ea_var rfl (rb_modN h0 ?_))))))))
  refine tr_seq (tr_setN dN (ea_op (ea_op (ea_var rfl (ea_int (rb_ixN (f := dN) (l := [v]) (n := 0) (by repeat (first | exact At.lst | exact At.ro | exact At.sc | apply At.tl)) rfl (ea_var rfl (rb_divN h0 h1 (ea_var rfl (ea_int ⟨m, [v], 0, v / n, _, rfl, rfl, rfl, (by repeat (first | exact Up.hd | apply Up.tl)), Nat.one_pos, ?_⟩))))))))))
  exact tr_ret (ea_var rfl ⟨_, [], hp, rfl, (by repeat (first | exact List.Sublist.refl _ | apply List.Sublist.cons_cons | exact List.nil_sublist _ | apply List.Sublist.cons))⟩)
def A_hall : List D → Fp → (D → Nw → Prop) → Prop := fun xs L P => ∃ c : Int, xs = [.int c] ∧ L = [] ∧ ∀ h, HallOk h → P (dH h) []
theorem rd_hall {K : PySem.W.Frag} : ∀ vs H Q E, SpP K A_hall vs H Q E → t_law_hall K (SpM K A_digit) (SpP K A_mixed) { nx := fun _ H' => Q .non H', rt := Q } (L2.start names_law_hall vs) H := fun vs H Q E => spP_body fun H0 xs L P => by
  rintro ⟨c, rfl, rfl, hp⟩
  refine tr_seq (tr_if (et_test (ea_op (ea_op (ea_var rfl (ea_int (rb_mod (by decide) (ea_int (rb_eqI ⟨_, rfl, cndD (fun h => ?_) (fun h => tr_next ?_)⟩)))))))))
  · refine tr_seq (tr_set (ea_lst (el_cons (ea_op (ea_cb (el_cons (ea_var rfl (el_nil (rc_abs (ea_int (rb_div (by decide) (by decide) (el_nil ⟨by show 1 ≤ 1000; decide, fun p => ?_⟩))))))))))))
    have e : (if c < 0 then -c else c) / 2 = (((if c < 0 then -c else c) / 2).toNat : Nat) := by split <;> omega
    rw [e]
    generalize ((if c < 0 then -c else c) / 2).toNat = v
    refine tr_ret (ea_cb (el_cons (ea_lc (gw_name (by simp)) (ai_tup (ea_tup (el_cons (ea_int (el_cons (ea_int (el_cons (ea_int (el_cons (ea_int (el_cons (ea_int (el_nil ⟨by show 5 ≤ 1000; decide, [12, 12, 24, 12, 12].map dN, rfl, fun q => ⟨fun i L => ∃ (v : Nat) (acc : List Nat), L = [(p, true, O.lst ([v].map dN)), (q, true, .lst (acc.map dN))] ∧ acc.length = i ∧ ∀ (j x : Nat), acc[j]? = some x → 1 ≤ x ∧ x ≤ 24, ?_, ?_, ?_, ?_⟩⟩))))))))))))))))
    · exact ⟨v, [], rfl, rfl, fun j x h => by simp at h⟩
    · intro i L _ _
      trivial
    · rintro i L hi ⟨v, acc, rfl, hl, hb⟩
      have hi : i < [12, 12, 24, 12, 12].length := hi
      obtain ⟨n, h1, h2, h3⟩ := step_at (f := dN) hi
      show Ag K H0 [] (gName 5) (([12, 12, 24, 12, 12].map dN).getD i .non) _ _ _
      rw [h3]
      have hn : n = 12 ∨ n = 24 := by
        have := List.mem_of_getElem? h1
        simp at this
        omega
      refine ag_name (et_yes (cndT (ea_op (ea_int (ea_callM (dd := []) (fun _ => rfl) (el_cons (ea_var rfl (el_cons (ea_var rfl (el_nil ⟨p, .lst ([v].map dN), [], fun d o' N => d = dN (v % n) ∧ o' = .lst ([v / n].map dN) ∧ N = [], (by repeat (first | refine Sm.here (by repeat (first | exact Sb.nil | refine Sb.keep (by first | exact Wk.rfl | exact Wk.ro | exact Wk.rT | exact Wk.rF) ?_ | apply Sb.skip)) (by repeat (first | exact hc_nil | refine hc_cons ?_ rfl)) | refine Sm.keep (by first | exact Wk.rfl | exact Wk.ro | exact Wk.rT | exact Wk.rF) rfl ?_ | apply Sm.skip)), ⟨rfl, rfl⟩, ⟨v, n, rfl, rfl, rfl, by omega, by omega, rfl, rfl, rfl⟩, ?_⟩))))))))))
      rintro d o' N ⟨rfl, rfl, rfl⟩
      refine ⟨⟨rfl, rfl⟩, _, (by repeat (first | exact Up.hd | apply Up.tl)), rb_addN (m := 1) ⟨acc.map dN, [(p, true, O.lst ([v / n].map dN)), (q, true, .lst ((acc ++ [1 + v % n]).map dN))], ?_, ?_, v / n, acc ++ [1 + v % n], rfl, by rw [List.length_append, hl]; rfl, fun j x hx => ?_⟩⟩
      · rw [List.map_append]
        exact (by repeat (first | exact Up.hd | apply Up.tl))
      · rw [List.length_map, hl]
        have : i < 5 := hi
        omega
      · by_cases hj : j < acc.length
        · rw [List.getElem?_append_left hj] at hx
          exact hb j x hx
        · rw [List.getElem?_append_right (by omega)] at hx
          have hx2 : x = 1 + v % n := by
            cases hjj : j - acc.length with
            | zero => rw [hjj] at hx; exact (Option.some.inj hx).symm
            | succ k => rw [hjj] at hx; cases hx
          have := Nat.mod_lt v (show 0 < n by omega)
          omega
    · rintro L ⟨v, acc, rfl, hl, hb⟩
      have hl : acc.length = 5 := hl
      match acc, hl, hb with
      | [x0, x1, x2, x3, x4], _, hb =>
        refine el_nil (rc_tupleL (by repeat (first | exact At.lst | exact At.ro | exact At.sc | apply At.tl)) ⟨[], hp ⟨x0, x1, x2, x3, x4⟩ ⟨hb 0 x0 rfl, hb 1 x1 rfl, hb 2 x2 rfl, hb 3 x3 rfl, hb 4 x4 rfl⟩, rfl, (by repeat (first | exact List.Sublist.refl _ | apply List.Sublist.cons_cons | exact List.nil_sublist _ | apply List.Sublist.cons))⟩)
  · refine tr_seq (tr_set (ea_callP (dd := []) (fun _ => rfl) (el_cons (ea_var rfl (el_cons (ea_int (el_nil ⟨[], fun d N => d = dN (mixed c 0) ∧ N = [], .nil, ⟨c, 0, rfl, rfl, by decide, rfl, rfl⟩, ?_⟩)))))))
    rintro d N ⟨rfl, rfl⟩
    generalize mixed c 0 = n
    refine tr_seq (tr_if (et_test (ea_op (ea_op (ea_var rfl (ea_int (rb_modN (n := 5) (by decide) (ea_int (rb_eqN (n := 2) ⟨_, rfl, cndD (fun h => ?_) (fun h => tr_next ?_)⟩)))))))))
    · refine tr_seq (tr_set (ea_tup (el_cons (ea_op (ea_int (ea_op (ea_op (ea_var rfl (ea_int (rb_divN (n := 5) (by decide) (by decide) (ea_int (rb_modN (n := 7) (by decide) (rb_addN (m := 6) (el_cons (ea_op (ea_int (ea_op (ea_op (ea_var rfl (ea_int (rb_divN (n := 35) (by decide) (by decide) (ea_int (rb_modN (n := 7) (by decide) (rb_addN (m := 6) (el_cons (ea_op (ea_int (ea_op (ea_op (ea_var rfl (ea_int (rb_divN (n := 245) (by decide) (by decide) (ea_int (rb_modN (n := 24) (by decide) (rb_addN (m := 1) (el_nil ⟨by show 3 ≤ 1000; decide, ?_⟩))))))))))))))))))))))))))))))))))))
      refine tr_ret (ea_op (ea_var rfl (ea_tup (el_cons (ea_op (ea_int (ea_op (ea_op (ea_var rfl (ea_int (rb_divN (n := 5880) (by decide) (by decide) (ea_int (rb_modN (n := 7) (by decide) (rb_addN (m := 6) (el_cons (ea_op (ea_int (ea_op (ea_op (ea_var rfl (ea_int (rb_divN (n := 41160) (by decide) (by decide) (ea_int (rb_modN (n := 7) (by decide) (rb_addN (m := 6) (el_nil ⟨by show 2 ≤ 1000; decide, rb_catT (List.cons_ne_nil _ _) (List.cons_ne_nil _ _) (by show 3 + 2 ≤ 1000; decide) ?_⟩))))))))))))))))))))))))))
      exact ⟨[], hp ⟨6 + n / 5 % 7, 6 + n / 35 % 7, 1 + n / 245 % 24, 6 + n / 5880 % 7, 6 + n / 41160 % 7⟩ ⟨by dsimp only; omega, by dsimp only; omega, by dsimp only; omega, by dsimp only; omega, by dsimp only; omega⟩, rfl, (by repeat (first | exact List.Sublist.refl _ | apply List.Sublist.cons_cons | exact List.nil_sublist _ | apply List.Sublist.cons))⟩
    · refine tr_seq (tr_set (ea_tup (el_cons (ea_op (ea_int (ea_op (ea_op (ea_var rfl (ea_int (rb_divN (n := 5) (by decide) (by decide) (ea_int (rb_modN (n := 5) (by decide) (rb_addN (m := 1) (el_cons (ea_op (ea_int (ea_op (ea_op (ea_var rfl (ea_int (rb_divN (n := 25) (by decide) (by decide) (ea_int (rb_modN (n := 4) (by decide) (rb_addN (m := 1) (el_cons (ea_op (ea_int (ea_op (ea_op (ea_var rfl (ea_int (rb_divN (n := 100) (by decide) (by decide) (ea_int (rb_modN (n := 6) (by decide) (rb_addN (m := 1) (el_nil ⟨by show 3 ≤ 1000; decide, ?_⟩))))))))))))))))))))))))))))))))))))
      refine tr_ret (ea_op (ea_var rfl (ea_tup (el_cons (ea_op (ea_int (ea_op (ea_op (ea_var rfl (ea_int (rb_divN (n := 600) (by decide) (by decide) (ea_int (rb_modN (n := 5) (by decide) (rb_addN (m := 1) (el_cons (ea_op (ea_int (ea_op (ea_op (ea_var rfl (ea_int (rb_divN (n := 3000) (by decide) (by decide) (ea_int (rb_modN (n := 4) (by decide) (rb_addN (m := 1) (el_nil ⟨by show 2 ≤ 1000; decide, rb_catT (List.cons_ne_nil _ _) (List.cons_ne_nil _ _) (by show 3 + 2 ≤ 1000; decide) ?_⟩))))))))))))))))))))))))))
      exact ⟨[], hp ⟨1 + n / 5 % 5, 1 + n / 25 % 4, 1 + n / 100 % 6, 1 + n / 600 % 5, 1 + n / 3000 % 4⟩ ⟨by dsimp only; omega, by dsimp only; omega, by dsimp only; omega, by dsimp only; omega, by dsimp only; omega⟩, rfl, (by repeat (first | exact List.Sublist.refl _ | apply List.Sublist.cons_cons | exact List.nil_sublist _ | apply List.Sublist.cons))⟩
/-- a table that as_many takes -/
structure Valid (h : Hall) (es : List (Nat × Nat)) : Prop where
  c : ∀ p ∈ es, p.1 < h.a * h.b
  e : ∀ p ∈ es, p.2 < h.d * h.e
  nc : (es.map (·.1)).Nodup
  ne : (es.map (·.2)).Nodup
/-- a table in the making: who is in it and who is left -/
structure Mak (n : Nat) (xs rest : List Nat) : Prop where
  nd : (xs ++ rest).Nodup
  lt : ∀ x ∈ xs ++ rest, x < n
theorem Mak.start (n : Nat) : Mak n [] (List.range n) := ⟨List.nodup_range, fun x hx => List.mem_range.mp hx⟩
theorem Mak.step {n : Nat} {xs rest : List Nat} {j x : Nat} (m : Mak n xs rest) (h : rest[j]? = some x) : Mak n (xs ++ [x]) (rest.eraseIdx j) := by
  have p : (xs ++ rest).Perm (xs ++ [x] ++ rest.eraseIdx j) := by
    rw [List.append_assoc]
    exact (List.Perm.refl xs).append (perm_erase h)
  exact ⟨p.nodup_iff.mp m.nd, fun y hy => m.lt y (p.mem_iff.mpr hy)⟩
theorem Mak.valid {h : Hall} {es : List (Nat × Nat)} {r1 r2 : List Nat} (m1 : Mak (h.a * h.b) (es.map (·.1)) r1) (m2 : Mak (h.d * h.e) (es.map (·.2)) r2) : Valid h es :=
  ⟨fun p hp => m1.lt _ (List.mem_append_left _ (List.mem_map_of_mem hp)), fun p hp => m2.lt _ (List.mem_append_left _ (List.mem_map_of_mem hp)), (List.nodup_append.mp m1.nd).1, (List.nodup_append.mp m2.nd).1⟩
theorem Mak.len {n : Nat} {xs rest : List Nat} (m : Mak n xs rest) : rest.length ≤ n := by
  have h1 : (xs ++ rest).length ≤ n := by
    have := List.Nodup.length_le_of_subset (l₁ := xs ++ rest) (l₂ := List.range n) m.nd (fun x hx => List.mem_range.mpr (m.lt x hx))
    rw [List.length_range] at this
    exact this
  rw [List.length_append] at h1
  omega

theorem dN_dd (L : Fp) (x : Nat) : Dd L (dN x) (.int (x : Nat)) := .int _
def A_free : List D → Addr → O → Fp → (D → O → Nw → Prop) → Prop := fun xs m o L P => ∃ (h : Hall) (v most : Nat), xs = [dH h, .ref m, dN most] ∧ o = .lst ([v].map dN) ∧ L = [] ∧ HallOk h ∧ most ≤ 1000 ∧ ∀ es v' p, Valid h es → es.length ≤ most → P (.ref p) (.lst ([v'].map dN)) [(p, .lst (es.map dP))]
theorem hall_mul {x y : Nat} (h1 : x ≤ 24) (h2 : y ≤ 24) : x * y ≤ 576 := Nat.le_trans (Nat.mul_le_mul h1 h2) (by decide)
theorem rd_free_table {K : PySem.W.Frag} : ∀ vs H Q E, SpM K A_free vs H Q E → t_law_free_table K (SpM K A_digit) { nx := fun _ H' => Q .non H', rt := Q } (L2.start names_law_free_table vs) H := fun vs H Q E => spM_body fun H0 xs m o L P => by
  rintro ⟨h, v, most, rfl, rfl, rfl, ok, hm, hp⟩
  have ha := ok.a
  have hb := ok.b
  have hd := ok.d
  have he := ok.e
  have m1 := hall_mul ha.2 hb.2
  have m2 := hall_mul hd.2 he.2
  refine tr_seq (tr_set (ea_listRange (ea_op (ea_op (ea_var rfl (ea_int (rb_h0 (ea_op (ea_var rfl (ea_int (rb_h1 (rb_mulN (by omega) ⟨h.a * h.b, rfl, by omega, fun c => ?_⟩))))))))))))
  refine tr_seq (tr_set (ea_listRange (ea_op (ea_op (ea_var rfl (ea_int (rb_h3 (ea_op (ea_var rfl (ea_int (rb_h4 (rb_mulN (by omega) ⟨h.d * h.e, rfl, by omega, fun e => ?_⟩))))))))))))
  refine tr_seq (tr_set (ea_lst (el_nil ⟨by show 0 ≤ 1000; decide, fun f => ?_⟩)))
  refine tr_seq (tr_forR (fun i ds L => ∃ (x6 x7 : Option D) (v : Nat) (cs ns : List Nat) (es : List (Nat × Nat)), ds = [some (dH h), some (.ref m), some (dN most), some (.ref c), some (.ref e), some (.ref f), x6, x7] ∧ [(m, true, O.lst ([v].map dN)), (c, true, .lst (cs.map dN)), (e, true, .lst (ns.map dN)), (f, true, .lst (es.map dP))].Sublist L ∧
    Mak (h.a * h.b) (es.map (·.1)) cs ∧ Mak (h.d * h.e) (es.map (·.2)) ns ∧ es.length ≤ i) (el_cons (ea_callM (dd := []) (fun _ => rfl) (el_cons (ea_var rfl (el_cons (ea_op (ea_var rfl (ea_int (rb_inc (el_nil ⟨m, .lst ([v].map dN), [], fun d o' N => d = dN (v % (most + 1)) ∧ o' = .lst ([v / (most + 1)].map dN) ∧ N = [], (by repeat (first | refine Sm.here (by repeat (first | exact Sb.nil | refine Sb.keep (by first | exact Wk.rfl | exact Wk.ro | exact Wk.rT | exact Wk.rF) ?_ | apply Sb.skip)) (by repeat (first | exact hc_nil | refine hc_cons ?_ rfl)) | refine Sm.keep (by first | exact Wk.rfl | exact Wk.ro | exact Wk.rT | exact Wk.rF) rfl ?_ | apply Sm.skip)), ⟨rfl, rfl⟩, ⟨v, most + 1, rfl, rfl, rfl, by omega, by omega, rfl, rfl, rfl⟩, ?_⟩)))))))))))
  rintro d o' N ⟨rfl, rfl, rfl⟩
  have hlt := Nat.mod_lt v (show 0 < most + 1 by omega)
  refine ⟨⟨rfl, rfl⟩, _, (by repeat (first | exact Up.hd | apply Up.tl)), el_nil ⟨v % (most + 1), rfl, by omega, ?_, ?_, ?_⟩⟩
  · exact ⟨none, none, _, _, _, [], rfl, (by repeat (first | exact List.Sublist.refl _ | apply List.Sublist.cons_cons | exact List.nil_sublist _ | apply List.Sublist.cons)), Mak.start _, Mak.start _, Nat.le_refl _⟩
  · skip
    rintro i ds L hi ⟨x6, x7, v, cs, ns, es, rfl, hs, k1, k2, hl⟩
    have l1 := k1.len
    have l2 := k2.len
    refine ag_sub hs (ag_name (tr_if (et_and (et_test (ea_neNil (f := dN) (l := cs) rfl (by repeat (first | exact At.lst | exact At.ro | exact At.sc | apply At.tl)) dN_dd (fun _ => rfl) (fun _ => Nat.zero_le _) fun j => ⟨_, rfl, ?_⟩)))))
    cases cs with
    | nil => exact cndF (cndF (tr_next ⟨_, _, _, _, _, _, rfl, (by repeat (first | exact List.Sublist.refl _ | apply List.Sublist.cons_cons | exact List.nil_sublist _ | apply List.Sublist.cons)), k1, k2, by omega⟩))
    | cons c0 cs =>
    refine cndT (et_test (ea_neNil (f := dN) (l := ns) rfl (by repeat (first | exact At.lst | exact At.ro | exact At.sc | apply At.tl)) dN_dd (fun _ => rfl) (fun _ => Nat.zero_le _) fun j2 => ⟨_, rfl, ?_⟩))
    cases ns with
    | nil => exact cndF (tr_next ⟨_, _, _, _, _, _, rfl, (by repeat (first | exact List.Sublist.refl _ | apply List.Sublist.cons_cons | exact List.nil_sublist _ | apply List.Sublist.cons)), k1, k2, by omega⟩)
    | cons n0 ns =>
    refine cndT ?_
    generalize hcs : c0 :: cs = cs' at *
    generalize hns : n0 :: ns = ns' at *
    have p1 : 0 < cs'.length := by rw [← hcs]; exact Nat.succ_pos _
    have p2 : 0 < ns'.length := by rw [← hns]; exact Nat.succ_pos _
    refine tr_seq (tr_set (ea_bmL (ea_var rfl ⟨c, _, rfl, (by repeat (first | exact At.lst | exact At.ro | exact At.sc | apply At.tl)), el_cons (ea_callM (dd := []) (fun _ => rfl) (el_cons (ea_var rfl (el_cons (ea_cb (el_cons (ea_var rfl (el_nil (rc_len (by repeat (first | exact At.lst | exact At.ro | exact At.sc | apply At.tl)) (el_nil ⟨m, .lst ([v].map dN), [], fun d o' N => d = dN (v % (cs'.map dN).length) ∧ o' = .lst ([v / (cs'.map dN).length].map dN) ∧ N = [], (by repeat (first | refine Sm.here (by repeat (first | exact Sb.nil | refine Sb.keep (by first | exact Wk.rfl | exact Wk.ro | exact Wk.rT | exact Wk.rF) ?_ | apply Sb.skip)) (by repeat (first | exact hc_nil | refine hc_cons ?_ rfl)) | refine Sm.keep (by first | exact Wk.rfl | exact Wk.ro | exact Wk.rT | exact Wk.rF) rfl ?_ | apply Sm.skip)), ⟨rfl, rfl⟩, ⟨v, (cs'.map dN).length, rfl, rfl, rfl, by rw [List.length_map]; omega, by rw [List.length_map]; omega, rfl, rfl, rfl⟩, ?_⟩))))))))))⟩)))
    rintro d o' N ⟨rfl, rfl, rfl⟩
    rw [List.length_map]
    obtain ⟨x, q1⟩ : ∃ x, cs'[v % cs'.length]? = some x := ⟨_, List.getElem?_eq_getElem (Nat.mod_lt _ p1)⟩
    refine ⟨⟨rfl, rfl⟩, _, (by repeat (first | exact Up.hd | apply Up.tl)), el_nil (rm_popAtN (f := dN) (l := cs') q1 (by omega) (by repeat (first | exact Up.hd | apply Up.tl)) ?_)⟩
    refine tr_drop (ea_bmL (ea_var rfl ⟨f, _, rfl, (by repeat (first | exact At.lst | exact At.ro | exact At.sc | apply At.tl)), el_cons (ea_tup (el_cons (ea_var rfl (el_cons (ea_bmL (ea_var rfl ⟨e, _, rfl, (by repeat (first | exact At.lst | exact At.ro | exact At.sc | apply At.tl)), el_cons (ea_callM (dd := []) (fun _ => rfl) (el_cons (ea_var rfl (el_cons (ea_cb (el_cons (ea_var rfl (el_nil (rc_len (by repeat (first | exact At.lst | exact At.ro | exact At.sc | apply At.tl)) (el_nil ⟨m, .lst ([v / cs'.length].map dN), [], fun d o' N => d = dN (v / cs'.length % (ns'.map dN).length) ∧ o' = .lst ([v / cs'.length / (ns'.map dN).length].map dN) ∧ N = [], (by repeat (first | refine Sm.here (by repeat (first | exact Sb.nil | refine Sb.keep (by first | exact Wk.rfl | exact Wk.ro | exact Wk.rT | exact Wk.rF) ?_ | apply Sb.skip)) (by repeat (first | exact hc_nil | refine hc_cons ?_ rfl)) | refine Sm.keep (by first | exact Wk.rfl | exact Wk.ro | exact Wk.rT | exact Wk.rF) rfl ?_ | apply Sm.skip)), ⟨rfl, rfl⟩, ⟨v / cs'.length, (ns'.map dN).length, rfl, rfl, rfl, by rw [List.length_map]; omega, by rw [List.length_map]; omega, rfl, rfl, rfl⟩, ?_⟩))))))))))⟩))))))⟩))
    rintro d o' N ⟨rfl, rfl, rfl⟩
    rw [List.length_map]
    obtain ⟨y, q2⟩ : ∃ y, ns'[v / cs'.length % ns'.length]? = some y := ⟨_, List.getElem?_eq_getElem (Nat.mod_lt _ p2)⟩
    refine ⟨⟨rfl, rfl⟩, _, (by repeat (first | exact Up.hd | apply Up.tl)), el_nil (rm_popAtN (f := dN) (l := ns') q2 (by omega) (by repeat (first | exact Up.hd | apply Up.tl)) ?_)⟩
    refine el_nil ⟨by show 2 ≤ 1000; decide, el_nil (rm_appendN (f := dP) (x, y) (by repeat (first | exact Up.hd | apply Up.tl)) (by omega) ?_)⟩
    refine ⟨_, _, _, _, _, es ++ [(x, y)], rfl, (by repeat (first | exact List.Sublist.refl _ | apply List.Sublist.cons_cons | exact List.nil_sublist _ | apply List.Sublist.cons)), ?_, ?_, by rw [List.length_append]; show es.length + 1 ≤ _; omega⟩
    · rw [List.map_append]
      exact k1.step q1
    · rw [List.map_append]
      exact k2.step q2
  · rintro ds L ⟨x6, x7, v', cs, ns, es, rfl, hs, k1, k2, hl⟩
    refine tr_sub hs (tr_ret (ea_var rfl ?_))
    exact ⟨_, _, hp es v' f (k1.valid k2) (by omega), rfl, (by repeat (first | exact List.Sublist.refl _ | apply List.Sublist.cons_cons | exact List.nil_sublist _ | apply List.Sublist.cons))⟩
end XR
-- KRead7
set_option Elab.async false
set_option linter.all false
set_option maxRecDepth 100000
set_option maxHeartbeats 1000000
/-! the readings of the law's defs: its table, what it asks of an answer -/
namespace XR
open PySem PySem.Spec PyProof.Rows L2 XM
def A_table : List D → Fp → (D → Nw → Prop) → Prop := fun xs L P => ∃ (s : Addr) (ns : List Int) (h : Hall), xs = [.ref s, dH h, dN 4, dN 63] ∧ L = [(s, false, .sc (ns.map D.int))] ∧ ns.length ≤ 1000 ∧ HallOk h ∧ ∀ es p, Valid h es → es.length ≤ 59 → P (.ref p) [(p, .lst (es.map dP))]
section
variable {K : PySem.W.Frag} {H0 H : Hp} {M : List Addr} {L L' : Fp} {ds : List (Option D)} {P : D → Fp → Prop} {α : Type} {k : Kt}
/-- for i in range(a, b) -/
theorem tr_forR2 {tl : TA} {g : TG} {tb : TS} (I : Nat → List (Option D) → Fp → Prop) (h : El K H0 M tl ds L fun xs L1 => ∃ lo hi : Nat, xs = [.int (lo : Nat), .int (hi : Nat)] ∧ lo < 100000 ∧ hi < 100000 ∧ I 0 ds L1 ∧
      (∀ i ds L, lo + i < hi → I i ds L → Ag K H0 M g (.int ((lo + i : Nat) : Int)) ds L fun ds2 L2 => Tr K H0 M tb ds2 L2 ⟨I (i + 1), k.rt, k.nx, I (i + 1)⟩) ∧
      ∀ ds L, I (hi - lo) ds L → k.nx ds L) : Tr K H0 M (tFor (iRng2 tl) g tb) ds L k :=
  tr_for (ai_range2 (el_to h fun xs L1 ⟨lo, hi, e, h1, h2, i0, stp, fin⟩ => ⟨(lo : Int), (hi : Int), e, by omega, I, i0, fun i ds L _ _ => trivial, fun i ds L hh hI => by
    show Ag K H0 M g (.int ((lo : Int) + (i : Nat))) ds L _
    rw [← Int.natCast_add]
    exact stp i ds L (by omega) hI, fun ds L hI => by
    have e2 : ((hi : Int) - (lo : Int)).toNat = hi - lo := by omega
    rw [e2] at hI
    exact fin ds L hI⟩))
end
theorem rd_table {K : PySem.W.Frag} : ∀ vs H Q E, SpP K A_table vs H Q E → t_law_table K (SpP K A_cell) (SpM K A_free) (SpP K A_mixed) { nx := fun _ H' => Q .non H', rt := Q } (L2.start names_law_table vs) H := fun vs H Q E => spP_body fun H0 xs L P => by
  rintro ⟨s, ns, h, rfl, rfl, hz, ok, hp⟩
  have ha := ok.a
  have hb := ok.b
  have hd := ok.d
  have he := ok.e
  have m1 := hall_mul ha.2 hb.2
  have m2 := hall_mul hd.2 he.2
  refine tr_seq (tr_if (et_test (ea_op (ea_op (ea_callP (dd := []) (fun _ => rfl) (el_cons (ea_var rfl (el_cons (ea_int (el_nil ⟨[(s, false, .sc (ns.map D.int))], fun d N => d = .int (ns.getD 0 0) ∧ N = [], (by repeat (first | exact Sb.nil | refine Sb.keep (by first | exact Wk.rfl | exact Wk.ro | exact Wk.rT | exact Wk.rF) ?_ | apply Sb.skip)), ⟨s, ns, 0, rfl, rfl, rfl, rfl⟩, ?_⟩))))))))))
  rintro d N ⟨rfl, rfl⟩
  refine ea_int (rb_mod (by decide) (ea_int (rb_eqI ⟨_, rfl, cndD (fun h1 => ?_) (fun h1 => tr_next ?_)⟩)))
  · refine tr_ret (ea_callM (dd := []) (fun _ => rfl) (el_cons (ea_var rfl (el_cons (ea_lst (el_cons (ea_cb (el_cons (ea_callP (dd := []) (fun _ => rfl) (el_cons (ea_var rfl (el_cons (ea_var rfl (el_nil ⟨[(s, false, .sc (ns.map D.int))], fun d N => d = .int (ns.getD 4 0) ∧ N = [], (by repeat (first | exact Sb.nil | refine Sb.keep (by first | exact Wk.rfl | exact Wk.ro | exact Wk.rT | exact Wk.rF) ?_ | apply Sb.skip)), ⟨s, ns, 4, rfl, rfl, rfl, rfl⟩, ?_⟩))))))))))))))
    rintro d N ⟨rfl, rfl⟩
    refine el_nil (rc_abs (el_nil ⟨by show 1 ≤ 1000; decide, fun l => ?_⟩))
    have e : (if ns.getD 4 0 < 0 then -(ns.getD 4 0) else ns.getD 4 0) = (((if ns.getD 4 0 < 0 then -(ns.getD 4 0) else ns.getD 4 0).toNat : Nat) : Int) := by split <;> omega
    rw [e]
    generalize ((if ns.getD 4 0 < 0 then -(ns.getD 4 0) else ns.getD 4 0)).toNat = v
    refine el_cons (ea_op (ea_var rfl (ea_var rfl (rb_sub (el_nil ⟨l, .lst ([v].map dN), [], fun d o' N => ∃ es v' p, Valid h es ∧ es.length ≤ 59 ∧ d = .ref p ∧ o' = .lst ([v'].map dN) ∧ N = [(p, .lst (es.map dP))], (by repeat (first | refine Sm.here (by repeat (first | exact Sb.nil | refine Sb.keep (by first | exact Wk.rfl | exact Wk.ro | exact Wk.rT | exact Wk.rF) ?_ | apply Sb.skip)) (by repeat (first | exact hc_nil | refine hc_cons ?_ rfl)) | refine Sm.keep (by first | exact Wk.rfl | exact Wk.ro | exact Wk.rT | exact Wk.rF) rfl ?_ | apply Sm.skip)), ⟨rfl, rfl⟩,
      ⟨h, v, 59, rfl, rfl, rfl, ok, by decide, fun es v' p h1 h2 => ⟨es, v', p, h1, h2, rfl, rfl, rfl⟩⟩, ?_⟩)))))
    rintro d o' N ⟨es, v', p, h1, h2, rfl, rfl, rfl⟩
    exact ⟨⟨rfl, rfl⟩, _, (by repeat (first | exact Up.hd | apply Up.tl)), [(p, .lst (es.map dP))], hp es p h1 h2, rfl, (by repeat (first | exact List.Sublist.refl _ | apply List.Sublist.cons_cons | exact List.nil_sublist _ | apply List.Sublist.cons))⟩
  refine tr_seq (tr_set (ea_listRange (ea_op (ea_op (ea_var rfl (ea_int (rb_h0 (ea_op (ea_var rfl (ea_int (rb_h1 (rb_mulN (by omega) ⟨h.a * h.b, rfl, by omega, fun c => ?_⟩))))))))))))
  refine tr_seq (tr_set (ea_listRange (ea_op (ea_op (ea_var rfl (ea_int (rb_h3 (ea_op (ea_var rfl (ea_int (rb_h4 (rb_mulN (by omega) ⟨h.d * h.e, rfl, by omega, fun e => ?_⟩))))))))))))
  refine tr_seq (tr_set (ea_callP (dd := []) (fun _ => rfl) (el_cons (ea_callP (dd := []) (fun _ => rfl) (el_cons (ea_var rfl (el_cons (ea_int (el_nil ⟨[(s, false, .sc (ns.map D.int))], fun d N => d = .int (ns.getD 1 0) ∧ N = [], (by repeat (first | exact Sb.nil | refine Sb.keep (by first | exact Wk.rfl | exact Wk.ro | exact Wk.rT | exact Wk.rF) ?_ | apply Sb.skip)), ⟨s, ns, 1, rfl, rfl, rfl, rfl⟩, ?_⟩)))))))))
  rintro d N ⟨rfl, rfl⟩
  refine el_cons (ea_int (el_nil ⟨[], fun d N => d = dN (mixed (ns.getD 1 0) 1) ∧ N = [], .nil, ⟨ns.getD 1 0, 1, rfl, rfl, by decide, rfl, rfl⟩, ?_⟩))
  rintro d N ⟨rfl, rfl⟩
  generalize mixed (ns.getD 1 0) 1 = first
  have four : ∀ n : Nat, ∃ x, [1, 2, 5, 200][n % 4]? = some x ∧ 1 ≤ x ∧ x ≤ 200 := fun n => by
    have : n % 4 < 4 := Nat.mod_lt _ (by decide)
    have h4 : n % 4 = 0 ∨ n % 4 = 1 ∨ n % 4 = 2 ∨ n % 4 = 3 := by omega
    rcases h4 with e | e | e | e <;> rw [e]
    · exact ⟨1, rfl, by decide⟩
    · exact ⟨2, rfl, by decide⟩
    · exact ⟨5, rfl, by decide⟩
    · exact ⟨200, rfl, by decide⟩
  obtain ⟨near, n1, n2⟩ := four first
  obtain ⟨far, f1, f2⟩ := four (first / 4)
  refine tr_seq (tr_set (ea_op (ea_lst (el_cons (ea_int (el_cons (ea_int (el_cons (ea_int (el_cons (ea_int (el_nil ⟨by show 4 ≤ 1000; decide, fun q => ea_op (ea_var rfl (ea_int (rb_modN (n := 4) (by decide) (rb_ixN (f := dN) (l := [1, 2, 5, 200]) (by repeat (first | exact At.lst | exact At.ro | exact At.sc | apply At.tl)) n1 ?_))))⟩))))))))))))
  refine tr_seq (tr_set (ea_op (ea_lst (el_cons (ea_int (el_cons (ea_int (el_cons (ea_int (el_cons (ea_int (el_nil ⟨by show 4 ≤ 1000; decide, fun q2 => ea_op (ea_op (ea_var rfl (ea_int (rb_divN (n := 4) (by decide) (by decide) (ea_int (rb_modN (n := 4) (by decide) (rb_ixN (f := dN) (l := [1, 2, 5, 200]) (by repeat (first | exact At.lst | exact At.ro | exact At.sc | apply At.tl)) f1 ?_)))))))⟩))))))))))))
  refine tr_seq (tr_set (ea_lst (el_nil ⟨by show 0 ≤ 1000; decide, fun f => ?_⟩)))
  refine tr_seq (tr_forR2 (fun i ds L => ∃ (x10 x11 x12 : Option D) (cs nn : List Nat) (es : List (Nat × Nat)), ds = [some (.ref s), some (dH h), some (dN 4), some (dN 63), some (.ref c), some (.ref e), some (dN first), some (dN near), some (dN far), some (.ref f), x10, x11, x12] ∧
    [(s, false, O.sc (ns.map D.int)), (c, true, .lst (cs.map dN)), (e, true, .lst (nn.map dN)), (f, true, .lst (es.map dP))].Sublist L ∧
    Mak (h.a * h.b) (es.map (·.1)) cs ∧ Mak (h.d * h.e) (es.map (·.2)) nn ∧ es.length ≤ i) (el_cons (ea_var rfl (el_cons (ea_cb (el_cons (ea_cb (el_cons (ea_var rfl (el_nil (rc_len (by repeat (first | exact At.lst | exact At.ro | exact At.sc | apply At.tl)) (el_cons (ea_var rfl (el_nil (rc_minN (n := 63) (el_nil ⟨4, min (ns.map D.int).length 63, rfl, by decide, by omega, ?_, ?_, ?_⟩))))))))))))))))
  · exact ⟨none, none, none, _, _, [], rfl, (by repeat (first | exact List.Sublist.refl _ | apply List.Sublist.cons_cons | exact List.nil_sublist _ | apply List.Sublist.cons)), Mak.start _, Mak.start _, Nat.le_refl _⟩
  · rintro i ds L hi ⟨x10, x11, x12, cs, nn, es, rfl, hs, k1, k2, hl⟩
    rw [List.length_map] at hi
    have l1 := k1.len
    have l2 := k2.len
    obtain ⟨cell, hcell⟩ : ∃ x, ns[4 + i]? = some x := ⟨_, List.getElem?_eq_getElem (by omega)⟩
    refine ag_sub hs (ag_name (tr_if (et_and (et_test (ea_neNil (f := dN) (l := cs) rfl (by repeat (first | exact At.lst | exact At.ro | exact At.sc | apply At.tl)) dN_dd (fun _ => rfl) (fun _ => Nat.zero_le _) fun j => ⟨_, rfl, ?_⟩)))))
    cases cs with
    | nil => exact cndF (cndF (tr_next ⟨_, _, _, _, _, _, rfl, (by repeat (first | exact List.Sublist.refl _ | apply List.Sublist.cons_cons | exact List.nil_sublist _ | apply List.Sublist.cons)), k1, k2, by omega⟩))
    | cons c0 cs =>
    refine cndT (et_test (ea_neNil (f := dN) (l := nn) rfl (by repeat (first | exact At.lst | exact At.ro | exact At.sc | apply At.tl)) dN_dd (fun _ => rfl) (fun _ => Nat.zero_le _) fun j2 => ⟨_, rfl, ?_⟩))
    cases nn with
    | nil => exact cndF (tr_next ⟨_, _, _, _, _, _, rfl, (by repeat (first | exact List.Sublist.refl _ | apply List.Sublist.cons_cons | exact List.nil_sublist _ | apply List.Sublist.cons)), k1, k2, by omega⟩)
    | cons n0 nn =>
    refine cndT ?_
    generalize hcs : c0 :: cs = cs' at *
    generalize hns : n0 :: nn = ns' at *
    have p1 : 0 < cs'.length := by rw [← hcs]; exact Nat.succ_pos _
    have p2 : 0 < ns'.length := by rw [← hns]; exact Nat.succ_pos _
    refine tr_seq (tr_set (ea_callP (dd := []) (fun _ => rfl) (el_cons (ea_op (ea_var rfl (ea_var rfl (rb_ixN (f := D.int) (by repeat (first | exact At.lst | exact At.ro | exact At.sc | apply At.tl)) hcell (el_cons (ea_var rfl (el_nil ⟨[], fun d N => d = dN (mixed cell (4 + i)) ∧ N = [], .nil, ⟨cell, 4 + i, rfl, rfl, by omega, rfl, rfl⟩, ?_⟩))))))))))
    rintro d N ⟨rfl, rfl⟩
    generalize mixed cell (4 + i) = num
    obtain ⟨x, q1⟩ : ∃ x, cs'[num % min (cs'.map dN).length near]? = some x := ⟨_, List.getElem?_eq_getElem (Nat.lt_of_lt_of_le (Nat.mod_lt _ (by rw [List.length_map]; omega)) (by rw [List.length_map]; omega))⟩
    refine tr_seq (tr_set (ea_bmL (ea_var rfl ⟨c, _, rfl, (by repeat (first | exact At.lst | exact At.ro | exact At.sc | apply At.tl)), el_cons (ea_op (ea_var rfl (ea_cb (el_cons (ea_cb (el_cons (ea_var rfl (el_nil (rc_len (by repeat (first | exact At.lst | exact At.ro | exact At.sc | apply At.tl)) (el_cons (ea_var rfl (el_nil (rc_minN (rb_modN (by rw [List.length_map]; omega) (el_nil (rm_popAtN (f := dN) (l := cs') q1 (by omega) (by repeat (first | exact Up.hd | apply Up.tl)) ?_))))))))))))))))⟩)))
    obtain ⟨y, q2⟩ : ∃ y, ns'[num / 200 % min (ns'.map dN).length far]? = some y := ⟨_, List.getElem?_eq_getElem (Nat.lt_of_lt_of_le (Nat.mod_lt _ (by rw [List.length_map]; omega)) (by rw [List.length_map]; omega))⟩
    refine tr_drop (ea_bmL (ea_var rfl ⟨f, _, rfl, (by repeat (first | exact At.lst | exact At.ro | exact At.sc | apply At.tl)), el_cons (ea_tup (el_cons (ea_var rfl (el_cons (ea_bmL (ea_var rfl ⟨e, _, rfl, (by repeat (first | exact At.lst | exact At.ro | exact At.sc | apply At.tl)), el_cons (ea_op (ea_op (ea_var rfl (ea_int (rb_divN (n := 200) (by decide) (by decide) (ea_cb (el_cons (ea_cb (el_cons (ea_var rfl (el_nil (rc_len (by repeat (first | exact At.lst | exact At.ro | exact At.sc | apply At.tl)) (el_cons (ea_var rfl (el_nil (rc_minN (rb_modN (by rw [List.length_map]; omega) (el_nil (rm_popAtN (f := dN) (l := ns') q2 (by omega) (by repeat (first | exact Up.hd | apply Up.tl)) ?_)))))))))))))))))))⟩))))))⟩))
    refine el_nil ⟨by show 2 ≤ 1000; decide, el_nil (rm_appendN (f := dP) (x, y) (by repeat (first | exact Up.hd | apply Up.tl)) (by omega) ?_)⟩
    refine ⟨_, _, _, _, _, es ++ [(x, y)], rfl, (by repeat (first | exact List.Sublist.refl _ | apply List.Sublist.cons_cons | exact List.nil_sublist _ | apply List.Sublist.cons)), ?_, ?_, by rw [List.length_append]; show es.length + 1 ≤ _; omega⟩
    · rw [List.map_append]
      exact k1.step q1
    · rw [List.map_append]
      exact k2.step q2
  · rintro ds L ⟨x10, x11, x12, cs, nn, es, rfl, hs, k1, k2, hl⟩
    refine tr_sub hs (tr_ret (ea_var rfl ?_))
    exact ⟨_, hp es f (k1.valid k2) (by omega), rfl, (by repeat (first | exact List.Sublist.refl _ | apply List.Sublist.cons_cons | exact List.nil_sublist _ | apply List.Sublist.cons))⟩

section
variable {K : PySem.W.Frag} {H0 H : Hp} {M : List Addr} {L L' : Fp} {ds : List (Option D)} {P : D → Fp → Prop} {α : Type} {k : Kt}
abbrev pP (p : Nat × Nat) : PyData := .tuple [.int (p.1 : Nat), .int (p.2 : Nat)]
theorem exP : Ex pP 1 := Ex.nat.pair Ex.nat
theorem dd_P (L : Fp) (p : Nat × Nat) : Dd L (dP p) (pP p) := .tup (.cons (.int _) (.cons (.int _) .nil))
theorem any_mem [DecidableEq α] {g : α → PyData} {j : Nat} (e : Ex g j) (x : α) : ∀ l : List α, ((l.map g).any fun z => PyData.eqv z (g x)) = decide (x ∈ l)
  | [] => by simp
  | y :: l => by
    rw [List.map_cons, List.any_cons, e.eq, any_mem e x l]
    by_cases h : y = x
    · simp [h]
    · have h2 : ¬ x = y := fun z => h z.symm
      simp [h, h2]
theorem bl_dec {p : Prop} (i1 i2 : Decidable p) : @decide p i1 = @decide p i2 := by rw [Subsingleton.elim i1 i2]
theorem any_memP (p : Nat × Nat) (es : List (Nat × Nat)) : ((es.map pP).any fun z => PyData.eqv z (pP p)) = decide (p ∈ es) := (any_mem exP p es).trans (bl_dec _ _)
theorem rb_ninP {a : Addr} {p : Nat × Nat} {es : List (Nat × Nat)} (h : At L a (es.map dP)) (q : P (.bl (!decide (p ∈ es))) L) : Rb K H0 M (rNotInD K) (dP p) (.ref a) L P :=
  rb_ninD (p := pP p) (qs := es.map pP) (dd_P L p) (.ref h (dds_map (dd_P L) es)) (exP.shaped (by decide) p) (exP.lst.shaped (by decide) es) (by rw [any_memP]; exact q)
end
def A_rising : List D → Fp → (D → Nw → Prop) → Prop := fun xs L P => ∃ (a : Addr) (ns : List Nat) (most : Nat), xs = [.ref a, dN most] ∧ L = [(a, false, .ro (ns.map dN))] ∧ ns.Pairwise (· < ·) ∧ (∀ n ∈ ns, n < most) ∧ P (.bl true) []
theorem rd_rising {K : PySem.W.Frag} : ∀ vs H Q E, SpP K A_rising vs H Q E → t_law_rising K (SpP K A_whole) { nx := fun _ H' => Q .non H', rt := Q } (L2.start names_law_rising vs) H := fun vs H Q E => spP_body fun H0 xs L P => by
  rintro ⟨a, ns, most, rfl, rfl, hs, hm, hp⟩
  refine tr_seq (tr_if (et_not (et_B (ea_cb (el_cons (ea_var rfl (el_cons (ea_ty (el_nil (rc_isi (.ref (by repeat (first | exact At.lst | exact At.ro | exact At.sc | apply At.tl))) (.ty _) kit_ll ⟨_, rfl, cndF (tr_next ?_)⟩))))))))))
  refine tr_seq (tr_set (ea_neg (ea_int ⟨1, rfl, ?_⟩)))
  refine tr_seq (tr_forL ns dN (fun i ds L => ∃ (lst : Int) (x3 : Option D), ds = [some (.ref a), some (dN most), some (.int lst), x3] ∧ L = [(a, false, O.ro (ns.map dN))] ∧ ∀ x ∈ ns.drop i, lst < (x : Int)) (ea_var rfl ⟨a, rfl, (by repeat (first | exact At.lst | exact At.ro | exact At.sc | apply At.tl)), ?_, ?_, ?_, ?_⟩))
  · exact ⟨-1, none, rfl, rfl, fun x _ => by omega⟩
  · rintro i ds L ⟨lst, x3, rfl, rfl, hl⟩
    exact At.ro
  · rintro i ds L n hi hd hlt ⟨lst, x3, rfl, rfl, hl⟩
    rw [hd] at hl
    have h1 := hl n List.mem_cons_self
    have h2 := hm n (List.mem_of_getElem? hi)
    refine ag_name (tr_seq (tr_if (et_or (et_not (et_B (ea_callP (dd := []) (fun _ => rfl) (el_cons (ea_var rfl (el_nil ⟨[], fun d N => d = .bl true ∧ N = [], .nil, ⟨n, rfl, rfl, rfl, rfl⟩, ?_⟩)))))))))
    rintro d N ⟨rfl, rfl⟩
    refine ⟨_, rfl, cndF (et_or (et_test (ea_op (ea_var rfl (ea_var rfl (rb_le ⟨_, rfl, cndD (fun z => ?_) (fun z => et_test (ea_op (ea_var rfl (ea_var rfl (rb_ge ⟨_, rfl, cndD (fun z2 => ?_) (fun z2 => tr_next (tr_set (ea_var rfl ?_)))⟩)))))⟩))))))⟩
    · exact absurd z (by omega)
    · exact absurd z2 (by omega)
    · refine ⟨n, _, rfl, rfl, fun x hx => ?_⟩
      have hsd : (n :: ns.drop (i + 1)).Pairwise (· < ·) := by
        rw [← hd]
        exact hs.sublist (List.drop_sublist _ _)
      have := (List.pairwise_cons.mp hsd).1 x hx
      omega
  · rintro ds L hd ⟨lst, x3, rfl, rfl, hl⟩
    exact tr_ret (ea_bl ⟨[], hp, rfl, (by repeat (first | exact List.Sublist.refl _ | apply List.Sublist.cons_cons | exact List.nil_sublist _ | apply List.Sublist.cons))⟩)
def A_paper : List D → Fp → (D → Nw → Prop) → Prop := fun xs L P => ∃ (i o : Addr) (is os : List Nat), xs = [.tup [.ref i, .ref o]] ∧ L = [(i, false, .ro (is.map dN)), (o, false, .ro (os.map dN))] ∧ is.Pairwise (· < ·) ∧ (∀ n ∈ is, n < 32) ∧ os.Pairwise (· < ·) ∧ (∀ n ∈ os, n < 32) ∧ P (.bl true) []
theorem rd_paper {K : PySem.W.Frag} : ∀ vs H Q E, SpP K A_paper vs H Q E → t_law_paper K (SpP K A_rising) { nx := fun _ H' => Q .non H', rt := Q } (L2.start names_law_paper vs) H := fun vs H Q E => spP_body fun H0 xs L P => by
  rintro ⟨i, o, is, os, rfl, rfl, h1, h2, h3, h4, hp⟩
  refine tr_seq (tr_if (et_or (et_not (et_B (ea_cb (el_cons (ea_var rfl (el_cons (ea_ty (el_nil (rc_isi (.tup _) (.ty _) kit_tt ⟨_, rfl, cndF (et_test (ea_op (ea_cb (el_cons (ea_var rfl (el_nil (rc_lenT (ea_int (rb_neI ⟨_, rfl, cndF (tr_next ?_)⟩)))))))))⟩)))))))))))
  refine tr_ret (ea_andV (ea_callP (dd := []) (fun _ => rfl) (el_cons (ea_op (ea_var rfl (ea_int (rb_t0 (el_cons (ea_int (el_nil ⟨[(i, false, .ro (is.map dN))], fun d N => d = .bl true ∧ N = [], (by repeat (first | exact Sb.nil | refine Sb.keep (by first | exact Wk.rfl | exact Wk.ro | exact Wk.rT | exact Wk.rF) ?_ | apply Sb.skip)), ⟨i, is, 32, rfl, rfl, h1, h2, rfl, rfl⟩, ?_⟩))))))))))
  rintro d N ⟨rfl, rfl⟩
  refine ⟨_, rfl, cndT (ea_callP (dd := []) (fun _ => rfl) (el_cons (ea_op (ea_var rfl (ea_int (rb_t1 (el_cons (ea_int (el_nil ⟨[(o, false, .ro (os.map dN))], fun d N => d = .bl true ∧ N = [], (by repeat (first | exact Sb.nil | refine Sb.keep (by first | exact Wk.rfl | exact Wk.ro | exact Wk.rT | exact Wk.rF) ?_ | apply Sb.skip)), ⟨o, os, 32, rfl, rfl, h3, h4, rfl, rfl⟩, ?_⟩)))))))))⟩
  rintro d N ⟨rfl, rfl⟩
  exact ⟨[], hp, rfl, (by repeat (first | exact List.Sublist.refl _ | apply List.Sublist.cons_cons | exact List.nil_sublist _ | apply List.Sublist.cons))⟩
/-- how many pairs neither list has -/
def bes (is os : List Nat) (ps : List (Nat × Nat)) : Nat := (ps.filter fun p => !decide (p.1 ∈ is) && !decide (p.2 ∈ os)).length
def A_beside : List D → Fp → (D → Nw → Prop) → Prop := fun xs L P => ∃ (p i o : Addr) (ps : List (Nat × Nat)) (is os : List Nat), xs = [.ref p, .tup [.ref i, .ref o]] ∧ L = [(i, false, .ro (is.map dN)), (o, false, .ro (os.map dN)), (p, false, .ro (ps.map dP))] ∧ P (dN (bes is os ps)) []
theorem rd_beside {K : PySem.W.Frag} : ∀ vs H Q E, SpP K A_beside vs H Q E → t_law_beside K { nx := fun _ H' => Q .non H', rt := Q } (L2.start names_law_beside vs) H := fun vs H Q E => spP_body fun H0 xs L P => by
  rintro ⟨p, i, o, ps, is, os, rfl, rfl, hp⟩
  refine tr_seq (tr_set (ea_int ?_))
  refine tr_seq (tr_forL ps dP (fun j ds L => ∃ (n : Nat) (x3 : Option D), ds = [some (.ref p), some (.tup [.ref i, .ref o]), some (dN n), x3] ∧ L = [(i, false, O.ro (is.map dN)), (o, false, .ro (os.map dN)), (p, false, .ro (ps.map dP))] ∧ n + bes is os (ps.drop j) = bes is os ps) (ea_var rfl ⟨p, rfl, (by repeat (first | exact At.lst | exact At.ro | exact At.sc | apply At.tl)), ?_, ?_, ?_, ?_⟩))
  · exact ⟨0, none, rfl, rfl, Nat.zero_add _⟩
  · rintro j ds L ⟨n, x3, rfl, rfl, e⟩
    exact (by repeat (first | exact At.lst | exact At.ro | exact At.sc | apply At.tl))
  · rintro j ds L q hj hd hlt ⟨n, x3, rfl, rfl, e⟩
    rw [hd] at e
    have eb : bes is os (q :: ps.drop (j + 1)) = (if !decide (q.1 ∈ is) && !decide (q.2 ∈ os) then 1 else 0) + bes is os (ps.drop (j + 1)) := by
      unfold bes
      rw [List.filter_cons]
      split
      · rw [List.length_cons]; omega
      · omega
    rw [eb] at e
    refine ag_name (tr_if (et_and (et_test (ea_op (ea_op (ea_var rfl (ea_int (rb_t0 (ea_op (ea_var rfl (ea_int (rb_t0 (rb_ninN (ns := is) (by repeat (first | exact At.lst | exact At.ro | exact At.sc | apply At.tl)) ⟨_, rfl, ?_⟩)))))))))))))
    cases h1 : decide (q.1 ∈ is) with
    | true =>
      refine cndF (cndF (tr_next ⟨n, _, rfl, rfl, ?_⟩))
      rw [h1] at e
      simpa using e
    | false =>
      refine cndT (et_test (ea_op (ea_op (ea_var rfl (ea_int (rb_t1 (ea_op (ea_var rfl (ea_int (rb_t1 (rb_ninN (ns := os) (by repeat (first | exact At.lst | exact At.ro | exact At.sc | apply At.tl)) ⟨_, rfl, ?_⟩)))))))))))
      cases h2 : decide (q.2 ∈ os) with
      | true =>
        refine cndF (tr_next ⟨n, _, rfl, rfl, ?_⟩)
        rw [h1, h2] at e
        simpa using e
      | false =>
        refine cndT (tr_set (ea_op (ea_var rfl (ea_int (rb_inc ?_)))))
        refine ⟨n + 1, _, rfl, rfl, ?_⟩
        rw [h1, h2] at e
        simp at e
        omega
  · rintro ds L hd ⟨n, x3, rfl, rfl, e⟩
    rw [hd] at e
    have e : n = bes is os ps := e
    rw [← e] at hp
    exact tr_ret (ea_var rfl ⟨[], hp, rfl, (by repeat (first | exact List.Sublist.refl _ | apply List.Sublist.cons_cons | exact List.nil_sublist _ | apply List.Sublist.cons))⟩)

/-- a call -/
abbrev dC (c : Nat × Nat × Nat) : D := .tup [dN c.1, .tup [dN c.2.1], dN c.2.2]
/-- the two lines of a call -/
def lns (h : Hall) (c : Nat × Nat × Nat) : List (List Int) := [[0, ((c.1 / h.b : Nat) : Int), (c.2.2 : Nat)], [1, ((c.2.1 / h.e : Nat) : Int), (c.2.2 : Nat)]]
/-- calls as the law wants them -/
structure Calls (h : Hall) (es : List (Nat × Nat)) (shut : Nat) (cs : List (Nat × Nat × Nat)) : Prop where
  up : cs.Pairwise fun c d => c.1 < d.1
  mem : ∀ c ∈ cs, (c.1, c.2.1) ∈ es
  rk : ∀ c ∈ cs, c.2.2 < h.c
  op : ∀ c ∈ cs, shut / 2 ^ c.2.2 % 2 = 0
  nd : (cs.flatMap (lns h)).Nodup
def A_calls : List D → Fp → (D → Nw → Prop) → Prop := fun xs L P => ∃ (c t : Addr) (h : Hall) (es : List (Nat × Nat)) (shut : Nat) (cs : List (Nat × Nat × Nat)), xs = [dH h, .ref c, .ref t, dN shut] ∧ L = [(t, false, .ro (es.map dP)), (c, false, .ro (cs.map dC))] ∧ HallOk h ∧ cs.length ≤ 1000 ∧ Calls h es shut cs ∧ P (.bl true) []
section
variable {K : PySem.W.Frag} {H0 H : Hp} {M : List Addr} {L L' : Fp} {ds : List (Option D)} {P : D → Fp → Prop} {α : Type} {k : Kt}
theorem dg_in {a : Addr} {w : Bool} {kvs : List (List Int × D)} {ks : List Int} (h : (a, w, O.dT kvs) ∈ L) : Dg L a (keyD ks) (aget kvs ks) := by
  induction L with
  | nil => cases h
  | cons q r ih =>
    rcases List.mem_cons.mp h with e | h
    · rw [← e]; exact Dg.dT
    · exact .tl (ih h)
theorem cndS {o : Option α} {A B : Prop} (h : o = none) (h2 : B) : Cnd o.isSome A B := by
  rw [h]
  exact cndF h2
end
theorem rd_calls_right {K : PySem.W.Frag} : ∀ vs H Q E, SpP K A_calls vs H Q E → t_law_calls_right K (SpP K A_whole) { nx := fun _ H' => Q .non H', rt := Q } (L2.start names_law_calls_right vs) H := fun vs H Q E => spP_body fun H0 xs L P => by
  rintro ⟨c, t, h, es, shut, cs, rfl, rfl, ok, hz, hc, hp⟩
  have hb := ok.b
  have he := ok.e
  have hcc := ok.c
  refine tr_seq (tr_if (et_not (et_B (ea_cb (el_cons (ea_var rfl (el_cons (ea_ty (el_nil (rc_isi (.ref (by repeat (first | exact At.lst | exact At.ro | exact At.sc | apply At.tl))) (.ty _) kit_ll ⟨_, rfl, cndF (tr_next ?_)⟩))))))))))
  refine tr_seq (tr_set (ea_dnewT fun s => ?_))
  refine tr_seq (tr_set (ea_neg (ea_int ⟨1, rfl, ?_⟩)))
  refine tr_seq (tr_forL cs dC (fun i ds L => ∃ (lst : Int) (x6 x7 : Option D) (kvs : List (List Int × D)), ds = [some (dH h), some (.ref c), some (.ref t), some (dN shut), some (.ref s), some (.int lst), x6, x7] ∧ [(t, false, O.ro (es.map dP)), (c, false, .ro (cs.map dC)), (s, true, .dT kvs)].Sublist L ∧
    (∀ x ∈ cs.drop i, lst < (x.1 : Int)) ∧ kvs.length ≤ 2 * i ∧ ∀ ks, aget kvs ks ≠ none → ks ∈ (cs.take i).flatMap (lns h)) (ea_var rfl ⟨c, rfl, (by repeat (first | exact At.lst | exact At.ro | exact At.sc | apply At.tl)), ?_, ?_, ?_, ?_⟩))
  · exact ⟨-1, none, none, [], rfl, (by repeat (first | exact List.Sublist.refl _ | apply List.Sublist.cons_cons | exact List.nil_sublist _ | apply List.Sublist.cons)), fun x _ => by omega, Nat.zero_le _, fun ks z => absurd rfl z⟩
  · rintro i ds L ⟨lst, x6, x7, kvs, rfl, hs, hl, hk, hn⟩
    exact at_sub hs (by repeat (first | exact At.lst | exact At.ro | exact At.sc | apply At.tl))
  · rintro i ds L x hi hd hlt ⟨lst, x6, x7, kvs, rfl, hs, hl, hk, hn⟩
    rw [hd] at hl
    have h1 := hl x List.mem_cons_self
    have hm := List.mem_of_getElem? hi
    have h2 := hc.mem x hm
    have h3 := hc.rk x hm
    have h4 := hc.op x hm
    have htk : cs.take (i + 1) = cs.take i ++ [x] := by rw [List.take_succ, hi]; rfl
    have nd1 : ((cs.take i).flatMap (lns h) ++ lns h x).Nodup := by
      have e : (cs.take (i + 1)).flatMap (lns h) = (cs.take i).flatMap (lns h) ++ lns h x := by
        rw [htk, List.flatMap_append]
        simp
      rw [← e]
      have e2 : cs.flatMap (lns h) = (cs.take (i + 1)).flatMap (lns h) ++ (cs.drop (i + 1)).flatMap (lns h) := by
        rw [← List.flatMap_append, List.take_append_drop]
      have nd := hc.nd
      rw [e2] at nd
      exact (List.nodup_append.mp nd).1
    have nd2 := (List.nodup_append.mp nd1).2.2
    have k1 : aget kvs [0, ((x.1 / h.b : Nat) : Int), (x.2.2 : Nat)] = none := by
      cases hg : aget kvs [0, ((x.1 / h.b : Nat) : Int), (x.2.2 : Nat)] with
      | none => rfl
      | some v => exact absurd rfl (nd2 _ (hn _ (by rw [hg]; exact fun z => by cases z)) _ List.mem_cons_self)
    have k2 : aget kvs [1, ((x.2.1 / h.e : Nat) : Int), (x.2.2 : Nat)] = none := by
      cases hg : aget kvs [1, ((x.2.1 / h.e : Nat) : Int), (x.2.2 : Nat)] with
      | none => rfl
      | some v => exact absurd rfl (nd2 _ (hn _ (by rw [hg]; exact fun z => by cases z)) _ (List.mem_cons_of_mem _ List.mem_cons_self))
    have whole : ∀ (n : Nat) (te : TE) (ds : List (Option D)) (L : Fp) (Q : Bool → Fp → Prop), Q false L → (∀ (P' : D → Fp → Prop), P' (dN n) L → Ea K H0 [] te ds L P') → Et K H0 [] (tNot (tB (tCall (SpP K A_whole) [] E0 (tCons te tNil)))) ds L Q := fun n te ds L Q hq hte =>
      et_not (et_B (ea_callP (dd := []) (fun _ => rfl) (el_cons (hte _ (el_nil ⟨[], fun d N => d = .bl true ∧ N = [], .nil, ⟨n, rfl, rfl, rfl, rfl⟩, by
        rintro d N ⟨rfl, rfl⟩
        refine ⟨_, rfl, ?_⟩
        show Q false (L ++ [])
        rw [List.append_nil]
        exact hq⟩)))))
    refine ag_sub hs (ag_name ?_)
    refine tr_seq (tr_if (et_or (et_not (et_B (ea_cb (el_cons (ea_var rfl (el_cons (ea_ty (el_nil (rc_isi (.tup _) (.ty _) kit_tt ⟨_, rfl, cndF (et_or (et_test (ea_op (ea_cb (el_cons (ea_var rfl (el_nil (rc_lenT (ea_int (rb_neI ⟨_, rfl, cndF ?_⟩))))))))))⟩)))))))))))
    refine et_or (et_not (et_B (ea_cb (el_cons (ea_op (ea_var rfl (ea_int (rb_t1 (el_cons (ea_ty (el_nil (rc_isi (.tup _) (.ty _) kit_tt ⟨_, rfl, cndF (et_test (ea_op (ea_cb (el_cons (ea_op (ea_var rfl (ea_int (rb_t1 (el_nil (rc_lenT (ea_int (rb_neI ⟨_, rfl, cndF (tr_next ?_)⟩))))))))))))⟩))))))))))))
    refine tr_seq (tr_if (et_or (whole x.1 _ _ _ _ (cndF ?_) fun P' hp' => ea_op (ea_var rfl (ea_int (rb_t0 hp'))))))
    refine et_or (whole x.2.1 _ _ _ _ (cndF (whole x.2.2 _ _ _ _ (cndF (tr_next ?_)) fun P' hp' => ea_op (ea_var rfl (ea_int (rb_ixT rfl hp'))))) fun P' hp' => ea_op (ea_op (ea_var rfl (ea_int (rb_t1 (ea_int (rb_t0 hp')))))))
    refine tr_seq (tr_if (et_or (et_test (ea_op (ea_op (ea_var rfl (ea_int (rb_t0 (ea_var rfl (rb_le ⟨_, rfl, cndD (fun z => absurd z (by omega)) (fun z => ?_)⟩))))))))))
    refine et_or (et_test (ea_op (ea_tup (el_cons (ea_op (ea_var rfl (ea_int (rb_t0 (el_cons (ea_op (ea_op (ea_var rfl (ea_int (rb_t1 (ea_int (rb_t0 (el_nil ⟨by show 2 ≤ 1000; decide, ea_var rfl (rb_ninP (p := (x.1, x.2.1)) (es := es) (by repeat (first | exact At.lst | exact At.ro | exact At.sc | apply At.tl)) ⟨_, rfl, ?_⟩)⟩)))))))))))))))))
    rw [decide_eq_true h2]
    refine cndF (et_or (et_test (ea_op (ea_op (ea_var rfl (ea_int (rb_ixT (d := dN x.2.2) rfl (ea_int (rb_lt ⟨_, rfl, cndD (fun z => absurd z (by omega)) (fun z => ?_)⟩)))))))))
    refine et_test (ea_op (ea_op (ea_var rfl (ea_int (rb_ixT (d := dN x.2.2) rfl (ea_op (ea_var rfl (ea_int (rb_h2 (rb_ge ⟨_, rfl, cndD (fun z => absurd z (by omega)) (fun z => tr_next ?_)⟩))))))))))
    refine tr_seq (tr_set (ea_op (ea_var rfl (ea_int (rb_t0 ?_)))))
    refine tr_seq (tr_set (ea_lst (el_cons (ea_tup (el_cons (ea_int (el_cons (ea_op (ea_op (ea_var rfl (ea_int (rb_t0 (ea_op (ea_var rfl (ea_int (rb_h1 (rb_divN (by omega) (by omega) (el_cons (ea_op (ea_var rfl (ea_int (rb_ixT (d := dN x.2.2) rfl (el_nil ⟨by show 3 ≤ 1000; decide, ?_⟩)))))))))))))))))))))))
    refine el_cons (ea_tup (el_cons (ea_int (el_cons (ea_op (ea_op (ea_op (ea_var rfl (ea_int (rb_t1 (ea_int (rb_t0 (ea_op (ea_var rfl (ea_int (rb_h4 (rb_divN (by omega) (by omega) (el_cons (ea_op (ea_var rfl (ea_int (rb_ixT (d := dN x.2.2) rfl (el_nil ⟨by show 3 ≤ 1000; decide, el_nil ⟨by show 2 ≤ 1000; decide, fun q => ?_⟩⟩)))))))))))))))))))))))
    refine tr_seq (tr_if (et_or (et_B (ea_din (ea_op (ea_var rfl (ea_int (rb_ixL (by repeat (first | exact At.lst | exact At.ro | exact At.sc | apply At.tl)) (d := keyD [0, ((x.1 / h.b : Nat) : Int), (x.2.2 : Nat)]) rfl (ea_var rfl ⟨s, _, rfl, dg_in (by repeat (first | exact List.mem_cons_self | apply List.mem_cons_of_mem)), _, rfl, cndS k1 ?_⟩)))))))))
    refine et_or (et_B (ea_din (ea_op (ea_var rfl (ea_int (rb_ixL (by repeat (first | exact At.lst | exact At.ro | exact At.sc | apply At.tl)) (d := keyD [1, ((x.2.1 / h.e : Nat) : Int), (x.2.2 : Nat)]) rfl (ea_var rfl ⟨s, _, rfl, dg_in (by repeat (first | exact List.mem_cons_self | apply List.mem_cons_of_mem)), _, rfl, cndS k2 ?_⟩)))))))
    refine et_test (ea_op (ea_op (ea_op (ea_var rfl (ea_op (ea_var rfl (ea_int (rb_ixT (d := dN x.2.2) rfl (rb_shr (by omega) (ea_int (rb_mod (by decide) (ea_int (rb_eqI ⟨_, rfl, cndD (fun z => ?_) (fun z => tr_next ?_)⟩)))))))))))))
    · have e2 : (shut : Int) / 2 ^ ((x.2.2 : Nat) : Int).toNat % 2 = ((shut / 2 ^ x.2.2 % 2 : Nat) : Int) := by
        rw [Int.toNat_natCast, Int.natCast_emod, Int.natCast_ediv, Int.natCast_pow]
        rfl
      rw [e2, h4] at z
      exact absurd z (by decide)
    have hi2 : i < cs.length := hlt
    have l1 := aput_len [0, ((x.1 / h.b : Nat) : Int), ((x.2.2 : Nat) : Int)] (D.bl true) kvs
    have l2 := aput_len [1, ((x.2.1 / h.e : Nat) : Int), ((x.2.2 : Nat) : Int)] (D.bl true) (aput kvs [0, ((x.1 / h.b : Nat) : Int), ((x.2.2 : Nat) : Int)] (D.bl true))
    refine tr_seq (tr_dput (ea_bl (ea_var rfl (ea_op (ea_var rfl (ea_int (rb_ixL (by repeat (first | exact At.lst | exact At.ro | exact At.sc | apply At.tl)) (d := keyD [0, ((x.1 / h.b : Nat) : Int), (x.2.2 : Nat)]) rfl ⟨s, _, rfl, Dp.dT (kvs := kvs) (k := [0, ((x.1 / h.b : Nat) : Int), (x.2.2 : Nat)]) (d := .bl true) (by repeat (first | exact Up.hd | apply Up.tl)) (by omega), ?_⟩)))))))
    refine tr_dput (ea_bl (ea_var rfl (ea_op (ea_var rfl (ea_int (rb_ixL (by repeat (first | exact At.lst | exact At.ro | exact At.sc | apply At.tl)) (d := keyD [1, ((x.2.1 / h.e : Nat) : Int), (x.2.2 : Nat)]) rfl ⟨s, _, rfl, Dp.dT (kvs := aput kvs [0, ((x.1 / h.b : Nat) : Int), (x.2.2 : Nat)] (.bl true)) (k := [1, ((x.2.1 / h.e : Nat) : Int), (x.2.2 : Nat)]) (d := .bl true) (by repeat (first | exact Up.hd | apply Up.tl)) (by omega), ?_⟩))))))
    refine ⟨x.1, _, _, _, rfl, (by repeat (first | exact List.Sublist.refl _ | apply List.Sublist.cons_cons | exact List.nil_sublist _ | apply List.Sublist.cons)), fun y hy => ?_, by omega, fun ks hks => ?_⟩
    · have hsd : (x :: cs.drop (i + 1)).Pairwise (fun c d => c.1 < d.1) := by
        rw [← hd]
        exact hc.up.sublist (List.drop_sublist _ _)
      have := (List.pairwise_cons.mp hsd).1 y hy
      omega
    · rw [htk, List.flatMap_append]
      rw [aget_aput, aget_aput] at hks
      refine List.mem_append.mpr ?_
      by_cases e1 : [1, ((x.2.1 / h.e : Nat) : Int), ((x.2.2 : Nat) : Int)] = ks
      · refine .inr (List.mem_flatMap.mpr ⟨x, List.mem_singleton.mpr rfl, ?_⟩)
        rw [← e1]
        exact List.mem_cons_of_mem _ List.mem_cons_self
      · rw [if_neg e1] at hks
        by_cases e0 : [0, ((x.1 / h.b : Nat) : Int), ((x.2.2 : Nat) : Int)] = ks
        · refine .inr (List.mem_flatMap.mpr ⟨x, List.mem_singleton.mpr rfl, ?_⟩)
          rw [← e0]
          exact List.mem_cons_self
        · rw [if_neg e0] at hks
          exact .inl (hn ks hks)
  · rintro ds L hd ⟨lst, x6, x7, kvs, rfl, hs, hl, hk, hn⟩
    exact tr_sub hs (tr_ret (ea_bl ⟨[], hp, rfl, (by repeat (first | exact List.Sublist.refl _ | apply List.Sublist.cons_cons | exact List.nil_sublist _ | apply List.Sublist.cons))⟩))
end XR
-- KDer2
set_option Elab.async false
set_option linter.all false
set_option maxRecDepth 100000
set_option maxHeartbeats 4000000
namespace XR
open PySem PySem.Spec PyProof.Rows L2
section
variable {P : Program} {w : World} {K : PySem.W.Frag} {mg : Str → Option Value} {base : Heap}
/-! ### greatest_weight -/
def names_greatest_weight : List Str := ["pairs", "most", "side", "many"]
def t_greatest_weight (K : PySem.W.Frag) (sp_weights_of : Sp) : TS :=
  (tSeq (tAsg (tC (.int 0)) (gName 1))
    (tSeq (tFor (iTup K (tTup (tCons (tC (.int 0)) (tCons (tC (.int 1)) tNil)))) (gName 2) (tFor (iVals (tFrz (tCall sp_weights_of [] E0 (tCons (tVar 0) (tCons (tVar 2) tNil))))) (gName 3) (tAsg (tCB rMax2 (tCons (tVar 1) (tCons (tVar 3) tNil))) (gName 1))))
    (tRet (tVar 1))))
theorem sc_greatest_weight : FnScope names_greatest_weight ["pairs"] (defScope s_greatest_weight) := ⟨rfl, rfl, rfl, by decide +kernel, rfl, by decide +kernel, by decide +kernel⟩
theorem ok_greatest_weight {sp sp_weights_of : Sp} {lv : Nat} (T : Tp K mg) (c0 : Cal P w K mg base CX0 lv "weights_of" ["pairs", "side"] [] sp_weights_of) (len : ∀ vs H Q E, sp vs H Q E → vs.length = 1)
    (pure : ∀ vs H Q E, sp vs H Q E → t_greatest_weight K sp_weights_of { nx := fun _ H' => Q .non H', rt := Q } (L2.start names_greatest_weight vs) H) : Cal P w K mg base CX0 (lv + 1) "greatest_weight" ["pairs"] [] sp := by
  obtain ⟨fd, F⟩ := T.def_ 9 (d := d_greatest_weight) rfl
  refine ⟨_, fd, [], T.glo 9 rfl, F.kp, FunD.ok (k := lv) F sc_greatest_weight len fun cdv A outer s H vs Q E hr h => ⟨_, PSs.nox ?_, pure vs H Q E h⟩, F.bindsN (fun _ _ _ _ _ _ us hl => match us, hl with | [_], _ => rfl), .nil⟩
  obtain ⟨f0, fd0, ds0, m0, kp0, G0, b0, v0⟩ := c0
  exact (pss_cons (ps_set (i := 1) sc_greatest_weight.nd rfl (by first | exact Or.inl rfl | exact Or.inr rfl) pe_int)
    (pss_cons (ps_for PassesOwn.never rfl (pi_tup (pe_tup (pa_cons pe_int (pa_cons pe_int pa_nil)))) (pg_name (i := 2) sc_greatest_weight.nd rfl (by first | exact Or.inl rfl | exact Or.inr rfl)) (pss_one (ps_for PassesOwn.never rfl (pi_values (pe_freeze (pe_call G0 hr (by rfl) m0 kp0 b0 v0 pass0 (pa_cons (pv 0) (pa_cons (pv 2) pa_nil))))) (pg_name (i := 3) sc_greatest_weight.nd rfl (by first | exact Or.inl rfl | exact Or.inr rfl)) (pss_one (ps_set (i := 1) sc_greatest_weight.nd rfl (by first | exact Or.inl rfl | exact Or.inr rfl) (pe_callB (cr_max2 rfl) (by rfl) (T.free 58 rfl) (by decide +kernel) (pa_cons (pv 1) (pa_cons (pv 3) pa_nil))))))))
    (pss_one (ps_ret (pv 1)))))
/-! ### links_of -/
def names_links_of : List Str := ["pairs", "links", "place", "pair", "side"]
def t_links_of (K : PySem.W.Frag) : TS :=
  (tSeq (tAsg tDNewT (gName 1))
    (tSeq (tFor (iEnum K (tCons (tVar 0) tNil)) (gTup K 2 (gCons (gName 2) (gCons (gName 3) gNil))) (tFor (iTup K (tTup (tCons (tC (.int 0)) (tCons (tC (.int 1)) tNil)))) (gName 4) (sAddTo K (tVar 1) (tTup (tCons (tVar 4) (tCons (tOp (rIxT K) (tVar 3) (tVar 4)) tNil))) (tVar 2))))
    (tRet (tVar 1))))
theorem sc_links_of : FnScope names_links_of ["pairs"] (defScope s_links_of) := ⟨rfl, rfl, rfl, by decide +kernel, rfl, by decide +kernel, by decide +kernel⟩
theorem ok_links_of {sp : Sp} {lv : Nat} (T : Tp K mg) (len : ∀ vs H Q E, sp vs H Q E → vs.length = 1)
    (pure : ∀ vs H Q E, sp vs H Q E → t_links_of K { nx := fun _ H' => Q .non H', rt := Q } (L2.start names_links_of vs) H) : Cal P w K mg base CX0 (lv + 1) "links_of" ["pairs"] [] sp := by
  obtain ⟨fd, F⟩ := T.def_ 10 (d := d_links_of) rfl
  refine ⟨_, fd, [], T.glo 10 rfl, F.kp, FunD.ok (k := lv) F sc_links_of len fun cdv A outer s H vs Q E hr h => ⟨_, PSs.nox ?_, pure vs H Q E h⟩, F.bindsN (fun _ _ _ _ _ _ us hl => match us, hl with | [_], _ => rfl), .nil⟩
  have hu := hu_of hr
  exact (pss_cons (ps_set (i := 1) sc_links_of.nd rfl (by first | exact Or.inl rfl | exact Or.inr rfl) pe_dnewT)
    (pss_cons (ps_for PassesOwn.never rfl (pi_enum (by rfl) (T.free 55 rfl) (pa_cons (pv 0) pa_nil)) (pg_tup rfl (pgs_cons (pg_name (i := 2) sc_links_of.nd rfl (by first | exact Or.inl rfl | exact Or.inr rfl)) (pgs_cons (pg_name (i := 3) sc_links_of.nd rfl (by first | exact Or.inl rfl | exact Or.inr rfl)) pgs_nil))) (pss_one (ps_for PassesOwn.never rfl (pi_tup (pe_tup (pa_cons pe_int (pa_cons pe_int pa_nil)))) (pg_name (i := 4) sc_links_of.nd rfl (by first | exact Or.inl rfl | exact Or.inr rfl)) (pss_one (ps_expr (pe_bm PySem.F.plainAttrs_list PySem.F.slot_list_append PySem.F.type_list_append mt_append (pe_bm PySem.F.plainAttrs_dict PySem.F.slot_dict_setdefault PySem.F.type_dict_setdefault (mt_sdT hu) (pv 1) (pa_cons (pe_tup (pa_cons (pv 4) (pa_cons (pe_ix ix_tup (pv 3) (pv 4) (fun _ _ => rfl)) pa_nil))) (pa_cons (pe_lst pa_nil) pa_nil))) (pa_cons (pv 2) pa_nil)))))))
    (pss_one (ps_ret (pv 1)))))
/-! ### exchange -/
def names_exchange : List Str := ["pairs", "held", "came", "last", "start", "side", "place", "here", "before"]
def t_exchange (K : PySem.W.Frag) : TS :=
  (tSeq (tAsg (tOp (rIxT K) (tVar 4) (tC (.int 0))) (gName 5))
    (tWhile (tB (tC (.bl true))) (tSeq (tAsg (tDGet (tVar 2) (tVar 3)) (gName 6))
    (tSeq (tAsg (tTup (tCons (tVar 5) (tCons (tOp (rIxT K) (tOp (rIxL K) (tVar 0) (tVar 6)) (tVar 5)) tNil))) (gName 7))
    (tSeq (tAsg (tDGet1 (tVar 1) (tVar 7)) (gName 8))
    (tSeq (sDPut (tVar 1) (tVar 3) (tVar 6))
    (tSeq (sDPut (tVar 1) (tVar 7) (tVar 6))
    (tSeq (tIfS (tTest (tOp (rEqD K) (tVar 7) (tVar 4))) tRetN tNext)
    (tAsg (tTup (tCons (tOp rSubI (tC (.int 1)) (tVar 5)) (tCons (tOp (rIxT K) (tOp (rIxL K) (tVar 0) (tVar 8)) (tOp rSubI (tC (.int 1)) (tVar 5))) tNil))) (gName 3))))))))))
theorem sc_exchange : FnScope names_exchange ["pairs", "held", "came", "last", "start"] (defScope s_exchange) := ⟨rfl, rfl, rfl, by decide +kernel, rfl, by decide +kernel, by decide +kernel⟩
theorem ok_exchange {sp : Sp} {lv : Nat} (T : Tp K mg) (len : ∀ vs H Q E, sp vs H Q E → vs.length = 5)
    (pure : ∀ vs H Q E, sp vs H Q E → t_exchange K { nx := fun _ H' => Q .non H', rt := Q } (L2.start names_exchange vs) H) : Cal P w K mg base CX0 (lv + 1) "exchange" ["pairs", "held", "came", "last", "start"] [] sp := by
  obtain ⟨fd, F⟩ := T.def_ 11 (d := d_exchange) rfl
  refine ⟨_, fd, [], T.glo 11 rfl, F.kp, FunD.ok (k := lv) F sc_exchange len fun cdv A outer s H vs Q E hr h => ⟨_, PSs.nox ?_, pure vs H Q E h⟩, F.bindsN (fun _ _ _ _ _ _ us hl => match us, hl with | [_, _, _, _, _], _ => rfl), .nil⟩
  have hu := hu_of hr
  have hu64 := hr.units
  exact (pss_cons (ps_set (i := 5) sc_exchange.nd rfl (by first | exact Or.inl rfl | exact Or.inr rfl) (pe_ix ix_tup (pv 4) pe_int (fun _ _ => rfl)))
    (pss_one (ps_while PassesOwn.never (pt_val pe_bl) (pss_cons (ps_set (i := 6) sc_exchange.nd rfl (by first | exact Or.inl rfl | exact Or.inr rfl) (pe_dget hu (pv 2) (pv 3) (fun _ _ => rfl)))
    (pss_cons (ps_set (i := 7) sc_exchange.nd rfl (by first | exact Or.inl rfl | exact Or.inr rfl) (pe_tup (pa_cons (pv 5) (pa_cons (pe_ix ix_tup (pe_ix ix_list (pv 0) (pv 6) (fun _ _ => rfl)) (pv 5) (fun _ _ => rfl)) pa_nil))))
    (pss_cons (ps_set (i := 8) sc_exchange.nd rfl (by first | exact Or.inl rfl | exact Or.inr rfl) (pe_dget1 hu (pv 1) (pv 7) ⟨rfl, rfl, rfl, rfl⟩))
    (pss_cons (ps_dput hu (pv 1) (pv 3) (pv 6) rfl)
    (pss_cons (ps_dput hu (pv 1) (pv 7) (pv 6) rfl)
    (pss_cons (ps_if (pt_cmpR (op_eqD hu64) (pv 7) (pv 4) (nomark _)) (pss_one ps_retN) pss_nil)
    (pss_one (ps_set (i := 3) sc_exchange.nd rfl (by first | exact Or.inl rfl | exact Or.inr rfl) (pe_tup (pa_cons (pe_op op_sub pe_int (pv 5)) (pa_cons (pe_ix ix_tup (pe_ix ix_list (pv 0) (pv 8) (fun _ _ => rfl)) (pe_op op_sub pe_int (pv 5)) (fun _ _ => rfl)) pa_nil))))))))))))))
/-! ### touch -/
def names_touch : List Str := ["pairs", "links", "held", "heavy", "start", "side", "came", "todo", "at", "place", "there", "back"]
def t_touch (K : PySem.W.Frag) (sp_exchange : Sp) : TS :=
  (tSeq (tAsg (tOp (rIxT K) (tVar 4) (tC (.int 0))) (gName 5))
    (tSeq (tAsg tDNewT (gName 6))
    (tSeq (tAsg (tLst (tCons (tVar 4) tNil)) (gName 7))
    (tSeq (tAsg (tC (.int 0)) (gName 8))
    (tWhile (tTest (tOp rLtI (tVar 8) (tCB (rLenQ K) (tCons (tVar 7) tNil)))) (tSeq (tFor (iList K (tDGet (tVar 1) (tOp (rIxL K) (tVar 7) (tVar 8)))) (gName 9) (tSeq (tAsg (tTup (tCons (tOp rSubI (tC (.int 1)) (tVar 5)) (tCons (tOp (rIxT K) (tOp (rIxL K) (tVar 0) (tVar 9)) (tOp rSubI (tC (.int 1)) (tVar 5))) tNil))) (gName 10))
    (tIfS (tB (tDNotIn (tVar 10) (tVar 6))) (tSeq (sDPut (tVar 6) (tVar 10) (tVar 9))
    (tSeq (tAsg (tC .non) (gName 11))
    (tSeq (tIfS (tB (tDIn (tVar 10) (tVar 2))) (tAsg (tTup (tCons (tVar 5) (tCons (tOp (rIxT K) (tOp (rIxL K) (tVar 0) (tDGet (tVar 2) (tVar 10))) (tVar 5)) tNil))) (gName 11)) tNext)
    (tSeq (tIfS (tOr (tTest (tOp rIsN (tVar 11) (tC .non))) (tB (tDNotIn (tVar 11) (tVar 3)))) (tSeq (tIfS (tTest (tOp rNotN (tVar 11) (tC .non))) (tDrop (tDPopT K (tVar 2) (tVar 11))) tNext)
    (tSeq (tDrop (tCall sp_exchange [] E0 (tCons (tVar 0) (tCons (tVar 2) (tCons (tVar 6) (tCons (tVar 10) (tCons (tVar 4) tNil)))))))
    tRetN)) tNext)
    (tDrop (tBM K "list" rAppend (tVar 7) (tCons (tVar 11) tNil))))))) tNext)))
    (tAsg (tOp rAddI (tVar 8) (tC (.int 1))) (gName 8))))))))
theorem sc_touch : FnScope names_touch ["pairs", "links", "held", "heavy", "start"] (defScope s_touch) := ⟨rfl, rfl, rfl, by decide +kernel, rfl, by decide +kernel, by decide +kernel⟩
theorem ok_touch {sp sp_exchange : Sp} {lv : Nat} (T : Tp K mg) (c0 : Cal P w K mg base CX0 lv "exchange" ["pairs", "held", "came", "last", "start"] [] sp_exchange) (len : ∀ vs H Q E, sp vs H Q E → vs.length = 5)
    (pure : ∀ vs H Q E, sp vs H Q E → t_touch K sp_exchange { nx := fun _ H' => Q .non H', rt := Q } (L2.start names_touch vs) H) : Cal P w K mg base CX0 (lv + 1) "touch" ["pairs", "links", "held", "heavy", "start"] [] sp := by
  obtain ⟨fd, F⟩ := T.def_ 12 (d := d_touch) rfl
  refine ⟨_, fd, [], T.glo 12 rfl, F.kp, FunD.ok (k := lv) F sc_touch len fun cdv A outer s H vs Q E hr h => ⟨_, PSs.nox ?_, pure vs H Q E h⟩, F.bindsN (fun _ _ _ _ _ _ us hl => match us, hl with | [_, _, _, _, _], _ => rfl), .nil⟩
  obtain ⟨f0, fd0, ds0, m0, kp0, G0, b0, v0⟩ := c0
  have hu := hu_of hr
  exact (pss_cons (ps_set (i := 5) sc_touch.nd rfl (by first | exact Or.inl rfl | exact Or.inr rfl) (pe_ix ix_tup (pv 4) pe_int (fun _ _ => rfl)))
    (pss_cons (ps_set (i := 6) sc_touch.nd rfl (by first | exact Or.inl rfl | exact Or.inr rfl) pe_dnewT)
    (pss_cons (ps_set (i := 7) sc_touch.nd rfl (by first | exact Or.inl rfl | exact Or.inr rfl) (pe_lst (pa_cons (pv 4) pa_nil)))
    (pss_cons (ps_set (i := 8) sc_touch.nd rfl (by first | exact Or.inl rfl | exact Or.inr rfl) pe_int)
    (pss_one (ps_while PassesOwn.never (pt_cmpR op_lt (pv 8) (pe_callB cr_lenQ (by rfl) (T.free 51 rfl) (by decide +kernel) (pa_cons (pv 7) pa_nil)) (nomark _)) (pss_cons (ps_for PassesOwn.never rfl (pi_list (pe_dget hu (pv 1) (pe_ix ix_list (pv 7) (pv 8) (fun _ _ => rfl)) (fun _ _ => rfl))) (pg_name (i := 9) sc_touch.nd rfl (by first | exact Or.inl rfl | exact Or.inr rfl)) (pss_cons (ps_set (i := 10) sc_touch.nd rfl (by first | exact Or.inl rfl | exact Or.inr rfl) (pe_tup (pa_cons (pe_op op_sub pe_int (pv 5)) (pa_cons (pe_ix ix_tup (pe_ix ix_list (pv 0) (pv 9) (fun _ _ => rfl)) (pe_op op_sub pe_int (pv 5)) (fun _ _ => rfl)) pa_nil))))
    (pss_one (ps_if (pt_cmp (pc_dnotin hu (pv 10) (pv 6))) (pss_cons (ps_dput hu (pv 6) (pv 10) (pv 9) rfl)
    (pss_cons (ps_set (i := 11) sc_touch.nd rfl (by first | exact Or.inl rfl | exact Or.inr rfl) pe_non)
    (pss_cons (ps_if (pt_cmp (pc_din hu (pv 10) (pv 2))) (pss_one (ps_set (i := 11) sc_touch.nd rfl (by first | exact Or.inl rfl | exact Or.inr rfl) (pe_tup (pa_cons (pv 5) (pa_cons (pe_ix ix_tup (pe_ix ix_list (pv 0) (pe_dget hu (pv 2) (pv 10) (fun _ _ => rfl)) (fun _ _ => rfl)) (pv 5) (fun _ _ => rfl)) pa_nil))))) pss_nil)
    (pss_cons (ps_if (PW.pt (pw_or (pt_cmpR op_isN (pv 11) pe_non (nomark _)) (pw_or1 (pt_cmp (pc_dnotin hu (pv 11) (pv 3)))))) (pss_cons (ps_if (pt_cmpR op_notN (pv 11) pe_non (nomark _)) (pss_one (ps_expr (pe_bm PySem.F.plainAttrs_dict PySem.F.slot_dict_pop PySem.F.type_dict_pop (mt_pop1T hu) (pv 2) (pa_cons (pv 11) pa_nil)))) pss_nil)
    (pss_cons (ps_expr (pe_call G0 hr (by rfl) m0 kp0 b0 v0 pass0 (pa_cons (pv 0) (pa_cons (pv 2) (pa_cons (pv 6) (pa_cons (pv 10) (pa_cons (pv 4) pa_nil)))))))
    (pss_one ps_retN))) pss_nil)
    (pss_one (ps_expr (pe_bm PySem.F.plainAttrs_list PySem.F.slot_list_append PySem.F.type_list_append mt_append (pv 7) (pa_cons (pv 11) pa_nil)))))))) pss_nil))))
    (pss_one (ps_set (i := 8) sc_touch.nd rfl (by first | exact Or.inl rfl | exact Or.inr rfl) (pe_op op_add (pv 8) pe_int))))))))))
/-! ### touching -/
def names_touching : List Str := ["pairs", "links", "most", "heavy", "rack", "held"]
def t_touching (K : PySem.W.Frag) (sp_links_of sp_greatest_weight sp_touch : Sp) : TS :=
  (tSeq (tAsg (tCall sp_links_of [] E0 (tCons (tVar 0) tNil)) (gName 1))
    (tSeq (tAsg (tCall sp_greatest_weight [] E0 (tCons (tVar 0) tNil)) (gName 2))
    (tSeq (tAsg tDNewT (gName 3))
    (tSeq (tFor (iList K (tCB rSortedM (tCons (tVar 1) tNil))) (gName 4) (tIfS (tTest (tOp rEq (tCB (rLenQ K) (tCons (tDGet (tVar 1) (tVar 4)) tNil)) (tVar 2))) (sDPut (tVar 3) (tVar 4) (tC (.bl true))) tNext))
    (tSeq (tAsg tDNewT (gName 5))
    (tSeq (tLock (tFor (iKeys (tVar 3)) (gName 4) (tIfS (tB (tDNotIn (tVar 4) (tVar 5))) (tDrop (tCall sp_touch [] E0 (tCons (tVar 0) (tCons (tVar 1) (tCons (tVar 5) (tCons (tVar 3) (tCons (tVar 4) tNil))))))) tNext)))
    (tRet (tCB (rSortedI K) (tCons (tLockE (tLc (iKeys (tVar 5)) (gName 4) (tTest (tOp rEq (tOp (rIxT K) (tVar 4) (tC (.int 0))) (tC (.int 0)))) (tDGet (tVar 5) (tVar 4)) [4])) tNil)))))))))
theorem sc_touching : FnScope names_touching ["pairs"] (defScope s_touching) := ⟨rfl, rfl, rfl, by decide +kernel, rfl, by decide +kernel, by decide +kernel⟩
theorem ok_touching {sp sp_links_of sp_greatest_weight sp_touch : Sp} {lv : Nat} (T : Tp K mg) (c0 : Cal P w K mg base CX0 lv "links_of" ["pairs"] [] sp_links_of) (c1 : Cal P w K mg base CX0 lv "greatest_weight" ["pairs"] [] sp_greatest_weight) (c2 : Cal P w K mg base CX0 lv "touch" ["pairs", "links", "held", "heavy", "start"] [] sp_touch) (len : ∀ vs H Q E, sp vs H Q E → vs.length = 1)
    (pure : ∀ vs H Q E, sp vs H Q E → t_touching K sp_links_of sp_greatest_weight sp_touch { nx := fun _ H' => Q .non H', rt := Q } (L2.start names_touching vs) H) : Cal P w K mg base CX0 (lv + 1) "touching" ["pairs"] [] sp := by
  obtain ⟨fd, F⟩ := T.def_ 13 (d := d_touching) rfl
  refine ⟨_, fd, [], T.glo 13 rfl, F.kp, FunD.ok (k := lv) F sc_touching len fun cdv A outer s H vs Q E hr h => ⟨_, PSs.nox ?_, pure vs H Q E h⟩, F.bindsN (fun _ _ _ _ _ _ us hl => match us, hl with | [_], _ => rfl), .nil⟩
  obtain ⟨f0, fd0, ds0, m0, kp0, G0, b0, v0⟩ := c0
  obtain ⟨f1, fd1, ds1, m1, kp1, G1, b1, v1⟩ := c1
  obtain ⟨f2, fd2, ds2, m2, kp2, G2, b2, v2⟩ := c2
  have hu := hu_of hr
  exact (pss_cons (ps_set (i := 1) sc_touching.nd rfl (by first | exact Or.inl rfl | exact Or.inr rfl) (pe_call G0 hr (by rfl) m0 kp0 b0 v0 pass0 (pa_cons (pv 0) pa_nil)))
    (pss_cons (ps_set (i := 2) sc_touching.nd rfl (by first | exact Or.inl rfl | exact Or.inr rfl) (pe_call G1 hr (by rfl) m1 kp1 b1 v1 pass0 (pa_cons (pv 0) pa_nil)))
    (pss_cons (ps_set (i := 3) sc_touching.nd rfl (by first | exact Or.inl rfl | exact Or.inr rfl) pe_dnewT)
    (pss_cons (ps_for PassesOwn.never rfl (pi_list (pe_callB (cr_sortedM rfl) (by rfl) (T.free 57 rfl) (by decide +kernel) (pa_cons (pv 1) pa_nil))) (pg_name (i := 4) sc_touching.nd rfl (by first | exact Or.inl rfl | exact Or.inr rfl)) (pss_one (ps_if (pt_cmpR op_eq (pe_callB cr_lenQ (by rfl) (T.free 51 rfl) (by decide +kernel) (pa_cons (pe_dget hu (pv 1) (pv 4) (fun _ _ => rfl)) pa_nil)) (pv 2) (nomark _)) (pss_one (ps_dput hu (pv 3) (pv 4) pe_bl rfl)) pss_nil)))
    (pss_cons (ps_set (i := 5) sc_touching.nd rfl (by first | exact Or.inl rfl | exact Or.inr rfl) pe_dnewT)
    (pss_cons (ps_lock (ps_for PassesOwn.never rfl (pi_keys (pv 3)) (pg_name (i := 4) sc_touching.nd rfl (by first | exact Or.inl rfl | exact Or.inr rfl)) (pss_one (ps_if (pt_cmp (pc_dnotin hu (pv 4) (pv 5))) (pss_one (ps_expr (pe_call G2 hr (by rfl) m2 kp2 b2 v2 pass0 (pa_cons (pv 0) (pa_cons (pv 1) (pa_cons (pv 5) (pa_cons (pv 3) (pa_cons (pv 4) pa_nil)))))))) pss_nil))))
    (pss_one (ps_ret (pe_callB cr_sortedI (by rfl) (T.free 57 rfl) (by decide +kernel) (pa_cons (pe_lock (pe_lc (own := [("rack", 4)]) (g := (gName 4)) (tt := (tTest (tOp rEq (tOp (rIxT K) (tVar 4) (tC (.int 0))) (tC (.int 0))))) (by rfl) sc_touching.nd (pi_keys (pv 5)) (blkOk_by (own := [("rack", 4)]) (N := names_touching) (sc := defScope s_touching) (by decide +kernel)) (fun _ _ _ _ _ => (pg_name (i := 4) sc_touching.nd rfl (by first | exact Or.inl rfl | exact Or.inr rfl))) (fun _ _ _ _ _ => (pts_one (pt_cmpR op_eq (pe_ix ix_tup (pv 4) pe_int (fun _ _ => rfl)) pe_int (nomark _)))) (fun _ _ _ _ _ => (pe_dget hu (pv 5) (pv 4) (fun _ _ => rfl))))) pa_nil))))))))))
/-! ### number_off -/
def names_number_off : List Str := ["pairs", "places", "start", "found", "some", "most", "place", "signs", "sign", "chosen", "left", "at", "part", "one"]
def t_number_off (K : PySem.W.Frag) (sp_greatest_weight sp_halves sp_number_off sp_touching : Sp) : TS :=
  (tSeq (tAsg (tLc (iList K (tVar 1)) (gName 6) tYes (tOp (rIxL K) (tVar 0) (tVar 6)) [6]) (gName 4))
    (tSeq (tAsg (tCall sp_greatest_weight [] E0 (tCons (tVar 4) tNil)) (gName 5))
    (tIfS (tTest (tOp rLtI (tVar 5) (tC (.int 2)))) (tFor (iList K (tVar 1)) (gName 6) (tAsg (tVar 2) (gSub (tVar 3) (tVar 6) rSetL))) (tIfS (tTest (tOp rEq (tOp rModI (tVar 5) (tC (.int 2))) (tC (.int 0)))) (tSeq (tAsg (tCall sp_halves [] E0 (tCons (tVar 4) tNil)) (gName 7))
    (tFor (iTup K (tTup (tCons (tC (.int 0)) (tCons (tC (.int 1)) tNil)))) (gName 8) (tSeq (tAsg (tLc (iZip K (tCons (tVar 1) (tCons (tVar 7) tNil))) (gTup K 2 (gCons (gName 6) (gCons (gName 13) gNil))) (tTest (tOp rEq (tVar 13) (tVar 8))) (tVar 6) [6, 13]) (gName 12))
    (tDrop (tCall sp_number_off [] E0 (tCons (tVar 0) (tCons (tVar 12) (tCons (tOp rAddI (tVar 2) (tOp rMulI (tVar 8) (tOp rDivI (tVar 5) (tC (.int 2))))) (tCons (tVar 3) tNil))))))))) (tSeq (tAsg (tCall sp_touching [] E0 (tCons (tVar 4) tNil)) (gName 9))
    (tSeq (tAsg (tLc (iRng1 (tCons (tCB (rLenQ K) (tCons (tVar 1) tNil)) tNil)) (gName 11) (tTest (tOp (rIn K true) (tVar 11) (tVar 9))) (tOp (rIxL K) (tVar 1) (tVar 11)) [11]) (gName 10))
    (tSeq (tFor (iList K (tVar 9)) (gName 11) (tAsg (tVar 2) (gSub (tVar 3) (tOp (rIxL K) (tVar 1) (tVar 11)) rSetL)))
    (tDrop (tCall sp_number_off [] E0 (tCons (tVar 0) (tCons (tVar 10) (tCons (tOp rAddI (tVar 2) (tC (.int 1))) (tCons (tVar 3) tNil)))))))))))))
theorem sc_number_off : FnScope names_number_off ["pairs", "places", "start", "found"] (defScope s_number_off) := ⟨rfl, rfl, rfl, by decide +kernel, rfl, by decide +kernel, by decide +kernel⟩
theorem ok_number_off {sp sp_greatest_weight sp_halves sp_number_off sp_touching : Sp} {lv : Nat} (T : Tp K mg) (c0 : Cal P w K mg base CX0 lv "greatest_weight" ["pairs"] [] sp_greatest_weight) (c1 : Cal P w K mg base CX0 lv "halves" ["pairs"] [] sp_halves) (c2 : Cal P w K mg base CX0 lv "number_off" ["pairs", "places", "start", "found"] [] sp_number_off) (c3 : Cal P w K mg base CX0 lv "touching" ["pairs"] [] sp_touching) (len : ∀ vs H Q E, sp vs H Q E → vs.length = 4)
    (pure : ∀ vs H Q E, sp vs H Q E → t_number_off K sp_greatest_weight sp_halves sp_number_off sp_touching { nx := fun _ H' => Q .non H', rt := Q } (L2.start names_number_off vs) H) : Cal P w K mg base CX0 (lv + 1) "number_off" ["pairs", "places", "start", "found"] [] sp := by
  obtain ⟨fd, F⟩ := T.def_ 14 (d := d_number_off) rfl
  refine ⟨_, fd, [], T.glo 14 rfl, F.kp, FunD.ok (k := lv) F sc_number_off len fun cdv A outer s H vs Q E hr h => ⟨_, PSs.nox ?_, pure vs H Q E h⟩, F.bindsN (fun _ _ _ _ _ _ us hl => match us, hl with | [_, _, _, _], _ => rfl), .nil⟩
  obtain ⟨f0, fd0, ds0, m0, kp0, G0, b0, v0⟩ := c0
  obtain ⟨f1, fd1, ds1, m1, kp1, G1, b1, v1⟩ := c1
  obtain ⟨f2, fd2, ds2, m2, kp2, G2, b2, v2⟩ := c2
  obtain ⟨f3, fd3, ds3, m3, kp3, G3, b3, v3⟩ := c3
  exact (pss_cons (ps_setLc (i := 4) (own := [("place", 6)]) (g := (gName 6)) (tt := tYes) (by rfl) sc_number_off.nd rfl rfl (sw_true rfl rfl rfl (by decide +kernel)) (pi_list (pv 1)) (blkOk_by (own := [("place", 6)]) (N := names_number_off) (sc := defScope s_number_off) (by decide +kernel)) (fun _ _ _ _ _ => (pg_name (i := 6) sc_number_off.nd rfl (by first | exact Or.inl rfl | exact Or.inr rfl))) (fun _ _ _ _ _ => pts_nil) (fun _ _ _ _ _ => (pe_ix ix_list (pv 0) (pv 6) (fun _ _ => rfl))))
    (pss_cons (ps_set (i := 5) sc_number_off.nd rfl (by first | exact Or.inl rfl | exact Or.inr rfl) (pe_call G0 hr (by rfl) m0 kp0 b0 v0 pass0 (pa_cons (pv 4) pa_nil)))
    (pss_one (ps_if (pt_cmpR op_lt (pv 5) pe_int (nomark _)) (pss_one (ps_for PassesOwn.never rfl (pi_list (pv 1)) (pg_name (i := 6) sc_number_off.nd rfl (by first | exact Or.inl rfl | exact Or.inr rfl)) (pss_one (ps_asg (pv 2) (pg_sub (pv 3) (pv 6) set_list))))) (pss_one (ps_if (pt_cmpR op_eq (pe_op op_mod (pv 5) pe_int) pe_int (nomark _)) (pss_cons (ps_set (i := 7) sc_number_off.nd rfl (by first | exact Or.inl rfl | exact Or.inr rfl) (pe_call G1 hr (by rfl) m1 kp1 b1 v1 pass0 (pa_cons (pv 4) pa_nil)))
    (pss_one (ps_for PassesOwn.never rfl (pi_tup (pe_tup (pa_cons pe_int (pa_cons pe_int pa_nil)))) (pg_name (i := 8) sc_number_off.nd rfl (by first | exact Or.inl rfl | exact Or.inr rfl)) (pss_cons (ps_setLc (i := 12) (own := [("place", 6), ("one", 13)]) (g := (gTup K 2 (gCons (gName 6) (gCons (gName 13) gNil)))) (tt := (tTest (tOp rEq (tVar 13) (tVar 8)))) (by rfl) sc_number_off.nd rfl rfl (sw_true rfl rfl rfl (by decide +kernel)) (pi_zip (by rfl) (T.free 56 rfl) (pa_cons (pv 1) (pa_cons (pv 7) pa_nil))) (blkOk_by (own := [("place", 6), ("one", 13)]) (N := names_number_off) (sc := defScope s_number_off) (by decide +kernel)) (fun _ _ _ _ _ => (pg_tup rfl (pgs_cons (pg_name (i := 6) sc_number_off.nd rfl (by first | exact Or.inl rfl | exact Or.inr rfl)) (pgs_cons (pg_name (i := 13) sc_number_off.nd rfl (by first | exact Or.inl rfl | exact Or.inr rfl)) pgs_nil)))) (fun _ _ _ _ _ => (pts_one (pt_cmpR op_eq (pv 13) (pv 8) (nomark _)))) (fun _ _ _ _ _ => (pv 6)))
    (pss_one (ps_expr (pe_call G2 hr (by rfl) m2 kp2 b2 v2 pass0 (pa_cons (pv 0) (pa_cons (pv 12) (pa_cons (pe_op op_add (pv 2) (pe_op op_mul (pv 8) (pe_op op_fdiv (pv 5) pe_int))) (pa_cons (pv 3) pa_nil))))))))))) (pss_cons (ps_set (i := 9) sc_number_off.nd rfl (by first | exact Or.inl rfl | exact Or.inr rfl) (pe_call G3 hr (by rfl) m3 kp3 b3 v3 pass0 (pa_cons (pv 4) pa_nil)))
    (pss_cons (ps_setLc (i := 10) (own := [("at", 11)]) (g := (gName 11)) (tt := (tTest (tOp (rIn K true) (tVar 11) (tVar 9)))) (by rfl) sc_number_off.nd rfl rfl (sw_true rfl rfl rfl (by decide +kernel)) (pi_range1 (by rfl) (T.free 54 rfl) (pa_cons (pe_callB cr_lenQ (by rfl) (T.free 51 rfl) (by decide +kernel) (pa_cons (pv 1) pa_nil)) pa_nil)) (blkOk_by (own := [("at", 11)]) (N := names_number_off) (sc := defScope s_number_off) (by decide +kernel)) (fun _ _ _ _ _ => (pg_name (i := 11) sc_number_off.nd rfl (by first | exact Or.inl rfl | exact Or.inr rfl))) (fun _ _ _ _ _ => (pts_one (pt_cmpR op_notIn_seq (pv 11) (pv 9) (by rfl)))) (fun _ _ _ _ _ => (pe_ix ix_list (pv 1) (pv 11) (fun _ _ => rfl))))
    (pss_cons (ps_for PassesOwn.never rfl (pi_list (pv 9)) (pg_name (i := 11) sc_number_off.nd rfl (by first | exact Or.inl rfl | exact Or.inr rfl)) (pss_one (ps_asg (pv 2) (pg_sub (pv 3) (pe_ix ix_list (pv 1) (pv 11) (fun _ _ => rfl)) set_list))))
    (pss_one (ps_expr (pe_call G2 hr (by rfl) m2 kp2 b2 v2 pass0 (pa_cons (pv 0) (pa_cons (pv 10) (pa_cons (pe_op op_add (pv 2) pe_int) (pa_cons (pv 3) pa_nil))))))))))))))))
end
end XR
-- KRead1
set_option Elab.async false
set_option linter.all false
set_option maxRecDepth 100000
set_option maxHeartbeats 1000000
/-! the readings of the text's defs: halves, weights -/
namespace XR
open PySem PySem.Spec PyProof.Rows L2 XM
def A_wts : List D → Fp → (D → Nw → Prop) → Prop := fun xs L P => ∃ (a : Addr) (ps : List Pr) (s : Bool), xs = [.ref a, .int (bi s)] ∧ L = [(a, false, .ro (ps.map dP))] ∧ ps.length ≤ 1000 ∧ ∀ p, P (.ref p) [(p, .dK (eK dN (wts ps s)))]
theorem rd_weights_of {K : PySem.W.Frag} : ∀ vs H Q E, SpP K A_wts vs H Q E → t_weights_of K { nx := fun _ H' => Q .non H', rt := Q } (L2.start names_weights_of vs) H := fun vs H Q E => spP_body fun H0 xs L P => by
  rintro ⟨a, ps, s, rfl, rfl, hz, hp⟩
  refine tr_seq (tr_set (ea_dnewK fun f => ?_))
  refine tr_seq (tr_forL ps dP (fun i ds L => ∃ x3 g, ds = [some (.ref a), some (.int (bi s)), some (.ref f), x3] ∧ L = [(a, false, .ro (ps.map dP)), (f, true, .dK (eK dN g))] ∧ g.length ≤ i ∧ wtsGo s (ps.drop i) g = wts ps s)
    (ea_var rfl ⟨a, rfl, (by repeat (first | exact At.lst | exact At.ro | exact At.sc | apply At.tl)), ?_, ?_, ?_, ?_⟩))
  · exact ⟨none, [], rfl, rfl, Nat.zero_le _, rfl⟩
  · rintro i ds L ⟨x3, g, rfl, rfl, hl, e⟩
    exact (by repeat (first | exact At.lst | exact At.ro | exact At.sc | apply At.tl))
  · rintro i ds L p h1 h2 hi ⟨x3, g, rfl, rfl, hl, e⟩
    rw [h2] at e
    refine ag_name (tr_dput (ea_op (ea_dget2N dN (ea_var rfl ⟨f, dN 0, _, rfl, (by repeat (first | exact dg_T | exact dg_rT | exact dg_fT | exact dg_K | apply Dg.tl)), ea_op (ea_var rfl (ea_var rfl (rb_sd (ea_int ⟨_, 0, rfl, (by repeat (first | exact dg_T | exact dg_rT | exact dg_fT | exact dg_K | apply Dg.tl)),
      ea_int (rb_inc (ea_var rfl (ea_op (ea_var rfl (ea_var rfl (rb_sd ⟨f, _, rfl, dp_K (f := dN) (d := g) (v := (aget g (XM.sd p s)).getD 0 + 1) (by repeat (first | exact Up.hd | apply Up.tl)) (by omega), ?_⟩))))))⟩))))⟩))))
    exact ⟨_, _, rfl, rfl, Nat.le_trans (aput_len _ _ _) (by omega), e⟩
  · rintro ds L hd ⟨x3, g, rfl, rfl, hl, e⟩
    rw [hd] at e
    refine tr_ret (ea_var rfl ?_)
    exact ⟨_, hp f, rfl, by rw [← e]; exact (by repeat (first | exact List.Sublist.refl _ | apply List.Sublist.cons_cons | exact List.nil_sublist _ | apply List.Sublist.cons))⟩

def A_gw : List D → Fp → (D → Nw → Prop) → Prop := fun xs L P => ∃ (a : Addr) (ps : List Pr), xs = [.ref a] ∧ L = [(a, false, .ro (ps.map dP))] ∧ ps.length ≤ 1000 ∧ P (dN (gw ps)) []
theorem rd_greatest_weight {K : PySem.W.Frag} : ∀ vs H Q E, SpP K A_gw vs H Q E → t_greatest_weight K (SpP K A_wts) { nx := fun _ H' => Q .non H', rt := Q } (L2.start names_greatest_weight vs) H := fun vs H Q E => spP_body fun H0 xs L P => by
  rintro ⟨a, ps, rfl, rfl, hz, hp⟩
  have one : ∀ (s : Bool) (m : Nat) (x3 : Option D) (L : Fp) (kk : Kt), [(a, false, O.ro (ps.map dP))].Sublist L → (∀ x3 L', [(a, false, O.ro (ps.map dP))].Sublist L' → kk.nx [some (.ref a), some (dN (maxv m (wts ps s))), some (.int (bi s)), x3] L') →
      Tr K H0 [] (tFor (iVals (tFrz (tCall (SpP K A_wts) [] E0 (tCons (tVar 0) (tCons (tVar 2) tNil))))) (gName 3) (tAsg (tCB rMax2 (tCons (tVar 1) (tCons (tVar 3) tNil))) (gName 1))) [some (.ref a), some (dN m), some (.int (bi s)), x3] L kk := fun s m x3 L kk hs hk => by
    refine tr_sub hs ?_
    refine tr_for (ai_valsN (ea_callP (dd := []) (fun _ => rfl) (el_cons (ea_var rfl (el_cons (ea_var rfl (el_nil ⟨[(a, false, .ro (ps.map dP))], fun d N => ∃ p, d = .ref p ∧ N = [(p, .dK (eK dN (wts ps s)))], (by repeat (first | exact Sb.nil | refine Sb.keep (by first | exact Wk.rfl | exact Wk.ro | exact Wk.rT | exact Wk.rF) ?_ | apply Sb.skip)), ⟨a, ps, s, rfl, rfl, hz, fun p => ⟨p, rfl, rfl⟩⟩, ?_⟩)))))))
    rintro d N ⟨p, rfl, rfl⟩
    refine ⟨p, _, rfl, fun od ws => ⟨_, (by repeat (first | exact Up.hd | apply Up.tl)), fun i ds L => ∃ x3 m', ds = [some (.ref a), some (dN m'), some (.int (bi s)), x3] ∧ L = [(a, false, .ro (ps.map dP)), (p, true, .fK (eK dN (wts ps s)) od ws)] ∧ maxv m' ((wts ps s).drop i) = maxv m (wts ps s), ?_, ?_, ?_, ?_⟩⟩
    · exact ⟨x3, m, rfl, rfl, rfl⟩
    · rintro i ds L hi ⟨x3, m', rfl, rfl, e⟩
      exact (by repeat (first | exact List.mem_cons_self | apply List.mem_cons_of_mem))
    · rintro i ds L hi ⟨x3, m', rfl, rfl, e⟩
      rw [List.length_map] at hi
      have h1 : (wts ps s)[i]? = some (wts ps s)[i] := List.getElem?_eq_getElem hi
      rw [List.drop_eq_getElem_cons hi] at e
      show Ag K H0 [] (gName 3) ((((eK dN (wts ps s))[i]?).map (·.2)).getD .non) _ _ _
      rw [eK_at h1]
      refine ag_name (tr_set (ea_cb (el_cons (ea_var rfl (el_cons (ea_var rfl (el_nil (rc_maxN ?_))))))))
      exact ⟨_, _, rfl, rfl, e⟩
    · rintro ds L ⟨x3, m', rfl, rfl, e⟩
      rw [List.length_map, List.drop_length] at e
      have e2 : m' = maxv m (wts ps s) := e
      rw [← e2] at hk
      exact hk _ _ (by repeat (first | exact List.Sublist.refl _ | apply List.Sublist.cons_cons | exact List.nil_sublist _ | apply List.Sublist.cons))
  refine tr_seq (tr_set (ea_int ?_))
  refine tr_seq (tr_for2 (ea_tup (el_cons (ea_int (el_cons (ea_int (el_nil ⟨by decide, rfl, ?_⟩)))))))
  refine ag_name (one false 0 _ _ _ (by repeat (first | exact List.Sublist.refl _ | apply List.Sublist.cons_cons | exact List.nil_sublist _ | apply List.Sublist.cons)) fun x3 L' hs => ?_)
  refine ag_name (one true _ _ _ _ hs fun x3 L' hs => ?_)
  refine tr_sub hs (tr_ret (ea_var rfl ?_))
  exact ⟨[], hp, rfl, (by repeat (first | exact List.Sublist.refl _ | apply List.Sublist.cons_cons | exact List.nil_sublist _ | apply List.Sublist.cons))⟩

def A_partners : List D → Fp → (D → Nw → Prop) → Prop := fun xs L P => ∃ (a : Addr) (ps : List Pr) (s : Bool) (r : List (Option Nat)), xs = [.ref a, .int (bi s)] ∧ L = [(a, false, .ro (ps.map dP))] ∧ ps.length ≤ 1000 ∧ partners ps s = some r ∧ ∀ p, P (.ref p) [(p, .lst (r.map dO))]
theorem rd_partners {K : PySem.W.Frag} : ∀ vs H Q E, SpP K A_partners vs H Q E → t_partners K { nx := fun _ H' => Q .non H', rt := Q } (L2.start names_partners vs) H := fun vs H Q E => spP_body fun H0 xs L P => by
  rintro ⟨a, ps, s, r, rfl, rfl, hz, hr, hp⟩
  refine tr_seq (tr_set (ea_op (ea_lst (el_cons (ea_non (el_nil ⟨by decide, fun q => ea_cb (el_cons (ea_var rfl (el_nil (rc_len (by repeat (first | exact At.lst | exact At.ro | exact At.sc | apply At.tl)) (rb_rep ⟨true, (by repeat (first | exact List.mem_cons_self | apply List.mem_cons_of_mem))⟩ (by rw [List.length_map]; omega) fun f => ?_)))))⟩))))))
  refine tr_seq (tr_set (ea_dnewK fun g => ?_))
  have e0 : List.replicate (ps.map dP).length D.non = (List.replicate ps.length (none : Option Nat)).map dO := by rw [List.length_map, List.map_replicate]; rfl
  rw [e0]
  refine tr_seq (tr_forE ps dP (fun i ds L => ∃ x4 x5 x6 x7 fl al, ds = [some (.ref a), some (.int (bi s)), some (.ref f), some (.ref g), x4, x5, x6, x7] ∧ [(a, false, O.ro (ps.map dP)), (f, true, .lst (fl.map dO)), (g, true, .dK (eK dN al))].Sublist L ∧ al.length ≤ i ∧ partGo s i (ps.drop i) fl al = some r)
    (el_cons (ea_var rfl (el_nil ⟨a, rfl, (by repeat (first | exact At.lst | exact At.ro | exact At.sc | apply At.tl)), ?_, ?_, ?_, ?_⟩))))
  · exact ⟨none, none, none, none, _, [], rfl, (by repeat (first | exact List.Sublist.refl _ | apply List.Sublist.cons_cons | exact List.nil_sublist _ | apply List.Sublist.cons)), Nat.zero_le _, hr⟩
  · rintro i ds L ⟨x4, x5, x6, x7, fl, al, rfl, hs, hl, e⟩
    exact at_sub hs (by repeat (first | exact At.lst | exact At.ro | exact At.sc | apply At.tl))
  · rintro i ds L p h1 h2 hi ⟨x4, x5, x6, x7, fl, al, rfl, hs, hl, e⟩
    rw [h2] at e
    unfold partGo at e
    refine ag_sub hs (ag_tup rfl (ags_cons (ag_name (ags_cons (ag_name (ags_nil ?_))))))
    refine tr_seq (tr_set (ea_op (ea_var rfl (ea_var rfl (rb_sd ?_)))))
    refine tr_if (et_B (ea_din (ea_var rfl (ea_var rfl ⟨g, _, rfl, (by repeat (first | exact dg_T | exact dg_rT | exact dg_fT | exact dg_K | apply Dg.tl)), _, rfl, cndG (fun o ho => ?_) (fun ho => ?_)⟩))))
    · rw [ho] at e
      have e : (if i < fl.length ∧ o < fl.length then partGo s (i + 1) (ps.drop (i + 1)) ((fl.set i (some o)).set o (some i)) (adrop al (XM.sd p s)) else none) = some r := e
      by_cases hc : i < fl.length ∧ o < fl.length
      · rw [if_pos hc] at e
        refine tr_seq (tr_set (ea_dpop1N dN (ea_var rfl ⟨g, dN 0, _, rfl, (by repeat (first | exact dg_T | exact dg_rT | exact dg_fT | exact dg_K | apply Dg.tl)), ea_var rfl ⟨_, al, o, _, rfl, ho, (by repeat (first | exact Up.hd | apply Up.tl)), ?_⟩⟩)))
        refine tr_seq (tr_setN dO (ea_var rfl (ea_var rfl (ea_var rfl ⟨f, fl, i, some o, _, rfl, rfl, rfl, (by repeat (first | exact Up.hd | apply Up.tl)), hc.1, ?_⟩))))
        refine tr_setN dO (ea_var rfl (ea_var rfl (ea_var rfl ⟨f, fl.set i (some o), o, some i, _, rfl, rfl, rfl, (by repeat (first | exact Up.hd | apply Up.tl)), by rw [List.length_set]; exact hc.2, ?_⟩)))
        exact ⟨_, _, _, _, _, _, rfl, (by repeat (first | exact List.Sublist.refl _ | apply List.Sublist.cons_cons | exact List.nil_sublist _ | apply List.Sublist.cons)), Nat.le_trans (List.length_filter_le _ _) (by omega), e⟩
      · rw [if_neg hc] at e
        cases e
    · rw [ho] at e
      refine tr_dput (ea_var rfl (ea_var rfl (ea_var rfl ⟨g, _, rfl, dp_K (f := dN) (d := al) (v := i) (by repeat (first | exact Up.hd | apply Up.tl)) (by omega), ?_⟩)))
      exact ⟨_, _, _, _, _, _, rfl, (by repeat (first | exact List.Sublist.refl _ | apply List.Sublist.cons_cons | exact List.nil_sublist _ | apply List.Sublist.cons)), Nat.le_trans (aput_len _ _ _) (by omega), e⟩
  · rintro ds L hd ⟨x4, x5, x6, x7, fl, al, rfl, hs, hl, e⟩
    rw [hd] at e
    have e : some fl = some r := e
    refine tr_sub hs (tr_ret (ea_var rfl ?_))
    exact ⟨_, hp f, rfl, by rw [← Option.some.inj e]; exact (by repeat (first | exact List.Sublist.refl _ | apply List.Sublist.cons_cons | exact List.nil_sublist _ | apply List.Sublist.cons))⟩

def A_give : List D → Addr → O → Fp → (D → O → Nw → Prop) → Prop := fun xs m o L P => ∃ (a b : Addr) (p : Nat) (nr fr : List (Option Nat)) (sg r : List (Option Bool)), xs = [.ref m, dN p, .ref a, .ref b] ∧ o = .lst (sg.map dS) ∧ L = [(a, false, .ro (nr.map dO)), (b, false, .ro (fr.map dO))] ∧
  sg.length ≤ 1000 ∧ give nr fr p sg = some r ∧ P .non (.lst (r.map dS)) []
theorem dK2_dd (L : Fp) (x : Nat × Bool) : Dd L (dK2 x) (.tuple [.int (x.1 : Nat), .int (bi x.2)]) := .tup (.cons (.int _) (.cons (.int _) .nil))
theorem rd_give_signs {K : PySem.W.Frag} : ∀ vs H Q E, SpM K A_give vs H Q E → t_give_signs K { nx := fun _ H' => Q .non H', rt := Q } (L2.start names_give_signs vs) H := fun vs H Q E => spM_body fun H0 xs m o L P => by
  rintro ⟨a, b, p, nr, fr, sg, r, rfl, rfl, rfl, hz, hr, hp⟩
  refine tr_seq (tr_set (ea_lst (el_cons (ea_tup (el_cons (ea_var rfl (el_cons (ea_int (el_nil ⟨by show 2 ≤ 1000; decide, el_nil ⟨by show 1 ≤ 1000; decide, fun t => ?_⟩⟩)))))))))
  have one : ∀ (q : Nat) (o : Option Nat) (bb : Bool) (x7 : Option D) (sg : List (Option Bool)) (stk : List (Nat × Bool)) (L : Fp) (kk : Kt), stk.length < 90000 → [(m, true, O.lst (sg.map dS)), (a, false, .ro (nr.map dO)), (b, false, .ro (fr.map dO)), (t, true, .lst (stk.reverse.map dK2))].Sublist L →
      (∀ L', [(m, true, O.lst (sg.map dS)), (a, false, .ro (nr.map dO)), (b, false, .ro (fr.map dO)), (t, true, .lst ((push stk o (!bb)).reverse.map dK2))].Sublist L' → kk.nx [some (.ref m), some (dN p), some (.ref a), some (.ref b), some (.ref t), some (dN q), some (.int (bi bb)), some (dO o)] L') →
      Ag K H0 [m] (gName 7) (dO o) [some (.ref m), some (dN p), some (.ref a), some (.ref b), some (.ref t), some (dN q), some (.int (bi bb)), x7] L fun d2 L2 =>
        Tr K H0 [m] (tIfS (tTest (tOp rNotN (tVar 7) (tC .non))) (tDrop (tBM K "list" rAppend (tVar 4) (tCons (tTup (tCons (tVar 7) (tCons (tOp rSubI (tC (.int 1)) (tVar 6)) tNil))) tNil))) tNext) d2 L2 kk := fun q o bb x7 sg stk L kk hl hs hk => by
    refine ag_sub hs (ag_name (tr_if (et_test (ea_op (ea_var rfl (ea_non (rb_notN ⟨_, rfl, ?_⟩)))))))
    cases o with
    | none => exact cndF (tr_next (hk _ (by repeat (first | exact List.Sublist.refl _ | apply List.Sublist.cons_cons | exact List.nil_sublist _ | apply List.Sublist.cons))))
    | some n =>
      refine cndT (tr_drop (ea_bmL (ea_var rfl ⟨t, _, rfl, (by repeat (first | exact At.lst | exact At.ro | exact At.sc | apply At.tl)), el_cons (ea_tup (el_cons (ea_var rfl (el_cons (ea_op (ea_int (ea_var rfl (rb_flip (el_nil ⟨by show 2 ≤ 1000; decide, el_nil (rm_appendN (f := dK2) (n, !bb) (by repeat (first | exact Up.hd | apply Up.tl)) (by rw [List.length_reverse]; omega) ?_)⟩)))))))))⟩)))
      refine hk _ ?_
      have e : ((n, !bb) :: stk).reverse = stk.reverse ++ [(n, !bb)] := List.reverse_cons
      show List.Sublist [_, _, _, (t, true, O.lst (((n, !bb) :: stk).reverse.map dK2))] _
      rw [e]
      exact (by repeat (first | exact List.Sublist.refl _ | apply List.Sublist.cons_cons | exact List.nil_sublist _ | apply List.Sublist.cons))
  refine tr_while (fun mm ds L => ∃ x5 x6 x7 sg stk, ds = [some (.ref m), some (dN p), some (.ref a), some (.ref b), some (.ref t), x5, x6, x7] ∧ [(m, true, O.lst (sg.map dS)), (a, false, .ro (nr.map dO)), (b, false, .ro (fr.map dO)), (t, true, .lst (stk.reverse.map dK2))].Sublist L ∧
    stk.length + mm ≤ 4000 ∧ giveGo nr fr mm stk sg = some r) (3 * sg.length + 2) ⟨none, none, none, sg, [(p, false)], rfl, (by repeat (first | exact List.Sublist.refl _ | apply List.Sublist.cons_cons | exact List.nil_sublist _ | apply List.Sublist.cons)), by show 1 + _ ≤ _; omega, hr⟩ ?_
  rintro mm ds L ⟨x5, x6, x7, sg, stk, rfl, hs, hl, e⟩
  refine et_sub hs (et_test (ea_neNil (f := dK2) (l := stk.reverse) rfl (by repeat (first | exact At.lst | exact At.ro | exact At.sc | apply At.tl)) dK2_dd (fun _ => rfl) (fun _ => by show 1 ≤ 10; decide) fun j => ⟨_, rfl, ?_⟩))
  cases mm with
  | zero => cases e
  | succ mm =>
    cases stk with
    | nil =>
      have e : some sg = some r := e
      refine cndF ⟨.lst (r.map dS), [], hp, rfl, ?_⟩
      rw [← Option.some.inj e]
      exact (by repeat (first | exact List.Sublist.refl _ | apply List.Sublist.cons_cons | exact List.nil_sublist _ | apply List.Sublist.cons))
    | cons x stk =>
      obtain ⟨q, bb⟩ := x
      have e1 : (!((q, bb) :: stk).reverse.isEmpty) = true := by simp
      rw [e1]
      have e2 : ((q, bb) :: stk).reverse.map dK2 = stk.reverse.map dK2 ++ [dK2 (q, bb)] := by rw [List.reverse_cons, List.map_append]; rfl
      rw [e2]
      have hl : stk.length + 1 + (mm + 1) ≤ 4000 := hl
      unfold giveGo at e
      refine cndT (tr_seq (tr_asg (ea_bm0L (ea_var rfl ⟨t, _, rfl, (by repeat (first | exact At.lst | exact At.ro | exact At.sc | apply At.tl)), rm_pop (xs := stk.reverse.map dK2) (d := dK2 (q, bb)) (by repeat (first | exact Up.hd | apply Up.tl)) (ag_tup rfl (ags_cons (ag_name (ags_cons (ag_name (ags_nil ?_))))))⟩))))
      cases hx : sg[q]? with
      | none => rw [hx] at e; cases e
      | some o =>
        rw [hx] at e
        refine tr_if (et_test (ea_op (ea_op (ea_var rfl (ea_var rfl (rb_ixN (f := dS) (by repeat (first | exact At.lst | exact At.ro | exact At.sc | apply At.tl)) hx (ea_non (rb_isN ⟨_, rfl, ?_⟩))))))))
        cases o with
        | some s2 =>
          have e : giveGo nr fr mm stk sg = some r := e
          exact cndF (tr_next ⟨mm, Nat.lt_succ_self _, _, _, _, sg, stk, rfl, (by repeat (first | exact List.Sublist.refl _ | apply List.Sublist.cons_cons | exact List.nil_sublist _ | apply List.Sublist.cons)), by omega, e⟩)
        | none =>
          have hlt : q < sg.length := (List.getElem?_eq_some_iff.mp hx).1
          cases h1 : nr[q]? with
          | none => rw [h1] at e; cases e
          | some o1 =>
            cases h2 : fr[q]? with
            | none => rw [h1, h2] at e; cases e
            | some o2 =>
              rw [h1, h2] at e
              have e : giveGo nr fr mm (push (push stk o1 !bb) o2 !bb) (sg.set q (some bb)) = some r := e
              refine cndT (tr_seq (tr_setN dS (ea_var rfl (ea_var rfl (ea_var rfl ⟨m, sg, q, some bb, _, rfl, rfl, rfl, (by repeat (first | exact Up.hd | apply Up.tl)), hlt, ?_⟩)))))
              refine tr_for2 (ea_tup (el_cons (ea_op (ea_var rfl (ea_var rfl (rb_ixN (f := dO) (by repeat (first | exact At.lst | exact At.ro | exact At.sc | apply At.tl)) h1 (el_cons (ea_op (ea_var rfl (ea_var rfl (rb_ixN (f := dO) (by repeat (first | exact At.lst | exact At.ro | exact At.sc | apply At.tl)) h2 (el_nil ⟨by show 2 ≤ 1000; decide, rfl, ?_⟩))))))))))))
              have p1 : ∀ (stk : List (Nat × Bool)) (o : Option Nat) (b : Bool), (push stk o b).length ≤ stk.length + 1 := fun stk o b => by
                cases o with
                | none => exact Nat.le_succ _
                | some _ => exact Nat.le_refl _
              refine one q o1 bb _ _ stk _ _ (by omega) (by repeat (first | exact List.Sublist.refl _ | apply List.Sublist.cons_cons | exact List.nil_sublist _ | apply List.Sublist.cons)) fun L' hs' => ?_
              have q1 := p1 stk o1 !bb
              refine one q o2 bb _ _ _ _ _ (by omega) hs' fun L2 hs2 => ?_
              have q2 := p1 (push stk o1 !bb) o2 !bb
              exact ⟨mm, Nat.lt_succ_self _, _, _, _, _, _, rfl, hs2, by omega, e⟩

def A_halves : List D → Fp → (D → Nw → Prop) → Prop := fun xs L P => ∃ (a : Addr) (ps : List Pr) (r : List (Option Bool)), xs = [.ref a] ∧ L = [(a, false, .ro (ps.map dP))] ∧ ps.length ≤ 1000 ∧ halves ps = some r ∧ ∀ p, P (.ref p) [(p, .lst (r.map dS))]
theorem give_len {near far : List (Option Nat)} : ∀ {f : Nat} {stk : List (Nat × Bool)} {sg r : List (Option Bool)}, giveGo near far f stk sg = some r → r.length = sg.length
  | 0, _, _, _, h => by cases h
  | f + 1, [], sg, r, h => by
    have e : some sg = some r := h
    rw [Option.some.inj e]
  | f + 1, (p, b) :: stk, sg, r, h => by
    unfold giveGo at h
    cases h1 : sg[p]? with
    | none => rw [h1] at h; cases h
    | some o =>
      rw [h1] at h
      cases o with
      | some s => exact give_len (f := f) h
      | none =>
        cases h2 : near[p]? with
        | none => rw [h2] at h; cases h
        | some o1 =>
          cases h3 : far[p]? with
          | none => rw [h2, h3] at h; cases h
          | some o2 =>
            rw [h2, h3] at h
            have e : giveGo near far f (push (push stk o1 !b) o2 !b) (sg.set p (some b)) = some r := h
            rw [give_len e, List.length_set]
theorem rd_halves {K : PySem.W.Frag} : ∀ vs H Q E, SpP K A_halves vs H Q E → t_halves K (SpP K A_partners) (SpM K A_give) { nx := fun _ H' => Q .non H', rt := Q } (L2.start names_halves vs) H := fun vs H Q E => spP_body fun H0 xs L P => by
  rintro ⟨a, ps, r, rfl, rfl, hz, hr, hp⟩
  unfold halves at hr
  cases h1 : partners ps false with
  | none => rw [h1] at hr; cases hr
  | some nr =>
  cases h2 : partners ps true with
  | none => rw [h1, h2] at hr; cases hr
  | some fr =>
  rw [h1, h2] at hr
  have hr : halvesGo nr fr (List.range ps.length) (List.replicate ps.length none) = some r := hr
  refine tr_seq (tr_set (ea_callP (dd := []) (fun _ => rfl) (el_cons (ea_var rfl (el_cons (ea_int (el_nil ⟨[(a, false, .ro (ps.map dP))], fun d N => ∃ p, d = .ref p ∧ N = [(p, .lst (nr.map dO))], (by repeat (first | exact Sb.nil | refine Sb.keep (by first | exact Wk.rfl | exact Wk.ro | exact Wk.rT | exact Wk.rF) ?_ | apply Sb.skip)), ⟨a, ps, false, nr, rfl, rfl, hz, h1, fun p => ⟨p, rfl, rfl⟩⟩, ?_⟩)))))))
  rintro d N ⟨n, rfl, rfl⟩
  refine tr_seq (tr_set (ea_callP (dd := []) (fun _ => rfl) (el_cons (ea_var rfl (el_cons (ea_int (el_nil ⟨[(a, false, .ro (ps.map dP))], fun d N => ∃ p, d = .ref p ∧ N = [(p, .lst (fr.map dO))], (by repeat (first | exact Sb.nil | refine Sb.keep (by first | exact Wk.rfl | exact Wk.ro | exact Wk.rT | exact Wk.rF) ?_ | apply Sb.skip)), ⟨a, ps, true, fr, rfl, rfl, hz, h2, fun p => ⟨p, rfl, rfl⟩⟩, ?_⟩)))))))
  rintro d N ⟨f, rfl, rfl⟩
  refine tr_seq (tr_set (ea_op (ea_lst (el_cons (ea_non (el_nil ⟨by decide, fun q => ea_cb (el_cons (ea_var rfl (el_nil (rc_len (by repeat (first | exact At.lst | exact At.ro | exact At.sc | apply At.tl)) (rb_rep ⟨true, (by repeat (first | exact List.mem_cons_self | apply List.mem_cons_of_mem))⟩ (by rw [List.length_map]; omega) fun g => ?_)))))⟩))))))
  have e0 : List.replicate (ps.map dP).length D.non = (List.replicate ps.length (none : Option Bool)).map dS := by rw [List.length_map, List.map_replicate]; rfl
  rw [e0]
  refine tr_seq (tr_forR (fun i ds L => ∃ x4 sg, ds = [some (.ref a), some (.ref n), some (.ref f), some (.ref g), x4] ∧ [(a, false, O.ro (ps.map dP)), (n, true, .lst (nr.map dO)), (f, true, .lst (fr.map dO)), (g, true, .lst (sg.map dS))].Sublist L ∧ sg.length ≤ 1000 ∧ halvesGo nr fr ((List.range ps.length).drop i) sg = some r)
    (el_cons (ea_cb (el_cons (ea_var rfl (el_nil (rc_len (by repeat (first | exact At.lst | exact At.ro | exact At.sc | apply At.tl)) (el_nil ⟨ps.length, by rw [List.length_map], by omega, ?_, ?_, ?_⟩))))))))
  · exact ⟨none, _, rfl, (by repeat (first | exact List.Sublist.refl _ | apply List.Sublist.cons_cons | exact List.nil_sublist _ | apply List.Sublist.cons)), by rw [List.length_replicate]; exact hz, hr⟩
  · rintro i ds L hi ⟨x4, sg, rfl, hs, hl, e⟩
    rw [List.drop_eq_getElem_cons (by rw [List.length_range]; exact hi), List.getElem_range] at e
    unfold halvesGo at e
    refine ag_sub hs (ag_name ?_)
    cases hx : sg[i]? with
    | none => rw [hx] at e; cases e
    | some o =>
      rw [hx] at e
      refine tr_if (et_test (ea_op (ea_op (ea_var rfl (ea_var rfl (rb_ixN (f := dS) (by repeat (first | exact At.lst | exact At.ro | exact At.sc | apply At.tl)) hx (ea_non (rb_isN ⟨_, rfl, ?_⟩))))))))
      cases o with
      | some s2 => exact cndF (tr_next ⟨_, sg, rfl, (by repeat (first | exact List.Sublist.refl _ | apply List.Sublist.cons_cons | exact List.nil_sublist _ | apply List.Sublist.cons)), hl, e⟩)
      | none =>
        cases hg : give nr fr i sg with
        | none =>
          have e : (match give nr fr i sg with | none => none | some s' => halvesGo nr fr ((List.range ps.length).drop (i + 1)) s') = some r := e
          rw [hg] at e; cases e
        | some sg' =>
          have e : (match give nr fr i sg with | none => none | some s' => halvesGo nr fr ((List.range ps.length).drop (i + 1)) s') = some r := e
          rw [hg] at e
          have hl' : sg'.length = sg.length := give_len hg
          refine cndT (tr_drop (ea_callM (dd := []) (fun _ => rfl) (el_cons (ea_var rfl (el_cons (ea_var rfl (el_cons (ea_var rfl (el_cons (ea_var rfl (el_nil ⟨g, .lst (sg.map dS), [(n, false, .ro (nr.map dO)), (f, false, .ro (fr.map dO))], fun d o' N => d = .non ∧ o' = .lst (sg'.map dS) ∧ N = [], (by repeat (first | refine Sm.here (by repeat (first | exact Sb.nil | refine Sb.keep (by first | exact Wk.rfl | exact Wk.ro | exact Wk.rT | exact Wk.rF) ?_ | apply Sb.skip)) (by repeat (first | exact hc_nil | refine hc_cons ?_ rfl)) | refine Sm.keep (by first | exact Wk.rfl | exact Wk.ro | exact Wk.rT | exact Wk.rF) rfl ?_ | apply Sm.skip)), ⟨rfl, rfl⟩, ⟨n, f, i, nr, fr, sg, sg', rfl, rfl, rfl, hl, hg, rfl, rfl, rfl⟩, ?_⟩)))))))))))
          rintro d o' N ⟨rfl, rfl, rfl⟩
          exact ⟨⟨rfl, rfl⟩, _, (by repeat (first | exact Up.hd | apply Up.tl)), _, sg', rfl, (by repeat (first | exact List.Sublist.refl _ | apply List.Sublist.cons_cons | exact List.nil_sublist _ | apply List.Sublist.cons)), by omega, e⟩
  · rintro ds L ⟨x4, sg, rfl, hs, hl, e⟩
    rw [List.drop_of_length_le (by rw [List.length_range]; exact Nat.le_refl _)] at e
    have e : some sg = some r := e
    refine tr_sub hs (tr_ret (ea_var rfl ?_))
    exact ⟨_, hp g, rfl, by rw [← Option.some.inj e]; exact (by repeat (first | exact List.Sublist.refl _ | apply List.Sublist.cons_cons | exact List.nil_sublist _ | apply List.Sublist.cons))⟩
end XR
-- KDer3
set_option Elab.async false
set_option linter.all false
set_option maxRecDepth 100000
set_option maxHeartbeats 4000000
namespace XR
open PySem PySem.Spec PyProof.Rows L2
section
variable {P : Program} {w : World} {K : PySem.W.Frag} {mg : Str → Option Value} {base : Heap}
/-! ### ask_room -/
def names_ask_room : List Str := ["pairs", "ways", "side", "weights", "rack"]
def t_ask_room (K : PySem.W.Frag) (sp_weights_of : Sp) : TS :=
  (tFor (iTup K (tTup (tCons (tC (.int 0)) (tCons (tC (.int 1)) tNil)))) (gName 2) (tSeq (tAsg (tCall sp_weights_of [] E0 (tCons (tVar 0) (tCons (tVar 2) tNil))) (gName 3))
    (tFor (iList K (tCB rSortedK (tCons (tVar 3) tNil))) (gName 4) (tIfS (tTest (tOp rGtI (tDGet (tVar 3) (tVar 4)) (tVar 1))) tNever tNext))))
theorem sc_ask_room : FnScope names_ask_room ["pairs", "ways"] (defScope s_ask_room) := ⟨rfl, rfl, rfl, by decide +kernel, rfl, by decide +kernel, by decide +kernel⟩
theorem ok_ask_room {sp sp_weights_of : Sp} {lv : Nat} (T : Tp K mg) (c0 : Cal P w K mg base CX0 lv "weights_of" ["pairs", "side"] [] sp_weights_of) (len : ∀ vs H Q E, sp vs H Q E → vs.length = 2)
    (pure : ∀ vs H Q E, sp vs H Q E → t_ask_room K sp_weights_of { nx := fun _ H' => Q .non H', rt := Q } (L2.start names_ask_room vs) H) : Cal P w K mg base CX0 (lv + 1) "ask_room" ["pairs", "ways"] [] sp := by
  obtain ⟨fd, F⟩ := T.def_ 15 (d := d_ask_room) rfl
  refine ⟨_, fd, [], T.glo 15 rfl, F.kp, FunD.ok (k := lv) F sc_ask_room len fun cdv A outer s H vs Q E hr h => ⟨_, PSs.nox ?_, pure vs H Q E h⟩, F.bindsN (fun _ _ _ _ _ _ us hl => match us, hl with | [_, _], _ => rfl), .nil⟩
  obtain ⟨f0, fd0, ds0, m0, kp0, G0, b0, v0⟩ := c0
  have hu := hu_of hr
  exact (pss_one (ps_for PassesOwn.never rfl (pi_tup (pe_tup (pa_cons pe_int (pa_cons pe_int pa_nil)))) (pg_name (i := 2) sc_ask_room.nd rfl (by first | exact Or.inl rfl | exact Or.inr rfl)) (pss_cons (ps_set (i := 3) sc_ask_room.nd rfl (by first | exact Or.inl rfl | exact Or.inr rfl) (pe_call G0 hr (by rfl) m0 kp0 b0 v0 pass0 (pa_cons (pv 0) (pa_cons (pv 2) pa_nil))))
    (pss_one (ps_for PassesOwn.never rfl (pi_list (pe_callB (cr_sortedK rfl) (by rfl) (T.free 57 rfl) (by decide +kernel) (pa_cons (pv 3) pa_nil))) (pg_name (i := 4) sc_ask_room.nd rfl (by first | exact Or.inl rfl | exact Or.inr rfl)) (pss_one (ps_if (pt_cmpR op_gt (pe_dget hu (pv 3) (pv 4) (fun _ _ => rfl)) (pv 1) (nomark _)) (pss_one ps_never) pss_nil)))))))
/-! ### parted -/
def names_parted : List Str := ["pairs", "ways", "found"]
def t_parted (K : PySem.W.Frag) (sp_ask_room sp_number_off : Sp) : TS :=
  (tSeq (tDrop (tCall sp_ask_room [] E0 (tCons (tVar 0) (tCons (tVar 1) tNil))))
    (tSeq (tAsg (tOp rRep (tLst (tCons (tC (.int 0)) tNil)) (tCB (rLenQ K) (tCons (tVar 0) tNil))) (gName 2))
    (tSeq (tDrop (tCall sp_number_off [] E0 (tCons (tVar 0) (tCons (tListRange (tRg1 (tCB (rLenQ K) (tCons (tVar 0) tNil)))) (tCons (tC (.int 0)) (tCons (tVar 2) tNil))))))
    (tRet (tVar 2)))))
theorem sc_parted : FnScope names_parted ["pairs", "ways"] (defScope s_parted) := ⟨rfl, rfl, rfl, by decide +kernel, rfl, by decide +kernel, by decide +kernel⟩
theorem ok_parted {sp sp_ask_room sp_number_off : Sp} {lv : Nat} (T : Tp K mg) (c0 : Cal P w K mg base CX0 lv "ask_room" ["pairs", "ways"] [] sp_ask_room) (c1 : Cal P w K mg base CX0 lv "number_off" ["pairs", "places", "start", "found"] [] sp_number_off) (len : ∀ vs H Q E, sp vs H Q E → vs.length = 2)
    (pure : ∀ vs H Q E, sp vs H Q E → t_parted K sp_ask_room sp_number_off { nx := fun _ H' => Q .non H', rt := Q } (L2.start names_parted vs) H) : Cal P w K mg base CX0 (lv + 1) "parted" ["pairs", "ways"] [] sp := by
  obtain ⟨fd, F⟩ := T.def_ 16 (d := d_parted) rfl
  refine ⟨_, fd, [], T.glo 16 rfl, F.kp, FunD.ok (k := lv) F sc_parted len fun cdv A outer s H vs Q E hr h => ⟨_, PSs.nox ?_, pure vs H Q E h⟩, F.bindsN (fun _ _ _ _ _ _ us hl => match us, hl with | [_, _], _ => rfl), .nil⟩
  obtain ⟨f0, fd0, ds0, m0, kp0, G0, b0, v0⟩ := c0
  obtain ⟨f1, fd1, ds1, m1, kp1, G1, b1, v1⟩ := c1
  exact (pss_cons (ps_expr (pe_call G0 hr (by rfl) m0 kp0 b0 v0 pass0 (pa_cons (pv 0) (pa_cons (pv 1) pa_nil))))
    (pss_cons (ps_set (i := 2) sc_parted.nd rfl (by first | exact Or.inl rfl | exact Or.inr rfl) (pe_op op_rep (pe_lst (pa_cons pe_int pa_nil)) (pe_callB cr_lenQ (by rfl) (T.free 51 rfl) (by decide +kernel) (pa_cons (pv 0) pa_nil))))
    (pss_cons (ps_expr (pe_call G1 hr (by rfl) m1 kp1 b1 v1 pass0 (pa_cons (pv 0) (pa_cons (pe_listRg rfl (by rfl) (T.free 49 rfl) (prg_1 (by rfl) (T.free 54 rfl) (pe_callB cr_lenQ (by rfl) (T.free 51 rfl) (by decide +kernel) (pa_cons (pv 0) pa_nil)))) (pa_cons pe_int (pa_cons (pv 2) pa_nil))))))
    (pss_one (ps_ret (pv 2))))))
/-! ### places_of -/
def names_places_of : List Str := ["pairs", "links", "place", "pair"]
def t_places_of (K : PySem.W.Frag) : TS :=
  (tSeq (tAsg tDNewT (gName 1))
    (tSeq (tFor (iEnum K (tCons (tVar 0) tNil)) (gTup K 2 (gCons (gName 2) (gCons (gName 3) gNil))) (tSeq (sAddTo K (tVar 1) (tTup (tCons (tC (.int 0)) (tCons (tOp (rIxT K) (tVar 3) (tC (.int 0))) tNil))) (tVar 2))
    (sAddTo K (tVar 1) (tTup (tCons (tC (.int 1)) (tCons (tOp (rIxT K) (tVar 3) (tC (.int 1))) tNil))) (tVar 2))))
    (tRet (tVar 1))))
theorem sc_places_of : FnScope names_places_of ["pairs"] (defScope s_places_of) := ⟨rfl, rfl, rfl, by decide +kernel, rfl, by decide +kernel, by decide +kernel⟩
theorem ok_places_of {sp : Sp} {lv : Nat} (T : Tp K mg) (len : ∀ vs H Q E, sp vs H Q E → vs.length = 1)
    (pure : ∀ vs H Q E, sp vs H Q E → t_places_of K { nx := fun _ H' => Q .non H', rt := Q } (L2.start names_places_of vs) H) : Cal P w K mg base CX0 (lv + 1) "places_of" ["pairs"] [] sp := by
  obtain ⟨fd, F⟩ := T.def_ 17 (d := d_places_of) rfl
  refine ⟨_, fd, [], T.glo 17 rfl, F.kp, FunD.ok (k := lv) F sc_places_of len fun cdv A outer s H vs Q E hr h => ⟨_, PSs.nox ?_, pure vs H Q E h⟩, F.bindsN (fun _ _ _ _ _ _ us hl => match us, hl with | [_], _ => rfl), .nil⟩
  have hu := hu_of hr
  exact (pss_cons (ps_set (i := 1) sc_places_of.nd rfl (by first | exact Or.inl rfl | exact Or.inr rfl) pe_dnewT)
    (pss_cons (ps_for PassesOwn.never rfl (pi_enum (by rfl) (T.free 55 rfl) (pa_cons (pv 0) pa_nil)) (pg_tup rfl (pgs_cons (pg_name (i := 2) sc_places_of.nd rfl (by first | exact Or.inl rfl | exact Or.inr rfl)) (pgs_cons (pg_name (i := 3) sc_places_of.nd rfl (by first | exact Or.inl rfl | exact Or.inr rfl)) pgs_nil))) (pss_cons (ps_expr (pe_bm PySem.F.plainAttrs_list PySem.F.slot_list_append PySem.F.type_list_append mt_append (pe_bm PySem.F.plainAttrs_dict PySem.F.slot_dict_setdefault PySem.F.type_dict_setdefault (mt_sdT hu) (pv 1) (pa_cons (pe_tup (pa_cons pe_int (pa_cons (pe_ix ix_tup (pv 3) pe_int (fun _ _ => rfl)) pa_nil))) (pa_cons (pe_lst pa_nil) pa_nil))) (pa_cons (pv 2) pa_nil)))
    (pss_one (ps_expr (pe_bm PySem.F.plainAttrs_list PySem.F.slot_list_append PySem.F.type_list_append mt_append (pe_bm PySem.F.plainAttrs_dict PySem.F.slot_dict_setdefault PySem.F.type_dict_setdefault (mt_sdT hu) (pv 1) (pa_cons (pe_tup (pa_cons pe_int (pa_cons (pe_ix ix_tup (pv 3) pe_int (fun _ _ => rfl)) pa_nil))) (pa_cons (pe_lst pa_nil) pa_nil))) (pa_cons (pv 2) pa_nil))))))
    (pss_one (ps_ret (pv 1)))))
/-! ### first_part -/
def names_first_part : List Str := ["pairs", "ways", "taken", "many", "pair", "ends", "good", "end"]
def t_first_part (K : PySem.W.Frag) : TS :=
  (tSeq (tAsg (tLst tNil) (gName 2))
    (tSeq (tAsg tDNewT (gName 3))
    (tSeq (tFor (iList K (tVar 0)) (gName 4) (tSeq (tAsg (tLst (tCons (tTup (tCons (tC (.int 0)) (tCons (tOp (rIxT K) (tVar 4) (tC (.int 0))) tNil))) (tCons (tTup (tCons (tC (.int 1)) (tCons (tOp (rIxT K) (tVar 4) (tC (.int 1))) tNil))) tNil))) (gName 5))
    (tSeq (tAsg (tOp rLtI (tCB (rMax K) (tCons (tLc (iList K (tVar 5)) (gName 7) tYes (tDGet2 (tVar 3) (tVar 7) (tC (.int 0))) [7]) tNil)) (tVar 1)) (gName 6))
    (tSeq (tDrop (tBM K "list" rAppend (tVar 2) (tCons (tVar 6) tNil)))
    (tIfS (tB (tVar 6)) (tFor (iList K (tVar 5)) (gName 7) (sDPut (tVar 3) (tVar 7) (tOp rAddI (tDGet2 (tVar 3) (tVar 7) (tC (.int 0))) (tC (.int 1))))) tNext)))))
    (tRet (tVar 2)))))
theorem sc_first_part : FnScope names_first_part ["pairs", "ways"] (defScope s_first_part) := ⟨rfl, rfl, rfl, by decide +kernel, rfl, by decide +kernel, by decide +kernel⟩
theorem ok_first_part {sp : Sp} {lv : Nat} (T : Tp K mg) (len : ∀ vs H Q E, sp vs H Q E → vs.length = 2)
    (pure : ∀ vs H Q E, sp vs H Q E → t_first_part K { nx := fun _ H' => Q .non H', rt := Q } (L2.start names_first_part vs) H) : Cal P w K mg base CX0 (lv + 1) "first_part" ["pairs", "ways"] [] sp := by
  obtain ⟨fd, F⟩ := T.def_ 18 (d := d_first_part) rfl
  refine ⟨_, fd, [], T.glo 18 rfl, F.kp, FunD.ok (k := lv) F sc_first_part len fun cdv A outer s H vs Q E hr h => ⟨_, PSs.nox ?_, pure vs H Q E h⟩, F.bindsN (fun _ _ _ _ _ _ us hl => match us, hl with | [_, _], _ => rfl), .nil⟩
  have hu := hu_of hr
  exact (pss_cons (ps_set (i := 2) sc_first_part.nd rfl (by first | exact Or.inl rfl | exact Or.inr rfl) (pe_lst pa_nil))
    (pss_cons (ps_set (i := 3) sc_first_part.nd rfl (by first | exact Or.inl rfl | exact Or.inr rfl) pe_dnewT)
    (pss_cons (ps_for PassesOwn.never rfl (pi_list (pv 0)) (pg_name (i := 4) sc_first_part.nd rfl (by first | exact Or.inl rfl | exact Or.inr rfl)) (pss_cons (ps_set (i := 5) sc_first_part.nd rfl (by first | exact Or.inl rfl | exact Or.inr rfl) (pe_lst (pa_cons (pe_tup (pa_cons pe_int (pa_cons (pe_ix ix_tup (pv 4) pe_int (fun _ _ => rfl)) pa_nil))) (pa_cons (pe_tup (pa_cons pe_int (pa_cons (pe_ix ix_tup (pv 4) pe_int (fun _ _ => rfl)) pa_nil))) pa_nil))))
    (pss_cons (ps_set (i := 6) sc_first_part.nd rfl (by first | exact Or.inl rfl | exact Or.inr rfl) (pe_cmpR op_lt (pe_callB (cr_max rfl) (by rfl) (T.free 58 rfl) (by decide +kernel) (pa_cons (pe_lc (own := [("end", 7)]) (g := (gName 7)) (tt := tYes) (by rfl) sc_first_part.nd (pi_list (pv 5)) (blkOk_by (own := [("end", 7)]) (N := names_first_part) (sc := defScope s_first_part) (by decide +kernel)) (fun _ _ _ _ _ => (pg_name (i := 7) sc_first_part.nd rfl (by first | exact Or.inl rfl | exact Or.inr rfl))) (fun _ _ _ _ _ => pts_nil) (fun _ _ _ _ _ => (pe_dget2 hu (pv 3) (pv 7) pe_int ⟨rfl, rfl, rfl, rfl⟩))) pa_nil)) (pv 1) (nomark _)))
    (pss_cons (ps_expr (pe_bm PySem.F.plainAttrs_list PySem.F.slot_list_append PySem.F.type_list_append mt_append (pv 2) (pa_cons (pv 6) pa_nil)))
    (pss_one (ps_if (pt_val (pv 6)) (pss_one (ps_for PassesOwn.never rfl (pi_list (pv 5)) (pg_name (i := 7) sc_first_part.nd rfl (by first | exact Or.inl rfl | exact Or.inr rfl)) (pss_one (ps_dput hu (pv 3) (pv 7) (pe_op op_add (pe_dget2 hu (pv 3) (pv 7) pe_int ⟨rfl, rfl, rfl, rfl⟩) pe_int) rfl)))) pss_nil))))))
    (pss_one (ps_ret (pv 2))))))
/-! ### with_room -/
def names_with_room : List Str := ["links", "taken", "ways", "found", "rack", "place"]
def t_with_room (K : PySem.W.Frag) : TS :=
  (tSeq (tAsg tDNewT (gName 3))
    (tSeq (tFor (iList K (tCB rSortedM (tCons (tVar 0) tNil))) (gName 4) (tIfS (tTest (tOp rLtI (tCB (rLenQ K) (tCons (tLc (iList K (tDGet (tVar 0) (tVar 4))) (gName 5) (tB (tOp (rIxL K) (tVar 1) (tVar 5))) (tVar 5) [5]) tNil)) (tVar 2))) (sDPut (tVar 3) (tVar 4) (tC (.bl true))) tNext))
    (tRet (tVar 3))))
theorem sc_with_room : FnScope names_with_room ["links", "taken", "ways"] (defScope s_with_room) := ⟨rfl, rfl, rfl, by decide +kernel, rfl, by decide +kernel, by decide +kernel⟩
theorem ok_with_room {sp : Sp} {lv : Nat} (T : Tp K mg) (len : ∀ vs H Q E, sp vs H Q E → vs.length = 3)
    (pure : ∀ vs H Q E, sp vs H Q E → t_with_room K { nx := fun _ H' => Q .non H', rt := Q } (L2.start names_with_room vs) H) : Cal P w K mg base CX0 (lv + 1) "with_room" ["links", "taken", "ways"] [] sp := by
  obtain ⟨fd, F⟩ := T.def_ 19 (d := d_with_room) rfl
  refine ⟨_, fd, [], T.glo 19 rfl, F.kp, FunD.ok (k := lv) F sc_with_room len fun cdv A outer s H vs Q E hr h => ⟨_, PSs.nox ?_, pure vs H Q E h⟩, F.bindsN (fun _ _ _ _ _ _ us hl => match us, hl with | [_, _, _], _ => rfl), .nil⟩
  have hu := hu_of hr
  exact (pss_cons (ps_set (i := 3) sc_with_room.nd rfl (by first | exact Or.inl rfl | exact Or.inr rfl) pe_dnewT)
    (pss_cons (ps_for PassesOwn.never rfl (pi_list (pe_callB (cr_sortedM rfl) (by rfl) (T.free 57 rfl) (by decide +kernel) (pa_cons (pv 0) pa_nil))) (pg_name (i := 4) sc_with_room.nd rfl (by first | exact Or.inl rfl | exact Or.inr rfl)) (pss_one (ps_if (pt_cmpR op_lt (pe_callB cr_lenQ (by rfl) (T.free 51 rfl) (by decide +kernel) (pa_cons (pe_lc (own := [("place", 5)]) (g := (gName 5)) (tt := (tB (tOp (rIxL K) (tVar 1) (tVar 5)))) (by rfl) sc_with_room.nd (pi_list (pe_dget hu (pv 0) (pv 4) (fun _ _ => rfl))) (blkOk_by (own := [("place", 5)]) (N := names_with_room) (sc := defScope s_with_room) (by decide +kernel)) (fun _ _ _ _ _ => (pg_name (i := 5) sc_with_room.nd rfl (by first | exact Or.inl rfl | exact Or.inr rfl))) (fun _ _ _ _ _ => (pts_one (pt_val (pe_ix ix_list (pv 1) (pv 5) (fun _ _ => rfl))))) (fun _ _ _ _ _ => (pv 5))) pa_nil)) (pv 2) (nomark _)) (pss_one (ps_dput hu (pv 3) (pv 4) pe_bl rfl)) pss_nil)))
    (pss_one (ps_ret (pv 3)))))
/-! ### looked_through -/
def names_looked_through : List Str := ["pairs", "links", "taken", "ready", "came", "todo", "rack", "at", "side", "place", "there"]
def t_looked_through (K : PySem.W.Frag) : TS :=
  (tSeq (tAsg tDNewT (gName 4))
    (tSeq (tAsg (tLst tNil) (gName 5))
    (tSeq (tLock (tFor (iKeys (tVar 3)) (gName 6) (tIfS (tTest (tOp rEq (tOp (rIxT K) (tVar 6) (tC (.int 0))) (tC (.int 0)))) (tSeq (sDPut (tVar 4) (tVar 6) (tC .non))
    (tDrop (tBM K "list" rAppend (tVar 5) (tCons (tVar 6) tNil)))) tNext)))
    (tSeq (tAsg (tC (.int 0)) (gName 7))
    (tSeq (tWhile (tTest (tOp rLtI (tVar 7) (tCB (rLenQ K) (tCons (tVar 5) tNil)))) (tSeq (tAsg (tOp (rIxT K) (tOp (rIxL K) (tVar 5) (tVar 7)) (tC (.int 0))) (gName 8))
    (tSeq (tFor (iList K (tDGet (tVar 1) (tOp (rIxL K) (tVar 5) (tVar 7)))) (gName 9) (tSeq (tAsg (tTup (tCons (tOp rSubI (tC (.int 1)) (tVar 8)) (tCons (tOp (rIxT K) (tOp (rIxL K) (tVar 0) (tVar 9)) (tOp rSubI (tC (.int 1)) (tVar 8))) tNil))) (gName 10))
    (tIfS (tAnd (tTest (tOp rEq (tOp (rIxL K) (tVar 2) (tVar 9)) (tOp rEq (tVar 8) (tC (.int 1))))) (tB (tDNotIn (tVar 10) (tVar 4)))) (tSeq (sDPut (tVar 4) (tVar 10) (tVar 9))
    (tSeq (tIfS (tAnd (tTest (tOp rEq (tVar 8) (tC (.int 0)))) (tB (tDIn (tVar 10) (tVar 3)))) (tRet (tTup (tCons (tVar 10) (tCons (tVar 4) tNil)))) tNext)
    (tDrop (tBM K "list" rAppend (tVar 5) (tCons (tVar 10) tNil))))) tNext)))
    (tAsg (tOp rAddI (tVar 7) (tC (.int 1))) (gName 7)))))
    (tRet (tTup (tCons (tC .non) (tCons (tVar 4) tNil)))))))))
theorem sc_looked_through : FnScope names_looked_through ["pairs", "links", "taken", "ready"] (defScope s_looked_through) := ⟨rfl, rfl, rfl, by decide +kernel, rfl, by decide +kernel, by decide +kernel⟩
theorem ok_looked_through {sp : Sp} {lv : Nat} (T : Tp K mg) (len : ∀ vs H Q E, sp vs H Q E → vs.length = 4)
    (pure : ∀ vs H Q E, sp vs H Q E → t_looked_through K { nx := fun _ H' => Q .non H', rt := Q } (L2.start names_looked_through vs) H) : Cal P w K mg base CX0 (lv + 1) "looked_through" ["pairs", "links", "taken", "ready"] [] sp := by
  obtain ⟨fd, F⟩ := T.def_ 20 (d := d_looked_through) rfl
  refine ⟨_, fd, [], T.glo 20 rfl, F.kp, FunD.ok (k := lv) F sc_looked_through len fun cdv A outer s H vs Q E hr h => ⟨_, PSs.nox ?_, pure vs H Q E h⟩, F.bindsN (fun _ _ _ _ _ _ us hl => match us, hl with | [_, _, _, _], _ => rfl), .nil⟩
  have hu := hu_of hr
  exact (pss_cons (ps_set (i := 4) sc_looked_through.nd rfl (by first | exact Or.inl rfl | exact Or.inr rfl) pe_dnewT)
    (pss_cons (ps_set (i := 5) sc_looked_through.nd rfl (by first | exact Or.inl rfl | exact Or.inr rfl) (pe_lst pa_nil))
    (pss_cons (ps_lock (ps_for PassesOwn.never rfl (pi_keys (pv 3)) (pg_name (i := 6) sc_looked_through.nd rfl (by first | exact Or.inl rfl | exact Or.inr rfl)) (pss_one (ps_if (pt_cmpR op_eq (pe_ix ix_tup (pv 6) pe_int (fun _ _ => rfl)) pe_int (nomark _)) (pss_cons (ps_dput hu (pv 4) (pv 6) pe_non rfl)
    (pss_one (ps_expr (pe_bm PySem.F.plainAttrs_list PySem.F.slot_list_append PySem.F.type_list_append mt_append (pv 5) (pa_cons (pv 6) pa_nil))))) pss_nil))))
    (pss_cons (ps_set (i := 7) sc_looked_through.nd rfl (by first | exact Or.inl rfl | exact Or.inr rfl) pe_int)
    (pss_cons (ps_while PassesOwn.never (pt_cmpR op_lt (pv 7) (pe_callB cr_lenQ (by rfl) (T.free 51 rfl) (by decide +kernel) (pa_cons (pv 5) pa_nil)) (nomark _)) (pss_cons (ps_set (i := 8) sc_looked_through.nd rfl (by first | exact Or.inl rfl | exact Or.inr rfl) (pe_ix ix_tup (pe_ix ix_list (pv 5) (pv 7) (fun _ _ => rfl)) pe_int (fun _ _ => rfl)))
    (pss_cons (ps_for PassesOwn.never rfl (pi_list (pe_dget hu (pv 1) (pe_ix ix_list (pv 5) (pv 7) (fun _ _ => rfl)) (fun _ _ => rfl))) (pg_name (i := 9) sc_looked_through.nd rfl (by first | exact Or.inl rfl | exact Or.inr rfl)) (pss_cons (ps_set (i := 10) sc_looked_through.nd rfl (by first | exact Or.inl rfl | exact Or.inr rfl) (pe_tup (pa_cons (pe_op op_sub pe_int (pv 8)) (pa_cons (pe_ix ix_tup (pe_ix ix_list (pv 0) (pv 9) (fun _ _ => rfl)) (pe_op op_sub pe_int (pv 8)) (fun _ _ => rfl)) pa_nil))))
    (pss_one (ps_if (PW.pt (pw_and (pt_cmpR op_eq (pe_ix ix_list (pv 2) (pv 9) (fun _ _ => rfl)) (pe_cmpR op_eq (pv 8) pe_int (nomark _)) (nomark _)) (pw_and1 (pt_cmp (pc_dnotin hu (pv 10) (pv 4)))))) (pss_cons (ps_dput hu (pv 4) (pv 10) (pv 9) rfl)
    (pss_cons (ps_if (PW.pt (pw_and (pt_cmpR op_eq (pv 8) pe_int (nomark _)) (pw_and1 (pt_cmp (pc_din hu (pv 10) (pv 3)))))) (pss_one (ps_ret (pe_tup (pa_cons (pv 10) (pa_cons (pv 4) pa_nil))))) pss_nil)
    (pss_one (ps_expr (pe_bm PySem.F.plainAttrs_list PySem.F.slot_list_append PySem.F.type_list_append mt_append (pv 5) (pa_cons (pv 10) pa_nil)))))) pss_nil))))
    (pss_one (ps_set (i := 7) sc_looked_through.nd rfl (by first | exact Or.inl rfl | exact Or.inr rfl) (pe_op op_add (pv 7) pe_int))))))
    (pss_one (ps_ret (pe_tup (pa_cons pe_non (pa_cons (pv 4) pa_nil))))))))))
/-! ### turn_over -/
def names_turn_over : List Str := ["pairs", "taken", "came", "last", "place"]
def t_turn_over (K : PySem.W.Frag) : TS :=
  (tSeq (tAsg (tDGet (tVar 2) (tVar 3)) (gName 4))
    (tWhile (tTest (tOp rNotN (tVar 4) (tC .non))) (tSeq (tAsg (tNotV (tOp (rIxL K) (tVar 1) (tVar 4))) (gSub (tVar 1) (tVar 4) rSetL))
    (tSeq (tAsg (tTup (tCons (tOp rSubI (tC (.int 1)) (tOp (rIxT K) (tVar 3) (tC (.int 0)))) (tCons (tOp (rIxT K) (tOp (rIxL K) (tVar 0) (tVar 4)) (tOp rSubI (tC (.int 1)) (tOp (rIxT K) (tVar 3) (tC (.int 0))))) tNil))) (gName 3))
    (tAsg (tDGet (tVar 2) (tVar 3)) (gName 4))))))
theorem sc_turn_over : FnScope names_turn_over ["pairs", "taken", "came", "last"] (defScope s_turn_over) := ⟨rfl, rfl, rfl, by decide +kernel, rfl, by decide +kernel, by decide +kernel⟩
theorem ok_turn_over {sp : Sp} {lv : Nat} (T : Tp K mg) (len : ∀ vs H Q E, sp vs H Q E → vs.length = 4)
    (pure : ∀ vs H Q E, sp vs H Q E → t_turn_over K { nx := fun _ H' => Q .non H', rt := Q } (L2.start names_turn_over vs) H) : Cal P w K mg base CX0 (lv + 1) "turn_over" ["pairs", "taken", "came", "last"] [] sp := by
  obtain ⟨fd, F⟩ := T.def_ 21 (d := d_turn_over) rfl
  refine ⟨_, fd, [], T.glo 21 rfl, F.kp, FunD.ok (k := lv) F sc_turn_over len fun cdv A outer s H vs Q E hr h => ⟨_, PSs.nox ?_, pure vs H Q E h⟩, F.bindsN (fun _ _ _ _ _ _ us hl => match us, hl with | [_, _, _, _], _ => rfl), .nil⟩
  have hu := hu_of hr
  exact (pss_cons (ps_set (i := 4) sc_turn_over.nd rfl (by first | exact Or.inl rfl | exact Or.inr rfl) (pe_dget hu (pv 2) (pv 3) (fun _ _ => rfl)))
    (pss_one (ps_while PassesOwn.never (pt_cmpR op_notN (pv 4) pe_non (nomark _)) (pss_cons (ps_asg (pe_not (pe_ix ix_list (pv 1) (pv 4) (fun _ _ => rfl))) (pg_sub (pv 1) (pv 4) set_list))
    (pss_cons (ps_set (i := 3) sc_turn_over.nd rfl (by first | exact Or.inl rfl | exact Or.inr rfl) (pe_tup (pa_cons (pe_op op_sub pe_int (pe_ix ix_tup (pv 3) pe_int (fun _ _ => rfl))) (pa_cons (pe_ix ix_tup (pe_ix ix_list (pv 0) (pv 4) (fun _ _ => rfl)) (pe_op op_sub pe_int (pe_ix ix_tup (pv 3) pe_int (fun _ _ => rfl))) (fun _ _ => rfl)) pa_nil))))
    (pss_one (ps_set (i := 4) sc_turn_over.nd rfl (by first | exact Or.inl rfl | exact Or.inr rfl) (pe_dget hu (pv 2) (pv 3) (fun _ _ => rfl)))))))))
end
end XR
-- KRead2
set_option Elab.async false
set_option linter.all false
set_option maxRecDepth 100000
set_option maxHeartbeats 1000000
/-! the readings of the text's defs: links, exchange, touch, touching -/
namespace XR
open PySem PySem.Spec PyProof.Rows L2 XM
def A_links : List D → Fp → (D → Nw → Prop) → Prop := fun xs L P => ∃ (a : Addr) (ps : List Pr), xs = [.ref a] ∧ L = [(a, false, .ro (ps.map dP))] ∧ ps.length ≤ 1000 ∧ ∀ p kvs, strip kvs = eL (links ps) → P (.ref p) [(p, .dL kvs)]
theorem rd_links_of {K : PySem.W.Frag} : ∀ vs H Q E, SpP K A_links vs H Q E → t_links_of K { nx := fun _ H' => Q .non H', rt := Q } (L2.start names_links_of vs) H := fun vs H Q E => spP_body fun H0 xs L P => by
  rintro ⟨a, ps, rfl, rfl, hz, hp⟩
  refine tr_seq (tr_set (ea_dnewL fun l => ?_))
  refine tr_seq (tr_forE ps dP (fun i ds L => ∃ x2 x3 x4 kvs lk, ds = [some (.ref a), some (.ref l), x2, x3, x4] ∧ L = [(a, false, .ro (ps.map dP)), (l, true, .dL kvs)] ∧ strip kvs = eL lk ∧ lk.length ≤ 2 * i ∧ (∀ k xs, aget lk k = some xs → xs.length ≤ 2 * i) ∧ linkGo i (ps.drop i) lk = links ps)
    (el_cons (ea_var rfl (el_nil ⟨a, rfl, (by repeat (first | exact At.lst | exact At.ro | exact At.sc | apply At.tl)), ?_, ?_, ?_, ?_⟩))))
  · exact ⟨none, none, none, [], [], rfl, rfl, rfl, Nat.zero_le _, fun k xs h => (by cases h), rfl⟩
  · rintro i ds L ⟨x2, x3, x4, kvs, lk, rfl, rfl, es, h1, h2, e⟩
    exact (by repeat (first | exact At.lst | exact At.ro | exact At.sc | apply At.tl))
  · rintro i ds L p hi hd hlt ⟨x2, x3, x4, kvs, lk, rfl, rfl, es, h1, h2, e⟩
    rw [hd] at e
    refine ag_tup rfl (ags_cons (ag_name (ags_cons (ag_name (ags_nil ?_)))))
    refine tr_for2 (ea_tup (el_cons (ea_int (el_cons (ea_int (el_nil ⟨by show 2 ≤ 1000; decide, rfl, ?_⟩))))))
    refine ag_name (tr_addToN (k := rk p false) (p := i) (lk := lk) [(a, false, .ro (ps.map dP))] [] rfl rfl rfl es (ea_tup (el_cons (ea_var rfl (el_cons (ea_op (ea_var rfl (ea_var rfl (rb_sd (s := false) (el_nil ⟨by show 2 ≤ 1000; decide, rfl, rfl⟩))))))))) (by omega) (fun k xs hk => by have := h2 k xs hk; omega) fun kvs2 es2 => ?_)
    have l2 := addTo_len lk (rk p false) i
    have s2 := addTo_small h2 (rk p false) i
    refine ag_name (tr_addToN (k := rk p true) (p := i) (lk := addTo lk (rk p false) i) [(a, false, .ro (ps.map dP))] [] rfl rfl rfl es2 (ea_tup (el_cons (ea_var rfl (el_cons (ea_op (ea_var rfl (ea_var rfl (rb_sd (s := true) (el_nil ⟨by show 2 ≤ 1000; decide, rfl, rfl⟩))))))))) (by omega) (fun k xs hk => by have := s2 k xs hk; omega) fun kvs3 es3 => ?_)
    have l3 := addTo_len (addTo lk (rk p false) i) (rk p true) i
    have s3 := addTo_small s2 (rk p true) i
    exact ⟨_, _, _, kvs3, _, rfl, rfl, es3, by omega, fun k xs hk => by have := s3 k xs hk; omega, e⟩
  · rintro ds L hd ⟨x2, x3, x4, kvs, lk, rfl, rfl, es, h1, h2, e⟩
    rw [hd] at e
    have e : lk = links ps := e
    refine tr_ret (ea_var rfl ?_)
    exact ⟨_, hp l kvs (by rw [es, e]), rfl, (by repeat (first | exact List.Sublist.refl _ | apply List.Sublist.cons_cons | exact List.nil_sublist _ | apply List.Sublist.cons))⟩
theorem rd_places_of {K : PySem.W.Frag} : ∀ vs H Q E, SpP K A_links vs H Q E → t_places_of K { nx := fun _ H' => Q .non H', rt := Q } (L2.start names_places_of vs) H := fun vs H Q E => spP_body fun H0 xs L P => by
  rintro ⟨a, ps, rfl, rfl, hz, hp⟩
  refine tr_seq (tr_set (ea_dnewL fun l => ?_))
  refine tr_seq (tr_forE ps dP (fun i ds L => ∃ x2 x3 kvs lk, ds = [some (.ref a), some (.ref l), x2, x3] ∧ L = [(a, false, .ro (ps.map dP)), (l, true, .dL kvs)] ∧ strip kvs = eL lk ∧ lk.length ≤ 2 * i ∧ (∀ k xs, aget lk k = some xs → xs.length ≤ 2 * i) ∧ linkGo i (ps.drop i) lk = links ps)
    (el_cons (ea_var rfl (el_nil ⟨a, rfl, (by repeat (first | exact At.lst | exact At.ro | exact At.sc | apply At.tl)), ?_, ?_, ?_, ?_⟩))))
  · exact ⟨none, none, [], [], rfl, rfl, rfl, Nat.zero_le _, fun k xs h => (by cases h), rfl⟩
  · rintro i ds L ⟨x2, x3, kvs, lk, rfl, rfl, es, h1, h2, e⟩
    exact (by repeat (first | exact At.lst | exact At.ro | exact At.sc | apply At.tl))
  · rintro i ds L p hi hd hlt ⟨x2, x3, kvs, lk, rfl, rfl, es, h1, h2, e⟩
    rw [hd] at e
    refine ag_tup rfl (ags_cons (ag_name (ags_cons (ag_name (ags_nil ?_)))))
    refine tr_seq (tr_addToN (k := rk p false) (p := i) (lk := lk) [(a, false, .ro (ps.map dP))] [] rfl rfl rfl es (ea_tup (el_cons (ea_int (el_cons (ea_op (ea_var rfl (ea_int (rb_t0 (el_nil ⟨by show 2 ≤ 1000; decide, rfl, rfl⟩))))))))) (by omega) (fun k xs hk => by have := h2 k xs hk; omega) fun kvs2 es2 => ?_)
    have l2 := addTo_len lk (rk p false) i
    have s2 := addTo_small h2 (rk p false) i
    refine tr_addToN (k := rk p true) (p := i) (lk := addTo lk (rk p false) i) [(a, false, .ro (ps.map dP))] [] rfl rfl rfl es2 (ea_tup (el_cons (ea_int (el_cons (ea_op (ea_var rfl (ea_int (rb_t1 (el_nil ⟨by show 2 ≤ 1000; decide, rfl, rfl⟩))))))))) (by omega) (fun k xs hk => by have := s2 k xs hk; omega) fun kvs3 es3 => ?_
    have l3 := addTo_len (addTo lk (rk p false) i) (rk p true) i
    have s3 := addTo_small s2 (rk p true) i
    exact ⟨_, _, kvs3, _, rfl, rfl, es3, by omega, fun k xs hk => by have := s3 k xs hk; omega, e⟩
  · rintro ds L hd ⟨x2, x3, kvs, lk, rfl, rfl, es, h1, h2, e⟩
    rw [hd] at e
    have e : lk = links ps := e
    refine tr_ret (ea_var rfl ?_)
    exact ⟨_, hp l kvs (by rw [es, e]), rfl, (by repeat (first | exact List.Sublist.refl _ | apply List.Sublist.cons_cons | exact List.nil_sublist _ | apply List.Sublist.cons))⟩

def A_ex : List D → Addr → O → Fp → (D → O → Nw → Prop) → Prop := fun xs m o L P => ∃ (a c : Addr) (ps : List Pr) (held came r : List (Rk × Nat)) (last start : Rk), xs = [.ref a, .ref m, .ref c, dR last, dR start] ∧ o = .dT (eT dN held) ∧
  L = [(a, false, .ro (ps.map dP)), (c, false, .rT (eT dN came))] ∧ XM.ex ps held came last start = some r ∧ P .non (.dT (eT dN r)) []
theorem rd_exchange {K : PySem.W.Frag} : ∀ vs H Q E, SpM K A_ex vs H Q E → t_exchange K { nx := fun _ H' => Q .non H', rt := Q } (L2.start names_exchange vs) H := fun vs H Q E => spM_body fun H0 xs m o L P => by
  rintro ⟨a, c, ps, held, came, r, last, start, rfl, rfl, rfl, hr, hp⟩
  refine tr_seq (tr_set (ea_op (ea_var rfl (ea_int (rb_t0 ?_)))))
  refine tr_while (fun mm ds L => ∃ x6 x7 x8 held last, ds = [some (.ref a), some (.ref m), some (.ref c), some (dR last), some (dR start), some (.int (bi start.1)), x6, x7, x8] ∧ [(m, true, O.dT (eT dN held)), (a, false, .ro (ps.map dP)), (c, false, .rT (eT dN came))].Sublist L ∧
    exGo ps came start mm held last = some r) (came.length + 1) ⟨none, none, none, held, last, rfl, (by repeat (first | exact List.Sublist.refl _ | apply List.Sublist.cons_cons | exact List.nil_sublist _ | apply List.Sublist.cons)), hr⟩ ?_
  rintro mm ds L ⟨x6, x7, x8, held, last, rfl, hs, e⟩
  refine et_sub hs (et_B (ea_bl ⟨true, rfl, cndT ?_⟩))
  cases mm with
  | zero => cases e
  | succ mm =>
  unfold exGo at e
  cases h1 : aget came last with
  | none => rw [h1] at e; cases e
  | some pl =>
  cases h2 : ps[pl]? with
  | none => simp only [h1, h2] at e; cases e
  | some p =>
  simp only [h1, h2] at e
  by_cases hl : held.length < 1000
  case neg => rw [if_pos hl] at e; cases e
  rw [if_neg (fun z => z hl)] at e
  refine tr_seq (tr_set (ea_dgetN (ea_var rfl (ea_var rfl ⟨c, _, dN pl, rfl, (by repeat (first | exact dg_T | exact dg_rT | exact dg_fT | exact dg_K | apply Dg.tl)), by rw [h1]; rfl, ?_⟩))))
  refine tr_seq (tr_set (ea_tupR (el_cons (ea_var rfl (el_cons (ea_op (ea_op (ea_var rfl (ea_var rfl (rb_ixN (f := dP) (by repeat (first | exact At.lst | exact At.ro | exact At.sc | apply At.tl)) h2 (ea_var rfl (rb_sd (el_nil ⟨rk p start.1, rfl, ?_⟩)))))))))))))
  refine tr_seq (tr_set (ea_dget1O (ea_var rfl ⟨m, dR (rk p start.1), _, rfl, (by repeat (first | exact dg_T | exact dg_rT | exact dg_fT | exact dg_K | apply Dg.tl)), ea_var rfl ⟨_, (by repeat (first | exact dg_T | exact dg_rT | exact dg_fT | exact dg_K | apply Dg.tl)), ?_⟩⟩)))
  refine tr_seq (tr_dput (ea_var rfl (ea_var rfl (ea_var rfl ⟨m, _, rfl, dp_T (f := dN) (d := held) (k := last) (v := pl) (by repeat (first | exact Up.hd | apply Up.tl)) (by omega), ?_⟩))))
  have l2 := aput_len last pl held
  refine tr_seq (tr_dput (ea_var rfl (ea_var rfl (ea_var rfl ⟨m, _, rfl, dp_T (f := dN) (d := aput held last pl) (k := rk p start.1) (v := pl) (by repeat (first | exact Up.hd | apply Up.tl)) (by omega), ?_⟩))))
  refine tr_seq (tr_if (et_test (ea_op (ea_var rfl (ea_var rfl (rb_eqR (x := rk p start.1) (y := start) ⟨_, rfl, cndD (fun h => ?_) (fun h => ?_)⟩))))))
  · rw [if_pos h] at e
    refine tr_retN ⟨.dT (eT dN r), [], hp, rfl, ?_⟩
    rw [← Option.some.inj e]
    exact (by repeat (first | exact List.Sublist.refl _ | apply List.Sublist.cons_cons | exact List.nil_sublist _ | apply List.Sublist.cons))
  · rw [if_neg h] at e
    refine tr_next ?_
    cases h3 : aget held (rk p start.1) with
    | none => simp only [h3] at e; cases e
    | some b =>
    cases h4 : ps[b]? with
    | none => simp only [h3, h4] at e; cases e
    | some pb =>
    simp only [h3, h4] at e
    refine tr_set (ea_tupR (el_cons (ea_op (ea_int (ea_var rfl (rb_flip (el_cons (ea_op (ea_op (ea_var rfl (ea_var rfl (rb_ixN (f := dP) (by repeat (first | exact At.lst | exact At.ro | exact At.sc | apply At.tl)) h4 (ea_op (ea_int (ea_var rfl (rb_flip (rb_sd (el_nil ⟨rk pb !start.1, rfl, ?_⟩))))))))))))))))))
    exact ⟨mm, Nat.lt_succ_self _, _, _, _, _, _, rfl, (by repeat (first | exact List.Sublist.refl _ | apply List.Sublist.cons_cons | exact List.nil_sublist _ | apply List.Sublist.cons)), e⟩

def A_touch : List D → Addr → O → Fp → (D → O → Nw → Prop) → Prop := fun xs m o L P => ∃ (a l h : Addr) (ps : List Pr) (lk : List (Rk × List Nat)) (kvs : List (List Int × Addr × List D)) (heavy : List (Rk × Unit)) (held r : List (Rk × Nat)) (start : Rk),
  xs = [.ref a, .ref l, .ref m, .ref h, dR start] ∧ o = .dT (eT dN held) ∧ L = [(a, false, .ro (ps.map dP)), (l, false, .dL kvs), (h, false, .rT (eT dU heavy))] ∧ strip kvs = eL lk ∧ touch ps lk held heavy start = some r ∧ P .non (.dT (eT dN r)) []
theorem rd_touch {K : PySem.W.Frag} : ∀ vs H Q E, SpM K A_touch vs H Q E → t_touch K (SpM K A_ex) { nx := fun _ H' => Q .non H', rt := Q } (L2.start names_touch vs) H := fun vs H Q E => spM_body fun H0 xs m o L P => by
  rintro ⟨a, l, h, ps, lk, kvs, heavy, held, r, start, rfl, rfl, rfl, es, hr, hp⟩
  refine tr_seq (tr_set (ea_op (ea_var rfl (ea_int (rb_t0 ?_)))))
  refine tr_seq (tr_set (ea_dnewT fun c => ?_))
  refine tr_seq (tr_set (ea_lst (el_cons (ea_var rfl (el_nil ⟨by show 1 ≤ 1000; decide, fun t => ?_⟩)))))
  refine tr_seq (tr_set (ea_int ?_))
  refine tr_while (fun mm ds L => ∃ x9 x10 x11 at' came todo, ds = [some (.ref a), some (.ref l), some (.ref m), some (.ref h), some (dR start), some (.int (bi start.1)), some (.ref c), some (.ref t), some (dN at'), x9, x10, x11] ∧
    [(m, true, O.dT (eT dN held)), (a, false, .ro (ps.map dP)), (l, false, .dL kvs), (h, false, .rT (eT dU heavy)), (c, true, .dT (eT dN came)), (t, true, .lst (todo.map dR))].Sublist L ∧
    touchGo ps lk held heavy start mm at' came todo = some r) (ps.length + 2) ⟨none, none, none, 0, [], [start], rfl, (by repeat (first | exact List.Sublist.refl _ | apply List.Sublist.cons_cons | exact List.nil_sublist _ | apply List.Sublist.cons)), hr⟩ ?_
  rintro mm ds L ⟨x9, x10, x11, at', came, todo, rfl, hs, e⟩
  refine et_sub hs (et_test (ea_op (ea_var rfl (ea_cb (el_cons (ea_var rfl (el_nil (rc_len (by repeat (first | exact At.lst | exact At.ro | exact At.sc | apply At.tl)) (rb_ltN ⟨_, rfl, cndD (fun hlt => ?_) (fun hlt => ?_)⟩)))))))))
  case refine_2 =>
    cases mm with
    | zero => cases e
    | succ mm =>
    unfold touchGo at e
    rw [List.getElem?_eq_none (by rw [List.length_map] at hlt; omega)] at e
    refine ⟨.dT (eT dN r), [], hp, rfl, ?_⟩
    rw [← Option.some.inj e]
    exact (by repeat (first | exact List.Sublist.refl _ | apply List.Sublist.cons_cons | exact List.nil_sublist _ | apply List.Sublist.cons))
  rw [List.length_map] at hlt
  cases mm with
  | zero => cases e
  | succ mm =>
  unfold touchGo at e
  have hk : todo[at']? = some todo[at'] := List.getElem?_eq_getElem hlt
  generalize todo[at'] = k at hk
  rw [hk] at e
  cases hls : aget lk k with
  | none => simp only [hls] at e; cases e
  | some ls =>
  simp only [hls] at e
  refine tr_seq (tr_forL ls dN (fun i ds L => ∃ x9 x10 x11 came todo, ds = [some (.ref a), some (.ref l), some (.ref m), some (.ref h), some (dR start), some (.int (bi start.1)), some (.ref c), some (.ref t), some (dN at'), x9, x10, x11] ∧
    [(m, true, O.dT (eT dN held)), (a, false, .ro (ps.map dP)), (l, false, .dL kvs), (h, false, .rT (eT dU heavy)), (c, true, .dT (eT dN came)), (t, true, .lst (todo.map dR))].Sublist L ∧
    after (fun c t => touchGo ps lk held heavy start mm (at' + 1) c t) (touchIn ps held heavy start (ls.drop i) came todo) = some r)
    (ea_dgetL (ea_var rfl (ea_op (ea_var rfl (ea_var rfl (rb_ixN (f := dR) (by repeat (first | exact At.lst | exact At.ro | exact At.sc | apply At.tl)) hk ⟨l, false, kvs, lk, k, ls, rfl, rfl, (by repeat (first | exact List.mem_cons_self | apply List.mem_cons_of_mem)), es, hls, fun b hb hat => ⟨b, rfl, hat, ?_, ?_, ?_, ?_⟩⟩)))))))
  · exact ⟨_, _, _, _, _, rfl, (by repeat (first | exact List.Sublist.refl _ | apply List.Sublist.cons_cons | exact List.nil_sublist _ | apply List.Sublist.cons)), e⟩
  · rintro i ds L ⟨x9, x10, x11, came, todo, rfl, hs, e⟩
    exact at_sub hs (.tl (.tl (.dl hb)))
  · clear e hs hk hlt
    rintro i ds L pl hi hd hlt ⟨x9, x10, x11, came, todo, rfl, hs, e⟩
    rw [hd] at e
    unfold touchIn at e
    cases h2 : ps[pl]? with
    | none => simp only [h2] at e; cases e
    | some p =>
    simp only [h2] at e
    refine ag_sub hs (ag_name ?_)
    refine tr_seq (tr_set (ea_tupR (el_cons (ea_op (ea_int (ea_var rfl (rb_flip (el_cons (ea_op (ea_op (ea_var rfl (ea_var rfl (rb_ixN (f := dP) (by repeat (first | exact At.lst | exact At.ro | exact At.sc | apply At.tl)) h2 (ea_op (ea_int (ea_var rfl (rb_flip (rb_sd (el_nil ⟨rk p !start.1, rfl, ?_⟩)))))))))))))))))))
    refine tr_if (et_B (ea_dnin (ea_var rfl (ea_var rfl ⟨c, _, rfl, dg_T' (f := dN) (d := came) (k := rk p !start.1) (by repeat (first | exact List.mem_cons_self | apply List.mem_cons_of_mem)), _, rfl, cndGn (fun hc => ?_) (fun x hc => ?_)⟩))))
    case refine_2 =>
      simp only [hc] at e
      exact tr_next ⟨_, _, _, _, _, rfl, (by repeat (first | exact List.Sublist.refl _ | apply List.Sublist.cons_cons | exact List.nil_sublist _ | apply List.Sublist.cons)), e⟩
    simp only [hc] at e
    by_cases hl : came.length < 1000 ∧ todo.length < 1000
    case neg => rw [if_pos hl] at e; cases e
    rw [if_neg (fun z => z hl)] at e
    refine tr_seq (tr_dput (ea_var rfl (ea_var rfl (ea_var rfl ⟨c, _, rfl, dp_T (f := dN) (d := came) (k := rk p !start.1) (v := pl) (by repeat (first | exact Up.hd | apply Up.tl)) (by omega), ?_⟩))))
    refine tr_seq (tr_set (ea_non ?_))
    refine tr_seq (tr_if (et_B (ea_din (ea_var rfl (ea_var rfl ⟨m, _, rfl, dg_T' (f := dN) (d := held) (k := rk p !start.1) (by repeat (first | exact List.mem_cons_self | apply List.mem_cons_of_mem)), _, rfl, cndG (fun q hq => ?_) (fun hq => ?_)⟩)))))
    · simp only [hq] at e
      cases h3 : ps[q]? with
      | none => simp only [h3] at e; cases e
      | some pq =>
      simp only [h3] at e
      refine tr_set (ea_tupR (el_cons (ea_var rfl (el_cons (ea_op (ea_op (ea_var rfl (ea_dgetN (ea_var rfl (ea_var rfl ⟨m, _, dN q, rfl, dg_T' (f := dN) (d := held) (k := rk p !start.1) (by repeat (first | exact List.mem_cons_self | apply List.mem_cons_of_mem)), by rw [hq]; rfl, rb_ixN (f := dP) (by repeat (first | exact At.lst | exact At.ro | exact At.sc | apply At.tl)) h3 (ea_var rfl (rb_sd (el_nil ⟨rk pq start.1, rfl, ?_⟩)))⟩))))))))))
      refine tr_seq (tr_if (et_or (et_test (ea_op (ea_var rfl (ea_non (rb_isN ⟨_, rfl, cndF (et_B (ea_dnin (ea_var rfl (ea_var rfl ⟨h, _, rfl, dg_rT' (f := dU) (d := heavy) (k := rk pq start.1) (by repeat (first | exact List.mem_cons_self | apply List.mem_cons_of_mem)), _, rfl, ?_⟩))))⟩)))))))
      cases hh : aget heavy (rk pq start.1) with
      | some u =>
        simp only [hh] at e
        refine cndF (tr_next ?_)
        refine tr_drop (ea_bmL (ea_var rfl ⟨t, _, rfl, (by repeat (first | exact At.lst | exact At.ro | exact At.sc | apply At.tl)), el_cons (ea_var rfl (el_nil (rm_appendN (f := dR) (rk pq start.1) (by repeat (first | exact Up.hd | apply Up.tl)) (by omega) ?_)))⟩))
        exact ⟨_, _, _, _, _, rfl, (by repeat (first | exact List.Sublist.refl _ | apply List.Sublist.cons_cons | exact List.nil_sublist _ | apply List.Sublist.cons)), e⟩
      | none =>
        simp only [hh] at e
        refine cndT ?_
        cases hb2 : aget held (rk pq start.1) with
        | none => simp only [hb2] at e; cases e
        | some v =>
        simp only [hb2] at e
        refine tr_seq (tr_if (et_test (ea_op (ea_var rfl (ea_non (rb_notN ⟨_, rfl, cndT ?_⟩))))))
        refine tr_drop (ea_dpopTN dN (ea_var rfl ⟨m, _, true, rfl, (by repeat (first | exact List.mem_cons_self | apply List.mem_cons_of_mem)), ea_var rfl ⟨rk pq start.1, held, v, _, rfl, hb2, (by repeat (first | exact Up.hd | apply Up.tl)), ?_⟩⟩))
        cases hx : XM.ex ps (adrop held (rk pq start.1)) (aput came (rk p !start.1) pl) (rk p !start.1) start with
        | none => simp only [hx] at e; cases e
        | some hh2 =>
        simp only [hx] at e
        have e : some hh2 = some r := e
        cases e
        refine tr_seq (tr_drop (ea_callM (dd := []) (fun _ => rfl) (el_cons (ea_var rfl (el_cons (ea_var rfl (el_cons (ea_var rfl (el_cons (ea_var rfl (el_cons (ea_var rfl (el_nil ⟨m, .dT (eT dN (adrop held (rk pq start.1))), [(a, false, .ro (ps.map dP)), (c, false, .rT (eT dN (aput came (rk p !start.1) pl)))], fun d o' N => d = .non ∧ o' = .dT (eT dN r) ∧ N = [], (by repeat (first | refine Sm.here (by repeat (first | exact Sb.nil | refine Sb.keep (by first | exact Wk.rfl | exact Wk.ro | exact Wk.rT | exact Wk.rF) ?_ | apply Sb.skip)) (by repeat (first | exact hc_nil | refine hc_cons ?_ rfl)) | refine Sm.keep (by first | exact Wk.rfl | exact Wk.ro | exact Wk.rT | exact Wk.rF) rfl ?_ | apply Sm.skip)), ⟨rfl, rfl⟩,
          ⟨a, c, ps, _, _, r, rk p !start.1, start, rfl, rfl, rfl, hx, rfl, rfl, rfl⟩, ?_⟩)))))))))))))
        rintro d o' N ⟨rfl, rfl, rfl⟩
        exact ⟨⟨rfl, rfl⟩, _, (by repeat (first | exact Up.hd | apply Up.tl)), tr_retN ⟨.dT (eT dN r), [], hp, rfl, (by repeat (first | exact List.Sublist.refl _ | apply List.Sublist.cons_cons | exact List.nil_sublist _ | apply List.Sublist.cons))⟩⟩
    · simp only [hq] at e
      refine tr_next ?_
      refine tr_seq (tr_if (et_or (et_test (ea_op (ea_var rfl (ea_non (rb_isN ⟨_, rfl, cndT (cndT ?_)⟩)))))))
      refine tr_seq (tr_if (et_test (ea_op (ea_var rfl (ea_non (rb_notN ⟨_, rfl, cndF (tr_next ?_)⟩))))))
      cases hx : XM.ex ps held (aput came (rk p !start.1) pl) (rk p !start.1) start with
      | none => simp only [hx] at e; cases e
      | some hh2 =>
      simp only [hx] at e
      have e : some hh2 = some r := e
      cases e
      refine tr_seq (tr_drop (ea_callM (dd := []) (fun _ => rfl) (el_cons (ea_var rfl (el_cons (ea_var rfl (el_cons (ea_var rfl (el_cons (ea_var rfl (el_cons (ea_var rfl (el_nil ⟨m, .dT (eT dN held), [(a, false, .ro (ps.map dP)), (c, false, .rT (eT dN (aput came (rk p !start.1) pl)))], fun d o' N => d = .non ∧ o' = .dT (eT dN r) ∧ N = [], (by repeat (first | refine Sm.here (by repeat (first | exact Sb.nil | refine Sb.keep (by first | exact Wk.rfl | exact Wk.ro | exact Wk.rT | exact Wk.rF) ?_ | apply Sb.skip)) (by repeat (first | exact hc_nil | refine hc_cons ?_ rfl)) | refine Sm.keep (by first | exact Wk.rfl | exact Wk.ro | exact Wk.rT | exact Wk.rF) rfl ?_ | apply Sm.skip)), ⟨rfl, rfl⟩,
        ⟨a, c, ps, _, _, r, rk p !start.1, start, rfl, rfl, rfl, hx, rfl, rfl, rfl⟩, ?_⟩)))))))))))))
      rintro d o' N ⟨rfl, rfl, rfl⟩
      exact ⟨⟨rfl, rfl⟩, _, (by repeat (first | exact Up.hd | apply Up.tl)), tr_retN ⟨.dT (eT dN r), [], hp, rfl, (by repeat (first | exact List.Sublist.refl _ | apply List.Sublist.cons_cons | exact List.nil_sublist _ | apply List.Sublist.cons))⟩⟩
  · rintro ds L hd ⟨x9, x10, x11, came, todo, rfl, hs, e⟩
    rw [hd] at e
    refine tr_sub hs (tr_set (ea_op (ea_var rfl (ea_int (rb_inc ?_)))))
    exact ⟨mm, Nat.lt_succ_self _, _, _, _, _, _, _, rfl, (by repeat (first | exact List.Sublist.refl _ | apply List.Sublist.cons_cons | exact List.nil_sublist _ | apply List.Sublist.cons)), e⟩

theorem linkGo_len : ∀ (r : List Pr) (i : Nat) (d : List (Rk × List Nat)), (linkGo i r d).length ≤ d.length + 2 * r.length
  | [], _, _ => Nat.le_add_right _ _
  | p :: r, i, d => by
    have h1 := linkGo_len r (i + 1) (addTo (addTo d (rk p false) i) (rk p true) i)
    have h2 := addTo_len d (rk p false) i
    have h3 := addTo_len (addTo d (rk p false) i) (rk p true) i
    show (linkGo (i + 1) r _).length ≤ _
    rw [List.length_cons]
    omega
theorem linkGo_small : ∀ (r : List Pr) (i n : Nat) (d : List (Rk × List Nat)), (∀ k xs, aget d k = some xs → xs.length ≤ n) → ∀ k xs, aget (linkGo i r d) k = some xs → xs.length ≤ n + 2 * r.length
  | [], _, _, _, h => h
  | p :: r, i, n, d, h => fun k xs e => by
    have h1 := linkGo_small r (i + 1) (n + 1 + 1) _ (addTo_small (addTo_small h (rk p false) i) (rk p true) i) k xs e
    rw [List.length_cons]
    omega
theorem links_len (ps : List Pr) : (links ps).length ≤ 2 * ps.length := by
  have := linkGo_len ps 0 []
  rw [List.length_nil] at this
  unfold links
  omega
theorem links_small (ps : List Pr) : ∀ k xs, aget (links ps) k = some xs → xs.length ≤ 2 * ps.length := fun k xs e => by
  have := linkGo_small ps 0 0 [] (fun _ _ z => nomatch z) k xs e
  omega
theorem exGo_len {ps : List Pr} {came : List (Rk × Nat)} {start : Rk} : ∀ {f : Nat} {held r : List (Rk × Nat)} {last : Rk}, exGo ps came start f held last = some r → r.length ≤ 1001
  | 0, _, _, _, h => by cases h
  | f + 1, held, r, last, h => by
    unfold exGo at h
    cases h1 : aget came last with
    | none => rw [h1] at h; cases h
    | some pl =>
    cases h2 : ps[pl]? with
    | none => simp only [h1, h2] at h; cases h
    | some p =>
    simp only [h1, h2] at h
    by_cases hl : held.length < 1000
    case neg => rw [if_pos hl] at h; cases h
    rw [if_neg (fun z => z hl)] at h
    by_cases hs : rk p start.1 = start
    · rw [if_pos hs] at h
      rw [← Option.some.inj h]
      have l1 := aput_len last pl held
      have l2 := aput_len (rk p start.1) pl (aput held last pl)
      omega
    · rw [if_neg hs] at h
      cases h3 : aget held (rk p start.1) with
      | none => simp only [h3] at h; cases h
      | some b =>
      cases h4 : ps[b]? with
      | none => simp only [h3, h4] at h; cases h
      | some pb =>
      simp only [h3, h4] at h
      exact exGo_len h
theorem touchIn_len {ps : List Pr} {held : List (Rk × Nat)} {heavy : List (Rk × Unit)} {start : Rk} : ∀ {ls : List Nat} {came : List (Rk × Nat)} {todo : List Rk} {r : List (Rk × Nat)}, touchIn ps held heavy start ls came todo = some (.inl r) → r.length ≤ 1001
  | [], _, _, _, h => by cases h
  | pl :: ls, came, todo, r, h => by
    unfold touchIn at h
    cases h2 : ps[pl]? with
    | none => simp only [h2] at h; cases h
    | some p =>
    simp only [h2] at h
    cases hc : aget came (rk p !start.1) with
    | some x =>
      simp only [hc] at h
      exact touchIn_len h
    | none =>
    simp only [hc] at h
    by_cases hl : came.length < 1000 ∧ todo.length < 1000
    case neg => rw [if_pos hl] at h; cases h
    rw [if_neg (fun z => z hl)] at h
    have fin : ∀ (hh cc : List (Rk × Nat)) (l s : Rk), (XM.ex ps hh cc l s).map (Sum.inl (β := List (Rk × Nat) × List Rk)) = some (.inl r) → r.length ≤ 1001 := fun hh cc l s h => by
      obtain ⟨x, h1, h2⟩ := Option.map_eq_some_iff.mp h
      cases h2
      exact exGo_len h1
    cases hq : aget held (rk p !start.1) with
    | none =>
      simp only [hq] at h
      exact fin _ _ _ _ h
    | some q =>
    simp only [hq] at h
    cases h3 : ps[q]? with
    | none => simp only [h3] at h; cases h
    | some pq =>
    simp only [h3] at h
    cases hh : aget heavy (rk pq start.1) with
    | some u =>
      simp only [hh] at h
      exact touchIn_len h
    | none =>
    simp only [hh] at h
    cases hb : aget held (rk pq start.1) with
    | none => simp only [hb] at h; cases h
    | some v =>
    simp only [hb] at h
    exact fin _ _ _ _ h
theorem touchGo_len {ps : List Pr} {lk : List (Rk × List Nat)} {held : List (Rk × Nat)} {heavy : List (Rk × Unit)} {start : Rk} (hh : held.length ≤ 1001) : ∀ {f at' : Nat} {came : List (Rk × Nat)} {todo : List Rk} {r : List (Rk × Nat)}, touchGo ps lk held heavy start f at' came todo = some r → r.length ≤ 1001
  | 0, _, _, _, _, h => by cases h
  | f + 1, at', came, todo, r, h => by
    unfold touchGo at h
    cases h1 : todo[at']? with
    | none =>
      simp only [h1] at h
      rw [← Option.some.inj h]
      exact hh
    | some k =>
    simp only [h1] at h
    cases h2 : aget lk k with
    | none => simp only [h2] at h; cases h
    | some ls =>
    simp only [h2] at h
    cases h3 : touchIn ps held heavy start ls came todo with
    | none => rw [h3] at h; cases h
    | some x =>
    rw [h3] at h
    cases x with
    | inl y =>
      have h : some y = some r := h
      rw [← Option.some.inj h]
      exact touchIn_len h3
    | inr y => exact touchGo_len hh (f := f) h
theorem heldGo_len {ps : List Pr} {lk : List (Rk × List Nat)} {heavy : List (Rk × Unit)} : ∀ (hv : List (Rk × Unit)) {held r : List (Rk × Nat)}, held.length ≤ 1001 → heldGo ps lk heavy hv held = some r → r.length ≤ 1001
  | [], held, r, hl, h => by
    have h : some held = some r := h
    rw [← Option.some.inj h]
    exact hl
  | k :: hv, held, r, hl, h => by
    unfold heldGo at h
    cases h1 : aget held k.1 with
    | some x =>
      simp only [h1] at h
      exact heldGo_len hv hl h
    | none =>
    simp only [h1] at h
    cases h2 : touch ps lk held heavy k.1 with
    | none => simp only [h2] at h; cases h
    | some h' =>
    simp only [h2] at h
    exact heldGo_len hv (touchGo_len hl h2) h
def A_touching : List D → Fp → (D → Nw → Prop) → Prop := fun xs L P => ∃ (a : Addr) (ps : List Pr) (r : List Nat), xs = [.ref a] ∧ L = [(a, false, .ro (ps.map dP))] ∧ ps.length ≤ 1000 ∧ touching ps = some r ∧ ∀ p, P (.ref p) [(p, .lst (r.map dN))]
theorem rd_touching {K : PySem.W.Frag} : ∀ vs H Q E, SpP K A_touching vs H Q E → t_touching K (SpP K A_links) (SpP K A_gw) (SpM K A_touch) { nx := fun _ H' => Q .non H', rt := Q } (L2.start names_touching vs) H := fun vs H Q E => spP_body fun H0 xs L P => by
  rintro ⟨a, ps, r, rfl, rfl, hz, hr, hp⟩
  unfold touching at hr
  cases hh : heavyGo (links ps) (gw ps) (srt leR ((links ps).map (·.1))) [] with
  | none => simp only [hh] at hr; cases hr
  | some heavy =>
  simp only [hh] at hr
  cases hd : heldGo ps (links ps) heavy heavy [] with
  | none => simp only [hd] at hr; cases hr
  | some held =>
  simp only [hd] at hr
  have hr : some (srt leN (heldIn held)) = some r := hr
  have hr := Option.some.inj hr
  have hlen0 : held.length ≤ 1001 := heldGo_len heavy (Nat.zero_le _) hd
  refine tr_seq (tr_set (ea_callP (dd := []) (fun _ => rfl) (el_cons (ea_var rfl (el_nil ⟨[(a, false, .ro (ps.map dP))], fun d N => ∃ p kvs, d = .ref p ∧ strip kvs = eL (links ps) ∧ N = [(p, .dL kvs)], (by repeat (first | exact Sb.nil | refine Sb.keep (by first | exact Wk.rfl | exact Wk.ro | exact Wk.rT | exact Wk.rF) ?_ | apply Sb.skip)), ⟨a, ps, rfl, rfl, hz, fun p kvs e => ⟨p, kvs, rfl, e, rfl⟩⟩, ?_⟩)))))
  rintro d N ⟨l, kvs, rfl, es, rfl⟩
  refine tr_seq (tr_set (ea_callP (dd := []) (fun _ => rfl) (el_cons (ea_var rfl (el_nil ⟨[(a, false, .ro (ps.map dP))], fun d N => d = dN (gw ps) ∧ N = [], (by repeat (first | exact Sb.nil | refine Sb.keep (by first | exact Wk.rfl | exact Wk.ro | exact Wk.rT | exact Wk.rF) ?_ | apply Sb.skip)), ⟨a, ps, rfl, rfl, hz, ⟨rfl, rfl⟩⟩, ?_⟩)))))
  rintro d N ⟨rfl, rfl⟩
  refine tr_seq (tr_set (ea_dnewT fun h => ?_))
  have hks : (srt leR ((links ps).map (·.1))).length ≤ 2000 := by
    rw [(srt_perm leR _).length_eq, List.length_map]
    have := links_len ps
    omega
  generalize hke : srt leR ((links ps).map (·.1)) = ks at hh hks
  refine tr_seq (tr_forLq ks dR (ea_cb (el_cons (ea_var rfl (el_nil (rc_sortR (dk_L es (by repeat (first | exact List.mem_cons_self | apply List.mem_cons_of_mem))) fun q => ?_))))))
  rw [hke]
  refine ⟨q, (fun i ds L => ∃ x4 x5 hv, ds = [some (.ref a), some (.ref l), some (dN (gw ps)), some (.ref h), x4, x5] ∧
    [(a, false, O.ro (ps.map dP)), (l, true, .dL kvs), (h, true, .dT (eT dU hv)), (q, true, .lst (ks.map dR))].Sublist L ∧ hv.length ≤ i ∧ heavyGo (links ps) (gw ps) (ks.drop i) hv = some heavy), rfl, ?_, ?_, ?_, ?_, ?_⟩
  · exact (by repeat (first | exact At.lst | exact At.ro | exact At.sc | apply At.tl))
  · exact ⟨none, none, [], rfl, (by repeat (first | exact List.Sublist.refl _ | apply List.Sublist.cons_cons | exact List.nil_sublist _ | apply List.Sublist.cons)), Nat.zero_le _, hh⟩
  · rintro i ds L ⟨x4, x5, hv, rfl, hs, hl, e⟩
    exact at_sub hs (by repeat (first | exact At.lst | exact At.ro | exact At.sc | apply At.tl))
  · rintro i ds L k hi hd' hlt ⟨x4, x5, hv, rfl, hs, hl, e⟩
    rw [hd'] at e
    unfold heavyGo at e
    refine ag_sub hs (ag_name ?_)
    cases hls : aget (links ps) k with
    | none => simp only [hls] at e; cases e
    | some ls =>
    simp only [hls] at e
    refine tr_if (et_test (ea_op (ea_cb (el_cons (ea_dgetL (ea_var rfl (ea_var rfl ⟨l, true, kvs, links ps, k, ls, rfl, rfl, (by repeat (first | exact List.mem_cons_self | apply List.mem_cons_of_mem)), es, hls, fun b hb hat => el_nil (rc_len hat (ea_var rfl (rb_eqN ⟨_, rfl, cndD (fun h1 => ?_) (fun h1 => ?_)⟩)))⟩)))))))
    · rw [List.length_map] at h1
      rw [if_pos h1] at e
      refine tr_dput (ea_bl (ea_var rfl (ea_var rfl ⟨h, _, rfl, dp_T (f := dU) (d := hv) (k := k) (v := ()) (by repeat (first | exact Up.hd | apply Up.tl)) (by omega), ?_⟩)))
      exact ⟨_, _, _, rfl, (by repeat (first | exact List.Sublist.refl _ | apply List.Sublist.cons_cons | exact List.nil_sublist _ | apply List.Sublist.cons)), Nat.le_trans (aput_len _ _ _) (by omega), e⟩
    · rw [List.length_map] at h1
      rw [if_neg h1] at e
      exact tr_next ⟨_, _, _, rfl, (by repeat (first | exact List.Sublist.refl _ | apply List.Sublist.cons_cons | exact List.nil_sublist _ | apply List.Sublist.cons)), by omega, e⟩
  · rintro ds L hd' ⟨x4, x5, hv, rfl, hs, hl, e⟩
    rw [hd'] at e
    have e : some hv = some heavy := e
    cases e
    refine tr_sub hs ?_
    refine tr_seq (tr_set (ea_dnewT fun g => ?_))
    refine tr_seq (tr_forD (a := h) (kvs := eT dU heavy) ⟨3, rfl, rfl⟩ fun od ws => ⟨_, (by repeat (first | exact Up.hd | apply Up.tl)), (fun i ds L => ∃ x4 hl, ds = [some (.ref a), some (.ref l), some (dN (gw ps)), some (.ref h), x4, some (.ref g)] ∧
      [(a, false, O.ro (ps.map dP)), (l, true, .dL kvs), (h, true, .fT (eT dU heavy) od ws), (g, true, .dT (eT dN hl))].Sublist L ∧ heldGo ps (links ps) heavy (heavy.drop i) hl = some held), ?_, ?_, ?_, ?_⟩)
    · exact ⟨x4, [], rfl, (by repeat (first | exact List.Sublist.refl _ | apply List.Sublist.cons_cons | exact List.nil_sublist _ | apply List.Sublist.cons)), hd⟩
    · rintro i ds L hi ⟨x4, hl, rfl, hs, e⟩
      exact hs.subset (by repeat (first | exact List.mem_cons_self | apply List.mem_cons_of_mem))
    · rintro i ds L p hp' ⟨x4, hl, rfl, hs, e⟩
      obtain ⟨k, v, h1, rfl⟩ := eT_at hp'
      rw [drop_at h1] at e
      unfold heldGo at e
      refine ag_sub hs (ag_name ?_)
      show Tr K H0 [] _ [some (.ref a), some (.ref l), some (dN (gw ps)), some (.ref h), some (dR k), some (.ref g)] _ _
      refine tr_if (et_B (ea_dnin (ea_var rfl (ea_var rfl ⟨g, _, rfl, dg_T' (f := dN) (d := hl) (k := k) (by repeat (first | exact List.mem_cons_self | apply List.mem_cons_of_mem)), _, rfl, cndGn (fun hc => ?_) (fun x hc => ?_)⟩))))
      · simp only [hc] at e
        cases ht : touch ps (links ps) hl heavy k with
        | none => simp only [ht] at e; cases e
        | some hl' =>
        simp only [ht] at e
        refine tr_drop (ea_callM (dd := []) (fun _ => rfl) (el_cons (ea_var rfl (el_cons (ea_var rfl (el_cons (ea_var rfl (el_cons (ea_var rfl (el_cons (ea_var rfl (el_nil ⟨g, .dT (eT dN hl), [(a, false, .ro (ps.map dP)), (l, false, .dL kvs), (h, false, .rT (eT dU heavy))], fun d o' N => d = .non ∧ o' = .dT (eT dN hl') ∧ N = [], (by repeat (first | refine Sm.here (by repeat (first | exact Sb.nil | refine Sb.keep (by first | exact Wk.rfl | exact Wk.ro | exact Wk.rT | exact Wk.rF) ?_ | apply Sb.skip)) (by repeat (first | exact hc_nil | refine hc_cons ?_ rfl)) | refine Sm.keep (by first | exact Wk.rfl | exact Wk.ro | exact Wk.rT | exact Wk.rF) rfl ?_ | apply Sm.skip)), ⟨rfl, rfl⟩,
          ⟨a, l, h, ps, links ps, kvs, heavy, hl, hl', k, rfl, rfl, rfl, es, ht, rfl, rfl, rfl⟩, ?_⟩))))))))))))
        rintro d o' N ⟨rfl, rfl, rfl⟩
        exact ⟨⟨rfl, rfl⟩, _, (by repeat (first | exact Up.hd | apply Up.tl)), _, _, rfl, (by repeat (first | exact List.Sublist.refl _ | apply List.Sublist.cons_cons | exact List.nil_sublist _ | apply List.Sublist.cons)), e⟩
      · simp only [hc] at e
        exact tr_next ⟨_, _, rfl, (by repeat (first | exact List.Sublist.refl _ | apply List.Sublist.cons_cons | exact List.nil_sublist _ | apply List.Sublist.cons)), e⟩
    · rintro ds L ⟨x4, hl, rfl, hs, e⟩
      rw [List.length_map, List.drop_length] at e
      have e : some hl = some held := e
      cases e
      obtain ⟨L3, hu, hs3⟩ := up_sub (a := h) (o := .fT (eT dU heavy) od ws) (o' := .dT (eT dU heavy)) hs (by repeat (first | exact Up.hd | apply Up.tl))
      refine ⟨L3, hu, tr_sub hs3 (tr_nd (f := dN) (d := held) (a := g) (w := true) (by repeat (first | exact List.mem_cons_self | apply List.mem_cons_of_mem)) fun nd => ?_)⟩
      refine tr_ret (ea_cb (el_cons (ea_lcD (a := g) (kvs := eT dN held) (gw_name (by simp)) ⟨5, rfl, rfl⟩ fun od ws => ⟨_, (by repeat (first | exact Up.hd | apply Up.tl)), fun p => ⟨fun i L => L = [(a, false, O.ro (ps.map dP)), (l, true, .dL kvs), (h, true, .dT (eT dU heavy)), (g, true, .fT (eT dN held) od ws), (p, true, .lst ((heldIn (held.take i)).map dN))], rfl, ?_, ?_, ?_⟩⟩)))
      · rintro i L hi rfl
        exact (by repeat (first | exact List.mem_cons_self | apply List.mem_cons_of_mem))
      · rintro i L q hq rfl
        obtain ⟨k, v, h1, rfl⟩ := eT_at hq
        refine ag_name ?_
        show Et K H0 [] _ [some (.ref a), some (.ref l), some (dN (gw ps)), some (.ref h), some (dR k), some (.ref g)] _ _
        have hstep : heldIn (held.take (i + 1)) = heldIn (held.take i) ++ (if k.1 = false then [v] else []) := by
          unfold heldIn
          rw [fm_step h1]
          by_cases hk : k.1 = false
          · simp [hk]
          · simp [hk]
        have hlen : (heldIn (held.take i)).length ≤ i := fm_len _ _ _
        have hi : i < held.length := (List.getElem?_eq_some_iff.mp h1).1
        refine et_test (ea_op (ea_op (ea_var rfl (ea_int (rb_t0 (ea_int (rb_eqS (a := k.1) (b := false) ⟨_, rfl, cndD (fun h2 => ?_) (fun h2 => ?_)⟩)))))))
        · refine ea_dgetN (ea_var rfl (ea_var rfl ⟨g, _, dN v, rfl, dg_fT' (f := dN) (d := held) (k := k) (by repeat (first | exact List.mem_cons_self | apply List.mem_cons_of_mem)), by rw [aget_of_mem nd (List.mem_of_getElem? h1)]; rfl, (heldIn (held.take i)).map dN, _, (by repeat (first | exact Up.hd | apply Up.tl)), by rw [List.length_map]; omega, ?_⟩))
          show [_, _, _, _, (p, true, O.lst ((heldIn (held.take i)).map dN ++ [dN v]))] = _
          rw [hstep, if_pos h2, List.map_append]
          rfl
        · show _ = _
          rw [hstep, if_neg h2, List.append_nil]
      · rintro L rfl
        rw [List.length_map, List.take_length]
        refine ⟨_, (by repeat (first | exact Up.hd | apply Up.tl)), el_nil (rc_sortN (ns := heldIn held) (by repeat (first | exact At.lst | exact At.ro | exact At.sc | apply At.tl)) fun p2 => ?_)⟩
        rw [hr]
        exact ⟨_, hp p2, rfl, (by repeat (first | exact List.Sublist.refl _ | apply List.Sublist.cons_cons | exact List.nil_sublist _ | apply List.Sublist.cons))⟩
end XR
-- KRead4
set_option Elab.async false
set_option linter.all false
set_option maxRecDepth 100000
set_option maxHeartbeats 1000000
/-! the readings of the text's defs: greatest and what it calls -/
namespace XR
open PySem PySem.Spec PyProof.Rows L2 XM
section
variable {K : PySem.W.Frag} {H0 H : Hp} {M : List Addr} {L L' : Fp} {ds : List (Option D)} {P : D → Fp → Prop} {α : Type}
theorem rc_maxTwo {a : Addr} {x y : Nat} (h : At L a ([x, y].map dN)) (k : P (.int ((max x y : Nat) : Int)) L) : Rc K H0 M (rMax K) [.ref a] L P := rc_max (ns := [(x : Int), (y : Int)]) h (Nat.succ_pos _) fun m hm hx => by
  have e : m = ((max x y : Nat) : Int) := by
    have h1 := hx x List.mem_cons_self
    have h2 := hx y (List.mem_cons_of_mem _ List.mem_cons_self)
    rcases List.mem_cons.mp hm with z | z
    · omega
    · have := List.mem_singleton.mp z
      omega
  rw [e]
  exact k
end
def A_fp : List D → Fp → (D → Nw → Prop) → Prop := fun xs L P => ∃ (a : Addr) (ps : List Pr) (ways : Nat), xs = [.ref a, dN ways] ∧ L = [(a, false, .ro (ps.map dP))] ∧ ps.length ≤ 1000 ∧ ∀ p, P (.ref p) [(p, .lst ((firstPart ps ways).map dB))]
theorem rd_first_part {K : PySem.W.Frag} : ∀ vs H Q E, SpP K A_fp vs H Q E → t_first_part K { nx := fun _ H' => Q .non H', rt := Q } (L2.start names_first_part vs) H := fun vs H Q E => spP_body fun H0 xs L P => by
  rintro ⟨a, ps, ways, rfl, rfl, hz, hp⟩
  refine tr_seq (tr_set (ea_lst (el_nil ⟨by show 0 ≤ 1000; decide, fun tk => ?_⟩)))
  refine tr_seq (tr_set (ea_dnewT fun mn => ?_))
  refine tr_seq (tr_forL ps dP (fun i ds L => ∃ x4 x5 x6 x7 t m, ds = [some (.ref a), some (dN ways), some (.ref tk), some (.ref mn), x4, x5, x6, x7] ∧ [(a, false, O.ro (ps.map dP)), (tk, true, .lst (t.map dB)), (mn, true, .dT (eT dN m))].Sublist L ∧ t.length ≤ i ∧ m.length ≤ 2 * i ∧ fpGo ways (ps.drop i) t m = firstPart ps ways)
    (ea_var rfl ⟨a, rfl, (by repeat (first | exact At.lst | exact At.ro | exact At.sc | apply At.tl)), ?_, ?_, ?_, ?_⟩))
  · exact ⟨none, none, none, none, [], [], rfl, (by repeat (first | exact List.Sublist.refl _ | apply List.Sublist.cons_cons | exact List.nil_sublist _ | apply List.Sublist.cons)), Nat.zero_le _, Nat.zero_le _, rfl⟩
  · rintro i ds L ⟨x4, x5, x6, x7, t, m, rfl, hs, h1, h2, e⟩
    exact at_sub hs (by repeat (first | exact At.lst | exact At.ro | exact At.sc | apply At.tl))
  · rintro i ds L p hi hd hlt ⟨x4, x5, x6, x7, t, m, rfl, hs, h1, h2, e⟩
    rw [hd] at e
    refine ag_sub hs (ag_name ?_)
    refine tr_seq (tr_set (ea_lst (el_cons (ea_tupR (el_cons (ea_int (el_cons (ea_op (ea_var rfl (ea_int (rb_t0 (el_nil ⟨rk p false, rfl, el_cons (ea_tupR (el_cons (ea_int (el_cons (ea_op (ea_var rfl (ea_int (rb_t1 (el_nil ⟨rk p true, rfl, el_nil ⟨by show 2 ≤ 1000; decide, fun en => ?_⟩⟩)))))))))⟩))))))))))))
    refine tr_seq (tr_set (ea_op (ea_cb (el_cons (ea_lcF [rk p false, rk p true] dR dN (fun k => some ((aget m k).getD 0)) (gw_name (by simp)) (ea_var rfl ⟨en, rfl, (by repeat (first | exact At.lst | exact At.ro | exact At.sc | apply At.tl)), by show 2 ≤ 10000; decide, ?_, fun q => ?_⟩))))))
    · rintro j k E hk
      exact ag_name ⟨rfl, et_yes ⟨rfl, cndT (ea_dget2N dN (ea_var rfl ⟨mn, dR k, _, rfl, dg_T' (f := dN) (d := m) (k := k) (by repeat (first | exact List.mem_cons_self | apply List.mem_cons_of_mem)), ea_var rfl (ea_int ⟨_, 0, rfl, dg_T' (f := dN) (d := m) (k := k) (by repeat (first | exact List.mem_cons_self | apply List.mem_cons_of_mem)), rfl, _, rfl, rfl⟩)⟩))⟩⟩
    refine el_nil (rc_maxTwo (x := (aget m (rk p false)).getD 0) (y := (aget m (rk p true)).getD 0) (by repeat (first | exact At.lst | exact At.ro | exact At.sc | apply At.tl)) (ea_var rfl (rb_ltN ?_)))
    refine tr_seq (tr_drop (ea_bmL (ea_var rfl ⟨tk, _, rfl, (by repeat (first | exact At.lst | exact At.ro | exact At.sc | apply At.tl)), el_cons (ea_var rfl (el_nil (rm_appendN (f := dB) (fpGood ways m p) (by repeat (first | exact Up.hd | apply Up.tl)) (by omega) ?_)))⟩)))
    have ft : (t ++ [fpGood ways m p]).length ≤ i + 1 := by rw [List.length_append]; show t.length + 1 ≤ _; omega
    refine tr_if (et_B (ea_var rfl ⟨fpGood ways m p, rfl, cndB (fun hg => ?_) (fun hg => ?_)⟩))
    · have e : fpGo ways (ps.drop (i + 1)) (t ++ [fpGood ways m p]) (if fpGood ways m p then inc (inc m (rk p false)) (rk p true) else m) = firstPart ps ways := e
      rw [if_pos hg] at e
      refine tr_forL [rk p false, rk p true] dR (fun j ds L => ∃ x7, ds = [some (.ref a), some (dN ways), some (.ref tk), some (.ref mn), some (dP p), some (.ref en), some (.bl (fpGood ways m p)), x7] ∧ [(a, false, O.ro (ps.map dP)), (tk, true, .lst ((t ++ [fpGood ways m p]).map dB)), (mn, true, .dT (eT dN (([rk p false, rk p true].take j).foldl inc m))), (en, true, .lst ([rk p false, rk p true].map dR))].Sublist L ∧ (([rk p false, rk p true].take j).foldl inc m).length ≤ m.length + j)
        (ea_var rfl ⟨en, rfl, (by repeat (first | exact At.lst | exact At.ro | exact At.sc | apply At.tl)), ?_, ?_, ?_, ?_⟩)
      · exact ⟨_, rfl, (by repeat (first | exact List.Sublist.refl _ | apply List.Sublist.cons_cons | exact List.nil_sublist _ | apply List.Sublist.cons)), Nat.le_refl _⟩
      · rintro j ds L ⟨x7, rfl, hs, hl⟩
        exact at_sub hs (by repeat (first | exact At.lst | exact At.ro | exact At.sc | apply At.tl))
      · rintro j ds L k hj hd2 hlt2 ⟨x7, rfl, hs, hl⟩
        have et : [rk p false, rk p true].take (j + 1) = [rk p false, rk p true].take j ++ [k] := by
          rw [List.take_succ, hj]
          rfl
        have hlt2 : j < 2 := hlt2
        generalize hmm : (([rk p false, rk p true].take j).foldl inc m) = mm at hs hl
        refine ag_sub hs (ag_name (tr_dput (ea_op (ea_dget2N dN (ea_var rfl ⟨mn, dR k, _, rfl, dg_T' (f := dN) (d := mm) (k := k) (by repeat (first | exact List.mem_cons_self | apply List.mem_cons_of_mem)), ea_var rfl (ea_int ⟨_, 0, rfl, dg_T' (f := dN) (d := mm) (k := k) (by repeat (first | exact List.mem_cons_self | apply List.mem_cons_of_mem)), ea_int (rb_inc (ea_var rfl (ea_var rfl ⟨mn, _, rfl, dp_T (f := dN) (d := mm) (k := k) (v := (aget mm k).getD 0 + 1) (by repeat (first | exact Up.hd | apply Up.tl)) (by omega), ?_⟩)))⟩)⟩)))))
        have e2 : ([rk p false, rk p true].take (j + 1)).foldl inc m = aput mm k ((aget mm k).getD 0 + 1) := by
          rw [et, List.foldl_append, hmm]
          rfl
        refine ⟨_, rfl, ?_, ?_⟩
        · rw [e2]
          exact (by repeat (first | exact List.Sublist.refl _ | apply List.Sublist.cons_cons | exact List.nil_sublist _ | apply List.Sublist.cons))
        · rw [e2]
          have := aput_len k ((aget mm k).getD 0 + 1) mm
          omega
      · rintro ds L hd2 ⟨x7, rfl, hs, hl⟩
        exact ⟨_, _, _, _, _, inc (inc m (rk p false)) (rk p true), rfl, List.Sublist.trans (by repeat (first | exact List.Sublist.refl _ | apply List.Sublist.cons_cons | exact List.nil_sublist _ | apply List.Sublist.cons)) hs, ft, by have hl : (inc (inc m (rk p false)) (rk p true)).length ≤ m.length + 2 := hl; omega, e⟩
    · have e : fpGo ways (ps.drop (i + 1)) (t ++ [fpGood ways m p]) (if fpGood ways m p then inc (inc m (rk p false)) (rk p true) else m) = firstPart ps ways := e
      rw [if_neg (by rw [hg]; decide)] at e
      exact tr_next ⟨_, _, _, _, _, m, rfl, (by repeat (first | exact List.Sublist.refl _ | apply List.Sublist.cons_cons | exact List.nil_sublist _ | apply List.Sublist.cons)), ft, by omega, e⟩
  · rintro ds L hd ⟨x4, x5, x6, x7, t, m, rfl, hs, h1, h2, e⟩
    rw [hd] at e
    have e : t = firstPart ps ways := e
    refine tr_sub hs (tr_ret (ea_var rfl ?_))
    exact ⟨_, hp tk, rfl, by rw [← e]; exact (by repeat (first | exact List.Sublist.refl _ | apply List.Sublist.cons_cons | exact List.nil_sublist _ | apply List.Sublist.cons))⟩

def A_wr : List D → Fp → (D → Nw → Prop) → Prop := fun xs L P => ∃ (l t : Addr) (lk : List (Rk × List Nat)) (kvs : List (List Int × Addr × List D)) (taken : List Bool) (ways : Nat) (r : List (Rk × Unit)), xs = [.ref l, .ref t, dN ways] ∧ L = [(l, false, .dL kvs), (t, false, .ro (taken.map dB))] ∧ strip kvs = eL lk ∧
  lk.length ≤ 2000 ∧ (∀ k xs, aget lk k = some xs → xs.length ≤ 2000) ∧ withRoom lk taken ways = some r ∧ ∀ p, r.length ≤ 2000 → P (.ref p) [(p, .dT (eT dU r))]
theorem cntT_len {taken : List Bool} : ∀ {ls : List Nat} {c : Nat}, cntT taken ls = some c → (ls.filterMap fun p => if taken[p]? = some true then some p else none).length = c ∧ ∀ p ∈ ls, ∃ b, taken[p]? = some b
  | [], c, h => by
    have h : some 0 = some c := h
    cases h
    exact ⟨rfl, (fun _ z => nomatch z)⟩
  | p :: ls, c, h => by
    unfold cntT at h
    cases h1 : taken[p]? with
    | none => simp only [h1] at h; cases h
    | some b =>
    simp only [h1] at h
    cases h2 : cntT taken ls with
    | none => simp only [h2] at h; cases h
    | some n =>
    simp only [h2] at h
    obtain ⟨i1, i2⟩ := cntT_len h2
    refine ⟨?_, fun q hq => ?_⟩
    · rw [← Option.some.inj h, List.filterMap_cons, h1]
      cases b with
      | true => show (p :: _).length = n + 1; rw [List.length_cons, i1]
      | false => exact i1
    · rcases List.mem_cons.mp hq with e | hq
      · rw [e]; exact ⟨b, h1⟩
      · exact i2 q hq
theorem rd_with_room {K : PySem.W.Frag} : ∀ vs H Q E, SpP K A_wr vs H Q E → t_with_room K { nx := fun _ H' => Q .non H', rt := Q } (L2.start names_with_room vs) H := fun vs H Q E => spP_body fun H0 xs L P => by
  rintro ⟨l, t, lk, kvs, taken, ways, r, rfl, rfl, es, hz, hz2, hr, hp⟩
  unfold withRoom at hr
  have hks : (srt leR (lk.map (·.1))).length ≤ 2000 := by
    rw [(srt_perm leR _).length_eq, List.length_map]
    exact hz
  refine tr_seq (tr_set (ea_dnewT fun h => ?_))
  refine tr_seq (tr_forLq (srt leR (lk.map (·.1))) dR (ea_cb (el_cons (ea_var rfl (el_nil (rc_sortR (dk_L es (by repeat (first | exact List.mem_cons_self | apply List.mem_cons_of_mem))) fun q => ⟨q, fun i ds L => ∃ x4 x5 f, ds = [some (.ref l), some (.ref t), some (dN ways), some (.ref h), x4, x5] ∧
    [(l, false, O.dL kvs), (t, false, .ro (taken.map dB)), (h, true, .dT (eT dU f)), (q, true, .lst ((srt leR (lk.map (·.1))).map dR))].Sublist L ∧ f.length ≤ i ∧ wrGo lk taken ways ((srt leR (lk.map (·.1))).drop i) f = some r, rfl, (by repeat (first | exact At.lst | exact At.ro | exact At.sc | apply At.tl)), ?_, ?_, ?_, ?_⟩))))))
  · exact ⟨none, none, [], rfl, (by repeat (first | exact List.Sublist.refl _ | apply List.Sublist.cons_cons | exact List.nil_sublist _ | apply List.Sublist.cons)), Nat.zero_le _, hr⟩
  · rintro i ds L ⟨x4, x5, f, rfl, hs, hl, e⟩
    exact at_sub hs (by repeat (first | exact At.lst | exact At.ro | exact At.sc | apply At.tl))
  · rintro i ds L k hi hd hlt ⟨x4, x5, f, rfl, hs, hl, e⟩
    rw [hd] at e
    unfold wrGo at e
    cases hls : aget lk k with
    | none => simp only [hls] at e; cases e
    | some ls =>
    simp only [hls] at e
    cases hc : cntT taken ls with
    | none => simp only [hc] at e; cases e
    | some c =>
    simp only [hc] at e
    obtain ⟨c1, c2⟩ := cntT_len hc
    have hsz := hz2 k ls hls
    refine ag_sub hs (ag_name (tr_if (et_test (ea_op (ea_cb (el_cons (ea_lcF ls dN dN (fun p => if taken[p]? = some true then some p else none) (gw_name (by simp)) (ea_dgetL (ea_var rfl (ea_var rfl ⟨l, false, kvs, lk, k, ls, rfl, rfl, (by repeat (first | exact List.mem_cons_self | apply List.mem_cons_of_mem)), es, hls, fun b hb hat => ⟨b, rfl, hat, by omega, ?_, fun p => ?_⟩⟩))))))))))
    · rintro j x E hx
      obtain ⟨bb, hbb⟩ := c2 x (List.mem_of_getElem? hx)
      refine ag_name ⟨rfl, et_B (ea_op (ea_var rfl (ea_var rfl (rb_ixN (f := dB) (by repeat (first | exact At.lst | exact At.ro | exact At.sc | apply At.tl)) hbb ⟨bb, rfl, rfl, cndB (fun h => ?_) (fun h => ?_)⟩))))⟩
      · exact ea_var rfl ⟨rfl, x, rfl, by rw [if_pos (by rw [hbb, h])]⟩
      · rw [if_neg (by rw [hbb, h]; exact fun z => by cases z)]
    refine el_nil (rc_len (by repeat (first | exact At.lst | exact At.ro | exact At.sc | apply At.tl)) (ea_var rfl (rb_ltN ⟨_, rfl, ?_⟩)))
    rw [List.length_map, c1]
    refine cndD (fun h1 => ?_) (fun h1 => ?_)
    · rw [if_pos h1] at e
      refine tr_dput (ea_bl (ea_var rfl (ea_var rfl ⟨h, _, rfl, dp_T (f := dU) (d := f) (k := k) (v := ()) (by repeat (first | exact Up.hd | apply Up.tl)) (by omega), ?_⟩)))
      exact ⟨_, _, _, rfl, (by repeat (first | exact List.Sublist.refl _ | apply List.Sublist.cons_cons | exact List.nil_sublist _ | apply List.Sublist.cons)), Nat.le_trans (aput_len _ _ _) (by omega), e⟩
    · rw [if_neg h1] at e
      exact tr_next ⟨_, _, _, rfl, (by repeat (first | exact List.Sublist.refl _ | apply List.Sublist.cons_cons | exact List.nil_sublist _ | apply List.Sublist.cons)), by omega, e⟩
  · rintro ds L hd ⟨x4, x5, f, rfl, hs, hl, e⟩
    rw [hd] at e
    have e : some f = some r := e
    cases e
    refine tr_sub hs (tr_ret (ea_var rfl ?_))
    exact ⟨_, hp h (by omega), rfl, (by repeat (first | exact List.Sublist.refl _ | apply List.Sublist.cons_cons | exact List.nil_sublist _ | apply List.Sublist.cons))⟩
def A_to : List D → Addr → O → Fp → (D → O → Nw → Prop) → Prop := fun xs m o L P => ∃ (a c : Addr) (ps : List Pr) (came : List (Rk × Option Nat)) (taken r : List Bool) (last : Rk), xs = [.ref a, .ref m, .ref c, dR last] ∧ o = .lst (taken.map dB) ∧
  L = [(a, false, .ro (ps.map dP)), (c, false, .rT (eT dO came))] ∧ turnOver ps taken came last = some r ∧ P .non (.lst (r.map dB)) []
theorem rd_turn_over {K : PySem.W.Frag} : ∀ vs H Q E, SpM K A_to vs H Q E → t_turn_over K { nx := fun _ H' => Q .non H', rt := Q } (L2.start names_turn_over vs) H := fun vs H Q E => spM_body fun H0 xs m o L P => by
  rintro ⟨a, c, ps, came, taken, r, last, rfl, rfl, rfl, hr, hp⟩
  unfold turnOver at hr
  obtain ⟨v0, hv0⟩ : ∃ v, aget came last = some v := by
    unfold toGo at hr
    cases h : aget came last with
    | none => simp only [h] at hr; cases hr
    | some v => exact ⟨v, rfl⟩
  refine tr_seq (tr_set (ea_dgetN (ea_var rfl (ea_var rfl ⟨c, _, dO v0, rfl, dg_rT' (f := dO) (d := came) (k := last) (by repeat (first | exact List.mem_cons_self | apply List.mem_cons_of_mem)), by rw [hv0]; rfl, ?_⟩))))
  refine tr_while (fun mm ds L => ∃ taken last v, ds = [some (.ref a), some (.ref m), some (.ref c), some (dR last), some (dO v)] ∧ [(m, true, O.lst (taken.map dB)), (a, false, .ro (ps.map dP)), (c, false, .rT (eT dO came))].Sublist L ∧ aget came last = some v ∧ toGo ps came mm taken last = some r)
    (came.length + 1) ⟨taken, last, v0, rfl, (by repeat (first | exact List.Sublist.refl _ | apply List.Sublist.cons_cons | exact List.nil_sublist _ | apply List.Sublist.cons)), hv0, hr⟩ ?_
  rintro mm ds L ⟨taken, last, v, rfl, hs, hv, e⟩
  cases mm with
  | zero => cases e
  | succ mm =>
  unfold toGo at e
  rw [hv] at e
  refine et_sub hs (et_test (ea_op (ea_var rfl (ea_non (rb_notN ⟨_, rfl, ?_⟩)))))
  cases v with
  | none =>
    have e : some taken = some r := e
    cases e
    exact cndF ⟨_, [], hp, rfl, (by repeat (first | exact List.Sublist.refl _ | apply List.Sublist.cons_cons | exact List.nil_sublist _ | apply List.Sublist.cons))⟩
  | some pl =>
    cases h1 : taken[pl]? with
    | none => simp only [h1] at e; cases e
    | some t =>
    cases h2 : ps[pl]? with
    | none => simp only [h1, h2] at e; cases e
    | some p =>
    simp only [h1, h2] at e
    have hlt : pl < taken.length := (List.getElem?_eq_some_iff.mp h1).1
    refine cndT (tr_seq (tr_setN dB (ea_notV (ea_op (ea_var rfl (ea_var rfl (rb_ixN (f := dB) (by repeat (first | exact At.lst | exact At.ro | exact At.sc | apply At.tl)) h1 ⟨t, rfl, ea_var rfl (ea_var rfl ⟨m, taken, pl, !t, _, rfl, rfl, rfl, (by repeat (first | exact Up.hd | apply Up.tl)), hlt, ?_⟩)⟩)))))))
    refine tr_seq (tr_set (ea_tupR (el_cons (ea_op (ea_int (ea_op (ea_var rfl (ea_int (rb_t0 (rb_flip (el_cons (ea_op (ea_op (ea_var rfl (ea_var rfl (rb_ixN (f := dP) (by repeat (first | exact At.lst | exact At.ro | exact At.sc | apply At.tl)) h2 (ea_op (ea_int (ea_op (ea_var rfl (ea_int (rb_t0 (rb_flip (rb_sd (el_nil ⟨rk p !last.1, rfl, ?_⟩)))))))))))))))))))))))))
    obtain ⟨v1, hv1⟩ : ∃ v, aget came (rk p !last.1) = some v := by
      cases mm with
      | zero => cases e
      | succ mm =>
      unfold toGo at e
      cases h : aget came (rk p !last.1) with
      | none => simp only [h] at e; cases e
      | some v => exact ⟨v, rfl⟩
    refine tr_set (ea_dgetN (ea_var rfl (ea_var rfl ⟨c, _, dO v1, rfl, dg_rT' (f := dO) (d := came) (k := rk p !last.1) (by repeat (first | exact List.mem_cons_self | apply List.mem_cons_of_mem)), by rw [hv1]; rfl, ?_⟩)))
    exact ⟨mm, Nat.lt_succ_self _, _, _, v1, rfl, (by repeat (first | exact List.Sublist.refl _ | apply List.Sublist.cons_cons | exact List.nil_sublist _ | apply List.Sublist.cons)), hv1, e⟩

def A_lt : List D → Addr → O → Fp → (D → O → Nw → Prop) → Prop := fun xs m o L P => ∃ (a l t : Addr) (ps : List Pr) (lk : List (Rk × List Nat)) (kvs : List (List Int × Addr × List D)) (taken : List Bool) (ready : List (Rk × Unit)) (res : Option Rk) (came : List (Rk × Option Nat)),
  xs = [.ref a, .ref l, .ref t, .ref m] ∧ o = .dT (eT dU ready) ∧ L = [(a, false, .ro (ps.map dP)), (l, false, .dL kvs), (t, false, .ro (taken.map dB))] ∧ strip kvs = eL lk ∧ ready.length ≤ 2000 ∧ looked ps lk taken ready = some (res, came) ∧
  ∀ p, P (.tup [dRo res, .ref p]) (.dT (eT dU ready)) [(p, .dT (eT dO came))]
theorem rd_looked_through {K : PySem.W.Frag} : ∀ vs H Q E, SpM K A_lt vs H Q E → t_looked_through K { nx := fun _ H' => Q .non H', rt := Q } (L2.start names_looked_through vs) H := fun vs H Q E => spM_body fun H0 xs m o L P => by
  rintro ⟨a, l, t, ps, lk, kvs, taken, ready, res, came0, rfl, rfl, rfl, es, hz, hr, hp⟩
  unfold looked at hr
  generalize hZ : ltStart ready [] [] = Z at hr
  refine tr_seq (tr_set (ea_dnewT fun c => ?_))
  refine tr_seq (tr_set (ea_lst (el_nil ⟨by show 0 ≤ 1000; decide, fun td => ?_⟩)))
  refine tr_seq (tr_forD (a := m) (kvs := eT dU ready) ⟨3, rfl, rfl⟩ fun od ws => ⟨_, (by repeat (first | exact Up.hd | apply Up.tl)), fun i ds L => ∃ x6 x7 x8 x9 x10 came todo, ds = [some (.ref a), some (.ref l), some (.ref t), some (.ref m), some (.ref c), some (.ref td), x6, x7, x8, x9, x10] ∧
    [(m, true, O.fT (eT dU ready) od ws), (a, false, .ro (ps.map dP)), (l, false, .dL kvs), (t, false, .ro (taken.map dB)), (c, true, .dT (eT dO came)), (td, true, .lst (todo.map dR))].Sublist L ∧ came.length ≤ i ∧ todo.length ≤ i ∧ ltStart (ready.drop i) came todo = Z, ?_, ?_, ?_, ?_⟩)
  · exact ⟨_, _, _, _, _, [], [], rfl, (by repeat (first | exact List.Sublist.refl _ | apply List.Sublist.cons_cons | exact List.nil_sublist _ | apply List.Sublist.cons)), Nat.zero_le _, Nat.zero_le _, hZ⟩
  · rintro i ds L hi ⟨x6, x7, x8, x9, x10, came, todo, rfl, hs, h1, h2, e⟩
    exact hs.subset (by repeat (first | exact List.mem_cons_self | apply List.mem_cons_of_mem))
  · rintro i ds L q hq ⟨x6, x7, x8, x9, x10, came, todo, rfl, hs, h1, h2, e⟩
    obtain ⟨k, v, h3, rfl⟩ := eT_at hq
    have hi : i < ready.length := (List.getElem?_eq_some_iff.mp h3).1
    rw [drop_at h3] at e
    unfold ltStart at e
    refine ag_sub hs (ag_name ?_)
    show Tr K H0 [m] _ [some (.ref a), some (.ref l), some (.ref t), some (.ref m), some (.ref c), some (.ref td), some (dR k), x7, x8, x9, x10] _ _
    refine tr_if (et_test (ea_op (ea_op (ea_var rfl (ea_int (rb_t0 (ea_int (rb_eqS (a := k.1) (b := false) ⟨_, rfl, cndD (fun h4 => ?_) (fun h4 => ?_)⟩))))))))
    · rw [if_pos h4] at e
      refine tr_seq (tr_dput (ea_non (ea_var rfl (ea_var rfl ⟨c, _, rfl, dp_T (f := dO) (d := came) (k := k) (v := none) (by repeat (first | exact Up.hd | apply Up.tl)) (by omega), ?_⟩))))
      refine tr_drop (ea_bmL (ea_var rfl ⟨td, _, rfl, (by repeat (first | exact At.lst | exact At.ro | exact At.sc | apply At.tl)), el_cons (ea_var rfl (el_nil (rm_appendN (f := dR) k (by repeat (first | exact Up.hd | apply Up.tl)) (by omega) ?_)))⟩))
      exact ⟨_, _, _, _, _, _, _, rfl, (by repeat (first | exact List.Sublist.refl _ | apply List.Sublist.cons_cons | exact List.nil_sublist _ | apply List.Sublist.cons)), Nat.le_trans (aput_len _ _ _) (by omega), by rw [List.length_append]; show todo.length + 1 ≤ _; omega, e⟩
    · rw [if_neg h4] at e
      exact tr_next ⟨_, _, _, _, _, _, _, rfl, (by repeat (first | exact List.Sublist.refl _ | apply List.Sublist.cons_cons | exact List.nil_sublist _ | apply List.Sublist.cons)), by omega, by omega, e⟩
  rintro ds L ⟨x6, x7, x8, x9, x10, came1, todo1, rfl, hs, h1, h2, e0⟩
  rw [List.length_map, List.drop_length] at e0
  have e0 : (came1, todo1) = Z := e0
  rw [← e0] at hr
  obtain ⟨L3, hu, hs3⟩ := up_sub (a := m) (o := .fT (eT dU ready) od ws) (o' := .dT (eT dU ready)) hs (by repeat (first | exact Up.hd | apply Up.tl))
  refine ⟨L3, hu, tr_sub hs3 ?_⟩
  clear hu hs3 hs e0 h1 h2
  refine tr_seq (tr_set (ea_int ?_))
  refine tr_seq (tr_while (fun mm ds L => ∃ x6 x8 x9 x10 at' came todo, ds = [some (.ref a), some (.ref l), some (.ref t), some (.ref m), some (.ref c), some (.ref td), x6, some (dN at'), x8, x9, x10] ∧
    [(m, true, O.dT (eT dU ready)), (a, false, .ro (ps.map dP)), (l, false, .dL kvs), (t, false, .ro (taken.map dB)), (c, true, .dT (eT dO came)), (td, true, .lst (todo.map dR))].Sublist L ∧ ltGo ps lk taken ready mm at' came todo = some (res, came0))
    (2 * ps.length + 2) ⟨_, _, _, _, 0, came1, todo1, rfl, (by repeat (first | exact List.Sublist.refl _ | apply List.Sublist.cons_cons | exact List.nil_sublist _ | apply List.Sublist.cons)), hr⟩ ?_)
  rintro mm ds L ⟨x6, x8, x9, x10, at', came, todo, rfl, hs, e⟩
  cases mm with
  | zero => cases e
  | succ mm =>
  unfold ltGo at e
  refine et_sub hs (et_test (ea_op (ea_var rfl (ea_cb (el_cons (ea_var rfl (el_nil (rc_len (by repeat (first | exact At.lst | exact At.ro | exact At.sc | apply At.tl)) (rb_ltN ⟨_, rfl, cndD (fun hlt => ?_) (fun hlt => ?_)⟩)))))))))
  case refine_2 =>
    rw [List.getElem?_eq_none (by rw [List.length_map] at hlt; omega)] at e
    have e : some (none, came) = some (res, came0) := e
    cases e
    refine tr_ret (ea_tup (el_cons (ea_non (el_cons (ea_var rfl (el_nil ⟨by show 2 ≤ 1000; decide, ?_⟩))))))
    exact ⟨_, _, hp c, rfl, (by repeat (first | exact List.Sublist.refl _ | apply List.Sublist.cons_cons | exact List.nil_sublist _ | apply List.Sublist.cons))⟩
  rw [List.length_map] at hlt
  have hk : todo[at']? = some todo[at'] := List.getElem?_eq_getElem hlt
  generalize todo[at'] = k at hk
  rw [hk] at e
  cases hls : aget lk k with
  | none => simp only [hls] at e; cases e
  | some ls =>
  simp only [hls] at e
  refine tr_seq (tr_set (ea_op (ea_op (ea_var rfl (ea_var rfl (rb_ixN (f := dR) (by repeat (first | exact At.lst | exact At.ro | exact At.sc | apply At.tl)) hk (ea_int (rb_t0 ?_))))))))
  refine tr_seq (tr_forL ls dN (fun i ds L => ∃ x6 x9 x10 came todo, ds = [some (.ref a), some (.ref l), some (.ref t), some (.ref m), some (.ref c), some (.ref td), x6, some (dN at'), some (.int (bi k.1)), x9, x10] ∧
    [(m, true, O.dT (eT dU ready)), (a, false, .ro (ps.map dP)), (l, false, .dL kvs), (t, false, .ro (taken.map dB)), (c, true, .dT (eT dO came)), (td, true, .lst (todo.map dR))].Sublist L ∧
    after (fun c t => ltGo ps lk taken ready mm (at' + 1) c t) (ltIn ps taken ready k.1 (ls.drop i) came todo) = some (res, came0))
    (ea_dgetL (ea_var rfl (ea_op (ea_var rfl (ea_var rfl (rb_ixN (f := dR) (by repeat (first | exact At.lst | exact At.ro | exact At.sc | apply At.tl)) hk ⟨l, false, kvs, lk, k, ls, rfl, rfl, (by repeat (first | exact List.mem_cons_self | apply List.mem_cons_of_mem)), es, hls, fun b hb hat => ⟨b, rfl, hat, ?_, ?_, ?_, ?_⟩⟩)))))))
  · exact ⟨_, _, _, _, _, rfl, (by repeat (first | exact List.Sublist.refl _ | apply List.Sublist.cons_cons | exact List.nil_sublist _ | apply List.Sublist.cons)), e⟩
  · rintro i ds L ⟨x6, x9, x10, came, todo, rfl, hs, e⟩
    exact at_sub hs (.tl (.tl (.dl hb)))
  · clear e hs hk hlt
    rintro i ds L pl hi hd hlt ⟨x6, x9, x10, came, todo, rfl, hs, e⟩
    rw [hd] at e
    unfold ltIn at e
    cases h2 : ps[pl]? with
    | none => simp only [h2] at e; cases e
    | some p =>
    cases h3 : taken[pl]? with
    | none => simp only [h2, h3] at e; cases e
    | some tt =>
    simp only [h2, h3] at e
    refine ag_sub hs (ag_name ?_)
    refine tr_seq (tr_set (ea_tupR (el_cons (ea_op (ea_int (ea_var rfl (rb_flip (el_cons (ea_op (ea_op (ea_var rfl (ea_var rfl (rb_ixN (f := dP) (by repeat (first | exact At.lst | exact At.ro | exact At.sc | apply At.tl)) h2 (ea_op (ea_int (ea_var rfl (rb_flip (rb_sd (el_nil ⟨rk p !k.1, rfl, ?_⟩)))))))))))))))))))
    have hb1 : (tt == decide (k.1 = true)) = decide (tt = k.1) := by cases tt <;> cases k.1 <;> rfl
    refine tr_if (et_and (et_test (ea_op (ea_op (ea_var rfl (ea_var rfl (rb_ixN (f := dB) (by repeat (first | exact At.lst | exact At.ro | exact At.sc | apply At.tl)) h3 (ea_op (ea_var rfl (ea_int (rb_eqS (a := k.1) (b := true) (rb_eqB ⟨_, rfl, ?_⟩))))))))))))
    rw [hb1]
    refine cndD (fun hc1 => ?_) (fun hc1 => ?_)
    case refine_2 =>
      rw [if_neg (fun z => hc1 z.1)] at e
      exact cndF (tr_next ⟨_, _, _, _, _, rfl, (by repeat (first | exact List.Sublist.refl _ | apply List.Sublist.cons_cons | exact List.nil_sublist _ | apply List.Sublist.cons)), e⟩)
    refine et_B (ea_dnin (ea_var rfl (ea_var rfl ⟨c, _, rfl, dg_T' (f := dO) (d := came) (k := rk p !k.1) (by repeat (first | exact List.mem_cons_self | apply List.mem_cons_of_mem)), _, rfl, cndGn (fun hc => ?_) (fun x hc => ?_)⟩)))
    case refine_2 =>
      rw [if_neg (fun z => by rw [z.2] at hc; cases hc)] at e
      exact tr_next ⟨_, _, _, _, _, rfl, (by repeat (first | exact List.Sublist.refl _ | apply List.Sublist.cons_cons | exact List.nil_sublist _ | apply List.Sublist.cons)), e⟩
    rw [if_pos ⟨hc1, hc⟩] at e
    by_cases hl : came.length < 1000 ∧ todo.length < 1000
    case neg => rw [if_pos hl] at e; cases e
    rw [if_neg (fun z => z hl)] at e
    refine tr_seq (tr_dput (ea_var rfl (ea_var rfl (ea_var rfl ⟨c, _, rfl, dp_T (f := dO) (d := came) (k := rk p !k.1) (v := some pl) (by repeat (first | exact Up.hd | apply Up.tl)) (by omega), ?_⟩))))
    refine tr_seq (tr_if (et_and (et_test (ea_op (ea_var rfl (ea_int (rb_eqS (a := k.1) (b := false) ⟨_, rfl, cndD (fun h5 => et_B (ea_din (ea_var rfl (ea_var rfl ⟨m, _, rfl, dg_T' (f := dU) (d := ready) (k := rk p !k.1) (by repeat (first | exact List.mem_cons_self | apply List.mem_cons_of_mem)), _, rfl, cndG (fun u hu => ?_) (fun hu => ?_)⟩)))) (fun h5 => ?_)⟩)))))))
    · rw [if_pos ⟨h5, hu⟩] at e
      have e : some (some (rk p !k.1), aput came (rk p !k.1) (some pl)) = some (res, came0) := e
      cases e
      refine tr_ret (ea_tup (el_cons (ea_var rfl (el_cons (ea_var rfl (el_nil ⟨by show 2 ≤ 1000; decide, ?_⟩))))))
      exact ⟨_, _, hp c, rfl, (by repeat (first | exact List.Sublist.refl _ | apply List.Sublist.cons_cons | exact List.nil_sublist _ | apply List.Sublist.cons))⟩
    · rw [if_neg (fun z => by rw [z.2] at hu; cases hu)] at e
      refine tr_next (tr_drop (ea_bmL (ea_var rfl ⟨td, _, rfl, (by repeat (first | exact At.lst | exact At.ro | exact At.sc | apply At.tl)), el_cons (ea_var rfl (el_nil (rm_appendN (f := dR) (rk p !k.1) (by repeat (first | exact Up.hd | apply Up.tl)) (by omega) ?_)))⟩)))
      exact ⟨_, _, _, _, _, rfl, (by repeat (first | exact List.Sublist.refl _ | apply List.Sublist.cons_cons | exact List.nil_sublist _ | apply List.Sublist.cons)), e⟩
    · rw [if_neg (fun z => h5 z.1)] at e
      refine cndF (tr_next (tr_drop (ea_bmL (ea_var rfl ⟨td, _, rfl, (by repeat (first | exact At.lst | exact At.ro | exact At.sc | apply At.tl)), el_cons (ea_var rfl (el_nil (rm_appendN (f := dR) (rk p !k.1) (by repeat (first | exact Up.hd | apply Up.tl)) (by omega) ?_)))⟩))))
      exact ⟨_, _, _, _, _, rfl, (by repeat (first | exact List.Sublist.refl _ | apply List.Sublist.cons_cons | exact List.nil_sublist _ | apply List.Sublist.cons)), e⟩
  · rintro ds L hd ⟨x6, x9, x10, came, todo, rfl, hs, e⟩
    rw [hd] at e
    refine tr_sub hs (tr_set (ea_op (ea_var rfl (ea_int (rb_inc ?_)))))
    exact ⟨mm, Nat.lt_succ_self _, _, _, _, _, _, _, _, rfl, (by repeat (first | exact List.Sublist.refl _ | apply List.Sublist.cons_cons | exact List.nil_sublist _ | apply List.Sublist.cons)), e⟩

def A_gr : List D → Fp → (D → Nw → Prop) → Prop := fun xs L P => ∃ (a : Addr) (ps : List Pr) (ways : Nat) (pl is os : List Nat), xs = [.ref a, dN ways] ∧ L = [(a, false, .ro (ps.map dP))] ∧ ps.length ≤ 400 ∧ greatest ps ways = some (pl, is, os) ∧
  ∀ p1 p2 p3, P (.tup [.ref p1, .tup [.ref p2, .ref p3]]) [(p2, .lst (is.map dN)), (p3, .lst (os.map dN)), (p1, .lst (pl.map dN))]
theorem rd_greatest {K : PySem.W.Frag} : ∀ vs H Q E, SpP K A_gr vs H Q E → t_greatest K (SpP K A_links) (SpP K A_fp) (SpP K A_wr) (SpM K A_lt) (SpM K A_to) { nx := fun _ H' => Q .non H', rt := Q } (L2.start names_greatest vs) H := fun vs H Q E => spP_body fun H0 xs L P => by
  rintro ⟨a, ps, ways, pl, is, os, rfl, rfl, hz, hr, hp⟩
  unfold greatest at hr
  cases hg : grGo ps ways with
  | none => simp only [hg] at hr; cases hr
  | some res =>
  obtain ⟨tk, cm⟩ := res
  simp only [hg] at hr
  by_cases hlen : tk.length = ps.length
  case neg => rw [if_neg hlen] at hr; cases hr
  rw [if_pos hlen] at hr
  have e1 : trues tk = pl := congrArg (·.1) (Option.some.inj hr)
  have e2 : racksIn ps cm = is := congrArg (·.2.1) (Option.some.inj hr)
  have e3 : racksOut ps cm = os := congrArg (·.2.2) (Option.some.inj hr)
  unfold grGo at hg
  cases hl : look ps ways (firstPart ps ways) with
  | none => simp only [hl] at hg; cases hg
  | some lc =>
  obtain ⟨last0, came0⟩ := lc
  simp only [hl] at hg
  have hll := links_len ps
  have hls := links_small ps
  refine tr_seq (tr_set (ea_callP (dd := []) (fun _ => rfl) (el_cons (ea_var rfl (el_nil ⟨[(a, false, .ro (ps.map dP))], fun d N => ∃ p kvs, d = .ref p ∧ strip kvs = eL (links ps) ∧ N = [(p, .dL kvs)], (by repeat (first | exact Sb.nil | refine Sb.keep (by first | exact Wk.rfl | exact Wk.ro | exact Wk.rT | exact Wk.rF) ?_ | apply Sb.skip)), ⟨a, ps, rfl, rfl, by omega, fun p kvs e => ⟨p, kvs, rfl, e, rfl⟩⟩, ?_⟩)))))
  rintro d N ⟨l, kvs, rfl, es, rfl⟩
  refine tr_seq (tr_set (ea_callP (dd := []) (fun _ => rfl) (el_cons (ea_var rfl (el_cons (ea_var rfl (el_nil ⟨[(a, false, .ro (ps.map dP))], fun d N => ∃ p, d = .ref p ∧ N = [(p, .lst ((firstPart ps ways).map dB))], (by repeat (first | exact Sb.nil | refine Sb.keep (by first | exact Wk.rfl | exact Wk.ro | exact Wk.rT | exact Wk.rF) ?_ | apply Sb.skip)), ⟨a, ps, ways, rfl, rfl, by omega, fun p => ⟨p, rfl, rfl⟩⟩, ?_⟩)))))))
  rintro d N ⟨t, rfl, rfl⟩
  have lookStep : ∀ (taken : List Bool) (last : Option Rk) (came : List (Rk × Option Nat)) (x4 x5 x6 x7 x8 x9 : Option D) (L : Fp) (kk : Kt), look ps ways taken = some (last, came) → [(a, false, O.ro (ps.map dP)), (l, true, .dL kvs), (t, true, .lst (taken.map dB))].Sublist L →
      (∀ c L', [(a, false, O.ro (ps.map dP)), (l, true, .dL kvs), (t, true, .lst (taken.map dB)), (c, true, .dT (eT dO came))].Sublist L' → kk.nx [some (.ref a), some (dN ways), some (.ref l), some (.ref t), x4, x5, some (dRo last), some (.ref c), x8, x9] L') →
      Tr K H0 [] (tAsg (tCall (SpM K A_lt) [] E0 (tCons (tVar 0) (tCons (tVar 2) (tCons (tVar 3) (tCons (tCall (SpP K A_wr) [] E0 (tCons (tVar 2) (tCons (tVar 3) (tCons (tVar 1) tNil)))) tNil))))) (gTup K 2 (gCons (gName 6) (gCons (gName 7) gNil))))
        [some (.ref a), some (dN ways), some (.ref l), some (.ref t), x4, x5, x6, x7, x8, x9] L kk := fun taken last came x4 x5 x6 x7 x8 x9 L kk hlk hs hk => by
    unfold look at hlk
    cases hw : withRoom (links ps) taken ways with
    | none => simp only [hw] at hlk; cases hlk
    | some ready =>
    simp only [hw] at hlk
    refine tr_sub hs (tr_asg (ea_callM (dd := []) (fun _ => rfl) (el_cons (ea_var rfl (el_cons (ea_var rfl (el_cons (ea_var rfl (el_cons (ea_callP (dd := []) (fun _ => rfl) (el_cons (ea_var rfl (el_cons (ea_var rfl (el_cons (ea_var rfl (el_nil ⟨[(l, false, .dL kvs), (t, false, .ro (taken.map dB))], fun d N => ∃ p, d = .ref p ∧ ready.length ≤ 2000 ∧ N = [(p, .dT (eT dU ready))], (by repeat (first | exact Sb.nil | refine Sb.keep (by first | exact Wk.rfl | exact Wk.ro | exact Wk.rT | exact Wk.rF) ?_ | apply Sb.skip)),
      ⟨l, t, links ps, kvs, taken, ways, ready, rfl, rfl, es, by omega, fun k xs h => by have := hls k xs h; omega, hw, fun p h => ⟨p, rfl, h, rfl⟩⟩, ?_⟩)))))))))))))))))
    rintro d N ⟨w, rfl, hrl, rfl⟩
    refine el_nil ⟨w, .dT (eT dU ready), [(a, false, .ro (ps.map dP)), (l, false, .dL kvs), (t, false, .ro (taken.map dB))], fun d o' N => ∃ p, d = .tup [dRo last, .ref p] ∧ o' = .dT (eT dU ready) ∧ N = [(p, .dT (eT dO came))], (by repeat (first | refine Sm.here (by repeat (first | exact Sb.nil | refine Sb.keep (by first | exact Wk.rfl | exact Wk.ro | exact Wk.rT | exact Wk.rF) ?_ | apply Sb.skip)) (by repeat (first | exact hc_nil | refine hc_cons ?_ rfl)) | refine Sm.keep (by first | exact Wk.rfl | exact Wk.ro | exact Wk.rT | exact Wk.rF) rfl ?_ | apply Sm.skip)), ⟨rfl, rfl⟩,
      ⟨a, l, t, ps, links ps, kvs, taken, ready, last, came, rfl, rfl, rfl, es, hrl, hlk, fun p => ⟨p, rfl, rfl, rfl⟩⟩, ?_⟩
    rintro d o' N ⟨c, rfl, rfl, rfl⟩
    exact ⟨⟨rfl, rfl⟩, _, (by repeat (first | exact Up.hd | apply Up.tl)), ag_tup rfl (ags_cons (ag_name (ags_cons (ag_name (ags_nil (hk c _ (by repeat (first | exact List.Sublist.refl _ | apply List.Sublist.cons_cons | exact List.nil_sublist _ | apply List.Sublist.cons))))))))⟩
  refine tr_seq (lookStep _ _ _ _ _ _ _ _ _ _ _ hl (by repeat (first | exact List.Sublist.refl _ | apply List.Sublist.cons_cons | exact List.nil_sublist _ | apply List.Sublist.cons)) fun c0 L' hs => ?_)
  refine tr_sub hs ?_
  clear hs
  refine tr_seq (tr_while (fun mm ds L => ∃ x4 x5 x8 x9 taken last came c, ds = [some (.ref a), some (dN ways), some (.ref l), some (.ref t), x4, x5, some (dRo last), some (.ref c), x8, x9] ∧
    [(a, false, O.ro (ps.map dP)), (l, true, .dL kvs), (t, true, .lst (taken.map dB)), (c, true, .dT (eT dO came))].Sublist L ∧ grRest ps ways mm taken last came = some (tk, cm)) (ps.length + 2) ⟨_, _, _, _, _, _, _, c0, rfl, (by repeat (first | exact List.Sublist.refl _ | apply List.Sublist.cons_cons | exact List.nil_sublist _ | apply List.Sublist.cons)), hg⟩ ?_)
  rintro mm ds L ⟨x4, x5, x8, x9, taken, last, came, c, rfl, hs, e⟩
  refine et_sub hs (et_test (ea_op (ea_var rfl (ea_non (rb_notN ⟨_, rfl, ?_⟩)))))
  cases last with
  | some lst =>
    cases mm with
    | zero => cases e
    | succ mm =>
    unfold grRest at e
    cases ht : turnOver ps taken came lst with
    | none => simp only [ht] at e; cases e
    | some tk' =>
    cases hk : look ps ways tk' with
    | none => simp only [ht, hk] at e; cases e
    | some lc =>
    obtain ⟨last', came'⟩ := lc
    simp only [ht, hk] at e
    refine cndT (tr_seq (tr_drop (ea_callM (dd := []) (fun _ => rfl) (el_cons (ea_var rfl (el_cons (ea_var rfl (el_cons (ea_var rfl (el_cons (ea_var rfl (el_nil ⟨t, .lst (taken.map dB), [(a, false, .ro (ps.map dP)), (c, false, .rT (eT dO came))], fun d o' N => d = .non ∧ o' = .lst (tk'.map dB) ∧ N = [], (by repeat (first | refine Sm.here (by repeat (first | exact Sb.nil | refine Sb.keep (by first | exact Wk.rfl | exact Wk.ro | exact Wk.rT | exact Wk.rF) ?_ | apply Sb.skip)) (by repeat (first | exact hc_nil | refine hc_cons ?_ rfl)) | refine Sm.keep (by first | exact Wk.rfl | exact Wk.ro | exact Wk.rT | exact Wk.rF) rfl ?_ | apply Sm.skip)), ⟨rfl, rfl⟩,
      ⟨a, c, ps, came, taken, tk', lst, rfl, rfl, rfl, ht, rfl, rfl, rfl⟩, ?_⟩))))))))))))
    rintro d o' N ⟨rfl, rfl, rfl⟩
    refine ⟨⟨rfl, rfl⟩, _, (by repeat (first | exact Up.hd | apply Up.tl)), lookStep tk' last' came' _ _ _ _ _ _ _ _ hk (by repeat (first | exact List.Sublist.refl _ | apply List.Sublist.cons_cons | exact List.nil_sublist _ | apply List.Sublist.cons)) fun c' L' hs' => ?_⟩
    exact ⟨mm, Nat.lt_succ_self _, _, _, _, _, _, _, _, c', rfl, hs', e⟩
  | none =>
    have e : some (taken, came) = some (tk, cm) := by
      cases mm with
      | zero => exact e
      | succ mm => exact e
    cases e
    have hks : (srt leR ((links ps).map (·.1))).length ≤ 800 := by
      rw [(srt_perm leR _).length_eq, List.length_map]
      omega
    refine cndF ?_
    refine tr_seq (tr_set (ea_lcF (srt leR ((links ps).map (·.1))) dR dN (fun k => if k.1 = false ∧ aget cm k = none then some k.2 else none) (gw_name (by simp)) (ea_cb (el_cons (ea_var rfl (el_nil (rc_sortR (dk_L es (by repeat (first | exact List.mem_cons_self | apply List.mem_cons_of_mem))) fun q => ⟨q, rfl, (by repeat (first | exact At.lst | exact At.ro | exact At.sc | apply At.tl)), by omega, ?_, fun r => ?_⟩)))))))
    · rintro j k E hj
      refine ag_name ⟨rfl, et_and (et_test (ea_op (ea_op (ea_var rfl (ea_int (rb_t0 (ea_int (rb_eqS (a := k.1) (b := false) ⟨_, rfl, cndD (fun h1 => et_B (ea_dnin (ea_var rfl (ea_var rfl ⟨c, _, rfl, dg_T' (f := dO) (d := cm) (k := k) (by repeat (first | exact List.mem_cons_self | apply List.mem_cons_of_mem)), _, rfl, rfl, cndGn (fun h2 => ?_) (fun x h2 => ?_)⟩)))) (fun h1 => ?_)⟩))))))))⟩
      · exact ea_op (ea_var rfl (ea_int (rb_t1 ⟨rfl, k.2, rfl, by rw [if_pos ⟨h1, h2⟩]⟩)))
      · rw [if_neg (fun z => by rw [z.2] at h2; cases h2)]
      · exact ⟨rfl, cndF (by rw [if_neg (fun z => h1 z.1)])⟩
    refine tr_seq (tr_set (ea_lcF (srt leR ((links ps).map (·.1))) dR dN (fun k => if k.1 = true ∧ aget cm k ≠ none then some k.2 else none) (gw_name (by simp)) (ea_cb (el_cons (ea_var rfl (el_nil (rc_sortR (dk_L es (by repeat (first | exact List.mem_cons_self | apply List.mem_cons_of_mem))) fun q2 => ⟨q2, rfl, (by repeat (first | exact At.lst | exact At.ro | exact At.sc | apply At.tl)), by omega, ?_, fun r2 => ?_⟩)))))))
    · rintro j k E hj
      refine ag_name ⟨rfl, et_and (et_test (ea_op (ea_op (ea_var rfl (ea_int (rb_t0 (ea_int (rb_eqS (a := k.1) (b := true) ⟨_, rfl, cndD (fun h1 => et_B (ea_din (ea_var rfl (ea_var rfl ⟨c, _, rfl, dg_T' (f := dO) (d := cm) (k := k) (by repeat (first | exact List.mem_cons_self | apply List.mem_cons_of_mem)), _, rfl, rfl, cndG (fun x h2 => ?_) (fun h2 => ?_)⟩)))) (fun h1 => ?_)⟩))))))))⟩
      · exact ea_op (ea_var rfl (ea_int (rb_t1 ⟨rfl, k.2, rfl, by rw [if_pos ⟨h1, by rw [h2]; exact fun z => by cases z⟩]⟩)))
      · rw [if_neg (fun z => z.2 h2)]
      · exact ⟨rfl, cndF (by rw [if_neg (fun z => h1 z.1)])⟩
    refine tr_ret (ea_tup (el_cons (ea_lcR dN (fun i => if tk[i]? = some true then some i else none) (gw_name (by simp)) (el_cons (ea_cb (el_cons (ea_var rfl (el_nil (rc_len (by repeat (first | exact At.lst | exact At.ro | exact At.sc | apply At.tl)) (el_nil ⟨ps.length, by rw [List.length_map], by omega, ?_, fun p1 => el_cons (ea_tup (el_cons (ea_var rfl (el_cons (ea_var rfl (el_nil ⟨by show 2 ≤ 1000; decide, el_nil ⟨by show 2 ≤ 1000; decide, ?_⟩⟩))))))⟩))))))))))
    · rintro i E hi
      have hb : tk[i]? = some tk[i] := List.getElem?_eq_getElem (by omega)
      generalize tk[i] = b at hb
      refine ag_name ⟨rfl, et_B (ea_op (ea_var rfl (ea_var rfl (rb_ixN (f := dB) (by repeat (first | exact At.lst | exact At.ro | exact At.sc | apply At.tl)) hb ⟨b, rfl, rfl, cndB (fun h => ?_) (fun h => ?_)⟩))))⟩
      · exact ea_var rfl ⟨rfl, i, rfl, by rw [if_pos (by rw [hb, h])]⟩
      · rw [if_neg (by rw [hb, h]; exact fun z => by cases z)]
    · rw [← e1, ← e2, ← e3] at hp
      unfold trues racksIn racksOut at hp
      rw [hlen] at hp
      exact ⟨_, hp p1 r r2, rfl, (by repeat (first | exact List.Sublist.refl _ | apply List.Sublist.cons_cons | exact List.nil_sublist _ | apply List.Sublist.cons))⟩
end XR
-- KRead3
set_option Elab.async false
set_option linter.all false
set_option maxRecDepth 100000
set_option maxHeartbeats 1000000
/-! the readings of the text's defs: number_off, ask_room, parted -/
namespace XR
open PySem PySem.Spec PyProof.Rows L2 XM
def A_num (f : Nat) : List D → Addr → O → Fp → (D → O → Nw → Prop) → Prop := fun xs m o L P => ∃ (a b : Addr) (ps : List Pr) (places found r : List Nat) (start : Nat), xs = [.ref a, .ref b, dN start, .ref m] ∧ o = .lst (found.map dN) ∧
  L = [(a, false, .ro (ps.map dP)), (b, false, .ro (places.map dN))] ∧ places.length ≤ 1000 ∧ numGo ps f places start found = some r ∧ P .non (.lst (r.map dN)) []
theorem pick_fm {α : Type} {ps : List α} : ∀ {l : List Nat} {xs : List α}, pick ps l = some xs → l.filterMap (fun p => ps[p]?) = xs ∧ (∀ p ∈ l, ∃ x, ps[p]? = some x) ∧ xs.length = l.length
  | [], xs, h => by
    have h : some [] = some xs := h
    rw [← Option.some.inj h]
    exact ⟨rfl, (fun _ z => nomatch z), rfl⟩
  | p :: l, xs, h => by
    unfold pick at h
    cases h1 : ps[p]? with
    | none => simp only [h1] at h; cases h
    | some x =>
    simp only [h1] at h
    cases h2 : pick ps l with
    | none => simp only [h2] at h; cases h
    | some ys =>
    simp only [h2] at h
    obtain ⟨i1, i2, i3⟩ := pick_fm h2
    rw [← Option.some.inj h]
    refine ⟨by rw [List.filterMap_cons, h1, i1], fun q hq => ?_, by rw [List.length_cons, List.length_cons, i3]⟩
    rcases List.mem_cons.mp hq with e | hq
    · rw [e]; exact ⟨x, h1⟩
    · exact i2 q hq
theorem allSome_eq : ∀ {l : List (Option Bool)} {bs : List Bool}, allSome l = some bs → l = bs.map some
  | [], bs, h => by
    have h : some [] = some bs := h
    rw [← Option.some.inj h]
    rfl
  | none :: l, bs, h => by cases h
  | some b :: l, bs, h => by
    unfold allSome at h
    cases h1 : allSome l with
    | none => simp only [h1] at h; cases h
    | some cs =>
    simp only [h1] at h
    rw [← Option.some.inj h, List.map_cons, allSome_eq h1]
abbrev dI (b : Bool) : D := .int (bi b)
theorem part_len (places : List Nat) (bs : List Bool) (b : Bool) : (XM.part places bs b).length ≤ places.length := by
  unfold XM.part
  refine Nat.le_trans (List.length_filterMap_le _ _) ?_
  rw [List.length_zip]
  exact Nat.min_le_left _ _
theorem left_len (places chosen : List Nat) : (XM.left places chosen).length ≤ places.length := by
  unfold XM.left
  refine Nat.le_trans (List.length_filterMap_le _ _) ?_
  rw [List.length_range]
  exact Nat.le_refl _
theorem rd_number_off {K : PySem.W.Frag} (f : Nat) : ∀ vs H Q E, SpM K (A_num (f + 1)) vs H Q E → t_number_off K (SpP K A_gw) (SpP K A_halves) (SpM K (A_num f)) (SpP K A_touching) { nx := fun _ H' => Q .non H', rt := Q } (L2.start names_number_off vs) H := fun vs H Q E => spM_body fun H0 xs m o L P => by
  rintro ⟨a, b, ps, places, found, r, start, rfl, rfl, rfl, hz, hr, hp⟩
  unfold numGo at hr
  cases hk : pick ps places with
  | none => simp only [hk] at hr; cases hr
  | some some' =>
  simp only [hk] at hr
  obtain ⟨k1, k2, k3⟩ := pick_fm hk
  refine tr_seq (tr_set (ea_lcF places dN dP (fun p => ps[p]?) (gw_name (by simp)) (ea_var rfl ⟨b, rfl, (by repeat (first | exact At.lst | exact At.ro | exact At.sc | apply At.tl)), by omega, ?_, fun s => ?_⟩)))
  · rintro i x E hx
    obtain ⟨z, hz'⟩ := k2 x (List.mem_of_getElem? hx)
    exact ag_name ⟨rfl, et_yes ⟨rfl, cndT (ea_op (ea_var rfl (ea_var rfl (rb_ixN (f := dP) (by repeat (first | exact At.lst | exact At.ro | exact At.sc | apply At.tl)) hz' ⟨rfl, z, rfl, hz'⟩))))⟩⟩
  rw [k1]
  refine tr_seq (tr_set (ea_callP (dd := []) (fun _ => rfl) (el_cons (ea_var rfl (el_nil ⟨[(s, false, .ro (some'.map dP))], fun d N => d = dN (gw some') ∧ N = [], (by repeat (first | exact Sb.nil | refine Sb.keep (by first | exact Wk.rfl | exact Wk.ro | exact Wk.rT | exact Wk.rF) ?_ | apply Sb.skip)), ⟨s, some', rfl, rfl, by omega, ⟨rfl, rfl⟩⟩, ?_⟩)))))
  rintro d N ⟨rfl, rfl⟩
  generalize gw some' = most at hr
  refine tr_if (et_test (ea_op (ea_var rfl (ea_int (rb_ltN (n := 2) ⟨_, rfl, cndD (fun h2 => ?_) (fun h2 => ?_)⟩)))))
  · rw [if_pos h2] at hr
    refine tr_forL places dN (fun i ds L => ∃ x4 x5 x6 x7 x8 x9 x10 x11 x12 x13 fl, ds = [some (.ref a), some (.ref b), some (dN start), some (.ref m), x4, x5, x6, x7, x8, x9, x10, x11, x12, x13] ∧
      [(m, true, O.lst (fl.map dN)), (a, false, .ro (ps.map dP)), (b, false, .ro (places.map dN))].Sublist L ∧ setAll start (places.drop i) fl = some r) (ea_var rfl ⟨b, rfl, (by repeat (first | exact At.lst | exact At.ro | exact At.sc | apply At.tl)), ?_, ?_, ?_, ?_⟩)
    · exact ⟨_, _, _, _, _, _, _, _, _, _, found, rfl, (by repeat (first | exact List.Sublist.refl _ | apply List.Sublist.cons_cons | exact List.nil_sublist _ | apply List.Sublist.cons)), hr⟩
    · rintro i ds L ⟨x4, x5, x6, x7, x8, x9, x10, x11, x12, x13, fl, rfl, hs, e⟩
      exact at_sub hs (by repeat (first | exact At.lst | exact At.ro | exact At.sc | apply At.tl))
    · rintro i ds L p hi hd hlt ⟨x4, x5, x6, x7, x8, x9, x10, x11, x12, x13, fl, rfl, hs, e⟩
      rw [hd] at e
      unfold setAll at e
      by_cases hl : p < fl.length
      case neg => rw [if_neg hl] at e; cases e
      rw [if_pos hl] at e
      refine ag_sub hs (ag_name (tr_setN dN (ea_var rfl (ea_var rfl (ea_var rfl ⟨m, fl, p, start, _, rfl, rfl, rfl, (by repeat (first | exact Up.hd | apply Up.tl)), hl, ?_⟩)))))
      exact ⟨_, _, _, _, _, _, _, _, _, _, _, rfl, (by repeat (first | exact List.Sublist.refl _ | apply List.Sublist.cons_cons | exact List.nil_sublist _ | apply List.Sublist.cons)), e⟩
    · rintro ds L hd ⟨x4, x5, x6, x7, x8, x9, x10, x11, x12, x13, fl, rfl, hs, e⟩
      rw [hd] at e
      have e : some fl = some r := e
      cases e
      exact ⟨_, [], hp, rfl, hs⟩
  rw [if_neg h2] at hr
  refine tr_if (et_test (ea_op (ea_op (ea_var rfl (ea_int (rb_modN (n := 2) (by decide) (ea_int (rb_eqN (n := 0) ⟨_, rfl, cndD (fun h3 => ?_) (fun h3 => ?_)⟩))))))))
  · rw [if_pos h3] at hr
    cases hh : halves some' with
    | none => simp only [hh] at hr; cases hr
    | some signs =>
    simp only [hh] at hr
    cases hb : allSome signs with
    | none => simp only [hb] at hr; cases hr
    | some bs =>
    simp only [hb] at hr
    cases hn : numGo ps f (XM.part places bs false) start found with
    | none => simp only [hn] at hr; cases hr
    | some found' =>
    simp only [hn] at hr
    refine tr_seq (tr_set (ea_callP (dd := []) (fun _ => rfl) (el_cons (ea_var rfl (el_nil ⟨[(s, false, .ro (some'.map dP))], fun d N => ∃ p, d = .ref p ∧ N = [(p, .lst (signs.map dS))], (by repeat (first | exact Sb.nil | refine Sb.keep (by first | exact Wk.rfl | exact Wk.ro | exact Wk.rT | exact Wk.rF) ?_ | apply Sb.skip)), ⟨s, some', signs, rfl, rfl, by omega, hh, fun p => ⟨p, rfl, rfl⟩⟩, ?_⟩)))))
    rintro d N ⟨g, rfl, rfl⟩
    have eb : signs.map dS = bs.map dI := by rw [allSome_eq hb, List.map_map]; rfl
    rw [eb]
    have one : ∀ (sg : Bool) (fl rr : List Nat) (x6 x8 x9 x10 x11 x12 x13 : Option D) (L : Fp) (kk : Kt), [(m, true, O.lst (fl.map dN)), (a, false, .ro (ps.map dP)), (b, false, .ro (places.map dN)), (g, true, .lst (bs.map dI))].Sublist L →
        numGo ps f (XM.part places bs sg) (start + if sg then most / 2 else 0) fl = some rr →
        (∀ x6 x8 x9 x10 x11 x12 x13 L', [(m, true, O.lst (rr.map dN)), (a, false, .ro (ps.map dP)), (b, false, .ro (places.map dN)), (g, true, .lst (bs.map dI))].Sublist L' → kk.nx [some (.ref a), some (.ref b), some (dN start), some (.ref m), some (.ref s), some (dN most), x6, some (.ref g), x8, x9, x10, x11, x12, x13] L') →
        Ag K H0 [m] (gName 8) (.int (bi sg)) [some (.ref a), some (.ref b), some (dN start), some (.ref m), some (.ref s), some (dN most), x6, some (.ref g), x8, x9, x10, x11, x12, x13] L fun d2 L2 =>
          Tr K H0 [m] (tSeq (tAsg (tLc (iZip K (tCons (tVar 1) (tCons (tVar 7) tNil))) (gTup K 2 (gCons (gName 6) (gCons (gName 13) gNil))) (tTest (tOp rEq (tVar 13) (tVar 8))) (tVar 6) [6, 13]) (gName 12))
            (tDrop (tCall (SpM K (A_num f)) [] E0 (tCons (tVar 0) (tCons (tVar 12) (tCons (tOp rAddI (tVar 2) (tOp rMulI (tVar 8) (tOp rDivI (tVar 5) (tC (.int 2))))) (tCons (tVar 3) tNil))))))) d2 L2 kk := fun sg fl rr x6 x8 x9 x10 x11 x12 x13 L kk hs hn hk' => by
      refine ag_sub hs (ag_name (tr_seq (tr_set (ea_lcZ places bs dN dI dN (fun q => if q.2 = sg then some q.1 else none) (gw_tup (gws_cons (fun x σ H Q Q' => gname_mono x σ H Q Q') (gw_name (by simp)) (gws_cons (fun x σ H Q Q' => gname_mono x σ H Q Q') (gw_name (by simp)) gws_nil)))
        (el_cons (ea_var rfl (el_cons (ea_var rfl (el_nil ⟨b, g, rfl, (by repeat (first | exact At.lst | exact At.ro | exact At.sc | apply At.tl)), (by repeat (first | exact At.lst | exact At.ro | exact At.sc | apply At.tl)), by omega, ?_, fun q => ?_⟩)))))))))
      · rintro i x y E hx hy
        refine ag_tup rfl (ags_cons (ag_name (ags_cons (ag_name (ags_nil ⟨rfl, et_test (ea_op (ea_var rfl (ea_var rfl (rb_eqS (a := y) (b := sg) ⟨_, rfl, rfl, cndD (fun h => ?_) (fun h => ?_)⟩))))⟩)))))
        · exact ea_var rfl ⟨rfl, x, rfl, by show (if y = sg then some x else none) = _; rw [if_pos h]⟩
        · show (if y = sg then some x else none) = none
          rw [if_neg h]
      · have hpl := part_len places bs sg
        refine tr_drop (ea_callM (dd := []) (fun _ => rfl) (el_cons (ea_var rfl (el_cons (ea_var rfl (el_cons (ea_op (ea_var rfl (ea_op (ea_var rfl (ea_op (ea_var rfl (ea_int (rb_divN (n := 2) (by decide) (by decide) (rb_mulS (rb_addN (el_cons (ea_var rfl (el_nil ⟨m, .lst (fl.map dN), [(a, false, .ro (ps.map dP)), (q, false, .ro ((XM.part places bs sg).map dN))], fun d o' N => d = .non ∧ o' = .lst (rr.map dN) ∧ N = [], (by repeat (first | refine Sm.here (by repeat (first | exact Sb.nil | refine Sb.keep (by first | exact Wk.rfl | exact Wk.ro | exact Wk.rT | exact Wk.rF) ?_ | apply Sb.skip)) (by repeat (first | exact hc_nil | refine hc_cons ?_ rfl)) | refine Sm.keep (by first | exact Wk.rfl | exact Wk.ro | exact Wk.rT | exact Wk.rF) rfl ?_ | apply Sm.skip)), ⟨rfl, rfl⟩,
          ⟨a, q, ps, XM.part places bs sg, fl, rr, _, rfl, rfl, rfl, by omega, hn, rfl, rfl, rfl⟩, ?_⟩)))))))))))))))))))
        rintro d o' N ⟨rfl, rfl, rfl⟩
        exact ⟨⟨rfl, rfl⟩, _, (by repeat (first | exact Up.hd | apply Up.tl)), hk' _ _ _ _ _ _ _ _ (by repeat (first | exact List.Sublist.refl _ | apply List.Sublist.cons_cons | exact List.nil_sublist _ | apply List.Sublist.cons))⟩
    refine tr_for2 (ea_tup (el_cons (ea_int (el_cons (ea_int (el_nil ⟨by show 2 ≤ 1000; decide, rfl, ?_⟩))))))
    refine one false found found' _ _ _ _ _ _ _ _ _ (by repeat (first | exact List.Sublist.refl _ | apply List.Sublist.cons_cons | exact List.nil_sublist _ | apply List.Sublist.cons)) hn fun x6 x8 x9 x10 x11 x12 x13 L' hs' => ?_
    refine one true found' r _ _ _ _ _ _ _ _ _ hs' hr fun x6 x8 x9 x10 x11 x12 x13 L' hs' => ?_
    exact ⟨.lst (r.map dN), [], hp, rfl, List.Sublist.trans (by repeat (first | exact List.Sublist.refl _ | apply List.Sublist.cons_cons | exact List.nil_sublist _ | apply List.Sublist.cons)) hs'⟩
  · rw [if_neg h3] at hr
    cases ht : touching some' with
    | none => simp only [ht] at hr; cases hr
    | some chosen =>
    simp only [ht] at hr
    cases hc : pick places chosen with
    | none => simp only [hc] at hr; cases hr
    | some cs =>
    simp only [hc] at hr
    cases hs : setAll start cs found with
    | none => simp only [hs] at hr; cases hr
    | some found' =>
    simp only [hs] at hr
    refine tr_seq (tr_set (ea_callP (dd := []) (fun _ => rfl) (el_cons (ea_var rfl (el_nil ⟨[(s, false, .ro (some'.map dP))], fun d N => ∃ p, d = .ref p ∧ N = [(p, .lst (chosen.map dN))], (by repeat (first | exact Sb.nil | refine Sb.keep (by first | exact Wk.rfl | exact Wk.ro | exact Wk.rT | exact Wk.rF) ?_ | apply Sb.skip)), ⟨s, some', chosen, rfl, rfl, by omega, ht, fun p => ⟨p, rfl, rfl⟩⟩, ?_⟩)))))
    rintro d N ⟨g, rfl, rfl⟩
    refine tr_seq (tr_set (ea_lcR dN (fun i => if i ∈ chosen then none else places[i]?) (gw_name (by simp)) (el_cons (ea_cb (el_cons (ea_var rfl (el_nil (rc_len (by repeat (first | exact At.lst | exact At.ro | exact At.sc | apply At.tl)) (el_nil ⟨places.length, by rw [List.length_map], by omega, ?_, fun q => ?_⟩)))))))))
    · rintro i E hi
      have hx : places[i]? = some places[i] := List.getElem?_eq_getElem hi
      refine ag_name ⟨rfl, et_test (ea_op (ea_var rfl (ea_var rfl (rb_ninN (by repeat (first | exact At.lst | exact At.ro | exact At.sc | apply At.tl)) ⟨_, rfl, rfl, cndN (fun h => ?_) (fun h => ?_)⟩))))⟩
      · exact ea_op (ea_var rfl (ea_var rfl (rb_ixN (f := dN) (by repeat (first | exact At.lst | exact At.ro | exact At.sc | apply At.tl)) hx ⟨rfl, places[i], rfl, by show (if i ∈ chosen then none else places[i]?) = _; rw [if_neg h, hx]⟩)))
      · show (if i ∈ chosen then none else places[i]?) = none
        rw [if_pos h]
    refine tr_seq (tr_forL chosen dN (fun i ds L => ∃ x6 x7 x8 x11 x12 x13 fl cs', ds = [some (.ref a), some (.ref b), some (dN start), some (.ref m), some (.ref s), some (dN most), x6, x7, x8, some (.ref g), some (.ref q), x11, x12, x13] ∧
      [(m, true, O.lst (fl.map dN)), (a, false, .ro (ps.map dP)), (b, false, .ro (places.map dN)), (g, true, .lst (chosen.map dN)), (q, true, .lst ((XM.left places chosen).map dN))].Sublist L ∧ pick places (chosen.drop i) = some cs' ∧ setAll start cs' fl = some found') (ea_var rfl ⟨g, rfl, (by repeat (first | exact At.lst | exact At.ro | exact At.sc | apply At.tl)), ?_, ?_, ?_, ?_⟩))
    · exact ⟨_, _, _, _, _, _, found, cs, rfl, (by repeat (first | exact List.Sublist.refl _ | apply List.Sublist.cons_cons | exact List.nil_sublist _ | apply List.Sublist.cons)), hc, hs⟩
    · rintro i ds L ⟨x6, x7, x8, x11, x12, x13, fl, cs', rfl, hs, e1, e2⟩
      exact at_sub hs (by repeat (first | exact At.lst | exact At.ro | exact At.sc | apply At.tl))
    · rintro i ds L p hi hd hlt ⟨x6, x7, x8, x11, x12, x13, fl, cs', rfl, hs, e1, e2⟩
      rw [hd] at e1
      unfold pick at e1
      cases hx : places[p]? with
      | none => simp only [hx] at e1; cases e1
      | some x =>
      simp only [hx] at e1
      cases h5 : pick places (chosen.drop (i + 1)) with
      | none => simp only [h5] at e1; cases e1
      | some cs2 =>
      simp only [h5] at e1
      rw [← Option.some.inj e1] at e2
      unfold setAll at e2
      by_cases hl : x < fl.length
      case neg => rw [if_neg hl] at e2; cases e2
      rw [if_pos hl] at e2
      refine ag_sub hs (ag_name (tr_setN dN (ea_var rfl (ea_var rfl (ea_op (ea_var rfl (ea_var rfl (rb_ixN (f := dN) (by repeat (first | exact At.lst | exact At.ro | exact At.sc | apply At.tl)) hx ⟨m, fl, x, start, _, rfl, rfl, rfl, (by repeat (first | exact Up.hd | apply Up.tl)), hl, ?_⟩))))))))
      exact ⟨_, _, _, _, _, _, _, cs2, rfl, (by repeat (first | exact List.Sublist.refl _ | apply List.Sublist.cons_cons | exact List.nil_sublist _ | apply List.Sublist.cons)), rfl, e2⟩
    · rintro ds L hd ⟨x6, x7, x8, x11, x12, x13, fl, cs', rfl, hs, e1, e2⟩
      rw [hd] at e1
      have e1 : some [] = some cs' := e1
      rw [← Option.some.inj e1] at e2
      have e2 : some fl = some found' := e2
      cases e2
      have hll := left_len places chosen
      refine tr_sub hs (tr_drop (ea_callM (dd := []) (fun _ => rfl) (el_cons (ea_var rfl (el_cons (ea_var rfl (el_cons (ea_op (ea_var rfl (ea_int (rb_addN (n := 1) (el_cons (ea_var rfl (el_nil ⟨m, .lst (found'.map dN), [(a, false, .ro (ps.map dP)), (q, false, .ro ((XM.left places chosen).map dN))], fun d o' N => d = .non ∧ o' = .lst (r.map dN) ∧ N = [], (by repeat (first | refine Sm.here (by repeat (first | exact Sb.nil | refine Sb.keep (by first | exact Wk.rfl | exact Wk.ro | exact Wk.rT | exact Wk.rF) ?_ | apply Sb.skip)) (by repeat (first | exact hc_nil | refine hc_cons ?_ rfl)) | refine Sm.keep (by first | exact Wk.rfl | exact Wk.ro | exact Wk.rT | exact Wk.rF) rfl ?_ | apply Sm.skip)), ⟨rfl, rfl⟩,
        ⟨a, q, ps, XM.left places chosen, found', r, _, rfl, rfl, rfl, by omega, hr, rfl, rfl, rfl⟩, ?_⟩))))))))))))))
      rintro d o' N ⟨rfl, rfl, rfl⟩
      exact ⟨⟨rfl, rfl⟩, _, (by repeat (first | exact Up.hd | apply Up.tl)), .lst (r.map dN), [], hp, rfl, (by repeat (first | exact List.Sublist.refl _ | apply List.Sublist.cons_cons | exact List.nil_sublist _ | apply List.Sublist.cons))⟩

section
variable {K : PySem.W.Frag} {H0 H : Hp} {M : List Addr} {L L' : Fp} {ds : List (Option D)} {P : D → Fp → Prop} {α : Type}
theorem rc_sortK {a : Addr} {w : Bool} {d : List (Nat × α)} {f : α → D} (h : (a, w, O.dK (eK f d)) ∈ L) (hl : d.length < 64) (k : ∀ p, P (.ref p) (L ++ [(p, true, .lst ((srt leN (d.map (·.1))).map dN))])) : Rc K H0 M rSortedK [.ref a] L P := fun ds σ H vs Q A r n => by
  obtain ⟨v, rfl, rv⟩ := rps1 r
  obtain ⟨ws, h1, h2, _⟩ := A.ow.ho _ h
  refine ⟨a, ws, d.map (fun q => (q.1 : Int)), by rw [show v = V.ref a from rv], .inl h1, ?_, by rw [List.length_map]; exact hl, fun ys p hp hs hn => ?_⟩
  · rw [kr_keys h2, List.map_map, List.map_map]
    rfl
  · have e : ys = (srt leN (d.map (·.1))).map fun n : Nat => (n : Int) := sortN_uniq (by rw [List.map_map]; exact hp) hs
    rw [e]
    refine n _ _ _ _ (k p) rfl (A.addL hn ?_) (Mo.new hn).tx
    rw [map_dN]
    exact Rps.ofInts _
end
theorem wtsGo_len (s : Bool) : ∀ (r : List Pr) (f : List (Nat × Nat)), (wtsGo s r f).length ≤ f.length + r.length
  | [], _ => Nat.le_refl _
  | p :: r, f => by
    have h1 := wtsGo_len s r (aput f (XM.sd p s) ((aget f (XM.sd p s)).getD 0 + 1))
    have h2 := aput_len (XM.sd p s) ((aget f (XM.sd p s)).getD 0 + 1) f
    show (wtsGo s r _).length ≤ _
    rw [List.length_cons]
    omega
theorem wts_len (ps : List Pr) (s : Bool) : (wts ps s).length ≤ ps.length := by
  have := wtsGo_len s ps []
  rw [List.length_nil] at this
  unfold wts
  omega
/-- no rack is too full -/
def Roomy (ps : List Pr) (ways : Nat) : Prop := ∀ s k n, aget (wts ps s) k = some n → n ≤ ways
def A_ask : List D → Fp → (D → Nw → Prop) → Prop := fun xs L P => ∃ (a : Addr) (ps : List Pr) (ways : Nat), xs = [.ref a, dN ways] ∧ L = [(a, false, .ro (ps.map dP))] ∧ ps.length < 64 ∧ Roomy ps ways ∧ P .non []
theorem rd_ask_room {K : PySem.W.Frag} : ∀ vs H Q E, SpP K A_ask vs H Q E → t_ask_room K (SpP K A_wts) { nx := fun _ H' => Q .non H', rt := Q } (L2.start names_ask_room vs) H := fun vs H Q E => spP_body fun H0 xs L P => by
  rintro ⟨a, ps, ways, rfl, rfl, hz, hroom, hp⟩
  have one : ∀ (s : Bool) (x2 x3 x4 : Option D) (L : Fp) (kk : Kt), [(a, false, O.ro (ps.map dP))].Sublist L → (∀ x2 x3 x4 L', [(a, false, O.ro (ps.map dP))].Sublist L' → kk.nx [some (.ref a), some (dN ways), x2, x3, x4] L') →
      Ag K H0 [] (gName 2) (.int (bi s)) [some (.ref a), some (dN ways), x2, x3, x4] L fun d2 L2 =>
        Tr K H0 [] (tSeq (tAsg (tCall (SpP K A_wts) [] E0 (tCons (tVar 0) (tCons (tVar 2) tNil))) (gName 3))
          (tFor (iList K (tCB rSortedK (tCons (tVar 3) tNil))) (gName 4) (tIfS (tTest (tOp rGtI (tDGet (tVar 3) (tVar 4)) (tVar 1))) tNever tNext))) d2 L2 kk := fun s x2 x3 x4 L kk hs hk => by
    refine ag_sub hs (ag_name (tr_seq (tr_set (ea_callP (dd := []) (fun _ => rfl) (el_cons (ea_var rfl (el_cons (ea_var rfl (el_nil ⟨[(a, false, .ro (ps.map dP))], fun d N => ∃ p, d = .ref p ∧ N = [(p, .dK (eK dN (wts ps s)))], (by repeat (first | exact Sb.nil | refine Sb.keep (by first | exact Wk.rfl | exact Wk.ro | exact Wk.rT | exact Wk.rF) ?_ | apply Sb.skip)), ⟨a, ps, s, rfl, rfl, by omega, fun p => ⟨p, rfl, rfl⟩⟩, ?_⟩)))))))))
    rintro d N ⟨w, rfl, rfl⟩
    have hwl := wts_len ps s
    refine tr_forLq (srt leN ((wts ps s).map (·.1))) dN (ea_cb (el_cons (ea_var rfl (el_nil (rc_sortK (f := dN) (d := wts ps s) (by repeat (first | exact List.mem_cons_self | apply List.mem_cons_of_mem)) (by omega) fun q => ⟨q, fun i ds L => ∃ x4, ds = [some (.ref a), some (dN ways), some (.int (bi s)), some (.ref w), x4] ∧
      L = [(a, false, O.ro (ps.map dP)), (w, true, .dK (eK dN (wts ps s))), (q, true, .lst ((srt leN ((wts ps s).map (·.1))).map dN))], rfl, (by repeat (first | exact At.lst | exact At.ro | exact At.sc | apply At.tl)), ?_, ?_, ?_, ?_⟩)))))
    · exact ⟨_, rfl, rfl⟩
    · rintro i ds L ⟨x4, rfl, rfl⟩
      exact (by repeat (first | exact At.lst | exact At.ro | exact At.sc | apply At.tl))
    · rintro i ds L k hi hd hlt ⟨x4, rfl, rfl⟩
      have hm : k ∈ (wts ps s).map (·.1) := (srt_perm leN _).mem_iff.mp (List.mem_of_getElem? hi)
      obtain ⟨n, hn⟩ := Option.isSome_iff_exists.mp (aget_isSome.mpr hm)
      refine ag_name (tr_if (et_test (ea_op (ea_dgetN (ea_var rfl (ea_var rfl ⟨w, _, dN n, rfl, dg_K (f := dN) (d := wts ps s) (k := k) |> fun h => Dg.tl h, by rw [hn]; rfl, ea_var rfl (rb_gtN ⟨_, rfl, cndD (fun h => ?_) (fun h => ?_)⟩)⟩))))))
      · exact absurd (hroom s k n hn) (by omega)
      · exact tr_next ⟨_, rfl, rfl⟩
    · rintro ds L hd ⟨x4, rfl, rfl⟩
      exact hk _ _ _ _ (by repeat (first | exact List.Sublist.refl _ | apply List.Sublist.cons_cons | exact List.nil_sublist _ | apply List.Sublist.cons))
  refine tr_for2 (ea_tup (el_cons (ea_int (el_cons (ea_int (el_nil ⟨by show 2 ≤ 1000; decide, rfl, ?_⟩))))))
  refine one false _ _ _ _ _ (by repeat (first | exact List.Sublist.refl _ | apply List.Sublist.cons_cons | exact List.nil_sublist _ | apply List.Sublist.cons)) fun x2 x3 x4 L' hs => ?_
  refine one true _ _ _ _ _ hs fun x2 x3 x4 L' hs => ?_
  exact ⟨[], hp, rfl, hs⟩
def A_parted : List D → Fp → (D → Nw → Prop) → Prop := fun xs L P => ∃ (a : Addr) (ps : List Pr) (ways : Nat) (r : List Nat), xs = [.ref a, dN ways] ∧ L = [(a, false, .ro (ps.map dP))] ∧ ps.length < 64 ∧ Roomy ps ways ∧ parted ps = some r ∧ ∀ p, P (.ref p) [(p, .lst (r.map dN))]
theorem rd_parted {K : PySem.W.Frag} : ∀ vs H Q E, SpP K A_parted vs H Q E → t_parted K (SpP K A_ask) (SpM K (A_num 64)) { nx := fun _ H' => Q .non H', rt := Q } (L2.start names_parted vs) H := fun vs H Q E => spP_body fun H0 xs L P => by
  rintro ⟨a, ps, ways, r, rfl, rfl, hz, hroom, hr, hp⟩
  unfold parted at hr
  refine tr_seq (tr_drop (ea_callP (dd := []) (fun _ => rfl) (el_cons (ea_var rfl (el_cons (ea_var rfl (el_nil ⟨[(a, false, .ro (ps.map dP))], fun d N => d = .non ∧ N = [], (by repeat (first | exact Sb.nil | refine Sb.keep (by first | exact Wk.rfl | exact Wk.ro | exact Wk.rT | exact Wk.rF) ?_ | apply Sb.skip)), ⟨a, ps, ways, rfl, rfl, hz, hroom, ⟨rfl, rfl⟩⟩, ?_⟩)))))))
  rintro d N ⟨rfl, rfl⟩
  refine tr_seq (tr_set (ea_op (ea_lst (el_cons (ea_int (el_nil ⟨by decide, fun q => ea_cb (el_cons (ea_var rfl (el_nil (rc_len (by repeat (first | exact At.lst | exact At.ro | exact At.sc | apply At.tl)) (rb_rep ⟨true, (by repeat (first | exact List.mem_cons_self | apply List.mem_cons_of_mem))⟩ (by rw [List.length_map]; omega) fun f => ?_)))))⟩))))))
  have e0 : List.replicate (ps.map dP).length (D.int 0) = (List.replicate ps.length 0).map dN := by rw [List.length_map, List.map_replicate]; rfl
  rw [e0]
  refine tr_seq (tr_drop (ea_callM (dd := []) (fun _ => rfl) (el_cons (ea_var rfl (el_cons (ea_listRange (ea_cb (el_cons (ea_var rfl (el_nil (rc_len (by repeat (first | exact At.lst | exact At.ro | exact At.sc | apply At.tl)) ⟨ps.length, by rw [List.length_map], by omega, fun g => el_cons (ea_int (el_cons (ea_var rfl (el_nil ⟨f, .lst ((List.replicate ps.length 0).map dN), [(a, false, .ro (ps.map dP)), (g, false, .ro ((List.range ps.length).map dN))], fun d o' N => d = .non ∧ o' = .lst (r.map dN) ∧ N = [], (by repeat (first | refine Sm.here (by repeat (first | exact Sb.nil | refine Sb.keep (by first | exact Wk.rfl | exact Wk.ro | exact Wk.rT | exact Wk.rF) ?_ | apply Sb.skip)) (by repeat (first | exact hc_nil | refine hc_cons ?_ rfl)) | refine Sm.keep (by first | exact Wk.rfl | exact Wk.ro | exact Wk.rT | exact Wk.rF) rfl ?_ | apply Sm.skip)), ⟨rfl, rfl⟩,
    ⟨a, g, ps, List.range ps.length, List.replicate ps.length 0, r, 0, rfl, rfl, rfl, by rw [List.length_range]; omega, hr, rfl, rfl, rfl⟩, ?_⟩))))⟩)))))))))))
  rintro d o' N ⟨rfl, rfl, rfl⟩
  refine ⟨⟨rfl, rfl⟩, _, (by repeat (first | exact Up.hd | apply Up.tl)), tr_ret (ea_var rfl ?_)⟩
  exact ⟨_, hp f, rfl, (by repeat (first | exact List.Sublist.refl _ | apply List.Sublist.cons_cons | exact List.nil_sublist _ | apply List.Sublist.cons))⟩
end XR
-- KRead8
set_option Elab.async false
set_option linter.all false
set_option maxRecDepth 100000
set_option maxHeartbeats 1000000
/-! the readings of at_once, as_many (where the table is one) -/
namespace XR
open PySem PySem.Spec PyProof.Rows L2 XM
section
variable {K : PySem.W.Frag} {H0 H : Hp} {M : List Addr} {L L' : Fp} {ds : List (Option D)} {P : D → Fp → Prop} {α : Type} {k : Kt}
theorem ea_callS {A : List D → Fp → (D → Nw → Prop) → Prop} {sp : Sp} {dvs : List V} {dd : List D} {E : XK} {ta : TA} (hsp : ∀ vs H Q, SpP K A vs H Q E → sp vs H Q E) (hd : ∀ H, Rps H dd dvs) (h : El K H0 M ta ds L fun xs L1 => ∃ Lc P', Sb Lc L1 ∧ A (xs ++ dd) Lc P' ∧ ∀ d N, P' d N → P d (L1 ++ N.map tag)) :
    Ea K H0 M (tCall sp dvs E ta) ds L P := fun σ H Q a n =>
  h σ H _ a fun xs L1 vs H1 ⟨Lc, P', sb, hA, hP⟩ r1 a1 e1 => hsp _ _ _ ⟨xs ++ dd, Lc, P', r1.app (hd H1), sb.ow a1.ow, hA, fun d N v H' p rv w own => by
    have mo : Mo H1 H' := w.mo0
    exact n d _ v H' (hP d N p) rv ⟨a1.sl.tx mo.tx, a1.ow.join mo own w⟩ (e1.trans mo.tx)⟩
end
/-- the racks that a pair joins -/
def rks (h : Hall) (p : Nat × Nat) : Nat × Nat := (p.1 / h.b, p.2 / h.e)
theorem Valid.perm {h : Hall} {es fs : List (Nat × Nat)} (v : Valid h es) (p : fs.Perm es) : Valid h fs :=
  ⟨fun q hq => v.c q (p.mem_iff.mp hq), fun q hq => v.e q (p.mem_iff.mp hq), (p.map _).nodup_iff.mpr v.nc, (p.map _).nodup_iff.mpr v.ne⟩
theorem Valid.sub {h : Hall} {es fs : List (Nat × Nat)} (v : Valid h es) (p : fs.Sublist es) : Valid h fs :=
  ⟨fun q hq => v.c q (p.subset hq), fun q hq => v.e q (p.subset hq), v.nc.sublist (p.map _), v.ne.sublist (p.map _)⟩
def A_pairs : List D → Fp → (D → Nw → Prop) → Prop := fun xs L P => ∃ (t : Addr) (h : Hall) (es : List (Nat × Nat)), xs = [dH h, .ref t] ∧ L = [(t, false, .ro (es.map dP))] ∧ HallOk h ∧ es.length ≤ 1000 ∧ Valid h es ∧ ∀ p, P (.ref p) [(p, .lst ((es.map (rks h)).map dP))]
/-- the calls of the pairs some', the j-th by the rack that is numbered so -/
def onceC (racks : List Nat) (some' : List (Nat × Nat)) (ns : List Nat) : List (Nat × Nat × Nat) := (some'.zip ns).filterMap fun q => (racks[q.2]?).map fun r => (q.1.1, q.1.2, r)
def once (h : Hall) (shut : Nat) (es : List (Nat × Nat)) : Option (List (Nat × Nat × Nat)) := match parted ((srt leP es).map (rks h)) with
  | none => none
  | some ns => if ∀ n ∈ ns, n < (opens h shut).length then some (onceC (opens h shut) (srt leP es) ns) else none
def A_once : List D → Fp → (D → Nw → Prop) → Prop := fun xs L P => ∃ (t : Addr) (h : Hall) (shut : Nat) (es : List (Nat × Nat)) (cs : List (Nat × Nat × Nat)), xs = [dH h, .ref t, dN shut] ∧ L = [(t, false, .ro (es.map dP))] ∧ HallOk h ∧ es.length < 64 ∧ Valid h es ∧
  Roomy ((srt leP es).map (rks h)) (opens h shut).length ∧ once h shut es = some cs ∧ ∀ p, P (.ref p) [(p, .lst (cs.map dC))]
theorem rd_at_once {K : PySem.W.Frag} {spp : Sp} (hspp : ∀ vs H Q E, SpP K A_pairs vs H Q E → spp vs H Q E) : ∀ vs H Q E, SpP K A_once vs H Q E → t_at_once K (SpP K A_opens) spp (SpP K A_parted) { nx := fun _ H' => Q .non H', rt := Q } (L2.start names_at_once vs) H := fun vs H Q E => spP_body fun H0 xs L P => by
  rintro ⟨t, h, shut, es, cs, rfl, rfl, ok, hz, hv, hroom, hr, hp⟩
  unfold once at hr
  cases hn : parted ((srt leP es).map (rks h)) with
  | none => simp only [hn] at hr; cases hr
  | some ns =>
  simp only [hn] at hr
  by_cases hlt : ∀ n ∈ ns, n < (opens h shut).length
  case neg => rw [if_neg hlt] at hr; cases hr
  rw [if_pos hlt] at hr
  have hcs := Option.some.inj hr
  have hsl : (srt leP es).length = es.length := (srt_perm leP es).length_eq
  refine tr_seq (tr_set (ea_callP (dd := []) (fun _ => rfl) (el_cons (ea_var rfl (el_cons (ea_var rfl (el_nil ⟨[], fun d N => ∃ p, d = .ref p ∧ N = [(p, .lst ((opens h shut).map dN))], .nil, ⟨h, shut, rfl, rfl, ok, fun p => ⟨p, rfl, rfl⟩⟩, ?_⟩)))))))
  rintro d N ⟨r, rfl, rfl⟩
  refine tr_seq (tr_drop (ea_callS (dd := []) (fun vs H Q => hspp vs H Q _) (fun _ => rfl) (el_cons (ea_var rfl (el_cons (ea_var rfl (el_nil ⟨[(t, false, .ro (es.map dP))], fun d N => ∃ p, d = .ref p ∧ N = [(p, .lst ((es.map (rks h)).map dP))], (by repeat (first | exact Sb.nil | refine Sb.keep (by first | exact Wk.rfl | exact Wk.ro | exact Wk.rT | exact Wk.rF) ?_ | apply Sb.skip)), ⟨t, h, es, rfl, rfl, ok, by omega, hv, fun p => ⟨p, rfl, rfl⟩⟩, ?_⟩)))))))
  rintro d N ⟨j, rfl, rfl⟩
  refine tr_seq (tr_set (ea_cb (el_cons (ea_var rfl (el_nil (rc_sortP (by repeat (first | exact At.lst | exact At.ro | exact At.sc | apply At.tl)) fun s => ?_))))))
  refine tr_seq (tr_set (ea_callP (dd := []) (fun _ => rfl) (el_cons (ea_callS (dd := []) (fun vs H Q => hspp vs H Q _) (fun _ => rfl) (el_cons (ea_var rfl (el_cons (ea_var rfl (el_nil ⟨[(s, false, .ro ((srt leP es).map dP))], fun d N => ∃ p, d = .ref p ∧ N = [(p, .lst (((srt leP es).map (rks h)).map dP))], (by repeat (first | exact Sb.nil | refine Sb.keep (by first | exact Wk.rfl | exact Wk.ro | exact Wk.rT | exact Wk.rF) ?_ | apply Sb.skip)), ⟨s, h, srt leP es, rfl, rfl, ok, by omega, hv.perm (srt_perm leP es), fun p => ⟨p, rfl, rfl⟩⟩, ?_⟩)))))))))
  rintro d N ⟨q, rfl, rfl⟩
  refine el_cons (ea_cb (el_cons (ea_var rfl (el_nil (rc_len (by repeat (first | exact At.lst | exact At.ro | exact At.sc | apply At.tl)) (el_nil ⟨[(q, false, .ro (((srt leP es).map (rks h)).map dP))], fun d N => ∃ p, d = .ref p ∧ N = [(p, .lst (ns.map dN))], (by repeat (first | exact Sb.nil | refine Sb.keep (by first | exact Wk.rfl | exact Wk.ro | exact Wk.rT | exact Wk.rF) ?_ | apply Sb.skip)), ⟨q, (srt leP es).map (rks h), (opens h shut).length, ns, by rw [List.length_map]; rfl, rfl, by rw [List.length_map]; omega, hroom, hn, fun p => ⟨p, rfl, rfl⟩⟩, ?_⟩))))))
  rintro d N ⟨n, rfl, rfl⟩
  refine tr_ret (ea_lcZ (srt leP es) ns dP dN dC (fun x => ((opens h shut)[x.2]?).map fun r => (x.1.1, x.1.2, r)) (gw_tup (gws_cons (fun x σ H Q Q' => gname_mono x σ H Q Q') (gw_name (by simp)) (gws_cons (fun x σ H Q Q' => gname_mono x σ H Q Q') (gw_name (by simp)) gws_nil)))
    (el_cons (ea_var rfl (el_cons (ea_var rfl (el_nil ⟨s, n, rfl, (by repeat (first | exact At.lst | exact At.ro | exact At.sc | apply At.tl)), (by repeat (first | exact At.lst | exact At.ro | exact At.sc | apply At.tl)), by omega, ?_, fun p => ?_⟩))))))
  · rintro i x y E hx hy
    obtain ⟨z, hz2⟩ : ∃ z, (opens h shut)[y]? = some z := ⟨_, List.getElem?_eq_getElem (hlt y (List.mem_of_getElem? hy))⟩
    refine ag_tup rfl (ags_cons (ag_name (ags_cons (ag_name (ags_nil ⟨rfl, et_yes ⟨rfl, cndT ?_⟩⟩)))))
    refine ea_tup (el_cons (ea_op (ea_var rfl (ea_int (rb_t0 (el_cons (ea_tup (el_cons (ea_op (ea_var rfl (ea_int (rb_t1 (el_nil ⟨by show 1 ≤ 1000; decide, el_cons (ea_op (ea_var rfl (ea_var rfl (rb_ixN (f := dN) (by repeat (first | exact At.lst | exact At.ro | exact At.sc | apply At.tl)) hz2 (el_nil ⟨by show 3 ≤ 1000; decide, rfl, (x.1, x.2, z), rfl, ?_⟩)))))⟩)))))))))))))
    show ((opens h shut)[y]?).map _ = _
    rw [hz2]
    rfl
  · refine ⟨_, hp p, rfl, ?_⟩
    rw [← hcs]
    unfold onceC
    exact (by repeat (first | exact List.Sublist.refl _ | apply List.Sublist.cons_cons | exact List.nil_sublist _ | apply List.Sublist.cons))
end XR
-- KRead9
set_option Elab.async false
set_option linter.all false
set_option maxRecDepth 100000
set_option maxHeartbeats 1000000
/-! the readings of pairs_of and as_many, with what they let out -/
namespace XR
open PySem PySem.Spec PyProof.Rows L2 XM
/-- a def that lets a NoTable out: of k, beside what stood -/
def SpE (K : PySem.W.Frag) (A : List D → Fp → Int → Prop) : List V → Hp → XK → Prop := fun vs H E => ∃ xs L k, Rps H xs vs ∧ Ow K H [] L H ∧ A xs L k ∧ ∀ (d : Addr) (H' : Hp), Mo H H' → H d = none → H' d = some (.xd (plc k)) → E (.ref (cNT K)) (some d) H'
/-- how such a body ends -/
abbrev kE : Kt := ⟨fun _ _ => False, fun _ _ => False, fun _ _ => False, fun _ _ => False⟩
theorem spE_body {K : PySem.W.Frag} {A : List D → Fp → Int → Prop} {t : TS} {N : List Str} {vs : List V} {H : Hp} {Q : VK} {E : XK} (h : ∀ (H0 : Hp) xs L k, A xs L k → (∀ (d : Addr) (H' : Hp), Mo H0 H' → H0 d = none → H' d = some (.xd (plc k)) → E (.ref (cNT K)) (some d) H') → Tr K H0 [] t (ini N.length xs) L kE) (s : SpE K A vs H E) :
    t { nx := fun _ H' => Q .non H', rt := Q } (start N vs) H := by
  obtain ⟨xs, L, k, r, w, a, q⟩ := s
  refine h H xs L k a q (start N vs) H _ ⟨?_, w⟩ ⟨fun _ _ _ _ z => z.elim, fun _ _ _ _ z => z.elim, fun _ _ _ _ z => z.elim, fun _ _ _ _ z => z.elim⟩
  unfold ini L2.start
  rw [r.len]
  exact Sls.start _ r
section
variable {K : PySem.W.Frag} {H0 H : Hp} {L L' : Fp} {ds : List (Option D)} {k : Kt}
theorem tr_raiseNT {W : WX} {ta : TA} (h : El K H0 [] ta ds L fun xs _ => ∃ k0 : Int, xs = [.int k0] ∧ ∀ (d : Addr) (σ : L2.St) (H' : Hp), Mo H0 H' → H0 d = none → H' d = some (.xd (plc k0)) → W (.ref (cNT K)) (some d) σ H') : Tr K H0 [] (tRaiseNT K W ta) ds L k := fun σ H E A o => by
  refine h σ H _ A fun xs L1 vs H1 ⟨k0, e, q⟩ r1 a1 e1 => ?_
  subst e
  obtain ⟨v, rfl, rv⟩ := rps1 r1
  cases (show v = V.int k0 from rv)
  have m0 := a1.ow.mo0
  refine ⟨by show 1 ≤ 1000; decide, fun a ha => ⟨a, k0, rfl, upd_same, fun dx hx hne => ⟨rfl, dx, plc k0, upd_same, ?_, ?_, ?_⟩⟩⟩
  · rw [upd_ne hne, upd_same]
  · rw [upd_ne hne] at hx
    exact hx
  · rw [upd_ne hne] at hx
    have fr : ∀ {b : Addr}, H1 b = none → H0 b = none := fun {b} hb => a1.ow.fresh hb
    refine q dx σ _ (fun b u hb => ?_) (fr hx) upd_same
    have h1 := m0 b u hb
    have hba : b ≠ a := ne_of_none h1 ha
    have hbx : b ≠ dx := ne_of_none h1 hx
    rw [upd_ne hbx, del_ne hba, upd_ne hba, upd_ne hbx, upd_ne hba]
    exact h1
end
/-- an entry that pairs_of refuses behind es -/
def bad (h : Hall) (es : List (Nat × Nat)) (x : Ent) : Prop := okE h x = false ∨ ∃ p ∈ es, x = .two (.int (p.1 : Nat)) (.int (p.2 : Nat))
def A_bad : List D → Fp → Int → Prop := fun xs L k => ∃ (t : Addr) (h : Hall) (es : List (Nat × Nat)) (x : Ent) (rest : List D), xs = [dH h, .ref t] ∧ L = [(t, false, .ro (es.map dP ++ dE x :: rest))] ∧ HallOk h ∧ es.length ≤ 1000 ∧ Valid h es ∧ bad h es x ∧ k = (es.length : Nat)
def spPairs (K : PySem.W.Frag) : Sp := fun vs H Q E => SpP K A_pairs vs H Q E ∨ SpE K A_bad vs H E
theorem okE_valid {h : Hall} {es : List (Nat × Nat)} (v : Valid h es) {p : Nat × Nat} (hp : p ∈ es) : okE h (.two (.int (p.1 : Nat)) (.int (p.2 : Nat))) = true := by
  have h1 := v.c p hp
  have h2 := v.e p hp
  show ((decide ((0 : Int) ≤ (p.1 : Nat)) && decide (((p.1 : Nat) : Int) < (h.a * h.b : Nat))) && (decide ((0 : Int) ≤ (p.2 : Nat)) && decide (((p.2 : Nat) : Int) < (h.d * h.e : Nat)))) = true
  simp only [Bool.and_eq_true, decide_eq_true_eq]
  omega
/-- what pairs_of has made of the first i entries -/
def Pst (h : Hall) (t c e f : Addr) (xs : List D) (es : List (Nat × Nat)) (i : Nat) (ds : List (Option D)) (L : Fp) : Prop :=
  ∃ (x5 x6 : Option D) (cs ns : List (Nat × Unit)), ds = [some (dH h), some (.ref t), some (.ref c), some (.ref e), some (.ref f), x5, x6] ∧
    [(t, false, O.ro xs), (c, true, .dK (eK dU cs)), (e, true, .dK (eK dU ns)), (f, true, .lst (((es.take i).map (rks h)).map dP))].Sublist L ∧ cs.map (·.1) = (es.take i).map (·.1) ∧ ns.map (·.1) = (es.take i).map (·.2)
section
variable {K : PySem.W.Frag} {H0 : Hp} {W : WX}
theorem isSome_map {α β : Type} (o : Option α) (f : α → β) : (o.map f).isSome = o.isSome := by cases o <;> rfl
abbrev pairsBody (K : PySem.W.Frag) (W : WX) : TS := (tSeq (tIfS (tOr (tNot (tB (tCall (SpP K A_entry) [] E0 (tCons (tVar 0) (tCons (tVar 6) tNil))))) (tOr (tB (tDIn (tOp (rIxT K) (tVar 6) (tC (.int 0))) (tVar 2))) (tB (tDIn (tOp (rIxT K) (tVar 6) (tC (.int 1))) (tVar 3))))) (tRaiseNT K W (tCons (tVar 5) tNil)) tNext)
    (tSeq (sDPut (tVar 2) (tOp (rIxT K) (tVar 6) (tC (.int 0))) (tC (.bl true)))
    (tSeq (sDPut (tVar 3) (tOp (rIxT K) (tVar 6) (tC (.int 1))) (tC (.bl true)))
    (tDrop (tBM K "list" rAppend (tVar 4) (tCons (tTup (tCons (tOp (rIxT K) (tCall (SpP K A_placeIn) [] E0 (tCons (tVar 0) (tCons (tOp (rIxT K) (tVar 6) (tC (.int 0))) tNil))) (tC (.int 0))) (tCons (tOp (rIxT K) (tCall (SpP K A_placeOut) [] E0 (tCons (tVar 0) (tCons (tOp (rIxT K) (tVar 6) (tC (.int 1))) tNil))) (tC (.int 0))) tNil))) tNil))))))
/-- a turn over a good entry -/
theorem pairs_good {h : Hall} {t c e f : Addr} {xs : List D} {es : List (Nat × Nat)} {i : Nat} {ds : List (Option D)} {L : Fp} {kk : Kt} {p : Nat × Nat} (ok : HallOk h) (hz : es.length ≤ 1000) (hv : Valid h es) (hp : es[i]? = some p) (hI : Pst h t c e f xs es i ds L)
    (hk : ∀ ds' L', Pst h t c e f xs es (i + 1) ds' L' → kk.nx ds' L') :
    Ag K H0 [] (gTup K 2 (gCons (gName 5) (gCons (gName 6) gNil))) (.tup [.int (i : Nat), dP p]) ds L fun d2 L2 => Tr K H0 [] (pairsBody K W) d2 L2 kk := by
  obtain ⟨x5, x6, cs, ns, rfl, hs, ec, en⟩ := hI
  have hi : i < es.length := (List.getElem?_eq_some_iff.mp hp).1
  have hm := List.mem_of_getElem? hp
  have htk : es.take (i + 1) = es.take i ++ [p] := by rw [List.take_succ, hp]; rfl
  have nd1 : p.1 ∉ (es.take i).map (·.1) := fun z => by
    have nd := hv.nc
    have e2 : es = es.take (i + 1) ++ es.drop (i + 1) := (List.take_append_drop _ _).symm
    rw [e2, htk, List.map_append, List.map_append] at nd
    exact (List.nodup_append.mp (List.nodup_append.mp nd).1).2.2 p.1 z p.1 (List.mem_singleton.mpr rfl) rfl
  have nd2 : p.2 ∉ (es.take i).map (·.2) := fun z => by
    have nd := hv.ne
    have e2 : es = es.take (i + 1) ++ es.drop (i + 1) := (List.take_append_drop _ _).symm
    rw [e2, htk, List.map_append, List.map_append] at nd
    exact (List.nodup_append.mp (List.nodup_append.mp nd).1).2.2 p.2 z p.2 (List.mem_singleton.mpr rfl) rfl
  have k1 : aget cs p.1 = none := aget_none.mpr (by rw [ec]; exact nd1)
  have k2 : aget ns p.2 = none := aget_none.mpr (by rw [en]; exact nd2)
  have lc : cs.length ≤ i := by
    have := congrArg List.length ec
    rw [List.length_map, List.length_map, List.length_take] at this
    omega
  have ln : ns.length ≤ i := by
    have := congrArg List.length en
    rw [List.length_map, List.length_map, List.length_take] at this
    omega
  refine ag_sub hs (ag_tup rfl (ags_cons (ag_name (ags_cons (ag_name (ags_nil ?_))))))
  refine tr_seq (tr_if (et_or (et_not (et_B (ea_callP (dd := []) (fun _ => rfl) (el_cons (ea_var rfl (el_cons (ea_var rfl (el_nil ⟨[], fun d N => d = .bl true ∧ N = [], .nil, ⟨h, .two (.int (p.1 : Nat)) (.int (p.2 : Nat)), rfl, rfl, ok, ?_⟩, ?_⟩))))))))))
  · rw [okE_valid hv hm]
    exact ⟨rfl, rfl⟩
  rintro d N ⟨rfl, rfl⟩
  refine ⟨_, rfl, cndF (et_or (et_B (ea_din (ea_op (ea_var rfl (ea_int (rb_t0 (ea_var rfl ⟨c, _, rfl, .tl (dg_K (f := dU) (d := cs) (k := p.1)), _, rfl, ?_⟩))))))))⟩
  rw [k1]
  refine cndF (et_B (ea_din (ea_op (ea_var rfl (ea_int (rb_t1 (ea_var rfl ⟨e, _, rfl, .tl (.tl (dg_K (f := dU) (d := ns) (k := p.2))), _, rfl, ?_⟩)))))))
  rw [k2]
  refine cndF (tr_next ?_)
  refine tr_seq (tr_dput (ea_bl (ea_var rfl (ea_op (ea_var rfl (ea_int (rb_t0 ⟨c, _, rfl, dp_K (f := dU) (d := cs) (k := p.1) (v := ()) (by repeat (first | exact Up.hd | apply Up.tl)) (by omega), ?_⟩)))))))
  refine tr_seq (tr_dput (ea_bl (ea_var rfl (ea_op (ea_var rfl (ea_int (rb_t1 ⟨e, _, rfl, dp_K (f := dU) (d := ns) (k := p.2) (v := ()) (by repeat (first | exact Up.hd | apply Up.tl)) (by omega), ?_⟩)))))))
  refine tr_drop (ea_bmL (ea_var rfl ⟨f, _, rfl, (by repeat (first | exact At.lst | exact At.ro | exact At.sc | apply At.tl)), el_cons (ea_tup (el_cons (ea_op (ea_callP (dd := []) (fun _ => rfl) (el_cons (ea_var rfl (el_cons (ea_op (ea_var rfl (ea_int (rb_t0 (el_nil ⟨[], fun d N => d = dP (p.1 / h.b, p.1 % h.b) ∧ N = [], .nil, ⟨h, p.1, rfl, rfl, ok, rfl, rfl⟩, ?_⟩))))))))))))⟩))
  rintro d N ⟨rfl, rfl⟩
  refine ea_int (rb_t0 (el_cons (ea_op (ea_callP (dd := []) (fun _ => rfl) (el_cons (ea_var rfl (el_cons (ea_op (ea_var rfl (ea_int (rb_t1 (el_nil ⟨[], fun d N => d = dP (p.2 / h.e, p.2 % h.e) ∧ N = [], .nil, ⟨h, p.2, rfl, rfl, ok, rfl, rfl⟩, ?_⟩))))))))))))
  rintro d N ⟨rfl, rfl⟩
  refine ea_int (rb_t0 (el_nil ⟨by show 2 ≤ 1000; decide, el_nil (rm_appendN (f := dP) (rks h p) (by repeat (first | exact Up.hd | apply Up.tl)) (by rw [List.length_map, List.length_take]; omega) ?_)⟩))
  refine hk _ _ ⟨_, _, aput cs p.1 (), aput ns p.2 (), rfl, ?_, ?_, ?_⟩
  · have e3 : (es.take (i + 1)).map (rks h) = (es.take i).map (rks h) ++ [rks h p] := by rw [htk, List.map_append]; rfl
    rw [e3]
    exact (by repeat (first | exact List.Sublist.refl _ | apply List.Sublist.cons_cons | exact List.nil_sublist _ | apply List.Sublist.cons))
  · rw [aput_new (aget_none.mp k1), List.map_append, ec, htk, List.map_append]
    rfl
  · rw [aput_new (aget_none.mp k2), List.map_append, en, htk, List.map_append]
    rfl
end
theorem rd_pairs_of {K : PySem.W.Frag} : ∀ vs H Q E, spPairs K vs H Q E → t_pairs_of K (fun cls d _ H => E cls d H) (SpP K A_entry) (SpP K A_placeIn) (SpP K A_placeOut) { nx := fun _ H' => Q .non H', rt := Q } (L2.start names_pairs_of vs) H := fun vs H Q E hsp => by
  rcases hsp with hsp | hsp
  · refine spP_body (fun H0 xs L P => ?_) hsp
    rintro ⟨t, h, es, rfl, rfl, ok, hz, hv, hp⟩
    refine tr_seq (tr_set (ea_dnewK fun c => ?_))
    refine tr_seq (tr_set (ea_dnewK fun e => ?_))
    refine tr_seq (tr_set (ea_lst (el_nil ⟨by show 0 ≤ 1000; decide, fun f => ?_⟩)))
    refine tr_seq (tr_forE es dP (Pst h t c e f (es.map dP) es) (el_cons (ea_var rfl (el_nil ⟨t, rfl, (by repeat (first | exact At.lst | exact At.ro | exact At.sc | apply At.tl)), ?_, ?_, ?_, ?_⟩))))
    · exact ⟨none, none, [], [], rfl, (by repeat (first | exact List.Sublist.refl _ | apply List.Sublist.cons_cons | exact List.nil_sublist _ | apply List.Sublist.cons)), rfl, rfl⟩
    · rintro i ds L ⟨x5, x6, cs, ns, rfl, hs, ec, en⟩
      exact at_sub hs At.ro
    · intro i ds L p hi hd hlt hI
      exact pairs_good ok hz hv hi hI fun ds' L' q => q
    · rintro ds L hd ⟨x5, x6, cs, ns, rfl, hs, ec, en⟩
      rw [List.take_length] at hs
      refine tr_sub hs (tr_ret (ea_var rfl ?_))
      exact ⟨_, hp f, rfl, (by repeat (first | exact List.Sublist.refl _ | apply List.Sublist.cons_cons | exact List.nil_sublist _ | apply List.Sublist.cons))⟩
  · refine spE_body (fun H0 xs L k => ?_) hsp
    rintro ⟨t, h, es, x, rest, rfl, rfl, ok, hz, hv, hb, rfl⟩ hE
    refine tr_seq (tr_set (ea_dnewK fun c => ?_))
    refine tr_seq (tr_set (ea_dnewK fun e => ?_))
    refine tr_seq (tr_set (ea_lst (el_nil ⟨by show 0 ≤ 1000; decide, fun f => ?_⟩)))
    have hlen : (es.map dP ++ dE x :: rest).length = es.length + (rest.length + 1) := by rw [List.length_append, List.length_map, List.length_cons]
    refine tr_seq (tr_for (ai_enum (el_cons (ea_var rfl (el_nil ⟨t, _, rfl, (by repeat (first | exact At.lst | exact At.ro | exact At.sc | apply At.tl)), fun i ds L => i ≤ es.length ∧ Pst h t c e f (es.map dP ++ dE x :: rest) es i ds L, ?_, ?_, ?_, ?_⟩)))))
    · exact ⟨Nat.zero_le _, none, none, [], [], rfl, (by repeat (first | exact List.Sublist.refl _ | apply List.Sublist.cons_cons | exact List.nil_sublist _ | apply List.Sublist.cons)), rfl, rfl⟩
    · rintro i ds L _ ⟨_, x5, x6, cs, ns, rfl, hs, ec, en⟩
      exact at_sub hs At.ro
    · rintro i ds L hi ⟨hle, hI⟩
      by_cases hlt : i < es.length
      · obtain ⟨p, hp⟩ : ∃ p, es[i]? = some p := ⟨_, List.getElem?_eq_getElem hlt⟩
        have eg : (es.map dP ++ dE x :: rest).getD i .non = dP p := by
          rw [List.getD_eq_getElem?_getD, List.getElem?_append_left (by rw [List.length_map]; exact hlt), List.getElem?_map, hp]
          rfl
        show Ag K H0 [] _ (.tup [.int (i : Nat), (es.map dP ++ dE x :: rest).getD i .non]) _ _ _
        rw [eg]
        exact pairs_good ok hz hv hp hI fun ds' L' q => ⟨hlt, q⟩
      · have ei : i = es.length := by omega
        subst ei
        have eg : (es.map dP ++ dE x :: rest).getD es.length .non = dE x := by
          rw [List.getD_eq_getElem?_getD, List.getElem?_append_right (by rw [List.length_map]; exact Nat.le_refl _), List.length_map, Nat.sub_self]
          rfl
        show Ag K H0 [] _ (.tup [.int (es.length : Nat), (es.map dP ++ dE x :: rest).getD es.length .non]) _ _ _
        rw [eg]
        obtain ⟨x5, x6, cs, ns, rfl, hs, ec, en⟩ := hI
        refine ag_sub hs (ag_tup rfl (ags_cons (ag_name (ags_cons (ag_name (ags_nil ?_))))))
        have raise : ∀ {kk : Kt} {L : Fp}, Tr K H0 [] (tRaiseNT K (fun cls d _ H => E cls d H) (tCons (tVar 5) tNil)) [some (dH h), some (.ref t), some (.ref c), some (.ref e), some (.ref f), some (.int (es.length : Nat)), some (dE x)] L kk :=
          tr_raiseNT (el_cons (ea_var rfl (el_nil ⟨_, rfl, fun d σ H' m n z => hE d H' m n z⟩)))
        refine tr_seq (tr_if (et_or (et_not (et_B (ea_callP (dd := []) (fun _ => rfl) (el_cons (ea_var rfl (el_cons (ea_var rfl (el_nil ⟨[], fun d N => d = .bl (okE h x) ∧ N = [], .nil, ⟨h, x, rfl, rfl, ok, rfl, rfl⟩, ?_⟩))))))))))
        rintro d N ⟨rfl, rfl⟩
        refine ⟨_, rfl, ?_⟩
        cases hk : okE h x with
        | false => exact cndT (cndT raise)
        | true =>
          refine cndF ?_
          rcases hb with hb | ⟨p, hp, rfl⟩
          · rw [hk] at hb; cases hb
          · have hm : p.1 ∈ cs.map (·.1) := by
              rw [ec, List.take_length]
              exact List.mem_map_of_mem hp
            obtain ⟨u, hu⟩ := Option.isSome_iff_exists.mp (aget_isSome.mpr hm)
            refine et_or (et_B (ea_din (ea_op (ea_var (d := dP p) rfl (ea_int (rb_t0 (ea_var rfl ⟨c, _, rfl, .tl (dg_K (f := dU) (d := cs) (k := p.1)), _, rfl, ?_⟩)))))))
            rw [hu]
            exact cndT (cndT raise)
    · rintro ds L ⟨hle, _⟩
      rw [hlen] at hle
      omega

def leftC (s : List (Nat × Nat)) (pl : List Nat) : List Nat := (List.range s.length).filterMap fun i => if i ∈ pl then none else (s[i]?).map (·.1)
abbrev Ans : Type := List (Nat × Nat × Nat) × List Nat × List Nat × List Nat
def manyR (h : Hall) (shut : Nat) (es : List (Nat × Nat)) : Option Ans := match greatest ((srt leP es).map (rks h)) (opens h shut).length with
  | none => none
  | some (pl, is, os) => match pick (srt leP es) pl with
    | none => none
    | some es2 => match once h shut es2 with
      | none => none
      | some cs => some (cs, leftC (srt leP es) pl, is, os)
/-- what at_once is handed may be joined -/
def ManyOk (h : Hall) (shut : Nat) (es : List (Nat × Nat)) : Prop := ∀ pl is os es2, greatest ((srt leP es).map (rks h)) (opens h shut).length = some (pl, is, os) → pick (srt leP es) pl = some es2 →
  Roomy ((srt leP es2).map (rks h)) (opens h shut).length ∧ Valid h es2 ∧ es2.length < 64
def A_many : List D → Fp → (D → Nw → Prop) → Prop := fun xs L P => ∃ (t : Addr) (h : Hall) (shut : Nat) (es : List (Nat × Nat)) (cs : List (Nat × Nat × Nat)) (lf is os : List Nat), xs = [dH h, .ref t, dN shut] ∧ L = [(t, false, .ro (es.map dP))] ∧ HallOk h ∧ es.length < 64 ∧ Valid h es ∧
  ManyOk h shut es ∧ manyR h shut es = some (cs, lf, is, os) ∧ ∀ p1 p2 p3 p4, P (.tup [.ref p1, .ref p2, .tup [.ref p3, .ref p4]]) [(p3, .lst (is.map dN)), (p4, .lst (os.map dN)), (p1, .lst (cs.map dC)), (p2, .lst (lf.map dN))]
def A_manyBad : List D → Fp → Int → Prop := fun xs L k => ∃ (t : Addr) (h : Hall) (shut : Nat) (es : List (Nat × Nat)) (x : Ent) (rest : List D), xs = [dH h, .ref t, dN shut] ∧ L = [(t, false, .ro (es.map dP ++ dE x :: rest))] ∧ HallOk h ∧ es.length ≤ 1000 ∧ Valid h es ∧ bad h es x ∧ k = (es.length : Nat)
def spMany (K : PySem.W.Frag) : Sp := fun vs H Q E => SpP K A_many vs H Q E ∨ SpE K A_manyBad vs H E
section
variable {K : PySem.W.Frag} {H0 H : Hp} {L L' : Fp} {ds : List (Option D)} {k : Kt}
theorem tr_callE {A : List D → Fp → Int → Prop} {sp : Sp} {dvs : List V} {dd : List D} {E : XK} {ta : TA} (hsp : ∀ vs H Q, SpE K A vs H E → sp vs H Q E) (hd : ∀ H, Rps H dd dvs) (h : El K H0 [] ta ds L fun xs L1 => ∃ Lc k0, Sb Lc L1 ∧ A (xs ++ dd) Lc k0 ∧ ∀ (d : Addr) (H' : Hp), Mo H0 H' → H0 d = none → H' d = some (.xd (plc k0)) → E (.ref (cNT K)) (some d) H') :
    Tr K H0 [] (tDrop (tCall sp dvs E ta)) ds L k := fun σ H E' a o =>
  h σ H _ a fun xs L1 vs H1 ⟨Lc, k0, sb, hA, hE⟩ r1 a1 e1 => hsp _ _ _ ⟨xs ++ dd, Lc, k0, r1.app (hd H1), sb.ow a1.ow, hA, fun d H' m n z =>
    hE d H' (fun b u hb => m b u (a1.ow.mo0 b u hb)) (a1.ow.fresh n) z⟩
end
theorem pick_len {α : Type} {ps : List α} {l : List Nat} {xs : List α} (h : pick ps l = some xs) : xs.length = l.length := (pick_fm h).2.2
theorem rd_as_many {K : PySem.W.Frag} : ∀ vs H Q E, spMany K vs H Q E → t_as_many K E (spPairs K) (SpP K A_opens) (SpP K A_gr) (SpP K A_once) { nx := fun _ H' => Q .non H', rt := Q } (L2.start names_as_many vs) H := fun vs H Q E hsp => by
  rcases hsp with hsp | hsp
  · refine spP_body (fun H0 xs L P => ?_) hsp
    rintro ⟨t, h, shut, es, cs, lf, is, os, rfl, rfl, ok, hz, hv, hmk, hr, hp⟩
    unfold manyR at hr
    cases hg : greatest ((srt leP es).map (rks h)) (opens h shut).length with
    | none => simp only [hg] at hr; cases hr
    | some g =>
    obtain ⟨pl, is', os'⟩ := g
    simp only [hg] at hr
    cases hk : pick (srt leP es) pl with
    | none => simp only [hk] at hr; cases hr
    | some es2 =>
    simp only [hk] at hr
    cases ho : once h shut es2 with
    | none => simp only [ho] at hr; cases hr
    | some cs' =>
    simp only [ho] at hr
    cases hr
    obtain ⟨m1, m2, m3⟩ := hmk pl is os es2 hg hk
    obtain ⟨k1, k2, k3⟩ := pick_fm hk
    have hsl : (srt leP es).length = es.length := (srt_perm leP es).length_eq
    refine tr_seq (tr_drop (ea_callS (A := A_pairs) (dd := []) (fun vs H Q z => Or.inl z) (fun _ => rfl) (el_cons (ea_var rfl (el_cons (ea_var rfl (el_nil ⟨[(t, false, .ro (es.map dP))], fun d N => ∃ p, d = .ref p ∧ N = [(p, .lst ((es.map (rks h)).map dP))], (by repeat (first | exact Sb.nil | refine Sb.keep (by first | exact Wk.rfl | exact Wk.ro | exact Wk.rT | exact Wk.rF) ?_ | apply Sb.skip)), ⟨t, h, es, rfl, rfl, ok, by omega, hv, fun p => ⟨p, rfl, rfl⟩⟩, ?_⟩)))))))
    rintro d N ⟨j, rfl, rfl⟩
    refine tr_seq (tr_set (ea_cb (el_cons (ea_var rfl (el_nil (rc_sortP (by repeat (first | exact At.lst | exact At.ro | exact At.sc | apply At.tl)) fun s => ?_))))))
    refine tr_seq (tr_asg (ea_callP (dd := []) (fun _ => rfl) (el_cons (ea_callS (A := A_pairs) (dd := []) (fun vs H Q z => Or.inl z) (fun _ => rfl) (el_cons (ea_var rfl (el_cons (ea_var rfl (el_nil ⟨[(s, false, .ro ((srt leP es).map dP))], fun d N => ∃ p, d = .ref p ∧ N = [(p, .lst (((srt leP es).map (rks h)).map dP))], (by repeat (first | exact Sb.nil | refine Sb.keep (by first | exact Wk.rfl | exact Wk.ro | exact Wk.rT | exact Wk.rF) ?_ | apply Sb.skip)), ⟨s, h, srt leP es, rfl, rfl, ok, by omega, hv.perm (srt_perm leP es), fun p => ⟨p, rfl, rfl⟩⟩, ?_⟩)))))))))
    rintro d N ⟨q, rfl, rfl⟩
    refine el_cons (ea_cb (el_cons (ea_callP (dd := []) (fun _ => rfl) (el_cons (ea_var rfl (el_cons (ea_var rfl (el_nil ⟨[], fun d N => ∃ p, d = .ref p ∧ N = [(p, .lst ((opens h shut).map dN))], .nil, ⟨h, shut, rfl, rfl, ok, fun p => ⟨p, rfl, rfl⟩⟩, ?_⟩))))))))
    rintro d N ⟨r, rfl, rfl⟩
    refine el_nil (rc_len (by repeat (first | exact At.lst | exact At.ro | exact At.sc | apply At.tl)) (el_nil ⟨[(q, false, .ro (((srt leP es).map (rks h)).map dP))], fun d N => ∃ p1 p2 p3, d = .tup [.ref p1, .tup [.ref p2, .ref p3]] ∧ N = [(p2, .lst (is.map dN)), (p3, .lst (os.map dN)), (p1, .lst (pl.map dN))], (by repeat (first | exact Sb.nil | refine Sb.keep (by first | exact Wk.rfl | exact Wk.ro | exact Wk.rT | exact Wk.rF) ?_ | apply Sb.skip)), ⟨q, (srt leP es).map (rks h), (opens h shut).length, pl, is, os, by rw [List.length_map]; rfl, rfl, by rw [List.length_map]; omega, hg, fun p1 p2 p3 => ⟨p1, p2, p3, rfl, rfl⟩⟩, ?_⟩))
    rintro d N ⟨p1, p2, p3, rfl, rfl⟩
    refine ag_tup rfl (ags_cons (ag_name (ags_cons (ag_name (ags_nil ?_)))))
    refine tr_seq (tr_set (ea_callP (dd := []) (fun _ => rfl) (el_cons (ea_var rfl (el_cons (ea_lcF pl dN dP (fun p => (srt leP es)[p]?) (gw_name (by simp)) (ea_var rfl ⟨p1, rfl, (by repeat (first | exact At.lst | exact At.ro | exact At.sc | apply At.tl)), by omega, ?_, fun a2 => ?_⟩)))))))
    · rintro i x E hx
      obtain ⟨z, hz'⟩ := k2 x (List.mem_of_getElem? hx)
      exact ag_name ⟨rfl, et_yes ⟨rfl, cndT (ea_op (ea_var rfl (ea_var rfl (rb_ixN (f := dP) (by repeat (first | exact At.lst | exact At.ro | exact At.sc | apply At.tl)) hz' ⟨rfl, z, rfl, hz'⟩))))⟩⟩
    rw [k1]
    refine el_cons (ea_var rfl (el_nil ⟨[(a2, false, .ro (es2.map dP))], fun d N => ∃ p, d = .ref p ∧ N = [(p, .lst (cs.map dC))], (by repeat (first | exact Sb.nil | refine Sb.keep (by first | exact Wk.rfl | exact Wk.ro | exact Wk.rT | exact Wk.rF) ?_ | apply Sb.skip)), ⟨a2, h, shut, es2, cs, rfl, rfl, ok, m3, m2, m1, ho, fun p => ⟨p, rfl, rfl⟩⟩, ?_⟩))
    rintro d N ⟨c, rfl, rfl⟩
    refine tr_seq (tr_set (ea_lcR dN (fun i => if i ∈ pl then none else ((srt leP es)[i]?).map (·.1)) (gw_name (by simp)) (el_cons (ea_cb (el_cons (ea_var rfl (el_nil (rc_len (by repeat (first | exact At.lst | exact At.ro | exact At.sc | apply At.tl)) (el_nil ⟨(srt leP es).length, by rw [List.length_map], by omega, ?_, fun l => ?_⟩)))))))))
    · rintro i E hi
      obtain ⟨x, hx⟩ : ∃ x, (srt leP es)[i]? = some x := ⟨_, List.getElem?_eq_getElem hi⟩
      refine ag_name ⟨rfl, et_test (ea_op (ea_var rfl (ea_var rfl (rb_ninN (ns := pl) (by repeat (first | exact At.lst | exact At.ro | exact At.sc | apply At.tl)) ⟨_, rfl, rfl, cndN (fun h => ?_) (fun h => ?_)⟩))))⟩
      · refine ea_op (ea_op (ea_var rfl (ea_var rfl (rb_ixN (f := dP) (by repeat (first | exact At.lst | exact At.ro | exact At.sc | apply At.tl)) hx (ea_int (rb_t0 ⟨rfl, x.1, rfl, ?_⟩))))))
        show (if i ∈ pl then none else ((srt leP es)[i]?).map (·.1)) = _
        rw [if_neg h, hx]
        rfl
      · show (if i ∈ pl then none else ((srt leP es)[i]?).map (·.1)) = none
        rw [if_pos h]
    refine tr_ret (ea_tup (el_cons (ea_var rfl (el_cons (ea_var rfl (el_cons (ea_var rfl (el_nil ⟨by show 3 ≤ 1000; decide, ?_⟩))))))))
    exact ⟨_, hp c l p2 p3, rfl, (by repeat (first | exact List.Sublist.refl _ | apply List.Sublist.cons_cons | exact List.nil_sublist _ | apply List.Sublist.cons))⟩
  · refine spE_body (fun H0 xs L k => ?_) hsp
    rintro ⟨t, h, shut, es, x, rest, rfl, rfl, ok, hz, hv, hb, rfl⟩ hE
    exact tr_seq (tr_callE (A := A_bad) (dd := []) (fun vs H Q z => Or.inr z) (fun _ => rfl) (el_cons (ea_var rfl (el_cons (ea_var rfl (el_nil ⟨[(t, false, .ro (es.map dP ++ dE x :: rest))], _, (by repeat (first | exact Sb.nil | refine Sb.keep (by first | exact Wk.rfl | exact Wk.ro | exact Wk.rT | exact Wk.rF) ?_ | apply Sb.skip)), ⟨t, h, es, x, rest, rfl, rfl, ok, hz, hv, hb, rfl⟩, hE⟩))))))
end XR
-- KRead10
set_option Elab.async false
set_option linter.all false
set_option maxRecDepth 100000
set_option maxHeartbeats 1000000
/-! the readings of _law_answer and law -/
namespace XR
open PySem PySem.Spec PyProof.Rows L2 XM
def A_ans : List D → Fp → (D → Nw → Prop) → Prop := fun xs L P => ∃ (t : Addr) (h : Hall) (shut : Nat) (told : Bool) (es : List (Nat × Nat)) (cs : List (Nat × Nat × Nat)) (lf is os : List Nat), xs = [dH h, .ref t, dN shut, .bl told] ∧ L = [(t, false, .ro (es.map dP))] ∧ HallOk h ∧ es.length < 64 ∧ Valid h es ∧
  ManyOk h shut es ∧ manyR h shut es = some (cs, lf, is, os) ∧ (told = false → shut = 0) ∧ ∀ p1 p2 p3 p4, P (.tup [.ref p1, .ref p2, .tup [.ref p3, .ref p4]]) [(p3, .lst (is.map dN)), (p4, .lst (os.map dN)), (p1, .lst (cs.map dC)), (p2, .lst (lf.map dN))]
theorem exPs (es : List (Nat × Nat)) : PyData.eqv (.list (es.map pP)) (.list (es.map pP)) = true := by
  have := exP.lst.eq es es
  rw [this]
  exact decide_eq_true rfl
theorem rd_answer {K : PySem.W.Frag} {spm : Sp} (hspm : ∀ vs H Q, SpP K A_many vs H Q E0 → spm vs H Q E0) : ∀ vs H Q E, SpP K A_ans vs H Q E → t_law_answer K spm { nx := fun _ H' => Q .non H', rt := Q } (L2.start names_law_answer vs) H := fun vs H Q E => spP_body fun H0 xs L P => by
  rintro ⟨t, h, shut, told, es, cs, lf, is, os, rfl, rfl, ok, hz, hv, hmk, hr, ht, hp⟩
  refine tr_seq (tr_set (ea_cb (el_cons (ea_var rfl (el_nil (rc_listL (by repeat (first | exact At.lst | exact At.ro | exact At.sc | apply At.tl)) fun d => ?_))))))
  have fin : ∀ (p1 p2 p3 p4 : Addr) (L : Fp), [(t, false, O.ro (es.map dP)), (d, true, .lst (es.map dP)), (p3, true, .lst (is.map dN)), (p4, true, .lst (os.map dN)), (p1, true, .lst (cs.map dC)), (p2, true, .lst (lf.map dN))].Sublist L →
      Tr K H0 [] (tSeq (tIfS (tOr (tTest (tOp (rNeD K) (tVar 4) (tVar 1))) (tOr (tNot (tB (tCB (rIsi K) (tCons (tVar 5) (tCons (tC (.ty "tuple")) tNil))))) (tTest (tOp rNe (tCB (rLenQ K) (tCons (tVar 5) tNil)) (tC (.int 3)))))) (tRet (tC .non)) tNext) (tRet (tVar 5)))
        [some (dH h), some (.ref t), some (dN shut), some (.bl told), some (.ref d), some (.tup [.ref p1, .ref p2, .tup [.ref p3, .ref p4]])] L (kP [(t, false, .ro (es.map dP))] P) := fun p1 p2 p3 p4 L hs => by
    refine tr_sub hs (tr_seq (tr_if (et_or (et_test (ea_op (ea_var rfl (ea_var rfl (rb_neD (p := .list (es.map pP)) (q := .list (es.map pP)) (.ref (by repeat (first | exact At.lst | exact At.ro | exact At.sc | apply At.tl)) (dds_map (dd_P _) es)) (.ref (by repeat (first | exact At.lst | exact At.ro | exact At.sc | apply At.tl)) (dds_map (dd_P _) es)) (exP.lst.shaped (by decide) es) (exP.lst.shaped (by decide) es) ⟨_, rfl, ?_⟩))))))))
    rw [exPs]
    refine cndF (et_or (et_not (et_B (ea_cb (el_cons (ea_var rfl (el_cons (ea_ty (el_nil (rc_isi (.tup _) (.ty _) kit_tt ⟨_, rfl, cndF (et_test (ea_op (ea_cb (el_cons (ea_var rfl (el_nil (rc_lenT (ea_int (rb_neI ⟨_, rfl, cndF (tr_next (tr_ret (ea_var rfl ?_)))⟩)))))))))⟩))))))))))
    exact ⟨_, hp p1 p2 p3 p4, rfl, (by repeat (first | exact List.Sublist.refl _ | apply List.Sublist.cons_cons | exact List.nil_sublist _ | apply List.Sublist.cons))⟩
  refine tr_seq (tr_if (et_B (ea_var rfl ⟨told, rfl, cndB (fun h1 => ?_) (fun h1 => ?_)⟩)))
  · refine tr_set (ea_callS (A := A_many) (dd := []) hspm (fun _ => rfl) (el_cons (ea_var rfl (el_cons (ea_var rfl (el_cons (ea_var rfl (el_nil ⟨[(d, false, .ro (es.map dP))], fun x N => ∃ p1 p2 p3 p4, x = .tup [.ref p1, .ref p2, .tup [.ref p3, .ref p4]] ∧ N = [(p3, .lst (is.map dN)), (p4, .lst (os.map dN)), (p1, .lst (cs.map dC)), (p2, .lst (lf.map dN))], (by repeat (first | exact Sb.nil | refine Sb.keep (by first | exact Wk.rfl | exact Wk.ro | exact Wk.rT | exact Wk.rF) ?_ | apply Sb.skip)),
      ⟨d, h, shut, es, cs, lf, is, os, rfl, rfl, ok, hz, hv, hmk, hr, fun p1 p2 p3 p4 => ⟨p1, p2, p3, p4, rfl, rfl⟩⟩, ?_⟩))))))))
    rintro x N ⟨p1, p2, p3, p4, rfl, rfl⟩
    exact fin p1 p2 p3 p4 _ (by repeat (first | exact List.Sublist.refl _ | apply List.Sublist.cons_cons | exact List.nil_sublist _ | apply List.Sublist.cons))
  · have e0 := ht h1
    subst e0
    refine tr_set (ea_callS (A := A_many) (dd := [dN 0]) hspm (fun _ => Rps.cons rfl Rps.nil) (el_cons (ea_var rfl (el_cons (ea_var rfl (el_nil ⟨[(d, false, .ro (es.map dP))], fun x N => ∃ p1 p2 p3 p4, x = .tup [.ref p1, .ref p2, .tup [.ref p3, .ref p4]] ∧ N = [(p3, .lst (is.map dN)), (p4, .lst (os.map dN)), (p1, .lst (cs.map dC)), (p2, .lst (lf.map dN))], (by repeat (first | exact Sb.nil | refine Sb.keep (by first | exact Wk.rfl | exact Wk.ro | exact Wk.rT | exact Wk.rF) ?_ | apply Sb.skip)),
      ⟨d, h, 0, es, cs, lf, is, os, rfl, rfl, ok, hz, hv, hmk, hr, fun p1 p2 p3 p4 => ⟨p1, p2, p3, p4, rfl, rfl⟩⟩, ?_⟩))))))
    rintro x N ⟨p1, p2, p3, p4, rfl, rfl⟩
    exact fin p1 p2 p3 p4 _ (by repeat (first | exact List.Sublist.refl _ | apply List.Sublist.cons_cons | exact List.nil_sublist _ | apply List.Sublist.cons))
/-- an answer as the law wants it -/
structure Good (h : Hall) (shut : Nat) (es : List (Nat × Nat)) (cs : List (Nat × Nat × Nat)) (lf is os : List Nat) : Prop where
  eq : manyR h shut es = some (cs, lf, is, os)
  ok : ManyOk h shut es
  calls : Calls h es shut cs
  clen : cs.length ≤ 1000
  i1 : is.Pairwise (· < ·)
  i2 : ∀ n ∈ is, n < 32
  o1 : os.Pairwise (· < ·)
  o2 : ∀ n ∈ os, n < 32
  l1 : lf.Pairwise (· < ·)
  l2 : ∀ n ∈ lf, n < h.a * h.b
  lf : lf = (srt leN (es.map (·.1))).filterMap fun c => if c ∈ cs.map (·.1) then none else some c
  cnt : cs.length = (opens h shut).length * (is.length + os.length) + bes is os (es.map (rks h))
/-- the plain law -/
def MathLaw : Prop := ∀ h shut es, HallOk h → Valid h es → es.length < 64 → ∃ cs lf is os, Good h shut es cs lf is os
theorem srtP_perm {es fs : List (Nat × Nat)} (p : fs.Perm es) : srt leP fs = srt leP es :=
  srt_uniq (le := fun a b => leP a b = true) leP_anti (srtP_srt fs) (srtP_srt es) (((srt_perm leP fs).trans p).trans (srt_perm leP es).symm)
theorem manyR_perm {h : Hall} {shut : Nat} {es fs : List (Nat × Nat)} (p : fs.Perm es) : manyR h shut fs = manyR h shut es := by
  unfold manyR
  rw [srtP_perm p]
theorem ManyOk.perm {h : Hall} {shut : Nat} {es fs : List (Nat × Nat)} (m : ManyOk h shut es) (p : fs.Perm es) : ManyOk h shut fs := by
  unfold ManyOk
  rw [srtP_perm p]
  exact m
end XR
-- KRead11
set_option Elab.async false
set_option linter.all false
set_option maxRecDepth 100000
set_option maxHeartbeats 4000000
/-! the reading of law -/
namespace XR
open PySem PySem.Spec PyProof.Rows L2 XM
section
variable {K : PySem.W.Frag} {H0 H : Hp} {M : List Addr} {L L' : Fp} {ds : List (Option D)} {P : D → Fp → Prop} {α : Type} {k : Kt}
theorem ea_cell {te tk : TE} {s : Addr} {ns : List Int} (n : Nat) (h1 : ∀ P', P' (.ref s) L → Ea K H0 M te ds L P') (h2 : ∀ P', P' (.int (n : Nat)) L → Ea K H0 M tk ds L P') (hs : Sb [(s, false, .sc (ns.map D.int))] L) (q : P (.int (ns.getD n 0)) L) :
    Ea K H0 M (tCall (SpP K A_cell) [] E0 (tCons te (tCons tk tNil))) ds L P := ea_callP (dd := []) (fun _ => rfl) (el_cons (h1 _ (el_cons (h2 _ (el_nil ⟨[(s, false, .sc (ns.map D.int))], fun d N => d = .int (ns.getD n 0) ∧ N = [], hs, ⟨s, ns, n, rfl, rfl, rfl, rfl⟩, fun d N ⟨e1, e2⟩ => by
      subst e1 e2
      show P _ (L ++ [])
      rw [List.append_nil]
      exact q⟩)))))
theorem tr_seqN {t u : TS} (N : List (Option D) → Fp → Prop) (h : Tr K H0 M t ds L { k with nx := N }) (q : ∀ ds' L', N ds' L' → Tr K H0 M u ds' L' k) : Tr K H0 M (tSeq t u) ds L k := fun σ H E A o =>
  h σ H _ A ⟨fun ds' L' σ' H' p a e => q _ _ p σ' H' E a (o.tx e), o.rt, o.bk, o.ct⟩
theorem rc_absN {i : Int} (q : ∀ v : Nat, P (.int (v : Nat)) L) : Rc K H0 M rAbs [.int i] L P := rc_abs (by
  have e : (if i < 0 then -i else i) = (((if i < 0 then -i else i).toNat : Nat) : Int) := by split <;> omega
  rw [e]
  exact q _)
end
theorem cut_drop {es : List (Nat × Nat)} {c : Nat} (h : c ≤ es.length) : cutD (es.map dP) (some ((c : Nat) : Int)) none = (es.drop c).map dP := by
  unfold cutD
  rw [HT.sIx_nat, HT.sIx_none, List.length_map, Nat.min_eq_left h, ← List.map_drop, List.take_of_length_le (by rw [List.length_map, List.length_drop]; exact Nat.le_refl _)]
theorem cut_take {es : List (Nat × Nat)} {c : Nat} (h : c ≤ es.length) : cutD (es.map dP) none (some ((c : Nat) : Int)) = (es.take c).map dP := by
  unfold cutD
  rw [HT.sIx_nat, HT.sIx_none, List.length_map, Nat.min_eq_left h, List.drop_zero, Nat.sub_zero, ← List.map_take]
abbrev pN (n : Nat) : PyData := .int (n : Nat)
abbrev pC (c : Nat × Nat × Nat) : PyData := .tuple [.int (c.1 : Nat), .tuple [.int (c.2.1 : Nat)], .int (c.2.2 : Nat)]
theorem pC_self (c : Nat × Nat × Nat) : PyData.eqv (pC c) (pC c) = true := by
  show ((((c.1 : Nat) : Int) == (c.1 : Nat)) && (((((c.2.1 : Nat) : Int) == (c.2.1 : Nat)) && true) && ((((c.2.2 : Nat) : Int) == (c.2.2 : Nat)) && true))) = true
  simp
theorem eqv_self {α : Type} {g : α → PyData} (h : ∀ x, PyData.eqv (g x) (g x) = true) : ∀ l : List α, PyData.eqvAll (l.map g) (l.map g) = true
  | [] => rfl
  | x :: l => by
    show (PyData.eqv (g x) (g x) && PyData.eqvAll (l.map g) (l.map g)) = true
    rw [h x, eqv_self h l]
    rfl
theorem pN_self (n : Nat) : PyData.eqv (pN n) (pN n) = true := by
  show ((n : Int) == (n : Int)) = true
  simp
/-- an answer as data -/
abbrev pA (cs : List (Nat × Nat × Nat)) (lf is os : List Nat) : PyData := .tuple [.list (cs.map pC), .list (lf.map pN), .tuple [.list (is.map pN), .list (os.map pN)]]
theorem pA_self (cs : List (Nat × Nat × Nat)) (lf is os : List Nat) : PyData.eqv (pA cs lf is os) (pA cs lf is os) = true := by
  show (PyData.eqvAll (cs.map pC) (cs.map pC) && (PyData.eqvAll (lf.map pN) (lf.map pN) && ((PyData.eqvAll (is.map pN) (is.map pN) && (PyData.eqvAll (os.map pN) (os.map pN) && true)) && true))) = true
  rw [eqv_self pC_self, eqv_self pN_self, eqv_self pN_self, eqv_self pN_self]
  rfl
theorem pA_shaped (cs : List (Nat × Nat × Nat)) (lf is os : List Nat) : SeqAt.shaped (pA cs lf is os) = true := by
  have l1 : PyData.canLayAll0 (cs.map pC) = true := lay_map (fun _ => rfl) cs
  have l2 : ∀ l : List Nat, PyData.canLayAll0 (l.map pN) = true := fun l => lay_map (fun _ => rfl) l
  have d1 : PyData.depthAll (cs.map pC) ≤ 2 := dep_map (fun c => by show max 0 (max (max 0 0 + 1) (max 0 0)) + 1 ≤ 2; decide) cs
  have d2 : ∀ l : List Nat, PyData.depthAll (l.map pN) ≤ 0 := fun l => dep_map (fun c => Nat.le_refl 0) l
  show ((PyData.canLayAll0 (cs.map pC) && (PyData.canLayAll0 (lf.map pN) && ((PyData.canLayAll0 (is.map pN) && (PyData.canLayAll0 (os.map pN) && true)) && true))) &&
    decide (max (PyData.depthAll (cs.map pC) + 1) (max (PyData.depthAll (lf.map pN) + 1) (max (max (PyData.depthAll (is.map pN) + 1) (max (PyData.depthAll (os.map pN) + 1) 0) + 1) 0)) + 1 ≤ 64)) = true
  rw [l1, l2, l2, l2, decide_eq_true (by have := d2 lf; have := d2 is; have := d2 os; omega)]
  rfl
theorem dd_C (L : Fp) (c : Nat × Nat × Nat) : Dd L (dC c) (pC c) := .tup (.cons (.int _) (.cons (.tup (.cons (.int _) .nil)) (.cons (.int _) .nil)))
theorem dd_A {L : Fp} {p1 p2 p3 p4 : Addr} {cs : List (Nat × Nat × Nat)} {lf is os : List Nat} (h1 : At L p1 (cs.map dC)) (h2 : At L p2 (lf.map dN)) (h3 : At L p3 (is.map dN)) (h4 : At L p4 (os.map dN)) : Dd L (.tup [.ref p1, .ref p2, .tup [.ref p3, .ref p4]]) (pA cs lf is os) :=
  .tup (.cons (.ref h1 (dds_map (dd_C L) cs)) (.cons (.ref h2 (dds_map (dN_dd L) lf)) (.cons (.tup (.cons (.ref h3 (dds_map (dN_dd L) is)) (.cons (.ref h4 (dds_map (dN_dd L) os)) .nil))) .nil)))
/-- the law's def asks no_table of a table and a list of one number -/
def A_not : List D → Addr → O → Fp → (D → O → Nw → Prop) → Prop := fun xs m o L P => ∃ (t : Addr) (h : Hall) (es : List (Nat × Nat)) (v : Nat), xs = [dH h, .ref t, .ref m] ∧ o = .lst ([v].map dN) ∧ L = [(t, false, .ro (es.map dP))] ∧ HallOk h ∧ Valid h es ∧ es.length ≤ 59 ∧ ∀ v', P (.bl true) (.lst ([v'].map dN)) []
def A_law : List D → Fp → (D → Nw → Prop) → Prop := fun xs L P => ∃ (s : Addr) (ns : List Int), xs = [.ref s] ∧ L = [(s, false, .sc (ns.map D.int))] ∧ ns.length ≤ 1000 ∧ P (.bl true) []
theorem rd_law {K : PySem.W.Frag} (hm : MathLaw) : ∀ vs H Q E, SpP K A_law vs H Q E → t_law K (SpP K A_cell) (SpP K A_hall) (SpP K A_table) (SpP K A_mixed) (SpM K A_not) (SpP K A_ans) (SpP K A_calls) (SpP K A_paper) (SpP K A_rising) (SpP K A_beside) { nx := fun _ H' => Q .non H', rt := Q } (L2.start names_law vs) H := fun vs H Q E => spP_body fun H0 xs L P => by
  rintro ⟨s, ns, rfl, rfl, hz, hp⟩
  refine tr_seq (tr_set (ea_callP (dd := []) (fun _ => rfl) (el_cons (ea_cell 0 (fun _ q => ea_var rfl q) (fun _ q => ea_int q) (by repeat (first | exact Sb.nil | refine Sb.keep (by first | exact Wk.rfl | exact Wk.ro | exact Wk.rT | exact Wk.rF) ?_ | apply Sb.skip)) (el_nil ⟨[], fun d N => ∃ h, d = dH h ∧ HallOk h ∧ N = [], .nil, ⟨ns.getD 0 0, rfl, rfl, fun h ok => ⟨h, rfl, ok, rfl⟩⟩, ?_⟩)))))
  rintro d N ⟨h, rfl, ok, rfl⟩
  refine tr_seq (tr_set (ea_callP (dd := []) (fun _ => rfl) (el_cons (ea_var rfl (el_cons (ea_var rfl (el_cons (ea_int (el_cons (ea_int (el_nil ⟨[(s, false, .sc (ns.map D.int))], fun d N => ∃ es p, d = .ref p ∧ Valid h es ∧ es.length ≤ 59 ∧ N = [(p, .lst (es.map dP))], (by repeat (first | exact Sb.nil | refine Sb.keep (by first | exact Wk.rfl | exact Wk.ro | exact Wk.rT | exact Wk.rF) ?_ | apply Sb.skip)), ⟨s, ns, h, rfl, rfl, hz, ok, fun es p v l => ⟨es, p, rfl, v, l, rfl⟩⟩, ?_⟩)))))))))))
  rintro d N ⟨es, t, rfl, hv, hl, rfl⟩
  have hl64 : es.length < 64 := by omega
  have ha := ok.a
  have hb := ok.b
  have hcc := ok.c
  have he := ok.e
  -- left
  refine tr_seq (tr_set (ea_lst (el_cons (ea_callP (dd := []) (fun _ => rfl) (el_cons (ea_cell 3 (fun _ q => ea_var rfl q) (fun _ q => ea_int q) (by repeat (first | exact Sb.nil | refine Sb.keep (by first | exact Wk.rfl | exact Wk.ro | exact Wk.rT | exact Wk.rF) ?_ | apply Sb.skip)) (el_cons (ea_int (el_nil ⟨[], fun d N => d = dN (mixed (ns.getD 3 0) 5) ∧ N = [], .nil, ⟨ns.getD 3 0, 5, rfl, rfl, by decide, rfl, rfl⟩, ?_⟩)))))))))
  rintro d N ⟨rfl, rfl⟩
  refine el_nil ⟨by show 1 ≤ 1000; decide, fun l0 => ?_⟩
  refine tr_seqN (fun ds' L' => ∃ (l : Addr) (v : Nat), ds' = [some (.ref s), some (dH h), some (.ref t), some (.ref l), none, none, none, none, none, none, none, none, none, none, none, none] ∧ [(s, false, O.sc (ns.map D.int)), (t, true, .lst (es.map dP)), (l, true, .lst ([v].map dN))].Sublist L')
    (tr_if (et_test (ea_op (ea_op (ea_cell 0 (fun _ q => ea_var rfl q) (fun _ q => ea_int q) (by repeat (first | exact Sb.nil | refine Sb.keep (by first | exact Wk.rfl | exact Wk.ro | exact Wk.rT | exact Wk.rF) ?_ | apply Sb.skip)) (ea_int (rb_mod (by decide) (ea_int (rb_eqI ⟨_, rfl, cndD (fun z => ?_) (fun z => ?_)⟩))))))))) ?_
  · refine tr_set (ea_lst (el_cons (ea_cb (el_cons (ea_cell 6 (fun _ q => ea_var rfl q) (fun _ q => ea_int q) (by repeat (first | exact Sb.nil | refine Sb.keep (by first | exact Wk.rfl | exact Wk.ro | exact Wk.rT | exact Wk.rF) ?_ | apply Sb.skip)) (el_nil (rc_absN fun v => el_nil ⟨by show 1 ≤ 1000; decide, fun l1 => ?_⟩)))))))
    exact ⟨l1, v, rfl, (by repeat (first | exact List.Sublist.refl _ | apply List.Sublist.cons_cons | exact List.nil_sublist _ | apply List.Sublist.cons))⟩
  · exact tr_next ⟨l0, _, rfl, (by repeat (first | exact List.Sublist.refl _ | apply List.Sublist.cons_cons | exact List.nil_sublist _ | apply List.Sublist.cons))⟩
  rintro ds L ⟨l, v, rfl, hs⟩
  refine tr_sub hs ?_
  clear hs
  refine tr_seq (tr_if (et_not (et_B (ea_callM (dd := []) (fun _ => rfl) (el_cons (ea_var rfl (el_cons (ea_var rfl (el_cons (ea_var rfl (el_nil ⟨l, .lst ([v].map dN), [(t, false, .ro (es.map dP))], fun d o' N => ∃ v', d = .bl true ∧ o' = .lst ([v'].map dN) ∧ N = [], (by repeat (first | refine Sm.here (by repeat (first | exact Sb.nil | refine Sb.keep (by first | exact Wk.rfl | exact Wk.ro | exact Wk.rT | exact Wk.rF) ?_ | apply Sb.skip)) (by repeat (first | exact hc_nil | refine hc_cons ?_ rfl)) | refine Sm.keep (by first | exact Wk.rfl | exact Wk.ro | exact Wk.rT | exact Wk.rF) rfl ?_ | apply Sm.skip)), ⟨rfl, rfl⟩, ⟨t, h, es, v, rfl, rfl, rfl, ok, hv, hl, fun v' => ⟨v', rfl, rfl, rfl⟩⟩, ?_⟩)))))))))))
  rintro d o' N ⟨v', rfl, rfl, rfl⟩
  refine ⟨⟨rfl, rfl⟩, _, (by repeat (first | exact Up.hd | apply Up.tl)), _, rfl, cndF (tr_next ?_)⟩
  -- told, shut
  refine tr_seq (tr_set (ea_op (ea_op (ea_cell 2 (fun _ q => ea_var rfl q) (fun _ q => ea_int q) (by repeat (first | exact Sb.nil | refine Sb.keep (by first | exact Wk.rfl | exact Wk.ro | exact Wk.rT | exact Wk.rF) ?_ | apply Sb.skip)) (ea_int (rb_mod (by decide) (ea_int (rb_eqI ?_))))))))
  generalize decide (ns.getD 2 0 % 3 = 0) = told
  refine tr_seq (tr_set (ea_int ?_))
  have pw : ∀ n : Nat, n ≤ 24 → ((1 : Int) * 2 ^ ((n : Nat) : Int).toNat) = ((2 ^ n : Nat) : Int) ∧ 0 < 2 ^ n := fun n _ => by
    rw [Int.one_mul, Int.toNat_natCast, Int.natCast_pow]
    exact ⟨rfl, Nat.two_pow_pos n⟩
  obtain ⟨pw1, pw2⟩ := pw h.c hcc.2
  refine tr_seqN (fun ds' L' => ∃ (shut : Nat), (told = false → shut = 0) ∧ ds' = [some (.ref s), some (dH h), some (.ref t), some (.ref l), some (.bl told), some (dN shut), none, none, none, none, none, none, none, none, none, none] ∧ [(s, false, O.sc (ns.map D.int)), (t, true, .lst (es.map dP)), (l, true, .lst ([v'].map dN))].Sublist L')
    (tr_if (et_B (ea_var rfl ⟨told, rfl, cndB (fun z => ?_) (fun z => ?_)⟩))) ?_
  · refine tr_seq (tr_set (ea_op (ea_callP (dd := []) (fun _ => rfl) (el_cons (ea_cell 3 (fun _ q => ea_var rfl q) (fun _ q => ea_int q) (by repeat (first | exact Sb.nil | refine Sb.keep (by first | exact Wk.rfl | exact Wk.ro | exact Wk.rT | exact Wk.rF) ?_ | apply Sb.skip)) (el_cons (ea_int (el_nil ⟨[], fun d N => d = dN (mixed (ns.getD 3 0) 3) ∧ N = [], .nil, ⟨ns.getD 3 0, 3, rfl, rfl, by decide, rfl, rfl⟩, ?_⟩))))))))
    rintro d N ⟨rfl, rfl⟩
    refine ea_op (ea_int (ea_op (ea_var rfl (ea_int (rb_h2 (rb_shl (i := 1) (j := ((h.c : Nat) : Int)) ⟨by omega, by omega, by decide⟩ ?_))))))
    rw [pw1]
    refine rb_modN pw2 ?_
    refine tr_if (et_test (ea_op (ea_op (ea_cell 0 (fun _ q => ea_var rfl q) (fun _ q => ea_int q) (by repeat (first | exact Sb.nil | refine Sb.keep (by first | exact Wk.rfl | exact Wk.ro | exact Wk.rT | exact Wk.rF) ?_ | apply Sb.skip)) (ea_int (rb_mod (by decide) (ea_int (rb_eqI ⟨_, rfl, cndD (fun z1 => ?_) (fun z2 => ?_)⟩))))))))
    · refine tr_set (ea_op (ea_cb (el_cons (ea_cell 3 (fun _ q => ea_var rfl q) (fun _ q => ea_int q) (by repeat (first | exact Sb.nil | refine Sb.keep (by first | exact Wk.rfl | exact Wk.ro | exact Wk.rT | exact Wk.rF) ?_ | apply Sb.skip)) (el_nil (rc_absN fun v => ea_op (ea_int (ea_op (ea_var rfl (ea_int (rb_h2 (rb_shl (i := 1) (j := ((h.c : Nat) : Int)) ⟨by omega, by omega, by decide⟩ ?_))))))))))))
      rw [pw1]
      exact rb_modN pw2 ⟨_, fun z3 => (by rw [z] at z3; cases z3), rfl, (by repeat (first | exact List.Sublist.refl _ | apply List.Sublist.cons_cons | exact List.nil_sublist _ | apply List.Sublist.cons))⟩
    · exact tr_next ⟨_, fun z3 => (by rw [z] at z3; cases z3), rfl, (by repeat (first | exact List.Sublist.refl _ | apply List.Sublist.cons_cons | exact List.nil_sublist _ | apply List.Sublist.cons))⟩
  · exact tr_next ⟨0, fun _ => rfl, rfl, (by repeat (first | exact List.Sublist.refl _ | apply List.Sublist.cons_cons | exact List.nil_sublist _ | apply List.Sublist.cons))⟩
  rintro ds L ⟨shut, hsh, rfl, hs⟩
  refine tr_sub hs ?_
  clear hs
  obtain ⟨cs, lf, is, os, G⟩ := hm h shut es ok hv hl64
  -- found
  refine tr_seq (tr_set (ea_callP (dd := []) (fun _ => rfl) (el_cons (ea_var rfl (el_cons (ea_var rfl (el_cons (ea_var rfl (el_cons (ea_var rfl (el_nil ⟨[(t, false, .ro (es.map dP))], fun x N => ∃ p1 p2 p3 p4, x = .tup [.ref p1, .ref p2, .tup [.ref p3, .ref p4]] ∧ N = [(p3, .lst (is.map dN)), (p4, .lst (os.map dN)), (p1, .lst (cs.map dC)), (p2, .lst (lf.map dN))], (by repeat (first | exact Sb.nil | refine Sb.keep (by first | exact Wk.rfl | exact Wk.ro | exact Wk.rT | exact Wk.rF) ?_ | apply Sb.skip)),
    ⟨t, h, shut, told, es, cs, lf, is, os, rfl, rfl, ok, hl64, hv, G.ok, G.eq, hsh, fun p1 p2 p3 p4 => ⟨p1, p2, p3, p4, rfl, rfl⟩⟩, ?_⟩)))))))))))
  rintro x N ⟨p1, p2, p3, p4, rfl, rfl⟩
  refine tr_sub (L1 := [(s, false, O.sc (ns.map D.int)), (t, true, .lst (es.map dP)), (p3, true, .lst (is.map dN)), (p4, true, .lst (os.map dN)), (p1, true, .lst (cs.map dC)), (p2, true, .lst (lf.map dN))]) (by repeat (first | exact List.Sublist.refl _ | apply List.Sublist.cons_cons | exact List.nil_sublist _ | apply List.Sublist.cons)) ?_
  refine tr_seq (tr_if (et_or (et_test (ea_op (ea_var rfl (ea_non (rb_isN ⟨_, rfl, cndF ?_⟩)))))))
  refine et_or (et_not (et_B (ea_callP (dd := []) (fun _ => rfl) (el_cons (ea_var rfl (el_cons (ea_op (ea_var rfl (ea_int (rb_t0 (el_cons (ea_var rfl (el_cons (ea_var rfl (el_nil ⟨[(t, false, .ro (es.map dP)), (p1, false, .ro (cs.map dC))], fun d N => d = .bl true ∧ N = [], (by repeat (first | exact Sb.nil | refine Sb.keep (by first | exact Wk.rfl | exact Wk.ro | exact Wk.rT | exact Wk.rF) ?_ | apply Sb.skip)), ⟨p1, t, h, es, shut, cs, rfl, rfl, ok, G.clen, G.calls, rfl, rfl⟩, ?_⟩)))))))))))))))
  rintro d N ⟨rfl, rfl⟩
  refine ⟨_, rfl, cndF (et_not (et_B (ea_callP (dd := []) (fun _ => rfl) (el_cons (ea_op (ea_var rfl (ea_int (rb_ixT (d := .tup [.ref p3, .ref p4]) rfl (el_nil ⟨[(p3, false, .ro (is.map dN)), (p4, false, .ro (os.map dN))], fun d N => d = .bl true ∧ N = [], (by repeat (first | exact Sb.nil | refine Sb.keep (by first | exact Wk.rfl | exact Wk.ro | exact Wk.rT | exact Wk.rF) ?_ | apply Sb.skip)), ⟨p3, p4, is, os, rfl, rfl, G.i1, G.i2, G.o1, G.o2, rfl, rfl⟩, ?_⟩)))))))))⟩
  rintro d N ⟨rfl, rfl⟩
  refine ⟨_, rfl, cndF (tr_next ?_)⟩
  -- joined
  refine tr_seq (tr_set (ea_lcF cs dC dN (fun c => some c.1) (gw_name (by simp)) (ea_op (ea_var rfl (ea_int (rb_t0 ⟨p1, rfl, (by repeat (first | exact At.lst | exact At.ro | exact At.sc | apply At.tl)), by have := G.clen; omega, ?_, fun j => ?_⟩))))))
  · rintro i c E hc
    exact ag_name ⟨rfl, et_yes ⟨rfl, cndT (ea_op (ea_var (d := dC c) rfl (ea_int (rb_t0 ⟨rfl, c.1, rfl, rfl⟩))))⟩⟩
  have ej : cs.filterMap (fun c => some c.1) = cs.map (·.1) := by
    rw [List.filterMap_eq_map']
  rw [ej]
  -- left
  refine tr_seq (tr_set (ea_lcF (srt leN (es.map (·.1))) dN dN (fun c => if c ∈ cs.map (·.1) then none else some c) (gw_name (by simp)) (ea_cb (el_cons (ea_lcF es dP dN (fun e => some e.1) (gw_name (by simp)) (ea_var rfl ⟨t, rfl, (by repeat (first | exact At.lst | exact At.ro | exact At.sc | apply At.tl)), by omega, ?_, fun q => ?_⟩))))))
  · rintro i e E hc
    exact ag_name ⟨rfl, et_yes ⟨rfl, cndT (ea_op (ea_var (d := dP e) rfl (ea_int (rb_t0 ⟨rfl, e.1, rfl, rfl⟩))))⟩⟩
  have eq1 : es.filterMap (fun e => some e.1) = es.map (·.1) := by
    rw [List.filterMap_eq_map']
  rw [eq1]
  refine el_nil (rc_sortN (ns := es.map (·.1)) (by repeat (first | exact At.lst | exact At.ro | exact At.sc | apply At.tl)) fun q2 => ⟨q2, rfl, (by repeat (first | exact At.lst | exact At.ro | exact At.sc | apply At.tl)), by rw [(srt_perm leN _).length_eq, List.length_map]; omega, ?_, fun r => ?_⟩)
  · rintro i c E hc
    refine ag_name ⟨rfl, et_test (ea_op (ea_var rfl (ea_var rfl (rb_ninN (ns := cs.map (·.1)) (by repeat (first | exact At.lst | exact At.ro | exact At.sc | apply At.tl)) ⟨_, rfl, rfl, cndN (fun z => ?_) (fun z => ?_)⟩))))⟩
    · exact ea_var rfl ⟨rfl, c, rfl, by rw [if_neg z]⟩
    · rw [if_pos z]
  rw [← G.lf]
  refine tr_sub (L1 := [(s, false, O.sc (ns.map D.int)), (t, true, .lst (es.map dP)), (p3, true, .lst (is.map dN)), (p4, true, .lst (os.map dN)), (p1, true, .lst (cs.map dC)), (p2, true, .lst (lf.map dN)), (r, true, .lst (lf.map dN))]) (by repeat (first | exact List.Sublist.refl _ | apply List.Sublist.cons_cons | exact List.nil_sublist _ | apply List.Sublist.cons)) ?_
  refine tr_seq (tr_if (et_or (et_not (et_B (ea_callP (dd := []) (fun _ => rfl) (el_cons (ea_op (ea_var rfl (ea_int (rb_t1 (el_cons (ea_op (ea_op (ea_var rfl (ea_int (rb_h0 (ea_op (ea_var rfl (ea_int (rb_h1 (rb_mulN (by omega) (el_nil ⟨[(p2, false, .ro (lf.map dN))], fun d N => d = .bl true ∧ N = [], (by repeat (first | exact Sb.nil | refine Sb.keep (by first | exact Wk.rfl | exact Wk.ro | exact Wk.rT | exact Wk.rF) ?_ | apply Sb.skip)), ⟨p2, lf, h.a * h.b, rfl, rfl, G.l1, G.l2, rfl, rfl⟩, ?_⟩))))))))))))))))))))))
  rintro d N ⟨rfl, rfl⟩
  refine ⟨_, rfl, cndF (et_test (ea_op (ea_op (ea_var rfl (ea_int (rb_t1 (ea_var rfl (rb_neD (p := .list (lf.map pN)) (q := .list (lf.map pN)) (.ref (by repeat (first | exact At.lst | exact At.ro | exact At.sc | apply At.tl)) (dds_map (dN_dd _) lf)) (.ref (by repeat (first | exact At.lst | exact At.ro | exact At.sc | apply At.tl)) (dds_map (dN_dd _) lf)) ?_ ?_ ⟨_, rfl, ?_⟩))))))))⟩
  · exact Ex.nat.lst.shaped (by decide) lf
  · exact Ex.nat.lst.shaped (by decide) lf
  have eqn : PyData.eqv (.list (lf.map pN)) (.list (lf.map pN)) = true := eqv_self pN_self lf
  rw [eqn]
  refine cndF (tr_next ?_)
  -- many
  refine tr_seq (tr_set (ea_cb (el_cons (ea_lcR dN (fun k => if shut / 2 ^ k % 2 = 0 then some k else none) (gw_name (by simp)) (el_cons (ea_op (ea_var rfl (ea_int (rb_h2 (el_nil ⟨h.c, rfl, by omega, ?_, fun m => ?_⟩))))))))))
  · rintro i E hi
    refine ag_name ⟨rfl, et_test (ea_op (ea_op (ea_op (ea_var rfl (ea_var rfl (rb_shr (by omega) (ea_int (rb_mod (by decide) (ea_int (rb_eqI ⟨_, rfl, rfl, ?_⟩))))))))))⟩
    have e : ((shut : Int) / 2 ^ ((i : Nat) : Int).toNat % 2 = 0) ↔ shut / 2 ^ i % 2 = 0 := by
      rw [Int.toNat_natCast]
      have e2 : (shut : Int) / 2 ^ i % 2 = ((shut / 2 ^ i % 2 : Nat) : Int) := by
        rw [Int.natCast_emod, Int.natCast_ediv, Int.natCast_pow]
        rfl
      rw [e2]
      omega
    refine cndD (fun z => ?_) (fun z => ?_)
    · exact ea_var rfl ⟨rfl, i, rfl, by rw [if_pos (e.mp z)]⟩
    · rw [if_neg (fun y => z (e.mpr y))]
  refine el_nil (rc_len (by repeat (first | exact At.lst | exact At.ro | exact At.sc | apply At.tl)) ?_)
  have em : (((List.range h.c).filterMap fun k => if shut / 2 ^ k % 2 = 0 then some k else none).map dN).length = (opens h shut).length := by
    rw [List.length_map]
    rfl
  rw [em]
  -- pairs
  refine tr_seq (tr_set (ea_lcF es dP dP (fun e => some (rks h e)) (gw_name (by simp)) (ea_var rfl ⟨t, rfl, (by repeat (first | exact At.lst | exact At.ro | exact At.sc | apply At.tl)), by omega, ?_, fun q3 => ?_⟩)))
  · rintro i e E hc
    refine ag_name ⟨rfl, et_yes ⟨rfl, cndT (ea_tup (el_cons (ea_op (ea_op (ea_var (d := dP e) rfl (ea_int (rb_t0 (ea_op (ea_var rfl (ea_int (rb_h1 (rb_divN (by omega) (by omega) (el_cons (ea_op (ea_op (ea_var (d := dP e) rfl (ea_int (rb_t1 (ea_op (ea_var rfl (ea_int (rb_h4 (rb_divN (by omega) (by omega) (el_nil ⟨by show 2 ≤ 1000; decide, rfl, rks h e, rfl, rfl⟩))))))))))))))))))))))))⟩⟩
  have ep : es.filterMap (fun e => some (rks h e)) = es.map (rks h) := by
    rw [List.filterMap_eq_map']
  rw [ep]
  refine tr_sub (L1 := [(s, false, O.sc (ns.map D.int)), (t, true, .lst (es.map dP)), (p3, true, .lst (is.map dN)), (p4, true, .lst (os.map dN)), (p1, true, .lst (cs.map dC)), (p2, true, .lst (lf.map dN)), (q3, true, .lst ((es.map (rks h)).map dP))]) (by repeat (first | exact List.Sublist.refl _ | apply List.Sublist.cons_cons | exact List.nil_sublist _ | apply List.Sublist.cons)) ?_
  -- racks
  refine tr_seq (tr_set (ea_op (ea_cb (el_cons (ea_op (ea_op (ea_var rfl (ea_int (rb_ixT (d := .tup [.ref p3, .ref p4]) rfl (ea_int (rb_t0 (el_nil (rc_len (by repeat (first | exact At.lst | exact At.ro | exact At.sc | apply At.tl)) (ea_cb (el_cons (ea_op (ea_op (ea_var rfl (ea_int (rb_ixT (d := .tup [.ref p3, .ref p4]) rfl (ea_int (rb_t1 (el_nil (rc_len (by repeat (first | exact At.lst | exact At.ro | exact At.sc | apply At.tl)) (rb_addN ?_)))))))))))))))))))))))))
  rw [List.length_map, List.length_map]
  refine tr_seq (tr_if (et_test (ea_op (ea_cb (el_cons (ea_op (ea_var rfl (ea_int (rb_t0 (el_nil (rc_len (by repeat (first | exact At.lst | exact At.ro | exact At.sc | apply At.tl)) (ea_op (ea_op (ea_var rfl (ea_var rfl (rb_mulN ?_ (ea_callP (dd := []) (fun _ => rfl) (el_cons (ea_var rfl (el_cons (ea_op (ea_var rfl (ea_int (rb_ixT (d := .tup [.ref p3, .ref p4]) rfl (el_nil ⟨[(p3, false, .ro (is.map dN)), (p4, false, .ro (os.map dN)), (q3, false, .ro ((es.map (rks h)).map dP))], fun d N => d = dN (bes is os (es.map (rks h))) ∧ N = [], (by repeat (first | exact Sb.nil | refine Sb.keep (by first | exact Wk.rfl | exact Wk.ro | exact Wk.rT | exact Wk.rF) ?_ | apply Sb.skip)), ⟨q3, p3, p4, es.map (rks h), is, os, rfl, rfl, rfl, rfl⟩, ?_⟩)))))))))))))))))))))))))
  · have h1 : (opens h shut).length ≤ h.c := by
      unfold opens
      refine Nat.le_trans (List.length_filterMap_le _ _) ?_
      rw [List.length_range]
      exact Nat.le_refl _
    omega
  rintro d N ⟨rfl, rfl⟩
  refine rb_addN (rb_neI ⟨_, rfl, ?_⟩)
  rw [List.length_map, ← G.cnt, decide_eq_true rfl]
  refine cndF (tr_next ?_)
  -- cut
  have ecut : ∀ i : Int, ∃ c : Nat, i % ((es.length : Int) + 1) = (c : Int) ∧ c ≤ es.length := fun i => ⟨(i % ((es.length : Int) + 1)).toNat, by have := Int.emod_nonneg i (show (es.length : Int) + 1 ≠ 0 by omega); omega, by
    have := Int.emod_lt_of_pos i (show 0 < (es.length : Int) + 1 by omega)
    omega⟩
  obtain ⟨cut, ec, hcut⟩ := ecut (ns.getD 5 0)
  refine tr_seq (tr_set (ea_op (ea_cell 5 (fun _ q => ea_var rfl q) (fun _ q => ea_int q) (by repeat (first | exact Sb.nil | refine Sb.keep (by first | exact Wk.rfl | exact Wk.ro | exact Wk.rT | exact Wk.rF) ?_ | apply Sb.skip)) (ea_op (ea_cb (el_cons (ea_var rfl (el_nil (rc_len (by repeat (first | exact At.lst | exact At.ro | exact At.sc | apply At.tl)) (ea_int (rb_add (rb_mod ?_ ?_))))))))))))
  · rw [List.length_map]
    omega
  rw [List.length_map, ec]
  have p1' : (es.drop cut ++ es.take cut).Perm es := (List.perm_append_comm).trans (by rw [List.take_append_drop])
  have p2' : es.reverse.Perm es := List.reverse_perm es
  refine tr_seq (tr_if (et_test (ea_op (ea_callP (dd := []) (fun _ => rfl) (el_cons (ea_var rfl (el_cons (ea_op (ea_sl (ea_var rfl (eo_some (ea_var rfl ⟨(cut : Nat), rfl, eo_none ⟨t, es.map dP, rfl, (by repeat (first | exact At.lst | exact At.ro | exact At.sc | apply At.tl)), fun a1 => ?_⟩⟩))))))))))))
  rw [cut_drop hcut]
  refine ea_sl (ea_var rfl (eo_none (eo_some (ea_var rfl ⟨(cut : Nat), rfl, t, es.map dP, rfl, (by repeat (first | exact At.lst | exact At.ro | exact At.sc | apply At.tl)), fun a2 => ?_⟩))))
  rw [cut_take hcut]
  refine rb_cat (xs := (es.drop cut).map dP) (ys := (es.take cut).map dP) ⟨true, (by repeat (first | exact List.mem_cons_self | apply List.mem_cons_of_mem))⟩ ⟨true, (by repeat (first | exact List.mem_cons_self | apply List.mem_cons_of_mem))⟩ (by rw [List.length_map, List.length_map, List.length_drop, List.length_take]; omega) fun a3 => ?_
  rw [← List.map_append]
  refine el_cons (ea_var rfl (el_cons (ea_var rfl (el_nil ⟨[(a3, false, .ro ((es.drop cut ++ es.take cut).map dP))], fun x N => ∃ p1 p2 p3 p4, x = .tup [.ref p1, .ref p2, .tup [.ref p3, .ref p4]] ∧ N = [(p3, .lst (is.map dN)), (p4, .lst (os.map dN)), (p1, .lst (cs.map dC)), (p2, .lst (lf.map dN))], (by repeat (first | exact Sb.nil | refine Sb.keep (by first | exact Wk.rfl | exact Wk.ro | exact Wk.rT | exact Wk.rF) ?_ | apply Sb.skip)),
    ⟨a3, h, shut, told, es.drop cut ++ es.take cut, cs, lf, is, os, rfl, rfl, ok, by rw [p1'.length_eq]; omega, hv.perm p1', G.ok.perm p1', by rw [manyR_perm p1']; exact G.eq, hsh, fun p1 p2 p3 p4 => ⟨p1, p2, p3, p4, rfl, rfl⟩⟩, ?_⟩))))
  rintro x N ⟨r1, r2, r3, r4, rfl, rfl⟩
  refine ea_var rfl (rb_neD (p := pA cs lf is os) (q := pA cs lf is os) (dd_A (by repeat (first | exact At.lst | exact At.ro | exact At.sc | apply At.tl)) (by repeat (first | exact At.lst | exact At.ro | exact At.sc | apply At.tl)) (by repeat (first | exact At.lst | exact At.ro | exact At.sc | apply At.tl)) (by repeat (first | exact At.lst | exact At.ro | exact At.sc | apply At.tl))) (dd_A (by repeat (first | exact At.lst | exact At.ro | exact At.sc | apply At.tl)) (by repeat (first | exact At.lst | exact At.ro | exact At.sc | apply At.tl)) (by repeat (first | exact At.lst | exact At.ro | exact At.sc | apply At.tl)) (by repeat (first | exact At.lst | exact At.ro | exact At.sc | apply At.tl))) (pA_shaped cs lf is os) (pA_shaped cs lf is os) ⟨_, rfl, ?_⟩)
  rw [pA_self]
  refine cndF (tr_next ?_)
  refine tr_sub (L1 := [(s, false, O.sc (ns.map D.int)), (t, true, .lst (es.map dP)), (p3, true, .lst (is.map dN)), (p4, true, .lst (os.map dN)), (p1, true, .lst (cs.map dC)), (p2, true, .lst (lf.map dN))]) (by repeat (first | exact List.Sublist.refl _ | apply List.Sublist.cons_cons | exact List.nil_sublist _ | apply List.Sublist.cons)) ?_
  refine tr_ret (ea_op (ea_callP (dd := []) (fun _ => rfl) (el_cons (ea_var rfl (el_cons (ea_listRev (ea_var rfl ⟨t, es.map dP, rfl, (by repeat (first | exact At.lst | exact At.ro | exact At.sc | apply At.tl)), fun a4 => ?_⟩)))))))
  rw [← List.map_reverse]
  refine el_cons (ea_var rfl (el_cons (ea_var rfl (el_nil ⟨[(a4, false, .ro (es.reverse.map dP))], fun x N => ∃ p1 p2 p3 p4, x = .tup [.ref p1, .ref p2, .tup [.ref p3, .ref p4]] ∧ N = [(p3, .lst (is.map dN)), (p4, .lst (os.map dN)), (p1, .lst (cs.map dC)), (p2, .lst (lf.map dN))], (by repeat (first | exact Sb.nil | refine Sb.keep (by first | exact Wk.rfl | exact Wk.ro | exact Wk.rT | exact Wk.rF) ?_ | apply Sb.skip)),
    ⟨a4, h, shut, told, es.reverse, cs, lf, is, os, rfl, rfl, ok, by rw [p2'.length_eq]; omega, hv.perm p2', G.ok.perm p2', by rw [manyR_perm p2']; exact G.eq, hsh, fun p1 p2 p3 p4 => ⟨p1, p2, p3, p4, rfl, rfl⟩⟩, ?_⟩))))
  rintro x N ⟨r1', r2', r3', r4', rfl, rfl⟩
  refine ea_var rfl (rb_eqD (p := pA cs lf is os) (q := pA cs lf is os) (dd_A (by repeat (first | exact At.lst | exact At.ro | exact At.sc | apply At.tl)) (by repeat (first | exact At.lst | exact At.ro | exact At.sc | apply At.tl)) (by repeat (first | exact At.lst | exact At.ro | exact At.sc | apply At.tl)) (by repeat (first | exact At.lst | exact At.ro | exact At.sc | apply At.tl))) (dd_A (by repeat (first | exact At.lst | exact At.ro | exact At.sc | apply At.tl)) (by repeat (first | exact At.lst | exact At.ro | exact At.sc | apply At.tl)) (by repeat (first | exact At.lst | exact At.ro | exact At.sc | apply At.tl)) (by repeat (first | exact At.lst | exact At.ro | exact At.sc | apply At.tl))) (pA_shaped cs lf is os) (pA_shaped cs lf is os) ?_)
  rw [pA_self]
  exact ⟨[], hp, rfl, (by repeat (first | exact List.Sublist.refl _ | apply List.Sublist.cons_cons | exact List.nil_sublist _ | apply List.Sublist.cons))⟩
end XR
-- KRead12
set_option Elab.async false
set_option linter.all false
set_option maxRecDepth 100000
set_option maxHeartbeats 1000000
/-! the reading of _law_no_table -/
namespace XR
open PySem PySem.Spec PyProof.Rows L2 XM
theorem Sls.drop {H : Hp} {y : Option V} : ∀ {ds : List (Option D)} {σ : L2.St} (i : Nat), Sls H ds σ → Sls H (ds.set i none) (σ.set i y)
  | [], _, i, h => by
    rw [show _ = [] from h]
    exact rfl
  | _ :: ds, _, 0, h => by
    obtain ⟨x, r, rfl, _, h2⟩ := h
    exact ⟨_, _, rfl, fun e he => by (cases he), h2⟩
  | _ :: ds, _, i + 1, h => by
    obtain ⟨x, r, rfl, h1, h2⟩ := h
    exact ⟨_, _, rfl, h1, Sls.drop i h2⟩
section
variable {K : PySem.W.Frag} {H0 H : Hp} {M : List Addr} {L L' : Fp} {ds : List (Option D)} {P : D → Fp → Prop} {k : Kt}
/-- a suite that ends with d0 -/
abbrev kD (d0 : D) : Kt := ⟨fun _ _ => False, fun d _ => d = d0, fun _ _ => False, fun _ _ => False⟩
theorem tr_tryE {A : List D → Fp → Int → Prop} {sp : Sp} {dvs : List V} {dd : List D} {ta : TA} {c : Value} {i j : Nat} {tr : Addr → Value → Option Addr → TS} (d0 : D) (hd0 : ∀ H H' v, Rp H d0 v → Rp H' d0 v) (hex : PySem.W.exmOne K (.ref (cNT K)) c = some true)
    (hsp : ∀ vs H Q E, SpE K A vs H E → sp vs H Q E) (hd : ∀ H, Rps H dd dvs) (hi : ds[i]? ≠ none)
    (h : El K H0 M ta ds L fun xs L1 => ∃ Lc Lr k0, Sb Lc L1 ∧ Sb Lr L1 ∧ A (xs ++ dd) Lc k0 ∧ (∀ (a dx : Addr) (B : Hp), B dx = some (.xd (plc k0)) → Tr K B [] (tr a (.ref (cNT K)) (some dx)) (((ds.set i (some (.ref a))).set j (some (.ref a))).set i none) Lr (kD d0)) ∧ k.rt d0 L1) :
    Tr K H0 M (tTry K c i (fun W => tDrop (tCallSD sp dvs (WE W) ta)) (fun _ _ _ => tAsg (tVar i) (gName j)) tr) ds L k := fun σ H E A0 o =>
  h σ H _ A0 fun xs L1 vs H1 ⟨Lc, Lr, k0, sc, sr, hA, ht, hk⟩ r1 a1 e1 => hsp _ _ _ _ ⟨xs ++ dd, Lc, k0, r1.app (hd H1), sc.ow a1.ow, hA, fun dx H' m n z => by
    refine ⟨hex, fun a ha => ?_⟩
    have a2 : As K H0 M ds L1 σ H' := ⟨a1.sl.tx m.tx, a1.ow.mo m⟩
    have s1 := a2.sl.set i (d := .ref a) (v := .ref a) rfl
    have il : i < ds.length := by
      by_cases q : i < ds.length
      · exact q
      · exact absurd (List.getElem?_eq_none (by omega)) hi
    have g : (ds.set i (some (D.ref a)))[i]? = some (some (.ref a)) := List.getElem?_set_self il
    obtain ⟨v, g1, g2⟩ := s1.get g
    refine ⟨v, g1, ?_⟩
    have s2 := s1.set j g2
    have s3 := Sls.drop (y := none) i s2
    refine ht a dx H' z _ H' E ⟨s3, sr.ow a2.ow⟩ ⟨fun _ _ _ _ z => z.elim, fun d L2 v2 H2 hdd rv av tv => ?_, fun _ _ _ _ z => z.elim, fun _ _ _ _ z => z.elim⟩
    cases hdd
    exact o.rt d0 L1 v2 H2 hk rv (a2.ow.mo av.mo0) ((e1.trans m.tx).trans tv)⟩

/-! ### the exception looked at -/
variable {a dx : Addr} {fs : List (Str × V)}
theorem rc_isiE {c : D} {u : Value} {b : Bool} (hB : H0 dx = some (.xd fs)) (hc : DCls c u) (hk : PySem.W.kitOne K (.ref (cNT K)) u = some b) (k : P (.bl b) L) : Rc K H0 [] (rIsiE K a (.ref (cNT K)) (some dx)) [.ref a, c] L P := fun ds σ H vs Q A r n => by
  obtain ⟨v, w, rfl, rv, rw'⟩ := rps2 r
  cases (show v = V.ref a from rv)
  exact ⟨dx, fs, w, u, b, rfl, rfl, rfl, A.ow.fr dx _ hB (fun z => by cases z), dcls hc rw', hk, n.now k rfl A⟩
theorem rc_isiET {c d : D} {u u' : Value} {b : Bool} (hB : H0 dx = some (.xd fs)) (hc : DCls c u) (hd : DCls d u') (hk : PySem.W.kitAny K (.ref (cNT K)) [u, u'] = some b) (k : P (.bl b) L) : Rc K H0 [] (rIsiET K a (.ref (cNT K)) (some dx)) [.ref a, .tup [c, d]] L P := fun ds σ H vs Q A r n => by
  obtain ⟨v, w, rfl, rv, t, ws, rfl, h1, h2⟩ := rps2 r
  cases (show v = V.ref a from rv)
  obtain ⟨c1, c2, rfl, r1, r2⟩ := rps2 h2
  exact ⟨dx, fs, t, [c1, c2], [u, u'], b, rfl, rfl, rfl, A.ow.fr dx _ hB (fun z => by cases z), h1, .cons (dcls hc r1) (.cons (dcls hd r2) .nil), hk, n.now k rfl A⟩
theorem ea_place {i : Nat} {k0 : Int} (hB : H0 dx = some (.xd (plc k0))) (h : ds[i]? = some (some (.ref a))) (k : P (.int k0) L) : Ea K H0 [] (tPlace K a (.ref (cNT K)) (some dx) (tVar i)) ds L P := fun σ H Q A n => by
  obtain ⟨v, e, r⟩ := A.sl.get h
  cases (show v = V.ref a from r)
  exact ⟨_, e, rfl, rfl, dx, k0, rfl, A.ow.fr dx _ hB (fun z => by cases z), n.now k rfl A⟩
end
/-! ### the table with an entry put in -/
def pT : Thing → PyData
  | .int i => .int i
  | .non => .none
def pE : Ent → PyData
  | .one x => pT x
  | .two x y => .tuple [pT x, pT y]
theorem dd_Th (L : Fp) (x : Thing) : Dd L (dT x) (pT x) := by
  cases x with
  | int i => exact .int i
  | non => exact .non
theorem dd_E (L : Fp) (x : Ent) : Dd L (dE x) (pE x) := by
  cases x with
  | one x => exact dd_Th L x
  | two x y => exact .tup (.cons (dd_Th L x) (.cons (dd_Th L y) .nil))
theorem pT_self (x : Thing) : PyData.eqv (pT x) (pT x) = true := by
  cases x with
  | int i =>
    show (i == i) = true
    simp
  | non => rfl
theorem pE_self (x : Ent) : PyData.eqv (pE x) (pE x) = true := by
  cases x with
  | one x => exact pT_self x
  | two x y =>
    show (PyData.eqv (pT x) (pT x) && (PyData.eqv (pT y) (pT y) && true)) = true
    rw [pT_self, pT_self]
    rfl
theorem pE_lay (x : Ent) : (pE x).canLay0 = true := by
  cases x with
  | one x => cases x <;> rfl
  | two x y => cases x <;> cases y <;> rfl
theorem pE_dep (x : Ent) : (pE x).depth ≤ 1 := by
  cases x with
  | one x => cases x <;> exact Nat.zero_le 1
  | two x y => cases x <;> cases y <;> exact Nat.le_refl 1
theorem pEs_shaped (xs : List Ent) : SeqAt.shaped (.list (xs.map pE)) = true := by
  show (PyData.canLayAll0 (xs.map pE) && decide (PyData.depthAll (xs.map pE) + 1 ≤ 64)) = true
  rw [lay_map pE_lay xs, decide_eq_true (by have := dep_map pE_dep xs; omega)]
  rfl
theorem pEs_self (xs : List Ent) : PyData.eqv (.list (xs.map pE)) (.list (xs.map pE)) = true := eqv_self pE_self xs
abbrev eP (p : Nat × Nat) : Ent := .two (.int (p.1 : Nat)) (.int (p.2 : Nat))
theorem dE_eP (es : List (Nat × Nat)) : (es.map eP).map dE = es.map dP := by
  rw [List.map_map]
  rfl
/-- where the first entry stands that is refused -/
def Spl (h : Hall) (es : List (Nat × Nat)) (place : Nat) (x : Ent) (due : Nat) : Prop := ∃ (fs gs : List (Nat × Nat)), ((es.take place).map dP ++ [dE x]) ++ (es.drop place).map dP = fs.map dP ++ dE x :: gs.map dP ∧ fs.length = due ∧ Valid h fs ∧ bad h fs x
theorem spl_bad {h : Hall} {es : List (Nat × Nat)} {place : Nat} {x : Ent} (hv : Valid h es) (hp : place ≤ es.length) (hb : okE h x = false) : Spl h es place x place :=
  ⟨es.take place, es.drop place, by rw [List.append_assoc]; rfl, by rw [List.length_take]; omega, hv.sub (List.take_sublist _ _), .inl hb⟩
theorem spl_again {h : Hall} {es : List (Nat × Nat)} {place k : Nat} {p : Nat × Nat} (hv : Valid h es) (hp : place ≤ es.length) (hk : es[k]? = some p) : Spl h es place (eP p) (if place ≤ k then k + 1 else place) := by
  have hlt : k < es.length := (List.getElem?_eq_some_iff.mp hk).1
  by_cases q : place ≤ k
  · rw [if_pos q]
    have e1 : es.drop place = (es.drop place).take (k - place) ++ p :: es.drop (k + 1) := by
      have e2 := (List.take_append_drop (k - place) (es.drop place)).symm
      rw [List.drop_drop, show place + (k - place) = k by omega] at e2
      have e3 : es.drop k = p :: es.drop (k + 1) := by
        rw [List.drop_eq_getElem_cons hlt]
        congr 1
        rw [List.getElem?_eq_getElem hlt] at hk
        exact Option.some.inj hk
      rw [e3] at e2
      exact e2
    have e4 : (es.take place ++ (es.drop place).take (k - place)) ++ [p] = es.take (k + 1) := by
      have e5 : es = es.take place ++ ((es.drop place).take (k - place) ++ p :: es.drop (k + 1)) := by rw [← e1, List.take_append_drop]
      have l1 : (es.take place ++ (es.drop place).take (k - place) ++ [p]).length = k + 1 := by
        simp only [List.length_append, List.length_take, List.length_drop, List.length_singleton]
        omega
      have e6 : es = (es.take place ++ (es.drop place).take (k - place) ++ [p]) ++ es.drop (k + 1) := by
        rw [List.append_assoc, List.append_assoc]
        exact e5
      have e7 := congrArg (List.take (k + 1)) e6
      rw [List.take_append_of_le_length (by omega), ← l1, List.take_length, l1] at e7
      exact e7.symm
    refine ⟨es.take place ++ p :: (es.drop place).take (k - place), es.drop (k + 1), ?_, ?_, ?_, .inr ⟨p, List.mem_append_right _ List.mem_cons_self, rfl⟩⟩
    · rw [List.map_append, List.map_cons]
      conv => lhs; rw [e1]
      rw [List.map_append, List.map_cons]
      show (_ ++ [dP p]) ++ _ = (_ ++ _) ++ dP p :: _
      simp only [List.append_assoc, List.cons_append, List.nil_append]
    · simp only [List.length_append, List.length_take, List.length_drop, List.length_cons]
      omega
    · refine (hv.sub (List.take_sublist (k + 1) es)).perm ?_
      rw [← e4, List.append_assoc]
      exact (List.Perm.refl _).append (List.perm_append_singleton p _).symm
  · rw [if_neg q]
    refine ⟨es.take place, es.drop place, by rw [List.append_assoc]; rfl, by rw [List.length_take]; omega, hv.sub (List.take_sublist _ _), .inr ⟨p, ?_, rfl⟩⟩
    refine List.mem_of_getElem? (i := k) ?_
    rw [List.getElem?_take_of_lt (by omega)]
    exact hk
theorem ent_at (n : Nat) : ∃ x, [Ent.one .non, .one (.int 7), .two (.int 0) .non][n % 3]? = some x ∧ ∀ h, okE h x = false := by
  have q : n % 3 = 0 ∨ n % 3 = 1 ∨ n % 3 = 2 := by omega
  rcases q with e | e | e <;> rw [e]
  · exact ⟨_, rfl, fun _ => rfl⟩
  · exact ⟨_, rfl, fun _ => rfl⟩
  · exact ⟨_, rfl, fun h => by
      show (okP (.int 0) (h.a * h.b) && false) = false
      rw [Bool.and_false]⟩
theorem due_eq (place k : Nat) : (if (k : Int) + (if decide ((place : Int) ≤ (k : Int)) = true then 1 else 0) > (place : Int) then (k : Int) + (if decide ((place : Int) ≤ (k : Int)) = true then 1 else 0) else (place : Int)) = (((if place ≤ k then k + 1 else place) : Nat) : Int) := by
  by_cases q : place ≤ k
  · have q2 : (place : Int) ≤ (k : Int) := by omega
    have e : (if decide ((place : Int) ≤ (k : Int)) = true then (1 : Int) else 0) = 1 := if_pos (decide_eq_true q2)
    rw [e, if_pos (by omega), if_pos q]
    rfl
  · have q2 : ¬ (place : Int) ≤ (k : Int) := by omega
    have e : (if decide ((place : Int) ≤ (k : Int)) = true then (1 : Int) else 0) = 0 := if_neg (by rw [decide_eq_false q2]; exact fun z => by cases z)
    rw [e, if_neg (by omega), if_neg q]
theorem kit_none {K : PySem.W.Frag} {t c d : Value} (h1 : PySem.W.kitOne K t c = some false) (h2 : PySem.W.kitOne K t d = some false) : PySem.W.kitAny K t [c, d] = some false := by
  unfold PySem.W.kitAny
  rw [h1]
  show PySem.W.kitAny K t [d] = some false
  unfold PySem.W.kitAny
  rw [h2]
  rfl
theorem rd_no_table {K : PySem.W.Frag} (C : NtC K) : ∀ vs H Q E, SpM K A_not vs H Q E → t_law_no_table K (SpM K A_digit) (spMany K) (SpP K A_whole) { nx := fun _ H' => Q .non H', rt := Q } (L2.start names_law_no_table vs) H := fun vs H Q E => spM_body fun H0 xs m o L P => by
  rintro ⟨t, h, es, v, rfl, rfl, rfl, ok, hv, hl, hp⟩
  -- entry
  obtain ⟨x0, hx0, hb0⟩ := ent_at v
  refine tr_seq (tr_set (ea_op (ea_lst (el_cons (ea_non (el_cons (ea_int (el_cons (ea_tup (el_cons (ea_int (el_cons (ea_non (el_nil ⟨by show 2 ≤ 1000; decide, el_nil ⟨by show 3 ≤ 1000; decide, fun p0 => ?_⟩⟩))))))))))))))
  refine ea_callM (dd := []) (fun _ => rfl) (el_cons (ea_var rfl (el_cons (ea_int (el_nil ⟨m, .lst ([v].map dN), [], fun d o' N => d = dN (v % 3) ∧ o' = .lst ([v / 3].map dN) ∧ N = [], (by repeat (first | refine Sm.here (by repeat (first | exact Sb.nil | refine Sb.keep (by first | exact Wk.rfl | exact Wk.ro | exact Wk.rT | exact Wk.rF) ?_ | apply Sb.skip)) (by repeat (first | exact hc_nil | refine hc_cons ?_ rfl)) | refine Sm.keep (by first | exact Wk.rfl | exact Wk.ro | exact Wk.rT | exact Wk.rF) rfl ?_ | apply Sm.skip)), ⟨rfl, rfl⟩, ⟨v, 3, rfl, rfl, rfl, by decide, by decide, rfl, rfl, rfl⟩, ?_⟩)))))
  rintro d o' N ⟨rfl, rfl, rfl⟩
  refine ⟨⟨rfl, rfl⟩, _, (by repeat (first | exact Up.hd | apply Up.tl)), rb_ixN (l := [Ent.one .non, .one (.int 7), .two (.int 0) .non]) (f := dE) (by repeat (first | exact At.lst | exact At.ro | exact At.sc | apply At.tl)) hx0 ?_⟩
  generalize v / 3 = v1
  -- again
  refine tr_seq (tr_set (ea_op (ea_callM (dd := []) (fun _ => rfl) (el_cons (ea_var rfl (el_cons (ea_int (el_nil ⟨m, .lst ([v1].map dN), [], fun d o' N => d = dN (v1 % 2) ∧ o' = .lst ([v1 / 2].map dN) ∧ N = [], (by repeat (first | refine Sm.here (by repeat (first | exact Sb.nil | refine Sb.keep (by first | exact Wk.rfl | exact Wk.ro | exact Wk.rT | exact Wk.rF) ?_ | apply Sb.skip)) (by repeat (first | exact hc_nil | refine hc_cons ?_ rfl)) | refine Sm.keep (by first | exact Wk.rfl | exact Wk.ro | exact Wk.rT | exact Wk.rF) rfl ?_ | apply Sm.skip)), ⟨rfl, rfl⟩, ⟨v1, 2, rfl, rfl, rfl, by decide, by decide, rfl, rfl, rfl⟩, ?_⟩))))))))
  rintro d o' N ⟨rfl, rfl, rfl⟩
  refine ⟨⟨rfl, rfl⟩, _, (by repeat (first | exact Up.hd | apply Up.tl)), ea_int (rb_eqI ?_)⟩
  generalize decide (((v1 % 2 : Nat) : Int) = 0) = again
  generalize v1 / 2 = v2
  -- place
  refine tr_seq (tr_set (ea_callM (dd := []) (fun _ => rfl) (el_cons (ea_var rfl (el_cons (ea_op (ea_cb (el_cons (ea_var rfl (el_nil (rc_len (by repeat (first | exact At.lst | exact At.ro | exact At.sc | apply At.tl)) ?_)))))))))))
  rw [List.length_map]
  refine ea_int (rb_inc (el_nil ⟨m, .lst ([v2].map dN), [], fun d o' N => d = dN (v2 % (es.length + 1)) ∧ o' = .lst ([v2 / (es.length + 1)].map dN) ∧ N = [], (by repeat (first | refine Sm.here (by repeat (first | exact Sb.nil | refine Sb.keep (by first | exact Wk.rfl | exact Wk.ro | exact Wk.rT | exact Wk.rF) ?_ | apply Sb.skip)) (by repeat (first | exact hc_nil | refine hc_cons ?_ rfl)) | refine Sm.keep (by first | exact Wk.rfl | exact Wk.ro | exact Wk.rT | exact Wk.rF) rfl ?_ | apply Sm.skip)), ⟨rfl, rfl⟩, ⟨v2, es.length + 1, rfl, rfl, rfl, by omega, by omega, rfl, rfl, rfl⟩, ?_⟩))
  rintro d o' N ⟨rfl, rfl, rfl⟩
  have hpl : v2 % (es.length + 1) ≤ es.length := by have := Nat.mod_lt v2 (show 0 < es.length + 1 by omega); omega
  generalize v2 % (es.length + 1) = place at hpl ⊢
  generalize v2 / (es.length + 1) = v3
  refine ⟨⟨rfl, rfl⟩, _, (by repeat (first | exact Up.hd | apply Up.tl)), ?_⟩
  -- due
  refine tr_seq (tr_set (ea_var rfl ?_))
  refine tr_sub (L1 := [(m, true, O.lst ([v3].map dN)), (t, false, .ro (es.map dP))]) (by repeat (first | exact List.Sublist.refl _ | apply List.Sublist.cons_cons | exact List.nil_sublist _ | apply List.Sublist.cons)) ?_
  refine tr_seqN (fun ds' L' => ∃ (x : Ent) (due v4 : Nat) (k10 : Option D), ds' = [some (dH h), some (.ref t), some (.ref m), some (dE x), some (.bl again), some (dN place), some (dN due), none, none, none, k10, none] ∧ [(m, true, O.lst ([v4].map dN)), (t, false, .ro (es.map dP))].Sublist L' ∧ Spl h es place x due) (tr_if (et_and (et_test (ea_neNil (l := es) (f := dP) (g := pP) rfl (by repeat (first | exact At.lst | exact At.ro | exact At.sc | apply At.tl)) dd_P (fun _ => rfl) (fun _ => by show 1 ≤ 10; decide) fun p1 => ⟨_, rfl, ?_⟩)))) ?_
  · cases es with
    | nil => exact cndF (cndF (tr_next ⟨x0, place, v3, none, rfl, (by repeat (first | exact List.Sublist.refl _ | apply List.Sublist.cons_cons | exact List.nil_sublist _ | apply List.Sublist.cons)), spl_bad hv hpl (hb0 h)⟩))
    | cons e0 er =>
      refine cndT (et_B (ea_var rfl ⟨again, rfl, cndB (fun z1 => ?_) (fun z1 => tr_next ⟨x0, place, v3, none, rfl, (by repeat (first | exact List.Sublist.refl _ | apply List.Sublist.cons_cons | exact List.nil_sublist _ | apply List.Sublist.cons)), spl_bad hv hpl (hb0 h)⟩)⟩))
      generalize hes : e0 :: er = es at hv hl hpl
      have hne : 0 < es.length := by rw [← hes]; exact Nat.succ_pos _
      refine tr_seq (tr_set (ea_callM (dd := []) (fun _ => rfl) (el_cons (ea_var rfl (el_cons (ea_cb (el_cons (ea_var rfl (el_nil (rc_len (by repeat (first | exact At.lst | exact At.ro | exact At.sc | apply At.tl)) ?_))))))))))
      rw [List.length_map]
      refine el_nil ⟨m, .lst ([v3].map dN), [], fun d o' N => d = dN (v3 % es.length) ∧ o' = .lst ([v3 / es.length].map dN) ∧ N = [], (by repeat (first | refine Sm.here (by repeat (first | exact Sb.nil | refine Sb.keep (by first | exact Wk.rfl | exact Wk.ro | exact Wk.rT | exact Wk.rF) ?_ | apply Sb.skip)) (by repeat (first | exact hc_nil | refine hc_cons ?_ rfl)) | refine Sm.keep (by first | exact Wk.rfl | exact Wk.ro | exact Wk.rT | exact Wk.rF) rfl ?_ | apply Sm.skip)), ⟨rfl, rfl⟩, ⟨v3, es.length, rfl, rfl, rfl, by omega, by omega, rfl, rfl, rfl⟩, ?_⟩
      rintro d o' N ⟨rfl, rfl, rfl⟩
      have hk : v3 % es.length < es.length := Nat.mod_lt v3 hne
      generalize v3 % es.length = kk at hk ⊢
      generalize v3 / es.length = v4
      refine ⟨⟨rfl, rfl⟩, _, (by repeat (first | exact Up.hd | apply Up.tl)), ?_⟩
      obtain ⟨p, hp'⟩ : ∃ p, es[kk]? = some p := ⟨_, List.getElem?_eq_getElem hk⟩
      refine tr_seq (tr_set (ea_op (ea_var rfl (ea_var rfl (rb_ixN (f := dP) (by repeat (first | exact At.lst | exact At.ro | exact At.sc | apply At.tl)) hp' ?_)))))
      refine tr_set (ea_cb (el_cons (ea_var rfl (el_cons (ea_op (ea_var rfl (ea_cb (el_cons (ea_op (ea_var rfl (ea_var rfl (rb_ge (el_nil (rc_intB (rb_add (el_nil (rc_max2 ?_)))))))))))))))))
      rw [due_eq]
      exact ⟨eP p, _, v4, _, rfl, (by repeat (first | exact List.Sublist.refl _ | apply List.Sublist.cons_cons | exact List.nil_sublist _ | apply List.Sublist.cons)), spl_again hv hpl hp'⟩
  rintro ds L ⟨x, due, v4, k10, rfl, hs, fs, gs, hsp, hfl, hvf, hbf⟩
  refine tr_sub hs ?_
  clear hs
  have hlen : fs.length + (gs.length + 1) = es.length + 1 := by
    have := congrArg List.length hsp
    simp only [List.length_append, List.length_map, List.length_take, List.length_drop, List.length_cons, List.length_nil] at this
    omega
  -- spoiled
  refine tr_seq (tr_set (ea_op (ea_op (ea_sl (ea_var rfl (eo_none (eo_some (ea_var rfl ⟨(place : Nat), rfl, t, es.map dP, rfl, (by repeat (first | exact At.lst | exact At.ro | exact At.sc | apply At.tl)), fun a1 => ?_⟩))))))))
  rw [cut_take hpl]
  refine ea_lst (el_cons (ea_var rfl (el_nil ⟨by show 1 ≤ 1000; decide, fun a2 => ?_⟩)))
  refine rb_cat (xs := (es.take place).map dP) (ys := [dE x]) ⟨true, (by repeat (first | exact List.mem_cons_self | apply List.mem_cons_of_mem))⟩ ⟨true, (by repeat (first | exact List.mem_cons_self | apply List.mem_cons_of_mem))⟩ (by rw [List.length_map, List.length_take]; show _ + 1 ≤ _; omega) fun a3 => ?_
  refine ea_sl (ea_var rfl (eo_some (ea_var rfl ⟨(place : Nat), rfl, eo_none ⟨t, es.map dP, rfl, (by repeat (first | exact At.lst | exact At.ro | exact At.sc | apply At.tl)), fun a4 => ?_⟩⟩)))
  rw [cut_drop hpl]
  refine rb_cat (xs := (es.take place).map dP ++ [dE x]) (ys := (es.drop place).map dP) ⟨true, (by repeat (first | exact List.mem_cons_self | apply List.mem_cons_of_mem))⟩ ⟨true, (by repeat (first | exact List.mem_cons_self | apply List.mem_cons_of_mem))⟩ (by simp only [List.length_append, List.length_map, List.length_take, List.length_drop, List.length_singleton]; omega) fun a5 => ?_
  rw [hsp]
  refine tr_sub (L1 := [(m, true, O.lst ([v4].map dN)), (t, false, .ro (es.map dP)), (a5, true, .lst (fs.map dP ++ dE x :: gs.map dP))]) (by repeat (first | exact List.Sublist.refl _ | apply List.Sublist.cons_cons | exact List.nil_sublist _ | apply List.Sublist.cons)) ?_
  refine tr_seq (tr_set (ea_cb (el_cons (ea_var rfl (el_nil (rc_listL (by repeat (first | exact At.lst | exact At.ro | exact At.sc | apply At.tl)) fun a6 => ?_))))))
  refine tr_seq (tr_set (ea_non ?_))
  refine tr_tryE (A := A_manyBad) (dd := [dN 0]) (.bl true) (fun _ _ _ e => e) C.em (fun vs H Q E z => Or.inr z) (fun _ => Rps.cons rfl Rps.nil) (by simp) (el_cons (ea_var rfl (el_cons (ea_var rfl (el_nil ⟨[(a5, false, .ro (fs.map dP ++ dE x :: gs.map dP))], [(a5, false, .ro (fs.map dP ++ dE x :: gs.map dP)), (a6, false, .ro (fs.map dP ++ dE x :: gs.map dP))], (due : Nat), (by repeat (first | exact Sb.nil | refine Sb.keep (by first | exact Wk.rfl | exact Wk.ro | exact Wk.rT | exact Wk.rF) ?_ | apply Sb.skip)), (by repeat (first | exact Sb.nil | refine Sb.keep (by first | exact Wk.rfl | exact Wk.ro | exact Wk.rT | exact Wk.rF) ?_ | apply Sb.skip)), ⟨a5, h, 0, fs, x, gs.map dP, rfl, rfl, ok, by omega, hvf, hbf, by rw [hfl]⟩, fun a dx B hB => ?_, ?_⟩)))))
  · have e1 : fs.map dP ++ dE x :: gs.map dP = (fs.map eP ++ x :: gs.map eP).map dE := by
      rw [List.map_append, List.map_cons, dE_eP, dE_eP]
    rw [e1]
    generalize fs.map eP ++ x :: gs.map eP = zs
    refine tr_seq (tr_if (et_or (et_test (ea_op (ea_var rfl (ea_var rfl (rb_neD (p := .list (zs.map pE)) (q := .list (zs.map pE)) (.ref (by repeat (first | exact At.lst | exact At.ro | exact At.sc | apply At.tl)) (dds_map (dd_E _) zs)) (.ref (by repeat (first | exact At.lst | exact At.ro | exact At.sc | apply At.tl)) (dds_map (dd_E _) zs)) (pEs_shaped zs) (pEs_shaped zs) ⟨_, rfl, ?_⟩)))))))
    rw [pEs_self]
    refine cndF (et_or (et_not (et_B (ea_cb (el_cons (ea_var rfl (el_cons (ea_refC (el_nil (rc_isiE hB (.own _) C.k1 ⟨_, rfl, cndF ?_⟩))))))))))
    refine et_not (et_B (ea_cb (el_cons (ea_var rfl (el_cons (ea_ty (el_nil (rc_isiE hB (.ty _) C.k2 ⟨_, rfl, cndF (tr_next ?_)⟩))))))))
    refine tr_seq (tr_if (et_B (ea_cb (el_cons (ea_var rfl (el_cons (ea_tup (el_cons (ea_refC (el_cons (ea_refC (el_nil ⟨by show 2 ≤ 1000; decide, el_nil (rc_isiET hB (.own _) (.own _) (kit_none C.k3 C.k4) ⟨_, rfl, cndF (tr_next ?_)⟩)⟩))))))))))))
    refine tr_ret (ea_andV (ea_callP (dd := []) (fun _ => rfl) (el_cons (ea_place hB rfl (el_nil ⟨[], fun d N => d = .bl true ∧ N = [], .nil, ⟨_, rfl, rfl, rfl, rfl⟩, ?_⟩)))))
    rintro d N ⟨rfl, rfl⟩
    refine ⟨_, rfl, cndT (ea_op (ea_place hB rfl (ea_var rfl (rb_eqI ?_))))⟩
    show D.bl (decide (((due : Nat) : Int) = ((due : Nat) : Int))) = .bl true
    rw [decide_eq_true rfl]
  · exact ⟨_, [], hp v4, rfl, (by repeat (first | exact List.Sublist.refl _ | apply List.Sublist.cons_cons | exact List.nil_sublist _ | apply List.Sublist.cons))⟩
end XR
-- KMath1
set_option Elab.async false
set_option linter.all false
/-! plain laws of the mirrors: degrees, links, weights -/
namespace XM
open XR
/-- the places from i on whose pair touches the rack k -/
def incF (k : Rk) : Nat → List Pr → List Nat
  | _, [] => []
  | i, p :: r => if rk p k.1 = k then i :: incF k (i + 1) r else incF k (i + 1) r
def inc1 (ps : List Pr) (k : Rk) : List Nat := incF k 0 ps
def dg (ps : List Pr) (k : Rk) : Nat := ps.countP fun p => decide (rk p k.1 = k)
theorem incF_len (k : Rk) : ∀ (i : Nat) (r : List Pr), (incF k i r).length = dg r k
  | _, [] => rfl
  | i, p :: r => by
    unfold incF dg
    by_cases h : rk p k.1 = k
    · rw [if_pos h, List.countP_cons_of_pos (by simpa using h), List.length_cons, incF_len k (i + 1) r]; rfl
    · rw [if_neg h, List.countP_cons_of_neg (by simpa using h), incF_len k (i + 1) r]; rfl
theorem incF_mem (k : Rk) : ∀ (i : Nat) (r : List Pr) (j : Nat), j ∈ incF k i r ↔ ∃ q p, j = i + q ∧ r[q]? = some p ∧ rk p k.1 = k
  | _, [], j => by simp [incF]
  | i, p :: r, j => by
    have ih := incF_mem k (i + 1) r j
    unfold incF
    constructor
    · intro h
      by_cases e : rk p k.1 = k
      · rw [if_pos e] at h
        rcases List.mem_cons.mp h with h | h
        · exact ⟨0, p, by omega, rfl, e⟩
        · obtain ⟨q, p', h1, h2, h3⟩ := ih.mp h
          exact ⟨q + 1, p', by omega, by simpa using h2, h3⟩
      · rw [if_neg e] at h
        obtain ⟨q, p', h1, h2, h3⟩ := ih.mp h
        exact ⟨q + 1, p', by omega, by simpa using h2, h3⟩
    · rintro ⟨q, p', h1, h2, h3⟩
      cases q with
      | zero =>
        simp at h2
        subst h2
        rw [if_pos h3]
        simp [h1]
      | succ q =>
        have := ih.mpr ⟨q, p', by omega, by simpa using h2, h3⟩
        split
        · exact List.mem_cons_of_mem _ this
        · exact this
theorem inc1_mem {ps : List Pr} {k : Rk} {j : Nat} : j ∈ inc1 ps k ↔ ∃ p, ps[j]? = some p ∧ rk p k.1 = k := by
  unfold inc1
  rw [incF_mem]
  constructor
  · rintro ⟨q, p, h1, h2, h3⟩
    have : j = q := by omega
    subst this
    exact ⟨p, h2, h3⟩
  · rintro ⟨p, h2, h3⟩
    exact ⟨j, p, by omega, h2, h3⟩
theorem inc1_len (ps : List Pr) (k : Rk) : (inc1 ps k).length = dg ps k := incF_len k 0 ps
theorem incF_ne {k : Rk} {i : Nat} {r : List Pr} : ∀ {i : Nat}, i ∉ incF k (i + 1) r := fun {i} h => by
  obtain ⟨q, p, h1, _⟩ := (incF_mem k (i + 1) r i).mp h
  omega
theorem incF_nodup (k : Rk) : ∀ (i : Nat) (r : List Pr), (incF k i r).Nodup
  | _, [] => List.nodup_nil
  | i, p :: r => by
    unfold incF
    split
    · exact List.nodup_cons.mpr ⟨incF_ne (i := 0), incF_nodup k (i + 1) r⟩
    · exact incF_nodup k (i + 1) r
theorem dg_pos {ps : List Pr} {k : Rk} : 0 < dg ps k ↔ ∃ p ∈ ps, rk p k.1 = k := by
  unfold dg
  rw [List.countP_pos_iff]
  simp
theorem dg_zero {ps : List Pr} {k : Rk} : dg ps k = 0 ↔ ∀ p ∈ ps, rk p k.1 ≠ k := by
  unfold dg
  rw [List.countP_eq_zero]
  simp
theorem dg_cons (p : Pr) (r : List Pr) (k : Rk) : dg (p :: r) k = dg r k + if rk p k.1 = k then 1 else 0 := by
  unfold dg
  rw [List.countP_cons]
  simp
theorem dg_le (ps : List Pr) (k : Rk) : dg ps k ≤ ps.length := List.countP_le_length
/-! ### weights -/
theorem sd_rk {p : Pr} {s : Bool} {k : Nat} : sd p s = k ↔ rk p s = (s, k) := by
  unfold rk
  constructor
  · intro h; rw [h]
  · intro h; exact congrArg Prod.snd h
theorem wtsGo_get (s : Bool) : ∀ (r : List Pr) (f : List (Nat × Nat)) (k : Nat), (aget (wtsGo s r f) k).getD 0 = (aget f k).getD 0 + dg r (s, k)
  | [], f, k => rfl
  | p :: r, f, k => by
    unfold wtsGo
    rw [wtsGo_get s r, aget_aput, dg_cons]
    by_cases h : sd p s = k
    · rw [if_pos h, if_pos (sd_rk.mp h), h]; simp; omega
    · rw [if_neg h, if_neg (fun e => h (sd_rk.mpr e))]; simp
theorem wtsGo_pos (s : Bool) : ∀ (r : List Pr) (f : List (Nat × Nat)), (∀ k v, aget f k = some v → 0 < v) → ∀ k v, aget (wtsGo s r f) k = some v → 0 < v
  | [], f, h => h
  | p :: r, f, h => wtsGo_pos s r _ fun k v e => by
    rw [aget_aput] at e
    split at e
    · cases e; omega
    · exact h k v e
theorem wts_get {ps : List Pr} {s : Bool} {k n : Nat} (h : aget (wts ps s) k = some n) : n = dg ps (s, k) := by
  have := wtsGo_get s ps [] k
  unfold wts at h
  rw [h] at this
  simpa [aget] using this
theorem wts_some {ps : List Pr} {s : Bool} {k : Nat} (h : 0 < dg ps (s, k)) : aget (wts ps s) k = some (dg ps (s, k)) := by
  have e := wtsGo_get s ps [] k
  cases h' : aget (wts ps s) k with
  | some n => rw [wts_get h']
  | none =>
    unfold wts at h'
    rw [h'] at e
    simp [aget] at e
    omega
theorem wtsGo_nodup (s : Bool) : ∀ (r : List Pr) (f : List (Nat × Nat)), (f.map (·.1)).Nodup → ((wtsGo s r f).map (·.1)).Nodup
  | [], f, h => h
  | p :: r, f, h => wtsGo_nodup s r _ (aput_nodup h)
theorem maxv_le {w : Nat} : ∀ (l : List (Nat × Nat)) (m : Nat), maxv m l ≤ w ↔ m ≤ w ∧ ∀ p ∈ l, p.2 ≤ w
  | [], m => by simp [maxv]
  | p :: r, m => by
    unfold maxv
    rw [maxv_le r]
    simp only [List.mem_cons, forall_eq_or_imp, Nat.max_le, and_assoc]
theorem gw_le {ps : List Pr} {w : Nat} : gw ps ≤ w ↔ ∀ k, dg ps k ≤ w := by
  unfold gw
  rw [maxv_le, maxv_le]
  have one : ∀ s, (∀ p ∈ wts ps s, p.2 ≤ w) ↔ ∀ k, dg ps (s, k) ≤ w := fun s => by
    constructor
    · intro h k
      by_cases e : 0 < dg ps (s, k)
      · exact h _ (aget_mem (wts_some e))
      · omega
    · intro h p hp
      have := aget_of_mem (wtsGo_nodup s ps [] List.nodup_nil) (k := p.1) (x := p.2) hp
      rw [wts_get this]
      exact h _
  rw [one, one]
  constructor
  · rintro ⟨⟨_, h1⟩, h2⟩ ⟨s, k⟩
    cases s
    · exact h1 k
    · exact h2 k
  · intro h
    exact ⟨⟨Nat.zero_le _, fun k => h _⟩, fun k => h _⟩
theorem dg_gw (ps : List Pr) (k : Rk) : dg ps k ≤ gw ps := gw_le.mp (Nat.le_refl _) k
theorem gw_len (ps : List Pr) : gw ps ≤ ps.length := gw_le.mpr fun k => dg_le ps k
/-! ### links -/
theorem rk_ne (p q : Pr) : rk p false ≠ rk q true := fun h => by have := congrArg Prod.fst h; cases this
theorem linkGo_get : ∀ (r : List Pr) (i : Nat) (d : List (Rk × List Nat)) (k : Rk), (aget (linkGo i r d) k).getD [] = (aget d k).getD [] ++ incF k i r
  | [], i, d, k => by simp [linkGo, incF]
  | p :: r, i, d, k => by
    unfold linkGo
    rw [linkGo_get r, incF]
    unfold addTo
    rw [aget_aput, aget_aput]
    obtain ⟨s, k⟩ := k
    cases s with
    | false =>
      have n1 : ¬ rk p true = (false, k) := fun h => by have := congrArg Prod.fst h; cases this
      rw [if_neg n1, aget_aput]
      by_cases h : rk p false = (false, k)
      · rw [if_pos h, if_pos h, h]; simp
      · rw [if_neg h, if_neg h]
    | true =>
      have n1 : ¬ rk p false = (true, k) := fun h => by have := congrArg Prod.fst h; cases this
      have n2 : ¬ rk p false = rk p true := rk_ne p p
      by_cases h : rk p true = (true, k)
      · rw [if_pos h, if_pos h, if_neg n2, h]; simp
      · rw [if_neg h, if_neg h, aget_aput, if_neg n1]
theorem linkGo_ne : ∀ (r : List Pr) (i : Nat) (d : List (Rk × List Nat)), (∀ k, aget d k ≠ some []) → ∀ k, aget (linkGo i r d) k ≠ some []
  | [], i, d, h => h
  | p :: r, i, d, h => linkGo_ne r (i + 1) _ fun k e => by
    unfold addTo at e
    rw [aget_aput] at e
    split at e
    · simp at e
    · rw [aget_aput] at e
      split at e
      · simp at e
      · exact h k e
theorem links_get {ps : List Pr} {k : Rk} {ls : List Nat} (h : aget (links ps) k = some ls) : ls = inc1 ps k := by
  have := linkGo_get ps 0 [] k
  unfold links at h
  rw [h] at this
  simpa [aget, inc1] using this
theorem links_some {ps : List Pr} {k : Rk} (h : 0 < dg ps k) : aget (links ps) k = some (inc1 ps k) := by
  have e := linkGo_get ps 0 [] k
  cases h' : aget (links ps) k with
  | some n => rw [links_get h']
  | none =>
    unfold links at h'
    rw [h'] at e
    have := incF_len k 0 ps
    simp [aget] at e
    rw [e] at this
    simp at this
    omega
theorem links_pos {ps : List Pr} {k : Rk} {ls : List Nat} (h : aget (links ps) k = some ls) : 0 < dg ps k := by
  have e := links_get h
  have n := linkGo_ne ps 0 [] (fun k => by simp [aget]) k
  rw [← inc1_len, ← e]
  cases ls with
  | nil => exact absurd h n
  | cons a b => simp
theorem linkGo_nodup : ∀ (r : List Pr) (i : Nat) (d : List (Rk × List Nat)), (d.map (·.1)).Nodup → ((linkGo i r d).map (·.1)).Nodup
  | [], i, d, h => h
  | p :: r, i, d, h => linkGo_nodup r (i + 1) _ (aput_nodup (aput_nodup h))
theorem links_nodup (ps : List Pr) : ((links ps).map (·.1)).Nodup := linkGo_nodup ps 0 [] List.nodup_nil
theorem links_mem {ps : List Pr} {k : Rk} : k ∈ (links ps).map (·.1) ↔ 0 < dg ps k := by
  rw [← aget_isSome]
  constructor
  · intro h
    obtain ⟨ls, h⟩ := Option.isSome_iff_exists.mp h
    exact links_pos h
  · intro h
    rw [links_some h]
    rfl
/-! ### counting -/
theorem nodup_len {α : Type} [DecidableEq α] : ∀ {l m : List α}, l.Nodup → (∀ x ∈ l, x ∈ m) → l.length ≤ m.length
  | [], m, _, _ => by simp
  | x :: l, m, nd, h => by
    have nc := List.nodup_cons.mp nd
    have hx := h x (by simp)
    have := nodup_len (l := l) (m := m.erase x) nc.2 fun y hy => by
      have ne : y ≠ x := fun e => nc.1 (e ▸ hy)
      exact (List.mem_erase_of_ne ne).mpr (h y (List.mem_cons_of_mem _ hy))
    rw [List.length_erase_of_mem hx] at this
    have : 0 < m.length := List.length_pos_of_mem hx
    simp only [List.length_cons]
    omega
theorem sum_dg {ps : List Pr} {s : Bool} : ∀ {U : List Rk}, U.Nodup → (∀ k ∈ U, k.1 = s) → (U.map (dg ps)).sum = ps.countP fun p => decide (rk p s ∈ U)
  | [], _, _ => by
    simp
  | k :: U, nd, hs => by
    have nc := List.nodup_cons.mp nd
    have ih := sum_dg (ps := ps) (s := s) nc.2 fun j hj => hs j (List.mem_cons_of_mem _ hj)
    have ek : k.1 = s := hs k (by simp)
    rw [List.map_cons, List.sum_cons, ih]
    unfold dg
    rw [ek]
    clear ih nd hs
    induction ps with
    | nil => simp
    | cons p r ih =>
      rw [List.countP_cons, List.countP_cons, List.countP_cons, ← ih]
      by_cases h : rk p s = k
      · have : ¬ rk p s ∈ U := fun e => nc.1 (h ▸ e)
        simp [h]
        rw [h] at this
        simp [this]
        omega
      · simp [h]
        omega
end XM
-- KMath2
set_option Elab.async false
set_option linter.all false
/-! plain laws of the mirrors: partners and halves -/
namespace XM
open XR
/-- what partGo keeps -/
structure PInv (ps : List Pr) (s : Bool) (i : Nat) (f : List (Option Nat)) (a : List (Nat × Nat)) : Prop where
  len : f.length = ps.length
  new : ∀ j, i ≤ j → j < ps.length → f[j]? = some none
  al : ∀ k o, aget a k = some o → o < i ∧ f[o]? = some none ∧ ∃ p, ps[o]? = some p ∧ sd p s = k
  inv : ∀ j q : Nat, f[j]? = some (some q) → q < i ∧ f[q]? = some (some j) ∧ q ≠ j ∧ ∃ p p', ps[j]? = some p ∧ ps[q]? = some p' ∧ sd p s = sd p' s
theorem PInv.step1 {ps : List Pr} {s : Bool} {i : Nat} {f : List (Option Nat)} {a : List (Nat × Nat)} {p : Pr} {o : Nat} (h : PInv ps s i f a) (hi : i < ps.length) (hp : ps[i]? = some p) (ho : aget a (sd p s) = some o) :
    PInv ps s (i + 1) ((f.set i (some o)).set o (some i)) (adrop a (sd p s)) := by
  obtain ⟨o1, o2, p', o3, o4⟩ := h.al _ _ ho
  have lf := h.len
  refine ⟨by simp [h.len], fun j hj hl => ?_, fun k o' e => ?_, fun j q e => ?_⟩
  · rw [List.getElem?_set_ne (by omega), List.getElem?_set_ne (by omega)]
    exact h.new j (by omega) hl
  · rw [aget_adrop] at e
    split at e
    · cases e
    · rename_i ne
      obtain ⟨a1, a2, a3⟩ := h.al _ _ e
      have : o' ≠ o := fun e' => by
        subst e'
        obtain ⟨p2, b1, b2⟩ := a3
        rw [o3] at b1
        cases b1
        exact ne (o4.symm.trans b2)
      refine ⟨by omega, ?_, a3⟩
      rw [List.getElem?_set_ne (by omega), List.getElem?_set_ne (by omega)]
      exact a2
  · by_cases e1 : j = o
    · subst e1
      rw [List.getElem?_set_self (by simp; omega)] at e
      cases e
      refine ⟨by omega, ?_, by omega, p', p, o3, hp, o4⟩
      rw [List.getElem?_set_ne (by omega), List.getElem?_set_self (by omega)]
    · rw [List.getElem?_set_ne (by omega)] at e
      by_cases e2 : j = i
      · subst e2
        rw [List.getElem?_set_self (by omega)] at e
        cases e
        refine ⟨by omega, ?_, by omega, p, p', hp, o3, o4.symm⟩
        rw [List.getElem?_set_self (by simp; omega)]
      · rw [List.getElem?_set_ne (by omega)] at e
        obtain ⟨b1, b2, b3, b4⟩ := h.inv j q e
        have : q ≠ o := fun e' => by rw [e', o2] at b2; cases b2
        refine ⟨by omega, ?_, b3, b4⟩
        rw [List.getElem?_set_ne (by omega), List.getElem?_set_ne (by omega)]
        exact b2
theorem PInv.step2 {ps : List Pr} {s : Bool} {i : Nat} {f : List (Option Nat)} {a : List (Nat × Nat)} {p : Pr} (h : PInv ps s i f a) (hi : i < ps.length) (hp : ps[i]? = some p) :
    PInv ps s (i + 1) f (aput a (sd p s) i) := by
  refine ⟨h.len, fun j hj hl => h.new j (by omega) hl, fun k o' e => ?_, fun j q e => ?_⟩
  · rw [aget_aput] at e
    split at e
    · cases e
      rename_i e1
      exact ⟨by omega, h.new i (by omega) hi, p, hp, e1⟩
    · obtain ⟨a1, a2, a3⟩ := h.al _ _ e
      exact ⟨by omega, a2, a3⟩
  · obtain ⟨b1, b2⟩ := h.inv j q e
    exact ⟨by omega, b2⟩
theorem partGo_ok (ps : List Pr) (s : Bool) : ∀ (r : List Pr) (i : Nat) (f : List (Option Nat)) (a : List (Nat × Nat)), ps.drop i = r → PInv ps s i f a →
    ∃ F A, partGo s i r f a = some F ∧ PInv ps s ps.length F A ∧ ∀ j q : Nat, f[j]? = some (some q) → F[j]? = some (some q)
  | [], i, f, a, e, h => by
    have hi : ps.length ≤ i := List.drop_eq_nil_iff.mp e
    refine ⟨f, a, rfl, ⟨h.len, fun j h1 h2 => absurd h1 (by omega), fun k o e' => ?_, fun j q e' => ?_⟩, fun j q h => h⟩
    · obtain ⟨a1, a2, a3⟩ := h.al k o e'
      obtain ⟨p, a3, a4⟩ := a3
      exact ⟨(List.getElem?_eq_some_iff.mp a3).1, a2, p, a3, a4⟩
    · obtain ⟨a1, a2, a3, p, p', a4, a5, a6⟩ := h.inv j q e'
      exact ⟨(List.getElem?_eq_some_iff.mp a5).1, a2, a3, p, p', a4, a5, a6⟩
  | p :: r, i, f, a, e, h => by
    have hi : i < ps.length := by
      have := congrArg List.length e
      simp at this
      omega
    have hp : ps[i]? = some p := by
      have := congrArg (fun l : List Pr => l[0]?) e
      simpa using this
    have hr : ps.drop (i + 1) = r := by
      have := congrArg List.tail e
      simpa using this
    unfold partGo
    cases ho : aget a (sd p s) with
    | some o =>
      obtain ⟨o1, o2, o3⟩ := h.al _ _ ho
      obtain ⟨F, A, g1, g2, g3⟩ := partGo_ok ps s r (i + 1) _ _ hr (h.step1 hi hp ho)
      have c : i < f.length ∧ o < f.length := by rw [h.len]; omega
      refine ⟨F, A, by simp only [c, and_self, if_true]; exact g1, g2, fun j q e' => g3 j q ?_⟩
      rw [List.getElem?_set_ne, List.getElem?_set_ne]
      · exact e'
      · intro e2; subst e2; rw [h.new i (by omega) hi] at e'; cases e'
      · intro e2; subst e2; rw [o2] at e'; cases e'
    | none =>
      obtain ⟨F, A, g1, g2, g3⟩ := partGo_ok ps s r (i + 1) _ _ hr (h.step2 hi hp)
      exact ⟨F, A, g1, g2, g3⟩
/-- +1 for a mark, -1 for none -/
def sg (b : Bool) : Int := if b then 1 else -1
/-- the sum of the signs of the places of the rack k -/
def sumF (k : Rk) (g : Nat → Bool) : Nat → List Pr → Int
  | _, [] => 0
  | i, p :: r => (if rk p k.1 = k then sg (g i) else 0) + sumF k g (i + 1) r
def rest (a : Option Nat) (g : Nat → Bool) : Int := match a with
  | none => 0
  | some o => sg (g o)
theorem partGo_sum (ps : List Pr) (s : Bool) (g : Nat → Bool) (F : List (Option Nat)) (hg : ∀ j q : Nat, F[j]? = some (some q) → g j ≠ g q) : ∀ (r : List Pr) (i : Nat) (f : List (Option Nat)) (a : List (Nat × Nat)), ps.drop i = r → PInv ps s i f a →
    partGo s i r f a = some F → ∀ k, ∃ o, rest (aget a k) g + sumF (s, k) g i r = rest o g
  | [], i, f, a, e, h, hF, k => ⟨aget a k, by simp [sumF]⟩
  | p :: r, i, f, a, e, h, hF, k => by
    have hi : i < ps.length := by
      have := congrArg List.length e
      simp at this
      omega
    have hp : ps[i]? = some p := by
      have := congrArg (fun l : List Pr => l[0]?) e
      simpa using this
    have hr : ps.drop (i + 1) = r := by
      have := congrArg List.tail e
      simpa using this
    unfold partGo at hF
    unfold sumF
    cases ho : aget a (sd p s) with
    | some o =>
      obtain ⟨o1, o2, o3⟩ := h.al _ _ ho
      have c : i < f.length ∧ o < f.length := by rw [h.len]; omega
      rw [ho] at hF
      simp only [c, and_self, if_true] at hF
      have st := h.step1 hi hp ho
      obtain ⟨o', ih⟩ := partGo_sum ps s g F hg r (i + 1) _ _ hr st hF k
      obtain ⟨F', A, g1, g2, g3⟩ := partGo_ok ps s r (i + 1) _ _ hr st
      rw [hF] at g1
      cases g1
      have fl := h.len
      have hio := hg i o (g3 i o (by rw [List.getElem?_set_ne (by omega), List.getElem?_set_self (by omega)]))
      refine ⟨o', ?_⟩
      rw [← ih, aget_adrop]
      by_cases ek : sd p s = k
      · rw [if_pos ek, if_pos (sd_rk.mp ek), ← ek, ho]
        have e0 : sg (g o) + sg (g i) = 0 := by
          revert hio
          unfold sg
          cases g i <;> cases g o <;> simp
        show sg (g o) + (sg (g i) + sumF (s, sd p s) g (i + 1) r) = 0 + sumF (s, sd p s) g (i + 1) r
        omega
      · rw [if_neg ek, if_neg (fun e => ek (sd_rk.mpr e))]
        omega
    | none =>
      rw [ho] at hF
      obtain ⟨o', ih⟩ := partGo_sum ps s g F hg r (i + 1) _ _ hr (h.step2 hi hp) hF k
      refine ⟨o', ?_⟩
      rw [← ih, aget_aput]
      by_cases ek : sd p s = k
      · rw [if_pos ek, if_pos (sd_rk.mp ek), ← ek, ho]
        unfold rest
        simp
      · rw [if_neg ek, if_neg (fun e => ek (sd_rk.mpr e))]
        omega
theorem pinv0 (ps : List Pr) (s : Bool) : PInv ps s 0 (List.replicate ps.length none) [] := by
  refine ⟨by simp, fun j _ hj => by simp [hj], fun k o e => by simp [aget] at e, fun j q e => ?_⟩
  rw [List.getElem?_replicate] at e
  split at e <;> simp at e
/-- a partial involution without a fixed point on the places below n -/
structure Pinv (n : Nat) (f : List (Option Nat)) : Prop where
  len : f.length = n
  lt : ∀ j q : Nat, f[j]? = some (some q) → q < n
  sym : ∀ j q : Nat, f[j]? = some (some q) → f[q]? = some (some j)
  ne : ∀ j q : Nat, f[j]? = some (some q) → q ≠ j
theorem partners_ok (ps : List Pr) (s : Bool) : ∃ F, partners ps s = some F ∧ Pinv ps.length F ∧ ∀ g : Nat → Bool, (∀ j q : Nat, F[j]? = some (some q) → g j ≠ g q) → ∀ k, ∃ o, sumF (s, k) g 0 ps = rest o g := by
  obtain ⟨F, A, h1, h2, h3⟩ := partGo_ok ps s ps 0 _ _ rfl (pinv0 ps s)
  refine ⟨F, h1, ⟨h2.len, fun j q e => (h2.inv j q e).1, fun j q e => (h2.inv j q e).2.1, fun j q e => (h2.inv j q e).2.2.1⟩, fun g hg k => ?_⟩
  obtain ⟨o, e⟩ := partGo_sum ps s g F hg ps 0 _ _ rfl (pinv0 ps s) h1 k
  exact ⟨o, by simpa [aget, rest] using e⟩
/-! ### alternating walks -/
section
variable (near far : List (Option Nat)) (n : Nat)
def ed (b : Bool) (v : Nat) : Option Nat := match (if b then far else near)[v]? with
  | some o => o
  | none => none
def it : Bool → Nat → Nat → Option Nat
  | _, 0, u => some u
  | b, m + 1, u => match ed near far b u with
    | none => none
    | some v => it (!b) m v
/-- the kind of the step after m steps -/
def kd (b : Bool) : Nat → Bool
  | 0 => b
  | m + 1 => !(kd b m)
theorem kd_not (b : Bool) : ∀ m, kd (!b) m = !(kd b m)
  | 0 => rfl
  | m + 1 => by unfold kd; rw [kd_not b m]
theorem it_last : ∀ (m : Nat) (b : Bool) (u : Nat), it near far b (m + 1) u = match it near far b m u with
    | none => none
    | some v => ed near far (kd b m) v
  | 0, b, u => by
    unfold it
    cases h : ed near far b u with
    | none => simp [it, kd, h]
    | some v => simp [it, kd, h]
  | m + 1, b, u => by
    rw [it]
    cases h : ed near far b u with
    | none => simp [it, h]
    | some v =>
      simp only
      rw [it_last m (!b) v]
      rw [it, h]
      simp only [kd_not]
      rfl
variable {near far n}
variable (hn : Pinv n near) (hf : Pinv n far)
include hn hf
theorem ed_get {b : Bool} {v w : Nat} (h : ed near far b v = some w) : (if b then far else near)[v]? = some (some w) := by
  unfold ed at h
  split at h
  · rename_i o e; rw [h] at e; exact e
  · cases h
theorem ed_sym {b : Bool} {v w : Nat} (h : ed near far b v = some w) : ed near far b w = some v := by
  have e := ed_get hn hf h
  unfold ed
  cases b with
  | true => simp only [if_true] at e ⊢; rw [hf.sym _ _ e]
  | false => simp only [Bool.false_eq_true, if_false] at e ⊢; rw [hn.sym _ _ e]
theorem ed_ne {b : Bool} {v w : Nat} (h : ed near far b v = some w) : w ≠ v := by
  have e := ed_get hn hf h
  cases b with
  | true => simp only [if_true] at e; exact hf.ne _ _ e
  | false => simp only [Bool.false_eq_true, if_false] at e; exact hn.ne _ _ e
theorem ed_lt {b : Bool} {v w : Nat} (h : ed near far b v = some w) : w < n := by
  have e := ed_get hn hf h
  cases b with
  | true => simp only [if_true] at e; exact hf.lt _ _ e
  | false => simp only [Bool.false_eq_true, if_false] at e; exact hn.lt _ _ e
theorem kd_even (b : Bool) : ∀ m, kd b (2 * m) = b
  | 0 => rfl
  | m + 1 => by
    have : 2 * (m + 1) = 2 * m + 1 + 1 := by omega
    rw [this]
    unfold kd
    unfold kd
    rw [kd_even b m]
    simp
theorem no_odd : ∀ (m : Nat) (b : Bool) (u : Nat), it near far b (2 * m + 1) u ≠ some u
  | 0, b, u => fun h => by
    unfold it at h
    cases e : ed near far b u with
    | none => rw [e] at h; cases h
    | some v =>
      rw [e] at h
      simp [it] at h
      exact ed_ne hn hf e h
  | m + 1, b, u => fun h => by
    have e1 : 2 * (m + 1) + 1 = (2 * m + 1 + 1) + 1 := by omega
    rw [e1, it] at h
    cases e : ed near far b u with
    | none => rw [e] at h; cases h
    | some v =>
      rw [e] at h
      simp only at h
      rw [it_last] at h
      cases e2 : it near far (!b) (2 * m + 1) v with
      | none => rw [e2] at h; cases h
      | some w =>
        rw [e2] at h
        simp only at h
        have k : kd (!b) (2 * m + 1) = b := by
          rw [kd, kd_even hn hf]; simp
        rw [k] at h
        have e3 := ed_sym hn hf h
        rw [e] at e3
        cases e3
        exact no_odd m (!b) v e2
/-- v is reached from p with the mark b -/
def Rch (near far : List (Option Nat)) (p v : Nat) (b : Bool) : Prop := ∃ k m, it near far k m p = some v ∧ b = kd false m
theorem kd_par (b : Bool) : ∀ m m', kd b m = kd b m' ↔ m % 2 = m' % 2 := by
  have par : ∀ m, kd b m = if m % 2 = 0 then b else !b := fun m => by
    induction m with
    | zero => rfl
    | succ m ih =>
      rw [kd, ih]
      by_cases h : m % 2 = 0
      · rw [if_pos h, if_neg (by omega)]
      · rw [if_neg h, if_pos (by omega)]; simp
  intro m m'
  rw [par, par]
  have h1 := Nat.mod_two_eq_zero_or_one m
  have h2 := Nat.mod_two_eq_zero_or_one m'
  rcases h1 with h1 | h1 <;> rcases h2 with h2 | h2 <;> cases b <;> simp [h1, h2]
theorem two_walks {p : Nat} : ∀ (m' m : Nat) (k k' : Bool) (v : Nat), it near far k m p = some v → it near far k' m' p = some v → m % 2 = m' % 2
  | 0, m, k, k', v, h1, h2 => by
    simp [it] at h2
    subst h2
    rcases Nat.mod_two_eq_zero_or_one m with e | e
    · omega
    · have : m = 2 * (m / 2) + 1 := by omega
      rw [this] at h1
      exact absurd h1 (no_odd hn hf _ _ _)
  | m' + 1, m, k, k', v, h1, h2 => by
    rw [it_last] at h2
    cases e2 : it near far k' m' p with
    | none => rw [e2] at h2; cases h2
    | some w =>
      rw [e2] at h2
      simp only at h2
      cases m with
      | zero =>
        simp [it] at h1
        subst h1
        rcases Nat.mod_two_eq_zero_or_one (m' + 1) with e | e
        · omega
        · have e3 : m' + 1 = 2 * ((m' + 1) / 2) + 1 := by omega
          have : it near far k' (m' + 1) p = some p := by rw [it_last, e2]; exact h2
          rw [e3] at this
          exact absurd this (no_odd hn hf _ _ _)
      | succ m =>
        have h1' := h1
        rw [it_last] at h1
        cases e1 : it near far k m p with
        | none => rw [e1] at h1; cases h1
        | some w1 =>
          rw [e1] at h1
          simp only at h1
          by_cases ek : kd k m = kd k' m'
          · have a1 := ed_sym hn hf h1
            have a2 := ed_sym hn hf h2
            rw [ek] at a1
            have e4 : w1 = w := Option.some.inj (a1.symm.trans a2)
            rw [e4] at e1
            have := two_walks m' m k k' w e1 e2
            omega
          · have a2 := ed_sym hn hf h2
            have ek2 : kd k (m + 1) = kd k' m' := by
              rw [kd]
              cases h3 : kd k m <;> cases h4 : kd k' m' <;> simp_all
            have : it near far k (m + 2) p = some w := by
              rw [it_last, h1']
              simp only
              rw [ek2]
              exact a2
            have := two_walks m' (m + 2) k k' w this e2
            omega
theorem Rch.uniq {p v : Nat} {b b' : Bool} (h : Rch near far p v b) (h' : Rch near far p v b') : b = b' := by
  obtain ⟨k, m, h1, rfl⟩ := h
  obtain ⟨k', m', h2, rfl⟩ := h'
  exact (kd_par hn hf false m m').mpr (two_walks hn hf m' m k k' v h1 h2)
theorem Rch.zero (p : Nat) : Rch near far p p false := ⟨false, 0, rfl, rfl⟩
theorem Rch.next {p v w : Nat} {b j : Bool} (h : Rch near far p v b) (e : ed near far j v = some w) : Rch near far p w (!b) := by
  obtain ⟨k, m, h1, rfl⟩ := h
  cases m with
  | zero =>
    simp [it] at h1
    subst h1
    exact ⟨j, 1, by rw [it, e]; rfl, rfl⟩
  | succ m =>
    have h1' := h1
    rw [it_last] at h1
    cases e1 : it near far k m p with
    | none => rw [e1] at h1; cases h1
    | some w1 =>
      rw [e1] at h1
      simp only at h1
      by_cases ek : kd k m = j
      · rw [ek] at h1
        have a1 := ed_sym hn hf h1
        rw [e] at a1
        cases a1
        exact ⟨k, m, e1, by simp [kd]⟩
      · have ek2 : kd k (m + 1) = j := by
          rw [kd]
          cases h3 : kd k m <;> cases j <;> simp_all
        exact ⟨k, m + 2, by rw [it_last, h1']; simp only; rw [ek2]; exact e, by simp [kd]⟩
end
end XM
-- KMath3
set_option Elab.async false
set_option linter.all false
/-! plain laws of the mirrors: signs -/
namespace XM
open XR
def nones (l : List (Option Bool)) : Nat := l.countP fun o => decide (o = none)
theorem nones_set : ∀ (l : List (Option Bool)) (p : Nat) (b : Bool), l[p]? = some none → nones (l.set p (some b)) + 1 = nones l
  | [], p, b, h => by simp at h
  | o :: r, 0, b, h => by
    simp at h
    subst h
    simp [nones, List.countP_cons]
  | o :: r, p + 1, b, h => by
    simp at h
    have ih := nones_set r p b h
    unfold nones at *
    rw [List.set_cons_succ, List.countP_cons, List.countP_cons]
    omega
section
variable {near far : List (Option Nat)} {n : Nat}
structure GInv (near far : List (Option Nat)) (n : Nat) (S0 : List (Option Bool)) (p : Nat) (stk : List (Nat × Bool)) (S : List (Option Bool)) : Prop where
  len : S.length = n
  old : ∀ (q : Nat) (b : Bool), S0[q]? = some (some b) → S[q]? = some (some b)
  new : ∀ (q : Nat) (b : Bool), S[q]? = some (some b) → S0[q]? = some (some b) ∨ (S0[q]? = some none ∧ Rch near far p q b)
  sk : ∀ (q : Nat) (b : Bool), (q, b) ∈ stk → q < n ∧ Rch near far p q b
  cl : ∀ (q : Nat) (b j : Bool) (w : Nat), S[q]? = some (some b) → S0[q]? = some none → ed near far j q = some w → (∃ b', S[w]? = some (some b')) ∨ ∃ b', (w, b') ∈ stk
  st : (∃ b, S[p]? = some (some b)) ∨ ∃ b, (p, b) ∈ stk
theorem mem_push {stk : List (Nat × Bool)} {o : Option Nat} {b : Bool} {x : Nat × Bool} : x ∈ push stk o b ↔ (o = some x.1 ∧ x.2 = b) ∨ x ∈ stk := by
  cases o with
  | none => simp [push]
  | some q =>
    simp only [push, List.mem_cons, Option.some.injEq]
    constructor
    · rintro (h | h)
      · subst h; exact .inl ⟨rfl, rfl⟩
      · exact .inr h
    · rintro (⟨h1, h2⟩ | h)
      · left; obtain ⟨x1, x2⟩ := x; simp at h1 h2; rw [h1, h2]
      · exact .inr h
theorem push_len (stk : List (Nat × Bool)) (o : Option Nat) (b : Bool) : (push stk o b).length ≤ stk.length + 1 := by
  cases o <;> simp [push]
variable (hn : Pinv n near) (hf : Pinv n far)
include hn hf
theorem giveGo_ok {S0 : List (Option Bool)} (h0 : S0.length = n) {p : Nat} : ∀ (f : Nat) (stk : List (Nat × Bool)) (S : List (Option Bool)), 3 * nones S + stk.length < f → GInv near far n S0 p stk S →
    ∃ S', giveGo near far f stk S = some S' ∧ GInv near far n S0 p [] S'
  | 0, _, _, hm, _ => by omega
  | f + 1, [], S, hm, g => ⟨S, rfl, g⟩
  | f + 1, (v, b) :: stk, S, hm, g => by
    obtain ⟨hv, hr⟩ := g.sk v b (by simp)
    have hl := g.len
    unfold giveGo
    have hs : S[v]? = some S[v] := List.getElem?_eq_getElem (by omega)
    rw [hs]
    simp only [List.length_cons] at hm
    cases e : S[v] with
    | some b0 =>
      rw [e] at hs
      refine giveGo_ok h0 f stk S (by omega) ⟨g.len, g.old, g.new, fun q b' h => g.sk q b' (List.mem_cons_of_mem _ h), fun q b' j w h1 h2 h3 => ?_, ?_⟩
      · rcases g.cl q b' j w h1 h2 h3 with h | ⟨b2, h⟩
        · exact .inl h
        · rcases List.mem_cons.mp h with h | h
          · cases h; exact .inl ⟨b0, hs⟩
          · exact .inr ⟨b2, h⟩
      · rcases g.st with h | ⟨b2, h⟩
        · exact .inl h
        · rcases List.mem_cons.mp h with h | h
          · cases h; exact .inl ⟨b0, hs⟩
          · exact .inr ⟨b2, h⟩
    | none =>
      rw [e] at hs
      have vn : v < near.length := by rw [hn.len]; omega
      have vf : v < far.length := by rw [hf.len]; omega
      have n1 : near[v]? = some near[v] := List.getElem?_eq_getElem (by rw [hn.len]; omega)
      have n2 : far[v]? = some far[v] := List.getElem?_eq_getElem (by rw [hf.len]; omega)
      have e1 : ed near far false v = near[v] := by
        unfold ed
        simp only [Bool.false_eq_true, if_false]
        rw [n1]
      have e2 : ed near far true v = far[v] := by
        unfold ed
        simp only [if_true]
        rw [n2]
      simp only [n1, n2]
      have hc := nones_set S v b hs
      have p1 := push_len stk near[v] (!b)
      have p2 := push_len (push stk near[v] (!b)) far[v] (!b)
      have ho : S0[v]? = some none := by
        have h1 : S0[v]? = some S0[v] := List.getElem?_eq_getElem (by omega)
        cases h2 : S0[v] with
        | none => rw [h1, h2]
        | some b2 =>
          rw [h2] at h1
          have := g.old v b2 h1
          rw [hs] at this
          cases this
      refine giveGo_ok h0 f _ _ (by omega) ⟨by simp [hl], fun q b' h => ?_, fun q b' h => ?_, fun q b' h => ?_, fun q b' j w h1 h2 h3 => ?_, ?_⟩
      · by_cases eq : q = v
        · subst eq; rw [ho] at h; cases h
        · rw [List.getElem?_set_ne (by omega)]; exact g.old q b' h
      · by_cases eq : q = v
        · subst eq
          rw [List.getElem?_set_self (by omega)] at h
          cases h
          exact .inr ⟨ho, hr⟩
        · rw [List.getElem?_set_ne (by omega)] at h
          exact g.new q b' h
      · rw [mem_push, mem_push] at h
        rcases h with ⟨h1, h2⟩ | ⟨h1, h2⟩ | h
        · simp only at h1 h2
          subst h2
          rw [← e2] at h1
          exact ⟨ed_lt hn hf h1, hr.next hn hf h1⟩
        · simp only at h1 h2
          subst h2
          rw [← e1] at h1
          exact ⟨ed_lt hn hf h1, hr.next hn hf h1⟩
        · exact g.sk q b' (List.mem_cons_of_mem _ h)
      · by_cases eq : q = v
        · subst eq
          right
          refine ⟨!b, ?_⟩
          rw [mem_push, mem_push]
          cases j with
          | false => rw [e1] at h3; exact .inr (.inl ⟨h3, rfl⟩)
          | true => rw [e2] at h3; exact .inl ⟨h3, rfl⟩
        · rw [List.getElem?_set_ne (by omega)] at h1
          rcases g.cl q b' j w h1 h2 h3 with ⟨b2, h⟩ | ⟨b2, h⟩
          · left
            refine ⟨b2, ?_⟩
            rw [List.getElem?_set_ne]
            · exact h
            · intro e'; subst e'; rw [hs] at h; cases h
          · rcases List.mem_cons.mp h with h | h
            · cases h
              exact .inl ⟨b, List.getElem?_set_self (by omega)⟩
            · right
              exact ⟨b2, by rw [mem_push, mem_push]; exact .inr (.inr h)⟩
      · rcases g.st with ⟨b2, h⟩ | ⟨b2, h⟩
        · left
          refine ⟨b2, ?_⟩
          rw [List.getElem?_set_ne]
          · exact h
          · intro e'; subst e'; rw [hs] at h; cases h
        · rcases List.mem_cons.mp h with h | h
          · cases h
            exact .inl ⟨b, List.getElem?_set_self (by omega)⟩
          · right
            exact ⟨b2, by rw [mem_push, mem_push]; exact .inr (.inr h)⟩
/-- signs that are right where they are given, and given to whole pieces -/
structure HInv (near far : List (Option Nat)) (n : Nat) (S : List (Option Bool)) : Prop where
  len : S.length = n
  cl : ∀ (q : Nat) (b j : Bool) (w : Nat), S[q]? = some (some b) → ed near far j q = some w → S[w]? = some (some (!b))
theorem give_ok {S : List (Option Bool)} (h : HInv near far n S) {p : Nat} (hp : S[p]? = some none) : ∃ S', give near far p S = some S' ∧ HInv near far n S' ∧ (∃ b, S'[p]? = some (some b)) ∧ ∀ (q : Nat) (b : Bool), S[q]? = some (some b) → S'[q]? = some (some b) := by
  have hl := h.len
  have hpn : p < n := by rw [← hl]; exact (List.getElem?_eq_some_iff.mp hp).1
  have nl : nones S ≤ S.length := List.countP_le_length
  obtain ⟨S', h1, g⟩ := giveGo_ok hn hf hl (3 * S.length + 2) [(p, false)] S (by simp; omega) (p := p)
    ⟨hl, fun q b h => h, fun q b h => .inl h, fun q b hm => by simp at hm; obtain ⟨e1, e2⟩ := hm; subst e1; subst e2; exact ⟨hpn, Rch.zero hn hf q⟩,
      fun q b j w a1 a2 _ => (by rw [a1] at a2; cases a2), Or.inr ⟨false, by simp⟩⟩
  refine ⟨S', h1, ⟨g.len, fun q b j w a1 a2 => ?_⟩, ?_, g.old⟩
  · rcases g.new q b a1 with c | ⟨c, r⟩
    · exact g.old _ _ (h.cl q b j w c a2)
    · have t := g.cl q b j w a1 c a2
      simp at t
      have : ∃ b', S'[w]? = some (some b') := by
        rcases t with t | t
        · exact ⟨_, t⟩
        · exact ⟨_, t⟩
      obtain ⟨b', t⟩ := this
      have a3 := ed_sym hn hf a2
      rcases g.new w b' t with d | ⟨d, r'⟩
      · have := h.cl w b' j q d a3
        rw [c] at this
        cases this
      · rw [t, r'.uniq hn hf (r.next hn hf a2)]
  · rcases g.st with t | ⟨b, t⟩
    · exact t
    · cases t
theorem halvesGo_ok : ∀ (l : List Nat) (S : List (Option Bool)), HInv near far n S → (∀ p ∈ l, p < n) → ∃ S', halvesGo near far l S = some S' ∧ HInv near far n S' ∧ (∀ p ∈ l, ∃ b, S'[p]? = some (some b)) ∧ ∀ (q : Nat) (b : Bool), S[q]? = some (some b) → S'[q]? = some (some b)
  | [], S, h, _ => ⟨S, rfl, h, by simp, fun q b e => e⟩
  | p :: r, S, h, hl => by
    have hp : p < n := hl p (by simp)
    have l := h.len
    have hs : S[p]? = some S[p] := List.getElem?_eq_getElem (by omega)
    unfold halvesGo
    rw [hs]
    cases e : S[p] with
    | some b =>
      rw [e] at hs
      obtain ⟨S', h1, h2, h3, h4⟩ := halvesGo_ok r S h fun q hq => hl q (List.mem_cons_of_mem _ hq)
      refine ⟨S', h1, h2, fun q hq => ?_, h4⟩
      rcases List.mem_cons.mp hq with hq | hq
      · subst hq; exact ⟨b, h4 _ _ hs⟩
      · exact h3 q hq
    | none =>
      rw [e] at hs
      obtain ⟨S1, g1, g2, ⟨b, g3⟩, g4⟩ := give_ok hn hf h hs
      obtain ⟨S', h1, h2, h3, h4⟩ := halvesGo_ok r S1 g2 fun q hq => hl q (List.mem_cons_of_mem _ hq)
      refine ⟨S', by simp only [g1]; exact h1, h2, fun q hq => ?_, fun q b' e' => h4 _ _ (g4 _ _ e')⟩
      rcases List.mem_cons.mp hq with hq | hq
      · subst hq; exact ⟨b, h4 _ _ g3⟩
      · exact h3 q hq
end
theorem allSome_ok : ∀ (S : List (Option Bool)), (∀ p, p < S.length → ∃ b, S[p]? = some (some b)) → ∃ bs, allSome S = some bs ∧ S = bs.map some
  | [], _ => ⟨[], rfl, rfl⟩
  | o :: r, h => by
    obtain ⟨b, hb⟩ := h 0 (by simp)
    simp at hb
    subst hb
    obtain ⟨bs, h1, h2⟩ := allSome_ok r fun p hp => by
      have := h (p + 1) (by simpa using hp)
      simpa using this
    exact ⟨b :: bs, by simp [allSome, h1], by simp [h2]⟩
/-- the pairs of ps whose sign is b -/
def half (ps : List Pr) (bs : List Bool) (b : Bool) : List Pr := (ps.zip bs).filterMap fun q => if q.2 = b then some q.1 else none
theorem half_cons (p : Pr) (ps : List Pr) (c : Bool) (bs : List Bool) (b : Bool) : half (p :: ps) (c :: bs) b = if c = b then p :: half ps bs b else half ps bs b := by
  unfold half
  rw [List.zip_cons_cons, List.filterMap_cons]
  by_cases h : c = b
  · simp [h]
  · simp [h]
theorem half_sum (k : Rk) : ∀ (ps : List Pr) (bs : List Bool) (i : Nat) (g : Nat → Bool), ps.length = bs.length → (∀ j b, bs[j]? = some b → g (i + j) = b) →
    dg (half ps bs false) k + dg (half ps bs true) k = dg ps k ∧ ((dg (half ps bs true) k : Nat) : Int) - (dg (half ps bs false) k : Nat) = sumF k g i ps
  | [], [], i, g, _, _ => by simp [half, dg, sumF]
  | [], c :: bs, _, _, h, _ => by simp at h
  | p :: ps, [], _, _, h, _ => by simp at h
  | p :: ps, c :: bs, i, g, h, hg => by
    obtain ⟨h1, h2⟩ := half_sum k ps bs (i + 1) g (by simpa using h) fun j b e => by
      have := hg (j + 1) b (by simpa using e)
      rw [show i + 1 + j = i + (j + 1) by omega]
      exact this
    have g0 : g i = c := hg 0 c (by simp)
    rw [half_cons, half_cons, sumF, dg_cons, ← h2, ← h1, g0]
    cases c with
    | false =>
      simp only [Bool.false_eq_true, if_true, if_false, dg_cons, sg]
      split <;> constructor <;> (try simp) <;> omega
    | true =>
      simp only [Bool.true_eq_false, if_true, if_false, dg_cons, sg]
      split <;> constructor <;> (try simp) <;> omega
theorem halves_ok (ps : List Pr) : ∃ S bs, halves ps = some S ∧ allSome S = some bs ∧ bs.length = ps.length ∧ ∀ b k, dg (half ps bs b) k ≤ (dg ps k + 1) / 2 := by
  obtain ⟨near, a1, a2, a3⟩ := partners_ok ps false
  obtain ⟨far, b1, b2, b3⟩ := partners_ok ps true
  have h0 : HInv near far ps.length (List.replicate ps.length none) := ⟨by simp, fun q b j w e => by
    rw [List.getElem?_replicate] at e
    split at e <;> simp at e⟩
  obtain ⟨S, h1, h2, h3, h4⟩ := halvesGo_ok a2 b2 (List.range ps.length) _ h0 fun p hp => List.mem_range.mp hp
  have sl := h2.len
  obtain ⟨bs, c1, c2⟩ := allSome_ok S fun p hp => h3 p (List.mem_range.mpr (by omega))
  have bl : bs.length = ps.length := by
    rw [← sl, c2, List.length_map]
  refine ⟨S, bs, by unfold halves; rw [a1, b1]; exact h1, c1, bl, fun b k => ?_⟩
  have hg : ∀ j q, (fun i => bs.getD i false) j = q → True := fun _ _ _ => trivial
  have flip : ∀ (c : Bool) (f : List (Option Nat)), (∀ j q : Nat, f[j]? = some (some q) → ed near far c j = some q) → ∀ j q : Nat, f[j]? = some (some q) → bs.getD j false ≠ bs.getD q false := fun c f hf j q e => by
    have e1 := hf j q e
    have jl : j < ps.length := ed_lt a2 b2 (ed_sym a2 b2 e1)
    obtain ⟨b0, s0⟩ := h3 j (List.mem_range.mpr jl)
    have s1 := h2.cl j b0 c q s0 e1
    rw [c2, List.getElem?_map] at s0 s1
    rw [List.getD_eq_getElem?_getD, List.getD_eq_getElem?_getD]
    cases d0 : bs[j]? with
    | none => rw [d0] at s0; cases s0
    | some x0 =>
      cases d1 : bs[q]? with
      | none => rw [d1] at s1; cases s1
      | some x1 =>
        rw [d0] at s0
        rw [d1] at s1
        simp at s0 s1
        simp [s0, s1]
  have sum : ∃ o, sumF k (fun i => bs.getD i false) 0 ps = rest o fun i => bs.getD i false := by
    obtain ⟨s, k⟩ := k
    cases s with
    | false => exact a3 _ (flip false near fun j q e => by unfold ed; simp [e]) k
    | true => exact b3 _ (flip true far fun j q e => by unfold ed; simp [e]) k
  obtain ⟨o, sum⟩ := sum
  have hs := half_sum k ps bs 0 (fun i => bs.getD i false) bl.symm fun j b e => by
    simp only [Nat.zero_add]
    rw [List.getD_eq_getElem?_getD, e]
    rfl
  obtain ⟨t1, t2⟩ := hs
  rw [sum] at t2
  have bound : rest o (fun i => bs.getD i false) ≤ 1 ∧ -1 ≤ rest o (fun i => bs.getD i false) := by
    unfold rest
    cases o with
    | none => simp
    | some o =>
      simp only
      unfold sg
      split <;> simp
  cases b with
  | false => omega
  | true => omega
end XM
-- KMath4
set_option Elab.async false
set_option linter.all false
/-! plain laws of the mirrors: touching -/
namespace XM
open XR
theorem rk_fst (p : Pr) (s : Bool) : (rk p s).1 = s := rfl
theorem dg_at {ps : List Pr} {i : Nat} {p : Pr} (h : ps[i]? = some p) (s : Bool) : 0 < dg ps (rk p s) := dg_pos.mpr ⟨p, List.mem_of_getElem? h, rfl⟩
theorem keys_side {ps : List Pr} {s : Bool} {l : List Rk} (nd : l.Nodup) (h : ∀ k ∈ l, k.1 = s ∧ 0 < dg ps k) : l.length ≤ ps.length := by
  have := nodup_len (m := ps.map fun p => rk p s) nd fun k hk => by
    obtain ⟨h1, h2⟩ := h k hk
    obtain ⟨p, h3, h4⟩ := dg_pos.mp h2
    exact List.mem_map.mpr ⟨p, h3, by rw [← h1]; exact h4⟩
  simpa using this
theorem keys_all {ps : List Pr} {l : List Rk} (nd : l.Nodup) (h : ∀ k ∈ l, 0 < dg ps k) : l.length ≤ 2 * ps.length := by
  have := nodup_len (m := (ps.map fun p => rk p false) ++ ps.map fun p => rk p true) nd fun k hk => by
    obtain ⟨p, h3, h4⟩ := dg_pos.mp (h k hk)
    obtain ⟨s, k⟩ := k
    rw [List.mem_append, List.mem_map, List.mem_map]
    cases s with
    | false => exact .inl ⟨p, h3, h4⟩
    | true => exact .inr ⟨p, h3, h4⟩
  simp only [List.length_append, List.length_map] at this
  omega
/-- held is a matching -/
structure Mt (ps : List Pr) (held : List (Rk × Nat)) : Prop where
  nd : (held.map (·.1)).Nodup
  on : ∀ (k : Rk) (pl : Nat), aget held k = some pl → ∃ p, ps[pl]? = some p ∧ rk p k.1 = k ∧ aget held (rk p !k.1) = some pl
/-- a matching, but that the entry of t is of no account -/
structure MX (ps : List Pr) (held : List (Rk × Nat)) (t : Rk) : Prop where
  nd : (held.map (·.1)).Nodup
  ky : ∀ k ∈ held.map (·.1), 0 < dg ps k
  on : ∀ (k : Rk) (pl : Nat), k ≠ t → aget held k = some pl → ∃ p, ps[pl]? = some p ∧ rk p k.1 = k ∧ rk p (!k.1) ≠ t ∧ aget held (rk p !k.1) = some pl
/-- the tree of what came -/
structure Tree (ps : List Pr) (held : List (Rk × Nat)) (start : Rk) (came : List (Rk × Nat)) : Prop where
  nd : (came.map (·.1)).Nodup
  on : ∀ (i : Nat) (t : Rk) (pl : Nat), came[i]? = some (t, pl) → ∃ p, ps[pl]? = some p ∧ rk p (!start.1) = t ∧
    (rk p start.1 = start ∨ ∃ (j : Nat) (t' : Rk) (pl' q : Nat) (pq : Pr), j < i ∧ came[j]? = some (t', pl') ∧ aget held t' = some q ∧ ps[q]? = some pq ∧ rk pq start.1 = rk p start.1)
theorem side_ne {p q : Pr} {s : Bool} : rk p s ≠ rk q (!s) := fun h => by
  have := congrArg Prod.fst h
  cases s <;> cases this
theorem idx_uniq {α β : Type} [DecidableEq α] {l : List (α × β)} (nd : (l.map (·.1)).Nodup) {i j : Nat} {a : α} {x y : β} (h1 : l[i]? = some (a, x)) (h2 : l[j]? = some (a, y)) : i = j := by
  have e1 : (l.map (·.1))[i]? = some a := by rw [List.getElem?_map, h1]; rfl
  have e2 : (l.map (·.1))[j]? = some a := by rw [List.getElem?_map, h2]; rfl
  obtain ⟨l1, e1⟩ := List.getElem?_eq_some_iff.mp e1
  obtain ⟨l2, e2⟩ := List.getElem?_eq_some_iff.mp e2
  exact (List.getElem_inj nd).mp (e1.trans e2.symm)
theorem aget_key {α β : Type} [DecidableEq α] {l : List (α × β)} {k : α} {x : β} (h : aget l k = some x) : k ∈ l.map (·.1) := List.mem_map.mpr ⟨(k, x), aget_mem h, rfl⟩
/-- the held one is as it was, for the first i that came -/
def Agree (ps : List Pr) (held0 held came : List (Rk × Nat)) (s : Bool) (i : Nat) : Prop := ∀ (j : Nat) (t : Rk) (pl : Nat), j < i → came[j]? = some (t, pl) →
  aget held t = aget held0 t ∧ ∀ (q : Nat) (pq : Pr), aget held0 t = some q → ps[q]? = some pq → aget held (rk pq s) = aget held0 (rk pq s)
theorem exGo_ok {ps : List Pr} (hz : ps.length < 64) {held0 came : List (Rk × Nat)} {start : Rk} (m0 : Mt ps held0) (tr : Tree ps held0 start came) : ∀ (i f : Nat) (held : List (Rk × Nat)) (t : Rk) (pl : Nat), i < f → came[i]? = some (t, pl) →
    MX ps held t → aget held start = none → Agree ps held0 held came start.1 i →
    ∃ held', exGo ps came start f held t = some held' ∧ Mt ps held' ∧ (aget held' start).isSome = true ∧ ∀ k, (aget held k).isSome = true → (aget held' k).isSome = true := fun i => by
  induction i using Nat.strongRecOn with
  | _ i ih =>
  intro f held t pl hf hc mx hs ag
  obtain ⟨f, rfl⟩ : ∃ g, f = g + 1 := ⟨f - 1, by omega⟩
  obtain ⟨p, h1, h2, h3⟩ := tr.on i t pl hc
  have e1 : aget came t = some pl := aget_of_mem tr.nd (List.mem_of_getElem? hc)
  have hlen : held.length < 1000 := by
    have := keys_all mx.nd mx.ky
    simp only [List.length_map] at this
    omega
  have nd' := aput_nodup (k := rk p start.1) (x := pl) (aput_nodup (k := t) (x := pl) mx.nd)
  have tu : t ≠ rk p start.1 := by rw [← h2]; exact fun e => side_ne e.symm
  have mono : ∀ k, (aget held k).isSome = true → (aget (aput (aput held t pl) (rk p start.1) pl) k).isSome = true := fun k hk => by
    rw [aget_aput, aget_aput]
    split
    · rfl
    · split
      · rfl
      · exact hk
  have at_t : aget (aput (aput held t pl) (rk p start.1) pl) t = some pl := by
    rw [aget_aput, if_neg (fun e => tu e.symm), aget_aput, if_pos rfl]
  have at_u : aget (aput (aput held t pl) (rk p start.1) pl) (rk p start.1) = some pl := by
    rw [aget_aput, if_pos rfl]
  have other : ∀ k, k ≠ t → k ≠ rk p start.1 → aget (aput (aput held t pl) (rk p start.1) pl) k = aget held k := fun k n1 n2 => by
    rw [aget_aput, if_neg (fun e => n2 e.symm), aget_aput, if_neg (fun e => n1 e.symm)]
  have back : rk p (!(rk p start.1).1) = t := h2
  have t1 : t.1 = !start.1 := by rw [← h2]; rfl
  have fwd : rk p (!t.1) = rk p start.1 := by rw [t1, Bool.not_not]
  have own : rk p t.1 = t := by rw [t1]; exact h2
  unfold exGo
  simp only [e1, h1, hlen, not_true_eq_false, if_false]
  by_cases es : rk p start.1 = start
  · rw [if_pos es]
    refine ⟨_, rfl, ⟨nd', fun k pl2 hk => ?_⟩, ?_, mono⟩
    · by_cases ku : k = rk p start.1
      · subst ku
        rw [at_u] at hk
        cases hk
        exact ⟨p, h1, rfl, by rw [back]; exact at_t⟩
      · by_cases kt : k = t
        · subst kt
          rw [at_t] at hk
          cases hk
          exact ⟨p, h1, own, by rw [fwd]; exact at_u⟩
        · rw [other k kt ku] at hk
          obtain ⟨p2, a1, a2, a3, a4⟩ := mx.on k pl2 kt hk
          refine ⟨p2, a1, a2, ?_⟩
          rw [other _ a3]
          · exact a4
          · rw [es]
            intro e
            rw [e, hs] at a4
            cases a4
    · have := at_u
      rw [es] at this ⊢
      rw [this]
      rfl
  · rw [if_neg es]
    rcases h3 with h3 | ⟨j, t', pl', q, pq, j1, j2, j3, j4, j5⟩
    · exact absurd h3 es
    obtain ⟨p', j6, j7, j8⟩ := tr.on j t' pl' j2
    obtain ⟨pq', k1, k2, k3⟩ := m0.on t' q j3
    rw [j4] at k1
    cases k1
    have t1' : t'.1 = !start.1 := by rw [← j7]; rfl
    have ag1 := ag j t' pl' j1 j2
    have hu : aget held (rk p start.1) = some q := by
      rw [← j5, ag1.2 q pq j3 j4]
      rw [t1', Bool.not_not] at k3
      exact k3
    have hu0 : aget held0 (rk p start.1) = some q := by
      rw [← j5]
      rw [t1', Bool.not_not] at k3
      exact k3
    have nt : rk pq (!start.1) = t' := by rw [← t1']; exact k2
    have tt' : t' ≠ t := fun e => by
      subst e
      have := idx_uniq tr.nd hc j2
      omega
    have t'u : t' ≠ rk p start.1 := by rw [← nt]; exact fun e => side_ne e.symm
    simp only [hu, j4, nt]
    have step := ih j j1 f (aput (aput held t pl) (rk p start.1) pl) t' pl' (by omega) j2 ⟨nd', fun k hk => ?_, fun k pl2 kt' hk => ?_⟩ ?_ ?_
    · obtain ⟨held', g1, g2, g3, g4⟩ := step
      exact ⟨held', g1, g2, g3, fun k hk => g4 k (mono k hk)⟩
    · rw [mem_aput, mem_aput] at hk
      rcases hk with hk | hk | hk
      · rw [hk]; exact dg_at h1 _
      · rw [hk, ← h2]; exact dg_at h1 _
      · exact mx.ky k hk
    · by_cases ku : k = rk p start.1
      · subst ku
        rw [at_u] at hk
        cases hk
        exact ⟨p, h1, rfl, by rw [back]; exact fun e => tt' e.symm, by rw [back]; exact at_t⟩
      · by_cases kt : k = t
        · subst kt
          rw [at_t] at hk
          cases hk
          exact ⟨p, h1, own, by rw [fwd]; exact fun e => t'u e.symm, by rw [fwd]; exact at_u⟩
        · rw [other k kt ku] at hk
          obtain ⟨p2, a1, a2, a3, a4⟩ := mx.on k pl2 kt hk
          have n1 : rk p2 (!k.1) ≠ rk p start.1 := fun e => by
            rw [e, hu] at a4
            cases a4
            rw [j4] at a1
            cases a1
            have : (!k.1) = start.1 := congrArg Prod.fst e
            have : k.1 = !start.1 := by rw [← this, Bool.not_not]
            rw [this] at a2
            exact kt' (a2.symm.trans nt)
          have n2 : rk p2 (!k.1) ≠ t' := fun e => by
            rw [e, ag1.1, j3] at a4
            cases a4
            rw [j4] at a1
            cases a1
            have : (!k.1) = t'.1 := congrArg Prod.fst e
            rw [t1'] at this
            have : k.1 = start.1 := by cases h5 : k.1 <;> cases h6 : start.1 <;> simp_all
            rw [this] at a2
            exact ku (a2.symm.trans j5)
          exact ⟨p2, a1, a2, n2, by rw [other _ a3 n1]; exact a4⟩
    · rw [other]
      · exact hs
      · intro e
        rw [e, t1] at t1
        cases h6 : t.1 <;> simp_all
      · exact fun e => es e.symm
    · intro j' t'' pl'' l1 l2
      obtain ⟨p'', b1, b2, _⟩ := tr.on j' t'' pl'' l2
      obtain ⟨b3, b4⟩ := ag j' t'' pl'' (by omega) l2
      have n1 : t'' ≠ t := fun e => by
        subst e
        have := idx_uniq tr.nd hc l2
        omega
      have n2 : t'' ≠ rk p start.1 := by rw [← b2]; exact fun e => side_ne e.symm
      refine ⟨by rw [other _ n1 n2]; exact b3, fun q2 pq2 c1 c2 => ?_⟩
      have n3 : rk pq2 start.1 ≠ t := by rw [← h2]; exact side_ne
      have n4 : rk pq2 start.1 ≠ rk p start.1 := fun e => by
        obtain ⟨pq3, d1, d2, d3⟩ := m0.on t'' q2 c1
        rw [c2] at d1
        cases d1
        have t1'' : t''.1 = !start.1 := by rw [← b2]; rfl
        rw [t1'', Bool.not_not, e, hu0] at d3
        cases d3
        rw [j4] at c2
        cases c2
        rw [t1''] at d2
        have : t'' = t' := d2.symm.trans nt
        subst this
        have := idx_uniq tr.nd j2 l2
        omega
      rw [other _ n3 n4]
      exact b4 q2 pq2 c1 c2
end XM
-- KMath5
set_option Elab.async false
set_option linter.all false
/-! plain laws of the mirrors: touch, touching -/
namespace XM
open XR
theorem Mt.x {ps : List Pr} {held : List (Rk × Nat)} (m : Mt ps held) {t : Rk} (h : aget held t = none) : MX ps held t := ⟨m.nd, fun k hk => by
    obtain ⟨pl, e⟩ := Option.isSome_iff_exists.mp (aget_isSome.mpr hk)
    obtain ⟨p, h1, h2, _⟩ := m.on k pl e
    rw [← h2]
    exact dg_at h1 _, fun k pl _ e => by
    obtain ⟨p, h1, h2, h3⟩ := m.on k pl e
    exact ⟨p, h1, h2, fun e' => (by rw [e', h] at h3; cases h3), h3⟩⟩
theorem adrop_nodup {α β : Type} [DecidableEq α] {l : List (α × β)} {k : α} (h : (l.map (·.1)).Nodup) : ((adrop l k).map (·.1)).Nodup := by
  unfold adrop
  exact h.sublist (List.Sublist.map _ List.filter_sublist)
theorem Mt.pop {ps : List Pr} {held : List (Rk × Nat)} (m : Mt ps held) {t : Rk} {q : Nat} {pq : Pr} (h : aget held t = some q) (hq : ps[q]? = some pq) : MX ps (adrop held (rk pq !t.1)) t := by
  obtain ⟨pq', a1, a2, a3⟩ := m.on t q h
  rw [hq] at a1
  cases a1
  refine ⟨adrop_nodup m.nd, fun k hk => ?_, fun k pl kt e => ?_⟩
  · obtain ⟨pl, e⟩ := Option.isSome_iff_exists.mp (aget_isSome.mpr hk)
    rw [aget_adrop] at e
    split at e
    · cases e
    · obtain ⟨p, h1, h2, _⟩ := m.on k pl e
      rw [← h2]
      exact dg_at h1 _
  · rw [aget_adrop] at e
    split at e
    · cases e
    · rename_i nk
      obtain ⟨p, h1, h2, h3⟩ := m.on k pl e
      have n1 : rk p (!k.1) ≠ t := fun e' => by
        rw [e', h] at h3
        cases h3
        rw [hq] at h1
        cases h1
        have s1 : (!k.1) = t.1 := congrArg Prod.fst e'
        have s2 : k.1 = !t.1 := by rw [← s1, Bool.not_not]
        rw [← s2] at nk
        exact nk h2
      refine ⟨p, h1, h2, n1, ?_⟩
      rw [aget_adrop, if_neg]
      · exact h3
      · intro e'
        rw [← e', a3] at h3
        cases h3
        rw [hq] at h1
        cases h1
        have s1 : (!t.1) = !k.1 := congrArg Prod.fst e'
        have s2 : k.1 = t.1 := by cases h5 : k.1 <;> cases h6 : t.1 <;> simp_all
        rw [s2] at h2
        exact kt (h2.symm.trans a2)
/-- what the walk from start keeps -/
structure BI (ps : List Pr) (held : List (Rk × Nat)) (heavy : List (Rk × Unit)) (start : Rk) (came : List (Rk × Nat)) (todo : List Rk) : Prop where
  tr : Tree ps held start came
  ct : ∀ (t : Rk) (pl : Nat), (t, pl) ∈ came → ∃ q pq, aget held t = some q ∧ ps[q]? = some pq ∧ rk pq start.1 ∈ todo
  td : ∀ k ∈ todo, k = start ∨ ∃ t pl q pq, (t, pl) ∈ came ∧ aget held t = some q ∧ ps[q]? = some pq ∧ rk pq start.1 = k
  hv : ∀ k ∈ todo, (aget heavy k).isSome = true
  sd : ∀ k ∈ todo, k.1 = start.1
  tn : todo.Nodup
  tl : todo.length = came.length + 1
/-- what a touch is to bring about -/
def Touched (ps : List Pr) (held : List (Rk × Nat)) (heavy : List (Rk × Unit)) (start : Rk) (held' : List (Rk × Nat)) : Prop :=
  Mt ps held' ∧ (aget held' start).isSome = true ∧ ∀ k, (aget heavy k).isSome = true → (aget held k).isSome = true → (aget held' k).isSome = true
theorem Tree.keys {ps : List Pr} {held : List (Rk × Nat)} {start : Rk} {came : List (Rk × Nat)} (t : Tree ps held start came) : ∀ k ∈ came.map (·.1), k.1 = (!start.1) ∧ 0 < dg ps k := fun k hk => by
  obtain ⟨⟨k', pl⟩, h1, rfl⟩ := List.mem_map.mp hk
  obtain ⟨i, h2⟩ := List.mem_iff_getElem?.mp h1
  obtain ⟨p, h3, h4, _⟩ := t.on i k' pl h2
  refine ⟨?_, ?_⟩
  · rw [← h4]; rfl
  · show 0 < dg ps k'
    rw [← h4]; exact dg_at h3 _
theorem Tree.len {ps : List Pr} {held : List (Rk × Nat)} {start : Rk} {came : List (Rk × Nat)} (t : Tree ps held start came) : came.length ≤ ps.length := by
  have := keys_side t.nd t.keys
  simpa using this
theorem bi_add {ps : List Pr} {held : List (Rk × Nat)} {heavy : List (Rk × Unit)} {start : Rk} {came : List (Rk × Nat)} {todo : List Rk} (b : BI ps held heavy start came todo) {pl : Nat} {p : Pr} (hp : ps[pl]? = some p) (hk : rk p start.1 ∈ todo) (hn : aget came (rk p !start.1) = none) :
    Tree ps held start (aput came (rk p !start.1) pl) := by
  have nk := aget_none.mp hn
  rw [aput_new nk]
  refine ⟨?_, fun i t pl' e => ?_⟩
  · rw [← aput_new nk]; exact aput_nodup b.tr.nd
  · by_cases hi : i < came.length
    · rw [List.getElem?_append_left hi] at e
      obtain ⟨p', h1, h2, h3⟩ := b.tr.on i t pl' e
      refine ⟨p', h1, h2, ?_⟩
      rcases h3 with h3 | ⟨j, t', pl2, q, pq, g1, g2, g3⟩
      · exact .inl h3
      · exact .inr ⟨j, t', pl2, q, pq, g1, by rw [List.getElem?_append_left (by omega)]; exact g2, g3⟩
    · rw [List.getElem?_append_right (by omega)] at e
      have i0 : i - came.length = 0 := by
        cases h : i - came.length with
        | zero => rfl
        | succ n => rw [h] at e; simp at e
      rw [i0] at e
      simp at e
      obtain ⟨e1, e2⟩ := e
      subst e1
      subst e2
      refine ⟨p, hp, rfl, ?_⟩
      rcases b.td _ hk with h | ⟨t, pl2, q, pq, g1, g2, g3, g4⟩
      · exact .inl h
      · obtain ⟨j, g5⟩ := List.mem_iff_getElem?.mp g1
        have jl : j < came.length := (List.getElem?_eq_some_iff.mp g5).1
        exact .inr ⟨j, t, pl2, q, pq, by omega, by rw [List.getElem?_append_left jl]; exact g5, g2, g3, g4⟩
theorem aput_last {κ α : Type} [DecidableEq κ] {l : List (κ × α)} {k : κ} {x : α} (h : aget l k = none) : (aput l k x)[l.length]? = some (k, x) ∧ (aput l k x).length = l.length + 1 := by
  rw [aput_new (aget_none.mp h)]
  simp
theorem touchIn_ok {ps : List Pr} (hz : ps.length < 64) {held : List (Rk × Nat)} {heavy : List (Rk × Unit)} {start : Rk} (m : Mt ps held) (hs : aget held start = none) : ∀ (r : List Nat) (came : List (Rk × Nat)) (todo : List Rk),
    BI ps held heavy start came todo → (∀ pl ∈ r, ∃ p, ps[pl]? = some p ∧ rk p start.1 ∈ todo) →
    (∃ held', touchIn ps held heavy start r came todo = some (.inl held') ∧ Touched ps held heavy start held') ∨
    ∃ came' todo', touchIn ps held heavy start r came todo = some (.inr (came', todo')) ∧ BI ps held heavy start came' todo' ∧ (∃ ex, todo' = todo ++ ex) ∧ (∀ t, (aget came t).isSome = true → (aget came' t).isSome = true) ∧
      ∀ pl ∈ r, ∃ p, ps[pl]? = some p ∧ (aget came' (rk p !start.1)).isSome = true
  | [], came, todo, b, _ => .inr ⟨came, todo, rfl, b, ⟨[], by simp⟩, fun _ h => h, by simp⟩
  | pl :: r, came, todo, b, hr => by
    obtain ⟨p, hp, hk⟩ := hr pl (by simp)
    have hr' : ∀ pl ∈ r, ∃ p, ps[pl]? = some p ∧ rk p start.1 ∈ todo := fun x hx => hr x (List.mem_cons_of_mem _ hx)
    unfold touchIn
    rw [hp]
    cases hc : aget came (rk p !start.1) with
    | some v =>
      simp only [hc]
      rcases touchIn_ok hz m hs r came todo b hr' with h | ⟨c', t', g1, g2, g3, g4, g5⟩
      · exact .inl h
      · refine .inr ⟨c', t', g1, g2, g3, g4, fun x hx => ?_⟩
        rcases List.mem_cons.mp hx with hx | hx
        · subst hx
          exact ⟨p, hp, g4 _ (by rw [hc]; rfl)⟩
        · exact g5 x hx
    | none =>
      have tr' := bi_add b hp hk hc
      have cl := tr'.len
      obtain ⟨al, ac⟩ := aput_last (x := pl) hc
      have tl := b.tl
      have guard : came.length < 1000 ∧ todo.length < 1000 := by omega
      simp only [hc, guard, and_self, not_true_eq_false, if_false]
      have ts : (rk p !start.1).1 = !start.1 := rfl
      cases hh : aget held (rk p !start.1) with
      | none =>
        simp only [hh]
        left
        obtain ⟨held', g1, g2, g3, g4⟩ := exGo_ok hz m tr' came.length ((aput came (rk p !start.1) pl).length + 1) held (rk p !start.1) pl (by omega) al (m.x hh) hs (fun j t pl' _ _ => ⟨rfl, fun _ _ _ _ => rfl⟩)
        refine ⟨held', ?_, g2, g3, fun k _ h => g4 k h⟩
        unfold ex
        rw [g1]
        rfl
      | some q =>
        obtain ⟨pq, q1, q2, q3⟩ := m.on _ q hh
        rw [ts, Bool.not_not] at q3
        simp only [hh, q1]
        cases hv : aget heavy (rk pq start.1) with
        | some u =>
          simp only [hv]
          have nb : rk pq start.1 ∉ todo := fun hin => by
            rcases b.td _ hin with h | ⟨t, pl2, q', pq', g1, g2, g3, g4⟩
            · rw [h, hs] at q3; cases q3
            · obtain ⟨pq2, d1, d2, d3⟩ := m.on t q' g2
              rw [g3] at d1
              cases d1
              have tk := b.tr.keys t (List.mem_map.mpr ⟨(t, pl2), g1, rfl⟩)
              rw [tk.1, Bool.not_not, g4, q3] at d3
              cases d3
              rw [q1] at g3
              cases g3
              rw [tk.1] at d2
              have e : rk p (!start.1) = t := by rw [← d2]; exact q2.symm
              have := aget_none.mp hc
              rw [e] at this
              exact this (List.mem_map.mpr ⟨(t, pl2), g1, rfl⟩)
          have mem' : ∀ x, x ∈ aput came (rk p !start.1) pl ↔ x ∈ came ∨ x = (rk p (!start.1), pl) := fun x => by
            rw [aput_new (aget_none.mp hc)]
            simp
          have b' : BI ps held heavy start (aput came (rk p !start.1) pl) (todo ++ [rk pq start.1]) := by
            refine ⟨tr', fun t pl' h => ?_, fun k h => ?_, fun k h => ?_, fun k h => ?_, ?_, ?_⟩
            · rcases (mem' _).mp h with h | h
              · obtain ⟨a1, a2, a3, a4, a5⟩ := b.ct t pl' h
                exact ⟨a1, a2, a3, a4, List.mem_append_left _ a5⟩
              · cases h
                exact ⟨q, pq, hh, q1, by simp⟩
            · rcases List.mem_append.mp h with h | h
              · rcases b.td k h with h | ⟨t, pl2, q', pq', g1, g2⟩
                · exact .inl h
                · exact .inr ⟨t, pl2, q', pq', (mem' _).mpr (.inl g1), g2⟩
              · simp at h
                exact .inr ⟨_, pl, q, pq, (mem' _).mpr (.inr rfl), hh, q1, h.symm⟩
            · rcases List.mem_append.mp h with h | h
              · exact b.hv k h
              · simp at h; rw [h, hv]; rfl
            · rcases List.mem_append.mp h with h | h
              · exact b.sd k h
              · simp at h; rw [h]; rfl
            · refine List.nodup_append.mpr ⟨b.tn, by simp, fun a ha c hc' => ?_⟩
              simp at hc'
              intro e
              rw [hc'] at e
              exact nb (e ▸ ha)
            · simp [ac, tl]
          have mono : ∀ t, (aget came t).isSome = true → (aget (aput came (rk p !start.1) pl) t).isSome = true := fun t h => by
            rw [aget_aput]
            split
            · rfl
            · exact h
          rcases touchIn_ok hz m hs r _ _ b' (fun x hx => by
            obtain ⟨p', a1, a2⟩ := hr' x hx
            exact ⟨p', a1, List.mem_append_left _ a2⟩) with h | ⟨c', t', g1, g2, ⟨ex, g3⟩, g4, g5⟩
          · exact .inl h
          · refine .inr ⟨c', t', g1, g2, ⟨rk pq start.1 :: ex, by rw [g3]; simp⟩, fun t h => g4 t (mono t h), fun x hx => ?_⟩
            rcases List.mem_cons.mp hx with hx | hx
            · subst hx
              exact ⟨p, hp, g4 _ (by rw [aget_aput, if_pos rfl]; rfl)⟩
            · exact g5 x hx
        | none =>
          simp only [hv, q3]
          left
          have mx := m.pop hh q1
          rw [ts, Bool.not_not] at mx
          obtain ⟨held', g1, g2, g3, g4⟩ := exGo_ok hz m tr' came.length ((aput came (rk p !start.1) pl).length + 1) (adrop held (rk pq start.1)) (rk p !start.1) pl (by omega) al mx
            (by rw [aget_adrop]; split <;> first | rfl | exact hs) (fun j t pl' hj hjt => by
              obtain ⟨p', a1, a2, _⟩ := tr'.on j t pl' hjt
              have n1 : rk pq start.1 ≠ t := by rw [← a2]; exact side_ne
              refine ⟨by rw [aget_adrop, if_neg n1], fun q' pq' b1 b2 => ?_⟩
              rw [aget_adrop, if_neg]
              intro e
              obtain ⟨pq2, d1, d2, d3⟩ := m.on t q' b1
              rw [b2] at d1
              cases d1
              have t1 : t.1 = !start.1 := by rw [← a2]; rfl
              rw [t1, Bool.not_not, ← e, q3] at d3
              cases d3
              rw [q1] at b2
              cases b2
              rw [t1] at d2
              have e2 : rk p (!start.1) = t := by rw [← d2]; exact q2.symm
              subst e2
              have := idx_uniq tr'.nd hjt al
              omega)
          refine ⟨held', ?_, g2, g3, fun k hk h => g4 k ?_⟩
          · unfold ex
            rw [g1]
            rfl
          · rw [aget_adrop, if_neg]
            · exact h
            · intro e
              rw [e, ] at hv
              rw [hv] at hk
              cases hk
theorem touchGo_ok {ps : List Pr} (hz : ps.length < 64) {held : List (Rk × Nat)} {heavy : List (Rk × Unit)} {start : Rk} (m : Mt ps held) (hs : aget held start = none) (hh : ∀ k, (aget heavy k).isSome = true → dg ps k = gw ps ∧ 0 < gw ps) : ∀ (f at' : Nat) (came : List (Rk × Nat)) (todo : List Rk),
    ps.length + 2 ≤ f + at' → at' ≤ todo.length → BI ps held heavy start came todo → (∀ i k, i < at' → todo[i]? = some k → ∀ pl ∈ inc1 ps k, ∃ p, ps[pl]? = some p ∧ (aget came (rk p !start.1)).isSome = true) →
    ∃ held', touchGo ps (links ps) held heavy start f at' came todo = some held' ∧ Touched ps held heavy start held'
  | 0, at', came, todo, hf, ha, b, hd => by
    have := b.tl
    have := b.tr.len
    omega
  | f + 1, at', came, todo, hf, ha, b, hd => by
    unfold touchGo
    cases ht : todo[at']? with
    | none =>
      exfalso
      have hl : todo.length ≤ at' := List.getElem?_eq_none_iff.mp ht
      have e1 := sum_dg (ps := ps) (s := start.1) b.tn b.sd
      have e2 := sum_dg (ps := ps) (s := !start.1) b.tr.nd fun k hk => (b.tr.keys k hk).1
      have le : (ps.countP fun p => decide (rk p start.1 ∈ todo)) ≤ ps.countP fun p => decide (rk p (!start.1) ∈ came.map (·.1)) := by
        refine List.countP_mono_left fun p hp h => ?_
        have h := of_decide_eq_true h
        obtain ⟨i, hi⟩ := List.mem_iff_getElem?.mp h
        have il : i < todo.length := (List.getElem?_eq_some_iff.mp hi).1
        obtain ⟨pl, hpl⟩ := List.mem_iff_getElem?.mp hp
        obtain ⟨p', g1, g2⟩ := hd i _ (by omega) hi pl (inc1_mem.mpr ⟨p, hpl, rfl⟩)
        rw [hpl] at g1
        cases g1
        exact decide_eq_true (aget_isSome.mp g2)
      have s1 : ∀ l : List Rk, (∀ k ∈ l, dg ps k = gw ps) → (l.map (dg ps)).sum = l.length * gw ps := fun l => by
        induction l with
        | nil => simp
        | cons k r ih =>
          intro h
          rw [List.map_cons, List.sum_cons, ih fun k hk => h k (List.mem_cons_of_mem _ hk), h k (by simp), List.length_cons, Nat.succ_mul]
          omega
      have s2 : ∀ l : List Rk, (l.map (dg ps)).sum ≤ l.length * gw ps := fun l => by
        induction l with
        | nil => simp
        | cons k r ih =>
          rw [List.map_cons, List.sum_cons, List.length_cons, Nat.succ_mul]
          have := dg_gw ps k
          omega
      have t1 := s1 todo fun k hk => (hh k (b.hv k hk)).1
      have t2 := s2 (came.map (·.1))
      have tl := b.tl
      rw [List.length_map] at t2
      rw [tl, Nat.succ_mul] at t1
      have : 0 < gw ps := by
        cases htd : todo with
        | nil => rw [htd] at tl; simp at tl
        | cons k r => exact (hh k (b.hv k (by rw [htd]; simp))).2
      omega
    | some k =>
      have hkm : k ∈ todo := List.mem_of_getElem? ht
      have hk := hh k (b.hv k hkm)
      have hlk := links_some (ps := ps) (k := k) (by omega)
      have al : at' < todo.length := (List.getElem?_eq_some_iff.mp ht).1
      have ks := b.sd k hkm
      simp only [hlk]
      rcases touchIn_ok hz m hs (inc1 ps k) came todo b (fun pl hpl => by
        obtain ⟨p, h1, h2⟩ := inc1_mem.mp hpl
        exact ⟨p, h1, by rw [← ks, h2]; exact hkm⟩) with ⟨held', g1, g2⟩ | ⟨c', t', g1, g2, ⟨ex, g3⟩, g4, g5⟩
      · exact ⟨held', by rw [g1]; rfl, g2⟩
      · rw [g1]
        subst g3
        refine touchGo_ok hz m hs hh f (at' + 1) c' _ (by omega) (by rw [List.length_append]; omega) g2 fun i k' hi hik pl hpl => ?_
        rw [List.getElem?_append_left (by omega)] at hik
        by_cases e : i = at'
        · subst e
          rw [ht] at hik
          cases hik
          exact g5 pl hpl
        · obtain ⟨p, d1, d2⟩ := hd i k' (by omega) hik pl hpl
          exact ⟨p, d1, g4 _ d2⟩
theorem touch_ok {ps : List Pr} (hz : ps.length < 64) {held : List (Rk × Nat)} {heavy : List (Rk × Unit)} {start : Rk} (m : Mt ps held) (hs : aget held start = none) (hh : ∀ k, (aget heavy k).isSome = true → dg ps k = gw ps ∧ 0 < gw ps) (hst : (aget heavy start).isSome = true) :
    ∃ held', touch ps (links ps) held heavy start = some held' ∧ Touched ps held heavy start held' :=
  touchGo_ok hz m hs hh (ps.length + 2) 0 [] [start] (by omega) (by simp) ⟨⟨List.nodup_nil, by simp⟩, by simp, by simp, by simpa using hst, by simp, by simp, by simp⟩ (by intro i k hi; omega)
theorem heavyGo_ok {ps : List Pr} {w : Nat} : ∀ (l : List Rk) (h : List (Rk × Unit)), (∀ k ∈ l, 0 < dg ps k) → ∃ h', heavyGo (links ps) w l h = some h' ∧ ∀ k, (aget h' k).isSome = true ↔ (aget h k).isSome = true ∨ (k ∈ l ∧ dg ps k = w)
  | [], h, _ => ⟨h, rfl, by simp⟩
  | k :: r, h, hl => by
    have hk := links_some (hl k (by simp))
    obtain ⟨h', g1, g2⟩ := heavyGo_ok (w := w) r (if (inc1 ps k).length = w then aput h k () else h) fun j hj => hl j (List.mem_cons_of_mem _ hj)
    refine ⟨h', by unfold heavyGo; rw [hk]; exact g1, fun j => ?_⟩
    rw [g2, inc1_len]
    split
    · rename_i e
      rw [aget_aput]
      by_cases ej : k = j
      · subst ej; simp [e]
      · have ej' : ¬ j = k := fun h => ej h.symm
        simp [ej, ej']
    · rename_i e
      by_cases ej : k = j
      · subst ej; simp [e]
      · have ej' : ¬ j = k := fun h => ej h.symm
        simp [ej']
theorem heldGo_ok {ps : List Pr} (hz : ps.length < 64) {heavy : List (Rk × Unit)} (hh : ∀ k, (aget heavy k).isSome = true → dg ps k = gw ps ∧ 0 < gw ps) : ∀ (l : List (Rk × Unit)) (held : List (Rk × Nat)), (∀ k ∈ l, (aget heavy k.1).isSome = true) → Mt ps held →
    ∃ held', heldGo ps (links ps) heavy l held = some held' ∧ Mt ps held' ∧ (∀ k, (aget heavy k).isSome = true → (aget held k).isSome = true → (aget held' k).isSome = true) ∧ ∀ k ∈ l, (aget held' k.1).isSome = true
  | [], held, _, m => ⟨held, rfl, m, fun _ _ h => h, by simp⟩
  | k :: r, held, hl, m => by
    have hk := hl k (by simp)
    have hl' : ∀ k ∈ r, (aget heavy k.1).isSome = true := fun j hj => hl j (List.mem_cons_of_mem _ hj)
    unfold heldGo
    cases e : aget held k.1 with
    | some v =>
      simp only
      obtain ⟨h', g1, g2, g3, g4⟩ := heldGo_ok hz hh r held hl' m
      refine ⟨h', g1, g2, g3, fun j hj => ?_⟩
      rcases List.mem_cons.mp hj with hj | hj
      · subst hj; exact g3 _ hk (by rw [e]; rfl)
      · exact g4 j hj
    | none =>
      obtain ⟨h1, t1, t2, t3, t4⟩ := touch_ok hz m e hh hk
      simp only [t1]
      obtain ⟨h', g1, g2, g3, g4⟩ := heldGo_ok hz hh r h1 hl' t2
      refine ⟨h', g1, g2, fun j a b => g3 j a (t4 j a b), fun j hj => ?_⟩
      rcases List.mem_cons.mp hj with hj | hj
      · subst hj; exact g3 _ hk t3
      · exact g4 j hj
/-- places that no two share a rack, one of each heaviest rack -/
structure Chosen (ps : List Pr) (ch : List Nat) : Prop where
  up : ch.Pairwise (· < ·)
  lt : ∀ i ∈ ch, i < ps.length
  one : ∀ i j p q s, i ∈ ch → j ∈ ch → ps[i]? = some p → ps[j]? = some q → rk p s = rk q s → i = j
  all : ∀ k, dg ps k = gw ps → ∃ i ∈ ch, ∃ p, ps[i]? = some p ∧ rk p k.1 = k
theorem mem_heldIn {ps : List Pr} {held : List (Rk × Nat)} (m : Mt ps held) {i : Nat} : i ∈ heldIn held ↔ ∃ p, ps[i]? = some p ∧ aget held (rk p false) = some i := by
  unfold heldIn
  rw [List.mem_filterMap]
  constructor
  · rintro ⟨⟨k, pl⟩, h1, h2⟩
    split at h2
    · cases h2
      rename_i e
      have := aget_of_mem m.nd h1
      obtain ⟨p, a1, a2, a3⟩ := m.on k _ this
      simp only at e
      rw [e] at a2
      exact ⟨p, a1, by rw [a2]; exact this⟩
    · cases h2
  · rintro ⟨p, h1, h2⟩
    exact ⟨_, aget_mem h2, by simp [rk]⟩
theorem filterMap_nodup {α β : Type} {f : α → Option β} : ∀ {l : List α}, l.Nodup → (∀ a b c, a ∈ l → b ∈ l → f a = some c → f b = some c → a = b) → (l.filterMap f).Nodup
  | [], _, _ => List.nodup_nil
  | x :: l, nd, h => by
    have nc := List.nodup_cons.mp nd
    have ih := filterMap_nodup (f := f) nc.2 fun a b c ha hb => h a b c (List.mem_cons_of_mem _ ha) (List.mem_cons_of_mem _ hb)
    rw [List.filterMap_cons]
    cases e : f x with
    | none => exact ih
    | some y =>
      refine List.nodup_cons.mpr ⟨fun hy => ?_, ih⟩
      obtain ⟨z, z1, z2⟩ := List.mem_filterMap.mp hy
      have := h x z y (by simp) (List.mem_cons_of_mem _ z1) e z2
      rw [this] at nc
      exact nc.1 z1
theorem srtN_up {l : List Nat} (nd : l.Nodup) : (srt leN l).Pairwise (· < ·) := by
  have h1 := srtN_srt l
  have h2 : (srt leN l).Nodup := (srt_perm leN l).nodup_iff.mpr nd
  refine (List.pairwise_and_iff.mpr ⟨h1, h2⟩).imp fun {a b} h => ?_
  have := h.1
  have := h.2
  unfold leN at *
  simp at *
  omega
theorem touching_ok {ps : List Pr} (hz : ps.length < 64) (hg : 0 < gw ps) : ∃ ch, touching ps = some ch ∧ Chosen ps ch := by
  have hkeys : ∀ k ∈ srt leR ((links ps).map (·.1)), 0 < dg ps k := fun k hk => links_mem.mp ((srt_perm _ _).mem_iff.mp hk)
  obtain ⟨heavy, h1, h2⟩ := heavyGo_ok (w := gw ps) _ [] hkeys
  have hh : ∀ k, (aget heavy k).isSome = true ↔ dg ps k = gw ps := fun k => by
    rw [h2]
    simp only [aget_nil, Option.isSome_none, Bool.false_eq_true, false_or]
    exact ⟨fun h => h.2, fun h => ⟨(srt_perm _ _).mem_iff.mpr (links_mem.mpr (by omega)), h⟩⟩
  obtain ⟨held, g1, m, g3, g4⟩ := heldGo_ok hz (heavy := heavy) (fun k hk => ⟨(hh k).mp hk, hg⟩) heavy [] (fun k hk => aget_isSome.mpr (List.mem_map.mpr ⟨k, hk, rfl⟩)) ⟨by simp, by simp [aget]⟩
  have key : ∀ i p s, i ∈ heldIn held → ps[i]? = some p → aget held (rk p s) = some i := fun i p s hi hp => by
    obtain ⟨p', a1, a2⟩ := (mem_heldIn m).mp hi
    rw [hp] at a1
    cases a1
    cases s with
    | false => exact a2
    | true =>
      obtain ⟨p', b1, b2, b3⟩ := m.on _ _ a2
      rw [hp] at b1
      cases b1
      exact b3
  have nd : (heldIn held).Nodup := by
    have ndl : held.Nodup := (List.pairwise_map.mp m.nd).imp fun h e => h (congrArg Prod.fst e)
    unfold heldIn
    refine filterMap_nodup ndl fun a b c ha hb e1 e2 => ?_
    obtain ⟨k1, v1⟩ := a
    obtain ⟨k2, v2⟩ := b
    simp only at e1 e2
    split at e1 <;> simp at e1
    split at e2 <;> simp at e2
    subst e1
    subst e2
    rename_i s1 s2
    obtain ⟨p, c1, c2, _⟩ := m.on _ _ (aget_of_mem m.nd ha)
    obtain ⟨p', d1, d2, _⟩ := m.on _ _ (aget_of_mem m.nd hb)
    rw [c1] at d1
    cases d1
    rw [s1] at c2
    rw [s2] at d2
    rw [← c2, ← d2]
  refine ⟨srt leN (heldIn held), by unfold touching; rw [h1]; simp only; rw [g1], srtN_up nd, fun i hi => ?_, fun i j p q s hi hj hp hq e => ?_, fun k hk => ?_⟩
  · obtain ⟨p, a1, _⟩ := (mem_heldIn m).mp ((srt_perm _ _).mem_iff.mp hi)
    exact (List.getElem?_eq_some_iff.mp a1).1
  · have a := key i p s ((srt_perm _ _).mem_iff.mp hi) hp
    have b := key j q s ((srt_perm _ _).mem_iff.mp hj) hq
    rw [e, b] at a
    cases a
    rfl
  · obtain ⟨⟨⟩, e⟩ := Option.isSome_iff_exists.mp ((hh k).mpr hk)
    obtain ⟨i, e2⟩ := Option.isSome_iff_exists.mp (g4 (k, ()) (aget_mem e))
    obtain ⟨p, a1, a2, a3⟩ := m.on k i e2
    refine ⟨i, (srt_perm _ _).mem_iff.mpr ((mem_heldIn m).mpr ⟨p, a1, ?_⟩), p, a1, a2⟩
    obtain ⟨s, k⟩ := k
    cases s with
    | false => rw [show rk p false = (false, k) from a2]; exact e2
    | true => exact a3
end XM
-- KMath6
set_option Elab.async false
set_option linter.all false
/-! plain laws of the mirrors: number_off, parted -/
namespace XM
open XR
theorem pick_ok {α : Type} (ps : List α) : ∀ l : List Nat, (∀ i ∈ l, i < ps.length) → ∃ sm, pick ps l = some sm ∧ sm.length = l.length ∧ ∀ i j : Nat, l[i]? = some j → sm[i]? = ps[j]?
  | [], _ => ⟨[], rfl, rfl, by simp⟩
  | p :: r, h => by
    have hp : p < ps.length := h p (by simp)
    have e : ps[p]? = some ps[p] := List.getElem?_eq_getElem hp
    obtain ⟨sm, h1, h2, h3⟩ := pick_ok ps r fun i hi => h i (List.mem_cons_of_mem _ hi)
    refine ⟨ps[p] :: sm, by unfold pick; rw [e, h1], by simp [h2], fun i j hij => ?_⟩
    cases i with
    | zero => simp at hij; subst hij; simp
    | succ i => simp at hij; simp; exact h3 i j hij
theorem pick_mem {α : Type} {ps : List α} : ∀ {l : List Nat} {sm : List α}, pick ps l = some sm → ∀ x, x ∈ sm ↔ ∃ i ∈ l, ps[i]? = some x
  | [], sm, h, x => by simp [pick] at h; subst h; simp
  | p :: r, sm, h, x => by
    unfold pick at h
    cases e : ps[p]? with
    | none => rw [e] at h; cases h
    | some y =>
      cases e2 : pick ps r with
      | none => rw [e, e2] at h; cases h
      | some ys =>
        rw [e, e2] at h
        cases h
        rw [List.mem_cons, pick_mem e2 x]
        constructor
        · rintro (h | ⟨i, h1, h2⟩)
          · exact ⟨p, by simp, by rw [h]; exact e⟩
          · exact ⟨i, List.mem_cons_of_mem _ h1, h2⟩
        · rintro ⟨i, h1, h2⟩
          rcases List.mem_cons.mp h1 with h1 | h1
          · subst h1; rw [e] at h2; cases h2; exact .inl rfl
          · exact .inr ⟨i, h1, h2⟩
def tch (ps : List Pr) (k : Rk) (i : Nat) : Bool := match ps[i]? with
  | some p => decide (rk p k.1 = k)
  | none => false
theorem tch_iff {ps : List Pr} {k : Rk} {i : Nat} : tch ps k i = true ↔ ∃ p, ps[i]? = some p ∧ rk p k.1 = k := by
  unfold tch
  cases e : ps[i]? with
  | none => simp
  | some p => simp
theorem pick_dg {ps : List Pr} (k : Rk) : ∀ {l : List Nat} {sm : List Pr}, pick ps l = some sm → dg sm k = (l.filter (tch ps k)).length
  | [], sm, h => by simp [pick] at h; subst h; simp [dg]
  | p :: r, sm, h => by
    unfold pick at h
    cases e : ps[p]? with
    | none => rw [e] at h; cases h
    | some y =>
      cases e2 : pick ps r with
      | none => rw [e, e2] at h; cases h
      | some ys =>
        rw [e, e2] at h
        cases h
        rw [dg_cons, pick_dg k e2, List.filter_cons]
        by_cases c : rk y k.1 = k
        · rw [if_pos c, if_pos (tch_iff.mpr ⟨y, e, c⟩)]; rfl
        · rw [if_neg c, if_neg]
          · rfl
          · intro h'
            obtain ⟨y', h1, h2⟩ := tch_iff.mp h'
            rw [e] at h1
            cases h1
            exact c h2
theorem setAll_ok (v : Nat) : ∀ (l found : List Nat), (∀ i ∈ l, i < found.length) → ∃ F, setAll v l found = some F ∧ F.length = found.length ∧ (∀ j, j ∉ l → F[j]? = found[j]?) ∧ ∀ j ∈ l, F[j]? = some v
  | [], found, _ => ⟨found, rfl, rfl, fun _ _ => rfl, by simp⟩
  | p :: r, found, h => by
    have hp := h p (by simp)
    obtain ⟨F, h1, h2, h3, h4⟩ := setAll_ok v r (found.set p v) fun i hi => by
      rw [List.length_set]
      exact h i (List.mem_cons_of_mem _ hi)
    refine ⟨F, by unfold setAll; rw [if_pos hp]; exact h1, by rw [h2, List.length_set], fun j hj => ?_, fun j hj => ?_⟩
    · have n1 : j ≠ p := fun e => hj (by simp [e])
      have n2 : j ∉ r := fun e => hj (List.mem_cons_of_mem _ e)
      rw [h3 j n2, List.getElem?_set_ne (by omega)]
    · by_cases n2 : j ∈ r
      · exact h4 j n2
      · rcases List.mem_cons.mp hj with e | e
        · subst e
          rw [h3 j n2, List.getElem?_set_self hp]
        · exact absurd e n2
theorem part_cons (p : Nat) (l : List Nat) (c : Bool) (bs : List Bool) (b : Bool) : part (p :: l) (c :: bs) b = if c = b then p :: part l bs b else part l bs b := by
  unfold part
  rw [List.zip_cons_cons, List.filterMap_cons]
  by_cases h : c = b
  · simp [h]
  · simp [h]
theorem part_pick {ps : List Pr} (b : Bool) : ∀ {l : List Nat} {sm : List Pr} {bs : List Bool}, pick ps l = some sm → pick ps (part l bs b) = some (half sm bs b)
  | [], sm, bs, h => by simp [pick] at h; subst h; simp [part, half, pick]
  | p :: r, sm, [], h => by
    simp [part, half, pick]
  | p :: r, sm, c :: bs, h => by
    unfold pick at h
    cases e : ps[p]? with
    | none => rw [e] at h; cases h
    | some y =>
      cases e2 : pick ps r with
      | none => rw [e, e2] at h; cases h
      | some ys =>
        rw [e, e2] at h
        cases h
        rw [part_cons, half_cons]
        have ih := part_pick b (bs := bs) e2
        split
        · unfold pick
          rw [e, ih]
        · exact ih
theorem part_sub (b : Bool) : ∀ (l : List Nat) (bs : List Bool), (part l bs b).Sublist l
  | [], bs => by simp [part]
  | p :: r, [] => by simp [part]
  | p :: r, c :: bs => by
    rw [part_cons]
    split
    · exact (part_sub b r bs).cons₂ _
    · exact (part_sub b r bs).cons _
theorem part_cover : ∀ (l : List Nat) (bs : List Bool), bs.length = l.length → ∀ i ∈ l, i ∈ part l bs false ∨ i ∈ part l bs true
  | [], bs, _, i, h => by simp at h
  | p :: r, [], h, i, _ => by simp at h
  | p :: r, c :: bs, h, i, hi => by
    rw [part_cons, part_cons]
    rcases List.mem_cons.mp hi with e | e
    · subst e
      cases c <;> simp
    · rcases part_cover r bs (by simpa using h) i e with g | g
      · cases c <;> simp [g]
      · cases c <;> simp [g]
theorem part_apart : ∀ (l : List Nat) (bs : List Bool), l.Nodup → ∀ i, i ∈ part l bs false → i ∉ part l bs true
  | [], bs, _, i, h => by simp [part] at h
  | p :: r, [], _, i, h => by simp [part] at h
  | p :: r, c :: bs, nd, i, h => by
    have nc := List.nodup_cons.mp nd
    rw [part_cons] at h ⊢
    have ih := part_apart r bs nc.2
    have s1 := (part_sub false r bs).subset
    have s2 := (part_sub true r bs).subset
    cases c with
    | false =>
      simp only [if_true, Bool.false_eq_true, if_false] at h ⊢
      rcases List.mem_cons.mp h with e | e
      · subst e; exact fun h' => nc.1 (s2 h')
      · exact ih i e
    | true =>
      simp only [if_true, Bool.true_eq_false, if_false] at h ⊢
      intro h'
      rcases List.mem_cons.mp h' with e | e
      · subst e; exact nc.1 (s1 h)
      · exact ih i h e
theorem mem_left {l ch : List Nat} {j : Nat} : j ∈ left l ch ↔ ∃ i, i ∉ ch ∧ l[i]? = some j := by
  unfold left
  rw [List.mem_filterMap]
  constructor
  · rintro ⟨i, h1, h2⟩
    split at h2
    · cases h2
    · rename_i n
      exact ⟨i, n, h2⟩
  · rintro ⟨i, h1, h2⟩
    exact ⟨i, List.mem_range.mpr (List.getElem?_eq_some_iff.mp h2).1, by rw [if_neg h1]; exact h2⟩
theorem nth_uniq {α : Type} {l : List α} (nd : l.Nodup) {i j : Nat} {a : α} (h1 : l[i]? = some a) (h2 : l[j]? = some a) : i = j := by
  obtain ⟨l1, e1⟩ := List.getElem?_eq_some_iff.mp h1
  obtain ⟨l2, e2⟩ := List.getElem?_eq_some_iff.mp h2
  exact (List.getElem_inj nd).mp (e1.trans e2.symm)
theorem left_nodup {l ch : List Nat} (nd : l.Nodup) : (left l ch).Nodup := by
  unfold left
  refine filterMap_nodup List.nodup_range fun a b c _ _ h1 h2 => ?_
  split at h1
  · cases h1
  · split at h2
    · cases h2
    · exact nth_uniq nd h1 h2
theorem dg_two {sm : List Pr} {k : Rk} {i j : Nat} {p q : Pr} (h1 : sm[i]? = some p) (h2 : sm[j]? = some q) (e1 : rk p k.1 = k) (e2 : rk q k.1 = k) (ne : i ≠ j) : 2 ≤ dg sm k := by
  rw [← inc1_len]
  have := nodup_len (l := [i, j]) (m := inc1 sm k) (by simp [ne]) (by
    intro x hx
    simp at hx
    rcases hx with hx | hx
    · subst hx; exact inc1_mem.mpr ⟨p, h1, e1⟩
    · subst hx; exact inc1_mem.mpr ⟨q, h2, e2⟩)
  simpa using this
/-- numbers that are right -/
structure Nums (ps : List Pr) (l : List Nat) (start w : Nat) (found F : List Nat) : Prop where
  len : F.length = found.length
  out : ∀ j, j ∉ l → F[j]? = found[j]?
  rng : ∀ j ∈ l, ∃ v, F[j]? = some v ∧ start ≤ v ∧ v < start + w
  two : ∀ i j, i ∈ l → j ∈ l → i ≠ j → ∀ s p q, ps[i]? = some p → ps[j]? = some q → rk p s = rk q s → F[i]? ≠ F[j]?
theorem numGo_ok {ps : List Pr} (hz : ps.length < 64) : ∀ (f : Nat) (l : List Nat) (start : Nat) (found : List Nat) (sm : List Pr), l.Nodup → (∀ i ∈ l, i < ps.length) → found.length = ps.length → pick ps l = some sm → gw sm < f →
    ∃ F, numGo ps f l start found = some F ∧ Nums ps l start (gw sm) found F
  | 0, _, _, _, _, _, _, _, _, h => by omega
  | f + 1, l, start, found, sm, nd, hl, hf, hp, hw => by
    obtain ⟨sm', p1, p2, p3⟩ := pick_ok ps l hl
    rw [hp] at p1
    cases p1
    have ll : l.length ≤ ps.length := by
      have := nodup_len (m := List.range ps.length) nd fun i hi => List.mem_range.mpr (hl i hi)
      simpa using this
    have at' : ∀ j ∈ l, ∃ i p, l[i]? = some j ∧ sm[i]? = some p ∧ ps[j]? = some p := fun j hj => by
      obtain ⟨i, hi⟩ := List.mem_iff_getElem?.mp hj
      have := p3 i j hi
      have e : ps[j]? = some (ps[j]'(hl j hj)) := List.getElem?_eq_getElem (hl j hj)
      exact ⟨i, _, hi, this.trans e, e⟩
    unfold numGo
    rw [hp]
    simp only
    by_cases c2 : gw sm < 2
    · rw [if_pos c2]
      obtain ⟨F, h1, h2, h3, h4⟩ := setAll_ok start l found fun i hi => by rw [hf]; exact hl i hi
      refine ⟨F, h1, h2, h3, fun j hj => ?_, fun i j hi hj ne s p q a1 a2 a3 => ?_⟩
      · obtain ⟨i, p, b1, b2, b3⟩ := at' j hj
        have d1 := dg_at b2 false
        have d2 := dg_gw sm (rk p false)
        exact ⟨start, h4 j hj, Nat.le_refl _, by omega⟩
      · exfalso
        obtain ⟨i', p', b1, b2, b3⟩ := at' i hi
        obtain ⟨j', q', c1, c2', c3⟩ := at' j hj
        rw [a1] at b3
        rw [a2] at c3
        cases b3
        cases c3
        have n : i' ≠ j' := fun e => by
          subst e
          rw [b1] at c1
          cases c1
          exact ne rfl
        have d1 := dg_two (k := rk p s) b2 c2' rfl (by rw [rk_fst]; exact a3.symm) n
        have d2 := dg_gw sm (rk p s)
        omega
    · rw [if_neg c2]
      by_cases ev : gw sm % 2 = 0
      · rw [if_pos ev]
        obtain ⟨S, bs, h1, h2, h3, h4⟩ := halves_ok sm
        rw [h1]
        simp only
        rw [h2]
        simp only
        have gh : ∀ b, gw (half sm bs b) ≤ gw sm / 2 := fun b => gw_le.mpr fun k => by
          have a := h4 b k
          have b := dg_gw sm k
          omega
        have sub : ∀ b, ∀ i ∈ part l bs b, i ∈ l := fun b => (part_sub b l bs).subset
        have g0 := gh false
        have g1 := gh true
        obtain ⟨F1, a1, a2⟩ := numGo_ok hz f (part l bs false) start found (half sm bs false) (nd.sublist (part_sub _ _ _)) (fun i hi => hl i (sub _ i hi)) hf (part_pick false hp) (by omega)
        rw [a1]
        simp only
        obtain ⟨F, b1, b2⟩ := numGo_ok hz f (part l bs true) (start + gw sm / 2) F1 (half sm bs true) (nd.sublist (part_sub _ _ _)) (fun i hi => hl i (sub _ i hi)) (by rw [a2.len, hf]) (part_pick true hp) (by omega)
        have ap := part_apart l bs nd
        have cv := part_cover l bs (by rw [h3, p2])
        have low : ∀ j ∈ part l bs false, ∃ v, F[j]? = some v ∧ start ≤ v ∧ v < start + gw sm / 2 := fun j hj => by
          obtain ⟨v, e1, e2, e3⟩ := a2.rng j hj
          exact ⟨v, by rw [b2.out j (ap j hj)]; exact e1, e2, by omega⟩
        have high : ∀ j ∈ part l bs true, ∃ v, F[j]? = some v ∧ start + gw sm / 2 ≤ v ∧ v < start + gw sm := fun j hj => by
          obtain ⟨v, e1, e2, e3⟩ := b2.rng j hj
          exact ⟨v, e1, e2, by omega⟩
        refine ⟨F, b1, by rw [b2.len, a2.len], fun j hj => ?_, fun j hj => ?_, fun i j hi hj ne s p q c1 c2 c3 => ?_⟩
        · rw [b2.out j fun h => hj (sub _ j h), a2.out j fun h => hj (sub _ j h)]
        · rcases cv j hj with h | h
          · obtain ⟨v, e1, e2, e3⟩ := low j h
            exact ⟨v, e1, e2, by omega⟩
          · obtain ⟨v, e1, e2, e3⟩ := high j h
            exact ⟨v, e1, by omega, e3⟩
        · rcases cv i hi with h | h <;> rcases cv j hj with h' | h'
          · rw [b2.out i (ap i h), b2.out j (ap j h')]
            exact a2.two i j h h' ne s p q c1 c2 c3
          · obtain ⟨v, e1, e2, e3⟩ := low i h
            obtain ⟨v', e1', e2', e3'⟩ := high j h'
            rw [e1, e1']
            intro e
            cases e
            omega
          · obtain ⟨v, e1, e2, e3⟩ := high i h
            obtain ⟨v', e1', e2', e3'⟩ := low j h'
            rw [e1, e1']
            intro e
            cases e
            omega
          · exact b2.two i j h h' ne s p q c1 c2 c3
      · rw [if_neg ev]
        obtain ⟨ch, h1, h2⟩ := touching_ok (ps := sm) (by omega) (by omega)
        rw [h1]
        simp only
        obtain ⟨cs, q1, q2, q3⟩ := pick_ok l ch fun i hi => by rw [← p2]; exact h2.lt i hi
        rw [q1]
        simp only
        have mcs := pick_mem q1
        have sub1 : ∀ i ∈ cs, i ∈ l := fun i hi => by
          obtain ⟨a, _, b⟩ := (mcs i).mp hi
          exact List.mem_of_getElem? b
        have sub2 : ∀ i ∈ left l ch, i ∈ l := fun i hi => by
          obtain ⟨a, _, b⟩ := mem_left.mp hi
          exact List.mem_of_getElem? b
        have ap : ∀ i ∈ cs, i ∉ left l ch := fun i hi h => by
          obtain ⟨a, a1, a2⟩ := (mcs i).mp hi
          obtain ⟨b, b1, b2⟩ := mem_left.mp h
          have := nth_uniq nd a2 b2
          subst this
          exact b1 a1
        have cv : ∀ i ∈ l, i ∈ cs ∨ i ∈ left l ch := fun i hi => by
          obtain ⟨a, ha⟩ := List.mem_iff_getElem?.mp hi
          by_cases h : a ∈ ch
          · exact .inl ((mcs i).mpr ⟨a, h, ha⟩)
          · exact .inr (mem_left.mpr ⟨a, h, ha⟩)
        obtain ⟨F1, s1, s2, s3, s4⟩ := setAll_ok start cs found fun i hi => by rw [hf]; exact hl i (sub1 i hi)
        rw [s1]
        simp only
        obtain ⟨sl, r1, r2, r3⟩ := pick_ok ps (left l ch) fun i hi => hl i (sub2 i hi)
        have gl : gw sl ≤ gw sm - 1 := gw_le.mpr fun k => by
          rw [pick_dg k r1]
          have nl := (left_nodup (ch := ch) nd).filter (tch ps k)
          by_cases e : dg sm k = gw sm
          · obtain ⟨i, i1, p, i2, i3⟩ := h2.all k e
            obtain ⟨li, hi⟩ : ∃ li, l[i]? = some li := by
              have := h2.lt i i1
              exact ⟨_, List.getElem?_eq_getElem (by omega)⟩
            have i4 := p3 i li hi
            rw [i2] at i4
            have lc : li ∈ cs := (mcs li).mpr ⟨i, i1, hi⟩
            have := nodup_len (l := li :: (left l ch).filter (tch ps k)) (m := l.filter (tch ps k)) (List.nodup_cons.mpr ⟨fun h => ap li lc (List.mem_filter.mp h).1, nl⟩) fun x hx => by
              rcases List.mem_cons.mp hx with hx | hx
              · subst hx
                exact List.mem_filter.mpr ⟨List.mem_of_getElem? hi, tch_iff.mpr ⟨p, i4.symm, i3⟩⟩
              · have := List.mem_filter.mp hx
                exact List.mem_filter.mpr ⟨sub2 x this.1, this.2⟩
            rw [← pick_dg k hp] at this
            simp only [List.length_cons] at this
            omega
          · have := nodup_len (m := l.filter (tch ps k)) nl fun x hx => by
              have := List.mem_filter.mp hx
              exact List.mem_filter.mpr ⟨sub2 x this.1, this.2⟩
            rw [← pick_dg k hp] at this
            have := dg_gw sm k
            omega
        obtain ⟨F, b1, b2⟩ := numGo_ok hz f (left l ch) (start + 1) F1 sl (left_nodup nd) (fun i hi => hl i (sub2 i hi)) (by rw [s2, hf]) r1 (by omega)
        have low : ∀ j ∈ cs, F[j]? = some start := fun j hj => by
          rw [b2.out j (ap j hj)]
          exact s4 j hj
        have high : ∀ j ∈ left l ch, ∃ v, F[j]? = some v ∧ start + 1 ≤ v ∧ v < start + gw sm := fun j hj => by
          obtain ⟨v, e1, e2, e3⟩ := b2.rng j hj
          exact ⟨v, e1, e2, by omega⟩
        refine ⟨F, b1, by rw [b2.len, s2], fun j hj => ?_, fun j hj => ?_, fun i j hi hj ne s p q c1 c2 c3 => ?_⟩
        · rw [b2.out j fun h => hj (sub2 j h), s3 j fun h => hj (sub1 j h)]
        · rcases cv j hj with h | h
          · exact ⟨start, low j h, Nat.le_refl _, by omega⟩
          · obtain ⟨v, e1, e2, e3⟩ := high j h
            exact ⟨v, e1, by omega, e3⟩
        · rcases cv i hi with h | h <;> rcases cv j hj with h' | h'
          · exfalso
            obtain ⟨a, a1, a2⟩ := (mcs i).mp h
            obtain ⟨b, d1, d2⟩ := (mcs j).mp h'
            have e1 := p3 a i a2
            have e2 := p3 b j d2
            rw [c1] at e1
            rw [c2] at e2
            have := h2.one a b p q s a1 d1 e1 e2 c3
            subst this
            rw [a2] at d2
            cases d2
            exact ne rfl
          · obtain ⟨v', e1', e2', e3'⟩ := high j h'
            rw [low i h, e1']
            intro e
            cases e
            omega
          · obtain ⟨v, e1, e2, e3⟩ := high i h
            rw [e1, low j h']
            intro e
            cases e
            omega
          · exact b2.two i j h h' ne s p q c1 c2 c3
theorem pick_range (ps : List Pr) : pick ps (List.range ps.length) = some ps := by
  obtain ⟨sm, h1, h2, h3⟩ := pick_ok ps (List.range ps.length) (by simp)
  rw [h1]
  congr 1
  apply List.ext_getElem?
  intro i
  by_cases hi : i < ps.length
  · exact h3 i i (by simp [hi])
  · rw [List.getElem?_eq_none (by simp at h2; omega), List.getElem?_eq_none (by omega)]
theorem parted_ok {ps : List Pr} (hz : ps.length < 64) : ∃ F, parted ps = some F ∧ F.length = ps.length ∧ (∀ (j v : Nat), F[j]? = some v → v < gw ps) ∧ ∀ i j : Nat, i ≠ j → ∀ (s : Bool) (p q : Pr) (v : Nat), ps[i]? = some p → ps[j]? = some q → rk p s = rk q s → F[i]? = some v → F[j]? ≠ some v := by
  have gl := gw_len ps
  obtain ⟨F, h1, h2⟩ := numGo_ok hz 64 (List.range ps.length) 0 (List.replicate ps.length 0) ps List.nodup_range (by simp) (by simp) (pick_range ps) (by omega)
  refine ⟨F, h1, by rw [h2.len]; simp, fun j v e => ?_, fun i j ne s p q v a1 a2 a3 e1 e2 => ?_⟩
  · have jl : j < ps.length := by
      have := (List.getElem?_eq_some_iff.mp e).1
      rw [h2.len] at this
      simpa using this
    obtain ⟨v', b1, b2, b3⟩ := h2.rng j (List.mem_range.mpr jl)
    rw [e] at b1
    cases b1
    omega
  · exact h2.two i j (List.mem_range.mpr (List.getElem?_eq_some_iff.mp a1).1) (List.mem_range.mpr (List.getElem?_eq_some_iff.mp a2).1) ne s p q a1 a2 a3 (e1.trans e2.symm)
end XM
-- KMath7
set_option Elab.async false
set_option linter.all false
/-! plain laws of the mirrors: greatest -/
namespace XM
open XR
/-- how many pairs are taken and of the kind P -/
def ct (P : Pr → Bool) : List Pr → List Bool → Nat
  | p :: r, b :: t => (if b = true ∧ P p = true then 1 else 0) + ct P r t
  | _, _ => 0
def ck (k : Rk) (p : Pr) : Bool := decide (rk p k.1 = k)
theorem ct_set (P : Pr → Bool) : ∀ {ps : List Pr} {t : List Bool} {i : Nat} {p : Pr} {b : Bool}, ps[i]? = some p → t[i]? = some b →
    ct P ps (t.set i (!b)) + (if b = true ∧ P p = true then 1 else 0) = ct P ps t + if b = false ∧ P p = true then 1 else 0
  | [], _, _, _, _, h, _ => by simp at h
  | _ :: _, [], _, _, _, _, h => by simp at h
  | q :: r, c :: t, 0, p, b, h1, h2 => by
    simp at h1 h2
    subst h1
    subst h2
    simp only [List.set_cons_zero, ct]
    cases c <;> cases P q <;> simp <;> omega
  | q :: r, c :: t, i + 1, p, b, h1, h2 => by
    simp at h1 h2
    have := ct_set P h1 h2
    simp only [List.set_cons_succ, ct]
    omega
theorem ct_app (P : Pr → Bool) : ∀ {ps : List Pr} {t : List Bool} {p : Pr} {b : Bool}, ps.length = t.length → ct P (ps ++ [p]) (t ++ [b]) = ct P ps t + if b = true ∧ P p = true then 1 else 0
  | [], [], p, b, _ => by simp [ct]
  | [], _ :: _, _, _, h => by simp at h
  | _ :: _, [], _, _, h => by simp at h
  | q :: r, c :: t, p, b, h => by
    have := ct_app P (p := p) (b := b) (ps := r) (t := t) (by simpa using h)
    simp only [List.cons_append, ct]
    omega
theorem ct_le (P : Pr → Bool) : ∀ (ps : List Pr) (t : List Bool), ct P ps t ≤ ps.length
  | [], t => by simp [ct]
  | p :: r, [] => by simp [ct]
  | p :: r, b :: t => by
    have := ct_le P r t
    simp only [ct, List.length_cons]
    split <;> omega
theorem ct_congr {P Q : Pr → Bool} : ∀ {ps : List Pr} {t : List Bool}, (∀ (i : Nat) p, ps[i]? = some p → t[i]? = some true → P p = Q p) → ct P ps t = ct Q ps t
  | [], t, _ => by simp [ct]
  | p :: r, [], _ => by simp [ct]
  | p :: r, b :: t, h => by
    have ih := ct_congr (P := P) (Q := Q) (ps := r) (t := t) fun i q h1 h2 => h (i + 1) q (by simpa using h1) (by simpa using h2)
    simp only [ct, ih]
    cases b with
    | false => simp
    | true => rw [h 0 p (by simp) (by simp)]
theorem ct_add {P Q : Pr → Bool} : ∀ {ps : List Pr} {t : List Bool}, (∀ (i : Nat) p, ps[i]? = some p → t[i]? = some true → ¬ (P p = true ∧ Q p = true)) → ct (fun p => P p || Q p) ps t = ct P ps t + ct Q ps t
  | [], t, _ => by simp [ct]
  | p :: r, [], _ => by simp [ct]
  | p :: r, b :: t, h => by
    have ih := ct_add (P := P) (Q := Q) (ps := r) (t := t) fun i q h1 h2 => h (i + 1) q (by simpa using h1) (by simpa using h2)
    simp only [ct, ih]
    cases b with
    | false => simp
    | true =>
      have := h 0 p (by simp) (by simp)
      by_cases h1 : P p = true <;> by_cases h2 : Q p = true
      · exact absurd ⟨h1, h2⟩ this
      · simp [h1, h2]; omega
      · simp [h1, h2]; omega
      · simp [h1, h2]
theorem ct_all {P : Pr → Bool} : ∀ {ps : List Pr} {t : List Bool}, ps.length = t.length → (∀ (i : Nat) p, ps[i]? = some p → P p = true → t[i]? = some true) → ct P ps t = (ps.filter P).length
  | [], t, _, _ => by simp [ct]
  | p :: r, [], h, _ => by simp at h
  | p :: r, b :: t, hl, h => by
    have ih := ct_all (P := P) (ps := r) (t := t) (by simpa using hl) fun i q h1 h2 => by simpa using h (i + 1) q (by simpa using h1) h2
    simp only [ct, ih, List.filter_cons]
    by_cases e : P p = true
    · have := h 0 p (by simp) e
      simp at this
      simp [e, this]
      omega
    · simp [e]
theorem ct_sum {ps : List Pr} {t : List Bool} {s : Bool} : ∀ {U : List Rk}, U.Nodup → (∀ k ∈ U, k.1 = s) → (U.map fun k => ct (ck k) ps t).sum = ct (fun p => decide (rk p s ∈ U)) ps t
  | [], _, _ => by
    have z : ∀ (ps : List Pr) (t : List Bool), ct (fun p => decide (rk p s ∈ ([] : List Rk))) ps t = 0 := fun ps => by
      induction ps with
      | nil => intro t; simp [ct]
      | cons p r ih =>
        intro t
        cases t with
        | nil => simp [ct]
        | cons b t =>
          rw [ct, ih t]
          simp
    rw [z]
    rfl
  | k :: U, nd, hs => by
    have nc := List.nodup_cons.mp nd
    have ih := ct_sum (ps := ps) (t := t) (s := s) nc.2 fun j hj => hs j (List.mem_cons_of_mem _ hj)
    have ek : k.1 = s := hs k (by simp)
    rw [List.map_cons, List.sum_cons, ih, ← ct_add]
    · refine ct_congr fun i p _ _ => ?_
      unfold ck
      rw [ek]
      by_cases e : rk p s = k <;> simp [e]
    · rintro i p _ _ ⟨h1, h2⟩
      unfold ck at h1
      rw [ek] at h1
      have h1 := of_decide_eq_true h1
      have h2 := of_decide_eq_true h2
      rw [h1] at h2
      exact nc.1 h2
theorem cntT_ok (k : Rk) : ∀ (r : List Pr) (i : Nat) (t : List Bool), i + r.length = t.length → cntT t (incF k i r) = some (ct (ck k) r (t.drop i))
  | [], i, t, _ => by simp [incF, cntT, ct]
  | p :: r, i, t, h => by
    simp only [List.length_cons] at h
    have ih := cntT_ok k r (i + 1) t (by omega)
    have hi : i < t.length := by omega
    have e : t.drop i = t[i] :: t.drop (i + 1) := List.drop_eq_getElem_cons hi
    rw [e]
    unfold incF ct
    by_cases c : rk p k.1 = k
    · rw [if_pos c]
      unfold cntT
      rw [List.getElem?_eq_getElem hi, ih]
      unfold ck
      simp only [c, decide_true, and_true]
      cases t[i] <;> simp <;> omega
    · rw [if_neg c, ih]
      unfold ck
      simp [c]
/-! ### the first part -/
theorem fpGo_ok {ways : Nat} : ∀ (r : List Pr) (done : List Pr) (t : List Bool) (m : List (Rk × Nat)), done.length = t.length → (∀ k, (aget m k).getD 0 = ct (ck k) done t) → (∀ k, ct (ck k) done t ≤ ways) →
    (fpGo ways r t m).length = t.length + r.length ∧ ∀ k, ct (ck k) (done ++ r) (fpGo ways r t m) ≤ ways
  | [], done, t, m, hl, hm, hb => ⟨rfl, by simpa [fpGo] using hb⟩
  | p :: r, done, t, m, hl, hm, hb => by
    unfold fpGo
    have e : ∀ k, ct (ck k) (done ++ [p]) (t ++ [fpGood ways m p]) = ct (ck k) done t + if fpGood ways m p = true ∧ ck k p = true then 1 else 0 := fun k => ct_app _ hl
    have ih := fpGo_ok (ways := ways) r (done ++ [p]) (t ++ [fpGood ways m p]) (if fpGood ways m p then inc (inc m (rk p false)) (rk p true) else m) (by simp [hl]) (fun k => ?_) (fun k => ?_)
    · rw [List.append_assoc] at ih
      refine ⟨by rw [ih.1]; simp; omega, ih.2⟩
    · rw [e, ← hm]
      cases hg : fpGood ways m p with
      | false => simp
      | true =>
        simp only [if_true, true_and]
        unfold inc ck
        obtain ⟨s, k⟩ := k
        have n0 : ¬ rk p false = rk p true := rk_ne p p
        cases s with
        | false =>
          have n1 : ¬ rk p true = (false, k) := fun h => by have := congrArg Prod.fst h; cases this
          rw [aget_aput, if_neg n1, aget_aput]
          by_cases c : rk p false = (false, k) <;> simp [c]
        | true =>
          have n1 : ¬ rk p false = (true, k) := fun h => by have := congrArg Prod.fst h; cases this
          rw [aget_aput]
          by_cases c : rk p true = (true, k)
          · rw [if_pos c, aget_aput, if_neg n0, c]; simp [c]
          · rw [if_neg c, aget_aput, if_neg n1]; simp [c]
    · rw [e]
      have hk := hb k
      split
      · rename_i h
        obtain ⟨h1, h2⟩ := h
        unfold fpGood at h1
        have h1 := of_decide_eq_true h1
        unfold ck at h2
        have h2 := of_decide_eq_true h2
        rw [hm, hm] at h1
        obtain ⟨s, k⟩ := k
        cases s with
        | false => rw [show rk p false = (false, k) from h2] at h1; omega
        | true => rw [show rk p true = (true, k) from h2] at h1; omega
      · omega
theorem firstPart_ok (ps : List Pr) (ways : Nat) : (firstPart ps ways).length = ps.length ∧ ∀ k, ct (ck k) ps (firstPart ps ways) ≤ ways := by
  have := fpGo_ok (ways := ways) ps [] [] [] rfl (by simp [aget, ct]) (by simp [ct])
  simpa [firstPart] using this
theorem wrGo_ok {ps : List Pr} {t : List Bool} (hl : t.length = ps.length) {ways : Nat} : ∀ (l : List Rk) (f : List (Rk × Unit)), (∀ k ∈ l, 0 < dg ps k) → (f.map (·.1)).Nodup → ∃ F, wrGo (links ps) t ways l f = some F ∧ (F.map (·.1)).Nodup ∧ ∀ k, (aget F k).isSome = true ↔ (aget f k).isSome = true ∨ (k ∈ l ∧ ct (ck k) ps t < ways)
  | [], f, _, nd => ⟨f, rfl, nd, by simp⟩
  | k :: r, f, h, nd => by
    have hk := links_some (h k (by simp))
    have hc : cntT t (inc1 ps k) = some (ct (ck k) ps t) := by
      have := cntT_ok k ps 0 t (by omega)
      rw [List.drop_zero] at this
      exact this
    obtain ⟨F, g1, g2, g3⟩ := wrGo_ok hl (ways := ways) r (if ct (ck k) ps t < ways then aput f k () else f) (fun j hj => h j (List.mem_cons_of_mem _ hj)) (by split <;> first | exact aput_nodup nd | exact nd)
    refine ⟨F, by unfold wrGo; simp only [hk, hc]; exact g1, g2, fun j => ?_⟩
    rw [g3]
    split
    · rename_i e
      rw [aget_aput]
      by_cases ej : k = j
      · subst ej; simp [e]
      · have ej' : ¬ j = k := fun h => ej h.symm
        simp [ej, ej']
    · rename_i e
      by_cases ej : k = j
      · subst ej; simp [e]
      · have ej' : ¬ j = k := fun h => ej h.symm
        simp [ej']
theorem withRoom_ok {ps : List Pr} {t : List Bool} (hl : t.length = ps.length) {ways : Nat} : ∃ F, withRoom (links ps) t ways = some F ∧ (F.map (·.1)).Nodup ∧ ∀ k, (aget F k).isSome = true ↔ 0 < dg ps k ∧ ct (ck k) ps t < ways := by
  obtain ⟨F, h1, h2, h3⟩ := wrGo_ok hl (ways := ways) (srt leR ((links ps).map (·.1))) [] (fun k hk => links_mem.mp ((srt_perm _ _).mem_iff.mp hk)) List.nodup_nil
  refine ⟨F, h1, h2, fun k => ?_⟩
  rw [h3, (srt_perm _ _).mem_iff, links_mem]
  simp [aget]
end XM
-- KMath8
set_option Elab.async false
set_option linter.all false
/-! plain laws of the mirrors: looked, turnOver -/
namespace XM
open XR
structure Lp (ps : List Pr) (taken : List Bool) (ready : List (Rk × Unit)) (came : List (Rk × Option Nat)) : Prop where
  nd : (came.map (·.1)).Nodup
  on : ∀ (i : Nat) (k : Rk) (o : Option Nat), came[i]? = some (k, o) → 0 < dg ps k ∧ ((o = none ∧ k.1 = false ∧ (aget ready k).isSome = true) ∨
    ∃ (pl : Nat) (p : Pr) (j : Nat) (o' : Option Nat), o = some pl ∧ ps[pl]? = some p ∧ rk p k.1 = k ∧ taken[pl]? = some (!k.1) ∧ j < i ∧ came[j]? = some (rk p !k.1, o'))
section
variable {ps : List Pr} {taken : List Bool} {ready : List (Rk × Unit)}
theorem Lp.add {came : List (Rk × Option Nat)} (l : Lp ps taken ready came) {k : Rk} {o : Option Nat} (hk : k ∉ came.map (·.1)) (hd : 0 < dg ps k)
    (ho : (o = none ∧ k.1 = false ∧ (aget ready k).isSome = true) ∨ ∃ (pl : Nat) (p : Pr), o = some pl ∧ ps[pl]? = some p ∧ rk p k.1 = k ∧ taken[pl]? = some (!k.1) ∧ rk p (!k.1) ∈ came.map (·.1)) :
    Lp ps taken ready (came ++ [(k, o)]) := by
  refine ⟨?_, fun i k' o' e => ?_⟩
  · rw [← aput_new hk]; exact aput_nodup l.nd
  · by_cases hi : i < came.length
    · rw [List.getElem?_append_left hi] at e
      obtain ⟨h1, h2⟩ := l.on i k' o' e
      refine ⟨h1, ?_⟩
      rcases h2 with h2 | ⟨pl, p, j, o2, a1, a2, a3, a4, a5, a6⟩
      · exact .inl h2
      · exact .inr ⟨pl, p, j, o2, a1, a2, a3, a4, a5, by rw [List.getElem?_append_left (by omega)]; exact a6⟩
    · rw [List.getElem?_append_right (by omega)] at e
      have i0 : i - came.length = 0 := by
        cases h : i - came.length with
        | zero => rfl
        | succ n => rw [h] at e; simp at e
      rw [i0] at e
      simp at e
      obtain ⟨e1, e2⟩ := e
      subst e1
      subst e2
      refine ⟨hd, ?_⟩
      rcases ho with ho | ⟨pl, p, a1, a2, a3, a4, a5⟩
      · exact .inl ho
      · obtain ⟨⟨k2, o2⟩, b1, b2⟩ := List.mem_map.mp a5
        obtain ⟨j, b3⟩ := List.mem_iff_getElem?.mp b1
        simp only at b2
        have jl : j < came.length := (List.getElem?_eq_some_iff.mp b3).1
        exact .inr ⟨pl, p, j, o2, a1, a2, a3, a4, by omega, by rw [List.getElem?_append_left jl, b3, b2]⟩
theorem Lp.len {came : List (Rk × Option Nat)} (l : Lp ps taken ready came) : came.length ≤ 2 * ps.length := by
  have := keys_all (ps := ps) l.nd fun k hk => by
    obtain ⟨⟨k', o⟩, h1, h2⟩ := List.mem_map.mp hk
    obtain ⟨i, h3⟩ := List.mem_iff_getElem?.mp h1
    simp only at h2
    subst h2
    exact (l.on i _ _ h3).1
  simpa using this
theorem ltStart_ok : ∀ (l : List (Rk × Unit)) (came : List (Rk × Option Nat)), (l.map (·.1)).Nodup → (∀ k ∈ l.map (·.1), k ∉ came.map (·.1)) → (∀ k ∈ l.map (·.1), (aget ready k).isSome = true ∧ 0 < dg ps k) → Lp ps taken ready came → (∀ k ∈ came.map (·.1), k.1 = false) →
    ∃ c, ltStart l came (came.map (·.1)) = (c, c.map (·.1)) ∧ Lp ps taken ready c ∧ (∀ k ∈ c.map (·.1), k.1 = false) ∧ (∀ k ∈ came.map (·.1), k ∈ c.map (·.1)) ∧ ∀ k ∈ l.map (·.1), k.1 = false → k ∈ c.map (·.1)
  | [], came, _, _, _, lp, hf => ⟨came, rfl, lp, hf, fun _ h => h, by simp⟩
  | (k, u) :: r, came, nd, hn, hr, lp, hf => by
    rw [List.map_cons] at nd
    have nc := List.nodup_cons.mp nd
    have hk := hr k (by simp)
    have hnk := hn k (by simp)
    unfold ltStart
    by_cases e : k.1 = false
    · rw [if_pos e, aput_new hnk]
      have lp' := lp.add hnk hk.2 (o := none) (.inl ⟨rfl, e, hk.1⟩)
      have e2 : came.map (·.1) ++ [k] = (came ++ [(k, (none : Option Nat))]).map (·.1) := by simp
      rw [e2]
      obtain ⟨c, g1, g2, g3, g4, g5⟩ := ltStart_ok r (came ++ [(k, none)]) nc.2 (fun j hj => by
        rw [← e2, List.mem_append]
        rintro (h | h)
        · exact hn j (List.mem_cons_of_mem _ hj) h
        · simp at h; subst h; exact nc.1 hj) (fun j hj => hr j (List.mem_cons_of_mem _ hj)) lp' (fun j hj => by
        rw [← e2, List.mem_append] at hj
        rcases hj with h | h
        · exact hf j h
        · simp at h; rw [h]; exact e)
      refine ⟨c, g1, g2, g3, fun j hj => g4 j (by rw [← e2]; exact List.mem_append_left _ hj), fun j hj hjf => ?_⟩
      rcases List.mem_cons.mp hj with h | h
      · simp at h; rw [h]; exact g4 k (by rw [← e2]; simp)
      · exact g5 j h hjf
    · rw [if_neg e]
      obtain ⟨c, g1, g2, g3, g4, g5⟩ := ltStart_ok r came nc.2 (fun j hj => hn j (List.mem_cons_of_mem _ hj)) (fun j hj => hr j (List.mem_cons_of_mem _ hj)) lp hf
      refine ⟨c, g1, g2, g3, g4, fun j hj hjf => ?_⟩
      rcases List.mem_cons.mp hj with h | h
      · simp at h; rw [h] at hjf; exact absurd hjf e
      · exact g5 j h hjf
def NR (ready : List (Rk × Unit)) (came : List (Rk × Option Nat)) : Prop := ∀ k ∈ came.map (·.1), k.1 = true → aget ready k = none
/-- a walk that came to a rack with room -/
def Hit (ps : List Pr) (taken : List Bool) (ready : List (Rk × Unit)) (last : Rk) (c : List (Rk × Option Nat)) : Prop :=
  Lp ps taken ready c ∧ (∃ (i : Nat) (o : Option Nat), c[i]? = some (last, o)) ∧ last.1 = true ∧ (aget ready last).isSome = true
theorem ltIn_ok (hz : ps.length < 64) (ht : taken.length = ps.length) {k : Rk} : ∀ (r : List Nat) (came : List (Rk × Option Nat)), Lp ps taken ready came → NR ready came → k ∈ came.map (·.1) → (∀ pl ∈ r, ∃ p, ps[pl]? = some p ∧ rk p k.1 = k) →
    (∃ last c, ltIn ps taken ready k.1 r came (came.map (·.1)) = some (.inl (some last, c)) ∧ Hit ps taken ready last c) ∨
    ∃ ex, ltIn ps taken ready k.1 r came (came.map (·.1)) = some (.inr (came ++ ex, (came ++ ex).map (·.1))) ∧ Lp ps taken ready (came ++ ex) ∧ NR ready (came ++ ex) ∧
      ∀ pl ∈ r, ∀ p, ps[pl]? = some p → taken[pl]? = some k.1 → rk p (!k.1) ∈ (came ++ ex).map (·.1)
  | [], came, lp, nr, hk, _ => .inr ⟨[], by simp [ltIn], by simpa using lp, by simpa using nr, by simp⟩
  | pl :: r, came, lp, nr, hk, hr => by
    obtain ⟨p, hp, hpk⟩ := hr pl (by simp)
    have hr' : ∀ pl ∈ r, ∃ p, ps[pl]? = some p ∧ rk p k.1 = k := fun x hx => hr x (List.mem_cons_of_mem _ hx)
    have pll : pl < taken.length := by rw [ht]; exact (List.getElem?_eq_some_iff.mp hp).1
    have htk : taken[pl]? = some taken[pl] := List.getElem?_eq_getElem pll
    unfold ltIn
    simp only [hp, htk]
    by_cases c : taken[pl] = k.1 ∧ aget came (rk p !k.1) = none
    · rw [if_pos c]
      obtain ⟨c1, c2⟩ := c
      have ll := lp.len
      have g : came.length < 1000 ∧ (came.map (·.1)).length < 1000 := by
        rw [List.length_map]; omega
      rw [if_neg (by simpa using g)]
      have nk := aget_none.mp c2
      rw [aput_new nk]
      have s1 : (rk p !k.1).1 = !k.1 := rfl
      have lp' := lp.add nk (dg_at hp _) (o := some pl) (.inr ⟨pl, p, rfl, hp, rfl, by rw [s1, Bool.not_not, htk, c1], by rw [s1, Bool.not_not, hpk]; exact hk⟩)
      by_cases e : k.1 = false ∧ aget ready (rk p !k.1) = some ()
      · rw [if_pos e]
        refine .inl ⟨_, _, rfl, lp', ⟨came.length, some pl, by simp⟩, by rw [s1, e.1]; rfl, by rw [e.2]; rfl⟩
      · rw [if_neg e]
        have e2 : came.map (·.1) ++ [rk p !k.1] = (came ++ [(rk p (!k.1), some pl)]).map (·.1) := by simp
        rw [e2]
        have nr' : NR ready (came ++ [(rk p (!k.1), some pl)]) := fun j hj hjt => by
          rw [← e2, List.mem_append] at hj
          rcases hj with h | h
          · exact nr j h hjt
          · simp at h
            subst h
            rw [s1] at hjt
            have : k.1 = false := by cases h6 : k.1 <;> simp_all
            cases h7 : aget ready (rk p !k.1) with
            | none => rfl
            | some u => exact absurd ⟨this, h7⟩ e
        rcases ltIn_ok hz ht r _ lp' nr' (by rw [← e2]; exact List.mem_append_left _ hk) hr' with h | ⟨ex, g1, g2, g3, g4⟩
        · exact .inl h
        · refine .inr ⟨(rk p (!k.1), some pl) :: ex, ?_⟩
          have e3 : came ++ (rk p (!k.1), some pl) :: ex = came ++ [(rk p (!k.1), some pl)] ++ ex := by simp
          rw [e3]
          refine ⟨g1, g2, g3, fun x hx q hq hqt => ?_⟩
          rcases List.mem_cons.mp hx with hx | hx
          · subst hx
            rw [hp] at hq
            cases hq
            simp
          · exact g4 x hx q hq hqt
    · rw [if_neg c]
      rcases ltIn_ok hz ht r came lp nr hk hr' with h | ⟨ex, g1, g2, g3, g4⟩
      · exact .inl h
      · refine .inr ⟨ex, g1, g2, g3, fun x hx q hq hqt => ?_⟩
        rcases List.mem_cons.mp hx with hx | hx
        · subst hx
          rw [hp] at hq
          cases hq
          rw [htk] at hqt
          have : aget came (rk p !k.1) ≠ none := fun h => c ⟨Option.some.inj hqt, h⟩
          rw [List.map_append, List.mem_append]
          left
          exact Classical.byContradiction fun h => this (aget_none.mpr h)
        · exact g4 x hx q hq hqt
/-- nothing is left to look through -/
structure Shut (ps : List Pr) (taken : List Bool) (ready : List (Rk × Unit)) (c : List (Rk × Option Nat)) : Prop where
  lp : Lp ps taken ready c
  nr : NR ready c
  rd : ∀ k, (aget ready k).isSome = true → k.1 = false → k ∈ c.map (·.1)
  cl : ∀ k ∈ c.map (·.1), ∀ (pl : Nat) (p : Pr), ps[pl]? = some p → rk p k.1 = k → taken[pl]? = some k.1 → rk p (!k.1) ∈ c.map (·.1)
theorem ltGo_ok (hz : ps.length < 64) (ht : taken.length = ps.length) : ∀ (f at' : Nat) (came : List (Rk × Option Nat)), 2 * ps.length + 2 ≤ f + at' → at' ≤ came.length → Lp ps taken ready came → NR ready came → (∀ k, (aget ready k).isSome = true → k.1 = false → k ∈ came.map (·.1)) →
    (∀ (i : Nat) (k : Rk), i < at' → (came.map (·.1))[i]? = some k → ∀ (pl : Nat) (p : Pr), ps[pl]? = some p → rk p k.1 = k → taken[pl]? = some k.1 → rk p (!k.1) ∈ came.map (·.1)) →
    ∃ o c, ltGo ps (links ps) taken ready f at' came (came.map (·.1)) = some (o, c) ∧ ((∃ last, o = some last ∧ Hit ps taken ready last c) ∨ (o = none ∧ Shut ps taken ready c))
  | 0, at', came, hf, ha, lp, _, _, _ => by
    have := lp.len
    omega
  | f + 1, at', came, hf, ha, lp, nr, rd, hd => by
    unfold ltGo
    cases e : (came.map (·.1))[at']? with
    | none =>
      have hl := List.getElem?_eq_none_iff.mp e
      refine ⟨none, came, rfl, .inr ⟨rfl, lp, nr, rd, fun k hk => ?_⟩⟩
      obtain ⟨i, hi⟩ := List.mem_iff_getElem?.mp hk
      have := (List.getElem?_eq_some_iff.mp hi).1
      exact hd i k (by omega) hi
    | some k =>
      have hk := List.mem_of_getElem? e
      have al := (List.getElem?_eq_some_iff.mp e).1
      have hdg : 0 < dg ps k := by
        obtain ⟨⟨k', o⟩, h1, h2⟩ := List.mem_map.mp hk
        obtain ⟨i, h3⟩ := List.mem_iff_getElem?.mp h1
        simp only at h2
        subst h2
        exact (lp.on i _ _ h3).1
      simp only [links_some hdg]
      rcases ltIn_ok hz ht (inc1 ps k) came lp nr hk (fun pl hpl => inc1_mem.mp hpl) with ⟨last, c, g1, g2⟩ | ⟨ex, g1, g2, g3, g4⟩
      · exact ⟨some last, c, by rw [g1]; rfl, .inl ⟨last, rfl, g2⟩⟩
      · rw [g1]
        have sub : ∀ j, j ∈ came.map (·.1) → j ∈ (came ++ ex).map (·.1) := fun j hj => by
          rw [List.map_append]; exact List.mem_append_left _ hj
        refine ltGo_ok hz ht f (at' + 1) (came ++ ex) (by omega) (by simp at al ⊢; omega) g2 g3 (fun j h1 h2 => sub j (rd j h1 h2)) fun i k' hi hik pl p h1 h2 h3 => ?_
        rw [List.map_append, List.getElem?_append_left (by omega)] at hik
        by_cases ei : i = at'
        · subst ei
          rw [e] at hik
          cases hik
          exact g4 pl (inc1_mem.mpr ⟨p, h1, h2⟩) p h1 h3
        · exact sub _ (hd i k' (by omega) hik pl p h1 h2 h3)
theorem looked_ok (hz : ps.length < 64) (ht : taken.length = ps.length) (nd : (ready.map (·.1)).Nodup) (hr : ∀ k, (aget ready k).isSome = true → 0 < dg ps k) :
    ∃ o c, looked ps (links ps) taken ready = some (o, c) ∧ ((∃ last, o = some last ∧ Hit ps taken ready last c) ∨ (o = none ∧ Shut ps taken ready c)) := by
  obtain ⟨c, g1, g2, g3, _, g5⟩ := ltStart_ok (ps := ps) (taken := taken) (ready := ready) ready [] nd (by simp) (fun k hk => ⟨aget_isSome.mpr hk, hr k (aget_isSome.mpr hk)⟩) ⟨by simp, by simp⟩ (by simp)
  simp only [List.map_nil] at g1
  unfold looked
  rw [g1]
  refine ltGo_ok hz ht (2 * ps.length + 2) 0 c (by omega) (by omega) g2 (fun k hk h => ?_) (fun k h1 h2 => g5 k (aget_isSome.mp h1) h2) (by intro i k hi; omega)
  rw [g3 k hk] at h
  cases h
theorem touch_two (p : Pr) (s : Bool) (k : Rk) : (if ck k p = true then 1 else 0) = (if rk p s = k then 1 else 0) + if rk p (!s) = k then 1 else 0 := by
  unfold ck
  by_cases e : k.1 = s
  · have n : ¬ rk p (!s) = k := fun h => by
      have := congrArg Prod.fst h
      simp only [rk_fst] at this
      rw [e] at this
      cases s <;> cases this
    rw [if_neg n, e]
    by_cases c : rk p s = k <;> simp [c]
  · have es : (!s) = k.1 := by cases h1 : k.1 <;> cases s <;> simp_all
    have n : ¬ rk p s = k := fun h => by
      have := congrArg Prod.fst h
      simp only [rk_fst] at this
      exact e this.symm
    rw [if_neg n, es]
    by_cases c : rk p k.1 = k <;> simp [c]
theorem toGo_ok {came : List (Rk × Option Nat)} (lp : Lp ps taken ready came) : ∀ (i f : Nat) (T : List Bool) (last : Rk) (o : Option Nat), i < f → came[i]? = some (last, o) → T.length = ps.length →
    (∀ (j pl : Nat) (k : Rk), j ≤ i → came[j]? = some (k, some pl) → T[pl]? = some (!k.1)) →
    ∃ F start, toGo ps came f T last = some F ∧ F.length = ps.length ∧ start.1 = false ∧ (aget ready start).isSome = true ∧
      (∀ k, ct (ck k) ps F + (if last.1 = false ∧ last = k then 1 else 0) = ct (ck k) ps T + (if last.1 = true ∧ last = k then 1 else 0) + if start = k then 1 else 0) ∧
      ct (fun _ => true) ps F = ct (fun _ => true) ps T + if last.1 = true then 1 else 0 := fun i => by
  induction i using Nat.strongRecOn with
  | _ i ih =>
  intro f T last o hf hc hT ag
  obtain ⟨f, rfl⟩ : ∃ g, f = g + 1 := ⟨f - 1, by omega⟩
  have e1 : aget came last = some o := aget_of_mem lp.nd (List.mem_of_getElem? hc)
  unfold toGo
  rw [e1]
  obtain ⟨_, h⟩ := lp.on i last o hc
  rcases h with ⟨rfl, h2, h3⟩ | ⟨pl, p, j, o', rfl, h2, h3, h4, h5, h6⟩
  · refine ⟨T, last, rfl, hT, h2, h3, fun k => ?_, by simp [h2]⟩
    simp [h2]
  · have hTp := ag i pl last (Nat.le_refl _) hc
    simp only [hTp, h2]
    have us : (rk p !last.1).1 = !last.1 := rfl
    obtain ⟨F, start, g1, g2, g3, g4, g5, g6⟩ := ih j h5 f (T.set pl (!(!last.1))) (rk p !last.1) o' (by omega) h6 (by simp [hT]) fun j' pl' k' hj' hk' => by
      have ne : pl' ≠ pl := fun e => by
        subst e
        obtain ⟨_, q⟩ := lp.on j' k' _ hk'
        rcases q with ⟨q, _⟩ | ⟨pl2, p2, _, _, q1, q2, q3, q4, _⟩
        · cases q
        · cases q1
          rw [h2] at q2
          cases q2
          rw [h4] at q4
          have : k'.1 = last.1 := by
            have := Option.some.inj q4
            cases h8 : k'.1 <;> cases h9 : last.1 <;> simp_all
          rw [this, h3] at q3
          subst q3
          have := idx_uniq lp.nd hc hk'
          omega
      rw [List.getElem?_set_ne (by omega)]
      exact ag j' pl' k' (by omega) hk'
    refine ⟨F, start, g1, g2, g3, g4, fun k => ?_, ?_⟩
    · have c1 := ct_set (ck k) h2 hTp
      have c2 := g5 k
      have c3 := touch_two p last.1 k
      rw [h3] at c3
      rw [us] at c2
      cases hl : last.1 with
      | true =>
        rw [hl] at c1 c2 c3
        simp only [Bool.not_true, Bool.not_false, Bool.false_eq_true, Bool.true_eq_false, false_and, true_and, if_false] at c1 c2 c3 ⊢
        omega
      | false =>
        rw [hl] at c1 c2 c3
        simp only [Bool.not_true, Bool.not_false, Bool.false_eq_true, Bool.true_eq_false, false_and, true_and, if_false] at c1 c2 c3 ⊢
        omega
    · have c1 := ct_set (fun _ => true) h2 hTp
      rw [us] at g6
      cases hl : last.1 with
      | true =>
        rw [hl] at c1 g6
        simp at c1 g6 ⊢
        omega
      | false =>
        rw [hl] at c1 g6
        simp at c1 g6 ⊢
        omega
end
end XM
-- KMath9
set_option Elab.async false
set_option linter.all false
/-! plain laws of the mirrors: greatest -/
namespace XM
open XR
section
variable {ps : List Pr} {ways : Nat}
/-- ready names the racks with room -/
def Rdy (ps : List Pr) (ways : Nat) (taken : List Bool) (ready : List (Rk × Unit)) : Prop := ∀ k, (aget ready k).isSome = true ↔ 0 < dg ps k ∧ ct (ck k) ps taken < ways
def Seen (ps : List Pr) (ways : Nat) (taken : List Bool) (o : Option Rk) (c : List (Rk × Option Nat)) : Prop := ∃ ready, Rdy ps ways taken ready ∧ ((∃ last, o = some last ∧ Hit ps taken ready last c) ∨ (o = none ∧ Shut ps taken ready c))
theorem look_ok (hz : ps.length < 64) {taken : List Bool} (ht : taken.length = ps.length) : ∃ o c, look ps ways taken = some (o, c) ∧ Seen ps ways taken o c := by
  obtain ⟨ready, h1, h2, h3⟩ := withRoom_ok ht (ways := ways)
  obtain ⟨o, c, g1, g2⟩ := looked_ok hz ht h2 fun k hk => ((h3 k).mp hk).1
  exact ⟨o, c, by unfold look; rw [h1]; exact g1, ready, h3, g2⟩
theorem turn_ok {taken : List Bool} (ht : taken.length = ps.length) (hb : ∀ k, ct (ck k) ps taken ≤ ways) {ready : List (Rk × Unit)} (hr : Rdy ps ways taken ready) {last : Rk} {c : List (Rk × Option Nat)} (h : Hit ps taken ready last c) :
    ∃ F, turnOver ps taken c last = some F ∧ F.length = ps.length ∧ (∀ k, ct (ck k) ps F ≤ ways) ∧ ct (fun _ => true) ps F = ct (fun _ => true) ps taken + 1 := by
  obtain ⟨lp, ⟨i, o, hi⟩, l1, l2⟩ := h
  have il : i < c.length := (List.getElem?_eq_some_iff.mp hi).1
  obtain ⟨F, start, g1, g2, g3, g4, g5, g6⟩ := toGo_ok lp i (c.length + 1) taken last o (by omega) hi ht fun j pl k _ hk => by
    obtain ⟨_, q⟩ := lp.on j k _ hk
    rcases q with ⟨q, _⟩ | ⟨pl2, p2, _, _, q1, q2, q3, q4, _⟩
    · cases q
    · cases q1
      exact q4
  refine ⟨F, g1, g2, fun k => ?_, by rw [g6, if_pos l1]⟩
  have e := g5 k
  have b := hb k
  have r1 := ((hr last).mp l2).2
  have r2 := ((hr start).mp g4).2
  have ne : last ≠ start := fun e => by rw [e, g3] at l1; cases l1
  rw [l1] at e
  simp only [Bool.true_eq_false, false_and, if_false, true_and] at e
  by_cases c1 : last = k
  · have c2 : ¬ start = k := fun h => ne (c1.trans h.symm)
    rw [if_pos c1, if_neg c2] at e
    subst c1
    omega
  · rw [if_neg c1] at e
    by_cases c2 : start = k
    · rw [if_pos c2] at e
      subst c2
      omega
    · rw [if_neg c2] at e
      omega
theorem grRest_ok (hz : ps.length < 64) : ∀ (f : Nat) (taken : List Bool) (o : Option Rk) (c : List (Rk × Option Nat)), taken.length = ps.length → (∀ k, ct (ck k) ps taken ≤ ways) → ps.length + 1 ≤ f + ct (fun _ => true) ps taken → Seen ps ways taken o c →
    ∃ T C ready, grRest ps ways f taken o c = some (T, C) ∧ T.length = ps.length ∧ (∀ k, ct (ck k) ps T ≤ ways) ∧ Rdy ps ways T ready ∧ Shut ps T ready C
  | f, taken, none, c, ht, hb, _, ⟨ready, hr, h⟩ => by
    rcases h with ⟨last, h, _⟩ | ⟨_, h⟩
    · cases h
    · exact ⟨taken, c, ready, by cases f <;> rfl, ht, hb, hr, h⟩
  | 0, taken, some last, c, ht, hb, hf, _ => by
    have := ct_le (fun _ => true) ps taken
    omega
  | f + 1, taken, some last, c, ht, hb, hf, ⟨ready, hr, h⟩ => by
    rcases h with ⟨last', h, g⟩ | ⟨h, _⟩
    · cases h
      obtain ⟨F, h1, h2, h3, h4⟩ := turn_ok ht hb hr g
      obtain ⟨o, c', g1, g2⟩ := look_ok (ways := ways) hz h2
      obtain ⟨T, C, rd, e1, e2⟩ := grRest_ok hz f F o c' h2 h3 (by omega) g2
      refine ⟨T, C, rd, ?_, e2⟩
      unfold grRest
      rw [h1]
      simp only
      rw [g1]
      exact e1
    · cases h
theorem grGo_ok (hz : ps.length < 64) : ∃ T C ready, grGo ps ways = some (T, C) ∧ T.length = ps.length ∧ (∀ k, ct (ck k) ps T ≤ ways) ∧ Rdy ps ways T ready ∧ Shut ps T ready C := by
  obtain ⟨h1, h2⟩ := firstPart_ok ps ways
  obtain ⟨o, c, g1, g2⟩ := look_ok (ways := ways) hz h1
  obtain ⟨T, C, rd, e1, e2⟩ := grRest_ok hz (ps.length + 2) _ o c h1 h2 (by omega) g2
  exact ⟨T, C, rd, by unfold grGo; rw [g1]; exact e1, e2⟩
end
theorem trues_cons (b : Bool) (t : List Bool) : trues (b :: t) = (if b then [0] else []) ++ (trues t).map (· + 1) := by
  unfold trues
  rw [List.length_cons, List.range_succ_eq_map, List.filterMap_cons, List.filterMap_map, List.map_filterMap]
  have e : (List.range t.length).filterMap ((fun i => if (b :: t)[i]? = some true then some i else none) ∘ Nat.succ) = (List.range t.length).filterMap fun x => Option.map (fun x => x + 1) (if t[x]? = some true then some x else none) := by
    congr 1
    funext i
    simp only [Function.comp]
    by_cases h : t[i]? = some true
    · simp [h]
    · simp [h]
  rw [e]
  cases b <;> simp
theorem trues_ct (P : Pr → Bool) : ∀ (ps : List Pr) (t : List Bool), t.length = ps.length → ((trues t).filter fun i => match ps[i]? with
    | some p => P p
    | none => false).length = ct P ps t
  | [], [], _ => rfl
  | [], _ :: _, h => by simp at h
  | _ :: _, [], h => by simp at h
  | p :: r, b :: t, h => by
    have ih := trues_ct P r t (by simpa using h)
    rw [trues_cons, List.filter_append, List.length_append, List.filter_map, List.length_map, ct, ← ih]
    have e : ((fun i => match (p :: r)[i]? with | some p => P p | none => false) ∘ fun x : Nat => x + 1) = fun i => match r[i]? with | some p => P p | none => false := by
      funext i
      simp [Function.comp]
    rw [e]
    congr 1
    cases b with
    | false => simp
    | true =>
      simp only [if_true, true_and]
      by_cases c : P p = true
      · simp [c]
      · simp [c]
theorem mem_trues {t : List Bool} {i : Nat} : i ∈ trues t ↔ t[i]? = some true := by
  unfold trues
  rw [List.mem_filterMap]
  constructor
  · rintro ⟨j, h1, h2⟩
    split at h2
    · cases h2; assumption
    · cases h2
  · intro h
    exact ⟨i, List.mem_range.mpr (List.getElem?_eq_some_iff.mp h).1, by rw [if_pos h]⟩
theorem trues_up (t : List Bool) : (trues t).Pairwise (· < ·) := by
  unfold trues
  rw [List.pairwise_filterMap]
  refine List.pairwise_lt_range.imp fun {a b} h x hx y hy => ?_
  split at hx <;> simp at hx
  split at hy <;> simp at hy
  omega
theorem keysR_srt (ps : List Pr) : (srt leR ((links ps).map (·.1))).Pairwise (fun a b => leR a b = true ∧ a ≠ b) :=
  List.pairwise_and_iff.mpr ⟨srtR_srt _, (srt_perm _ _).nodup_iff.mpr (links_nodup ps)⟩
theorem leR_lt {s : Bool} {a b : Rk} (h : leR a b = true) (n : a ≠ b) (ha : a.1 = s) (hb : b.1 = s) : a.2 < b.2 := by
  obtain ⟨a1, a2⟩ := a
  obtain ⟨b1, b2⟩ := b
  simp only at ha hb
  subst ha
  subst hb
  unfold leR leP at h
  have h := of_decide_eq_true h
  simp only at h
  rcases h with h | ⟨_, h⟩
  · omega
  · have : a2 ≠ b2 := fun e => n (by rw [e])
    show a2 < b2
    omega
/-- the racks of a side that pass a test -/
def racksBy (ps : List Pr) (s : Bool) (T : Rk → Bool) : List Nat := (srt leR ((links ps).map (·.1))).filterMap fun k => if k.1 = s ∧ T k = true then some k.2 else none
theorem mem_racksBy {ps : List Pr} {s : Bool} {T : Rk → Bool} {n : Nat} : n ∈ racksBy ps s T ↔ 0 < dg ps (s, n) ∧ T (s, n) = true := by
  unfold racksBy
  rw [List.mem_filterMap]
  constructor
  · rintro ⟨⟨a, b⟩, h1, h2⟩
    split at h2
    · cases h2
      rename_i h
      obtain ⟨h3, h4⟩ := h
      simp only at h3
      subst h3
      exact ⟨links_mem.mp ((srt_perm _ _).mem_iff.mp h1), h4⟩
    · cases h2
  · rintro ⟨h1, h2⟩
    exact ⟨(s, n), (srt_perm _ _).mem_iff.mpr (links_mem.mpr h1), by rw [if_pos ⟨rfl, h2⟩]⟩
theorem racksBy_up (ps : List Pr) (s : Bool) (T : Rk → Bool) : (racksBy ps s T).Pairwise (· < ·) := by
  unfold racksBy
  rw [List.pairwise_filterMap]
  refine (keysR_srt ps).imp fun {a b} h x hx y hy => ?_
  split at hx <;> simp at hx
  split at hy <;> simp at hy
  rename_i h1 h2
  subst hx
  subst hy
  exact leR_lt h.1 h.2 h1.1 h2.1
theorem racksIn_by (ps : List Pr) (c : List (Rk × Option Nat)) : racksIn ps c = racksBy ps false fun k => decide (aget c k = none) := by
  unfold racksIn racksBy
  congr 1
  funext k
  simp only [decide_eq_true_eq]
theorem racksOut_by (ps : List Pr) (c : List (Rk × Option Nat)) : racksOut ps c = racksBy ps true fun k => decide (aget c k ≠ none) := by
  unfold racksOut racksBy
  congr 1
  funext k
  simp only [decide_eq_true_eq]
theorem up_nodup {l : List Nat} (h : l.Pairwise (· < ·)) : l.Nodup := h.imp fun h => by omega
theorem mapSide_nodup {l : List Nat} (s : Bool) (h : l.Nodup) : (l.map fun n => (s, n)).Nodup := by
  rw [List.nodup_iff_pairwise_ne, List.pairwise_map]
  exact h.imp fun h e => h (congrArg Prod.snd e)
theorem sum_const {ps : List Pr} {t : List Bool} {w : Nat} : ∀ {U : List Rk}, (∀ k ∈ U, ct (ck k) ps t = w) → (U.map fun k => ct (ck k) ps t).sum = w * U.length
  | [], _ => by simp
  | k :: U, h => by
    rw [List.map_cons, List.sum_cons, h k (by simp), sum_const fun j hj => h j (List.mem_cons_of_mem _ hj), List.length_cons, Nat.mul_succ]
    omega
theorem greatest_ok {ps : List Pr} (hz : ps.length < 64) (ways : Nat) : ∃ pl is os, greatest ps ways = some (pl, is, os) ∧ pl.Pairwise (· < ·) ∧ (∀ i ∈ pl, i < ps.length) ∧ (∀ k, (pl.filter (tch ps k)).length ≤ ways) ∧
    is.Pairwise (· < ·) ∧ os.Pairwise (· < ·) ∧ (∀ n ∈ is, 0 < dg ps (false, n)) ∧ (∀ n ∈ os, 0 < dg ps (true, n)) ∧
    pl.length = ways * (is.length + os.length) + (ps.filter fun p => !decide (p.1 ∈ is) && !decide (p.2 ∈ os)).length := by
  obtain ⟨T, C, ready, h1, h2, h3, h4, h5⟩ := grGo_ok (ways := ways) hz
  have eI := racksIn_by ps C
  have eO := racksOut_by ps C
  have mI : ∀ n, n ∈ racksIn ps C ↔ 0 < dg ps (false, n) ∧ (false, n) ∉ C.map (·.1) := fun n => by
    rw [eI, mem_racksBy, decide_eq_true_eq, aget_none]
  have mO : ∀ n, n ∈ racksOut ps C ↔ 0 < dg ps (true, n) ∧ (true, n) ∈ C.map (·.1) := fun n => by
    rw [eO, mem_racksBy, decide_eq_true_eq]
    constructor
    · rintro ⟨a, b⟩
      exact ⟨a, Classical.byContradiction fun h => b (aget_none.mpr h)⟩
    · rintro ⟨a, b⟩
      exact ⟨a, fun h => aget_none.mp h b⟩
  have uI : (racksIn ps C).Pairwise (· < ·) := by rw [eI]; exact racksBy_up _ _ _
  have uO : (racksOut ps C).Pairwise (· < ·) := by rw [eO]; exact racksBy_up _ _ _
  have tl : (trues T).length = ct (fun _ => true) ps T := by
    rw [← trues_ct _ ps T h2]
    congr 1
    refine (List.filter_eq_self.mpr fun i hi => ?_).symm
    have := (List.getElem?_eq_some_iff.mp (mem_trues.mp hi)).1
    rw [List.getElem?_eq_getElem (by omega : i < ps.length)]
  refine ⟨trues T, racksIn ps C, racksOut ps C, by unfold greatest; rw [h1]; simp only; rw [if_pos h2], trues_up T, fun i hi => ?_, fun k => ?_, uI, uO, fun n hn => ((mI n).mp hn).1, fun n hn => ((mO n).mp hn).1, ?_⟩
  · have := (List.getElem?_eq_some_iff.mp (mem_trues.mp hi)).1
    omega
  · have := h3 k
    rw [← trues_ct _ ps T h2] at this
    exact this
  · rw [tl]
    have full : ∀ k, 0 < dg ps k → aget ready k = none → ct (ck k) ps T = ways := fun k hk hr => by
      have a := h3 k
      have b := h4 k
      rw [hr] at b
      have : ¬ (0 < dg ps k ∧ ct (ck k) ps T < ways) := fun h => by
        have := b.mpr h
        cases this
      omega
    have fI : ∀ k ∈ (racksIn ps C).map fun n => ((false, n) : Rk), ct (ck k) ps T = ways := fun k hk => by
      obtain ⟨n, hn, rfl⟩ := List.mem_map.mp hk
      obtain ⟨a, b⟩ := (mI n).mp hn
      refine full _ a ?_
      cases e : aget ready (false, n) with
      | none => rfl
      | some u => exact absurd (h5.rd (false, n) (by rw [e]; rfl) rfl) b
    have fO : ∀ k ∈ (racksOut ps C).map fun n => ((true, n) : Rk), ct (ck k) ps T = ways := fun k hk => by
      obtain ⟨n, hn, rfl⟩ := List.mem_map.mp hk
      obtain ⟨a, b⟩ := (mO n).mp hn
      exact full _ a (h5.nr _ b rfl)
    have sI := ct_sum (ps := ps) (t := T) (s := false) (mapSide_nodup false (up_nodup uI)) (fun k hk => by
      obtain ⟨n, hn, rfl⟩ := List.mem_map.mp hk; rfl)
    have sO := ct_sum (ps := ps) (t := T) (s := true) (mapSide_nodup true (up_nodup uO)) (fun k hk => by
      obtain ⟨n, hn, rfl⟩ := List.mem_map.mp hk; rfl)
    rw [sum_const fI, List.length_map] at sI
    rw [sum_const fO, List.length_map] at sO
    have qI : ∀ p : Pr, (rk p false ∈ (racksIn ps C).map fun n => ((false, n) : Rk)) ↔ p.1 ∈ racksIn ps C := fun p => by
      rw [List.mem_map]
      constructor
      · rintro ⟨n, a, b⟩
        have := congrArg Prod.snd b
        simp [rk, sd] at this
        rw [← this]; exact a
      · intro h; exact ⟨p.1, h, rfl⟩
    have qO : ∀ p : Pr, (rk p true ∈ (racksOut ps C).map fun n => ((true, n) : Rk)) ↔ p.2 ∈ racksOut ps C := fun p => by
      rw [List.mem_map]
      constructor
      · rintro ⟨n, a, b⟩
        have := congrArg Prod.snd b
        simp [rk, sd] at this
        rw [← this]; exact a
      · intro h; exact ⟨p.2, h, rfl⟩
    have both : ∀ (i : Nat) p, ps[i]? = some p → T[i]? = some true → ¬ (p.1 ∈ racksIn ps C ∧ p.2 ∈ racksOut ps C) := fun i p hp hT h => by
      have a := ((mI _).mp h.1).2
      have b := ((mO _).mp h.2).2
      exact a (h5.cl (true, p.2) b i p hp rfl hT)
    have rest : ct (fun p => !decide (p.1 ∈ racksIn ps C) && !decide (p.2 ∈ racksOut ps C)) ps T = (ps.filter fun p => !decide (p.1 ∈ racksIn ps C) && !decide (p.2 ∈ racksOut ps C)).length := by
      refine ct_all h2.symm fun i p hp hP => ?_
      simp only [Bool.and_eq_true, Bool.not_eq_true', decide_eq_false_iff_not] at hP
      obtain ⟨n1, n2⟩ := hP
      have il : i < ps.length := (List.getElem?_eq_some_iff.mp hp).1
      have e : T[i]? = some T[i] := List.getElem?_eq_getElem (by omega)
      cases ht : T[i] with
      | true => rw [e, ht]
      | false =>
        exfalso
        have a : (false, p.1) ∈ C.map (·.1) := Classical.byContradiction fun h => n1 ((mI _).mpr ⟨dg_at hp false, h⟩)
        have b := h5.cl (false, p.1) a i p hp rfl (by rw [e, ht])
        exact n2 ((mO _).mpr ⟨dg_at hp true, b⟩)
    rw [← rest, Nat.mul_add, sI, sO]
    rw [← ct_add, ← ct_add]
    · refine ct_congr fun i p _ _ => ?_
      simp only [qI, qO]
      cases decide (p.1 ∈ racksIn ps C) <;> cases decide (p.2 ∈ racksOut ps C) <;> rfl
    · intro i p hp hT
      simp only [qI, qO]
      cases decide (p.1 ∈ racksIn ps C) <;> cases decide (p.2 ∈ racksOut ps C) <;> simp
    · intro i p hp hT
      simp only [qI, qO, decide_eq_true_eq]
      exact both i p hp hT
end XM
-- KMath10
set_option Elab.async false
set_option linter.all false
/-! the plain law -/
namespace XR
open XM
theorem range_fm {α β : Type} {f : α → Option β} : ∀ {l : List α} {g : Nat → Option β}, (∀ (i : Nat) (c : α), l[i]? = some c → g i = f c) → (List.range l.length).filterMap g = l.filterMap f
  | [], g, _ => rfl
  | x :: l, g, h => by
    rw [List.length_cons, List.range_succ_eq_map, List.filterMap_cons, List.filterMap_cons, List.filterMap_map]
    rw [h 0 x (by simp)]
    have ih := range_fm (f := f) (l := l) (g := g ∘ Nat.succ) fun i c e => h (i + 1) c (by simpa using e)
    rw [ih]
theorem srtP_up {es : List (Nat × Nat)} (nd : (es.map (·.1)).Nodup) : (srt leP es).Pairwise fun a b => a.1 < b.1 := by
  have h1 := srtP_srt es
  have h2 : ((srt leP es).map (·.1)).Nodup := ((srt_perm leP es).map _).nodup_iff.mpr nd
  have h3 := List.pairwise_map.mp h2
  refine (List.pairwise_and_iff.mpr ⟨h1, h3⟩).imp fun {a b} h => ?_
  obtain ⟨h4, h5⟩ := h
  unfold leP at h4
  have h4 := of_decide_eq_true h4
  omega
theorem srtP_self {es : List (Nat × Nat)} (h : es.Pairwise fun a b => a.1 < b.1) : srt leP es = es :=
  srt_uniq (le := fun a b => leP a b = true) leP_anti (srtP_srt es) (h.imp fun {a b} h => by unfold leP; exact decide_eq_true (.inl h)) (srt_perm leP es)
theorem pick_map {α β : Type} (f : α → β) {ps : List α} : ∀ {l : List Nat} {sm : List α}, pick ps l = some sm → pick (ps.map f) l = some (sm.map f)
  | [], sm, h => by simp [pick] at h; subst h; rfl
  | p :: r, sm, h => by
    unfold pick at h
    cases e : ps[p]? with
    | none => rw [e] at h; cases h
    | some y =>
      cases e2 : pick ps r with
      | none => rw [e, e2] at h; cases h
      | some ys =>
        rw [e, e2] at h
        cases h
        unfold pick
        rw [List.getElem?_map, e, pick_map f e2]
        rfl
theorem pick_pw {α : Type} {R : α → α → Prop} {ps : List α} (hR : ps.Pairwise R) : ∀ {l : List Nat} {sm : List α}, l.Pairwise (· < ·) → pick ps l = some sm → sm.Pairwise R
  | [], sm, _, h => by simp [pick] at h; subst h; exact List.Pairwise.nil
  | p :: r, sm, up, h => by
    unfold pick at h
    cases e : ps[p]? with
    | none => rw [e] at h; cases h
    | some y =>
      cases e2 : pick ps r with
      | none => rw [e, e2] at h; cases h
      | some ys =>
        rw [e, e2] at h
        cases h
        have uc := List.pairwise_cons.mp up
        refine List.pairwise_cons.mpr ⟨fun z hz => ?_, pick_pw hR uc.2 e2⟩
        obtain ⟨i, hi, hz⟩ := (pick_mem e2 z).mp hz
        obtain ⟨l1, e1⟩ := List.getElem?_eq_some_iff.mp e
        obtain ⟨l2, e3⟩ := List.getElem?_eq_some_iff.mp hz
        have := List.pairwise_iff_getElem.mp hR p i l1 l2 (uc.1 i hi)
        rw [e1, e3] at this
        exact this
theorem onceC_get {racks : List Nat} : ∀ {ss : List (Nat × Nat)} {ns : List Nat}, ns.length = ss.length → (∀ n ∈ ns, n < racks.length) →
    (onceC racks ss ns).length = ss.length ∧ ∀ (i : Nat) (c : Nat × Nat × Nat), (onceC racks ss ns)[i]? = some c → ∃ q n, ss[i]? = some q ∧ ns[i]? = some n ∧ c.1 = q.1 ∧ c.2.1 = q.2 ∧ racks[n]? = some c.2.2
  | [], [], _, _ => by simp [onceC]
  | [], _ :: _, h, _ => by simp at h
  | _ :: _, [], h, _ => by simp at h
  | q :: ss, n :: ns, h, hn => by
    obtain ⟨h1, h2⟩ := onceC_get (racks := racks) (ss := ss) (ns := ns) (by simpa using h) fun m hm => hn m (List.mem_cons_of_mem _ hm)
    have hr : racks[n]? = some (racks[n]'(hn n (by simp))) := List.getElem?_eq_getElem (hn n (by simp))
    have e : onceC racks (q :: ss) (n :: ns) = (q.1, q.2, racks[n]'(hn n (by simp))) :: onceC racks ss ns := by
      unfold onceC
      rw [List.zip_cons_cons, List.filterMap_cons]
      simp only [hr, Option.map_some]
    rw [e]
    refine ⟨by simp [h1], fun i c hc => ?_⟩
    cases i with
    | zero =>
      simp at hc
      subst hc
      exact ⟨q, n, rfl, rfl, rfl, rfl, hr⟩
    | succ i =>
      simp at hc
      obtain ⟨q', n', a1, a2, a3⟩ := h2 i c hc
      exact ⟨q', n', by simpa using a1, by simpa using a2, a3⟩
theorem opens_up (h : Hall) (shut : Nat) : (opens h shut).Pairwise (· < ·) := by
  unfold opens
  rw [List.pairwise_filterMap]
  refine List.pairwise_lt_range.imp fun {a b} hab x hx y hy => ?_
  split at hx <;> simp at hx
  split at hy <;> simp at hy
  omega
theorem mem_opens {h : Hall} {shut n : Nat} : n ∈ opens h shut ↔ n < h.c ∧ shut / 2 ^ n % 2 = 0 := by
  unfold opens
  rw [List.mem_filterMap]
  constructor
  · rintro ⟨k, h1, h2⟩
    split at h2
    · cases h2
      rename_i e
      exact ⟨List.mem_range.mp h1, e⟩
    · cases h2
  · rintro ⟨h1, h2⟩
    exact ⟨n, List.mem_range.mpr h1, by rw [if_pos h2]⟩
theorem math_law : MathLaw := fun h shut es ok hv hz => by
  have sp := srt_perm leP es
  have sl : (srt leP es).length = es.length := sp.length_eq
  have pl' : ((srt leP es).map (rks h)).length = es.length := by rw [List.length_map, sl]
  obtain ⟨pl, is, os, g1, g2, g3, g4, g5, g6, g7, g8, g9⟩ := greatest_ok (ps := (srt leP es).map (rks h)) (by omega) (opens h shut).length
  rw [pl'] at g3
  obtain ⟨es2, p1, p2, p3⟩ := pick_ok (srt leP es) pl fun i hi => by rw [sl]; exact g3 i hi
  have up := srtP_up hv.nc
  have up2 : es2.Pairwise fun a b => a.1 < b.1 := pick_pw up g2 p1
  have s2 := srtP_self up2
  have q1 := pick_map (rks h) p1
  have pll : pl.length ≤ es.length := by
    have := nodup_len (m := List.range es.length) (up_nodup g2) fun i hi => List.mem_range.mpr (g3 i hi)
    simpa using this
  have l2 : (es2.map (rks h)).length = es2.length := List.length_map _
  have dgs : ∀ k, dg (es2.map (rks h)) k ≤ (opens h shut).length := fun k => by
    rw [pick_dg k q1]
    exact g4 k
  have room : Roomy (es2.map (rks h)) (opens h shut).length := fun s k n e => by
    rw [wts_get e]
    exact dgs _
  obtain ⟨ns, n1, n2, n3, n4⟩ := parted_ok (ps := es2.map (rks h)) (by omega)
  have gl : gw (es2.map (rks h)) ≤ (opens h shut).length := gw_le.mpr dgs
  have nlt : ∀ n ∈ ns, n < (opens h shut).length := fun n hn => by
    obtain ⟨j, hj⟩ := List.mem_iff_getElem?.mp hn
    have := n3 j n hj
    omega
  have one : once h shut es2 = some (onceC (opens h shut) es2 ns) := by
    unfold once
    rw [s2, n1]
    simp only
    rw [if_pos nlt]
  obtain ⟨c1, c2⟩ := onceC_get (racks := opens h shut) (ss := es2) (ns := ns) (by rw [n2, l2]) nlt
  generalize hcs : onceC (opens h shut) es2 ns = cs at *
  have mem2 : ∀ q ∈ es2, q ∈ es := fun q hq => by
    obtain ⟨i, _, hi⟩ := (pick_mem p1 q).mp hq
    exact sp.mem_iff.mp (List.mem_of_getElem? hi)
  have fst : cs.map (·.1) = es2.map (·.1) := by
    apply List.ext_getElem?
    intro i
    rw [List.getElem?_map, List.getElem?_map]
    cases e : cs[i]? with
    | none =>
      have := List.getElem?_eq_none_iff.mp e
      rw [List.getElem?_eq_none (by omega)]
      rfl
    | some c =>
      obtain ⟨q, n, a1, a2, a3, _⟩ := c2 i c e
      rw [a1]
      simp [a3]
  have srtf : (srt leP es).map (·.1) = srt leN (es.map (·.1)) := by
    refine srt_uniq (le := fun a b => leN a b = true) leN_anti ?_ (srtN_srt _) ((sp.map _).trans (srt_perm leN _).symm)
    rw [List.pairwise_map]
    exact up.imp fun {a b} h => by unfold leN; exact decide_eq_true (by omega)
  have nds : ((srt leP es).map (·.1)).Nodup := (sp.map _).nodup_iff.mpr hv.nc
  have inpl : ∀ (i : Nat) (q : Nat × Nat), (srt leP es)[i]? = some q → (i ∈ pl ↔ q.1 ∈ es2.map (·.1)) := fun i q hq => by
    constructor
    · intro hi
      exact List.mem_map.mpr ⟨q, (pick_mem p1 q).mpr ⟨i, hi, hq⟩, rfl⟩
    · intro hi
      obtain ⟨q', a1, a2⟩ := List.mem_map.mp hi
      obtain ⟨j, b1, b2⟩ := (pick_mem p1 q').mp a1
      have e1 : ((srt leP es).map (·.1))[i]? = some q.1 := by rw [List.getElem?_map, hq]; rfl
      have e2 : ((srt leP es).map (·.1))[j]? = some q.1 := by rw [List.getElem?_map, b2]; simp [a2]
      rw [nth_uniq nds e1 e2]
      exact b1
  have lfe : leftC (srt leP es) pl = (srt leN (es.map (·.1))).filterMap fun c => if c ∈ cs.map (·.1) then none else some c := by
    unfold leftC
    rw [fst, ← srtf, List.filterMap_map]
    refine range_fm fun i q hq => ?_
    simp only [Function.comp, hq, Option.map_some]
    by_cases e : i ∈ pl
    · rw [if_pos e, if_pos ((inpl i q hq).mp e)]
    · rw [if_neg e, if_neg (fun h' => e ((inpl i q hq).mpr h'))]
  have lfm : ∀ n ∈ leftC (srt leP es) pl, n ∈ es.map (·.1) := fun n hn => by
    rw [lfe] at hn
    obtain ⟨c, a1, a2⟩ := List.mem_filterMap.mp hn
    split at a2
    · cases a2
    · cases a2
      exact (srt_perm _ _).mem_iff.mp a1
  have cup : cs.Pairwise fun c d => c.1 < d.1 := by
    have : (cs.map (·.1)).Pairwise (· < ·) := by
      rw [fst, List.pairwise_map]
      exact up2
    exact List.pairwise_map.mp this
  have at2 : ∀ (i : Nat) (c : Nat × Nat × Nat), cs[i]? = some c → ∃ n, (es2.map (rks h))[i]? = some (c.1 / h.b, c.2.1 / h.e) ∧ ns[i]? = some n ∧ (opens h shut)[n]? = some c.2.2 := fun i c e => by
    obtain ⟨q, n, a1, a2, a3, a4, a5⟩ := c2 i c e
    refine ⟨n, ?_, a2, a5⟩
    rw [List.getElem?_map, a1, a3, a4]
    rfl
  refine ⟨cs, leftC (srt leP es) pl, is, os, ?_, ?_, ⟨cup, fun c hc => ?_, fun c hc => ?_, fun c hc => ?_, ?_⟩, by omega, g5, fun n hn => ?_, g6, fun n hn => ?_, ?_, fun n hn => ?_, lfe, ?_⟩
  · unfold manyR
    rw [g1]
    simp only
    rw [p1]
    simp only
    rw [one]
  · intro pl2 is2 os2 es3 e1 e2
    rw [g1] at e1
    cases e1
    rw [p1] at e2
    cases e2
    rw [s2]
    refine ⟨room, ⟨fun q hq => hv.c q (mem2 q hq), fun q hq => hv.e q (mem2 q hq), ?_, ?_⟩, by omega⟩
    · rw [List.nodup_iff_pairwise_ne, List.pairwise_map]
      exact up2.imp fun h => by omega
    · have nde : ((srt leP es).map (·.2)).Nodup := (sp.map _).nodup_iff.mpr hv.ne
      rw [List.nodup_iff_pairwise_ne, List.pairwise_map]
      exact pick_pw (R := fun a b => a.2 ≠ b.2) (List.pairwise_map.mp nde) g2 p1
  · obtain ⟨i, hi⟩ := List.mem_iff_getElem?.mp hc
    obtain ⟨q, n, a1, a2, a3, a4, a5⟩ := c2 i c hi
    rw [a3, a4]
    exact mem2 q (List.mem_of_getElem? a1)
  · obtain ⟨i, hi⟩ := List.mem_iff_getElem?.mp hc
    obtain ⟨q, n, a1, a2, a3, a4, a5⟩ := c2 i c hi
    exact (mem_opens.mp (List.mem_of_getElem? a5)).1
  · obtain ⟨i, hi⟩ := List.mem_iff_getElem?.mp hc
    obtain ⟨q, n, a1, a2, a3, a4, a5⟩ := c2 i c hi
    exact (mem_opens.mp (List.mem_of_getElem? a5)).2
  · rw [List.nodup_iff_pairwise_ne, List.pairwise_flatMap]
    refine ⟨fun c _ => by simp [lns], List.pairwise_iff_getElem.mpr fun i j hi hj hij => ?_⟩
    obtain ⟨n, a1, a2, a3⟩ := at2 i cs[i] (List.getElem?_eq_getElem hi)
    obtain ⟨m, b1, b2, b3⟩ := at2 j cs[j] (List.getElem?_eq_getElem hj)
    have key : ∀ s, rk (cs[i].1 / h.b, cs[i].2.1 / h.e) s = rk (cs[j].1 / h.b, cs[j].2.1 / h.e) s → cs[i].2.2 ≠ cs[j].2.2 := fun s e1 e2 => by
      rw [e2] at a3
      have : n = m := nth_uniq (up_nodup (opens_up h shut)) a3 b3
      subst this
      exact n4 i j (by omega) s _ _ n a1 b1 e1 a2 b2
    intro x hx y hy e
    subst e
    unfold lns at hx hy
    simp only [List.mem_cons, List.not_mem_nil, or_false] at hx hy
    rcases hx with hx | hx <;> rcases hy with hy | hy
    · rw [hx] at hy
      simp only [List.cons.injEq, Int.natCast_inj, and_true, true_and] at hy
      exact key false (by unfold rk sd; simp [hy.1]) hy.2
    · rw [hx] at hy
      simp at hy
    · rw [hx] at hy
      simp at hy
    · rw [hx] at hy
      simp only [List.cons.injEq, Int.natCast_inj, and_true, true_and] at hy
      exact key true (by unfold rk sd; simp [hy.1]) hy.2
  · obtain ⟨p, a1, a2⟩ := dg_pos.mp (g7 n hn)
    obtain ⟨q, b1, rfl⟩ := List.mem_map.mp a1
    have := congrArg Prod.snd a2
    simp [rk, sd, rks] at this
    have c := hv.c q (sp.mem_iff.mp b1)
    have := ok.a
    have : q.1 / h.b < h.a := Nat.div_lt_of_lt_mul (by rw [Nat.mul_comm]; exact c)
    omega
  · obtain ⟨p, a1, a2⟩ := dg_pos.mp (g8 n hn)
    obtain ⟨q, b1, rfl⟩ := List.mem_map.mp a1
    have := congrArg Prod.snd a2
    simp [rk, sd, rks] at this
    have c := hv.e q (sp.mem_iff.mp b1)
    have := ok.d
    have : q.2 / h.e < h.d := Nat.div_lt_of_lt_mul (by rw [Nat.mul_comm]; exact c)
    omega
  · rw [lfe, List.pairwise_filterMap]
    refine (srtN_up hv.nc).imp fun {a b} hab x hx y hy => ?_
    split at hx <;> simp at hx
    split at hy <;> simp at hy
    omega
  · obtain ⟨q, a1, rfl⟩ := List.mem_map.mp (lfm n hn)
    exact hv.c q a1
  · rw [c1, p2, g9]
    congr 1
    unfold bes
    exact (((sp.map (rks h)).filter _).length_eq)
end XR
-- KEnd
set_option Elab.async false
set_option linter.all false
set_option maxRecDepth 100000
set_option maxHeartbeats 4000000
/-! every def keeps its promise; the end -/
namespace XR
open PySem PySem.Spec PyProof.Rows L2 XM
theorem len_P {K : PySem.W.Frag} {A : List D → Fp → (D → Nw → Prop) → Prop} {n : Nat} (h : ∀ xs L P, A xs L P → xs.length = n) : ∀ vs H Q E, SpP K A vs H Q E → vs.length = n := fun vs H Q E ⟨xs, L, P, r, _, a, _⟩ => by rw [r.len]; exact h _ _ _ a
theorem len_M {K : PySem.W.Frag} {A : List D → Addr → O → Fp → (D → O → Nw → Prop) → Prop} {n : Nat} (h : ∀ xs m o L P, A xs m o L P → xs.length = n) : ∀ vs H Q E, SpM K A vs H Q E → vs.length = n := fun vs H Q E ⟨xs, m, o, L, P, r, _, a, _⟩ => by rw [r.len]; exact h _ _ _ _ _ a
theorem len_E {K : PySem.W.Frag} {A : List D → Fp → Int → Prop} {n : Nat} (h : ∀ xs L k, A xs L k → xs.length = n) : ∀ (vs : List V) (H : Hp) (E : XK), SpE K A vs H E → vs.length = n := fun vs H E ⟨xs, L, k, r, _, a, _⟩ => by rw [r.len]; exact h _ _ _ a
theorem lA_wts : ∀ xs L P, A_wts xs L P → xs.length = 2 := by rintro _ _ _ ⟨_, _, _, rfl, _⟩; rfl
theorem lA_gw : ∀ xs L P, A_gw xs L P → xs.length = 1 := by rintro _ _ _ ⟨_, _, rfl, _⟩; rfl
theorem lA_partners : ∀ xs L P, A_partners xs L P → xs.length = 2 := by rintro _ _ _ ⟨_, _, _, _, rfl, _⟩; rfl
theorem lA_give : ∀ xs m o L P, A_give xs m o L P → xs.length = 4 := by rintro _ _ _ _ _ ⟨_, _, _, _, _, _, _, rfl, _⟩; rfl
theorem lA_halves : ∀ xs L P, A_halves xs L P → xs.length = 1 := by rintro _ _ _ ⟨_, _, _, rfl, _⟩; rfl
theorem lA_ans : ∀ xs L P, A_ans xs L P → xs.length = 4 := by rintro _ _ _ ⟨_, _, _, _, _, _, _, _, _, rfl, _⟩; rfl
theorem lA_not : ∀ xs m o L P, A_not xs m o L P → xs.length = 3 := by rintro _ _ _ _ _ ⟨_, _, _, _, rfl, _⟩; rfl
theorem lA_law : ∀ xs L P, A_law xs L P → xs.length = 1 := by rintro _ _ _ ⟨_, _, rfl, _⟩; rfl
theorem lA_links : ∀ xs L P, A_links xs L P → xs.length = 1 := by rintro _ _ _ ⟨_, _, rfl, _⟩; rfl
theorem lA_ex : ∀ xs m o L P, A_ex xs m o L P → xs.length = 5 := by rintro _ _ _ _ _ ⟨_, _, _, _, _, _, _, _, rfl, _⟩; rfl
theorem lA_touch : ∀ xs m o L P, A_touch xs m o L P → xs.length = 5 := by rintro _ _ _ _ _ ⟨_, _, _, _, _, _, _, _, _, _, rfl, _⟩; rfl
theorem lA_touching : ∀ xs L P, A_touching xs L P → xs.length = 1 := by rintro _ _ _ ⟨_, _, _, rfl, _⟩; rfl
theorem lA_num (f : Nat) : ∀ xs m o L P, A_num f xs m o L P → xs.length = 4 := by rintro _ _ _ _ _ ⟨_, _, _, _, _, _, _, rfl, _⟩; rfl
theorem lA_ask : ∀ xs L P, A_ask xs L P → xs.length = 2 := by rintro _ _ _ ⟨_, _, _, rfl, _⟩; rfl
theorem lA_parted : ∀ xs L P, A_parted xs L P → xs.length = 2 := by rintro _ _ _ ⟨_, _, _, _, rfl, _⟩; rfl
theorem lA_fp : ∀ xs L P, A_fp xs L P → xs.length = 2 := by rintro _ _ _ ⟨_, _, _, rfl, _⟩; rfl
theorem lA_wr : ∀ xs L P, A_wr xs L P → xs.length = 3 := by rintro _ _ _ ⟨_, _, _, _, _, _, _, rfl, _⟩; rfl
theorem lA_to : ∀ xs m o L P, A_to xs m o L P → xs.length = 4 := by rintro _ _ _ _ _ ⟨_, _, _, _, _, _, _, rfl, _⟩; rfl
theorem lA_lt : ∀ xs m o L P, A_lt xs m o L P → xs.length = 4 := by rintro _ _ _ _ _ ⟨_, _, _, _, _, _, _, _, _, _, rfl, _⟩; rfl
theorem lA_gr : ∀ xs L P, A_gr xs L P → xs.length = 2 := by rintro _ _ _ ⟨_, _, _, _, _, _, rfl, _⟩; rfl
theorem lA_placeIn : ∀ xs L P, A_placeIn xs L P → xs.length = 2 := by rintro _ _ _ ⟨_, _, rfl, _⟩; rfl
theorem lA_placeOut : ∀ xs L P, A_placeOut xs L P → xs.length = 2 := by rintro _ _ _ ⟨_, _, rfl, _⟩; rfl
theorem lA_place : ∀ xs L P, A_place xs L P → xs.length = 2 := by rintro _ _ _ ⟨_, _, rfl, _⟩; rfl
theorem lA_caller : ∀ xs L P, A_caller xs L P → xs.length = 2 := by rintro _ _ _ ⟨_, _, rfl, _⟩; rfl
theorem lA_ends : ∀ xs L P, A_ends xs L P → xs.length = 2 := by rintro _ _ _ ⟨_, _, _, rfl, _⟩; rfl
theorem lA_entry : ∀ xs L P, A_entry xs L P → xs.length = 2 := by rintro _ _ _ ⟨_, _, rfl, _⟩; rfl
theorem lA_opens : ∀ xs L P, A_opens xs L P → xs.length = 2 := by rintro _ _ _ ⟨_, _, rfl, _⟩; rfl
theorem lA_cell : ∀ xs L P, A_cell xs L P → xs.length = 2 := by rintro _ _ _ ⟨_, _, _, rfl, _⟩; rfl
theorem lA_mixed : ∀ xs L P, A_mixed xs L P → xs.length = 2 := by rintro _ _ _ ⟨_, _, rfl, _⟩; rfl
theorem lA_whole : ∀ xs L P, A_whole xs L P → xs.length = 1 := by rintro _ _ _ ⟨_, rfl, _⟩; rfl
theorem lA_digit : ∀ xs m o L P, A_digit xs m o L P → xs.length = 2 := by rintro _ _ _ _ _ ⟨_, _, rfl, _⟩; rfl
theorem lA_hall : ∀ xs L P, A_hall xs L P → xs.length = 1 := by rintro _ _ _ ⟨_, rfl, _⟩; rfl
theorem lA_free : ∀ xs m o L P, A_free xs m o L P → xs.length = 3 := by rintro _ _ _ _ _ ⟨_, _, _, rfl, _⟩; rfl
theorem lA_table : ∀ xs L P, A_table xs L P → xs.length = 4 := by rintro _ _ _ ⟨_, _, _, rfl, _⟩; rfl
theorem lA_rising : ∀ xs L P, A_rising xs L P → xs.length = 2 := by rintro _ _ _ ⟨_, _, _, rfl, _⟩; rfl
theorem lA_paper : ∀ xs L P, A_paper xs L P → xs.length = 1 := by rintro _ _ _ ⟨_, _, _, _, rfl, _⟩; rfl
theorem lA_beside : ∀ xs L P, A_beside xs L P → xs.length = 2 := by rintro _ _ _ ⟨_, _, _, _, _, _, rfl, _⟩; rfl
theorem lA_calls : ∀ xs L P, A_calls xs L P → xs.length = 4 := by rintro _ _ _ ⟨_, _, _, _, _, _, rfl, _⟩; rfl
theorem lA_pairs : ∀ xs L P, A_pairs xs L P → xs.length = 2 := by rintro _ _ _ ⟨_, _, _, rfl, _⟩; rfl
theorem lA_once : ∀ xs L P, A_once xs L P → xs.length = 3 := by rintro _ _ _ ⟨_, _, _, _, _, rfl, _⟩; rfl
theorem lA_bad : ∀ xs L k, A_bad xs L k → xs.length = 2 := by rintro _ _ _ ⟨_, _, _, _, _, rfl, _⟩; rfl
theorem lA_many : ∀ xs L P, A_many xs L P → xs.length = 3 := by rintro _ _ _ ⟨_, _, _, _, _, _, _, _, rfl, _⟩; rfl
theorem lA_manyBad : ∀ xs L k, A_manyBad xs L k → xs.length = 3 := by rintro _ _ _ ⟨_, _, _, _, _, _, rfl, _⟩; rfl
theorem spl_len {K : PySem.W.Frag} : ∀ vs H Q E, spPairs K vs H Q E → vs.length = 2 := fun vs H Q E h => h.elim (len_P lA_pairs vs H Q E) (len_E lA_bad vs H E)
theorem spm_len {K : PySem.W.Frag} : ∀ vs H Q E, spMany K vs H Q E → vs.length = 3 := fun vs H Q E h => h.elim (len_P lA_many vs H Q E) (len_E lA_manyBad vs H E)
section
variable {P : Program} {w : World} {K : PySem.W.Frag} {mg : Str → Option Value} {base : Heap}
theorem cal_num0 {lv : Nat} (T : Tp K mg) : Cal P w K mg base CX0 (lv + 1) "number_off" ["pairs", "places", "start", "found"] [] (SpM K (A_num 0)) := by
  have no : ∀ vs H Q E, ¬ SpM K (A_num 0) vs H Q E := by
    rintro vs H Q E ⟨xs, m, o, L, P, _, _, a, _⟩
    obtain ⟨_, _, ps, places, found, r, start, _, _, _, _, hr, _⟩ := a
    cases (show (none : Option (List Nat)) = some r from hr)
  obtain ⟨fd, F⟩ := T.def_ 14 (d := d_number_off) rfl
  exact ⟨_, fd, [], T.glo 14 rfl, F.kp, FunD.ok (k := lv) F sc_number_off (fun vs H Q E h => (no vs H Q E h).elim) fun cdv A outer s H vs Q E hr h => (no vs H Q E h).elim, F.bindsN (fun _ _ _ _ _ _ us hl => match us, hl with | [_, _, _, _], _ => rfl), .nil⟩

theorem cal_law {fd : FuncData} (F : FunD K d_law.name d_law.qual d_law.params d_law.body d_law.scope (d_law.dvs K) (d_law.kws K) (He.fAd K d_law.at_) fd) (T : Tp K mg) : FnOk P w K mg base CX0 73 (He.fAd K d_law.at_) fd ["_law_script"] (SpP K A_law) := by
  have c_weights_of : Cal P w K mg base CX0 1 "weights_of" ["pairs", "side"] [] (SpP K A_wts) := (ok_weights_of (lv := 0) T  (len_P lA_wts) rd_weights_of)
  have c_partners : Cal P w K mg base CX0 1 "partners" ["pairs", "side"] [] (SpP K A_partners) := (ok_partners (lv := 0) T  (len_P lA_partners) rd_partners)
  have c_give_signs : Cal P w K mg base CX0 1 "give_signs" ["signs", "first", "near", "far"] [] (SpM K A_give) := (ok_give_signs (lv := 0) T  (len_M lA_give) rd_give_signs)
  have c_links_of : Cal P w K mg base CX0 1 "links_of" ["pairs"] [] (SpP K A_links) := (ok_links_of (lv := 0) T  (len_P lA_links) rd_links_of)
  have c_exchange : Cal P w K mg base CX0 1 "exchange" ["pairs", "held", "came", "last", "start"] [] (SpM K A_ex) := (ok_exchange (lv := 0) T  (len_M lA_ex) rd_exchange)
  have c_greatest_weight : Cal P w K mg base CX0 2 "greatest_weight" ["pairs"] [] (SpP K A_gw) := (ok_greatest_weight (lv := 1) T (c_weights_of.mono (by omega)) (len_P lA_gw) rd_greatest_weight)
  have c_halves : Cal P w K mg base CX0 2 "halves" ["pairs"] [] (SpP K A_halves) := (ok_halves (lv := 1) T (c_partners.mono (by omega)) (c_give_signs.mono (by omega)) (len_P lA_halves) rd_halves)
  have c_touch : Cal P w K mg base CX0 2 "touch" ["pairs", "links", "held", "heavy", "start"] [] (SpM K A_touch) := (ok_touch (lv := 1) T (c_exchange.mono (by omega)) (len_M lA_touch) rd_touch)
  have c_touching : Cal P w K mg base CX0 3 "touching" ["pairs"] [] (SpP K A_touching) := (ok_touching (lv := 2) T (c_links_of.mono (by omega)) (c_greatest_weight.mono (by omega)) (c_touch.mono (by omega)) (len_P lA_touching) rd_touching)
  have c_num : ∀ f : Nat, Cal P w K mg base CX0 (4 + f) "number_off" ["pairs", "places", "start", "found"] [] (SpM K (A_num f)) := by
    intro f
    induction f with
    | zero => exact cal_num0 (lv := 3) T
    | succ f ih => exact ok_number_off (lv := 4 + f) T (c_greatest_weight.mono (by omega)) (c_halves.mono (by omega)) ih (c_touching.mono (by omega)) (len_M (lA_num (f + 1))) (rd_number_off f)
  have c_number_off : Cal P w K mg base CX0 68 "number_off" ["pairs", "places", "start", "found"] [] (SpM K (A_num 64)) := c_num 64
  have c_ask_room : Cal P w K mg base CX0 2 "ask_room" ["pairs", "ways"] [] (SpP K A_ask) := (ok_ask_room (lv := 1) T (c_weights_of.mono (by omega)) (len_P lA_ask) rd_ask_room)
  have c_parted : Cal P w K mg base CX0 69 "parted" ["pairs", "ways"] [] (SpP K A_parted) := (ok_parted (lv := 68) T (c_ask_room.mono (by omega)) (c_number_off.mono (by omega)) (len_P lA_parted) rd_parted)
  have c_places_of : Cal P w K mg base CX0 1 "places_of" ["pairs"] [] (SpP K A_links) := (ok_places_of (lv := 0) T  (len_P lA_links) rd_places_of)
  have c_first_part : Cal P w K mg base CX0 1 "first_part" ["pairs", "ways"] [] (SpP K A_fp) := (ok_first_part (lv := 0) T  (len_P lA_fp) rd_first_part)
  have c_with_room : Cal P w K mg base CX0 1 "with_room" ["links", "taken", "ways"] [] (SpP K A_wr) := (ok_with_room (lv := 0) T  (len_P lA_wr) rd_with_room)
  have c_looked_through : Cal P w K mg base CX0 1 "looked_through" ["pairs", "links", "taken", "ready"] [] (SpM K A_lt) := (ok_looked_through (lv := 0) T  (len_M lA_lt) rd_looked_through)
  have c_turn_over : Cal P w K mg base CX0 1 "turn_over" ["pairs", "taken", "came", "last"] [] (SpM K A_to) := (ok_turn_over (lv := 0) T  (len_M lA_to) rd_turn_over)
  have c_greatest : Cal P w K mg base CX0 2 "greatest" ["pairs", "ways"] [] (SpP K A_gr) := (ok_greatest (lv := 1) T (c_places_of.mono (by omega)) (c_first_part.mono (by omega)) (c_with_room.mono (by omega)) (c_looked_through.mono (by omega)) (c_turn_over.mono (by omega)) (len_P lA_gr) rd_greatest)
  have c_place_in : Cal P w K mg base CX0 1 "place_in" ["hall", "caller"] [] (SpP K A_placeIn) := (ok_place_in (lv := 0) T  (len_P lA_placeIn) rd_place_in)
  have c_place_out : Cal P w K mg base CX0 1 "place_out" ["hall", "end"] [] (SpP K A_placeOut) := (ok_place_out (lv := 0) T  (len_P lA_placeOut) rd_place_out)
  have c_is_place : Cal P w K mg base CX0 1 "is_place" ["thing", "many"] [] (SpP K A_place) := (ok_is_place (lv := 0) T  (len_P lA_place) rd_is_place)
  have c_is_caller : Cal P w K mg base CX0 2 "is_caller" ["hall", "thing"] [] (SpP K A_caller) := (ok_is_caller (lv := 1) T (c_is_place.mono (by omega)) (len_P lA_caller) rd_is_caller)
  have c_is_ends : Cal P w K mg base CX0 2 "is_ends" ["hall", "thing"] [] (SpP K A_ends) := (ok_is_ends (lv := 1) T (c_is_place.mono (by omega)) (len_P lA_ends) rd_is_ends)
  have c_is_entry : Cal P w K mg base CX0 3 "is_entry" ["hall", "thing"] [] (SpP K A_entry) := (ok_is_entry (lv := 2) T (c_is_caller.mono (by omega)) (c_is_ends.mono (by omega)) (len_P lA_entry) rd_is_entry)
  have c_pairs_of : Cal P w K mg base (L2.CX P w) 4 "pairs_of" ["hall", "table"] [] (spPairs K) := ok_pairs_of (lv := 1) T (c_is_entry.mono (by omega)) (c_place_in.mono (by omega)) (c_place_out.mono (by omega)) spl_len rd_pairs_of
  have c_open_racks : Cal P w K mg base CX0 1 "open_racks" ["hall", "shut"] [] (SpP K A_opens) := (ok_open_racks (lv := 0) T  (len_P lA_opens) rd_open_racks).1
  have c_at_once : Cal P w K mg base CX0 70 "at_once" ["hall", "table", "shut"] [] (SpP K A_once) := (ok_at_once (lv := 69) T (c_open_racks.mono (by omega)) (c_pairs_of.mono (by omega)) (c_parted.mono (by omega)) (len_P lA_once) (rd_at_once fun vs H Q E h => Or.inl h)).1
  have c_as_many : Cal P w K mg base (L2.CX P w) 71 "as_many" ["hall", "table", "shut"] [] (spMany K) := (ok_as_many (lv := 70) T (c_pairs_of.mono (by omega)) (c_open_racks.mono (by omega)) (c_greatest.mono (by omega)) (c_at_once.mono (by omega)) spm_len rd_as_many).1
  have c_as_many0 : Cal P w K mg base (L2.CX P w) 71 "as_many" ["hall", "table", "shut"] [.int 0] (spMany K) := (ok_as_many (lv := 70) T (c_pairs_of.mono (by omega)) (c_open_racks.mono (by omega)) (c_greatest.mono (by omega)) (c_at_once.mono (by omega)) spm_len rd_as_many).2
  have c_cell : Cal P w K mg base CX0 1 "_law_cell_at" ["_law_script", "_law_k"] [] (SpP K A_cell) := (ok_law_cell_at (lv := 0) T  (len_P lA_cell) rd_cell_at)
  have c_mixed : Cal P w K mg base CX0 1 "_law_mixed" ["_law_cell", "_law_k"] [] (SpP K A_mixed) := (ok_law_mixed (lv := 0) T  (len_P lA_mixed) rd_mixed)
  have c_whole : Cal P w K mg base CX0 1 "_law_whole" ["_law_found"] [] (SpP K A_whole) := (ok_law_whole (lv := 0) T  (len_P lA_whole) rd_whole)
  have c_digit : Cal P w K mg base CX0 1 "_law_digit" ["_law_left", "_law_many"] [] (SpM K A_digit) := (ok_law_digit (lv := 0) T  (len_M lA_digit) rd_digit)
  have c_hall : Cal P w K mg base CX0 2 "_law_hall" ["_law_cell"] [] (SpP K A_hall) := (ok_law_hall (lv := 1) T (c_digit.mono (by omega)) (c_mixed.mono (by omega)) (len_P lA_hall) rd_hall)
  have c_free : Cal P w K mg base CX0 2 "_law_free_table" ["_law_hall_here", "_law_left", "_law_most"] [] (SpM K A_free) := (ok_law_free_table (lv := 1) T (c_digit.mono (by omega)) (len_M lA_free) rd_free_table)
  have c_table : Cal P w K mg base CX0 3 "_law_table" ["_law_script", "_law_hall_here", "_law_start", "_law_last"] [] (SpP K A_table) := (ok_law_table (lv := 2) T (c_cell.mono (by omega)) (c_free.mono (by omega)) (c_mixed.mono (by omega)) (len_P lA_table) rd_table)
  have c_rising : Cal P w K mg base CX0 2 "_law_rising" ["_law_some", "_law_most"] [] (SpP K A_rising) := (ok_law_rising (lv := 1) T (c_whole.mono (by omega)) (len_P lA_rising) rd_rising)
  have c_paper : Cal P w K mg base CX0 3 "_law_paper" ["_law_paper_here"] [] (SpP K A_paper) := (ok_law_paper (lv := 2) T (c_rising.mono (by omega)) (len_P lA_paper) rd_paper)
  have c_beside : Cal P w K mg base CX0 1 "_law_beside" ["_law_pairs", "_law_paper_here"] [] (SpP K A_beside) := (ok_law_beside (lv := 0) T  (len_P lA_beside) rd_beside)
  have c_answer : Cal P w K mg base CX0 72 "_law_answer" ["_law_hall_here", "_law_table_here", "_law_shut", "_law_told"] [] (SpP K A_ans) := (ok_law_answer (lv := 71) T (c_as_many.mono (by omega)) (c_as_many0.mono (by omega)) (len_P lA_ans) (rd_answer fun vs H Q h => Or.inl h))
  have c_calls : Cal P w K mg base CX0 2 "_law_calls_right" ["_law_hall_here", "_law_calls", "_law_table_here", "_law_shut"] [] (SpP K A_calls) := (ok_law_calls_right (lv := 1) T (c_whole.mono (by omega)) (len_P lA_calls) rd_calls_right)
  have c_not : Cal P w K mg base CX0 72 "_law_no_table" ["_law_hall_here", "_law_table_here", "_law_left"] [] (SpM K A_not) := (ok_law_no_table (lv := 71) T (c_digit.mono (by omega)) (c_as_many0.mono (by omega)) (c_whole.mono (by omega)) (len_M lA_not) (rd_no_table T.c.ntc))
  exact fn_law (lv := 72) F T (c_cell.mono (by omega)) (c_hall.mono (by omega)) (c_table.mono (by omega)) (c_mixed.mono (by omega)) (c_not.mono (by omega)) (c_answer.mono (by omega)) (c_calls.mono (by omega)) (c_paper.mono (by omega)) (c_rising.mono (by omega)) (c_beside.mono (by omega)) (len_P lA_law) (rd_law math_law)
theorem facts {h : Heap} {f : Addr} (X : K.In h) (G : h.Ns mainGlobals mg) (hfa : mg ("law" : Str) = some (.ref f)) (c : Told K) :
    ∃ fd : FuncData, (∀ (s : Shared) (v : Value), BindsTo s fd ⟨[v], []⟩ [("_law_script", v)]) ∧ ∀ base : Heap, K.In base → base.Ns mainGlobals mg → FnOk P w K mg base CX0 73 f fd ["_law_script"] (SpP K A_law) := by
  have T : Tp K mg := ⟨c, h, X, G⟩
  obtain ⟨fd, F⟩ := T.def_ 41 (d := d_law) rfl
  have e := hfa.symm.trans (T.glo 41 rfl)
  cases e
  have b := FunD.bindsA (ps := ["_law_script"]) F fun _ _ _ _ _ _ us hl => match us, hl with | [_], _ => rfl
  exact ⟨fd, fun s v => b s [v] rfl, fun base _ _ => cal_law F T⟩
theorem law_sp {n : Nat} (hn : n ≤ 1000) (H : Hp) (a : Addr) (ns : List Int) (hl : ns.length ≤ n) (hS : SqL K H a (ns.map V.int)) : SpP K A_law [.ref a] H (fun v _ => v = .bl true) fun _ _ _ => False := by
  have ho : Ho K H a (.sc (ns.map D.int)) := ⟨_, hS, Rps.ofInts ns⟩
  refine ⟨[.ref a], [(a, false, .sc (ns.map D.int))], fun d N => d = .bl true ∧ N = [], Rps.cons rfl Rps.nil, ⟨List.nodup_nil, fun q hq => ?_, fun q hq z => ?_, fun q hq z => ?_, fun a o e _ => e, fun a e => e⟩, ⟨a, ns, rfl, rfl, by omega, rfl, rfl⟩, ?_⟩
  · rw [List.mem_singleton.mp hq]
    exact ho
  · rw [List.mem_singleton.mp hq] at z
    cases z
  · rw [List.mem_singleton.mp hq]
    exact ⟨rfl, ho⟩
  · rintro d N v H' ⟨rfl, rfl⟩ rv _ _
    exact rv
end
end XR
open PySem PySem.W PySem.Calls PyProof.Rows
theorem PySem.Challenge.cw_crossracks_k85_whole_as_many_holds : PySem.Challenge.rw_crossracks_k85_whole_as_many.Holds := by
  w_on; o_law
  refine HandSHeadRun.head_any (r := OpenLaw.row PySem.Challenge.rw_crossracks_k85_whole_as_many) (q := view (OpenLaw.row PySem.Challenge.rw_crossracks_k85_whole_as_many).prog [55]) (H := XR.hk) (ob := XR.ob) (M := 3000) (loose := XR.loose) (d := HandSHeadRun.topDef (OpenLaw.row PySem.Challenge.rw_crossracks_k85_whole_as_many).prog 55) (kwd := []) XR.ob_eq
    (by kernel_rfl) (fun s => by kernel_rfl) XR.run (by kernel_rfl) (by kernel_rfl) (by kernel_rfl) (by rfl) (by first | assumption | decide +kernel) (by decide +kernel) ⟨rfl, rfl, rfl, rfl, rfl, by decide +kernel⟩ ?hw ?hc
  case hw => w_witness2
  case hc =>
    refine L2.walk_ofE (l := PySem.Challenge.rw_crossracks_k85_whole_as_many) (n := 63) (k := 73) (x := "_law_script") (CX := L2.CX0) rfl (by decide) (by kernel_rfl) ⟨rfl, by decide, by decide⟩ ?F (fun _ _ _ _ z => z)
    intro w mg fa h Y G hmg0
    obtain ⟨K, KX, c⟩ := Y
    have hmg : mg ("law" : PySem.Str) = some (.ref fa) := by
      have e : (HandSHeadRun.topDef (OpenLaw.row PySem.Challenge.rw_crossracks_k85_whole_as_many).prog 55).name = ("law" : PySem.Str) := by kernel_rfl
      rw [← e]
      exact hmg0
    obtain ⟨fd, hb, hF⟩ := XR.facts (P := (PySem.Challenge.rw_crossracks_k85_whole_as_many).prog) (w := w) KX G hmg c
    exact ⟨K, fd, XR.SpP K XR.A_law, KX, hb, fun H a ns hl _ hS => XR.law_sp (by decide) H a ns hl hS, hF⟩
