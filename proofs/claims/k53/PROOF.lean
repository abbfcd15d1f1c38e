import PyProof.Rows.All
import Wide.All
import OpenK.AllK
import Wide.FinOn
import HandS.ForMost
import HandS.ForExc
import HandS.ExcInit
import HandS.IsInst
import HandS.SortInts
import HandS.TupAny
import HandS.WordsExc
import KE.GoesNew
import HandS.More
import KE.SortData
import HandS.RevRange
import HandS.Style
import HandS.SortKw
import KE.KDictCopyH
import KE.KDictOf
import PyProof.SliceList
import KE.DataMinMax
import HandS.ExcIs
import HandS.ExcField
import KE.KExcIs
import HandS.TryOnly
import HandS.Text
import HandS.RaiseMore
import HandS.FStr
import KE.KStateDown
import HandS.Head0
import HandS.Head1
import HandS.Head2
import HandS.HeadEnd
import HandS.HeadHook1
import HandS.HeadHook2
import PySem.Challenge.RW_doomroll_k53_refusals_made
set_option Elab.async false
set_option linter.all false
set_option maxRecDepth 100000
set_option maxHeartbeats 4000000
section
/-! DR0: data, what represents them on the abstract heap, runs.
PyData: a frozen value. MD: a value some parts of which may still change (they are owned by whoever holds it).
S: the frozen part of the heap (ghost); A: the owned addresses. -/
namespace DR
open PySem L2

inductive MD where
  | fz (d : PyData)
  | ml (ms : List MD)
  | mt (ms : List MD)
  | md (kvs : List (Key × PyData))
  | mk (kvs : List (List Key × PyData))
  | mo (c : Str) (fs : List (Str × MD))
  /-- the script -/
  | sc (ns : List Int)
  /-- a dict that nobody writes to any more -/
  | fd (kvs : List (Key × PyData))
  /-- an object that nobody writes to any more -/
  | fo (c : Str) (fs : List (Str × PyData))
  /-- an exception that nobody writes to any more -/
  | fx (c : Str) (fs : List (Str × PyData))
  /-- nothing is known -/
  | gone

abbrev Sl := List (Option MD)

structure Exn where
  cls : Str
  fs : List (Str × PyData)

inductive R (α : Type) where
  | ok (a : α) (ρ : Sl)
  | exc (x : Exn) (ρ : Sl)
  | bad

def R.bind {α β : Type} (r : R α) (g : α → Sl → R β) : R β := match r with
  | .ok a ρ => g a ρ
  | .exc x ρ => .exc x ρ
  | .bad => .bad
theorem R.bind_ok {α β : Type} (a : α) (ρ : Sl) (g : α → Sl → R β) : (R.ok a ρ).bind g = g a ρ := rfl
theorem R.bind_exc {α β : Type} (x : Exn) (ρ : Sl) (g : α → Sl → R β) : (R.exc x ρ).bind g = .exc x ρ := rfl
theorem R.bind_bad {α β : Type} (g : α → Sl → R β) : (R.bad).bind g = .bad := rfl

/-! ### data on the frozen heap -/
abbrev Sub (S H : Hp) : Prop := ∀ a o, S a = some o → H a = some o
theorem Sub.refl (S : Hp) : Sub S S := fun _ _ h => h
theorem Sub.trans {S S' S'' : Hp} (a : Sub S S') (b : Sub S' S'') : Sub S S'' := fun x o h => b x o (a x o h)
theorem sub_upd {S H : Hp} {p : Addr} {o : HO} (h : Sub S H) (n : S p = none) : Sub S (upd H p o) := fun b u e => by
  rw [upd_ne (ne_of_none e n)]
  exact h b u e
theorem sub_upd2 {S H : Hp} {p : Addr} {o : HO} (h : Sub S H) : Sub (upd S p o) (upd H p o) := fun b u e => by
  unfold upd at e ⊢
  split
  · rename_i q
    rw [if_pos q] at e
    exact e
  · rename_i q
    rw [if_neg q] at e
    exact h b u e
theorem sub_new {H : Hp} {p : Addr} {o : HO} (n : H p = none) : Sub H (upd H p o) := sub_upd (Sub.refl H) n

variable {K : PySem.W.Frag} {G : Str → Option Value} {S S' S1 H H' H1 : Hp}
theorem Sub.rd {a : Addr} {u : HO} (e : Sub S S') (h : Rd S a u) : Rd S' a u := by
  rcases h with h | ⟨o, h⟩
  · exact .inl (e a _ h)
  · exact .inr ⟨o, e a _ h⟩
theorem Sub.l {a : Addr} {xs : List V} (e : Sub S S') (h : SqL K S a xs) : SqL K S' a xs := h.elim (fun h => .inl (e.rd h)) .inr
theorem Sub.t {a : Addr} {xs : List V} (e : Sub S S') (h : SqT K S a xs) : SqT K S' a xs := h.elim (fun h => .inl (e.rd h)) .inr
mutual
/-- a frozen value -/
inductive Fz (K : PySem.W.Frag) (S : Hp) : V → PyData → Prop
  | non : Fz K S .non .none
  | bl (b : Bool) : Fz K S (.bl b) (.bool b)
  | int (i : Int) : Fz K S (.int i) (.int i)
  | str (x : Str) : Fz K S (.str x) (.str x)
  | lst {a : Addr} {xs : List V} {ds : List PyData} : S a = some (.lst xs) → FzA K S xs ds → Fz K S (.ref a) (.list ds)
  | tup {a : Addr} {xs : List V} {ds : List PyData} : SqT K S a xs → FzA K S xs ds → Fz K S (.ref a) (.tuple ds)
inductive FzA (K : PySem.W.Frag) (S : Hp) : List V → List PyData → Prop
  | nil : FzA K S [] []
  | cons {v : V} {vs : List V} {d : PyData} {ds : List PyData} : Fz K S v d → FzA K S vs ds → FzA K S (v :: vs) (d :: ds)
end
mutual
theorem dp_mono (e : Sub S S') : ∀ {v : V} {d : PyData}, Fz K S v d → Fz K S' v d
  | _, _, .non => .non
  | _, _, .bl b => .bl b
  | _, _, .int i => .int i
  | _, _, .str x => .str x
  | _, _, .lst h hs => .lst (e _ _ h) (dpA_mono e hs)
  | _, _, .tup h hs => .tup (e.t h) (dpA_mono e hs)
theorem dpA_mono (e : Sub S S') : ∀ {vs : List V} {ds : List PyData}, FzA K S vs ds → FzA K S' vs ds
  | _, _, .nil => .nil
  | _, _, .cons h hs => .cons (dp_mono e h) (dpA_mono e hs)
end
mutual
theorem Fz.dp : ∀ {v : V} {d : PyData}, Fz K S v d → Dp K S v d
  | _, _, .non => .non
  | _, _, .bl b => .bl b
  | _, _, .int i => .int i
  | _, _, .str x => .str x
  | _, _, .lst h hs => .lst (.inl (.inl h)) (FzA.dp hs)
  | _, _, .tup h hs => .tup h (FzA.dp hs)
theorem FzA.dp : ∀ {vs : List V} {ds : List PyData}, FzA K S vs ds → DpAll K S vs ds
  | _, _, .nil => .nil
  | _, _, .cons h hs => .cons (Fz.dp h) (FzA.dp hs)
end
theorem dpA_len : ∀ {vs : List V} {ds : List PyData}, FzA K S vs ds → vs.length = ds.length
  | _, _, .nil => rfl
  | _, _, .cons _ t => congrArg (· + 1) (dpA_len t)
theorem dpA_get : ∀ {vs : List V} {ds : List PyData} {i : Nat} {d : PyData}, FzA K S vs ds → ds[i]? = some d → ∃ v, vs[i]? = some v ∧ Fz K S v d
  | _, _, _, _, .nil, h => by simp at h
  | _, _, 0, d, .cons h _, e => by
    simp at e
    subst e
    exact ⟨_, rfl, h⟩
  | _, _, i + 1, d, .cons _ t, e => by
    obtain ⟨v, h1, h2⟩ := dpA_get (i := i) (d := d) t (by simpa using e)
    exact ⟨v, by simpa using h1, h2⟩
theorem dpA_get' : ∀ {vs : List V} {ds : List PyData} {i : Nat} {v : V}, FzA K S vs ds → vs[i]? = some v → ∃ d, ds[i]? = some d ∧ Fz K S v d
  | _, _, _, _, .nil, h => by simp at h
  | _, _, 0, d, .cons h _, e => by
    simp at e
    subst e
    exact ⟨_, rfl, h⟩
  | _, _, i + 1, d, .cons _ t, e => by
    obtain ⟨v, h1, h2⟩ := dpA_get' (i := i) (v := d) t (by simpa using e)
    exact ⟨v, by simpa using h1, h2⟩
theorem dpA_app : ∀ {vs ws : List V} {ds es : List PyData}, FzA K S vs ds → FzA K S ws es → FzA K S (vs ++ ws) (ds ++ es)
  | _, _, _, _, .nil, h => h
  | _, _, _, _, .cons h t, g => .cons h (dpA_app t g)
theorem dpA_take : ∀ {vs : List V} {ds : List PyData} (n : Nat), FzA K S vs ds → FzA K S (vs.take n) (ds.take n)
  | _, _, 0, _ => .nil
  | _, _, _ + 1, .nil => .nil
  | _, _, n + 1, .cons h t => .cons h (dpA_take n t)
theorem dpA_drop : ∀ {vs : List V} {ds : List PyData} (n : Nat), FzA K S vs ds → FzA K S (vs.drop n) (ds.drop n)
  | _, _, 0, h => h
  | _, _, _ + 1, .nil => .nil
  | _, _, n + 1, .cons _ t => dpA_drop n t
theorem dpA_rev : ∀ {vs : List V} {ds : List PyData}, FzA K S vs ds → FzA K S vs.reverse ds.reverse
  | _, _, .nil => .nil
  | _, _, .cons h t => by
    rw [List.reverse_cons, List.reverse_cons]
    exact dpA_app (dpA_rev t) (.cons h .nil)
theorem dpA_ints {ns : List Int} : FzA K S (ns.map V.int) (ns.map PyData.int) := by
  induction ns with
  | nil => exact .nil
  | cons n r ih => exact .cons (.int n) ih

/-! ### what may change -/
def KD (K : PySem.W.Frag) (S : Hp) {κ : Type} (p : κ × V) (q : κ × PyData) : Prop := p.1 = q.1 ∧ Fz K S p.2 q.2
mutual
inductive RepM (K : PySem.W.Frag) (G : Str → Option Value) (S H : Hp) : V → MD → List Addr → Prop
  | fz {v : V} {d : PyData} : Fz K S v d → RepM K G S H v (.fz d) []
  | ml {a : Addr} {xs : List V} {ms : List MD} {A : List Addr} : H a = some (.lst xs) → RepMs K G S H xs ms A → RepM K G S H (.ref a) (.ml ms) (a :: A)
  | mt {a : Addr} {xs : List V} {ms : List MD} {A : List Addr} : H a = some (.tup xs) → RepMs K G S H xs ms A → RepM K G S H (.ref a) (.mt ms) (a :: A)
  | md {a : Addr} {kvs : List (Key × V)} {ds : List (Key × PyData)} : H a = some (.dK kvs) → Paired (KD K S) kvs ds → RepM K G S H (.ref a) (.md ds) [a]
  | mk {a : Addr} {kvs : List (List Key × V)} {ds : List (List Key × PyData)} : H a = some (.dT kvs) → Paired (KD K S) kvs ds → RepM K G S H (.ref a) (.mk ds) [a]
  | mo {a C dx : Addr} {fs : List (Str × V)} {c : Str} {ms : List (Str × MD)} {A : List Addr} : H a = some (.ins C dx fs) → G c = some (.ref C) → fs.map (·.1) = ms.map (·.1) → ((∀ f ∈ fs.map (·.1), PySem.W.findIn K (.ref C) f = some none) ∧ (fs.map (·.1)).Nodup) →
      RepMs K G S H (fs.map (·.2)) (ms.map (·.2)) A → RepM K G S H (.ref a) (.mo c ms) (a :: A)
  | sc {a : Addr} {ns : List Int} : SqL K S a (ns.map V.int) → RepM K G S H (.ref a) (.sc ns) []
  | fd {a : Addr} {kvs : List (Key × V)} {ds : List (Key × PyData)} : Rd S a (.dK kvs) → Paired (KD K S) kvs ds → RepM K G S H (.ref a) (.fd ds) []
  | fo {a C dx : Addr} {fs : List (Str × V)} {c : Str} {ds : List (Str × PyData)} : S a = some (.ins C dx fs) → G c = some (.ref C) → fs.map (·.1) = ds.map (·.1) → ((∀ f ∈ fs.map (·.1), PySem.W.findIn K (.ref C) f = some none) ∧ (fs.map (·.1)).Nodup) →
      FzA K S (fs.map (·.2)) (ds.map (·.2)) → RepM K G S H (.ref a) (.fo c ds) []
  | fx {a C dx : Addr} {fs : List (Str × V)} {c : Str} {ds : List (Str × PyData)} : S a = some (exo a C (some dx)) → S dx = some (exd dx fs) → G c = some (.ref C) → fs.map (·.1) = ds.map (·.1) → FzA K S (fs.map (·.2)) (ds.map (·.2)) → RepM K G S H (.ref a) (.fx c ds) []
  | gone {v : V} : RepM K G S H v .gone []
inductive RepMs (K : PySem.W.Frag) (G : Str → Option Value) (S H : Hp) : List V → List MD → List Addr → Prop
  | nil : RepMs K G S H [] [] []
  | cons {v : V} {vs : List V} {m : MD} {ms : List MD} {A B : List Addr} : RepM K G S H v m A → RepMs K G S H vs ms B → RepMs K G S H (v :: vs) (m :: ms) (A ++ B)
end
theorem kd_mono (e : Sub S S') {κ : Type} : ∀ {kvs : List (κ × V)} {ds : List (κ × PyData)}, Paired (KD K S) kvs ds → Paired (KD K S') kvs ds
  | _, _, .nil => .nil
  | _, _, .cons h t => .cons ⟨h.1, dp_mono e h.2⟩ (kd_mono e t)
mutual
theorem RepM.mono (e : Sub S S') : ∀ {v : V} {m : MD} {A : List Addr}, RepM K G S H v m A → (∀ a ∈ A, ∀ o, H a = some o → H' a = some o) → RepM K G S' H' v m A
  | _, _, _, .fz h, _ => .fz (dp_mono e h)
  | _, _, _, .ml h hs, k => .ml (k _ (List.mem_cons_self ..) _ h) (RepMs.mono e hs fun a ha => k a (List.mem_cons_of_mem _ ha))
  | _, _, _, .mt h hs, k => .mt (k _ (List.mem_cons_self ..) _ h) (RepMs.mono e hs fun a ha => k a (List.mem_cons_of_mem _ ha))
  | _, _, _, .md h hs, k => .md (k _ (List.mem_cons_self ..) _ h) (kd_mono e hs)
  | _, _, _, .mk h hs, k => .mk (k _ (List.mem_cons_self ..) _ h) (kd_mono e hs)
  | _, _, _, .fo h g n w hs, _ => .fo (e _ _ h) g n w (dpA_mono e hs)
  | _, _, _, .fx h1 h2 g n hs, _ => .fx (e _ _ h1) (e _ _ h2) g n (dpA_mono e hs)
  | _, _, _, .mo h g n w hs, k => .mo (k _ (List.mem_cons_self ..) _ h) g n w (RepMs.mono e hs fun a ha => k a (List.mem_cons_of_mem _ ha))
  | _, _, _, .sc h, _ => .sc (e.l h)
  | _, _, _, .fd h hs, _ => .fd (e.rd h) (kd_mono e hs)
  | _, _, _, .gone, _ => .gone
theorem RepMs.mono (e : Sub S S') : ∀ {vs : List V} {ms : List MD} {A : List Addr}, RepMs K G S H vs ms A → (∀ a ∈ A, ∀ o, H a = some o → H' a = some o) → RepMs K G S' H' vs ms A
  | _, _, _, .nil, _ => .nil
  | _, _, _, .cons h hs, k => .cons (RepM.mono e h fun a ha => k a (List.mem_append_left _ ha)) (RepMs.mono e hs fun a ha => k a (List.mem_append_right _ ha))
end
mutual
theorem RepM.trk : ∀ {v : V} {m : MD} {A : List Addr}, RepM K G S H v m A → ∀ a ∈ A, H a ≠ none
  | _, _, _, .fz _, a, h => by cases h
  | _, _, _, .sc _, a, h => by cases h
  | _, _, _, .fd _ _, a, h => by cases h
  | _, _, _, .fo _ _ _ _ _, a, h => by cases h
  | _, _, _, .fx _ _ _ _ _, a, h => by cases h
  | _, _, _, .gone, a, h => by cases h
  | _, _, _, .ml h hs, a, q => by
    rcases List.mem_cons.mp q with rfl | q
    · rw [h]; intro z; cases z
    · exact RepMs.trk hs a q
  | _, _, _, .mt h hs, a, q => by
    rcases List.mem_cons.mp q with rfl | q
    · rw [h]; intro z; cases z
    · exact RepMs.trk hs a q
  | _, _, _, .md h hs, a, q => by
    rcases List.mem_cons.mp q with rfl | q
    · rw [h]; intro z; cases z
    · cases q
  | _, _, _, .mk h hs, a, q => by
    rcases List.mem_cons.mp q with rfl | q
    · rw [h]; intro z; cases z
    · cases q
  | _, _, _, .mo h g n w hs, a, q => by
    rcases List.mem_cons.mp q with rfl | q
    · rw [h]; intro z; cases z
    · exact RepMs.trk hs a q
theorem RepMs.trk : ∀ {vs : List V} {ms : List MD} {A : List Addr}, RepMs K G S H vs ms A → ∀ a ∈ A, H a ≠ none
  | _, _, _, .nil, a, h => by cases h
  | _, _, _, .cons h hs, a, q => by
    rcases List.mem_append.mp q with q | q
    · exact RepM.trk h a q
    · exact RepMs.trk hs a q
end

/-- the slots -/
inductive RepO (K : PySem.W.Frag) (G : Str → Option Value) (S H : Hp) : St → Sl → List Addr → Prop
  | nil : RepO K G S H [] [] []
  | skip {x : Option V} {σ : St} {ρ : Sl} {A : List Addr} : RepO K G S H σ ρ A → RepO K G S H (x :: σ) (none :: ρ) A
  | keep {v : V} {m : MD} {σ : St} {ρ : Sl} {A B : List Addr} : RepM K G S H v m A → RepO K G S H σ ρ B → RepO K G S H (some v :: σ) (some m :: ρ) (A ++ B)
theorem RepO.mono (e : Sub S S') : ∀ {σ : St} {ρ : Sl} {A : List Addr}, RepO K G S H σ ρ A → (∀ a ∈ A, ∀ o, H a = some o → H' a = some o) → RepO K G S' H' σ ρ A
  | _, _, _, .nil, _ => .nil
  | _, _, _, .skip h, k => .skip (h.mono e k)
  | _, _, _, .keep h hs, k => .keep (h.mono e fun a ha => k a (List.mem_append_left _ ha)) (hs.mono e fun a ha => k a (List.mem_append_right _ ha))
theorem RepO.trk : ∀ {σ : St} {ρ : Sl} {A : List Addr}, RepO K G S H σ ρ A → ∀ a ∈ A, H a ≠ none
  | _, _, _, .nil, a, h => by cases h
  | _, _, _, .skip h, a, q => h.trk a q
  | _, _, _, .keep h hs, a, q => by
    rcases List.mem_append.mp q with q | q
    · exact h.trk a q
    · exact hs.trk a q
theorem RepO.len : ∀ {σ : St} {ρ : Sl} {A : List Addr}, RepO K G S H σ ρ A → σ.length = ρ.length
  | _, _, _, .nil => rfl
  | _, _, _, .skip h => congrArg (· + 1) h.len
  | _, _, _, .keep _ h => congrArg (· + 1) h.len

/-- the state: frozen heap S, slots ρ (their owned addresses among A), the frame's values σ, the heap H -/
structure Rel (K : PySem.W.Frag) (G : Str → Option Value) (S : Hp) (ρ : Sl) (A : List Addr) (σ : St) (H : Hp) : Prop where
  sub : Sub S H
  rep : ∃ A0, RepO K G S H σ ρ A0 ∧ A0.Nodup ∧ ∀ a ∈ A0, a ∈ A
  off : ∀ a ∈ A, S a = none ∧ H a ≠ none
/-- what a run may do -/
structure Grow (S : Hp) (A : List Addr) (H S' : Hp) (A' : List Addr) (H' : Hp) : Prop where
  ss : Sub S S'
  sn : ∀ b, S' b ≠ none → S b ≠ none ∨ H b = none ∨ b ∈ A
  fr : ∀ b o, H b = some o → b ∉ A → H' b = some o
  an : ∀ b ∈ A', b ∈ A ∨ H b = none
  dm : ∀ b, H' b = none → H b = none
variable {A A' A'' : List Addr} {S'' H'' : Hp}
theorem Grow.refl : Grow S A H S A H := ⟨Sub.refl S, fun _ h => .inl h, fun _ _ h _ => h, fun _ h => .inl h, fun _ h => h⟩
theorem Grow.trans (a : Grow S A H S' A' H') (b : Grow S' A' H' S'' A'' H'') : Grow S A H S'' A'' H'' where
  ss := a.ss.trans b.ss
  sn := fun x h => by
    rcases b.sn x h with h | h | h
    · exact a.sn x h
    · exact .inr (.inl (a.dm x h))
    · rcases a.an x h with h | h
      · exact .inr (.inr h)
      · exact .inr (.inl h)
  fr := fun x o h n => b.fr x o (a.fr x o h n) fun q => by
    rcases a.an x q with q | q
    · exact n q
    · rw [q] at h; cases h
  an := fun x h => by
    rcases b.an x h with h | h
    · exact a.an x h
    · exact .inr (a.dm x h)
  dm := fun x h => a.dm x (b.dm x h)

/-- an exception: its class, the address of its own dict, its fields -/
def ExcAt (K : PySem.W.Frag) (G : Str → Option Value) (S H : Hp) (x : Exn) (cls : Value) (dd : Option Addr) : Prop :=
  G x.cls = some cls ∧ ((x.fs = [] ∧ dd = none) ∨ ∃ d fs, dd = some d ∧ H d = some (.xd fs) ∧ Paired (KD K S) fs x.fs)

def Run {α : Type} (K : PySem.W.Frag) (G : Str → Option Value) (E : XK) (S : Hp) (A : List Addr) (σ : St) (H : Hp) (r : R α) (C : α → Sl → Hp → List Addr → Hp → Prop) : Prop := match r with
  | .ok a ρ => ∀ S' A' H', Grow S A H S' A' H' → C a ρ S' A' H'
  | .exc x ρ => ∀ S' A' H' cls dd, Grow S A H S' A' H' → Rel K G S' ρ A' σ H' → ExcAt K G S' H' x cls dd → E cls dd H'
  | .bad => False
variable {E : XK} {σ : St} {ρ : Sl}
theorem Run.start {α : Type} {r : R α} {C : α → Sl → Hp → List Addr → Hp → Prop} (g : Grow S A H S' A' H') (h : Run K G E S A σ H r C) : Run K G E S' A' σ H' r C := by
  cases r with
  | ok a ρ => exact fun _ _ _ g' => h _ _ _ (g.trans g')
  | exc x ρ => exact fun _ _ _ _ _ g' => h _ _ _ _ _ (g.trans g')
  | bad => exact h
theorem Run.bind {α β : Type} {r : R α} {f : α → Sl → R β} {C : β → Sl → Hp → List Addr → Hp → Prop} (h : Run K G E S A σ H (r.bind f) C) :
    Run K G E S A σ H r fun a ρ1 S1 A1 H1 => Run K G E S1 A1 σ H1 (f a ρ1) C := by
  cases r with
  | ok a ρ => exact fun _ _ _ g => Run.start g h
  | exc x ρ => exact h
  | bad => exact h
theorem Run.imp {α : Type} {r : R α} {C C' : α → Sl → Hp → List Addr → Hp → Prop} (h : Run K G E S A σ H r C) (k : ∀ a ρ S' A' H', C a ρ S' A' H' → C' a ρ S' A' H') : Run K G E S A σ H r C' := by
  cases r with
  | ok a ρ => exact fun _ _ _ g => k _ _ _ _ _ (h _ _ _ g)
  | exc x ρ => exact h
  | bad => exact h

theorem Run.impG {α : Type} {r : R α} {C C' : α → Sl → Hp → List Addr → Hp → Prop} (h : Run K G E S A σ H r C) (k : ∀ a ρ S' A' H', Grow S A H S' A' H' → C a ρ S' A' H' → C' a ρ S' A' H') : Run K G E S A σ H r C' := by
  cases r with
  | ok a ρ => exact fun _ _ _ g => k _ _ _ _ _ g (h _ _ _ g)
  | exc x ρ => exact h
  | bad => exact h

/-! ### what a piece of syntax does -/
/-- a frozen value -/
structure SimF (X : Cx) (E : XK) (e : Expr) (f : Sl → R PyData) : Prop where
  ex : ∃ t, PE X e t ∧ ∀ σ ρ S A H Q, Rel X.K X.mg S ρ A σ H →
    Run X.K X.mg E S A σ H (f ρ) (fun d ρ' S' A' H' => Rel X.K X.mg S' ρ' A' σ H' → ∀ v, Fz X.K S' v d → Q v H') → t σ H Q
/-- any value -/
structure SimM (X : Cx) (E : XK) (e : Expr) (f : Sl → R MD) : Prop where
  ex : ∃ t, PE X e t ∧ ∀ σ ρ S A H Q, Rel X.K X.mg S ρ A σ H →
    Run X.K X.mg E S A σ H (f ρ) (fun m ρ' S' A' H' => ∀ v, Rel X.K X.mg S' (some m :: ρ') A' (some v :: σ) H' → Q v H') → t σ H Q
structure SimT (X : Cx) (E : XK) (e : Expr) (f : Sl → R Bool) : Prop where
  ex : ∃ t, PT X e t ∧ ∀ σ ρ S A H Q, Rel X.K X.mg S ρ A σ H →
    Run X.K X.mg E S A σ H (f ρ) (fun b ρ' S' A' H' => Rel X.K X.mg S' ρ' A' σ H' → Q b H') → t σ H Q
structure SimA (X : Cx) (E : XK) (es : List Expr) (f : Sl → R (List PyData)) : Prop where
  ex : ∃ t, PA X es t ∧ ∀ σ ρ S A H Q, Rel X.K X.mg S ρ A σ H →
    Run X.K X.mg E S A σ H (f ρ) (fun ds ρ' S' A' H' => Rel X.K X.mg S' ρ' A' σ H' → ∀ vs, FzA X.K S' vs ds → Q vs H') → t σ H Q
end DR
end
section
/-! DR1: expressions. -/
namespace DR
open PySem L2
variable {K : PySem.W.Frag} {G : Str → Option Value} {S S' S1 H H' H1 : Hp} {A A' A1 B : List Addr} {E : XK} {σ : St} {ρ : Sl}

/-! ### freezing -/
mutual
def MD.frz : MD → Option PyData
  | .fz d => some d
  | .ml ms => (frzs ms).map .list
  | .mt ms => (frzs ms).map .tuple
  | .md _ => none
  | .mk _ => none
  | .mo _ _ => none
  | .sc _ => none
  | .fd _ => none
  | .fo _ _ => none
  | .fx _ _ => none
  | .gone => none
def frzs : List MD → Option (List PyData)
  | [] => some []
  | m :: ms => (m.frz).bind fun d => (frzs ms).map (d :: ·)
end
theorem frzs_fz (ds : List PyData) : frzs (ds.map .fz) = some ds := by
  induction ds with
  | nil => simp [frzs]
  | cons d r ih => simp [frzs, MD.frz, ih]
def cold (S H : Hp) (B : List Addr) : Hp := fun a => if a ∈ B then H a else S a
theorem cold_in {a : Addr} (h : a ∈ B) : cold S H B a = H a := if_pos h
theorem cold_out {a : Addr} (h : a ∉ B) : cold S H B a = S a := if_neg h
theorem cold_sub (s : Sub S H) : Sub (cold S H B) H := fun a o h => by
  unfold cold at h
  split at h
  · exact h
  · exact s a o h
theorem sub_cold (s : Sub S H) : Sub S (cold S H B) := fun a o h => by
  by_cases q : a ∈ B
  · rw [cold_in q]; exact s a o h
  · rw [cold_out q]; exact h
mutual
theorem RepM.cold (s : Sub S H) : ∀ {v : V} {m : MD} {A : List Addr} {d : PyData}, RepM K G S H v m A → (∀ a ∈ A, a ∈ B) → m.frz = some d → Fz K (cold S H B) v d
  | _, _, _, _, .fz h, _, e => by
    simp only [MD.frz, Option.some.injEq] at e
    rw [← e]
    exact dp_mono (sub_cold s) h
  | _, _, _, _, .ml (a := a) (ms := ms) h hs, k, e => by
    simp only [MD.frz, Option.map_eq_some_iff] at e
    obtain ⟨ds, e1, e2⟩ := e
    rw [← e2]
    exact .lst ((cold_in (k _ (List.mem_cons_self ..))).trans h) (RepMs.cold s hs (fun a ha => k a (List.mem_cons_of_mem _ ha)) e1)
  | _, _, _, _, .mt (a := a) (ms := ms) h hs, k, e => by
    simp only [MD.frz, Option.map_eq_some_iff] at e
    obtain ⟨ds, e1, e2⟩ := e
    rw [← e2]
    exact .tup (.inl (.inl ((cold_in (k _ (List.mem_cons_self ..))).trans h))) (RepMs.cold s hs (fun a ha => k a (List.mem_cons_of_mem _ ha)) e1)
  | _, _, _, _, .md _ _, _, e => by simp [MD.frz] at e
  | _, _, _, _, .mk _ _, _, e => by simp [MD.frz] at e
  | _, _, _, _, .mo _ _ _ _ _, _, e => by simp [MD.frz] at e
  | _, _, _, _, .fo _ _ _ _ _, _, e => by simp [MD.frz] at e
  | _, _, _, _, .fx _ _ _ _ _, _, e => by simp [MD.frz] at e
  | _, _, _, _, .sc _, _, e => by simp [MD.frz] at e
  | _, _, _, _, .fd _ _, _, e => by simp [MD.frz] at e
  | _, _, _, _, .gone, _, e => by simp [MD.frz] at e
theorem RepMs.cold (s : Sub S H) : ∀ {vs : List V} {ms : List MD} {A : List Addr} {ds : List PyData}, RepMs K G S H vs ms A → (∀ a ∈ A, a ∈ B) → frzs ms = some ds → FzA K (cold S H B) vs ds
  | _, _, _, _, .nil, _, e => by
    simp only [frzs, Option.some.injEq] at e
    rw [← e]
    exact .nil
  | _, _, _, _, .cons (m := m) (ms := ms) h hs, k, e => by
    simp only [frzs, Option.bind_eq_some_iff, Option.map_eq_some_iff] at e
    obtain ⟨d, e1, ds, e2, e3⟩ := e
    rw [← e3]
    exact .cons (RepM.cold s h (fun a ha => k a (List.mem_append_left _ ha)) e1) (RepMs.cold s hs (fun a ha => k a (List.mem_append_right _ ha)) e2)
end
/-- the value on top is frozen -/
theorem Rel.freeze {m : MD} {v : V} {d : PyData} (r : Rel K G S (some m :: ρ) A (some v :: σ) H) (e : m.frz = some d) :
    ∃ S' A', Grow S A H S' A' H ∧ Rel K G S' ρ A' σ H ∧ Fz K S' v d := by
  obtain ⟨A0, ro, nd, sb⟩ := r.rep
  cases ro with
  | @keep _ _ _ _ B C h hs =>
    have hB : ∀ a ∈ B, a ∈ A := fun a ha => sb a (List.mem_append_left _ ha)
    have dis : ∀ a ∈ C, a ∉ B := fun a ha hb => by
      have := (List.nodup_append.mp nd).2.2 a hb a ha
      exact this rfl
    refine ⟨cold S H B, C, ⟨sub_cold r.sub, fun b q => ?_, fun b o q _ => q, fun b hb => .inl (sb b (List.mem_append_right _ hb)), fun _ q => q⟩, ⟨cold_sub r.sub, ⟨C, ?_, (List.nodup_append.mp nd).2.1, fun _ q => q⟩, fun a ha => ⟨?_, (hs.trk a ha)⟩⟩, RepM.cold r.sub h (fun _ q => q) e⟩
    · by_cases hb : b ∈ B
      · exact .inr (.inr (hB b hb))
      · rw [cold_out hb] at q
        exact .inl q
    · exact hs.mono (sub_cold r.sub) fun _ _ _ q => q
    · rw [cold_out (dis a ha)]
      exact (r.off a (sb a (List.mem_append_right _ ha))).1
theorem Rel.pop {x : Option MD} {y : Option V} (r : Rel K G S (x :: ρ) A (y :: σ) H) : Rel K G S ρ A σ H := by
  obtain ⟨A0, ro, nd, sb⟩ := r.rep
  refine ⟨r.sub, ?_, r.off⟩
  cases ro with
  | skip h => exact ⟨A0, h, nd, sb⟩
  | keep h hs => exact ⟨_, hs, (List.nodup_append.mp nd).2.1, fun a ha => sb a (List.mem_append_right _ ha)⟩
theorem Rel.pushF {v : V} {d : PyData} (r : Rel K G S ρ A σ H) (h : Fz K S v d) : Rel K G S (some (.fz d) :: ρ) A (some v :: σ) H := by
  obtain ⟨A0, ro, nd, sb⟩ := r.rep
  exact ⟨r.sub, ⟨[] ++ A0, .keep (.fz h) ro, nd, sb⟩, r.off⟩
def mFrz (f : Sl → R MD) : Sl → R PyData := fun ρ => (f ρ).bind fun m ρ => match m.frz with
  | some d => .ok d ρ
  | none => .bad
def mFz (f : Sl → R PyData) : Sl → R MD := fun ρ => (f ρ).bind fun d ρ => .ok (.fz d) ρ
variable {X : Cx} {e : Expr}
theorem SimM.f {f : Sl → R MD} (h : SimM X E e f) : SimF X E e (mFrz f) := by
  obtain ⟨t, p, s⟩ := h.ex
  refine ⟨t, p, fun σ ρ S A H Q r q => s σ ρ S A H Q r ((Run.bind q).imp fun m ρ1 S1 A1 H1 q v r1 => ?_)⟩
  cases e : m.frz with
  | none => rw [e] at q; exact q.elim
  | some d =>
    rw [e] at q
    obtain ⟨S', A', g, r', z⟩ := r1.freeze e
    exact q S' A' H1 g r' v z
theorem SimF.m {f : Sl → R PyData} (h : SimF X E e f) : SimM X E e (mFz f) := by
  obtain ⟨t, p, s⟩ := h.ex
  refine ⟨t, p, fun σ ρ S A H Q r q => s σ ρ S A H Q r ((Run.bind q).imp fun d ρ1 S1 A1 H1 q r1 v hv => ?_)⟩
  exact q S1 A1 H1 Grow.refl v (r1.pushF hv)

/-! ### names, constants -/
theorem RepO.at : ∀ {σ : St} {ρ : Sl} {A : List Addr} {i : Nat} {m : MD}, RepO K G S H σ ρ A → ρ[i]? = some (some m) → ∃ v B, σ[i]? = some (some v) ∧ RepM K G S H v m B
  | _, _, _, _, _, .nil, h => by simp at h
  | _, _, _, 0, m, .skip _, h => by simp at h
  | _, _, _, 0, m, .keep h _, e => by
    simp at e
    subst e
    exact ⟨_, _, rfl, h⟩
  | _, _, _, i + 1, m, .skip h, e => by
    obtain ⟨v, B, a, b⟩ := RepO.at (i := i) (m := m) h (by simpa using e)
    exact ⟨v, B, by simpa using a, b⟩
  | _, _, _, i + 1, m, .keep _ h, e => by
    obtain ⟨v, B, a, b⟩ := RepO.at (i := i) (m := m) h (by simpa using e)
    exact ⟨v, B, by simpa using a, b⟩
theorem Rel.at {i : Nat} {m : MD} (r : Rel K G S ρ A σ H) (h : ρ[i]? = some (some m)) : ∃ v B, σ[i]? = some (some v) ∧ RepM K G S H v m B := by
  obtain ⟨A0, ro, _, _⟩ := r.rep
  exact ro.at h
theorem RepM.fz_of {v : V} {d : PyData} {B : List Addr} (h : RepM K G S H v (.fz d) B) : Fz K S v d := by
  cases h with
  | fz h => exact h
def mVar (i : Nat) : Sl → R PyData := fun ρ => match ρ[i]? with
  | some (some (.fz d)) => .ok d ρ
  | _ => .bad
theorem simF_var (i : Nat) {x : Str} {pos : Pos} (hN : X.N[i]? = some x := by rfl) (hv : Vis X.env.scope x := by first | exact Or.inl rfl | exact Or.inr (Or.inl rfl) | exact Or.inr (Or.inr rfl)) (hd : (x == ("__debug__" : Str)) = false := by decide)
    (hcd : (x == ("__classdict__" : Str)) = false := by decide) : SimF X E (.Name x pos) (mVar i) := by
  refine ⟨_, pe_var hN hv hd hcd, fun σ ρ S A H Q r q => ?_⟩
  unfold mVar at q
  split at q
  · rename_i d e
    obtain ⟨v, B, h1, h2⟩ := r.at e
    exact ⟨v, h1, q S A H Grow.refl r v h2.fz_of⟩
  · exact q.elim
def mC (d : PyData) : Sl → R PyData := fun ρ => .ok d ρ
theorem simF_int {i j pos} : SimF X E (.Constant (.int i) j pos) (mC (.int i)) := ⟨_, pe_int, fun σ ρ S A H Q r q => q S A H Grow.refl r _ (.int i)⟩
theorem simF_bl {b j pos} : SimF X E (.Constant (.bool b) j pos) (mC (.bool b)) := ⟨_, pe_bl, fun σ ρ S A H Q r q => q S A H Grow.refl r _ (.bl b)⟩
theorem simF_non {j pos} : SimF X E (.Constant .none j pos) (mC .none) := ⟨_, pe_non, fun σ ρ S A H Q r q => q S A H Grow.refl r _ .non⟩
theorem simF_str {x j pos} : SimF X E (.Constant (.str x) j pos) (mC (.str x)) := ⟨_, pe_str, fun σ ρ S A H Q r q => q S A H Grow.refl r _ (.str x)⟩
/-- a module's constant -/
structure Glob (K : PySem.W.Frag) (G : Str → Option Value) (x : Str) (d : PyData) : Prop where
  at_ : ∃ u v, G x = some u ∧ RelV v u ∧ ∀ S, Fz K S v d
theorem simF_glob {x : Str} {d : PyData} {pos : Pos} (g : Glob X.K X.mg x d) (hg : Gl X x := by rfl) (hd : (x == ("__debug__" : Str)) = false := by decide) : SimF X E (.Name x pos) (mC d) := by
  obtain ⟨u, v, h1, h2, h3⟩ := g.at_
  exact ⟨_, pe_glob hg h1 h2 hd, fun σ ρ S A H Q r q => q S A H Grow.refl r v (h3 S)⟩

/-! ### values made -/
structure New (S H S' : Hp) (B : List Addr) (H' : Hp) : Prop where
  ss : Sub S S'
  sub : Sub S' H'
  hh : Sub H H'
  fresh : ∀ b, S' b ≠ none → S b ≠ none ∨ H b = none
  bf : ∀ b ∈ B, H b = none ∧ S' b = none
  bn : B.Nodup
theorem New.refl (s : Sub S H) : New S H S [] H := ⟨Sub.refl S, s, Sub.refl H, fun _ h => .inl h, fun _ h => (by cases h), List.nodup_nil⟩
theorem New.grow (n : New S H S' B H') : Grow S A H S' (B ++ A) H' := ⟨n.ss, fun b h => (n.fresh b h).elim .inl (fun z => .inr (.inl z)), fun b o h _ => n.hh b o h, fun b h => (List.mem_append.mp h).elim (fun z => .inr (n.bf b z).1) .inl, fun b h => by
  cases q : H b with
  | none => rfl
  | some o => rw [n.hh b o q] at h; cases h⟩
theorem New.rel {m : MD} {v : V} (n : New S H S' B H') (r : Rel K G S ρ A σ H) (h : RepM K G S' H' v m B) : Rel K G S' (some m :: ρ) (B ++ A) (some v :: σ) H' := by
  obtain ⟨A0, ro, nd, sb⟩ := r.rep
  refine ⟨n.sub, ⟨B ++ A0, .keep h (ro.mono n.ss fun a _ o q => n.hh a o q), ?_, fun a ha => ?_⟩, fun a ha => ?_⟩
  · refine List.nodup_append.mpr ⟨n.bn, nd, fun a ha b hb e => ?_⟩
    subst e
    exact ro.trk a hb (n.bf a ha).1
  · rcases List.mem_append.mp ha with q | q
    · exact List.mem_append_left _ q
    · exact List.mem_append_right _ (sb a q)
  · rcases List.mem_append.mp ha with q | q
    · exact ⟨(n.bf a q).2, h.trk a q⟩
    · obtain ⟨o1, o2⟩ := r.off a q
      refine ⟨?_, ?_⟩
      · cases z : S' a with
        | none => rfl
        | some o => exact ((n.fresh a (by rw [z]; intro w; cases w)).elim (fun w => (w o1).elim) (fun w => (o2 w).elim))
      · cases z : H a with
        | none => exact (o2 z).elim
        | some o => rw [n.hh a o z]; intro w; cases w
theorem New.rel0 (n : New S H S' B H') (r : Rel K G S ρ A σ H) : Rel K G S' ρ A σ H' := by
  obtain ⟨A0, ro, nd, sb⟩ := r.rep
  refine ⟨n.sub, ⟨A0, ro.mono n.ss fun a _ o q => n.hh a o q, nd, sb⟩, fun a ha => ?_⟩
  obtain ⟨o1, o2⟩ := r.off a ha
  refine ⟨?_, ?_⟩
  · cases z : S' a with
    | none => rfl
    | some o => exact ((n.fresh a (by rw [z]; intro w; cases w)).elim (fun w => (w o1).elim) (fun w => (o2 w).elim))
  · cases z : H a with
    | none => exact (o2 z).elim
    | some o => rw [n.hh a o z]; intro w; cases w
/-- a new owned list; a new frozen tuple -/
theorem sub_none {p : Addr} (s : Sub S H) (n : H p = none) : S p = none := by
  cases q : S p with
  | none => rfl
  | some o => rw [s p o q] at n; cases n
theorem New.lst {p : Addr} {o : HO} (s : Sub S H) (n : H p = none) : New S H S [p] (upd H p o) where
  ss := Sub.refl S
  sub := s.trans (sub_new n)
  hh := sub_new n
  fresh := fun _ h => .inl h
  bf := fun b h => by
    rw [List.mem_singleton.mp h]
    exact ⟨n, sub_none s n⟩
  bn := List.Pairwise.cons (fun _ h => by cases h) List.Pairwise.nil
theorem New.tup {p : Addr} {o : HO} (s : Sub S H) (n : H p = none) : New S H (upd S p o) [] (upd H p o) := by
  have nS : S p = none := by
    cases q : S p with
    | none => rfl
    | some o => rw [s p o q] at n; cases n
  refine ⟨sub_upd (Sub.refl S) nS, sub_upd2 s, sub_new n, fun b h => ?_, fun b h => (by cases h), List.nodup_nil⟩
  by_cases e : b = p
  · subst e; exact .inr n
  · rw [upd_ne e] at h; exact .inl h
theorem repMs_fz : ∀ {xs : List V} {ds : List PyData}, FzA K S xs ds → RepMs K G S H xs (ds.map .fz) []
  | _, _, .nil => .nil
  | _, _, .cons h hs => .cons (A := []) (B := []) (.fz h) (repMs_fz hs)
theorem rep_lst {p : Addr} {xs : List V} {ds : List PyData} (e : H p = some (.lst xs)) (h : FzA K S xs ds) : RepM K G S H (.ref p) (.ml (ds.map .fz)) [p] := .ml e (repMs_fz h)

/-- an operation by values: r asks, g answers -/
def OpM (K : PySem.W.Frag) (G : Str → Option Value) (r : R2) (g : PyData → PyData → Option MD) : Prop :=
  ∀ S H Q x y a b m, Sub S H → Fz K S x a → Fz K S y b → g a b = some m → (∀ v S' B H', New S H S' B H' → RepM K G S' H' v m B → Q v H') → r x y H Q
def OpF (K : PySem.W.Frag) (r : R2) (g : PyData → PyData → Option PyData) : Prop :=
  ∀ S H Q x y a b d, Sub S H → Fz K S x a → Fz K S y b → g a b = some d → (∀ v S' H', New S H S' [] H' → Fz K S' v d → Q v H') → r x y H Q
def UnF (K : PySem.W.Frag) (r : V → Hp → VK → Prop) (g : PyData → Option PyData) : Prop :=
  ∀ S H Q x a d, Sub S H → Fz K S x a → g a = some d → (∀ v S' H', New S H S' [] H' → Fz K S' v d → Q v H') → r x H Q
def CallM (K : PySem.W.Frag) (G : Str → Option Value) (r : List V → Hp → VK → Prop) (g : List PyData → Option MD) : Prop :=
  ∀ S H Q xs as m, Sub S H → FzA K S xs as → g as = some m → (∀ v S' B H', New S H S' B H' → RepM K G S' H' v m B → Q v H') → r xs H Q
def CallF (K : PySem.W.Frag) (r : List V → Hp → VK → Prop) (g : List PyData → Option PyData) : Prop :=
  ∀ S H Q xs as d, Sub S H → FzA K S xs as → g as = some d → (∀ v S' H', New S H S' [] H' → Fz K S' v d → Q v H') → r xs H Q
def lft {α : Type} (o : Option α) : Sl → R α := fun ρ => match o with
  | some a => .ok a ρ
  | none => .bad
def mOp {α : Type} (g : PyData → PyData → Option α) (f1 f2 : Sl → R PyData) : Sl → R α := fun ρ => (f1 ρ).bind fun a ρ => (f2 ρ).bind fun b ρ => lft (g a b) ρ
def mUn {α : Type} (g : PyData → Option α) (f1 : Sl → R PyData) : Sl → R α := fun ρ => (f1 ρ).bind fun a ρ => lft (g a) ρ
def mCall {α : Type} (g : List PyData → Option α) (f1 : Sl → R (List PyData)) : Sl → R α := fun ρ => (f1 ρ).bind fun a ρ => lft (g a) ρ

variable {a b c : Expr} {pos : Pos} {f1 f2 f3 : Sl → R PyData}
/-- two operands, one after the other -/
theorem two {ta tb : TE} (s1 : ∀ σ ρ S A H Q, Rel X.K X.mg S ρ A σ H → Run X.K X.mg E S A σ H (f1 ρ) (fun d ρ' S' A' H' => Rel X.K X.mg S' ρ' A' σ H' → ∀ v, Fz X.K S' v d → Q v H') → ta σ H Q)
    (s2 : ∀ σ ρ S A H Q, Rel X.K X.mg S ρ A σ H → Run X.K X.mg E S A σ H (f2 ρ) (fun d ρ' S' A' H' => Rel X.K X.mg S' ρ' A' σ H' → ∀ v, Fz X.K S' v d → Q v H') → tb σ H Q)
    {α : Type} {k : PyData → PyData → Sl → R α} {C : α → Sl → Hp → List Addr → Hp → Prop} {W : V → V → Hp → Prop}
    (r : Rel X.K X.mg S ρ A σ H) (q : Run X.K X.mg E S A σ H ((f1 ρ).bind fun a ρ => (f2 ρ).bind fun b ρ => k a b ρ) C)
    (w : ∀ a b ρ2 S2 A2 H2 x y, Rel X.K X.mg S2 ρ2 A2 σ H2 → Fz X.K S2 x a → Fz X.K S2 y b → Run X.K X.mg E S2 A2 σ H2 (k a b ρ2) C → W x y H2) : ta σ H fun x H1 => tb σ H1 fun y H2 => W x y H2 := by
  refine s1 σ ρ S A H _ r ((Run.bind q).imp fun a ρ1 S1 A1 H1 q1 r1 x hx => ?_)
  have q2 := Run.bind q1
  -- the first value's frozen heap stays
  refine s2 σ ρ1 S1 A1 H1 _ r1 ?_
  cases z : f2 ρ1 with
  | ok b ρ2 =>
    rw [z] at q2
    exact fun S2 A2 H2 g r2 y hy => w a b ρ2 S2 A2 H2 x y r2 (dp_mono g.ss hx) hy (q2 S2 A2 H2 g)
  | exc e ρ2 =>
    rw [z] at q2
    exact q2
  | bad =>
    rw [z] at q2
    exact q2
theorem simM_op {op : Operator} {r : R2} {g : PyData → PyData → Option MD} (ho : OpR X (binaryOp op) r) (hs : OpM X.K X.mg r g) (h1 : SimF X E a f1) (h2 : SimF X E b f2) : SimM X E (.BinOp a op b pos) (mOp g f1 f2) := by
  obtain ⟨ta, p1, s1⟩ := h1.ex
  obtain ⟨tb, p2, s2⟩ := h2.ex
  refine ⟨_, pe_op ho p1 p2, fun σ ρ S A H Q r q => two s1 s2 r q fun a b ρ2 S2 A2 H2 x y r2 hx hy q2 => ?_⟩
  unfold lft at q2
  cases z : g a b with
  | none => rw [z] at q2; exact q2.elim
  | some m =>
    rw [z] at q2
    exact hs S2 H2 _ x y a b m r2.sub hx hy z fun v S' B H' n h => q2 S' (B ++ A2) H' n.grow v (n.rel r2 h)
theorem simF_op {op : Operator} {r : R2} {g : PyData → PyData → Option PyData} (ho : OpR X (binaryOp op) r) (hs : OpF X.K r g) (h1 : SimF X E a f1) (h2 : SimF X E b f2) : SimF X E (.BinOp a op b pos) (mOp g f1 f2) := by
  obtain ⟨ta, p1, s1⟩ := h1.ex
  obtain ⟨tb, p2, s2⟩ := h2.ex
  refine ⟨_, pe_op ho p1 p2, fun σ ρ S A H Q r q => two s1 s2 r q fun a b ρ2 S2 A2 H2 x y r2 hx hy q2 => ?_⟩
  unfold lft at q2
  cases z : g a b with
  | none => rw [z] at q2; exact q2.elim
  | some m =>
    rw [z] at q2
    exact hs S2 H2 _ x y a b m r2.sub hx hy z fun v S' H' n h => q2 S' _ H' n.grow (n.rel0 r2) v h
theorem simF_cmp {op : CmpOp} {r : R2} {g : PyData → PyData → Option PyData} (ho : OpR X (compareOp op) r) (hs : OpF X.K r g) (h1 : SimF X E a f1) (h2 : SimF X E b f2) (hm : behindInMarks op b = false) : SimF X E (.Compare a [op] [b] pos) (mOp g f1 f2) := by
  obtain ⟨ta, p1, s1⟩ := h1.ex
  obtain ⟨tb, p2, s2⟩ := h2.ex
  refine ⟨_, pe_cmpR ho p1 p2 hm, fun σ ρ S A H Q r q => two s1 s2 r q fun a b ρ2 S2 A2 H2 x y r2 hx hy q2 => ?_⟩
  unfold lft at q2
  cases z : g a b with
  | none => rw [z] at q2; exact q2.elim
  | some m =>
    rw [z] at q2
    exact hs S2 H2 _ x y a b m r2.sub hx hy z fun v S' H' n h => q2 S' _ H' n.grow (n.rel0 r2) v h
theorem simF_ix {r : R2} {g : PyData → PyData → Option PyData} (ho : IxR X r) (hs : OpF X.K r g) (h1 : SimF X E a f1) (h2 : SimF X E b f2) (hp : PlainIx b := by exact fun _ _ => rfl) : SimF X E (.Subscript a b pos) (mOp g f1 f2) := by
  obtain ⟨ta, p1, s1⟩ := h1.ex
  obtain ⟨tb, p2, s2⟩ := h2.ex
  refine ⟨_, pe_ix ho p1 p2 hp, fun σ ρ S A H Q r q => two s1 s2 r q fun a b ρ2 S2 A2 H2 x y r2 hx hy q2 => ?_⟩
  unfold lft at q2
  cases z : g a b with
  | none => rw [z] at q2; exact q2.elim
  | some m =>
    rw [z] at q2
    exact hs S2 H2 _ x y a b m r2.sub hx hy z fun v S' H' n h => q2 S' _ H' n.grow (n.rel0 r2) v h
end DR
end
section
/-! DR2: tests, displays, arguments, peeking, calls. -/
namespace DR
open PySem L2
variable {K : PySem.W.Frag} {G : Str → Option Value} {S S' S1 H H' H1 : Hp} {A A' A1 B C : List Addr} {E : XK} {σ : St} {ρ : Sl} {X : Cx} {e a b c : Expr} {es : List Expr} {pos : Pos} {f1 f2 f3 : Sl → R PyData}

/-! ### tests -/
def mB (f : Sl → R PyData) : Sl → R Bool := fun ρ => (f ρ).bind fun d ρ => match d with
  | .bool b => .ok b ρ
  | _ => .bad
theorem run_bool {Q : Bool → Hp → Prop} {t : TE} (s : ∀ σ ρ S A H Q, Rel X.K X.mg S ρ A σ H → Run X.K X.mg E S A σ H (f1 ρ) (fun d ρ' S' A' H' => Rel X.K X.mg S' ρ' A' σ H' → ∀ v, Fz X.K S' v d → Q v H') → t σ H Q)
    (r : Rel X.K X.mg S ρ A σ H) (q : Run X.K X.mg E S A σ H (mB f1 ρ) (fun b ρ' S' A' H' => Rel X.K X.mg S' ρ' A' σ H' → Q b H')) : t σ H fun x H1 => ∃ k, x = .bl k ∧ Q k H1 := by
  refine s σ ρ S A H _ r ((Run.bind q).imp fun d ρ1 S1 A1 H1 q1 r1 v hv => ?_)
  cases hv with
  | bl b => exact ⟨b, rfl, q1 S1 A1 H1 Grow.refl r1⟩
  | non => exact q1.elim
  | int => exact q1.elim
  | str => exact q1.elim
  | lst => exact q1.elim
  | tup => exact q1.elim
/-- a value that is a bool: a name, a call, a subscript -/
theorem SimF.t (h : SimF X E e f1) (he : ∀ whole, isTrue e X.env whole = (do let v ← whole; standAt e.pos; holding [v] (truthy v)) := by intro _; rfl) : SimT X E e (mB f1) := by
  obtain ⟨t, p, s⟩ := h.ex
  exact ⟨_, pt_val p he, fun σ ρ S A H Q r q => run_bool s r q⟩
theorem simT_cmp {op : CmpOp} {r : R2} {g : PyData → PyData → Option PyData} (ho : OpR X (compareOp op) r) (hs : OpF X.K r g) (h1 : SimF X E a f1) (h2 : SimF X E b f2) (hm : behindInMarks op b = false) : SimT X E (.Compare a [op] [b] pos) (mB (mOp g f1 f2)) := by
  obtain ⟨ta, p1, s1⟩ := h1.ex
  obtain ⟨tb, p2, s2⟩ := h2.ex
  refine ⟨_, pt_cmpR ho p1 p2 hm, fun σ ρ S A H Q r q => ?_⟩
  refine run_bool (f1 := mOp g f1 f2) (t := tOp _ ta tb) (fun σ ρ S A H Q r q => two s1 s2 r q fun a b ρ2 S2 A2 H2 x y r2 hx hy q2 => ?_) r q
  unfold lft at q2
  cases z : g a b with
  | none => rw [z] at q2; exact q2.elim
  | some m =>
    rw [z] at q2
    exact hs S2 H2 _ x y a b m r2.sub hx hy z fun v S' H' n h => q2 S' _ H' n.grow (n.rel0 r2) v h
def mNot (f : Sl → R Bool) : Sl → R Bool := fun ρ => (f ρ).bind fun b ρ => .ok (!b) ρ
def mAnd (f g : Sl → R Bool) : Sl → R Bool := fun ρ => (f ρ).bind fun b ρ => if b = true then g ρ else .ok false ρ
def mOr (f g : Sl → R Bool) : Sl → R Bool := fun ρ => (f ρ).bind fun b ρ => if b = true then .ok true ρ else g ρ
variable {b1 b2 : Sl → R Bool} {rest : List Expr}
theorem simT_not (h : SimT X E a b1) : SimT X E (.UnaryOp .Not a pos) (mNot b1) := by
  obtain ⟨t, p, s⟩ := h.ex
  refine ⟨_, pt_not p, fun σ ρ S A H Q r q => s σ ρ S A H _ r ((Run.bind q).imp fun b ρ1 S1 A1 H1 q1 r1 => q1 S1 A1 H1 Grow.refl r1)⟩
/-- and, or: a chain whose last link is alone -/
structure SimW (X : Cx) (E : XK) (e : Expr) (f : Sl → R Bool) : Prop where
  ex : ∃ t, PW X e t ∧ ∀ σ ρ S A H Q, Rel X.K X.mg S ρ A σ H →
    Run X.K X.mg E S A σ H (f ρ) (fun b ρ' S' A' H' => Rel X.K X.mg S' ρ' A' σ H' → Q b H') → t σ H Q
theorem SimW.t (h : SimW X E e b1) : SimT X E e b1 := by
  obtain ⟨t, p, s⟩ := h.ex
  exact ⟨t, p.pt, s⟩
theorem simW_and1 (h : SimT X E a b1) : SimW X E (.BoolOp .And [a] pos) b1 := by
  obtain ⟨t, p, s⟩ := h.ex
  exact ⟨t, pw_and1 p, s⟩
theorem simW_or1 (h : SimT X E a b1) : SimW X E (.BoolOp .Or [a] pos) b1 := by
  obtain ⟨t, p, s⟩ := h.ex
  exact ⟨t, pw_or1 p, s⟩
theorem simW_and (h : SimT X E a b1) (h2 : SimW X E (.BoolOp .And (b :: rest) pos) b2) : SimW X E (.BoolOp .And (a :: b :: rest) pos) (mAnd b1 b2) := by
  obtain ⟨t, p, s⟩ := h.ex
  obtain ⟨t2, p2, s2⟩ := h2.ex
  refine ⟨_, pw_and p p2, fun σ ρ S A H Q r q => s σ ρ S A H _ r ((Run.bind q).imp fun b ρ1 S1 A1 H1 q1 r1 => ?_)⟩
  cases b with
  | true => exact iteT (s2 σ ρ1 S1 A1 H1 Q r1 q1)
  | false => exact iteF (q1 S1 A1 H1 Grow.refl r1)
theorem simW_or (h : SimT X E a b1) (h2 : SimW X E (.BoolOp .Or (b :: rest) pos) b2) : SimW X E (.BoolOp .Or (a :: b :: rest) pos) (mOr b1 b2) := by
  obtain ⟨t, p, s⟩ := h.ex
  obtain ⟨t2, p2, s2⟩ := h2.ex
  refine ⟨_, pw_or p p2, fun σ ρ S A H Q r q => s σ ρ S A H _ r ((Run.bind q).imp fun b ρ1 S1 A1 H1 q1 r1 => ?_)⟩
  cases b with
  | true => exact iteT (q1 S1 A1 H1 Grow.refl r1)
  | false => exact iteF (s2 σ ρ1 S1 A1 H1 Q r1 q1)
/-! as values -/
def mBv (f : Sl → R Bool) : Sl → R PyData := fun ρ => (f ρ).bind fun b ρ => .ok (.bool b) ρ
structure SimV (X : Cx) (E : XK) (e : Expr) (f : Sl → R Bool) : Prop where
  ex : ∃ t, PE X e t ∧ ∀ σ ρ S A H Q, Rel X.K X.mg S ρ A σ H →
    Run X.K X.mg E S A σ H (f ρ) (fun b ρ' S' A' H' => Rel X.K X.mg S' ρ' A' σ H' → Q (.bl b) H') → t σ H Q
theorem SimV.f (h : SimV X E e b1) : SimF X E e (mBv b1) := by
  obtain ⟨t, p, s⟩ := h.ex
  refine ⟨t, p, fun σ ρ S A H Q r q => s σ ρ S A H Q r ((Run.bind q).imp fun b ρ1 S1 A1 H1 q1 r1 => q1 S1 A1 H1 Grow.refl r1 _ (.bl b))⟩
theorem SimF.v (h : SimF X E e f1) : SimV X E e (mB f1) := by
  obtain ⟨t, p, s⟩ := h.ex
  refine ⟨t, p, fun σ ρ S A H Q r q => s σ ρ S A H Q r ((Run.bind q).imp fun d ρ1 S1 A1 H1 q1 r1 v hv => ?_)⟩
  cases hv with
  | bl b => exact q1 S1 A1 H1 Grow.refl r1
  | non => exact q1.elim
  | int => exact q1.elim
  | str => exact q1.elim
  | lst => exact q1.elim
  | tup => exact q1.elim
theorem simV_one {op} (h : SimV X E a b1) : SimV X E (.BoolOp op [a] pos) b1 := by
  obtain ⟨t, p, s⟩ := h.ex
  exact ⟨t, pe_one p, s⟩
theorem simV_and (h : SimV X E a b1) (h2 : SimV X E (.BoolOp .And (b :: rest) pos) b2) : SimV X E (.BoolOp .And (a :: b :: rest) pos) (mAnd b1 b2) := by
  obtain ⟨t, p, s⟩ := h.ex
  obtain ⟨t2, p2, s2⟩ := h2.ex
  refine ⟨_, pe_and p p2, fun σ ρ S A H Q r q => s σ ρ S A H _ r ((Run.bind q).imp fun b ρ1 S1 A1 H1 q1 r1 => ?_)⟩
  cases b with
  | true => exact ⟨true, rfl, iteT (s2 σ ρ1 S1 A1 H1 Q r1 q1)⟩
  | false => exact ⟨false, rfl, iteF (q1 S1 A1 H1 Grow.refl r1)⟩
theorem simV_or (h : SimV X E a b1) (h2 : SimV X E (.BoolOp .Or (b :: rest) pos) b2) : SimV X E (.BoolOp .Or (a :: b :: rest) pos) (mOr b1 b2) := by
  obtain ⟨t, p, s⟩ := h.ex
  obtain ⟨t2, p2, s2⟩ := h2.ex
  refine ⟨_, pe_or p p2, fun σ ρ S A H Q r q => s σ ρ S A H _ r ((Run.bind q).imp fun b ρ1 S1 A1 H1 q1 r1 => ?_)⟩
  cases b with
  | true => exact ⟨true, rfl, iteT (q1 S1 A1 H1 Grow.refl r1)⟩
  | false => exact ⟨false, rfl, iteF (s2 σ ρ1 S1 A1 H1 Q r1 q1)⟩
theorem simV_not (h : SimV X E a b1) : SimV X E (.UnaryOp .Not a pos) (mNot b1) := by
  obtain ⟨t, p, s⟩ := h.ex
  refine ⟨_, pe_not p, fun σ ρ S A H Q r q => s σ ρ S A H _ r ((Run.bind q).imp fun b ρ1 S1 A1 H1 q1 r1 => ⟨b, rfl, q1 S1 A1 H1 Grow.refl r1⟩)⟩
def mIf {α : Type} (c : Sl → R Bool) (f g : Sl → R α) : Sl → R α := fun ρ => (c ρ).bind fun b ρ => if b = true then f ρ else g ρ
theorem simF_if (hc : SimT X E c b1) (h1 : SimF X E a f1) (h2 : SimF X E b f2) : SimF X E (.IfExp c a b pos) (mIf b1 f1 f2) := by
  obtain ⟨t, p, s⟩ := hc.ex
  obtain ⟨ta, p1, s1⟩ := h1.ex
  obtain ⟨tb, p2, s2⟩ := h2.ex
  refine ⟨_, pe_ifExp p p1 p2, fun σ ρ S A H Q r q => s σ ρ S A H _ r ((Run.bind q).imp fun b ρ1 S1 A1 H1 q1 r1 => ?_)⟩
  cases b with
  | true => exact iteT (s1 σ ρ1 S1 A1 H1 Q r1 q1)
  | false => exact iteF (s2 σ ρ1 S1 A1 H1 Q r1 q1)
/-- a op1 b op2 c -/
def mChain (g g' : PyData → PyData → Option PyData) (f1 f2 f3 : Sl → R PyData) : Sl → R PyData := fun ρ => (f1 ρ).bind fun a ρ => (f2 ρ).bind fun b ρ => match g a b with
  | some (.bool true) => (f3 ρ).bind fun c ρ => lft (g' b c) ρ
  | some (.bool false) => .ok (.bool false) ρ
  | _ => .bad
theorem chain_sem {r r' : R2} {g g' : PyData → PyData → Option PyData} {ta tb tc : TE} (hs : OpF X.K r g) (hs' : OpF X.K r' g')
    (s1 : ∀ σ ρ S A H Q, Rel X.K X.mg S ρ A σ H → Run X.K X.mg E S A σ H (f1 ρ) (fun d ρ' S' A' H' => Rel X.K X.mg S' ρ' A' σ H' → ∀ v, Fz X.K S' v d → Q v H') → ta σ H Q)
    (s2 : ∀ σ ρ S A H Q, Rel X.K X.mg S ρ A σ H → Run X.K X.mg E S A σ H (f2 ρ) (fun d ρ' S' A' H' => Rel X.K X.mg S' ρ' A' σ H' → ∀ v, Fz X.K S' v d → Q v H') → tb σ H Q)
    (s3 : ∀ σ ρ S A H Q, Rel X.K X.mg S ρ A σ H → Run X.K X.mg E S A σ H (f3 ρ) (fun d ρ' S' A' H' => Rel X.K X.mg S' ρ' A' σ H' → ∀ v, Fz X.K S' v d → Q v H') → tc σ H Q)
    {Q : VK} (r0 : Rel X.K X.mg S ρ A σ H) (q : Run X.K X.mg E S A σ H (mChain g g' f1 f2 f3 ρ) (fun d ρ' S' A' H' => Rel X.K X.mg S' ρ' A' σ H' → ∀ v, Fz X.K S' v d → Q v H')) : tChain r r' ta tb tc σ H Q := by
  refine two s1 s2 r0 q fun a b ρ2 S2 A2 H2 x y r2 hx hy q2 => ?_
  cases z : g a b with
  | none => rw [z] at q2; exact q2.elim
  | some d =>
    rw [z] at q2
    refine hs S2 H2 _ x y a b d r2.sub hx hy z fun v S' H' n h => ?_
    cases h with
    | bl k =>
      refine ⟨k, rfl, ?_⟩
      have r3 := n.rel0 r2
      cases k with
      | true =>
        refine iteT (s3 σ ρ2 S' A2 H' _ r3 ?_)
        have q3 := Run.start (n.grow (A := A2)) q2
        refine (Run.bind q3).impG fun c ρ3 S3 A3 H3 g3 q4 r4 w hw => ?_
        unfold lft at q4
        cases z4 : g' b c with
        | none => rw [z4] at q4; exact q4.elim
        | some m =>
          rw [z4] at q4
          exact hs' S3 H3 _ y w b c m r4.sub (dp_mono (n.ss.trans g3.ss) hy) hw z4 fun v S' H' n h => q4 S' _ H' n.grow (n.rel0 r4) v h
      | false => exact iteF (q2 S' _ H' n.grow r3 _ (.bl false))
    | non => exact q2.elim
    | int => exact q2.elim
    | str => exact q2.elim
    | lst => exact q2.elim
    | tup => exact q2.elim
theorem simF_chain {op op' : CmpOp} {r r' : R2} {g g' : PyData → PyData → Option PyData} (ho : OpR X (compareOp op) r) (ho' : OpR X (compareOp op') r') (hs : OpF X.K r g) (hs' : OpF X.K r' g') (h1 : SimF X E a f1) (h2 : SimF X E b f2) (h3 : SimF X E c f3)
    (hm : lastMarks [op, op'] [b, c] = false := by with_unfolding_all rfl) : SimF X E (.Compare a [op, op'] [b, c] pos) (mChain g g' f1 f2 f3) := by
  obtain ⟨ta, p1, s1⟩ := h1.ex
  obtain ⟨tb, p2, s2⟩ := h2.ex
  obtain ⟨tc, p3, s3⟩ := h3.ex
  exact ⟨_, pe_chain ho ho' p1 p2 p3 hm, fun σ ρ S A H Q r q => chain_sem hs hs' s1 s2 s3 r q⟩
theorem simT_chain {op op' : CmpOp} {r r' : R2} {g g' : PyData → PyData → Option PyData} (ho : OpR X (compareOp op) r) (ho' : OpR X (compareOp op') r') (hs : OpF X.K r g) (hs' : OpF X.K r' g') (h1 : SimF X E a f1) (h2 : SimF X E b f2) (h3 : SimF X E c f3)
    (hm : lastMarks [op, op'] [b, c] = false := by with_unfolding_all rfl) : SimT X E (.Compare a [op, op'] [b, c] pos) (mB (mChain g g' f1 f2 f3)) := by
  obtain ⟨ta, p1, s1⟩ := h1.ex
  obtain ⟨tb, p2, s2⟩ := h2.ex
  obtain ⟨tc, p3, s3⟩ := h3.ex
  exact ⟨_, pt_chain ho ho' p1 p2 p3 hm, fun σ ρ S A H Q r q => run_bool (f1 := mChain g g' f1 f2 f3) (t := tChain _ _ ta tb tc) (fun σ ρ S A H Q r q => chain_sem hs hs' s1 s2 s3 r q) r q⟩

/-! ### arguments, displays -/
def mNil : Sl → R (List PyData) := fun ρ => .ok [] ρ
def mCons (f : Sl → R PyData) (g : Sl → R (List PyData)) : Sl → R (List PyData) := fun ρ => (f ρ).bind fun d ρ => (g ρ).bind fun ds ρ => .ok (d :: ds) ρ
variable {fs : Sl → R (List PyData)}
theorem simA_nil : SimA X E [] mNil := ⟨_, pa_nil, fun σ ρ S A H Q r q => q S A H Grow.refl r [] .nil⟩
theorem simA_cons (h : SimF X E e f1) (hs : SimA X E es fs) (he : starEach (e :: es) X.env = (false, eval e X.env) :: starEach es X.env := by rfl) : SimA X E (e :: es) (mCons f1 fs) := by
  obtain ⟨t, p, s⟩ := h.ex
  obtain ⟨ts, ps, ss⟩ := hs.ex
  refine ⟨_, pa_cons p ps he, fun σ ρ S A H Q r q => s σ ρ S A H _ r ((Run.bind q).imp fun d ρ1 S1 A1 H1 q1 r1 v hv => ?_)⟩
  refine ss σ ρ1 S1 A1 H1 _ r1 ((Run.bind q1).impG fun ds ρ2 S2 A2 H2 g2 q2 r2 vs hvs => ?_)
  exact q2 S2 A2 H2 Grow.refl r2 (v :: vs) (.cons (dp_mono g2.ss hv) hvs)
def mTup (f : Sl → R (List PyData)) : Sl → R PyData := fun ρ => (f ρ).bind fun ds ρ => if ds.length ≤ sizeLine then .ok (.tuple ds) ρ else .bad
def mLst (f : Sl → R (List PyData)) : Sl → R MD := fun ρ => (f ρ).bind fun ds ρ => if ds.length ≤ sizeLine then .ok (.ml (ds.map .fz)) ρ else .bad
theorem simF_tup {k} (h : SimA X E es fs) : SimF X E (.Tuple es k pos) (mTup fs) := by
  obtain ⟨t, p, s⟩ := h.ex
  refine ⟨_, pe_tup p, fun σ ρ S A H Q r q => s σ ρ S A H _ r ((Run.bind q).imp fun ds ρ1 S1 A1 H1 q1 r1 vs hvs => ?_)⟩
  by_cases hl : ds.length ≤ sizeLine
  · rw [if_pos hl] at q1
    refine ⟨by rw [dpA_len hvs]; exact hl, fun p np => ?_⟩
    have n := New.tup (o := .tup vs) r1.sub np
    exact q1 _ _ _ n.grow (n.rel0 r1) _ (.tup (.inl (.inl upd_same)) (dpA_mono n.ss hvs))
  · rw [if_neg hl] at q1
    exact q1.elim
theorem simM_lst (h : SimA X E es fs) : SimM X E (.List es pos) (mLst fs) := by
  obtain ⟨t, p, s⟩ := h.ex
  refine ⟨_, pe_lst p, fun σ ρ S A H Q r q => s σ ρ S A H _ r ((Run.bind q).imp fun ds ρ1 S1 A1 H1 q1 r1 vs hvs => ?_)⟩
  by_cases hl : ds.length ≤ sizeLine
  · rw [if_pos hl] at q1
    refine ⟨by rw [dpA_len hvs]; exact hl, fun p np => ?_⟩
    have n := New.lst (o := .lst vs) r1.sub np
    exact q1 _ _ _ n.grow _ (n.rel r1 (rep_lst upd_same hvs))
  · rw [if_neg hl] at q1
    exact q1.elim
/-- a builtin called -/
theorem call_semM {r : List V → Hp → VK → Prop} {g : List PyData → Option MD} {t : TA} {Q : VK} (hs : CallM X.K X.mg r g)
    (s : ∀ σ ρ S A H Q, Rel X.K X.mg S ρ A σ H → Run X.K X.mg E S A σ H (fs ρ) (fun ds ρ' S' A' H' => Rel X.K X.mg S' ρ' A' σ H' → ∀ vs, FzA X.K S' vs ds → Q vs H') → t σ H Q)
    (r0 : Rel X.K X.mg S ρ A σ H) (q : Run X.K X.mg E S A σ H (mCall g fs ρ) (fun m ρ' S' A' H' => ∀ v, Rel X.K X.mg S' (some m :: ρ') A' (some v :: σ) H' → Q v H')) : t σ H fun vs H1 => r vs H1 Q := by
  refine s σ ρ S A H _ r0 ((Run.bind q).imp fun ds ρ1 S1 A1 H1 q1 r1 vs hvs => ?_)
  unfold lft at q1
  cases z : g ds with
  | none => rw [z] at q1; exact q1.elim
  | some m =>
    rw [z] at q1
    exact hs S1 H1 _ vs ds m r1.sub hvs z fun v S' B H' n h => q1 S' (B ++ A1) H' n.grow v (n.rel r1 h)
theorem call_semF {r : List V → Hp → VK → Prop} {g : List PyData → Option PyData} {t : TA} {Q : VK} (hs : CallF X.K r g)
    (s : ∀ σ ρ S A H Q, Rel X.K X.mg S ρ A σ H → Run X.K X.mg E S A σ H (fs ρ) (fun ds ρ' S' A' H' => Rel X.K X.mg S' ρ' A' σ H' → ∀ vs, FzA X.K S' vs ds → Q vs H') → t σ H Q)
    (r0 : Rel X.K X.mg S ρ A σ H) (q : Run X.K X.mg E S A σ H (mCall g fs ρ) (fun d ρ' S' A' H' => Rel X.K X.mg S' ρ' A' σ H' → ∀ v, Fz X.K S' v d → Q v H')) : t σ H fun vs H1 => r vs H1 Q := by
  refine s σ ρ S A H _ r0 ((Run.bind q).imp fun ds ρ1 S1 A1 H1 q1 r1 vs hvs => ?_)
  unfold lft at q1
  cases z : g ds with
  | none => rw [z] at q1; exact q1.elim
  | some m =>
    rw [z] at q1
    exact hs S1 H1 _ vs ds m r1.sub hvs z fun v S' H' n h => q1 S' _ H' n.grow (n.rel0 r1) v h
section
variable {id T : String} {x : Str} {p : Pos} {r : List V → Hp → VK → Prop}
theorem simM_B {g : List PyData → Option MD} (hc : CallR X (.builtin id) r) (hs : CallM X.K X.mg r g) (hm : X.mg x = none) (hv : bootBuiltins x = some (.builtin id)) (h : SimA X E (e :: es) fs) (hg : Gl X x := by rfl) (hn : x ≠ "__name__" := by decide) (hdb : (x == ("__debug__" : Str)) = false := by decide)
    (he : starEach (e :: es) X.env = (false, eval e X.env) :: starEach es X.env := by rfl) (hpl : (backTo pos (starEach es X.env)).any (·.1) = false := by rfl) : SimM X E (.Call (.Name x p) (e :: es) [] pos) (mCall g fs) := by
  obtain ⟨t, pa, s⟩ := h.ex
  exact ⟨_, pe_callB hc hg hm hv pa hn hdb he hpl, fun σ ρ S A H Q r0 q => call_semM hs s r0 q⟩
theorem simF_B {g : List PyData → Option PyData} (hc : CallR X (.builtin id) r) (hs : CallF X.K r g) (hm : X.mg x = none) (hv : bootBuiltins x = some (.builtin id)) (h : SimA X E (e :: es) fs) (hg : Gl X x := by rfl) (hn : x ≠ "__name__" := by decide) (hdb : (x == ("__debug__" : Str)) = false := by decide)
    (he : starEach (e :: es) X.env = (false, eval e X.env) :: starEach es X.env := by rfl) (hpl : (backTo pos (starEach es X.env)).any (·.1) = false := by rfl) : SimF X E (.Call (.Name x p) (e :: es) [] pos) (mCall g fs) := by
  obtain ⟨t, pa, s⟩ := h.ex
  exact ⟨_, pe_callB hc hg hm hv pa hn hdb he hpl, fun σ ρ S A H Q r0 q => call_semF hs s r0 q⟩
theorem simM_T {g : List PyData → Option MD} (hc : CallR X (.type T) r) (hs : CallM X.K X.mg r g) (hm : X.mg x = none) (hv : bootBuiltins x = some (.type T)) (h : SimA X E (e :: es) fs) (hg : Gl X x := by rfl) (hn : x ≠ "__name__" := by decide) (hdb : (x == ("__debug__" : Str)) = false := by decide)
    (he : starEach (e :: es) X.env = (false, eval e X.env) :: starEach es X.env := by rfl) (hpl : (backTo pos (starEach es X.env)).any (·.1) = false := by rfl) : SimM X E (.Call (.Name x p) (e :: es) [] pos) (mCall g fs) := by
  obtain ⟨t, pa, s⟩ := h.ex
  exact ⟨_, pe_callTy hc hg hm hv pa hn hdb he hpl, fun σ ρ S A H Q r0 q => call_semM hs s r0 q⟩
theorem simF_T {g : List PyData → Option PyData} (hc : CallR X (.type T) r) (hs : CallF X.K r g) (hm : X.mg x = none) (hv : bootBuiltins x = some (.type T)) (h : SimA X E (e :: es) fs) (hg : Gl X x := by rfl) (hn : x ≠ "__name__" := by decide) (hdb : (x == ("__debug__" : Str)) = false := by decide)
    (he : starEach (e :: es) X.env = (false, eval e X.env) :: starEach es X.env := by rfl) (hpl : (backTo pos (starEach es X.env)).any (·.1) = false := by rfl) : SimF X E (.Call (.Name x p) (e :: es) [] pos) (mCall g fs) := by
  obtain ⟨t, pa, s⟩ := h.ex
  exact ⟨_, pe_callTy hc hg hm hv pa hn hdb he hpl, fun σ ρ S A H Q r0 q => call_semF hs s r0 q⟩
end

/-! ### peeking: a flat answer about owned things leaves them owned -/
def flatD : PyData → Bool
  | .none => true
  | .bool _ => true
  | .int _ => true
  | .str _ => true
  | _ => false
theorem Fz.flat {v : V} {d : PyData} (h : Fz K S v d) (f : flatD d = true) : Fz K S' v d := by
  cases h with
  | non => exact .non
  | bl b => exact .bl b
  | int i => exact .int i
  | str x => exact .str x
  | lst => cases f
  | tup => cases f
def view1 : Option MD → Option MD
  | some m => (m.frz).map .fz
  | none => none
def view (ρ : Sl) : Sl := ρ.map view1
theorem RepO.view (s : Sub S H) : ∀ {σ : St} {ρ : Sl} {A : List Addr}, RepO K G S H σ ρ A → (∀ a ∈ A, a ∈ B) → RepO K G (cold S H B) H σ (DR.view ρ) []
  | _, _, _, .nil, _ => .nil
  | _, _, _, .skip h, k => .skip (RepO.view s h k)
  | _, _, _, .keep (m := m) h hs, k => by
    have ih := RepO.view s hs fun a ha => k a (List.mem_append_right _ ha)
    show RepO K G (DR.cold S H B) H _ (view1 (some m) :: _) []
    show RepO K G (DR.cold S H B) H _ (view1 (some m) :: DR.view _) []
    have ev : view1 (some m) = (m.frz).map .fz := rfl
    rw [ev]
    cases e : m.frz with
    | none => exact .skip ih
    | some d => exact .keep (A := []) (B := []) (.fz (RepM.cold s h (fun a ha => k a (List.mem_append_left _ ha)) e)) ih
def mPeek (f : Sl → R PyData) : Sl → R PyData := fun ρ => match f (view ρ) with
  | .ok d _ => if flatD d = true then .ok d ρ else .bad
  | _ => .bad
theorem simF_peek (h : SimF X E e f1) : SimF X E e (mPeek f1) := by
  obtain ⟨t, p, s⟩ := h.ex
  refine ⟨t, p, fun σ ρ S A H Q r q => ?_⟩
  obtain ⟨A0, ro, nd, sb⟩ := r.rep
  have r1 : Rel X.K X.mg (cold S H A0) (view ρ) [] σ H := ⟨cold_sub r.sub, ⟨[], ro.view r.sub fun _ q => q, List.nodup_nil, fun _ q => q⟩, fun a q => (by cases q)⟩
  refine s σ (view ρ) _ [] H Q r1 ?_
  cases z : f1 (view ρ) with
  | ok d ρ' =>
    by_cases hf : flatD d = true
    · have e : mPeek f1 ρ = .ok d ρ := by
        unfold mPeek
        rw [z]
        exact if_pos hf
      rw [e] at q
      intro S' A' H' g r' v hv
      have hh : Sub H H' := fun a o h => g.fr a o h fun z => by cases z
      have gg : Grow S A H S A H' := ⟨Sub.refl S, fun _ h => .inl h, fun b o h _ => hh b o h, fun _ h => .inl h, g.dm⟩
      exact q S A H' gg ⟨r.sub.trans hh, ⟨A0, ro.mono (Sub.refl S) fun a _ o h => hh a o h, nd, sb⟩, fun a ha => ⟨(r.off a ha).1, fun z => (r.off a ha).2 (g.dm a z)⟩⟩ v (hv.flat hf)
    · have e : mPeek f1 ρ = .bad := by
        unfold mPeek
        rw [z]
        exact if_neg hf
      rw [e] at q
      exact q.elim
  | exc x ρ' =>
    have e : mPeek f1 ρ = .bad := by
      unfold mPeek
      rw [z]
    rw [e] at q
    exact q.elim
  | bad =>
    have e : mPeek f1 ρ = .bad := by
      unfold mPeek
      rw [z]
    rw [e] at q
    exact q.elim
def mPeekB (f : Sl → R Bool) : Sl → R Bool := fun ρ => match f (view ρ) with
  | .ok d _ => .ok d ρ
  | _ => .bad
theorem simT_peek (h : SimT X E e b1) : SimT X E e (mPeekB b1) := by
  obtain ⟨t, p, s⟩ := h.ex
  refine ⟨t, p, fun σ ρ S A H Q r q => ?_⟩
  obtain ⟨A0, ro, nd, sb⟩ := r.rep
  have r1 : Rel X.K X.mg (cold S H A0) (view ρ) [] σ H := ⟨cold_sub r.sub, ⟨[], ro.view r.sub fun _ q => q, List.nodup_nil, fun _ q => q⟩, fun a q => (by cases q)⟩
  refine s σ (view ρ) _ [] H Q r1 ?_
  cases z : b1 (view ρ) with
  | ok d ρ' =>
    have e : mPeekB b1 ρ = .ok d ρ := by
      unfold mPeekB
      rw [z]
    rw [e] at q
    intro S' A' H' g r'
    have hh : Sub H H' := fun a o h => g.fr a o h fun z => by cases z
    have gg : Grow S A H S A H' := ⟨Sub.refl S, fun _ h => .inl h, fun b o h _ => hh b o h, fun _ h => .inl h, g.dm⟩
    exact q S A H' gg ⟨r.sub.trans hh, ⟨A0, ro.mono (Sub.refl S) fun a _ o h => hh a o h, nd, sb⟩, fun a ha => ⟨(r.off a ha).1, fun z => (r.off a ha).2 (g.dm a z)⟩⟩
  | exc x ρ' =>
    have e : mPeekB b1 ρ = .bad := by
      unfold mPeekB
      rw [z]
    rw [e] at q
    exact q.elim
  | bad =>
    have e : mPeekB b1 ρ = .bad := by
      unfold mPeekB
      rw [z]
    rw [e] at q
    exact q.elim
end DR
end
section
/-! DR3: operations by values. -/
namespace DR
open PySem L2
variable {K : PySem.W.Frag} {G : Str → Option Value} {S S' S1 H H' H1 : Hp} {A A' A1 B C : List Addr} {E : XK} {σ : St} {ρ : Sl} {X : Cx} {e a b c : Expr} {es : List Expr} {pos : Pos} {f1 f2 f3 : Sl → R PyData}

/-! ### whole numbers -/
def int2 {α : Type} (g : Int → Int → Option α) : PyData → PyData → Option α
  | .int i, .int j => g i j
  | _, _ => none
theorem int2_inv {α : Type} {g : Int → Int → Option α} {x y : V} {a b : PyData} {m : α} (hx : Fz K S x a) (hy : Fz K S y b) (h : int2 g a b = some m) : ∃ i j, x = .int i ∧ y = .int j ∧ g i j = some m := by
  cases hx <;> cases hy <;> first | exact ⟨_, _, rfl, rfl, h⟩ | cases h
def gAddI : PyData → PyData → Option PyData := int2 fun i j => some (.int (i + j))
def gMinus : PyData → PyData → Option PyData := int2 fun i j => some (.int (i - j))
def small (i : Int) : Bool := decide (-(2 ^ 64) < i) && decide (i < 2 ^ 64)
def gMul : PyData → PyData → Option PyData := int2 fun i j => if (small i || small j) = true then some (.int (i * j)) else none
def gFdiv : PyData → PyData → Option PyData := int2 fun i j => if 0 < j ∧ j < 1073741824 then some (.int (i / j)) else none
def gMod : PyData → PyData → Option PyData := int2 fun i j => if 0 < j then some (.int (i % j)) else none
def gPow : PyData → PyData → Option PyData := int2 fun i j => if 0 ≤ j ∧ j ≤ 1000000 ∧ i.natAbs < 2 ^ 64 then some (.int (i ^ j.toNat)) else none
theorem opF_I0 {g : Int → Int → Int} : OpF K (rI0 fun i j => .int (g i j)) (int2 fun i j => some (.int (g i j))) := fun S H Q x y a b d s hx hy e q => by
  obtain ⟨i, j, rfl, rfl, e⟩ := int2_inv hx hy e
  injection e with e
  subst e
  exact ⟨i, j, rfl, rfl, q _ S H (New.refl s) (.int _)⟩
theorem opF_add : OpF K (rI0 fun i j => .int (i + j)) gAddI := opF_I0
theorem opF_sub : OpF K (rI0 fun i j => .int (i - j)) gMinus := opF_I0
theorem small_ok {i : Int} (h : small i = true) : -(2 ^ 64) < i ∧ i < 2 ^ 64 := by
  unfold small at h
  rw [Bool.and_eq_true] at h
  exact ⟨of_decide_eq_true h.1, of_decide_eq_true h.2⟩
theorem opF_mul : OpF K (rI CMul fun i j => .int (i * j)) gMul := fun S H Q x y a b d s hx hy e q => by
  obtain ⟨i, j, rfl, rfl, e⟩ := int2_inv hx hy e
  split at e
  · rename_i h
    injection e with e
    subst e
    refine ⟨i, j, rfl, rfl, ?_, q _ S H (New.refl s) (.int _)⟩
    rcases (Bool.or_eq_true _ _).mp h with h | h
    · exact .inl (small_ok h)
    · exact .inr (small_ok h)
  · cases e
theorem opF_fdiv : OpF K (rI CDiv fun i j => .int (i / j)) gFdiv := fun S H Q x y a b d s hx hy e q => by
  obtain ⟨i, j, rfl, rfl, e⟩ := int2_inv hx hy e
  split at e
  · rename_i h
    injection e with e
    subst e
    exact ⟨i, j, rfl, rfl, h, q _ S H (New.refl s) (.int _)⟩
  · cases e
theorem opF_mod : OpF K (rI (fun _ j => 0 < j) fun i j => .int (i % j)) gMod := fun S H Q x y a b d s hx hy e q => by
  obtain ⟨i, j, rfl, rfl, e⟩ := int2_inv hx hy e
  split at e
  · rename_i h
    injection e with e
    subst e
    exact ⟨i, j, rfl, rfl, h, q _ S H (New.refl s) (.int _)⟩
  · cases e
theorem opF_pow : OpF K (rI CPow fun i j => .int (i ^ j.toNat)) gPow := fun S H Q x y a b d s hx hy e q => by
  obtain ⟨i, j, rfl, rfl, e⟩ := int2_inv hx hy e
  split at e
  · rename_i h
    injection e with e
    subst e
    exact ⟨i, j, rfl, rfl, h, q _ S H (New.refl s) (.int _)⟩
  · cases e
theorem simF_addI (h1 : SimF X E a f1) (h2 : SimF X E b f2) : SimF X E (.BinOp a .Add b pos) (mOp gAddI f1 f2) := simF_op op_add opF_add h1 h2
theorem simF_sub (h1 : SimF X E a f1) (h2 : SimF X E b f2) : SimF X E (.BinOp a .Sub b pos) (mOp gMinus f1 f2) := simF_op op_sub opF_sub h1 h2
theorem simF_mul (h1 : SimF X E a f1) (h2 : SimF X E b f2) : SimF X E (.BinOp a .Mult b pos) (mOp gMul f1 f2) := simF_op op_mul opF_mul h1 h2
theorem simF_fdiv (h1 : SimF X E a f1) (h2 : SimF X E b f2) : SimF X E (.BinOp a .FloorDiv b pos) (mOp gFdiv f1 f2) := simF_op op_fdiv opF_fdiv h1 h2
theorem simF_mod (h1 : SimF X E a f1) (h2 : SimF X E b f2) : SimF X E (.BinOp a .Mod b pos) (mOp gMod f1 f2) := simF_op op_mod opF_mod h1 h2
theorem simF_pow (h1 : SimF X E a f1) (h2 : SimF X E b f2) : SimF X E (.BinOp a .Pow b pos) (mOp gPow f1 f2) := simF_op op_pow opF_pow h1 h2
def gNeg : PyData → Option PyData
  | .int i => some (.int (-i))
  | _ => none
theorem simF_neg (h1 : SimF X E a f1) : SimF X E (.UnaryOp .USub a pos) (mUn gNeg f1) := by
  obtain ⟨t, p, s⟩ := h1.ex
  refine ⟨_, pe_un un_neg p, fun σ ρ S A H Q r q => s σ ρ S A H _ r ((Run.bind q).imp fun d ρ1 S1 A1 H1 q1 r1 v hv => ?_)⟩
  cases hv with
  | int i => exact ⟨i, rfl, q1 S1 A1 H1 Grow.refl r1 _ (.int _)⟩
  | non => exact q1.elim
  | bl => exact q1.elim
  | str => exact q1.elim
  | lst => exact q1.elim
  | tup => exact q1.elim

/-! ### + -/
def rCatR : R2 := fun x y H Q => ∃ l b xs zs, x = .ref l ∧ y = .ref b ∧ Rd H l (.lst xs) ∧ Rd H b (.lst zs) ∧ xs.length + zs.length ≤ sizeLine ∧ ∀ p, H p = none → Q (.ref p) (upd H p (.lst (xs ++ zs)))
theorem op_catR : OpR X (binaryOp .Add) rCatR := by
  intro pins s σ H x y v u Q I rx ry h
  obtain ⟨l, b, xs, zs, rfl, rfl, hH, hB, hz, q⟩ := h
  cases rx
  cases ry
  obtain ⟨z, its, n, r, e⟩ := hH.ok I.hok
  obtain ⟨z2, its2, n2, r2, e2⟩ := hB.ok I.hok
  have hl := r.length
  have hl2 := r2.length
  refine PySem.P.add_list e e2 ?_ (by rw [List.size_toArray, List.size_toArray]; omega)
  have ea : its.toArray ++ its2.toArray = (its ++ its2).toArray := by simp
  rw [ea]
  exact ⟨.ref _, _, I.lnew (t' := s.toks) (r.append r2) (by rw [List.length_append]; omega), rfl, q _ I.fresh⟩
def gAdd : PyData → PyData → Option MD
  | .int i, .int j => some (.fz (.int (i + j)))
  | .str x, .str y => if x.length + y.length ≤ sizeLine then some (.fz (.str (x ++ y))) else none
  | .list xs, .list ys => if xs.length + ys.length ≤ sizeLine then some (.ml ((xs ++ ys).map .fz)) else none
  | .tuple xs, .tuple ys => if xs.length + ys.length ≤ sizeLine then some (.fz (.tuple (xs ++ ys))) else none
  | _, _ => none
def rAddU (K : PySem.W.Frag) : R2 := fun x y H Q => (rI0 fun i j => .int (i + j)) x y H Q ∨ (fun x y H Q => (fun x y H Q => ∃ i j, x = .str i ∧ y = .str j ∧ i.length + j.length ≤ sizeLine ∧ Q (.str (i ++ j)) H) x y H Q ∨ (fun x y H Q => rCatR x y H Q ∨ rCatA K x y H Q) x y H Q) x y H Q
theorem op_addU : OpR X (binaryOp .Add) (rAddU X.K) := OpR.or op_add (OpR.or op_add_str (OpR.or op_catR op_catA))
theorem ite_some {α : Type} {c : Prop} [Decidable c] {a b : α} (h : (if c then some a else none) = some b) : c ∧ a = b := by
  by_cases q : c
  · rw [if_pos q] at h
    exact ⟨q, Option.some.inj h⟩
  · rw [if_neg q] at h
    cases h
theorem new_tup {S H : Hp} {Q : VK} {xs : List V} {ds : List PyData} (s : Sub S H) (hs : FzA K S xs ds) (q : ∀ v S' B H', New S H S' B H' → RepM K G S' H' v (.fz (.tuple ds)) B → Q v H') : ∀ p, H p = none → Q (.ref p) (upd H p (.tup xs)) := fun p np => by
  have n := New.tup (o := .tup xs) s np
  exact q _ _ [] _ n (.fz (.tup (.inl (.inl upd_same)) (dpA_mono n.ss hs)))
theorem new_lst {S H : Hp} {Q : VK} {xs : List V} {ds : List PyData} (s : Sub S H) (hs : FzA K S xs ds) (q : ∀ v S' B H', New S H S' B H' → RepM K G S' H' v (.ml (ds.map .fz)) B → Q v H') : ∀ p, H p = none → Q (.ref p) (upd H p (.lst xs)) := fun p np => by
  have n := New.lst (o := .lst xs) s np
  exact q _ _ _ _ n (rep_lst upd_same hs)
theorem opM_add : OpM K G (rAddU K) gAdd := fun S H Q x y a b m s hx hy e q => by
  cases hx with
  | int i =>
    cases hy with
    | int j =>
      injection e with e
      subst e
      exact .inl ⟨i, j, rfl, rfl, q _ S [] H (New.refl s) (.fz (.int _))⟩
    | _ => cases e
  | str i =>
    cases hy with
    | str j =>
      obtain ⟨hz, e⟩ := ite_some e
      subst e
      exact .inr (.inl ⟨i, j, rfl, rfl, hz, q _ S [] H (New.refl s) (.fz (.str _))⟩)
    | _ => cases e
  | lst h1 hs1 =>
    cases hy with
    | lst h2 hs2 =>
      obtain ⟨hz, e⟩ := ite_some e
      subst e
      exact .inr (.inr (.inl ⟨_, _, _, _, rfl, rfl, s.rd (.inl h1), s.rd (.inl h2), by rw [dpA_len hs1, dpA_len hs2]; exact hz, new_lst s (dpA_app hs1 hs2) q⟩))
    | _ => cases e
  | tup h1 hs1 =>
    cases hy with
    | tup h2 hs2 =>
      obtain ⟨hz, e⟩ := ite_some e
      subst e
      refine .inr (.inr (.inr ⟨_, _, _, _, rfl, rfl, s.t h1, s.t h2, by rw [dpA_len hs1, dpA_len hs2]; exact hz, fun e1 => ?_, fun _ e2 => ?_, fun _ _ => new_tup s (dpA_app hs1 hs2) q⟩))
      · subst e1
        cases hs1
        exact q _ S [] H (New.refl s) (.fz (.tup h2 hs2))
      · subst e2
        cases hs2
        rw [List.append_nil] at q
        exact q _ S [] H (New.refl s) (.fz (.tup h1 hs1))
    | _ => cases e
  | _ => cases hy <;> cases e
theorem simM_add (h1 : SimF X E a f1) (h2 : SimF X E b f2) : SimM X E (.BinOp a .Add b pos) (mOp gAdd f1 f2) := simM_op op_addU opM_add h1 h2

/-! ### comparisons -/
def gCmp (p : Int → Int → Bool) : PyData → PyData → Option PyData := int2 fun i j => some (.bool (p i j))
theorem opF_cmp {p : Int → Int → Bool} : OpF K (rI0 fun i j => .bl (p i j)) (gCmp p) := fun S H Q x y a b d s hx hy e q => by
  obtain ⟨i, j, rfl, rfl, e⟩ := int2_inv hx hy e
  injection e with e
  subst e
  exact ⟨i, j, rfl, rfl, q _ S H (New.refl s) (.bl _)⟩
abbrev gLt := gCmp fun i j => decide (i < j)
abbrev gLe := gCmp fun i j => decide (i ≤ j)
abbrev gGt := gCmp fun i j => decide (j < i)
abbrev gGe := gCmp fun i j => decide (j ≤ i)
def gEq : PyData → PyData → Option PyData := fun a b => if (SeqAt.shaped a && SeqAt.shaped b) = true then some (.bool (PyData.eqv a b)) else none
def gNe : PyData → PyData → Option PyData := fun a b => if (SeqAt.shaped a && SeqAt.shaped b) = true then some (.bool (!PyData.eqv a b)) else none
theorem opF_eq : OpF K (rEqD K) gEq := fun S H Q x y a b d s hx hy e q => by
  obtain ⟨hz, e⟩ := ite_some e
  subst e
  rw [Bool.and_eq_true] at hz
  exact ⟨a, b, (dp_mono s hx).dp, (dp_mono s hy).dp, hz.1, hz.2, q _ S H (New.refl s) (.bl _)⟩
theorem opF_ne : OpF K (rNeD K) gNe := fun S H Q x y a b d s hx hy e q => by
  obtain ⟨hz, e⟩ := ite_some e
  subst e
  rw [Bool.and_eq_true] at hz
  exact ⟨a, b, (dp_mono s hx).dp, (dp_mono s hy).dp, hz.1, hz.2, q _ S H (New.refl s) (.bl _)⟩
def isNone : PyData → Bool
  | .none => true
  | _ => false
def gIs : PyData → PyData → Option PyData := fun a b => if isNone b = true then some (.bool (isNone a)) else none
def gIsnt : PyData → PyData → Option PyData := fun a b => if isNone b = true then some (.bool (!isNone a)) else none
theorem none_of {y : V} {b : PyData} (h : Fz K S y b) (e : isNone b = true) : y = .non := by
  cases h <;> first | rfl | cases e
theorem isNone_of {y : V} {b : PyData} (h : Fz K S y b) : decide (y = .non) = isNone b := by
  cases h <;> first | rfl | exact decide_eq_false fun z => nomatch z
theorem opF_is : OpF K (fun x y H Q => y = .non ∧ Q (.bl (decide (x = .non))) H) gIs := fun S H Q x y a b d s hx hy e q => by
  obtain ⟨hz, e⟩ := ite_some e
  subst e
  refine ⟨none_of hy hz, ?_⟩
  rw [isNone_of hx]
  exact q _ S H (New.refl s) (.bl _)
theorem opF_isnt : OpF K (fun x y H Q => y = .non ∧ Q (.bl (!decide (x = .non))) H) gIsnt := fun S H Q x y a b d s hx hy e q => by
  obtain ⟨hz, e⟩ := ite_some e
  subst e
  refine ⟨none_of hy hz, ?_⟩
  rw [isNone_of hx]
  exact q _ S H (New.refl s) (.bl _)
/-! in: flat items -/
theorem flatV_of {y : V} {b : PyData} (h : Fz K S y b) (e : flatD b = true) : flatV y = true := by
  cases h <;> first | rfl | cases e
theorem eqV_of {x y : V} {a b : PyData} (h : Fz K S x a) (h2 : Fz K S y b) (ea : flatD a = true) (eb : flatD b = true) : eqV x y = PyData.eqv a b := by
  cases h <;> cases h2 <;> first | rfl | (simp [eqV, PyData.eqv]; done) | cases ea | cases eb | (simp [eqV, PyData.eqv])
theorem flatA_of : ∀ {xs : List V} {ds : List PyData}, FzA K S xs ds → ds.all flatD = true → xs.all flatV = true
  | _, _, .nil, _ => rfl
  | _, _, .cons h hs, e => by
    rw [List.all_cons, Bool.and_eq_true] at e ⊢
    exact ⟨flatV_of h e.1, flatA_of hs e.2⟩
theorem inV_of {x : V} {a : PyData} (h : Fz K S x a) (ea : flatD a = true) : ∀ {xs : List V} {ds : List PyData}, FzA K S xs ds → ds.all flatD = true → inV x xs = ds.any fun z => PyData.eqv z a
  | _, _, .nil, _ => rfl
  | _, _, .cons g gs, e => by
    rw [List.all_cons, Bool.and_eq_true] at e
    unfold inV
    rw [List.any_cons, List.any_cons, eqV_of g h e.1 ea]
    exact congrArg _ (inV_of h ea gs e.2)
def inD (a : PyData) (ds : List PyData) : Option Bool := if (flatD a && ds.all flatD) = true then some (ds.any fun z => PyData.eqv z a) else none
def gIn : PyData → PyData → Option PyData := fun a b => match b with
  | .list ds => (inD a ds).map .bool
  | .tuple ds => (inD a ds).map .bool
  | _ => none
def gNotIn : PyData → PyData → Option PyData := fun a b => match b with
  | .list ds => (inD a ds).map fun b => .bool (!b)
  | .tuple ds => (inD a ds).map fun b => .bool (!b)
  | _ => none
theorem inD_some {a : PyData} {ds : List PyData} {k : Bool} (h : inD a ds = some k) : flatD a = true ∧ ds.all flatD = true ∧ (ds.any fun z => PyData.eqv z a) = k := by
  obtain ⟨hz, e⟩ := ite_some h
  rw [Bool.and_eq_true] at hz
  exact ⟨hz.1, hz.2, e⟩
theorem opF_in : OpF K (rIn K false) gIn := fun S H Q x y a b d s hx hy e q => by
  cases hy with
  | lst h hs =>
    obtain ⟨k, e1, e2⟩ := Option.map_eq_some_iff.mp e
    obtain ⟨fa, fd, ek⟩ := inD_some e1
    subst e2
    refine ⟨_, _, rfl, .inl (.inl (s.rd (.inl h))), flatV_of hx fa, flatA_of hs fd, ?_⟩
    rw [inV_of hx fa hs fd, ek]
    exact q _ S H (New.refl s) (.bl _)
  | tup h hs =>
    obtain ⟨k, e1, e2⟩ := Option.map_eq_some_iff.mp e
    obtain ⟨fa, fd, ek⟩ := inD_some e1
    subst e2
    refine ⟨_, _, rfl, .inr (s.t h), flatV_of hx fa, flatA_of hs fd, ?_⟩
    rw [inV_of hx fa hs fd, ek]
    exact q _ S H (New.refl s) (.bl _)
  | _ => cases e
theorem opF_notIn : OpF K (rIn K true) gNotIn := fun S H Q x y a b d s hx hy e q => by
  cases hy with
  | lst h hs =>
    obtain ⟨k, e1, e2⟩ := Option.map_eq_some_iff.mp e
    obtain ⟨fa, fd, ek⟩ := inD_some e1
    subst e2
    refine ⟨_, _, rfl, .inl (.inl (s.rd (.inl h))), flatV_of hx fa, flatA_of hs fd, ?_⟩
    rw [inV_of hx fa hs fd, ek]
    exact q _ S H (New.refl s) (.bl _)
  | tup h hs =>
    obtain ⟨k, e1, e2⟩ := Option.map_eq_some_iff.mp e
    obtain ⟨fa, fd, ek⟩ := inD_some e1
    subst e2
    refine ⟨_, _, rfl, .inr (s.t h), flatV_of hx fa, flatA_of hs fd, ?_⟩
    rw [inV_of hx fa hs fd, ek]
    exact q _ S H (New.refl s) (.bl _)
  | _ => cases e
/-- the comparisons of one operator, as a value and as a test -/
structure CmpS (X : Cx) (op : CmpOp) (g : PyData → PyData → Option PyData) : Prop where
  ex : ∃ r, OpR X (compareOp op) r ∧ OpF X.K r g
theorem cs_lt : CmpS X .Lt gLt := ⟨_, op_lt, opF_cmp⟩
theorem cs_le : CmpS X .LtE gLe := ⟨_, op_le, opF_cmp⟩
theorem cs_gt : CmpS X .Gt gGt := ⟨_, op_gt, opF_cmp⟩
theorem cs_ge : CmpS X .GtE gGe := ⟨_, op_ge, opF_cmp⟩
theorem cs_eq (hu : X.A.units + 64 < cLine) : CmpS X .Eq gEq := ⟨_, op_eqD hu, opF_eq⟩
theorem cs_ne (hu : X.A.units + 64 < cLine) : CmpS X .NotEq gNe := ⟨_, op_neD hu, opF_ne⟩
theorem cs_is : CmpS X .Is gIs := ⟨_, op_isN, opF_is⟩
theorem cs_isnt : CmpS X .IsNot gIsnt := ⟨_, op_notN, opF_isnt⟩
theorem cs_in : CmpS X .In gIn := ⟨_, op_in_seq, opF_in⟩
theorem cs_notIn : CmpS X .NotIn gNotIn := ⟨_, op_notIn_seq, opF_notIn⟩
section
variable {op op' : CmpOp} {g g' : PyData → PyData → Option PyData}
theorem simF_c (h : CmpS X op g) (h1 : SimF X E a f1) (h2 : SimF X E b f2) (hm : behindInMarks op b = false := by first | exact nomark _ | rfl | with_unfolding_all rfl) : SimF X E (.Compare a [op] [b] pos) (mOp g f1 f2) := by
  obtain ⟨r, ho, hs⟩ := h.ex
  exact simF_cmp ho hs h1 h2 hm
theorem simT_c (h : CmpS X op g) (h1 : SimF X E a f1) (h2 : SimF X E b f2) (hm : behindInMarks op b = false := by first | exact nomark _ | rfl | with_unfolding_all rfl) : SimT X E (.Compare a [op] [b] pos) (mB (mOp g f1 f2)) := by
  obtain ⟨r, ho, hs⟩ := h.ex
  exact simT_cmp ho hs h1 h2 hm
theorem simF_c2 (h : CmpS X op g) (h' : CmpS X op' g') (h1 : SimF X E a f1) (h2 : SimF X E b f2) (h3 : SimF X E c f3) (hm : lastMarks [op, op'] [b, c] = false := by with_unfolding_all rfl) : SimF X E (.Compare a [op, op'] [b, c] pos) (mChain g g' f1 f2 f3) := by
  obtain ⟨r, ho, hs⟩ := h.ex
  obtain ⟨r', ho', hs'⟩ := h'.ex
  exact simF_chain ho ho' hs hs' h1 h2 h3 hm
theorem simT_c2 (h : CmpS X op g) (h' : CmpS X op' g') (h1 : SimF X E a f1) (h2 : SimF X E b f2) (h3 : SimF X E c f3) (hm : lastMarks [op, op'] [b, c] = false := by with_unfolding_all rfl) : SimT X E (.Compare a [op, op'] [b, c] pos) (mB (mChain g g' f1 f2 f3)) := by
  obtain ⟨r, ho, hs⟩ := h.ex
  obtain ⟨r', ho', hs'⟩ := h'.ex
  exact simT_chain ho ho' hs hs' h1 h2 h3 hm
end
/-! ### items -/
def gIx : PyData → PyData → Option PyData := fun a b => match a, b with
  | .list ds, .int i => atI ds i
  | .tuple ds, .int i => atI ds i
  | .str z, .int i => if z.length ≤ sizeLine then (atI z.cps.toList i).map fun c => .str ⟨#[c]⟩ else none
  | _, _ => none
theorem atI_of {xs : List V} {ds : List PyData} {i : Int} {d : PyData} (h : FzA K S xs ds) (e : atI ds i = some d) : ∃ v, atI xs i = some v ∧ Fz K S v d := by
  unfold atI at e ⊢
  rw [dpA_len h]
  obtain ⟨j, e1, e2⟩ := Option.bind_eq_some_iff.mp e
  rw [e1]
  exact dpA_get h e2
theorem opF_ix : OpF K (rIx K) gIx := fun S H Q x y a b d s hx hy e q => by
  cases hx with
  | lst h hs =>
    cases hy with
    | int i =>
      obtain ⟨v, e1, hv⟩ := atI_of hs e
      exact .inl ⟨_, _, i, v, rfl, rfl, .inl (s.rd (.inl h)), e1, q _ S H (New.refl s) hv⟩
    | _ => cases e
  | tup h hs =>
    cases hy with
    | int i =>
      obtain ⟨v, e1, hv⟩ := atI_of hs e
      exact .inr (.inl ⟨_, _, i, v, rfl, rfl, s.t h, e1, q _ S H (New.refl s) hv⟩)
    | _ => cases e
  | str z =>
    cases hy with
    | int i =>
      unfold gIx at e
      by_cases hz : z.length ≤ sizeLine
      · simp only [if_pos hz] at e
        obtain ⟨c, e1, e2⟩ := Option.map_eq_some_iff.mp e
        subst e2
        exact .inr (.inr ⟨z, i, c, rfl, rfl, hz, e1, q _ S H (New.refl s) (.str _)⟩)
      · simp only [if_neg hz] at e
        cases e
    | _ => cases e
  | _ => cases hy <;> cases e
theorem simF_at (h1 : SimF X E a f1) (h2 : SimF X E b f2) (hp : PlainIx b := by exact fun _ _ => rfl) : SimF X E (.Subscript a b pos) (mOp gIx f1 f2) := simF_ix ix_seq opF_ix h1 h2 hp
end DR
end
section
/-! DR4: slices, builtins by name, isinstance. -/
namespace DR
open PySem L2
variable {K : PySem.W.Frag} {G : Str → Option Value} {S S' S1 H H' H1 : Hp} {A A' A1 B C : List Addr} {E : XK} {σ : St} {ρ : Sl} {X : Cx} {e a b c : Expr} {es : List Expr} {pos : Pos} {f1 f2 f3 : Sl → R PyData} {fs : Sl → R (List PyData)}

/-! ### slices -/
structure SimO (X : Cx) (E : XK) (e : Option Expr) (f : Sl → R (Option Int)) : Prop where
  ex : ∃ t, PO X e t ∧ ∀ σ ρ S A H Q, Rel X.K X.mg S ρ A σ H →
    Run X.K X.mg E S A σ H (f ρ) (fun o ρ' S' A' H' => Rel X.K X.mg S' ρ' A' σ H' → Q o H') → t σ H Q
def mNoPart : Sl → R (Option Int) := fun ρ => .ok none ρ
def mPart (f : Sl → R PyData) : Sl → R (Option Int) := fun ρ => (f ρ).bind fun d ρ => match d with
  | .int i => .ok (some i) ρ
  | _ => .bad
theorem simO_none : SimO X E none mNoPart := ⟨_, po_none, fun σ ρ S A H Q r q => q S A H Grow.refl r⟩
theorem simO_some (h : SimF X E e f1) : SimO X E (some e) (mPart f1) := by
  obtain ⟨t, p, s⟩ := h.ex
  refine ⟨_, po_some p, fun σ ρ S A H Q r q => s σ ρ S A H _ r ((Run.bind q).imp fun d ρ1 S1 A1 H1 q1 r1 v hv => ?_)⟩
  cases hv with
  | int i => exact ⟨i, rfl, q1 S1 A1 H1 Grow.refl r1⟩
  | _ => exact q1.elim
def cutD {α : Type} (xs : List α) (lo hi : Option Int) : List α := (xs.drop (HT.sIx xs.length 0 lo)).take (HT.sIx xs.length xs.length hi - HT.sIx xs.length 0 lo)
theorem cut_of {xs : List V} {ds : List PyData} (h : FzA K S xs ds) (lo hi : Option Int) : FzA K S (cutV xs lo hi) (cutD ds lo hi) := by
  unfold cutV cutD
  rw [dpA_len h]
  exact dpA_take _ (dpA_drop _ h)
def gCut (x : PyData) (lo hi : Option Int) : Option MD := match x with
  | .list ds => some (.ml ((cutD ds lo hi).map .fz))
  | .tuple ds => some (.fz (.tuple (cutD ds lo hi)))
  | .str z => if z.length ≤ sizeLine then some (.fz (.str (cutS z lo hi))) else none
  | _ => none
def mCut (f : Sl → R PyData) (l u : Sl → R (Option Int)) : Sl → R MD := fun ρ => (f ρ).bind fun x ρ => (l ρ).bind fun lo ρ => (u ρ).bind fun hi ρ => lft (gCut x lo hi) ρ
def rSlU (K : PySem.W.Frag) : V → Option Int → Option Int → Hp → VK → Prop := fun x lo hi H Q => rSlL K x lo hi H Q ∨ (fun x lo hi H Q => rSlA K x lo hi H Q ∨ rSlS x lo hi H Q) x lo hi H Q
theorem sl_U : SlR X (rSlU X.K) := SlR.or sl_list (SlR.or sl_tupA sl_str)
theorem simM_cut {lo hi : Option Expr} {l u : Sl → R (Option Int)} {p2 : Pos} (h : SimF X E e f1) (hl : SimO X E lo l) (hu : SimO X E hi u) : SimM X E (.Subscript e (.Slice lo hi none p2) pos) (mCut f1 l u) := by
  obtain ⟨t, p, s⟩ := h.ex
  obtain ⟨tl, pl, sl⟩ := hl.ex
  obtain ⟨tu, pu, su⟩ := hu.ex
  refine ⟨_, pe_slice sl_U p pl pu, fun σ ρ S A H Q r q => s σ ρ S A H _ r ((Run.bind q).imp fun d ρ1 S1 A1 H1 q1 r1 v hv => ?_)⟩
  refine sl σ ρ1 S1 A1 H1 _ r1 ((Run.bind q1).impG fun i ρ2 S2 A2 H2 g2 q2 r2 => ?_)
  refine su σ ρ2 S2 A2 H2 _ r2 ((Run.bind q2).impG fun j ρ3 S3 A3 H3 g3 q3 r3 => ?_)
  have hv3 := dp_mono (g2.ss.trans g3.ss) hv
  unfold lft at q3
  cases z : gCut d i j with
  | none => rw [z] at q3; exact q3.elim
  | some m =>
    rw [z] at q3
    have fin : ∀ v S' B H', New S3 H3 S' B H' → RepM X.K X.mg S' H' v m B → Q v H' := fun v S' B H' n h => q3 S' (B ++ A3) H' n.grow v (n.rel r3 h)
    cases hv3 with
    | lst h hs =>
      injection z with z
      subst z
      exact .inl ⟨_, _, rfl, .inl (r3.sub.rd (.inl h)), new_lst r3.sub (cut_of hs i j) fin⟩
    | tup h hs =>
      injection z with z
      subst z
      refine .inr (.inl ⟨_, _, rfl, r3.sub.t h, fun e => ?_, fun _ => new_tup r3.sub (cut_of hs i j) fin⟩)
      refine fin _ S3 [] H3 (New.refl r3.sub) (.fz (.tup h ?_))
      unfold cutD
      rw [dpA_len hs] at e
      rw [e.1, e.2]
      have := hs
      rw [List.drop_zero, Nat.sub_zero, List.take_length]
      exact hs
    | str w =>
      obtain ⟨hz, z⟩ := ite_some z
      subst z
      exact .inr (.inr ⟨w, rfl, hz, fin _ S3 [] H3 (New.refl r3.sub) (.fz (.str _))⟩)
    | _ => cases z

/-! ### builtins -/
def gLen : List PyData → Option PyData
  | [.list ds] => some (.int ds.length)
  | [.tuple ds] => some (.int ds.length)
  | [.str z] => if z.length ≤ sizeLine then some (.int z.length) else none
  | _ => none
theorem fzA1 {xs : List V} {d : PyData} (h : FzA K S xs [d]) : ∃ v, xs = [v] ∧ Fz K S v d := by
  cases h with
  | cons h hs => cases hs; exact ⟨_, rfl, h⟩
theorem fzA2 {xs : List V} {d d' : PyData} (h : FzA K S xs [d, d']) : ∃ v w, xs = [v, w] ∧ Fz K S v d ∧ Fz K S w d' := by
  cases h with
  | cons h hs =>
    obtain ⟨w, e, h2⟩ := fzA1 hs
    subst e
    exact ⟨_, _, rfl, h, h2⟩
theorem callF_len : CallF K (fun xs H Q => ∃ x n, xs = [x] ∧ LenV K x H n ∧ Q (.int n) H) gLen := fun S H Q xs as d s h e q => by
  unfold gLen at e
  split at e
  · obtain ⟨v, rfl, hv⟩ := fzA1 h
    injection e with e
    subst e
    cases hv with
    | lst h1 hs1 => exact ⟨_, _, rfl, .inl ⟨_, .inl (s.rd (.inl h1)), (dpA_len hs1).symm⟩, q _ S H (New.refl s) (.int _)⟩
  · obtain ⟨v, rfl, hv⟩ := fzA1 h
    injection e with e
    subst e
    cases hv with
    | tup h1 hs1 => exact ⟨_, _, rfl, .inr ⟨_, s.t h1, (dpA_len hs1).symm⟩, q _ S H (New.refl s) (.int _)⟩
  · obtain ⟨v, rfl, hv⟩ := fzA1 h
    obtain ⟨hz, e⟩ := ite_some e
    subst e
    cases hv with
    | str => exact ⟨_, _, rfl, ⟨hz, rfl⟩, q _ S H (New.refl s) (.int _)⟩
  · cases e
theorem simF_len {p : Pos} (hm : X.mg "len" = none) (h : SimF X E e f1) (hg : Gl X "len" := by rfl) (he : starEach [e] X.env = (false, eval e X.env) :: starEach [] X.env := by rfl) (hpl : (backTo pos (starEach [] X.env)).any (·.1) = false := by rfl) :
    SimF X E (.Call (.Name "len" p) [e] [] pos) (mCall gLen (mCons f1 mNil)) := simF_B call_len callF_len hm PySem.boot_len (simA_cons h simA_nil he) hg (by decide) (by decide) he hpl
def gInts2 (g : Int → Int → Int) : List PyData → Option PyData
  | [.int i, .int j] => some (.int (g i j))
  | _ => none
theorem callF_ints2 {g : Int → Int → Int} : CallF K (fun xs H Q => ∃ i j, xs = [.int i, .int j] ∧ Q (.int (g i j)) H) (gInts2 g) := fun S H Q xs as d s h e q => by
  unfold gInts2 at e
  split at e
  · obtain ⟨v, w, rfl, hv, hw⟩ := fzA2 h
    injection e with e
    subst e
    cases hv
    cases hw
    exact ⟨_, _, rfl, q _ S H (New.refl s) (.int _)⟩
  · cases e
def gMax2 := gInts2 fun i j => if j > i then j else i
def gMin2 := gInts2 fun i j => if j < i then j else i
theorem simF_max2 {p : Pos} (hc : X.calm = true) (hm : X.mg "max" = none) (h : SimF X E a f1) (h2 : SimF X E b f2) (hg : Gl X "max" := by rfl) (he : starEach [a, b] X.env = (false, eval a X.env) :: starEach [b] X.env := by rfl) (he2 : starEach [b] X.env = (false, eval b X.env) :: starEach [] X.env := by rfl)
    (hpl : (backTo pos (starEach [b] X.env)).any (·.1) = false := by rfl) : SimF X E (.Call (.Name "max" p) [a, b] [] pos) (mCall gMax2 (mCons f1 (mCons f2 mNil))) :=
  simF_B (call_max2 hc) callF_ints2 hm (by decide +kernel) (simA_cons h (simA_cons h2 simA_nil he2) he) hg (by decide) (by decide) he hpl
theorem simF_min2 {p : Pos} (hc : X.calm = true) (hm : X.mg "min" = none) (h : SimF X E a f1) (h2 : SimF X E b f2) (hg : Gl X "min" := by rfl) (he : starEach [a, b] X.env = (false, eval a X.env) :: starEach [b] X.env := by rfl) (he2 : starEach [b] X.env = (false, eval b X.env) :: starEach [] X.env := by rfl)
    (hpl : (backTo pos (starEach [b] X.env)).any (·.1) = false := by rfl) : SimF X E (.Call (.Name "min" p) [a, b] [] pos) (mCall gMin2 (mCons f1 (mCons f2 mNil))) :=
  simF_B (call_min2 hc) callF_ints2 hm (by decide +kernel) (simA_cons h (simA_cons h2 simA_nil he2) he) hg (by decide) (by decide) he hpl
def gInt1 : List PyData → Option PyData
  | [.int i] => some (.int i)
  | [.bool k] => some (.int (if k then 1 else 0))
  | _ => none
theorem callF_int1 : CallF K (fun xs H Q => (∃ i, xs = [.int i] ∧ Q (.int i) H) ∨ ∃ k, xs = [.bl k] ∧ Q (.int (if k then 1 else 0)) H) gInt1 := fun S H Q xs as d s h e q => by
  unfold gInt1 at e
  split at e
  · obtain ⟨v, rfl, hv⟩ := fzA1 h
    injection e with e
    subst e
    cases hv
    exact .inl ⟨_, rfl, q _ S H (New.refl s) (.int _)⟩
  · obtain ⟨v, rfl, hv⟩ := fzA1 h
    injection e with e
    subst e
    cases hv
    exact .inr ⟨_, rfl, q _ S H (New.refl s) (.int _)⟩
  · cases e
theorem simF_int1 {p : Pos} (hm : X.mg "int" = none) (h : SimF X E e f1) (hg : Gl X "int" := by rfl) (he : starEach [e] X.env = (false, eval e X.env) :: starEach [] X.env := by rfl) (hpl : (backTo pos (starEach [] X.env)).any (·.1) = false := by rfl) :
    SimF X E (.Call (.Name "int" p) [e] [] pos) (mCall gInt1 (mCons f1 mNil)) := simF_T call_int1 callF_int1 hm (by decide +kernel) (simA_cons h simA_nil he) hg (by decide) (by decide) he hpl
def gStr1 : List PyData → Option PyData
  | [.int i] => if i.natAbs.log2 < 1920 then some (.str (toString i)) else none
  | _ => none
theorem callF_str1 : CallF K (fun xs H Q => ∃ i, xs = [.int i] ∧ i.natAbs.log2 < 1920 ∧ Q (.str (toString i)) H) gStr1 := fun S H Q xs as d s h e q => by
  unfold gStr1 at e
  split at e
  · obtain ⟨v, rfl, hv⟩ := fzA1 h
    obtain ⟨hz, e⟩ := ite_some e
    subst e
    cases hv
    exact ⟨_, rfl, hz, q _ S H (New.refl s) (.str _)⟩
  · cases e
def gList1 : List PyData → Option MD
  | [.list ds] => some (.ml (ds.map .fz))
  | [.tuple ds] => some (.ml (ds.map .fz))
  | _ => none
theorem callM_list1 : CallM K G (fun xs H Q => ∃ p ys, xs = [.ref p] ∧ (SqL K H p ys ∨ SqT K H p ys) ∧ ∀ l, H l = none → Q (.ref l) (upd H l (.lst ys))) gList1 := fun S H Q xs as d s h e q => by
  unfold gList1 at e
  split at e
  · obtain ⟨v, rfl, hv⟩ := fzA1 h
    injection e with e
    subst e
    cases hv with
    | lst h1 hs1 => exact ⟨_, _, rfl, .inl (.inl (s.rd (.inl h1))), new_lst s hs1 q⟩
  · obtain ⟨v, rfl, hv⟩ := fzA1 h
    injection e with e
    subst e
    cases hv with
    | tup h1 hs1 => exact ⟨_, _, rfl, .inr (s.t h1), new_lst s hs1 q⟩
  · cases e
theorem simM_list1 {p : Pos} (hm : X.mg "list" = none) (h : SimF X E e f1) (hg : Gl X "list" := by rfl) (he : starEach [e] X.env = (false, eval e X.env) :: starEach [] X.env := by rfl) (hpl : (backTo pos (starEach [] X.env)).any (·.1) = false := by rfl) :
    SimM X E (.Call (.Name "list" p) [e] [] pos) (mCall gList1 (mCons f1 mNil)) := simM_T call_list_of callM_list1 hm (by decide +kernel) (simA_cons h simA_nil he) hg (by decide) (by decide) he hpl
def gTuple1 : List PyData → Option PyData
  | [.list ds] => some (.tuple ds)
  | [.tuple ds] => some (.tuple ds)
  | _ => none
theorem callF_tuple1 : CallF K (fun xs H Q => ∃ p ys, xs = [.ref p] ∧ ((SqL K H p ys ∧ ∀ l, H l = none → Q (.ref l) (upd H l (.tup ys))) ∨ (SqT K H p ys ∧ Q (.ref p) H))) gTuple1 := fun S H Q xs as d s h e q => by
  unfold gTuple1 at e
  split at e
  · obtain ⟨v, rfl, hv⟩ := fzA1 h
    injection e with e
    subst e
    cases hv with
    | @lst _ zs _ h1 hs1 =>
      refine ⟨_, _, rfl, .inl ⟨.inl (s.rd (.inl h1)), fun p np => ?_⟩⟩
      have n := New.tup (o := .tup zs) s np
      exact q _ _ _ n (.tup (.inl (.inl upd_same)) (dpA_mono n.ss hs1))
  · obtain ⟨v, rfl, hv⟩ := fzA1 h
    injection e with e
    subst e
    cases hv with
    | tup h1 hs1 => exact ⟨_, _, rfl, .inr ⟨s.t h1, q _ S H (New.refl s) (.tup h1 hs1)⟩⟩
  · cases e
theorem simF_tuple1 {p : Pos} (hm : X.mg "tuple" = none) (h : SimF X E e f1) (hg : Gl X "tuple" := by rfl) (he : starEach [e] X.env = (false, eval e X.env) :: starEach [] X.env := by rfl) (hpl : (backTo pos (starEach [] X.env)).any (·.1) = false := by rfl) :
    SimF X E (.Call (.Name "tuple" p) [e] [] pos) (mCall gTuple1 (mCons f1 mNil)) := simF_T call_tuple_of callF_tuple1 hm (by decide +kernel) (simA_cons h simA_nil he) hg (by decide) (by decide) he hpl
/-! sorted, whole numbers -/
def intsOf : List PyData → Option (List Int)
  | [] => some []
  | .int i :: ds => (intsOf ds).map (i :: ·)
  | _ :: _ => none
theorem intsOf_map (ns : List Int) : intsOf (ns.map .int) = some ns := by
  induction ns with
  | nil => rfl
  | cons n r ih => simp [intsOf, ih]
theorem ints_of : ∀ {xs : List V} {ds : List PyData} {ns : List Int}, FzA K S xs ds → intsOf ds = some ns → xs = ns.map V.int
  | _, _, _, .nil, e => by
    injection e with e
    subst e
    rfl
  | _, _, _, .cons h hs, e => by
    cases h with
    | int i =>
      obtain ⟨ns, e1, e2⟩ := Option.map_eq_some_iff.mp e
      subst e2
      rw [List.map_cons, ints_of hs e1]
    | _ => cases e
def sortI (ns : List Int) : List Int := ns.mergeSort fun a b => decide (a ≤ b)
theorem sortI_perm (ns : List Int) : (sortI ns).Perm ns := List.mergeSort_perm ns _
theorem sortI_sorted (ns : List Int) : (sortI ns).Pairwise (· ≤ ·) := by
  have h := List.pairwise_mergeSort (le := fun a b : Int => decide (a ≤ b)) (fun a b c h1 h2 => decide_eq_true (Int.le_trans (of_decide_eq_true h1) (of_decide_eq_true h2))) (fun a b => by
    rw [Bool.or_eq_true, decide_eq_true_iff, decide_eq_true_iff]
    exact Int.le_total a b) ns
  exact h.imp fun h => of_decide_eq_true h
theorem sorted_one : ∀ {xs ys : List Int}, xs.Perm ys → xs.Pairwise (· ≤ ·) → ys.Pairwise (· ≤ ·) → xs = ys := fun h h1 h2 =>
  List.Perm.eq_of_pairwise (fun a b _ _ h3 h4 => Int.le_antisymm h3 h4) h1 h2 h
def gSortI : List PyData → Option MD
  | [.list ds] => (intsOf ds).map fun ns => .ml ((sortI ns).map fun n => .fz (.int n))
  | _ => none
theorem callM_sortI : CallM K G (rSortedI K) gSortI := fun S H Q xs as d s h e q => by
  unfold gSortI at e
  split at e
  · obtain ⟨v, rfl, hv⟩ := fzA1 h
    obtain ⟨ns, e1, e2⟩ := Option.map_eq_some_iff.mp e
    subst e2
    cases hv with
    | lst h1 hs1 =>
      have ex := ints_of hs1 e1
      subst ex
      refine ⟨_, ns, rfl, .inl (s.rd (.inl h1)), fun ns' p hp hs np => ?_⟩
      have en : ns' = sortI ns := sorted_one (hp.trans (sortI_perm ns).symm) hs (sortI_sorted ns)
      subst en
      have z := new_lst (G := G) s (dpA_ints (K := K) (S := S) (ns := sortI ns)) (Q := Q) (fun v S' B H' n h => q v S' B H' n (by rw [List.map_map] at h; exact h)) p np
      exact z
  · cases e
theorem simM_sortI {p : Pos} (hm : X.mg "sorted" = none) (h : SimF X E e f1) (hg : Gl X "sorted" := by rfl) (he : starEach [e] X.env = (false, eval e X.env) :: starEach [] X.env := by rfl) (hpl : (backTo pos (starEach [] X.env)).any (·.1) = false := by rfl) :
    SimM X E (.Call (.Name "sorted" p) [e] [] pos) (mCall gSortI (mCons f1 mNil)) := simM_B cr_sortedI callM_sortI hm (by decide +kernel) (simA_cons h simA_nil he) hg (by decide) (by decide) he hpl
/-! isinstance of built-in types -/
def tyD : PyData → String
  | .none => "NoneType"
  | .bool _ => "bool"
  | .int _ => "int"
  | .str _ => "str"
  | .list _ => "list"
  | .tuple _ => "tuple"
  | .dict _ => "dict"
def gIsi (T : String) : PyData → Option PyData := fun d => (kitB (tyD d) T).map .bool
theorem tyX_of {v : V} {d : PyData} (s : Sub S H) (h : Fz K S v d) : TyX K H v (.type (tyD d)) := by
  cases h with
  | non => exact .base .non
  | bl b => exact .base (.bl b)
  | int i => exact .base (.int i)
  | str x => exact .base (.str x)
  | lst h1 hs1 =>
    exact .base (.lst (s _ _ h1))
  | tup h1 hs1 =>
    rcases h1 with (h | ⟨o, h⟩) | ⟨o, its, n, h1, h2, _⟩
    · exact .base (.tup (s _ _ h))
    · exact .fTuple (s _ _ h)
    · exact .kTuple h1 h2
theorem simF_isi {T x : String} {p p2 : Pos} (hm : X.mg "isinstance" = none) (hT : X.mg (Str.ofString x) = none) (hv : bootBuiltins (Str.ofString x) = some (.type T)) (h : SimF X E e f1) (hg : Gl X "isinstance" := by rfl) (hgT : Gl X (Str.ofString x) := by rfl)
    (hn : (Str.ofString x) ≠ "__name__" := by decide) (hdb : ((Str.ofString x) == ("__debug__" : Str)) = false := by decide)
    (he : starEach [e, .Name (Str.ofString x) p2] X.env = (false, eval e X.env) :: starEach [.Name (Str.ofString x) p2] X.env := by rfl) (he2 : starEach [.Name (Str.ofString x) p2] X.env = (false, eval (.Name (Str.ofString x) p2) X.env) :: starEach [] X.env := by rfl)
    (hpl : (backTo pos (starEach [.Name (Str.ofString x) p2] X.env)).any (·.1) = false := by rfl) :
    SimF X E (.Call (.Name "isinstance" p) [e, .Name (Str.ofString x) p2] [] pos) (mUn (gIsi T) f1) := by
  obtain ⟨t, pa, s⟩ := h.ex
  refine ⟨_, pe_callB call_isi hg hm (by decide +kernel) (pa_cons pa (pa_cons (pe_bltn (v := .ty T) hgT hT hv rfl hn hdb) pa_nil he2) he) (by decide) (by decide) he hpl, fun σ ρ S A H Q r q => s σ ρ S A H _ r ((Run.bind q).imp fun d ρ1 S1 A1 H1 q1 r1 v hv => ?_)⟩
  unfold lft at q1
  cases z : gIsi T d with
  | none => rw [z] at q1; exact q1.elim
  | some m =>
    rw [z] at q1
    obtain ⟨k, e1, e2⟩ := Option.map_eq_some_iff.mp z
    subst e2
    exact ⟨v, .ty T, _, _, k, rfl, .ty T, tyX_of r1.sub hv, kit_ty e1, q1 S1 A1 H1 Grow.refl r1 _ (.bl k)⟩
end DR
end
section
/-! DR5: calls of defs of one's own. -/
namespace DR
open PySem L2
variable {K : PySem.W.Frag} {G : Str → Option Value} {S S' S1 H H' H1 : Hp} {A A' A1 B C : List Addr} {E : XK} {σ : St} {ρ : Sl} {X : Cx} {e a b c : Expr} {es : List Expr} {pos : Pos} {f1 f2 f3 : Sl → R PyData} {fs : Sl → R (List PyData)}

inductive FR where
  | ok (m : MD) (args : List MD)
  | exc (x : Exn) (args : List MD)
  | bad
abbrev FnSem := List MD → FR
/-- a def's promise: what it hands back, how its arguments stand behind it -/
def spOf (K : PySem.W.Frag) (G : Str → Option Value) (F : FnSem) : Sp := fun vs H Q E => ∃ S ms A, Rel K G S (ms.map some) A (vs.map some) H ∧ match F ms with
  | .ok m ms' => ∀ v S' A' H', Grow S A H S' A' H' → Rel K G S' (some m :: ms'.map some) A' (some v :: vs.map some) H' → Q v H'
  | .exc x ms' => ∀ S' A' H' cls dd, Grow S A H S' A' H' → Rel K G S' (ms'.map some) A' (vs.map some) H' → ExcAt K G S' H' x cls dd → E cls dd H'
  | .bad => False

theorem repO_of : ∀ {vs : List V} {ms : List MD} {A : List Addr}, RepMs K G S H vs ms A → RepO K G S H (vs.map some) (ms.map some) A
  | _, _, _, .nil => .nil
  | _, _, _, .cons h hs => .keep h (repO_of hs)
theorem repMs_of : ∀ {vs : List V} {ms : List MD} {A : List Addr}, RepO K G S H (vs.map some) (ms.map some) A → RepMs K G S H vs ms A
  | [], [], _, h => by cases h; exact .nil
  | v :: vs, m :: ms, _, h => by
    cases h with
    | keep h hs => exact .cons h (repMs_of hs)
  | [], m :: ms, _, h => by cases h
  | v :: vs, [], _, h => by cases h

/-! ### arguments -/
inductive AV where
  | d (d : PyData)
  | i (j : Nat)
def AvR (K : PySem.W.Frag) (S : Hp) (σ : St) (v : V) : AV → Prop
  | .d d => Fz K S v d
  | .i j => σ[j]? = some (some v)
theorem avR_mono (s : Sub S S') : ∀ {vs : List V} {as : List AV}, Paired (AvR K S σ) vs as → Paired (AvR K S' σ) vs as
  | _, _, .nil => .nil
  | _, _, .cons (b := b) h t => .cons (match b, h with | .d d, h => dp_mono s h | .i j, h => h) (avR_mono s t)
def argMs : Sl → List AV → Option (List MD × Sl)
  | ρ, [] => some ([], ρ)
  | ρ, .d d :: r => (argMs ρ r).map fun p => (.fz d :: p.1, p.2)
  | ρ, .i j :: r => match ρ[j]? with
    | some (some m) => (argMs (ρ.set j none) r).map fun p => (m :: p.1, p.2)
    | _ => none
def putMs : Sl → List AV → List MD → Sl
  | ρ, .d _ :: r, _ :: ms => putMs ρ r ms
  | ρ, .i j :: r, m :: ms => putMs (ρ.set j (some m)) r ms
  | ρ, _, _ => ρ
theorem take1 : ∀ {σ : St} {ρ : Sl} {A : List Addr} {j : Nat} {m : MD}, RepO K G S H σ ρ A → ρ[j]? = some (some m) → ∃ v B C, σ[j]? = some (some v) ∧ RepM K G S H v m B ∧ RepO K G S H σ (ρ.set j none) C ∧ A.Perm (B ++ C)
  | _, _, _, _, _, .nil, h => by simp at h
  | _, _, _, 0, m, .skip _, h => by simp at h
  | _, _, _, 0, m, .keep h hs, e => by
    simp at e
    subst e
    exact ⟨_, _, _, rfl, h, .skip hs, List.Perm.refl _⟩
  | _, _, _, j + 1, m, .skip h, e => by
    obtain ⟨v, B, C, a, b, c, d⟩ := take1 (j := j) (m := m) h (by simpa using e)
    exact ⟨v, B, C, by simpa using a, b, .skip c, d⟩
  | _, _, _, j + 1, m, .keep (A := A1) h hs, e => by
    obtain ⟨v, B, C, a, b, c, d⟩ := take1 (j := j) (m := m) hs (by simpa using e)
    refine ⟨v, B, A1 ++ C, by simpa using a, b, .keep h c, ?_⟩
    exact (List.Perm.append_left A1 d).trans (by
      rw [← List.append_assoc, ← List.append_assoc]
      exact List.Perm.append_right C List.perm_append_comm)
theorem put1 : ∀ {σ : St} {ρ : Sl} {C : List Addr} {j : Nat} {m : MD} {v : V} {B : List Addr}, RepO K G S H σ ρ C → ρ[j]? = some none → σ[j]? = some (some v) → RepM K G S H v m B → ∃ A, RepO K G S H σ (ρ.set j (some m)) A ∧ A.Perm (B ++ C)
  | _, _, _, _, _, _, _, .nil, h, _, _ => by simp at h
  | _, _, _, 0, m, v, B, .skip h, _, e, r => by
    simp at e
    subst e
    exact ⟨_, .keep r h, List.Perm.refl _⟩
  | _, _, _, 0, m, v, B, .keep _ _, e, _, _ => by simp at e
  | _, _, _, j + 1, m, v, B, .skip h, e, e2, r => by
    obtain ⟨A, a, b⟩ := put1 (j := j) h (by simpa using e) (by simpa using e2) r
    exact ⟨A, .skip a, b⟩
  | _, _, _, j + 1, m, v, B, .keep (A := A1) (B := C1) h hs, e, e2, r => by
    obtain ⟨A, a, b⟩ := put1 (j := j) hs (by simpa using e) (by simpa using e2) r
    refine ⟨A1 ++ A, .keep h a, ?_⟩
    exact (List.Perm.append_left A1 b).trans (by
      rw [← List.append_assoc, ← List.append_assoc]
      exact List.Perm.append_right C1 List.perm_append_comm)
theorem args_take : ∀ {as : List AV} {vs : List V} {σ : St} {ρ ρ' : Sl} {A : List Addr} {ms : List MD}, RepO K G S H σ ρ A → Paired (AvR K S σ) vs as → argMs ρ as = some (ms, ρ') → ∃ B C, RepMs K G S H vs ms B ∧ RepO K G S H σ ρ' C ∧ A.Perm (B ++ C)
  | [], _, _, _, _, A, _, h, .nil, e => by
    simp only [argMs, Option.some.injEq, Prod.mk.injEq] at e
    obtain ⟨e1, e2⟩ := e
    subst e1 e2
    exact ⟨[], A, .nil, h, List.Perm.refl _⟩
  | .d d :: r, _, _, _, _, _, _, h, .cons hv hvs, e => by
    simp only [argMs, Option.map_eq_some_iff] at e
    obtain ⟨⟨ms, ρ1⟩, e1, e2⟩ := e
    obtain ⟨B, C, a, b, c⟩ := args_take h hvs e1
    injection e2 with e2 e3
    subst e2 e3
    exact ⟨[] ++ B, C, .cons (.fz hv) a, b, c⟩
  | .i j :: r, _, _, ρ, _, _, _, h, .cons hv hvs, e => by
    unfold argMs at e
    split at e
    · rename_i m em
      obtain ⟨⟨ms, ρ1⟩, e1, e2⟩ := Option.map_eq_some_iff.mp e
      obtain ⟨v, B1, C1, a1, b1, c1, d1⟩ := take1 h em
      obtain ⟨B, C, a, b, c⟩ := args_take c1 hvs e1
      injection e2 with e2 e3
      subst e2 e3
      have ev : some (some v) = some (some _) := a1.symm.trans hv
      injection ev with ev
      injection ev with ev
      subst ev
      refine ⟨B1 ++ B, C, .cons b1 a, b, d1.trans ?_⟩
      rw [List.append_assoc]
      exact List.Perm.append_left B1 c
    · cases e
/-- the slots that are lent -/
def Lent (ρ : Sl) : List AV → Prop
  | [] => True
  | .d _ :: r => Lent ρ r
  | .i j :: r => ρ[j]? = some none ∧ AV.i j ∉ r ∧ Lent ρ r
theorem argMs_keep : ∀ {as : List AV} {ρ ρ' : Sl} {ms : List MD} {j : Nat}, argMs ρ as = some (ms, ρ') → ρ[j]? = some none → ρ'[j]? = some none ∧ AV.i j ∉ as
  | [], _, _, _, _, e, h => by
    simp only [argMs, Option.some.injEq, Prod.mk.injEq] at e
    obtain ⟨_, e2⟩ := e
    subst e2
    exact ⟨h, by simp⟩
  | .d d :: r, _, _, _, _, e, h => by
    simp only [argMs, Option.map_eq_some_iff] at e
    obtain ⟨⟨ms, ρ1⟩, e1, e2⟩ := e
    injection e2 with e2 e3
    subst e3
    obtain ⟨a, b⟩ := argMs_keep e1 h
    exact ⟨a, fun q => by
      rcases List.mem_cons.mp q with q | q
      · cases q
      · exact b q⟩
  | .i k :: r, ρ, _, _, j, e, h => by
    unfold argMs at e
    split at e
    · rename_i m em
      obtain ⟨⟨ms, ρ1⟩, e1, e2⟩ := Option.map_eq_some_iff.mp e
      injection e2 with e2 e3
      subst e3
      have hk : k ≠ j := fun q => by
        subst q
        rw [h] at em
        cases em
      obtain ⟨a, b⟩ := argMs_keep (j := j) e1 (by rw [List.getElem?_set_ne hk]; exact h)
      exact ⟨a, fun q => by
        rcases List.mem_cons.mp q with q | q
        · injection q with q
          exact hk q.symm
        · exact b q⟩
    · cases e
theorem argMs_lent : ∀ {as : List AV} {ρ ρ' : Sl} {ms : List MD}, argMs ρ as = some (ms, ρ') → Lent ρ' as
  | [], _, _, _, e => True.intro
  | .d d :: r, _, _, _, e => by
    simp only [argMs, Option.map_eq_some_iff] at e
    obtain ⟨⟨ms, ρ1⟩, e1, e2⟩ := e
    injection e2 with e2 e3
    subst e3
    show Lent ρ1 r
    exact argMs_lent e1
  | .i k :: r, ρ, _, _, e => by
    unfold argMs at e
    split at e
    · rename_i m em
      obtain ⟨⟨ms, ρ1⟩, e1, e2⟩ := Option.map_eq_some_iff.mp e
      injection e2 with e2 e3
      subst e3
      have hk : k < ρ.length := by
        obtain ⟨h, _⟩ := List.getElem?_eq_some_iff.mp em
        exact h
      obtain ⟨a, b⟩ := argMs_keep (j := k) e1 (by rw [List.getElem?_set_self hk])
      exact ⟨a, b, argMs_lent e1⟩
    · cases e
theorem lent_set {ρ : Sl} {j : Nat} {x : Option MD} : ∀ {as : List AV}, AV.i j ∉ as → Lent ρ as → Lent (ρ.set j x) as
  | [], _, _ => True.intro
  | .d d :: r, n, h => lent_set (as := r) (fun q => n (List.mem_cons_of_mem _ q)) h
  | .i k :: r, n, h => by
    refine ⟨?_, h.2.1, lent_set (as := r) (fun q => n (List.mem_cons_of_mem _ q)) h.2.2⟩
    rw [List.getElem?_set_ne (fun q => n (by rw [q]; exact List.mem_cons_self ..))]
    exact h.1
theorem args_put : ∀ {as : List AV} {vs : List V} {σ : St} {ρ : Sl} {B C : List Addr} {ms : List MD}, RepO K G S H σ ρ C → RepMs K G S H vs ms B → Paired (AvR K S1 σ) vs as → Lent ρ as → ∃ A D, RepO K G S H σ (putMs ρ as ms) A ∧ (B ++ C).Perm (A ++ D)
  | [], _, _, _, B, C, _, h, hm, .nil, _ => by
    cases hm
    exact ⟨C, [], h, by simp⟩
  | .d d :: r, _, _, _, _, C, _, h, .cons (A := B1) (B := B2) hm hms, .cons hv hvs, l => by
    obtain ⟨A, D, a, b⟩ := args_put h hms hvs l
    refine ⟨A, B1 ++ D, a, ?_⟩
    rw [List.append_assoc]
    refine (List.Perm.append_left B1 b).trans ?_
    rw [← List.append_assoc, ← List.append_assoc]
    exact List.Perm.append_right D List.perm_append_comm
  | .i j :: r, _, σ, ρ, _, C, _, h, .cons (A := B1) (B := B2) hm hms, .cons hv hvs, l => by
    obtain ⟨A1, a1, b1⟩ := put1 h l.1 hv hm
    obtain ⟨A, D, a, b⟩ := args_put a1 hms hvs (lent_set l.2.1 l.2.2)
    refine ⟨A, D, a, List.Perm.trans ?_ b⟩
    refine List.Perm.trans ?_ (List.Perm.append_left B2 b1.symm)
    rw [← List.append_assoc]
    exact List.Perm.append_right C List.perm_append_comm

def callS (F : FnSem) (as : List AV) (ρ : Sl) : R MD := match argMs ρ as with
  | none => .bad
  | some p => match F p.1 with
    | .ok m ms' => .ok m (putMs p.2 as ms')
    | .exc x ms' => .exc x (putMs p.2 as ms')
    | .bad => .bad
theorem nodup_sub {α : Type} {A D L : List α} (h : L.Nodup) (p : L.Perm (A ++ D)) : A.Nodup := (List.nodup_append.mp (p.nodup_iff.mp h)).1
theorem call_core {F : FnSem} {as : List AV} {vs : List V} {Q : VK} (r : Rel K G S ρ A σ H) (av : Paired (AvR K S σ) vs as)
    (q : Run K G E S A σ H (callS F as ρ) (fun m ρ' S' A' H' => ∀ v, Rel K G S' (some m :: ρ') A' (some v :: σ) H' → Q v H')) : spOf K G F vs H Q E := by
  unfold callS at q
  cases z : argMs ρ as with
  | none => rw [z] at q; exact q.elim
  | some p =>
    obtain ⟨ms, ρ1⟩ := p
    rw [z] at q
    obtain ⟨A0, ro, nd, sb⟩ := r.rep
    obtain ⟨B, C, hB, hC, pm⟩ := args_take ro av z
    have ndBC : (B ++ C).Nodup := pm.nodup_iff.mp nd
    have inB : ∀ a ∈ B, a ∈ A := fun a h => sb a (pm.mem_iff.mpr (List.mem_append_left _ h))
    have inC : ∀ a ∈ C, a ∈ A := fun a h => sb a (pm.mem_iff.mpr (List.mem_append_right _ h))
    have dis : ∀ a ∈ C, a ∉ B := fun a h1 h2 => (List.nodup_append.mp ndBC).2.2 a h2 a h1 rfl
    have rel0 : Rel K G S (ms.map some) B (vs.map some) H := ⟨r.sub, ⟨B, repO_of hB, (List.nodup_append.mp ndBC).1, fun _ h => h⟩, fun a h => r.off a (inB a h)⟩
    have lent := argMs_lent z
    -- behind the call
    have back : ∀ (ms' : List MD) (S' : Hp) (A' : List Addr) (H' : Hp) (Bm Bs : List Addr), Grow S B H S' A' H' → Sub S' H' → RepMs K G S' H' vs ms' Bs → (Bm ++ Bs).Nodup → (∀ a ∈ Bm ++ Bs, a ∈ A') → (∀ a ∈ A', S' a = none ∧ H' a ≠ none) →
        ∃ A2, RepO K G S' H' σ (putMs ρ1 as ms') A2 ∧ (Bm ++ A2).Nodup ∧ (∀ a ∈ Bm ++ A2, S' a = none ∧ H' a ≠ none) ∧ Grow S A H S' (Bm ++ A2) H' := by
      intro ms' S' A' H' Bm Bs g sub' hBs nd' sb' off'
      have cH : ∀ a ∈ C, ∀ o, H a = some o → H' a = some o := fun a h o e => g.fr a o e (dis a h)
      have hC' := hC.mono g.ss cH
      obtain ⟨A2, D, ha, hp⟩ := args_put hC' hBs av lent
      have ndall : (Bm ++ (Bs ++ C)).Nodup := by
        rw [← List.append_assoc]
        refine List.nodup_append.mpr ⟨nd', (List.nodup_append.mp ndBC).2.1, fun a h1 b h2 e => ?_⟩
        subst e
        rcases g.an a (sb' a h1) with w | w
        · exact dis a h2 w
        · exact hC.trk a h2 w
      have ndall2 : (Bm ++ A2 ++ D).Nodup := by
        rw [List.append_assoc]
        exact (List.Perm.append_left Bm hp).nodup_iff.mp ndall
      have mem2 : ∀ a ∈ A2, a ∈ Bs ∨ a ∈ C := fun a h => List.mem_append.mp (hp.mem_iff.mpr (List.mem_append_left _ h))
      have offC : ∀ a ∈ C, S' a = none ∧ H' a ≠ none := fun a h => by
        refine ⟨?_, fun w => hC.trk a h (g.dm a w)⟩
        cases w : S' a with
        | none => rfl
        | some o =>
          rcases g.sn a (by rw [w]; intro u; cases u) with u | u | u
          · exact (u (r.off a (inC a h)).1).elim
          · exact (hC.trk a h u).elim
          · exact (dis a h u).elim
      refine ⟨A2, ha, (List.nodup_append.mp ndall2).1, fun a h => ?_, ⟨g.ss, fun b h => ?_, fun b o e n => g.fr b o e fun w => n (inB b w), fun b h => ?_, g.dm⟩⟩
      · rcases List.mem_append.mp h with w | w
        · exact off' a (sb' a (List.mem_append_left _ w))
        · rcases mem2 a w with w | w
          · exact off' a (sb' a (List.mem_append_right _ w))
          · exact offC a w
      · rcases g.sn b h with w | w | w
        · exact .inl w
        · exact .inr (.inl w)
        · exact .inr (.inr (inB b w))
      · have hA' : b ∈ A' → b ∈ A ∨ H b = none := fun w => (g.an b w).elim (fun u => .inl (inB b u)) .inr
        rcases List.mem_append.mp h with w | w
        · exact hA' (sb' b (List.mem_append_left _ w))
        · rcases mem2 b w with w | w
          · exact hA' (sb' b (List.mem_append_right _ w))
          · exact .inl (inC b w)
    refine ⟨S, ms, B, rel0, ?_⟩
    cases y : F ms with
    | bad => simp only [y] at q; exact q.elim
    | ok m ms' =>
      simp only [y] at q
      intro v S' A' H' g r'
      obtain ⟨A1, ro1, nd1, sb1⟩ := r'.rep
      cases ro1 with
      | @keep _ _ _ _ Bm Bs hm hs =>
        obtain ⟨A2, h1, h2, h3, h4⟩ := back ms' S' A' H' Bm Bs g r'.sub (repMs_of hs) nd1 sb1 r'.off
        exact q S' (Bm ++ A2) H' h4 v ⟨r'.sub, ⟨Bm ++ A2, .keep hm h1, h2, fun _ w => w⟩, h3⟩
    | exc x ms' =>
      simp only [y] at q
      intro S' A' H' cls dd g r' ex
      obtain ⟨A1, ro1, nd1, sb1⟩ := r'.rep
      obtain ⟨A2, h1, h2, h3, h4⟩ := back ms' S' A' H' [] A1 g r'.sub (repMs_of ro1) nd1 sb1 r'.off
      exact q S' A2 H' cls dd h4 ⟨r'.sub, ⟨A2, h1, h2, fun _ w => w⟩, h3⟩ ex

/-- the written arguments of a call -/
structure SimCA (X : Cx) (E : XK) (es : List Expr) (f : Sl → R (List AV)) : Prop where
  ex : ∃ t, PA X es t ∧ ∀ σ ρ S A H Q, Rel X.K X.mg S ρ A σ H →
    Run X.K X.mg E S A σ H (f ρ) (fun as ρ' S' A' H' => Rel X.K X.mg S' ρ' A' σ H' → ∀ vs, Paired (AvR X.K S' σ) vs as → Q vs H') → t σ H Q
variable {fa : Sl → R (List AV)}
def aNil : Sl → R (List AV) := fun ρ => .ok [] ρ
def aD (f : Sl → R PyData) (g : Sl → R (List AV)) : Sl → R (List AV) := fun ρ => (f ρ).bind fun d ρ => (g ρ).bind fun as ρ => .ok (.d d :: as) ρ
/-- the slot j is lent -/
def aI (j : Nat) (g : Sl → R (List AV)) : Sl → R (List AV) := fun ρ => match ρ[j]? with
  | some (some _) => (g ρ).bind fun as ρ => .ok (.i j :: as) ρ
  | _ => .bad
theorem simCA_nil : SimCA X E [] aNil := ⟨_, pa_nil, fun σ ρ S A H Q r q => q S A H Grow.refl r [] .nil⟩
theorem simCA_d (h : SimF X E e f1) (hs : SimCA X E es fa) (he : starEach (e :: es) X.env = (false, eval e X.env) :: starEach es X.env := by rfl) : SimCA X E (e :: es) (aD f1 fa) := by
  obtain ⟨t, p, s⟩ := h.ex
  obtain ⟨ts, ps, ss⟩ := hs.ex
  refine ⟨_, pa_cons p ps he, fun σ ρ S A H Q r q => s σ ρ S A H _ r ((Run.bind q).imp fun d ρ1 S1 A1 H1 q1 r1 v hv => ?_)⟩
  refine ss σ ρ1 S1 A1 H1 _ r1 ((Run.bind q1).impG fun ds ρ2 S2 A2 H2 g2 q2 r2 vs hvs => ?_)
  exact q2 S2 A2 H2 Grow.refl r2 (v :: vs) (.cons (dp_mono g2.ss hv) hvs)
theorem simCA_i (j : Nat) {x : Str} {p : Pos} (hs : SimCA X E es fa) (hN : X.N[j]? = some x := by rfl) (hv : Vis X.env.scope x := by first | exact Or.inl rfl | exact Or.inr (Or.inl rfl) | exact Or.inr (Or.inr rfl)) (hd : (x == ("__debug__" : Str)) = false := by decide)
    (hcd : (x == ("__classdict__" : Str)) = false := by decide) (he : starEach (.Name x p :: es) X.env = (false, eval (.Name x p) X.env) :: starEach es X.env := by rfl) : SimCA X E (.Name x p :: es) (aI j fa) := by
  obtain ⟨ts, ps, ss⟩ := hs.ex
  refine ⟨_, pa_cons (pe_var hN hv hd hcd) ps he, fun σ ρ S A H Q r q => ?_⟩
  unfold aI at q
  split at q
  · rename_i m em
    obtain ⟨v, B, h1, h2⟩ := r.at em
    refine ⟨v, h1, ss σ ρ S A H _ r ((Run.bind q).imp fun ds ρ2 S2 A2 H2 q2 r2 vs hvs => ?_)⟩
    exact q2 S2 A2 H2 Grow.refl r2 (v :: vs) (.cons h1 hvs)
  · exact q.elim
/-- a def of one's own, by its name -/
structure FnDef (P : Program) (w : World) (K : PySem.W.Frag) (mg : Str → Option Value) (base : Heap) (x : Str) (F : FnSem) (k : Nat) : Prop where
  ex : ∃ f fd ps, FnOk P w K mg base (L2.CX P w) k f fd ps (spOf K mg F) ∧ mg x = some (.ref f) ∧ PySem.W.keepIn K (.ref f) = true ∧ Binds K fd ps []
def mCallF (F : FnSem) (fa : Sl → R (List AV)) : Sl → R MD := fun ρ => (fa ρ).bind fun as ρ => callS F as ρ
theorem simM_call {x : Str} {p : Pos} {F : FnSem} {k j : Nat} (D : FnDef X.prog X.w X.K X.mg X.base x F k) (hr : Room j X.A) (hx : Passes (L2.CX X.prog X.w) X E) (h : SimCA X E (e :: es) fa) (hk : k ≤ j := by decide) (hg : Gl X x := by rfl) (hdb : (x == ("__debug__" : Str)) = false := by decide)
    (he : starEach (e :: es) X.env = (false, eval e X.env) :: starEach es X.env := by rfl) (hpl : (backTo pos (starEach es X.env)).any (·.1) = false := by rfl) : SimM X E (.Call (.Name x p) (e :: es) [] pos) (mCallF F fa) := by
  obtain ⟨f, fd, ps, ok, hm, hkp, hb⟩ := D.ex
  obtain ⟨t, pa, s⟩ := h.ex
  refine ⟨_, pe_call ok (hr.mono hk) hg hm hkp hb .nil hx pa hdb he hpl, fun σ ρ S A H Q r q => s σ ρ S A H _ r ((Run.bind q).imp fun as ρ1 S1 A1 H1 q1 r1 vs hvs => ?_)⟩
  rw [List.append_nil]
  exact call_core r1 hvs q1
theorem simM_call0 {x : Str} {p : Pos} {F : FnSem} {k j : Nat} (D : FnDef X.prog X.w X.K X.mg X.base x F k) (hr : Room j X.A) (hx : Passes (L2.CX X.prog X.w) X E) (hk : k ≤ j := by decide) (hg : Gl X x := by rfl) (hdb : (x == ("__debug__" : Str)) = false := by decide) :
    SimM X E (.Call (.Name x p) [] [] pos) (mCallF F aNil) := by
  obtain ⟨f, fd, ps, ok, hm, hkp, hb⟩ := D.ex
  refine ⟨_, pe_call0 ok (hr.mono hk) hg hm hkp hb .nil hx hdb, fun σ ρ S A H Q r q => ?_⟩
  exact call_core r .nil q
end DR
end
section
/-! DR6: statements, loops, defs. -/
namespace DR
open PySem L2
variable {K : PySem.W.Frag} {G : Str → Option Value} {S S' S1 H H' H1 : Hp} {A A' A1 B C : List Addr} {E : XK} {σ σ0 σ1 : St} {ρ : Sl} {X : Cx} {e a b c : Expr} {es : List Expr} {pos : Pos} {f1 f2 f3 : Sl → R PyData} {fs : Sl → R (List PyData)}

inductive RS where
  | nx (ρ : Sl)
  | rt (m : MD) (ρ : Sl)
  | exc (x : Exn) (ρ : Sl)
  | bad
/-- the slots outside of W hold what they held -/
structure Keep (W : List Nat) (σ σ' : St) : Prop where
  len : σ'.length = σ.length
  at_ : ∀ i, i ∉ W → σ'[i]? = σ[i]?
variable {W W1 W2 : List Nat}
theorem Keep.refl : Keep W σ σ := ⟨rfl, fun _ _ => rfl⟩
theorem Keep.trans {σ σ' σ'' : St} (a : Keep W σ σ') (b : Keep W σ' σ'') : Keep W σ σ'' := ⟨b.len.trans a.len, fun i h => (b.at_ i h).trans (a.at_ i h)⟩
theorem Keep.sub {σ σ' : St} (a : Keep W σ σ') (h : ∀ i ∈ W, i ∈ W1) : Keep W1 σ σ' := ⟨a.len, fun i n => a.at_ i fun q => n (h i q)⟩
theorem Keep.set {i : Nat} {x : Option V} (h : i ∈ W) : Keep W σ (σ.set i x) := ⟨List.length_set .., fun j n => List.getElem?_set_ne fun q => n (by rw [← q]; exact h)⟩

/-- what a statement's run must give, seen from the slots σ0 -/
def RunS (K : PySem.W.Frag) (G : Str → Option Value) (E : XK) (W : List Nat) (σ0 : St) (S : Hp) (A : List Addr) (H : Hp) (r : RS) (D : Ends) : Prop := match r with
  | .nx ρ => ∀ σ' S' A' H', Grow S A H S' A' H' → Rel K G S' ρ A' σ' H' → Keep W σ0 σ' → D.nx σ' H'
  | .rt m ρ => ∀ v σ' S' A' H', Grow S A H S' A' H' → Rel K G S' (some m :: ρ) A' (some v :: σ') H' → Keep W σ0 σ' → D.rt v H'
  | .exc x ρ => ∀ σ' S' A' H' cls dd, Grow S A H S' A' H' → Rel K G S' ρ A' σ' H' → Keep W σ0 σ' → ExcAt K G S' H' x cls dd → E cls dd H'
  | .bad => False
variable {D : Ends}
theorem RunS.start {r : RS} (g : Grow S A H S' A' H') (h : RunS K G E W σ0 S A H r D) : RunS K G E W σ0 S' A' H' r D := by
  cases r with
  | nx ρ => exact fun _ _ _ _ g' => h _ _ _ _ (g.trans g')
  | rt m ρ => exact fun _ _ _ _ _ g' => h _ _ _ _ _ (g.trans g')
  | exc x ρ => exact fun _ _ _ _ _ _ g' => h _ _ _ _ _ _ (g.trans g')
  | bad => exact h
theorem RunS.shift {r : RS} (k : Keep W σ0 σ1) (hw : ∀ i ∈ W1, i ∈ W) (h : RunS K G E W σ0 S A H r D) : RunS K G E W1 σ1 S A H r D := by
  cases r with
  | nx ρ => exact fun _ _ _ _ g' r' k' => h _ _ _ _ g' r' (k.trans (k'.sub hw))
  | rt m ρ => exact fun _ _ _ _ _ g' r' k' => h _ _ _ _ _ g' r' (k.trans (k'.sub hw))
  | exc x ρ => exact fun _ _ _ _ _ _ g' r' k' => h _ _ _ _ _ _ g' r' (k.trans (k'.sub hw))
  | bad => exact h
def RS.bind (r : RS) (f : Sl → RS) : RS := match r with
  | .nx ρ => f ρ
  | .rt m ρ => .rt m ρ
  | .exc x ρ => .exc x ρ
  | .bad => .bad
/-- from an expression's run to a statement's -/
def R.s {α : Type} (r : R α) (f : α → Sl → RS) : RS := match r with
  | .ok a ρ => f a ρ
  | .exc x ρ => .exc x ρ
  | .bad => .bad
theorem RunS.ofR {α : Type} {r : R α} {f : α → Sl → RS} (h : RunS K G E W σ S A H (r.s f) D) : Run K G E S A σ H r fun a ρ1 S1 A1 H1 => RunS K G E W σ S1 A1 H1 (f a ρ1) D := by
  cases r with
  | ok a ρ => exact fun _ _ _ g => RunS.start g h
  | exc x ρ => exact fun _ _ _ _ _ g r' ex => h _ _ _ _ _ _ g r' Keep.refl ex
  | bad => exact h
theorem RunS.ofR' {α : Type} {r : R α} {f : α → Sl → RS} (kp : Keep W σ0 σ) (h : RunS K G E W σ0 S A H (r.s f) D) : Run K G E S A σ H r fun a ρ1 S1 A1 H1 => RunS K G E W σ0 S1 A1 H1 (f a ρ1) D := by
  cases r with
  | ok a ρ => exact fun _ _ _ g => RunS.start g h
  | exc x ρ => exact fun _ _ _ _ _ g r' ex => h _ _ _ _ _ _ g r' kp ex
  | bad => exact h
/-- a block's run, then the rest; seen from σ0, the block's own start being σ -/
theorem RunS.bind' {r : RS} {f : Sl → RS} (kp : Keep W σ0 σ) (hw : ∀ i ∈ W1, i ∈ W) (N : St → Hp → Prop) (h : RunS K G E W σ0 S A H (r.bind f) D) (k : ∀ ρ1 σ' S' A' H', r = .nx ρ1 → Grow S A H S' A' H' → Rel K G S' ρ1 A' σ' H' → Keep W σ0 σ' → RunS K G E W σ0 S' A' H' (f ρ1) D → N σ' H') (D' : Ends) (hd : D'.nx = N) (hr : D'.rt = D.rt) : RunS K G E W1 σ S A H r D' := by
  subst hd
  cases r with
  | nx ρ => exact fun σ' S' A' H' g r' k' => k ρ σ' S' A' H' rfl g r' (kp.trans (k'.sub hw)) (RunS.start g h)
  | rt m ρ => exact fun v σ' S' A' H' g r' k' => by rw [hr]; exact h v σ' S' A' H' g r' (kp.trans (k'.sub hw))
  | exc x ρ => exact fun σ' S' A' H' cls dd g r' k' => h σ' S' A' H' cls dd g r' (kp.trans (k'.sub hw))
  | bad => exact h
theorem RunS.bind {r : RS} {f : Sl → RS} (N : St → Hp → Prop) (h : RunS K G E W σ0 S A H (r.bind f) D) (k : ∀ ρ1 σ' S' A' H', r = .nx ρ1 → Grow S A H S' A' H' → Rel K G S' ρ1 A' σ' H' → Keep W σ0 σ' → RunS K G E W σ' S' A' H' (f ρ1) D → N σ' H') : RunS K G E W σ0 S A H r { D with nx := N } := by
  cases r with
  | nx ρ => exact fun σ' S' A' H' g r' kp => k ρ σ' S' A' H' rfl g r' kp ((RunS.start g h).shift kp fun _ q => q)
  | rt m ρ => exact h
  | exc x ρ => exact h
  | bad => exact h

theorem RunS.ends {r : RS} {D D' : Ends} (h : RunS K G E W σ0 S A H r D) (h1 : ∀ σ H, D.nx σ H → D'.nx σ H) (h2 : ∀ v H, D.rt v H → D'.rt v H) : RunS K G E W σ0 S A H r D' := by
  cases r with
  | nx ρ => exact fun _ _ _ _ g r' k => h1 _ _ (h _ _ _ _ g r' k)
  | rt m ρ => exact fun _ _ _ _ _ g r' k => h2 _ _ (h _ _ _ _ _ g r' k)
  | exc x ρ => exact h
  | bad => exact h

structure SimS (X : Cx) (E : XK) (W : List Nat) (st : Stmt) (f : Sl → RS) : Prop where
  ex : ∃ t, PS X st t ∧ ∀ σ ρ S A H D, Rel X.K X.mg S ρ A σ H → RunS X.K X.mg E W σ S A H (f ρ) D → t D σ H
structure SimB (X : Cx) (E : XK) (W : List Nat) (sts : List Stmt) (f : Sl → RS) : Prop where
  ex : ∃ t, PSs X sts t ∧ ∀ σ ρ S A H D, Rel X.K X.mg S ρ A σ H → RunS X.K X.mg E W σ S A H (f ρ) D → t D σ H
variable {st : Stmt} {sts : List Stmt} {F F1 F2 : Sl → RS}
def sNil : Sl → RS := fun ρ => .nx ρ
def sSeq (f g : Sl → RS) : Sl → RS := fun ρ => (f ρ).bind g
theorem simB_nil : SimB X E [] [] sNil := ⟨_, pss_nil, fun σ ρ S A H D r q => q σ S A H Grow.refl r Keep.refl⟩
theorem simB_one (h : SimS X E W st F) : SimB X E W [st] F := by
  obtain ⟨t, p, s⟩ := h.ex
  exact ⟨_, pss_one p, s⟩
theorem simB_cons (h : SimS X E W1 st F1) (h2 : SimB X E W2 sts F2) : SimB X E (W1 ++ W2) (st :: sts) (sSeq F1 F2) := by
  obtain ⟨t, p, s⟩ := h.ex
  obtain ⟨t2, p2, s2⟩ := h2.ex
  refine ⟨_, pss_cons p p2, fun σ ρ S A H D r q => s σ ρ S A H _ r ?_⟩
  have q1 := RunS.bind (fun σ' H' => t2 D σ' H') q fun ρ1 σ' S' A' H' _ g r' kp q' => s2 σ' ρ1 S' A' H' D r' (q'.shift Keep.refl fun i h => List.mem_append_right _ h)
  exact q1.shift Keep.refl fun i h => List.mem_append_left _ h
/-- ghost: the slot i is frozen from here on -/
def frzSlot (i : Nat) (ρ : Sl) : Sl := match ρ[i]? with
  | some (some m) => match m.frz with
    | some d => ρ.set i (some (.fz d))
    | none => ρ
  | _ => ρ
theorem Rel.frzSlot {i : Nat} (r : Rel K G S ρ A σ H) : ∃ S' A', Grow S A H S' A' H ∧ Rel K G S' (frzSlot i ρ) A' σ H := by
  unfold DR.frzSlot
  split
  · rename_i m em
    cases e : m.frz with
    | none => exact ⟨S, A, Grow.refl, r⟩
    | some d =>
      obtain ⟨A0, ro, nd, sb⟩ := r.rep
      obtain ⟨v, B, C, h1, h2, h3, pm⟩ := take1 ro em
      have ndBC := pm.nodup_iff.mp nd
      have r1 : Rel K G S (some m :: ρ.set i none) A (some v :: σ) H := ⟨r.sub, ⟨B ++ C, .keep h2 h3, ndBC, fun a h => sb a (pm.mem_iff.mpr h)⟩, r.off⟩
      obtain ⟨S', A', g, r', z⟩ := r1.freeze e
      obtain ⟨A1, ro1, nd1, sb1⟩ := r'.rep
      have hi : i < ρ.length := (List.getElem?_eq_some_iff.mp em).1
      obtain ⟨A2, ro2, pm2⟩ := put1 ro1 (List.getElem?_set_self hi) h1 (.fz z)
      rw [List.set_set] at ro2
      exact ⟨S', A', g, r'.sub, ⟨A2, ro2, pm2.nodup_iff.mpr nd1, fun a h => sb1 a (pm2.mem_iff.mp h)⟩, r'.off⟩
  · exact ⟨S, A, Grow.refl, r⟩
def sFrz (i : Nat) (f : Sl → RS) : Sl → RS := fun ρ => f (frzSlot i ρ)
theorem simB_frz (i : Nat) (h : SimB X E W sts F) : SimB X E W sts (sFrz i F) := by
  obtain ⟨t, p, s⟩ := h.ex
  refine ⟨t, p, fun σ ρ S A H D r q => ?_⟩
  obtain ⟨S', A', g, r'⟩ := r.frzSlot (i := i)
  exact s σ _ S' A' H D r' (RunS.start g q)
theorem simS_frz (i : Nat) (h : SimS X E W st F) : SimS X E W st (sFrz i F) := by
  obtain ⟨t, p, s⟩ := h.ex
  refine ⟨t, p, fun σ ρ S A H D r q => ?_⟩
  obtain ⟨S', A', g, r'⟩ := r.frzSlot (i := i)
  exact s σ _ S' A' H D r' (RunS.start g q)

/-! ### stores to names -/
theorem RepO.drop1 : ∀ {σ : St} {ρ : Sl} {A : List Addr} (i : Nat), RepO K G S H σ ρ A → ∃ C D, RepO K G S H σ (ρ.set i none) C ∧ A.Perm (C ++ D)
  | _, _, _, _, .nil => ⟨[], [], .nil, List.Perm.refl _⟩
  | _, _, A, 0, .skip h => ⟨A, [], .skip h, by simp⟩
  | _, _, _, 0, .keep (A := A1) (B := B1) h hs => ⟨B1, A1, .skip hs, List.perm_append_comm⟩
  | _, _, _, i + 1, .skip h => by
    obtain ⟨C, D, a, b⟩ := RepO.drop1 i h
    exact ⟨C, D, .skip a, b⟩
  | _, _, _, i + 1, .keep (A := A1) h hs => by
    obtain ⟨C, D, a, b⟩ := RepO.drop1 i hs
    exact ⟨A1 ++ C, D, .keep h a, by rw [List.append_assoc]; exact List.Perm.append_left A1 b⟩
theorem RepO.setV : ∀ {σ : St} {ρ : Sl} {C : List Addr} {i : Nat} {m : MD} {v : V} {B : List Addr}, RepO K G S H σ ρ C → RepM K G S H v m B → ∃ A D, RepO K G S H (σ.set i (some v)) (ρ.set i (some m)) A ∧ (B ++ C).Perm (A ++ D)
  | _, _, _, _, _, _, B, .nil, _ => ⟨[], B, .nil, by simp⟩
  | _, _, C, 0, m, v, B, .skip h, r => ⟨B ++ C, [], .keep r h, by simp⟩
  | _, _, _, 0, m, v, B, .keep (A := A1) (B := B1) h hs, r => ⟨B ++ B1, A1, .keep r hs, by
    rw [List.append_assoc]
    exact List.Perm.append_left B List.perm_append_comm⟩
  | _, _, _, i + 1, m, v, B, .skip h, r => by
    obtain ⟨A, D, a, b⟩ := RepO.setV (i := i) h r
    exact ⟨A, D, .skip a, b⟩
  | _, _, _, i + 1, m, v, B, .keep (A := A1) (B := B1) h hs, r => by
    obtain ⟨A, D, a, b⟩ := RepO.setV (i := i) hs r
    refine ⟨A1 ++ A, D, .keep h a, ?_⟩
    rw [List.append_assoc]
    refine List.Perm.trans ?_ (List.Perm.append_left A1 b)
    rw [← List.append_assoc, ← List.append_assoc]
    exact List.Perm.append_right B1 List.perm_append_comm
theorem Rel.setV {i : Nat} {m : MD} {v : V} (r : Rel K G S (some m :: ρ) A (some v :: σ) H) : Rel K G S (ρ.set i (some m)) A (σ.set i (some v)) H := by
  obtain ⟨A0, ro, nd, sb⟩ := r.rep
  cases ro with
  | keep h hs =>
    obtain ⟨A1, D, a, b⟩ := hs.setV (i := i) h
    exact ⟨r.sub, ⟨A1, a, nodup_sub nd b, fun x q => sb x (b.mem_iff.mpr (List.mem_append_left _ q))⟩, r.off⟩
theorem Rel.drop1 (i : Nat) (r : Rel K G S ρ A σ H) : Rel K G S (ρ.set i none) A σ H := by
  obtain ⟨A0, ro, nd, sb⟩ := r.rep
  obtain ⟨C, D, a, b⟩ := ro.drop1 i
  exact ⟨r.sub, ⟨C, a, nodup_sub nd b, fun x q => sb x (b.mem_iff.mpr (List.mem_append_left _ q))⟩, r.off⟩
def forget (L : List Nat) (ρ : Sl) : Sl := L.foldl (fun ρ i => ρ.set i none) ρ
theorem Rel.forget (L : List Nat) : ∀ {ρ : Sl}, Rel K G S ρ A σ H → Rel K G S (forget L ρ) A σ H := by
  induction L with
  | nil => exact fun r => r
  | cons i L ih => exact fun r => ih (r.drop1 i)
/-- targets: names -/
structure SimG (X : Cx) (W : List Nat) (tg : Expr) (g : PyData → Sl → Option Sl) : Prop where
  ex : ∃ t, PG X tg t ∧ ∀ v d σ ρ ρ' S A H Q, Rel X.K X.mg S ρ A σ H → Fz X.K S v d → g d ρ = some ρ' → (∀ σ', Rel X.K X.mg S ρ' A σ' H → Keep W σ σ' → Q σ' H) → t v σ H Q
structure SimGs (X : Cx) (W : List Nat) (tgs : List Expr) (g : List PyData → Sl → Option Sl) : Prop where
  ex : ∃ t, PGs X tgs t ∧ ∀ vs ds σ ρ ρ' S A H Q, Rel X.K X.mg S ρ A σ H → FzA X.K S vs ds → g ds ρ = some ρ' → (∀ σ', Rel X.K X.mg S ρ' A σ' H → Keep W σ σ' → Q σ' H) → t vs σ H Q
def gName' (i : Nat) : PyData → Sl → Option Sl := fun d ρ => some (ρ.set i (some (.fz d)))
theorem simG_name (i : Nat) {x : Str} (nd : X.N.Nodup) (hi : X.N[i]? = some x := by rfl) (hx : Loc X.env.scope x := by first | exact Or.inl rfl | exact Or.inr rfl) (hf : X.fn x = true ∨ X.env.scope.names.lookup x = some .local := by first | exact .inl rfl | exact .inr rfl | assumption) : SimG X [i] (.Name x pos) (gName' i) := by
  refine ⟨_, pg_name nd hi hx hf, fun v d σ ρ ρ' S A H Q r hv e q => ?_⟩
  injection e with e
  subst e
  exact q _ (Rel.setV (r.pushF hv)) (Keep.set (List.mem_singleton.mpr rfl))
def gsNil : List PyData → Sl → Option Sl
  | [], ρ => some ρ
  | _ :: _, _ => none
def gsCons (g : PyData → Sl → Option Sl) (gs : List PyData → Sl → Option Sl) : List PyData → Sl → Option Sl
  | d :: ds, ρ => (g d ρ).bind (gs ds)
  | [], _ => none
theorem simGs_nil : SimGs X [] [] gsNil := by
  refine ⟨_, pgs_nil, fun vs ds σ ρ ρ' S A H Q r hv e q => ?_⟩
  cases hv with
  | nil =>
    injection e with e
    subst e
    exact ⟨rfl, q _ r Keep.refl⟩
  | cons => cases e
theorem simGs_cons {g : PyData → Sl → Option Sl} {gs : List PyData → Sl → Option Sl} (h : SimG X W1 e g) (hs : SimGs X W2 es gs) (hz : (assignEach (e :: es) X.env).map (·.2) = assign e X.env :: (assignEach es X.env).map (·.2) := by rfl) : SimGs X (W1 ++ W2) (e :: es) (gsCons g gs) := by
  obtain ⟨t, p, s⟩ := h.ex
  obtain ⟨ts, ps, ss⟩ := hs.ex
  refine ⟨_, pgs_cons p ps hz, fun vs ds σ ρ ρ' S A H Q r hv e q => ?_⟩
  cases hv with
  | nil => cases e
  | cons hv hvs =>
    obtain ⟨ρ1, e1, e2⟩ := Option.bind_eq_some_iff.mp e
    refine ⟨_, _, rfl, s _ _ σ ρ ρ1 S A H _ r hv e1 fun σ' r' k => ?_⟩
    exact ss _ _ σ' ρ1 ρ' S A H _ r' hvs e2 fun σ'' r'' k' => q σ'' r'' ((k.sub fun i h => List.mem_append_left _ h).trans (k'.sub fun i h => List.mem_append_right _ h))
def gTup' (gs : List PyData → Sl → Option Sl) : PyData → Sl → Option Sl
  | .tuple ds, ρ => gs ds ρ
  | _, _ => none
theorem simG_tup {k n : Nat} {gs : List PyData → Sl → Option Sl} (hc : X.calm = true) (hs : SimGs X W es gs) (hl : ∀ ds ρ ρ', gs ds ρ = some ρ' → ds.length = n) (hn : (assignEach es X.env).length = n := by rfl) (hst : (assignEach es X.env).findIdx? (·.1) = none := by rfl) :
    SimG X W (.Tuple es k pos) (gTup' gs) := by
  obtain ⟨ts, ps, ss⟩ := hs.ex
  refine ⟨_, pg_tup hc ps hn hst, fun v d σ ρ ρ' S A H Q r hv e q => ?_⟩
  cases hv with
  | tup h1 hs1 => exact ⟨_, _, rfl, r.sub.t h1, by rw [dpA_len hs1]; exact hl _ _ _ e, ss _ _ σ ρ ρ' S A H Q r hs1 e q⟩
  | _ => cases e
theorem gsLen_nil {ds : List PyData} {ρ ρ' : Sl} (h : gsNil ds ρ = some ρ') : ds.length = 0 := by
  cases ds with
  | nil => rfl
  | cons => cases h
theorem gsLen_cons {g : PyData → Sl → Option Sl} {gs : List PyData → Sl → Option Sl} {n : Nat} (hl : ∀ ds ρ ρ', gs ds ρ = some ρ' → ds.length = n) : ∀ ds ρ ρ', gsCons g gs ds ρ = some ρ' → ds.length = n + 1
  | [], _, _, h => by cases h
  | d :: ds, ρ, ρ', h => by
    obtain ⟨ρ1, e1, e2⟩ := Option.bind_eq_some_iff.mp h
    rw [List.length_cons, hl _ _ _ e2]
def sSet (i : Nat) (f : Sl → R MD) : Sl → RS := fun ρ => (f ρ).s fun m ρ => .nx (ρ.set i (some m))
theorem simS_set (i : Nat) {x : Str} {pos' : Pos} {f : Sl → R MD} (nd : X.N.Nodup) (h : SimM X E e f) (hi : X.N[i]? = some x := by rfl) (hx : Loc X.env.scope x := by first | exact Or.inl rfl | exact Or.inr rfl) (hs : swapsWith e (some (.Name x pos')) pos.line X.env = pure false := by rfl)
    (hf : X.fn x = true ∨ X.env.scope.names.lookup x = some .local := by first | exact .inl rfl | exact .inr rfl | assumption) : SimS X E [i] (.Assign [.Name x pos'] e pos) (sSet i f) := by
  obtain ⟨t, p, s⟩ := h.ex
  refine ⟨_, ps_set nd hi hx p hs hf, fun σ ρ S A H D r q => s σ ρ S A H _ r ((RunS.ofR q).imp fun m ρ1 S1 A1 H1 q1 v r1 => ?_)⟩
  exact q1 _ S1 A1 H1 Grow.refl (Rel.setV r1) (Keep.set (List.mem_singleton.mpr rfl))
/-- targets of a frozen value -/
def sTgt (g : PyData → Sl → Option Sl) (f : Sl → R PyData) : Sl → RS := fun ρ => (f ρ).s fun d ρ => match g d ρ with
  | some ρ' => .nx ρ'
  | none => .bad
theorem simS_tgt {tg : Expr} {g : PyData → Sl → Option Sl} (h : SimF X E e f1) (hg : SimG X W tg g) (hs : swapsWithSole [tg] e pos.line X.env = pure false := by rfl) (hw : swappedStores [tg] e X.env = pure none := by rfl)
    (h1 : (assignEach [tg] X.env).map (·.2) = [assign tg X.env] := by rfl) : SimS X E W (.Assign [tg] e pos) (sTgt g f1) := by
  obtain ⟨t, p, s⟩ := h.ex
  obtain ⟨tt, pt, st⟩ := hg.ex
  refine ⟨_, ps_asg p pt hs hw h1, fun σ ρ S A H D r q => s σ ρ S A H _ r ((RunS.ofR q).imp fun d ρ1 S1 A1 H1 q1 r1 v hv => ?_)⟩
  cases z : g d ρ1 with
  | none => rw [z] at q1; exact q1.elim
  | some ρ' =>
    rw [z] at q1
    exact st v d σ ρ1 ρ' S1 A1 H1 _ r1 hv z fun σ' r' k => q1 σ' S1 A1 H1 Grow.refl r' k

/-! ### return, if, expressions dropped -/
def sRet (f : Sl → R MD) : Sl → RS := fun ρ => (f ρ).s fun m ρ => .rt m ρ
theorem simS_ret {f : Sl → R MD} (h : SimM X E e f) : SimS X E [] (.Return (some e) pos) (sRet f) := by
  obtain ⟨t, p, s⟩ := h.ex
  refine ⟨_, ps_ret p, fun σ ρ S A H D r q => s σ ρ S A H _ r ((RunS.ofR q).imp fun m ρ1 S1 A1 H1 q1 v r1 => ?_)⟩
  exact q1 v σ S1 A1 H1 Grow.refl r1 Keep.refl
def sDrop (f : Sl → R MD) : Sl → RS := fun ρ => (f ρ).s fun _ ρ => .nx ρ
theorem simS_drop {f : Sl → R MD} (h : SimM X E e f) (hs : swapsWith e none pos.line X.env = pure false := by rfl) : SimS X E [] (.Expr e pos) (sDrop f) := by
  obtain ⟨t, p, s⟩ := h.ex
  refine ⟨_, ps_expr p hs, fun σ ρ S A H D r q => s σ ρ S A H _ r ((RunS.ofR q).imp fun m ρ1 S1 A1 H1 q1 v r1 => ?_)⟩
  exact q1 σ S1 A1 H1 Grow.refl r1.pop Keep.refl
def sIf (c : Sl → R Bool) (f g : Sl → RS) : Sl → RS := fun ρ => (c ρ).s fun b ρ => if b = true then f ρ else g ρ
theorem simS_if {c : Expr} {a b : List Stmt} {b1 : Sl → R Bool} (hc : SimT X E c b1) (h1 : SimB X E W1 a F1) (h2 : SimB X E W2 b F2) : SimS X E (W1 ++ W2) (.If c a b pos) (sIf b1 F1 F2) := by
  obtain ⟨t, p, s⟩ := hc.ex
  obtain ⟨ta, p1, s1⟩ := h1.ex
  obtain ⟨tb, p2, s2⟩ := h2.ex
  refine ⟨_, ps_if p p1 p2, fun σ ρ S A H D r q => s σ ρ S A H _ r ((RunS.ofR q).imp fun k ρ1 S1 A1 H1 q1 r1 => ?_)⟩
  cases k with
  | true => exact iteT (s1 σ ρ1 S1 A1 H1 D r1 (q1.shift Keep.refl fun i h => List.mem_append_left _ h))
  | false => exact iteF (s2 σ ρ1 S1 A1 H1 D r1 (q1.shift Keep.refl fun i h => List.mem_append_right _ h))

/-! ### loops -/
/-- what is walked: n items, by data -/
structure Walks (K : PySem.W.Frag) (J : It) (S : Hp) (ds : List PyData) : Prop where
  go : ∀ i H, Sub S H → i < ds.length → J.go i H
  yld : ∀ i S' H d x H', Sub S S' → Sub S' H → ds[i]? = some d → J.yld i H x H' → ∃ S'', New S' H S'' [] H' ∧ Fz K S'' x d
  stop : ∀ i H, Sub S H → i = ds.length → J.stop i H
structure SimI (X : Cx) (E : XK) (tg it : Expr) (f : Sl → R (List PyData)) : Prop where
  ex : ∃ wi, PI X tg it wi ∧ ∀ σ ρ S A H (R : It → Hp → Prop), Rel X.K X.mg S ρ A σ H → Run X.K X.mg E S A σ H (f ρ) (fun ds ρ' S' A' H' => Rel X.K X.mg S' ρ' A' σ H' → ∀ J, Walks X.K J S' ds → R J H') → wi σ H R
def asItems : PyData → Option (List PyData)
  | .list ds => some ds
  | .tuple ds => some ds
  | _ => none
def itL (f : Sl → R PyData) : Sl → R (List PyData) := fun ρ => (f ρ).bind fun d ρ => match d with
  | .list ds => .ok ds ρ
  | _ => .bad
def itT (f : Sl → R PyData) : Sl → R (List PyData) := fun ρ => (f ρ).bind fun d ρ => match d with
  | .tuple ds => .ok ds ρ
  | _ => .bad
theorem walks_l {a : Addr} {xs : List V} {ds : List PyData} (h : Rd S a (.lst xs)) (hs : FzA K S xs ds) : Walks K (Itl K a) S ds where
  go := fun i H s hi => by
    obtain ⟨d, e⟩ : ∃ d, ds[i]? = some d := ⟨_, List.getElem?_eq_getElem hi⟩
    obtain ⟨v, e2, _⟩ := dpA_get hs e
    exact ⟨xs, v, .inl (s.rd h), e2⟩
  yld := fun i S' H d x H' s s' e y => by
    obtain ⟨rfl, y⟩ := y
    obtain ⟨v, e2, hv⟩ := dpA_get hs e
    have e3 := y xs (.inl (s'.rd (s.rd h)))
    rw [e2] at e3
    injection e3 with e3
    subst e3
    exact ⟨S', New.refl s', dp_mono s hv⟩
  stop := fun i H s hi => ⟨xs, .inl (s.rd h), by rw [dpA_len hs]; exact Nat.le_of_eq hi.symm⟩
theorem walks_t {a : Addr} {xs : List V} {ds : List PyData} (h : SqT K S a xs) (hs : FzA K S xs ds) : Walks K (Itt K a) S ds where
  go := fun i H s hi => by
    obtain ⟨d, e⟩ : ∃ d, ds[i]? = some d := ⟨_, List.getElem?_eq_getElem hi⟩
    obtain ⟨v, e2, _⟩ := dpA_get hs e
    exact ⟨xs, v, s.t h, e2⟩
  yld := fun i S' H d x H' s s' e y => by
    obtain ⟨rfl, y⟩ := y
    obtain ⟨v, e2, hv⟩ := dpA_get hs e
    have e3 := y xs (s'.t (s.t h))
    rw [e2] at e3
    injection e3 with e3
    subst e3
    exact ⟨S', New.refl s', dp_mono s hv⟩
  stop := fun i H s hi => ⟨xs, s.t h, by rw [dpA_len hs]; exact Nat.le_of_eq hi.symm⟩
theorem simI_l {tg : Expr} (h : SimF X E e f1) : SimI X E tg e (itL f1) := by
  obtain ⟨t, p, s⟩ := h.ex
  refine ⟨_, pi_list p, fun σ ρ S A H R r q => s σ ρ S A H _ r ((Run.bind q).imp fun d ρ1 S1 A1 H1 q1 r1 v hv => ?_)⟩
  cases hv with
  | lst h1 hs1 => exact ⟨_, rfl, ⟨_, .inl (r1.sub.rd (.inl h1))⟩, q1 S1 A1 H1 Grow.refl r1 _ (walks_l (.inl h1) hs1)⟩
  | _ => exact q1.elim
theorem simI_t {tg : Expr} (h : SimF X E e f1) : SimI X E tg e (itT f1) := by
  obtain ⟨t, p, s⟩ := h.ex
  refine ⟨_, pi_tup p, fun σ ρ S A H R r q => s σ ρ S A H _ r ((Run.bind q).imp fun d ρ1 S1 A1 H1 q1 r1 v hv => ?_)⟩
  cases hv with
  | tup h1 hs1 => exact ⟨_, rfl, ⟨_, r1.sub.t h1⟩, q1 S1 A1 H1 Grow.refl r1 _ (walks_t h1 hs1)⟩
  | _ => exact q1.elim
/-- lo, lo + 1, .. (n of them) -/
def rngD (lo : Int) (n : Nat) : List PyData := (List.range n).map fun i => .int (lo + (i : Nat))
theorem walks_r {lo : Int} {n : Nat} : Walks K (Itr lo n) S (rngD lo n) where
  go := fun i H s hi => by
    rw [rngD, List.length_map, List.length_range] at hi
    exact hi
  yld := fun i S' H d x H' s s' e y => by
    obtain ⟨rfl, rfl⟩ := y
    rw [rngD, List.getElem?_map] at e
    obtain ⟨j, e1, e2⟩ := Option.map_eq_some_iff.mp e
    obtain ⟨hj, e3⟩ := List.getElem?_eq_some_iff.mp e1
    rw [List.getElem_range] at e3
    subst e2 e3
    exact ⟨S', New.refl s', .int _⟩
  stop := fun i H s hi => by
    rw [rngD, List.length_map, List.length_range] at hi
    exact Nat.le_of_eq hi.symm
def bnd (i : Int) : Bool := decide (-(2 ^ 62) ≤ i) && decide (i < 2 ^ 62)
theorem bnd_ok {i : Int} (h : bnd i = true) : -(2 ^ 62) ≤ i ∧ i < 2 ^ 62 := by
  unfold bnd at h
  rw [Bool.and_eq_true] at h
  exact ⟨of_decide_eq_true h.1, of_decide_eq_true h.2⟩
def itR1 (f : Sl → R PyData) : Sl → R (List PyData) := fun ρ => (f ρ).bind fun d ρ => match d with
  | .int j => if bnd j = true then .ok (rngD 0 j.toNat) ρ else .bad
  | _ => .bad
theorem simI_r1 {tg : Expr} {p : Pos} (hm : X.mg "range" = none) (h : SimF X E e f1) (hg : Gl X "range" := by rfl) (hs : starEach [e] X.env = [(false, eval e X.env)] := by rfl) : SimI X E tg (.Call (.Name "range" p) [e] [] pos) (itR1 f1) := by
  obtain ⟨t, pa, s⟩ := h.ex
  refine ⟨_, pi_range1 hg hm (pa_cons pa pa_nil hs) hs, fun σ ρ S A H R r q => s σ ρ S A H _ r ((Run.bind q).imp fun d ρ1 S1 A1 H1 q1 r1 v hv => ?_)⟩
  cases hv with
  | int j =>
    by_cases hb : bnd j = true
    · simp only [if_pos hb] at q1
      exact ⟨j, rfl, (bnd_ok hb).1, (bnd_ok hb).2, q1 S1 A1 H1 Grow.refl r1 _ walks_r⟩
    · simp only [if_neg hb] at q1
      exact q1.elim
  | _ => exact q1.elim
def itR2 (f g : Sl → R PyData) : Sl → R (List PyData) := fun ρ => (f ρ).bind fun a ρ => (g ρ).bind fun b ρ => match a, b with
  | .int i, .int j => if (bnd i && bnd j) = true then .ok (rngD i (j - i).toNat) ρ else .bad
  | _, _ => .bad
theorem simI_r2 {tg : Expr} {p : Pos} (hm : X.mg "range" = none) (h : SimF X E a f1) (h2 : SimF X E b f2) (hg : Gl X "range" := by rfl) (hs : starEach [a, b] X.env = [(false, eval a X.env), (false, eval b X.env)] := by rfl) (hs2 : starEach [b] X.env = [(false, eval b X.env)] := by rfl) :
    SimI X E tg (.Call (.Name "range" p) [a, b] [] pos) (itR2 f1 f2) := by
  obtain ⟨ta, pa, sa⟩ := h.ex
  obtain ⟨tb, pb, sb⟩ := h2.ex
  refine ⟨_, pi_range2 hg hm (pa_cons pa (pa_cons pb pa_nil hs2) (hs.trans (congrArg _ hs2.symm))) hs hs2, fun σ ρ S A H R r q => two sa sb r q fun d1 d2 ρ2 S2 A2 H2 x y r2 hx hy q2 => ?_⟩
  cases hx with
  | int i =>
    cases hy with
    | int j =>
      by_cases hb : (bnd i && bnd j) = true
      · simp only [if_pos hb] at q2
        rw [Bool.and_eq_true] at hb
        exact ⟨i, j, rfl, ⟨(bnd_ok hb.1).1, (bnd_ok hb.1).2, (bnd_ok hb.2).1, (bnd_ok hb.2).2⟩, q2 S2 A2 H2 Grow.refl r2 _ walks_r⟩
      · simp only [if_neg hb] at q2
        exact q2.elim
    | _ => exact q2.elim
  | _ => cases hy <;> exact q2.elim
/-- the loop: L, the slots forgotten behind a turn -/
def runFor (g : PyData → Sl → Option Sl) (L : List Nat) (f : Sl → RS) : List PyData → Sl → RS
  | [], ρ => .nx ρ
  | d :: ds, ρ => match g d ρ with
    | some ρ1 => (f ρ1).bind fun ρ2 => runFor g L f ds (forget L ρ2)
    | none => .bad
def sFor (it : Sl → R (List PyData)) (g : PyData → Sl → Option Sl) (L : List Nat) (f : Sl → RS) : Sl → RS := fun ρ => (it ρ).s fun ds ρ => runFor g L f ds ρ
theorem simS_for {tg it : Expr} {body : List Stmt} {fi : Sl → R (List PyData)} {g : PyData → Sl → Option Sl} (L : List Nat) (hp : PassesOwn (model X.prog X.w) X.A X.env X.xe) (hc : X.calm = true) (hi : SimI X E tg it fi) (hg : SimG X W1 tg g) (hb : SimB X E W2 body F)
    (hs : ∀ x, foldedSetIterable it X.env x = pure x := by intro _; rfl) : SimS X E (W1 ++ W2) (.For tg it body [] pos) (sFor fi g L F) := by
  obtain ⟨wi, pi, si⟩ := hi.ex
  obtain ⟨tgt, pg, sg⟩ := hg.ex
  obtain ⟨tb, pb, sb⟩ := hb.ex
  refine ⟨_, ps_for hp hc pi pg pb hs, fun σ ρ S A H D r q => si σ ρ S A H _ r ((RunS.ofR q).imp fun ds ρ1 S1 A1 H1 q1 r1 J hJ => ?_)⟩
  refine ⟨fun i m σ' H' => m = ds.length - i ∧ i ≤ ds.length ∧ ∃ ρ' S' A', Sub S1 S' ∧ Rel X.K X.mg S' ρ' A' σ' H' ∧ Keep (W1 ++ W2) σ σ' ∧ RunS X.K X.mg E (W1 ++ W2) σ S' A' H' (runFor g L F (ds.drop i) ρ') D,
    ⟨ds.length, rfl, Nat.zero_le _, ρ1, S1, A1, Sub.refl _, r1, Keep.refl, q1⟩, ?_⟩
  rintro i m σ' H' ⟨rfl, hi, ρ', S', A', s1, r', kp, q'⟩
  by_cases hl : i < ds.length
  · have e0 : ds[i]? = some ds[i] := List.getElem?_eq_getElem hl
    rw [List.drop_eq_getElem_cons hl] at q'
    refine .inr ⟨hJ.go i H' (s1.trans r'.sub) hl, fun σ2 H2 => ∃ ρ2 S2 A2, Sub S1 S2 ∧ Rel X.K X.mg S2 ρ2 A2 σ2 H2 ∧ Keep (W1 ++ W2) σ σ2 ∧ RunS X.K X.mg E (W1 ++ W2) σ S2 A2 H2 (runFor g L F (ds.drop (i + 1)) ρ2) D, fun σ2 H2 h => ⟨ds.length - (i + 1), by omega, rfl, hl, h⟩, fun x H2 y => ?_⟩
    obtain ⟨S2, n, hx⟩ := hJ.yld i S' H' ds[i] x H2 s1 r'.sub e0 y
    have r2 := n.rel0 r'
    have q2 : RunS X.K X.mg E (W1 ++ W2) σ S2 A' H2 (runFor g L F (ds[i] :: ds.drop (i + 1)) ρ') D := RunS.start (n.grow (A := A')) q'
    unfold runFor at q2
    cases z : g ds[i] ρ' with
    | none => simp only [z] at q2; exact q2.elim
    | some ρ2 =>
      simp only [z] at q2
      refine sg x _ σ' ρ' ρ2 S2 A' H2 _ r2 hx z fun σ3 r3 k3 => ?_
      have k03 : Keep (W1 ++ W2) σ σ3 := kp.trans (k3.sub fun i h => List.mem_append_left _ h)
      refine sb σ3 ρ2 S2 A' H2 _ r3 ?_
      have q3 := RunS.bind (fun σ2 H2 => ∃ ρ2 S2 A2, Sub S1 S2 ∧ Rel X.K X.mg S2 ρ2 A2 σ2 H2 ∧ Keep (W1 ++ W2) σ σ2 ∧ RunS X.K X.mg E (W1 ++ W2) σ S2 A2 H2 (runFor g L F (ds.drop (i + 1)) ρ2) D) (q2.shift k03 fun _ h => h)
        fun ρ4 σ4 S4 A4 H4 e4 g4 r4 k4 q4 => ⟨forget L ρ4, S4, A4, (s1.trans n.ss).trans g4.ss, r4.forget L, k03.trans k4, ?_⟩
      · exact (q3.shift (W1 := W2) Keep.refl fun i h => List.mem_append_right _ h).ends (fun _ _ h => h) fun _ _ h => h
      · have q5 := RunS.start g4 q2
        rw [e4] at q5
        exact q5
  · have ei : i = ds.length := by omega
    subst ei
    rw [List.drop_length] at q'
    exact .inl ⟨hJ.stop _ H' (s1.trans r'.sub) rfl, q' σ' S' A' H' Grow.refl r' kp⟩
end DR
end
section
/-! DR7: while, owned lists changed, a def's promise. -/
namespace DR
open PySem L2
variable {K : PySem.W.Frag} {G : Str → Option Value} {S S' S1 H H' H1 : Hp} {A A' A1 B C : List Addr} {E : XK} {σ σ0 σ1 : St} {ρ : Sl} {X : Cx} {e a b c : Expr} {es : List Expr} {pos : Pos} {f1 f2 f3 : Sl → R PyData} {fs : Sl → R (List PyData)}
variable {W W1 W2 : List Nat} {D : Ends} {st : Stmt} {sts : List Stmt} {F F1 F2 : Sl → RS}

def runWhile (c : Sl → R Bool) (L : List Nat) (f : Sl → RS) : Nat → Sl → RS
  | 0, _ => .bad
  | n + 1, ρ => (c ρ).s fun b ρ1 => if b = true then (f ρ1).bind fun ρ2 => runWhile c L f n (forget L ρ2) else .nx ρ1
def sWhile (n : Nat) (c : Sl → R Bool) (L : List Nat) (f : Sl → RS) : Sl → RS := fun ρ => runWhile c L f n ρ
theorem simS_while {c : Expr} {body : List Stmt} {b1 : Sl → R Bool} (n : Nat) (L : List Nat) (hp : PassesOwn (model X.prog X.w) X.A X.env X.xe) (hc : SimT X E c b1) (hb : SimB X E W body F) : SimS X E W (.While c body [] pos) (sWhile n b1 L F) := by
  obtain ⟨tc, pc, sc⟩ := hc.ex
  obtain ⟨tb, pb, sb⟩ := hb.ex
  refine ⟨_, ps_while hp pc pb, fun σ ρ S A H D r q => ?_⟩
  refine ⟨fun m σ' H' => ∃ ρ' S' A', Rel X.K X.mg S' ρ' A' σ' H' ∧ Keep W σ σ' ∧ RunS X.K X.mg E W σ S' A' H' (runWhile b1 L F m ρ') D, ⟨n, ρ, S, A, r, Keep.refl, q⟩, ?_⟩
  rintro m σ' H' ⟨ρ', S', A', r', kp, q'⟩
  cases m with
  | zero => exact q'.elim
  | succ m =>
    unfold runWhile at q'
    refine sc σ' ρ' S' A' H' _ r' ((RunS.ofR' kp q').imp fun b ρ1 S1 A1 H1 q3 r1 => ?_)
    cases b with
    | true =>
      refine iteT ⟨fun σ2 H2 => ∃ ρ2 S2 A2, Rel X.K X.mg S2 ρ2 A2 σ2 H2 ∧ Keep W σ σ2 ∧ RunS X.K X.mg E W σ S2 A2 H2 (runWhile b1 L F m ρ2) D, fun σ2 H2 h => ⟨m, Nat.lt_succ_self m, h⟩, sb σ' ρ1 S1 A1 H1 _ r1 ?_⟩
      exact RunS.bind' kp (fun _ h => h) _ (show RunS X.K X.mg E W σ S1 A1 H1 ((F ρ1).bind fun ρ2 => runWhile b1 L F m (forget L ρ2)) D from q3) (fun ρ4 σ4 S4 A4 H4 _ g4 r4 k4 q4 => ⟨forget L ρ4, S4, A4, r4.forget L, k4, q4⟩) _ rfl rfl
    | false => exact iteF (q3 σ' S1 A1 H1 Grow.refl r1 kp)

/-! ### owned lists -/
/-- the owned list in slot i is changed -/
theorem own_upd {i : Nat} {ms : List MD} (r : Rel K G S ρ A σ H) (e : ρ[i]? = some (some (.ml ms))) :
    ∃ a xs, σ[i]? = some (some (.ref a)) ∧ H a = some (.lst xs) ∧ xs.length = ms.length ∧ ∀ xs' ms', (∀ Bs H', RepMs K G S H xs ms Bs → (∀ b ∈ Bs, ∀ o, H b = some o → H' b = some o) → ∃ Bs', RepMs K G S H' xs' ms' Bs' ∧ Bs'.Sublist Bs) →
      Rel K G S (ρ.set i (some (.ml ms'))) A σ (upd H a (.lst xs')) ∧ Grow S A H S A (upd H a (.lst xs')) := by
  obtain ⟨A0, ro, nd, sb⟩ := r.rep
  obtain ⟨v, B, C, h1, h2, h3, pm⟩ := take1 ro e
  cases h2 with
  | @ml a xs _ Bs ha hs =>
    have ndBC := pm.nodup_iff.mp nd
    have hl : xs.length = ms.length := by
      have := repO_of hs
      have z := this.len
      simpa using z
    refine ⟨a, xs, h1, ha, hl, fun xs' ms' k => ?_⟩
    have nBC := List.nodup_append.mp ndBC
    have naB : a ∉ Bs := (List.nodup_cons.mp nBC.1).1
    have naC : a ∉ C := fun q => nBC.2.2 a (List.mem_cons_self ..) a q rfl
    have haA : a ∈ A := sb a (pm.mem_iff.mpr (List.mem_append_left _ (List.mem_cons_self ..)))
    have keepB : ∀ b ∈ Bs, ∀ o, H b = some o → upd H a (.lst xs') b = some o := fun b hb o ho => by
      rw [upd_ne (fun q => naB (by rw [← q]; exact hb))]
      exact ho
    obtain ⟨Bs', hs', sl⟩ := k Bs (upd H a (.lst xs')) hs keepB
    have hC := h3.mono (Sub.refl S) (H' := upd H a (.lst xs')) fun b hb o ho => by
      rw [upd_ne (fun q => naC (by rw [← q]; exact hb))]
      exact ho
    have hi : i < ρ.length := (List.getElem?_eq_some_iff.mp e).1
    obtain ⟨A2, ro2, pm2⟩ := put1 hC (List.getElem?_set_self hi) h1 (.ml upd_same hs')
    rw [List.set_set] at ro2
    have nd2 : (a :: Bs' ++ C).Nodup := by
      refine ndBC.sublist ?_
      exact List.Sublist.append_right (List.Sublist.cons₂ a sl) C
    have sS : Sub S (upd H a (.lst xs')) := sub_upd r.sub (r.off a haA).1
    refine ⟨⟨sS, ⟨A2, ro2, pm2.nodup_iff.mpr nd2, fun b hb => ?_⟩, fun b hb => ⟨(r.off b hb).1, ?_⟩⟩, ⟨Sub.refl S, fun _ h => .inl h, fun b o h n => ?_, fun _ h => .inl h, fun b h => ?_⟩⟩
    · have := pm2.mem_iff.mp hb
      refine sb b (pm.mem_iff.mpr ?_)
      exact (List.Sublist.append_right (List.Sublist.cons₂ a sl) C).subset this
    · by_cases q : b = a
      · subst q
        rw [upd_same]
        intro z
        cases z
      · rw [upd_ne q]
        exact (r.off b hb).2
    · rw [upd_ne (fun q => n (by rw [q]; exact haA))]
      exact h
    · by_cases q : b = a
      · subst q
        rw [upd_same] at h
        cases h
      · rw [upd_ne q] at h
        exact h
theorem repMs_snoc {v : V} {d : PyData} (hv : Fz K S v d) : ∀ {xs : List V} {ms : List MD} {Bs : List Addr}, RepMs K G S H xs ms Bs → RepMs K G S H (xs ++ [v]) (ms ++ [.fz d]) Bs
  | _, _, _, .nil => .cons (A := []) (B := []) (.fz hv) .nil
  | _, _, _, .cons h hs => .cons h (repMs_snoc hv hs)
theorem repMs_set {v : V} {d : PyData} (hv : Fz K S v d) : ∀ {xs : List V} {ms : List MD} {Bs : List Addr} (j : Nat), RepMs K G S H xs ms Bs → ∃ Bs', RepMs K G S H (xs.set j v) (ms.set j (.fz d)) Bs' ∧ Bs'.Sublist Bs
  | _, _, _, _, .nil => ⟨[], .nil, List.Sublist.slnil⟩
  | _, _, _, 0, .cons (A := A1) (B := B1) h hs => ⟨[] ++ B1, .cons (.fz hv) hs, List.sublist_append_right A1 B1⟩
  | _, _, _, j + 1, .cons (A := A1) (B := B1) h hs => by
    obtain ⟨Bs', a, b⟩ := repMs_set hv j hs
    exact ⟨A1 ++ Bs', .cons h a, List.Sublist.append_left b A1⟩
theorem repMs_get : ∀ {xs : List V} {ms : List MD} {Bs : List Addr} {j : Nat} {d : PyData}, RepMs K G S H xs ms Bs → ms[j]? = some (.fz d) → ∃ v, xs[j]? = some v ∧ Fz K S v d
  | _, _, _, _, _, .nil, h => by simp at h
  | _, _, _, 0, d, .cons h _, e => by
    simp at e
    subst e
    exact ⟨_, rfl, h.fz_of⟩
  | _, _, _, j + 1, d, .cons _ hs, e => by
    obtain ⟨v, a, b⟩ := repMs_get (j := j) hs (by simpa using e)
    exact ⟨v, by simpa using a, b⟩
/-- x.append(e), x an owned list -/
def sApp (i : Nat) (f : Sl → R PyData) : Sl → RS := fun ρ => match ρ[i]? with
  | some (some (.ml _)) => (f ρ).s fun d ρ1 => match ρ1[i]? with
    | some (some (.ml ms)) => if ms.length < sizeLine then .nx (ρ1.set i (some (.ml (ms ++ [.fz d])))) else .bad
    | _ => .bad
  | _ => .bad
theorem simS_app (i : Nat) {x : Str} {p apos cpos : Pos} (h : SimF X E e f1) (hN : X.N[i]? = some x := by rfl) (hv : Vis X.env.scope x := by first | exact Or.inl rfl | exact Or.inr (Or.inl rfl) | exact Or.inr (Or.inr rfl)) (hd : (x == ("__debug__" : Str)) = false := by decide)
    (hcd : (x == ("__classdict__" : Str)) = false := by decide)
    (hbase : attributeBase (.Name x p) "append" X.env (eval (.Name x p) X.env) = eval (.Name x p) X.env := by rfl)
    (hfew : ((backTo cpos (starEach [e] X.env)).all (fun x => !x.1) && (backToKw cpos (keywordEach [] X.env)).all (fun x => x.1.isSome)
      && decide (([e] : List Expr).length + ([] : List Keyword).length + (if ([] : List Keyword).isEmpty then 0 else 1) < 30)) = true := by rfl)
    (hline : (apos.endLine == cpos.line) = true := by rfl) (he : starEach [e] X.env = (false, eval e X.env) :: starEach [] X.env := by rfl) (hplain : (backTo cpos (starEach [] X.env)).any (·.1) = false := by rfl)
    (hs : swapsWith (.Call (.Attribute (.Name x p) "append" apos) [e] [] cpos) none pos.line X.env = pure false := by rfl) :
    SimS X E [] (.Expr (.Call (.Attribute (.Name x p) "append" apos) [e] [] cpos) pos) (sApp i f1) := by
  obtain ⟨t, pe, s⟩ := h.ex
  refine ⟨_, ps_expr (pe_bm PySem.F.plainAttrs_list PySem.F.slot_list_append PySem.F.type_list_append mt_append (pe_var hN hv hd hcd) (pa_cons pe pa_nil he) hbase hfew hline he hplain) hs, fun σ ρ S A H D r q => ?_⟩
  unfold sApp at q
  split at q
  · rename_i ms0 em
    obtain ⟨a, xs, h1, h2, _, _⟩ := own_upd r em
    refine ⟨.ref a, h1, .inl ⟨rfl, xs, SqL.of h2⟩, s σ ρ S A H _ r ((RunS.ofR q).imp fun d ρ1 S1 A1 H1 q1 r1 v hv => ?_)⟩
    split at q1
    · rename_i ms em1
      obtain ⟨a', xs', h1', h2', hl, k⟩ := own_upd r1 em1
      have ea : some (some (V.ref a)) = some (some (V.ref a')) := h1.symm.trans h1'
      injection ea with ea
      injection ea with ea
      injection ea with ea
      subst ea
      by_cases hz : ms.length < sizeLine
      · rw [if_pos hz] at q1
        refine ⟨a, xs', v, rfl, rfl, h2', by rw [hl]; exact hz, ?_⟩
        obtain ⟨r2, g2⟩ := k (xs' ++ [v]) (ms ++ [.fz d]) fun Bs H' hs kp => ⟨Bs, (repMs_snoc hv hs).mono (Sub.refl _) kp, List.Sublist.refl _⟩
        exact q1 σ S1 A1 _ g2 r2 Keep.refl
      · rw [if_neg hz] at q1
        exact q1.elim
    · exact q1.elim
  · exact q.elim
/-- x[k] = e, x an owned list -/
def sSetI (i : Nat) (fv fk : Sl → R PyData) : Sl → RS := fun ρ => (fv ρ).s fun d ρ1 => match ρ1[i]? with
  | some (some (.ml _)) => (fk ρ1).s fun k ρ2 => match ρ2[i]? with
    | some (some (.ml ms)) => match k with
      | .int k => match ixN ms.length k with
        | some j => .nx (ρ2.set i (some (.ml (ms.set j (.fz d)))))
        | none => .bad
      | _ => .bad
    | _ => .bad
  | _ => .bad
theorem simS_setI (i : Nat) {x : Str} {p p2 : Pos} {ix : Expr} (h : SimF X E e f1) (hk : SimF X E ix f2)
    (ps : ∀ {te ti : TE}, PE X e te → PE X ix ti → PS X (.Assign [.Subscript (.Name x p) ix p2] e pos) (tAsg te (gSub (tVar i) ti rSetL))) :
    SimS X E [] (.Assign [.Subscript (.Name x p) ix p2] e pos) (sSetI i f1 f2) := by
  obtain ⟨t, pe, s⟩ := h.ex
  obtain ⟨tk, pk, sk⟩ := hk.ex
  refine ⟨_, ps pe pk, fun σ ρ S A H D r q => s σ ρ S A H _ r ((RunS.ofR q).imp fun d ρ1 S1 A1 H1 q1 r1 v hv => ?_)⟩
  split at q1
  · rename_i ms0 em
    obtain ⟨a, xs, h1, h2, _, _⟩ := own_upd r1 em
    refine ⟨.ref a, h1, sk σ ρ1 S1 A1 H1 _ r1 ((RunS.ofR q1).impG fun kd ρ2 S2 A2 H2 g2 q2 r2 kv hkv => ?_)⟩
    split at q2
    · rename_i ms em1
      obtain ⟨a', xs', h1', h2', hl, k⟩ := own_upd r2 em1
      have ea : some (some (V.ref a)) = some (some (V.ref a')) := h1.symm.trans h1'
      injection ea with ea
      injection ea with ea
      injection ea with ea
      subst ea
      cases hkv with
      | int z =>
        simp only at q2
        cases ej : ixN ms.length z with
        | none => simp only [ej] at q2; exact q2.elim
        | some j =>
          simp only [ej] at q2
          refine ⟨a, xs', z, j, rfl, rfl, h2', by rw [hl]; exact ej, ?_⟩
          obtain ⟨r3, g3⟩ := k (xs'.set j v) (ms.set j (.fz d)) fun Bs H' hs kp => by
            obtain ⟨Bs', z1, z2⟩ := repMs_set (dp_mono g2.ss hv) j hs
            exact ⟨Bs', z1.mono (Sub.refl _) fun b hb => kp b (z2.subset hb), z2⟩
          exact q2 σ S2 A2 _ g3 r3 Keep.refl
      | _ => exact q2.elim
    · exact q2.elim
  · exact q1.elim
/-- x += e, whole numbers -/
def sAugI (i : Nat) (g : Int → Int → Int) (f : Sl → R PyData) : Sl → RS := fun ρ => match ρ[i]? with
  | some (some (.fz (.int n))) => (f ρ).s fun d ρ1 => match d with
    | .int m => .nx (ρ1.set i (some (.fz (.int (g n m)))))
    | _ => .bad
  | _ => .bad
theorem simS_augI (i : Nat) {x : Str} {p : Pos} {op : Operator} {g : Int → Int → Int} (nd : X.N.Nodup) (h : SimF X E e f1) (ho : PIp X op (ipI g)) (hi : X.N[i]? = some x := by rfl) (hx : Loc X.env.scope x := by first | exact Or.inl rfl | exact Or.inr rfl)
    (hf : X.fn x = true ∨ X.env.scope.names.lookup x = some .local := by first | exact .inl rfl | exact .inr rfl | assumption) : SimS X E [i] (.AugAssign (.Name x p) op e pos) (sAugI i g f1) := by
  obtain ⟨t, pe, s⟩ := h.ex
  refine ⟨_, ps_aug nd hi hx pe ho hf, fun σ ρ S A H D r q => ?_⟩
  unfold sAugI at q
  split at q
  · rename_i n em
    obtain ⟨v, B, h1, h2⟩ := r.at em
    have hz := h2.fz_of
    cases hz with
    | int =>
      refine ⟨.int n, h1, s σ ρ S A H _ r ((RunS.ofR q).imp fun d ρ1 S1 A1 H1 q1 r1 w hw => ?_)⟩
      cases hw with
      | int m => exact ⟨n, m, rfl, rfl, q1 _ S1 A1 H1 Grow.refl (Rel.setV (r1.pushF (.int _))) (Keep.set (List.mem_singleton.mpr rfl))⟩
      | _ => exact q1.elim
  · exact q.elim

/-! ### moves; what is walked, list or tuple -/
def mMove (i : Nat) : Sl → R MD := fun ρ => match ρ[i]? with
  | some (some m) => .ok m (ρ.set i none)
  | _ => .bad
theorem simM_move (i : Nat) {x : Str} {pos : Pos} (hN : X.N[i]? = some x := by rfl) (hv : Vis X.env.scope x := by first | exact Or.inl rfl | exact Or.inr (Or.inl rfl) | exact Or.inr (Or.inr rfl)) (hd : (x == ("__debug__" : Str)) = false := by decide)
    (hcd : (x == ("__classdict__" : Str)) = false := by decide) : SimM X E (.Name x pos) (mMove i) := by
  refine ⟨_, pe_var hN hv hd hcd, fun σ ρ S A H Q r q => ?_⟩
  unfold mMove at q
  split at q
  · rename_i m em
    obtain ⟨A0, ro, nd, sb⟩ := r.rep
    obtain ⟨v, B, C, h1, h2, h3, pm⟩ := take1 ro em
    exact ⟨v, h1, q S A H Grow.refl v ⟨r.sub, ⟨B ++ C, .keep h2 h3, pm.nodup_iff.mp nd, fun a h => sb a (pm.mem_iff.mpr h)⟩, r.off⟩⟩
  · exact q.elim
/-- an item of an owned list, the item itself frozen -/
def mIxO (i : Nat) (f : Sl → R PyData) : Sl → R PyData := fun ρ => match ρ[i]? with
  | some (some (.ml _)) => (f ρ).bind fun k ρ1 => match ρ1[i]? with
    | some (some (.ml ms)) => match k with
      | .int k => match atI ms k with
        | some (.fz d) => .ok d ρ1
        | _ => .bad
      | _ => .bad
    | _ => .bad
  | _ => .bad
theorem simF_ixO (i : Nat) {x : Str} {p : Pos} (h : SimF X E e f1) (hN : X.N[i]? = some x := by rfl) (hv : Vis X.env.scope x := by first | exact Or.inl rfl | exact Or.inr (Or.inl rfl) | exact Or.inr (Or.inr rfl)) (hd : (x == ("__debug__" : Str)) = false := by decide)
    (hcd : (x == ("__classdict__" : Str)) = false := by decide) (hp : PlainIx e := by exact fun _ _ => rfl) : SimF X E (.Subscript (.Name x p) e pos) (mIxO i f1) := by
  obtain ⟨t, pe, s⟩ := h.ex
  refine ⟨_, pe_ix ix_list (pe_var hN hv hd hcd) pe hp, fun σ ρ S A H Q r q => ?_⟩
  unfold mIxO at q
  split at q
  · rename_i ms0 em
    obtain ⟨a, xs, h1, h2, _, _⟩ := own_upd r em
    refine ⟨.ref a, h1, s σ ρ S A H _ r ((Run.bind q).impG fun k ρ1 S1 A1 H1 g1 q1 r1 kv hkv => ?_)⟩
    split at q1
    · rename_i ms em1
      obtain ⟨A0, ro, nd, sb⟩ := r1.rep
      obtain ⟨v, B, C, h1', h2', h3', pm⟩ := take1 ro em1
      cases h2' with
      | @ml a' xs' _ Bs ha hs =>
        have ea : some (some (V.ref a)) = some (some (V.ref a')) := h1.symm.trans h1'
        injection ea with ea
        injection ea with ea
        injection ea with ea
        subst ea
        cases hkv with
        | int z =>
          simp only at q1
          split at q1
          · rename_i d ed
            have hl : xs'.length = ms.length := by
              have z := (repO_of hs).len
              simpa using z
            unfold atI at ed
            obtain ⟨j, e1, e2⟩ := Option.bind_eq_some_iff.mp ed
            obtain ⟨v, e3, hv⟩ := repMs_get hs e2
            refine ⟨a, xs', z, v, rfl, rfl, SqL.of ha, ?_, q1 S1 A1 H1 Grow.refl r1 v hv⟩
            unfold atI
            rw [hl, e1]
            exact e3
          · exact q1.elim
        | _ => exact q1.elim
    · exact q1.elim
  · exact q.elim
/-- a slice of the script -/
def mCutS (i : Nat) (l u : Sl → R (Option Int)) : Sl → R MD := fun ρ => match ρ[i]? with
  | some (some (.sc ns)) => (l ρ).bind fun lo ρ => (u ρ).bind fun hi ρ => .ok (.ml ((cutD ns lo hi).map fun n => .fz (.int n))) ρ
  | _ => .bad
theorem cut_map {α β : Type} (f : α → β) (xs : List α) (lo hi : Option Int) : cutD (xs.map f) lo hi = (cutD xs lo hi).map f := by
  unfold cutD
  rw [List.length_map, List.map_take, List.map_drop]
theorem simM_cutS (i : Nat) {x : Str} {pos p p2 : Pos} {lo hi : Option Expr} {l u : Sl → R (Option Int)} (hl : SimO X E lo l) (hu : SimO X E hi u) (hN : X.N[i]? = some x := by rfl) (hv : Vis X.env.scope x := by first | exact Or.inl rfl | exact Or.inr (Or.inl rfl) | exact Or.inr (Or.inr rfl)) (hd : (x == ("__debug__" : Str)) = false := by decide)
    (hcd : (x == ("__classdict__" : Str)) = false := by decide) : SimM X E (.Subscript (.Name x p) (.Slice lo hi none p2) pos) (mCutS i l u) := by
  obtain ⟨tl, pl, sl⟩ := hl.ex
  obtain ⟨tu, pu, su⟩ := hu.ex
  refine ⟨_, pe_slice sl_list (pe_var hN hv hd hcd) pl pu, fun σ ρ S A H Q r q => ?_⟩
  unfold mCutS at q
  split at q
  · rename_i ns em
    obtain ⟨v, B, h1, h2⟩ := r.at em
    cases h2 with
    | sc h2 =>
      refine ⟨_, h1, sl σ ρ S A H _ r ((Run.bind q).impG fun i ρ2 S2 A2 H2 g2 q2 r2 => ?_)⟩
      refine su σ ρ2 S2 A2 H2 _ r2 ((Run.bind q2).impG fun j ρ3 S3 A3 H3 g3 q3 r3 => ?_)
      refine ⟨_, _, rfl, r3.sub.l (g3.ss.l (g2.ss.l h2)), fun p np => ?_⟩
      have ec : cutV (ns.map V.int) i j = (cutD ns i j).map V.int := cut_map V.int ns i j
      rw [ec]
      have z := new_lst (G := X.mg) r3.sub (dpA_ints (K := X.K) (S := S3) (ns := cutD ns i j)) (Q := Q) (fun v S' B H' n h => q3 S' (B ++ A3) H' n.grow v (n.rel r3 (by rw [List.map_map] at h; exact h))) p np
      exact z
  · exact q.elim
theorem PI.or {tg it : Expr} {w1 w2 : TI} (h1 : PI X tg it w1) (h2 : PI X tg it w2) : PI X tg it fun σ H R => w1 σ H R ∨ w2 σ H R :=
  ⟨fun pins s σ H R I h => h.elim (h1.run pins s σ H R I) (h2.run pins s σ H R I)⟩
def itU (f : Sl → R PyData) : Sl → R (List PyData) := fun ρ => (f ρ).bind fun d ρ => match d with
  | .list ds => .ok ds ρ
  | .tuple ds => .ok ds ρ
  | _ => .bad
theorem simI_u {tg : Expr} (h : SimF X E e f1) : SimI X E tg e (itU f1) := by
  obtain ⟨t, p, s⟩ := h.ex
  refine ⟨_, PI.or (pi_list p) (pi_tup p), fun σ ρ S A H R r q => ?_⟩
  unfold itU at q
  have sem := fun Q => s σ ρ S A H Q r
  cases z : f1 ρ with
  | ok d ρ1 =>
    rw [z] at q
    cases d with
    | list ds =>
      refine .inl (sem _ ?_)
      rw [z]
      intro S1 A1 H1 g r1 v hv
      cases hv with
      | lst h1 hs1 => exact ⟨_, rfl, ⟨_, .inl (r1.sub.rd (.inl h1))⟩, q S1 A1 H1 g r1 _ (walks_l (.inl h1) hs1)⟩
    | tuple ds =>
      refine .inr (sem _ ?_)
      rw [z]
      intro S1 A1 H1 g r1 v hv
      cases hv with
      | tup h1 hs1 => exact ⟨_, rfl, ⟨_, r1.sub.t h1⟩, q S1 A1 H1 g r1 _ (walks_t h1 hs1)⟩
    | _ => exact q.elim
  | exc x ρ1 =>
    rw [z] at q
    refine .inl (sem _ ?_)
    rw [z]
    exact q
  | bad =>
    rw [z] at q
    exact q.elim

/-! ### a def -/
def ownArgs (W : List Nat) : Nat → List MD → Sl → Option (List MD)
  | _, [], _ => some []
  | i, .fz d :: ms, ρ => (ownArgs W (i + 1) ms ρ.tail).map (.fz d :: ·)
  | i, _ :: ms, ρ => if i ∈ W then (ownArgs W (i + 1) ms ρ.tail).map (.gone :: ·) else match ρ.head? with
    | some (some m) => (ownArgs W (i + 1) ms ρ.tail).map (m :: ·)
    | _ => (ownArgs W (i + 1) ms ρ.tail).map (.gone :: ·)
/-- a def of n parameters and k further names; W: the names that it stores -/
def okArgs : Bool := true
def fnEnd (W : List Nat) (ms : List MD) : RS → FR
  | .nx ρ => match ownArgs W 0 ms ρ with
    | some ms' => .ok (.fz .none) ms'
    | none => .bad
  | .rt m ρ => match ownArgs W 0 ms ρ with
    | some ms' => .ok m ms'
    | none => .bad
  | .exc x ρ => match ownArgs W 0 ms ρ with
    | some ms' => .exc x ms'
    | none => .bad
  | .bad => .bad
def fnSem (n k : Nat) (W : List Nat) (F : Sl → RS) : FnSem := fun ms =>
  if ms.length = n then fnEnd W ms (F (ms.map some ++ List.replicate k none)) else .bad
theorem repO_none : ∀ (k : Nat), RepO K G S H (List.replicate k (none : Option V)) (List.replicate k none) []
  | 0 => .nil
  | k + 1 => .skip (repO_none k)
theorem repO_app : ∀ {σ1 : St} {ρ1 : Sl} {A1 : List Addr} {σ2 : St} {ρ2 : Sl} {A2 : List Addr}, RepO K G S H σ1 ρ1 A1 → RepO K G S H σ2 ρ2 A2 → RepO K G S H (σ1 ++ σ2) (ρ1 ++ ρ2) (A1 ++ A2)
  | _, _, _, _, _, _, .nil, h => h
  | _, _, _, _, _, _, .skip h, h2 => .skip (repO_app h h2)
  | _, _, _, _, _, _, .keep (A := A1) h hs, h2 => by
    rw [List.append_assoc]
    exact .keep h (repO_app hs h2)
/-- behind the body: the arguments -/
theorem own_back {S0 H0 : Hp} {W : List Nat} : ∀ {ms : List MD} {vs : List V} {A0 : List Addr} {σ : St} {ρ : Sl} {A : List Addr} {ms' : List MD} (n : Nat), RepMs K G S0 H0 vs ms A0 → Sub S0 S → RepO K G S H σ ρ A → ownArgs W n ms ρ = some ms' →
    (∀ i, n + i ∉ W → i < vs.length → σ[i]? = (vs.map some)[i]?) → ms.length ≤ ρ.length → ∃ B, RepMs K G S H vs ms' B ∧ B.Sublist A
  | [], _, _, _, _, A, _, n, .nil, ss, h, e, k, hl => by
    simp only [ownArgs, Option.some.injEq] at e
    subst e
    exact ⟨[], .nil, List.nil_sublist _⟩
  | m :: ms, _, _, σ, ρ, A, ms', n, .cons (v := v) (vs := vs) hm hms, ss, h, e, k, hl => by
    have kk : ∀ {x : Option V} {σ' : St}, (∀ i, n + i ∉ W → i < (v :: vs).length → (x :: σ')[i]? = ((v :: vs).map some)[i]?) → ∀ i, n + 1 + i ∉ W → i < vs.length → σ'[i]? = (vs.map some)[i]? := fun k i hi hlt => by
      have := k (i + 1) (by rw [Nat.add_comm i 1, ← Nat.add_assoc]; exact hi) (by rw [List.length_cons]; omega)
      simpa using this
    cases h with
    | nil => simp at hl
    | @skip x σ ρ A h =>
      have hl' : ms.length ≤ ρ.length := by simpa using hl
      cases m with
      | fz d =>
        simp only [ownArgs, Option.map_eq_some_iff] at e
        obtain ⟨ms1, e1, e2⟩ := e
        subst e2
        obtain ⟨B, b1, b2⟩ := own_back (n + 1) hms ss h e1 (kk k) hl'
        exact ⟨[] ++ B, .cons (.fz (dp_mono ss hm.fz_of)) b1, b2⟩
      | _ =>
        simp only [ownArgs, List.head?_cons, List.tail_cons, ite_self, Option.map_eq_some_iff] at e
        obtain ⟨ms1, e1, e2⟩ := e
        subst e2
        obtain ⟨B, b1, b2⟩ := own_back (n + 1) hms ss h e1 (kk k) hl'
        exact ⟨[] ++ B, .cons .gone b1, b2⟩
    | @keep v' m' σ ρ A1 A2 h hs =>
      have hl' : ms.length ≤ ρ.length := by simpa using hl
      cases m with
      | fz d =>
        simp only [ownArgs, Option.map_eq_some_iff] at e
        obtain ⟨ms1, e1, e2⟩ := e
        subst e2
        obtain ⟨B, b1, b2⟩ := own_back (n + 1) hms ss hs e1 (kk k) hl'
        exact ⟨[] ++ B, .cons (.fz (dp_mono ss hm.fz_of)) b1, b2.trans (List.sublist_append_right A1 A2)⟩
      | _ =>
        simp only [ownArgs, List.head?_cons, List.tail_cons] at e
        by_cases hw : n ∈ W
        · rw [if_pos hw, Option.map_eq_some_iff] at e
          obtain ⟨ms1, e1, e2⟩ := e
          subst e2
          obtain ⟨B, b1, b2⟩ := own_back (n + 1) hms ss hs e1 (kk k) hl'
          exact ⟨[] ++ B, .cons .gone b1, b2.trans (List.sublist_append_right A1 A2)⟩
        · rw [if_neg hw, Option.map_eq_some_iff] at e
          obtain ⟨ms1, e1, e2⟩ := e
          subst e2
          have ev := k 0 (by simpa using hw) (by simp)
          simp at ev
          subst ev
          obtain ⟨B, b1, b2⟩ := own_back (n + 1) hms ss hs e1 (kk k) hl'
          exact ⟨A1 ++ B, .cons h b1, List.Sublist.append_left b2 A1⟩
section
variable {P : Program} {w : World} {mg : Str → Option Value} {base : Heap}
theorem fn_ok {x qual : Str} {st : Stmt} {f : Addr} {fd : FuncData} {N ps : List Str} {k n m : Nat} {W : List Nat} {F : Sl → RS} (Fn : Fun K x qual st f fd) (Sc : FnScope N ps (defScope st)) (hn : ps.length = n) (hN : N.length = n + m)
    (hb : ∀ (cdv : Value) (A : Around) (outer : List Env) (s : Shared) (H : Hp) (E : XK), Room k (A.deeper (PyProof.Rows.envOfC qual (defScope st) s.heap.objs.size f cdv)) →
      SimB (cxOf (L2.CX P w) P w K mg base N qual (defScope st) f cdv A outer s H E) E W (defBody st) F) : FnOk P w K mg base (L2.CX P w) (k + 1) f fd ps (spOf K mg (fnSem n m W F)) := by
  refine Fn.okX Sc (fun vs H Q E h => ?_) (fun cdv AA outer s H vs Q E hr h => ?_)
  · obtain ⟨S, ms, A, r, q⟩ := h
    by_cases hc : ms.length = n
    · obtain ⟨A0, ro, _, _⟩ := r.rep
      have := ro.len
      rw [List.length_map, List.length_map] at this
      rw [this, hc, hn]
    · have ef : fnSem n m W F ms = .bad := if_neg hc
      rw [ef] at q
      exact q.elim
  · obtain ⟨S, ms, A, r, q⟩ := h
    obtain ⟨t, p, sm⟩ := (hb cdv AA outer s H E hr).ex
    refine ⟨t, p, ?_⟩
    by_cases hc : ms.length = n
    · have ef : fnSem n m W F ms = fnEnd W ms (F (ms.map some ++ List.replicate m none)) := if_pos hc
      rw [ef] at q
      obtain ⟨A0, ro, nd, sb⟩ := r.rep
      have hl := ro.len
      rw [List.length_map, List.length_map] at hl
      have es : L2.start N vs = vs.map some ++ List.replicate m none := by
        unfold L2.start
        rw [hN, hl, hc, Nat.add_sub_cancel_left]
      have ro' : RepO K mg S H (L2.start N vs) (ms.map some ++ List.replicate m none) A0 := by
        have := repO_app ro (repO_none m)
        rw [List.append_nil] at this
        rw [es]
        exact this
      have r0 : Rel K mg S (ms.map some ++ List.replicate m none) A (L2.start N vs) H := ⟨r.sub, ⟨A0, ro', nd, sb⟩, r.off⟩
      have ht : ∀ i, i < vs.length → (L2.start N vs)[i]? = (vs.map some)[i]? := fun i hi => by
        rw [es, List.getElem?_append_left (by rw [List.length_map]; exact hi)]
      refine sm (L2.start N vs) _ S A H _ r0 ?_
      have back : ∀ {σ' : St} {ρ' : Sl} {S' : Hp} {H' : Hp} {ms' : List MD} {A1 : List Addr}, Sub S S' → RepO K mg S' H' σ' ρ' A1 → Keep W (L2.start N vs) σ' → ownArgs W 0 ms ρ' = some ms' → ∃ B, RepMs K mg S' H' vs ms' B ∧ B.Sublist A1 := fun {σ' ρ' S' H' ms' A1} ss ro1 kp e =>
        own_back 0 (repMs_of ro) ss ro1 e (fun i hi hlt => (kp.at_ i (by rw [Nat.zero_add] at hi; exact hi)).trans (ht i hlt)) (by
          have l1 := ro1.len
          have l2 := kp.len
          have l3 := ro'.len
          rw [List.length_append, List.length_map] at l3
          omega)
      generalize F (ms.map some ++ List.replicate m none) = rr at q
      cases rr with
      | bad => exact q.elim
      | nx ρ' =>
        intro σ' S' A' H' g r' kp
        cases e : ownArgs W 0 ms ρ' with
        | none =>
          simp only [fnEnd, e] at q
        | some ms' =>
          simp only [fnEnd, e] at q
          obtain ⟨A1, ro1, nd1, sb1⟩ := r'.rep
          obtain ⟨B, b1, b2⟩ := back g.ss ro1 kp e
          exact q .non S' A' H' g ⟨r'.sub, ⟨[] ++ B, .keep (.fz .non) (repO_of b1), nd1.sublist b2, fun a h => sb1 a (b2.subset h)⟩, r'.off⟩
      | rt m ρ' =>
        intro v σ' S' A' H' g r' kp
        cases e : ownArgs W 0 ms ρ' with
        | none =>
          simp only [fnEnd, e] at q
        | some ms' =>
          simp only [fnEnd, e] at q
          obtain ⟨A1, ro1, nd1, sb1⟩ := r'.rep
          cases ro1 with
          | @keep _ _ _ _ Bm As hm hs =>
            obtain ⟨B, b1, b2⟩ := back g.ss hs kp e
            exact q v S' A' H' g ⟨r'.sub, ⟨Bm ++ B, .keep hm (repO_of b1), nd1.sublist (List.Sublist.append_left b2 Bm), fun a h => sb1 a ((List.Sublist.append_left b2 Bm).subset h)⟩, r'.off⟩
      | exc y ρ' =>
        intro σ' S' A' H' cls dd g r' kp ex
        cases e : ownArgs W 0 ms ρ' with
        | none =>
          simp only [fnEnd, e] at q
        | some ms' =>
          simp only [fnEnd, e] at q
          obtain ⟨A1, ro1, nd1, sb1⟩ := r'.rep
          obtain ⟨B, b1, b2⟩ := back g.ss ro1 kp e
          exact q S' A' H' cls dd g ⟨r'.sub, ⟨B, repO_of b1, nd1.sublist b2, fun a h => sb1 a (b2.subset h)⟩, r'.off⟩ ex
    · have ef : fnSem n m W F ms = .bad := if_neg hc
      rw [ef] at q
      exact q.elim
end
end DR
end
section
/-! DR8: reckoning with the functions. -/
namespace DR
open PySem L2
/-- simp takes these as equations to rewrite by, not as definitional ones (the kernel went astray) -/
theorem keep {α : Sort _} {a b : α} (h : a = b) : a = b := h
@[simp] theorem R.s_ok {α : Type} (a : α) (ρ : Sl) (f : α → Sl → RS) : (R.ok a ρ).s f = f a ρ := keep rfl
@[simp] theorem R.s_exc {α : Type} (x : Exn) (ρ : Sl) (f : α → Sl → RS) : (R.exc x ρ).s f = .exc x ρ := keep rfl
@[simp] theorem R.s_bad {α : Type} (f : α → Sl → RS) : (R.bad : R α).s f = .bad := keep rfl
@[simp] theorem R.b_ok {α β : Type} (a : α) (ρ : Sl) (g : α → Sl → R β) : (R.ok a ρ).bind g = g a ρ := keep rfl
@[simp] theorem R.b_exc {α β : Type} (x : Exn) (ρ : Sl) (g : α → Sl → R β) : (R.exc x ρ).bind g = .exc x ρ := keep rfl
@[simp] theorem R.b_bad {α β : Type} (g : α → Sl → R β) : (R.bad : R α).bind g = .bad := keep rfl
@[simp] theorem RS.b_nx (ρ : Sl) (f : Sl → RS) : (RS.nx ρ).bind f = f ρ := keep rfl
@[simp] theorem RS.b_rt (m : MD) (ρ : Sl) (f : Sl → RS) : (RS.rt m ρ).bind f = .rt m ρ := keep rfl
@[simp] theorem RS.b_exc (x : Exn) (ρ : Sl) (f : Sl → RS) : (RS.exc x ρ).bind f = .exc x ρ := keep rfl
@[simp] theorem RS.b_bad (f : Sl → RS) : RS.bad.bind f = .bad := keep rfl
@[simp] theorem sSeq_e (f g : Sl → RS) (ρ : Sl) : sSeq f g ρ = (f ρ).bind g := keep rfl
@[simp] theorem sNil_e (ρ : Sl) : sNil ρ = .nx ρ := keep rfl
@[simp] theorem sSet_e (i : Nat) (f : Sl → R MD) (ρ : Sl) : sSet i f ρ = (f ρ).s fun m ρ => .nx (ρ.set i (some m)) := keep rfl
@[simp] theorem sIf_e (c : Sl → R Bool) (f g : Sl → RS) (ρ : Sl) : sIf c f g ρ = (c ρ).s fun b ρ => if b = true then f ρ else g ρ := keep rfl
@[simp] theorem sRet_e (f : Sl → R MD) (ρ : Sl) : sRet f ρ = (f ρ).s fun m ρ => .rt m ρ := keep rfl
@[simp] theorem sDrop_e (f : Sl → R MD) (ρ : Sl) : sDrop f ρ = (f ρ).s fun _ ρ => .nx ρ := keep rfl
@[simp] theorem sTgt_e (g : PyData → Sl → Option Sl) (f : Sl → R PyData) (ρ : Sl) : sTgt g f ρ = (f ρ).s fun d ρ => match g d ρ with | some ρ' => .nx ρ' | none => .bad := keep rfl
@[simp] theorem sFrz_e (i : Nat) (f : Sl → RS) (ρ : Sl) : sFrz i f ρ = f (frzSlot i ρ) := keep rfl
@[simp] theorem sFor_e (it : Sl → R (List PyData)) (g : PyData → Sl → Option Sl) (L : List Nat) (f : Sl → RS) (ρ : Sl) : sFor it g L f ρ = (it ρ).s fun ds ρ => runFor g L f ds ρ := keep rfl
@[simp] theorem sWhile_e (n : Nat) (c : Sl → R Bool) (L : List Nat) (f : Sl → RS) (ρ : Sl) : sWhile n c L f ρ = runWhile c L f n ρ := keep rfl
@[simp] theorem mC_e (d : PyData) (ρ : Sl) : mC d ρ = .ok d ρ := keep rfl
@[simp] theorem mVar_e (i : Nat) (ρ : Sl) : mVar i ρ = match ρ[i]? with | some (some (.fz d)) => .ok d ρ | _ => .bad := keep rfl
@[simp] theorem mMove_e (i : Nat) (ρ : Sl) : mMove i ρ = match ρ[i]? with | some (some m) => .ok m (ρ.set i none) | _ => .bad := keep rfl
@[simp] theorem mFrz_e (f : Sl → R MD) (ρ : Sl) : mFrz f ρ = (f ρ).bind fun m ρ => match m.frz with | some d => .ok d ρ | none => .bad := keep rfl
@[simp] theorem mFz_e (f : Sl → R PyData) (ρ : Sl) : mFz f ρ = (f ρ).bind fun d ρ => .ok (.fz d) ρ := keep rfl
@[simp] theorem lft_some {α : Type} (a : α) (ρ : Sl) : lft (some a) ρ = .ok a ρ := keep rfl
@[simp] theorem lft_none {α : Type} (ρ : Sl) : lft (none : Option α) ρ = .bad := keep rfl
@[simp] theorem mOp_e {α : Type} (g : PyData → PyData → Option α) (f1 f2 : Sl → R PyData) (ρ : Sl) : mOp g f1 f2 ρ = (f1 ρ).bind fun a ρ => (f2 ρ).bind fun b ρ => lft (g a b) ρ := keep rfl
@[simp] theorem mUn_e {α : Type} (g : PyData → Option α) (f1 : Sl → R PyData) (ρ : Sl) : mUn g f1 ρ = (f1 ρ).bind fun a ρ => lft (g a) ρ := keep rfl
@[simp] theorem mCall_e {α : Type} (g : List PyData → Option α) (f1 : Sl → R (List PyData)) (ρ : Sl) : mCall g f1 ρ = (f1 ρ).bind fun a ρ => lft (g a) ρ := keep rfl
@[simp] theorem mNil_e (ρ : Sl) : mNil ρ = .ok [] ρ := keep rfl
@[simp] theorem mCons_e (f : Sl → R PyData) (g : Sl → R (List PyData)) (ρ : Sl) : mCons f g ρ = (f ρ).bind fun d ρ => (g ρ).bind fun ds ρ => .ok (d :: ds) ρ := keep rfl
theorem small_len {n : Nat} (h : n ≤ 100000) : n ≤ sizeLine := Nat.le_trans h (by decide)
theorem small_lt {n : Nat} (h : n ≤ 100000) : n < sizeLine := Nat.lt_of_le_of_lt h (by decide)
@[simp] theorem mTup_e (f : Sl → R (List PyData)) (ρ : Sl) : mTup f ρ = (f ρ).bind fun ds ρ => if ds.length ≤ sizeLine then .ok (.tuple ds) ρ else .bad := keep rfl
@[simp] theorem mLst_e (f : Sl → R (List PyData)) (ρ : Sl) : mLst f ρ = (f ρ).bind fun ds ρ => if ds.length ≤ sizeLine then .ok (.ml (ds.map .fz)) ρ else .bad := keep rfl
@[simp] theorem mB_e (f : Sl → R PyData) (ρ : Sl) : mB f ρ = (f ρ).bind fun d ρ => match d with | .bool b => .ok b ρ | _ => .bad := keep rfl
@[simp] theorem mBv_e (f : Sl → R Bool) (ρ : Sl) : mBv f ρ = (f ρ).bind fun b ρ => .ok (.bool b) ρ := keep rfl
@[simp] theorem mNot_e (f : Sl → R Bool) (ρ : Sl) : mNot f ρ = (f ρ).bind fun b ρ => .ok (!b) ρ := keep rfl
@[simp] theorem mAnd_e (f g : Sl → R Bool) (ρ : Sl) : mAnd f g ρ = (f ρ).bind fun b ρ => if b = true then g ρ else .ok false ρ := keep rfl
@[simp] theorem mOr_e (f g : Sl → R Bool) (ρ : Sl) : mOr f g ρ = (f ρ).bind fun b ρ => if b = true then .ok true ρ else g ρ := keep rfl
@[simp] theorem mIf_e {α : Type} (c : Sl → R Bool) (f g : Sl → R α) (ρ : Sl) : mIf c f g ρ = (c ρ).bind fun b ρ => if b = true then f ρ else g ρ := keep rfl
@[simp] theorem mChain_e (g g' : PyData → PyData → Option PyData) (f1 f2 f3 : Sl → R PyData) (ρ : Sl) : mChain g g' f1 f2 f3 ρ = (f1 ρ).bind fun a ρ => (f2 ρ).bind fun b ρ => match g a b with
  | some (.bool true) => (f3 ρ).bind fun c ρ => lft (g' b c) ρ
  | some (.bool false) => .ok (.bool false) ρ
  | _ => .bad := keep rfl
@[simp] theorem mPeek_e (f : Sl → R PyData) (ρ : Sl) : mPeek f ρ = match f (view ρ) with | .ok d _ => if flatD d = true then .ok d ρ else .bad | _ => .bad := keep rfl
@[simp] theorem mPeekB_e (f : Sl → R Bool) (ρ : Sl) : mPeekB f ρ = match f (view ρ) with | .ok d _ => .ok d ρ | _ => .bad := keep rfl
@[simp] theorem view_nil : view [] = [] := keep rfl
@[simp] theorem view_cons (x : Option MD) (ρ : Sl) : view (x :: ρ) = view1 x :: view ρ := keep rfl
@[simp] theorem view1_none : view1 none = none := keep rfl
@[simp] theorem view1_some (m : MD) : view1 (some m) = (m.frz).map .fz := keep rfl
@[simp] theorem frz_fz (d : PyData) : MD.frz (.fz d) = some d := by simp [MD.frz]
@[simp] theorem frz_ml (ms : List MD) : MD.frz (.ml ms) = (frzs ms).map .list := by simp [MD.frz]
@[simp] theorem frz_mt (ms : List MD) : MD.frz (.mt ms) = (frzs ms).map .tuple := by simp [MD.frz]
@[simp] theorem frzs_nil : frzs [] = some [] := by simp [frzs]
@[simp] theorem frzs_cons (m : MD) (ms : List MD) : frzs (m :: ms) = (m.frz).bind fun d => (frzs ms).map (d :: ·) := by simp [frzs]
@[simp] theorem frzs_map (ds : List PyData) : frzs (ds.map .fz) = some ds := frzs_fz ds
@[simp] theorem frzs_mapI (l : List Int) : frzs (l.map fun n => .fz (.int n)) = some (l.map .int) := by
  have := frzs_fz (l.map PyData.int)
  rw [List.map_map] at this
  exact this
@[simp] theorem frz_sc (ns : List Int) : MD.frz (.sc ns) = none := by simp [MD.frz]
@[simp] theorem frz_md (kvs : List (Key × PyData)) : MD.frz (.md kvs) = none := by simp [MD.frz]
@[simp] theorem frz_mk (kvs : List (List Key × PyData)) : MD.frz (.mk kvs) = none := by simp [MD.frz]
@[simp] theorem flatD_int (i : Int) : flatD (.int i) = true := keep rfl
@[simp] theorem flatD_bool (b : Bool) : flatD (.bool b) = true := keep rfl
@[simp] theorem flatD_none : flatD .none = true := keep rfl
@[simp] theorem flatD_str (s : Str) : flatD (.str s) = true := keep rfl
@[simp] theorem gAddI_e (i j : Int) : gAddI (.int i) (.int j) = some (.int (i + j)) := keep rfl
@[simp] theorem gMinus_e (i j : Int) : gMinus (.int i) (.int j) = some (.int (i - j)) := keep rfl
@[simp] theorem gMul_e (i j : Int) : gMul (.int i) (.int j) = if (small i || small j) = true then some (.int (i * j)) else none := keep rfl
@[simp] theorem gFdiv_e (i j : Int) : gFdiv (.int i) (.int j) = if 0 < j ∧ j < 1073741824 then some (.int (i / j)) else none := keep rfl
@[simp] theorem gMod_e (i j : Int) : gMod (.int i) (.int j) = if 0 < j then some (.int (i % j)) else none := keep rfl
@[simp] theorem gPow_e (i j : Int) : gPow (.int i) (.int j) = if 0 ≤ j ∧ j ≤ 1000000 ∧ i.natAbs < 2 ^ 64 then some (.int (i ^ j.toNat)) else none := keep rfl
@[simp] theorem gNeg_e (i : Int) : gNeg (.int i) = some (.int (-i)) := keep rfl
@[simp] theorem gAdd_ii (i j : Int) : gAdd (.int i) (.int j) = some (.fz (.int (i + j))) := keep rfl
@[simp] theorem gAdd_ll (xs ys : List PyData) : gAdd (.list xs) (.list ys) = if xs.length + ys.length ≤ sizeLine then some (.ml ((xs ++ ys).map .fz)) else none := keep rfl
@[simp] theorem gAdd_tt (xs ys : List PyData) : gAdd (.tuple xs) (.tuple ys) = if xs.length + ys.length ≤ sizeLine then some (.fz (.tuple (xs ++ ys))) else none := keep rfl
@[simp] theorem gAdd_ss (x y : Str) : gAdd (.str x) (.str y) = if x.length + y.length ≤ sizeLine then some (.fz (.str (x ++ y))) else none := keep rfl
@[simp] theorem gCmp_e (p : Int → Int → Bool) (i j : Int) : gCmp p (.int i) (.int j) = some (.bool (p i j)) := keep rfl
@[simp] theorem gIs_none (a : PyData) : gIs a .none = some (.bool (isNone a)) := keep rfl
@[simp] theorem gIsnt_none (a : PyData) : gIsnt a .none = some (.bool (!isNone a)) := keep rfl
@[simp] theorem isNone_none : isNone .none = true := keep rfl
@[simp] theorem isNone_int (i : Int) : isNone (.int i) = false := keep rfl
@[simp] theorem isNone_bool (i : Bool) : isNone (.bool i) = false := keep rfl
@[simp] theorem isNone_str (i : Str) : isNone (.str i) = false := keep rfl
@[simp] theorem isNone_tup (i : List PyData) : isNone (.tuple i) = false := keep rfl
@[simp] theorem isNone_list (i : List PyData) : isNone (.list i) = false := keep rfl
@[simp] theorem gIx_l (ds : List PyData) (i : Int) : gIx (.list ds) (.int i) = atI ds i := keep rfl
@[simp] theorem gIx_t (ds : List PyData) (i : Int) : gIx (.tuple ds) (.int i) = atI ds i := keep rfl
@[simp] theorem gLen_l (ds : List PyData) : gLen [.list ds] = some (.int ds.length) := keep rfl
@[simp] theorem gLen_t (ds : List PyData) : gLen [.tuple ds] = some (.int ds.length) := keep rfl
@[simp] theorem gMax2_e (i j : Int) : gMax2 [.int i, .int j] = some (.int (if j > i then j else i)) := keep rfl
@[simp] theorem gMin2_e (i j : Int) : gMin2 [.int i, .int j] = some (.int (if j < i then j else i)) := keep rfl
@[simp] theorem gInt1_i (i : Int) : gInt1 [.int i] = some (.int i) := keep rfl
@[simp] theorem gInt1_b (b : Bool) : gInt1 [.bool b] = some (.int (if b then 1 else 0)) := keep rfl
@[simp] theorem gList1_l (ds : List PyData) : gList1 [.list ds] = some (.ml (ds.map .fz)) := keep rfl
@[simp] theorem gList1_t (ds : List PyData) : gList1 [.tuple ds] = some (.ml (ds.map .fz)) := keep rfl
@[simp] theorem gTuple1_l (ds : List PyData) : gTuple1 [.list ds] = some (.tuple ds) := keep rfl
@[simp] theorem gTuple1_t (ds : List PyData) : gTuple1 [.tuple ds] = some (.tuple ds) := keep rfl
@[simp] theorem gSortI_e (ns : List Int) : gSortI [.list (ns.map .int)] = some (.ml ((sortI ns).map fun n => .fz (.int n))) := by simp [gSortI, intsOf_map]
@[simp] theorem mNoPart_e (ρ : Sl) : mNoPart ρ = .ok none ρ := keep rfl
@[simp] theorem mPart_e (f : Sl → R PyData) (ρ : Sl) : mPart f ρ = (f ρ).bind fun d ρ => match d with | .int i => .ok (some i) ρ | _ => .bad := keep rfl
@[simp] theorem mCut_e (f : Sl → R PyData) (l u : Sl → R (Option Int)) (ρ : Sl) : mCut f l u ρ = (f ρ).bind fun x ρ => (l ρ).bind fun lo ρ => (u ρ).bind fun hi ρ => lft (gCut x lo hi) ρ := keep rfl
@[simp] theorem mCutS_e (i : Nat) (l u : Sl → R (Option Int)) (ρ : Sl) : mCutS i l u ρ = match ρ[i]? with
  | some (some (.sc ns)) => (l ρ).bind fun lo ρ => (u ρ).bind fun hi ρ => .ok (.ml ((cutD ns lo hi).map fun n => .fz (.int n))) ρ
  | _ => .bad := keep rfl
@[simp] theorem gCut_l (ds : List PyData) (lo hi : Option Int) : gCut (.list ds) lo hi = some (.ml ((cutD ds lo hi).map .fz)) := keep rfl
@[simp] theorem gCut_t (ds : List PyData) (lo hi : Option Int) : gCut (.tuple ds) lo hi = some (.fz (.tuple (cutD ds lo hi))) := keep rfl
@[simp] theorem gName'_e (i : Nat) (d : PyData) (ρ : Sl) : gName' i d ρ = some (ρ.set i (some (.fz d))) := keep rfl
@[simp] theorem gTup'_e (gs : List PyData → Sl → Option Sl) (ds : List PyData) (ρ : Sl) : gTup' gs (.tuple ds) ρ = gs ds ρ := keep rfl
@[simp] theorem gsNil_e (ρ : Sl) : gsNil [] ρ = some ρ := keep rfl
@[simp] theorem gsCons_e (g : PyData → Sl → Option Sl) (gs : List PyData → Sl → Option Sl) (d : PyData) (ds : List PyData) (ρ : Sl) : gsCons g gs (d :: ds) ρ = (g d ρ).bind (gs ds) := keep rfl
@[simp] theorem itU_e (f : Sl → R PyData) (ρ : Sl) : itU f ρ = (f ρ).bind fun d ρ => match d with | .list ds => .ok ds ρ | .tuple ds => .ok ds ρ | _ => .bad := keep rfl
@[simp] theorem itR1_e (f : Sl → R PyData) (ρ : Sl) : itR1 f ρ = (f ρ).bind fun d ρ => match d with | .int j => if bnd j = true then .ok (rngD 0 j.toNat) ρ else .bad | _ => .bad := keep rfl
@[simp] theorem itR2_e (f g : Sl → R PyData) (ρ : Sl) : itR2 f g ρ = (f ρ).bind fun a ρ => (g ρ).bind fun b ρ => match a, b with | .int i, .int j => if (bnd i && bnd j) = true then .ok (rngD i (j - i).toNat) ρ else .bad | _, _ => .bad := keep rfl
@[simp] theorem aNil_e (ρ : Sl) : aNil ρ = .ok [] ρ := keep rfl
@[simp] theorem aD_e (f : Sl → R PyData) (g : Sl → R (List AV)) (ρ : Sl) : aD f g ρ = (f ρ).bind fun d ρ => (g ρ).bind fun as ρ => .ok (.d d :: as) ρ := keep rfl
@[simp] theorem aI_e (j : Nat) (g : Sl → R (List AV)) (ρ : Sl) : aI j g ρ = match ρ[j]? with | some (some _) => (g ρ).bind fun as ρ => .ok (.i j :: as) ρ | _ => .bad := keep rfl
@[simp] theorem mCallF_e (F : FnSem) (fa : Sl → R (List AV)) (ρ : Sl) : mCallF F fa ρ = (fa ρ).bind fun as ρ => callS F as ρ := keep rfl
@[simp] theorem callS_e (F : FnSem) (as : List AV) (ρ : Sl) : callS F as ρ = match argMs ρ as with
  | none => .bad
  | some p => match F p.1 with
    | .ok m ms' => .ok m (putMs p.2 as ms')
    | .exc x ms' => .exc x (putMs p.2 as ms')
    | .bad => .bad := keep rfl
@[simp] theorem argMs_nil (ρ : Sl) : argMs ρ [] = some ([], ρ) := keep rfl
@[simp] theorem argMs_d (ρ : Sl) (d : PyData) (r : List AV) : argMs ρ (.d d :: r) = (argMs ρ r).map fun p => (.fz d :: p.1, p.2) := keep rfl
@[simp] theorem argMs_i (ρ : Sl) (j : Nat) (r : List AV) : argMs ρ (.i j :: r) = match ρ[j]? with | some (some m) => (argMs (ρ.set j none) r).map fun p => (m :: p.1, p.2) | _ => none := keep rfl
@[simp] theorem putMs_nil (ρ : Sl) (ms : List MD) : putMs ρ [] ms = ρ := by unfold putMs; rfl
@[simp] theorem putMs_d (ρ : Sl) (d : PyData) (r : List AV) (m : MD) (ms : List MD) : putMs ρ (.d d :: r) (m :: ms) = putMs ρ r ms := by rw [putMs]
@[simp] theorem putMs_i (ρ : Sl) (j : Nat) (r : List AV) (m : MD) (ms : List MD) : putMs ρ (.i j :: r) (m :: ms) = putMs (ρ.set j (some m)) r ms := by rw [putMs]
@[simp] theorem forget_nil (ρ : Sl) : forget [] ρ = ρ := keep rfl
@[simp] theorem forget_cons (i : Nat) (L : List Nat) (ρ : Sl) : forget (i :: L) ρ = forget L (ρ.set i none) := keep rfl
@[simp] theorem frzSlot_e (i : Nat) (ρ : Sl) : frzSlot i ρ = match ρ[i]? with
  | some (some m) => match m.frz with
    | some d => ρ.set i (some (.fz d))
    | none => ρ
  | _ => ρ := keep rfl
@[simp] theorem sApp_e (i : Nat) (f : Sl → R PyData) (ρ : Sl) : sApp i f ρ = match ρ[i]? with
  | some (some (.ml _)) => (f ρ).s fun d ρ1 => match ρ1[i]? with
    | some (some (.ml ms)) => if ms.length < sizeLine then .nx (ρ1.set i (some (.ml (ms ++ [.fz d])))) else .bad
    | _ => .bad
  | _ => .bad := keep rfl
@[simp] theorem fnEnd_nx (W : List Nat) (ms : List MD) (ρ : Sl) : fnEnd W ms (.nx ρ) = match ownArgs W 0 ms ρ with | some ms' => .ok (.fz .none) ms' | none => .bad := keep rfl
@[simp] theorem fnEnd_rt (W : List Nat) (ms : List MD) (m : MD) (ρ : Sl) : fnEnd W ms (.rt m ρ) = match ownArgs W 0 ms ρ with | some ms' => .ok m ms' | none => .bad := keep rfl
@[simp] theorem fnEnd_exc (W : List Nat) (ms : List MD) (x : Exn) (ρ : Sl) : fnEnd W ms (.exc x ρ) = match ownArgs W 0 ms ρ with | some ms' => .exc x ms' | none => .bad := keep rfl
@[simp] theorem fnEnd_bad (W : List Nat) (ms : List MD) : fnEnd W ms .bad = .bad := keep rfl
@[simp] theorem ownArgs_nil (W : List Nat) (n : Nat) (ρ : Sl) : ownArgs W n [] ρ = some [] := keep rfl
@[simp] theorem ownArgs_fz (W : List Nat) (n : Nat) (d : PyData) (ms : List MD) (x : Option MD) (ρ : Sl) : ownArgs W n (.fz d :: ms) (x :: ρ) = (ownArgs W (n + 1) ms ρ).map (.fz d :: ·) := keep rfl
@[simp] theorem ownArgs_sc (W : List Nat) (n : Nat) (z : List Int) (ms : List MD) (m : MD) (ρ : Sl) : ownArgs W n (.sc z :: ms) (some m :: ρ) = if n ∈ W then (ownArgs W (n + 1) ms ρ).map (.gone :: ·) else (ownArgs W (n + 1) ms ρ).map (m :: ·) := keep rfl
@[simp] theorem ownArgs_sc0 (W : List Nat) (n : Nat) (z : List Int) (ms : List MD) (ρ : Sl) : ownArgs W n (.sc z :: ms) (none :: ρ) = (ownArgs W (n + 1) ms ρ).map (.gone :: ·) := by simp [ownArgs]
@[simp] theorem ownArgs_ml (W : List Nat) (n : Nat) (z : List MD) (ms : List MD) (m : MD) (ρ : Sl) : ownArgs W n (.ml z :: ms) (some m :: ρ) = if n ∈ W then (ownArgs W (n + 1) ms ρ).map (.gone :: ·) else (ownArgs W (n + 1) ms ρ).map (m :: ·) := keep rfl
@[simp] theorem ownArgs_ml0 (W : List Nat) (n : Nat) (z : List MD) (ms : List MD) (ρ : Sl) : ownArgs W n (.ml z :: ms) (none :: ρ) = (ownArgs W (n + 1) ms ρ).map (.gone :: ·) := by simp [ownArgs]
@[simp] theorem ownArgs_md (W : List Nat) (n : Nat) (z : List (Key × PyData)) (ms : List MD) (m : MD) (ρ : Sl) : ownArgs W n (.md z :: ms) (some m :: ρ) = if n ∈ W then (ownArgs W (n + 1) ms ρ).map (.gone :: ·) else (ownArgs W (n + 1) ms ρ).map (m :: ·) := keep rfl
@[simp] theorem ownArgs_md0 (W : List Nat) (n : Nat) (z : List (Key × PyData)) (ms : List MD) (ρ : Sl) : ownArgs W n (.md z :: ms) (none :: ρ) = (ownArgs W (n + 1) ms ρ).map (.gone :: ·) := by simp [ownArgs]
@[simp] theorem ownArgs_mk (W : List Nat) (n : Nat) (z : List (List Key × PyData)) (ms : List MD) (m : MD) (ρ : Sl) : ownArgs W n (.mk z :: ms) (some m :: ρ) = if n ∈ W then (ownArgs W (n + 1) ms ρ).map (.gone :: ·) else (ownArgs W (n + 1) ms ρ).map (m :: ·) := keep rfl
@[simp] theorem ownArgs_mk0 (W : List Nat) (n : Nat) (z : List (List Key × PyData)) (ms : List MD) (ρ : Sl) : ownArgs W n (.mk z :: ms) (none :: ρ) = (ownArgs W (n + 1) ms ρ).map (.gone :: ·) := by simp [ownArgs]
@[simp] theorem ownArgs_fd (W : List Nat) (n : Nat) (z : List (Key × PyData)) (ms : List MD) (m : MD) (ρ : Sl) : ownArgs W n (.fd z :: ms) (some m :: ρ) = if n ∈ W then (ownArgs W (n + 1) ms ρ).map (.gone :: ·) else (ownArgs W (n + 1) ms ρ).map (m :: ·) := keep rfl
@[simp] theorem ownArgs_fd0 (W : List Nat) (n : Nat) (z : List (Key × PyData)) (ms : List MD) (ρ : Sl) : ownArgs W n (.fd z :: ms) (none :: ρ) = (ownArgs W (n + 1) ms ρ).map (.gone :: ·) := by simp [ownArgs]
@[simp] theorem frz_fd (kvs : List (Key × PyData)) : MD.frz (.fd kvs) = none := by simp [MD.frz]
@[simp] theorem frz_gone : MD.frz .gone = none := by simp [MD.frz]
/-! loops -/
def turn (g : PyData → Sl → Option Sl) (f : Sl → RS) (d : PyData) (ρ : Sl) : RS := match g d ρ with
  | some ρ1 => f ρ1
  | none => .bad
theorem runFor_nil (g : PyData → Sl → Option Sl) (L : List Nat) (f : Sl → RS) (ρ : Sl) : runFor g L f [] ρ = .nx ρ := rfl
theorem runFor_cons (g : PyData → Sl → Option Sl) (L : List Nat) (f : Sl → RS) (d : PyData) (ds : List PyData) (ρ : Sl) : runFor g L f (d :: ds) ρ = (turn g f d ρ).bind fun ρ2 => runFor g L f ds (forget L ρ2) := by
  unfold turn
  rw [runFor]
  cases g d ρ <;> rfl
theorem runFor_inv {g : PyData → Sl → Option Sl} {L : List Nat} {f : Sl → RS} (I : Nat → Sl → Prop) : ∀ {ds : List PyData} {ρ : Sl}, I 0 ρ → (∀ i d ρ, ds[i]? = some d → I i ρ → ∃ ρ2, turn g f d ρ = .nx ρ2 ∧ I (i + 1) (forget L ρ2)) →
    ∃ ρ', runFor g L f ds ρ = .nx ρ' ∧ I ds.length ρ'
  | [], ρ, h0, _ => ⟨ρ, rfl, h0⟩
  | d :: ds, ρ, h0, hs => by
    obtain ⟨ρ2, e, h1⟩ := hs 0 d ρ rfl h0
    obtain ⟨ρ', a, b⟩ := runFor_inv (fun i ρ => I (i + 1) ρ) (ds := ds) h1 fun i d ρ h hI => hs (i + 1) d ρ (by simpa using h) hI
    refine ⟨ρ', ?_, b⟩
    rw [runFor_cons, e]
    exact a
/-- a loop as a fold: sh, the slots for what is carried -/
theorem runFor_fold {α β : Type} {g : PyData → Sl → Option Sl} {L : List Nat} {f : Sl → RS} (sh : α → Sl) (step : α → β → α) (enc : β → PyData) : ∀ (xs : List β) (a : α),
    (∀ pre x post, xs = pre ++ x :: post → ∃ ρ2, turn g f (enc x) (sh (pre.foldl step a)) = .nx ρ2 ∧ forget L ρ2 = sh (step (pre.foldl step a) x)) → runFor g L f (xs.map enc) (sh a) = .nx (sh (xs.foldl step a))
  | [], a, _ => rfl
  | x :: xs, a, h => by
    obtain ⟨ρ2, e1, e2⟩ := h [] x xs rfl
    rw [List.map_cons, runFor_cons, List.foldl_nil] at *
    rw [e1, RS.b_nx, e2]
    exact runFor_fold sh step enc xs (step a x) fun pre y post e => h (x :: pre) y post (by rw [e]; rfl)
theorem runWhile_inv {c : Sl → R Bool} {L : List Nat} {f : Sl → RS} (I : Sl → Prop) (J : Sl → Prop) (μ : Sl → Nat)
    (hs : ∀ ρ, I ρ → (∃ ρ1, c ρ = .ok false ρ1 ∧ J ρ1) ∨ ∃ ρ1 ρ2, c ρ = .ok true ρ1 ∧ f ρ1 = .nx ρ2 ∧ I (forget L ρ2) ∧ μ (forget L ρ2) < μ ρ) : ∀ {n : Nat} {ρ : Sl}, I ρ → μ ρ < n → ∃ ρ', runWhile c L f n ρ = .nx ρ' ∧ J ρ'
  | 0, _, _, h => absurd h (Nat.not_lt_zero _)
  | n + 1, ρ, hI, hn => by
    rcases hs ρ hI with ⟨ρ1, e, j⟩ | ⟨ρ1, ρ2, e1, e2, hI2, hm⟩
    · refine ⟨ρ1, ?_, j⟩
      unfold runWhile
      rw [e]
      simp [R.s]
    · obtain ⟨ρ', a, b⟩ := runWhile_inv I J μ hs (n := n) hI2 (by omega)
      refine ⟨ρ', ?_, b⟩
      unfold runWhile
      rw [e1]
      simp only [R.s, e2, RS.bind, if_true]
      exact a
theorem cutD_pre {α : Type} (xs : List α) (n : Nat) (h : n ≤ xs.length) : cutD xs none (some (n : Int)) = xs.take n := by
  unfold cutD
  rw [HT.sIx_none, HT.sIx_nat, Nat.sub_zero, List.drop_zero, Nat.min_eq_left h]
theorem cutD_pre' {α : Type} (xs : List α) (n : Nat) : cutD xs none (some (n : Int)) = xs.take n := by
  unfold cutD
  rw [HT.sIx_none, HT.sIx_nat, Nat.sub_zero, List.drop_zero]
  rcases Nat.le_total n xs.length with h | h
  · rw [Nat.min_eq_left h]
  · rw [Nat.min_eq_right h, List.take_length, List.take_of_length_le h]
/-- whole numbers, owned -/
abbrev mInts (l : List Int) : MD := .ml (l.map fun n => .fz (.int n))
theorem frzs_ints (l : List Int) : frzs (l.map fun n => .fz (.int n)) = some (l.map .int) := frzs_mapI l

/-! ### joined ways -/
theorem ite_nx (c : Prop) [Decidable c] (a b : Sl) : (if c then RS.nx a else RS.nx b) = RS.nx (if c then a else b) := by split <;> rfl
theorem ite_cons {α : Type} (c : Prop) [Decidable c] (x y : α) (a b : List α) : (if c then x :: a else y :: b) = (if c then x else y) :: (if c then a else b) := by split <;> rfl
theorem ite_some' {α : Type} (c : Prop) [Decidable c] (x y : α) : (if c then some x else some y) = some (if c then x else y) := by split <;> rfl
theorem ite_fz (c : Prop) [Decidable c] (x y : PyData) : (if c then MD.fz x else MD.fz y) = MD.fz (if c then x else y) := by split <;> rfl
theorem ite_int (c : Prop) [Decidable c] (x y : Int) : (if c then PyData.int x else PyData.int y) = PyData.int (if c then x else y) := by split <;> rfl

theorem ite_ok {α : Type} (c : Prop) [Decidable c] (a b : α) (ρ : Sl) : (if c then R.ok a ρ else R.ok b ρ) = R.ok (if c then a else b) ρ := by split <;> rfl

/-! ### numbers -/
theorem small_of {i : Int} (h : -(2 ^ 64) < i) (h2 : i < 2 ^ 64) : small i = true := by
  unfold small
  rw [decide_eq_true h, decide_eq_true h2]
  rfl
/-- numbers of three figures, as _law_numbers hands them back -/
def Low (l : List Int) : Prop := ∀ x ∈ l, 0 ≤ x ∧ x < 1000
theorem Low.snoc {l : List Int} {x : Int} (h : Low l) (h0 : 0 ≤ x) (h1 : x < 1000) : Low (l ++ [x]) := fun y hy => by
  rcases List.mem_append.mp hy with q | q
  · exact h y q
  · rw [List.mem_singleton.mp q]
    exact ⟨h0, h1⟩
@[simp] theorem shaped_int (i : Int) : SeqAt.shaped (.int i) = true := by
  simp [SeqAt.shaped, PyData.canLay0, PyData.depth]
@[simp] theorem shaped_bool (i : Bool) : SeqAt.shaped (.bool i) = true := by
  simp [SeqAt.shaped, PyData.canLay0, PyData.depth]
@[simp] theorem gEq_ii (i j : Int) : gEq (.int i) (.int j) = some (.bool (i == j)) := by simp [gEq, PyData.eqv]
@[simp] theorem gNe_ii (i j : Int) : gNe (.int i) (.int j) = some (.bool (!(i == j))) := by simp [gNe, PyData.eqv]
@[simp] theorem gEq_bb (i j : Bool) : gEq (.bool i) (.bool j) = some (.bool (i == j)) := by simp [gEq, PyData.eqv]
@[simp] theorem gNe_bb (i j : Bool) : gNe (.bool i) (.bool j) = some (.bool (!(i == j))) := by simp [gNe, PyData.eqv]
theorem gIsi_of {T : String} {d : PyData} {b : Bool} (h : kitB (tyD d) T = some b) : gIsi T d = some (.bool b) := by
  unfold gIsi
  rw [h]
  rfl
@[simp] theorem isi_bool_bool (b : Bool) : gIsi "bool" (.bool b) = some (.bool true) := gIsi_of (by show kitB "bool" "bool" = _; decide +kernel)
@[simp] theorem isi_bool_int (b : Int) : gIsi "bool" (.int b) = some (.bool false) := gIsi_of (by show kitB "int" "bool" = _; decide +kernel)
@[simp] theorem isi_int_int (b : Int) : gIsi "int" (.int b) = some (.bool true) := gIsi_of (by show kitB "int" "int" = _; decide +kernel)
@[simp] theorem isi_int_bool (b : Bool) : gIsi "int" (.bool b) = some (.bool true) := gIsi_of (by show kitB "bool" "int" = _; decide +kernel)
@[simp] theorem isi_list_list (b : List PyData) : gIsi "list" (.list b) = some (.bool true) := gIsi_of (by show kitB "list" "list" = _; decide +kernel)
@[simp] theorem isi_tuple_tuple (b : List PyData) : gIsi "tuple" (.tuple b) = some (.bool true) := gIsi_of (by show kitB "tuple" "tuple" = _; decide +kernel)
@[simp] theorem isi_str_str (b : Str) : gIsi "str" (.str b) = some (.bool true) := gIsi_of (by show kitB "str" "str" = _; decide +kernel)
@[simp] theorem isi_tuple_none : gIsi "tuple" .none = some (.bool false) := gIsi_of (by show kitB "NoneType" "tuple" = _; decide +kernel)
def num (l : List Int) (i : Nat) : Int := l.getD i 0
theorem atI_ints {l : List Int} {i : Int} (h0 : 0 ≤ i) (h1 : i < l.length) : atI (l.map PyData.int) i = some (.int (num l i.toNat)) := by
  unfold atI ixN num
  have hj : i.toNat < l.length := by omega
  rw [List.length_map, if_pos h0, if_pos h1]
  simp [List.getD, List.getElem?_eq_getElem hj]
theorem low_at {l : List Int} (h : Low l) (i : Nat) : 0 ≤ num l i ∧ num l i < 1000 := by
  unfold num
  by_cases q : i < l.length
  · rw [List.getD_eq_getElem?_getD, List.getElem?_eq_getElem q]
    exact h _ (List.getElem_mem q)
  · rw [List.getD_eq_getElem?_getD, List.getElem?_eq_none (by omega)]
    exact ⟨by decide, by decide⟩
theorem small_low {l : List Int} (h : Low l) (i : Nat) : small (num l i) = true := small_of (by have := low_at h i; omega) (by have := low_at h i; omega)

/-! ### the law's own promise -/
def spLaw (K : PySem.W.Frag) : Sp := fun vs H Q _ => ∃ (a : Addr) (ns : List Int), vs = [.ref a] ∧ SqL K H a (ns.map V.int) ∧ ns.length ≤ 63 ∧ ∀ H', Q (.bl true) H'
theorem law_imp {K : PySem.W.Frag} {mg : Str → Option Value} {F : FnSem} (h : ∀ ns : List Int, ns.length ≤ 63 → ∃ ms, F [.sc ns] = .ok (.fz (.bool true)) ms) : ∀ vs H Q E, spLaw K vs H Q E → spOf K mg F vs H Q E := by
  rintro vs H Q E ⟨a, ns, rfl, hS, hl, q⟩
  obtain ⟨ms, e⟩ := h ns hl
  refine ⟨H, [.sc ns], [], ⟨Sub.refl H, ⟨[], .keep (A := []) (B := []) (.sc hS) .nil, List.nodup_nil, fun _ z => z⟩, fun _ z => by cases z⟩, ?_⟩
  rw [e]
  intro v S' A' H' g r
  obtain ⟨A0, ro, _, _⟩ := r.rep
  cases ro with
  | keep hm _ =>
    cases hm.fz_of
    exact q H'
theorem noCX {P : Program} {w : World} {H : Hp} {s : Shared} {e : Value} {s' : Shared} (h : L2.CX P w [] H s (fun _ _ _ => False) e s') : False := by
  obtain ⟨_, _, _, _, _, _, _, _, _, _, _, _, z⟩ := h
  exact z
end DR
end
section
/-! DR9: list comprehensions. -/
namespace DR
open PySem L2
variable {K : PySem.W.Frag} {G : Str → Option Value} {S S' S1 H H' H1 : Hp} {A A' A1 B C : List Addr} {E : XK} {σ σ0 σ1 : St} {ρ : Sl} {X : Cx} {e a b c elt tg iter : Expr} {es ifs : List Expr} {pos : Pos} {f1 f2 f3 : Sl → R PyData}

def TFx (K : PySem.W.Frag) (G : Str → Option Value) (E : XK) (f : Sl → R PyData) : TE := fun σ H Q => ∃ ρ S A, Rel K G S ρ A σ H ∧ Run K G E S A σ H (f ρ) fun d ρ' S' A' H' => Rel K G S' ρ' A' σ H' → ∀ v, Fz K S' v d → Q v H'
def TTx (K : PySem.W.Frag) (G : Str → Option Value) (E : XK) (f : Sl → R Bool) : TT := fun σ H Q => ∃ ρ S A, Rel K G S ρ A σ H ∧ Run K G E S A σ H (f ρ) fun b ρ' S' A' H' => Rel K G S' ρ' A' σ H' → Q b H'
def TGx (K : PySem.W.Frag) (G : Str → Option Value) (W : List Nat) (g : PyData → Sl → Option Sl) : TG := fun v σ H Q => ∃ d ρ ρ' S A, Rel K G S ρ A σ H ∧ Fz K S v d ∧ g d ρ = some ρ' ∧ ∀ σ', Rel K G S ρ' A σ' H → Keep W σ σ' → Q σ' H
theorem SimF.canon (h : SimF X E e f1) : PE X e (TFx X.K X.mg E f1) := by
  obtain ⟨t, p, s⟩ := h.ex
  exact ⟨fun pins s' σ H Q I ⟨ρ, S, A, r, q⟩ => p.run pins s' σ H Q I (s σ ρ S A H Q r q)⟩
structure SimTs (X : Cx) (E : XK) (ifs : List Expr) (f : Sl → R Bool) : Prop where
  run : PTs X ifs (TTx X.K X.mg E f)
def mYes : Sl → R Bool := fun ρ => .ok true ρ
theorem simTs_nil : SimTs X E [] mYes := ⟨⟨fun pins s σ H Q I ⟨ρ, S, A, r, q⟩ => pts_nil.run pins s σ H Q I (q S A H Grow.refl r)⟩⟩
theorem simTs_one {f : Sl → R Bool} (h : SimT X E c f) : SimTs X E [c] f := by
  obtain ⟨t, p, s⟩ := h.ex
  exact ⟨⟨fun pins s' σ H Q I ⟨ρ, S, A, r, q⟩ => (pts_one p).run pins s' σ H Q I (s σ ρ S A H Q r q)⟩⟩
theorem SimG.canon {W : List Nat} {g : PyData → Sl → Option Sl} (h : SimG X W tg g) : PG X tg (TGx X.K X.mg W g) := by
  obtain ⟨t, p, s⟩ := h.ex
  exact ⟨fun pins s' σ H v u Q I rv ⟨d, ρ, ρ', S, A, r, hv, z, q⟩ => p.run pins s' σ H v u Q I rv (s v d σ ρ ρ' S A H Q r hv z q)⟩

/-! ### slots wiped -/
theorem RepO.unset : ∀ {σ : St} {ρ : Sl} {A : List Addr} {i : Nat} {x : Option V}, RepO K G S H (σ.set i x) ρ A → (∀ m, ρ[i]? ≠ some (some m)) → RepO K G S H σ ρ A
  | [], _, _, _, _, h, _ => h
  | y :: σ, _, _, 0, x, h, n => by
    rw [List.set_cons_zero] at h
    cases h with
    | skip h => exact .skip h
    | keep => exact (n _ rfl).elim
  | y :: σ, _, _, i + 1, x, h, n => by
    rw [List.set_cons_succ] at h
    cases h with
    | skip h => exact .skip (h.unset fun m q => n m (by simpa using q))
    | keep h hs => exact .keep h (hs.unset fun m q => n m (by simpa using q))
theorem RepO.reset {σ : St} {ρ : Sl} {A : List Addr} {i : Nat} {x : Option V} : RepO K G S H σ ρ A → (∀ m, ρ[i]? ≠ some (some m)) → RepO K G S H (σ.set i x) ρ A := by
  intro h n
  by_cases hi : i < σ.length
  · refine RepO.unset (i := i) (x := σ[i]) ?_ n
    rw [List.set_set, List.set_getElem_self]
    exact h
  · rw [List.set_eq_of_length_le (by omega)]
    exact h
def Bare (vs : List Nat) (ρ : Sl) : Prop := ∀ i ∈ vs, ∀ m, ρ[i]? ≠ some (some m)
theorem RepO.wipe {σ : St} {ρ : Sl} {A : List Addr} {vs : List Nat} (n : Bare vs ρ) : RepO K G S H σ ρ A ↔ RepO K G S H (L2.wipe σ vs) ρ A := by
  induction vs with
  | nil => exact Iff.rfl
  | cons v vs ih =>
    have ih := ih fun i h => n i (List.mem_cons_of_mem _ h)
    show _ ↔ RepO K G S H ((L2.wipe σ vs).set v none) ρ A
    exact ⟨fun h => (ih.mp h).reset (n v (List.mem_cons_self ..)), fun h => ih.mpr (h.unset (n v (List.mem_cons_self ..)))⟩
theorem Rel.wipe {vs : List Nat} (n : Bare vs ρ) : Rel K G S ρ A σ H ↔ Rel K G S ρ A (wipe σ vs) H :=
  ⟨fun r => ⟨r.sub, r.rep.imp fun A0 h => ⟨(RepO.wipe n).mp h.1, h.2⟩, r.off⟩, fun r => ⟨r.sub, r.rep.imp fun A0 h => ⟨(RepO.wipe n).mpr h.1, h.2⟩, r.off⟩⟩
theorem forget_bare : ∀ (vs : List Nat) (ρ : Sl), Bare vs (forget vs ρ) := by
  have keeps : ∀ (vs : List Nat) (ρ : Sl) (i : Nat), (∀ m, ρ[i]? ≠ some (some m)) → ∀ m, (forget vs ρ)[i]? ≠ some (some m) := by
    intro vs
    induction vs with
    | nil => exact fun ρ i n => n
    | cons v vs ih =>
      intro ρ i n
      refine ih (ρ.set v none) i fun m q => ?_
      by_cases e : v = i
      · subst e
        by_cases hl : v < ρ.length
        · rw [List.getElem?_set_self hl] at q; cases q
        · rw [List.set_eq_of_length_le (by omega)] at q; exact n m q
      · rw [List.getElem?_set_ne e] at q; exact n m q
  intro vs
  induction vs with
  | nil => exact fun ρ i h => by cases h
  | cons v vs ih =>
    intro ρ i h
    rcases List.mem_cons.mp h with rfl | h
    · refine keeps vs _ _ fun m q => ?_
      by_cases hl : i < ρ.length
      · rw [List.getElem?_set_self hl] at q; cases q
      · have q' : (ρ.set i none)[i]? = some (some m) := q
        rw [List.set_eq_of_length_le (by omega), List.getElem?_eq_none (by omega)] at q'; cases q'
    · exact ih (ρ.set v none) i h
theorem wipe_get {i : Nat} : ∀ {vs : List Nat}, (wipe σ vs)[i]? = if i ∈ vs then (σ[i]?).map fun _ => none else σ[i]?
  | [] => by simp [wipe]
  | v :: vs => by
    have ih := wipe_get (i := i) (vs := vs)
    unfold wipe
    by_cases e : v = i
    · subst e
      rw [if_pos (List.mem_cons_self ..)]
      by_cases hl : v < σ.length
      · rw [List.getElem?_set_self (by rw [wipe_length]; exact hl), List.getElem?_eq_getElem hl]
        rfl
      · rw [List.getElem?_eq_none (by rw [List.length_set, wipe_length]; omega), List.getElem?_eq_none (by omega)]
        rfl
    · rw [List.getElem?_set_ne e, ih]
      have : (i ∈ v :: vs) ↔ i ∈ vs := by simp [Ne.symm e]
      by_cases h : i ∈ vs
      · rw [if_pos h, if_pos (this.mpr h)]
      · rw [if_neg h, if_neg fun q => h (this.mp q)]
theorem wipe_keep {W vs : List Nat} {σ2 : St} (k : Keep W (wipe σ vs) σ2) (h : ∀ i ∈ W, i ∈ vs) : wipe σ2 vs = wipe σ vs := by
  refine List.ext_getElem? fun i => ?_
  rw [wipe_get, wipe_get]
  by_cases hi : i ∈ vs
  · rw [if_pos hi, if_pos hi]
    have l := k.len
    rw [wipe_length] at l
    by_cases hl : i < σ.length
    · rw [List.getElem?_eq_getElem hl, List.getElem?_eq_getElem (by omega)]
      rfl
    · rw [List.getElem?_eq_none (by omega), List.getElem?_eq_none (by omega)]
  · rw [if_neg hi, if_neg hi, k.at_ i fun q => hi (h i q), wipe_get, if_neg hi]

/-! ### the list that is made -/
def R.q {α β : Type} (r : R α) (f : α → Sl → R β) : R β := match r with
  | .ok a ρ => f a ρ
  | _ => .bad
theorem Grow.over {D : Addr} (g : Grow S A H S' A' H') : Grow S (D :: A) H S' (D :: A') H' := ⟨g.ss, fun b h => (g.sn b h).imp id (.imp id (List.mem_cons_of_mem _)), fun b o h n => g.fr b o h fun q => n (List.mem_cons_of_mem _ q), fun b h => by
  rcases List.mem_cons.mp h with rfl | h
  · exact .inl (List.mem_cons_self ..)
  · exact (g.an b h).imp (List.mem_cons_of_mem _) id, g.dm⟩
theorem Run.q {α β : Type} {D : Addr} {r : R α} {f : α → Sl → R β} {C : β → Sl → Hp → List Addr → Hp → Prop} {E' : XK} (h : Run K G E S (D :: A) σ H (r.q f) C) :
    Run K G E' S A σ1 H r fun a ρ1 S1 A1 H1 => Grow S A H S1 A1 H1 ∧ Run K G E S1 (D :: A1) σ H1 (f a ρ1) C := by
  cases r with
  | ok a ρ => exact fun _ _ _ g => ⟨g, Run.start g.over h⟩
  | exc x ρ => exact h.elim
  | bad => exact h
def runLc (g : PyData → Sl → Option Sl) (vs : List Nat) (ft : Sl → R Bool) (fe : Sl → R PyData) : List PyData → List PyData → Sl → R (List PyData)
  | [], acc, ρ => .ok acc ρ
  | d :: ds, acc, ρ => match g d ρ with
    | some ρ1 => (ft ρ1).q fun b ρ2 => if b = true then (fe ρ2).q fun y ρ3 => if acc.length < sizeLine then runLc g vs ft fe ds (acc ++ [y]) (forget vs ρ3) else .bad else runLc g vs ft fe ds acc (forget vs ρ2)
    | none => .bad
def mLc (fi : Sl → R (List PyData)) (g : PyData → Sl → Option Sl) (vs : List Nat) (ft : Sl → R Bool) (fe : Sl → R PyData) : Sl → R MD :=
  fun ρ => (fi ρ).bind fun ds ρ => (runLc g vs ft fe ds [] (forget vs ρ)).bind fun r ρ => .ok (.ml (r.map .fz)) ρ
theorem off_upd {D : Addr} {o : HO} (r : Rel K G S ρ A σ H) (hA : D ∉ A) (hS : S D = none) : Rel K G S ρ A σ (upd H D o) := by
  obtain ⟨A0, ro, nd, sb⟩ := r.rep
  refine ⟨fun a x q => ?_, ⟨A0, ro.mono (Sub.refl S) fun a ha x q => ?_, nd, sb⟩, fun a ha => ⟨(r.off a ha).1, ?_⟩⟩
  · by_cases e : a = D
    · subst e; rw [hS] at q; cases q
    · rw [upd_ne e]; exact r.sub a x q
  · rw [upd_ne fun e => hA (by rw [← e]; exact sb a ha)]; exact q
  · rw [upd_ne fun e => hA (by rw [← e]; exact ha)]; exact (r.off a ha).2
theorem grow_upd {D : Addr} {o : HO} : Grow S (D :: A) H S (D :: A) (upd H D o) := ⟨Sub.refl S, fun _ h => .inl h, fun b x q n => by
  rw [upd_ne fun e => n (by rw [e]; exact List.mem_cons_self ..)]; exact q, fun b h => .inl h, fun b h => by
  by_cases e : b = D
  · subst e; rw [upd_same] at h; cases h
  · rw [upd_ne e] at h; exact h⟩
theorem lc_sem {W vs : List Nat} {wi : TI} {fi : Sl → R (List PyData)} {g : PyData → Sl → Option Sl} {ft : Sl → R Bool} {fe : Sl → R PyData} (hW : ∀ i ∈ W, i ∈ vs)
    (si : ∀ σ ρ S A H (R : It → Hp → Prop), Rel K G S ρ A σ H → Run K G E S A σ H (fi ρ) (fun ds ρ' S' A' H' => Rel K G S' ρ' A' σ H' → ∀ J, Walks K J S' ds → R J H') → wi σ H R)
    {Q : VK} (r : Rel K G S ρ A σ H) (q : Run K G E S A σ H (mLc fi g vs ft fe ρ) fun m ρ' S' A' H' => ∀ v, Rel K G S' (some m :: ρ') A' (some v :: σ) H' → Q v H') : tLc wi (TGx K G W g) (TTx K G E0 ft) (TFx K G E0 fe) vs σ H Q := by
  refine si σ ρ S A H _ r ((Run.bind q).imp fun ds ρ1 S1 A1 H1 q1 r1 J hJ D hD => ?_)
  have n1 : New S1 H1 S1 [D] (upd H1 D (.lst [])) := New.lst r1.sub hD
  have q1' := Run.start (n1.grow (A := A1)) (Run.bind q1)
  refine ⟨fun i m H => ∃ acc xs ρ' S' A', m = ds.length - i ∧ i ≤ ds.length ∧ Sub S1 S' ∧ H D = some (.lst xs) ∧ FzA K S' xs acc ∧ D ∉ A' ∧ S' D = none ∧ Bare vs ρ' ∧ Rel K G S' ρ' A' (L2.wipe σ vs) H ∧
    Run K G E S' (D :: A') σ H (runLc g vs ft fe (ds.drop i) acc ρ') (fun a ρ1 S1 A1 H1 => Run K G E S1 A1 σ H1 (R.ok (MD.ml (a.map MD.fz)) ρ1) fun m ρ' S' A' H' => ∀ v, Rel K G S' (some m :: ρ') A' (some v :: σ) H' → Q v H'),
    ⟨ds.length, [], [], forget vs ρ1, S1, A1, rfl, Nat.zero_le _, Sub.refl _, upd_same, .nil, fun h => (r1.off D h).2 hD, sub_none r1.sub hD, forget_bare vs ρ1, (Rel.wipe (forget_bare vs ρ1)).mp (n1.rel0 (r1.forget vs)), q1'⟩, ?_⟩
  rintro i m H ⟨acc, xs, ρ', S', A', rfl, hi, s1, hx, hacc, nA, nS, hb, r', q'⟩
  by_cases hl : i < ds.length
  · have e0 : ds[i]? = some ds[i] := List.getElem?_eq_getElem hl
    rw [List.drop_eq_getElem_cons hl] at q'
    refine .inr ⟨hJ.go i H (s1.trans r'.sub) hl, fun H => ∃ acc xs ρ' S' A', Sub S1 S' ∧ H D = some (.lst xs) ∧ FzA K S' xs acc ∧ D ∉ A' ∧ S' D = none ∧ Bare vs ρ' ∧ Rel K G S' ρ' A' (L2.wipe σ vs) H ∧
      Run K G E S' (D :: A') σ H (runLc g vs ft fe (ds.drop (i + 1)) acc ρ') (fun a ρ1 S1 A1 H1 => Run K G E S1 A1 σ H1 (R.ok (MD.ml (a.map MD.fz)) ρ1) fun m ρ' S' A' H' => ∀ v, Rel K G S' (some m :: ρ') A' (some v :: σ) H' → Q v H'),
      fun H' ⟨acc, xs, ρ', S', A', h⟩ => ⟨ds.length - (i + 1), by omega, acc, xs, ρ', S', A', rfl, hl, h⟩, fun x H2 y => ?_⟩
    obtain ⟨S2, n, hxv⟩ := hJ.yld i S' H ds[i] x H2 s1 r'.sub e0 y
    have r2 := n.rel0 r'
    have q2 := Run.start (n.grow (A := D :: A')) q'
    rw [List.nil_append] at q2
    have hx2 : H2 D = some (.lst xs) := n.hh D _ hx
    have nS2 : S2 D = none := by
      cases z : S2 D with
      | none => rfl
      | some o => exact ((n.fresh D (by rw [z]; intro w; cases w)).elim (fun w => (w nS).elim) (fun w => (by rw [hx] at w; cases w)))
    unfold runLc at q2
    cases z : g ds[i] ρ' with
    | none => simp only [z] at q2; exact q2.elim
    | some ρ2 =>
      simp only [z] at q2
      refine ⟨_, ρ', ρ2, S2, A', r2, hxv, z, fun σ3 r3 k3 => ⟨wipe_keep k3 hW, ρ2, S2, A', r3, (Run.q q2).imp fun b ρ4 S4 A4 H4 ⟨g4, q4⟩ r4 => ?_⟩⟩
      have hx4 : H4 D = some (.lst xs) := g4.fr D _ hx2 nA
      have nA4 : D ∉ A4 := fun h => by rcases g4.an D h with h | h; exact nA h; (rw [hx2] at h; cases h)
      have nS4 : S4 D = none := by
        cases z : S4 D with
        | none => rfl
        | some o =>
          rcases g4.sn D (by rw [z]; intro w; cases w) with w | w | w
          · exact (w nS2).elim
          · rw [hx2] at w; cases w
          · exact (nA w).elim
      cases b with
      | false =>
        simp only [Bool.false_eq_true, if_false] at q4 ⊢
        refine ⟨acc, xs, forget vs ρ4, S4, A4, (s1.trans n.ss).trans g4.ss, hx4, dpA_mono (n.ss.trans g4.ss) hacc, nA4, nS4, forget_bare vs _, ?_, q4⟩
        have z := (Rel.wipe (forget_bare vs ρ4)).mp (r4.forget vs)
        rwa [wipe_keep k3 hW] at z
      | true =>
        simp only [if_true] at q4 ⊢
        refine ⟨ρ4, S4, A4, r4, (Run.q q4).imp fun y ρ5 S5 A5 H5 ⟨g5, q5⟩ r5 v hv => ?_⟩
        by_cases hlen : acc.length < sizeLine
        · rw [if_pos hlen] at q5
          have hx5 : H5 D = some (.lst xs) := g5.fr D _ hx4 nA4
          have nA5 : D ∉ A5 := fun h => by rcases g5.an D h with h | h; exact nA4 h; (rw [hx4] at h; cases h)
          have nS5 : S5 D = none := by
            cases z : S5 D with
            | none => rfl
            | some o =>
              rcases g5.sn D (by rw [z]; intro w; cases w) with w | w | w
              · exact (w nS4).elim
              · rw [hx4] at w; cases w
              · exact (nA4 w).elim
          refine ⟨xs, hx5, by rw [dpA_len hacc]; exact hlen, acc ++ [y], xs ++ [v], forget vs ρ5, S5, A5, ((s1.trans n.ss).trans g4.ss).trans g5.ss, upd_same, dpA_app (dpA_mono ((n.ss.trans g4.ss).trans g5.ss) hacc) (.cons hv .nil), nA5, nS5, forget_bare vs _, ?_, Run.start grow_upd q5⟩
          have z := (Rel.wipe (forget_bare vs ρ5)).mp (r5.forget vs)
          rw [wipe_keep k3 hW] at z
          exact off_upd z nA5 nS5
        · rw [if_neg hlen] at q5
          exact q5.elim
  · have ei : i = ds.length := by omega
    subst ei
    rw [List.drop_length] at q'
    refine .inl ⟨hJ.stop _ H (s1.trans r'.sub) rfl, q' S' (D :: A') H Grow.refl S' (D :: A') H Grow.refl _ ?_⟩
    obtain ⟨A0, ro, nd, sb⟩ := ((Rel.wipe hb).mpr r').rep
    exact ⟨r'.sub, ⟨[D] ++ A0, .keep (rep_lst hx hacc) ro, List.nodup_cons.mpr ⟨fun h => nA (sb _ h), nd⟩, fun x h => by
      rcases List.mem_cons.mp h with rfl | h
      · exact List.mem_cons_self ..
      · exact List.mem_cons_of_mem _ (sb x h)⟩, fun x h => by
      rcases List.mem_cons.mp h with rfl | h
      · exact ⟨nS, by rw [hx]; intro w; cases w⟩
      · exact r'.off x h⟩
variable {scope : Scope} {own : List (Str × Nat)} {fi : Sl → R (List PyData)} {g : PyData → Sl → Option Sl} {ft : Sl → R Bool} {fe : Sl → R PyData} {W : List Nat}
theorem simM_lc (vs : List Nat) (hc : X.calm = true) (hN : X.N.Nodup) (hi : SimI X E tg iter fi) (ok : BlkOk X.N X.env.scope scope own) (hv : own.map (·.2) = vs) (hW : ∀ i ∈ W, i ∈ vs)
    (hg : ∀ (s : Shared) (H : Hp) (C : Addr) (cl : List (Str × Addr)) (fp : List Addr), SimG (X.blk s H scope (compEnvC scope cl C X.env) fp) W tg g)
    (ht : ∀ (s : Shared) (H : Hp) (C : Addr) (cl : List (Str × Addr)) (fp : List Addr), SimTs (X.blk s H scope (compEnvC scope cl C X.env) fp) E0 ifs ft)
    (he : ∀ (s : Shared) (H : Hp) (C : Addr) (cl : List (Str × Addr)) (fp : List Addr), SimF (X.blk s H scope (compEnvC scope cl C X.env) fp) E0 elt fe) (hs : ∀ x, foldedSetIterable iter X.env x = pure x := by intro _; rfl) :
    SimM X E (.ListComp elt [⟨tg, iter, ifs, 0⟩] scope pos) (mLc fi g vs ft fe) := by
  obtain ⟨wi, pi, si⟩ := hi.ex
  subst hv
  exact ⟨_, pe_lc hc hN pi ok (fun s H C cl fp => (hg s H C cl fp).canon) (fun s H C cl fp => (ht s H C cl fp).run) (fun s H C cl fp => (he s H C cl fp).canon) hs, fun σ ρ S A H Q r q => lc_sem hW si r q⟩
theorem simS_setLc (i : Nat) {y : Str} {py spos : Pos} (vs : List Nat) (hc : X.calm = true) (hN : X.N.Nodup) (hi : SimI X E tg iter fi) (ok : BlkOk X.N X.env.scope scope own) (hv : own.map (·.2) = vs) (hW : ∀ i ∈ W, i ∈ vs)
    (hg : ∀ (s : Shared) (H : Hp) (C : Addr) (cl : List (Str × Addr)) (fp : List Addr), SimG (X.blk s H scope (compEnvC scope cl C X.env) fp) W tg g)
    (ht : ∀ (s : Shared) (H : Hp) (C : Addr) (cl : List (Str × Addr)) (fp : List Addr), SimTs (X.blk s H scope (compEnvC scope cl C X.env) fp) E0 ifs ft)
    (he : ∀ (s : Shared) (H : Hp) (C : Addr) (cl : List (Str × Addr)) (fp : List Addr), SimF (X.blk s H scope (compEnvC scope cl C X.env) fp) E0 elt fe)
    (hsw : swapsWith (.ListComp elt [⟨tg, iter, ifs, 0⟩] scope pos) (some (.Name y py)) spos.line X.env = pure true) (hy : X.N[i]? = some y := by rfl) (hyl : X.env.scope.names.lookup y = some .local := by rfl) (hs : ∀ x, foldedSetIterable iter X.env x = pure x := by intro _; rfl) :
    SimS X E [i] (.Assign [.Name y py] (.ListComp elt [⟨tg, iter, ifs, 0⟩] scope pos) spos) (sSet i (mLc fi g vs ft fe)) := by
  obtain ⟨wi, pi, si⟩ := hi.ex
  subst hv
  refine ⟨_, ps_setLc hc hN hy hyl hsw pi ok (fun s H C cl fp => (hg s H C cl fp).canon) (fun s H C cl fp => (ht s H C cl fp).run) (fun s H C cl fp => (he s H C cl fp).canon) hs, fun σ ρ S A H D r q => lc_sem hW si r ((RunS.ofR q).imp fun m ρ1 S1 A1 H1 q1 v r1 => ?_)⟩
  exact q1 _ S1 A1 H1 Grow.refl (Rel.setV r1) (Keep.set (List.mem_singleton.mpr rfl))
end DR
end
section
/-! DR10: lists of flat things made while peeking; constants. -/
namespace DR
open PySem L2
variable {K : PySem.W.Frag} {G : Str → Option Value} {S S' S1 H H' H1 : Hp} {A A' A1 B C : List Addr} {E : XK} {σ σ0 σ1 : St} {ρ : Sl} {X : Cx} {e a b c elt tg iter : Expr} {es ifs : List Expr} {pos : Pos} {f1 f2 f3 : Sl → R PyData}

def flatM : MD → Bool
  | .fz d => flatD d
  | _ => false
def mPeekL (f : Sl → R MD) : Sl → R MD := fun ρ => match f (view ρ) with
  | .ok (.ml ms) _ => if ms.all flatM = true then .ok (.ml ms) ρ else .bad
  | _ => .bad
theorem repMs_flat : ∀ {ms : List MD} {xs : List V} {B : List Addr}, RepMs K G S H xs ms B → ms.all flatM = true → RepMs K G S' H xs ms []
  | [], _, _, h, _ => by cases h; exact .nil
  | m :: ms, _, _, h, f => by
    rw [List.all_cons, Bool.and_eq_true] at f
    cases h with
    | cons h hs =>
      have ih : RepMs K G S' H _ _ [] := repMs_flat hs f.2
      cases h with
      | fz h => exact .cons (A := []) (B := []) (.fz (h.flat f.1)) ih
      | _ => exact absurd f.1 (by simp [flatM])
theorem peekL_sem {t : TE} {f : Sl → R MD} (s : ∀ σ ρ S A H Q, Rel K G S ρ A σ H → Run K G E S A σ H (f ρ) (fun m ρ' S' A' H' => ∀ v, Rel K G S' (some m :: ρ') A' (some v :: σ) H' → Q v H') → t σ H Q)
    {Q : VK} (r : Rel K G S ρ A σ H) (q : Run K G E S A σ H (mPeekL f ρ) fun m ρ' S' A' H' => ∀ v, Rel K G S' (some m :: ρ') A' (some v :: σ) H' → Q v H') : t σ H Q := by
  obtain ⟨A0, ro, nd, sb⟩ := r.rep
  have r1 : Rel K G (cold S H A0) (view ρ) [] σ H := ⟨cold_sub r.sub, ⟨[], ro.view r.sub fun _ q => q, List.nodup_nil, fun _ q => q⟩, fun a q => (by cases q)⟩
  refine s σ (view ρ) _ [] H Q r1 ?_
  unfold mPeekL at q
  cases z : f (view ρ) with
  | ok m ρ' =>
    rw [z] at q
    cases m with
    | ml ms =>
      by_cases hf : ms.all flatM = true
      · simp only [if_pos hf] at q
        intro S' A' H' g v r'
        have hh : Sub H H' := fun a o h => g.fr a o h fun z => by cases z
        obtain ⟨A1, ro1, nd1, sb1⟩ := r'.rep
        cases ro1 with
        | keep h hs =>
          cases h with
          | ml h0 hms =>
            rename_i a xs A2
            have ha : a ∈ A' := sb1 a (List.mem_append_left _ (List.mem_cons_self ..))
            have hn : H a = none := by rcases g.an a ha with w | w; cases w; exact w
            have nS : S a = none := sub_none r.sub hn
            have n : New S H S [a] H' := ⟨Sub.refl S, r.sub.trans hh, hh, fun _ h => .inl h, fun b hb => (by rw [List.mem_singleton.mp hb]; exact And.intro hn nS), List.Pairwise.cons (fun _ h => by cases h) List.Pairwise.nil⟩
            exact q S _ H' n.grow (.ref a) (n.rel r (.ml h0 (repMs_flat hms hf)))
      · simp only [if_neg hf] at q
        exact q.elim
    | _ => exact q.elim
  | exc x ρ' => rw [z] at q; exact q.elim
  | bad => rw [z] at q; exact q.elim
theorem simM_peekL {f : Sl → R MD} (h : SimM X E e f) : SimM X E e (mPeekL f) := by
  obtain ⟨t, p, s⟩ := h.ex
  exact ⟨t, p, fun σ ρ S A H Q r q => peekL_sem s r q⟩
variable {scope : Scope} {own : List (Str × Nat)} {fi : Sl → R (List PyData)} {g : PyData → Sl → Option Sl} {ft : Sl → R Bool} {fe : Sl → R PyData} {W : List Nat}
theorem simS_setLcP (i : Nat) {y : Str} {py spos : Pos} (vs : List Nat) (hc : X.calm = true) (hN : X.N.Nodup) (hi : SimI X E tg iter fi) (ok : BlkOk X.N X.env.scope scope own) (hv : own.map (·.2) = vs) (hW : ∀ i ∈ W, i ∈ vs)
    (hg : ∀ (s : Shared) (H : Hp) (C : Addr) (cl : List (Str × Addr)) (fp : List Addr), SimG (X.blk s H scope (compEnvC scope cl C X.env) fp) W tg g)
    (ht : ∀ (s : Shared) (H : Hp) (C : Addr) (cl : List (Str × Addr)) (fp : List Addr), SimTs (X.blk s H scope (compEnvC scope cl C X.env) fp) E0 ifs ft)
    (he : ∀ (s : Shared) (H : Hp) (C : Addr) (cl : List (Str × Addr)) (fp : List Addr), SimF (X.blk s H scope (compEnvC scope cl C X.env) fp) E0 elt fe)
    (hsw : swapsWith (.ListComp elt [⟨tg, iter, ifs, 0⟩] scope pos) (some (.Name y py)) spos.line X.env = pure true) (hy : X.N[i]? = some y := by rfl) (hyl : X.env.scope.names.lookup y = some .local := by rfl) (hs : ∀ x, foldedSetIterable iter X.env x = pure x := by intro _; rfl) :
    SimS X E [i] (.Assign [.Name y py] (.ListComp elt [⟨tg, iter, ifs, 0⟩] scope pos) spos) (sSet i (mPeekL (mLc fi g vs ft fe))) := by
  obtain ⟨wi, pi, si⟩ := hi.ex
  subst hv
  refine ⟨_, ps_setLc hc hN hy hyl hsw pi ok (fun s H C cl fp => (hg s H C cl fp).canon) (fun s H C cl fp => (ht s H C cl fp).run) (fun s H C cl fp => (he s H C cl fp).canon) hs, fun σ ρ S A H D r q => peekL_sem (E := E) (K := X.K) (G := X.mg) (fun σ ρ S A H Q r q => lc_sem hW si r q) r ((RunS.ofR q).imp fun m ρ1 S1 A1 H1 q1 v r1 => ?_)⟩
  exact q1 _ S1 A1 H1 Grow.refl (Rel.setV r1) (Keep.set (List.mem_singleton.mpr rfl))

/-- ghost: frozen behind the statement -/
def sThen (i : Nat) (f : Sl → RS) : Sl → RS := fun ρ => (f ρ).bind fun ρ => .nx (frzSlot i ρ)
theorem simS_then {st : Stmt} {F : Sl → RS} (i : Nat) (h : SimS X E W st F) : SimS X E W st (sThen i F) := by
  obtain ⟨t, p, s⟩ := h.ex
  refine ⟨t, p, fun σ ρ S A H D r q => s σ ρ S A H D r ?_⟩
  unfold sThen at q
  cases z : F ρ with
  | nx ρ1 =>
    rw [z] at q
    intro σ' S' A' H' g r' k
    obtain ⟨S2, A2, g2, r2⟩ := r'.frzSlot (i := i)
    exact q σ' S2 A2 H' (g.trans g2) r2 k
  | rt m ρ1 => rw [z] at q; exact q
  | exc x ρ1 => rw [z] at q; exact q
  | bad => rw [z] at q; exact q

/-! ### constants of the module -/
theorem glob_int {i : Int} {t : Tok} {x : Str} (h : G x = some (.int i t)) : Glob K G x (.int i) := ⟨_, .int i, h, ⟨t, rfl⟩, fun S => .int i⟩
theorem glob_strs {x : Str} {a : Addr} {cls : Value} {dc : Option Addr} {its : Array Value} {n : Nat} {sl : Array (Option Value)} {ss : List Str} (h : G x = some (.ref a)) (hl : K.lookup a = some ⟨cls, dc, .seq its n, sl⟩) (hc : cls = .type "tuple")
    (hs : Vals (ss.map V.str) its.toList) (hz : its.size ≤ sizeLine) : Glob K G x (.tuple (ss.map PyData.str)) := by
  refine ⟨_, .ref a, h, rfl, fun S => .tup (.inr ⟨_, its, n, hl, hc, rfl, hz, hs⟩) ?_⟩
  clear hs
  induction ss with
  | nil => exact .nil
  | cons s r ih => exact .cons (.str s) ih
end DR
end
section
/-! DR11: reckoning, continued: comprehensions, slices, data that is laid. -/
namespace DR
open PySem L2
@[simp] theorem mLc_e (fi : Sl → R (List PyData)) (g : PyData → Sl → Option Sl) (vs : List Nat) (ft : Sl → R Bool) (fe : Sl → R PyData) (ρ : Sl) :
    mLc fi g vs ft fe ρ = (fi ρ).bind fun ds ρ => (runLc g vs ft fe ds [] (forget vs ρ)).bind fun r ρ => .ok (.ml (r.map .fz)) ρ := keep rfl
@[simp] theorem mYes_e (ρ : Sl) : mYes ρ = .ok true ρ := keep rfl
@[simp] theorem sThen_e (i : Nat) (f : Sl → RS) (ρ : Sl) : sThen i f ρ = (f ρ).bind fun ρ => .nx (frzSlot i ρ) := keep rfl
@[simp] theorem mPeekL_e (f : Sl → R MD) (ρ : Sl) : mPeekL f ρ = match f (view ρ) with
  | .ok (.ml ms) _ => if ms.all flatM = true then .ok (.ml ms) ρ else .bad
  | _ => .bad := keep rfl
@[simp] theorem sSetI_e (i : Nat) (fv fk : Sl → R PyData) (ρ : Sl) : sSetI i fv fk ρ = (fv ρ).s fun d ρ1 => match ρ1[i]? with
  | some (some (.ml _)) => (fk ρ1).s fun k ρ2 => match ρ2[i]? with
    | some (some (.ml ms)) => match k with
      | .int k => match ixN ms.length k with
        | some j => .nx (ρ2.set i (some (.ml (ms.set j (.fz d)))))
        | none => .bad
      | _ => .bad
    | _ => .bad
  | _ => .bad := keep rfl
@[simp] theorem mIxO_e (i : Nat) (f : Sl → R PyData) (ρ : Sl) : mIxO i f ρ = match ρ[i]? with
  | some (some (.ml _)) => (f ρ).bind fun k ρ1 => match ρ1[i]? with
    | some (some (.ml ms)) => match k with
      | .int k => match atI ms k with
        | some (.fz d) => .ok d ρ1
        | _ => .bad
      | _ => .bad
    | _ => .bad
  | _ => .bad := keep rfl
theorem ixN_nat {n i : Nat} (h : i < n) : ixN n (i : Int) = some i := by
  unfold ixN
  rw [if_pos (by omega), if_pos (by omega)]
  simp
@[simp] theorem frzs_app : ∀ (ms ns : List MD), frzs (ms ++ ns) = (frzs ms).bind fun a => (frzs ns).map (a ++ ·)
  | [], ns => by simp
  | m :: ms, ns => by
    rw [List.cons_append, frzs_cons, frzs_app ms ns, frzs_cons]
    cases m.frz <;> cases frzs ms <;> cases frzs ns <;> rfl
@[simp] theorem flatM_fz (d : PyData) : flatM (.fz d) = flatD d := keep rfl
@[simp] theorem R.q_ok {α β : Type} (a : α) (ρ : Sl) (f : α → Sl → R β) : (R.ok a ρ).q f = f a ρ := keep rfl
theorem runLc_pure {β : Type} {g : PyData → Sl → Option Sl} {vs : List Nat} {ft : Sl → R Bool} {fe : Sl → R PyData} {ρ : Sl} (p : β → Bool) (y : β → PyData) (enc : β → PyData) : ∀ (xs : List β) (acc : List PyData),
    (∀ x ∈ xs, ∃ ρ1 ρ2, g (enc x) ρ = some ρ1 ∧ ft ρ1 = .ok (p x) ρ2 ∧ (p x = true → ∃ ρ3, fe ρ2 = .ok (y x) ρ3 ∧ forget vs ρ3 = ρ) ∧ (p x = false → forget vs ρ2 = ρ)) → acc.length + xs.length ≤ 100000 →
    runLc g vs ft fe (xs.map enc) acc ρ = .ok (acc ++ (xs.filter p).map y) ρ
  | [], acc, _, _ => by simp [runLc]
  | x :: xs, acc, h, hl => by
    obtain ⟨ρ1, ρ2, e1, e2, e3, e4⟩ := h x (List.mem_cons_self ..)
    have ih := fun acc hl => runLc_pure (g := g) (vs := vs) (ft := ft) (fe := fe) (ρ := ρ) p y enc xs acc (fun x hx => h x (List.mem_cons_of_mem _ hx)) hl
    rw [List.length_cons] at hl
    rw [List.map_cons, runLc, e1]
    simp only [e2, R.q_ok]
    cases q : p x with
    | true =>
      obtain ⟨ρ3, e5, e6⟩ := e3 q
      have hs : acc.length < sizeLine := small_lt (by omega)
      simp only [if_true, e5, R.q_ok, if_pos hs, e6]
      rw [ih _ (by rw [List.length_append, List.length_singleton]; omega), List.filter_cons_of_pos q]
      simp
    | false =>
      simp only [Bool.false_eq_true, if_false, e4 q]
      rw [ih _ (by omega), List.filter_cons_of_neg (by simp [q])]
@[simp] theorem frzs_comp {α : Type} (f : α → PyData) (l : List α) : frzs (l.map (MD.fz ∘ f)) = some (l.map f) := by
  rw [← List.map_map]
  exact frzs_fz _
/-! slices -/
theorem sIx_pos {n d : Nat} {i : Int} (h : 0 ≤ i) : HT.sIx n d (some i) = min i.toNat n := by
  have := HT.sIx_nat n d i.toNat
  rwa [Int.toNat_of_nonneg h] at this
theorem cutD_mid {α : Type} (xs : List α) {a b : Int} (ha : 0 ≤ a) (hab : a ≤ b) (hb : b.toNat ≤ xs.length) : cutD xs (some a) (some b) = (xs.drop a.toNat).take (b.toNat - a.toNat) := by
  unfold cutD
  rw [sIx_pos ha, sIx_pos (Int.le_trans ha hab), Nat.min_eq_left hb, Nat.min_eq_left (by omega)]
theorem cutD_suf {α : Type} (xs : List α) {a : Int} (ha : 0 ≤ a) (hb : a.toNat ≤ xs.length) : cutD xs (some a) none = xs.drop a.toNat := by
  unfold cutD
  rw [sIx_pos ha, HT.sIx_none, Nat.min_eq_left hb, List.take_of_length_le (by simp)]
theorem cutD_map {α β : Type} (f : α → β) (xs : List α) (lo hi : Option Int) : cutD (xs.map f) lo hi = (cutD xs lo hi).map f := by
  unfold cutD
  rw [List.length_map, List.map_take, List.map_drop]
def mid (l : List Int) (a n : Nat) : List Int := (l.drop a).take n
theorem mid_len {l : List Int} {a n : Nat} (h : a + n ≤ l.length) : (mid l a n).length = n := by unfold mid; simp; omega
theorem Low.mid {l : List Int} (h : Low l) (a n : Nat) : Low (mid l a n) := fun x hx => h x (List.mem_of_mem_drop (List.mem_of_mem_take hx))
theorem Low.drop {l : List Int} (h : Low l) (a : Nat) : Low (l.drop a) := fun x hx => h x (List.mem_of_mem_drop hx)
theorem cutD_ints (l : List Int) {a b : Int} (ha : 0 ≤ a) (hab : a ≤ b) (hb : b.toNat ≤ l.length) : cutD (l.map PyData.int) (some a) (some b) = (mid l a.toNat (b.toNat - a.toNat)).map PyData.int := by
  rw [cutD_map, cutD_mid l ha hab hb]
  rfl
theorem cutD_intsE (l : List Int) {a : Int} (ha : 0 ≤ a) (hb : a.toNat ≤ l.length) : cutD (l.map PyData.int) (some a) none = (l.drop a.toNat).map PyData.int := by
  rw [cutD_map, cutD_suf l ha hb]
theorem atI_map {α : Type} (f : α → PyData) {l : List α} {i : Int} (h0 : 0 ≤ i) (h1 : i.toNat < l.length) : atI (l.map f) i = some (f l[i.toNat]) := by
  unfold atI ixN
  rw [List.length_map, if_pos h0, if_pos (by omega)]
  simp [List.getElem?_eq_getElem h1]
theorem atI_last {α : Type} {l : List α} {d : α} : atI (l ++ [d]) (-1) = some d := by
  have h : ixN (l ++ [d]).length (-1) = some l.length := by
    unfold ixN
    rw [List.length_append, List.length_singleton, if_neg (by omega), if_pos (by omega)]
    congr 1
    omega
  unfold atI
  rw [h]
  simp
theorem atI_get {α : Type} {l : List α} {i : Int} {x : α} (h0 : 0 ≤ i) (h : l[i.toNat]? = some x) : atI l i = some x := by
  have hl := (List.getElem?_eq_some_iff.mp h).1
  unfold atI ixN
  rw [if_pos h0, if_pos (by omega)]
  exact h
theorem atI_md {l : List Int} {i : Int} (h0 : 0 ≤ i) (h1 : i < l.length) : atI (l.map (MD.fz ∘ PyData.int)) i = some (.fz (.int (num l i.toNat))) := by
  have hj : i.toNat < l.length := by omega
  refine atI_get h0 ?_
  rw [List.getElem?_map, List.getElem?_eq_getElem hj]
  unfold num
  simp [List.getD, List.getElem?_eq_getElem hj]
/-! data that is laid: nothing but numbers, texts, lists, tuples, not deep -/
def Shp (n : Nat) (d : PyData) : Prop := d.canLay0 = true ∧ d.depth ≤ n
theorem Shp.up {n m : Nat} {d : PyData} (h : Shp n d) (k : n ≤ m) : Shp m d := ⟨h.1, Nat.le_trans h.2 k⟩
theorem shp_int (i : Int) : Shp 0 (.int i) := ⟨by simp [PyData.canLay0], by simp [PyData.depth]⟩
theorem shp_bool (i : Bool) : Shp 0 (.bool i) := ⟨by simp [PyData.canLay0], by simp [PyData.depth]⟩
theorem shp_none : Shp 0 .none := ⟨by simp [PyData.canLay0], by simp [PyData.depth]⟩
theorem shp_str {s : Str} (h : (PyData.str s).canLay0 = true) : Shp 0 (.str s) := ⟨h, by simp [PyData.depth]⟩
theorem shp_all {n : Nat} : ∀ {ds : List PyData}, (∀ d ∈ ds, Shp n d) → PyData.canLayAll0 ds = true ∧ PyData.depthAll ds ≤ n
  | [], _ => ⟨by simp [PyData.canLayAll0], by simp [PyData.depthAll]⟩
  | d :: ds, h => by
    have a := h d (List.mem_cons_self ..)
    have b := shp_all (ds := ds) fun d hd => h d (List.mem_cons_of_mem _ hd)
    exact ⟨by rw [PyData.canLayAll0, a.1, b.1]; rfl, by rw [PyData.depthAll]; exact Nat.max_le.mpr ⟨a.2, b.2⟩⟩
theorem shp_list {n : Nat} {ds : List PyData} (h : ∀ d ∈ ds, Shp n d) : Shp (n + 1) (.list ds) := ⟨by rw [PyData.canLay0]; exact (shp_all h).1, by rw [PyData.depth]; have := (shp_all h).2; omega⟩
theorem shp_tuple {n : Nat} {ds : List PyData} (h : ∀ d ∈ ds, Shp n d) : Shp (n + 1) (.tuple ds) := ⟨by rw [PyData.canLay0]; exact (shp_all h).1, by rw [PyData.depth]; have := (shp_all h).2; omega⟩
theorem Shp.shaped {n : Nat} {d : PyData} (h : Shp n d) (k : n ≤ 60 := by decide) : SeqAt.shaped d = true := by
  unfold SeqAt.shaped
  rw [h.1, Bool.true_and]
  exact decide_eq_true (Nat.le_trans h.2 (Nat.le_trans k (by decide)))
theorem gEq_same {n : Nat} {d : PyData} (h : Shp n d) (k : n ≤ 60 := by decide) : gEq d d = some (.bool true) := by
  unfold gEq
  rw [h.shaped k, SeqAt.eqv_refl d h.1]
  rfl
theorem gNe_same {n : Nat} {d : PyData} (h : Shp n d) (k : n ≤ 60 := by decide) : gNe d d = some (.bool false) := by
  unfold gNe
  rw [h.shaped k, SeqAt.eqv_refl d h.1]
  rfl
theorem gEq_of {n m : Nat} {d e : PyData} (h : Shp n d) (h2 : Shp m e) (k : n ≤ 60 := by decide) (k2 : m ≤ 60 := by decide) : gEq d e = some (.bool (PyData.eqv d e)) := by
  unfold gEq
  rw [h.shaped k, h2.shaped k2]
  rfl
theorem gNe_of {n m : Nat} {d e : PyData} (h : Shp n d) (h2 : Shp m e) (k : n ≤ 60 := by decide) (k2 : m ≤ 60 := by decide) : gNe d e = some (.bool (!PyData.eqv d e)) := by
  unfold gNe
  rw [h.shaped k, h2.shaped k2]
  rfl
end DR
end
section
/-! DR12: more to walk: zip of three lists. -/
namespace DR
open PySem L2
variable {K : PySem.W.Frag} {G : Str → Option Value} {S S' S1 H H' H1 : Hp} {A A' A1 B C : List Addr} {E : XK} {σ σ0 σ1 : St} {ρ : Sl} {X : Cx} {e a b c elt tg iter : Expr} {es ifs : List Expr} {pos : Pos} {f1 f2 f3 : Sl → R PyData}

def Itz3 (K : PySem.W.Frag) (a b c : Addr) : It :=
  ⟨fun i H => ∃ (xs ys zs : List V), SqL K H a xs ∧ SqL K H b ys ∧ SqL K H c zs ∧ i < min (min xs.length ys.length) zs.length,
    fun i H v H' => ∃ T x y z, v = .ref T ∧ H T = none ∧ H' = upd H T (.tup [x, y, z]) ∧ (∀ xs, SqL K H a xs → xs[i]? = some x) ∧ (∀ ys, SqL K H b ys → ys[i]? = some y) ∧ ∀ zs, SqL K H c zs → zs[i]? = some z,
    fun i H => ∃ xs ys zs : List V, SqL K H a xs ∧ SqL K H b ys ∧ SqL K H c zs ∧ i = min (min xs.length ys.length) zs.length⟩
theorem got_of {its : List Value} {i : Nat} {u : Value} {xs : List V} (rv : Vals xs its) (h : its.toArray[i]? = some u) : ∃ x, xs[i]? = some x ∧ RelV x u := by
  have h' : its[i]? = some u := by simpa using h
  have hl : i < xs.length := by rw [rv.length]; exact (List.getElem?_eq_some_iff.mp h').1
  obtain ⟨u', hu', r⟩ := rv.get (List.getElem?_eq_getElem hl)
  rw [h'] at hu'
  cases hu'
  exact ⟨_, List.getElem?_eq_getElem hl, r⟩
theorem turn_zip3 {P : Program} {w : World} {K : PySem.W.Frag} {elts : List Expr} {kk : Nat} {tpos : Pos} {a b c z TI TO i1 i2 i3 : Addr} (D : ZipSep3 z TI TO i1 i2 i3 [i1, a] [i2, b] [i3, c]) (n1 : a ≠ i1) (n2 : b ≠ i2) (n3 : c ≠ i3) :
    Turn P w K (.Tuple elts kk tpos) (Itz3 K a b c) [z, TI, TO, i1, i2, i3] z (fun i h => IsZip h z TI TO .none ∧ IsTupOf3 h TI (.ref i1) (.ref i2) (.ref i3) ∧ (∃ x y u, IsTupOf3 h TO x y u) ∧ h.IsListIter i1 a i ∧ h.IsListIter i2 b i ∧ h.IsListIter i3 c i) where
  mem := by simp
  obj := fun i h st d hd => by
    obtain ⟨hz, hTI, ⟨x, y, u, hTO⟩, ⟨o1, e1, _, d1⟩, ⟨o2, e2, _, d2⟩, ⟨o3, e3, _, d3⟩⟩ := st
    have e' : d = z ∨ d = TI ∨ d = TO ∨ d = i1 ∨ d = i2 ∨ d = i3 := by simpa using hd
    rcases e' with q | q | q | q | q | q <;> rw [q]
    · exact ⟨_, hz, fun v q => nomatch q⟩
    · exact ⟨_, hTI, fun v q => nomatch q⟩
    · exact ⟨_, hTO, fun v q => nomatch q⟩
    · exact ⟨o1, e1, fun v q => by rw [d1] at q; cases q⟩
    · exact ⟨o2, e2, fun v q => by rw [d2] at q; cases q⟩
    · exact ⟨o3, e3, fun v q => by rw [d3] at q; cases q⟩
  keep := fun i h h' st k => by
    obtain ⟨hz, hTI, ⟨x, y, u, hTO⟩, h1, h2, h3⟩ := st
    exact ⟨k z (by simp) _ hz, k TI (by simp) _ hTI, ⟨x, y, u, k TO (by simp) _ hTO⟩, h1.at fun o q => k i1 (by simp) o q, h2.at fun o q => k i2 (by simp) o q, h3.at fun o q => k i3 (by simp) o q⟩
  item := by
    intro X hP hw hK hc i pins s σ H E I hf st hg
    subst hP hw hK
    obtain ⟨hz, hTI, hTO, h1, h2, h3⟩ := st
    obtain ⟨xs, ys, zs, hqx, hqy, hqz, hi⟩ := hg
    obtain ⟨t1, rv1, p1, _⟩ := I.list hqx
    obtain ⟨t2, rv2, p2, _⟩ := I.list hqy
    obtain ⟨t3, rv3, p3, _⟩ := I.list hqz
    have l1 := rv1.length
    have l2 := rv2.length
    have l3 := rv3.length
    have hh : X.A.in1.handled = none := I.ok.hd hc
    have Z := GoesN.zip3 (prog := X.prog) (w := X.w) (A := X.A) (elts := elts) (x1 := kk) (pos := tpos) D (Draws.list hh i1 a n1 t1.toArray) (Draws.list hh i2 b n2 t2.toArray) (Draws.list hh i3 c n3 t3.toArray)
    refine Z.goes i s (fun v s2 => _) E (by simp; omega) ⟨hz, hTI, hTO, ⟨h1, p1.isList⟩, ⟨h2, p2.isList⟩, ⟨h3, p3.isList⟩⟩ ?_
    rintro v h' tk ⟨T, x, y, u, rfl, hTn, hx, hy, hu, o, ho, hoc, n, hod⟩ ⟨z', TI', TO', ⟨h1', _⟩, ⟨h2', _⟩, ⟨h3', _⟩⟩ hk htk
    obtain ⟨vx, gx, rx⟩ := got_of rv1 hx
    obtain ⟨vy, gy, ry⟩ := got_of rv2 hy
    obtain ⟨vu, gu, ru⟩ := got_of rv3 hu
    have new : ObjOk X.prog X.w (upd H T (.tup [vx, vy, vu])) h' T (.tup [vx, vy, vu]) :=
      ⟨by show 3 ≤ sizeLine; decide, [x, y, u], .cons rx (.cons ry (.cons ru .nil)), ⟨_, ho, hoc, n, hod⟩⟩
    have fr : ∀ d ∈ [z, TO, i1, i2, i3], FpOk X pins H d := fun d hd => hf d (by
      have e' : d = z ∨ d = TO ∨ d = i1 ∨ d = i2 ∨ d = i3 := by simpa using hd
      rcases e' with q | q | q | q | q <;> rw [q] <;> simp)
    have I1 : Inv X pins σ (upd H T (.tup [vx, vy, vu])) { s with heap := h', toks := tk } := I.turnedNew hk fr hTn new
    refine ⟨.ref T, _, I1, rfl, ⟨T, vx, vy, vu, rfl, I.hok.fresh hTn, rfl, fun l hl => by rw [I.list_inj hl hqx]; exact gx, fun l hl => by rw [I.list_inj hl hqy]; exact gy, fun l hl => by rw [I.list_inj hl hqz]; exact gu⟩, ⟨z', TI', TO', h1', h2', h3'⟩, fun d hd => ?_⟩
    have hlt : d < s.heap.objs.size := by
      obtain ⟨_, _, _, hTO⟩ := hTO
      obtain ⟨_, e1, _⟩ := h1
      obtain ⟨_, e2, _⟩ := h2
      obtain ⟨_, e3, _⟩ := h3
      have e' : d = z ∨ d = TI ∨ d = TO ∨ d = i1 ∨ d = i2 ∨ d = i3 := by simpa using hd
      rcases e' with q | q | q | q | q | q <;> rw [q]
      · exact Heap.lt_size hz
      · exact Heap.lt_size hTI
      · exact Heap.lt_size hTO
      · exact Heap.lt_size e1
      · exact Heap.lt_size e2
      · exact Heap.lt_size e3
    rw [upd_ne (Nat.ne_of_lt (Nat.lt_of_lt_of_le hlt hTn))]
    exact (hf d hd).1
  done := by
    intro X hP hw hK hc i pins s σ H E I hf st hg
    subst hP hw hK
    obtain ⟨hz, hTI, hTO, h1, h2, h3⟩ := st
    obtain ⟨xs, ys, zs, hqx, hqy, hqz, rfl⟩ := hg
    obtain ⟨t1, rv1, p1, _⟩ := I.list hqx
    obtain ⟨t2, rv2, p2, _⟩ := I.list hqy
    obtain ⟨t3, rv3, p3, _⟩ := I.list hqz
    have l1 := rv1.length
    have l2 := rv2.length
    have l3 := rv3.length
    have hh : X.A.in1.handled = none := I.ok.hd hc
    have Z := GoesN.zip3 (prog := X.prog) (w := X.w) (A := X.A) (elts := elts) (x1 := kk) (pos := tpos) D (Draws.list hh i1 a n1 t1.toArray) (Draws.list hh i2 b n2 t2.toArray) (Draws.list hh i3 c n3 t3.toArray)
    have en : min (min t1.toArray.size t2.toArray.size) t3.toArray.size = min (min xs.length ys.length) zs.length := by simp [l1, l2, l3]
    rw [en] at Z
    refine Z.stops s (fun s1 => _) E ⟨hz, hTI, hTO, ⟨h1, p1.isList⟩, ⟨h2, p2.isList⟩, ⟨h3, p3.isList⟩⟩ fun h' tk hk htk => ?_
    exact I.turnedL hk fun d hd => hf d (by
      have e' : d = z ∨ d = TO ∨ d = i1 ∨ d = i2 ∨ d = i3 := by simpa using hd
      rcases e' with q | q | q | q | q <;> rw [q] <;> simp)
  self := fun A i s Q E st h => wpAny_pyIter_zip st.1 h
def iZip3 (K : PySem.W.Frag) (ta : TA) : TI := fun σ H R => ta σ H fun vs H1 => ∃ a b c xs ys zs, vs = [.ref a, .ref b, .ref c] ∧ SqL K H1 a xs ∧ SqL K H1 b ys ∧ SqL K H1 c zs ∧ R (Itz3 K a b c) H1
open PySem.Spec PyProof.Rows in
theorem pi_zip3 {X : Cx} {e e2 e3 : Expr} {ta : TA} {p pos tpos : Pos} {elts : List Expr} {kk : Nat} (hg : Gl X "zip") (hm : X.mg "zip" = none) (ha : PA X [e, e2, e3] ta)
    (hs : starEach [e, e2, e3] X.env = (false, eval e X.env) :: starEach [e2, e3] X.env := by rfl) (hpl : (backTo pos (starEach [e2, e3] X.env)).any (·.1) = false := by rfl) :
    PI X (.Tuple elts kk tpos) (.Call (.Name "zip" p) [e, e2, e3] [] pos) (iZip3 X.K ta) := by
  refine ⟨fun pins s σ H R I h => ?_⟩
  refine Call_ (ld_blt I hg hm PyProof.Rows.boot_zip (PyProof.Rows.callWith_type1 (thn (ha.run pos pins s σ H _ I h) fun us s1 ⟨vs, H1, I1, r1, q1⟩ => ?_) hs hpl))
  obtain ⟨a, b, c, xs, ys, zs, ex, hqx, hqy, hqz, q⟩ := q1
  subst ex
  cases r1 with
  | cons r rr =>
    cases rr with
    | cons r' rr =>
      cases rr with
      | cons r'' rr =>
        cases rr
        cases r
        cases r'
        cases r''
        obtain ⟨t1, rv1, p1, _⟩ := I1.list hqx
        obtain ⟨t2, rv2, p2, _⟩ := I1.list hqy
        obtain ⟨t3, rv3, p3, _⟩ := I1.list hqz
        have la : a < s1.heap.objs.size := p1.lt
        have lb : b < s1.heap.objs.size := p2.lt
        have lc : c < s1.heap.objs.size := p3.lt
        refine zip_begins3 (begins_list a t1.toArray) (begins_list b t2.toArray) (begins_list c t3.toArray) p1.isList p2.isList p3.isList fun h' hz hTI hTO h1 h2 h3 hsz hk => wpAny_pyIter_zip hz ?_
        have I2 : Inv X pins σ H1 { s1 with heap := h' } := I1.kept (t' := s1.toks) hk
        have D := zip_sep3 (N := s1.heap.objs.size) (fp1 := [a]) (fp2 := [b]) (fp3 := [c]) (fun d hd => by rw [List.mem_singleton.mp hd]; exact la) (fun d hd => by rw [List.mem_singleton.mp hd]; exact lb) (fun d hd => by rw [List.mem_singleton.mp hd]; exact lc)
        refine ⟨s1.heap.objs.size + 5, [s1.heap.objs.size + 5, s1.heap.objs.size + 3, s1.heap.objs.size + 4, s1.heap.objs.size, s1.heap.objs.size + 1, s1.heap.objs.size + 2], _, _, H1, rfl, I2, turn_zip3 D (Nat.ne_of_lt la) (Nat.ne_of_lt (Nat.lt_succ_of_lt lb)) (Nat.ne_of_lt (Nat.lt_succ_of_lt (Nat.lt_succ_of_lt lc))), ⟨hz, hTI, ⟨_, _, _, hTO⟩, ⟨_, h1, rfl, rfl⟩, ⟨_, h2, rfl, rfl⟩, ⟨_, h3, rfl, rfl⟩⟩, fun d hd => ?_, q⟩
        have hle : s1.heap.objs.size ≤ d := by
          have e' : d = s1.heap.objs.size + 5 ∨ d = s1.heap.objs.size + 3 ∨ d = s1.heap.objs.size + 4 ∨ d = s1.heap.objs.size ∨ d = s1.heap.objs.size + 1 ∨ d = s1.heap.objs.size + 2 := by simpa using hd
          rcases e' with z | z | z | z | z | z <;> rw [z] <;> first | exact Nat.le_add_right _ _ | exact Nat.le_refl _
        exact I1.fpOk hle (I1.hok.fresh hle)
/-- what zip of three hands out -/
def zip3D : List PyData → List PyData → List PyData → List PyData
  | x :: xs, y :: ys, z :: zs => .tuple [x, y, z] :: zip3D xs ys zs
  | _, _, _ => []
theorem zip3D_len : ∀ xs ys zs : List PyData, (zip3D xs ys zs).length = min (min xs.length ys.length) zs.length
  | [], _, _ => by simp [zip3D]
  | _ :: _, [], _ => by simp [zip3D]
  | _ :: _, _ :: _, [] => by simp [zip3D]
  | x :: xs, y :: ys, z :: zs => by simp [zip3D, zip3D_len xs ys zs]
theorem zip3D_get : ∀ {xs ys zs : List PyData} {i : Nat} {d : PyData}, (zip3D xs ys zs)[i]? = some d → ∃ x y z, xs[i]? = some x ∧ ys[i]? = some y ∧ zs[i]? = some z ∧ d = .tuple [x, y, z]
  | [], _, _, i, d, h => by simp [zip3D] at h
  | _ :: _, [], _, i, d, h => by simp [zip3D] at h
  | _ :: _, _ :: _, [], i, d, h => by simp [zip3D] at h
  | x :: xs, y :: ys, z :: zs, 0, d, h => ⟨x, y, z, rfl, rfl, rfl, by simpa [zip3D] using h.symm⟩
  | x :: xs, y :: ys, z :: zs, i + 1, d, h => by
    obtain ⟨a, b, c, h1, h2, h3, h4⟩ := zip3D_get (xs := xs) (ys := ys) (zs := zs) (i := i) (d := d) (by simpa [zip3D] using h)
    exact ⟨a, b, c, by simpa using h1, by simpa using h2, by simpa using h3, h4⟩
theorem walks_z3 {p q r : Addr} {xs ys zs : List V} {as bs cs : List PyData} (h1 : Rd S p (.lst xs)) (e1 : FzA K S xs as) (h2 : Rd S q (.lst ys)) (e2 : FzA K S ys bs) (h3 : Rd S r (.lst zs)) (e3 : FzA K S zs cs) : Walks K (Itz3 K p q r) S (zip3D as bs cs) where
  go := fun i H s hi => ⟨xs, ys, zs, .inl (s.rd h1), .inl (s.rd h2), .inl (s.rd h3), by rw [dpA_len e1, dpA_len e2, dpA_len e3, ← zip3D_len]; exact hi⟩
  yld := fun i S' H d x H' s s' e y => by
    obtain ⟨T, vx, vy, vz, rfl, hn, rfl, y1, y2, y3⟩ := y
    obtain ⟨a, b, c, g1, g2, g3, rfl⟩ := zip3D_get e
    obtain ⟨v1, k1, w1⟩ := dpA_get e1 g1
    obtain ⟨v2, k2, w2⟩ := dpA_get e2 g2
    obtain ⟨v3, k3, w3⟩ := dpA_get e3 g3
    have z1 := y1 xs (.inl (s'.rd (s.rd h1)))
    have z2 := y2 ys (.inl (s'.rd (s.rd h2)))
    have z3 := y3 zs (.inl (s'.rd (s.rd h3)))
    rw [k1] at z1; rw [k2] at z2; rw [k3] at z3
    cases z1; cases z2; cases z3
    have n : New S' H (upd S' T (.tup [vx, vy, vz])) [] (upd H T (.tup [vx, vy, vz])) := New.tup s' hn
    exact ⟨_, n, .tup (.inl (.inl upd_same)) (.cons (dp_mono (s.trans n.ss) w1) (.cons (dp_mono (s.trans n.ss) w2) (.cons (dp_mono (s.trans n.ss) w3) .nil)))⟩
  stop := fun i H s hi => ⟨xs, ys, zs, .inl (s.rd h1), .inl (s.rd h2), .inl (s.rd h3), by rw [dpA_len e1, dpA_len e2, dpA_len e3, ← zip3D_len]; exact hi⟩
def itZ3 (f : Sl → R (List PyData)) : Sl → R (List PyData) := fun ρ => (f ρ).bind fun ds ρ => match ds with
  | [.list as, .list bs, .list cs] => .ok (zip3D as bs cs) ρ
  | _ => .bad
theorem simI_z3 {fs : Sl → R (List PyData)} {p tpos : Pos} {elts : List Expr} {kk : Nat} (hm : X.mg "zip" = none) (h : SimA X E [a, b, c] fs) (hg : Gl X "zip" := by rfl)
    (hs : starEach [a, b, c] X.env = (false, eval a X.env) :: starEach [b, c] X.env := by rfl) (hpl : (backTo pos (starEach [b, c] X.env)).any (·.1) = false := by rfl) : SimI X E (.Tuple elts kk tpos) (.Call (.Name "zip" p) [a, b, c] [] pos) (itZ3 fs) := by
  obtain ⟨t, pa, s⟩ := h.ex
  refine ⟨_, pi_zip3 hg hm pa hs hpl, fun σ ρ S A H R r q => s σ ρ S A H _ r ((Run.bind q).imp fun ds ρ1 S1 A1 H1 q1 r1 vs hvs => ?_)⟩
  cases hvs with
  | nil => exact q1.elim
  | cons x1 t1 =>
    cases t1 with
    | nil => cases x1 <;> exact q1.elim
    | cons x2 t2 =>
      cases t2 with
      | nil => cases x1 <;> cases x2 <;> exact q1.elim
      | cons x3 t3 =>
        cases t3 with
        | cons x4 t4 => cases x1 <;> cases x2 <;> cases x3 <;> exact q1.elim
        | nil =>
          cases x1 with
          | lst h1 e1 =>
            cases x2 with
            | lst h2 e2 =>
              cases x3 with
              | lst h3 e3 => exact ⟨_, _, _, _, _, _, rfl, .inl (r1.sub.rd (.inl h1)), .inl (r1.sub.rd (.inl h2)), .inl (r1.sub.rd (.inl h3)), q1 S1 A1 H1 Grow.refl r1 _ (walks_z3 (.inl h1) e1 (.inl h2) e2 (.inl h3) e3)⟩
              | _ => exact q1.elim
            | _ => cases x3 <;> exact q1.elim
          | _ => cases x2 <;> cases x3 <;> exact q1.elim
@[simp] theorem itZ3_e (f : Sl → R (List PyData)) (ρ : Sl) : itZ3 f ρ = (f ρ).bind fun ds ρ => match ds with
  | [.list as, .list bs, .list cs] => .ok (zip3D as bs cs) ρ
  | _ => .bad := keep rfl
end DR
end
section
/-! DR13: dicts. -/
namespace DR
open PySem L2
variable {K : PySem.W.Frag} {G : Str → Option Value} {S S' S1 H H' H1 : Hp} {A A' A1 B C : List Addr} {E : XK} {σ σ0 σ1 : St} {ρ : Sl} {X : Cx} {e a b c elt tg iter : Expr} {es ifs : List Expr} {pos : Pos} {f1 f2 f3 : Sl → R PyData}

/-! ### on data -/
section
variable {κ : Type} [DecidableEq κ]
def dGet (kvs : List (κ × PyData)) (k : κ) : Option PyData := (kvs.find? fun kv => decide (kv.1 = k)).map (·.2)
def dPut (kvs : List (κ × PyData)) (k : κ) (v : PyData) : List (κ × PyData) :=
  if (kvs.any fun kv => decide (kv.1 = k)) = true then kvs.map (fun kv => if kv.1 = k then (kv.1, v) else kv) else kvs ++ [(k, v)]
theorem kd_get (k : κ) : ∀ {xs : List (κ × V)} {ds : List (κ × PyData)}, Paired (KD K S) xs ds → (∃ v d, valV xs k = some v ∧ dGet ds k = some d ∧ Fz K S v d) ∨ (valV xs k = none ∧ dGet ds k = none)
  | _, _, .nil => .inr ⟨rfl, rfl⟩
  | _, _, .cons (a := x) (b := y) (l₁ := xs) (l₂ := ds) h t => by
    obtain ⟨e, hv⟩ := h
    by_cases q : x.1 = k
    · refine .inl ⟨x.2, y.2, ?_, ?_, hv⟩
      · simp [valV, List.find?_cons, q]
      · simp [dGet, List.find?_cons, ← e, q]
    · have q2 : ¬ y.1 = k := by rw [← e]; exact q
      have e1 : valV (x :: xs) k = valV xs k := by simp [valV, List.find?_cons, q]
      have e2 : dGet (y :: ds) k = dGet ds k := by simp [dGet, List.find?_cons, q2]
      rw [e1, e2]
      exact kd_get k t
theorem kd_any (k : κ) : ∀ {xs : List (κ × V)} {ds : List (κ × PyData)}, Paired (KD K S) xs ds → (xs.any fun kv => decide (kv.1 = k)) = ds.any fun kv => decide (kv.1 = k)
  | _, _, .nil => rfl
  | _, _, .cons h t => by rw [List.any_cons, List.any_cons, kd_any k t, h.1]
theorem kd_repl (k : κ) {v : V} {d : PyData} (hv : Fz K S v d) : ∀ {xs : List (κ × V)} {ds : List (κ × PyData)}, Paired (KD K S) xs ds → Paired (KD K S) (xs.map fun kv => if kv.1 = k then (kv.1, v) else kv) (ds.map fun kv => if kv.1 = k then (kv.1, d) else kv)
  | _, _, .nil => .nil
  | _, _, .cons (a := x) (b := y) h t => by
    refine .cons ?_ (kd_repl k hv t)
    have e := h.1
    show KD K S (if x.1 = k then (x.1, v) else x) (if y.1 = k then (y.1, d) else y)
    by_cases q : x.1 = k
    · rw [if_pos q, if_pos (by rw [← e]; exact q)]
      exact ⟨e, hv⟩
    · rw [if_neg q, if_neg (by rw [← e]; exact q)]
      exact h
theorem kd_snoc {k : κ} {v : V} {d : PyData} (hv : Fz K S v d) : ∀ {xs : List (κ × V)} {ds : List (κ × PyData)}, Paired (KD K S) xs ds → Paired (KD K S) (xs ++ [(k, v)]) (ds ++ [(k, d)])
  | _, _, .nil => .cons ⟨rfl, hv⟩ .nil
  | _, _, .cons h t => .cons h (kd_snoc hv t)
theorem kd_put (k : κ) {v : V} {d : PyData} (hv : Fz K S v d) {xs : List (κ × V)} {ds : List (κ × PyData)} (h : Paired (KD K S) xs ds) : Paired (KD K S) (putK xs k v) (dPut ds k d) := by
  unfold putK dPut
  rw [kd_any k h]
  split
  · exact kd_repl k hv h
  · exact kd_snoc hv h
theorem kd_len : ∀ {xs : List (κ × V)} {ds : List (κ × PyData)}, Paired (KD K S) xs ds → xs.length = ds.length
  | _, _, .nil => rfl
  | _, _, .cons _ t => congrArg (· + 1) (kd_len t)
end
def keyD : PyData → Option Key
  | .int i => some (.inl i)
  | .str s => some (.inr s)
  | _ => none
def keyP : Key → PyData
  | .inl i => .int i
  | .inr s => .str s
theorem keyD_of {v : V} {d : PyData} {k : Key} (h : Fz K S v d) (e : keyD d = some k) : v = kV k := by
  cases h with
  | int i => simp only [keyD, Option.some.injEq] at e; subst e; rfl
  | str s => simp only [keyD, Option.some.injEq] at e; subst e; rfl
  | _ => cases e
theorem keyP_fz (k : Key) : Fz K S (kV k) (keyP k) := by
  cases k with
  | inl i => exact .int i
  | inr s => exact .str s

/-! ### a new one -/
def mNewD : Sl → R MD := fun ρ => .ok (.md []) ρ
theorem New.one {p : Addr} {o : HO} (s : Sub S H) (n : H p = none) : New S H S [p] (upd H p o) := New.lst s n
theorem simM_newD : SimM X E (.Dict [] [] pos) mNewD :=
  ⟨_, pe_dnewK, fun σ ρ S A H Q r q p hp => q S _ _ (New.one r.sub hp).grow _ ((New.one r.sub hp).rel r (.md upd_same .nil))⟩
def mNewT : Sl → R MD := fun ρ => .ok (.mk []) ρ
theorem simM_newT : SimM X E (.Dict [] [] pos) mNewT :=
  ⟨_, pe_dnewT, fun σ ρ S A H Q r q p hp => q S _ _ (New.one r.sub hp).grow _ ((New.one r.sub hp).rel r (.mk upd_same .nil))⟩
/-- {0: True} -/
def mDispD (i : Int) (b : Bool) : Sl → R MD := fun ρ => .ok (.md [(.inl i, .bool b)]) ρ
theorem simM_dispD {i : Int} {b : Bool} {j1 j2 : Nat} {p1 p2 : Pos} : SimM X E (.Dict [some (.Constant (.int i) j1 p1)] [.Constant (.bool b) j2 p2] pos) (mDispD i b) := by
  refine ⟨_, pe_disp (pps_cons pe_int pe_bl pps_nil) rfl rfl (by simp) (by simp), fun σ ρ S A H Q r q p hp => ?_⟩
  refine ⟨upd_same, [(.inl i, .bl b)], rfl, by simp, ?_⟩
  rw [upd_upd]
  have n : New S H S [p] (upd H p (.dK (mergeK [] [(.inl i, .bl b)]))) := New.one r.sub hp
  exact q S _ _ n.grow _ (n.rel r (.md upd_same (.cons ⟨rfl, .bl b⟩ .nil)))

/-! ### the dict in a slot -/
theorem own_one {i : Nat} {m : MD} (r : Rel K G S ρ A σ H) (e : ρ[i]? = some (some m)) (hm : ∀ v B, RepM K G S H v m B → ∃ a, v = .ref a ∧ B = [a]) :
    ∃ a, σ[i]? = some (some (.ref a)) ∧ RepM K G S H (.ref a) m [a] ∧ ∀ o' m', (RepM K G S (upd H a o') (.ref a) m' [a]) → Rel K G S (ρ.set i (some m')) A σ (upd H a o') ∧ Grow S A H S A (upd H a o') := by
  obtain ⟨A0, ro, nd, sb⟩ := r.rep
  obtain ⟨v, B, C, h1, h2, h3, pm⟩ := take1 ro e
  obtain ⟨a, rfl, rfl⟩ := hm v B h2
  have ndBC := pm.nodup_iff.mp nd
  have nBC := List.nodup_append.mp ndBC
  have naC : a ∉ C := fun q => nBC.2.2 a (List.mem_cons_self ..) a q rfl
  have haA : a ∈ A := sb a (pm.mem_iff.mpr (List.mem_append_left _ (List.mem_cons_self ..)))
  refine ⟨a, h1, h2, fun o' m' k => ?_⟩
  have hC := h3.mono (Sub.refl S) (H' := upd H a o') fun b hb o ho => by
    rw [upd_ne (fun q => naC (by rw [← q]; exact hb))]
    exact ho
  have hi : i < ρ.length := (List.getElem?_eq_some_iff.mp e).1
  obtain ⟨A2, ro2, pm2⟩ := put1 hC (List.getElem?_set_self hi) h1 k
  rw [List.set_set] at ro2
  have sS : Sub S (upd H a o') := sub_upd r.sub (r.off a haA).1
  refine ⟨⟨sS, ⟨A2, ro2, pm2.nodup_iff.mpr ndBC, fun b hb => sb b (pm.mem_iff.mpr (pm2.mem_iff.mp hb))⟩, fun b hb => ⟨(r.off b hb).1, ?_⟩⟩, ⟨Sub.refl S, fun _ h => .inl h, fun b o h n => ?_, fun _ h => .inl h, fun b h => ?_⟩⟩
  · by_cases q : b = a
    · subst q
      rw [upd_same]
      intro z
      cases z
    · rw [upd_ne q]
      exact (r.off b hb).2
  · rw [upd_ne (fun q => n (by rw [q]; exact haA))]
    exact h
  · by_cases q : b = a
    · subst q
      rw [upd_same] at h
      cases h
    · rw [upd_ne q] at h
      exact h
theorem md_one {kvs : List (Key × PyData)} : ∀ v B, RepM K G S H v (.md kvs) B → ∃ a, v = .ref a ∧ B = [a] := fun v B h => by
  cases h with
  | md => exact ⟨_, rfl, rfl⟩
theorem mk_one {kvs : List (List Key × PyData)} : ∀ v B, RepM K G S H v (.mk kvs) B → ∃ a, v = .ref a ∧ B = [a] := fun v B h => by
  cases h with
  | mk => exact ⟨_, rfl, rfl⟩
theorem same_ref {i : Nat} {a a' : Addr} (h : σ[i]? = some (some (.ref a))) (h' : σ[i]? = some (some (.ref a'))) : a = a' := by
  rw [h] at h'
  injection h' with h'
  injection h' with h'
  injection h'
variable {x : Str} {p p2 : Pos}
/-- d[k] = v -/
def sPutD (i : Nat) (fv fk : Sl → R PyData) : Sl → RS := fun ρ => (fv ρ).s fun d ρ1 => match ρ1[i]? with
  | some (some (.md _)) => (fk ρ1).s fun k ρ2 => match ρ2[i]? with
    | some (some (.md kvs)) => match keyD k with
      | some k => if kvs.length < sizeLine then .nx (ρ2.set i (some (.md (dPut kvs k d)))) else .bad
      | none => .bad
    | _ => .bad
  | _ => .bad
theorem simS_putD (i : Nat) {j : Nat} {ix : Expr} (hr : Room j X.A) (h : SimF X E e f1) (hk : SimF X E ix f2) (hN : X.N[i]? = some x := by rfl) (hv : Vis X.env.scope x := by first | exact Or.inl rfl | exact Or.inr (Or.inl rfl) | exact Or.inr (Or.inr rfl)) (hd : (x == ("__debug__" : Str)) = false := by decide)
    (hcd : (x == ("__classdict__" : Str)) = false := by decide) (hs : swapsWith e (some (.Subscript (.Name x p) ix p2)) pos.line X.env = pure false := by rfl) :
    SimS X E [] (.Assign [.Subscript (.Name x p) ix p2] e pos) (sPutD i f1 f2) := by
  obtain ⟨t, pe, s⟩ := h.ex
  obtain ⟨tk, pk, sk⟩ := hk.ex
  have hu : X.A.units + 1 < cLine := Nat.lt_of_le_of_lt (by omega) hr.units
  refine ⟨_, ps_dput hu (pe_var hN hv hd hcd) pk pe hs, fun σ ρ S A H D r q => s σ ρ S A H _ r ((RunS.ofR q).imp fun d ρ1 S1 A1 H1 q1 r1 v hv => ?_)⟩
  split at q1
  · rename_i kv0 em
    obtain ⟨a, h1, _, _⟩ := own_one r1 em md_one
    refine ⟨.ref a, h1, sk σ ρ1 S1 A1 H1 _ r1 ((RunS.ofR q1).impG fun k ρ2 S2 A2 H2 g2 q2 r2 y hy => ?_)⟩
    split at q2
    · rename_i kvs em2
      obtain ⟨a', h1', hr2, up⟩ := own_one r2 em2 md_one
      have ea := same_ref h1 h1'
      subst ea
      split at q2
      · rename_i key ek
        by_cases hz : kvs.length < sizeLine
        · rw [if_pos hz] at q2
          cases hr2 with
          | md ha hp =>
            have ey := keyD_of hy ek
            subst ey
            obtain ⟨r3, g3⟩ := up (.dK (putK _ key v)) (.md (dPut kvs key d)) (.md upd_same (kd_put key (dp_mono g2.ss hv) hp))
            exact ⟨a, _, rfl, DPut.k ha (by rw [kd_len hp]; exact hz), q2 σ S2 A2 _ g3 r3 Keep.refl⟩
        · rw [if_neg hz] at q2
          exact q2.elim
      · exact q2.elim
    · exact q2.elim
  · exact q1.elim
/-- the dict in the slot, to be read -/
def asDict : MD → Option (List (Key × PyData))
  | .md kvs => some kvs
  | .fd kvs => some kvs
  | _ => none
theorem rd_dict {i : Nat} {m : MD} {kvs : List (Key × PyData)} (r : Rel K G S ρ A σ H) (e : ρ[i]? = some (some m)) (ed : asDict m = some kvs) : ∃ a xs, σ[i]? = some (some (.ref a)) ∧ Rd H a (.dK xs) ∧ Paired (KD K S) xs kvs := by
  obtain ⟨v, B, h1, h2⟩ := r.at e
  cases h2 with
  | md ha hp =>
    simp only [asDict, Option.some.injEq] at ed
    subst ed
    exact ⟨_, _, h1, .inl ha, hp⟩
  | fd ha hp =>
    simp only [asDict, Option.some.injEq] at ed
    subst ed
    exact ⟨_, _, h1, r.sub.rd ha, hp⟩
  | _ => cases ed
/-- d[k] -/
def mIxD (i : Nat) (f : Sl → R PyData) : Sl → R PyData := fun ρ => match ρ[i]? with
  | some (some _) => (f ρ).bind fun k ρ1 => match (ρ1[i]?).join with
    | some m => lft ((asDict m).bind fun kvs => (keyD k).bind fun k => dGet kvs k) ρ1
    | none => .bad
  | _ => .bad
theorem simF_ixD (i : Nat) {j : Nat} {ix : Expr} (hr : Room j X.A) (hk : SimF X E ix f1) (hn : NoSl ix) (hN : X.N[i]? = some x := by rfl) (hv : Vis X.env.scope x := by first | exact Or.inl rfl | exact Or.inr (Or.inl rfl) | exact Or.inr (Or.inr rfl)) (hd : (x == ("__debug__" : Str)) = false := by decide)
    (hcd : (x == ("__classdict__" : Str)) = false := by decide) : SimF X E (.Subscript (.Name x p) ix pos) (mIxD i f1) := by
  obtain ⟨tk, pk, sk⟩ := hk.ex
  have hu : X.A.units + 1 < cLine := Nat.lt_of_le_of_lt (by omega) hr.units
  refine ⟨_, pe_dget hu (pe_var hN hv hd hcd) pk hn, fun σ ρ S A H Q r q => ?_⟩
  unfold mIxD at q
  split at q
  · rename_i m0 em0
    obtain ⟨v0, B0, hv0, _⟩ := r.at em0
    refine ⟨v0, hv0, sk σ ρ S A H _ r ((Run.bind q).imp fun k ρ1 S1 A1 H1 q1 r1 y hy => ?_)⟩
    split at q1
    · rename_i m em
      have em' : ρ1[i]? = some (some m) := by
        cases z : ρ1[i]? with
        | none => rw [z] at em; cases em
        | some o => rw [z] at em; simp at em; rw [em]
      unfold lft at q1
      split at q1
      · rename_i d ed
        obtain ⟨kvs, e1, e2⟩ := Option.bind_eq_some_iff.mp ed
        obtain ⟨key, e3, e4⟩ := Option.bind_eq_some_iff.mp e2
        obtain ⟨a, xs, h1, h2, hp⟩ := rd_dict r1 em' e1
        have ey := keyD_of hy e3
        subst ey
        rcases kd_get key hp with ⟨v, d', g1, g2, hz⟩ | ⟨g1, g2⟩
        · rw [e4] at g2
          cases g2
          rw [h1] at hv0
          cases hv0
          exact ⟨a, v, rfl, .inl ⟨xs, key, h2, rfl, g1.symm⟩, q1 S1 A1 H1 Grow.refl r1 v hz⟩
        · rw [e4] at g2; cases g2
      · exact q1.elim
    · exact q1.elim
  · exact q.elim
/-- k in d, k not in d -/
def mInD (neg : Bool) (i : Nat) (f : Sl → R PyData) : Sl → R PyData := fun ρ => (f ρ).bind fun k ρ1 => match (ρ1[i]?).join with
  | some m => lft ((asDict m).bind fun kvs => (keyD k).map fun k => .bool ((dGet kvs k).isSome != neg)) ρ1
  | none => .bad
theorem inD_sem {neg : Bool} {i : Nat} {tk : TE} {Q : VK} (sk : ∀ σ ρ S A H Q, Rel K G S ρ A σ H → Run K G E S A σ H (f1 ρ) (fun d ρ' S' A' H' => Rel K G S' ρ' A' σ H' → ∀ v, Fz K S' v d → Q v H') → tk σ H Q)
    (r : Rel K G S ρ A σ H) (q : Run K G E S A σ H (mInD neg i f1 ρ) (fun d ρ' S' A' H' => Rel K G S' ρ' A' σ H' → ∀ v, Fz K S' v d → Q v H')) : tk σ H fun y H1 => tVar i σ H1 fun x H2 => ∃ a o, x = .ref a ∧ DGet H2 a y o ∧ Q (.bl (o.isSome != neg)) H2 := by
  refine sk σ ρ S A H _ r ((Run.bind q).imp fun k ρ1 S1 A1 H1 q1 r1 y hy => ?_)
  split at q1
  · rename_i m em
    have em' : ρ1[i]? = some (some m) := by
      cases z : ρ1[i]? with
      | none => rw [z] at em; cases em
      | some o => rw [z] at em; simp at em; rw [em]
    unfold lft at q1
    split at q1
    · rename_i d ed
      obtain ⟨kvs, e1, e2⟩ := Option.bind_eq_some_iff.mp ed
      obtain ⟨key, e3, e4⟩ := Option.map_eq_some_iff.mp e2
      obtain ⟨a, xs, h1, h2, hp⟩ := rd_dict r1 em' e1
      have ey := keyD_of hy e3
      subst ey e4
      have hs : (valV xs key).isSome = (dGet kvs key).isSome := by
        rcases kd_get key hp with ⟨v, d', g1, g2, hz⟩ | ⟨g1, g2⟩ <;> rw [g1, g2] <;> rfl
      exact ⟨.ref a, h1, a, valV xs key, rfl, .inl ⟨xs, key, h2, rfl, rfl⟩, by rw [hs]; exact q1 S1 A1 H1 Grow.refl r1 _ (.bl _)⟩
    · exact q1.elim
  · exact q1.elim
section
variable {i j : Nat} {ix : Expr}
theorem tin_mono {ty td : TE} {neg : Bool} {Q : VK} (h : ty σ H fun y H1 => td σ H1 fun x H2 => ∃ a o, x = .ref a ∧ DGet H2 a y o ∧ Q (.bl (o.isSome != neg)) H2) (e : neg = false) : ty σ H fun y H1 => td σ H1 fun x H2 => ∃ a o, x = .ref a ∧ DGet H2 a y o ∧ Q (.bl o.isSome) H2 := by
  subst e
  have : (fun y H1 => td σ H1 fun x H2 => ∃ a o, x = .ref a ∧ DGet H2 a y o ∧ Q (.bl (o.isSome != false)) H2) = (fun y H1 => td σ H1 fun x H2 => ∃ a o, x = .ref a ∧ DGet H2 a y o ∧ Q (.bl o.isSome) H2) := by
    funext y H1
    congr 1
    funext x H2
    simp
  rw [this] at h
  exact h
theorem tnin_mono {ty td : TE} {neg : Bool} {Q : VK} (h : ty σ H fun y H1 => td σ H1 fun x H2 => ∃ a o, x = .ref a ∧ DGet H2 a y o ∧ Q (.bl (o.isSome != neg)) H2) (e : neg = true) : ty σ H fun y H1 => td σ H1 fun x H2 => ∃ a o, x = .ref a ∧ DGet H2 a y o ∧ Q (.bl (!o.isSome)) H2 := by
  subst e
  have : (fun y H1 => td σ H1 fun x H2 => ∃ a o, x = .ref a ∧ DGet H2 a y o ∧ Q (.bl (o.isSome != true)) H2) = (fun y H1 => td σ H1 fun x H2 => ∃ a o, x = .ref a ∧ DGet H2 a y o ∧ Q (.bl (!o.isSome)) H2) := by
    funext y H1
    congr 1
    funext x H2
    simp
  rw [this] at h
  exact h
theorem simF_inD (i : Nat) {j : Nat} (hr : Room j X.A) (hk : SimF X E ix f1) (hN : X.N[i]? = some x := by rfl) (hv : Vis X.env.scope x := by first | exact Or.inl rfl | exact Or.inr (Or.inl rfl) | exact Or.inr (Or.inr rfl)) (hd : (x == ("__debug__" : Str)) = false := by decide)
    (hcd : (x == ("__classdict__" : Str)) = false := by decide) (hb : behindInMarks .In (.Name x p) = false := by rfl) : SimF X E (.Compare ix [.In] [.Name x p] pos) (mInD false i f1) := by
  obtain ⟨tk, pk, sk⟩ := hk.ex
  have hu : X.A.units + 1 < cLine := Nat.lt_of_le_of_lt (by omega) hr.units
  exact ⟨_, pe_cmp (pc_din hu pk (pe_var hN hv hd hcd)) hb, fun σ ρ S A H Q r q => tin_mono (inD_sem sk r q) rfl⟩
theorem simF_notInD (i : Nat) {j : Nat} (hr : Room j X.A) (hk : SimF X E ix f1) (hN : X.N[i]? = some x := by rfl) (hv : Vis X.env.scope x := by first | exact Or.inl rfl | exact Or.inr (Or.inl rfl) | exact Or.inr (Or.inr rfl)) (hd : (x == ("__debug__" : Str)) = false := by decide)
    (hcd : (x == ("__classdict__" : Str)) = false := by decide) (hb : behindInMarks .NotIn (.Name x p) = false := by rfl) : SimF X E (.Compare ix [.NotIn] [.Name x p] pos) (mInD true i f1) := by
  obtain ⟨tk, pk, sk⟩ := hk.ex
  have hu : X.A.units + 1 < cLine := Nat.lt_of_le_of_lt (by omega) hr.units
  exact ⟨_, pe_cmp (pc_dnotin hu pk (pe_var hN hv hd hcd)) hb, fun σ ρ S A H Q r q => tnin_mono (inD_sem sk r q) rfl⟩
theorem simT_inD (i : Nat) {j : Nat} (hr : Room j X.A) (hk : SimF X E ix f1) (hN : X.N[i]? = some x := by rfl) (hv : Vis X.env.scope x := by first | exact Or.inl rfl | exact Or.inr (Or.inl rfl) | exact Or.inr (Or.inr rfl)) (hd : (x == ("__debug__" : Str)) = false := by decide)
    (hcd : (x == ("__classdict__" : Str)) = false := by decide) (hb : behindInMarks .In (.Name x p) = false := by rfl) : SimT X E (.Compare ix [.In] [.Name x p] pos) (mB (mInD false i f1)) := by
  obtain ⟨tk, pk, sk⟩ := hk.ex
  have hu : X.A.units + 1 < cLine := Nat.lt_of_le_of_lt (by omega) hr.units
  exact ⟨_, pt_cmp (pc_din hu pk (pe_var hN hv hd hcd)) hb, fun σ ρ S A H Q r q => run_bool (fun σ ρ S A H Q r q => tin_mono (inD_sem sk r q) rfl) r q⟩
theorem simT_notInD (i : Nat) {j : Nat} (hr : Room j X.A) (hk : SimF X E ix f1) (hN : X.N[i]? = some x := by rfl) (hv : Vis X.env.scope x := by first | exact Or.inl rfl | exact Or.inr (Or.inl rfl) | exact Or.inr (Or.inr rfl)) (hd : (x == ("__debug__" : Str)) = false := by decide)
    (hcd : (x == ("__classdict__" : Str)) = false := by decide) (hb : behindInMarks .NotIn (.Name x p) = false := by rfl) : SimT X E (.Compare ix [.NotIn] [.Name x p] pos) (mB (mInD true i f1)) := by
  obtain ⟨tk, pk, sk⟩ := hk.ex
  have hu : X.A.units + 1 < cLine := Nat.lt_of_le_of_lt (by omega) hr.units
  exact ⟨_, pt_cmp (pc_dnotin hu pk (pe_var hN hv hd hcd)) hb, fun σ ρ S A H Q r q => run_bool (fun σ ρ S A H Q r q => tnin_mono (inD_sem sk r q) rfl) r q⟩
end
/-- list(d) -/
def mListD (i : Nat) : Sl → R MD := fun ρ => match ρ[i]? with
  | some (some m) => lft ((asDict m).map fun kvs => .ml (kvs.map fun kv => .fz (keyP kv.1))) ρ
  | _ => .bad
theorem keys_fz : ∀ {xs : List (Key × V)} {ds : List (Key × PyData)}, Paired (KD K S) xs ds → RepMs K G S H (xs.map fun kv => kV kv.1) (ds.map fun kv => MD.fz (keyP kv.1)) []
  | _, _, .nil => .nil
  | _, _, .cons (a := x) (b := y) h t => by
    have e := h.1
    rw [List.map_cons, List.map_cons, e]
    exact .cons (A := []) (B := []) (.fz (keyP_fz y.1)) (keys_fz t)
theorem simM_listD (i : Nat) {pl : Pos} (hc : X.calm = true) (hm : X.mg "list" = none) (hN : X.N[i]? = some x := by rfl) (hv : Vis X.env.scope x := by first | exact Or.inl rfl | exact Or.inr (Or.inl rfl) | exact Or.inr (Or.inr rfl)) (hd : (x == ("__debug__" : Str)) = false := by decide)
    (hcd : (x == ("__classdict__" : Str)) = false := by decide) (hg : Gl X "list" := by rfl) (he1 : starEach [.Name x p] X.env = (false, eval (.Name x p) X.env) :: starEach [] X.env := by rfl) (hpl : (backTo pos (starEach [] X.env)).any (·.1) = false := by rfl) :
    SimM X E (.Call (.Name "list" pl) [.Name x p] [] pos) (mListD i) := by
  refine ⟨_, pe_callTy (call_listD hc) hg hm (by decide +kernel) (pa_cons (pe_var hN hv hd hcd) pa_nil he1) (by decide) (by decide) he1 hpl, fun σ ρ S A H Q r q => ?_⟩
  unfold mListD at q
  split at q
  · rename_i m em
    unfold lft at q
    split at q
    · rename_i r' er
      obtain ⟨kvs, e1, e2⟩ := Option.map_eq_some_iff.mp er
      subst e2
      obtain ⟨a, xs, h1, h2, hp⟩ := rd_dict r em e1
      refine ⟨.ref a, h1, a, xs, rfl, h2, fun z hz => ?_⟩
      have n : New S H S [z] (upd H z (.lst (xs.map fun kv => kV kv.1))) := New.one r.sub hz
      exact q S _ _ n.grow _ (n.rel r (.ml upd_same (keys_fz hp)))
    · exact q.elim
  · exact q.elim
end DR
end
section
/-! DR14: a walk over a dict. -/
namespace DR
open PySem L2
variable {K : PySem.W.Frag} {G : Str → Option Value} {S S' S1 H H' H1 : Hp} {A A' A1 B C : List Addr} {E : XK} {σ σ0 σ1 : St} {ρ : Sl} {X : Cx} {e a b c elt tg iter : Expr} {es ifs : List Expr} {pos : Pos} {f1 f2 f3 : Sl → R PyData} {W W1 W2 : List Nat} {F : Sl → RS} {D : Ends}

def RdUp (S S' : Hp) : Prop := (∀ b u, (∀ o x, u ≠ HO.frz o x) → Rd S b u → Rd S' b u) ∧ ∀ b u, (∀ o x, u ≠ HO.frz o x) → S b = some u → S' b = some u
theorem RdUp.t (e : RdUp S S') {a : Addr} {xs : List V} (h : SqT K S a xs) : SqT K S' a xs := h.imp (fun h => e.1 _ _ (fun _ _ z => nomatch z) h) id
theorem RdUp.l (e : RdUp S S') {a : Addr} {xs : List V} (h : SqL K S a xs) : SqL K S' a xs := h.imp (fun h => e.1 _ _ (fun _ _ z => nomatch z) h) id
theorem RdUp.ls (e : RdUp S S') {a : Addr} {xs : List V} (h : S a = some (.lst xs)) : S' a = some (.lst xs) := e.2 _ _ (fun _ _ z => nomatch z) h
theorem RdUp.ins (e : RdUp S S') {a C dx : Addr} {fs : List (Str × V)} (h : S a = some (.ins C dx fs)) : S' a = some (.ins C dx fs) := e.2 _ _ (fun _ _ z => nomatch z) h
theorem exd_frz {e : Addr} {fs : List (Str × V)} {o : Obj} {u : HO} : exd e fs ≠ .frz o u := fun z => by
  have z' : HO.ext _ = HO.frz o u := z
  cases z'
theorem RdUp.xo (e : RdUp S S') {a b C : Addr} {d : Option Addr} (h : S a = some (exo b C d)) : S' a = some (exo b C d) := e.2 _ _ (fun _ _ => exo_frz) h
theorem RdUp.xd (e : RdUp S S') {a b : Addr} {fs : List (Str × V)} (h : S a = some (exd b fs)) : S' a = some (exd b fs) := e.2 _ _ (fun _ _ => exd_frz) h
theorem RdUp.dk (e : RdUp S S') {a : Addr} {xs : List (Key × V)} (h : Rd S a (.dK xs)) : Rd S' a (.dK xs) := e.1 _ _ (fun _ _ z => nomatch z) h
mutual
theorem fz_up (e : RdUp S S') : ∀ {v : V} {d : PyData}, Fz K S v d → Fz K S' v d
  | _, _, .non => .non
  | _, _, .bl b => .bl b
  | _, _, .int i => .int i
  | _, _, .str x => .str x
  | _, _, .lst h hs => .lst (e.ls h) (fzA_up e hs)
  | _, _, .tup h hs => .tup (e.t h) (fzA_up e hs)
theorem fzA_up (e : RdUp S S') : ∀ {vs : List V} {ds : List PyData}, FzA K S vs ds → FzA K S' vs ds
  | _, _, .nil => .nil
  | _, _, .cons h hs => .cons (fz_up e h) (fzA_up e hs)
end
theorem kd_up (e : RdUp S S') {κ : Type} : ∀ {kvs : List (κ × V)} {ds : List (κ × PyData)}, Paired (KD K S) kvs ds → Paired (KD K S') kvs ds
  | _, _, .nil => .nil
  | _, _, .cons h t => .cons ⟨h.1, fz_up e h.2⟩ (kd_up e t)
mutual
theorem RepM.up (e : RdUp S S') : ∀ {v : V} {m : MD} {A : List Addr}, RepM K G S H v m A → (∀ a ∈ A, ∀ o, H a = some o → H' a = some o) → RepM K G S' H' v m A
  | _, _, _, .fz h, _ => .fz (fz_up e h)
  | _, _, _, .ml h hs, k => .ml (k _ (List.mem_cons_self ..) _ h) (RepMs.up e hs fun a ha => k a (List.mem_cons_of_mem _ ha))
  | _, _, _, .mt h hs, k => .mt (k _ (List.mem_cons_self ..) _ h) (RepMs.up e hs fun a ha => k a (List.mem_cons_of_mem _ ha))
  | _, _, _, .md h hs, k => .md (k _ (List.mem_cons_self ..) _ h) (kd_up e hs)
  | _, _, _, .mk h hs, k => .mk (k _ (List.mem_cons_self ..) _ h) (kd_up e hs)
  | _, _, _, .fo h g n w hs, _ => .fo (e.ins h) g n w (fzA_up e hs)
  | _, _, _, .fx h1 h2 g n hs, _ => .fx (e.xo h1) (e.xd h2) g n (fzA_up e hs)
  | _, _, _, .mo h g n w hs, k => .mo (k _ (List.mem_cons_self ..) _ h) g n w (RepMs.up e hs fun a ha => k a (List.mem_cons_of_mem _ ha))
  | _, _, _, .sc h, _ => .sc (e.l h)
  | _, _, _, .fd h hs, _ => .fd (e.dk h) (kd_up e hs)
  | _, _, _, .gone, _ => .gone
theorem RepMs.up (e : RdUp S S') : ∀ {vs : List V} {ms : List MD} {A : List Addr}, RepMs K G S H vs ms A → (∀ a ∈ A, ∀ o, H a = some o → H' a = some o) → RepMs K G S' H' vs ms A
  | _, _, _, .nil, _ => .nil
  | _, _, _, .cons h hs, k => .cons (RepM.up e h fun a ha => k a (List.mem_append_left _ ha)) (RepMs.up e hs fun a ha => k a (List.mem_append_right _ ha))
end
theorem RepO.up (e : RdUp S S') : ∀ {σ : St} {ρ : Sl} {A : List Addr}, RepO K G S H σ ρ A → (∀ a ∈ A, ∀ o, H a = some o → H' a = some o) → RepO K G S' H' σ ρ A
  | _, _, _, .nil, _ => .nil
  | _, _, _, .skip h, k => .skip (h.up e k)
  | _, _, _, .keep h hs, k => .keep (h.up e fun a ha => k a (List.mem_append_left _ ha)) (hs.up e fun a ha => k a (List.mem_append_right _ ha))
/-- the dict at d is unlocked: it stays in the frozen heap, to be read -/
theorem Rel.unlock {d : Addr} {od : Obj} {u : HO} (r : Rel K G S ρ A σ H) (hs : S d = some (.frz od u)) : Rel K G (upd S d u) ρ A σ (upd H d u) := by
  have up : RdUp S (upd S d u) := ⟨fun b w nf h => by
    by_cases q : b = d
    · subst q
      rcases h with h | ⟨o, h⟩
      · rw [hs] at h
        cases h
        exact (nf _ _ rfl).elim
      · rw [hs] at h
        cases h
        exact .inl upd_same
    · rcases h with h | ⟨o, h⟩
      · exact .inl (by rw [upd_ne q]; exact h)
      · exact .inr ⟨o, by rw [upd_ne q]; exact h⟩, fun b u nf h => by
    rw [upd_ne fun q => by rw [q, hs] at h; cases h; exact nf _ _ rfl]
    exact h⟩
  obtain ⟨A0, ro, nd, sb⟩ := r.rep
  have nA : ∀ b ∈ A, b ≠ d := fun b hb q => by
    subst q
    rw [(r.off b hb).1] at hs
    cases hs
  exact ⟨sub_upd2 r.sub, ⟨A0, ro.up up fun b hb o h => by rw [upd_ne (nA b (sb b hb))]; exact h, nd, sb⟩, fun b hb => ⟨by rw [upd_ne (nA b hb)]; exact (r.off b hb).1, by rw [upd_ne (nA b hb)]; exact (r.off b hb).2⟩⟩
theorem for_core {J : It} {ds : List PyData} {g : PyData → Sl → Option Sl} {tgt : TG} {tb : TS} (L : List Nat)
    (sg : ∀ v d σ ρ ρ' S A H Q, Rel K G S ρ A σ H → Fz K S v d → g d ρ = some ρ' → (∀ σ', Rel K G S ρ' A σ' H → Keep W1 σ σ' → Q σ' H) → tgt v σ H Q)
    (sb : ∀ σ ρ S A H D, Rel K G S ρ A σ H → RunS K G E W2 σ S A H (F ρ) D → tb D σ H)
    (hJ : Walks K J S ds) (r1 : Rel K G S ρ A σ H) (q1 : RunS K G E (W1 ++ W2) σ S A H (runFor g L F ds ρ) D) :
    ∃ W : Nat → Nat → St → Hp → Prop, (∃ m, W 0 m σ H) ∧ ∀ i m σ H, W i m σ H →
      (J.stop i H ∧ D.nx σ H) ∨ (J.go i H ∧ ∃ N : St → Hp → Prop, (∀ σ' H', N σ' H' → ∃ m', m' < m ∧ W (i + 1) m' σ' H') ∧ ∀ x H', J.yld i H x H' → tgt x σ H' fun σ2 H2 => tb { D with nx := N, ct := N, bk := D.nx } σ2 H2) := by
  refine ⟨fun i m σ' H' => m = ds.length - i ∧ i ≤ ds.length ∧ ∃ ρ' S' A', Sub S S' ∧ Rel K G S' ρ' A' σ' H' ∧ Keep (W1 ++ W2) σ σ' ∧ RunS K G E (W1 ++ W2) σ S' A' H' (runFor g L F (ds.drop i) ρ') D,
    ⟨ds.length, rfl, Nat.zero_le _, ρ, S, A, Sub.refl _, r1, Keep.refl, q1⟩, ?_⟩
  rintro i m σ' H' ⟨rfl, hi, ρ', S', A', s1, r', kp, q'⟩
  by_cases hl : i < ds.length
  · have e0 : ds[i]? = some ds[i] := List.getElem?_eq_getElem hl
    rw [List.drop_eq_getElem_cons hl] at q'
    refine .inr ⟨hJ.go i H' (s1.trans r'.sub) hl, fun σ2 H2 => ∃ ρ2 S2 A2, Sub S S2 ∧ Rel K G S2 ρ2 A2 σ2 H2 ∧ Keep (W1 ++ W2) σ σ2 ∧ RunS K G E (W1 ++ W2) σ S2 A2 H2 (runFor g L F (ds.drop (i + 1)) ρ2) D, fun σ2 H2 h => ⟨ds.length - (i + 1), by omega, rfl, hl, h⟩, fun x H2 y => ?_⟩
    obtain ⟨S2, n, hx⟩ := hJ.yld i S' H' ds[i] x H2 s1 r'.sub e0 y
    have r2 := n.rel0 r'
    have q2 : RunS K G E (W1 ++ W2) σ S2 A' H2 (runFor g L F (ds[i] :: ds.drop (i + 1)) ρ') D := RunS.start (n.grow (A := A')) q'
    unfold runFor at q2
    cases z : g ds[i] ρ' with
    | none => simp only [z] at q2; exact q2.elim
    | some ρ2 =>
      simp only [z] at q2
      refine sg x _ σ' ρ' ρ2 S2 A' H2 _ r2 hx z fun σ3 r3 k3 => ?_
      have k03 : Keep (W1 ++ W2) σ σ3 := kp.trans (k3.sub fun i h => List.mem_append_left _ h)
      refine sb σ3 ρ2 S2 A' H2 _ r3 ?_
      have q3 := RunS.bind (fun σ2 H2 => ∃ ρ2 S2 A2, Sub S S2 ∧ Rel K G S2 ρ2 A2 σ2 H2 ∧ Keep (W1 ++ W2) σ σ2 ∧ RunS K G E (W1 ++ W2) σ S2 A2 H2 (runFor g L F (ds.drop (i + 1)) ρ2) D) (q2.shift k03 fun _ h => h)
        fun ρ4 σ4 S4 A4 H4 e4 g4 r4 k4 q4 => ⟨forget L ρ4, S4, A4, (s1.trans n.ss).trans g4.ss, r4.forget L, k03.trans k4, ?_⟩
      · exact (q3.shift (W1 := W2) Keep.refl fun i h => List.mem_append_right _ h).ends (fun _ _ h => h) fun _ _ h => h
      · have q5 := RunS.start g4 q2
        rw [e4] at q5
        exact q5
  · have ei : i = ds.length := by omega
    subst ei
    rw [List.drop_length] at q'
    exact .inl ⟨hJ.stop _ H' (s1.trans r'.sub) rfl, q' σ' S' A' H' Grow.refl r' kp⟩
/-- for k in d: while it is walked, nobody writes to d; behind it d stays as it is -/
def sForD (i : Nat) (g : PyData → Sl → Option Sl) (L : List Nat) (f : Sl → RS) : Sl → RS := fun ρ => match ρ[i]? with
  | some (some (.md kvs)) => runFor g L f (kvs.map fun kv => keyP kv.1) (ρ.set i (some (.fd kvs)))
  | _ => .bad
theorem walks_k {d : Addr} {od : Obj} {xs : List (Key × V)} {kvs : List (Key × PyData)} (h : S d = some (.frz od (.dK xs))) (hp : Paired (KD K S) xs kvs) : Walks K (Itk d od xs) S (kvs.map fun kv => keyP kv.1) where
  go := fun i H s hi => ⟨s _ _ h, by rw [kd_len hp]; simpa using hi⟩
  yld := fun i S' H z x H' s s' e y => by
    obtain ⟨rfl, k, v, e1, rfl⟩ := y
    refine ⟨S', New.refl s', ?_⟩
    have : z = keyP k := by
      clear h
      induction hp generalizing i with
      | nil => simp at e1
      | cons hh _ ih =>
        cases i with
        | zero =>
          simp at e1 e
          rw [← e, ← hh.1, e1]
        | succ i => exact ih i (by simpa using e) (by simpa using e1)
    rw [this]
    exact keyP_fz k
  stop := fun i H s hi => ⟨s _ _ h, by rw [kd_len hp]; rw [List.length_map] at hi; exact Nat.le_of_eq hi.symm⟩
theorem simS_forD (i : Nat) {x : Str} {p : Pos} {body : List Stmt} {g : PyData → Sl → Option Sl} (L : List Nat) (hpo : PassesOwn (model X.prog X.w) X.A X.env X.xe) (hc : X.calm = true) (hg : SimG X W1 tg g) (hb : SimB X E W2 body F)
    (hN : X.N[i]? = some x := by rfl) (hv : Vis X.env.scope x := by first | exact Or.inl rfl | exact Or.inr (Or.inl rfl) | exact Or.inr (Or.inr rfl)) (hd : (x == ("__debug__" : Str)) = false := by decide)
    (hcd : (x == ("__classdict__" : Str)) = false := by decide) (hs : ∀ v, foldedSetIterable (.Name x p) X.env v = pure v := by intro _; rfl) : SimS X E (W1 ++ W2) (.For tg (.Name x p) body [] pos) (sForD i g L F) := by
  obtain ⟨tgt, pg, sg⟩ := hg.ex
  obtain ⟨tb, pb, sb⟩ := hb.ex
  refine ⟨_, ps_lock (ps_for hpo hc (pi_keys (pe_var hN hv hd hcd)) pg pb hs), fun σ ρ S A H D r q => ?_⟩
  unfold sForD at q
  split at q
  · rename_i kvs em
    obtain ⟨A0, ro, nd, sbA⟩ := r.rep
    obtain ⟨v, B, C, h1, h2, h3, pm⟩ := take1 ro em
    cases h2 with
    | @md d xs _ hd' hp =>
      have ndBC := pm.nodup_iff.mp nd
      have naC : d ∉ C := (List.nodup_cons.mp ndBC).1
      have haA : d ∈ A := sbA d (pm.mem_iff.mpr (List.mem_cons_self ..))
      have inA : ∀ b ∈ C, b ∈ A := fun b hb => sbA b (pm.mem_iff.mpr (List.mem_cons_of_mem _ hb))
      have nSd := (r.off d haA).1
      have neC : ∀ b ∈ C, b ≠ d := fun b hb q => naC (by rw [← q]; exact hb)
      refine ⟨d, .dK xs, hd', True.intro, fun od => ?_⟩
      have s1 : Sub S (upd S d (.frz od (.dK xs))) := sub_upd (Sub.refl S) nSd
      have g1 : Grow S A H (upd S d (.frz od (.dK xs))) C (upd H d (.frz od (.dK xs))) := ⟨s1, fun b h => by
        by_cases q : b = d
        · exact .inr (.inr (by rw [q]; exact haA))
        · rw [upd_ne q] at h; exact .inl h, fun b o h n => by rw [upd_ne (fun q => n (by rw [q]; exact haA))]; exact h, fun b h => .inl (inA b h), fun b h => by
        by_cases q : b = d
        · rw [q, upd_same] at h; cases h
        · rw [upd_ne q] at h; exact h⟩
      have hC := h3.mono s1 (H' := upd H d (.frz od (.dK xs))) fun b hb o ho => by rw [upd_ne (neC b hb)]; exact ho
      have hi : i < ρ.length := (List.getElem?_eq_some_iff.mp em).1
      obtain ⟨A2, ro2, pm2⟩ := put1 (m := .fd kvs) (B := []) hC (List.getElem?_set_self hi) h1 (.fd (.inr ⟨od, upd_same⟩) (kd_mono s1 hp))
      rw [List.set_set, List.nil_append] at *
      have r1 : Rel X.K X.mg (upd S d (.frz od (.dK xs))) (ρ.set i (some (.fd kvs))) C σ (upd H d (.frz od (.dK xs))) := ⟨sub_upd2 r.sub, ⟨A2, ro2, pm2.nodup_iff.mpr (List.nodup_cons.mp ndBC).2, fun b hb => pm2.mem_iff.mp hb⟩, fun b hb => ⟨by rw [upd_ne (neC b hb)]; exact (r.off b (inA b hb)).1, by rw [upd_ne (neC b hb)]; exact (r.off b (inA b hb)).2⟩⟩
      refine ⟨.ref d, h1, d, od, rfl, .inl ⟨xs, upd_same, ?_⟩⟩
      refine for_core (E := E) L sg sb (walks_k upd_same (kd_mono s1 hp)) r1 ?_
      have fin : ∀ {S' : Hp} {A' : List Addr} {H' : Hp}, Grow (upd S d (.frz od (.dK xs))) C (upd H d (.frz od (.dK xs))) S' A' H' → Sub S' H' → (∀ b ∈ A', S' b = none) →
          S' d = some (.frz od (.dK xs)) ∧ H' d = some (.frz od (.dK xs)) ∧ Grow S A H (upd S' d (.dK xs)) A' (upd H' d (.dK xs)) := fun {S' A' H'} gg sh of => by
        have e1 : S' d = some (.frz od (.dK xs)) := gg.ss d _ upd_same
        have gt := g1.trans gg
        refine ⟨e1, sh d _ e1, ⟨fun b o h => ?_, fun b h => ?_, fun b o h n => ?_, gt.an, fun b h => ?_⟩⟩
        · rw [upd_ne (fun q => by rw [q, nSd] at h; cases h)]; exact gt.ss b o h
        · by_cases q : b = d
          · exact .inr (.inr (by rw [q]; exact haA))
          · rw [upd_ne q] at h; exact gt.sn b h
        · rw [upd_ne (fun q => n (by rw [q]; exact haA))]; exact gt.fr b o h n
        · by_cases q : b = d
          · rw [q, upd_same] at h; cases h
          · rw [upd_ne q] at h; exact gt.dm b h
      generalize runFor g L F (kvs.map fun kv => keyP kv.1) (ρ.set i (some (.fd kvs))) = rr at q
      cases rr with
      | bad => exact q.elim
      | nx ρ' =>
        intro σ' S' A' H' gg r' k
        obtain ⟨e1, e2, g2⟩ := fin gg r'.sub fun b hb => (r'.off b hb).1
        exact ⟨e2, q σ' _ A' _ g2 (r'.unlock e1) k⟩
      | rt m ρ' =>
        intro v σ' S' A' H' gg r' k
        obtain ⟨e1, e2, g2⟩ := fin gg r'.sub fun b hb => (r'.off b hb).1
        exact ⟨e2, q v σ' _ A' _ g2 (r'.unlock e1) k⟩
      | exc y ρ' =>
        intro σ' S' A' H' cls dd gg r' k ex
        exact q σ' S' A' H' cls dd (g1.trans gg) r' k ex
  · exact q.elim
@[simp] theorem sForD_e (i : Nat) (g : PyData → Sl → Option Sl) (L : List Nat) (f : Sl → RS) (ρ : Sl) : sForD i g L f ρ = match ρ[i]? with
  | some (some (.md kvs)) => runFor g L f (kvs.map fun kv => keyP kv.1) (ρ.set i (some (.fd kvs)))
  | _ => .bad := keep rfl
end DR
end
section
/-! DR15: sorted lists of tuples. -/
namespace DR
open PySem L2
variable {K : PySem.W.Frag} {G : Str → Option Value} {S S' S1 H H' H1 : Hp} {A A' A1 B C : List Addr} {E : XK} {σ σ0 σ1 : St} {ρ : Sl} {X : Cx} {e a b c elt tg iter : Expr} {es ifs : List Expr} {pos : Pos} {f1 f2 f3 : Sl → R PyData}
open PySem.W PySem.Calls in
def rSortD (K : PySem.W.Frag) : List V → Hp → VK → Prop := fun vs H Q => ∃ (a : Addr) (bs : List (V × PyData)), vs = [.ref a] ∧ SqL K H a (bs.map (·.1)) ∧ DpAll K H (bs.map (·.1)) (bs.map (·.2)) ∧ AllAlike (bs.map (·.2)) ∧ Sortable (bs.map (·.2)) ∧ (∀ b ∈ bs, b.2.depth ≤ 50) ∧
  ∀ p, H p = none → Q (.ref p) (upd H p (.lst ((bs.mergeSort (dataLe false (·.2))).map (·.1))))
open PySem.W PySem.Calls PyProof.Rows in
set_option autoImplicit false in
theorem reads_each {X : L2.Cx} {σ : L2.St} {H : L2.Hp} {pins : List (Addr × Obj)} {s : Shared} (I : L2.Inv X pins σ H s) : ∀ {bs : List (V × PyData)} {us : List Value}, DpAll X.K H (bs.map (·.1)) (bs.map (·.2)) → Vals (bs.map (·.1)) us →
    EachIs (fun u b => RelV b.1 u) us bs ∧ EachIs (fun u b => ∃ as, Reads s.heap u b.2 as) us bs
  | [], _, _, .nil => ⟨.nil, .nil⟩
  | b :: bs, u :: us, .cons h hs, .cons r rs => by
    obtain ⟨e1, e2⟩ := reads_each I hs rs
    exact ⟨.cons r e1, .cons (Dp.reads I _ _ _ h r) e2⟩
open PySem.W PySem.Calls PyProof.Rows in
theorem vals_each : ∀ {bs : List (V × PyData)} {us : List Value}, EachIs (fun u b => RelV b.1 u) us bs → Vals (bs.map (·.1)) us
  | _, _, .nil => .nil
  | _, _, .cons h t => .cons h (vals_each t)
open PySem.W PySem.Calls PyProof.Rows PySem.Spec in
theorem cr_sortD {X : L2.Cx} (hu : X.A.units + 64 < cLine) : CallR X (.builtin "sorted") (rSortD X.K) := by
  intro pins s σ H vs us Q I r h
  obtain ⟨a, bs, rfl, hs, hd, hal, hk, hdp, q⟩ := h
  obtain ⟨its, rv, hl, hz⟩ := I.list hs
  rw [Vals.ref1 r]
  obtain ⟨e1, e2⟩ := reads_each I hd rv
  have hz' : bs.length ≤ sizeLine := by simpa using hz
  refine sorted_data (enc := fun b : V × PyData => b.2) hl.isList e1 e2 hal hk hz' (fun b hb => by have := hdp b hb; omega) fun out hlen ho => ?_
  obtain ⟨ep, he'⟩ := PyProof.Rows.sortedAll_at s.heap its out.toArray
  have rz := vals_each ho
  refine ⟨.ref _, upd H (s.heap.objs.size + 1) (.lst ((bs.mergeSort (dataLe false (·.2))).map (·.1))), I.laid (t' := s.toks) (fun _ _ => PyProof.Rows.sortedAll_old) (Nat.le_succ _) ⟨by simpa using hz', out, ep, rz, he'⟩, rfl, q _ (I.hok.fresh (Nat.le_succ _))⟩
def alikeB (ds : List PyData) : Bool := ds.all fun d => ds.all fun e => PySem.W.alike d e
def tupB : PyData → Bool
  | .tuple (_ :: _) => true
  | _ => false
def sortD (ds : List PyData) : List PyData := ds.mergeSort (PySem.W.dataLe false fun d => d)
def gSortD : List PyData → Option MD
  | [.list ds] => if (alikeB ds && ds.all tupB && ds.all fun d => decide (d.depth ≤ 50)) = true then some (.ml ((sortD ds).map .fz)) else none
  | _ => none
theorem zip_fst : ∀ {xs : List V} {ds : List PyData}, FzA K S xs ds → (xs.zip ds).map (·.1) = xs ∧ (xs.zip ds).map (·.2) = ds ∧ ∀ b ∈ xs.zip ds, Fz K S b.1 b.2
  | _, _, .nil => ⟨rfl, rfl, fun _ h => by cases h⟩
  | _, _, .cons h hs => by
    obtain ⟨a, b, c⟩ := zip_fst hs
    refine ⟨by simp [a], by simp [b], fun z hz => ?_⟩
    rw [List.zip_cons_cons] at hz
    rcases List.mem_cons.mp hz with rfl | hz
    · exact h
    · exact c z hz
theorem fzA_pairs : ∀ {bs : List (V × PyData)}, (∀ b ∈ bs, Fz K S b.1 b.2) → FzA K S (bs.map (·.1)) (bs.map (·.2))
  | [], _ => .nil
  | b :: bs, h => .cons (h b (List.mem_cons_self ..)) (fzA_pairs fun z hz => h z (List.mem_cons_of_mem _ hz))
theorem callM_sortD : CallM K G (rSortD K) gSortD := fun S H Q xs as d s h e q => by
  unfold gSortD at e
  split at e
  · rename_i ds
    obtain ⟨v, rfl, hv⟩ := fzA1 h
    obtain ⟨hz, e2⟩ := ite_some e
    subst e2
    simp only [Bool.and_eq_true] at hz
    obtain ⟨⟨z1, z2⟩, z3⟩ := hz
    cases hv with
    | @lst a xs _ h1 hs1 =>
      obtain ⟨b1, b2, b3⟩ := zip_fst hs1
      refine ⟨a, xs.zip ds, rfl, by rw [b1]; exact .inl (s.rd (.inl h1)), by rw [b1, b2]; exact FzA.dp (dpA_mono s hs1), ?_, ?_, ?_, ?_⟩
      · rw [b2]
        intro d hd d' hd'
        exact List.all_eq_true.mp (List.all_eq_true.mp z1 d hd) d' hd'
      · rw [b2]
        refine .inl fun d hd => ?_
        have := List.all_eq_true.mp z2 d hd
        unfold tupB at this
        split at this
        · exact ⟨_, _, rfl⟩
        · cases this
      · intro b hb
        have hm : b.2 ∈ ds := by
          rw [← b2]
          exact List.mem_map.mpr ⟨b, hb, rfl⟩
        exact of_decide_eq_true (List.all_eq_true.mp z3 _ hm)
      · have hp : FzA K S (((xs.zip ds).mergeSort (PySem.W.dataLe false (·.2))).map (·.1)) (((xs.zip ds).mergeSort (PySem.W.dataLe false (·.2))).map (·.2)) := fzA_pairs fun b hb => b3 b (List.mem_mergeSort.mp hb)
        have es : ((xs.zip ds).mergeSort (PySem.W.dataLe false (·.2))).map (·.2) = sortD ds := by
          have z := List.map_mergeSort (r := PySem.W.dataLe false fun b : V × PyData => b.2) (s := PySem.W.dataLe false fun d : PyData => d) (f := fun b : V × PyData => b.2) (l := xs.zip ds) fun _ _ _ _ => rfl
          rw [b2] at z
          exact z
        rw [es] at hp
        exact new_lst s hp q
  · cases e
theorem simM_sortD {j : Nat} {p : Pos} (hr : Room j X.A) (hm : X.mg "sorted" = none) (h : SimF X E e f1) (hg : Gl X "sorted" := by rfl) (he : starEach [e] X.env = (false, eval e X.env) :: starEach [] X.env := by rfl) (hpl : (backTo pos (starEach [] X.env)).any (·.1) = false := by rfl) :
    SimM X E (.Call (.Name "sorted" p) [e] [] pos) (mCall gSortD (mCons f1 mNil)) := simM_B (cr_sortD (Nat.lt_of_le_of_lt (by omega) hr.units)) callM_sortD hm (by decide +kernel) (simA_cons h simA_nil he) hg (by decide) (by decide) he hpl
end DR
end
section
/-! DR16: ranges backwards and by steps; lists turned about. -/
namespace DR
open PySem L2
variable {K : PySem.W.Frag} {G : Str → Option Value} {S S' S1 H H' H1 : Hp} {A A' A1 B C : List Addr} {E : XK} {σ σ0 σ1 : St} {ρ : Sl} {X : Cx} {e a b c elt tg iter : Expr} {es ifs : List Expr} {pos : Pos} {f1 f2 f3 : Sl → R PyData} {fs : Sl → R (List PyData)}
def stepD (lo c : Int) (n : Nat) : List PyData := (List.range n).map fun i => .int (lo + (i : Nat) * c)
theorem walks_c {lo c : Int} {n : Nat} : Walks K (Itc lo c n) S (stepD lo c n) where
  go := fun i H s hi => by
    rw [stepD, List.length_map, List.length_range] at hi
    exact hi
  yld := fun i S' H d x H' s s' e y => by
    obtain ⟨rfl, rfl⟩ := y
    rw [stepD, List.getElem?_map] at e
    obtain ⟨j, e1, e2⟩ := Option.map_eq_some_iff.mp e
    obtain ⟨hj, e3⟩ := List.getElem?_eq_some_iff.mp e1
    rw [List.getElem_range] at e3
    subst e2 e3
    exact ⟨S', New.refl s', .int _⟩
  stop := fun i H s hi => by
    rw [stepD, List.length_map, List.length_range] at hi
    exact Nat.le_of_eq hi.symm
/-- reversed(range(n)) -/
def itRev1 (f : Sl → R PyData) : Sl → R (List PyData) := fun ρ => (f ρ).bind fun d ρ => match d with
  | .int j => if bnd j = true then .ok (stepD (0 + (((j - 0).toNat : Nat) : Int) - 1) (-1) (j - 0).toNat) ρ else .bad
  | _ => .bad
theorem simI_rev1 {p p2 : Pos} {pos2 : Pos} (hm : X.mg "range" = none) (hmr : X.mg "reversed" = none) (h : SimF X E e f1) (hg : Gl X "range" := by rfl) (hgr : Gl X "reversed" := by rfl) (hs : starEach [e] X.env = (false, eval e X.env) :: starEach [] X.env := by rfl)
    (hs2 : starEach [.Call (.Name "range" p2) [e] [] pos2] X.env = (false, eval (.Call (.Name "range" p2) [e] [] pos2) X.env) :: starEach [] X.env := by rfl) : SimI X E tg (.Call (.Name "reversed" p) [.Call (.Name "range" p2) [e] [] pos2] [] pos) (itRev1 f1) := by
  obtain ⟨t, pe, s⟩ := h.ex
  refine ⟨_, pi_revR hgr hmr (prg_1 hg hm pe hs) hs2, fun σ ρ S A H R r q => s σ ρ S A H _ r ((Run.bind q).imp fun d ρ1 S1 A1 H1 q1 r1 v hv => ?_)⟩
  cases hv with
  | int j =>
    by_cases hb : bnd j = true
    · simp only [if_pos hb] at q1
      exact ⟨j, rfl, by decide, by decide, (bnd_ok hb).1, (bnd_ok hb).2, q1 S1 A1 H1 Grow.refl r1 _ walks_c⟩
    · simp only [if_neg hb] at q1
      exact q1.elim
  | _ => exact q1.elim
/-- range(a, b, c) -/
def rgOk (i j c : Int) : Bool := decide (c ≠ 0) && decide (c.natAbs < 1073741824) && Builtin.Range.small i j c && decide (0 ≤ Builtin.Range.rangeSize i j c)
def itR3 (f : Sl → R (List PyData)) : Sl → R (List PyData) := fun ρ => (f ρ).bind fun ds ρ => match ds with
  | [.int i, .int j, .int c] => if rgOk i j c = true then .ok (stepD i c (Builtin.Range.rangeSize i j c).toNat) ρ else .bad
  | _ => .bad
theorem simI_r3 {p : Pos} (hm : X.mg "range" = none) (h : SimA X E [a, b, c] fs) (hg : Gl X "range" := by rfl)
    (hs : starEach [a, b, c] X.env = (false, eval a X.env) :: starEach [b, c] X.env := by rfl) (hpl : (backTo pos (starEach [b, c] X.env)).any (·.1) = false := by rfl) : SimI X E tg (.Call (.Name "range" p) [a, b, c] [] pos) (itR3 fs) := by
  obtain ⟨t, pa, s⟩ := h.ex
  refine ⟨_, pi_range3 hg hm pa hs hpl, fun σ ρ S A H R r q => s σ ρ S A H _ r ((Run.bind q).imp fun ds ρ1 S1 A1 H1 q1 r1 vs hvs => ?_)⟩
  split at q1
  · rename_i i j k
    cases hvs with
    | cons x1 t1 =>
      cases t1 with
      | cons x2 t2 =>
        cases t2 with
        | cons x3 t3 =>
          cases t3
          cases x1
          cases x2
          cases x3
          by_cases hb : rgOk i j k = true
          · rw [if_pos hb] at q1
            unfold rgOk at hb
            simp only [Bool.and_eq_true, decide_eq_true_eq] at hb
            obtain ⟨⟨⟨h1, h2⟩, h3⟩, h4⟩ := hb
            exact ⟨i, j, k, _, rfl, ⟨h1, h2, h3, (Int.toNat_of_nonneg h4).symm⟩, q1 S1 A1 H1 Grow.refl r1 _ walks_c⟩
          · rw [if_neg hb] at q1
            exact q1.elim
  · exact q1.elim
/-- xs[::-1], a list -/
def mRevL (f : Sl → R PyData) : Sl → R MD := fun ρ => (f ρ).bind fun d ρ => match d with
  | .list ds => .ok (.ml (ds.reverse.map .fz)) ρ
  | _ => .bad
theorem simM_revL {k : Nat} {p1 p2 p3 : Pos} (h : SimF X E e f1) : SimM X E (.Subscript e (.Slice none none (some (.UnaryOp .USub (.Constant (.int 1) k p1) p2)) p3) pos) (mRevL f1) := by
  obtain ⟨t, pe, s⟩ := h.ex
  refine ⟨_, pe_revL pe, fun σ ρ S A H Q r q => s σ ρ S A H _ r ((Run.bind q).imp fun d ρ1 S1 A1 H1 q1 r1 v hv => ?_)⟩
  cases hv with
  | lst h1 hs1 =>
    refine ⟨_, _, rfl, .inl (r1.sub.rd (.inl h1)), ?_⟩
    exact new_lst r1.sub (dpA_rev hs1) fun v S' B H' n h => q1 S' (B ++ A1) H' n.grow v (n.rel r1 h)
  | _ => exact q1.elim
@[simp] theorem itRev1_e (f : Sl → R PyData) (ρ : Sl) : itRev1 f ρ = (f ρ).bind fun d ρ => match d with
  | .int j => if bnd j = true then .ok (stepD (0 + (((j - 0).toNat : Nat) : Int) - 1) (-1) (j - 0).toNat) ρ else .bad
  | _ => .bad := keep rfl
@[simp] theorem itR3_e (f : Sl → R (List PyData)) (ρ : Sl) : itR3 f ρ = (f ρ).bind fun ds ρ => match ds with
  | [.int i, .int j, .int c] => if rgOk i j c = true then .ok (stepD i c (Builtin.Range.rangeSize i j c).toNat) ρ else .bad
  | _ => .bad := keep rfl
@[simp] theorem mRevL_e (f : Sl → R PyData) (ρ : Sl) : mRevL f ρ = (f ρ).bind fun d ρ => match d with
  | .list ds => .ok (.ml (ds.reverse.map .fz)) ρ
  | _ => .bad := keep rfl
end DR
end
section
/-! DR17: a tuple turned about. -/
namespace DR
open PySem L2
section
open PySem.Spec PyProof.Rows HT
variable {prog : Program} {w : World} {A : Around} {E : Value → Shared → Prop} {s : Shared}
theorem adj_back (n : Nat) : Builtin.Slice.sliceAdjust none none (-1) (n : Int) = ((n : Int) - 1, -1) := by
  unfold Builtin.Slice.sliceAdjust
  simp
theorem plc_back (n : Nat) : Builtin.Slice.slicePlaces ((n : Int) - 1) (-1) (-1) = n := by
  unfold Builtin.Slice.slicePlaces
  simp
  try omega
theorem applied_back {sl : Addr} {t : Tok} {n : Nat} {Q : Int × Int × Nat → Shared → Prop} (hs : s.heap.IsSliceOf sl .none .none (.int (-1) t)) (h : Q ((n : Int) - 1, -1, n) s) : wpAny (model prog w) A (Builtin.Slice.sliceApplied (.ref sl) (pure (n : Int))) Q E s := by
  obtain ⟨o, ho, hc, hd⟩ := id hs
  unfold Builtin.Slice.sliceApplied Builtin.Slice.sliceFields
  refine wpAny_bind (wpAny_bind (wpAny_field ho hd (x := .none) rfl (wpAny_bind (wpAny_field ho hd (x := .none) rfl (wpAny_bind (wpAny_field ho hd (x := .int (-1) t) rfl (wpAny_pure ?_)))))))
  refine wpAny_bind (slicePart_int ?_)
  show wpAny _ _ (if ((-1 : Int) == 0) = true then _ else _) _ _ s
  rw [if_neg (by decide)]
  refine wpAny_bind (slicePart_none (wpAny_bind (slicePart_none (wpAny_bind (wpAny_pure ?_)))))
  show wpAny _ _ (match Builtin.Slice.sliceAdjust none none (-1) (n : Int) with | (lo, hi) => pure (lo, (-1 : Int), Builtin.Slice.slicePlaces lo hi (-1))) _ _ s
  rw [adj_back n]
  show wpAny _ _ (pure ((n : Int) - 1, (-1 : Int), Builtin.Slice.slicePlaces ((n : Int) - 1) (-1) (-1))) _ _ s
  rw [plc_back]
  exact wpAny_pure h
theorem pick_back (xs : Array Value) : ((List.range xs.size).filterMap fun (m : Nat) => xs[(((xs.size : Nat) : Int) - 1 + (m : Int) * (-1)).toNat]?).toArray = xs.toList.reverse.toArray := by
  congr 1
  have e : ∀ k, k ≤ xs.size → ((List.range k).filterMap fun (m : Nat) => xs[(((xs.size : Nat) : Int) - 1 + (m : Int) * (-1)).toNat]?) = (xs.toList.reverse).take k := by
    intro k
    induction k with
    | zero => intro _; simp
    | succ k ih =>
      intro hk
      rw [List.range_succ, List.filterMap_append, ih (by omega)]
      have e1 : (((xs.size : Nat) : Int) - 1 + (k : Int) * (-1)).toNat = xs.size - 1 - k := by omega
      have e2 : xs[xs.size - 1 - k]? = some (xs[xs.size - 1 - k]'(by omega)) := Array.getElem?_eq_getElem (by omega)
      have e3 : xs.toList.reverse[k]? = some (xs[xs.size - 1 - k]'(by omega)) := by
        rw [List.getElem?_reverse (by rw [Array.length_toList]; omega)]
        simp only [Array.length_toList]
        rw [Array.getElem?_toList]
        exact e2
      rw [List.take_add_one, e3]
      simp only [List.filterMap_cons, e1, e2, List.filterMap_nil]
      rfl
  rw [e xs.size (Nat.le_refl _), List.take_of_length_le (by simp)]
theorem getItem_back {t sl : Addr} {items : Array Value} {tk : Tok} {Q : Value → Shared → Prop} (ht : IsTup s.heap t items) (hs : s.heap.IsSliceOf sl .none .none (.int (-1) tk))
    (h : Q (.ref s.heap.objs.size) { s with heap := s.heap.push { cls := .type "tuple", data := .seq items.toList.reverse.toArray } }) (hz : items.size ≤ sizeLine) : wpAny (model prog w) A (getItem (.ref t) (.ref sl)) Q E s := by
  have fits : sizeOk (.seq items.toList.reverse.toArray) := by
    show items.toList.reverse.toArray.size ≤ sizeLine
    simpa using hz
  obtain ⟨o, ho, hc, hd⟩ := id hs
  have hT : s.TypeIs (.ref sl) "slice" := ⟨o, ho, hc⟩
  unfold getItem
  try with_reducible refine wpAny_holding ?_
  first | refine wpAny_bind (wpAny_pure ?_) | skip
  refine wpAny_bind (wpAny_sequenceKey ht.typeIs (by decide) ?_)
  refine wpAny_bind (wpAny_callSpecial?_slot (name := Str.ofString "__getitem__") ht.typeIs slot_tuple_getitem (wpAny_call_entry slot_tuple_getitem ht.typeIs entry_tuple_getitem ?_ (args_tuple_getitem _ _)))
  show wpAny _ _ (Builtin.Tuple.tupleItemsOf (.ref t) >>= _) _ _ s
  refine wpAny_bind (tupleItemsOf_ ht (wpAny_bind (wpAny_typeOf hT ?_)))
  rw [if_pos (by decide)]
  refine wpAny_bind (applied_back hs ?_)
  have no : ¬ (((((items.size : Nat) : Int) - 1) == 0 && (-1 : Int) == 1 && items.size == items.size) = true) := by simp
  show wpAny _ _ (if ((((items.size : Nat) : Int) - 1) == 0 && (-1 : Int) == 1 && items.size == items.size) = true then _ else _) _ _ s
  rw [if_neg no, pick_back]
  first
    | exact wpAny_bind (m := Builtin.Tuple.tupleExact _) (wpAny_newObj_type (wpAny_pure ⟨_, rfl, wpAny_pure h⟩) fits)
    | exact wpAny_bind (m := Builtin.Tuple.tupleExact _) (wpAny_newObj_type (wpAny_bind (wpAny_pure (wpAny_pure ⟨_, rfl, wpAny_pure h⟩))) fits)
    | exact wpAny_bind (wpAny_bind (m := Builtin.Tuple.tupleExact _) (wpAny_newObj_type (wpAny_pure (wpAny_pure ⟨_, rfl, wpAny_pure h⟩)) fits))
    | exact wpAny_bind (wpAny_bind (m := Builtin.Tuple.tupleExact _) (wpAny_newObj_type (wpAny_pure ⟨_, rfl, wpAny_pure h⟩) fits))
end
section
open PySem.Spec PyProof.Rows
variable {K : PySem.W.Frag} {G : Str → Option Value} {S S' S1 H H' H1 : L2.Hp} {E : L2.XK} {ρ : Sl} {X : L2.Cx} {e : Expr} {pos : Pos} {f1 : Sl → R PyData}
def tRevT (K : PySem.W.Frag) (te : L2.TE) : L2.TE := fun σ H Q => te σ H fun x H1 => ∃ a xs, x = .ref a ∧ L2.SqT K H1 a xs ∧ ∀ p, H1 p = none → Q (.ref p) (L2.upd H1 p (.tup xs.reverse))
theorem pe_revT {te : L2.TE} {k : Nat} {p1 p2 p3 : Pos} (he : L2.PE X e te) : L2.PE X (.Subscript e (.Slice none none (some (.UnaryOp .USub (.Constant (.int 1) k p1) p2)) p3) pos) (tRevT X.K te) := by
  refine ⟨fun pins s σ H Q I h => Subscript_ (L2.thn (he.run pins s σ H _ I h) fun v s1 ⟨x, H1, I1, r1, a, xs, ex, hx, q⟩ => ?_)⟩
  subst ex
  cases r1
  have third : L2.PO X (some (.UnaryOp .USub (.Constant (.int 1) k p1) p2)) (L2.tPart (L2.tUn (L2.rU fun i => .int (-i)) (L2.tC (.int 1)))) := L2.po_some (L2.pe_un L2.un_neg L2.pe_int)
  refine wpAny_Slice (L2.thn (L2.po_none.run pins s1 σ H1 (fun o H2 => o = none ∧ H2 = H1) I1 ⟨rfl, rfl⟩) fun vl s2 ⟨l, H2, I2, pl, el, e2⟩ => ?_)
  subst el e2
  refine L2.thn (L2.po_none.run pins s2 σ H2 (fun o H3 => o = none ∧ H3 = H2) I2 ⟨rfl, rfl⟩) fun vu s3 ⟨u, H3, I3, pu, eu, e3⟩ => ?_
  subst eu e3
  refine L2.thn (third.run pins s3 σ H3 (fun o H4 => o = some (-1) ∧ H4 = H3) I3 ⟨1, rfl, -1, rfl, rfl, rfl⟩) fun vs s4 ⟨o, H4, I4, ps, eo, e4⟩ => ?_
  subst eo e4
  cases pl
  cases pu
  cases ps with
  | int i tk =>
    have I5 : L2.Inv X pins σ H4 { s4 with heap := s4.heap.push { cls := .type "slice", data := .fields #[.none, .none, .int (-1) tk] } } := I4.kept (t' := s4.toks) fun b ob q => Heap.get?_push_of_some _ q
    obtain ⟨its, r, ht, hz⟩ := I5.tuple hx
    have hlen := r.length
    show wpAny (model X.prog X.w) X.A (subscriptTail e (.Slice none none (some (.UnaryOp .USub (.Constant (.int 1) k p1) p2)) p3) (.ref a) (.ref s4.heap.objs.size)) (L2.EP X pins σ Q) X.xe _
    refine tail_any (ops := [.ref a, .ref s4.heap.objs.size]) ht.typeIs (PyProof.Rows.slot_tuple_getitem.lookup) ?_ (by with_unfolding_all rfl)
    refine getItem_back ht (Heap.IsSliceOf.new _ .none .none (.int (-1) tk)) ?_ (by rw [List.size_toArray]; omega)
    refine ⟨.ref _, _, I5.laid (t' := s4.toks) (o := .tup xs.reverse) (fun b ob q => Heap.get?_push_of_some _ q) (Nat.le_refl _) ?_, rfl, q _ (I5.hok.fresh (Nat.le_refl _))⟩
    exact ⟨by rw [List.length_reverse]; exact hz, its.reverse, r.reverse, ⟨_, Heap.get?_push_size _ rfl, rfl, 0, by simp⟩⟩
end
/-- xs[::-1], a tuple -/
def mRevT (f : Sl → R PyData) : Sl → R PyData := fun ρ => (f ρ).bind fun d ρ => match d with
  | .tuple ds => .ok (.tuple ds.reverse) ρ
  | _ => .bad
theorem simF_revT {X : Cx} {E : XK} {e : Expr} {pos : Pos} {f1 : Sl → R PyData} {k : Nat} {p1 p2 p3 : Pos} (h : SimF X E e f1) : SimF X E (.Subscript e (.Slice none none (some (.UnaryOp .USub (.Constant (.int 1) k p1) p2)) p3) pos) (mRevT f1) := by
  obtain ⟨t, pe, s⟩ := h.ex
  refine ⟨_, pe_revT pe, fun σ ρ S A H Q r q => s σ ρ S A H _ r ((Run.bind q).imp fun d ρ1 S1 A1 H1 q1 r1 v hv => ?_)⟩
  cases hv with
  | @tup a xs _ h1 hs1 =>
    refine ⟨_, _, rfl, r1.sub.t h1, fun p np => ?_⟩
    have n := New.tup (o := .tup xs.reverse) r1.sub np
    exact q1 _ _ _ n.grow (n.rel0 r1) _ (.tup (.inl (.inl upd_same)) (dpA_mono n.ss (dpA_rev hs1)))
  | _ => exact q1.elim
@[simp] theorem mRevT_e (f : Sl → R PyData) (ρ : Sl) : mRevT f ρ = (f ρ).bind fun d ρ => match d with
  | .tuple ds => .ok (.tuple ds.reverse) ρ
  | _ => .bad := keep rfl
end DR
end
section
/-! DR18: a dict that has just been handed back, read at a key. -/
namespace DR
open PySem L2
variable {K : PySem.W.Frag} {G : Str → Option Value} {S S' S1 H H' H1 : Hp} {A A' A1 B C : List Addr} {E : XK} {σ σ0 σ1 : St} {ρ : Sl} {X : Cx} {e a b c elt tg iter : Expr} {es ifs : List Expr} {pos : Pos} {f1 f2 f3 : Sl → R PyData} {fs : Sl → R (List PyData)}
theorem Rel.freezeD {kvs : List (Key × PyData)} {v : V} (r : Rel K G S (some (.md kvs) :: ρ) A (some v :: σ) H) :
    ∃ S' A' d xs, v = .ref d ∧ Grow S A H S' A' H ∧ Rel K G S' ρ A' σ H ∧ Rd S' d (.dK xs) ∧ Paired (KD K S') xs kvs := by
  obtain ⟨A0, ro, nd, sb⟩ := r.rep
  cases ro with
  | @keep _ _ _ _ B C h hs =>
    cases h with
    | @md d xs _ hd hp =>
      have hB : ∀ b ∈ [d], b ∈ A := fun b hb => sb b (List.mem_append_left _ hb)
      have dis : ∀ b ∈ C, b ∉ [d] := fun b hb hq => (List.nodup_append.mp nd).2.2 b hq b hb rfl
      refine ⟨cold S H [d], C, d, xs, rfl, ⟨sub_cold r.sub, fun b q => ?_, fun b o q _ => q, fun b hb => .inl (sb b (List.mem_append_right _ hb)), fun _ q => q⟩, ⟨cold_sub r.sub, ⟨C, ?_, (List.nodup_append.mp nd).2.1, fun _ q => q⟩, fun b hb => ⟨?_, (hs.trk b hb)⟩⟩, ?_, kd_mono (sub_cold r.sub) hp⟩
      · by_cases hb : b ∈ [d]
        · exact .inr (.inr (hB b hb))
        · rw [cold_out hb] at q
          exact .inl q
      · exact hs.mono (sub_cold r.sub) fun _ _ _ q => q
      · rw [cold_out (dis b hb)]
        exact (r.off b (sb b (List.mem_append_right _ hb))).1
      · exact .inl (by rw [cold_in (List.mem_singleton.mpr rfl)]; exact hd)
def mIxDM (f : Sl → R MD) (g : Sl → R PyData) : Sl → R PyData := fun ρ => (f ρ).bind fun m ρ1 => match m with
  | .md kvs => (g ρ1).bind fun k ρ2 => lft ((keyD k).bind fun k => dGet kvs k) ρ2
  | _ => .bad
theorem simF_ixDM {j : Nat} {f : Sl → R MD} {ix : Expr} (hr : Room j X.A) (h : SimM X E e f) (hk : SimF X E ix f1) (hn : NoSl ix) : SimF X E (.Subscript e ix pos) (mIxDM f f1) := by
  obtain ⟨t, p, s⟩ := h.ex
  obtain ⟨tk, pk, sk⟩ := hk.ex
  have hu : X.A.units + 1 < cLine := Nat.lt_of_le_of_lt (by omega) hr.units
  refine ⟨_, pe_dget hu p pk hn, fun σ ρ S A H Q r q => s σ ρ S A H _ r ((Run.bind q).imp fun m ρ1 S1 A1 H1 q1 v r1 => ?_)⟩
  cases m with
  | md kvs =>
    obtain ⟨S2, A2, d, xs, rfl, g2, r2, hd, hp⟩ := r1.freezeD
    have q2 := Run.start g2 q1
    refine sk σ ρ1 S2 A2 H1 _ r2 ((Run.bind q2).impG fun k ρ3 S3 A3 H3 g3 q3 r3 y hy => ?_)
    unfold lft at q3
    split at q3
    · rename_i z ez
      obtain ⟨key, e3, e4⟩ := Option.bind_eq_some_iff.mp ez
      have ey := keyD_of hy e3
      subst ey
      have hp3 := kd_mono g3.ss hp
      rcases kd_get key hp3 with ⟨v, d', k1, k2, hz⟩ | ⟨k1, k2⟩
      · rw [e4] at k2
        cases k2
        exact ⟨d, v, rfl, .inl ⟨xs, key, r3.sub.rd (g3.ss.rd hd), rfl, k1.symm⟩, q3 S3 A3 H3 Grow.refl r3 v hz⟩
      · rw [e4] at k2; cases k2
    · exact q3.elim
  | _ => exact q1.elim
@[simp] theorem mIxDM_e (f : Sl → R MD) (g : Sl → R PyData) (ρ : Sl) : mIxDM f g ρ = (f ρ).bind fun m ρ1 => match m with
  | .md kvs => (g ρ1).bind fun k ρ2 => lft ((keyD k).bind fun k => dGet kvs k) ρ2
  | _ => .bad := keep rfl
@[simp] theorem mNewD_e (ρ : Sl) : mNewD ρ = .ok (.md []) ρ := keep rfl
@[simp] theorem mNewT_e (ρ : Sl) : mNewT ρ = .ok (.mk []) ρ := keep rfl
@[simp] theorem mDispD_e (i : Int) (b : Bool) (ρ : Sl) : mDispD i b ρ = .ok (.md [(.inl i, .bool b)]) ρ := keep rfl
@[simp] theorem sPutD_e (i : Nat) (fv fk : Sl → R PyData) (ρ : Sl) : sPutD i fv fk ρ = (fv ρ).s fun d ρ1 => match ρ1[i]? with
  | some (some (.md _)) => (fk ρ1).s fun k ρ2 => match ρ2[i]? with
    | some (some (.md kvs)) => match keyD k with
      | some k => if kvs.length < sizeLine then .nx (ρ2.set i (some (.md (dPut kvs k d)))) else .bad
      | none => .bad
    | _ => .bad
  | _ => .bad := keep rfl
@[simp] theorem mIxD_e (i : Nat) (f : Sl → R PyData) (ρ : Sl) : mIxD i f ρ = match ρ[i]? with
  | some (some _) => (f ρ).bind fun k ρ1 => match (ρ1[i]?).join with
    | some m => lft ((asDict m).bind fun kvs => (keyD k).bind fun k => dGet kvs k) ρ1
    | none => .bad
  | _ => .bad := keep rfl
@[simp] theorem mInD_e (neg : Bool) (i : Nat) (f : Sl → R PyData) (ρ : Sl) : mInD neg i f ρ = (f ρ).bind fun k ρ1 => match (ρ1[i]?).join with
  | some m => lft ((asDict m).bind fun kvs => (keyD k).map fun k => .bool ((dGet kvs k).isSome != neg)) ρ1
  | none => .bad := keep rfl
@[simp] theorem mListD_e (i : Nat) (ρ : Sl) : mListD i ρ = match ρ[i]? with
  | some (some m) => lft ((asDict m).map fun kvs => .ml (kvs.map fun kv => .fz (keyP kv.1))) ρ
  | _ => .bad := keep rfl
@[simp] theorem asDict_md (kvs : List (Key × PyData)) : asDict (.md kvs) = some kvs := keep rfl
@[simp] theorem asDict_fd (kvs : List (Key × PyData)) : asDict (.fd kvs) = some kvs := keep rfl
@[simp] theorem keyD_int (i : Int) : keyD (.int i) = some (.inl i) := keep rfl
@[simp] theorem keyP_int (i : Int) : keyP (.inl i) = .int i := keep rfl
end DR
end
section
/-! DR19: owned things edited in place; nested lists; sorted(.., reverse=True); list * int. -/
namespace DR
open PySem L2
variable {K : PySem.W.Frag} {G : Str → Option Value} {S S' S1 H H' H1 : Hp} {A A' A1 B C : List Addr} {E : XK} {σ σ0 σ1 : St} {ρ : Sl} {X : Cx} {e a b c elt tg iter : Expr} {es ifs : List Expr} {pos : Pos} {f1 f2 f3 : Sl → R PyData} {fs : Sl → R (List PyData)} {fm : Sl → R MD}
theorem perm3 {α : Type} {A B C D : List α} (h : A.Perm (B ++ C)) : (D ++ A).Perm (D ++ B ++ C) := by
  rw [List.append_assoc]
  exact List.Perm.append_left D h
/-- the owned thing in slot i is edited; what lies on top may go into it -/
theorem own_edit {i : Nat} {m0 m : MD} {v0 : V} (r : Rel K G S (some m0 :: ρ) A (some v0 :: σ) H) (e : ρ[i]? = some (some m)) :
    ∃ v B0 B, σ[i]? = some (some v) ∧ RepM K G S H v0 m0 B0 ∧ RepM K G S H v m B ∧ (B0 ++ B).Nodup ∧ (∀ b ∈ B0 ++ B, b ∈ A) ∧
      ∀ m' B' H', RepM K G S H' v m' B' → B'.Nodup → (∀ b ∈ B', b ∈ B0 ++ B ∨ H b = none) → (∀ b o, H b = some o → b ∉ B0 ++ B → H' b = some o) → (∀ b, H' b = none → H b = none) →
        Rel K G S (ρ.set i (some m')) (B' ++ A) σ H' ∧ Grow S A H S (B' ++ A) H' := by
  obtain ⟨A0, ro, nd, sb⟩ := r.rep
  cases ro with
  | @keep _ _ _ _ B0 A1 h0 hs0 =>
    obtain ⟨v, B, C, h1, h2, h3, pm⟩ := take1 hs0 e
    have ndp := (perm3 (D := B0) pm).nodup_iff.mp nd
    have nd1 := List.nodup_append.mp ndp
    have inA : ∀ b ∈ B0 ++ B, b ∈ A := fun b hb => sb b ((perm3 (D := B0) pm).mem_iff.mpr (List.mem_append_left _ hb))
    refine ⟨v, B0, B, h1, h0, h2, nd1.1, inA, fun m' B' H' hm' nB' sB' fr dm => ?_⟩
    have disC : ∀ c ∈ C, c ∉ B0 ++ B := fun c hc hb => nd1.2.2 c hb c hc rfl
    have hC := h3.mono (Sub.refl S) (H' := H') fun c hc o ho => fr c o ho (disC c hc)
    have hi : i < ρ.length := (List.getElem?_eq_some_iff.mp e).1
    obtain ⟨A2, ro2, pm2⟩ := put1 hC (List.getElem?_set_self hi) h1 hm'
    rw [List.set_set] at ro2
    have nd2 : (B' ++ C).Nodup := by
      refine List.nodup_append.mpr ⟨nB', nd1.2.1, fun x hx y hy e => ?_⟩
      subst e
      rcases sB' x hx with q | q
      · exact disC x hy q
      · exact h3.trk x hy q
    have sS : Sub S H' := fun b o h => fr b o (r.sub b o h) fun q => by
      rw [(r.off b (inA b q)).1] at h
      cases h
    refine ⟨⟨sS, ⟨A2, ro2, pm2.nodup_iff.mpr nd2, fun b hb => ?_⟩, fun b hb => ?_⟩, ⟨Sub.refl S, fun _ h => .inl h, fun b o h n => fr b o h fun q => n (inA b q), fun b h => ?_, dm⟩⟩
    · rcases List.mem_append.mp (pm2.mem_iff.mp hb) with q | q
      · exact List.mem_append_left _ q
      · refine List.mem_append_right _ (sb b ((perm3 (D := B0) pm).mem_iff.mpr (List.mem_append_right _ q)))
    · rcases List.mem_append.mp hb with q | q
      · refine ⟨?_, hm'.trk b q⟩
        rcases sB' b q with z | z
        · exact (r.off b (inA b z)).1
        · exact sub_none r.sub z
      · exact ⟨(r.off b q).1, fun z => (r.off b q).2 (dm b z)⟩
    · rcases List.mem_append.mp h with q | q
      · rcases sB' b q with z | z
        · exact .inl (inA b z)
        · exact .inr z
      · exact .inl q
theorem repMs_snocM {v : V} {m : MD} {D : List Addr} (hv : RepM K G S H v m D) : ∀ {xs : List V} {ms : List MD} {Bs : List Addr}, RepMs K G S H xs ms Bs → RepMs K G S H (xs ++ [v]) (ms ++ [m]) (Bs ++ D)
  | _, _, _, .nil => by
    have z : RepMs K G S H [v] [m] (D ++ []) := .cons hv .nil
    rw [List.append_nil] at z
    exact z
  | _, _, _, .cons (A := A1) (B := B1) h hs => by
    have z : RepMs K G S H _ _ (A1 ++ (B1 ++ D)) := .cons h (repMs_snocM hv hs)
    rw [← List.append_assoc] at z
    exact z
theorem upd_fr {p : Addr} {o : HO} : ∀ b u, H b = some u → b ≠ p → upd H p o b = some u := fun b u h n => by rw [upd_ne n]; exact h
theorem upd_dm {p : Addr} {o : HO} {b : Addr} (h : upd H p o b = none) : H b = none := by
  by_cases q : b = p
  · subst q
    rw [upd_same] at h
    cases h
  · rw [upd_ne q] at h
    exact h
/-- x.append(e), x an owned list, e any value -/
def sAppM (i : Nat) (f : Sl → R MD) : Sl → RS := fun ρ => match ρ[i]? with
  | some (some (.ml _)) => (f ρ).s fun m ρ1 => match ρ1[i]? with
    | some (some (.ml ms)) => if ms.length < sizeLine then .nx (ρ1.set i (some (.ml (ms ++ [m])))) else .bad
    | _ => .bad
  | _ => .bad
theorem simS_appM (i : Nat) {x : Str} {p apos cpos : Pos} (h : SimM X E e fm) (hN : X.N[i]? = some x := by rfl) (hv : Vis X.env.scope x := by first | exact Or.inl rfl | exact Or.inr (Or.inl rfl) | exact Or.inr (Or.inr rfl)) (hd : (x == ("__debug__" : Str)) = false := by decide)
    (hcd : (x == ("__classdict__" : Str)) = false := by decide)
    (hbase : attributeBase (.Name x p) "append" X.env (eval (.Name x p) X.env) = eval (.Name x p) X.env := by rfl)
    (hfew : ((backTo cpos (starEach [e] X.env)).all (fun x => !x.1) && (backToKw cpos (keywordEach [] X.env)).all (fun x => x.1.isSome)
      && decide (([e] : List Expr).length + ([] : List Keyword).length + (if ([] : List Keyword).isEmpty then 0 else 1) < 30)) = true := by rfl)
    (hline : (apos.endLine == cpos.line) = true := by rfl) (he : starEach [e] X.env = (false, eval e X.env) :: starEach [] X.env := by rfl) (hplain : (backTo cpos (starEach [] X.env)).any (·.1) = false := by rfl)
    (hs : swapsWith (.Call (.Attribute (.Name x p) "append" apos) [e] [] cpos) none pos.line X.env = pure false := by rfl) :
    SimS X E [] (.Expr (.Call (.Attribute (.Name x p) "append" apos) [e] [] cpos) pos) (sAppM i fm) := by
  obtain ⟨t, pe, s⟩ := h.ex
  refine ⟨_, ps_expr (pe_bm PySem.F.plainAttrs_list PySem.F.slot_list_append PySem.F.type_list_append mt_append (pe_var hN hv hd hcd) (pa_cons pe pa_nil he) hbase hfew hline he hplain) hs, fun σ ρ S A H D r q => ?_⟩
  unfold sAppM at q
  split at q
  · rename_i ms0 em
    obtain ⟨a, xs, h1, h2, _, _⟩ := own_upd r em
    refine ⟨.ref a, h1, .inl ⟨rfl, xs, SqL.of h2⟩, s σ ρ S A H _ r ((RunS.ofR q).imp fun m ρ1 S1 A1 H1 q1 v r1 => ?_)⟩
    split at q1
    · rename_i ms em1
      obtain ⟨v1, B0, B, h1', k0, k1, nd, inA, k⟩ := own_edit r1 em1
      cases k1 with
      | @ml a' xs' _ Bs ha hs' =>
        have ea : some (some (V.ref a)) = some (some (V.ref a')) := h1.symm.trans h1'
        injection ea with ea
        injection ea with ea
        injection ea with ea
        subst ea
        have hl : xs'.length = ms.length := by
          have z := (repO_of hs').len
          simpa using z
        by_cases hz : ms.length < sizeLine
        · rw [if_pos hz] at q1
          refine ⟨a, xs', v, rfl, rfl, ha, by rw [hl]; exact hz, ?_⟩
          have nd' := List.nodup_append.mp nd
          have na : a ∉ Bs := (List.nodup_cons.mp nd'.2.1).1
          have na0 : a ∉ B0 := fun q => nd'.2.2 a q a (List.mem_cons_self ..) rfl
          obtain ⟨r2, g2⟩ := k (.ml (ms ++ [m])) (a :: (Bs ++ B0)) (upd H1 a (.lst (xs' ++ [v])))
            (.ml upd_same (repMs_snocM (k0.mono (Sub.refl _) fun b hb o ho => upd_fr (p := a) b o ho fun q => na0 (by rw [← q]; exact hb)) (hs'.mono (Sub.refl _) fun b hb o ho => upd_fr (p := a) b o ho fun q => na (by rw [← q]; exact hb))))
            (by
              refine List.nodup_cons.mpr ⟨fun q => (List.mem_append.mp q).elim na na0, ?_⟩
              exact List.nodup_append.mpr ⟨(List.nodup_cons.mp nd'.2.1).2, nd'.1, fun x hx y hy e => nd'.2.2 y hy x (List.mem_cons_of_mem _ hx) e.symm⟩)
            (fun b hb => .inl (by
              rcases List.mem_cons.mp hb with q | q
              · rw [q]; exact List.mem_append_right _ (List.mem_cons_self ..)
              · rcases List.mem_append.mp q with q | q
                · exact List.mem_append_right _ (List.mem_cons_of_mem _ q)
                · exact List.mem_append_left _ q))
            (fun b o ho hb => upd_fr b o ho fun q => hb (by rw [q]; exact List.mem_append_right _ (List.mem_cons_self ..)))
            (fun b hb => upd_dm hb)
          exact q1 σ S1 _ _ g2 r2 Keep.refl
        · rw [if_neg hz] at q1
          exact q1.elim
    · exact q1.elim
  · exact q.elim
@[simp] theorem sAppM_e (i : Nat) (f : Sl → R MD) (ρ : Sl) : sAppM i f ρ = match ρ[i]? with
  | some (some (.ml _)) => (f ρ).s fun m ρ1 => match ρ1[i]? with
    | some (some (.ml ms)) => if ms.length < sizeLine then .nx (ρ1.set i (some (.ml (ms ++ [m])))) else .bad
    | _ => .bad
  | _ => .bad := keep rfl
/-- one item of a list of owned things -/
theorem repMs_split : ∀ {xs : List V} {ms : List MD} {Bs : List Addr} {j : Nat} {m : MD}, RepMs K G S H xs ms Bs → ms[j]? = some m → ∃ v B C, xs[j]? = some v ∧ RepM K G S H v m B ∧ Bs.Perm (B ++ C) ∧
    ∀ m' B' H', RepM K G S H' v m' B' → (∀ c ∈ C, ∀ o, H c = some o → H' c = some o) → ∃ Bs', RepMs K G S H' xs (ms.set j m') Bs' ∧ Bs'.Perm (B' ++ C)
  | _, _, _, _, _, .nil, h => by simp at h
  | _, _, _, 0, m, .cons (A := A1) (B := B1) h hs, e => by
    simp at e
    subst e
    refine ⟨_, A1, B1, rfl, h, List.Perm.refl _, fun m' B' H' hm' fr => ⟨B' ++ B1, .cons hm' (hs.mono (Sub.refl _) fr), List.Perm.refl _⟩⟩
  | _, _, _, j + 1, m, .cons (A := A1) (B := B1) h hs, e => by
    obtain ⟨v, B, C, e1, e2, pm, k⟩ := repMs_split (j := j) hs (by simpa using e)
    have p1 : (A1 ++ B1).Perm (B ++ (A1 ++ C)) := (List.Perm.append_left A1 pm).trans (by
      rw [← List.append_assoc, ← List.append_assoc]
      exact List.Perm.append_right C List.perm_append_comm)
    refine ⟨v, B, A1 ++ C, by simpa using e1, e2, p1, fun m' B' H' hm' fr => ?_⟩
    obtain ⟨Bs', k1, k2⟩ := k m' B' H' hm' fun c hc o ho => fr c (List.mem_append_right _ hc) o ho
    refine ⟨A1 ++ Bs', .cons (h.mono (Sub.refl _) fun c hc o ho => fr c (List.mem_append_left _ hc) o ho) k1, (List.Perm.append_left A1 k2).trans (by
      rw [← List.append_assoc, ← List.append_assoc]
      exact List.Perm.append_right C List.perm_append_comm)⟩
def allFlat (ds : List PyData) : Bool := ds.all flatD
theorem fzA_flat : ∀ {vs : List V} {ds : List PyData}, FzA K S vs ds → allFlat ds = true → FzA K S' vs ds
  | _, _, .nil, _ => .nil
  | _, _, .cons h hs, f => by
    unfold allFlat at f
    rw [List.all_cons, Bool.and_eq_true] at f
    exact .cons (h.flat f.1) (fzA_flat hs f.2)
/-- x[k].append((..)), x an owned list of owned lists; k and the tuple's parts are flat -/
def sAppAt (i : Nat) (fk : Sl → R PyData) (fs : Sl → R (List PyData)) : Sl → RS := fun ρ => match ρ[i]?, fk (view ρ), fs (view ρ) with
  | some (some (.ml ms)), .ok (.int k) _, .ok ds _ => match ixN ms.length k with
    | some j => match ms[j]? with
      | some (.ml ns) => if (allFlat ds && decide (ds.length ≤ sizeLine) && decide (ns.length < sizeLine)) = true then .nx (ρ.set i (some (.ml (ms.set j (.ml (ns ++ [.fz (.tuple ds)])))))) else .bad
      | _ => .bad
    | none => .bad
  | _, _, _ => .bad
theorem simS_appAt (i : Nat) {x : Str} {p p2 apos cpos tpos : Pos} {kk : Nat} {ix : Expr} (hk : SimF X E ix f1) (h : SimA X E es fs) (hN : X.N[i]? = some x := by rfl) (hv : Vis X.env.scope x := by first | exact Or.inl rfl | exact Or.inr (Or.inl rfl) | exact Or.inr (Or.inr rfl)) (hd : (x == ("__debug__" : Str)) = false := by decide)
    (hcd : (x == ("__classdict__" : Str)) = false := by decide) (hp : PlainIx ix := by exact fun _ _ => rfl)
    (hbase : attributeBase (.Subscript (.Name x p) ix p2) "append" X.env (eval (.Subscript (.Name x p) ix p2) X.env) = eval (.Subscript (.Name x p) ix p2) X.env := by rfl)
    (hfew : ((backTo cpos (starEach [.Tuple es kk tpos] X.env)).all (fun x => !x.1) && (backToKw cpos (keywordEach [] X.env)).all (fun x => x.1.isSome)
      && decide (([.Tuple es kk tpos] : List Expr).length + ([] : List Keyword).length + (if ([] : List Keyword).isEmpty then 0 else 1) < 30)) = true := by rfl)
    (hline : (apos.endLine == cpos.line) = true := by rfl) (he : starEach [.Tuple es kk tpos] X.env = (false, eval (.Tuple es kk tpos) X.env) :: starEach [] X.env := by rfl) (hplain : (backTo cpos (starEach [] X.env)).any (·.1) = false := by rfl)
    (hs : swapsWith (.Call (.Attribute (.Subscript (.Name x p) ix p2) "append" apos) [.Tuple es kk tpos] [] cpos) none pos.line X.env = pure false := by rfl) :
    SimS X E [] (.Expr (.Call (.Attribute (.Subscript (.Name x p) ix p2) "append" apos) [.Tuple es kk tpos] [] cpos) pos) (sAppAt i f1 fs) := by
  obtain ⟨tk, pk, sk⟩ := hk.ex
  obtain ⟨ta, pa, sa⟩ := h.ex
  refine ⟨_, ps_expr (pe_bm PySem.F.plainAttrs_list PySem.F.slot_list_append PySem.F.type_list_append mt_append (pe_ix ix_list (pe_var hN hv hd hcd) pk hp) (pa_cons (pe_tup pa) pa_nil he) hbase hfew hline he hplain) hs, fun σ ρ S A H D r q => ?_⟩
  unfold sAppAt at q
  split at q
  · rename_i ms k ρk ds ρd em ek es'
    split at q
    · rename_i j ej
      split at q
      · rename_i ns en
        by_cases hc : (allFlat ds && decide (ds.length ≤ sizeLine) && decide (ns.length < sizeLine)) = true
        · rw [if_pos hc] at q
          simp only [Bool.and_eq_true, decide_eq_true_eq] at hc
          obtain ⟨⟨hf, hd1⟩, hn1⟩ := hc
          obtain ⟨A0, ro, nd, sb⟩ := r.rep
          obtain ⟨a, xs, h1, h2, hl, _⟩ := own_upd r em
          obtain ⟨v, B, C, h1', h2', h3', pm⟩ := take1 ro em
          cases h2' with
          | @ml a' xs' _ Bs ha hms =>
            have ea : some (some (V.ref a)) = some (some (V.ref a')) := h1.symm.trans h1'
            injection ea with ea
            injection ea with ea
            injection ea with ea
            subst ea
            have exs : xs = xs' := by
              rw [h2] at ha
              injection ha with ha
              injection ha
            subst exs
            obtain ⟨v2, B2, C2, e1, e2, pm2, kk2⟩ := repMs_split hms en
            cases e2 with
            | @ml b ys _ Ds hb hns =>
              have hly : ys.length = ns.length := by
                have z := (repO_of hns).len
                simpa using z
              -- the frozen view
              have r1 : Rel X.K X.mg (cold S H A0) (view ρ) [] σ H := ⟨cold_sub r.sub, ⟨[], ro.view r.sub fun _ q => q, List.nodup_nil, fun _ q => q⟩, fun a q => (by cases q)⟩
              refine ⟨.ref a, h1, sk σ (view ρ) _ [] H _ r1 ?_⟩
              rw [ek]
              intro Sk Ak Hk gk rk vk hvk
              cases hvk
              have kk' : ∀ b o, H b = some o → Hk b = some o := fun b o h => gk.fr b o h fun z => by cases z
              have hbb : Hk b = some (.lst ys) := kk' b _ hb
              refine ⟨a, xs, k, V.ref b, rfl, rfl, SqL.of (kk' a _ h2), ?_, .inl ⟨rfl, ys, SqL.of hbb⟩, ?_⟩
              · unfold atI
                rw [hl, ej]
                exact e1
              -- the parts of the tuple
              have rk' : Rel X.K X.mg (cold S Hk A0) (view ρ) [] σ Hk := by
                have hSk : Sub S Hk := fun b o h => kk' b o (r.sub b o h)
                have ro' := ro.mono (Sub.refl S) (H' := Hk) fun b _ o h => kk' b o h
                exact ⟨cold_sub hSk, ⟨[], ro'.view hSk fun _ q => q, List.nodup_nil, fun _ q => q⟩, fun a q => (by cases q)⟩
              refine sa σ (view ρ) _ [] Hk _ rk' ?_
              rw [es']
              intro Sd Ad Hd gd rd vs hvs
              have kd : ∀ b o, Hk b = some o → Hd b = some o := fun b o h => gd.fr b o h fun z => by cases z
              refine ⟨by rw [dpA_len hvs]; exact hd1, fun t nt => ?_⟩
              have hvs' : FzA X.K (upd S t (.tup vs)) vs ds := fzA_flat hvs hf
              -- the heap behind
              have hHd : ∀ b o, H b = some o → Hd b = some o := fun b o h => kd b o (kk' b o h)
              have nd0 : ∀ b, Hd b = none → H b = none := fun b h => gk.dm b (gd.dm b h)
              have sSd : Sub S Hd := fun b o h => hHd b o (r.sub b o h)
              have n := New.tup (o := .tup vs) sSd nt
              have rr : Rel X.K X.mg S ρ A σ Hd := ⟨sSd, ⟨A0, ro.mono (Sub.refl S) fun b _ o h => hHd b o h, nd, sb⟩, fun b hb => ⟨(r.off b hb).1, fun z => (r.off b hb).2 (nd0 b z)⟩⟩
              have gg : Grow S A H S A Hd := ⟨Sub.refl S, fun _ h => .inl h, fun b o h _ => hHd b o h, fun _ h => .inl h, nd0⟩
              have g2 := gg.trans n.grow
              have rr2 := n.rel0 rr
              have rr3 := rr2.pushF (v := .non) (d := .none) .non
              have bt : b ≠ t := fun q => by
                rw [← q] at nt
                rw [kd b _ hbb] at nt
                cases nt
              have at_ : a ≠ t := fun q => by
                rw [← q] at nt
                rw [hHd a _ h2] at nt
                cases nt
              have hb3 : upd Hd t (.tup vs) b = some (.lst ys) := by rw [upd_ne bt]; exact kd b _ hbb
              refine ⟨b, ys, .ref t, rfl, rfl, hb3, by rw [hly]; exact hn1, ?_⟩
              -- edit
              obtain ⟨v3, B0, B3, z1, z2, z3, nd3, inA3, k3⟩ := own_edit rr3 em
              cases z2
              cases z3 with
              | @ml a3 xs3 _ Bs3 ha3 hms3 =>
                have ea : some (some (V.ref a)) = some (some (V.ref a3)) := h1.symm.trans z1
                injection ea with ea
                injection ea with ea
                injection ea with ea
                subst ea
                have ha4 : upd Hd t (.tup vs) a = some (.lst xs) := by rw [upd_ne at_]; exact hHd a _ h2
                have exs : xs = xs3 := by
                  rw [ha4] at ha3
                  injection ha3 with ha3
                  injection ha3
                subst exs
                obtain ⟨w, B4, C4, y1, y2, pm4, k4⟩ := repMs_split hms3 en
                rw [e1] at y1
                injection y1 with y1
                subst y1
                cases y2 with
                | @ml b5 ys5 _ Ds5 hb5 hns5 =>
                  have eys : ys = ys5 := by
                    rw [hb3] at hb5
                    injection hb5 with hb5
                    injection hb5
                  subst eys
                  rw [List.nil_append] at nd3
                  have ndc := List.nodup_cons.mp nd3
                  have nd6 := pm4.nodup_iff.mp ndc.2
                  have nd7 := List.nodup_append.mp nd6
                  have nbD : b ∉ Ds5 := (List.nodup_cons.mp nd7.1).1
                  have nbC : b ∉ C4 := fun q => nd7.2.2 b (List.mem_cons_self ..) b q rfl
                  have nab : a ≠ b := fun q => ndc.1 (pm4.mem_iff.mpr (by rw [q]; exact List.mem_append_left _ (List.mem_cons_self ..)))
                  obtain ⟨Bs', w1, w2⟩ := k4 (.ml (ns ++ [.fz (.tuple ds)])) (b :: Ds5) (upd (upd Hd t (.tup vs)) b (.lst (ys ++ [.ref t])))
                    (.ml upd_same (repMs_snoc (.tup (.inl (.inl upd_same)) hvs') (hns5.mono (Sub.refl _) fun c hc o ho => upd_fr (p := b) c o ho fun q => nbD (by rw [← q]; exact hc))))
                    (fun c hc o ho => upd_fr (p := b) c o ho fun q => nbC (by rw [← q]; exact hc))
                  obtain ⟨r4, g4⟩ := k3 (.ml (ms.set j (.ml (ns ++ [.fz (.tuple ds)])))) (a :: Bs') (upd (upd Hd t (.tup vs)) b (.lst (ys ++ [.ref t])))
                    (.ml (by rw [upd_ne nab]; exact ha4) w1)
                    (List.nodup_cons.mpr ⟨fun q => ndc.1 (pm4.mem_iff.mpr (w2.mem_iff.mp q)), w2.nodup_iff.mpr nd6⟩)
                    (fun c hc => .inl (by
                      rcases List.mem_cons.mp hc with q | q
                      · rw [q]; exact List.mem_append_right _ (List.mem_cons_self ..)
                      · exact List.mem_append_right _ (List.mem_cons_of_mem _ (pm4.mem_iff.mpr (w2.mem_iff.mp q)))))
                    (fun c o ho hc => upd_fr c o ho fun q => hc (by
                      rw [q]
                      exact List.mem_append_right _ (List.mem_cons_of_mem _ (pm4.mem_iff.mpr (List.mem_append_left _ (List.mem_cons_self ..))))))
                    (fun c hc => upd_dm hc)
                  exact q σ _ _ _ (g2.trans g4) r4 Keep.refl
        · rw [if_neg hc] at q
          exact q.elim
      · exact q.elim
    · exact q.elim
  · exact q.elim
@[simp] theorem sAppAt_e (i : Nat) (fk : Sl → R PyData) (fs : Sl → R (List PyData)) (ρ : Sl) : sAppAt i fk fs ρ = match ρ[i]?, fk (view ρ), fs (view ρ) with
  | some (some (.ml ms)), .ok (.int k) _, .ok ds _ => match ixN ms.length k with
    | some j => match ms[j]? with
      | some (.ml ns) => if (allFlat ds && decide (ds.length ≤ sizeLine) && decide (ns.length < sizeLine)) = true then .nx (ρ.set i (some (.ml (ms.set j (.ml (ns ++ [.fz (.tuple ds)])))))) else .bad
      | _ => .bad
    | none => .bad
  | _, _, _ => .bad := keep rfl
/-! list * int -/
def rRepR : R2 := fun x y H Q => ∃ l k xs, x = .ref l ∧ y = .int k ∧ Rd H l (.lst xs) ∧ -(2 ^ 63) ≤ k ∧ k < 2 ^ 63 ∧ xs.length * k.toNat ≤ sizeLine ∧
  ∀ p, H p = none → Q (.ref p) (upd H p (.lst (List.replicate k.toNat xs).flatten))
open PySem.Spec PyProof.Rows in
theorem op_repR : OpR X (binaryOp .Mult) rRepR := by
  intro pins s σ H x y v u Q I rx ry h
  obtain ⟨l, k, xs, rfl, rfl, hH, h1, h2, hz, q⟩ := h
  cases rx
  obtain ⟨t, rfl⟩ := ry
  obtain ⟨z, its, n, r, e⟩ := hH.ok I.hok
  have hl := r.length
  have hlen : its.toArray.size * k.toNat ≤ sizeLine := by rw [List.size_toArray, ← hl]; exact hz
  have hcap : ¬ its.toArray.size * k.toNat > (2 ^ 63 - 1) / 8 := by
    have : (sizeLine : Nat) ≤ (2 ^ 63 - 1) / 8 := by decide
    omega
  have hfit : ¬ (!Builtin.List.listFitsIndex k) = true := by
    rw [fitsIndex_both h1 h2]
    exact Bool.false_ne_true
  have hlong : ¬ Builtin.List.listTooLong (its.toArray.size * k.toNat) = true := by
    rw [notLongL hlen]
    exact Bool.false_ne_true
  have hnew : List.foldl (fun x1 x2 => x1 ++ x2) #[] (List.replicate (if its.toArray.isEmpty = true then 0 else k.toNat) its.toArray) = (List.replicate k.toNat its).flatten.toArray := by
    have f0 : ∀ m : Nat, List.foldl (fun x1 x2 => x1 ++ x2) #[] (List.replicate m its.toArray) = (List.replicate m its).flatten.toArray := fun m => by
      have := foldl_rep its m []
      rw [List.nil_append] at this
      exact this
    rw [f0]
    cases its with
    | nil => simp
    | cons a r' => rw [if_neg (by simp)]
  refine wpAny_binaryOp_repeat_ref (T := "list") (U := "int") (by decide) ⟨_, e, rfl⟩ (fun s' => typeIs_int s' k t) noFill_list_mul F.fills_int_mul F.slot_int_rmul repeat_list F.slot_int_index.lookup
    (call_meets F.slot_int_rmul (typeIs_int s k t) F.entry_int_rmul (F.args_int_rmul_2 _ _) (int___rmul___int_list k t l its.toArray n)
      ⟨e, rfl, ⟨_, e, rfl⟩, call_meets F.slot_list_mul ⟨_, e, rfl⟩ F.entry_list_mul (F.args_list_mul_2 _ _) (AutoListH.list___mul___list_int_3 l its.toArray n k t hfit hcap hlong) ⟨e, ?_⟩⟩)
  rw [hnew]
  exact ⟨.ref _, _, I.lnew (t' := s.toks) (r.rep k.toNat) (by rw [PyProof.Rows.lm_len_rep_flat, Nat.mul_comm]; exact hz), rfl, q _ I.fresh⟩
def gRepL : PyData → PyData → Option MD
  | .list xs, .int k => if -(2 ^ 62) ≤ k ∧ k < 2 ^ 62 ∧ xs.length * k.toNat ≤ sizeLine then some (.ml ((List.replicate k.toNat xs).flatten.map .fz)) else none
  | _, _ => none
theorem dpA_rep {vs : List V} {ds : List PyData} (h : FzA K S vs ds) : ∀ n : Nat, FzA K S (List.replicate n vs).flatten (List.replicate n ds).flatten
  | 0 => .nil
  | n + 1 => by
    rw [List.replicate_succ, List.replicate_succ, List.flatten_cons, List.flatten_cons]
    exact dpA_app h (dpA_rep h n)
theorem opM_repL : OpM K G rRepR gRepL := fun S H Q x y a b m s hx hy e q => by
  unfold gRepL at e
  split at e
  · rename_i ds k
    obtain ⟨⟨h1, h2, h3⟩, e⟩ := ite_some e
    subst e
    cases hy
    cases hx with
    | lst hr hs => exact ⟨_, k, _, rfl, rfl, s.rd (.inl hr), by omega, by omega, by rw [dpA_len hs]; exact h3, new_lst s (dpA_rep hs k.toNat) q⟩
  · cases e
theorem simM_repL (h1 : SimF X E a f1) (h2 : SimF X E b f2) : SimM X E (.BinOp a .Mult b pos) (mOp gRepL f1 f2) := simM_op op_repR opM_repL h1 h2
@[simp] theorem gRepL_e (xs : List PyData) (k : Int) : gRepL (.list xs) (.int k) = if -(2 ^ 62) ≤ k ∧ k < 2 ^ 62 ∧ xs.length * k.toNat ≤ sizeLine then some (.ml ((List.replicate k.toNat xs).flatten.map .fz)) else none := keep rfl
end DR
end
section
/-! DR20: sorted(.., reverse=True) of tuples. -/
namespace DR
open PySem L2
variable {K : PySem.W.Frag} {G : Str → Option Value} {S S' S1 H H' H1 : Hp} {A A' A1 B C : List Addr} {E : XK} {σ σ0 σ1 : St} {ρ : Sl} {X : Cx} {e a b c elt tg iter : Expr} {es ifs : List Expr} {pos : Pos} {f1 f2 f3 : Sl → R PyData} {fs : Sl → R (List PyData)} {fm : Sl → R MD}
open PySem.W PySem.Calls in
def rSortDR (K : PySem.W.Frag) : List V → List V → Hp → VK → Prop := fun vs zs H Q => ∃ (a : Addr) (bs : List (V × PyData)), vs = [.ref a] ∧ zs = [.bl true] ∧ SqL K H a (bs.map (·.1)) ∧ DpAll K H (bs.map (·.1)) (bs.map (·.2)) ∧ AllAlike (bs.map (·.2)) ∧ Sortable (bs.map (·.2)) ∧ (∀ b ∈ bs, b.2.depth ≤ 50) ∧
  ∀ p, H p = none → Q (.ref p) (upd H p (.lst ((bs.mergeSort (dataLe true (·.2))).map (·.1))))
open PySem.W PySem.Calls PyProof.Rows PySem.Spec in
theorem cr_sortDR {X : L2.Cx} (hu : X.A.units + 64 < cLine) : CallRK X (.builtin "sorted") [Str.ofString "reverse"] (rSortDR X.K) := by
  intro pins s σ H vs zs us ws Q I r rz h
  obtain ⟨a, bs, rfl, rfl, hs, hd, hal, hk, hdp, q⟩ := h
  obtain ⟨its, rv, hl, hz⟩ := I.list hs
  obtain rfl := Vals.ref1 r
  obtain ⟨w1, rfl, e1⟩ := vals1 rz
  obtain rfl : w1 = Value.bool true := e1
  obtain ⟨e1, e2⟩ := reads_each I hd rv
  have hz' : bs.length ≤ sizeLine := by simpa using hz
  refine sorted_rev_data (b := true) (enc := fun b : V × PyData => b.2) hl.isList e1 e2 hal hk hz' (fun b hb => by have := hdp b hb; omega) fun out hlen ho => ?_
  obtain ⟨ep, he'⟩ := PyProof.Rows.sortedAll_at s.heap its out.toArray
  have rz := vals_each ho
  refine ⟨.ref _, upd H (s.heap.objs.size + 1) (.lst ((bs.mergeSort (dataLe true (·.2))).map (·.1))), I.laid (t' := s.toks) (fun _ _ => PyProof.Rows.sortedAll_old) (Nat.le_succ _) ⟨by simpa using hz', out, ep, rz, he'⟩, rfl, q _ (I.hok.fresh (Nat.le_succ _))⟩
def sortDR (ds : List PyData) : List PyData := ds.mergeSort (PySem.W.dataLe true fun d => d)
def gSortDR : List PyData → Option MD
  | [.list ds] => if (alikeB ds && ds.all tupB && ds.all fun d => decide (d.depth ≤ 50)) = true then some (.ml ((sortDR ds).map .fz)) else none
  | _ => none
theorem simM_sortDR {j : Nat} {p p2 kpos : Pos} {k : Nat} (hr : Room j X.A) (hm : X.mg "sorted" = none) (h : SimF X E e f1) (hg : Gl X "sorted" := by rfl)
    (hes : starEach [e] X.env = (false, eval e X.env) :: starEach [] X.env := by rfl)
    (he : backTo pos (starEach [e] X.env) = (false, eval e X.env) :: backTo pos (starEach [] X.env) := by rfl) (hpl : (backTo pos (starEach [e] X.env)).any (·.1) = false := by rfl)
    (hall : (backToKw pos (keywordEach [⟨some "reverse", .Constant (.bool true) k p2, kpos⟩] X.env)).all (·.1.isSome) = true := by rfl) (hnone : (backToKw pos (keywordEach [⟨some "reverse", .Constant (.bool true) k p2, kpos⟩] X.env)).any (·.1.isNone) = false := by rfl)
    (hks : (backToKw pos (keywordEach [⟨some "reverse", .Constant (.bool true) k p2, kpos⟩] X.env)).filterMap (·.1) = [Str.ofString "reverse"] := by rfl) :
    SimM X E (.Call (.Name "sorted" p) [e] [⟨some "reverse", .Constant (.bool true) k p2, kpos⟩] pos) (mCall gSortDR (mCons f1 mNil)) := by
  obtain ⟨t, pa, s⟩ := (simA_cons h simA_nil hes).ex
  refine ⟨_, pe_callBK (cr_sortDR (Nat.lt_of_le_of_lt (by omega) hr.units)) hg hm (by decide +kernel) pa (pk_cons pe_bl pk_nil) (by decide) (by decide) he hpl hall hnone hks, fun σ ρ S A H Q r q => ?_⟩
  refine s σ ρ S A H _ r ((Run.bind q).imp fun as ρ1 S1 A1 H1 q1 r1 vs hvs => ?_)
  unfold lft gSortDR at q1
  split at q1
  · rename_i m em
    split at em
    · rename_i ds
      obtain ⟨v, rfl, hv⟩ := fzA1 hvs
      obtain ⟨hz, e2⟩ := ite_some em
      subst e2
      simp only [Bool.and_eq_true] at hz
      obtain ⟨⟨z1, z2⟩, z3⟩ := hz
      cases hv with
      | @lst a xs _ h1 hs1 =>
        obtain ⟨b1, b2, b3⟩ := zip_fst hs1
        refine ⟨a, xs.zip ds, rfl, rfl, by rw [b1]; exact .inl (r1.sub.rd (.inl h1)), by rw [b1, b2]; exact FzA.dp (dpA_mono r1.sub hs1), ?_, ?_, ?_, ?_⟩
        · rw [b2]
          intro d hd d' hd'
          exact List.all_eq_true.mp (List.all_eq_true.mp z1 d hd) d' hd'
        · rw [b2]
          refine .inl fun d hd => ?_
          have := List.all_eq_true.mp z2 d hd
          unfold tupB at this
          split at this
          · exact ⟨_, _, rfl⟩
          · cases this
        · intro b hb
          have hm : b.2 ∈ ds := by
            rw [← b2]
            exact List.mem_map.mpr ⟨b, hb, rfl⟩
          exact of_decide_eq_true (List.all_eq_true.mp z3 _ hm)
        · have hp : FzA X.K S1 (((xs.zip ds).mergeSort (PySem.W.dataLe true (·.2))).map (·.1)) (((xs.zip ds).mergeSort (PySem.W.dataLe true (·.2))).map (·.2)) := fzA_pairs fun b hb => b3 b (List.mem_mergeSort.mp hb)
          have es : ((xs.zip ds).mergeSort (PySem.W.dataLe true (·.2))).map (·.2) = sortDR ds := by
            have z := List.map_mergeSort (r := PySem.W.dataLe true fun b : V × PyData => b.2) (s := PySem.W.dataLe true fun d : PyData => d) (f := fun b : V × PyData => b.2) (l := xs.zip ds) fun _ _ _ _ => rfl
            rw [b2] at z
            exact z
          rw [es] at hp
          exact new_lst r1.sub hp fun v S' B H' n h => q1 S' (B ++ A1) H' n.grow v (n.rel r1 h)
    · cases em
  · exact q1.elim
end DR
end
section
/-! DR21: dicts with pairs as keys. -/
namespace PySem
open PySem.Spec PyProof.Rows
section
variable {prog : Program} {w : World} {K : Type} [DecidableEq K] {knd : HeapKind prog w K} {A : Around} {E : Value → Shared → Prop} {s : Shared}
/-- dict(d): keys that are objects -/
theorem dr_call_dictH {o : Addr} {more : List (K × Addr × Value)} {Q : Value → Shared → Prop} (hu : ∀ B : Around, B.units ≤ A.units + 8 → knd.room B) (hoS : (o == sysModules) = false) (ho : s.heap.DictOfH knd o more) (hsz : more.length ≤ sizeLine)
    (hty : ∀ x ∈ more, s.TypeIs (.ref x.2.1) "tuple") (hap : (more.map fun x => knd.hash x.1).Nodup) (hst : ∀ h', (∀ b o, s.heap.get? b = some o → h'.get? b = some o) → ∀ x ∈ more, knd.is h' x.1 x.2.1)
    (h : ∀ h', h'.DictOfH knd s.heap.objs.size more → Heap.SameBut s.heap.objs.size (s.heap.push { cls := .type "dict", data := .dict #[] }) h' → Q (.ref s.heap.objs.size) { s with heap := h' }) :
    wpAny (model prog w) A (call (.type "dict") [.ref o]) Q E s := by
  refine callType_codes (Q₁ := fun obj s₁ => obj = .ref s.heap.objs.size ∧ s₁ = { s with heap := s.heap.push { cls := .type "dict", data := .dict #[] } }) F.kt_called_dict (F.kt_typeCall_dict_1 _) F.entry_dict_init (kt_code_dict_new _ ⟨rfl, rfl⟩) ?_
  rintro obj s₁ ⟨rfl, rfl⟩
  have hnew : (s.heap.push { cls := .type "dict", data := .dict #[] }).DictOfH knd s.heap.objs.size [] := ⟨_, #[], 0, Heap.get?_push_size _ rfl, ⟨rfl, rfl, rfl⟩, rfl, rfl, fun x hx => (by cases hx), List.nodup_nil⟩
  have hdo : s.heap.objs.size ≠ o := by
    obtain ⟨_, _, _, hg, _⟩ := ho
    exact fun e => absurd (Heap.lt_size hg) (by rw [e]; exact Nat.lt_irrefl _)
  have ho' : (s.heap.push { cls := .type "dict", data := .dict #[] }).DictOfH knd o more := by
    obtain ⟨oo, es, ep, hg, hc, hd, he, his, hn⟩ := ho
    exact ⟨oo, es, ep, Heap.get?_push_of_some _ hg, hc, hd, he, hst _ (fun b o e => Heap.get?_push_of_some _ e), hn⟩
  have hn : (more.map (·.1)).Nodup := ho.nodup
  refine ⟨hnew.typeIs, F.args_dict_init_2 _ _, ?_⟩
  unfold Builtin.«dict.__init__»
  refine wpAny_bind ?_
  unfold Builtin.Dict.selfAndRest
  refine wpAny_bind (wpAny_notOrdered_dict hnew.typeIs ?_)
  show wpAny _ _ (pure (s.heap.objs.size, [Value.ref o])) _ _ _
  refine wpAny_pure ?_
  show wpAny _ _ (Builtin.Dict.updateFrom "dict.__init__" s.heap.objs.size (.ref o) [] .none) _ _ _
  unfold Builtin.Dict.updateFrom
  refine wpAny_bind (wpAny_typeOf ho'.typeIs ?_)
  rw [if_neg (by decide)]
  refine wpAny_bind ?_
  unfold Builtin.Dict.merge
  refine wpAny_bind ?_
  unfold Builtin.Dict.readDirectly
  refine wpAny_bind (wpAny_isInstance ho'.typeIs isSubtype_dict_dict ?_)
  simp only [Bool.not_true, Bool.false_eq_true, if_false]
  refine wpAny_bind (wpAny_specialOf ho'.typeIs F.slot_dict_iter.lookup (wpAny_pure ?_))
  simp only [beq_self_eq_true, if_true]
  refine wpAny_bind (wpAny_pure ?_)
  refine wpAny_mergeDict_heap (hsz := by simpa using hsz) (hu _ ?_) hdo hoS hnew ho' (.inr ⟨fun x hx => ?_, hap⟩) fun h' hd' _ hs' => ?_
  · show A.units + 1 + 1 ≤ A.units + 8
    omega
  · obtain ⟨oo, e1, e2⟩ := hty x hx
    exact ⟨oo, Heap.get?_push_of_some _ e1, e2⟩
  show wpAny _ _ (Builtin.Dict.addKeywords s.heap.objs.size [] >>= _) _ _ _
  rw [storedAllH_nil_of_nodup more hn] at hd'
  exact wpAny_bind (wpAny_pure (wpAny_pure ⟨rfl, h h' hd' hs'⟩))
end
end PySem

namespace DR
open PySem L2
variable {K : PySem.W.Frag} {G : Str → Option Value} {S S' S1 H H' H1 : Hp} {A A' A1 B C : List Addr} {E : XK} {σ σ0 σ1 : St} {ρ : Sl} {X : Cx} {e a b c elt tg iter : Expr} {es ifs : List Expr} {pos : Pos} {f1 f2 f3 : Sl → R PyData} {fs : Sl → R (List PyData)} {fm : Sl → R MD} {x : Str} {p p2 : Pos}
/-! the hashes of small pairs are apart -/
def pairK (q : Nat × Nat) : List Key := [.inl (q.1 : Int), .inl (q.2 : Int)]
def pairH (q : Nat × Nat) : Int := reduceHash (Builtin.Tuple.tupleHashOf [hashInt (q.1 : Int), hashInt (q.2 : Int)])
def pairs : List (Nat × Nat) := (List.range 16).flatMap fun n => (List.range 8).map fun p => (n, p)
theorem pairs_apart : (pairs.map pairH).Nodup := by decide +kernel
theorem pairH_eq (P : Program) (w : World) (q : Nat × Nat) : (tupleKind (mixKind P w)).hash (pairK q) = pairH q := by
  have e : (pairK q).map (mixKind P w).hash = [hashInt (q.1 : Int), hashInt (q.2 : Int)] := rfl
  show tupleKeyHash (mixKind P w) (pairK q) = _
  unfold tupleKeyHash pairH
  rw [e]
theorem mem_pairs {q : Nat × Nat} (h1 : q.1 < 16) (h2 : q.2 < 8) : q ∈ pairs := by
  unfold pairs
  exact List.mem_flatMap.mpr ⟨q.1, List.mem_range.mpr h1, List.mem_map.mpr ⟨q.2, List.mem_range.mpr h2, rfl⟩⟩
theorem nodup_inj {α β : Type} {f : α → β} : ∀ {l : List α}, (l.map f).Nodup → ∀ x ∈ l, ∀ y ∈ l, f x = f y → x = y
  | [], _, x, h, _, _, _ => by cases h
  | z :: l, nd, x, hx, y, hy, e => by
    rw [List.map_cons, List.nodup_cons] at nd
    rcases List.mem_cons.mp hx with ex | hx' <;> rcases List.mem_cons.mp hy with ey | hy'
    · rw [ex, ey]
    · exact absurd (List.mem_map.mpr ⟨y, hy', by rw [← e, ex]⟩) nd.1
    · exact absurd (List.mem_map.mpr ⟨x, hx', by rw [e, ey]⟩) nd.1
    · exact nodup_inj nd.2 x hx' y hy' e
theorem nodup_map {α β : Type} {f : α → β} : ∀ {l : List α}, l.Nodup → (∀ x ∈ l, ∀ y ∈ l, f x = f y → x = y) → (l.map f).Nodup
  | [], _, _ => List.nodup_nil
  | z :: l, nd, h => by
    rw [List.nodup_cons] at nd
    rw [List.map_cons, List.nodup_cons]
    refine ⟨fun q => ?_, nodup_map nd.2 fun x hx y hy => h x (List.mem_cons_of_mem _ hx) y (List.mem_cons_of_mem _ hy)⟩
    obtain ⟨y, hy, e⟩ := List.mem_map.mp q
    have := h y (List.mem_cons_of_mem _ hy) z (List.mem_cons_self ..) e
    rw [this] at hy
    exact nd.1 hy
/-! dict(d) -/
def rDictT (P : Program) (w : World) : List V → Hp → VK → Prop := fun vs H Q => ∃ (a : Addr) (kvs : List (List Key × V)), vs = [.ref a] ∧ Rd H a (.dT kvs) ∧ ((kvs.map (·.1)).map (tupleKind (mixKind P w)).hash).Nodup ∧ ∀ p, H p = none → Q (.ref p) (upd H p (.dT kvs))
open PyProof.Rows PySem.Spec in
theorem kt_keys {H : Hp} : ∀ {kvs : List (List Key × V)} {xs : List (List Key × Addr × Value)}, KT H kvs xs → xs.map (·.1) = kvs.map (·.1) ∧ ∀ x ∈ xs, H x.2.1 = some (.tup (x.1.map kV))
  | _, _, .nil => ⟨rfl, fun _ h => by cases h⟩
  | _, _, .cons h t => by
    obtain ⟨a, b⟩ := kt_keys t
    refine ⟨by rw [List.map_cons, List.map_cons, a, h.1], fun x hx => ?_⟩
    rcases List.mem_cons.mp hx with rfl | hx
    · rw [← h.1]; exact h.2.1
    · exact b x hx
open PyProof.Rows PySem.Spec in
theorem cr_dictT (hu : X.A.units + 64 < cLine) : CallR X (.type "dict") (rDictT X.prog X.w) := by
  intro pins s σ H vs us Q I r h
  obtain ⟨a, kvs, rfl, hd, hap, q⟩ := h
  rw [Vals.ref1 r]
  obtain ⟨z, y, xs, kt, dh⟩ := dt_rd I.hok hd
  obtain ⟨k1, k2⟩ := kt_keys kt
  have hlen : xs.length = kvs.length := by
    have := congrArg List.length k1
    simpa using this
  have hty : ∀ x ∈ xs, s.TypeIs (.ref x.2.1) "tuple" := fun x hx => by
    obtain ⟨_, its, r, o, h1, h2, _⟩ := (show ObjOk X.prog X.w H s.heap x.2.1 (.tup (x.1.map kV)) from I.hok _ _ (k2 x hx))
    exact ⟨o, h1, h2⟩
  have hst : ∀ h', (∀ b o, s.heap.get? b = some o → h'.get? b = some o) → ∀ x ∈ xs, (tupleKind (mixKind X.prog X.w)).is h' x.1 x.2.1 := fun h' k x hx => by
    obtain ⟨o, items, n, g1, g2, g3, g4⟩ := key_of I.hok (k2 x hx)
    exact ⟨o, items, n, k _ _ g1, g2, g3, g4⟩
  have hroom : ∀ B : Around, B.units ≤ X.A.units + 8 → (tupleKind (mixKind X.prog X.w)).room B := fun B hB => by
    show B.units < cLine
    omega
  refine dr_call_dictH (knd := tupleKind (mixKind X.prog X.w)) hroom y dh (by rw [hlen]; exact z) hty (by rw [← k1, List.map_map] at hap; exact hap) hst fun h' hd' hs => ?_
  have keep : ∀ b u, s.heap.get? b = some u → h'.get? b = some u := fun b u e => by
    have hb : b ≠ s.heap.objs.size := fun q => by
      have := Heap.lt_size e
      rw [q] at this
      exact Nat.lt_irrefl _ this
    rw [hs.2 b hb]
    exact Heap.get?_push_of_some _ e
  have hfr : H s.heap.objs.size = none := I.hok.fresh (Nat.le_refl _)
  have new : ObjOk X.prog X.w (upd H s.heap.objs.size (.dT kvs)) h' s.heap.objs.size (.dT kvs) := by
    obtain ⟨o, es, ep, h1, h2, h3, h4, _, h6⟩ := hd'
    refine ⟨z, beq_eq_false_iff_ne.mpr (Ne.symm (Nat.ne_of_lt I.big)), xs, KT.keeps kt fun b ys hb => ?_, o, es, ep, h1, h2, h3, h4, h6⟩
    rw [upd_ne (fun q => by rw [q, hfr] at hb; cases hb)]
    exact hb
  exact ⟨.ref _, _, I.laid (t' := s.toks) keep (Nat.le_refl _) new, rfl, q _ hfr⟩
/-- pairs of small numbers, each once -/
def smallPairs (kvs : List (List Key × PyData)) : Bool := (kvs.map (·.1)).Nodup && (kvs.map (·.1)).all fun k => pairs.any fun q => decide (k = pairK q)
theorem smallPairs_hash {P : Program} {w : World} {kvs : List (List Key × PyData)} (h : smallPairs kvs = true) : ((kvs.map (·.1)).map (tupleKind (mixKind P w)).hash).Nodup := by
  unfold smallPairs at h
  rw [Bool.and_eq_true, decide_eq_true_iff, List.all_eq_true] at h
  obtain ⟨nd, al⟩ := h
  refine nodup_map nd fun x hx y hy e => ?_
  obtain ⟨q, hq, eq⟩ := List.any_eq_true.mp (al x hx)
  obtain ⟨u, hu, eu⟩ := List.any_eq_true.mp (al y hy)
  have eq' := of_decide_eq_true eq
  have eu' := of_decide_eq_true eu
  rw [eq', eu'] at e ⊢
  rw [pairH_eq, pairH_eq] at e
  rw [nodup_inj pairs_apart q hq u hu e]
theorem kd_keys {κ : Type} : ∀ {xs : List (κ × V)} {ds : List (κ × PyData)}, Paired (KD K S) xs ds → xs.map (·.1) = ds.map (·.1)
  | _, _, .nil => rfl
  | _, _, .cons h t => by rw [List.map_cons, List.map_cons, h.1, kd_keys t]
/-- dict(x), x an owned dict with pairs as keys -/
def mCopyT (i : Nat) : Sl → R MD := fun ρ => match ρ[i]? with
  | some (some (.mk kvs)) => if smallPairs kvs = true then .ok (.mk kvs) ρ else .bad
  | _ => .bad
theorem rd_dictT {i : Nat} {kvs : List (List Key × PyData)} (r : Rel K G S ρ A σ H) (e : ρ[i]? = some (some (.mk kvs))) : ∃ a xs, σ[i]? = some (some (.ref a)) ∧ H a = some (.dT xs) ∧ Paired (KD K S) xs kvs := by
  obtain ⟨v, B, h1, h2⟩ := r.at e
  cases h2 with
  | mk ha hp => exact ⟨_, _, h1, ha, hp⟩
theorem simM_copyT (i : Nat) {j : Nat} {p3 : Pos} (hr : Room j X.A) (hm : X.mg "dict" = none) (hN : X.N[i]? = some x := by rfl) (hv : Vis X.env.scope x := by first | exact Or.inl rfl | exact Or.inr (Or.inl rfl) | exact Or.inr (Or.inr rfl)) (hd : (x == ("__debug__" : Str)) = false := by decide)
    (hcd : (x == ("__classdict__" : Str)) = false := by decide) (hg : Gl X "dict" := by rfl) (he : starEach [.Name x p] X.env = (false, eval (.Name x p) X.env) :: starEach [] X.env := by rfl) (hpl : (backTo pos (starEach [] X.env)).any (·.1) = false := by rfl) :
    SimM X E (.Call (.Name "dict" p3) [.Name x p] [] pos) (mCopyT i) := by
  refine ⟨_, pe_callTy (cr_dictT (Nat.lt_of_le_of_lt (by omega) hr.units)) hg hm (by decide +kernel) (pa_cons (pe_var hN hv hd hcd) pa_nil he) (by decide) (by decide) he hpl, fun σ ρ S A H Q r q => ?_⟩
  unfold mCopyT at q
  split at q
  · rename_i kvs em
    by_cases hs : smallPairs kvs = true
    · rw [if_pos hs] at q
      obtain ⟨a, xs, h1, h2, hp⟩ := rd_dictT r em
      refine ⟨.ref a, h1, a, xs, rfl, .inl h2, ?_, fun t nt => ?_⟩
      · rw [kd_keys hp]
        exact smallPairs_hash hs
      · have n : New S H S [t] (upd H t (.dT xs)) := New.one r.sub nt
        exact q S _ _ n.grow _ (n.rel r (.mk upd_same hp))
    · rw [if_neg hs] at q
      exact q.elim
  · exact q.elim
@[simp] theorem mCopyT_e (i : Nat) (ρ : Sl) : mCopyT i ρ = match ρ[i]? with
  | some (some (.mk kvs)) => if smallPairs kvs = true then .ok (.mk kvs) ρ else .bad
  | _ => .bad := keep rfl
/-! d[k1, k2] = v; (k1, k2) in d -/
def keysD : List PyData → Option (List Key)
  | [] => some []
  | d :: ds => (keyD d).bind fun k => (keysD ds).map (k :: ·)
theorem keysD_of : ∀ {vs : List V} {ds : List PyData} {ks : List Key}, FzA K S vs ds → keysD ds = some ks → vs = ks.map kV
  | _, _, _, .nil, e => by
    simp only [keysD, Option.some.injEq] at e
    subst e
    rfl
  | _, _, _, .cons h t, e => by
    simp only [keysD] at e
    obtain ⟨k, e1, e2⟩ := Option.bind_eq_some_iff.mp e
    obtain ⟨ks, e3, e4⟩ := Option.map_eq_some_iff.mp e2
    subst e4
    rw [keyD_of h e1, keysD_of t e3]
    rfl
def sPutT (i : Nat) (fv : Sl → R PyData) (fk : Sl → R (List PyData)) : Sl → RS := fun ρ => (fv ρ).s fun d ρ1 => match ρ1[i]? with
  | some (some (.mk _)) => (fk ρ1).s fun ds ρ2 => match ρ2[i]? with
    | some (some (.mk kvs)) => match keysD ds with
      | some k => if kvs.length < sizeLine ∧ ds.length ≤ sizeLine then .nx (ρ2.set i (some (.mk (dPut kvs k d)))) else .bad
      | none => .bad
    | _ => .bad
  | _ => .bad
theorem simS_putT (i : Nat) {j kk : Nat} {tpos : Pos} (hr : Room j X.A) (h : SimF X E e f1) (hk : SimA X E es fs) (hN : X.N[i]? = some x := by rfl) (hv : Vis X.env.scope x := by first | exact Or.inl rfl | exact Or.inr (Or.inl rfl) | exact Or.inr (Or.inr rfl)) (hd : (x == ("__debug__" : Str)) = false := by decide)
    (hcd : (x == ("__classdict__" : Str)) = false := by decide) (hs : swapsWith e (some (.Subscript (.Name x p) (.Tuple es kk tpos) p2)) pos.line X.env = pure false := by rfl) :
    SimS X E [] (.Assign [.Subscript (.Name x p) (.Tuple es kk tpos) p2] e pos) (sPutT i f1 fs) := by
  obtain ⟨t, pe, s⟩ := h.ex
  obtain ⟨tk, pk, sk⟩ := hk.ex
  have hu : X.A.units + 1 < cLine := Nat.lt_of_le_of_lt (by omega) hr.units
  refine ⟨_, ps_dput hu (pe_var hN hv hd hcd) (pe_tup pk) pe hs, fun σ ρ S A H D r q => s σ ρ S A H _ r ((RunS.ofR q).imp fun d ρ1 S1 A1 H1 q1 r1 v hv => ?_)⟩
  split at q1
  · rename_i kv0 em
    obtain ⟨a, h1, _, _⟩ := own_one r1 em mk_one
    refine ⟨.ref a, h1, sk σ ρ1 S1 A1 H1 _ r1 ((RunS.ofR q1).impG fun ds ρ2 S2 A2 H2 g2 q2 r2 vs hvs => ?_)⟩
    split at q2
    · rename_i kvs em2
      split at q2
      · rename_i key ek
        by_cases hz : kvs.length < sizeLine ∧ ds.length ≤ sizeLine
        · rw [if_pos hz] at q2
          refine ⟨by rw [dpA_len hvs]; exact hz.2, fun tt nt => ?_⟩
          have n := New.tup (o := .tup vs) r2.sub nt
          have r3 := n.rel0 r2
          obtain ⟨a', h1', hr2, up⟩ := own_one r3 em2 mk_one
          have ea := same_ref h1 h1'
          subst ea
          cases hr2 with
          | mk ha hp =>
            have ev := keysD_of hvs ek
            obtain ⟨r4, g4⟩ := up (.dT (putK _ key v)) (.mk (dPut kvs key d)) (.mk upd_same (kd_put key (dp_mono n.ss (dp_mono g2.ss hv)) hp))
            have hb : upd H2 tt (.tup vs) tt = some (.tup (key.map kV)) := by rw [upd_same, ev]
            exact ⟨a, _, rfl, DPut.t ha hb (by rw [kd_len hp]; exact hz.1), q2 σ _ _ _ (n.grow.trans g4) r4 Keep.refl⟩
        · rw [if_neg hz] at q2
          exact q2.elim
      · exact q2.elim
    · exact q2.elim
  · exact q1.elim
@[simp] theorem sPutT_e (i : Nat) (fv : Sl → R PyData) (fk : Sl → R (List PyData)) (ρ : Sl) : sPutT i fv fk ρ = (fv ρ).s fun d ρ1 => match ρ1[i]? with
  | some (some (.mk _)) => (fk ρ1).s fun ds ρ2 => match ρ2[i]? with
    | some (some (.mk kvs)) => match keysD ds with
      | some k => if kvs.length < sizeLine ∧ ds.length ≤ sizeLine then .nx (ρ2.set i (some (.mk (dPut kvs k d)))) else .bad
      | none => .bad
    | _ => .bad
  | _ => .bad := keep rfl
def mInT (neg : Bool) (i : Nat) (fk : Sl → R (List PyData)) : Sl → R PyData := fun ρ => (fk ρ).bind fun ds ρ1 => match ρ1[i]? with
  | some (some (.mk kvs)) => match keysD ds with
    | some k => if ds.length ≤ sizeLine then .ok (.bool ((dGet kvs k).isSome != neg)) ρ1 else .bad
    | none => .bad
  | _ => .bad
theorem inT_sem {neg : Bool} {i : Nat} {tk : TA} {Q : VK} (sk : ∀ σ ρ S A H Q, Rel K G S ρ A σ H → Run K G E S A σ H (fs ρ) (fun ds ρ' S' A' H' => Rel K G S' ρ' A' σ H' → ∀ vs, FzA K S' vs ds → Q vs H') → tk σ H Q)
    (r : Rel K G S ρ A σ H) (q : Run K G E S A σ H (mInT neg i fs ρ) (fun d ρ' S' A' H' => Rel K G S' ρ' A' σ H' → ∀ v, Fz K S' v d → Q v H')) : tTup tk σ H fun y H1 => tVar i σ H1 fun x H2 => ∃ a o, x = .ref a ∧ DGet H2 a y o ∧ Q (.bl (o.isSome != neg)) H2 := by
  refine sk σ ρ S A H _ r ((Run.bind q).imp fun ds ρ1 S1 A1 H1 q1 r1 vs hvs => ?_)
  split at q1
  · rename_i kvs em
    split at q1
    · rename_i key ek
      by_cases hz : ds.length ≤ sizeLine
      · rw [if_pos hz] at q1
        refine ⟨by rw [dpA_len hvs]; exact hz, fun tt nt => ?_⟩
        have n := New.tup (o := .tup vs) r1.sub nt
        have r3 := n.rel0 r1
        obtain ⟨a, xs, h1, h2, hp⟩ := rd_dictT r3 em
        have ev := keysD_of hvs ek
        have hb : upd H1 tt (.tup vs) tt = some (.tup (key.map kV)) := by rw [upd_same, ev]
        have hs : (valV xs key).isSome = (dGet kvs key).isSome := by
          rcases kd_get key hp with ⟨v, d', g1, g2, hz⟩ | ⟨g1, g2⟩ <;> rw [g1, g2] <;> rfl
        exact ⟨.ref a, h1, a, valV xs key, rfl, DGet.t h2 hb, by rw [hs]; exact q1 _ _ _ n.grow r3 _ (.bl _)⟩
      · rw [if_neg hz] at q1
        exact q1.elim
    · exact q1.elim
  · exact q1.elim
theorem simF_inT (i : Nat) {j kk : Nat} {tpos : Pos} (hr : Room j X.A) (hk : SimA X E es fs) (hN : X.N[i]? = some x := by rfl) (hv : Vis X.env.scope x := by first | exact Or.inl rfl | exact Or.inr (Or.inl rfl) | exact Or.inr (Or.inr rfl)) (hd : (x == ("__debug__" : Str)) = false := by decide)
    (hcd : (x == ("__classdict__" : Str)) = false := by decide) (hb : behindInMarks .In (.Name x p) = false := by rfl) : SimF X E (.Compare (.Tuple es kk tpos) [.In] [.Name x p] pos) (mInT false i fs) := by
  obtain ⟨tk, pk, sk⟩ := hk.ex
  have hu : X.A.units + 1 < cLine := Nat.lt_of_le_of_lt (by omega) hr.units
  exact ⟨_, pe_cmp (pc_din hu (pe_tup pk) (pe_var hN hv hd hcd)) hb, fun σ ρ S A H Q r q => tin_mono (inT_sem sk r q) rfl⟩
theorem simT_inT (i : Nat) {j kk : Nat} {tpos : Pos} (hr : Room j X.A) (hk : SimA X E es fs) (hN : X.N[i]? = some x := by rfl) (hv : Vis X.env.scope x := by first | exact Or.inl rfl | exact Or.inr (Or.inl rfl) | exact Or.inr (Or.inr rfl)) (hd : (x == ("__debug__" : Str)) = false := by decide)
    (hcd : (x == ("__classdict__" : Str)) = false := by decide) (hb : behindInMarks .In (.Name x p) = false := by rfl) : SimT X E (.Compare (.Tuple es kk tpos) [.In] [.Name x p] pos) (mB (mInT false i fs)) := by
  obtain ⟨tk, pk, sk⟩ := hk.ex
  have hu : X.A.units + 1 < cLine := Nat.lt_of_le_of_lt (by omega) hr.units
  exact ⟨_, pt_cmp (pc_din hu (pe_tup pk) (pe_var hN hv hd hcd)) hb, fun σ ρ S A H Q r q => run_bool (fun σ ρ S A H Q r q => tin_mono (inT_sem sk r q) rfl) r q⟩
@[simp] theorem mInT_e (neg : Bool) (i : Nat) (fk : Sl → R (List PyData)) (ρ : Sl) : mInT neg i fk ρ = (fk ρ).bind fun ds ρ1 => match ρ1[i]? with
  | some (some (.mk kvs)) => match keysD ds with
    | some k => if ds.length ≤ sizeLine then .ok (.bool ((dGet kvs k).isSome != neg)) ρ1 else .bad
    | none => .bad
  | _ => .bad := keep rfl
@[simp] theorem keysD_nil : keysD [] = some [] := keep rfl
@[simp] theorem keysD_cons (d : PyData) (ds : List PyData) : keysD (d :: ds) = (keyD d).bind fun k => (keysD ds).map (k :: ·) := keep rfl
end DR
end
section
/-! DR22: a told list is one's own: what a call hands back lies anew, unless it was handed in. -/
namespace DR
open PySem L2
variable {K : PySem.W.Frag} {G : Str → Option Value} {S S' S1 T H H' H1 : Hp} {A A' A1 B C : List Addr} {E : XK} {σ : St} {ρ : Sl} {X : Cx} {e a b c : Expr} {es : List Expr} {pos : Pos} {fa : Sl → R (List AV)}
/-- no object of the module lies on the tracked heap -/
def NoK (K : PySem.W.Frag) (H : Hp) : Prop := ∀ a o, K.lookup a = some o → H a = none
theorem nok_of {pins : List (Addr × Obj)} {s : Shared} (I : Inv X pins σ H s) : NoK X.K H := fun a o h => (I.bs a o (I.ok.mod.kin a o h)).2
theorem pe_nok {t : TE} (h : PE X e t) : PE X e fun σ H Q => NoK X.K H → t σ H fun v H' => NoK X.K H' → Q v H' :=
  ⟨fun pins s σ H Q I q => thn (h.run pins s σ H _ I (q (nok_of I))) fun v s1 ⟨x, H1, I1, r1, q1⟩ => ⟨x, H1, I1, r1, q1 (nok_of I1)⟩⟩
theorem sqT_det (n : NoK K H) {a : Addr} {xs ys : List V} (h : SqT K H a xs) (h' : SqT K H a ys) : xs = ys := by
  have no : ∀ {xs : List V} {o : Obj}, K.lookup a = some o → Rd H a (.tup xs) → False := fun hk q => by
    rcases q with q | ⟨o', q⟩ <;> rw [n a _ hk] at q <;> cases q
  rcases h with h | ⟨o, its, m, hk, _, hd, _, r⟩
  · rcases h' with h' | ⟨o', its', m', hk', _⟩
    · rcases h with h | ⟨u, h⟩ <;> rcases h' with h' | ⟨u', h'⟩ <;> rw [h] at h' <;> cases h' <;> rfl
    · exact (no hk' h).elim
  · rcases h' with h' | ⟨o', its', m', hk', _, hd', _, r'⟩
    · exact (no hk h').elim
    · rw [hk] at hk'
      cases hk'
      rw [hd] at hd'
      injection hd' with d1 _
      subst d1
      exact r.inj r'
theorem sqT_lst (n : NoK K H) {a : Addr} {xs ys : List V} (h : H a = some (.lst xs)) (h' : SqT K H a ys) : False := by
  rcases h' with (h' | ⟨u', h'⟩) | ⟨o', its', m', hk', _⟩
  · rw [h] at h'; cases h'
  · rw [h] at h'; cases h'
  · rw [n a _ hk'] at h; cases h
mutual
theorem fz_det (n : NoK K H) : ∀ {v : V} {d d' : PyData}, Fz K H v d → Fz K H v d' → d = d'
  | _, _, _, .non, .non => rfl
  | _, _, _, .bl b, .bl _ => rfl
  | _, _, _, .int i, .int _ => rfl
  | _, _, _, .str x, .str _ => rfl
  | _, _, _, .lst h hs, .lst h' hs' => by
    rw [h] at h'
    cases h'
    rw [fzA_det n hs hs']
  | _, _, _, .lst h hs, .tup h' hs' => (sqT_lst n h h').elim
  | _, _, _, .tup h hs, .lst h' hs' => (sqT_lst n h' h).elim
  | _, _, _, .tup h hs, .tup h' hs' => by
    have := sqT_det n h h'
    subst this
    rw [fzA_det n hs hs']
theorem fzA_det (n : NoK K H) : ∀ {vs : List V} {ds ds' : List PyData}, FzA K H vs ds → FzA K H vs ds' → ds = ds'
  | _, _, _, .nil, .nil => rfl
  | _, _, _, .cons h hs, .cons h' hs' => by rw [fz_det n h h', fzA_det n hs hs']
end
/-! ### data -/
mutual
/-- the lists in a value, with all in them -/
def lsIn : PyData → List (List PyData)
  | .list ds => ds :: lsIns ds
  | .tuple ds => lsIns ds
  | _ => []
def lsIns : List PyData → List (List PyData)
  | [] => []
  | d :: ds => lsIn d ++ lsIns ds
end
def keepL (K : PySem.W.Frag) (S : Hp) (L : List (List PyData)) (a : Addr) : Prop := (∀ xs, S a ≠ some (.lst xs)) ∨ ∃ xs e, S a = some (.lst xs) ∧ FzA K S xs e ∧ e ∈ L
open Classical in
/-- the frozen heap but for the lists that are not among L -/
noncomputable def cutH (K : PySem.W.Frag) (S : Hp) (L : List (List PyData)) : Hp := fun a => if keepL K S L a then S a else none
theorem cutH_sub (L : List (List PyData)) : Sub (cutH K S L) S := fun a o h => by
  unfold cutH at h
  split at h
  · exact h
  · cases h
theorem cutH_at {L : List (List PyData)} {a : Addr} (h : keepL K S L a) : cutH K S L a = S a := if_pos h
mutual
theorem fz_cut {L : List (List PyData)} : ∀ {v : V} {d : PyData}, Fz K S v d → (∀ e ∈ lsIn d, e ∈ L) → Fz K (cutH K S L) v d
  | _, _, .non, _ => .non
  | _, _, .bl b, _ => .bl b
  | _, _, .int i, _ => .int i
  | _, _, .str x, _ => .str x
  | _, _, .lst (ds := ds) h hs, k => .lst ((cutH_at (.inr ⟨_, _, h, hs, k _ (List.mem_cons_self ..)⟩)).trans h) (fzA_cut hs fun e he => k e (List.mem_cons_of_mem _ he))
  | _, _, .tup h hs, k => .tup (h.imp (fun h => by
      rcases h with h | ⟨o, h⟩
      · exact .inl ((cutH_at (.inl fun xs => by rw [h]; intro z; cases z)).trans h)
      · exact .inr ⟨o, (cutH_at (.inl fun xs => by rw [h]; intro z; cases z)).trans h⟩) id) (fzA_cut hs k)
theorem fzA_cut {L : List (List PyData)} : ∀ {vs : List V} {ds : List PyData}, FzA K S vs ds → (∀ e ∈ lsIns ds, e ∈ L) → FzA K (cutH K S L) vs ds
  | _, _, .nil, _ => .nil
  | _, _, .cons h hs, k => .cons (fz_cut h fun e he => k e (List.mem_append_left _ he)) (fzA_cut hs fun e he => k e (List.mem_append_right _ he))
end
/-- both frozen heaps, but not p -/
noncomputable def joinH (S S' : Hp) (p : Addr) : Hp := fun a => if a = p then none else match S a with | some o => some o | none => S' a
mutual
theorem fz_join {p : Addr} {xs : List V} (s : Sub S H') (s' : Sub S' H') (hp : S' p = some (.lst xs)) : ∀ {v : V} {d : PyData}, Fz K S' v d → lsIn d = [] → Fz K (joinH S S' p) v d
  | _, _, .non, _ => .non
  | _, _, .bl b, _ => .bl b
  | _, _, .int i, _ => .int i
  | _, _, .str x, _ => .str x
  | _, _, .lst h hs, k => by cases k
  | _, _, .tup (a := a) h hs, k => by
    have at_ : ∀ o, (∀ xs, o ≠ HO.lst xs) → S' a = some o → joinH S S' p a = some o := fun o no h => by
      unfold joinH
      rw [if_neg fun q => by
        subst q
        rw [hp] at h
        cases h
        exact no _ rfl]
      cases q : S a with
      | none => exact h
      | some o' =>
        have e1 := s a _ q
        rw [s' a _ h] at e1
        exact e1.symm
    exact .tup (h.imp (fun h => by
      rcases h with h | ⟨o, h⟩
      · exact .inl (at_ _ (fun xs z => by cases z) h)
      · exact .inr ⟨o, at_ _ (fun xs z => by cases z) h⟩) id) (fzA_join s s' hp hs k)
theorem fzA_join {p : Addr} {xs : List V} (s : Sub S H') (s' : Sub S' H') (hp : S' p = some (.lst xs)) : ∀ {vs : List V} {ds : List PyData}, FzA K S' vs ds → lsIns ds = [] → FzA K (joinH S S' p) vs ds
  | _, _, .nil, _ => .nil
  | _, _, .cons h hs, k => .cons (fz_join s s' hp h (List.append_eq_nil_iff.mp k).1) (fzA_join s s' hp hs (List.append_eq_nil_iff.mp k).2)
end
/-! ### the call -/
def dsOf : List AV → Option (List PyData)
  | [] => some []
  | .d d :: r => (dsOf r).map (d :: ·)
  | .i _ :: _ => none
theorem dsOf_fz : ∀ {as : List AV} {vs : List V} {ds : List PyData}, Paired (AvR K S σ) vs as → dsOf as = some ds → FzA K S vs ds
  | [], _, _, .nil, e => by
    cases e
    exact .nil
  | .d d :: r, _, _, .cons h hs, e => by
    obtain ⟨es, e1, rfl⟩ := Option.map_eq_some_iff.mp e
    exact .cons h (dsOf_fz hs e1)
  | .i j :: r, _, _, _, e => by cases e
open Classical in
noncomputable def thaw (ds : List PyData) : PyData → Option MD
  | .list es => if lsIns es = [] ∧ es ∉ lsIns ds then some (.ml (es.map .fz)) else none
  | _ => none
theorem thaw_yes {ds es : List PyData} (h : lsIns es = [] ∧ es ∉ lsIns ds) : thaw ds (.list es) = some (.ml (es.map .fz)) := by
  unfold thaw
  exact if_pos h
theorem thaw_no {ds es : List PyData} (h : ¬ (lsIns es = [] ∧ es ∉ lsIns ds)) : thaw ds (.list es) = none := by
  unfold thaw
  exact if_neg h
noncomputable def callT (F : FnSem) (as : List AV) (ρ : Sl) : R MD := match dsOf as with
  | none => .bad
  | some ds => match F (ds.map .fz) with
    | .ok (.fz d) _ => match thaw ds d with
      | some m => .ok m ρ
      | none => .bad
    | _ => .bad
theorem thaw_core {F : FnSem} {as : List AV} {vs : List V} {Q : VK} (r : Rel K G S ρ A σ H) (av : Paired (AvR K S σ) vs as)
    (q : Run K G E S A σ H (callT F as ρ) (fun m ρ' S' A' H' => ∀ v, Rel K G S' (some m :: ρ') A' (some v :: σ) H' → Q v H')) : spOf K G F vs H (fun v H' => NoK K H' → Q v H') E := by
  unfold callT at q
  cases z : dsOf as with
  | none => rw [z] at q; exact q.elim
  | some ds =>
    rw [z] at q
    simp only at q
    have hf := dsOf_fz av z
    have hc := fzA_cut hf fun e he => he
    refine ⟨cutH K S (lsIns ds), ds.map .fz, [], ⟨(cutH_sub _).trans r.sub, ⟨[], repO_of (repMs_fz hc), List.nodup_nil, fun _ h => h⟩, fun a h => by cases h⟩, ?_⟩
    cases y : F (ds.map .fz) with
    | bad => rw [y] at q; exact q.elim
    | exc x ms' => rw [y] at q; exact q.elim
    | ok m ms' =>
      rw [y] at q
      cases m with
      | fz d =>
        simp only at q ⊢
        cases d with
        | list es =>
          intro v S' A' H' g r' nk
          by_cases cond : lsIns es = [] ∧ es ∉ lsIns ds
          · rw [thaw_yes cond] at q
            simp only at q
            obtain ⟨A1, ro1, _, _⟩ := r'.rep
            cases ro1 with
            | @keep _ _ _ _ Bm Bs hm hs =>
              cases hm with
              | fz hv =>
                cases hv with
                | @lst p xs _ hp hx =>
                  have sHH : Sub H H' := fun b o h => g.fr b o h (by simp)
                  have sS : Sub S H' := r.sub.trans sHH
                  have hH' : H' p = some (.lst xs) := r'.sub p _ hp
                  have Tp : cutH K S (lsIns ds) p = none := by
                    cases w : cutH K S (lsIns ds) p with
                    | none => rfl
                    | some o =>
                      have w2 := g.ss p o w
                      rw [hp] at w2
                      cases w2
                      have hk : keepL K S (lsIns ds) p := by
                        by_cases hk : keepL K S (lsIns ds) p
                        · exact hk
                        · unfold cutH at w
                          rw [if_neg hk] at w
                          cases w
                      rw [cutH_at hk] at w
                      rcases hk with hk | ⟨xs', e, k1, k2, k3⟩
                      · exact (hk xs w).elim
                      · rw [w] at k1
                        cases k1
                        have := fzA_det nk (dpA_mono sS k2) (dpA_mono r'.sub hx)
                        subst this
                        exact (cond.2 k3).elim
                  have Hp : H p = none := by
                    rcases g.sn p (by rw [hp]; intro z; cases z) with w | w | w
                    · exact (w Tp).elim
                    · exact w
                    · cases w
                  have Sp : S p = none := by
                    cases w : S p with
                    | none => rfl
                    | some o => rw [r.sub p o w] at Hp; cases Hp
                  have n : New S H (joinH S S' p) [p] H' := by
                    refine ⟨fun a o h => ?_, fun a o h => ?_, sHH, fun b h => ?_, fun b h => ?_, by simp⟩
                    · unfold joinH
                      rw [if_neg (fun e => by rw [e, Sp] at h; cases h), h]
                    · unfold joinH at h
                      split at h
                      · cases h
                      · split at h
                        · rename_i o' w
                          cases h
                          exact sS a _ w
                        · exact r'.sub a o h
                    · by_cases w : S b = none
                      · unfold joinH at h
                        by_cases e : b = p
                        · rw [if_pos e] at h
                          exact (h rfl).elim
                        · rw [if_neg e, w] at h
                          rcases g.sn b h with u | u | u
                          · left
                            intro w'
                            apply u
                            cases u' : cutH K S (lsIns ds) b with
                            | none => rfl
                            | some o =>
                              have := cutH_sub _ b o u'
                              rw [w] at this
                              cases this
                          · exact .inr u
                          · cases u
                      · exact .inl w
                    · rw [List.mem_singleton.mp h]
                      exact ⟨Hp, by unfold joinH; rw [if_pos rfl]⟩
                  refine q _ _ _ n.grow _ (n.rel r ?_)
                  exact .ml hH' (repMs_fz (fzA_join sS r'.sub hp hx cond.1))
          · rw [thaw_no cond] at q
            exact q.elim
        | _ => exact q.elim
      | _ => exact q.elim
noncomputable def mCallT (F : FnSem) (fa : Sl → R (List AV)) : Sl → R MD := fun ρ => (fa ρ).bind fun as ρ => callT F as ρ
theorem simM_callT {x : Str} {p : Pos} {F : FnSem} {k j : Nat} (D : FnDef X.prog X.w X.K X.mg X.base x F k) (hr : Room j X.A) (hx : Passes (L2.CX X.prog X.w) X E) (h : SimCA X E (e :: es) fa) (hk : k ≤ j := by decide) (hg : Gl X x := by rfl) (hdb : (x == ("__debug__" : Str)) = false := by decide)
    (he : starEach (e :: es) X.env = (false, eval e X.env) :: starEach es X.env := by rfl) (hpl : (backTo pos (starEach es X.env)).any (·.1) = false := by rfl) : SimM X E (.Call (.Name x p) (e :: es) [] pos) (mCallT F fa) := by
  obtain ⟨f, fd, ps, ok, hm, hkp, hb⟩ := D.ex
  obtain ⟨t, pa, s⟩ := h.ex
  refine ⟨_, pe_nok (pe_call ok (hr.mono hk) hg hm hkp hb .nil hx pa hdb he hpl), fun σ ρ S A H Q r q _ => s σ ρ S A H _ r ((Run.bind q).imp fun as ρ1 S1 A1 H1 q1 r1 vs hvs => ?_)⟩
  rw [List.append_nil]
  exact thaw_core r1 hvs q1
@[simp] theorem mCallT_e (F : FnSem) (fa : Sl → R (List AV)) (ρ : Sl) : mCallT F fa ρ = (fa ρ).bind fun as ρ => callT F as ρ := keep rfl
theorem callT_ok {F : FnSem} {as : List AV} {ds es : List PyData} {ms : List MD} {ρ : Sl} (h : dsOf as = some ds) (hF : F (ds.map .fz) = .ok (.fz (.list es)) ms) (h1 : lsIns es = []) (h2 : es ∉ lsIns ds) : callT F as ρ = .ok (.ml (es.map .fz)) ρ := by
  unfold callT
  rw [h]
  simp only
  rw [hF]
  simp only
  rw [thaw_yes ⟨h1, h2⟩]
end DR
end
section
/-! DR23: an owned list is cleared, its last one taken off. -/
namespace DR
open PySem L2
variable {K : PySem.W.Frag} {G : Str → Option Value} {S S' S1 H H' H1 : Hp} {A A' A1 B C : List Addr} {E : XK} {σ : St} {ρ : Sl} {X : Cx} {e a b c : Expr} {es : List Expr} {pos : Pos} {f1 f2 : Sl → R PyData}
/-- x.clear(), x an owned list -/
def sClear (i : Nat) : Sl → RS := fun ρ => match ρ[i]? with
  | some (some (.ml _)) => .nx (ρ.set i (some (.ml [])))
  | _ => .bad
theorem simS_clear (i : Nat) {x : Str} {p apos cpos : Pos} (hN : X.N[i]? = some x := by rfl) (hv : Vis X.env.scope x := by first | exact Or.inl rfl | exact Or.inr (Or.inl rfl) | exact Or.inr (Or.inr rfl)) (hd : (x == ("__debug__" : Str)) = false := by decide)
    (hcd : (x == ("__classdict__" : Str)) = false := by decide)
    (hbase : attributeBase (.Name x p) "clear" X.env (eval (.Name x p) X.env) = eval (.Name x p) X.env := by rfl)
    (hline : (apos.endLine == cpos.line) = true := by rfl)
    (hs : swapsWith (.Call (.Attribute (.Name x p) "clear" apos) [] [] cpos) none pos.line X.env = pure false := by rfl) :
    SimS X E [] (.Expr (.Call (.Attribute (.Name x p) "clear" apos) [] [] cpos) pos) (sClear i) := by
  refine ⟨_, ps_expr (pe_bm0 PySem.F.plainAttrs_list PySem.F.slot_list_clear PySem.F.type_list_clear mt_clear (pe_var hN hv hd hcd) hbase hline) hs, fun σ ρ S A H D r q => ?_⟩
  unfold sClear at q
  split at q
  · rename_i ms0 em
    obtain ⟨a, xs, h1, h2, _, k⟩ := own_upd r em
    obtain ⟨r2, g2⟩ := k [] [] fun Bs H' hs kp => ⟨[], .nil, List.nil_sublist _⟩
    exact ⟨.ref a, h1, .inl ⟨rfl, xs, SqL.of h2⟩, a, xs, rfl, rfl, h2, q σ S A _ g2 r2 Keep.refl⟩
  · exact q.elim
theorem repMs_drop : ∀ {xs : List V} {ms : List MD} {Bs : List Addr}, RepMs K G S H xs ms Bs → ∃ Bs', RepMs K G S H xs.dropLast ms.dropLast Bs' ∧ Bs'.Sublist Bs
  | _, _, _, .nil => ⟨[], .nil, List.Sublist.slnil⟩
  | _, _, _, .cons h .nil => ⟨[], .nil, List.nil_sublist _⟩
  | _, _, _, .cons (A := A1) h (.cons h2 hs) => by
    obtain ⟨Bs', a, b⟩ := repMs_drop (.cons h2 hs)
    exact ⟨A1 ++ Bs', .cons h a, List.Sublist.append_left b A1⟩
/-- x.pop(), x an owned list, what it hands back left aside -/
def sPop (i : Nat) : Sl → RS := fun ρ => match ρ[i]? with
  | some (some (.ml (m :: ms))) => .nx (ρ.set i (some (.ml (m :: ms).dropLast)))
  | _ => .bad
theorem simS_pop (i : Nat) {x : Str} {p apos cpos : Pos} (hN : X.N[i]? = some x := by rfl) (hv : Vis X.env.scope x := by first | exact Or.inl rfl | exact Or.inr (Or.inl rfl) | exact Or.inr (Or.inr rfl)) (hd : (x == ("__debug__" : Str)) = false := by decide)
    (hcd : (x == ("__classdict__" : Str)) = false := by decide)
    (hbase : attributeBase (.Name x p) "pop" X.env (eval (.Name x p) X.env) = eval (.Name x p) X.env := by rfl)
    (hline : (apos.endLine == cpos.line) = true := by rfl)
    (hs : swapsWith (.Call (.Attribute (.Name x p) "pop" apos) [] [] cpos) none pos.line X.env = pure false := by rfl) :
    SimS X E [] (.Expr (.Call (.Attribute (.Name x p) "pop" apos) [] [] cpos) pos) (sPop i) := by
  refine ⟨_, ps_expr (pe_bm0 PySem.F.plainAttrs_list PySem.F.slot_list_pop PySem.F.type_list_pop mt_pop (pe_var hN hv hd hcd) hbase hline) hs, fun σ ρ S A H D r q => ?_⟩
  unfold sPop at q
  split at q
  · rename_i m ms0 em
    obtain ⟨a, xs, h1, h2, hl, k⟩ := own_upd r em
    obtain ⟨r2, g2⟩ := k xs.dropLast (m :: ms0).dropLast fun Bs H' hs kp => by
      obtain ⟨Bs', b1, b2⟩ := repMs_drop hs
      exact ⟨Bs', b1.mono (Sub.refl _) fun a ha => kp a (b2.subset ha), b2⟩
    have hx : xs.length - 1 < xs.length := by
      simp only [List.length_cons] at hl
      omega
    exact ⟨.ref a, h1, .inl ⟨rfl, xs, SqL.of h2⟩, a, xs, _, rfl, rfl, h2, List.getElem?_eq_getElem hx, q σ S A _ g2 r2 Keep.refl⟩
  · exact q.elim
@[simp] theorem sClear_e (i : Nat) (ρ : Sl) : sClear i ρ = match ρ[i]? with
  | some (some (.ml _)) => .nx (ρ.set i (some (.ml [])))
  | _ => .bad := keep rfl
@[simp] theorem sPop_e (i : Nat) (ρ : Sl) : sPop i ρ = match ρ[i]? with
  | some (some (.ml (m :: ms))) => .nx (ρ.set i (some (.ml (m :: ms).dropLast)))
  | _ => .bad := keep rfl
end DR
end
section
/-! DR24: an owned tuple of two, its second part edited. -/
namespace DR
open PySem L2
variable {K : PySem.W.Frag} {G : Str → Option Value} {S S' S1 H H' H1 : Hp} {A A' A1 B C : List Addr} {E : XK} {σ σ0 σ1 : St} {ρ : Sl} {X : Cx} {e a b c elt tg iter : Expr} {es ifs : List Expr} {pos : Pos} {f1 f2 f3 : Sl → R PyData} {fs : Sl → R (List PyData)} {fm : Sl → R MD}

/-- (a, b), b owned -/
def mTup2 (f : Sl → R PyData) (g : Sl → R MD) : Sl → R MD := fun ρ => (f ρ).bind fun d ρ => (g ρ).bind fun m ρ => .ok (.mt [.fz d, m]) ρ
@[simp] theorem mTup2_e (f : Sl → R PyData) (g : Sl → R MD) (ρ : Sl) : mTup2 f g ρ = (f ρ).bind fun d ρ => (g ρ).bind fun m ρ => .ok (.mt [.fz d, m]) ρ := keep rfl
theorem simM_tup2 {k : Nat} {e2 : Expr} {g : Sl → R MD} (h : SimF X E e f1) (hm : SimM X E e2 g) (he : starEach [e, e2] X.env = (false, eval e X.env) :: starEach [e2] X.env := by rfl) (he2 : starEach [e2] X.env = (false, eval e2 X.env) :: starEach [] X.env := by rfl) : SimM X E (.Tuple [e, e2] k pos) (mTup2 f1 g) := by
  obtain ⟨t, p, s⟩ := h.ex
  obtain ⟨t2, p2, s2⟩ := hm.ex
  refine ⟨_, pe_tup (pa_cons p (pa_cons p2 pa_nil he2) he), fun σ ρ S A H Q r q => s σ ρ S A H _ r ((Run.bind q).imp fun d ρ1 S1 A1 H1 q1 r1 v hv => ?_)⟩
  refine s2 σ ρ1 S1 A1 H1 _ r1 ((Run.bind q1).impG fun m ρ2 S2 A2 H2 g2 q2 v2 r2 => ?_)
  refine ⟨(by decide : 2 ≤ sizeLine), fun p np => ?_⟩
  obtain ⟨A0, ro, nd, sb⟩ := r2.rep
  cases ro with
  | @keep _ _ _ _ Bm Bs hm' hs =>
    have S2p : S2 p = none := by
      cases w : S2 p with
      | none => rfl
      | some o => rw [r2.sub p o w] at np; cases np
    have up : ∀ b o, H2 b = some o → upd H2 p (.tup [v, v2]) b = some o := fun b o h => by
      rw [upd_ne fun q => by rw [q, np] at h; cases h]
      exact h
    have nA : p ∉ Bm ++ Bs := fun q => (r2.off p (sb p q)).2 np
    refine q2 S2 (p :: A2) _ ⟨Sub.refl _, fun _ h => .inl h, fun b o h _ => up b o h, fun b h => ?_, fun b h => ?_⟩ _ ⟨fun b o h => up b o (r2.sub b o h), ⟨(p :: ([] ++ (Bm ++ []))) ++ Bs, .keep (.mt upd_same (.cons (.fz (dp_mono g2.ss hv)) (.cons (hm'.mono (Sub.refl _) fun b _ o h => up b o h) .nil))) (hs.mono (Sub.refl _) fun b _ o h => up b o h), ?_, fun b hb => ?_⟩, fun b hb => ?_⟩
    · rcases List.mem_cons.mp h with q | q
      · exact .inr (by rw [q]; exact np)
      · exact .inl q
    · by_cases q : b = p
      · rw [q]; exact np
      · rw [upd_ne q] at h
        exact h
    · simpa using ⟨by simpa using nA, nd⟩
    · simp only [List.nil_append, List.append_nil, List.cons_append, List.mem_cons] at hb
      rcases hb with q | q
      · exact q ▸ List.mem_cons_self ..
      · exact List.mem_cons_of_mem _ (sb b q)
    · rcases List.mem_cons.mp hb with q | q
      · rw [q]
        exact ⟨S2p, by rw [upd_same]; intro z; cases z⟩
      · have o := r2.off b q
        refine ⟨o.1, ?_⟩
        cases w : H2 b with
        | none => exact (o.2 w).elim
        | some u => rw [up b u w]; intro z; cases z
/-- x[k].append((..)), x an owned tuple of owned lists; k and the tuple's parts are flat -/
def sAppAtT (i : Nat) (fk : Sl → R PyData) (fs : Sl → R (List PyData)) : Sl → RS := fun ρ => match ρ[i]?, fk (view ρ), fs (view ρ) with
  | some (some (.mt ms)), .ok (.int k) _, .ok ds _ => match ixN ms.length k with
    | some j => match ms[j]? with
      | some (.ml ns) => if (allFlat ds && decide (ds.length ≤ sizeLine) && decide (ns.length < sizeLine)) = true then .nx (ρ.set i (some (.mt (ms.set j (.ml (ns ++ [.fz (.tuple ds)])))))) else .bad
      | _ => .bad
    | none => .bad
  | _, _, _ => .bad
theorem simS_appAtT (i : Nat) {x : Str} {p p2 apos cpos tpos : Pos} {kk : Nat} {ix : Expr} (hk : SimF X E ix f1) (h : SimA X E es fs) (hN : X.N[i]? = some x := by rfl) (hv : Vis X.env.scope x := by first | exact Or.inl rfl | exact Or.inr (Or.inl rfl) | exact Or.inr (Or.inr rfl)) (hd : (x == ("__debug__" : Str)) = false := by decide)
    (hcd : (x == ("__classdict__" : Str)) = false := by decide) (hp : PlainIx ix := by exact fun _ _ => rfl)
    (hbase : attributeBase (.Subscript (.Name x p) ix p2) "append" X.env (eval (.Subscript (.Name x p) ix p2) X.env) = eval (.Subscript (.Name x p) ix p2) X.env := by rfl)
    (hfew : ((backTo cpos (starEach [.Tuple es kk tpos] X.env)).all (fun x => !x.1) && (backToKw cpos (keywordEach [] X.env)).all (fun x => x.1.isSome)
      && decide (([.Tuple es kk tpos] : List Expr).length + ([] : List Keyword).length + (if ([] : List Keyword).isEmpty then 0 else 1) < 30)) = true := by rfl)
    (hline : (apos.endLine == cpos.line) = true := by rfl) (he : starEach [.Tuple es kk tpos] X.env = (false, eval (.Tuple es kk tpos) X.env) :: starEach [] X.env := by rfl) (hplain : (backTo cpos (starEach [] X.env)).any (·.1) = false := by rfl)
    (hs : swapsWith (.Call (.Attribute (.Subscript (.Name x p) ix p2) "append" apos) [.Tuple es kk tpos] [] cpos) none pos.line X.env = pure false := by rfl) :
    SimS X E [] (.Expr (.Call (.Attribute (.Subscript (.Name x p) ix p2) "append" apos) [.Tuple es kk tpos] [] cpos) pos) (sAppAtT i f1 fs) := by
  obtain ⟨tk, pk, sk⟩ := hk.ex
  obtain ⟨ta, pa, sa⟩ := h.ex
  refine ⟨_, ps_expr (pe_bm PySem.F.plainAttrs_list PySem.F.slot_list_append PySem.F.type_list_append mt_append (pe_ix ix_tup (pe_var hN hv hd hcd) pk hp) (pa_cons (pe_tup pa) pa_nil he) hbase hfew hline he hplain) hs, fun σ ρ S A H D r q => ?_⟩
  unfold sAppAtT at q
  split at q
  · rename_i ms k ρk ds ρd em ek es'
    split at q
    · rename_i j ej
      split at q
      · rename_i ns en
        by_cases hc : (allFlat ds && decide (ds.length ≤ sizeLine) && decide (ns.length < sizeLine)) = true
        · rw [if_pos hc] at q
          simp only [Bool.and_eq_true, decide_eq_true_eq] at hc
          obtain ⟨⟨hf, hd1⟩, hn1⟩ := hc
          obtain ⟨A0, ro, nd, sb⟩ := r.rep
          obtain ⟨v, B, C, h1', h2', h3', pm⟩ := take1 ro em
          cases h2' with
          | @mt a xs _ Bs ha hms =>
            have h1 := h1'
            have h2 := ha
            have hl : xs.length = ms.length := by
              have z := (repO_of hms).len
              simpa using z
            obtain ⟨v2, B2, C2, e1, e2, pm2, kk2⟩ := repMs_split hms en
            cases e2 with
            | @ml b ys _ Ds hb hns =>
              have hly : ys.length = ns.length := by
                have z := (repO_of hns).len
                simpa using z
              -- the frozen view
              have r1 : Rel X.K X.mg (cold S H A0) (view ρ) [] σ H := ⟨cold_sub r.sub, ⟨[], ro.view r.sub fun _ q => q, List.nodup_nil, fun _ q => q⟩, fun a q => (by cases q)⟩
              refine ⟨.ref a, h1, sk σ (view ρ) _ [] H _ r1 ?_⟩
              rw [ek]
              intro Sk Ak Hk gk rk vk hvk
              cases hvk
              have kk' : ∀ b o, H b = some o → Hk b = some o := fun b o h => gk.fr b o h fun z => by cases z
              have hbb : Hk b = some (.lst ys) := kk' b _ hb
              refine ⟨a, xs, k, V.ref b, rfl, rfl, SqT.of (kk' a _ h2), ?_, .inl ⟨rfl, ys, SqL.of hbb⟩, ?_⟩
              · unfold atI
                rw [hl, ej]
                exact e1
              -- the parts of the tuple
              have rk' : Rel X.K X.mg (cold S Hk A0) (view ρ) [] σ Hk := by
                have hSk : Sub S Hk := fun b o h => kk' b o (r.sub b o h)
                have ro' := ro.mono (Sub.refl S) (H' := Hk) fun b _ o h => kk' b o h
                exact ⟨cold_sub hSk, ⟨[], ro'.view hSk fun _ q => q, List.nodup_nil, fun _ q => q⟩, fun a q => (by cases q)⟩
              refine sa σ (view ρ) _ [] Hk _ rk' ?_
              rw [es']
              intro Sd Ad Hd gd rd vs hvs
              have kd : ∀ b o, Hk b = some o → Hd b = some o := fun b o h => gd.fr b o h fun z => by cases z
              refine ⟨by rw [dpA_len hvs]; exact hd1, fun t nt => ?_⟩
              have hvs' : FzA X.K (upd S t (.tup vs)) vs ds := fzA_flat hvs hf
              -- the heap behind
              have hHd : ∀ b o, H b = some o → Hd b = some o := fun b o h => kd b o (kk' b o h)
              have nd0 : ∀ b, Hd b = none → H b = none := fun b h => gk.dm b (gd.dm b h)
              have sSd : Sub S Hd := fun b o h => hHd b o (r.sub b o h)
              have n := New.tup (o := .tup vs) sSd nt
              have rr : Rel X.K X.mg S ρ A σ Hd := ⟨sSd, ⟨A0, ro.mono (Sub.refl S) fun b _ o h => hHd b o h, nd, sb⟩, fun b hb => ⟨(r.off b hb).1, fun z => (r.off b hb).2 (nd0 b z)⟩⟩
              have gg : Grow S A H S A Hd := ⟨Sub.refl S, fun _ h => .inl h, fun b o h _ => hHd b o h, fun _ h => .inl h, nd0⟩
              have g2 := gg.trans n.grow
              have rr2 := n.rel0 rr
              have rr3 := rr2.pushF (v := .non) (d := .none) .non
              have bt : b ≠ t := fun q => by
                rw [← q] at nt
                rw [kd b _ hbb] at nt
                cases nt
              have at_ : a ≠ t := fun q => by
                rw [← q] at nt
                rw [hHd a _ h2] at nt
                cases nt
              have hb3 : upd Hd t (.tup vs) b = some (.lst ys) := by rw [upd_ne bt]; exact kd b _ hbb
              refine ⟨b, ys, .ref t, rfl, rfl, hb3, by rw [hly]; exact hn1, ?_⟩
              -- edit
              obtain ⟨v3, B0, B3, z1, z2, z3, nd3, inA3, k3⟩ := own_edit rr3 em
              cases z2
              cases z3 with
              | @mt a3 xs3 _ Bs3 ha3 hms3 =>
                have ea : some (some (V.ref a)) = some (some (V.ref a3)) := h1.symm.trans z1
                injection ea with ea
                injection ea with ea
                injection ea with ea
                subst ea
                have ha4 : upd Hd t (.tup vs) a = some (.tup xs) := by rw [upd_ne at_]; exact hHd a _ h2
                have exs : xs = xs3 := by
                  rw [ha4] at ha3
                  injection ha3 with ha3
                  injection ha3
                subst exs
                obtain ⟨w, B4, C4, y1, y2, pm4, k4⟩ := repMs_split hms3 en
                rw [e1] at y1
                injection y1 with y1
                subst y1
                cases y2 with
                | @ml b5 ys5 _ Ds5 hb5 hns5 =>
                  have eys : ys = ys5 := by
                    rw [hb3] at hb5
                    injection hb5 with hb5
                    injection hb5
                  subst eys
                  rw [List.nil_append] at nd3
                  have ndc := List.nodup_cons.mp nd3
                  have nd6 := pm4.nodup_iff.mp ndc.2
                  have nd7 := List.nodup_append.mp nd6
                  have nbD : b ∉ Ds5 := (List.nodup_cons.mp nd7.1).1
                  have nbC : b ∉ C4 := fun q => nd7.2.2 b (List.mem_cons_self ..) b q rfl
                  have nab : a ≠ b := fun q => ndc.1 (pm4.mem_iff.mpr (by rw [q]; exact List.mem_append_left _ (List.mem_cons_self ..)))
                  obtain ⟨Bs', w1, w2⟩ := k4 (.ml (ns ++ [.fz (.tuple ds)])) (b :: Ds5) (upd (upd Hd t (.tup vs)) b (.lst (ys ++ [.ref t])))
                    (.ml upd_same (repMs_snoc (.tup (.inl (.inl upd_same)) hvs') (hns5.mono (Sub.refl _) fun c hc o ho => upd_fr (p := b) c o ho fun q => nbD (by rw [← q]; exact hc))))
                    (fun c hc o ho => upd_fr (p := b) c o ho fun q => nbC (by rw [← q]; exact hc))
                  obtain ⟨r4, g4⟩ := k3 (.mt (ms.set j (.ml (ns ++ [.fz (.tuple ds)])))) (a :: Bs') (upd (upd Hd t (.tup vs)) b (.lst (ys ++ [.ref t])))
                    (.mt (by rw [upd_ne nab]; exact ha4) w1)
                    (List.nodup_cons.mpr ⟨fun q => ndc.1 (pm4.mem_iff.mpr (w2.mem_iff.mp q)), w2.nodup_iff.mpr nd6⟩)
                    (fun c hc => .inl (by
                      rcases List.mem_cons.mp hc with q | q
                      · rw [q]; exact List.mem_append_right _ (List.mem_cons_self ..)
                      · exact List.mem_append_right _ (List.mem_cons_of_mem _ (pm4.mem_iff.mpr (w2.mem_iff.mp q)))))
                    (fun c o ho hc => upd_fr c o ho fun q => hc (by
                      rw [q]
                      exact List.mem_append_right _ (List.mem_cons_of_mem _ (pm4.mem_iff.mpr (List.mem_append_left _ (List.mem_cons_self ..))))))
                    (fun c hc => upd_dm hc)
                  exact q σ _ _ _ (g2.trans g4) r4 Keep.refl
        · rw [if_neg hc] at q
          exact q.elim
      · exact q.elim
    · exact q.elim
  · exact q.elim
@[simp] theorem sAppAtT_e (i : Nat) (fk : Sl → R PyData) (fs : Sl → R (List PyData)) (ρ : Sl) : sAppAtT i fk fs ρ = match ρ[i]?, fk (view ρ), fs (view ρ) with
  | some (some (.mt ms)), .ok (.int k) _, .ok ds _ => match ixN ms.length k with
    | some j => match ms[j]? with
      | some (.ml ns) => if (allFlat ds && decide (ds.length ≤ sizeLine) && decide (ns.length < sizeLine)) = true then .nx (ρ.set i (some (.mt (ms.set j (.ml (ns ++ [.fz (.tuple ds)])))))) else .bad
      | _ => .bad
    | none => .bad
  | _, _, _ => .bad := keep rfl
end DR
end
section
/-! DR25: dict(pairs), list(dict(..)). -/
namespace DR
open PySem L2
variable {K : PySem.W.Frag} {G : Str → Option Value} {S S' S1 H H' H1 : Hp} {A A' A1 B C : List Addr} {E : XK} {σ : St} {ρ : Sl} {X : Cx} {e a b c : Expr} {es : List Expr} {pos : Pos} {f1 f2 : Sl → R PyData} {fm : Sl → R MD}
def pairsOf : List PyData → Option (List (Key × PyData))
  | [] => some []
  | .tuple [k, v] :: ds => (keyD k).bind fun k => (pairsOf ds).map fun r => (k, v) :: r
  | _ :: _ => none
def mergeD (kvs more : List (Key × PyData)) : List (Key × PyData) := more.foldl (fun acc kv => dPut acc kv.1 kv.2) kvs
theorem kd_merge : ∀ {more : List (Key × V)} {md : List (Key × PyData)} {kvs : List (Key × V)} {ds : List (Key × PyData)}, Paired (KD K S) more md → Paired (KD K S) kvs ds → Paired (KD K S) (mergeK kvs more) (mergeD ds md)
  | _, _, _, _, .nil, h => h
  | _, _, _, _, .cons (a := x) (b := y) hx t, h => by
    have e := hx.1
    have h2 := kd_put x.1 hx.2 h
    show Paired (KD K S) (mergeK (putK _ x.1 x.2) _) (mergeD (dPut _ y.1 y.2) _)
    rw [← e]
    exact kd_merge t h2
theorem pairs_of_fz : ∀ {xs : List V} {ds : List PyData} {kvs : List (Key × PyData)}, FzA K S xs ds → pairsOf ds = some kvs → ∃ (ps : List Addr) (ks : List (Key × V)), xs = ps.map V.ref ∧ Paired (fun p kv => SqT K S p [kV kv.1, kv.2]) ps ks ∧ Paired (KD K S) ks kvs
  | _, _, _, .nil, e => by
    cases e
    exact ⟨[], [], rfl, .nil, .nil⟩
  | _, _, _, .cons (d := d) h t, e => by
    cases h with
    | tup hq hs =>
      cases hs with
      | nil => cases e
      | cons h1 hs =>
        cases hs with
        | nil => cases e
        | cons h2 hs =>
          cases hs with
          | nil =>
            simp only [pairsOf] at e
            obtain ⟨k, ek, e2⟩ := Option.bind_eq_some_iff.mp e
            obtain ⟨r, er, rfl⟩ := Option.map_eq_some_iff.mp e2
            have := keyD_of h1 ek
            subst this
            obtain ⟨ps, ks, e1, e2, e3⟩ := pairs_of_fz t er
            exact ⟨_ :: ps, (k, _) :: ks, by rw [e1]; rfl, .cons hq e2, .cons ⟨rfl, h2⟩ e3⟩
          | cons _ _ => cases e
    | lst _ _ => cases e
    | _ => cases e
/-- dict(xs), xs a list of pairs -/
def mDictP (f : Sl → R PyData) : Sl → R MD := fun ρ => (f ρ).bind fun d ρ => match d with
  | .list ds => match pairsOf ds with
    | some kvs => .ok (.md (mergeD [] kvs)) ρ
    | none => .bad
  | _ => .bad
theorem paired_mono (s : Sub S S') : ∀ {ps : List Addr} {ks : List (Key × V)}, Paired (fun p kv => SqT K S p [kV kv.1, kv.2]) ps ks → Paired (fun p kv => SqT K S' p [kV kv.1, kv.2]) ps ks
  | _, _, .nil => .nil
  | _, _, .cons h t => .cons (s.t h) (paired_mono s t)
theorem simM_dictP {p3 : Pos} (hm : X.mg "dict" = none) (h : SimF X E e f1) (hc : X.calm = true := by rfl) (hg : Gl X "dict" := by rfl) (he : starEach [e] X.env = (false, eval e X.env) :: starEach [] X.env := by rfl) (hpl : (backTo pos (starEach [] X.env)).any (·.1) = false := by rfl) :
    SimM X E (.Call (.Name "dict" p3) [e] [] pos) (mDictP f1) := by
  obtain ⟨t, pe, s⟩ := h.ex
  refine ⟨_, pe_callTy (call_dictP hc) hg hm (by decide +kernel) (pa_cons pe pa_nil he) (by decide) (by decide) he hpl, fun σ ρ S A H Q r q => s σ ρ S A H _ r ((Run.bind q).imp fun d ρ1 S1 A1 H1 q1 r1 v hv => ?_)⟩
  cases hv with
  | @lst a xs ds h1 hs1 =>
    simp only at q1
    cases z : pairsOf ds with
    | none => rw [z] at q1; exact q1.elim
    | some kvs =>
      rw [z] at q1
      obtain ⟨ps, ks, e1, e2, e3⟩ := pairs_of_fz hs1 z
      refine ⟨a, ps, ks, rfl, .inl (r1.sub.rd (.inl (by rw [← e1]; exact h1))), paired_mono r1.sub e2, fun p np => ?_⟩
      have n : New S1 H1 S1 [p] (upd H1 p (.dK (mergeK [] ks))) := New.one r1.sub np
      exact q1 S1 _ _ n.grow _ (n.rel r1 (.md upd_same (kd_merge e3 .nil)))
  | _ => exact q1.elim
/-- list(d), d a dict just made -/
def mListM (fm : Sl → R MD) : Sl → R MD := fun ρ => (fm ρ).bind fun m ρ => match m with
  | .md kvs => .ok (.ml (kvs.map fun kv => .fz (keyP kv.1))) ρ
  | _ => .bad
theorem Rel.tail {m : MD} {v : V} (r : Rel K G S (some m :: ρ) A (some v :: σ) H) : Rel K G S ρ A σ H := by
  obtain ⟨A0, ro, nd, sb⟩ := r.rep
  cases ro with
  | keep hm hs => exact ⟨r.sub, ⟨_, hs, (List.nodup_append.mp nd).2.1, fun a h => sb a (List.mem_append_right _ h)⟩, r.off⟩
theorem simM_listM {pl : Pos} (hm : X.mg "list" = none) (h : SimM X E e fm) (hc : X.calm = true := by rfl) (hg : Gl X "list" := by rfl) (he1 : starEach [e] X.env = (false, eval e X.env) :: starEach [] X.env := by rfl) (hpl : (backTo pos (starEach [] X.env)).any (·.1) = false := by rfl) :
    SimM X E (.Call (.Name "list" pl) [e] [] pos) (mListM fm) := by
  obtain ⟨t, pe, s⟩ := h.ex
  refine ⟨_, pe_callTy (call_listD hc) hg hm (by decide +kernel) (pa_cons pe pa_nil he1) (by decide) (by decide) he1 hpl, fun σ ρ S A H Q r q => s σ ρ S A H _ r ((Run.bind q).imp fun m ρ1 S1 A1 H1 q1 v r1 => ?_)⟩
  cases m with
  | md kvs =>
    have r0 := r1.tail
    obtain ⟨A0, ro, nd, sb⟩ := r1.rep
    cases ro with
    | keep hm hs =>
      cases hm with
      | @md a xs _ ha hp =>
        refine ⟨a, xs, rfl, .inl ha, fun z hz => ?_⟩
        have n : New S1 H1 S1 [z] (upd H1 z (.lst (xs.map fun kv => kV kv.1))) := New.one r0.sub hz
        exact q1 S1 _ _ n.grow _ (n.rel r0 (.ml upd_same (keys_fz hp)))
  | _ => exact q1.elim
@[simp] theorem mDictP_e (f : Sl → R PyData) (ρ : Sl) : mDictP f ρ = (f ρ).bind fun d ρ => match d with
  | .list ds => match pairsOf ds with
    | some kvs => .ok (.md (mergeD [] kvs)) ρ
    | none => .bad
  | _ => .bad := keep rfl
@[simp] theorem mListM_e (fm : Sl → R MD) (ρ : Sl) : mListM fm ρ = (fm ρ).bind fun m ρ => match m with
  | .md kvs => .ok (.ml (kvs.map fun kv => .fz (keyP kv.1))) ρ
  | _ => .bad := keep rfl
end DR
end
section
/-! DR26: xs[lo::step]. -/
namespace DR
open PySem PySem.Spec PyProof.Rows L2
variable {K : PySem.W.Frag} {G : Str → Option Value} {S S' S1 H H' H1 : Hp} {A A' A1 B C : List Addr} {E : XK} {σ : L2.St} {ρ : Sl} {X : Cx} {e a b c : Expr} {es : List Expr} {pos : Pos} {f1 f2 : Sl → R PyData} {fm : Sl → R MD}
/-- the places that a slice picks -/
def pickI (lo hi st : Option Int) (n : Nat) : List Nat := sliceRange (sliceBounds lo hi st n).1 (sliceBounds lo hi st n).2.1 (sliceBounds lo hi st n).2.2
def pickL {α : Type} (xs : List α) (lo hi st : Option Int) : List α := (pickI lo hi st xs.length).filterMap (xs[·]?)
theorem pickL_mem {α : Type} {xs : List α} {lo hi st : Option Int} {x : α} (h : x ∈ pickL xs lo hi st) : x ∈ xs := by
  obtain ⟨i, _, e⟩ := List.mem_filterMap.mp h
  exact List.mem_of_getElem? e
theorem pickL_map {α β : Type} (f : α → β) (xs : List α) (lo hi st : Option Int) : pickL (xs.map f) lo hi st = (pickL xs lo hi st).map f := by
  unfold pickL
  rw [List.length_map, List.map_filterMap]
  congr 1
  funext i
  rw [List.getElem?_map]
theorem vals_pick {xs : List V} {us : List Value} (r : Vals xs us) : ∀ (is : List Nat), Vals (is.filterMap (xs[·]?)) (is.filterMap (us[·]?))
  | [] => .nil
  | i :: is => by
    have ih := vals_pick r is
    rw [List.filterMap_cons, List.filterMap_cons]
    cases hx : xs[i]? with
    | none =>
      have : us[i]? = none := by
        rw [List.getElem?_eq_none_iff] at hx ⊢
        rw [← r.length]
        exact hx
      rw [this]
      exact ih
    | some x =>
      obtain ⟨u, hu, ru⟩ := r.get hx
      rw [hu]
      exact .cons ru ih
theorem fzA_pick {xs : List V} {ds : List PyData} (h : FzA K S xs ds) : ∀ (is : List Nat), FzA K S (is.filterMap (xs[·]?)) (is.filterMap (ds[·]?))
  | [] => .nil
  | i :: is => by
    have ih := fzA_pick h is
    rw [List.filterMap_cons, List.filterMap_cons]
    cases hd : ds[i]? with
    | none =>
      have : xs[i]? = none := by
        rw [List.getElem?_eq_none_iff] at hd ⊢
        rw [dpA_len h]
        exact hd
      rw [this]
      exact ih
    | some d =>
      obtain ⟨v, hv, rv⟩ := dpA_get h hd
      rw [hv]
      exact .cons rv ih
def tSlS (K : PySem.W.Frag) (te : TE) (tl th ts : TO) : TE := fun σ H Q => te σ H fun x H1 => tl σ H1 fun l H2 => th σ H2 fun u H3 => ts σ H3 fun o H4 => ∃ a xs, x = .ref a ∧ SqL K H4 a xs ∧ o ≠ some 0 ∧ ∀ p, H4 p = none → Q (.ref p) (upd H4 p (.lst (pickL xs l u o)))
theorem pe_sliceS {lo hi : Option Expr} {st : Expr} {te : TE} {tl th ts : TO} {p3 : Pos} (he : PE X e te) (hl : PO X lo tl) (hh : PO X hi th) (hst : PO X (some st) ts) : PE X (.Subscript e (.Slice lo hi (some st) p3) pos) (tSlS X.K te tl th ts) := by
  refine ⟨fun pins s σ H Q I h => ?_⟩
  refine Subscript_ (thn (he.run pins s σ H _ I h) fun v s1 ⟨x, H1, I1, r1, q1⟩ => ?_)
  refine wpAny_Slice (thn (hl.run pins s1 σ H1 _ I1 q1) fun vl s2 ⟨l, H2, I2, pl, q2⟩ => ?_)
  refine thn (hh.run pins s2 σ H2 _ I2 q2) fun vu s3 ⟨u, H3, I3, pu, q3⟩ => ?_
  refine thn (hst.run pins s3 σ H3 _ I3 q3) fun vs s4 ⟨o, H4, I4, ps, q4⟩ => ?_
  obtain ⟨a, xs, ex, hx, h0, q⟩ := q4
  subst ex
  cases r1
  have I5 : Inv X pins σ H4 { s4 with heap := s4.heap.push { cls := .type "slice", data := .fields #[vl, vu, vs] } } := I4.kept (t' := s4.toks) fun b ob q => Heap.get?_push_of_some _ q
  obtain ⟨its, r, ht, hz⟩ := I5.list hx
  have hlen := r.length
  show wpAny (model X.prog X.w) X.A (subscriptTail e (.Slice lo hi (some st) p3) (.ref a) (.ref s4.heap.objs.size)) (EP X pins σ Q) X.xe { s4 with heap := s4.heap.push { cls := .type "slice", data := .fields #[vl, vu, vs] } }
  refine tail_any (ops := [.ref a, .ref s4.heap.objs.size]) ht.isList.typeIs (PySem.slot_list_getitem.lookup) ?_ (by with_unfolding_all rfl)
  refine wpAny_getItem_list_slice ht.isList (Heap.IsSliceOf.new _ vl vu vs) pl pu ps h0 ?_ (by rw [List.size_toArray]; omega)
  have sz := slicePick_size_le its.toArray l u o
  have ee : slicePick its.toArray l u o = (pickL its l u o).toArray := by
    unfold slicePick pickL pickI
    simp
  rw [ee] at sz ⊢
  rw [List.size_toArray, List.size_toArray] at sz
  have rv : Vals (pickL xs l u o) (pickL its l u o) := by
    unfold pickL
    rw [hlen]
    exact vals_pick r _
  refine ⟨.ref _, _, I5.laid (t' := s4.toks) (o := .lst (pickL xs l u o)) (fun b ob q => Heap.get?_push_of_some _ q) (Nat.le_refl _) ?_, rfl, q _ (I5.hok.fresh (Nat.le_refl _))⟩
  exact ⟨by rw [rv.length]; omega, _, 0, rv, Heap.get?_push_size _ rfl⟩
/-- xs[lo:hi:st], a list -/
def mPick (f : Sl → R PyData) (l u s : Sl → R (Option Int)) : Sl → R MD := fun ρ => (f ρ).bind fun d ρ => (l ρ).bind fun lo ρ => (u ρ).bind fun hi ρ => (s ρ).bind fun st ρ => match d with
  | .list ds => if st ≠ some 0 then .ok (.ml ((pickL ds lo hi st).map .fz)) ρ else .bad
  | _ => .bad
theorem simM_pick {lo hi : Option Expr} {st : Expr} {l u s : Sl → R (Option Int)} {p3 : Pos} (h : SimF X E e f1) (hl : SimO X E lo l) (hu : SimO X E hi u) (hs : SimO X E (some st) s) : SimM X E (.Subscript e (.Slice lo hi (some st) p3) pos) (mPick f1 l u s) := by
  obtain ⟨t, pe, sm⟩ := h.ex
  obtain ⟨tl, pl, sl⟩ := hl.ex
  obtain ⟨th, ph, sh⟩ := hu.ex
  obtain ⟨ts, ps, ss⟩ := hs.ex
  refine ⟨_, pe_sliceS pe pl ph ps, fun σ ρ S A H Q r q => sm σ ρ S A H _ r ((Run.bind q).imp fun d ρ1 S1 A1 H1 q1 r1 v hv => ?_)⟩
  refine sl σ ρ1 S1 A1 H1 _ r1 ((Run.bind q1).impG fun lo ρ2 S2 A2 H2 g2 q2 r2 => ?_)
  refine sh σ ρ2 S2 A2 H2 _ r2 ((Run.bind q2).impG fun hi ρ3 S3 A3 H3 g3 q3 r3 => ?_)
  refine ss σ ρ3 S3 A3 H3 _ r3 ((Run.bind q3).impG fun st ρ4 S4 A4 H4 g4 q4 r4 => ?_)
  have hv4 := dp_mono g4.ss (dp_mono g3.ss (dp_mono g2.ss hv))
  cases hv4 with
  | @lst a xs ds h1 hs1 =>
    by_cases h0 : st ≠ some 0
    · simp only [if_pos h0] at q4
      refine ⟨a, xs, rfl, .inl (r4.sub.rd (.inl h1)), h0, fun p np => ?_⟩
      have n : New S4 H4 S4 [p] (upd H4 p (.lst (pickL xs lo hi st))) := New.one r4.sub np
      refine q4 S4 _ _ n.grow _ (n.rel r4 (.ml upd_same (repMs_fz ?_)))
      unfold pickL
      rw [dpA_len hs1]
      exact fzA_pick hs1 _
    · simp only [if_neg h0] at q4
      exact q4.elim
  | _ => exact q4.elim
@[simp] theorem mPick_e (f : Sl → R PyData) (l u s : Sl → R (Option Int)) (ρ : Sl) : mPick f l u s ρ = (f ρ).bind fun d ρ => (l ρ).bind fun lo ρ => (u ρ).bind fun hi ρ => (s ρ).bind fun st ρ => match d with
  | .list ds => if st ≠ some 0 then .ok (.ml ((pickL ds lo hi st).map .fz)) ρ else .bad
  | _ => .bad := keep rfl
end DR
end
section
/-! DR27: min of a list of tuples. -/
namespace DR
open PySem PySem.Spec PyProof.Rows L2
variable {K : PySem.W.Frag} {G : Str → Option Value} {S S' S1 H H' H1 : Hp} {A A' A1 B C : List Addr} {E : XK} {σ : L2.St} {ρ : Sl} {X : Cx} {e a b c : Expr} {es : List Expr} {pos : Pos} {f1 f2 : Sl → R PyData} {fm : Sl → R MD}
def rMinT (K : PySem.W.Frag) : List V → Hp → VK → Prop := fun vs H Q => ∃ (a : Addr) (xs : List V) (x : PyData) (ds : List PyData), vs = [.ref a] ∧ SqL K H a xs ∧ DpAll K H xs (x :: ds) ∧ PySem.W.AlikeAll (x :: ds) ∧ PyData.depthAll (x :: ds) ≤ 60 ∧
  ∀ (i : Nat) v, xs[i]? = some v → (x :: ds)[i]? = some (PySem.W.minD x ds) → Q v H
theorem vals_back {xs : List V} {us : List Value} (r : Vals xs us) {i : Nat} {u : Value} (h : us[i]? = some u) : ∃ x, xs[i]? = some x ∧ RelV x u := by
  have hi : i < us.length := (List.getElem?_eq_some_iff.mp h).1
  have hi2 : i < xs.length := by rw [r.length]; exact hi
  have hx : xs[i]? = some xs[i] := List.getElem?_eq_getElem hi2
  obtain ⟨u', e, q⟩ := r.get hx
  rw [h] at e
  cases e
  exact ⟨_, hx, q⟩
theorem cr_minT (hc : X.calm = true) (hu : X.A.units + 64 < cLine) : CallR X (.builtin "min") (rMinT X.K) := by
  intro pins s σ H vs us Q I r h
  obtain ⟨a, xs, x, ds, rfl, hs, hd, hal, hdp, q⟩ := h
  obtain ⟨its, rv, hl, hz⟩ := I.list hs
  rw [Vals.ref1 r]
  obtain ⟨as, ra⟩ := Dp.readsAll I (x :: ds) xs its hd rv
  refine PySem.W.min_list_data (I.ok.hd hc) hl.isList (by simpa using ra) hal (by omega) fun i v h' tk bs hv hr k => ?_
  have hv' : its[i]? = some v := by simpa using hv
  obtain ⟨xv, hx, rx⟩ := vals_back rv hv'
  obtain ⟨bs', hr', hi, _⟩ := PySem.W.readsAll_atA (vs := its.toArray) (by simpa using ra) i v hv
  have hd' := (reads_det (fun b o e _ => k b o e) hr' hr).1
  refine ⟨xv, H, I.kept k, rx, q i xv hx ?_⟩
  rw [hd', List.getD_eq_getElem?_getD, List.getElem?_eq_getElem hi]
  rfl
def gMin1 : List PyData → Option PyData
  | [.list (x :: ds)] => if (alikeB (x :: ds) && (x :: ds).all tupB && decide (PyData.depthAll (x :: ds) ≤ 60)) = true then some (PySem.W.minD x ds) else none
  | _ => none
theorem min_mem (x : PyData) (ds : List PyData) : PySem.W.minD x ds ∈ x :: ds := by
  unfold PySem.W.minD
  induction ds generalizing x with
  | nil => exact List.mem_cons_self ..
  | cons y ds ih =>
    rw [List.foldl_cons]
    split
    · exact List.mem_cons_of_mem _ (ih y)
    · rcases List.mem_cons.mp (ih x) with h | h
      · rw [h]; exact List.mem_cons_self ..
      · exact List.mem_cons_of_mem _ (List.mem_cons_of_mem _ h)
theorem simF_min1 {p : Pos} {j : Nat} (hr : Room j X.A) (hm : X.mg "min" = none) (h : SimF X E e f1) (hc : X.calm = true := by rfl) (hg : Gl X "min" := by rfl) (he : starEach [e] X.env = (false, eval e X.env) :: starEach [] X.env := by rfl) (hpl : (backTo pos (starEach [] X.env)).any (·.1) = false := by rfl) :
    SimF X E (.Call (.Name "min" p) [e] [] pos) (mCall gMin1 (mCons f1 mNil)) := by
  obtain ⟨t, pa, s⟩ := (simA_cons h simA_nil he).ex
  refine ⟨_, pe_callB (cr_minT hc (Nat.lt_of_le_of_lt (by omega) hr.units)) hg hm (by decide +kernel) pa (by decide) (by decide) he hpl, fun σ ρ S A H Q r q => s σ ρ S A H _ r ((Run.bind q).imp fun as ρ1 S1 A1 H1 q1 r1 vs hvs => ?_)⟩
  unfold lft gMin1 at q1
  split at q1
  · rename_i m em
    split at em
    · rename_i x ds
      obtain ⟨v, rfl, hv⟩ := fzA1 hvs
      obtain ⟨hz, e2⟩ := ite_some em
      subst e2
      simp only [Bool.and_eq_true, decide_eq_true_eq] at hz
      obtain ⟨⟨z1, z2⟩, z3⟩ := hz
      cases hv with
      | @lst a xs _ h1 hs1 =>
        refine ⟨a, xs, x, ds, rfl, .inl (r1.sub.rd (.inl h1)), FzA.dp (dpA_mono r1.sub hs1), ⟨fun d hd d' hd' => List.all_eq_true.mp (List.all_eq_true.mp z1 d hd) d' hd', fun d hd q => ?_⟩, z3, fun i v hx hd => ?_⟩
        · have := List.all_eq_true.mp z2 d hd
          rw [q] at this
          cases this
        · obtain ⟨d, e1, hf⟩ := dpA_get' hs1 hx
          rw [hd] at e1
          cases e1
          exact q1 S1 A1 H1 Grow.refl r1 _ hf
    · cases em
  · exact q1.elim
end DR
end
section
/-! DR28: raise, try. -/
namespace DR
open PySem PySem.Spec PyProof.Rows L2
variable {K : PySem.W.Frag} {G : Str → Option Value} {S S' S1 H H' H1 : Hp} {A A' A1 B C : List Addr} {E : XK} {σ σ0 σ1 : L2.St} {ρ : Sl} {X : Cx} {e a b c : Expr} {es : List Expr} {pos : Pos} {f1 f2 f3 : Sl → R PyData} {fs : Sl → R (List PyData)} {W W1 W2 : List Nat} {D : Ends} {F F1 F2 : Sl → RS}

/-! ### raise -/
def xcB (K : PySem.W.Frag) (C : Addr) : Bool := PySem.W.excIn K C [.type "ValueError", .type "Exception", .type "BaseException", .type "object"] "ValueError.__new__" && (PySem.W.keepIn K (.ref C) && (decide (PySem.W.subIn K (.ref C) (.type "BaseException") = some true) && decide (PySem.W.typeIn K (.ref C) = some (.type "type"))))
structure XCls (K : PySem.W.Frag) (mg : Str → Option Value) (x : Str) : Prop where
  ex : ∃ C, mg x = some (.ref C) ∧ xcB K C = true
def sRaise (x : Str) : Sl → RS := fun ρ => .exc ⟨x, []⟩ ρ
theorem simS_raise {x m : Str} {j : Nat} {p p2 pos pos' : Pos} (k : XCls X.K X.mg x) (tk : Takes X (fun cls d _ H => E cls d H)) (hc : X.calm = true := by rfl) (hg : Gl X x := by rfl) (hdb : (x == ("__debug__" : Str)) = false := by decide) :
    SimS X E [] (.Raise (some (.Call (.Name x p) [.Constant (.str m) j p2] [] pos)) none pos') (sRaise x) := by
  obtain ⟨C, gC, ok⟩ := k.ex
  obtain ⟨o1, ok⟩ := Bool.and_eq_true_iff.mp ok
  obtain ⟨o2, ok⟩ := Bool.and_eq_true_iff.mp ok
  obtain ⟨o3, o4⟩ := Bool.and_eq_true_iff.mp ok
  refine ⟨_, L2.ps_raise hc tk (L2.pmk_own PySem.F.excBase_ValueError o1 gC o2 (raises_own (of_decide_eq_true o3) (of_decide_eq_true o4)) hg hdb), fun σ ρ S A H D r q => ?_⟩
  exact q σ S A H (.ref C) none Grow.refl r Keep.refl ⟨gC, .inl ⟨rfl, rfl⟩⟩

/-! ### runs that may raise into a try -/
def RunX (K : PySem.W.Frag) (G : Str → Option Value) (Wx : WX) (W : List Nat) (σ0 : L2.St) (S : Hp) (A : List Addr) (H : Hp) (r : RS) (D : Ends) : Prop := match r with
  | .nx ρ => ∀ σ' S' A' H', Grow S A H S' A' H' → Rel K G S' ρ A' σ' H' → Keep W σ0 σ' → D.nx σ' H'
  | .rt m ρ => ∀ v σ' S' A' H', Grow S A H S' A' H' → Rel K G S' (some m :: ρ) A' (some v :: σ') H' → Keep W σ0 σ' → D.rt v H'
  | .exc x ρ => ∀ σ' S' A' H' cls dd, Grow S A H S' A' H' → Rel K G S' ρ A' σ' H' → Keep W σ0 σ' → ExcAt K G S' H' x cls dd → Wx cls dd σ' H'
  | .bad => False
theorem RunX.start {Wx : WX} {r : RS} (g : Grow S A H S' A' H') (h : RunX K G Wx W σ0 S A H r D) : RunX K G Wx W σ0 S' A' H' r D := by
  cases r with
  | nx ρ => exact fun _ _ _ _ g' => h _ _ _ _ (g.trans g')
  | rt m ρ => exact fun _ _ _ _ _ g' => h _ _ _ _ _ (g.trans g')
  | exc x ρ => exact fun _ _ _ _ _ _ g' => h _ _ _ _ _ _ (g.trans g')
  | bad => exact h
theorem RunX.ofR {Wx : WX} {α : Type} {r : R α} {f : α → Sl → RS} (h : RunX K G Wx W σ S A H (r.s f) D) : Run K G (WE Wx σ) S A σ H r fun a ρ1 S1 A1 H1 => RunX K G Wx W σ S1 A1 H1 (f a ρ1) D := by
  cases r with
  | ok a ρ => exact fun _ _ _ g => RunX.start g h
  | exc x ρ => exact fun _ _ _ _ _ g r' ex => h _ _ _ _ _ _ g r' Keep.refl ex
  | bad => exact h
theorem RunX.sub {Wx : WX} {r : RS} (hw : ∀ i ∈ W1, i ∈ W) (h : RunX K G Wx W σ0 S A H r D) : RunX K G Wx W1 σ0 S A H r D := by
  cases r with
  | nx ρ => exact fun _ _ _ _ g' r' k' => h _ _ _ _ g' r' (k'.sub hw)
  | rt m ρ => exact fun _ _ _ _ _ g' r' k' => h _ _ _ _ _ g' r' (k'.sub hw)
  | exc x ρ => exact fun _ _ _ _ _ _ g' r' k' => h _ _ _ _ _ _ g' r' (k'.sub hw)
  | bad => exact h
/-- a block within a try -/
structure SimX (X : Cx) (Wx : WX) (W : List Nat) (sts : List Stmt) (f : Sl → RS) : Prop where
  run : ∀ σ ρ S A H D pins s, Rel X.K X.mg S ρ A σ H → RunX X.K X.mg Wx W σ S A H (f ρ) D → Inv X pins σ H s → wpAny (model X.prog X.w) X.A (execs sts X.env) (SP X pins D) X.xe s
/-- an expression within a try -/
structure SimMX (X : Cx) (Wx : WX) (e : Expr) (f : Sl → R MD) : Prop where
  run : ∀ σ ρ S A H Q pins s, Rel X.K X.mg S ρ A σ H → Run X.K X.mg (WE Wx σ) S A σ H (f ρ) (fun m ρ' S' A' H' => ∀ v, Rel X.K X.mg S' (some m :: ρ') A' (some v :: σ) H' → Q v H') → Inv X pins σ H s →
    wpAny (model X.prog X.w) X.A (eval e X.env) (EP X pins σ Q) X.xe s
/-- the widest readings -/
def tOfE (X : Cx) (e : Expr) : TE := fun σ H Q => ∀ pins s, Inv X pins σ H s → wpAny (model X.prog X.w) X.A (eval e X.env) (EP X pins σ Q) X.xe s
theorem pe_of (X : Cx) (e : Expr) : PE X e (tOfE X e) := ⟨fun pins s _ _ _ I h => h pins s I⟩
def tOfB (X : Cx) (sts : List Stmt) : TS := fun D σ H => ∀ pins s, Inv X pins σ H s → wpAny (model X.prog X.w) X.A (execs sts X.env) (SP X pins D) X.xe s
theorem pss_of (X : Cx) (sts : List Stmt) : PSs X sts (tOfB X sts) := ⟨fun pins s _ _ _ I h => h pins s I⟩
theorem simMX_call {Wx : WX} {x : Str} {p : Pos} {F : FnSem} {k j : Nat} {fa : Sl → R (List AV)} (Df : FnDef X.prog X.w X.K X.mg X.base x F k) (hr : Room j X.A) (tk : Takes X Wx) (h : ∀ E, SimCA X E (e :: es) fa) (hk : k ≤ j := by decide) (hg : Gl X x := by rfl) (hdb : (x == ("__debug__" : Str)) = false := by decide)
    (he : starEach (e :: es) X.env = (false, eval e X.env) :: starEach es X.env := by rfl) (hpl : (backTo pos (starEach es X.env)).any (·.1) = false := by rfl) : SimMX X Wx (.Call (.Name x p) (e :: es) [] pos) (mCallF F fa) := by
  obtain ⟨f, fd, ps, ok, hm, hkp, hb⟩ := Df.ex
  refine ⟨fun σ ρ S A H Q pins s r q I => ?_⟩
  obtain ⟨t, pa, sm⟩ := (h (WE Wx σ)).ex
  refine (pe_callS (E := WE Wx) ok (hr.mono hk) hg hm hkp hb (fun σ => passAt tk σ) pa hdb he hpl).run pins s σ H Q I (sm σ ρ S A H _ r ((Run.bind q).imp fun as ρ1 S1 A1 H1 q1 r1 vs hvs => ?_))
  exact call_core r1 hvs q1
theorem simX_set (i : Nat) {Wx : WX} {x : Str} {pos' : Pos} {f : Sl → R MD} (nd : X.N.Nodup) (h : SimMX X Wx e f) (hi : X.N[i]? = some x := by rfl) (hx : Loc X.env.scope x := by first | exact Or.inl rfl | exact Or.inr rfl) (hs : swapsWith e (some (.Name x pos')) pos.line X.env = pure false := by rfl)
    (hf : X.fn x = true ∨ X.env.scope.names.lookup x = some .local := by first | exact .inl rfl | exact .inr rfl | assumption) : SimX X Wx [i] [.Assign [.Name x pos'] e pos] (sSet i f) := by
  refine ⟨fun σ ρ S A H D pins s r q I => ?_⟩
  refine (pss_one (ps_set nd hi hx (pe_of X e) hs hf)).run pins s σ H D I (fun pins s I => h.run σ ρ S A H _ pins s r ((RunX.ofR q).imp fun m ρ1 S1 A1 H1 q1 v r1 => ?_) I)
  exact q1 _ S1 A1 H1 Grow.refl (Rel.setV r1) (Keep.set (List.mem_singleton.mpr rfl))
theorem simX_drop {Wx : WX} {f : Sl → R MD} (h : SimMX X Wx e f) (hs : swapsWith e none pos.line X.env = pure false := by rfl) : SimX X Wx [] [.Expr e pos] (sDrop f) := by
  refine ⟨fun σ ρ S A H D pins s r q I => ?_⟩
  refine (pss_one (ps_expr (pe_of X e) hs)).run pins s σ H D I (fun pins s I => h.run σ ρ S A H _ pins s r ((RunX.ofR q).imp fun m ρ1 S1 A1 H1 q1 v r1 => ?_) I)
  exact q1 σ S1 A1 H1 Grow.refl r1.pop Keep.refl

/-! ### what stands behind a slot that goes -/
mutual
theorem RepM.noxd : ∀ {v : V} {m : MD} {A : List Addr}, RepM K G S H v m A → ∀ a ∈ A, ∀ fs, H a ≠ some (.xd fs)
  | _, _, _, .fz _, a, h => by cases h
  | _, _, _, .sc _, a, h => by cases h
  | _, _, _, .fd _ _, a, h => by cases h
  | _, _, _, .fo _ _ _ _ _, a, h => by cases h
  | _, _, _, .fx _ _ _ _ _, a, h => by cases h
  | _, _, _, .gone, a, h => by cases h
  | _, _, _, .ml h hs, a, q => by
    rcases List.mem_cons.mp q with rfl | q
    · rw [h]; intro fs z; cases z
    · exact RepMs.noxd hs a q
  | _, _, _, .mt h hs, a, q => by
    rcases List.mem_cons.mp q with rfl | q
    · rw [h]; intro fs z; cases z
    · exact RepMs.noxd hs a q
  | _, _, _, .md h hs, a, q => by
    rcases List.mem_cons.mp q with rfl | q
    · rw [h]; intro fs z; cases z
    · cases q
  | _, _, _, .mk h hs, a, q => by
    rcases List.mem_cons.mp q with rfl | q
    · rw [h]; intro fs z; cases z
    · cases q
  | _, _, _, .mo h g n w hs, a, q => by
    rcases List.mem_cons.mp q with rfl | q
    · rw [h]; intro fs z; cases z
    · exact RepMs.noxd hs a q
theorem RepMs.noxd : ∀ {vs : List V} {ms : List MD} {A : List Addr}, RepMs K G S H vs ms A → ∀ a ∈ A, ∀ fs, H a ≠ some (.xd fs)
  | _, _, _, .nil, a, h => by cases h
  | _, _, _, .cons h hs, a, q => by
    rcases List.mem_append.mp q with q | q
    · exact RepM.noxd h a q
    · exact RepMs.noxd hs a q
end
theorem RepO.noxd : ∀ {σ : L2.St} {ρ : Sl} {A : List Addr}, RepO K G S H σ ρ A → ∀ a ∈ A, ∀ fs, H a ≠ some (.xd fs)
  | _, _, _, .nil, a, h => by cases h
  | _, _, _, .skip h, a, q => h.noxd a q
  | _, _, _, .keep h hs, a, q => by
    rcases List.mem_append.mp q with q | q
    · exact h.noxd a q
    · exact hs.noxd a q
theorem RepO.drop2 : ∀ {σ : L2.St} {ρ : Sl} {A : List Addr} (i : Nat), RepO K G S H σ ρ A → ∃ C D, RepO K G S H (σ.set i none) (ρ.set i none) C ∧ A.Perm (C ++ D)
  | _, _, _, _, .nil => ⟨[], [], .nil, List.Perm.refl _⟩
  | _, _, A, 0, .skip h => ⟨A, [], .skip h, by simp⟩
  | _, _, _, 0, .keep (A := A1) (B := B1) h hs => ⟨B1, A1, .skip hs, List.perm_append_comm⟩
  | _, _, _, i + 1, .skip h => by
    obtain ⟨C, D, a, b⟩ := RepO.drop2 i h
    exact ⟨C, D, .skip a, b⟩
  | _, _, _, i + 1, .keep (A := A1) h hs => by
    obtain ⟨C, D, a, b⟩ := RepO.drop2 i hs
    exact ⟨A1 ++ C, D, .keep h a, by rw [List.append_assoc]; exact List.Perm.append_left A1 b⟩
theorem Rel.drop2 (i : Nat) (r : Rel K G S ρ A σ H) : Rel K G S (ρ.set i none) A (σ.set i none) H := by
  obtain ⟨A0, ro, nd, sb⟩ := r.rep
  obtain ⟨C, D, a, b⟩ := ro.drop2 i
  exact ⟨r.sub, ⟨C, a, nodup_sub nd b, fun x q => sb x (b.mem_iff.mpr (List.mem_append_left _ q))⟩, r.off⟩
/-- only what is owned indeed -/
theorem Rel.tight (r : Rel K G S ρ A σ H) : ∃ A', Grow S A H S A' H ∧ Rel K G S ρ A' σ H ∧ ∀ a ∈ A', ∀ fs, H a ≠ some (.xd fs) := by
  obtain ⟨A0, ro, nd, sb⟩ := r.rep
  exact ⟨A0, ⟨Sub.refl S, fun _ h => .inl h, fun _ _ h _ => h, fun b h => .inl (sb b h), fun _ h => h⟩, ⟨r.sub, ⟨A0, ro, nd, fun _ h => h⟩, fun a h => r.off a (sb a h)⟩, ro.noxd⟩

/-! ### try: body, except T as n: suite -/
def sTryAs (i : Nat) (cat : Exn → Option Bool) (F : Sl → RS) (Fs : Exn → Sl → RS) : Sl → RS := fun ρ => match F ρ with
  | .exc x ρ1 => match cat x with
    | some true => match Fs x (ρ1.set i (some .gone)) with
      | .nx ρ2 => .nx (ρ2.set i none)
      | .rt m ρ2 => .rt m ρ2
      | _ => .bad
    | some false => .exc x ρ1
    | none => .bad
  | .nx ρ1 => .nx ρ1
  | .rt m ρ1 => .rt m ρ1
  | .bad => .bad
/-- an except suite, the exception in slot i -/
structure SimSu (X : Cx) (i : Nat) (W : List Nat) (sts : List Stmt) (Fs : Exn → Sl → RS) : Prop where
  run : ∀ x a oe cls d pn, Zc cls d oe → (∃ vs, oe.data = .fields vs) → X.mg x.cls = some cls → ∀ σ ρ S A H D pins s, Rel X.K X.mg S ρ A σ H → ExcAt X.K X.mg S H x cls d → (∀ dd, d = some dd → dd ∉ A) → σ[i]? = some (some (.ref a)) →
    RunS X.K X.mg (fun _ _ _ => False) W σ S A H (Fs x ρ) D → Inv (X.suite a ((a, oe) :: pn)) pins σ H s → wpAny (model X.prog X.w) (X.suite a ((a, oe) :: pn)).A (execs sts X.env) (SP (X.suite a ((a, oe) :: pn)) pins D) (fun _ _ => False) s
section
variable {i : Nat} {x n : Str} {body suite : List Stmt} {b₀ : Stmt} {np pos' : Pos} {Fs : Exn → Sl → RS} {cat : Exn → Option Bool} {cv : Value}
theorem simS_tryAs (i : Nat) (hs : X.stack = X.env :: X.outer) (hf : X.env.frame = some X.env.locals) (nd : X.N.Nodup) (hc : Names X x cv) (tk : Takes X (fun cls d _ H => E cls d H))
    (hcat : ∀ y cls b, X.mg y.cls = some cls → cat y = some b → PySem.W.exmOne X.K cls cv = some b)
    (hb : ∀ (Wx : WX) (pn : List (Addr × Obj)) (xe : Value → Shared → Prop), Takes (X.tr pn xe) Wx → PassesOwn (model X.prog X.w) X.A X.env xe → SimX (X.tr pn xe) Wx W1 body F)
    (hsu : SimSu X i W2 (b₀ :: suite) Fs) (hi : X.N[i]? = some n := by rfl) (hln : X.env.kindOf n = some .local := by rfl) :
    SimS X E (W1 ++ (W2 ++ [i])) (.Try body [.ExceptHandler (some (.Name x np)) (some n) (b₀ :: suite) pos'] [] [] pos) (sTryAs i cat F Fs) := by
  have m1 : ∀ j ∈ W1, j ∈ W1 ++ (W2 ++ [i]) := fun j h => List.mem_append_left _ h
  have m2 : ∀ j ∈ W2, j ∈ W1 ++ (W2 ++ [i]) := fun j h => List.mem_append_right _ (List.mem_append_left _ h)
  have m3 : i ∈ W1 ++ (W2 ++ [i]) := List.mem_append_right _ (List.mem_append_right _ (List.mem_singleton.mpr rfl))
  refine ⟨_, L2.ps_try_as (tb := fun Wx D σ H => ∀ pn xe, Takes (X.tr pn xe) Wx → PassesOwn (model X.prog X.w) X.A X.env xe → tOfB (X.tr pn xe) body D σ H)
    (ts := fun a cls d D σ H => ∀ oe pn, Zc cls d oe → (∃ vs, oe.data = .fields vs) → tOfB (X.suite a ((a, oe) :: pn)) (b₀ :: suite) D σ H) (i := i) hs hf nd hi hln hc tk
    (fun Wx pn xe t p => ⟨fun pins s σ H D I h => h pn xe t p pins s I⟩) (fun a oe cls d pn hz hv => ⟨fun pins s σ H D I h => h oe pn hz hv pins s I⟩), fun σ ρ S A H D r q => ?_⟩
  intro pn xe tkx po pins s I
  refine (hb _ pn xe tkx po).run σ ρ S A H D pins s r ?_ I
  unfold sTryAs at q
  cases z : F ρ with
  | nx ρ1 =>
    rw [z] at q
    exact fun σ' S' A' H' g r' k => q σ' S' A' H' g r' (k.sub m1)
  | rt m ρ1 =>
    rw [z] at q
    exact fun v σ' S' A' H' g r' k => q v σ' S' A' H' g r' (k.sub m1)
  | bad =>
    rw [z] at q
    exact q.elim
  | exc y ρ1 =>
    rw [z] at q
    intro σ' S' A' H' cls dd g r' kp ex
    cases ce : cat y with
    | none =>
      simp only [ce] at q
      exact q.elim
    | some b =>
      cases b with
      | false =>
        simp only [ce] at q
        exact ⟨false, hcat y cls _ ex.1 ce, fun h => Bool.noConfusion h, fun _ => q σ' S' A' H' cls dd g r' (kp.sub m1) ex⟩
      | true =>
        simp only [ce] at q
        refine ⟨true, hcat y cls _ ex.1 ce, fun _ a na => ?_, fun h => Bool.noConfusion h⟩
        intro oe pn2 hz hv pins2 s2 I2
        obtain ⟨A0, g0, r0, nx⟩ := r'.tight
        have rg : Rel X.K X.mg S' (some .gone :: ρ1) A0 (some (.ref a) :: σ') H' := by
          obtain ⟨A1, ro, nd1, sb⟩ := r0.rep
          exact ⟨r0.sub, ⟨A1, by have := RepO.keep (v := V.ref a) (RepM.gone (K := X.K) (G := X.mg) (S := S') (H := H')) ro; rwa [List.nil_append] at this, nd1, sb⟩, r0.off⟩
        have rg := rg.setV (i := i)
        have hl : i < σ'.length := by
          have h1 := I2.len
          have h2 := (List.getElem?_eq_some_iff.mp hi).1
          rw [List.length_set] at h1
          have h3 : (X.suite a ((a, oe) :: pn2)).N = X.N := rfl
          rw [h3] at h1
          omega
        refine hsu.run y a oe cls dd pn2 hz hv ex.1 _ _ S' A0 H' _ pins2 s2 rg ex (fun dx hd => ?_) (List.getElem?_set_self hl) ?_ I2
        · intro hm
          rcases ex.2 with ⟨_, e2⟩ | ⟨d1, fs1, e1, e2, _⟩
          · rw [e2] at hd
            cases hd
          · rw [e1] at hd
            injection hd with hd
            subst hd
            exact nx _ hm _ e2
        · cases y2 : Fs y (ρ1.set i (some .gone)) with
          | nx ρ2 =>
            rw [y2] at q
            intro σ2 S2 A2 H2 g2 r2 k2
            refine q (σ2.set i none) S2 A2 H2 ((g.trans g0).trans g2) (r2.drop2 i) ?_
            exact ((kp.sub m1).trans (Keep.set m3)).trans ((k2.sub m2).trans (Keep.set m3))
          | rt m ρ2 =>
            rw [y2] at q
            intro v σ2 S2 A2 H2 g2 r2 k2
            exact q v σ2 S2 A2 H2 ((g.trans g0).trans g2) r2 (((kp.sub m1).trans (Keep.set m3)).trans (k2.sub m2))
          | exc _ _ =>
            rw [y2] at q
            exact q.elim
          | bad =>
            rw [y2] at q
            exact q.elim
end
end DR
end
section
/-! DR29: of what class a caught exception is. -/
namespace DR
open PySem PySem.Spec PyProof.Rows L2
variable {K : PySem.W.Frag} {G : Str → Option Value} {S S' S1 H H' H1 : Hp} {A A' A1 B C : List Addr} {E : XK} {σ σ0 σ1 : L2.St} {ρ : Sl} {X : Cx} {e b c : Expr} {es : List Expr} {pos : Pos} {D : Ends}

/-! ### isinstance(e, c), e the caught exception -/
def DictAt (d : Option Addr) (H : Hp) : Prop := d = none ∨ ∃ dd fs, d = some dd ∧ H dd = some (.xd fs)
def rIsX (K : PySem.W.Frag) (D a : Addr) (d : Option Addr) : List V → Hp → VK → Prop := fun xs H Q => ∃ (c : V) (cv : Value) (b : Bool), xs = [.ref a, c] ∧ (∀ u, RelV c u → u = cv) ∧ PySem.W.kitOne K (.ref D) cv = some b ∧ DictAt d H ∧ Q (.bl b) H
theorem call_isX {a D : Addr} {d : Option Addr} {oe : Obj} {pn : List (Addr × Obj)} (C : ExcC X.K D) (hz : Zc (.ref D) d oe) (hf : ∃ vs, oe.data = .fields vs) : CallR (X.suite a ((a, oe) :: pn)) (.builtin "isinstance") (rIsX X.K D a d) := by
  intro pins s σ H xs us Q I r h
  obtain ⟨c, cv, b, rfl, hcv, e, hd, q⟩ := h
  cases r with
  | cons rx rr =>
    cases rr with
    | cons rt rr =>
      cases rr
      cases rx
      have ec := hcv _ rt
      subst ec
      obtain ⟨hget, _⟩ := I.pin (a, oe) (List.mem_append.mpr (.inl List.mem_cons_self))
      obtain ⟨vs, hv⟩ := hf
      have hcl : (PySem.W.clsIn X.K D).isSome = true := by
        obtain ⟨cd, hc, _⟩ := PySem.W.any_some C.hd
        rw [hc]
        rfl
      have J : ∃ od, PySem.W.InstAt s.heap a oe D od := by
        obtain ⟨oc, dd, oda, osl⟩ := oe
        obtain ⟨h1, h2⟩ := hz
        dsimp only at h1 h2 hv
        subst h1 h2 hv
        rcases hd with rfl | ⟨d1, fs, rfl, hx⟩
        · exact ⟨none, hget, rfl, rfl, trivial⟩
        · have hx : ObjOk X.prog X.w H s.heap d1 (.xd fs) := I.hok d1 _ hx
          obtain ⟨mA, hns, hr⟩ := hx
          obtain ⟨od, ho, hl⟩ := lookIn_ns hns
          exact ⟨some od, hget, rfl, rfl, ho⟩
      obtain ⟨od, J⟩ := J
      exact PySem.W.kia_one (PySem.W.kitx_exc hcl C.hg C.hk C.hs C.ha C.hn C.ht C.hm) I.kIn J e (fun z => nomatch z) fun tk => ⟨.bl b, H, I.kept (t' := tk) fun _ _ z => z, rfl, q⟩

/-! ### the classes of refusals -/
def kNames : List Str := ["NoDay", "NoRank", "NoClause", "NoValue", "NoDecree", "TooLow", "Crooked", "Full", "Sealed", "NoHold", "NoPage"]
def excB (K : PySem.W.Frag) (D : Addr) : Bool :=
  decide (PySem.W.findIn K (.ref D) "__getattribute__" = some (some (.builtin "BaseException.__getattribute__"))) && (decide (PySem.W.findIn K (.ref D) "__getattr__" = some none) && (decide (PySem.W.subIn K (.ref D) (.type "BaseException") = some true) && (PySem.W.hasDictIn K D &&
    (decide (PySem.W.findIn K (.ref D) "__class__" = some (some (.builtin "object.__class__"))) && (decide (PySem.W.specialIn K (.builtin "object.__class__") "__get__" = some (some (.builtin "getset_descriptor.__get__"))) && (decide (PySem.W.takesIn K (.builtin "object.__class__") = some true) &&
      decide (PySem.W.mroIn K D (.type "object") = some true)))))))
theorem excB_ok {D : Addr} (h : excB K D = true) : ExcC K D := by
  obtain ⟨h1, h⟩ := Bool.and_eq_true_iff.mp h
  obtain ⟨h2, h⟩ := Bool.and_eq_true_iff.mp h
  obtain ⟨h3, h⟩ := Bool.and_eq_true_iff.mp h
  obtain ⟨h4, h⟩ := Bool.and_eq_true_iff.mp h
  obtain ⟨h5, h⟩ := Bool.and_eq_true_iff.mp h
  obtain ⟨h6, h⟩ := Bool.and_eq_true_iff.mp h
  obtain ⟨h7, h8⟩ := Bool.and_eq_true_iff.mp h
  exact ⟨of_decide_eq_true h1, of_decide_eq_true h2, of_decide_eq_true h3, h4, of_decide_eq_true h5, of_decide_eq_true h6, of_decide_eq_true h7, of_decide_eq_true h8⟩
/-- a class of refusals, with the root and all of them -/
def kind1B (K : PySem.W.Frag) (C0 : Addr) (cs : List Addr) (D : Addr) : Bool :=
  excB K D && (decide (PySem.W.exmOne K (.ref D) (.ref C0) = some true) && (decide (PySem.W.kitOne K (.ref D) (.type "ValueError") = some true) &&
    cs.all fun C => decide (PySem.W.kitOne K (.ref D) (.ref C) = some (decide (D = C))) && decide (PySem.W.exmOne K (.ref D) (.ref C) = some (decide (D = C)))))
structure Kinds (K : PySem.W.Frag) (mg : Str → Option Value) : Prop where
  ex : ∃ (C0 : Addr) (cs : List Addr), mg "RollError" = some (.ref C0) ∧ Paired (fun x C => mg x = some (.ref C)) kNames cs ∧ cs.Nodup ∧ cs.all (kind1B K C0 cs) = true
theorem paired_at {α β : Type} {P : α → β → Prop} : ∀ {xs : List α} {ys : List β} {x : α}, Paired P xs ys → x ∈ xs → ∃ (i : Nat) (y : β), xs[i]? = some x ∧ ys[i]? = some y ∧ P x y
  | _, _, x, .cons (a := a) (b := b) h t, m => by
    rcases List.mem_cons.mp m with rfl | m
    · exact ⟨0, b, rfl, rfl, h⟩
    · obtain ⟨i, y, h1, h2, h3⟩ := paired_at t m
      exact ⟨i + 1, y, h1, h2, h3⟩
theorem kNames_nodup : kNames.Nodup := by decide
theorem nodup_at {α : Type} {l : List α} (n : l.Nodup) {i j : Nat} {x : α} (h1 : l[i]? = some x) (h2 : l[j]? = some x) : i = j := by
  obtain ⟨a1, b1⟩ := List.getElem?_eq_some_iff.mp h1
  obtain ⟨a2, b2⟩ := List.getElem?_eq_some_iff.mp h2
  exact (List.getElem_inj n).mp (b1.trans b2.symm)
/-- what is known of a refusal's class -/
structure Kind (K : PySem.W.Frag) (mg : Str → Option Value) (x : Str) (D : Addr) : Prop where
  exc : ExcC K D
  ve : PySem.W.kitOne K (.ref D) (.type "ValueError") = some true
  root : ∃ C0, mg "RollError" = some (.ref C0) ∧ PySem.W.exmOne K (.ref D) (.ref C0) = some true
  one : ∀ y ∈ kNames, ∃ C, mg y = some (.ref C) ∧ PySem.W.kitOne K (.ref D) (.ref C) = some (decide (x = y)) ∧ PySem.W.exmOne K (.ref D) (.ref C) = some (decide (x = y))
theorem Kinds.at_ {mg : Str → Option Value} (k : Kinds K mg) {x : Str} (hx : x ∈ kNames) : ∃ D, mg x = some (.ref D) ∧ Kind K mg x D := by
  obtain ⟨C0, cs, g0, gs, nd, ok⟩ := k.ex
  obtain ⟨i, D, h1, h2, h3⟩ := paired_at gs hx
  have o := List.all_eq_true.mp ok D (List.mem_of_getElem? h2)
  obtain ⟨o1, o⟩ := Bool.and_eq_true_iff.mp o
  obtain ⟨o2, o⟩ := Bool.and_eq_true_iff.mp o
  obtain ⟨o3, o4⟩ := Bool.and_eq_true_iff.mp o
  refine ⟨D, h3, excB_ok o1, of_decide_eq_true o3, ⟨C0, g0, of_decide_eq_true o2⟩, fun y hy => ?_⟩
  obtain ⟨j, C, k1, k2, k3⟩ := paired_at gs hy
  obtain ⟨p1, p2⟩ := Bool.and_eq_true_iff.mp (List.all_eq_true.mp o4 C (List.mem_of_getElem? k2))
  have e : decide (D = C) = decide (x = y) := by
    by_cases q : x = y
    · subst q
      have := nodup_at kNames_nodup h1 k1
      subst this
      rw [h2] at k2
      injection k2 with k2
      rw [decide_eq_true k2, decide_eq_true rfl]
    · rw [decide_eq_false q, decide_eq_false]
      intro z
      subst z
      have := nodup_at nd h2 k2
      subst this
      rw [h1] at k1
      injection k1 with k1
      exact q k1
  rw [e] at p1 p2
  exact ⟨C, k3, of_decide_eq_true p1, of_decide_eq_true p2⟩
def catRoll (x : Exn) : Option Bool := if x.cls ∈ kNames then some true else none
theorem catRoll_ok {mg : Str → Option Value} (k : Kinds K mg) {C0 : Addr} (g0 : mg "RollError" = some (.ref C0)) : ∀ (y : Exn) cls b, mg y.cls = some cls → catRoll y = some b → PySem.W.exmOne K cls (.ref C0) = some b := fun y cls b h e => by
  unfold catRoll at e
  by_cases q : y.cls ∈ kNames
  · rw [if_pos q] at e
    injection e with e
    subst e
    obtain ⟨D, h2, kd⟩ := k.at_ q
    rw [h] at h2
    injection h2 with h2
    subst h2
    obtain ⟨C1, g1, r⟩ := kd.root
    rw [g0] at g1
    injection g1 with g1
    injection g1 with g1
    rw [g1]
    exact r
  · rw [if_neg q] at e
    cases e

/-! ### lists of isinstance(e, c) -/
/-- by name: true, or the class itself -/
def kAns (x : Str) : Option Str → Bool
  | none => true
  | some y => decide (x = y)
structure PAe (Y : Cx) (i : Nat) (a : Addr) (d : Option Addr) (es : List Expr) (bs : List Bool) : Prop where
  ex : ∃ t, PA Y es t ∧ ∀ σ H Q, σ[i]? = some (some (V.ref a)) → DictAt d H → Q (bs.map V.bl) H → t σ H Q
section
variable {i : Nat} {a : Addr} {d : Option Addr} {oe : Obj} {pn : List (Addr × Obj)} {x n : Str} {p p2 p3 : Pos} {bs : List Bool} {DD : Addr}
theorem pae_nil {Y : Cx} : PAe Y i a d [] [] := ⟨_, pa_nil, fun σ H Q _ _ q => q⟩
theorem pae_own {y : Str} (kd : Kind X.K X.mg x DD) (hz : Zc (.ref DD) d oe) (hf : ∃ vs, oe.data = .fields vs) (hy : y ∈ kNames) (zi : X.mg "isinstance" = none) (h : PAe (X.suite a ((a, oe) :: pn)) i a d es bs) (hN : X.N[i]? = some n := by rfl) (hv : Vis X.env.scope n := by first | exact Or.inl rfl | exact Or.inr (Or.inl rfl) | exact Or.inr (Or.inr rfl)) (hd : (n == ("__debug__" : Str)) = false := by decide) (hcd : (n == ("__classdict__" : Str)) = false := by decide)
    (hg : Gl X y := by rfl) (hgi : Gl X "isinstance" := by rfl) (hdb : (y == ("__debug__" : Str)) = false := by decide) (he : starEach (.Call (.Name "isinstance" p) [.Name n p2, .Name y p3] [] pos :: es) X.env = (false, eval (.Call (.Name "isinstance" p) [.Name n p2, .Name y p3] [] pos) X.env) :: starEach es X.env := by rfl)
    (he2 : starEach [.Name n p2, .Name y p3] X.env = (false, eval (.Name n p2) X.env) :: starEach [.Name y p3] X.env := by rfl) (he3 : starEach [.Name y p3] X.env = (false, eval (.Name y p3) X.env) :: starEach [] X.env := by rfl) (hpl : (backTo pos (starEach [.Name y p3] X.env)).any (·.1) = false := by rfl) :
    PAe (X.suite a ((a, oe) :: pn)) i a d (.Call (.Name "isinstance" p) [.Name n p2, .Name y p3] [] pos :: es) (decide (x = y) :: bs) := by
  obtain ⟨C, gC, k1, _⟩ := kd.one y hy
  obtain ⟨t, pt, s⟩ := h.ex
  refine ⟨_, pa_cons (pe_callB (X := X.suite a ((a, oe) :: pn)) (call_isX kd.exc hz hf) hgi zi (by decide +kernel) (pa_cons (pe_var hN hv hd hcd) (pa_cons (pe_glob (v := V.ref C) hg gC rfl hdb) pa_nil he3) he2) (by decide) (by decide) he2 hpl) pt he, fun σ H Q h1 h2 q => ?_⟩
  exact ⟨V.ref a, h1, V.ref C, .ref C, _, rfl, fun u hu => hu, k1, h2, s σ H _ h1 h2 q⟩
theorem pae_ve (kd : Kind X.K X.mg x DD) (hz : Zc (.ref DD) d oe) (hf : ∃ vs, oe.data = .fields vs) (zi : X.mg "isinstance" = none) (zv : X.mg "ValueError" = none) (h : PAe (X.suite a ((a, oe) :: pn)) i a d es bs) (hN : X.N[i]? = some n := by rfl) (hv : Vis X.env.scope n := by first | exact Or.inl rfl | exact Or.inr (Or.inl rfl) | exact Or.inr (Or.inr rfl)) (hd : (n == ("__debug__" : Str)) = false := by decide) (hcd : (n == ("__classdict__" : Str)) = false := by decide)
    (hg : Gl X "ValueError" := by rfl) (hgi : Gl X "isinstance" := by rfl) (he : starEach (.Call (.Name "isinstance" p) [.Name n p2, .Name "ValueError" p3] [] pos :: es) X.env = (false, eval (.Call (.Name "isinstance" p) [.Name n p2, .Name "ValueError" p3] [] pos) X.env) :: starEach es X.env := by rfl)
    (he2 : starEach [.Name n p2, .Name "ValueError" p3] X.env = (false, eval (.Name n p2) X.env) :: starEach [.Name "ValueError" p3] X.env := by rfl) (he3 : starEach [.Name "ValueError" p3] X.env = (false, eval (.Name "ValueError" p3) X.env) :: starEach [] X.env := by rfl) (hpl : (backTo pos (starEach [.Name "ValueError" p3] X.env)).any (·.1) = false := by rfl) :
    PAe (X.suite a ((a, oe) :: pn)) i a d (.Call (.Name "isinstance" p) [.Name n p2, .Name "ValueError" p3] [] pos :: es) (true :: bs) := by
  obtain ⟨t, pt, s⟩ := h.ex
  refine ⟨_, pa_cons (pe_callB (X := X.suite a ((a, oe) :: pn)) (call_isX kd.exc hz hf) hgi zi (by decide +kernel) (pa_cons (pe_var hN hv hd hcd) (pa_cons (pe_bltn (v := .ty "ValueError") hg zv (by decide +kernel) rfl (by decide) (by decide)) pa_nil he3) he2) (by decide) (by decide) he2 hpl) pt he, fun σ H Q h1 h2 q => ?_⟩
  exact ⟨V.ref a, h1, V.ty "ValueError", .type "ValueError", _, rfl, fun u hu => hu, kd.ve, h2, s σ H _ h1 h2 q⟩
end

/-! ### the suite of the twelve questions -/
def kindsD (x : Str) : List PyData := (true :: kNames.map fun y => decide (x = y)).map .bool
def suKinds (j : Nat) (x : Exn) : Sl → RS := fun ρ => if x.cls ∈ kNames then .nx (ρ.set j (some (.ml ((kindsD x.cls).map .fz)))) else .bad
theorem dictAt_upd {d : Option Addr} {p : Addr} {o : HO} (h : DictAt d H) (n : H p = none) : DictAt d (upd H p o) := by
  rcases h with h | ⟨dd, fs, h1, h2⟩
  · exact .inl h
  · refine .inr ⟨dd, fs, h1, ?_⟩
    rw [upd_ne (ne_of_none h2 n)]
    exact h2
section
variable {m : Str} {e1 e2 e3 : List Expr} {q1 q2 q3 q4 q5 q6 q7 q8 q9 q10 q11 q12 q13 : Pos}
theorem simSu_kinds (i j : Nat) (k : Kinds X.K X.mg) (nd : X.N.Nodup) (hij : i ≠ j)
    (hp : ∀ x DD a d oe pn, Kind X.K X.mg x DD → Zc (.ref DD) d oe → (∃ vs, oe.data = .fields vs) → ∃ b1 b2 b3, true :: kNames.map (fun y => decide (x = y)) = b1 ++ b2 ++ b3 ∧ b1.length ≤ 100 ∧ b2.length ≤ 100 ∧ b3.length ≤ 100 ∧ PAe (X.suite a ((a, oe) :: pn)) i a d e1 b1 ∧ PAe (X.suite a ((a, oe) :: pn)) i a d e2 b2 ∧ PAe (X.suite a ((a, oe) :: pn)) i a d e3 b3)
    (hj : X.N[j]? = some m := by rfl) (hm : Loc X.env.scope m := by first | exact Or.inl rfl | exact Or.inr rfl) (hmf : X.fn m = true ∨ X.env.scope.names.lookup m = some .local := by first | exact .inl rfl | exact .inr rfl | assumption) (hd : (m == ("__debug__" : Str)) = false := by decide) (hcd : (m == ("__classdict__" : Str)) = false := by decide)
    (s1 : swapsWith (.List e1 q1) (some (.Name m q2)) q3.line X.env = pure false := by rfl) (s2 : swapsWith (.BinOp (.Name m q4) .Add (.List e2 q5) q6) (some (.Name m q7)) q8.line X.env = pure false := by rfl) (s3 : swapsWith (.BinOp (.Name m q9) .Add (.List e3 q10) q11) (some (.Name m q13)) q12.line X.env = pure false := by rfl) :
    SimSu X i [j] [.Assign [.Name m q2] (.List e1 q1) q3, .Assign [.Name m q7] (.BinOp (.Name m q4) .Add (.List e2 q5) q6) q8, .Assign [.Name m q13] (.BinOp (.Name m q9) .Add (.List e3 q10) q11) q12] (suKinds j) := by
  have hv : Vis X.env.scope m := hm.elim .inl fun h => .inr (.inl h)
  refine ⟨fun x a oe cls d pn hz hf hcls σ ρ S A H D pins s r ex hdA hσ q I => ?_⟩
  unfold suKinds at q
  by_cases hx : x.cls ∈ kNames
  · rw [if_pos hx] at q
    obtain ⟨DD, g, kd⟩ := k.at_ hx
    rw [hcls] at g
    injection g with g
    subst g
    obtain ⟨b1, b2, b3, eb, l1, l2, l3, P1, P2, P3⟩ := hp x.cls DD a d oe pn kd hz hf
    obtain ⟨t1, p1, r1⟩ := P1.ex
    obtain ⟨t2, p2, r2⟩ := P2.ex
    obtain ⟨t3, p3, r3⟩ := P3.ex
    have da : DictAt d H := by
      rcases ex.2 with ⟨_, h⟩ | ⟨dd, fs, h1, h2, _⟩
      · exact .inl h
      · exact .inr ⟨dd, fs, h1, h2⟩
    have hjl : j < σ.length := by
      have h1 := I.len
      have h3 : (X.suite a ((a, oe) :: pn)).N = X.N := rfl
      rw [h1, h3]
      exact (List.getElem?_eq_some_iff.mp hj).1
    have hbad : ∀ {σ : L2.St} {v : V}, j < σ.length → (σ.set j (some v))[j]? = some (some v) := fun h => List.getElem?_set_self h
    have hexc : ∀ {σ : L2.St} {v : V}, σ[i]? = some (some (V.ref a)) → (σ.set j (some v))[i]? = some (some (V.ref a)) := fun h => by rw [List.getElem?_set_ne (Ne.symm hij)]; exact h
    refine (pss_cons (X := X.suite a ((a, oe) :: pn)) (ps_set nd hj hm (pe_lst p1) s1 hmf) (pss_cons (ps_set nd hj hm (pe_op op_cat (pe_var hj hv hd hcd) (pe_lst p2)) s2 hmf) (pss_one (ps_set nd hj hm (pe_op op_cat (pe_var hj hv hd hcd) (pe_lst p3)) s3 hmf)))).run pins s σ H D I ?_
    refine r1 σ H _ hσ da ⟨by rw [List.length_map]; exact small_len (by omega), fun a1 n1 => ?_⟩
    refine ⟨_, hbad hjl, r2 _ _ _ (hexc hσ) (dictAt_upd da n1) ⟨by rw [List.length_map]; exact small_len (by omega), fun a2 n2 => ?_⟩⟩
    have ne21 : a1 ≠ a2 := fun z => by
      subst z
      rw [upd_same] at n2
      cases n2
    refine ⟨a1, a2, _, _, rfl, rfl, (upd_ne ne21).trans upd_same, upd_same, by rw [List.length_map, List.length_map]; exact small_len (by omega), fun a3 n3 => ?_⟩
    refine ⟨_, hbad (by rw [List.length_set]; exact hjl), r3 _ _ _ (hexc (hexc hσ)) (dictAt_upd (dictAt_upd (dictAt_upd da n1) n2) n3) ⟨by rw [List.length_map]; exact small_len (by omega), fun a4 n4 => ?_⟩⟩
    have ne34 : a3 ≠ a4 := fun z => by
      subst z
      rw [upd_same] at n4
      cases n4
    refine ⟨a3, a4, _, _, rfl, rfl, (upd_ne ne34).trans upd_same, upd_same, by rw [List.length_append, List.length_map, List.length_map, List.length_map]; exact small_len (by omega), fun a5 n5 => ?_⟩
    have sb1 : Sub H (upd H a1 (.lst (b1.map V.bl))) := sub_new n1
    have sb := ((sb1.trans (sub_new (o := .lst (b2.map V.bl)) n2)).trans (sub_new (o := .lst (b1.map V.bl ++ b2.map V.bl)) n3)).trans (sub_new (o := .lst (b3.map V.bl)) n4)
    have sb5 := sb.trans (sub_new (o := .lst (b1.map V.bl ++ b2.map V.bl ++ b3.map V.bl)) n5)
    have h5 : H a5 = none := by
      cases z : H a5 with
      | none => rfl
      | some o =>
        have := sb _ _ z
        rw [n5] at this
        cases this
    have s5 : S a5 = none := by
      cases z : S a5 with
      | none => rfl
      | some o =>
        have := r.sub _ _ z
        rw [h5] at this
        cases this
    have N : New S H S [a5] _ := ⟨Sub.refl S, r.sub.trans sb5, sb5, fun b h => .inl h, fun b h => by
      rw [List.mem_singleton] at h
      subst h
      exact ⟨h5, s5⟩, by simp⟩
    have vv : FzA X.K S (b1.map V.bl ++ b2.map V.bl ++ b3.map V.bl) (kindsD x.cls) := by
      unfold kindsD
      rw [eb, ← List.map_append, ← List.map_append]
      generalize b1 ++ b2 ++ b3 = l
      induction l with
      | nil => exact .nil
      | cons b l ih => exact .cons (.bl b) ih
    have rr := (N.rel r (rep_lst (G := X.mg) upd_same vv)).setV (i := j)
    have es : ((σ.set j (some (V.ref a1))).set j (some (V.ref a3))).set j (some (V.ref a5)) = σ.set j (some (V.ref a5)) := by rw [List.set_set, List.set_set]
    show D.nx (((σ.set j (some (V.ref a1))).set j (some (V.ref a3))).set j (some (V.ref a5))) _
    rw [es]
    exact q _ S _ _ N.grow rr (Keep.set (List.mem_singleton.mpr rfl))
  · rw [if_neg hx] at q
    exact q.elim
end
end DR
namespace DR
open PySem PySem.Spec PyProof.Rows L2
theorem Kinds.root0 {K : PySem.W.Frag} {mg : Str → Option Value} (k : Kinds K mg) : ∃ C0, mg "RollError" = some (.ref C0) := by
  obtain ⟨C0, cs, g0, _⟩ := k.ex
  exact ⟨C0, g0⟩
end DR
end
section
/-! DR30: equations for raise and try; owned tuples taken apart. -/
namespace DR
open PySem L2
variable {K : PySem.W.Frag} {G : Str → Option Value} {S S' S1 H H' H1 : Hp} {A A' A1 B C : List Addr} {E : XK} {σ σ0 σ1 : L2.St} {ρ : Sl} {X : Cx} {e b c : Expr} {es : List Expr} {pos : Pos} {D : Ends}
@[simp] theorem sRaise_e (x : Str) (ρ : Sl) : sRaise x ρ = .exc ⟨x, []⟩ ρ := keep rfl
@[simp] theorem sTryAs_e (i : Nat) (cat : Exn → Option Bool) (F : Sl → RS) (Fs : Exn → Sl → RS) (ρ : Sl) : sTryAs i cat F Fs ρ = match F ρ with
  | .exc x ρ1 => match cat x with
    | some true => match Fs x (ρ1.set i (some .gone)) with
      | .nx ρ2 => .nx (ρ2.set i none)
      | .rt m ρ2 => .rt m ρ2
      | _ => .bad
    | some false => .exc x ρ1
    | none => .bad
  | .nx ρ1 => .nx ρ1
  | .rt m ρ1 => .rt m ρ1
  | .bad => .bad := keep rfl
@[simp] theorem suKinds_e (j : Nat) (x : Exn) (ρ : Sl) : suKinds j x ρ = if x.cls ∈ kNames then .nx (ρ.set j (some (.ml ((kindsD x.cls).map .fz)))) else .bad := keep rfl
theorem catRoll_in {x : Exn} (h : x.cls ∈ kNames) : catRoll x = some true := by
  unfold catRoll
  rw [if_pos h]
end DR
end
section
/-! DR31: (a, b), a an owned name; a, b = f(..), a tuple with owned parts. -/
namespace DR
open PySem L2
variable {K : PySem.W.Frag} {G : Str → Option Value} {S S' S1 H H' H1 : Hp} {A A' A1 B C : List Addr} {E : XK} {σ σ0 σ1 : L2.St} {ρ : Sl} {X : Cx} {e b c : Expr} {es : List Expr} {pos : Pos} {D : Ends} {f1 f2 : Sl → R PyData} {W W1 W2 : List Nat}
/-- (a, b), a the owned name of slot i -/
def mTupN (i : Nat) (f : Sl → R PyData) : Sl → R MD := fun ρ => match ρ[i]? with
  | some (some _) => (f ρ).bind fun d ρ1 => match ρ1[i]? with
    | some (some m) => .ok (.mt [m, .fz d]) (ρ1.set i none)
    | _ => .bad
  | _ => .bad
@[simp] theorem mTupN_e (i : Nat) (f : Sl → R PyData) (ρ : Sl) : mTupN i f ρ = match ρ[i]? with
  | some (some _) => (f ρ).bind fun d ρ1 => match ρ1[i]? with
    | some (some m) => .ok (.mt [m, .fz d]) (ρ1.set i none)
    | _ => .bad
  | _ => .bad := keep rfl
theorem simM_tupN (i : Nat) {k : Nat} {x : Str} {p : Pos} (h : SimF X E e f1) (hN : X.N[i]? = some x := by rfl) (hv : Vis X.env.scope x := by first | exact Or.inl rfl | exact Or.inr (Or.inl rfl) | exact Or.inr (Or.inr rfl)) (hd : (x == ("__debug__" : Str)) = false := by decide)
    (hcd : (x == ("__classdict__" : Str)) = false := by decide) (he : starEach [.Name x p, e] X.env = (false, eval (.Name x p) X.env) :: starEach [e] X.env := by rfl) (he2 : starEach [e] X.env = (false, eval e X.env) :: starEach [] X.env := by rfl) : SimM X E (.Tuple [.Name x p, e] k pos) (mTupN i f1) := by
  obtain ⟨t, pf, s⟩ := h.ex
  refine ⟨_, pe_tup (pa_cons (pe_var hN hv hd hcd) (pa_cons pf pa_nil he2) he), fun σ ρ S A H Q r q => ?_⟩
  unfold mTupN at q
  split at q
  · rename_i m0 em
    obtain ⟨v, B0, h1, _⟩ := r.at em
    refine ⟨v, h1, s σ ρ S A H _ r ((Run.bind q).imp fun d ρ2 S2 A2 H2 q2 r2 v2 hv2 => ?_)⟩
    split at q2
    · rename_i m em2
      refine ⟨(by decide : 2 ≤ sizeLine), fun p np => ?_⟩
      obtain ⟨A0, ro, nd, sb⟩ := r2.rep
      obtain ⟨v', Bm, Bs, g1, hm', hs, pm⟩ := take1 ro em2
      have ev : some (some v) = some (some v') := h1.symm.trans g1
      injection ev with ev
      injection ev with ev
      subst ev
      have nd' := pm.nodup_iff.mp nd
      have sb' : ∀ a ∈ Bm ++ Bs, a ∈ A2 := fun a h => sb a (pm.mem_iff.mpr h)
      have S2p : S2 p = none := by
        cases w : S2 p with
        | none => rfl
        | some o => rw [r2.sub p o w] at np; cases np
      have up : ∀ b o, H2 b = some o → upd H2 p (.tup [v, v2]) b = some o := fun b o h => by
        rw [upd_ne fun q => by rw [q, np] at h; cases h]
        exact h
      have nA : p ∉ Bm ++ Bs := fun q => (r2.off p (sb' p q)).2 np
      refine q2 S2 (p :: A2) _ ⟨Sub.refl _, fun _ h => .inl h, fun b o h _ => up b o h, fun b h => ?_, fun b h => ?_⟩ _ ⟨fun b o h => up b o (r2.sub b o h), ⟨(p :: (Bm ++ ([] ++ []))) ++ Bs, .keep (.mt upd_same (.cons (hm'.mono (Sub.refl _) fun b _ o h => up b o h) (.cons (.fz hv2) .nil))) (hs.mono (Sub.refl _) fun b _ o h => up b o h), ?_, fun b hb => ?_⟩, fun b hb => ?_⟩
      · rcases List.mem_cons.mp h with q | q
        · exact .inr (by rw [q]; exact np)
        · exact .inl q
      · by_cases q : b = p
        · rw [q]; exact np
        · rw [upd_ne q] at h
          exact h
      · simpa using ⟨by simpa using nA, nd'⟩
      · simp only [List.nil_append, List.append_nil, List.cons_append, List.mem_cons] at hb
        rcases hb with q | q
        · exact q ▸ List.mem_cons_self ..
        · exact List.mem_cons_of_mem _ (sb' b q)
      · rcases List.mem_cons.mp hb with q | q
        · subst q
          exact ⟨S2p, by rw [upd_same]; intro z; cases z⟩
        · have := r2.off b q
          refine ⟨this.1, fun z => this.2 ?_⟩
          cases w : H2 b with
          | none => rfl
          | some o => rw [up b o w] at z; cases z
    · exact q2.elim
  · exact q.elim
/-- a, b = e: what e holds goes to the slots -/
def sUnp2 (i j : Nat) (f : Sl → R MD) : Sl → RS := fun ρ => (f ρ).s fun m ρ => match m with
  | .mt [a, b] => .nx ((ρ.set i (some a)).set j (some b))
  | _ => .bad
@[simp] theorem sUnp2_e (i j : Nat) (f : Sl → R MD) (ρ : Sl) : sUnp2 i j f ρ = (f ρ).s fun m ρ => match m with
  | .mt [a, b] => .nx ((ρ.set i (some a)).set j (some b))
  | _ => .bad := keep rfl
theorem simS_unp2 (i j : Nat) {k : Nat} {x y : Str} {p p2 p3 : Pos} {f : Sl → R MD} (nd : X.N.Nodup) (h : SimM X E e f) (hc : X.calm = true := by rfl) (hi : X.N[i]? = some x := by rfl) (hj : X.N[j]? = some y := by rfl) (hx : Loc X.env.scope x := by first | exact Or.inl rfl | exact Or.inr rfl) (hy : Loc X.env.scope y := by first | exact Or.inl rfl | exact Or.inr rfl)
    (hfx : X.fn x = true ∨ X.env.scope.names.lookup x = some .local := by first | exact .inl rfl | exact .inr rfl | assumption) (hfy : X.fn y = true ∨ X.env.scope.names.lookup y = some .local := by first | exact .inl rfl | exact .inr rfl | assumption)
    (z1 : (assignEach [.Name x p, .Name y p2] X.env).map (·.2) = assign (.Name x p) X.env :: (assignEach [.Name y p2] X.env).map (·.2) := by rfl) (z2 : (assignEach [.Name y p2] X.env).map (·.2) = assign (.Name y p2) X.env :: (assignEach [] X.env).map (·.2) := by rfl)
    (hn : (assignEach [.Name x p, .Name y p2] X.env).length = 2 := by rfl) (hst : (assignEach [.Name x p, .Name y p2] X.env).findIdx? (·.1) = none := by rfl)
    (hs : swapsWithSole [.Tuple [.Name x p, .Name y p2] k p3] e pos.line X.env = pure false := by rfl) (hw : swappedStores [.Tuple [.Name x p, .Name y p2] k p3] e X.env = pure none := by rfl)
    (h1 : (assignEach [.Tuple [.Name x p, .Name y p2] k p3] X.env).map (·.2) = [assign (.Tuple [.Name x p, .Name y p2] k p3) X.env] := by rfl) : SimS X E [i, j] (.Assign [.Tuple [.Name x p, .Name y p2] k p3] e pos) (sUnp2 i j f) := by
  obtain ⟨t, pe, s⟩ := h.ex
  refine ⟨_, ps_asg pe (pg_tup hc (pgs_cons (pg_name nd hi hx hfx) (pgs_cons (pg_name nd hj hy hfy) pgs_nil z2) z1) hn hst) hs hw h1, fun σ ρ S A H D r q => s σ ρ S A H _ r ((RunS.ofR q).imp fun m ρ1 S1 A1 H1 q1 v r1 => ?_)⟩
  obtain ⟨A0, ro, nd0, sb⟩ := r1.rep
  cases ro with
  | @keep _ _ _ _ Bm Bs hm hs2 =>
    cases hm with
    | @mt t xs ms B ht hms =>
      match ms, hms, q1 with
      | [a, b], .cons (v := va) (A := Ba) ha (.cons (v := vb) (A := Bb) hb .nil), q1 =>
        have hsub : ∀ z, z ∈ Ba ++ (Bb ++ Bs) → z ∈ (t :: (Ba ++ (Bb ++ []))) ++ Bs := fun z h => by
          simp only [List.append_nil, List.cons_append, List.append_assoc, List.mem_cons]
          exact .inr h
        have hnd : (Ba ++ (Bb ++ Bs)).Nodup := by
          have := nd0
          simp only [List.append_nil, List.cons_append, List.append_assoc] at this
          exact (List.nodup_cons.mp this).2
        have rr : Rel X.K X.mg S1 (some a :: some b :: ρ1) A1 (some va :: some vb :: σ) H1 := ⟨r1.sub, ⟨Ba ++ (Bb ++ Bs), .keep ha (.keep hb hs2), hnd, fun z h => sb z (hsub z h)⟩, r1.off⟩
        have r2 := rr.setV (i := i + 1)
        rw [List.set_cons_succ, List.set_cons_succ] at r2
        have r3 := r2.setV (i := j)
        refine ⟨t, [va, vb], rfl, SqT.of ht, rfl, va, [vb], rfl, vb, [], rfl, rfl, ?_⟩
        exact q1 _ S1 A1 H1 Grow.refl r3 ((Keep.set (by simp)).trans (Keep.set (by simp)))
      | [], _, q1 => exact q1.elim
      | [_], _, q1 => exact q1.elim
      | _ :: _ :: _ :: _, _, q1 => exact q1.elim
    | _ => exact q1.elim
end DR
end
section
/-! DR32: objects: looking at what is owned, as if it were frozen. -/
namespace DR
open PySem L2
variable {K : PySem.W.Frag} {G : Str → Option Value} {S S' S1 H H' H1 : Hp} {A A' A1 B C : List Addr} {E : XK} {σ σ0 σ1 : L2.St} {ρ : Sl} {X : Cx} {e b c : Expr} {es : List Expr} {pos : Pos} {D : Ends} {f1 f2 : Sl → R PyData} {fm : Sl → R MD} {W W1 W2 : List Nat}
def fzs : List MD → Option (List PyData)
  | [] => some []
  | m :: r => match m with
    | .fz d => (fzs r).map (d :: ·)
    | _ => none
theorem fzs_map (ds : List PyData) : fzs (ds.map .fz) = some ds := by
  induction ds with
  | nil => rfl
  | cons d r ih =>
    show (fzs (r.map .fz)).map (d :: ·) = _
    rw [ih]
    rfl
def fldV : MD → Option PyData
  | .fz d => some d
  | .ml ms => (fzs ms).map .list
  | _ => none
def fldsV : List (Str × MD) → Option (List (Str × PyData))
  | [] => some []
  | p :: r => (fldV p.2).bind fun d => (fldsV r).map ((p.1, d) :: ·)
def viewO1 : Option MD → Option MD
  | some (.fz d) => some (.fz d)
  | some (.ml ms) => (fzs ms).map fun ds => .fz (.list ds)
  | some (.mo c fs) => (fldsV fs).map fun ds => .fo c ds
  | some (.fo c ds) => some (.fo c ds)
  | some (.sc ns) => some (.sc ns)
  | _ => none
def viewO (ρ : Sl) : Sl := ρ.map viewO1
def isLI : Option HO → Bool
  | some (.lst _) => true
  | some (.ins _ _ _) => true
  | _ => false
theorem fzA_of : ∀ {xs : List V} {ms : List MD} {A : List Addr} {ds : List PyData}, RepMs K G S H xs ms A → fzs ms = some ds → FzA K S xs ds
  | _, _, _, _, .nil, e => by
    cases e
    exact .nil
  | _, _, _, _, .cons (m := m) (ms := ms) h hs, e => by
    cases m with
    | fz d =>
      have e : (fzs ms).map (d :: ·) = _ := e
      obtain ⟨es, e1, rfl⟩ := Option.map_eq_some_iff.mp e
      exact .cons h.fz_of (fzA_of hs e1)
    | _ => cases e
theorem fld_view (s : Sub S H) {v : V} {m : MD} {A : List Addr} {d : PyData} (h : RepM K G S H v m A) (k : ∀ a ∈ A, isLI (H a) = true → a ∈ B) (e : fldV m = some d) : Fz K (cold S H B) v d := by
  cases m with
  | fz d' =>
    cases e
    exact dp_mono (sub_cold s) h.fz_of
  | ml ms =>
    obtain ⟨ds, e1, rfl⟩ := Option.map_eq_some_iff.mp e
    cases h with
    | @ml a xs _ A' ha hs => exact .lst ((cold_in (k a (List.mem_cons_self ..) (by rw [ha]; rfl))).trans ha) (dpA_mono (sub_cold s) (fzA_of hs e1))
  | _ => cases e
theorem flds_view (s : Sub S H) : ∀ {fs : List (Str × V)} {ms : List (Str × MD)} {A : List Addr} {ds : List (Str × PyData)}, RepMs K G S H (fs.map (·.2)) (ms.map (·.2)) A → (∀ a ∈ A, isLI (H a) = true → a ∈ B) → fldsV ms = some ds → FzA K (cold S H B) (fs.map (·.2)) (ds.map (·.2)) ∧ ms.map (·.1) = ds.map (·.1)
  | [], [], _, _, _, _, e => by
    cases e
    exact ⟨.nil, rfl⟩
  | f :: fs, p :: ms, _, _, .cons h hs, k, e => by
    obtain ⟨d, e1, e2⟩ := Option.bind_eq_some_iff.mp e
    obtain ⟨ds, e3, rfl⟩ := Option.map_eq_some_iff.mp e2
    obtain ⟨i1, i2⟩ := flds_view s hs (fun a ha => k a (List.mem_append_right _ ha)) e3
    refine ⟨.cons (fld_view s h (fun a ha => k a (List.mem_append_left _ ha)) e1) i1, ?_⟩
    rw [List.map_cons, List.map_cons, i2]
  | [], _ :: _, _, _, h, _, _ => by cases h
  | _ :: _, [], _, _, h, _, _ => by cases h
theorem rep_view1 (s : Sub S H) {v : V} {m m' : MD} {A : List Addr} (h : RepM K G S H v m A) (k : ∀ a ∈ A, isLI (H a) = true → a ∈ B) (e : viewO1 (some m) = some m') : RepM K G (cold S H B) H v m' [] := by
  cases m with
  | fz d =>
    cases e
    exact .fz (dp_mono (sub_cold s) h.fz_of)
  | ml ms =>
    obtain ⟨ds, e1, rfl⟩ := Option.map_eq_some_iff.mp e
    exact .fz (fld_view s h k (by show (fzs ms).map PyData.list = _; rw [e1]; rfl))
  | mo c fs =>
    obtain ⟨ds, e1, rfl⟩ := Option.map_eq_some_iff.mp e
    cases h with
    | mo ha g n w hs =>
      obtain ⟨i1, i2⟩ := flds_view s hs (fun a h => k a (List.mem_cons_of_mem _ h)) e1
      exact .fo ((cold_in (k _ (List.mem_cons_self ..) (by rw [ha]; rfl))).trans ha) g (n.trans i2) w i1
  | fo c ds =>
    cases e
    cases h with
    | fo ha g n w hs => exact .fo (sub_cold s _ _ ha) g n w (dpA_mono (sub_cold s) hs)
  | sc ns =>
    cases e
    cases h with
    | sc h => exact .sc ((sub_cold s).l h)
  | _ => cases e
theorem RepO.viewO (s : Sub S H) : ∀ {σ : L2.St} {ρ : Sl} {A : List Addr}, RepO K G S H σ ρ A → (∀ a ∈ A, isLI (H a) = true → a ∈ B) → RepO K G (cold S H B) H σ (DR.viewO ρ) []
  | _, _, _, .nil, _ => .nil
  | _, _, _, .skip h, k => .skip (RepO.viewO s h k)
  | _, _, _, .keep (m := m) h hs, k => by
    have ih := RepO.viewO s hs fun a ha => k a (List.mem_append_right _ ha)
    show RepO K G (DR.cold S H B) H _ (viewO1 (some m) :: DR.viewO _) []
    cases e : viewO1 (some m) with
    | none => exact .skip ih
    | some m' => exact .keep (A := []) (B := []) (rep_view1 s h (fun a ha => k a (List.mem_append_left _ ha)) e) ih

/-! what comes out of the look -/
mutual
def clnM : MD → Bool
  | .fz d => (lsIn d).isEmpty
  | .ml ms => clnMs ms
  | .mt ms => clnMs ms
  | _ => false
def clnMs : List MD → Bool
  | [] => true
  | m :: ms => clnM m && clnMs ms
end
def outH (S : Hp) (B : List Addr) : Hp := fun a => if a ∈ B then none else S a
theorem outH_in {a : Addr} (h : a ∈ B) : outH S B a = none := if_pos h
theorem outH_out {a : Addr} (h : a ∉ B) : outH S B a = S a := if_neg h
theorem outH_sub : Sub (outH S B) S := fun a o h => by
  unfold outH at h
  split at h
  · cases h
  · exact h
mutual
theorem fz_out (s : Sub S H) (hB : ∀ a ∈ B, isLI (H a) = true) : ∀ {v : V} {d : PyData}, Fz K S v d → lsIn d = [] → Fz K (outH S B) v d
  | _, _, .non, _ => .non
  | _, _, .bl b, _ => .bl b
  | _, _, .int i, _ => .int i
  | _, _, .str x, _ => .str x
  | _, _, .lst h hs, k => by cases k
  | _, _, .tup (a := a) h hs, k => by
    have no : ∀ o, isLI (some o) = false → S a = some o → a ∉ B := fun o h1 h2 q => by
      have := hB a q
      rw [s a o h2, h1] at this
      cases this
    exact .tup (h.imp (fun h => by
      rcases h with h | ⟨o, h⟩
      · exact .inl ((outH_out (no _ rfl h)).trans h)
      · exact .inr ⟨o, (outH_out (no _ rfl h)).trans h⟩) id) (fzA_out s hB hs k)
theorem fzA_out (s : Sub S H) (hB : ∀ a ∈ B, isLI (H a) = true) : ∀ {vs : List V} {ds : List PyData}, FzA K S vs ds → lsIns ds = [] → FzA K (outH S B) vs ds
  | _, _, .nil, _ => .nil
  | _, _, .cons h hs, k => .cons (fz_out s hB h (List.append_eq_nil_iff.mp k).1) (fzA_out s hB hs (List.append_eq_nil_iff.mp k).2)
end
mutual
theorem repM_out (s : Sub S H) (hB : ∀ a ∈ B, isLI (H a) = true) : ∀ {v : V} {m : MD} {A : List Addr}, RepM K G S H v m A → clnM m = true → RepM K G (outH S B) H v m A
  | _, _, _, .fz h, k => .fz (fz_out s hB h (by simp only [clnM, List.isEmpty_iff] at k; exact k))
  | _, _, _, .ml h hs, k => .ml h (repMs_out s hB hs (by simpa only [clnM] using k))
  | _, _, _, .mt h hs, k => .mt h (repMs_out s hB hs (by simpa only [clnM] using k))
  | _, _, _, .md _ _, k => by simp [clnM] at k
  | _, _, _, .mk _ _, k => by simp [clnM] at k
  | _, _, _, .mo _ _ _ _ _, k => by simp [clnM] at k
  | _, _, _, .sc _, k => by simp [clnM] at k
  | _, _, _, .fd _ _, k => by simp [clnM] at k
  | _, _, _, .fo _ _ _ _ _, k => by simp [clnM] at k
  | _, _, _, .fx _ _ _ _ _, k => by simp [clnM] at k
  | _, _, _, .gone, k => by simp [clnM] at k
theorem repMs_out (s : Sub S H) (hB : ∀ a ∈ B, isLI (H a) = true) : ∀ {vs : List V} {ms : List MD} {A : List Addr}, RepMs K G S H vs ms A → clnMs ms = true → RepMs K G (outH S B) H vs ms A
  | _, _, _, .nil, _ => .nil
  | _, _, _, .cons h hs, k => by
    simp only [clnMs, Bool.and_eq_true] at k
    exact .cons (repM_out s hB h k.1) (repMs_out s hB hs k.2)
end
/-- the look, as ghosts: what is frozen for its time -/
theorem Rel.look (r : Rel K G S ρ A σ H) : ∃ B, (∀ b ∈ B, isLI (H b) = true ∧ b ∈ A) ∧ Rel K G (cold S H B) (DR.viewO ρ) [] σ H ∧ ∀ S' A' H', Grow (cold S H B) [] H S' A' H' → Sub S' H' → (∀ Bm, (∀ b ∈ Bm, b ∈ A') → (∀ b ∈ A', S' b = none ∧ H' b ≠ none) → Bm.Nodup → Grow S A H (outH S' B) (Bm ++ A) H' ∧
    (∀ v m, RepM K G (outH S' B) H' v m Bm → Rel K G (outH S' B) (some m :: ρ) (Bm ++ A) (some v :: σ) H')) ∧ Grow S A H (outH S' B) A H' ∧ Rel K G (outH S' B) ρ A σ H' ∧ ∀ b ∈ B, isLI (H' b) = true := by
  obtain ⟨A0, ro, nd, sb⟩ := r.rep
  have hB : ∀ b, b ∈ A0.filter (fun a => isLI (H a)) → isLI (H b) = true ∧ b ∈ A := fun b h => ⟨(List.mem_filter.mp h).2, sb b (List.mem_filter.mp h).1⟩
  refine ⟨A0.filter fun a => isLI (H a), hB, ⟨cold_sub r.sub, ⟨[], ro.viewO r.sub fun a h1 h2 => List.mem_filter.mpr ⟨h1, h2⟩, List.nodup_nil, fun _ q => q⟩, fun a q => (by cases q)⟩, fun S' A' H' g sub' => ?_⟩
  generalize A0.filter (fun a => isLI (H a)) = B at hB g
  have hh : Sub H H' := fun a o h => g.fr a o h fun z => by cases z
  have sSS : Sub S (outH S' B) := fun a o h => by
    have nb : a ∉ B := fun q => by
      rw [(r.off a (hB a q).2).1] at h
      cases h
    rw [outH_out nb]
    exact g.ss a o (sub_cold r.sub a o h)
  have sn : ∀ b, outH S' B b ≠ none → S b ≠ none ∨ H b = none ∨ b ∈ A := fun b h => by
    by_cases q : b ∈ B
    · rw [outH_in q] at h
      exact (h rfl).elim
    · rw [outH_out q] at h
      rcases g.sn b h with u | u | u
      · rw [cold_out q] at u
        exact .inl u
      · exact .inr (.inl u)
      · cases u
  have offA : ∀ a ∈ A, outH S' B a = none ∧ H' a ≠ none := fun a ha => by
    have o := r.off a ha
    refine ⟨?_, fun z => o.2 (g.dm a z)⟩
    by_cases q : a ∈ B
    · exact outH_in q
    · rw [outH_out q]
      cases w : S' a with
      | none => rfl
      | some u =>
        rcases g.sn a (by rw [w]; intro z; cases z) with u | u | u
        · rw [cold_out q] at u
          exact (u o.1).elim
        · exact (o.2 u).elim
        · cases u
  have ro' := ro.mono (H' := H') sSS fun a _ o h => hh a o h
  have subO : Sub (outH S' B) H' := outH_sub.trans sub'
  refine ⟨fun Bm hBm offB ndB => ⟨⟨sSS, sn, fun b o h _ => hh b o h, fun b h => ?_, g.dm⟩, fun v m hm => ⟨subO, ⟨Bm ++ A0, .keep hm ro', ?_, fun b h => ?_⟩, fun b h => ?_⟩⟩, ⟨sSS, sn, fun b o h _ => hh b o h, fun b h => .inl h, g.dm⟩, ⟨subO, ⟨A0, ro', nd, sb⟩, offA⟩, fun b hb => ?_⟩
  · rcases List.mem_append.mp h with h | h
    · rcases g.an b (hBm b h) with u | u
      · cases u
      · exact .inr u
    · exact .inl h
  · refine List.nodup_append.mpr ⟨ndB, nd, fun a h1 b h2 e => ?_⟩
    subst e
    rcases g.an a (hBm a h1) with u | u
    · cases u
    · exact (r.off a (sb a h2)).2 u
  · rcases List.mem_append.mp h with h | h
    · exact List.mem_append_left _ h
    · exact List.mem_append_right _ (sb b h)
  · rcases List.mem_append.mp h with h | h
    · have := offB b (hBm b h)
      refine ⟨?_, this.2⟩
      by_cases q : b ∈ B
      · exact outH_in q
      · rw [outH_out q]
        exact this.1
    · exact offA b h
  · have := (hB b hb).1
    cases w : H b with
    | none => rw [w] at this; cases this
    | some o =>
      rw [hh b o w]
      rw [w] at this
      exact this
def flatX (x : Exn) : Bool := x.fs.all fun p => flatD p.2
theorem kd_flat : ∀ {fs : List (Str × V)} {ds : List (Str × PyData)}, Paired (KD K S) fs ds → ds.all (fun p => flatD p.2) = true → Paired (KD K S') fs ds
  | _, _, .nil, _ => .nil
  | _, _, .cons h t, e => by
    rw [List.all_cons, Bool.and_eq_true] at e
    exact .cons ⟨h.1, h.2.flat e.1⟩ (kd_flat t e.2)
def mPeekM (f : Sl → R MD) : Sl → R MD := fun ρ => match f (viewO ρ) with
  | .ok m _ => if clnM m = true then .ok m ρ else .bad
  | .exc x _ => if flatX x = true then .exc x ρ else .bad
  | .bad => .bad
theorem simM_peekM (h : SimM X E e fm) : SimM X E e (mPeekM fm) := by
  obtain ⟨t, p, s⟩ := h.ex
  refine ⟨t, p, fun σ ρ S A H Q r q => ?_⟩
  obtain ⟨B, hB, r1, k⟩ := r.look
  refine s σ (viewO ρ) _ [] H Q r1 ?_
  unfold mPeekM at q
  cases z : fm (viewO ρ) with
  | ok m ρ' =>
    rw [z] at q
    simp only at q
    by_cases hc : clnM m = true
    · rw [if_pos hc] at q
      intro S' A' H' g v r'
      obtain ⟨k1, _, _, kB⟩ := k S' A' H' g r'.sub
      obtain ⟨A2, ro2, nd2, sb2⟩ := r'.rep
      cases ro2 with
      | @keep _ _ _ _ Bm Bs hm hs =>
        obtain ⟨k2, k3⟩ := k1 Bm (fun b h => sb2 b (List.mem_append_left _ h)) r'.off (List.nodup_append.mp nd2).1
        exact q _ _ _ k2 v (k3 v m (repM_out r'.sub kB hm hc))
    · rw [if_neg hc] at q
      exact q.elim
  | exc x ρ' =>
    rw [z] at q
    simp only at q
    by_cases hc : flatX x = true
    · rw [if_pos hc] at q
      intro S' A' H' cls dd g r' ex
      obtain ⟨_, k2, k3, _⟩ := k S' A' H' g r'.sub
      refine q _ _ _ cls dd k2 k3 ⟨ex.1, ?_⟩
      rcases ex.2 with u | ⟨d, fs, e1, e2, e3⟩
      · exact .inl u
      · exact .inr ⟨d, fs, e1, e2, kd_flat e3 hc⟩
    · rw [if_neg hc] at q
      exact q.elim
  | bad =>
    rw [z] at q
    exact q.elim
def mPeekTB (f : Sl → R Bool) : Sl → R Bool := fun ρ => match f (viewO ρ) with
  | .ok b _ => .ok b ρ
  | _ => .bad
theorem simT_peekTB {f : Sl → R Bool} (h : SimT X E e f) : SimT X E e (mPeekTB f) := by
  obtain ⟨t, p, s⟩ := h.ex
  refine ⟨t, p, fun σ ρ S A H Q r q => ?_⟩
  obtain ⟨B, hB, r1, k⟩ := r.look
  refine s σ (viewO ρ) _ [] H Q r1 ?_
  unfold mPeekTB at q
  cases z : f (viewO ρ) with
  | ok b ρ' =>
    rw [z] at q
    intro S' A' H' g r'
    obtain ⟨_, k2, k3, _⟩ := k S' A' H' g r'.sub
    exact q _ _ _ k2 k3
  | exc x ρ' =>
    rw [z] at q
    exact q.elim
  | bad =>
    rw [z] at q
    exact q.elim
@[simp] theorem mPeekM_e (f : Sl → R MD) (ρ : Sl) : mPeekM f ρ = match f (viewO ρ) with
  | .ok m _ => if clnM m = true then .ok m ρ else .bad
  | .exc x _ => if flatX x = true then .exc x ρ else .bad
  | .bad => .bad := keep rfl
@[simp] theorem mPeekTB_e (f : Sl → R Bool) (ρ : Sl) : mPeekTB f ρ = match f (viewO ρ) with
  | .ok b _ => .ok b ρ
  | _ => .bad := keep rfl
@[simp] theorem viewO_nil : viewO [] = [] := keep rfl
@[simp] theorem viewO_cons (x : Option MD) (ρ : Sl) : viewO (x :: ρ) = viewO1 x :: viewO ρ := keep rfl
@[simp] theorem viewO1_none : viewO1 none = none := keep rfl
@[simp] theorem viewO1_fz (d : PyData) : viewO1 (some (.fz d)) = some (.fz d) := keep rfl
@[simp] theorem viewO1_ml (ds : List PyData) : viewO1 (some (.ml (ds.map .fz))) = some (.fz (.list ds)) := by
  show (fzs (ds.map .fz)).map (fun ds => MD.fz (.list ds)) = _
  rw [fzs_map]
  rfl
@[simp] theorem viewO1_fo (c : Str) (ds : List (Str × PyData)) : viewO1 (some (.fo c ds)) = some (.fo c ds) := keep rfl
@[simp] theorem viewO1_sc (ns : List Int) : viewO1 (some (.sc ns)) = some (.sc ns) := keep rfl
@[simp] theorem flatX_nil (x : Str) : flatX ⟨x, []⟩ = true := keep rfl
end DR
end
section
/-! DR33: objects: fields, methods, new ones. -/
namespace DR
open PySem L2
variable {K : PySem.W.Frag} {G : Str → Option Value} {S S' S1 H H' H1 : Hp} {A A' A1 B C : List Addr} {E : XK} {σ σ0 σ1 : L2.St} {ρ : Sl} {X : Cx} {e b c : Expr} {es : List Expr} {pos : Pos} {D : Ends} {f1 f2 : Sl → R PyData} {fm : Sl → R MD} {W W1 W2 : List Nat}
/-- a class of plain objects -/
structure ClsC (K : PySem.W.Frag) (mg : Str → Option Value) (c : Str) : Prop where
  ex : ∃ C, mg c = some (.ref C) ∧ Cls K C
/-- no def of the class has the name -/
structure FldC (K : PySem.W.Frag) (mg : Str → Option Value) (c f : Str) : Prop where
  ex : ∃ C, mg c = some (.ref C) ∧ Cls K C ∧ NoAttr K C f
theorem lookup_at : ∀ {fs : List (Str × V)} {k : Nat} {f : Str} {v : V}, (fs.map (·.1)).Nodup → fs[k]? = some (f, v) → fs.lookup f = some v
  | [], _, _, _, _, h => by simp at h
  | p :: fs, 0, f, v, _, h => by
    simp at h
    subst h
    simp [List.lookup]
  | p :: fs, k + 1, f, v, nd, h => by
    rw [List.map_cons, List.nodup_cons] at nd
    have h' : fs[k]? = some (f, v) := by simpa using h
    have ne : (f == p.1) = false := by
      rw [beq_eq_false_iff_ne]
      intro q
      apply nd.1
      rw [← q]
      exact List.mem_map.mpr ⟨(f, v), List.mem_of_getElem? h', rfl⟩
    rw [List.lookup, ne]
    exact lookup_at nd.2 h'
theorem lookup_no {m : Str} : ∀ {fs : List (Str × V)}, m ∉ fs.map (·.1) → fs.lookup m = none
  | [], _ => rfl
  | p :: fs, h => by
    rw [List.map_cons] at h
    have ne : (m == p.1) = false := by
      rw [beq_eq_false_iff_ne]
      intro q
      exact h (by rw [q]; exact List.mem_cons_self ..)
    rw [List.lookup, ne]
    exact lookup_no fun q => h (List.mem_cons_of_mem _ q)
theorem names_at {α β : Type} : ∀ {fs : List (Str × α)} {ds : List (Str × β)} {k : Nat} {f : Str} {d : β}, fs.map (·.1) = ds.map (·.1) → ds[k]? = some (f, d) → ∃ v, fs[k]? = some (f, v)
  | [], [], _, _, _, _, h => by simp at h
  | p :: fs, q :: ds, 0, f, d, e, h => by
    simp at h
    rw [List.map_cons, List.map_cons] at e
    injection e with e1 _
    subst h
    exact ⟨p.2, by simp; exact Prod.ext e1 rfl⟩
  | p :: fs, q :: ds, k + 1, f, d, e, h => by
    rw [List.map_cons, List.map_cons] at e
    injection e with _ e2
    obtain ⟨v, hv⟩ := names_at (k := k) e2 (by simpa using h)
    exact ⟨v, by simpa using hv⟩
  | [], _ :: _, _, _, _, e, _ => by cases e
  | _ :: _, [], _, _, _, e, _ => by cases e
/-! ### a field read -/
def mFld (c : Str) (i k : Nat) (f : Str) : Sl → R PyData := fun ρ => match ρ[i]? with
  | some (some (.fo c' ds)) => match ds[k]? with
    | some p => if c' = c ∧ p.1 = f then .ok p.2 ρ else .bad
    | none => .bad
  | some (some (.mo c' ms)) => match ms[k]? with
    | some p => match p.2 with
      | .fz d => if c' = c ∧ p.1 = f then .ok d ρ else .bad
      | _ => .bad
    | none => .bad
  | _ => .bad
@[simp] theorem mFld_e (c : Str) (i k : Nat) (f : Str) (ρ : Sl) : mFld c i k f ρ = match ρ[i]? with
  | some (some (.fo c' ds)) => match ds[k]? with
    | some p => if c' = c ∧ p.1 = f then .ok p.2 ρ else .bad
    | none => .bad
  | some (some (.mo c' ms)) => match ms[k]? with
    | some p => match p.2 with
      | .fz d => if c' = c ∧ p.1 = f then .ok d ρ else .bad
      | _ => .bad
    | none => .bad
  | _ => .bad := keep rfl
theorem repMs_at2 {α : Type} : ∀ {fs : List (Str × V)} {ms : List (Str × MD)} {A : List Addr} {k : Nat} {f : Str} {m : MD}, fs.map (·.1) = ms.map (·.1) → RepMs K G S H (fs.map (·.2)) (ms.map (·.2)) A → ms[k]? = some (f, m) → ∃ v Bk, fs[k]? = some (f, v) ∧ RepM K G S H v m Bk
  | [], [], _, _, _, _, _, _, h => by simp at h
  | p :: fs, q :: ms, _, 0, f, m, e, .cons (A := B1) h _, hk => by
    simp at hk
    rw [List.map_cons, List.map_cons] at e
    injection e with e1 _
    subst hk
    exact ⟨p.2, B1, by simp; exact Prod.ext e1 rfl, h⟩
  | p :: fs, q :: ms, _, k + 1, f, m, e, .cons _ hs, hk => by
    rw [List.map_cons, List.map_cons] at e
    injection e with _ e2
    obtain ⟨v, Bk, h1, h2⟩ := repMs_at2 (α := α) (k := k) e2 hs (by simpa using hk)
    exact ⟨v, Bk, by simpa using h1, h2⟩
  | [], _ :: _, _, _, _, _, e, _, _ => by cases e
  | _ :: _, [], _, _, _, _, e, _, _ => by cases e
theorem simF_fld (i k : Nat) {c x f : Str} {p : Pos} (hc : ClsC X.K X.mg c) (hN : X.N[i]? = some x := by rfl) (hv : Vis X.env.scope x := by first | exact Or.inl rfl | exact Or.inr (Or.inl rfl) | exact Or.inr (Or.inr rfl)) (hd : (x == ("__debug__" : Str)) = false := by decide)
    (hcd : (x == ("__classdict__" : Str)) = false := by decide) (hb : attributeBase (.Name x p) f X.env (eval (.Name x p) X.env) = eval (.Name x p) X.env := by rfl) : SimF X E (.Attribute (.Name x p) f pos) (mFld c i k f) := by
  obtain ⟨C, gC, cl⟩ := hc.ex
  refine ⟨_, pe_fld (pe_var hN hv hd hcd) hb, fun σ ρ S A H Q r q => ?_⟩
  unfold mFld at q
  split at q
  · rename_i c' ds em
    obtain ⟨v, B, h1, h2⟩ := r.at em
    split at q
    · rename_i pr ek
      by_cases hq : c' = c ∧ pr.1 = f
      · rw [if_pos hq] at q
        cases h2 with
        | @fo a C' dx fs _ _ ha g n w hs =>
          rw [hq.1, gC] at g
          injection g with g
          injection g with g
          subst g
          obtain ⟨v, hv⟩ := names_at (k := k) (f := pr.1) (d := pr.2) n (by rw [ek])
          have hz : (fs.map (·.2))[k]? = some v := by rw [List.getElem?_map, hv]; rfl
          obtain ⟨d', e1, e2⟩ := dpA_get' hs hz
          have e3 : d' = pr.2 := by
            rw [List.getElem?_map, ek] at e1
            injection e1 with e1
            exact e1.symm
          subst e3
          have hf := hq.2
          subst hf
          have ff : pr.1 ∈ fs.map (·.1) := List.mem_map.mpr ⟨_, List.mem_of_getElem? hv, rfl⟩
          exact ⟨_, h1, a, C, dx, fs, v, rfl, r.sub a _ ha, cl, w.1 _ ff, lookup_at w.2 hv, q S A H Grow.refl r v e2⟩
      · rw [if_neg hq] at q
        exact q.elim
    · exact q.elim
  · rename_i c' ms em
    obtain ⟨v, B, h1, h2⟩ := r.at em
    split at q
    · rename_i pr ek
      split at q
      · rename_i d ed
        by_cases hq : c' = c ∧ pr.1 = f
        · rw [if_pos hq] at q
          cases h2 with
          | @mo a C' dx fs _ _ _ ha g n w hs =>
            rw [hq.1, gC] at g
            injection g with g
            injection g with g
            subst g
            obtain ⟨v, Bk, hv, hm⟩ := repMs_at2 (α := Unit) (k := k) (f := pr.1) (m := pr.2) n hs (by rw [ek])
            rw [ed] at hm
            have hf := hq.2
            subst hf
            have ff : pr.1 ∈ fs.map (·.1) := List.mem_map.mpr ⟨_, List.mem_of_getElem? hv, rfl⟩
            exact ⟨_, h1, a, C, dx, fs, v, rfl, ha, cl, w.1 _ ff, lookup_at w.2 hv, q S A H Grow.refl r v hm.fz_of⟩
        · rw [if_neg hq] at q
          exact q.elim
      · exact q.elim
    · exact q.elim
  · exact q.elim
/-! ### a field stored -/
def putM (k : Nat) (f : Str) (m : MD) (ms : List (Str × MD)) : Option (List (Str × MD)) := match ms[k]? with
  | some p => if p.1 = f then some (ms.set k (f, m)) else none
  | none => if k = ms.length ∧ f ∉ ms.map (·.1) then some (ms ++ [(f, m)]) else none
def sFldS (c : Str) (i k : Nat) (f : Str) (g : Sl → R MD) : Sl → RS := fun ρ => (g ρ).s fun m ρ => match ρ[i]? with
  | some (some (.mo c' ms)) => if c' = c ∧ ms.length < 900 then (match putM k f m ms with
    | some ms' => .nx (ρ.set i (some (.mo c' ms')))
    | none => .bad) else .bad
  | _ => .bad
@[simp] theorem sFldS_e (c : Str) (i k : Nat) (f : Str) (g : Sl → R MD) (ρ : Sl) : sFldS c i k f g ρ = (g ρ).s fun m ρ => match ρ[i]? with
  | some (some (.mo c' ms)) => if c' = c ∧ ms.length < 900 then (match putM k f m ms with
    | some ms' => .nx (ρ.set i (some (.mo c' ms')))
    | none => .bad) else .bad
  | _ => .bad := keep rfl
theorem putF_at : ∀ {fs : List (Str × V)} {k : Nat} {f : Str} {v : V} (y : V), (fs.map (·.1)).Nodup → fs[k]? = some (f, v) → putF f y fs = fs.set k (f, y)
  | [], _, _, _, _, _, h => by simp at h
  | p :: fs, 0, f, v, y, _, h => by
    simp at h
    subst h
    simp [putF]
  | p :: fs, k + 1, f, v, y, nd, h => by
    rw [List.map_cons, List.nodup_cons] at nd
    have h' : fs[k]? = some (f, v) := by simpa using h
    have ne : ¬ p.1 = f := fun q => nd.1 (by rw [q]; exact List.mem_map.mpr ⟨(f, v), List.mem_of_getElem? h', rfl⟩)
    show (if p.1 = f then _ else p :: putF f y fs) = _
    rw [if_neg ne, putF_at y nd.2 h']
    rfl
theorem putF_new : ∀ {fs : List (Str × V)} {f : Str} (y : V), f ∉ fs.map (·.1) → putF f y fs = fs ++ [(f, y)]
  | [], f, y, _ => rfl
  | p :: fs, f, y, h => by
    rw [List.map_cons] at h
    have ne : ¬ p.1 = f := fun q => h (by rw [← q]; exact List.mem_cons_self ..)
    show (if p.1 = f then _ else p :: putF f y fs) = _
    rw [if_neg ne, putF_new y fun q => h (List.mem_cons_of_mem _ q)]
    rfl
/-- one of the parts exchanged -/
theorem repMs_setK : ∀ {vs : List V} {ms : List MD} {A : List Addr} {k : Nat} {m : MD}, RepMs K G S H vs ms A → ms[k]? = some m → ∃ v B1 Bk B2, vs[k]? = some v ∧ RepM K G S H v m Bk ∧ A = B1 ++ (Bk ++ B2) ∧
    ∀ (S' H' : Hp) (v' : V) (m' : MD) (Bk' : List Addr), Sub S S' → (∀ a ∈ B1 ++ B2, ∀ o, H a = some o → H' a = some o) → RepM K G S' H' v' m' Bk' → RepMs K G S' H' (vs.set k v') (ms.set k m') (B1 ++ (Bk' ++ B2))
  | _, _, _, _, _, .nil, h => by simp at h
  | _, _, _, 0, m, .cons (A := Bk) (B := B2) h hs, e => by
    simp at e
    subst e
    exact ⟨_, [], Bk, B2, rfl, h, rfl, fun S' H' v' m' Bk' ss kk hm => by
      show RepMs K G S' H' (v' :: _) (m' :: _) (Bk' ++ B2)
      exact .cons hm (hs.mono ss fun a ha => kk a (by simpa using ha))⟩
  | _, _, _, k + 1, m, .cons (v := v0) (m := m0) (A := B0) h hs, e => by
    obtain ⟨v, B1, Bk, B2, e1, e2, e3, e4⟩ := repMs_setK (k := k) hs (by simpa using e)
    refine ⟨v, B0 ++ B1, Bk, B2, by simpa using e1, e2, by rw [e3, List.append_assoc], fun S' H' v' m' Bk' ss kk hm => ?_⟩
    have := e4 S' H' v' m' Bk' ss (fun a ha => kk a (by
      rcases List.mem_append.mp ha with q | q
      · exact List.mem_append_left _ (List.mem_append_right _ q)
      · exact List.mem_append_right _ q)) hm
    have r := RepMs.cons (h.mono (H' := H') ss fun a ha => kk a (List.mem_append_left _ (List.mem_append_left _ ha))) this
    rw [← List.append_assoc] at r
    exact r
theorem repMs_snocK : ∀ {vs : List V} {ms : List MD} {A Bm : List Addr} {v : V} {m : MD}, RepMs K G S H vs ms A → RepM K G S H v m Bm → RepMs K G S H (vs ++ [v]) (ms ++ [m]) (A ++ Bm)
  | _, _, _, Bm, _, _, .nil, hm => by
    have := RepMs.cons hm (RepMs.nil (K := K) (G := G) (S := S) (H := H))
    rw [List.append_nil] at this
    exact this
  | _, _, _, _, _, _, .cons (A := B0) h hs, hm => by
    rw [List.append_assoc]
    exact .cons h (repMs_snocK hs hm)
theorem simS_fldS (i k : Nat) {c x f : Str} {p pos' : Pos} (hc : FldC X.K X.mg c f) (h : SimM X E e fm) (hN : X.N[i]? = some x := by rfl) (hv : Vis X.env.scope x := by first | exact Or.inl rfl | exact Or.inr (Or.inl rfl) | exact Or.inr (Or.inr rfl)) (hd : (x == ("__debug__" : Str)) = false := by decide)
    (hcd : (x == ("__classdict__" : Str)) = false := by decide) (hs : swapsWith e (some (.Attribute (.Name x p) f pos')) pos.line X.env = pure false := by rfl) : SimS X E [] (.Assign [.Attribute (.Name x p) f pos'] e pos) (sFldS c i k f fm) := by
  obtain ⟨C, gC, cl, na⟩ := hc.ex
  obtain ⟨t, pe, s⟩ := h.ex
  refine ⟨_, ps_fld (pe_var hN hv hd hcd) pe hs, fun σ ρ S A H D r q => s σ ρ S A H _ r ((RunS.ofR q).imp fun m ρ1 S1 A1 H1 q1 v r1 => ?_)⟩
  split at q1
  · rename_i c' ms em
    by_cases hq : c' = c ∧ ms.length < 900
    · rw [if_pos hq] at q1
      obtain ⟨A0, ro, nd, sb⟩ := r1.rep
      cases ro with
      | @keep _ _ _ _ Bm Bs hm hs1 =>
        obtain ⟨v0, Bo, Co, g1, g2, g3, pm⟩ := take1 hs1 em
        cases g2 with
        | @mo a C' dx fs _ _ Bf ha g n w hfs =>
          rw [hq.1, gC] at g
          injection g with g
          injection g with g
          subst g
          have ndAll : (Bm ++ ((a :: Bf) ++ Co)).Nodup := (List.Perm.append_left Bm pm).nodup_iff.mp nd
          have sbAll : ∀ z ∈ Bm ++ ((a :: Bf) ++ Co), z ∈ A1 := fun z hz => sb z ((List.Perm.append_left Bm pm).mem_iff.mpr hz)
          have aA : a ∈ A1 := sbAll a (by simp)
          have aBm : a ∉ Bm := fun q => (List.nodup_append.mp ndAll).2.2 a q a (by simp) rfl
          have nd2 := (List.nodup_append.mp ndAll).2.1
          have aBf : a ∉ Bf := fun q => (List.nodup_cons.mp nd2).1 (List.mem_append_left _ q)
          have aCo : a ∉ Co := fun q => (List.nodup_cons.mp nd2).1 (List.mem_append_right _ q)
          have hlen : fs.length = ms.length := by
            have := congrArg List.length n
            simpa using this
          have hl : fs.length < 1000 := by have := hq.2; omega
          have iρ : i < ρ1.length := (List.getElem?_eq_some_iff.mp em).1
          have keepN : ∀ (y : V) (b : Addr) o, b ≠ a → H1 b = some o → upd H1 a (.ins C dx (putF f y fs)) b = some o := fun y b o nb h => by rw [upd_ne nb]; exact h
          have subN : Sub S1 (upd H1 a (.ins C dx (putF f v fs))) := fun b o h => keepN v b o (fun q => by
            rw [q, (r1.off a aA).1] at h
            cases h) (r1.sub b o h)
          have growN : Grow S1 A1 H1 S1 A1 (upd H1 a (.ins C dx (putF f v fs))) := ⟨Sub.refl _, fun _ h => .inl h, fun b o h nb => keepN v b o (fun q => nb (by rw [q]; exact aA)) h, fun _ h => .inl h, fun b h => by
            by_cases q : b = a
            · rw [q, upd_same] at h
              cases h
            · rw [upd_ne q] at h
              exact h⟩
          have offN : ∀ b ∈ A1, S1 b = none ∧ upd H1 a (.ins C dx (putF f v fs)) b ≠ none := fun b hb => ⟨(r1.off b hb).1, fun z => by
            by_cases q : b = a
            · rw [q, upd_same] at z
              cases z
            · rw [upd_ne q] at z
              exact (r1.off b hb).2 z⟩
          have hmN := hm.mono (H' := upd H1 a (.ins C dx (putF f v fs))) (Sub.refl _) fun b hb o h => keepN v b o (fun q => aBm (by rw [← q]; exact hb)) h
          have hCo := g3.mono (H' := upd H1 a (.ins C dx (putF f v fs))) (Sub.refl _) fun b hb o h => keepN v b o (fun q => aCo (by rw [← q]; exact hb)) h
          -- behind the store
          have fin : ∀ (fs' : List (Str × V)) (ms' : List (Str × MD)) (Bn Dn : List Addr), putF f v fs = fs' → fs'.map (·.1) = ms'.map (·.1) → ((∀ g ∈ fs'.map (·.1), PySem.W.findIn X.K (.ref C) g = some none) ∧ (fs'.map (·.1)).Nodup) →
              RepMs X.K X.mg S1 (upd H1 a (.ins C dx (putF f v fs))) (fs'.map (·.2)) (ms'.map (·.2)) Bn → (Bm ++ ((a :: Bf) ++ Co)).Perm (((a :: Bn) ++ Co) ++ Dn) → Rel X.K X.mg S1 (ρ1.set i (some (.mo c' ms'))) A1 σ (upd H1 a (.ins C dx (putF f v fs))) := by
            intro fs' ms' Bn Dn ef en ew er ep
            have ro : RepM X.K X.mg S1 (upd H1 a (.ins C dx (putF f v fs))) (.ref a) (.mo c' ms') (a :: Bn) := .mo (by rw [ef]; exact upd_same) (by rw [hq.1]; exact gC) en ew er
            obtain ⟨A2, p1, p2⟩ := put1 hCo (List.getElem?_set_self iρ) g1 ro
            rw [List.set_set] at p1
            have nd3 : (((a :: Bn) ++ Co) ++ Dn).Nodup := ep.nodup_iff.mp ndAll
            exact ⟨subN, ⟨A2, p1, p2.nodup_iff.mpr (List.nodup_append.mp nd3).1, fun z hz => sbAll z (ep.mem_iff.mpr (List.mem_append_left _ (p2.mem_iff.mp hz)))⟩, offN⟩
          refine ⟨_, g1, a, C, dx, fs, rfl, ha, cl, na, hl, ?_⟩
          unfold putM at q1
          split at q1
          · rename_i ms' eput
            split at eput
            · rename_i p0 ek
              by_cases hf : p0.1 = f
              · rw [if_pos hf] at eput
                injection eput with eput
                subst eput
                obtain ⟨vo, hvo⟩ := names_at (k := k) (f := f) (d := p0.2) n (by rw [ek, ← hf])
                have epf := putF_at v w.2 hvo
                obtain ⟨v1, B1, Bk, B2, k1, k2, k3, k4⟩ := repMs_setK (k := k) (m := p0.2) hfs (by rw [List.getElem?_map, ek]; rfl)
                subst k3
                have ff : f ∈ fs.map (·.1) := List.mem_map.mpr ⟨_, List.mem_of_getElem? hvo, rfl⟩
                have same : ∀ {β : Type} {l : List (Str × β)} {y y' : β}, l[k]? = some (f, y') → (l.set k (f, y)).map (·.1) = l.map (·.1) := fun {β l y y'} h => by
                  rw [List.map_set]
                  have h' : (l.map (·.1))[k]? = some f := by rw [List.getElem?_map, h]; rfl
                  obtain ⟨g1, g2⟩ := List.getElem?_eq_some_iff.mp h'
                  rw [← g2]
                  exact List.set_getElem_self ..
                have em1 : ms[k]? = some (f, p0.2) := by rw [ek, ← hf]
                have rr := fin (fs.set k (f, v)) (ms.set k (f, m)) (B1 ++ (Bm ++ B2)) Bk epf (by rw [same hvo, same em1]; exact n) (by rw [same hvo]; exact w) (by
                  have := k4 S1 (upd H1 a (.ins C dx (putF f v fs))) v m Bm (Sub.refl _) (fun b hb o h => keepN v b o (fun q => aBf (by
                    rw [← q]
                    rcases List.mem_append.mp hb with u | u
                    · exact List.mem_append_left _ u
                    · exact List.mem_append_right _ (List.mem_append_right _ u))) h) hmN
                  rw [List.map_set, List.map_set]
                  exact this) (List.perm_iff_count.mpr fun z => by simp [List.count_append, List.count_cons]; omega)
                exact q1 σ S1 A1 _ growN rr Keep.refl
              · rw [if_neg hf] at eput
                cases eput
            · rename_i ek
              by_cases hf : k = ms.length ∧ f ∉ ms.map (·.1)
              · rw [if_pos hf] at eput
                injection eput with eput
                subst eput
                have nf : f ∉ fs.map (·.1) := by rw [n]; exact hf.2
                have rr := fin (fs ++ [(f, v)]) (ms ++ [(f, m)]) (Bf ++ Bm) [] (putF_new v nf) (by rw [List.map_append, List.map_append, n]; rfl) (by
                  rw [List.map_append]
                  refine ⟨fun g hg => ?_, List.nodup_append.mpr ⟨w.2, by simp, fun z h1 y h2 e => ?_⟩⟩
                  · rcases List.mem_append.mp hg with u | u
                    · exact w.1 g u
                    · rw [List.map_cons, List.map_nil, List.mem_singleton] at u
                      rw [u]
                      exact na
                  · rw [List.map_cons, List.map_nil, List.mem_singleton] at h2
                    rw [e, h2] at h1
                    exact nf h1) (by
                  rw [List.map_append, List.map_append]
                  exact repMs_snocK (hfs.mono (Sub.refl _) fun b hb o h => keepN v b o (fun q => aBf (by rw [← q]; exact hb)) h) hmN) (List.perm_iff_count.mpr fun z => by simp [List.count_append, List.count_cons]; omega)
                exact q1 σ S1 A1 _ growN rr Keep.refl
              · rw [if_neg hf] at eput
                cases eput
          · exact q1.elim
    · rw [if_neg hq] at q1
      exact q1.elim
  · exact q1.elim
end DR
end
section
/-! DR34: objects: append to a field's list, methods, new objects. -/
namespace DR
open PySem PySem.Spec PyProof.Rows L2
variable {K : PySem.W.Frag} {G : Str → Option Value} {S S' S1 H H' H1 : Hp} {A A' A1 B C : List Addr} {E : XK} {σ σ0 σ1 : L2.St} {ρ : Sl} {X : Cx} {e b c : Expr} {es : List Expr} {pos : Pos} {D : Ends} {f1 f2 : Sl → R PyData} {fm : Sl → R MD} {W W1 W2 : List Nat} {fa : Sl → R (List AV)}
theorem own_updF {i k : Nat} {cn f : Str} {ms : List (Str × MD)} {ks : List MD} (r : Rel K G S ρ A σ H) (em : ρ[i]? = some (some (.mo cn ms))) (ek : ms[k]? = some (f, .ml ks)) :
    ∃ a C dx fs l xs, σ[i]? = some (some (.ref a)) ∧ H a = some (.ins C dx fs) ∧ G cn = some (.ref C) ∧ PySem.W.findIn K (.ref C) f = some none ∧ fs.lookup f = some (.ref l) ∧ H l = some (.lst xs) ∧ xs.length = ks.length ∧
      ∀ v d, Fz K S v d → Rel K G S (ρ.set i (some (.mo cn (ms.set k (f, .ml (ks ++ [.fz d])))))) A σ (upd H l (.lst (xs ++ [v]))) ∧ Grow S A H S A (upd H l (.lst (xs ++ [v]))) := by
  obtain ⟨A0, ro, nd, sb⟩ := r.rep
  obtain ⟨v0, Bo, Co, g1, g2, g3, pm⟩ := take1 ro em
  cases g2 with
  | @mo a C dx fs _ _ Bf ha g n w hfs =>
    obtain ⟨vo, hvo⟩ := names_at (k := k) (f := f) (d := .ml ks) n ek
    obtain ⟨v1, B1, Bk, B2, k1, k2, k3, k4⟩ := repMs_setK (k := k) (m := .ml ks) hfs (by rw [List.getElem?_map, ek]; rfl)
    subst k3
    rw [List.getElem?_map, hvo] at k1
    injection k1 with k1
    have k1 : vo = v1 := k1
    subst k1
    cases k2 with
    | @ml l xs _ Bl hl hks =>
      have nd1 := pm.nodup_iff.mp nd
      have ff : f ∈ fs.map (·.1) := List.mem_map.mpr ⟨_, List.mem_of_getElem? hvo, rfl⟩
      have hlen : xs.length = ks.length := by
        have z := (repO_of hks).len
        simpa using z
      refine ⟨a, C, dx, fs, l, xs, g1, ha, g, w.1 f ff, lookup_at w.2 hvo, hl, hlen, fun v d hv => ?_⟩
      have lA : l ∈ A := sb l (pm.mem_iff.mpr (by simp))
      have ne : ∀ b, b ∈ a :: (B1 ++ (Bl ++ B2)) ++ Co → b ≠ l := fun b hb q => by
        subst q
        have pp : (a :: (B1 ++ (b :: Bl ++ B2)) ++ Co).Perm (b :: (a :: (B1 ++ (Bl ++ B2)) ++ Co)) := List.perm_iff_count.mpr fun z => by simp [List.count_append, List.count_cons]; omega
        exact (List.nodup_cons.mp (pp.nodup_iff.mp nd1)).1 hb
      have keepN : ∀ (b : Addr) o, b ≠ l → H b = some o → upd H l (.lst (xs ++ [v])) b = some o := fun b o nb h => by rw [upd_ne nb]; exact h
      have iρ : i < ρ.length := (List.getElem?_eq_some_iff.mp em).1
      have hCo := g3.mono (H' := upd H l (.lst (xs ++ [v]))) (Sub.refl _) fun b hb o h => keepN b o (ne b (List.mem_append_right _ hb)) h
      have hksN := hks.mono (H' := upd H l (.lst (xs ++ [v]))) (Sub.refl _) fun b hb o h => keepN b o (ne b (by simp [hb])) h
      have fieldN : RepM K G S (upd H l (.lst (xs ++ [v]))) (.ref l) (.ml (ks ++ [.fz d])) (l :: Bl) := by
        have := repMs_snocK hksN (RepM.fz (K := K) (G := G) (S := S) (H := upd H l (.lst (xs ++ [v]))) hv)
        rw [List.append_nil] at this
        exact .ml upd_same this
      have r4 := k4 S (upd H l (.lst (xs ++ [v]))) (.ref l) (.ml (ks ++ [.fz d])) (l :: Bl) (Sub.refl _) (fun b hb o h => keepN b o (ne b (by
        rcases List.mem_append.mp hb with u | u
        · simp [u]
        · simp [u])) h) fieldN
      have es : (fs.map (·.2)).set k (.ref l) = fs.map (·.2) := by
        have h' : (fs.map (·.2))[k]? = some (.ref l) := by rw [List.getElem?_map, hvo]; rfl
        obtain ⟨u1, u2⟩ := List.getElem?_eq_some_iff.mp h'
        rw [← u2]
        exact List.set_getElem_self ..
      rw [es] at r4
      have em2 : (ms.set k (f, MD.ml (ks ++ [.fz d]))).map (·.1) = ms.map (·.1) := by
        rw [List.map_set]
        have h' : (ms.map (·.1))[k]? = some f := by rw [List.getElem?_map, ek]; rfl
        obtain ⟨u1, u2⟩ := List.getElem?_eq_some_iff.mp h'
        rw [← u2]
        exact List.set_getElem_self ..
      have roN : RepM K G S (upd H l (.lst (xs ++ [v]))) (.ref a) (.mo cn (ms.set k (f, .ml (ks ++ [.fz d])))) (a :: (B1 ++ ((l :: Bl) ++ B2))) :=
        .mo (keepN a _ (ne a (by simp)) ha) g (by rw [em2]; exact n) w (by rw [List.map_set]; exact r4)
      obtain ⟨A2, p1, p2⟩ := put1 hCo (List.getElem?_set_self iρ) g1 roN
      rw [List.set_set] at p1
      refine ⟨⟨fun b o h => keepN b o (fun q => by
        rw [q, (r.off l lA).1] at h
        cases h) (r.sub b o h), ⟨A2, p1, p2.nodup_iff.mpr nd1, fun z hz => sb z (pm.mem_iff.mpr (p2.mem_iff.mp hz))⟩, fun b hb => ⟨(r.off b hb).1, fun z => ?_⟩⟩, ⟨Sub.refl _, fun _ h => .inl h, fun b o h nb => keepN b o (fun q => nb (by rw [q]; exact lA)) h, fun _ h => .inl h, fun b h => ?_⟩⟩
      · by_cases q : b = l
        · rw [q, upd_same] at z
          cases z
        · rw [upd_ne q] at z
          exact (r.off b hb).2 z
      · by_cases q : b = l
        · rw [q, upd_same] at h
          cases h
        · rw [upd_ne q] at h
          exact h
/-- self.f.append(x), x frozen in slot j -/
def sAppF (c : Str) (i k : Nat) (f : Str) (j : Nat) : Sl → RS := fun ρ => match ρ[i]?, ρ[j]? with
  | some (some (.mo c' ms)), some (some (.fz d)) => match ms[k]? with
    | some p => match p.2 with
      | .ml ks => if c' = c ∧ p.1 = f ∧ ks.length < sizeLine then .nx (ρ.set i (some (.mo c' (ms.set k (f, .ml (ks ++ [.fz d])))))) else .bad
      | _ => .bad
    | none => .bad
  | _, _ => .bad
@[simp] theorem sAppF_e (c : Str) (i k : Nat) (f : Str) (j : Nat) (ρ : Sl) : sAppF c i k f j ρ = match ρ[i]?, ρ[j]? with
  | some (some (.mo c' ms)), some (some (.fz d)) => match ms[k]? with
    | some p => match p.2 with
      | .ml ks => if c' = c ∧ p.1 = f ∧ ks.length < sizeLine then .nx (ρ.set i (some (.mo c' (ms.set k (f, .ml (ks ++ [.fz d])))))) else .bad
      | _ => .bad
    | none => .bad
  | _, _ => .bad := keep rfl
theorem simS_appF (i k j : Nat) {c x y f : Str} {p p2 p3 apos cpos : Pos} (hc : ClsC X.K X.mg c) (hN : X.N[i]? = some x := by rfl) (hv : Vis X.env.scope x := by first | exact Or.inl rfl | exact Or.inr (Or.inl rfl) | exact Or.inr (Or.inr rfl)) (hd : (x == ("__debug__" : Str)) = false := by decide)
    (hcd : (x == ("__classdict__" : Str)) = false := by decide) (hN2 : X.N[j]? = some y := by rfl) (hv2 : Vis X.env.scope y := by first | exact Or.inl rfl | exact Or.inr (Or.inl rfl) | exact Or.inr (Or.inr rfl)) (hd2 : (y == ("__debug__" : Str)) = false := by decide)
    (hcd2 : (y == ("__classdict__" : Str)) = false := by decide) (hb : attributeBase (.Name x p) f X.env (eval (.Name x p) X.env) = eval (.Name x p) X.env := by rfl)
    (hbase : attributeBase (.Attribute (.Name x p) f p2) "append" X.env (eval (.Attribute (.Name x p) f p2) X.env) = eval (.Attribute (.Name x p) f p2) X.env := by rfl)
    (hfew : ((backTo cpos (starEach [.Name y p3] X.env)).all (fun x => !x.1) && (backToKw cpos (keywordEach [] X.env)).all (fun x => x.1.isSome)
      && decide (([.Name y p3] : List Expr).length + ([] : List Keyword).length + (if ([] : List Keyword).isEmpty then 0 else 1) < 30)) = true := by rfl)
    (hline : (apos.endLine == cpos.line) = true := by rfl) (he : starEach [.Name y p3] X.env = (false, eval (.Name y p3) X.env) :: starEach [] X.env := by rfl) (hplain : (backTo cpos (starEach [] X.env)).any (·.1) = false := by rfl)
    (hs : swapsWith (.Call (.Attribute (.Attribute (.Name x p) f p2) "append" apos) [.Name y p3] [] cpos) none pos.line X.env = pure false := by rfl) :
    SimS X E [] (.Expr (.Call (.Attribute (.Attribute (.Name x p) f p2) "append" apos) [.Name y p3] [] cpos) pos) (sAppF c i k f j) := by
  obtain ⟨C0, gC, cl⟩ := hc.ex
  refine ⟨_, ps_expr (pe_bm PySem.F.plainAttrs_list PySem.F.slot_list_append PySem.F.type_list_append mt_append (pe_fld (pe_var hN hv hd hcd) hb) (pa_cons (pe_var hN2 hv2 hd2 hcd2) pa_nil he) hbase hfew hline he hplain) hs, fun σ ρ S A H D r q => ?_⟩
  unfold sAppF at q
  split at q
  · rename_i c' ms d em ed
    split at q
    · rename_i p0 ek
      split at q
      · rename_i ks e0
        by_cases hf : c' = c ∧ p0.1 = f ∧ ks.length < sizeLine
        · rw [if_pos hf] at q
          have ek' : ms[k]? = some (f, .ml ks) := by rw [ek, ← hf.2.1, ← e0]
          obtain ⟨a, C, dx, fs, l, xs, h1, h2, h3, h4, h5, h6, h7, h8⟩ := own_updF r em ek'
          rw [hf.1, gC] at h3
          injection h3 with h3
          injection h3 with h3
          subst h3
          obtain ⟨v, Bv, g1, g2⟩ := r.at ed
          obtain ⟨r2, g3⟩ := h8 v d g2.fz_of
          refine ⟨.ref a, h1, a, C0, dx, fs, .ref l, rfl, h2, cl, h4, h5, .inl ⟨rfl, xs, SqL.of h6⟩, v, g1, ?_⟩
          exact ⟨l, xs, v, rfl, rfl, h6, by rw [h7]; exact hf.2.2, q σ S A _ g3 r2 Keep.refl⟩
        · rw [if_neg hf] at q
          exact q.elim
      · exact q.elim
    · exact q.elim
  · exact q.elim
/-! ### methods -/
structure MethDef (P : Program) (w : World) (K : PySem.W.Frag) (mg : Str → Option Value) (base : Heap) (c m : Str) (F : FnSem) (k : Nat) : Prop where
  ex : ∃ C f fd ps, mg c = some (.ref C) ∧ Cls K C ∧ Meth K C m f ∧ FnOk P w K mg base (L2.CX P w) k f fd ps (spOf K mg F) ∧ Binds K fd ps []
def mMeth (c : Str) (i : Nat) (F : FnSem) (fa : Sl → R (List AV)) : Sl → R MD := fun ρ => match ρ[i]? with
  | some (some (.mo c' _)) => if c' = c then (fa ρ).bind fun as ρ => callS F (.i i :: as) ρ else .bad
  | some (some (.fo c' _)) => if c' = c then (fa ρ).bind fun as ρ => callS F (.i i :: as) ρ else .bad
  | _ => .bad
@[simp] theorem mMeth_e (c : Str) (i : Nat) (F : FnSem) (fa : Sl → R (List AV)) (ρ : Sl) : mMeth c i F fa ρ = match ρ[i]? with
  | some (some (.mo c' _)) => if c' = c then (fa ρ).bind fun as ρ => callS F (.i i :: as) ρ else .bad
  | some (some (.fo c' _)) => if c' = c then (fa ρ).bind fun as ρ => callS F (.i i :: as) ρ else .bad
  | _ => .bad := keep rfl
theorem meth_no {C f dx : Addr} {m : Str} {fs : List (Str × V)} (hm : Meth K C m f) (w : ∀ g ∈ fs.map (·.1), PySem.W.findIn K (.ref C) g = some none) : fs.lookup m = none := lookup_no fun q => by
  have := w m q
  rw [hm.at_] at this
  cases this
/-- what a method call's object gives -/
theorem meth_obj {c m : Str} {i : Nat} {C f : Addr} {α : Type} {F : α} {E' : XK} {CC : MD → Sl → Hp → List Addr → Hp → Prop} {g : Sl → R MD} (r : Rel K G S ρ A σ H) (gC : G c = some (.ref C)) (hm : Meth K C m f)
    (q : Run K G E' S A σ H (match ρ[i]? with
      | some (some (.mo c' _)) => if c' = c then g ρ else .bad
      | some (some (.fo c' _)) => if c' = c then g ρ else .bad
      | _ => .bad) CC) : Run K G E' S A σ H (g ρ) CC ∧ ∃ a dx fs, σ[i]? = some (some (.ref a)) ∧ H a = some (.ins C dx fs) ∧ fs.lookup m = none := by
  split at q
  · rename_i c' ms em
    by_cases hq : c' = c
    · rw [if_pos hq] at q
      refine ⟨q, ?_⟩
      obtain ⟨v, B, h1, h2⟩ := r.at em
      cases h2 with
      | @mo a C' dx fs _ _ _ ha g' n w hs =>
        rw [hq, gC] at g'
        injection g' with g'
        injection g' with g'
        subst g'
        exact ⟨a, dx, fs, h1, ha, meth_no (dx := dx) hm w.1⟩
    · rw [if_neg hq] at q
      exact q.elim
  · rename_i c' ms em
    by_cases hq : c' = c
    · rw [if_pos hq] at q
      refine ⟨q, ?_⟩
      obtain ⟨v, B, h1, h2⟩ := r.at em
      cases h2 with
      | @fo a C' dx fs _ _ ha g' n w hs =>
        rw [hq, gC] at g'
        injection g' with g'
        injection g' with g'
        subst g'
        exact ⟨a, dx, fs, h1, r.sub a _ ha, meth_no (dx := dx) hm w.1⟩
    · rw [if_neg hq] at q
      exact q.elim
  · exact q.elim
theorem simM_meth (i : Nat) {c x m : Str} {p apos : Pos} {F : FnSem} {k j : Nat} (Df : MethDef X.prog X.w X.K X.mg X.base c m F k) (hr : Room j X.A) (hx : Passes (L2.CX X.prog X.w) X E) (h : SimCA X E (e :: es) fa) (hk : k ≤ j := by decide)
    (hN : X.N[i]? = some x := by rfl) (hv : Vis X.env.scope x := by first | exact Or.inl rfl | exact Or.inr (Or.inl rfl) | exact Or.inr (Or.inr rfl)) (hd : (x == ("__debug__" : Str)) = false := by decide) (hcd : (x == ("__classdict__" : Str)) = false := by decide) {pl : Sem Bool}
    (hst : starEach (e :: es) X.env = (false, eval e X.env) :: starEach es X.env := by rfl) (hpl : (backTo pos (starEach es X.env)).any (·.1) = false := by rfl)
    (ht : eval (.Call (.Attribute (.Name x p) m apos) (e :: es) [] pos) X.env = (do
      let ov ← eval (.Name x p) X.env
      standAt apos.atName
      let (f, first) ← holding [ov] (getMethod ov m pl)
      callWith pos f first (backTo pos (starEach (e :: es) X.env)) (backToKw pos (keywordEach [] X.env))) := by rfl) : SimM X E (.Call (.Attribute (.Name x p) m apos) (e :: es) [] pos) (mMeth c i F fa) := by
  obtain ⟨C, f, fd, ps, gC, cl, hm, ok, hb⟩ := Df.ex
  obtain ⟨t, pa, s⟩ := h.ex
  refine ⟨_, pe_meth (pe_var hN hv hd hcd) cl hm ok (hr.mono hk) hb .nil hx pa hst hpl ht, fun σ ρ S A H Q r q => ?_⟩
  obtain ⟨q, a, dx, fs, h1, h2, h3⟩ := meth_obj (F := F) (g := fun ρ => (fa ρ).bind fun as ρ => callS F (.i i :: as) ρ) r gC hm q
  refine ⟨_, h1, a, dx, fs, rfl, h2, h3, s σ ρ S A H _ r ((Run.bind q).imp fun as ρ1 S1 A1 H1 q1 r1 vs hvs => ?_)⟩
  rw [List.append_nil]
  exact call_core r1 (.cons (b := AV.i i) h1 hvs) q1
theorem simM_meth0 (i : Nat) {c x m : Str} {p apos : Pos} {F : FnSem} {k j : Nat} (Df : MethDef X.prog X.w X.K X.mg X.base c m F k) (hr : Room j X.A) (hx : Passes (L2.CX X.prog X.w) X E) (hk : k ≤ j := by decide)
    (hN : X.N[i]? = some x := by rfl) (hv : Vis X.env.scope x := by first | exact Or.inl rfl | exact Or.inr (Or.inl rfl) | exact Or.inr (Or.inr rfl)) (hd : (x == ("__debug__" : Str)) = false := by decide) (hcd : (x == ("__classdict__" : Str)) = false := by decide) {pl : Sem Bool}
    (ht : eval (.Call (.Attribute (.Name x p) m apos) [] [] pos) X.env = (do
      let ov ← eval (.Name x p) X.env
      standAt apos.atName
      let (f, first) ← holding [ov] (getMethod ov m pl)
      callWith pos f first (backTo pos (starEach [] X.env)) (backToKw pos (keywordEach [] X.env))) := by rfl) : SimM X E (.Call (.Attribute (.Name x p) m apos) [] [] pos) (mMeth c i F aNil) := by
  obtain ⟨C, f, fd, ps, gC, cl, hm, ok, hb⟩ := Df.ex
  refine ⟨_, pe_meth0 (pe_var hN hv hd hcd) cl hm ok (hr.mono hk) hb .nil hx ht, fun σ ρ S A H Q r q => ?_⟩
  obtain ⟨q, a, dx, fs, h1, h2, h3⟩ := meth_obj (F := F) (g := fun ρ => (aNil ρ).bind fun as ρ => callS F (.i i :: as) ρ) r gC hm q
  exact ⟨_, h1, a, dx, fs, rfl, h2, h3, call_core r (.cons (b := AV.i i) h1 .nil) q⟩
/-! within a try -/
theorem simMX_meth (i : Nat) {Wx : WX} {c x m : Str} {p apos : Pos} {F : FnSem} {k j : Nat} (Df : MethDef X.prog X.w X.K X.mg X.base c m F k) (hr : Room j X.A) (tk : Takes X Wx) (h : ∀ E, SimCA X E (e :: es) fa) (hk : k ≤ j := by decide)
    (hN : X.N[i]? = some x := by rfl) (hv : Vis X.env.scope x := by first | exact Or.inl rfl | exact Or.inr (Or.inl rfl) | exact Or.inr (Or.inr rfl)) (hd : (x == ("__debug__" : Str)) = false := by decide) (hcd : (x == ("__classdict__" : Str)) = false := by decide) {pl : Sem Bool}
    (hst : starEach (e :: es) X.env = (false, eval e X.env) :: starEach es X.env := by rfl) (hpl : (backTo pos (starEach es X.env)).any (·.1) = false := by rfl)
    (ht : eval (.Call (.Attribute (.Name x p) m apos) (e :: es) [] pos) X.env = (do
      let ov ← eval (.Name x p) X.env
      standAt apos.atName
      let (f, first) ← holding [ov] (getMethod ov m pl)
      callWith pos f first (backTo pos (starEach (e :: es) X.env)) (backToKw pos (keywordEach [] X.env))) := by rfl) : SimMX X Wx (.Call (.Attribute (.Name x p) m apos) (e :: es) [] pos) (mMeth c i F fa) := by
  obtain ⟨C, f, fd, ps, gC, cl, hm, ok, hb⟩ := Df.ex
  refine ⟨fun σ ρ S A H Q pins s r q I => ?_⟩
  obtain ⟨t, pa, sm⟩ := (h (WE Wx σ)).ex
  obtain ⟨q, a, dx, fs, h1, h2, h3⟩ := meth_obj (F := F) (g := fun ρ => (fa ρ).bind fun as ρ => callS F (.i i :: as) ρ) r gC hm q
  refine PySem.W.methodCall_KW (pl := pl) (thn ((pe_var (pos := p) hN hv hd hcd).run pins s σ H (fun v H' => v = .ref a ∧ H' = H) I ⟨_, h1, rfl, rfl⟩) fun u s1 ⟨v, H1, I1, rv, ev, eH⟩ => ?_) ht
  subst ev eH
  obtain rfl : u = Value.ref a := rv
  refine getmeth_ok I1 h2 cl hm h3 ?_
  refine PySem.W.callWith_K (first := [.ref a]) (h₀ := X.base) I1.ok.mod.kin hm.kp (thn (pa.run pos pins s1 σ _ _ I1 (sm σ ρ S A _ (fun vs H2 => spOf X.K X.mg F (.ref a :: vs) H2 Q (WE Wx σ)) r ((Run.bind q).imp fun as ρ1 S1 A1 H1 q1 r1 vs hvs => call_core r1 (.cons (b := AV.i i) h1 hvs) q1))) fun us s2 ⟨vs, H2, I2, rr, q2⟩ => ⟨I2.kIn, ?_⟩) hst hpl
  exact run_fnS (us := .ref a :: us) (vs := .ref a :: vs) (E := WE Wx) ok (hr.mono hk) hb (passAt tk σ) I2 (.cons rfl rr) q2
/-! ### new objects -/
structure MakeDef (P : Program) (w : World) (K : PySem.W.Frag) (mg : Str → Option Value) (base : Heap) (c : Str) (F : FnSem) (k : Nat) : Prop where
  ex : ∃ C f fd ps, mg c = some (.ref C) ∧ Mk K C f ∧ FnOk P w K mg base (L2.CX P w) k f fd ps (spOf K mg F) ∧ Binds K fd ps []
def mMake (c : Str) (F : FnSem) : Sl → R MD := fun ρ => match F [.mo c []] with
  | .ok (.fz .none) [m] => .ok m ρ
  | _ => .bad
@[simp] theorem mMake_e (c : Str) (F : FnSem) (ρ : Sl) : mMake c F ρ = match F [.mo c []] with
  | .ok (.fz .none) [m] => .ok m ρ
  | _ => .bad := keep rfl
theorem simM_make0 {c : Str} {p : Pos} {F : FnSem} {k j : Nat} (Df : MakeDef X.prog X.w X.K X.mg X.base c F k) (hr : Room j X.A) (hx : Passes (L2.CX X.prog X.w) X E) (hk : k + 1 ≤ j := by decide) (hg : Gl X c := by rfl) (hdb : (c == ("__debug__" : Str)) = false := by decide) :
    SimM X E (.Call (.Name c p) [] [] pos) (mMake c F) := by
  obtain ⟨C, f, fd, ps, gC, M, ok, hb⟩ := Df.ex
  refine ⟨_, pe_make0 M ok (hr.mono hk) hg gC hb .nil hx hdb, fun σ ρ S A H Q r q => ?_⟩
  intro x dx nx ndx ne
  have nS : ∀ z, H z = none → S z = none := fun z h => by
    cases w : S z with
    | none => rfl
    | some o => rw [r.sub z o w] at h; cases h
  have up : ∀ b o, H b = some o → upd (upd H dx (.own x)) x (.ins C dx []) b = some o := fun b o h => by
    rw [upd_ne (fun q => by rw [q, nx] at h; cases h), upd_ne (fun q => by rw [q, ndx] at h; cases h)]
    exact h
  have dn : ∀ b, upd (upd H dx (.own x)) x (.ins C dx []) b = none → H b = none := fun b h => by
    cases w : H b with
    | none => rfl
    | some o => rw [up b o w] at h; cases h
  show spOf X.K X.mg F [.ref x] _ _ E
  refine ⟨S, [.mo c []], [x], ⟨fun b o h => up b o (r.sub b o h), ⟨(x :: []) ++ [], .keep (.mo upd_same gC rfl ⟨fun g hg => (by cases hg), by simp⟩ .nil) .nil, by simp, fun a h => by simpa using h⟩, fun a h => ?_⟩, ?_⟩
  · rw [List.mem_singleton] at h
    rw [h]
    exact ⟨nS x nx, by rw [upd_same]; intro z; cases z⟩
  · unfold mMake at q
    split at q
    · rename_i m eF
      rw [eF]
      intro v S' A' H' g r'
      obtain ⟨A1, ro1, nd1, sb1⟩ := r'.rep
      cases ro1 with
      | @keep _ _ _ _ B0 Bs hn hs =>
        cases hn with
        | fz hv =>
          cases hv
          refine ⟨rfl, ?_⟩
          cases hs with
          | @keep _ _ _ _ Bm Bn hm hnil =>
            cases hnil
            obtain ⟨A0, ro, nd, sb⟩ := r.rep
            have inA : ∀ b ∈ Bm, b ∈ A' := fun b h => sb1 b (by simp [h])
            have freshB : ∀ b ∈ Bm, H b = none := fun b h => by
              rcases g.an b (inA b h) with u | u
              · rw [List.mem_singleton] at u
                rw [u]
                exact nx
              · exact dn b u
            have hh : ∀ b o, H b = some o → H' b = some o := fun b o h => g.fr b o (up b o h) fun u => by
              rw [List.mem_singleton] at u
              rw [u, nx] at h
              cases h
            have sn : ∀ b, S' b ≠ none → S b ≠ none ∨ H b = none := fun b h => by
              rcases g.sn b h with u | u | u
              · exact .inl u
              · exact .inr (dn b u)
              · rw [List.mem_singleton] at u
                rw [u]
                exact .inr nx
            refine q S' (Bm ++ A) H' ⟨g.ss, fun b h => (sn b h).elim .inl fun z => .inr (.inl z), fun b o h _ => hh b o h, fun b h => ?_, fun b h => dn b (g.dm b h)⟩ (.ref x) ⟨r'.sub, ⟨Bm ++ A0, .keep hm (ro.mono g.ss fun a _ o h => hh a o h), ?_, fun b h => ?_⟩, fun b h => ?_⟩
            · rcases List.mem_append.mp h with h | h
              · exact .inr (freshB b h)
              · exact .inl h
            · have ndB : Bm.Nodup := by
                have := nd1
                simp only [List.nil_append, List.append_nil] at this
                exact this
              refine List.nodup_append.mpr ⟨ndB, nd, fun a h1 b h2 e => ?_⟩
              subst e
              exact (r.off a (sb a h2)).2 (freshB a h1)
            · rcases List.mem_append.mp h with h | h
              · exact List.mem_append_left _ h
              · exact List.mem_append_right _ (sb b h)
            · rcases List.mem_append.mp h with h | h
              · exact r'.off b (inA b h)
              · have o := r.off b h
                refine ⟨?_, fun z => o.2 (dn b (g.dm b z))⟩
                cases w : S' b with
                | none => rfl
                | some u =>
                  rcases sn b (by rw [w]; intro z; cases z) with u | u
                  · exact (u o.1).elim
                  · exact (o.2 u).elim
    · exact q.elim
end DR
end
section
/-! DR35: what is never reached; looks within a try; the defs of a class. -/
namespace DR
open PySem PySem.Spec PyProof.Rows L2
variable {K : PySem.W.Frag} {G : Str → Option Value} {S S' S1 H H' H1 : Hp} {A A' A1 B C : List Addr} {E : XK} {σ σ0 σ1 : L2.St} {ρ : Sl} {X : Cx} {e b c : Expr} {es : List Expr} {pos : Pos} {D : Ends} {f1 f2 : Sl → R PyData} {fm : Sl → R MD} {W W1 W2 : List Nat} {fa : Sl → R (List AV)}
def sNever : Sl → RS := fun _ => .bad
@[simp] theorem sNever_e (ρ : Sl) : sNever ρ = .bad := keep rfl
theorem simS_never {st : Stmt} : SimS X E [] st sNever := ⟨_, ps_never, fun σ ρ S A H D r q => q.elim⟩
theorem simMX_peekM {Wx : WX} (h : SimMX X Wx e fm) : SimMX X Wx e (mPeekM fm) := by
  refine ⟨fun σ ρ S A H Q pins s r q I => ?_⟩
  obtain ⟨B, hB, r1, k⟩ := r.look
  refine h.run σ (viewO ρ) _ [] H Q pins s r1 ?_ I
  unfold mPeekM at q
  cases z : fm (viewO ρ) with
  | ok m ρ' =>
    rw [z] at q
    simp only at q
    by_cases hc : clnM m = true
    · rw [if_pos hc] at q
      intro S' A' H' g v r'
      obtain ⟨k1, _, _, kB⟩ := k S' A' H' g r'.sub
      obtain ⟨A2, ro2, nd2, sb2⟩ := r'.rep
      cases ro2 with
      | @keep _ _ _ _ Bm Bs hm hs =>
        obtain ⟨k2, k3⟩ := k1 Bm (fun b h => sb2 b (List.mem_append_left _ h)) r'.off (List.nodup_append.mp nd2).1
        exact q _ _ _ k2 v (k3 v m (repM_out r'.sub kB hm hc))
    · rw [if_neg hc] at q
      exact q.elim
  | exc x ρ' =>
    rw [z] at q
    simp only at q
    by_cases hc : flatX x = true
    · rw [if_pos hc] at q
      intro S' A' H' cls dd g r' ex
      obtain ⟨_, k2, k3, _⟩ := k S' A' H' g r'.sub
      refine q _ _ _ cls dd k2 k3 ⟨ex.1, ?_⟩
      rcases ex.2 with u | ⟨d, fs, e1, e2, e3⟩
      · exact .inl u
      · exact .inr ⟨d, fs, e1, e2, kd_flat e3 hc⟩
    · rw [if_neg hc] at q
      exact q.elim
  | bad =>
    rw [z] at q
    exact q.elim
/-- o.m() within a try -/
theorem simMX_meth0 (i : Nat) {Wx : WX} {c x m : Str} {p apos : Pos} {F : FnSem} {k j : Nat} (Df : MethDef X.prog X.w X.K X.mg X.base c m F k) (hr : Room j X.A) (tk : Takes X Wx) (hk : k ≤ j := by decide)
    (hN : X.N[i]? = some x := by rfl) (hv : Vis X.env.scope x := by first | exact Or.inl rfl | exact Or.inr (Or.inl rfl) | exact Or.inr (Or.inr rfl)) (hd : (x == ("__debug__" : Str)) = false := by decide) (hcd : (x == ("__classdict__" : Str)) = false := by decide) {pl : Sem Bool}
    (ht : eval (.Call (.Attribute (.Name x p) m apos) [] [] pos) X.env = (do
      let ov ← eval (.Name x p) X.env
      standAt apos.atName
      let (f, first) ← holding [ov] (getMethod ov m pl)
      callWith pos f first (backTo pos (starEach [] X.env)) (backToKw pos (keywordEach [] X.env))) := by rfl) : SimMX X Wx (.Call (.Attribute (.Name x p) m apos) [] [] pos) (mMeth c i F aNil) := by
  obtain ⟨C, f, fd, ps, gC, cl, hm, ok, hb⟩ := Df.ex
  refine ⟨fun σ ρ S A H Q pins s r q I => ?_⟩
  obtain ⟨q, a, dx, fs, h1, h2, h3⟩ := meth_obj (F := F) (g := fun ρ => (aNil ρ).bind fun as ρ => callS F (.i i :: as) ρ) r gC hm q
  refine PySem.W.methodCall_KW (pl := pl) (thn ((pe_var (pos := p) hN hv hd hcd).run pins s σ H (fun v H' => v = .ref a ∧ H' = H) I ⟨_, h1, rfl, rfl⟩) fun u s1 ⟨v, H1, I1, rv, ev, eH⟩ => ?_) ht
  subst ev eH
  obtain rfl : u = Value.ref a := rv
  refine getmeth_ok I1 h2 cl hm h3 ?_
  exact PySem.W.callWith_K0 (first := [.ref a]) I1.kIn hm.kp (run_fnS (us := [.ref a]) (vs := [.ref a]) (E := WE Wx) ok (hr.mono hk) hb (passAt tk σ) I1 (.cons rfl .nil) (call_core r (.cons (b := AV.i i) h1 .nil) q))
/-- the j-th def of a class -/
def clsDef (s : Stmt) (j : Nat) : Stmt := match s with
  | .ClassDef _ _ _ body _ _ _ _ _ _ _ => body.getD j (.Pass ⟨0, 0, 0, 0⟩)
  | _ => .Pass ⟨0, 0, 0, 0⟩
end DR
end
section
/-! DR36: equations for objects. -/
namespace DR
open PySem L2
@[simp] theorem ownArgs_mo (W : List Nat) (n : Nat) (c : Str) (fs : List (Str × MD)) (ms : List MD) (m : MD) (ρ : Sl) : ownArgs W n (.mo c fs :: ms) (some m :: ρ) = if n ∈ W then (ownArgs W (n + 1) ms ρ).map (.gone :: ·) else (ownArgs W (n + 1) ms ρ).map (m :: ·) := keep rfl
@[simp] theorem ownArgs_fo (W : List Nat) (n : Nat) (c : Str) (fs : List (Str × PyData)) (ms : List MD) (m : MD) (ρ : Sl) : ownArgs W n (.fo c fs :: ms) (some m :: ρ) = if n ∈ W then (ownArgs W (n + 1) ms ρ).map (.gone :: ·) else (ownArgs W (n + 1) ms ρ).map (m :: ·) := keep rfl
@[simp] theorem frz_mo (c : Str) (fs : List (Str × MD)) : MD.frz (.mo c fs) = none := by simp [MD.frz]
@[simp] theorem frz_fo (c : Str) (fs : List (Str × PyData)) : MD.frz (.fo c fs) = none := by simp [MD.frz]
@[simp] theorem clnM_fz (d : PyData) : clnM (.fz d) = (lsIn d).isEmpty := by simp [clnM]
@[simp] theorem clnM_ml (ms : List MD) : clnM (.ml ms) = clnMs ms := by simp [clnM]
@[simp] theorem clnM_mt (ms : List MD) : clnM (.mt ms) = clnMs ms := by simp [clnM]
@[simp] theorem clnMs_nil : clnMs [] = true := by simp [clnMs]
@[simp] theorem clnMs_cons (m : MD) (ms : List MD) : clnMs (m :: ms) = (clnM m && clnMs ms) := by simp [clnMs]
theorem clnMs_fz (ds : List PyData) : clnMs (ds.map .fz) = (lsIns ds).isEmpty := by
  induction ds with
  | nil => rfl
  | cons d r ih =>
    rw [List.map_cons, clnMs_cons, ih, clnM_fz]
    show _ = (lsIn d ++ lsIns r).isEmpty
    cases lsIn d with
    | nil => rfl
    | cons a l => rfl
@[simp] theorem lsIn_int (i : Int) : lsIn (.int i) = [] := keep rfl
@[simp] theorem lsIn_bool (i : Bool) : lsIn (.bool i) = [] := keep rfl
@[simp] theorem lsIn_none : lsIn .none = [] := keep rfl
@[simp] theorem lsIn_str (x : Str) : lsIn (.str x) = [] := keep rfl
@[simp] theorem lsIn_tuple (ds : List PyData) : lsIn (.tuple ds) = lsIns ds := keep rfl
@[simp] theorem lsIns_nil : lsIns [] = [] := keep rfl
@[simp] theorem lsIns_cons (d : PyData) (ds : List PyData) : lsIns (d :: ds) = lsIn d ++ lsIns ds := keep rfl
@[simp] theorem viewO1_ml0 : viewO1 (some (.ml [])) = some (.fz (.list [])) := keep rfl
@[simp] theorem viewO1_mt (ms : List MD) : viewO1 (some (.mt ms)) = none := keep rfl
@[simp] theorem viewO1_md (ms : List (Key × PyData)) : viewO1 (some (.md ms)) = none := keep rfl
@[simp] theorem viewO1_gone : viewO1 (some .gone) = none := keep rfl
/-- the roll, its own -/
def RollM (now : Int) (rows : List PyData) (shut : Int) (kept : List PyData) : MD := .mo "Roll" [("now", .fz (.int now)), ("rows", .ml (rows.map .fz)), ("shut_to", .fz (.int shut)), ("kept", .ml (kept.map .fz))]
/-- the roll, looked at -/
def RollF (now : Int) (rows : List PyData) (shut : Int) (kept : List PyData) : MD := .fo "Roll" [("now", .int now), ("rows", .list rows), ("shut_to", .int shut), ("kept", .list kept)]
theorem viewO1_roll (now : Int) (rows : List PyData) (shut : Int) (kept : List PyData) : viewO1 (some (RollM now rows shut kept)) = some (RollF now rows shut kept) := by
  show (fldsV _).map (fun ds => MD.fo "Roll" ds) = _
  have e : fldsV ([("now", MD.fz (.int now)), ("rows", MD.ml (rows.map .fz)), ("shut_to", MD.fz (.int shut)), ("kept", MD.ml (kept.map .fz))] : List (Str × MD)) = some ([("now", PyData.int now), ("rows", PyData.list rows), ("shut_to", PyData.int shut), ("kept", PyData.list kept)] : List (Str × PyData)) := by
    simp only [fldsV, fldV, fzs_map]
    rfl
  rw [e]
  rfl
theorem viewO1_rollF (now : Int) (rows : List PyData) (shut : Int) (kept : List PyData) : viewO1 (some (RollF now rows shut kept)) = some (RollF now rows shut kept) := rfl
end DR
end
section
/-! DR37: a statement that only looks. -/
namespace DR
open PySem L2
variable {K : PySem.W.Frag} {G : Str → Option Value} {S S' S1 H H' H1 : Hp} {A A' A1 B C : List Addr} {E : XK} {σ σ0 σ1 σ' : L2.St} {ρ : Sl} {X : Cx} {e b c : Expr} {es : List Expr} {pos : Pos} {D : Ends} {F : Sl → RS} {W W1 W2 : List Nat} {st : Stmt}
theorem RepO.chg : ∀ {σ σ' : L2.St} {ρ : Sl} {A : List Addr}, RepO K G S H σ ρ A → σ'.length = σ.length → (∀ (i : Nat) (m : MD), ρ[i]? = some (some m) → σ'[i]? = σ[i]?) → RepO K G S H σ' ρ A
  | _, [], _, _, .nil, _, _ => .nil
  | _, _ :: _, _, _, .nil, h, _ => by simp at h
  | _, [], _, _, .skip _, h, _ => by simp at h
  | _, x :: σ', _, _, .skip h, hl, k => .skip (h.chg (by simpa using hl) fun i m e => by
      have := k (i + 1) m (by simpa using e)
      simpa using this)
  | _, [], _, _, .keep _ _, h, _ => by simp at h
  | _, x :: σ', _, _, .keep (v := v) (m := m) h hs, hl, k => by
    have e0 := k 0 m rfl
    simp at e0
    subst e0
    exact .keep h (hs.chg (by simpa using hl) fun i m e => by
      have := k (i + 1) m (by simpa using e)
      simpa using this)
theorem forget_at {i : Nat} : ∀ {W : List Nat} {ρ : Sl} {m : MD}, (forget W ρ)[i]? = some (some m) → i ∉ W ∧ ρ[i]? = some (some m)
  | [], ρ, m, h => ⟨by simp, h⟩
  | j :: W, ρ, m, h => by
    have h' : (forget W (ρ.set j none))[i]? = some (some m) := h
    obtain ⟨h1, h2⟩ := forget_at h'
    by_cases q : j = i
    · subst q
      by_cases hl : j < ρ.length
      · rw [List.getElem?_set_self hl] at h2
        cases h2
      · rw [List.getElem?_eq_none (by rw [List.length_set]; omega)] at h2
        cases h2
    · rw [List.getElem?_set_ne q] at h2
      refine ⟨?_, h2⟩
      intro m
      rcases List.mem_cons.mp m with e | e
      · exact q e.symm
      · exact h1 e
theorem Rel.chg (r : Rel K G S ρ A σ H) (k : Keep W σ σ') : Rel K G S (DR.forget W ρ) A σ' H := by
  obtain ⟨A0, ro, nd, sb⟩ := (r.forget W).rep
  exact ⟨r.sub, ⟨A0, ro.chg k.len fun i m e => k.at_ i (forget_at e).1, nd, sb⟩, r.off⟩
/-- the statement looks at what is owned, and stores nothing but to the slots of W, which are forgotten -/
def sLook (W : List Nat) (F : Sl → RS) : Sl → RS := fun ρ => match F (viewO ρ) with
  | .nx _ => .nx (forget W ρ)
  | .rt m _ => if clnM m = true then .rt m (forget W ρ) else .bad
  | _ => .bad
@[simp] theorem sLook_e (W : List Nat) (F : Sl → RS) (ρ : Sl) : sLook W F ρ = match F (viewO ρ) with
  | .nx _ => .nx (forget W ρ)
  | .rt m _ => if clnM m = true then .rt m (forget W ρ) else .bad
  | _ => .bad := keep rfl
theorem simS_look (h : SimS X E W st F) : SimS X E W st (sLook W F) := by
  obtain ⟨t, p, s⟩ := h.ex
  refine ⟨t, p, fun σ ρ S A H D r q => ?_⟩
  obtain ⟨B, hB, r1, k⟩ := r.look
  refine s σ (viewO ρ) _ [] H D r1 ?_
  unfold sLook at q
  cases z : F (viewO ρ) with
  | nx ρ' =>
    rw [z] at q
    intro σ' S' A' H' g r' kp
    obtain ⟨_, k2, k3, _⟩ := k S' A' H' g r'.sub
    exact q σ' _ _ _ k2 (k3.chg kp) kp
  | rt m ρ' =>
    rw [z] at q
    simp only at q
    by_cases hc : clnM m = true
    · rw [if_pos hc] at q
      intro v σ' S' A' H' g r' kp
      obtain ⟨k1, _, _, kB⟩ := k S' A' H' g r'.sub
      obtain ⟨A2, ro2, nd2, sb2⟩ := r'.rep
      cases ro2 with
      | @keep _ _ _ _ Bm Bs hm hs =>
        obtain ⟨k2, k3⟩ := k1 Bm (fun b h => sb2 b (List.mem_append_left _ h)) r'.off (List.nodup_append.mp nd2).1
        have rr := k3 v m (repM_out r'.sub kB hm hc)
        -- the slots under the value
        obtain ⟨A3, ro3, nd3, sb3⟩ := rr.rep
        cases ro3 with
        | @keep _ _ _ _ Bv Bt hv ht =>
          have rt : Rel X.K X.mg (outH S' B) ρ (Bm ++ A) σ H' := ⟨rr.sub, ⟨Bt, ht, (List.nodup_append.mp nd3).2.1, fun z hz => sb3 z (List.mem_append_right _ hz)⟩, rr.off⟩
          -- forgotten: fewer are owned
          have fg : ∀ (W : List Nat) {ρ : Sl} {Bt : List Addr}, RepO X.K X.mg (outH S' B) H' σ ρ Bt → ∃ C D, RepO X.K X.mg (outH S' B) H' σ (forget W ρ) C ∧ Bt.Perm (C ++ D) := by
            intro W
            induction W with
            | nil => exact fun h => ⟨_, [], h, by simp⟩
            | cons j W ih =>
              intro ρ Bt h
              obtain ⟨C, D, h1, h2⟩ := h.drop1 j
              obtain ⟨C', D', h3, h4⟩ := ih h1
              exact ⟨C', D' ++ D, h3, h2.trans (by rw [← List.append_assoc]; exact List.Perm.append_right D h4)⟩
          obtain ⟨C, D', h1, h2⟩ := fg W ht
          have h3 := h1.chg kp.len fun i m e => kp.at_ i (forget_at e).1
          have pm : (Bv ++ Bt).Perm ((Bv ++ C) ++ D') := by
            rw [List.append_assoc]
            exact List.Perm.append_left Bv h2
          exact q v σ' _ _ _ k2 ⟨rr.sub, ⟨Bv ++ C, .keep hv h3, (List.nodup_append.mp (pm.nodup_iff.mp nd3)).1, fun z hz => sb3 z (pm.mem_iff.mpr (List.mem_append_left _ hz))⟩, rr.off⟩ kp
    · rw [if_neg hc] at q
      exact q.elim
  | exc x ρ' =>
    rw [z] at q
    exact q.elim
  | bad =>
    rw [z] at q
    exact q.elim
end DR
end
section
/-! DR38: raise C(e, ..), C with an __init__ that stores fields. -/
namespace DR
open PySem PySem.Spec PyProof.Rows L2
variable {K : PySem.W.Frag} {G : Str → Option Value} {S S' S1 H H' H1 : Hp} {A A' A1 B : List Addr} {E : XK} {σ σ0 σ1 : L2.St} {ρ : Sl} {X : Cx} {e a b c : Expr} {es : List Expr} {pos : Pos} {fs : Sl → R (List PyData)} {D : Ends} {C : Addr}
def oexB (K : PySem.W.Frag) (C : Addr) : Bool := (match K.lookup C with
  | some ⟨.type "type", _, .cls cd, sl⟩ => (match cd.mro, sl.toList with
    | .ref C' :: bm, [_, _, _, _, some (.builtin n), _] => C' == C && n == "ValueError.__new__" && !cd.hasDel && cd.hasDict && PySem.HandSPX.refsVE bm
    | _, _ => false)
  | _ => false) && (decide (PySem.W.findIn K (.ref C) "__setattr__" = some (some (.builtin "object.__setattr__"))) && (decide (PySem.W.subIn K (.ref C) (.type "BaseException") = some true) && (decide (PySem.W.typeIn K (.ref C) = some (.type "type")) && PySem.W.keepIn K (.ref C))))
theorem oexB_ok (q : oexB K C = true) : OexC K C := by
  obtain ⟨q, h⟩ := Bool.and_eq_true_iff.mp q
  obtain ⟨h1, h⟩ := Bool.and_eq_true_iff.mp h
  obtain ⟨h2, h⟩ := Bool.and_eq_true_iff.mp h
  obtain ⟨h3, h4⟩ := Bool.and_eq_true_iff.mp h
  refine ⟨?_, of_decide_eq_true h1, of_decide_eq_true h2, of_decide_eq_true h3, h4⟩
  split at q
  · rename_i dd cd sl ho
    split at q
    · rename_i C' bm k0 k1 k2 k3 n k5 hm hs
      simp only [Bool.and_eq_true, beq_iff_eq, Bool.not_eq_true'] at q
      obtain ⟨⟨⟨⟨rfl, rfl⟩, hdel⟩, hdct⟩, ht⟩ := q
      obtain ⟨nm, bs, mro, ns, qn, hd, sn, sub, ab, col, del⟩ := cd
      dsimp only at hm hdel hdct
      subst hm hdel hdct
      have hsl : sl = #[k0, k1, k2, k3, some (.builtin "ValueError.__new__"), k5] := by
        obtain ⟨l⟩ := sl
        simp only at hs
        rw [hs]
      subst hsl
      exact ⟨nm, qn, ns, bs, bm, sn, sub, ab, col, dd, k0, k1, k2, k3, k5, ho, ht⟩
    · cases q
  · cases q
/-- what the __init__ does -/
def spX (C : Addr) (ns : List Str) : Sp := fun vs H Q _ => ∃ a ys, vs = .ref a :: ys ∧ ys.length = ns.length ∧ H a = some (exo a C none) ∧ ∀ d, H d = none → d ≠ a → Q .non (upd (upd H a (exo a C (some d))) d (exd d (ns.zip ys).reverse))
structure XMkDef (P : Program) (w : World) (K : PySem.W.Frag) (mg : Str → Option Value) (base : Heap) (x : Str) (ns : List Str) (k : Nat) : Prop where
  ex : ∃ C fI fd ps, mg x = some (.ref C) ∧ OexC K C ∧ PySem.W.findIn K (.ref C) "__init__" = some (some (.ref fI)) ∧ PySem.W.typeIn K (.ref fI) = some (.type "function") ∧ FnOk P w K mg base (L2.CX P w) k fI fd ps (spX C ns) ∧ Binds K fd ps []
/-- def __init__(self, m1, m2): self.n1 = m1; self.n2 = m2 -/
theorem xinit2 {P : Program} {w : World} {mg : Str → Option Value} {base : Heap} {x qual : Str} {st : Stmt} {f : Addr} {fd : FuncData} {N : List Str} {n1 n2 : Str} {st1 st2 : Stmt} (Fn : Fun K x qual st f fd) (Sc : FnScope N N (defScope st)) (hN : N.length = 3) (hb : defBody st = [st1, st2]) (T : OexC K C)
    (h1 : PySem.W.findIn K (.ref C) n1 = some none) (h2 : PySem.W.findIn K (.ref C) n2 = some none)
    (hs : ∀ (cdv : Value) (A : Around) (outer : List Env) (s : Shared) (H : Hp) (E : XK), PS (cxOf (L2.CX P w) P w K mg base N qual (defScope st) f cdv A outer s H E) st1 (tOst K n1 (tVar 0) (tVar 1)) ∧ PS (cxOf (L2.CX P w) P w K mg base N qual (defScope st) f cdv A outer s H E) st2 (tOst K n2 (tVar 0) (tVar 2))) :
    FnOk P w K mg base (L2.CX P w) 1 f fd N (spX C [n1, n2]) := by
  refine Fn.okX Sc (fun vs H Q E h => ?_) (fun cdv AA outer s H vs Q E hr h => ?_)
  · obtain ⟨a, ys, rfl, hl, _⟩ := h
    rw [List.length_cons, hl, hN]
    rfl
  · obtain ⟨a, ys, rfl, hl, ea, q⟩ := h
    match ys, hl, q with
    | [y1, y2], _, q =>
      obtain ⟨p1, p2⟩ := hs cdv AA outer s H E
      refine ⟨_, by rw [hb]; exact pss_cons p1 (pss_one p2), ?_⟩
      have es : L2.start N [.ref a, y1, y2] = [some (.ref a), some y1, some y2] := by
        unfold L2.start
        rw [hN]
        rfl
      rw [es]
      refine ⟨y1, rfl, .ref a, rfl, a, C, rfl, T, h1, .inl ⟨ea, fun d hd da => ?_⟩⟩
      refine ⟨y2, rfl, .ref a, rfl, a, C, rfl, T, h2, .inr ⟨d, [(n1, y1)], upd_same, by rw [upd_ne da, upd_same], by simp, ?_⟩⟩
      have e : upd (upd (upd H d (exd d [(n1, y1)])) a (exo a C (some d))) d (exd d ((n2, y2) :: [(n1, y1)])) = upd (upd H a (exo a C (some d))) d (exd d (([n1, n2].zip [y1, y2]).reverse)) := by
        funext z
        by_cases hz : z = d
        · subst hz
          rw [upd_same, upd_same]
          rfl
        · rw [upd_ne hz, upd_ne hz]
          by_cases hz2 : z = a
          · subst hz2
            rw [upd_same, upd_same]
          · rw [upd_ne hz2, upd_ne hz2, upd_ne hz]
      show Q .non _
      rw [e]
      exact q d hd da
/-- def __init__(self, m1): self.n1 = m1 -/
theorem xinit1 {P : Program} {w : World} {mg : Str → Option Value} {base : Heap} {x qual : Str} {st : Stmt} {f : Addr} {fd : FuncData} {N : List Str} {n1 : Str} {st1 : Stmt} (Fn : Fun K x qual st f fd) (Sc : FnScope N N (defScope st)) (hN : N.length = 2) (hb : defBody st = [st1]) (T : OexC K C)
    (h1 : PySem.W.findIn K (.ref C) n1 = some none)
    (hs : ∀ (cdv : Value) (A : Around) (outer : List Env) (s : Shared) (H : Hp) (E : XK), PS (cxOf (L2.CX P w) P w K mg base N qual (defScope st) f cdv A outer s H E) st1 (tOst K n1 (tVar 0) (tVar 1))) :
    FnOk P w K mg base (L2.CX P w) 1 f fd N (spX C [n1]) := by
  refine Fn.okX Sc (fun vs H Q E h => ?_) (fun cdv AA outer s H vs Q E hr h => ?_)
  · obtain ⟨a, ys, rfl, hl, _⟩ := h
    rw [List.length_cons, hl, hN]
    rfl
  · obtain ⟨a, ys, rfl, hl, ea, q⟩ := h
    match ys, hl, q with
    | [y1], _, q =>
      refine ⟨_, by rw [hb]; exact pss_one (hs cdv AA outer s H E), ?_⟩
      have es : L2.start N [.ref a, y1] = [some (.ref a), some y1] := by
        unfold L2.start
        rw [hN]
        rfl
      rw [es]
      refine ⟨y1, rfl, .ref a, rfl, a, C, rfl, T, h1, .inl ⟨ea, fun d hd da => ?_⟩⟩
      have e : upd (upd H d (exd d [(n1, y1)])) a (exo a C (some d)) = upd (upd H a (exo a C (some d))) d (exd d (([n1].zip [y1]).reverse)) := by
        funext z
        by_cases hz : z = d
        · subst hz
          rw [upd_ne da, upd_same, upd_same]
          rfl
        · rw [upd_ne hz]
          by_cases hz2 : z = a
          · subst hz2
            rw [upd_same, upd_same]
          · rw [upd_ne hz2, upd_ne hz2, upd_ne hz]
      show Q .non _
      rw [e]
      exact q d hd da
/-- raise x(..): the fields, the last one ahead -/
def sRaiseF (x : Str) (ns : List Str) (fs : Sl → R (List PyData)) : Sl → RS := fun ρ => (fs ρ).s fun ds ρ => if ds.length = ns.length ∧ ds.length < 900 then .exc ⟨x, (ns.zip ds).reverse⟩ ρ else .bad
@[simp] theorem sRaiseF_e (x : Str) (ns : List Str) (fs : Sl → R (List PyData)) (ρ : Sl) : sRaiseF x ns fs ρ = (fs ρ).s fun ds ρ => if ds.length = ns.length ∧ ds.length < 900 then .exc ⟨x, (ns.zip ds).reverse⟩ ρ else .bad := keep rfl
theorem zip_kd : ∀ {ns : List Str} {vs : List V} {ds : List PyData}, FzA K S vs ds → Paired (KD K S) (ns.zip vs) (ns.zip ds)
  | [], _, _, _ => by simp; exact .nil
  | _ :: _, _, _, .nil => by simp; exact .nil
  | n :: ns, _, _, .cons h t => by
    rw [List.zip_cons_cons, List.zip_cons_cons]
    exact .cons ⟨rfl, h⟩ (zip_kd t)
theorem paired_rev {α β : Type} {P : α → β → Prop} : ∀ {xs : List α} {ys : List β}, Paired P xs ys → Paired P xs.reverse ys.reverse := by
  have app : ∀ {xs : List α} {ys : List β} {us : List α} {vs : List β}, Paired P xs ys → Paired P us vs → Paired P (xs ++ us) (ys ++ vs) := by
    intro xs ys us vs h g
    induction h with
    | nil => exact g
    | cons h t ih => exact .cons h ih
  intro xs ys h
  induction h with
  | nil => exact .nil
  | cons h t ih =>
    rw [List.reverse_cons, List.reverse_cons]
    exact app ih (.cons h .nil)
theorem simS_raiseF {x : Str} {ns : List Str} {k j : Nat} {p pos' : Pos} (Df : XMkDef X.prog X.w X.K X.mg X.base x ns k) (hr : Room j X.A) (tk : Takes X (fun cls d _ H => E cls d H)) (h : SimA X E (e :: es) fs) (hk : k + 1 ≤ j := by decide) (hc : X.calm = true := by rfl) (hg : Gl X x := by rfl) (hdb : (x == ("__debug__" : Str)) = false := by decide)
    (he : starEach (e :: es) X.env = (false, eval e X.env) :: starEach es X.env := by rfl) (hpl : (backTo pos (starEach es X.env)).any (·.1) = false := by rfl) :
    SimS X E [] (.Raise (some (.Call (.Name x p) (e :: es) [] pos)) none pos') (sRaiseF x ns fs) := by
  obtain ⟨C, fI, fd, ps, gC, T, iC, tI, ok, hb⟩ := Df.ex
  obtain ⟨t, pa, sm⟩ := h.ex
  refine ⟨_, L2.ps_raise hc tk (L2.pmk_oex T iC tI ok (hr.mono hk) hb .nil L2.passL hg gC pa hdb he hpl), fun σ ρ S A H D r q => ?_⟩
  refine sm σ ρ S A H _ r ((RunS.ofR q).imp fun ds ρ1 S1 A1 H1 q1 r1 vs hvs => ?_)
  have lv := dpA_len hvs
  by_cases hl : ds.length = ns.length ∧ ds.length < 900
  · rw [if_pos hl] at q1
    refine ⟨by omega, fun a ha => ?_⟩
    rw [List.append_nil]
    refine ⟨a, vs, rfl, by omega, upd_same, fun d hd da => ⟨rfl, d, (ns.zip vs).reverse, ?_, upd_same, ?_, ?_⟩⟩
    · rw [upd_ne (Ne.symm da), upd_same]
    · rw [upd_ne da] at hd
      exact hd
    · have hd1 : H1 d = none := by
        rw [upd_ne da] at hd
        exact hd
      have eH : upd (del (upd (upd (upd H1 a (exo a C none)) a (exo a C (some d))) d (exd d (ns.zip vs).reverse)) a) d (.xd (ns.zip vs).reverse) = upd H1 d (.xd (ns.zip vs).reverse) := by
        funext z
        by_cases hz : z = d
        · subst hz
          rw [upd_same, upd_same]
        · rw [upd_ne hz, upd_ne hz]
          by_cases hz2 : z = a
          · subst hz2
            rw [del_same, ha]
          · rw [del_ne hz2, upd_ne hz, upd_ne hz2, upd_ne hz2]
      rw [eH]
      have keep1 : ∀ b o, H1 b = some o → upd H1 d (.xd (ns.zip vs).reverse) b = some o := fun b o hb => by
        rw [upd_ne (fun z => by rw [z, hd1] at hb; cases hb)]
        exact hb
      have r2 : Rel X.K X.mg S1 ρ1 A1 σ (upd H1 d (.xd (ns.zip vs).reverse)) := by
        obtain ⟨A0, ro, nd, sb⟩ := r1.rep
        exact ⟨fun b o hb => keep1 b o (r1.sub b o hb), ⟨A0, ro.mono (Sub.refl _) fun b _ o hb => keep1 b o hb, nd, sb⟩, fun b hb => ⟨(r1.off b hb).1, fun z => by
          have w := (r1.off b hb).2
          cases u : H1 b with
          | none => exact w u
          | some o => rw [keep1 b o u] at z; cases z⟩⟩
      exact q1 σ S1 A1 _ (.ref C) (some d) ⟨Sub.refl _, fun _ hb => .inl hb, fun b o hb _ => keep1 b o hb, fun _ hb => .inl hb, fun b hb => by
        cases u : H1 b with
        | none => rfl
        | some o => rw [keep1 b o u] at hb; cases hb⟩ r2 Keep.refl ⟨gC, .inr ⟨d, _, rfl, upd_same, paired_rev (zip_kd hvs)⟩⟩
  · rw [if_neg hl] at q1
    exact q1.elim
end DR
end
section
/-! DR39: one class caught; its fields; if within a try. -/
namespace DR
open PySem PySem.Spec PyProof.Rows L2
variable {K : PySem.W.Frag} {G : Str → Option Value} {S S' S1 H H' H1 : Hp} {A A' A1 B : List Addr} {E : XK} {σ σ0 σ1 : L2.St} {ρ : Sl} {X : Cx} {e a b c : Expr} {es : List Expr} {pos : Pos} {D : Ends} {W W1 W2 : List Nat} {F F1 F2 : Sl → RS} {Wx : WX}
/-- what one class catches -/
def catOne (y : Str) (x : Exn) : Option Bool := if x.cls ∈ kNames then some (decide (x.cls = y)) else none
theorem catOne_in {y : Str} {x : Exn} (h : x.cls ∈ kNames) : catOne y x = some (decide (x.cls = y)) := by
  unfold catOne
  rw [if_pos h]
theorem Kinds.name {mg : Str → Option Value} (k : Kinds K mg) {y : Str} (hy : y ∈ kNames) : ∃ C, mg y = some (.ref C) := by
  obtain ⟨D, h, _⟩ := k.at_ hy
  exact ⟨D, h⟩
theorem catOne_ok {mg : Str → Option Value} (k : Kinds K mg) {y : Str} (hy : y ∈ kNames) {C : Addr} (g : mg y = some (.ref C)) : ∀ (x : Exn) cls b, mg x.cls = some cls → catOne y x = some b → PySem.W.exmOne K cls (.ref C) = some b := fun x cls b h e => by
  unfold catOne at e
  by_cases q : x.cls ∈ kNames
  · rw [if_pos q] at e
    injection e with e
    subst e
    obtain ⟨D, h2, kd⟩ := k.at_ q
    rw [h] at h2
    injection h2 with h2
    subst h2
    obtain ⟨C1, g1, _, r⟩ := kd.one y hy
    rw [g] at g1
    injection g1 with g1
    injection g1 with g1
    rw [g1]
    exact r
  · rw [if_neg q] at e
    cases e
/-- a suite that does not look at the exception -/
theorem simSu_plain {i : Nat} {sts : List Stmt} (h : ∀ a pn, SimB (X.suite a pn) (fun _ _ _ => False) W sts F) : SimSu X i W sts (fun _ => F) := by
  refine ⟨fun x a oe cls d pn hz hf hcls σ ρ S A H D pins s r ex hdA hσ q I => ?_⟩
  obtain ⟨t, p, sm⟩ := (h a ((a, oe) :: pn)).ex
  exact p.run pins s σ H D I (sm σ ρ S A H D r q)
theorem kd_lookup {f : Str} : ∀ {fs : List (Str × V)} {ds : List (Str × PyData)} {d : PyData}, Paired (KD K S) fs ds → ds.lookup f = some d → ∃ v, fs.lookup f = some v ∧ Fz K S v d
  | _, _, _, .nil, h => by cases h
  | p :: fs, q :: ds, d, .cons h t, e => by
    have hn := h.1
    rw [List.lookup] at e
    cases z : f == q.1 with
    | true =>
      rw [z] at e
      cases e
      exact ⟨p.2, by rw [List.lookup, hn, z], h.2⟩
    | false =>
      rw [z] at e
      obtain ⟨v, h1, h2⟩ := kd_lookup t e
      exact ⟨v, by rw [List.lookup, hn, z]; exact h1, h2⟩
/-- m = (n.f1, n.f2) in an except suite -/
def suFields (y : Str) (j : Nat) (f1 f2 : Str) (x : Exn) : Sl → RS := fun ρ => if x.cls = y then (match x.fs.lookup f1, x.fs.lookup f2 with
  | some d1, some d2 => .nx (ρ.set j (some (.fz (.tuple [d1, d2]))))
  | _, _ => .bad) else .bad
@[simp] theorem suFields_e (y : Str) (j : Nat) (f1 f2 : Str) (x : Exn) (ρ : Sl) : suFields y j f1 f2 x ρ = if x.cls = y then (match x.fs.lookup f1, x.fs.lookup f2 with
  | some d1, some d2 => .nx (ρ.set j (some (.fz (.tuple [d1, d2]))))
  | _, _ => .bad) else .bad := keep rfl
/-- what is known of a class with fields -/
structure XfDef (K : PySem.W.Frag) (mg : Str → Option Value) (y : Str) (ns : List Str) : Prop where
  ex : ∃ C, mg y = some (.ref C) ∧ XfC K C ∧ ∀ n ∈ ns, PySem.W.findIn K (.ref C) n = some none
theorem simSu_fields {y m n f1 f2 : Str} {q1 q2 q3 q4 q5 q6 p1 : Pos} {k : Nat} (i j : Nat) {ns : List Str} (df : XfDef X.K X.mg y ns) (m1 : f1 ∈ ns) (m2 : f2 ∈ ns) (nd : X.N.Nodup) (hi : X.N[i]? = some n := by rfl) (hv : Vis X.env.scope n := by first | exact Or.inl rfl | exact Or.inr (Or.inl rfl) | exact Or.inr (Or.inr rfl)) (hd : (n == ("__debug__" : Str)) = false := by decide) (hcd : (n == ("__classdict__" : Str)) = false := by decide)
    (hj : X.N[j]? = some m := by rfl) (hm : Loc X.env.scope m := by first | exact Or.inl rfl | exact Or.inr rfl) (hmf : X.fn m = true ∨ X.env.scope.names.lookup m = some .local := by first | exact .inl rfl | exact .inr rfl | assumption)
    (hb1 : attributeBase (.Name n q2) f1 X.env (eval (.Name n q2) X.env) = eval (.Name n q2) X.env := by rfl) (hb2 : attributeBase (.Name n q4) f2 X.env (eval (.Name n q4) X.env) = eval (.Name n q4) X.env := by rfl)
    (he : starEach [.Attribute (.Name n q2) f1 q3, .Attribute (.Name n q4) f2 q5] X.env = (false, eval (.Attribute (.Name n q2) f1 q3) X.env) :: starEach [.Attribute (.Name n q4) f2 q5] X.env := by rfl) (he2 : starEach [.Attribute (.Name n q4) f2 q5] X.env = (false, eval (.Attribute (.Name n q4) f2 q5) X.env) :: starEach [] X.env := by rfl)
    (hs : swapsWith (.Tuple [.Attribute (.Name n q2) f1 q3, .Attribute (.Name n q4) f2 q5] k q6) (some (.Name m p1)) q1.line X.env = pure false := by rfl) :
    SimSu X i [j] [.Assign [.Name m p1] (.Tuple [.Attribute (.Name n q2) f1 q3, .Attribute (.Name n q4) f2 q5] k q6) q1] (suFields y j f1 f2) := by
  obtain ⟨C, gC, T, hno⟩ := df.ex
  refine ⟨fun x a oe cls d pn hz hf hcls σ ρ S A H D pins s r ex hdA hσ q I => ?_⟩
  unfold suFields at q
  by_cases hx : x.cls = y
  · rw [if_pos hx] at q
    rw [hx, gC] at hcls
    injection hcls with hcls
    rcases ex.2 with ⟨h1, h2⟩ | ⟨dd, fs, h1, h2, h3⟩
    · rw [h1] at q
      exact q.elim
    · split at q
      · rename_i d1 d2 e1 e2
        obtain ⟨v1, l1, z1⟩ := kd_lookup h3 e1
        obtain ⟨v2, l2, z2⟩ := kd_lookup h3 e2
        have P1 := pe_xf (X := X) (a := a) (oe := oe) (cls := cls) (d := d) (pn := pn) (pos := q3) T (hno f1 m1) hz hf (pe_var (X := X.suite a ((a, oe) :: pn)) (pos := q2) hi hv hd hcd) hb1
        have P2 := pe_xf (X := X) (a := a) (oe := oe) (cls := cls) (d := d) (pn := pn) (pos := q5) T (hno f2 m2) hz hf (pe_var (X := X.suite a ((a, oe) :: pn)) (pos := q4) hi hv hd hcd) hb2
        refine (pss_one (X := X.suite a ((a, oe) :: pn)) (ps_set nd hj hm (pe_tup (pa_cons P1 (pa_cons P2 pa_nil he2) he)) hs hmf)).run pins s σ H D I ?_
        refine ⟨.ref a, hσ, rfl, hcls.symm, dd, fs, v1, h1, h2, l1, .ref a, hσ, rfl, hcls.symm, dd, fs, v2, h1, h2, l2, ?_⟩
        refine ⟨by show 2 ≤ sizeLine; exact Nat.le_trans (by decide : 2 ≤ 100000) (by decide), fun p np => ?_⟩
        have n := New.tup (o := .tup [v1, v2]) r.sub np
        have vv : Fz X.K (upd S p (.tup [v1, v2])) (.ref p) (.tuple [d1, d2]) := .tup (.inl (.inl upd_same)) (dpA_mono n.ss (.cons z1 (.cons z2 .nil)))
        have rr := ((n.rel r (.fz vv)).setV (i := j))
        exact q _ _ _ _ n.grow rr (Keep.set (List.mem_singleton.mpr rfl))
      · exact q.elim
  · rw [if_neg hx] at q
    exact q.elim
/-! ### if within a try -/
theorem simX_nil : SimX X Wx [] [] sNil := ⟨fun σ ρ S A H D pins s r q I => (pss_nil (X := X)).run pins s σ H D I (q σ S A H Grow.refl r Keep.refl)⟩
theorem RunX.shift {r : RS} (k : Keep W σ σ1) (hw : ∀ i ∈ W1, i ∈ W) (h : RunX K G Wx W σ S A H r D) : RunX K G Wx W1 σ1 S A H r D := by
  cases r with
  | nx ρ => exact fun _ _ _ _ g' r' k' => h _ _ _ _ g' r' (k.trans (k'.sub hw))
  | rt m ρ => exact fun _ _ _ _ _ g' r' k' => h _ _ _ _ _ g' r' (k.trans (k'.sub hw))
  | exc x ρ => exact fun _ _ _ _ _ _ g' r' k' => h _ _ _ _ _ _ g' r' (k.trans (k'.sub hw))
  | bad => exact h
theorem simX_if {c : Expr} {s1 s2 : List Stmt} {fc : Sl → R Bool} (hc : ∀ E, SimT X E c fc) (h1 : SimX X Wx W1 s1 F1) (h2 : SimX X Wx W2 s2 F2) : SimX X Wx (W1 ++ W2) [.If c s1 s2 pos] (sIf fc F1 F2) := by
  refine ⟨fun σ ρ S A H D pins s r q I => ?_⟩
  obtain ⟨t, p, sm⟩ := (hc (WE Wx σ)).ex
  refine (pss_one (ps_if p (pss_of X s1) (pss_of X s2))).run pins s σ H D I (sm σ ρ S A H _ r ((RunX.ofR q).imp fun k ρ1 S1 A1 H1 q1 r1 => ?_))
  cases k with
  | true => exact iteT fun pins s I => h1.run σ ρ1 S1 A1 H1 D pins s r1 (q1.shift Keep.refl fun i h => List.mem_append_left _ h) I
  | false => exact iteF fun pins s I => h2.run σ ρ1 S1 A1 H1 D pins s r1 (q1.shift Keep.refl fun i h => List.mem_append_right _ h) I
/-! ### except x: (without a name) -/
def sTryOnly (cat : Exn → Option Bool) (F Fs : Sl → RS) : Sl → RS := fun ρ => match F ρ with
  | .exc x ρ1 => match cat x with
    | some true => Fs ρ1
    | some false => .exc x ρ1
    | none => .bad
  | .nx ρ1 => .nx ρ1
  | .rt m ρ1 => .rt m ρ1
  | .bad => .bad
@[simp] theorem sTryOnly_e (cat : Exn → Option Bool) (F Fs : Sl → RS) (ρ : Sl) : sTryOnly cat F Fs ρ = match F ρ with
  | .exc x ρ1 => match cat x with
    | some true => Fs ρ1
    | some false => .exc x ρ1
    | none => .bad
  | .nx ρ1 => .nx ρ1
  | .rt m ρ1 => .rt m ρ1
  | .bad => .bad := keep rfl
section
variable {x : Str} {body suite : List Stmt} {b₀ : Stmt} {np pos' : Pos} {cat : Exn → Option Bool} {cv : Value}
theorem simS_tryOnly (hs : X.stack = X.env :: X.outer) (hf : X.env.frame = some X.env.locals) (hc : Names X x cv) (tk : Takes X (fun cls d _ H => E cls d H))
    (hcat : ∀ y cls b, X.mg y.cls = some cls → cat y = some b → PySem.W.exmOne X.K cls cv = some b)
    (hb : ∀ (Wx : WX) (pn : List (Addr × Obj)) (xe : Value → Shared → Prop), Takes (X.tr pn xe) Wx → PassesOwn (model X.prog X.w) X.A X.env xe → SimX (X.tr pn xe) Wx W1 body F)
    (hsu : ∀ a pn, SimB (X.suite a pn) (fun _ _ _ => False) W2 (b₀ :: suite) F1) (hne : ∀ ρ x ρ', F1 ρ ≠ .exc x ρ') :
    SimS X E (W1 ++ W2) (.Try body [.ExceptHandler (some (.Name x np)) none (b₀ :: suite) pos'] [] [] pos) (sTryOnly cat F F1) := by
  have m1 : ∀ j ∈ W1, j ∈ W1 ++ W2 := fun j h => List.mem_append_left _ h
  have m2 : ∀ j ∈ W2, j ∈ W1 ++ W2 := fun j h => List.mem_append_right _ h
  refine ⟨_, L2.ps_try_only (tb := fun Wx D σ H => ∀ pn xe, Takes (X.tr pn xe) Wx → PassesOwn (model X.prog X.w) X.A X.env xe → tOfB (X.tr pn xe) body D σ H)
    (ts := fun a cls d D σ H => ∀ oe pn, Zc cls d oe → (∃ vs, oe.data = .fields vs) → tOfB (X.suite a ((a, oe) :: pn)) (b₀ :: suite) D σ H) hs hf hc tk
    (fun Wx pn xe t p => ⟨fun pins s σ H D I h => h pn xe t p pins s I⟩) (fun a oe cls d pn hz hv => ⟨fun pins s σ H D I h => h oe pn hz hv pins s I⟩), fun σ ρ S A H D r q => ?_⟩
  intro pn xe tkx po pins s I
  refine (hb _ pn xe tkx po).run σ ρ S A H D pins s r ?_ I
  unfold sTryOnly at q
  cases z : F ρ with
  | nx ρ1 =>
    rw [z] at q
    exact fun σ' S' A' H' g r' k => q σ' S' A' H' g r' (k.sub m1)
  | rt m ρ1 =>
    rw [z] at q
    exact fun v σ' S' A' H' g r' k => q v σ' S' A' H' g r' (k.sub m1)
  | bad =>
    rw [z] at q
    exact q.elim
  | exc y ρ1 =>
    rw [z] at q
    intro σ' S' A' H' cls dd g r' kp ex
    cases ce : cat y with
    | none =>
      simp only [ce] at q
      exact q.elim
    | some b =>
      cases b with
      | false =>
        simp only [ce] at q
        exact ⟨false, hcat y cls _ ex.1 ce, fun h => Bool.noConfusion h, fun _ => q σ' S' A' H' cls dd g r' (kp.sub m1) ex⟩
      | true =>
        simp only [ce] at q
        refine ⟨true, hcat y cls _ ex.1 ce, fun _ a na => ?_, fun h => Bool.noConfusion h⟩
        intro oe pn2 hz hv pins2 s2 I2
        obtain ⟨t, p, sm⟩ := (hsu a ((a, oe) :: pn2)).ex
        refine p.run pins2 s2 σ' H' _ I2 (sm σ' ρ1 S' A' H' _ r' ?_)
        cases y2 : F1 ρ1 with
        | nx ρ2 =>
          rw [y2] at q
          intro σ2 S2 A2 H2 g2 r2 k2
          exact q σ2 S2 A2 H2 (g.trans g2) r2 ((kp.sub m1).trans (k2.sub m2))
        | rt m ρ2 =>
          rw [y2] at q
          intro v σ2 S2 A2 H2 g2 r2 k2
          exact q v σ2 S2 A2 H2 (g.trans g2) r2 ((kp.sub m1).trans (k2.sub m2))
        | exc _ _ => exact (hne _ _ _ y2).elim
        | bad =>
          rw [y2] at q
          exact q.elim
end
end DR
end
section
/-! DR40: lists in fields of an owned object, read without a look. -/
namespace DR
open PySem PySem.Spec PyProof.Rows L2
variable {K : PySem.W.Frag} {G : Str → Option Value} {S S' S1 H H' H1 : Hp} {A A' A1 B : List Addr} {E : XK} {σ σ0 σ1 : L2.St} {ρ : Sl} {X : Cx} {e b c : Expr} {es : List Expr} {pos : Pos} {D : Ends} {W W1 W2 : List Nat}
theorem own_rdF {i k : Nat} {cn f : Str} {ms : List (Str × MD)} {ks : List MD} {ds : List PyData} (r : Rel K G S ρ A σ H) (em : ρ[i]? = some (some (.mo cn ms))) (ek : ms[k]? = some (f, .ml ks)) (ez : fzs ks = some ds) :
    ∃ a C dx fs l xs, σ[i]? = some (some (.ref a)) ∧ H a = some (.ins C dx fs) ∧ G cn = some (.ref C) ∧ PySem.W.findIn K (.ref C) f = some none ∧ fs.lookup f = some (.ref l) ∧ H l = some (.lst xs) ∧ FzA K S xs ds := by
  obtain ⟨A0, ro, nd, sb⟩ := r.rep
  obtain ⟨v0, Bo, Co, g1, g2, g3, pm⟩ := take1 ro em
  cases g2 with
  | @mo a C dx fs _ _ Bf ha g n w hfs =>
    obtain ⟨v, Bk, hv, hm⟩ := repMs_at2 (α := Unit) (k := k) (f := f) (m := .ml ks) n hfs ek
    cases hm with
    | @ml l xs _ Bl hl hks => exact ⟨a, C, dx, fs, l, xs, g1, ha, g, w.1 f (List.mem_map.mpr ⟨_, List.mem_of_getElem? hv, rfl⟩), lookup_at w.2 hv, hl, fzA_of hks ez⟩
theorem own_fzF {i k : Nat} {cn f : Str} {ms : List (Str × MD)} {d : PyData} (r : Rel K G S ρ A σ H) (em : ρ[i]? = some (some (.mo cn ms))) (ek : ms[k]? = some (f, .fz d)) :
    ∃ a C dx fs v, σ[i]? = some (some (.ref a)) ∧ H a = some (.ins C dx fs) ∧ G cn = some (.ref C) ∧ PySem.W.findIn K (.ref C) f = some none ∧ fs.lookup f = some v ∧ Fz K S v d := by
  obtain ⟨A0, ro, nd, sb⟩ := r.rep
  obtain ⟨v0, Bo, Co, g1, g2, g3, pm⟩ := take1 ro em
  cases g2 with
  | @mo a C dx fs _ _ Bf ha g n w hfs =>
    obtain ⟨v, Bk, hv, hm⟩ := repMs_at2 (α := Unit) (k := k) (f := f) (m := .fz d) n hfs ek
    exact ⟨a, C, dx, fs, v, g1, ha, g, w.1 f (List.mem_map.mpr ⟨_, List.mem_of_getElem? hv, rfl⟩), lookup_at w.2 hv, hm.fz_of⟩
/-- the data of a field's list -/
def fldL (c : Str) (i k : Nat) (f : Str) (ρ : Sl) : Option (List PyData) := match ρ[i]? with
  | some (some (.mo c' ms)) => if c' = c then (match ms[k]? with
    | some (f', .ml ks) => if f' = f then fzs ks else none
    | _ => none) else none
  | _ => none
@[simp] theorem fldL_e (c : Str) (i k : Nat) (f : Str) (ρ : Sl) : fldL c i k f ρ = match ρ[i]? with
  | some (some (.mo c' ms)) => if c' = c then (match ms[k]? with
    | some (f', .ml ks) => if f' = f then fzs ks else none
    | _ => none) else none
  | _ => none := keep rfl
theorem fldL_inv {c f : Str} {i k : Nat} {ds : List PyData} (h : fldL c i k f ρ = some ds) : ∃ ms ks, ρ[i]? = some (some (.mo c ms)) ∧ ms[k]? = some (f, .ml ks) ∧ fzs ks = some ds := by
  unfold fldL at h
  split at h
  · rename_i c' ms em
    by_cases hc : c' = c
    · rw [if_pos hc] at h
      subst hc
      split at h
      · rename_i f' ks ek
        by_cases hf : f' = f
        · rw [if_pos hf] at h
          subst hf
          exact ⟨ms, ks, em, ek, h⟩
        · rw [if_neg hf] at h
          cases h
      · cases h
    · rw [if_neg hc] at h
      cases h
  · cases h
/-- what a field's list gives -/
theorem fldL_get {c f : Str} {i k : Nat} {ds : List PyData} (hc : ClsC K G c) (r : Rel K G S ρ A σ H) (h : fldL c i k f ρ = some ds) :
    ∃ a C dx fs l xs, σ[i]? = some (some (.ref a)) ∧ H a = some (.ins C dx fs) ∧ Cls K C ∧ PySem.W.findIn K (.ref C) f = some none ∧ fs.lookup f = some (.ref l) ∧ H l = some (.lst xs) ∧ FzA K S xs ds := by
  obtain ⟨ms, ks, em, ek, ez⟩ := fldL_inv h
  obtain ⟨a, C, dx, fs, l, xs, h1, h2, h3, h4, h5, h6, h7⟩ := own_rdF r em ek ez
  obtain ⟨C0, gC, cl⟩ := hc.ex
  rw [gC] at h3
  injection h3 with h3
  injection h3 with h3
  subst h3
  exact ⟨a, C0, dx, fs, l, xs, h1, h2, cl, h4, h5, h6, h7⟩
/-- list(o.f) -/
def mListF (c : Str) (i k : Nat) (f : Str) : Sl → R MD := fun ρ => match fldL c i k f ρ with
  | some ds => .ok (.ml (ds.map .fz)) ρ
  | none => .bad
@[simp] theorem mListF_e (c : Str) (i k : Nat) (f : Str) (ρ : Sl) : mListF c i k f ρ = match fldL c i k f ρ with
  | some ds => .ok (.ml (ds.map .fz)) ρ
  | none => .bad := keep rfl
theorem simM_listF (i k : Nat) {c x f : Str} {p p1 p2 : Pos} (hc : ClsC X.K X.mg c) (hm : X.mg "list" = none) (hN : X.N[i]? = some x := by rfl) (hv : Vis X.env.scope x := by first | exact Or.inl rfl | exact Or.inr (Or.inl rfl) | exact Or.inr (Or.inr rfl)) (hd : (x == ("__debug__" : Str)) = false := by decide)
    (hcd : (x == ("__classdict__" : Str)) = false := by decide) (hb : attributeBase (.Name x p1) f X.env (eval (.Name x p1) X.env) = eval (.Name x p1) X.env := by rfl) (hg : Gl X "list" := by rfl)
    (he : starEach [.Attribute (.Name x p1) f p2] X.env = (false, eval (.Attribute (.Name x p1) f p2) X.env) :: starEach [] X.env := by rfl) (hpl : (backTo pos (starEach [] X.env)).any (·.1) = false := by rfl) :
    SimM X E (.Call (.Name "list" p) [.Attribute (.Name x p1) f p2] [] pos) (mListF c i k f) := by
  refine ⟨_, pe_callTy call_list_of hg hm (by decide +kernel) (pa_cons (pe_fld (pe_var hN hv hd hcd) hb) pa_nil he) (by decide) (by decide) he hpl, fun σ ρ S A H Q r q => ?_⟩
  unfold mListF at q
  split at q
  · rename_i ds e
    obtain ⟨a, C, dx, fs, l, xs, h1, h2, cl, h4, h5, h6, h7⟩ := fldL_get hc r e
    refine ⟨.ref a, h1, a, C, dx, fs, .ref l, rfl, h2, cl, h4, h5, ⟨l, xs, rfl, .inl (SqL.of h6), fun l1 n1 => ?_⟩⟩
    have n := New.lst (o := .lst xs) r.sub n1
    exact q _ _ _ n.grow _ (n.rel r (rep_lst upd_same h7))
  · exact q.elim
/-- o.f[y - n] -/
def mIxF (c : Str) (i k : Nat) (f : Str) (j : Nat) (n : Int) : Sl → R PyData := fun ρ => match fldL c i k f ρ, ρ[j]? with
  | some ds, some (some (.fz (.int z))) => match atI ds (z - n) with
    | some d => .ok d ρ
    | none => .bad
  | _, _ => .bad
@[simp] theorem mIxF_e (c : Str) (i k : Nat) (f : Str) (j : Nat) (n : Int) (ρ : Sl) : mIxF c i k f j n ρ = match fldL c i k f ρ, ρ[j]? with
  | some ds, some (some (.fz (.int z))) => match atI ds (z - n) with
    | some d => .ok d ρ
    | none => .bad
  | _, _ => .bad := keep rfl
theorem simF_ixF (i k j : Nat) (z : Int) {c x y f : Str} {jj : Nat} {p1 p2 p3 p4 p5 : Pos} (hc : ClsC X.K X.mg c) (hN : X.N[i]? = some x := by rfl) (hv : Vis X.env.scope x := by first | exact Or.inl rfl | exact Or.inr (Or.inl rfl) | exact Or.inr (Or.inr rfl)) (hd : (x == ("__debug__" : Str)) = false := by decide)
    (hcd : (x == ("__classdict__" : Str)) = false := by decide) (hN2 : X.N[j]? = some y := by rfl) (hv2 : Vis X.env.scope y := by first | exact Or.inl rfl | exact Or.inr (Or.inl rfl) | exact Or.inr (Or.inr rfl)) (hd2 : (y == ("__debug__" : Str)) = false := by decide)
    (hcd2 : (y == ("__classdict__" : Str)) = false := by decide) (hb : attributeBase (.Name x p1) f X.env (eval (.Name x p1) X.env) = eval (.Name x p1) X.env := by rfl) (hp : PlainIx (.BinOp (.Name y p3) .Sub (.Constant (.int z) jj p4) p5) := by exact fun _ _ => rfl) :
    SimF X E (.Subscript (.Attribute (.Name x p1) f p2) (.BinOp (.Name y p3) .Sub (.Constant (.int z) jj p4) p5) pos) (mIxF c i k f j z) := by
  refine ⟨_, pe_ix ix_list (pe_fld (pe_var hN hv hd hcd) hb) (pe_op op_sub (pe_var hN2 hv2 hd2 hcd2) pe_int) hp, fun σ ρ S A H Q r q => ?_⟩
  unfold mIxF at q
  split at q
  · rename_i ds y0 e ej
    obtain ⟨a, C, dx, fs, l, xs, h1, h2, cl, h4, h5, h6, h7⟩ := fldL_get hc r e
    obtain ⟨v, B, g1, g2⟩ := r.at ej
    split at q
    · rename_i d ed
      have gz := g2.fz_of
      cases gz
      unfold atI at ed
      obtain ⟨n, e1, e2⟩ := Option.bind_eq_some_iff.mp ed
      obtain ⟨w, e3, hw⟩ := dpA_get h7 e2
      refine ⟨.ref a, h1, a, C, dx, fs, .ref l, rfl, h2, cl, h4, h5, .int y0, g1, y0, z, rfl, rfl, l, xs, y0 - z, w, rfl, rfl, SqL.of h6, ?_, q S A H Grow.refl r w hw⟩
      unfold atI
      rw [dpA_len h7, e1]
      exact e3
    · exact q.elim
  · exact q.elim
/-- o.f[:y] -/
def mCutF (c : Str) (i k : Nat) (f : Str) (j : Nat) : Sl → R MD := fun ρ => match fldL c i k f ρ, ρ[j]? with
  | some ds, some (some (.fz (.int z))) => .ok (.ml ((cutD ds none (some z)).map .fz)) ρ
  | _, _ => .bad
@[simp] theorem mCutF_e (c : Str) (i k : Nat) (f : Str) (j : Nat) (ρ : Sl) : mCutF c i k f j ρ = match fldL c i k f ρ, ρ[j]? with
  | some ds, some (some (.fz (.int z))) => .ok (.ml ((cutD ds none (some z)).map .fz)) ρ
  | _, _ => .bad := keep rfl
theorem simM_cutF (i k j : Nat) {c x y f : Str} {p1 p2 p3 p4 : Pos} (hc : ClsC X.K X.mg c) (hN : X.N[i]? = some x := by rfl) (hv : Vis X.env.scope x := by first | exact Or.inl rfl | exact Or.inr (Or.inl rfl) | exact Or.inr (Or.inr rfl)) (hd : (x == ("__debug__" : Str)) = false := by decide)
    (hcd : (x == ("__classdict__" : Str)) = false := by decide) (hN2 : X.N[j]? = some y := by rfl) (hv2 : Vis X.env.scope y := by first | exact Or.inl rfl | exact Or.inr (Or.inl rfl) | exact Or.inr (Or.inr rfl)) (hd2 : (y == ("__debug__" : Str)) = false := by decide)
    (hcd2 : (y == ("__classdict__" : Str)) = false := by decide) (hb : attributeBase (.Name x p1) f X.env (eval (.Name x p1) X.env) = eval (.Name x p1) X.env := by rfl) :
    SimM X E (.Subscript (.Attribute (.Name x p1) f p2) (.Slice none (some (.Name y p3)) none p4) pos) (mCutF c i k f j) := by
  refine ⟨_, pe_slice sl_U (pe_fld (pe_var hN hv hd hcd) hb) po_none (po_some (pe_var hN2 hv2 hd2 hcd2)), fun σ ρ S A H Q r q => ?_⟩
  unfold mCutF at q
  split at q
  · rename_i ds y0 e ej
    obtain ⟨a, C, dx, fs, l, xs, h1, h2, cl, h4, h5, h6, h7⟩ := fldL_get hc r e
    obtain ⟨v, B, g1, g2⟩ := r.at ej
    have gz := g2.fz_of
    cases gz
    refine ⟨.ref a, h1, a, C, dx, fs, .ref l, rfl, h2, cl, h4, h5, .int y0, g1, y0, rfl, ?_⟩
    exact .inl ⟨l, xs, rfl, SqL.of h6, fun l1 n1 => by
      have n := New.lst (o := .lst (cutV xs none (some y0))) r.sub n1
      exact q _ _ _ n.grow _ (n.rel r (rep_lst upd_same (cut_of h7 none (some y0))))⟩
  · exact q.elim
/-- o.f.append((o.g0, list(o.g1), o.g2)) -/
def holdA (c : Str) (i k : Nat) (f : Str) (k0 : Nat) (g0 : Str) (k1 : Nat) (g1 : Str) (k2 : Nat) (g2 : Str) (ms : List (Str × MD)) : Option (List MD × PyData × List MD × PyData) := match ms[k]?, ms[k0]?, ms[k1]?, ms[k2]? with
  | some (f', .ml ks), some (g0', .fz d0), some (g1', .ml rs), some (g2', .fz d2) => if f' = f ∧ g0' = g0 ∧ g1' = g1 ∧ g2' = g2 ∧ ks.length < sizeLine then some (ks, d0, rs, d2) else none
  | _, _, _, _ => none
def sHold (c : Str) (i k : Nat) (f : Str) (k0 : Nat) (g0 : Str) (k1 : Nat) (g1 : Str) (k2 : Nat) (g2 : Str) : Sl → RS := fun ρ => match ρ[i]? with
  | some (some (.mo c' ms)) => if c' = c then (match holdA c i k f k0 g0 k1 g1 k2 g2 ms with
    | some (ks, d0, rs, d2) => match fzs rs with
      | some ds => .nx (ρ.set i (some (.mo c' (ms.set k (f, .ml (ks ++ [.fz (.tuple [d0, .list ds, d2])]))))))
      | none => .bad
    | none => .bad) else .bad
  | _ => .bad
@[simp] theorem sHold_e (c : Str) (i k : Nat) (f : Str) (k0 : Nat) (g0 : Str) (k1 : Nat) (g1 : Str) (k2 : Nat) (g2 : Str) (ρ : Sl) : sHold c i k f k0 g0 k1 g1 k2 g2 ρ = match ρ[i]? with
  | some (some (.mo c' ms)) => if c' = c then (match holdA c i k f k0 g0 k1 g1 k2 g2 ms with
    | some (ks, d0, rs, d2) => match fzs rs with
      | some ds => .nx (ρ.set i (some (.mo c' (ms.set k (f, .ml (ks ++ [.fz (.tuple [d0, .list ds, d2])]))))))
      | none => .bad
    | none => .bad) else .bad
  | _ => .bad := keep rfl
theorem same_obj {a a' C C' dx dx' : Addr} {fs fs' : List (Str × V)} {i : Nat} (h1 : σ[i]? = some (some (.ref a))) (h1' : σ[i]? = some (some (.ref a'))) (h2 : H a = some (.ins C dx fs)) (h2' : H a' = some (.ins C' dx' fs')) : a' = a ∧ C' = C ∧ dx' = dx ∧ fs' = fs := by
  rw [h1] at h1'
  injection h1' with h1'
  injection h1' with h1'
  injection h1' with h1'
  subst h1'
  rw [h2] at h2'
  injection h2' with h2'
  injection h2' with e1 e2 e3
  exact ⟨rfl, e1.symm, e2.symm, e3.symm⟩
theorem small_len3 : 3 ≤ sizeLine := Nat.le_trans (by decide : 3 ≤ 100000) (by decide)
theorem simS_hold (i k k0 k1 k2 : Nat) {c x f g0 g1 g2 : Str} {tk : Nat} {p p2 pA pB pC pD pE pF pG pH pI cpos apos : Pos} (hc : ClsC X.K X.mg c) (hm : X.mg "list" = none) (hN : X.N[i]? = some x := by rfl) (hv : Vis X.env.scope x := by first | exact Or.inl rfl | exact Or.inr (Or.inl rfl) | exact Or.inr (Or.inr rfl)) (hd : (x == ("__debug__" : Str)) = false := by decide)
    (hcd : (x == ("__classdict__" : Str)) = false := by decide) (hg : Gl X "list" := by rfl)
    (hb : attributeBase (.Name x p) f X.env (eval (.Name x p) X.env) = eval (.Name x p) X.env := by rfl) (hb0 : attributeBase (.Name x pA) g0 X.env (eval (.Name x pA) X.env) = eval (.Name x pA) X.env := by rfl) (hb1 : attributeBase (.Name x pD) g1 X.env (eval (.Name x pD) X.env) = eval (.Name x pD) X.env := by rfl) (hb2 : attributeBase (.Name x pG) g2 X.env (eval (.Name x pG) X.env) = eval (.Name x pG) X.env := by rfl)
    (hbase : attributeBase (.Attribute (.Name x p) f p2) "append" X.env (eval (.Attribute (.Name x p) f p2) X.env) = eval (.Attribute (.Name x p) f p2) X.env := by rfl)
    (hfew : ((backTo cpos (starEach [(.Tuple [(.Attribute (.Name x pA) g0 pB), (.Call (.Name "list" pC) [(.Attribute (.Name x pD) g1 pE)] [] pF), (.Attribute (.Name x pG) g2 pH)] tk pI)] X.env)).all (fun x => !x.1) && (backToKw cpos (keywordEach [] X.env)).all (fun x => x.1.isSome)
      && decide (([(.Tuple [(.Attribute (.Name x pA) g0 pB), (.Call (.Name "list" pC) [(.Attribute (.Name x pD) g1 pE)] [] pF), (.Attribute (.Name x pG) g2 pH)] tk pI)] : List Expr).length + ([] : List Keyword).length + (if ([] : List Keyword).isEmpty then 0 else 1) < 30)) = true := by rfl)
    (hline : (apos.endLine == cpos.line) = true := by rfl)
    (h1 : starEach [(.Tuple [(.Attribute (.Name x pA) g0 pB), (.Call (.Name "list" pC) [(.Attribute (.Name x pD) g1 pE)] [] pF), (.Attribute (.Name x pG) g2 pH)] tk pI)] X.env = (false, eval (.Tuple [(.Attribute (.Name x pA) g0 pB), (.Call (.Name "list" pC) [(.Attribute (.Name x pD) g1 pE)] [] pF), (.Attribute (.Name x pG) g2 pH)] tk pI) X.env) :: starEach [] X.env := by rfl) (h1p : (backTo cpos (starEach [] X.env)).any (·.1) = false := by rfl)
    (e0 : starEach [(.Attribute (.Name x pA) g0 pB), (.Call (.Name "list" pC) [(.Attribute (.Name x pD) g1 pE)] [] pF), (.Attribute (.Name x pG) g2 pH)] X.env = (false, eval (.Attribute (.Name x pA) g0 pB) X.env) :: starEach [(.Call (.Name "list" pC) [(.Attribute (.Name x pD) g1 pE)] [] pF), (.Attribute (.Name x pG) g2 pH)] X.env := by rfl) (e1 : starEach [(.Call (.Name "list" pC) [(.Attribute (.Name x pD) g1 pE)] [] pF), (.Attribute (.Name x pG) g2 pH)] X.env = (false, eval (.Call (.Name "list" pC) [(.Attribute (.Name x pD) g1 pE)] [] pF) X.env) :: starEach [(.Attribute (.Name x pG) g2 pH)] X.env := by rfl) (e2 : starEach [(.Attribute (.Name x pG) g2 pH)] X.env = (false, eval (.Attribute (.Name x pG) g2 pH) X.env) :: starEach [] X.env := by rfl)
    (ea : starEach [(.Attribute (.Name x pD) g1 pE)] X.env = (false, eval (.Attribute (.Name x pD) g1 pE) X.env) :: starEach [] X.env := by rfl) (eap : (backTo pF (starEach [] X.env)).any (·.1) = false := by rfl)
    (hs : swapsWith (.Call (.Attribute (.Attribute (.Name x p) f p2) "append" apos) [(.Tuple [(.Attribute (.Name x pA) g0 pB), (.Call (.Name "list" pC) [(.Attribute (.Name x pD) g1 pE)] [] pF), (.Attribute (.Name x pG) g2 pH)] tk pI)] [] cpos) none pos.line X.env = pure false := by rfl) :
    SimS X E [] (.Expr (.Call (.Attribute (.Attribute (.Name x p) f p2) "append" apos) [(.Tuple [(.Attribute (.Name x pA) g0 pB), (.Call (.Name "list" pC) [(.Attribute (.Name x pD) g1 pE)] [] pF), (.Attribute (.Name x pG) g2 pH)] tk pI)] [] cpos) pos) (sHold c i k f k0 g0 k1 g1 k2 g2) := by
  refine ⟨_, ps_expr (pe_bm PySem.F.plainAttrs_list PySem.F.slot_list_append PySem.F.type_list_append mt_append (pe_fld (pe_var hN hv hd hcd) hb) (pa_cons (pe_tup (pa_cons (pe_fld (pe_var hN hv hd hcd) hb0) (pa_cons (pe_callTy call_list_of hg hm (by decide +kernel) (pa_cons (pe_fld (pe_var hN hv hd hcd) hb1) pa_nil ea) (by decide) (by decide) ea eap) (pa_cons (pe_fld (pe_var hN hv hd hcd) hb2) pa_nil e2) e1) e0)) pa_nil h1) hbase hfew hline h1 h1p) hs, fun σ ρ S A H D r q => ?_⟩
  unfold sHold at q
  split at q
  · rename_i c' ms em
    by_cases hcc : c' = c
    · rw [if_pos hcc] at q
      subst hcc
      split at q
      · rename_i ks d0 rs d2 eh
        split at q
        · rename_i ds ez
          unfold holdA at eh
          split at eh
          · rename_i f' ks' g0' d0' g1' rs' g2' d2' ek ek0 ek1 ek2
            by_cases hq : f' = f ∧ g0' = g0 ∧ g1' = g1 ∧ g2' = g2 ∧ ks'.length < sizeLine
            · rw [if_pos hq] at eh
              obtain ⟨rfl, rfl, rfl, rfl, hz⟩ := hq
              injection eh with eh
              injection eh with q1 eh
              injection eh with q2 eh
              injection eh with q3 q4
              subst q1 q2 q3 q4
              obtain ⟨C0, gC, cl⟩ := hc.ex
              obtain ⟨a, C, dx, fs, l, xs, a1, a2, a3, a4, a5, a6, a7, _⟩ := own_updF r em ek
              rw [gC] at a3
              injection a3 with a3
              injection a3 with a3
              subst a3
              obtain ⟨a', C', dx', fs', v0, b1, b2, b3, b4, b5, b6⟩ := own_fzF r em ek0
              obtain ⟨rfl, rfl, rfl, rfl⟩ := same_obj a1 b1 a2 b2
              obtain ⟨a', C', dx', fs', l1, ys, c1, c2, c3, c4, c5, c6, c7⟩ := own_rdF r em ek1 ez
              obtain ⟨rfl, rfl, rfl, rfl⟩ := same_obj a1 c1 a2 c2
              obtain ⟨a', C', dx', fs', v2, d1, dd2, d3, d4, d5, d6⟩ := own_fzF r em ek2
              obtain ⟨rfl, rfl, rfl, rfl⟩ := same_obj a1 d1 a2 dd2
              refine ⟨.ref _, a1, _, _, _, _, .ref l, rfl, a2, cl, a4, a5, .inl ⟨rfl, xs, SqL.of a6⟩, ?_⟩
              refine ⟨.ref _, a1, _, _, _, _, v0, rfl, a2, cl, b4, b5, ?_⟩
              refine ⟨.ref _, a1, _, _, _, _, .ref l1, rfl, a2, cl, c4, c5, l1, ys, rfl, .inl (SqL.of c6), fun n1 hn1 => ?_⟩
              have N1 := New.tup (o := .lst ys) r.sub hn1
              have r1 := N1.rel0 r
              have a2' := (upd_ne (H := H) (o := HO.lst ys) (ne_of_none a2 hn1)).trans a2
              refine ⟨.ref _, a1, _, _, _, _, v2, rfl, a2', cl, d4, d5, ?_⟩
              refine ⟨by show 3 ≤ sizeLine; exact small_len3, fun n2 hn2 => ?_⟩
              have N2 := New.tup (o := .tup [v0, .ref n1, v2]) r1.sub hn2
              have r2 := N2.rel0 r1
              have a2'' := (upd_ne (H := upd H n1 (HO.lst ys)) (o := HO.tup [v0, .ref n1, v2]) (ne_of_none a2' hn2)).trans a2'
              obtain ⟨a', C', dx', fs', l', xs', f1, f2, f3, f4, f5, f6, f7, f8⟩ := own_updF r2 em ek
              obtain ⟨rfl, rfl, rfl, rfl⟩ := same_obj a1 f1 a2'' f2
              rw [a5] at f5
              injection f5 with f5
              injection f5 with f5
              subst f5
              have vv : Fz X.K (upd (upd S n1 (.lst ys)) n2 (.tup [v0, .ref n1, v2])) (.ref n2) (.tuple [d0', .list ds, d2']) :=
                .tup (.inl (.inl upd_same)) (.cons (dp_mono (N1.ss.trans N2.ss) b6) (.cons (.lst (by rw [upd_ne (fun z => by subst z; rw [upd_same] at hn2; cases hn2), upd_same]) (dpA_mono (N1.ss.trans N2.ss) c7)) (.cons (dp_mono (N1.ss.trans N2.ss) d6) .nil)))
              obtain ⟨r3, g3⟩ := f8 (.ref n2) _ vv
              have gg := (N1.grow (A := A)).trans ((N2.grow (A := A)).trans g3)
              exact ⟨l, xs', .ref n2, rfl, rfl, f6, by rw [f7]; exact hz, q σ _ A _ gg r3 Keep.refl⟩
            · rw [if_neg hq] at eh
              cases eh
          · cases eh
        · exact q.elim
      · exact q.elim
    · rw [if_neg hcc] at q
      exact q.elim
  · exact q.elim
end DR
end
section
/-! DR41: min and max of lists of whole numbers; min with default. -/
namespace DR
open PySem PySem.Spec PyProof.Rows L2
variable {K : PySem.W.Frag} {G : Str → Option Value} {S S' S1 H H' H1 : Hp} {A A' A1 B : List Addr} {E : XK} {σ σ0 σ1 : L2.St} {ρ : Sl} {X : Cx} {e e2 a b c : Expr} {es : List Expr} {pos : Pos} {D : Ends} {f1 f2 : Sl → R PyData}
def nsOf : List PyData → Option (List Int)
  | [] => some []
  | .int i :: r => (nsOf r).map (i :: ·)
  | _ :: _ => none
theorem nsOf_map (l : List Int) : nsOf (l.map .int) = some l := by
  induction l with
  | nil => rfl
  | cons i r ih =>
    show (nsOf (r.map .int)).map (i :: ·) = _
    rw [ih]
    rfl
theorem nsOf_inv : ∀ {ds : List PyData} {l : List Int}, nsOf ds = some l → ds = l.map .int
  | [], l, h => by cases h; rfl
  | d :: r, l, h => by
    cases d with
    | int i =>
      obtain ⟨l', h1, rfl⟩ := Option.map_eq_some_iff.mp (show (nsOf r).map (i :: ·) = some l from h)
      rw [nsOf_inv h1]
      rfl
    | _ => cases h
theorem alike_ints (l : List Int) : PySem.W.AlikeAll (l.map PyData.int) := ⟨fun x hx y hy => by
  obtain ⟨i, _, rfl⟩ := List.mem_map.mp hx
  obtain ⟨j, _, rfl⟩ := List.mem_map.mp hy
  simp [PySem.W.alike], fun x hx => by
  obtain ⟨i, _, rfl⟩ := List.mem_map.mp hx
  intro z
  cases z⟩
theorem depth_ints (l : List Int) : PyData.depthAll (l.map PyData.int) ≤ 60 := by
  induction l with
  | nil => simp [PyData.depthAll]
  | cons i r ih =>
    rw [List.map_cons]
    simp only [PyData.depthAll, PyData.depth]
    omega
def rMinD (K : PySem.W.Frag) : List V → List V → Hp → VK → Prop := fun vs zs H Q => ∃ (a : Addr) (xs : List V) (l : List Int) (z : V), vs = [.ref a] ∧ zs = [z] ∧ SqL K H a xs ∧ DpAll K H xs (l.map .int) ∧ (l = [] → Q z H) ∧
  ∀ y ys, l = y :: ys → ∀ (i : Nat) v, xs[i]? = some v → (l.map PyData.int)[i]? = some (.int (ys.foldl min y)) → Q v H
theorem cr_minD (hc : X.calm = true) (hu : X.A.units + 64 < cLine) : CallRK X (.builtin "min") [Str.ofString "default"] (rMinD X.K) := by
  intro pins s σ H vs zs us ws Q I r rz h
  obtain ⟨a, xs, l, z, rfl, rfl, hs, hd, q0, q⟩ := h
  obtain ⟨its, rv, hl, hz⟩ := I.list hs
  rw [Vals.ref1 r]
  obtain ⟨w1, rfl, e1⟩ := vals1 rz
  obtain ⟨as, ra⟩ := Dp.readsAll I _ xs its hd rv
  have hdl := depth_ints l
  refine PySem.W.min_list_default (I.ok.hd hc) hl.isList (by simpa using ra) (alike_ints l) (by omega) (fun hn h' tk k => ?_) fun y ys i v h' tk bs hn hv hr k => ?_
  · exact ⟨z, H, I.kept k, e1, q0 (by simpa using hn)⟩
  · cases l with
    | nil => cases hn
    | cons n ns =>
      rw [List.map_cons] at hn
      injection hn with h1 h2
      subst h1 h2
      have hv' : its[i]? = some v := by simpa using hv
      obtain ⟨xv, hx, rx⟩ := vals_back rv hv'
      obtain ⟨bs', hr', hi, _⟩ := PySem.W.readsAll_atA (vs := its.toArray) (by simpa using ra) i v hv
      have hd' := (reads_det (fun b o e _ => k b o e) hr' hr).1
      rw [PySem.W.minD_ints] at hd'
      refine ⟨xv, H, I.kept k, rx, q n ns rfl i xv hx ?_⟩
      rw [hd', List.map_cons, List.getD_eq_getElem?_getD, List.getElem?_eq_getElem hi]
      rfl
/-- min(xs, default=d) -/
def gMinD : PyData → PyData → Option PyData
  | .list ds, d => match nsOf ds with
    | some [] => some d
    | some (x :: xs) => some (.int (xs.foldl min x))
    | none => none
  | _, _ => none
theorem gMinD_nil (d : PyData) : gMinD (.list []) d = some d := rfl
theorem gMinD_cons (x : Int) (xs : List Int) (d : PyData) : gMinD (.list ((x :: xs).map .int)) d = some (.int (xs.foldl min x)) := by
  unfold gMinD
  simp only [nsOf_map]
theorem simF_minD {p kpos : Pos} {j : Nat} (hr : Room j X.A) (hm : X.mg "min" = none) (h1 : SimF X E e f1) (h2 : SimF X E e2 f2) (hc : X.calm = true := by rfl) (hg : Gl X "min" := by rfl) (hes : starEach [e] X.env = (false, eval e X.env) :: starEach [] X.env := by rfl)
    (he : backTo pos (starEach [e] X.env) = (false, eval e X.env) :: backTo pos (starEach [] X.env) := by rfl) (hpl : (backTo pos (starEach [e] X.env)).any (·.1) = false := by rfl)
    (hall : (backToKw pos (keywordEach [⟨some "default", e2, kpos⟩] X.env)).all (·.1.isSome) = true := by rfl) (hnone : (backToKw pos (keywordEach [⟨some "default", e2, kpos⟩] X.env)).any (·.1.isNone) = false := by rfl)
    (hks : (backToKw pos (keywordEach [⟨some "default", e2, kpos⟩] X.env)).filterMap (·.1) = [Str.ofString "default"] := by rfl) :
    SimF X E (.Call (.Name "min" p) [e] [⟨some "default", e2, kpos⟩] pos) (mOp gMinD f1 f2) := by
  obtain ⟨t, pa, s⟩ := h1.ex
  obtain ⟨t2, pa2, s2⟩ := h2.ex
  refine ⟨_, pe_callBK (cr_minD hc (Nat.lt_of_le_of_lt (by omega) hr.units)) hg hm (by decide +kernel) (pa_cons pa pa_nil hes) (pk_cons pa2 pk_nil) (by decide) (by decide) he hpl hall hnone hks, fun σ ρ S A H Q r q => ?_⟩
  refine s σ ρ S A H _ r ((Run.bind q).impG fun d1 ρ1 S1 A1 H1 g1 q1 r1 v hv => ?_)
  refine s2 σ ρ1 S1 A1 H1 _ r1 ((Run.bind q1).impG fun d2 ρ2 S2 A2 H2 g2 q2 r2 z hz => ?_)
  unfold lft at q2
  have hv2 := dp_mono g2.ss hv
  cases hv2 with
  | @lst a xs ds h3 hs =>
    unfold gMinD at q2
    cases ei : nsOf ds with
    | none =>
      simp only [ei] at q2
      exact q2.elim
    | some l =>
      have ed := nsOf_inv ei
      subst ed
      simp only [ei] at q2
      refine ⟨a, xs, l, z, rfl, rfl, .inl (r2.sub.rd (.inl h3)), FzA.dp (dpA_mono r2.sub hs), fun hl => ?_, fun y ys hl i v hx hd => ?_⟩
      · subst hl
        exact q2 S2 A2 H2 Grow.refl r2 z hz
      · subst hl
        obtain ⟨d, e1, hf⟩ := dpA_get' hs hx
        rw [hd] at e1
        cases e1
        exact q2 S2 A2 H2 Grow.refl r2 v hf
  | _ => exact q2.elim
/-! min, max of a list of whole numbers -/
def rMxI (K : PySem.W.Frag) (g : Int → Int → Int) : List V → Hp → VK → Prop := fun vs H Q => ∃ (a : Addr) (xs : List V) (x : Int) (l : List Int), vs = [.ref a] ∧ SqL K H a xs ∧ DpAll K H xs ((x :: l).map .int) ∧
  ∀ (i : Nat) v, xs[i]? = some v → ((x :: l).map PyData.int)[i]? = some (.int (l.foldl g x)) → Q v H
theorem cr_minI (hc : X.calm = true) (hu : X.A.units + 64 < cLine) : CallR X (.builtin "min") (rMxI X.K min) := by
  intro pins s σ H vs us Q I r h
  obtain ⟨a, xs, x, l, rfl, hs, hd, q⟩ := h
  obtain ⟨its, rv, hl, hz⟩ := I.list hs
  rw [Vals.ref1 r]
  obtain ⟨as, ra⟩ := Dp.readsAll I _ xs its hd rv
  have hdl := depth_ints (x :: l)
  refine PySem.W.min_list_data (I.ok.hd hc) hl.isList (by simpa using ra) (alike_ints (x :: l)) (by rw [List.map_cons] at hdl; omega) fun i v h' tk bs hv hr k => ?_
  have hv' : its[i]? = some v := by simpa using hv
  obtain ⟨xv, hx, rx⟩ := vals_back rv hv'
  obtain ⟨bs', hr', hi, _⟩ := PySem.W.readsAll_atA (vs := its.toArray) (by simpa using ra) i v hv
  have hd' := (reads_det (fun b o e _ => k b o e) hr' hr).1
  rw [PySem.W.minD_ints] at hd'
  refine ⟨xv, H, I.kept k, rx, q i xv hx ?_⟩
  rw [hd', List.map_cons, List.getD_eq_getElem?_getD, List.getElem?_eq_getElem hi]
  rfl
theorem cr_maxI (hc : X.calm = true) (hu : X.A.units + 64 < cLine) : CallR X (.builtin "max") (rMxI X.K max) := by
  intro pins s σ H vs us Q I r h
  obtain ⟨a, xs, x, l, rfl, hs, hd, q⟩ := h
  obtain ⟨its, rv, hl, hz⟩ := I.list hs
  rw [Vals.ref1 r]
  obtain ⟨as, ra⟩ := Dp.readsAll I _ xs its hd rv
  have hdl := depth_ints (x :: l)
  refine PySem.W.max_list_data (I.ok.hd hc) hl.isList (by simpa using ra) (alike_ints (x :: l)) (by rw [List.map_cons] at hdl; omega) fun i v h' tk bs hv hr k => ?_
  have hv' : its[i]? = some v := by simpa using hv
  obtain ⟨xv, hx, rx⟩ := vals_back rv hv'
  obtain ⟨bs', hr', hi, _⟩ := PySem.W.readsAll_atA (vs := its.toArray) (by simpa using ra) i v hv
  have hd' := (reads_det (fun b o e _ => k b o e) hr' hr).1
  rw [PySem.W.maxD_ints] at hd'
  refine ⟨xv, H, I.kept k, rx, q i xv hx ?_⟩
  rw [hd', List.map_cons, List.getD_eq_getElem?_getD, List.getElem?_eq_getElem hi]
  rfl
def gMxI (g : Int → Int → Int) : List PyData → Option PyData
  | [.list ds] => match nsOf ds with
    | some (x :: xs) => some (.int (xs.foldl g x))
    | _ => none
  | _ => none
theorem gMxI_cons (g : Int → Int → Int) (x : Int) (xs : List Int) : gMxI g [.list ((x :: xs).map .int)] = some (.int (xs.foldl g x)) := by
  unfold gMxI
  simp only [nsOf_map]
theorem simF_mxI {g : Int → Int → Int} {n : Str} {id : String} {p : Pos} (cr : CallR X (.builtin id) (rMxI X.K g)) (hm : X.mg n = none) (hv : bootBuiltins n = some (.builtin id)) (h : SimF X E e f1) (hn : n ≠ "__name__") (hdb : (n == ("__debug__" : Str)) = false) (hg : Gl X n := by rfl) (he : starEach [e] X.env = (false, eval e X.env) :: starEach [] X.env := by rfl) (hpl : (backTo pos (starEach [] X.env)).any (·.1) = false := by rfl) :
    SimF X E (.Call (.Name n p) [e] [] pos) (mCall (gMxI g) (mCons f1 mNil)) := by
  obtain ⟨t, pa, s⟩ := (simA_cons h simA_nil he).ex
  refine ⟨_, pe_callB cr hg hm hv pa hn hdb he hpl, fun σ ρ S A H Q r q => s σ ρ S A H _ r ((Run.bind q).imp fun as ρ1 S1 A1 H1 q1 r1 vs hvs => ?_)⟩
  unfold lft gMxI at q1
  split at q1
  · rename_i m em
    split at em
    · rename_i ds
      split at em
      · rename_i x xs ei
        have ed := nsOf_inv ei
        subst ed
        injection em with em
        subst em
        obtain ⟨v, rfl, hv⟩ := fzA1 hvs
        cases hv with
        | @lst a ys _ h1 hs1 =>
          refine ⟨a, ys, x, xs, rfl, .inl (r1.sub.rd (.inl h1)), FzA.dp (dpA_mono r1.sub hs1), fun i v hx hd => ?_⟩
          obtain ⟨d, e1, hf⟩ := dpA_get' hs1 hx
          rw [hd] at e1
          cases e1
          exact q1 S1 A1 H1 Grow.refl r1 _ hf
      · cases em
    · cases em
  · exact q1.elim
theorem simF_minI {p : Pos} {j : Nat} (hr : Room j X.A) (hm : X.mg "min" = none) (h : SimF X E e f1) (hc : X.calm = true := by rfl) (hg : Gl X "min" := by rfl) (he : starEach [e] X.env = (false, eval e X.env) :: starEach [] X.env := by rfl) (hpl : (backTo pos (starEach [] X.env)).any (·.1) = false := by rfl) :
    SimF X E (.Call (.Name "min" p) [e] [] pos) (mCall (gMxI min) (mCons f1 mNil)) := simF_mxI (cr_minI hc (Nat.lt_of_le_of_lt (by omega) hr.units)) hm (by decide +kernel) h (by decide) (by decide) hg he hpl
theorem simF_maxI {p : Pos} {j : Nat} (hr : Room j X.A) (hm : X.mg "max" = none) (h : SimF X E e f1) (hc : X.calm = true := by rfl) (hg : Gl X "max" := by rfl) (he : starEach [e] X.env = (false, eval e X.env) :: starEach [] X.env := by rfl) (hpl : (backTo pos (starEach [] X.env)).any (·.1) = false := by rfl) :
    SimF X E (.Call (.Name "max" p) [e] [] pos) (mCall (gMxI max) (mCons f1 mNil)) := simF_mxI (cr_maxI hc (Nat.lt_of_le_of_lt (by omega) hr.units)) hm (by decide +kernel) h (by decide) (by decide) hg he hpl
end DR
end
section
namespace DR
open PySem PySem.Spec PyProof.Rows L2
/-! words: str of a text, sep.join -/
def gStrA : List PyData → Option PyData
  | [.int i] => if i.natAbs.log2 < 1920 then some (.str (toString i)) else none
  | [.str s] => some (.str s)
  | _ => none
section
variable {X : Cx} {E : XK} {e : Expr} {f1 : Sl → R PyData}
theorem call_strA : CallR X (.type "str") (fun xs H Q => (∃ i, xs = [.int i] ∧ i.natAbs.log2 < 1920 ∧ Q (.str (toString i)) H) ∨ ∃ a, xs = [.str a] ∧ Q (.str a) H) := by
  intro pins s σ H xs us Q I r h
  rcases h with h | h
  · exact call_str_int pins s σ H xs us Q I r h
  · exact SkE.call_str_str pins s σ H xs us Q I r h
theorem callF_strA {K : PySem.W.Frag} : CallF K (fun xs H Q => (∃ i, xs = [.int i] ∧ i.natAbs.log2 < 1920 ∧ Q (.str (toString i)) H) ∨ ∃ a, xs = [.str a] ∧ Q (.str a) H) gStrA := fun S H Q xs as d s h e q => by
  unfold gStrA at e
  split at e
  · obtain ⟨v, rfl, hv⟩ := fzA1 h
    obtain ⟨hz, e⟩ := ite_some e
    subst e
    cases hv
    exact .inl ⟨_, rfl, hz, q _ S H (New.refl s) (.str _)⟩
  · obtain ⟨v, rfl, hv⟩ := fzA1 h
    injection e with e
    subst e
    cases hv
    exact .inr ⟨_, rfl, q _ S H (New.refl s) (.str _)⟩
  · cases e
theorem simF_strA {p : Pos} (hm : X.mg "str" = none) (h : SimF X E e f1) (hg : Gl X "str" := by rfl) (he : starEach [e] X.env = (false, eval e X.env) :: starEach [] X.env := by rfl) (hpl : (backTo pos (starEach [] X.env)).any (·.1) = false := by rfl) :
    SimF X E (.Call (.Name "str" p) [e] [] pos) (mCall gStrA (mCons f1 mNil)) := simF_T call_strA callF_strA hm (by decide +kernel) (simA_cons h simA_nil he) hg (by decide) (by decide) he hpl
end
def ssOf : List PyData → Option (List Str)
  | [] => some []
  | .str s :: r => (ssOf r).map (s :: ·)
  | _ :: _ => none
theorem ssOf_map (l : List Str) : ssOf (l.map .str) = some l := by
  induction l with
  | nil => rfl
  | cons i r ih =>
    show (ssOf (r.map .str)).map (i :: ·) = _
    rw [ih]
    rfl
theorem ssOf_inv : ∀ {ds : List PyData} {l : List Str}, ssOf ds = some l → ds = l.map .str
  | [], l, h => by cases h; rfl
  | .str s :: r, l, h => by
    unfold ssOf at h
    obtain ⟨l', h1, rfl⟩ := Option.map_eq_some_iff.mp h
    rw [ssOf_inv h1]
    rfl
  | .none :: _, _, h => by cases h
  | .int _ :: _, _, h => by cases h
  | .bool _ :: _, _, h => by cases h
  | .list _ :: _, _, h => by cases h
  | .tuple _ :: _, _, h => by cases h
theorem fzA_strs {K : PySem.W.Frag} {S : Hp} : ∀ {l : List Str} {vs : List V}, FzA K S vs (l.map .str) → vs = l.map V.str
  | [], vs, h => by cases h; rfl
  | s :: l, vs, h => by
    cases h with
    | cons hv hs =>
      cases hv
      rw [fzA_strs hs]
      rfl
def gJoin : PyData → PyData → Option PyData
  | .str a, .list ds => match ssOf ds with
    | some ys => if (ys.map (·.length)).sum + ys.length * a.length ≤ 16777216 then some (.str (Txt.join a ys)) else none
    | none => none
  | _, _ => none
section
variable {X : Cx} {E : XK} {e : Expr} {f2 : Sl → R PyData}
theorem simF_join {a : Str} {j : Nat} {cpos apos pos : Pos} (h2 : SimF X E e f2) (hs : starEach [e] X.env = [(false, eval e X.env)] := by rfl) (hbase : attributeBase (.Constant (.str a) j cpos) "join" X.env (eval (.Constant (.str a) j cpos) X.env) = eval (.Constant (.str a) j cpos) X.env := by rfl) (hline : (apos.endLine == pos.line) = true := by rfl) :
    SimF X E (.Call (.Attribute (.Constant (.str a) j cpos) "join" apos) [e] [] pos) (mOp gJoin (mC (.str a)) f2) := by
  obtain ⟨tb, p2, s2⟩ := h2.ex
  refine ⟨_, pe_join pe_str p2 hs hbase hline, fun σ ρ S A H Q r q => ?_⟩
  refine ⟨⟨a, rfl⟩, ?_⟩
  refine s2 σ ρ S A H _ r ((Run.bind (show Run X.K X.mg E S A σ H ((f2 ρ).bind fun b ρ => lft (gJoin (.str a) b) ρ) _ from q)).impG fun d2 ρ2 S2 A2 H2 g2 q2 r2 z hz => ?_)
  unfold lft gJoin at q2
  cases d2 with
  | list ds =>
    cases ei : ssOf ds with
    | none =>
      simp only [ei] at q2
      exact q2.elim
    | some ys =>
      simp only [ei] at q2
      by_cases hsz : (ys.map (·.length)).sum + ys.length * a.length ≤ 16777216
      · rw [if_pos hsz] at q2
        have ed := ssOf_inv ei
        subst ed
        cases hz with
        | lst h1 hs1 =>
          have ev := fzA_strs hs1
          subst ev
          exact ⟨a, _, ys, rfl, rfl, .inl (.inl (r2.sub.rd (.inl h1))), hsz, q2 S2 A2 H2 Grow.refl r2 _ (.str _)⟩
      · rw [if_neg hsz] at q2
        exact q2.elim
  | _ => exact q2.elim
end
end DR
end
section
/-! DR43: f-strings of texts and whole numbers, text + text -/
namespace DR
open PySem PySem.Spec PyProof.Rows L2
section
variable {K : PySem.W.Frag} {X : Cx} {E : XK} {e a b : Expr} {es : List Expr} {f1 f2 : Sl → R PyData} {fs : List (Sl → R PyData)} {pos : Pos}
def gFmt : PyData → Option PyData
  | .int i => if i.natAbs.log2 < 1920 then some (.str (toString i)) else none
  | .str s => if s.length ≤ sizeLine then some (.str s) else none
  | _ => none
theorem simF_fmt (h : SimF X E e f1) : SimF X E (.FormattedValue e (-1) none pos) (mUn gFmt f1) := by
  obtain ⟨t, pe, s⟩ := h.ex
  refine ⟨_, pe_fmt pe, fun σ ρ S A H Q r q => ?_⟩
  refine s σ ρ S A H _ r ((Run.bind (show Run X.K X.mg E S A σ H ((f1 ρ).bind fun b ρ => lft (gFmt b) ρ) _ from q)).impG fun d ρ1 S1 A1 H1 g1 q1 r1 v hv => ?_)
  unfold lft gFmt at q1
  cases d with
  | int i =>
    cases hv
    simp only [] at q1
    by_cases hz : i.natAbs.log2 < 1920
    · rw [if_pos hz] at q1
      exact .inr ⟨i, rfl, hz, q1 S1 A1 H1 Grow.refl r1 _ (.str _)⟩
    · rw [if_neg hz] at q1
      exact q1.elim
  | str y =>
    cases hv
    simp only [] at q1
    by_cases hz : y.length ≤ sizeLine
    · rw [if_pos hz] at q1
      exact .inl ⟨y, rfl, hz, q1 S1 A1 H1 Grow.refl r1 _ (.str _)⟩
    · rw [if_neg hz] at q1
      exact q1.elim
  | _ => exact q1.elim
/-- the parts of an f-string -/
def mJs : List (Sl → R PyData) → Str → Sl → R PyData
  | [], acc => fun ρ => .ok (.str acc) ρ
  | f :: fs, acc => fun ρ => (f ρ).bind fun d ρ => match d with
    | .str y => if (acc ++ y).length ≤ sizeLine then mJs fs (acc ++ y) ρ else .bad
    | _ => .bad
structure SimJ (X : Cx) (E : XK) (es : List Expr) (fs : List (Sl → R PyData)) : Prop where
  ex : ∃ ts, PJ X es ts ∧ ∀ acc σ ρ S A H (Q : Str → Hp → Prop), Rel X.K X.mg S ρ A σ H →
    Run X.K X.mg E S A σ H (mJs fs acc ρ) (fun d ρ' S' A' H' => Rel X.K X.mg S' ρ' A' σ H' → ∀ v, Fz X.K S' v d → ∀ out, v = .str out → Q out H') → tJs ts acc σ H Q
theorem simJ_nil : SimJ X E [] [] := ⟨[], .nil, fun acc σ ρ S A H Q r q => q S A H Grow.refl r _ (.str _) acc rfl⟩
theorem simJ_cons (h : SimF X E e f1) (hs : SimJ X E es fs) : SimJ X E (e :: es) (f1 :: fs) := by
  obtain ⟨t, pe, s⟩ := h.ex
  obtain ⟨ts, pj, ss⟩ := hs.ex
  refine ⟨t :: ts, .cons pe pj, fun acc σ ρ S A H Q r q => ?_⟩
  refine s σ ρ S A H _ r ((Run.bind q).impG fun d ρ1 S1 A1 H1 g1 q1 r1 v hv => ?_)
  cases d with
  | str y =>
    cases hv
    simp only [] at q1
    by_cases hz : (acc ++ y).length ≤ sizeLine
    · rw [if_pos hz] at q1
      exact ⟨y, rfl, hz, ss (acc ++ y) σ ρ1 S1 A1 H1 Q r1 q1⟩
    · rw [if_neg hz] at q1
      exact q1.elim
  | _ => exact q1.elim
theorem simF_js {v1 v2 : Expr} (h : SimJ X E (v1 :: v2 :: es) fs) : SimF X E (.JoinedStr (v1 :: v2 :: es) pos) (mJs fs Str.empty) := by
  obtain ⟨ts, pj, ss⟩ := h.ex
  refine ⟨_, pe_joined pj, fun σ ρ S A H Q r q => ?_⟩
  exact ss Str.empty σ ρ S A H _ r (q.imp fun d ρ1 S1 A1 H1 q1 r1 v hv out e => by
    subst e
    exact q1 r1 _ hv)
def gAddS : PyData → PyData → Option PyData
  | .str i, .str j => if i.length + j.length ≤ sizeLine then some (.str (i ++ j)) else none
  | _, _ => none
theorem opF_addS : OpF K (fun x y H Q => ∃ i j, x = .str i ∧ y = .str j ∧ i.length + j.length ≤ sizeLine ∧ Q (.str (i ++ j)) H) gAddS := fun S H Q x y a b d s hx hy e q => by
  unfold gAddS at e
  split at e
  · obtain ⟨hz, e⟩ := ite_some e
    subst e
    cases hx
    cases hy
    exact ⟨_, _, rfl, rfl, hz, q _ S H (New.refl s) (.str _)⟩
  · cases e
theorem simF_addS (h1 : SimF X E a f1) (h2 : SimF X E b f2) : SimF X E (.BinOp a .Add b pos) (mOp gAddS f1 f2) := simF_op op_add_str opF_addS h1 h2
end
@[simp] theorem mJs_nil (acc : Str) (ρ : Sl) : mJs [] acc ρ = .ok (.str acc) ρ := rfl
@[simp] theorem mJs_cons (f : Sl → R PyData) (fs : List (Sl → R PyData)) (acc : Str) (ρ : Sl) : mJs (f :: fs) acc ρ = (f ρ).bind fun d ρ => match d with
    | .str y => if (acc ++ y).length ≤ sizeLine then mJs fs (acc ++ y) ρ else .bad
    | _ => .bad := keep rfl
end DR
end
section
/-! DR44: a list of objects: one of them is lent to a def, or asked by a method -/
namespace DR
open PySem PySem.Spec PyProof.Rows L2
variable {K : PySem.W.Frag} {G : Str → Option Value} {S S' S1 H H' H1 : Hp} {A A' A1 B : List Addr} {E : XK} {σ σ0 σ1 : L2.St} {ρ : Sl} {X : Cx} {e e2 a b c : Expr} {es : List Expr} {pos : Pos} {f1 f2 : Sl → R PyData} {fs : Sl → R (List PyData)}
theorem repMs_split2 : ∀ {xs : List V} {ms : List MD} {Bs : List Addr} {j : Nat} {m : MD}, RepMs K G S H xs ms Bs → ms[j]? = some m → ∃ v B C, xs[j]? = some v ∧ RepM K G S H v m B ∧ Bs.Perm (B ++ C) ∧
    ∀ S' m' B' H', Sub S S' → RepM K G S' H' v m' B' → (∀ c ∈ C, ∀ o, H c = some o → H' c = some o) → ∃ Bs', RepMs K G S' H' xs (ms.set j m') Bs' ∧ Bs'.Perm (B' ++ C)
  | _, _, _, _, _, .nil, h => by simp at h
  | _, _, _, 0, m, .cons (A := A1) (B := B1) h hs, e => by
    simp at e
    subst e
    refine ⟨_, A1, B1, rfl, h, List.Perm.refl _, fun S' m' B' H' su hm' fr => ⟨B' ++ B1, .cons hm' (hs.mono su fr), List.Perm.refl _⟩⟩
  | _, _, _, j + 1, m, .cons (A := A1) (B := B1) h hs, e => by
    obtain ⟨v, B, C, e1, e2, pm, k⟩ := repMs_split2 (j := j) hs (by simpa using e)
    have p1 : (A1 ++ B1).Perm (B ++ (A1 ++ C)) := (List.Perm.append_left A1 pm).trans (by
      rw [← List.append_assoc, ← List.append_assoc]
      exact List.Perm.append_right C List.perm_append_comm)
    refine ⟨v, B, A1 ++ C, by simpa using e1, e2, p1, fun S' m' B' H' su hm' fr => ?_⟩
    obtain ⟨Bs', k1, k2⟩ := k S' m' B' H' su hm' fun c hc o ho => fr c (List.mem_append_right _ hc) o ho
    refine ⟨A1 ++ Bs', .cons (h.mono su fun c hc o ho => fr c (List.mem_append_left _ hc) o ho) k1, (List.Perm.append_left A1 k2).trans (by
      rw [← List.append_assoc, ← List.append_assoc]
      exact List.Perm.append_right C List.perm_append_comm)⟩
def callAt (F : FnSem) (i j : Nat) (ds : List PyData) (ρ : Sl) : R MD := match ρ[i]? with
  | some (some (.ml ms)) => match ms[j]? with
    | some m => match F (m :: ds.map .fz) with
      | .ok r (m' :: _) => .ok r (ρ.set i (some (.ml (ms.set j m'))))
      | .exc x (m' :: _) => .exc x (ρ.set i (some (.ml (ms.set j m'))))
      | _ => .bad
    | none => .bad
  | _ => .bad
theorem callAt_core {F : FnSem} {i j : Nat} {ds : List PyData} {vs : List V} {l : Addr} {xs : List V} {v : V} {ms : List MD} {m : MD} {Q : VK} (r : Rel K G S ρ A σ H) (e : ρ[i]? = some (some (.ml ms))) (em : ms[j]? = some m)
    (hl : σ[i]? = some (some (.ref l))) (hx : H l = some (.lst xs)) (hv : xs[j]? = some v) (av : FzA K S vs ds)
    (q : Run K G E S A σ H (callAt F i j ds ρ) (fun u ρ' S' A' H' => ∀ w, Rel K G S' (some u :: ρ') A' (some w :: σ) H' → Q w H')) : spOf K G F (v :: vs) H Q E := by
  unfold callAt at q
  rw [e] at q
  simp only [em] at q
  obtain ⟨A0, ro, nd, sb⟩ := r.rep
  obtain ⟨v0, B0, C0, h1, h2, h3, pm⟩ := take1 ro e
  have e0 : some (some (V.ref l)) = some (some v0) := hl.symm.trans h1
  injection e0 with e0
  injection e0 with e0
  subst e0
  cases h2 with
  | @ml _ xs' _ A1 ha hs =>
    have exs : xs = xs' := by
      rw [hx] at ha
      injection ha with ha
      injection ha
    subst exs
    obtain ⟨v', B, C, k1, k2, k3, k4⟩ := repMs_split2 hs em
    rw [hv] at k1
    injection k1 with k1
    subst k1
    obtain ⟨D, hD⟩ : ∃ D, D = l :: (C ++ C0) := ⟨_, rfl⟩
    have pm2 : A0.Perm (B ++ D) := by
      rw [hD]
      refine pm.trans ?_
      show ((l :: A1) ++ C0).Perm _
      refine (List.Perm.append_right C0 (List.Perm.cons l k3)).trans ?_
      show (l :: ((B ++ C) ++ C0)).Perm (B ++ l :: (C ++ C0))
      rw [List.append_assoc]
      exact (List.perm_middle).symm
    have ndBD : (B ++ D).Nodup := pm2.nodup_iff.mp nd
    have inB : ∀ a ∈ B, a ∈ A := fun a h => sb a (pm2.mem_iff.mpr (List.mem_append_left _ h))
    have inD : ∀ a ∈ D, a ∈ A := fun a h => sb a (pm2.mem_iff.mpr (List.mem_append_right _ h))
    have dis : ∀ a ∈ D, a ∉ B := fun a h1 h2 => (List.nodup_append.mp ndBD).2.2 a h2 a h1 rfl
    have inl : l ∈ D := by rw [hD]; exact List.mem_cons_self ..
    have inC : ∀ a ∈ C, a ∈ D := fun a h => by rw [hD]; exact List.mem_cons_of_mem _ (List.mem_append_left _ h)
    have inC0 : ∀ a ∈ C0, a ∈ D := fun a h => by rw [hD]; exact List.mem_cons_of_mem _ (List.mem_append_right _ h)
    have rel0 : Rel K G S ((m :: ds.map .fz).map some) B ((v :: vs).map some) H := ⟨r.sub, ⟨B ++ [], repO_of (.cons k2 (repMs_fz av)), by rw [List.append_nil]; exact (List.nodup_append.mp ndBD).1, fun a h => by rwa [List.append_nil] at h⟩, fun a h => r.off a (inB a h)⟩
    have hi : i < ρ.length := (List.getElem?_eq_some_iff.mp e).1
    -- behind the call
    have back : ∀ (m' : MD) (S' : Hp) (A' : List Addr) (H' : Hp) (Bm B' : List Addr), Grow S B H S' A' H' → RepM K G S' H' v m' B' → (Bm ++ B').Nodup → (∀ a ∈ Bm ++ B', a ∈ A') → (∀ a ∈ A', S' a = none ∧ H' a ≠ none) →
        ∃ A2, RepO K G S' H' σ (ρ.set i (some (.ml (ms.set j m')))) A2 ∧ (Bm ++ A2).Nodup ∧ (∀ a ∈ Bm ++ A2, S' a = none ∧ H' a ≠ none) ∧ Grow S A H S' (Bm ++ A2) H' := by
      intro m' S' A' H' Bm B' g hm' nd' sb' off'
      have fD : ∀ a ∈ D, ∀ o, H a = some o → H' a = some o := fun a h o e => g.fr a o e (dis a h)
      obtain ⟨Bs', b1, b2⟩ := k4 S' m' B' H' g.ss hm' fun c hc o ho => fD c (inC c hc) o ho
      have rep : RepM K G S' H' (.ref l) (.ml (ms.set j m')) (l :: Bs') := .ml (fD l inl _ hx) b1
      have h3' := h3.mono g.ss (H' := H') fun c hc o ho => fD c (inC0 c hc) o ho
      obtain ⟨A2, ro2, pm3⟩ := put1 h3' (List.getElem?_set_self hi) hl rep
      rw [List.set_set] at ro2
      have pm4 : A2.Perm (B' ++ D) := by
        rw [hD]
        refine pm3.trans ?_
        refine (List.Perm.append_right C0 (List.Perm.cons l b2)).trans ?_
        show (l :: ((B' ++ C) ++ C0)).Perm (B' ++ l :: (C ++ C0))
        rw [List.append_assoc]
        exact (List.perm_middle).symm
      have ndall : (Bm ++ (B' ++ D)).Nodup := by
        rw [← List.append_assoc]
        refine List.nodup_append.mpr ⟨nd', (List.nodup_append.mp ndBD).2.1, fun a h1 b h2 e => ?_⟩
        subst e
        rcases g.an a (sb' a h1) with w | w
        · exact dis a h2 w
        · exact (r.off a (inD a h2)).2 w
      have mem2 : ∀ a ∈ A2, a ∈ B' ∨ a ∈ D := fun a h => List.mem_append.mp (pm4.mem_iff.mp h)
      have offD : ∀ a ∈ D, S' a = none ∧ H' a ≠ none := fun a h => by
        refine ⟨?_, fun w => (r.off a (inD a h)).2 (g.dm a w)⟩
        cases w : S' a with
        | none => rfl
        | some o =>
          rcases g.sn a (by rw [w]; intro u; cases u) with u | u | u
          · exact (u (r.off a (inD a h)).1).elim
          · exact ((r.off a (inD a h)).2 u).elim
          · exact (dis a h u).elim
      refine ⟨A2, ro2, (List.Perm.append_left Bm pm4).nodup_iff.mpr ndall, fun a h => ?_, ⟨g.ss, fun b h => ?_, fun b o e n => g.fr b o e fun w => n (inB b w), fun b h => ?_, g.dm⟩⟩
      · rcases List.mem_append.mp h with w | w
        · exact off' a (sb' a (List.mem_append_left _ w))
        · rcases mem2 a w with w | w
          · exact off' a (sb' a (List.mem_append_right _ w))
          · exact offD a w
      · rcases g.sn b h with w | w | w
        · exact .inl w
        · exact .inr (.inl w)
        · exact .inr (.inr (inB b w))
      · have hA' : b ∈ A' → b ∈ A ∨ H b = none := fun w => (g.an b w).elim (fun u => .inl (inB b u)) .inr
        rcases List.mem_append.mp h with w | w
        · exact hA' (sb' b (List.mem_append_left _ w))
        · rcases mem2 b w with w | w
          · exact hA' (sb' b (List.mem_append_right _ w))
          · exact .inl (inD b w)
    refine ⟨S, m :: ds.map .fz, B, rel0, ?_⟩
    cases y : F (m :: ds.map .fz) with
    | bad => simp only [y] at q; exact q.elim
    | ok u ms' =>
      cases ms' with
      | nil => simp only [y] at q; exact q.elim
      | cons m' rest =>
        simp only [y] at q
        intro w S' A' H' g r'
        obtain ⟨A1', ro1, nd1, sb1⟩ := r'.rep
        cases ro1 with
        | @keep _ _ _ _ Bm Bs hu hs1 =>
          cases hs1 with
          | @keep _ _ _ _ B' Dr hm' hr =>
            have nd2 : (Bm ++ B').Nodup := by
              rw [← List.append_assoc] at nd1
              exact (List.nodup_append.mp nd1).1
            obtain ⟨A2, z1, z2, z3, z4⟩ := back m' S' A' H' Bm B' g hm' nd2 (fun a h => sb1 a (by
              rcases List.mem_append.mp h with h | h
              · exact List.mem_append_left _ h
              · exact List.mem_append_right _ (List.mem_append_left _ h))) r'.off
            exact q S' (Bm ++ A2) H' z4 w ⟨r'.sub, ⟨Bm ++ A2, .keep hu z1, z2, fun _ h => h⟩, z3⟩
    | exc x ms' =>
      cases ms' with
      | nil => simp only [y] at q; exact q.elim
      | cons m' rest =>
        simp only [y] at q
        intro S' A' H' cls dd g r' ex
        obtain ⟨A1', ro1, nd1, sb1⟩ := r'.rep
        cases ro1 with
        | @keep _ _ _ _ B' Dr hm' hr =>
          obtain ⟨A2, z1, z2, z3, z4⟩ := back m' S' A' H' [] B' g hm' (List.nodup_append.mp nd1).1 (fun a h => sb1 a (List.mem_append_left _ h)) r'.off
          exact q S' A2 H' cls dd z4 ⟨r'.sub, ⟨A2, z1, z2, fun _ h => h⟩, z3⟩ ex
/-! what a view tells, while nothing is written -/
theorem rel_keep (r : Rel K G S ρ A σ H) (kp : ∀ b o, H b = some o → H' b = some o) (dm : ∀ b, H' b = none → H b = none) : Rel K G S ρ A σ H' ∧ Grow S A H S A H' := by
  obtain ⟨A0, ro, nd, sb⟩ := r.rep
  exact ⟨⟨fun b o h => kp b o (r.sub b o h), ⟨A0, ro.mono (Sub.refl S) fun b _ o h => kp b o h, nd, sb⟩, fun b hb => ⟨(r.off b hb).1, fun z => (r.off b hb).2 (dm b z)⟩⟩,
    ⟨Sub.refl S, fun _ h => .inl h, fun b o h _ => kp b o h, fun _ h => .inl h, dm⟩⟩
theorem view_run {f : Sl → R PyData} {t : TE} (sk : ∀ σ ρ S A H Q, Rel K G S ρ A σ H → Run K G E S A σ H (f ρ) (fun d ρ' S' A' H' => Rel K G S' ρ' A' σ H' → ∀ v, Fz K S' v d → Q v H') → t σ H Q) (r : Rel K G S ρ A σ H) {k : Int} {ρk : Sl} (ek : f (view ρ) = .ok (.int k) ρk) {Q : VK}
    (q : ∀ Hk, (∀ b o, H b = some o → Hk b = some o) → (∀ b, Hk b = none → H b = none) → Q (.int k) Hk) : t σ H Q := by
  obtain ⟨A0, ro, nd, sb⟩ := r.rep
  have r1 : Rel K G (cold S H A0) (view ρ) [] σ H := ⟨cold_sub r.sub, ⟨[], ro.view r.sub fun _ q => q, List.nodup_nil, fun _ q => q⟩, fun a q => (by cases q)⟩
  refine sk σ (view ρ) _ [] H _ r1 ?_
  rw [ek]
  intro Sk Ak Hk gk rk vk hvk
  cases hvk
  exact q Hk (fun b o h => gk.fr b o h fun z => by cases z) gk.dm
theorem viewA_run {f : Sl → R (List PyData)} {t : TA} (sk : ∀ σ ρ S A H Q, Rel K G S ρ A σ H → Run K G E S A σ H (f ρ) (fun ds ρ' S' A' H' => Rel K G S' ρ' A' σ H' → ∀ vs, FzA K S' vs ds → Q vs H') → t σ H Q) (r : Rel K G S ρ A σ H) {ds : List PyData} {ρk : Sl} (ek : f (view ρ) = .ok ds ρk) (hf : allFlat ds = true) {Q : List V → Hp → Prop}
    (q : ∀ Hk vs, (∀ b o, H b = some o → Hk b = some o) → (∀ b, Hk b = none → H b = none) → FzA K S vs ds → Q vs Hk) : t σ H Q := by
  obtain ⟨A0, ro, nd, sb⟩ := r.rep
  have r1 : Rel K G (cold S H A0) (view ρ) [] σ H := ⟨cold_sub r.sub, ⟨[], ro.view r.sub fun _ q => q, List.nodup_nil, fun _ q => q⟩, fun a q => (by cases q)⟩
  refine sk σ (view ρ) _ [] H _ r1 ?_
  rw [ek]
  intro Sk Ak Hk gk rk vs hvs
  exact q Hk vs (fun b o h => gk.fr b o h fun z => by cases z) gk.dm (fzA_flat hvs hf)
/-- a def's first argument is one of the list's objects -/
def mCallAt (F : FnSem) (i : Nat) (fk : Sl → R PyData) (fs : Sl → R (List PyData)) : Sl → R MD := fun ρ => match ρ[i]?, fk (view ρ), fs (view ρ) with
  | some (some (.ml ms)), .ok (.int k) _, .ok ds _ => match ixN ms.length k with
    | some j => if allFlat ds = true then callAt F i j ds ρ else .bad
    | none => .bad
  | _, _, _ => .bad
theorem simM_callAt (i : Nat) {x f : Str} {p p1 p2 : Pos} {ix : Expr} {F : FnSem} {k j : Nat} (D : FnDef X.prog X.w X.K X.mg X.base f F k) (hr : Room j X.A) (hx : Passes (L2.CX X.prog X.w) X E) (hk : SimF X E ix f1) (h : SimA X E es fs) (hkj : k ≤ j := by decide) (hg : Gl X f := by rfl) (hdb : (f == ("__debug__" : Str)) = false := by decide)
    (hN : X.N[i]? = some x := by rfl) (hv : Vis X.env.scope x := by first | exact Or.inl rfl | exact Or.inr (Or.inl rfl) | exact Or.inr (Or.inr rfl)) (hd : (x == ("__debug__" : Str)) = false := by decide) (hcd : (x == ("__classdict__" : Str)) = false := by decide) (hp : PlainIx ix := by exact fun _ _ => rfl)
    (he : starEach (.Subscript (.Name x p1) ix p2 :: es) X.env = (false, eval (.Subscript (.Name x p1) ix p2) X.env) :: starEach es X.env := by rfl) (hpl : (backTo pos (starEach es X.env)).any (·.1) = false := by rfl) :
    SimM X E (.Call (.Name f p) (.Subscript (.Name x p1) ix p2 :: es) [] pos) (mCallAt F i f1 fs) := by
  obtain ⟨f, fd, ps, ok, hm, hkp, hb⟩ := D.ex
  obtain ⟨tk, pk, sk⟩ := hk.ex
  obtain ⟨ta, pa, sa⟩ := h.ex
  refine ⟨_, pe_call ok (hr.mono hkj) hg hm hkp hb .nil hx (pa_cons (pe_ix ix_list (pe_var hN hv hd hcd) pk hp) pa he) hdb he hpl, fun σ ρ S A H Q r q => ?_⟩
  unfold mCallAt at q
  split at q
  · rename_i ms k ρk ds ρd em ek es'
    split at q
    · rename_i j ej
      by_cases hf : allFlat ds = true
      · rw [if_pos hf] at q
        obtain ⟨l, xs, h1, h2, hl, _⟩ := own_upd r em
        have hj : j < ms.length := by
          unfold ixN at ej
          split at ej
          · split at ej
            · injection ej with ej
              omega
            · cases ej
          · split at ej
            · injection ej with ej
              omega
            · cases ej
        obtain ⟨m, hm'⟩ : ∃ m, ms[j]? = some m := ⟨_, List.getElem?_eq_getElem hj⟩
        obtain ⟨v, hv'⟩ : ∃ v, xs[j]? = some v := ⟨_, List.getElem?_eq_getElem (by rw [hl]; exact hj)⟩
        refine ⟨.ref l, h1, view_run sk r ek fun Hk k1 k2 => ?_⟩
        obtain ⟨rk, gk⟩ := rel_keep r k1 k2
        refine ⟨l, xs, _, v, rfl, rfl, SqL.of (k1 l _ h2), ?_, ?_⟩
        · unfold atI
          rw [hl, ej]
          exact hv'
        · refine viewA_run sa rk es' hf fun Hd vs d1 d2 hvs => ?_
          obtain ⟨rd, gd⟩ := rel_keep rk d1 d2
          rw [List.append_nil]
          exact callAt_core rd em hm' h1 (d1 l _ (k1 l _ h2)) hv' hvs (Run.start (gk.trans gd) q)
      · rw [if_neg hf] at q
        exact q.elim
    · exact q.elim
  · exact q.elim
/-- one of the list's objects is asked -/
def mMethAt (c : Str) (F : FnSem) (i : Nat) (fk : Sl → R PyData) (fs : Sl → R (List PyData)) : Sl → R MD := fun ρ => match ρ[i]?, fk (view ρ), fs (view ρ) with
  | some (some (.ml ms)), .ok (.int k) _, .ok ds _ => match ixN ms.length k with
    | some j => match ms[j]? with
      | some (.mo c' _) => if c' = c ∧ allFlat ds = true then callAt F i j ds ρ else .bad
      | _ => .bad
    | none => .bad
  | _, _, _ => .bad
def sNo : Sl → R (List PyData) := fun ρ => .ok [] ρ
theorem simA_no : SimA X E [] sNo := ⟨_, pa_nil, fun σ ρ S A H Q r q => q S A H Grow.refl r [] .nil⟩
theorem simM_methAt (i : Nat) {c x m : Str} {p1 p2 apos : Pos} {ix : Expr} {F : FnSem} {k j : Nat} (Df : MethDef X.prog X.w X.K X.mg X.base c m F k) (hr : Room j X.A) (hx : Passes (L2.CX X.prog X.w) X E) (hk : SimF X E ix f1) (h : SimA X E (e :: es) fs) (hkj : k ≤ j := by decide)
    (hN : X.N[i]? = some x := by rfl) (hv : Vis X.env.scope x := by first | exact Or.inl rfl | exact Or.inr (Or.inl rfl) | exact Or.inr (Or.inr rfl)) (hd : (x == ("__debug__" : Str)) = false := by decide) (hcd : (x == ("__classdict__" : Str)) = false := by decide) (hp : PlainIx ix := by exact fun _ _ => rfl) {pl : Sem Bool}
    (hst : starEach (e :: es) X.env = (false, eval e X.env) :: starEach es X.env := by rfl) (hpl : (backTo pos (starEach es X.env)).any (·.1) = false := by rfl)
    (ht : eval (.Call (.Attribute (.Subscript (.Name x p1) ix p2) m apos) (e :: es) [] pos) X.env = (do
      let ov ← eval (.Subscript (.Name x p1) ix p2) X.env
      standAt apos.atName
      let (f, first) ← holding [ov] (getMethod ov m pl)
      callWith pos f first (backTo pos (starEach (e :: es) X.env)) (backToKw pos (keywordEach [] X.env))) := by rfl) : SimM X E (.Call (.Attribute (.Subscript (.Name x p1) ix p2) m apos) (e :: es) [] pos) (mMethAt c F i f1 fs) := by
  obtain ⟨C, f, fd, ps, gC, cl, hm, ok, hb⟩ := Df.ex
  obtain ⟨tk, pk, sk⟩ := hk.ex
  obtain ⟨ta, pa, sa⟩ := h.ex
  refine ⟨_, pe_meth (pe_ix ix_list (pe_var hN hv hd hcd) pk hp) cl hm ok (hr.mono hkj) hb .nil hx pa hst hpl ht, fun σ ρ S A H Q r q => ?_⟩
  unfold mMethAt at q
  split at q
  · rename_i ms k ρk ds ρd em ek es'
    split at q
    · rename_i j ej
      split at q
      · rename_i c' fm hm'
        by_cases hf : c' = c ∧ allFlat ds = true
        · rw [if_pos hf] at q
          obtain ⟨rfl, hf⟩ := hf
          obtain ⟨A0, ro, nd, sb⟩ := r.rep
          obtain ⟨v0, B0, C0, h1, hml, h3, pm⟩ := take1 ro em
          cases hml with
          | @ml l xs _ A1 h2 hs =>
            obtain ⟨v, B, C1, hv', ho, _, _⟩ := repMs_split2 hs hm'
            have hl : xs.length = ms.length := by
              have z := (repO_of hs).len
              simpa using z
            cases ho with
            | @mo ae C' dx fs' _ _ _ hae g' n w hfs =>
              rw [gC] at g'
              injection g' with g'
              injection g' with g'
              subst g'
              refine ⟨.ref l, h1, view_run sk r ek fun Hk k1 k2 => ?_⟩
              obtain ⟨rk, gk⟩ := rel_keep r k1 k2
              refine ⟨l, xs, _, .ref ae, rfl, rfl, SqL.of (k1 l _ h2), ?_, ?_⟩
              · unfold atI
                rw [hl, ej]
                exact hv'
              · refine ⟨ae, dx, fs', rfl, k1 ae _ hae, meth_no (dx := dx) hm w.1, ?_⟩
                refine viewA_run sa rk es' hf fun Hd vs d1 d2 hvs => ?_
                obtain ⟨rd, gd⟩ := rel_keep rk d1 d2
                rw [List.append_nil]
                exact callAt_core rd em hm' h1 (d1 l _ (k1 l _ h2)) hv' hvs (Run.start (gk.trans gd) q)
        · rw [if_neg hf] at q
          exact q.elim
      · exact q.elim
    · exact q.elim
  · exact q.elim
theorem simM_methAt0 (i : Nat) {c x m : Str} {p1 p2 apos : Pos} {ix : Expr} {F : FnSem} {k j : Nat} (Df : MethDef X.prog X.w X.K X.mg X.base c m F k) (hr : Room j X.A) (hx : Passes (L2.CX X.prog X.w) X E) (hk : SimF X E ix f1) (hkj : k ≤ j := by decide)
    (hN : X.N[i]? = some x := by rfl) (hv : Vis X.env.scope x := by first | exact Or.inl rfl | exact Or.inr (Or.inl rfl) | exact Or.inr (Or.inr rfl)) (hd : (x == ("__debug__" : Str)) = false := by decide) (hcd : (x == ("__classdict__" : Str)) = false := by decide) (hp : PlainIx ix := by exact fun _ _ => rfl) {pl : Sem Bool}
    (ht : eval (.Call (.Attribute (.Subscript (.Name x p1) ix p2) m apos) [] [] pos) X.env = (do
      let ov ← eval (.Subscript (.Name x p1) ix p2) X.env
      standAt apos.atName
      let (f, first) ← holding [ov] (getMethod ov m pl)
      callWith pos f first (backTo pos (starEach [] X.env)) (backToKw pos (keywordEach [] X.env))) := by rfl) : SimM X E (.Call (.Attribute (.Subscript (.Name x p1) ix p2) m apos) [] [] pos) (mMethAt c F i f1 sNo) := by
  obtain ⟨C, f, fd, ps, gC, cl, hm, ok, hb⟩ := Df.ex
  obtain ⟨tk, pk, sk⟩ := hk.ex
  refine ⟨_, pe_meth0 (pe_ix ix_list (pe_var hN hv hd hcd) pk hp) cl hm ok (hr.mono hkj) hb .nil hx ht, fun σ ρ S A H Q r q => ?_⟩
  unfold mMethAt at q
  split at q
  · rename_i ms k ρk ds ρd em ek es'
    split at q
    · rename_i j ej
      split at q
      · rename_i c' fm hm'
        by_cases hf : c' = c ∧ allFlat ds = true
        · rw [if_pos hf] at q
          obtain ⟨rfl, hf⟩ := hf
          have eds : ds = [] := by
            unfold sNo at es'
            injection es' with e1 _
            exact e1.symm
          subst eds
          obtain ⟨A0, ro, nd, sb⟩ := r.rep
          obtain ⟨v0, B0, C0, h1, hml, h3, pm⟩ := take1 ro em
          cases hml with
          | @ml l xs _ A1 h2 hs =>
            obtain ⟨v, B, C1, hv', ho, _, _⟩ := repMs_split2 hs hm'
            have hl : xs.length = ms.length := by
              have z := (repO_of hs).len
              simpa using z
            cases ho with
            | @mo ae C' dx fs' _ _ _ hae g' n w hfs =>
              rw [gC] at g'
              injection g' with g'
              injection g' with g'
              subst g'
              refine ⟨.ref l, h1, view_run sk r ek fun Hk k1 k2 => ?_⟩
              obtain ⟨rk, gk⟩ := rel_keep r k1 k2
              refine ⟨l, xs, _, .ref ae, rfl, rfl, SqL.of (k1 l _ h2), ?_, ?_⟩
              · unfold atI
                rw [hl, ej]
                exact hv'
              · refine ⟨ae, dx, fs', rfl, k1 ae _ hae, meth_no (dx := dx) hm w.1, ?_⟩
                exact callAt_core rk em hm' h1 (k1 l _ h2) hv' .nil (Run.start gk q)
        · rw [if_neg hf] at q
          exact q.elim
      · exact q.elim
    · exact q.elim
  · exact q.elim
/-- [a(), b()]: a list of two things just made -/
def mLst2 (g1 g2 : Sl → R MD) : Sl → R MD := fun ρ => (g1 ρ).bind fun m1 ρ1 => (g2 ρ1).bind fun m2 ρ2 => .ok (.ml [m1, m2]) ρ2
theorem simM_lst2 {g1 g2 : Sl → R MD} (h1 : SimM X E a g1) (h2 : SimM X E b g2) (he1 : starEach [a, b] X.env = (false, eval a X.env) :: starEach [b] X.env := by rfl) (he2 : starEach [b] X.env = (false, eval b X.env) :: starEach [] X.env := by rfl) : SimM X E (.List [a, b] pos) (mLst2 g1 g2) := by
  obtain ⟨t1, p1, s1⟩ := h1.ex
  obtain ⟨t2, p2, s2⟩ := h2.ex
  refine ⟨_, pe_lst (pa_cons p1 (pa_cons p2 pa_nil he2) he1), fun σ ρ S A H Q r q => ?_⟩
  unfold mLst2 at q
  refine s1 σ ρ S A H _ r ((Run.bind q).imp fun m1 ρ1 S1 A1 H1 q1 v1 r1 => ?_)
  obtain ⟨A0, ro, nd, sb⟩ := r1.rep
  cases ro with
  | @keep _ _ _ _ B1 C1 hm1 hr1 =>
    have nn := List.nodup_append.mp nd
    have inB : ∀ x ∈ B1, x ∈ A1 := fun x h => sb x (List.mem_append_left _ h)
    have inC : ∀ x ∈ C1, x ∈ A1 := fun x h => sb x (List.mem_append_right _ h)
    have dis : ∀ x ∈ B1, x ∉ C1 := fun x h1 h2 => nn.2.2 x h1 x h2 rfl
    have rel1 : Rel X.K X.mg S1 ρ1 C1 σ H1 := ⟨r1.sub, ⟨C1, hr1, nn.2.1, fun _ h => h⟩, fun x h => r1.off x (inC x h)⟩
    have gr : ∀ {S' A' H'}, Grow S1 C1 H1 S' A' H' → Grow S1 A1 H1 S' (B1 ++ A') H' := fun g => ⟨g.ss, fun x h => (g.sn x h).imp id fun z => z.imp id (inC x), fun x o h n => g.fr x o h fun z => n (inC x z), fun x h => by
      rcases List.mem_append.mp h with z | z
      · exact .inl (inB x z)
      · exact (g.an x z).imp (inC x) id, g.dm⟩
    have q2 := Run.bind q1
    refine s2 σ ρ1 S1 C1 H1 _ rel1 ?_
    cases z : g2 ρ1 with
    | bad => rw [z] at q2; exact q2.elim
    | exc x ρx =>
      rw [z] at q2
      intro S' A' H' cls dd g rr ex
      refine q2 S' (B1 ++ A') H' cls dd (gr g) ?_ ex
      obtain ⟨Ax, rox, ndx, sbx⟩ := rr.rep
      refine ⟨rr.sub, ⟨Ax, rox, ndx, fun x h => List.mem_append_right _ (sbx x h)⟩, fun x h => ?_⟩
      rcases List.mem_append.mp h with w | w
      · have o1 := r1.off x (inB x w)
        refine ⟨?_, fun u => o1.2 (g.dm x u)⟩
        cases y : S' x with
        | none => rfl
        | some o =>
          rcases g.sn x (by rw [y]; intro u; cases u) with u | u | u
          · exact (u o1.1).elim
          · exact (o1.2 u).elim
          · exact (dis x w u).elim
      · exact rr.off x w
    | ok m2 ρ2 =>
      rw [z] at q2
      intro S2 A2 H2 g v2 r2
      have q3 := q2 S2 (B1 ++ A2) H2 (gr g)
      refine ⟨by show [v1, v2].length ≤ sizeLine; exact Nat.le_trans (show 2 ≤ 100 by decide) (by decide), fun l nl => ?_⟩
      obtain ⟨A3, ro3, nd3, sb3⟩ := r2.rep
      cases ro3 with
      | @keep _ _ _ _ B2 C2 hm2 hr2 =>
        have kp : ∀ x o, H2 x = some o → upd H2 l (.lst [v1, v2]) x = some o := fun x o h => by
          rw [upd_ne (fun w => by rw [w, nl] at h; cases h)]
          exact h
        have m1' := hm1.mono g.ss (H' := H2) fun x h o ho => g.fr x o ho (dis x h)
        have offB : ∀ x ∈ B1, S2 x = none ∧ H2 x ≠ none := fun x w => by
          have o1 := r1.off x (inB x w)
          refine ⟨?_, fun u => o1.2 (g.dm x u)⟩
          cases y : S2 x with
          | none => rfl
          | some o =>
            rcases g.sn x (by rw [y]; intro u; cases u) with u | u | u
            · exact (u o1.1).elim
            · exact (o1.2 u).elim
            · exact (dis x w u).elim
        have disB : ∀ x ∈ B1, x ∉ A2 := fun x w u => by
          rcases g.an x u with y | y
          · exact dis x w y
          · exact (r1.off x (inB x w)).2 y
        have n3 := List.nodup_append.mp nd3
        have nlA : ∀ x, H2 x ≠ none → x ≠ l := fun x h w => h (by rw [w]; exact nl)
        have nS : S2 l = none := by
          cases w : S2 l with
          | none => rfl
          | some o => rw [r2.sub l o w] at nl; cases nl
        have memA3 : ∀ x ∈ B2 ++ C2, x ∈ A2 := fun x h => sb3 x h
        refine q3 S2 (l :: (B1 ++ A2)) (upd H2 l (.lst [v1, v2])) ⟨Sub.refl _, fun _ h => .inl h, fun x o h _ => kp x o h, fun x h => ?_, fun x h => ?_⟩ (.ref l) ⟨fun x o h => kp x o (r2.sub x o h), ⟨(l :: (B1 ++ (B2 ++ []))) ++ C2, .keep (.ml upd_same (.cons (m1'.mono (Sub.refl _) fun x _ o h => kp x o h) (.cons (hm2.mono (Sub.refl _) fun x _ o h => kp x o h) .nil))) (hr2.mono (Sub.refl _) fun x _ o h => kp x o h), ?_, fun x h => ?_⟩, fun x h => ?_⟩
        · rcases List.mem_cons.mp h with w | w
          · exact .inr (by rw [w]; exact nl)
          · exact .inl w
        · by_cases w : x = l
          · rw [w]; exact nl
          · rwa [upd_ne w] at h
        · rw [List.append_nil, List.cons_append, List.append_assoc]
          refine List.nodup_cons.mpr ⟨fun h => ?_, List.nodup_append.mpr ⟨nn.1, nd3, fun x hx y hy e => ?_⟩⟩
          · rcases List.mem_append.mp h with w | w
            · exact nlA l (offB l w).2 rfl
            · exact nlA l (r2.off l (memA3 l w)).2 rfl
          · subst e
            exact disB x hx (memA3 x hy)
        · rw [List.append_nil] at h
          rcases List.mem_append.mp h with h | h
          · rcases List.mem_cons.mp h with w | w
            · rw [w]; exact List.mem_cons_self ..
            · refine List.mem_cons_of_mem _ ?_
              rcases List.mem_append.mp w with w | w
              · exact List.mem_append_left _ w
              · exact List.mem_append_right _ (memA3 x (List.mem_append_left _ w))
          · exact List.mem_cons_of_mem _ (List.mem_append_right _ (memA3 x (List.mem_append_right _ h)))
        · rcases List.mem_cons.mp h with w | w
          · rw [w, upd_same]
            exact ⟨nS, fun u => by cases u⟩
          · have o2 : S2 x = none ∧ H2 x ≠ none := by
              rcases List.mem_append.mp w with w | w
              · exact offB x w
              · exact r2.off x w
            rw [upd_ne (nlA x o2.2)]
            exact o2
/-! equations -/
@[simp] theorem callAt_e (F : FnSem) (i j : Nat) (ds : List PyData) (ρ : Sl) : callAt F i j ds ρ = match ρ[i]? with
  | some (some (.ml ms)) => match ms[j]? with
    | some m => match F (m :: ds.map .fz) with
      | .ok r (m' :: _) => .ok r (ρ.set i (some (.ml (ms.set j m'))))
      | .exc x (m' :: _) => .exc x (ρ.set i (some (.ml (ms.set j m'))))
      | _ => .bad
    | none => .bad
  | _ => .bad := keep rfl
@[simp] theorem mCallAt_e (F : FnSem) (i : Nat) (fk : Sl → R PyData) (fs : Sl → R (List PyData)) (ρ : Sl) : mCallAt F i fk fs ρ = match ρ[i]?, fk (view ρ), fs (view ρ) with
  | some (some (.ml ms)), .ok (.int k) _, .ok ds _ => match ixN ms.length k with
    | some j => if allFlat ds = true then callAt F i j ds ρ else .bad
    | none => .bad
  | _, _, _ => .bad := keep rfl
@[simp] theorem mMethAt_e (c : Str) (F : FnSem) (i : Nat) (fk : Sl → R PyData) (fs : Sl → R (List PyData)) (ρ : Sl) : mMethAt c F i fk fs ρ = match ρ[i]?, fk (view ρ), fs (view ρ) with
  | some (some (.ml ms)), .ok (.int k) _, .ok ds _ => match ixN ms.length k with
    | some j => match ms[j]? with
      | some (.mo c' _) => if c' = c ∧ allFlat ds = true then callAt F i j ds ρ else .bad
      | _ => .bad
    | none => .bad
  | _, _, _ => .bad := keep rfl
@[simp] theorem sNo_e (ρ : Sl) : sNo ρ = .ok [] ρ := keep rfl
@[simp] theorem mLst2_e (g1 g2 : Sl → R MD) (ρ : Sl) : mLst2 g1 g2 ρ = (g1 ρ).bind fun m1 ρ1 => (g2 ρ1).bind fun m2 ρ2 => .ok (.ml [m1, m2]) ρ2 := keep rfl
/-! a value against an owned list -/
def fCmpO (g : PyData → PyData → Option PyData) (f1 : Sl → R PyData) (i : Nat) : Sl → R PyData := fun ρ => (f1 ρ).bind fun d ρ1 => match ρ1[i]? with
  | some (some m) => match m.frz with
    | some d2 => match g d d2 with
      | some (.bool b) => .ok (.bool b) ρ1
      | _ => .bad
    | none => .bad
  | _ => .bad
@[simp] theorem fCmpO_e (g : PyData → PyData → Option PyData) (f1 : Sl → R PyData) (i : Nat) (ρ : Sl) : fCmpO g f1 i ρ = (f1 ρ).bind fun d ρ1 => match ρ1[i]? with
  | some (some m) => match m.frz with
    | some d2 => match g d d2 with
      | some (.bool b) => .ok (.bool b) ρ1
      | _ => .bad
    | none => .bad
  | _ => .bad := keep rfl
theorem simT_cmpO {op : CmpOp} {g : PyData → PyData → Option PyData} (i : Nat) {x : Str} {p : Pos} (hc : CmpS X op g) (h1 : SimF X E a f1) (hN : X.N[i]? = some x := by rfl) (hv : Vis X.env.scope x := by first | exact Or.inl rfl | exact Or.inr (Or.inl rfl) | exact Or.inr (Or.inr rfl)) (hd : (x == ("__debug__" : Str)) = false := by decide) (hcd : (x == ("__classdict__" : Str)) = false := by decide)
    (hm : behindInMarks op (.Name x p) = false := by first | exact nomark _ | rfl | with_unfolding_all rfl) : SimT X E (.Compare a [op] [.Name x p] pos) (mB (fCmpO g f1 i)) := by
  obtain ⟨rr, ho, hs⟩ := hc.ex
  obtain ⟨ta, p1, s1⟩ := h1.ex
  refine ⟨_, pt_cmpR ho p1 (pe_var hN hv hd hcd) hm, fun σ ρ S A H Q r q => ?_⟩
  refine run_bool (f1 := fCmpO g f1 i) (t := tOp _ ta _) (fun σ ρ S A H Q r q => ?_) r q
  unfold fCmpO at q
  refine s1 σ ρ S A H _ r ((Run.bind q).imp fun d ρ1 S1 A1 H1 q1 r1 v hv1 => ?_)
  split at q1
  · rename_i m em
    split at q1
    · rename_i d2 ed
      split at q1
      · rename_i b eb
        obtain ⟨A0, ro, nd, sb⟩ := r1.rep
        have rv : RepO X.K X.mg (cold S1 H1 A0) H1 σ (view ρ1) [] := ro.view r1.sub fun _ q => q
        have ev : (view ρ1)[i]? = some (some (.fz d2)) := by
          unfold view
          rw [List.getElem?_map, em]
          show some ((m.frz).map MD.fz) = _
          rw [ed]
          rfl
        obtain ⟨v2, B2, g1, g2⟩ := rv.at ev
        have cs : Sub S1 (cold S1 H1 A0) := fun x o h => by
          by_cases w : x ∈ A0
          · rw [(r1.off x (sb x w)).1] at h
            cases h
          · rw [cold_out w]
            exact h
        refine ⟨v2, g1, hs (cold S1 H1 A0) H1 _ v v2 d d2 (.bool b) (cold_sub r1.sub) (dp_mono cs hv1) g2.fz_of eb fun w S' H' n hw => ?_⟩
        have kp : ∀ x o, H1 x = some o → H' x = some o := n.hh
        have dm : ∀ x, H' x = none → H1 x = none := fun x h => by
          cases y : H1 x with
          | none => rfl
          | some o => rw [kp x o y] at h; cases h
        obtain ⟨rk, gk⟩ := rel_keep r1 kp dm
        cases hw
        exact q1 S1 A1 H' gk rk _ (.bl b)
      · exact q1.elim
    · exact q1.elim
  · exact q1.elim
end DR
end
section
/-! DR45: a list of objects: one is lent to a def, while the other arguments are made; a list of one object; all of a list -/
namespace DR
open PySem PySem.Spec PyProof.Rows L2
variable {K : PySem.W.Frag} {G : Str → Option Value} {S S' S1 H H' H1 : Hp} {A A' A1 B : List Addr} {E : XK} {σ σ0 σ1 : L2.St} {ρ : Sl} {X : Cx} {e e2 a b c : Expr} {es : List Expr} {pos : Pos} {f1 f2 : Sl → R PyData} {fs : Sl → R (List PyData)}
/-- a slot is set aside, and put back -/
theorem hide {i : Nat} {m : MD} (r : Rel K G S ρ A σ H) (e : ρ[i]? = some (some m)) :
    ∃ v B C, σ[i]? = some (some v) ∧ RepM K G S H v m B ∧ (∀ x ∈ B, x ∉ C) ∧ Rel K G S (ρ.set i none) C σ H ∧
      ∀ ρ1 S1 A1 H1, Grow S C H S1 A1 H1 → Rel K G S1 ρ1 A1 σ H1 → ρ1[i]? = some none → Rel K G S1 (ρ1.set i (some m)) (B ++ A1) σ H1 ∧ Grow S A H S1 (B ++ A1) H1 := by
  obtain ⟨A0, ro, nd, sb⟩ := r.rep
  obtain ⟨v, B, C, h1, h2, h3, pm⟩ := take1 ro e
  have ndBC : (B ++ C).Nodup := pm.nodup_iff.mp nd
  have nn := List.nodup_append.mp ndBC
  have inB : ∀ x ∈ B, x ∈ A := fun x h => sb x (pm.mem_iff.mpr (List.mem_append_left _ h))
  have inC : ∀ x ∈ C, x ∈ A := fun x h => sb x (pm.mem_iff.mpr (List.mem_append_right _ h))
  have dis : ∀ x ∈ B, x ∉ C := fun x h1 h2 => nn.2.2 x h1 x h2 rfl
  refine ⟨v, B, C, h1, h2, dis, ⟨r.sub, ⟨C, h3, nn.2.1, fun _ h => h⟩, fun x h => r.off x (inC x h)⟩, fun ρ1 S1 A1 H1 g r1 e1 => ?_⟩
  have hm := h2.mono g.ss (H' := H1) fun x hx o ho => g.fr x o ho (dis x hx)
  have offB : ∀ x ∈ B, S1 x = none ∧ H1 x ≠ none := fun x w => by
    have o1 := r.off x (inB x w)
    refine ⟨?_, fun u => o1.2 (g.dm x u)⟩
    cases y : S1 x with
    | none => rfl
    | some o =>
      rcases g.sn x (by rw [y]; intro u; cases u) with u | u | u
      · exact (u o1.1).elim
      · exact (o1.2 u).elim
      · exact (dis x w u).elim
  have disB : ∀ x ∈ B, x ∉ A1 := fun x w u => by
    rcases g.an x u with y | y
    · exact dis x w y
    · exact (r.off x (inB x w)).2 y
  obtain ⟨Ax, rox, ndx, sbx⟩ := r1.rep
  obtain ⟨A2, ro2, pm2⟩ := put1 rox e1 h1 hm
  refine ⟨⟨r1.sub, ⟨A2, ro2, pm2.nodup_iff.mpr (List.nodup_append.mpr ⟨nn.1, ndx, fun x hx y hy e => ?_⟩), fun x h => ?_⟩, fun x h => ?_⟩, ⟨g.ss, fun x h => (g.sn x h).imp id fun z => z.imp id (inC x), fun x o h n => g.fr x o h fun z => n (inC x z), fun x h => ?_, g.dm⟩⟩
  · subst e
    exact disB x hx (sbx x hy)
  · rcases List.mem_append.mp (pm2.mem_iff.mp h) with w | w
    · exact List.mem_append_left _ w
    · exact List.mem_append_right _ (sbx x w)
  · rcases List.mem_append.mp h with w | w
    · exact offB x w
    · exact r1.off x w
  · rcases List.mem_append.mp h with w | w
    · exact .inl (inB x w)
    · exact (g.an x w).imp (inC x) id
/-- a def's first argument is one of the list's objects; the others are made while the list is set aside -/
def mCallAt2 (F : FnSem) (i : Nat) (fk : Sl → R PyData) (fs : Sl → R (List PyData)) : Sl → R MD := fun ρ => match ρ[i]? with
  | some (some (.ml ms)) => match fk (ρ.set i none) with
    | .ok (.int k) ρ1 => match fs ρ1 with
      | .ok ds ρ2 => match ρ2[i]?, ixN ms.length k with
        | some none, some j => callAt F i j ds (ρ2.set i (some (.ml ms)))
        | _, _ => .bad
      | _ => .bad
    | _ => .bad
  | _ => .bad
theorem simM_callAt2 (i : Nat) {x f : Str} {p p1 p2 : Pos} {ix : Expr} {F : FnSem} {k j : Nat} (D : FnDef X.prog X.w X.K X.mg X.base f F k) (hr : Room j X.A) (hx : Passes (L2.CX X.prog X.w) X E) (hk : SimF X E ix f1) (h : SimA X E es fs) (hkj : k ≤ j := by decide) (hg : Gl X f := by rfl) (hdb : (f == ("__debug__" : Str)) = false := by decide)
    (hN : X.N[i]? = some x := by rfl) (hv : Vis X.env.scope x := by first | exact Or.inl rfl | exact Or.inr (Or.inl rfl) | exact Or.inr (Or.inr rfl)) (hd : (x == ("__debug__" : Str)) = false := by decide) (hcd : (x == ("__classdict__" : Str)) = false := by decide) (hp : PlainIx ix := by exact fun _ _ => rfl)
    (he : starEach (.Subscript (.Name x p1) ix p2 :: es) X.env = (false, eval (.Subscript (.Name x p1) ix p2) X.env) :: starEach es X.env := by rfl) (hpl : (backTo pos (starEach es X.env)).any (·.1) = false := by rfl) :
    SimM X E (.Call (.Name f p) (.Subscript (.Name x p1) ix p2 :: es) [] pos) (mCallAt2 F i f1 fs) := by
  obtain ⟨f, fd, ps, ok, hm, hkp, hb⟩ := D.ex
  obtain ⟨tk, pk, sk⟩ := hk.ex
  obtain ⟨ta, pa, sa⟩ := h.ex
  refine ⟨_, pe_call ok (hr.mono hkj) hg hm hkp hb .nil hx (pa_cons (pe_ix ix_list (pe_var hN hv hd hcd) pk hp) pa he) hdb he hpl, fun σ ρ S A H Q r q => ?_⟩
  unfold mCallAt2 at q
  split at q
  · rename_i ms em
    split at q
    · rename_i k ρ1 ek
      split at q
      · rename_i ds ρ2 es'
        split at q
        · rename_i j e2 ej
          obtain ⟨v0, B, C, h1, h2, dis, rH, back⟩ := hide r em
          cases h2 with
          | @ml l xs _ A1 ha hs =>
            have hl : xs.length = ms.length := by
              have z := (repO_of hs).len
              simpa using z
            have hj : j < ms.length := by
              unfold ixN at ej
              split at ej
              · split at ej
                · injection ej with ej
                  omega
                · cases ej
              · split at ej
                · injection ej with ej
                  omega
                · cases ej
            obtain ⟨m, hm'⟩ : ∃ m, ms[j]? = some m := ⟨_, List.getElem?_eq_getElem hj⟩
            obtain ⟨v, hv'⟩ : ∃ v, xs[j]? = some v := ⟨_, List.getElem?_eq_getElem (by rw [hl]; exact hj)⟩
            refine ⟨.ref l, h1, sk σ _ S C H _ rH ?_⟩
            rw [ek]
            intro S1 A1' H1 g1 r1 vk hvk
            cases hvk
            have hl1 : H1 l = some (.lst xs) := g1.fr l _ ha (dis l (List.mem_cons_self ..))
            refine ⟨l, xs, _, v, rfl, rfl, SqL.of hl1, ?_, ?_⟩
            · unfold atI
              rw [hl, ej]
              exact hv'
            · refine sa σ ρ1 S1 A1' H1 _ r1 ?_
              rw [es']
              intro S2 A2' H2 g2 r2 vs hvs
              have hl2 : H2 l = some (.lst xs) := (g1.trans g2).fr l _ ha (dis l (List.mem_cons_self ..))
              obtain ⟨rd, gd⟩ := back ρ2 S2 A2' H2 (g1.trans g2) r2 e2
              rw [List.append_nil]
              exact callAt_core rd (List.getElem?_set_self (List.getElem?_eq_some_iff.mp e2).1) hm' h1 hl2 hv' hvs (Run.start gd q)
        · exact q.elim
      · exact q.elim
    · exact q.elim
  · exact q.elim
@[simp] theorem mCallAt2_e (F : FnSem) (i : Nat) (fk : Sl → R PyData) (fs : Sl → R (List PyData)) (ρ : Sl) : mCallAt2 F i fk fs ρ = match ρ[i]? with
  | some (some (.ml ms)) => match fk (ρ.set i none) with
    | .ok (.int k) ρ1 => match fs ρ1 with
      | .ok ds ρ2 => match ρ2[i]?, ixN ms.length k with
        | some none, some j => callAt F i j ds (ρ2.set i (some (.ml ms)))
        | _, _ => .bad
      | _ => .bad
    | _ => .bad
  | _ => .bad := keep rfl
/-- [a()]: a list of one thing just made -/
def mLst1 (g1 : Sl → R MD) : Sl → R MD := fun ρ => (g1 ρ).bind fun m1 ρ1 => .ok (.ml [m1]) ρ1
theorem simM_lst1 {g1 : Sl → R MD} (h1 : SimM X E a g1) (he1 : starEach [a] X.env = (false, eval a X.env) :: starEach [] X.env := by rfl) : SimM X E (.List [a] pos) (mLst1 g1) := by
  obtain ⟨t1, p1, s1⟩ := h1.ex
  refine ⟨_, pe_lst (pa_cons p1 pa_nil he1), fun σ ρ S A H Q r q => ?_⟩
  unfold mLst1 at q
  refine s1 σ ρ S A H _ r ((Run.bind q).imp fun m1 ρ1 S1 A1 H1 q1 v1 r1 => ?_)
  refine ⟨by show [v1].length ≤ sizeLine; exact Nat.le_trans (show 1 ≤ 100 by decide) (by decide), fun l nl => ?_⟩
  obtain ⟨A0, ro, nd, sb⟩ := r1.rep
  cases ro with
  | @keep _ _ _ _ B1 C1 hm1 hr1 =>
    have kp : ∀ x o, H1 x = some o → upd H1 l (.lst [v1]) x = some o := fun x o h => by
      rw [upd_ne (fun w => by rw [w, nl] at h; cases h)]
      exact h
    have nlA : ∀ x, H1 x ≠ none → x ≠ l := fun x h w => h (by rw [w]; exact nl)
    have nS : S1 l = none := by
      cases w : S1 l with
      | none => rfl
      | some o => rw [r1.sub l o w] at nl; cases nl
    refine q1 S1 (l :: A1) (upd H1 l (.lst [v1])) ⟨Sub.refl _, fun _ h => .inl h, fun x o h _ => kp x o h, fun x h => ?_, fun x h => ?_⟩ (.ref l) ⟨fun x o h => kp x o (r1.sub x o h), ⟨(l :: (B1 ++ [])) ++ C1, .keep (.ml upd_same (.cons (hm1.mono (Sub.refl _) fun x _ o h => kp x o h) .nil)) (hr1.mono (Sub.refl _) fun x _ o h => kp x o h), ?_, fun x h => ?_⟩, fun x h => ?_⟩
    · rcases List.mem_cons.mp h with w | w
      · exact .inr (by rw [w]; exact nl)
      · exact .inl w
    · by_cases w : x = l
      · rw [w]; exact nl
      · rwa [upd_ne w] at h
    · rw [List.append_nil, List.cons_append]
      exact List.nodup_cons.mpr ⟨fun h => nlA l (r1.off l (sb l h)).2 rfl, nd⟩
    · rw [List.append_nil] at h
      rcases List.mem_cons.mp h with w | w
      · rw [w]; exact List.mem_cons_self ..
      · exact List.mem_cons_of_mem _ (sb x w)
    · rcases List.mem_cons.mp h with w | w
      · rw [w, upd_same]
        exact ⟨nS, fun u => by cases u⟩
      · rw [upd_ne (nlA x (r1.off x w).2)]
        exact r1.off x w
@[simp] theorem mLst1_e (g1 : Sl → R MD) (ρ : Sl) : mLst1 g1 ρ = (g1 ρ).bind fun m1 ρ1 => .ok (.ml [m1]) ρ1 := keep rfl
/-! all(x), x a list of flags -/
def blsOf : List PyData → Option (List Bool)
  | [] => some []
  | .bool b :: r => (blsOf r).map (b :: ·)
  | _ :: _ => none
theorem blsOf_map (l : List Bool) : blsOf (l.map .bool) = some l := by
  induction l with
  | nil => rfl
  | cons b r ih => show (blsOf (r.map .bool)).map (b :: ·) = _; rw [ih]; rfl
theorem fzA_bls : ∀ {ds : List PyData} {xs : List V} {bs : List Bool}, FzA K S xs ds → blsOf ds = some bs → xs = bs.map V.bl
  | [], _, _, .nil, e => by injection e with e; subst e; rfl
  | .bool b :: r, _, bs, .cons h hs, e => by
    have e : (blsOf r).map (b :: ·) = some bs := e
    cases z : blsOf r with
    | none => rw [z] at e; cases e
    | some l =>
      rw [z] at e
      injection e with e
      subst e
      cases h
      rw [fzA_bls hs z]
      rfl
def gAll : List PyData → Option PyData
  | [.list ds] => (blsOf ds).map fun bs => .bool (bs.all id)
  | _ => none
theorem callF_all {K : PySem.W.Frag} : CallF K (rAll K) gAll := fun S H Q xs as d s h e q => by
  unfold gAll at e
  split at e
  · rename_i ds
    obtain ⟨v, rfl, hv⟩ := fzA1 h
    cases z : blsOf ds with
    | none => rw [z] at e; cases e
    | some bs =>
      rw [z] at e
      injection e with e
      subst e
      cases hv with
      | @lst a xs _ hl hs => exact ⟨a, bs, rfl, by rw [← fzA_bls hs z]; exact SqL.of (s a _ hl), q _ S H (New.refl s) (.bl _)⟩
  · cases e
theorem simF_all {p : Pos} (hm : X.mg "all" = none) (h : SimF X E e f1) (hc : X.calm = true := by rfl) (hg : Gl X "all" := by rfl) (he : starEach [e] X.env = (false, eval e X.env) :: starEach [] X.env := by rfl) (hpl : (backTo pos (starEach [] X.env)).any (·.1) = false := by rfl) :
    SimF X E (.Call (.Name "all" p) [e] [] pos) (mCall gAll (mCons f1 mNil)) := simF_B (cr_all hc) callF_all hm (by decide +kernel) (simA_cons h simA_nil he) hg (by decide) (by decide) he hpl
end DR
end
section
/-! DR46: exceptions as values: made, their fields read, asked of what class they are -/
namespace L2
open PySem PySem.Spec PyProof.Rows
def tMkV (C : Addr) (sp : Sp) (dvs : List V) (ta : TA) : TE := fun σ H Q => ta σ H fun vs H1 => vs.length ≤ 1000 ∧ ∀ a, H1 a = none → sp (.ref a :: (vs ++ dvs)) (upd H1 a (exo a C none)) (fun v H2 => v = .non ∧ Q (.ref a) H2) (fun _ _ _ => False)
section
variable {X : Cx} {o e : Expr} {es : List Expr} {to te : TE} {ta : TA} {f : Str} {p p' p1 p2 pos : Pos}
theorem pe_oex {CX : CXT} {x : Str} {C fI : Addr} {k : Nat} {fd : FuncData} {ps : List Str} {sp : Sp} {ds : List Value} {dvs : List V} (T : OexC X.K C) (iC : PySem.W.findIn X.K (.ref C) "__init__" = some (some (.ref fI))) (tI : PySem.W.typeIn X.K (.ref fI) = some (.type "function"))
    (F1 : FnOk X.prog X.w X.K X.mg X.base CX k fI fd ps sp) (hr : Room (k + 1) X.A) (hb : Binds X.K fd ps ds) (hd : Vals dvs ds) (hx : Passes CX X (fun _ _ _ => False)) (hg : Gl X x) (hm : X.mg x = some (.ref C)) (ha : PA X (e :: es) ta)
    (hdb : (x == ("__debug__" : Str)) = false := by decide) (he : starEach (e :: es) X.env = (false, eval e X.env) :: starEach es X.env := by rfl) (hpl : (backTo pos (starEach es X.env)).any (·.1) = false := by rfl) :
    PE X (.Call (.Name x p) (e :: es) [] pos) (tMkV C sp dvs ta) := by
  refine ⟨fun pins s σ H Q I h => ?_⟩
  obtain ⟨nm, q, N, bs, bm, sn, sub, ab, col, dd, k0, k1, k2, k3, k5, hC, hbm⟩ := T.cls
  refine wpAny_Call_Name_kw (ld_glob I hg hm ?_ hdb)
  refine PySem.W.callWith_K (h₀ := X.base) I.ok.mod.kin T.kC (thn (ha.run pos pins s σ H _ I h) fun us s1 ⟨vs, H1, I1, r1, hz, q1⟩ => ⟨I1.kIn, ?_⟩) he hpl
  show wpAny _ _ (call (.ref C) us) _ _ _
  obtain ⟨hp, g, dr, tk, os⟩ := s1
  have hsz : hp.objs.size ≤ hp.objs.size + 1 := Nat.le_succ _
  have hn : H1 (hp.objs.size + 1) = none := I1.hok.fresh hsz
  have hq := q1 (hp.objs.size + 1) hn
  have kk : ∀ b o, hp.get? b = some o → ((hp.push (PySem.W.kdv_tup us)).push (PySem.HandSPX.excO C hp.objs.size)).get? b = some o := fun b o e => Heap.get?_push_of_some _ (Heap.get?_push_of_some _ e)
  have hget : ((hp.push (PySem.W.kdv_tup us)).push (PySem.HandSPX.excO C hp.objs.size)).get? (hp.objs.size + 1) = some (PySem.HandSPX.excO C hp.objs.size) := by heap_get
  have I2 : Inv X pins σ (upd H1 (hp.objs.size + 1) (exo (hp.objs.size + 1) C none)) ⟨(hp.push (PySem.W.kdv_tup us)).push (PySem.HandSPX.excO C hp.objs.size), g, dr, tk, os⟩ :=
    I1.laid (t' := tk) (a := hp.objs.size + 1) (o := exo (hp.objs.size + 1) C none) (h' := (hp.push (PySem.W.kdv_tup us)).push (PySem.HandSPX.excO C hp.objs.size)) kk hsz (exo_ok hget)
  have r2 : Vals (V.ref (hp.objs.size + 1) :: (vs ++ dvs)) (Value.ref (hp.objs.size + 1) :: (us ++ ds)) := .cons rfl (r1.append hd)
  have hl : (Value.ref (hp.objs.size + 1) :: us ++ ds).length = ps.length := by
    have e := r2.length
    rw [F1.len _ _ _ _ hq] at e
    exact e.symm
  have hus : us.length ≤ sizeLine := by
    rw [← Paired.length r1, sizeLine_eq]
    omega
  refine wpAny_call (PySem.HandSPX.call_own F.excBase_ValueError (fun Y => PySem.HandSPX.refsVE_contains Y bm hbm) (I1.kIn _ _ hC) (PySem.W.looks_findIn I1.kIn iC) (fun self => PySem.W.bind_fn I1.kIn self tI) hus
    (codeAny_mono (F1.run _ X.stack _ _ ⟨Value.ref (hp.objs.size + 1) :: us, []⟩ (Value.ref (hp.objs.size + 1) :: (us ++ ds)) _ _ (fun _ _ _ => False) (hr.make C us []) (I2.env0.make C us []) (hb _ (Value.ref (hp.objs.size + 1) :: us) I2.kIn hl) r2 hq) fun r s' hq' => ?_))
  cases r with
  | error er => exact hx pins σ _ _ er s' I2 hq'
  | ok fl =>
    cases fl with
    | ret u =>
      obtain ⟨v, H2, os2, bare2, un2, hok2, rv, ev, q2⟩ := hq'
      subst ev
      exact ⟨rv, .ref _, H2, I2.call' (ch := []) os2 un2 hok2 bare2 (fun b z => absurd z (by simp)), rfl, q2⟩
    | next => exact False.elim hq'
    | brk => exact False.elim hq'
    | cont => exact False.elim hq'
/-- e.f, e an exception of an own class -/
def tXv (K : PySem.W.Frag) (f : Str) (te : TE) : TE := fun σ H Q => te σ H fun x H1 => ∃ a C dx fs v, x = .ref a ∧ H1 a = some (exo a C (some dx)) ∧ H1 dx = some (exd dx fs) ∧ XfC K C ∧ PySem.W.findIn K (.ref C) f = some none ∧ fs.lookup f = some v ∧ Q v H1
theorem pe_xv {n : Str} (he : PE X e te) (hb : attributeBase e n X.env (eval e X.env) = eval e X.env := by rfl) : PE X (.Attribute e n pos) (tXv X.K n te) := by
  refine ⟨fun pins s σ H Q I h => ?_⟩
  refine attr_of hb (thn (he.run pins s σ H _ I h) fun u s1 hh => ?_)
  obtain ⟨x, H1, I1, rx, a, C, dx, fs, v, ex, ea, ed, T, hno, l, q⟩ := hh
  subst ex
  obtain rfl : u = Value.ref a := rx
  obtain ⟨t1, hget⟩ := exo_at I1.hok ea
  obtain ⟨mA, hns, hr⟩ := exd_at I1.hok ed
  obtain ⟨od, ho, hl⟩ := lookIn_ns hns
  obtain ⟨u, hu, ru⟩ := RelO.some_of (v := v) (o := mA n) (by rw [← l]; exact hr n)
  have J : PySem.W.InstAt s1.heap a { cls := .ref C, dict := some dx, data := .fields #[.ref t1, .none, .none, .none, .bool false, .none] } C (some od) := ⟨hget, rfl, rfl, ho⟩
  exact HandSPX.exc_get I1.kIn J T.ga T.gg T.exC (PySem.W.findObj_own T.hdC hno rfl (by rw [hl, hu])) (handed_of ru) ⟨v, H1, I1.tok _, ru, q⟩
def rIsV (K : PySem.W.Frag) : List V → Hp → VK → Prop := fun xs H Q => ∃ (D a dx : Addr) (fs : List (Str × V)) (c : V) (cv : Value) (b : Bool), xs = [.ref a, c] ∧ ExcC K D ∧ (∀ u, RelV c u → u = cv) ∧ PySem.W.kitOne K (.ref D) cv = some b ∧ H a = some (exo a D (some dx)) ∧ H dx = some (exd dx fs) ∧ Q (.bl b) H
theorem call_isV : CallR X (.builtin "isinstance") (rIsV X.K) := by
  intro pins s σ H xs us Q I r h
  obtain ⟨D, a, dx, fs, c, cv, b, rfl, C, hcv, e, ea, ed, q⟩ := h
  cases r with
  | cons rx rr =>
    cases rr with
    | cons rt rr =>
      cases rr
      cases rx
      have ec := hcv _ rt
      subst ec
      have hcl : (PySem.W.clsIn X.K D).isSome = true := by
        obtain ⟨cd, hc, _⟩ := PySem.W.any_some C.hd
        rw [hc]
        rfl
      obtain ⟨t1, hget⟩ := exo_at I.hok ea
      obtain ⟨mA, hns, hr⟩ := exd_at I.hok ed
      obtain ⟨od, ho, hl⟩ := lookIn_ns hns
      have J : PySem.W.InstAt s.heap a { cls := .ref D, dict := some dx, data := .fields #[.ref t1, .none, .none, .none, .bool false, .none] } D (some od) := ⟨hget, rfl, rfl, ho⟩
      exact PySem.W.kia_one (PySem.W.kitx_exc hcl C.hg C.hk C.hs C.ha C.hn C.ht C.hm) I.kIn J e (fun z => nomatch z) fun tk => ⟨.bl b, H, I.kept (t' := tk) fun _ _ z => z, rfl, q⟩
end
end L2
namespace DR
open PySem PySem.Spec PyProof.Rows L2
variable {K : PySem.W.Frag} {G : Str → Option Value} {S S' S1 H H' H1 : Hp} {A A' A1 B : List Addr} {E : XK} {σ σ0 σ1 : L2.St} {ρ : Sl} {X : Cx} {e e2 a b c : Expr} {es : List Expr} {pos : Pos} {f1 f2 : Sl → R PyData} {fs : Sl → R (List PyData)}
theorem fzA_app : ∀ {xs ys : List V} {ds es : List PyData}, FzA K S xs ds → FzA K S ys es → FzA K S (xs ++ ys) (ds ++ es)
  | _, _, _, _, .nil, h => h
  | _, _, _, _, .cons h hs, k => .cons h (fzA_app hs k)
theorem fzA_rev' : ∀ {xs : List V} {ds : List PyData}, FzA K S xs ds → FzA K S xs.reverse ds.reverse
  | _, _, .nil => .nil
  | _, _, .cons h hs => by
    rw [List.reverse_cons, List.reverse_cons]
    exact fzA_app (fzA_rev' hs) (.cons h .nil)
/-- x(..), an exception of an own class -/
def mMkX (x : Str) (ns : List Str) (fs : Sl → R (List PyData)) : Sl → R MD := fun ρ => (fs ρ).bind fun ds ρ => if ds.length = ns.length ∧ ds.length < 900 then .ok (.fx x (ns.zip ds).reverse) ρ else .bad
@[simp] theorem mMkX_e (x : Str) (ns : List Str) (fs : Sl → R (List PyData)) (ρ : Sl) : mMkX x ns fs ρ = (fs ρ).bind fun ds ρ => if ds.length = ns.length ∧ ds.length < 900 then .ok (.fx x (ns.zip ds).reverse) ρ else .bad := keep rfl
theorem simM_mkX {x : Str} {ns : List Str} {k j : Nat} {p : Pos} (Df : XMkDef X.prog X.w X.K X.mg X.base x ns k) (hr : Room j X.A) (h : SimA X E (e :: es) fs) (hk : k + 1 ≤ j := by decide) (hg : Gl X x := by rfl) (hdb : (x == ("__debug__" : Str)) = false := by decide)
    (he : starEach (e :: es) X.env = (false, eval e X.env) :: starEach es X.env := by rfl) (hpl : (backTo pos (starEach es X.env)).any (·.1) = false := by rfl) :
    SimM X E (.Call (.Name x p) (e :: es) [] pos) (mMkX x ns fs) := by
  obtain ⟨C, fI, fd, ps, gC, T, iC, tI, ok, hb⟩ := Df.ex
  obtain ⟨t, pa, sm⟩ := h.ex
  refine ⟨_, pe_oex T iC tI ok (hr.mono hk) hb .nil L2.passL hg gC pa hdb he hpl, fun σ ρ S A H Q r q => ?_⟩
  unfold mMkX at q
  refine sm σ ρ S A H _ r ((Run.bind q).imp fun ds ρ1 S1 A1 H1 q1 r1 vs hvs => ?_)
  have lv := dpA_len hvs
  by_cases hl : ds.length = ns.length ∧ ds.length < 900
  · rw [if_pos hl] at q1
    refine ⟨by omega, fun a ha => ?_⟩
    rw [List.append_nil]
    refine ⟨a, vs, rfl, by omega, upd_same, fun d hd da => ⟨rfl, ?_⟩⟩
    have hd1 : H1 d = none := by
      rw [upd_ne da] at hd
      exact hd
    have sa : S1 a = none := by
      cases z : S1 a with
      | none => rfl
      | some o => rw [r1.sub a o z] at ha; cases ha
    have sd : S1 d = none := by
      cases z : S1 d with
      | none => rfl
      | some o => rw [r1.sub d o z] at hd1; cases hd1
    obtain ⟨O, hO⟩ : ∃ O, O = exo a C (some d) := ⟨_, rfl⟩
    obtain ⟨L, hL⟩ : ∃ L, L = exd d (ns.zip vs).reverse := ⟨_, rfl⟩
    rw [← hO, ← hL]
    have e2 : upd (upd (upd H1 a (exo a C none)) a O) d L = upd (upd H1 a O) d L := by
      funext z
      by_cases hz : z = d
      · subst hz
        rw [upd_same, upd_same]
      · rw [upd_ne hz, upd_ne hz]
        by_cases hz2 : z = a
        · subst hz2
          rw [upd_same, upd_same]
        · rw [upd_ne hz2, upd_ne hz2, upd_ne hz2]
    rw [e2]
    have val : ∀ (T1 : Hp) (b : Addr), upd (upd T1 a O) d L b = if b = d then some L else if b = a then some O else T1 b := fun T1 b => by
      by_cases hz : b = d
      · subst hz
        rw [upd_same, if_pos rfl]
      · rw [upd_ne hz, if_neg hz]
        by_cases hz2 : b = a
        · subst hz2
          rw [upd_same, if_pos rfl]
        · rw [upd_ne hz2, if_neg hz2]
    have n : New S1 H1 (upd (upd S1 a O) d L) [] (upd (upd H1 a O) d L) := ⟨fun b o h => by
        rw [val, if_neg (fun z => by rw [z, sd] at h; cases h), if_neg (fun z => by rw [z, sa] at h; cases h)]
        exact h, fun b o h => by
        rw [val] at h ⊢
        by_cases hz : b = d
        · rw [if_pos hz] at h ⊢
          exact h
        · rw [if_neg hz] at h ⊢
          by_cases hz2 : b = a
          · rw [if_pos hz2] at h ⊢
            exact h
          · rw [if_neg hz2] at h ⊢
            exact r1.sub b o h, fun b o h => by
        rw [val, if_neg (fun z => by rw [z, hd1] at h; cases h), if_neg (fun z => by rw [z, ha] at h; cases h)]
        exact h, fun b h => by
        rw [val] at h
        by_cases hz : b = d
        · exact .inr (by rw [hz]; exact hd1)
        · rw [if_neg hz] at h
          by_cases hz2 : b = a
          · exact .inr (by rw [hz2]; exact ha)
          · rw [if_neg hz2] at h
            exact .inl h, fun b h => (by cases h), List.nodup_nil⟩
    refine q1 _ ([] ++ A1) _ n.grow (.ref a) (n.rel r1 (.fx (C := C) (dx := d) (fs := (ns.zip vs).reverse) ?_ ?_ gC ?_ ?_))
    · rw [val, if_neg (Ne.symm da), if_pos rfl, hO]
    · rw [val, if_pos rfl, hL]
    · rw [List.map_reverse, List.map_reverse, List.map_fst_zip (by omega), List.map_fst_zip (by omega)]
    · rw [List.map_reverse, List.map_reverse, List.map_snd_zip (by omega), List.map_snd_zip (by omega)]
      exact fzA_rev' (dpA_mono n.ss hvs)
  · rw [if_neg hl] at q1
    exact q1.elim
/-- a field of an exception -/
def mXf (c : Str) (i : Nat) (f : Str) : Sl → R PyData := fun ρ => match ρ[i]? with
  | some (some (.fx c' fs)) => if c' = c then (match fs.lookup f with
    | some d => .ok d ρ
    | none => .bad) else .bad
  | _ => .bad
@[simp] theorem mXf_e (c : Str) (i : Nat) (f : Str) (ρ : Sl) : mXf c i f ρ = match ρ[i]? with
  | some (some (.fx c' fs)) => if c' = c then (match fs.lookup f with
    | some d => .ok d ρ
    | none => .bad) else .bad
  | _ => .bad := keep rfl
theorem flds_lookup {f : Str} : ∀ {fs : List (Str × V)} {ds : List (Str × PyData)} {d : PyData}, fs.map (·.1) = ds.map (·.1) → FzA K S (fs.map (·.2)) (ds.map (·.2)) → ds.lookup f = some d → ∃ v, fs.lookup f = some v ∧ Fz K S v d
  | [], [], _, _, _, e => by simp at e
  | [], _ :: _, _, n, _, _ => by simp at n
  | _ :: _, [], _, n, _, _ => by simp at n
  | (g, v) :: fs, (g', d') :: ds, d, n, h, e => by
    simp only [List.map_cons, List.cons.injEq] at n
    obtain ⟨rfl, n⟩ := n
    cases h with
    | cons h hs =>
      by_cases q : f = g
      · subst q
        simp [List.lookup] at e
        subst e
        exact ⟨v, by simp [List.lookup], h⟩
      · have z : (f == g) = false := by simpa using q
        simp only [List.lookup, z] at e
        obtain ⟨w, k1, k2⟩ := flds_lookup n hs e
        exact ⟨w, by simp only [List.lookup, z]; exact k1, k2⟩
theorem fx_at {i : Nat} {c : Str} {ds : List (Str × PyData)} (r : Rel K G S ρ A σ H) (e : ρ[i]? = some (some (.fx c ds))) :
    ∃ a C dx fs, σ[i]? = some (some (.ref a)) ∧ H a = some (exo a C (some dx)) ∧ H dx = some (exd dx fs) ∧ G c = some (.ref C) ∧ fs.map (·.1) = ds.map (·.1) ∧ FzA K S (fs.map (·.2)) (ds.map (·.2)) := by
  obtain ⟨A0, ro, _, _⟩ := r.rep
  obtain ⟨v, B, C, h1, h2, _, _⟩ := take1 ro e
  cases h2 with
  | fx k1 k2 g n hs => exact ⟨_, _, _, _, h1, r.sub _ _ k1, r.sub _ _ k2, g, n, hs⟩
theorem simF_xf (i : Nat) {x f c : Str} {p : Pos} {ns : List Str} (df : XfDef X.K X.mg c ns) (m1 : f ∈ ns) (hN : X.N[i]? = some x := by rfl) (hv : Vis X.env.scope x := by first | exact Or.inl rfl | exact Or.inr (Or.inl rfl) | exact Or.inr (Or.inr rfl)) (hd : (x == ("__debug__" : Str)) = false := by decide) (hcd : (x == ("__classdict__" : Str)) = false := by decide)
    (hb1 : attributeBase (.Name x p) f X.env (eval (.Name x p) X.env) = eval (.Name x p) X.env := by rfl) : SimF X E (.Attribute (.Name x p) f pos) (mXf c i f) := by
  obtain ⟨C, gC, T, hno⟩ := df.ex
  refine ⟨_, pe_xv (pe_var hN hv hd hcd) hb1, fun σ ρ S A H Q r q => ?_⟩
  unfold mXf at q
  split at q
  · rename_i c' ds em
    by_cases hc : c' = c
    · rw [if_pos hc] at q
      subst hc
      split at q
      · rename_i d ed
        obtain ⟨a, C', dx, fs, h1, h2, h3, g, n, hs⟩ := fx_at r em
        rw [gC] at g
        injection g with g
        injection g with g
        subst g
        obtain ⟨v, l, hvd⟩ := flds_lookup n hs ed
        exact ⟨.ref a, h1, a, C, dx, fs, v, rfl, h2, h3, T, hno f m1, l, q S A H Grow.refl r v hvd⟩
      · exact q.elim
    · rw [if_neg hc] at q
      exact q.elim
  · exact q.elim
/-- isinstance(x, y), x an exception -/
def mIsX (i : Nat) (g : Str → Bool) : Sl → R PyData := fun ρ => match ρ[i]? with
  | some (some (.fx c _)) => if c ∈ kNames then .ok (.bool (g c)) ρ else .bad
  | _ => .bad
@[simp] theorem mIsX_e (i : Nat) (g : Str → Bool) (ρ : Sl) : mIsX i g ρ = match ρ[i]? with
  | some (some (.fx c _)) => if c ∈ kNames then .ok (.bool (g c)) ρ else .bad
  | _ => .bad := keep rfl
theorem simF_isx0 {te : TE} {y : V} {cv : Value} (i : Nat) {x : Str} {p p2 : Pos} {ec : Expr} (g : Str → Bool) (kk : Kinds X.K X.mg) (zi : X.mg "isinstance" = none) (pc : PE X ec te) (hc : ∀ σ H (Q : VK), Q y H → te σ H Q) (ry : ∀ u, RelV y u → u = cv)
    (hk : ∀ c D, Kind X.K X.mg c D → PySem.W.kitOne X.K (.ref D) cv = some (g c))
    (hN : X.N[i]? = some x := by rfl) (hv : Vis X.env.scope x := by first | exact Or.inl rfl | exact Or.inr (Or.inl rfl) | exact Or.inr (Or.inr rfl)) (hd : (x == ("__debug__" : Str)) = false := by decide) (hcd : (x == ("__classdict__" : Str)) = false := by decide) (hgi : Gl X "isinstance" := by rfl)
    (he2 : starEach [.Name x p2, ec] X.env = (false, eval (.Name x p2) X.env) :: starEach [ec] X.env := by rfl) (he3 : starEach [ec] X.env = (false, eval ec X.env) :: starEach [] X.env := by rfl) (hpl : (backTo pos (starEach [ec] X.env)).any (·.1) = false := by rfl) :
    SimF X E (.Call (.Name "isinstance" p) [.Name x p2, ec] [] pos) (mIsX i g) := by
  refine ⟨_, pe_callB call_isV hgi zi (by decide +kernel) (pa_cons (pe_var hN hv hd hcd) (pa_cons pc pa_nil he3) he2) (by decide) (by decide) he2 hpl, fun σ ρ S A H Q r q => ?_⟩
  unfold mIsX at q
  split at q
  · rename_i c ds em
    by_cases hc' : c ∈ kNames
    · rw [if_pos hc'] at q
      obtain ⟨a, C', dx, fs, h1, h2, h3, g', n, hs⟩ := fx_at r em
      obtain ⟨D, hD, kd⟩ := kk.at_ hc'
      rw [hD] at g'
      injection g' with g'
      injection g' with g'
      subst g'
      refine ⟨.ref a, h1, hc σ H _ ?_⟩
      exact ⟨D, a, dx, fs, y, cv, _, rfl, kd.exc, ry, hk c D kd, h2, h3, q S A H Grow.refl r _ (.bl _)⟩
    · rw [if_neg hc'] at q
      exact q.elim
  · exact q.elim
section
variable {x y : Str} {p p2 p3 : Pos}
theorem simF_isx (i : Nat) (kk : Kinds X.K X.mg) (hy : y ∈ kNames) (zi : X.mg "isinstance" = none) (hg : Gl X y := by rfl) (hdb : (y == ("__debug__" : Str)) = false := by decide)
    (hN : X.N[i]? = some x := by rfl) (hv : Vis X.env.scope x := by first | exact Or.inl rfl | exact Or.inr (Or.inl rfl) | exact Or.inr (Or.inr rfl)) (hd : (x == ("__debug__" : Str)) = false := by decide) (hcd : (x == ("__classdict__" : Str)) = false := by decide) (hgi : Gl X "isinstance" := by rfl)
    (he2 : starEach [.Name x p2, .Name y p3] X.env = (false, eval (.Name x p2) X.env) :: starEach [.Name y p3] X.env := by rfl) (he3 : starEach [.Name y p3] X.env = (false, eval (.Name y p3) X.env) :: starEach [] X.env := by rfl) (hpl : (backTo pos (starEach [.Name y p3] X.env)).any (·.1) = false := by rfl) :
    SimF X E (.Call (.Name "isinstance" p) [.Name x p2, .Name y p3] [] pos) (mIsX i fun c => decide (c = y)) := by
  obtain ⟨C, gC⟩ := kk.name hy
  exact simF_isx0 (y := V.ref C) (cv := .ref C) i _ kk zi (pe_glob (v := V.ref C) hg gC rfl hdb) (fun σ H Q q => q) (fun u hu => hu) (fun c D kd => by
    obtain ⟨C2, g2, k1, _⟩ := kd.one y hy
    rw [gC] at g2
    injection g2 with g2
    injection g2 with g2
    rw [g2]
    exact k1) hN hv hd hcd hgi he2 he3 hpl
theorem simF_isxVE (i : Nat) (kk : Kinds X.K X.mg) (zi : X.mg "isinstance" = none) (zv : X.mg "ValueError" = none) (hg : Gl X "ValueError" := by rfl)
    (hN : X.N[i]? = some x := by rfl) (hv : Vis X.env.scope x := by first | exact Or.inl rfl | exact Or.inr (Or.inl rfl) | exact Or.inr (Or.inr rfl)) (hd : (x == ("__debug__" : Str)) = false := by decide) (hcd : (x == ("__classdict__" : Str)) = false := by decide) (hgi : Gl X "isinstance" := by rfl)
    (he2 : starEach [.Name x p2, .Name "ValueError" p3] X.env = (false, eval (.Name x p2) X.env) :: starEach [.Name "ValueError" p3] X.env := by rfl) (he3 : starEach [.Name "ValueError" p3] X.env = (false, eval (.Name "ValueError" p3) X.env) :: starEach [] X.env := by rfl) (hpl : (backTo pos (starEach [.Name "ValueError" p3] X.env)).any (·.1) = false := by rfl) :
    SimF X E (.Call (.Name "isinstance" p) [.Name x p2, .Name "ValueError" p3] [] pos) (mIsX i fun _ => true) :=
  simF_isx0 (y := V.ty "ValueError") (cv := .type "ValueError") i _ kk zi (pe_bltn (v := .ty "ValueError") hg zv (by decide +kernel) rfl (by decide) (by decide)) (fun σ H Q q => q) (fun u hu => hu) (fun c D kd => kd.ve) hN hv hd hcd hgi he2 he3 hpl
theorem simF_isxR (i : Nat) (kk : Kinds X.K X.mg) (zi : X.mg "isinstance" = none) (hg : Gl X "RollError" := by rfl)
    (hN : X.N[i]? = some x := by rfl) (hv : Vis X.env.scope x := by first | exact Or.inl rfl | exact Or.inr (Or.inl rfl) | exact Or.inr (Or.inr rfl)) (hd : (x == ("__debug__" : Str)) = false := by decide) (hcd : (x == ("__classdict__" : Str)) = false := by decide) (hgi : Gl X "isinstance" := by rfl)
    (he2 : starEach [.Name x p2, .Name "RollError" p3] X.env = (false, eval (.Name x p2) X.env) :: starEach [.Name "RollError" p3] X.env := by rfl) (he3 : starEach [.Name "RollError" p3] X.env = (false, eval (.Name "RollError" p3) X.env) :: starEach [] X.env := by rfl) (hpl : (backTo pos (starEach [.Name "RollError" p3] X.env)).any (·.1) = false := by rfl) :
    SimF X E (.Call (.Name "isinstance" p) [.Name x p2, .Name "RollError" p3] [] pos) (mIsX i fun _ => true) := by
  obtain ⟨C, gC⟩ := kk.root0
  exact simF_isx0 (y := V.ref C) (cv := .ref C) i _ kk zi (pe_glob (v := V.ref C) hg gC rfl (by decide)) (fun σ H Q q => q) (fun u hu => hu) (fun c D kd => by
    obtain ⟨C2, g2, k1⟩ := kd.root
    rw [gC] at g2
    injection g2 with g2
    injection g2 with g2
    rw [← g2] at k1
    unfold PySem.W.exmOne at k1
    unfold PySem.W.kitOne
    split at k1
    · split
      · rfl
      · exact k1
    · cases k1) hN hv hd hcd hgi he2 he3 hpl
end
@[simp] theorem ownArgs_fx (W : List Nat) (n : Nat) (c : Str) (fs : List (Str × PyData)) (ms : List MD) (m : MD) (ρ : Sl) : ownArgs W n (.fx c fs :: ms) (some m :: ρ) = if n ∈ W then (ownArgs W (n + 1) ms ρ).map (.gone :: ·) else (ownArgs W (n + 1) ms ρ).map (m :: ·) := keep rfl
end DR
end
section
/-! HX: the head by one run of the kernel, its facts told by names (a Hook of one truth and the defs). -/
namespace DR
open PySem PySem.Spec PyProof.Rows L2
/-! a part of the heap: the first n addresses -/
theorem frR_ge {g : Addr → Option Obj} {a : Addr} : ∀ {as : List Addr}, a ∉ as → (He.frG g as).lookup a = none
  | [], _ => rfl
  | b :: r, h => by
    have ne : (a == b) = false := by
      cases q : (a == b) with
      | false => rfl
      | true => exact absurd (List.mem_cons.mpr (.inl (beq_iff_eq.mp q))) h
    have ih := frR_ge (g := g) (as := r) fun q => h (List.mem_cons_of_mem _ q)
    unfold He.frG at ih ⊢
    rw [List.filterMap_cons]
    cases g b with
    | none => exact ih
    | some o =>
      show ((b, o) :: List.filterMap (fun a => (g a).map fun o => (a, o)) r).lookup a = none
      rw [List.lookup_cons, ne]
      exact ih
theorem frR_at {g : Addr → Option Obj} {a : Addr} {o : Obj} (ha : g a = some o) : ∀ {as : List Addr}, a ∈ as → (He.frG g as).lookup a = some o
  | [], h => by cases h
  | b :: r, h => by
    unfold He.frG
    rw [List.filterMap_cons]
    cases q : (a == b) with
    | true =>
      rw [← beq_iff_eq.mp q, ha]
      show ((a, o) :: List.filterMap (fun a => (g a).map fun o => (a, o)) r).lookup a = some o
      rw [List.lookup_cons, beq_self_eq_true]
    | false =>
      have h2 : a ∈ r := by
        rcases List.mem_cons.mp h with e | e
        · rw [e, beq_self_eq_true] at q
          cases q
        · exact e
      have ih := frR_at ha (as := r) h2
      unfold He.frG at ih
      cases g b with
      | none => exact ih
      | some o' =>
        show ((b, o') :: List.filterMap (fun a => (g a).map fun o => (a, o)) r).lookup a = some o
        rw [List.lookup_cons, q]
        exact ih
abbrev HGet : Type := Addr → Option Obj
def frR (g : HGet) (n : Nat) : PySem.W.Frag := He.frG g (List.range n)
theorem frR_some {g : HGet} {n : Nat} {a : Addr} {o : Obj} (h : g a = some o) (hn : Nat.blt a n = true) : (frR g n).lookup a = some o := frR_at h (List.mem_range.mpr (Nat.le_of_ble_eq_true hn))
abbrev HFact : Type := PySem.W.Frag → Bool
/-- a def, read off the heap -/
def fnG (g : HGet) (a : Addr) : He.FnW := match g a with
  | some ⟨_, _, .func fd, _⟩ => some (fd.name, fd.qualname, fd.params, fd.body, fd.scope, fd.globals, fd.closure, fd.builtins)
  | _ => none
def isNon : Value → Bool
  | .none => true
  | _ => false
def codeG (g : HGet) (n : Nat) (cd : Value) (q : Str) : Bool := match cd with
  | .ref c => Nat.blt c n && (match g c with
    | some ⟨_, _, .fields vs, _⟩ => (match vs.toList with
      | _ :: .str m _ :: _ => m == q
      | _ => false)
    | _ => false)
  | _ => false
def okG (g : HGet) (n : Nat) (a : Addr) (q : Str) : Bool := Nat.blt a n && (match g a with
  | some ⟨_, _, .func fd, _⟩ => codeG g n fd.code q && isNon fd.defaults
  | _ => false)
abbrev HxAl : Type := Bool × List (List He.FnW)
def hxObs (n : Nat) (fs : List (List HFact)) (fn : List (List He.DefD)) (g : HGet) : HxAl :=
  ((fs.all fun l => l.all fun f => f (frR g n)) && fn.all fun l => l.all fun d => okG g n (He.fAd (frR g n) d.at_) d.qual, fn.map fun l => l.map fun d => fnG g (He.fAd (frR g n) d.at_))
def hxVal (fn : List (List He.DefD)) : HxAl := (true, fn.map fun l => l.map He.DefD.val)
def hxSays (n : Nat) (fs : List (List HFact)) (fn : List (List He.DefD)) (K : PySem.W.Frag) : Prop := ∃ g, K = frR g n ∧ hxObs n fs fn g = hxVal fn
def hookX (n : Nat) (fs : List (List HFact)) (fn : List (List He.DefD)) : PySem.W.Hook where
  α := HxAl
  obs := fun s => hxObs n fs fn s.heap.get?
  val := fun _ => hxVal fn
  says := fun _ h => ∃ K : PySem.W.Frag, K.In h ∧ hxSays n fs fn K
  of := fun _ s e => ⟨_, He.frG_in, s.heap.get?, rfl, e⟩
  keeps := fun _ _ _ ⟨K, hK, c⟩ k => ⟨K, PySem.W.Frag.In.keeps hK k, c⟩
def hxOb (n : Nat) (fs : List (List HFact)) (fn : List (List He.DefD)) (s : PySem.W.SharedT) : HxAl := hxObs n fs fn (HandSHeadRun.getT s)
theorem hxOb_eq {n : Nat} {fs : List (List HFact)} {fn : List (List He.DefD)} (s : PySem.W.SharedT) : hxOb n fs fn s = (hookX n fs fn).obs s.abs := by
  have e : HandSHeadRun.getT s = s.abs.heap.get? := funext (HandSHeadRun.getT_eq s)
  unfold hxOb
  rw [e] <;> rfl
section
variable {n : Nat} {fs : List (List HFact)} {fn : List (List He.DefD)} {K : PySem.W.Frag}
theorem hx_fact (c : hxSays n fs fn K) (i j : Nat) {l : List HFact} {f : HFact} (h1 : fs[i]? = some l := by rfl) (h2 : l[j]? = some f := by rfl) : f K = true := by
  obtain ⟨g, rfl, c⟩ := c
  have c1 := (He.ba (show ((fs.all fun l => l.all fun f => f (frR g n)) && fn.all fun l => l.all fun d => okG g n (He.fAd (frR g n) d.at_) d.qual) = true from congrArg (fun z : HxAl => z.1) c)).1
  exact List.all_eq_true.mp (List.all_eq_true.mp c1 l (List.mem_of_getElem? h1)) f (List.mem_of_getElem? h2)
theorem hx_def (c : hxSays n fs fn K) (i j : Nat) {l : List He.DefD} {d : He.DefD} (h1 : fn[i]? = some l) (h2 : l[j]? = some d) :
    ∃ oc od osl kV doc pm an cdv ct, K.lookup (He.fAd K d.at_) = some ⟨oc, od, .func (PySem.W.fnOf d.name d.qual d.params d.body d.scope .none kV doc pm an cdv ct), osl⟩ ∧ PySem.W.codeIn K cdv d.qual = true ∧ PySem.W.keepIn K (.ref (He.fAd K d.at_)) = true := by
  obtain ⟨g, rfl, c⟩ := c
  have c2 := (He.ba (show ((fs.all fun l => l.all fun f => f (frR g n)) && fn.all fun l => l.all fun d => okG g n (He.fAd (frR g n) d.at_) d.qual) = true from congrArg (fun z : HxAl => z.1) c)).2
  have ok := List.all_eq_true.mp (List.all_eq_true.mp c2 l (List.mem_of_getElem? h1)) d (List.mem_of_getElem? h2)
  have e : (fn.map fun l => l.map fun d => fnG g (He.fAd (frR g n) d.at_)) = fn.map fun l => l.map He.DefD.val := congrArg (fun z : HxAl => z.2) c
  have e1 : (fn.map fun l => l.map fun d => fnG g (He.fAd (frR g n) d.at_))[i]? = (fn.map fun l => l.map He.DefD.val)[i]? := by rw [e]
  rw [List.getElem?_map, List.getElem?_map, h1] at e1
  have e1 : (l.map fun d => fnG g (He.fAd (frR g n) d.at_)) = l.map He.DefD.val := Option.some.inj e1
  have e2 : (l.map fun d => fnG g (He.fAd (frR g n) d.at_))[j]? = (l.map He.DefD.val)[j]? := by rw [e1]
  rw [List.getElem?_map, List.getElem?_map, h2] at e2
  have e3 : fnG g (He.fAd (frR g n) d.at_) = d.val := Option.some.inj e2
  obtain ⟨q1, q2⟩ := He.ba (show (Nat.blt (He.fAd (frR g n) d.at_) n && (match g (He.fAd (frR g n) d.at_) with
    | some ⟨_, _, .func fd, _⟩ => codeG g n fd.code d.qual && isNon fd.defaults
    | _ => false)) = true from ok)
  unfold fnG at e3
  cases q : g (He.fAd (frR g n) d.at_) with
  | none =>
    rw [q] at q2
    cases q2
  | some o =>
    have lk := frR_some q q1
    obtain ⟨oc, od, dt, osl⟩ := o
    rw [q] at q2 e3
    cases dt with
    | func fd =>
      obtain ⟨n1, n2, n3, n4, n5, n6, n7, n8, n9, n10, n11, n12, n13, n14, n15⟩ := fd
      have e4 : (some (n1, n2, n3, n4, n5, n6, n7, n15) : He.FnW) = some (d.name, d.qual, d.params, .stmts d.body, d.scope, mainGlobals, [], builtinsNs) := e3
      simp only [Option.some.injEq, Prod.mk.injEq] at e4
      obtain ⟨x1, x2, x3, x4, x5, x6, x7, x8⟩ := e4
      subst x1 x2 x3 x4 x5 x6 x7 x8
      obtain ⟨k1, k2⟩ := He.ba (show (codeG g n n13 d.qual && isNon n8) = true from q2)
      have ez : n8 = .none := by
        cases n8 with
        | none => rfl
        | _ => cases k2
      subst ez
      refine ⟨oc, od, osl, n9, n10, n11, n12, n13, n14, lk, ?_, ?_⟩
      · cases n13 with
        | ref cc =>
          obtain ⟨j1, j2⟩ := He.ba (show (Nat.blt cc n && (match g cc with
            | some ⟨_, _, .fields vs, _⟩ => (match vs.toList with
              | _ :: .str m _ :: _ => m == d.qual
              | _ => false)
            | _ => false)) = true from k1)
          show (match (frR g n).lookup cc with
            | some ⟨_, _, .fields vs, _⟩ => (match vs.toList with
              | _ :: .str m _ :: _ => m == d.qual
              | _ => false)
            | _ => false) = true
          cases z : g cc with
          | none =>
            rw [z] at j2
            cases j2
          | some o2 =>
            rw [frR_some z j1]
            rw [z] at j2
            exact j2
        | _ => cases k1
      · show (match (frR g n).lookup (He.fAd (frR g n) d.at_) with
          | some ⟨_, _, .func _, _⟩ => true
          | some ⟨_, _, .cls _, _⟩ => PySem.W.specialIn (frR g n) (.ref (He.fAd (frR g n) d.at_)) "__call__" == some (some (.builtin "type.__call__"))
          | _ => false) = true
        rw [lk]
    | _ => cases q2
end
def dG (x : Str) (st : Stmt) : He.DefD := ⟨(x, none), x, x, defArgs st, defBody st, defScope st, [], []⟩
def dM (c m q : Str) (st : Stmt) : He.DefD := ⟨(c, some m), m, q, defArgs st, defBody st, defScope st, [], []⟩
section
variable {n : Nat} {fs : List (List HFact)} {fn : List (List He.DefD)} {K : PySem.W.Frag}
theorem hx_dG (c : hxSays n fs fn K) (i j : Nat) {x : Str} {st : Stmt} {l : List He.DefD} (h1 : fn[i]? = some l := by rfl) (h2 : l[j]? = some (dG x st) := by rfl) : ∃ fd, Fun K x x st (He.ga K x) fd := by
  obtain ⟨oc, od, osl, kV, doc, pm, an, cdv, ct, lk, hcd, kp⟩ := hx_def c i j h1 h2
  exact ⟨_, ⟨oc, od, kV, doc, pm, an, cdv, ct, osl, rfl, lk, hcd⟩, kp⟩
theorem hx_dM (c : hxSays n fs fn K) (i j : Nat) {x m q : Str} {st : Stmt} {l : List He.DefD} (h1 : fn[i]? = some l := by rfl) (h2 : l[j]? = some (dM x m q st) := by rfl) : ∃ fd, Fun K m q st (He.ma K (He.ga K x) m) fd := by
  obtain ⟨oc, od, osl, kV, doc, pm, an, cdv, ct, lk, hcd, kp⟩ := hx_def c i j h1 h2
  exact ⟨_, ⟨oc, od, kV, doc, pm, an, cdv, ct, osl, rfl, lk, hcd⟩, kp⟩
end
/-! ### single facts -/
def hGlo (x : Str) : HFact := fun K => He.eqO (PySem.W.nsIn K mainGlobals x) (some (some (.ref (He.ga K x))))
def hFree (x : Str) : HFact := fun K => He.eqO (PySem.W.nsIn K mainGlobals x) (some none)
def hInt (x : Str) (i : Int) : HFact := fun K => (He.Fa.int x i).ok K
def hAlias (x y : Str) : HFact := fun K => He.eqO (PySem.W.nsIn K mainGlobals x) (some (some (.ref (He.ga K y))))
def hStrs (x : Str) (vs : List Str) : HFact := fun K => He.tupB K x (vs.map .str)
def hCls (x : Str) : HFact := fun K => (He.Fa.cls x).ok K
def hMkr (x : Str) : HFact := fun K => PySem.W.makesIn K (He.ga K x) && PySem.W.keepIn K (.ref (He.ga K x))
def hNoat (x f : Str) : HFact := fun K => He.eqO (PySem.W.findIn K (.ref (He.ga K x)) f) (some none)
def hMeth (x m : Str) : HFact := fun K => He.eqO (PySem.W.findIn K (.ref (He.ga K x)) m) (some (some (.ref (He.ma K (He.ga K x) m)))) && PySem.W.isFn K (.ref (He.ma K (He.ga K x) m))
section
variable {K : PySem.W.Frag} {h : Heap} {mg : Str → Option Value}
theorem hGlo_ok {x : Str} (c : hGlo x K = true) : PySem.W.nsIn K mainGlobals x = some (some (.ref (He.ga K x))) := He.eqO_ok c
theorem hFree_ok {x : Str} (c : hFree x K = true) : PySem.W.nsIn K mainGlobals x = some none := He.eqO_ok c
theorem hAlias_ok {x y : Str} (c : hAlias x y K = true) : PySem.W.nsIn K mainGlobals x = some (some (.ref (He.ga K y))) := He.eqO_ok c
theorem hInt_ok {x : Str} {i : Int} (X : K.In h) (G : h.Ns mainGlobals mg) (c : hInt x i K = true) : Glob K mg x (.int i) := by
  obtain ⟨t, e⟩ := He.int_ok X G c
  exact glob_int e
theorem hStrs_ok {x : Str} {ss : List Str} (X : K.In h) (G : h.Ns mainGlobals mg) (c1 : hGlo x K = true) (c : hStrs x ss K = true) : Glob K mg x (.tuple (ss.map PyData.str)) := by
  refine ⟨_, .ref (He.ga K x), PySem.W.mg_of X G (He.eqO_ok c1), rfl, fun S => .tup (xs := ss.map V.str) ?_ ?_⟩
  · have := He.tupB_ok (H := S) c
    rw [List.map_map] at this
    exact this
  · clear c
    induction ss with
    | nil => exact .nil
    | cons s r ih => exact .cons (.str s) ih
theorem hCls_ok {x : Str} (c : hCls x K = true) : Cls K (He.ga K x) := He.cls_ok c
theorem hMkr_ok {x : Str} (c : hMkr x K = true) : PySem.W.makesIn K (He.ga K x) = true ∧ PySem.W.keepIn K (.ref (He.ga K x)) = true := He.ba c
theorem hNoat_ok {x f : Str} (c : hNoat x f K = true) : PySem.W.findIn K (.ref (He.ga K x)) f = some none := He.eqO_ok c
theorem hMeth_ok {x m : Str} (c : hMeth x m K = true) : PySem.W.findIn K (.ref (He.ga K x)) m = some (some (.ref (He.ma K (He.ga K x) m))) ∧ PySem.W.isFn K (.ref (He.ma K (He.ga K x) m)) = true := by
  obtain ⟨a, b⟩ := He.ba c
  exact ⟨He.eqO_ok a, b⟩
end
/-! ### the kinds of refusals -/
def hKinds : HFact := fun K => hGlo "RollError" K && (kNames.all (fun x => hGlo x K) && (decide (kNames.map (He.ga K)).Nodup && (kNames.map (He.ga K)).all (kind1B K (He.ga K "RollError") (kNames.map (He.ga K)))))
theorem paired_map {α β : Type} {R : α → β → Prop} {f : α → β} : ∀ {xs : List α}, (∀ x ∈ xs, R x (f x)) → Paired R xs (xs.map f)
  | [], _ => .nil
  | x :: xs, h => .cons (h x (List.mem_cons_self ..)) (paired_map fun y hy => h y (List.mem_cons_of_mem _ hy))
theorem hKinds_ok {K : PySem.W.Frag} {h : Heap} {mg : Str → Option Value} (X : K.In h) (G : h.Ns mainGlobals mg) (c : hKinds K = true) : Kinds K mg := by
  obtain ⟨c1, c⟩ := He.ba c
  obtain ⟨c2, c⟩ := He.ba c
  obtain ⟨c3, c4⟩ := He.ba c
  exact ⟨He.ga K "RollError", kNames.map (He.ga K), PySem.W.mg_of X G (hGlo_ok c1), paired_map fun x hx => PySem.W.mg_of X G (hGlo_ok (List.all_eq_true.mp c2 x hx)), of_decide_eq_true c3, c4⟩
def hX (x : Str) : HFact := fun K => hGlo x K && xcB K (He.ga K x)
theorem hX_ok {K : PySem.W.Frag} {h : Heap} {mg : Str → Option Value} (X : K.In h) (G : h.Ns mainGlobals mg) {x : Str} (c : hX x K = true) : XCls K mg x := by
  obtain ⟨c1, c2⟩ := He.ba c
  exact ⟨He.ga K x, PySem.W.mg_of X G (hGlo_ok c1), c2⟩
def hOex (x : Str) : HFact := fun K => hGlo x K && (oexB K (He.ga K x) && hMeth x "__init__" K)
def hXf (x : Str) : HFact := fun K => hGlo x K && xfB K (He.ga K x)
theorem hOex_ok {K : PySem.W.Frag} {x : Str} (c : hOex x K = true) : PySem.W.nsIn K mainGlobals x = some (some (.ref (He.ga K x))) ∧ oexB K (He.ga K x) = true ∧ PySem.W.findIn K (.ref (He.ga K x)) "__init__" = some (some (.ref (He.ma K (He.ga K x) "__init__"))) ∧ PySem.W.isFn K (.ref (He.ma K (He.ga K x) "__init__")) = true := by
  obtain ⟨c1, c⟩ := He.ba c
  obtain ⟨c2, c3⟩ := He.ba c
  exact ⟨hGlo_ok c1, c2, hMeth_ok c3⟩
theorem hx_binds {K : PySem.W.Frag} {x qual : Str} {ps : List Str} {st : Stmt} {f : Addr} {fd : FuncData} (F : Fun K x qual st f fd)
    (h : ∀ (kV doc pm : Value) (an : Option Addr) (cdv ct : Value) (us : List Value), us.length = ps.length → bindArgs (PySem.W.fnOf x qual (defArgs st) (defBody st) (defScope st) .none kV doc pm an cdv ct) ⟨us, []⟩ = pure (ps.zip us)) (s : Shared) (us : List Value) (hl : us.length = ps.length) : BindsTo s fd ⟨us, []⟩ (ps.zip us) := by
  obtain ⟨oc, od, kV, doc, pm, an, cdv, ct, osl, rfl, lk, hcd⟩ := F.ex
  exact .of_eq (h kV doc pm an cdv ct us hl)
/-- a law's end over such a head -/
theorem walk_ofX {l : PySem.W.OpenLaw} {n k : Nat} {q : Program} {loose : List Str} {XP : (Str → Option Value) → Heap → Prop} {YP : World → Heap → Prop} {d : DefRec} {CX : World → CXT} {x : Str}
    (hn : l.most = some n) (hn2 : n ≤ sizeLine) (hdf : d.params.defaults = []) (hr : Room k callerA)
    (F : ∀ (w : World) (mg : Str → Option Value) (fa : Addr) (h : Heap), YP w h → h.Ns mainGlobals mg → mg d.name = some (.ref fa) →
      ∃ (K : PySem.W.Frag) (fd : FuncData) (sp : Sp), K.In h ∧ (∀ (s : Shared) (u : Value), BindsTo s fd ⟨[u], []⟩ [(x, u)]) ∧
        (∀ (H : Hp) (a : Addr) (ns : List Int), ns.length ≤ n → Only H → SqL K H a (ns.map V.int) → sp [.ref a] H (fun v _ => v = .bl true) fun _ _ _ => False) ∧
        ∀ base : Heap, K.In base → base.Ns mainGlobals mg → FnOk l.prog w K mg base (CX w) k fa fd [x] sp)
    (hCX : ∀ (w : World) (H : Hp) (s : Shared) (e : Value) (s' : Shared), CX w [] H s (fun _ _ _ => False) e s' → False) :
    PySem.W.WalkO q loose XP YP l.row.toRowW d [] (fun f vs => PySem.call f vs) := by
  refine Att.attach_call hn hdf fun w s₀ s₁ mg mb fa o pm cd doc a vs ns G Y ho hd hcd hmg hobj hints hlen hg => ?_
  obtain ⟨K, fd, sp, KX, hb, hsp, hF⟩ := F w mg fa _ Y G.T.g hmg
  exact law_call KX G.T.g G.T.b G.T.builtins G.T.nolimit hg hobj hints (Nat.le_trans hlen hn2) hr hF hb (fun H hO hS => hsp H a ns hlen hO hS) fun H e s' => hCX w H s₁ e s'
end DR
end
section
namespace DR
open PySem PySem.Spec PyProof.Rows L2
def hxS (i : Nat) : Stmt := PySem.Challenge.pw_doomroll_k53_refusals_made.main.body.getD i (.Pass ⟨0, 0, 0, 0⟩)

def hxF0 : List HFact := [hFree "ValueError", hFree "isinstance", hFree "len", hFree "range", hKinds, hNoat "NoPage" "row", hNoat "Sealed" "clause", hNoat "Sealed" "day", hOex "NoPage", hOex "Sealed", hXf "NoPage", hXf "Sealed", hGlo "_law_numbers", hGlo "_law_due", hGlo "_law_kinds", hGlo "law"]
def hxFs : List (List HFact) := [hxF0]
def hxD0 : List He.DefD := [dM "NoPage" "__init__" "NoPage.__init__" (clsDef (hxS 12) 0), dM "Sealed" "__init__" "Sealed.__init__" (clsDef (hxS 10) 0), dG "_law_numbers" (hxS 14), dG "_law_due" (hxS 15), dG "_law_kinds" (hxS 16), dG "law" (hxS 17)]
def hxDs : List (List He.DefD) := [hxD0]
def hxN0 : List Str := ["RollError", "NoDay", "NoRank", "NoClause", "NoValue", "NoDecree", "TooLow", "Crooked", "Full", "Sealed", "NoHold", "NoPage", "_law_numbers", "_law_due", "_law_kinds"]
def hxNs : List Str := hxN0
abbrev hxR : PySem.W.OpenRow := PySem.W.OpenLaw.row PySem.Challenge.rw_doomroll_k53_refusals_made
set_option maxHeartbeats 0 in
theorem hx_run (w : World) : HandSHeadRun.RunEq hxR (PySem.W.view hxR.prog [17]) (hookX 3000 hxFs hxDs) (hxOb 3000 hxFs hxDs) 12000 hxNs w := by
  intro os
  kernel_rfl
end DR
end
section
/-! DRA: articles and decrees, as data. -/
namespace DR
open PySem L2
inductive Art where
  | set (f l c v : Int)
  | whl (f l c v o w : Int)
  | once (f l c v o w : Int)
  | lift (f : Int) (n : Int)
  | renew (f : Int) (n : Int)
def Art.d : Art → PyData
  | .set f l c v => .tuple [.str (Str.ofString "set"), .int f, .int l, .int c, .int v]
  | .whl f l c v o w => .tuple [.str (Str.ofString "while"), .int f, .int l, .int c, .int v, .int o, .int w]
  | .once f l c v o w => .tuple [.str (Str.ofString "once"), .int f, .int l, .int c, .int v, .int o, .int w]
  | .lift f n => .tuple [.str (Str.ofString "lift"), .int f, .int n]
  | .renew f n => .tuple [.str (Str.ofString "renew"), .int f, .int n]
structure Dec where
  given : Int
  rank : Int
  arts : List Art
def Dec.d (x : Dec) : PyData := .tuple [.int x.given, .int x.rank, .tuple (x.arts.map Art.d)]
/-- an article that may stand in a decree of that rank, behind decrees of those ranks -/
def Art.ok (ranks : List Int) (rank : Int) : Art → Prop
  | .set f l c v => 0 ≤ f ∧ f ≤ l ∧ l ≤ 1000000000000 ∧ 0 ≤ c ∧ c < 12 ∧ 0 ≤ v ∧ v < 1000
  | .whl f l c v o w => 0 ≤ f ∧ f ≤ l ∧ l ≤ 1000000000000 ∧ 0 ≤ o ∧ o < c ∧ c < 12 ∧ 0 ≤ v ∧ v < 1000 ∧ 0 ≤ w ∧ w < 4
  | .once f l c v o w => 0 ≤ f ∧ f ≤ l ∧ l ≤ 1000000000000 ∧ 0 ≤ o ∧ o < c ∧ c < 12 ∧ 0 ≤ v ∧ v < 1000 ∧ 0 ≤ w ∧ w < 4
  | .lift f n => 0 ≤ f ∧ f ≤ 1000000000000 ∧ 0 ≤ n ∧ n < ranks.length ∧ num ranks n.toNat ≤ rank
  | .renew f n => 0 ≤ f ∧ f ≤ 1000000000000 ∧ 0 ≤ n ∧ n < ranks.length ∧ num ranks n.toNat ≤ rank
/-- decrees that are good, one behind another -/
def GoodFrom (given : Int) (ranks : List Int) : List Dec → Prop
  | [] => True
  | x :: xs => given ≤ x.given ∧ x.given ≤ given + 3 ∧ 1 ≤ x.rank ∧ x.rank ≤ 3 ∧ (∀ a ∈ x.arts, a.ok ranks x.rank) ∧ x.arts.length ≤ 6 ∧ GoodFrom x.given (ranks ++ [x.rank]) xs
theorem shp_word {s : String} (h : (PyData.str (Str.ofString s)).canLay0 = true := by decide +kernel) : Shp 0 (.str (Str.ofString s)) := shp_str h
@[simp] theorem nam_set : gIn (.str (Str.ofString "set")) (.tuple [(.str (Str.ofString "lift")), (.str (Str.ofString "renew"))]) = some (.bool false) := by rfl
@[simp] theorem nnam_set : gNotIn (.str (Str.ofString "set")) (.tuple [(.str (Str.ofString "lift")), (.str (Str.ofString "renew"))]) = some (.bool true) := by rfl
@[simp] theorem lok_set : gIn (.str (Str.ofString "set")) (.tuple [(.str (Str.ofString "while")), (.str (Str.ofString "once"))]) = some (.bool false) := by rfl
@[simp] theorem weq_set_set : gEq (.str (Str.ofString "set")) (.str (Str.ofString "set")) = some (.bool true) := (gEq_of shp_word shp_word).trans (by rw [PyData.eqv, show (Str.ofString "set" == Str.ofString "set") = true by decide +kernel])
@[simp] theorem wne_set_set : gNe (.str (Str.ofString "set")) (.str (Str.ofString "set")) = some (.bool false) := (gNe_of shp_word shp_word).trans (by rw [PyData.eqv, show (Str.ofString "set" == Str.ofString "set") = true by decide +kernel]; rfl)
@[simp] theorem weq_set_while : gEq (.str (Str.ofString "set")) (.str (Str.ofString "while")) = some (.bool false) := (gEq_of shp_word shp_word).trans (by rw [PyData.eqv, show (Str.ofString "set" == Str.ofString "while") = false by decide +kernel])
@[simp] theorem wne_set_while : gNe (.str (Str.ofString "set")) (.str (Str.ofString "while")) = some (.bool true) := (gNe_of shp_word shp_word).trans (by rw [PyData.eqv, show (Str.ofString "set" == Str.ofString "while") = false by decide +kernel]; rfl)
@[simp] theorem weq_set_once : gEq (.str (Str.ofString "set")) (.str (Str.ofString "once")) = some (.bool false) := (gEq_of shp_word shp_word).trans (by rw [PyData.eqv, show (Str.ofString "set" == Str.ofString "once") = false by decide +kernel])
@[simp] theorem wne_set_once : gNe (.str (Str.ofString "set")) (.str (Str.ofString "once")) = some (.bool true) := (gNe_of shp_word shp_word).trans (by rw [PyData.eqv, show (Str.ofString "set" == Str.ofString "once") = false by decide +kernel]; rfl)
@[simp] theorem weq_set_lift : gEq (.str (Str.ofString "set")) (.str (Str.ofString "lift")) = some (.bool false) := (gEq_of shp_word shp_word).trans (by rw [PyData.eqv, show (Str.ofString "set" == Str.ofString "lift") = false by decide +kernel])
@[simp] theorem wne_set_lift : gNe (.str (Str.ofString "set")) (.str (Str.ofString "lift")) = some (.bool true) := (gNe_of shp_word shp_word).trans (by rw [PyData.eqv, show (Str.ofString "set" == Str.ofString "lift") = false by decide +kernel]; rfl)
@[simp] theorem weq_set_renew : gEq (.str (Str.ofString "set")) (.str (Str.ofString "renew")) = some (.bool false) := (gEq_of shp_word shp_word).trans (by rw [PyData.eqv, show (Str.ofString "set" == Str.ofString "renew") = false by decide +kernel])
@[simp] theorem wne_set_renew : gNe (.str (Str.ofString "set")) (.str (Str.ofString "renew")) = some (.bool true) := (gNe_of shp_word shp_word).trans (by rw [PyData.eqv, show (Str.ofString "set" == Str.ofString "renew") = false by decide +kernel]; rfl)
@[simp] theorem nam_while : gIn (.str (Str.ofString "while")) (.tuple [(.str (Str.ofString "lift")), (.str (Str.ofString "renew"))]) = some (.bool false) := by rfl
@[simp] theorem nnam_while : gNotIn (.str (Str.ofString "while")) (.tuple [(.str (Str.ofString "lift")), (.str (Str.ofString "renew"))]) = some (.bool true) := by rfl
@[simp] theorem lok_while : gIn (.str (Str.ofString "while")) (.tuple [(.str (Str.ofString "while")), (.str (Str.ofString "once"))]) = some (.bool true) := by rfl
@[simp] theorem weq_while_set : gEq (.str (Str.ofString "while")) (.str (Str.ofString "set")) = some (.bool false) := (gEq_of shp_word shp_word).trans (by rw [PyData.eqv, show (Str.ofString "while" == Str.ofString "set") = false by decide +kernel])
@[simp] theorem wne_while_set : gNe (.str (Str.ofString "while")) (.str (Str.ofString "set")) = some (.bool true) := (gNe_of shp_word shp_word).trans (by rw [PyData.eqv, show (Str.ofString "while" == Str.ofString "set") = false by decide +kernel]; rfl)
@[simp] theorem weq_while_while : gEq (.str (Str.ofString "while")) (.str (Str.ofString "while")) = some (.bool true) := (gEq_of shp_word shp_word).trans (by rw [PyData.eqv, show (Str.ofString "while" == Str.ofString "while") = true by decide +kernel])
@[simp] theorem wne_while_while : gNe (.str (Str.ofString "while")) (.str (Str.ofString "while")) = some (.bool false) := (gNe_of shp_word shp_word).trans (by rw [PyData.eqv, show (Str.ofString "while" == Str.ofString "while") = true by decide +kernel]; rfl)
@[simp] theorem weq_while_once : gEq (.str (Str.ofString "while")) (.str (Str.ofString "once")) = some (.bool false) := (gEq_of shp_word shp_word).trans (by rw [PyData.eqv, show (Str.ofString "while" == Str.ofString "once") = false by decide +kernel])
@[simp] theorem wne_while_once : gNe (.str (Str.ofString "while")) (.str (Str.ofString "once")) = some (.bool true) := (gNe_of shp_word shp_word).trans (by rw [PyData.eqv, show (Str.ofString "while" == Str.ofString "once") = false by decide +kernel]; rfl)
@[simp] theorem weq_while_lift : gEq (.str (Str.ofString "while")) (.str (Str.ofString "lift")) = some (.bool false) := (gEq_of shp_word shp_word).trans (by rw [PyData.eqv, show (Str.ofString "while" == Str.ofString "lift") = false by decide +kernel])
@[simp] theorem wne_while_lift : gNe (.str (Str.ofString "while")) (.str (Str.ofString "lift")) = some (.bool true) := (gNe_of shp_word shp_word).trans (by rw [PyData.eqv, show (Str.ofString "while" == Str.ofString "lift") = false by decide +kernel]; rfl)
@[simp] theorem weq_while_renew : gEq (.str (Str.ofString "while")) (.str (Str.ofString "renew")) = some (.bool false) := (gEq_of shp_word shp_word).trans (by rw [PyData.eqv, show (Str.ofString "while" == Str.ofString "renew") = false by decide +kernel])
@[simp] theorem wne_while_renew : gNe (.str (Str.ofString "while")) (.str (Str.ofString "renew")) = some (.bool true) := (gNe_of shp_word shp_word).trans (by rw [PyData.eqv, show (Str.ofString "while" == Str.ofString "renew") = false by decide +kernel]; rfl)
@[simp] theorem nam_once : gIn (.str (Str.ofString "once")) (.tuple [(.str (Str.ofString "lift")), (.str (Str.ofString "renew"))]) = some (.bool false) := by rfl
@[simp] theorem nnam_once : gNotIn (.str (Str.ofString "once")) (.tuple [(.str (Str.ofString "lift")), (.str (Str.ofString "renew"))]) = some (.bool true) := by rfl
@[simp] theorem lok_once : gIn (.str (Str.ofString "once")) (.tuple [(.str (Str.ofString "while")), (.str (Str.ofString "once"))]) = some (.bool true) := by rfl
@[simp] theorem weq_once_set : gEq (.str (Str.ofString "once")) (.str (Str.ofString "set")) = some (.bool false) := (gEq_of shp_word shp_word).trans (by rw [PyData.eqv, show (Str.ofString "once" == Str.ofString "set") = false by decide +kernel])
@[simp] theorem wne_once_set : gNe (.str (Str.ofString "once")) (.str (Str.ofString "set")) = some (.bool true) := (gNe_of shp_word shp_word).trans (by rw [PyData.eqv, show (Str.ofString "once" == Str.ofString "set") = false by decide +kernel]; rfl)
@[simp] theorem weq_once_while : gEq (.str (Str.ofString "once")) (.str (Str.ofString "while")) = some (.bool false) := (gEq_of shp_word shp_word).trans (by rw [PyData.eqv, show (Str.ofString "once" == Str.ofString "while") = false by decide +kernel])
@[simp] theorem wne_once_while : gNe (.str (Str.ofString "once")) (.str (Str.ofString "while")) = some (.bool true) := (gNe_of shp_word shp_word).trans (by rw [PyData.eqv, show (Str.ofString "once" == Str.ofString "while") = false by decide +kernel]; rfl)
@[simp] theorem weq_once_once : gEq (.str (Str.ofString "once")) (.str (Str.ofString "once")) = some (.bool true) := (gEq_of shp_word shp_word).trans (by rw [PyData.eqv, show (Str.ofString "once" == Str.ofString "once") = true by decide +kernel])
@[simp] theorem wne_once_once : gNe (.str (Str.ofString "once")) (.str (Str.ofString "once")) = some (.bool false) := (gNe_of shp_word shp_word).trans (by rw [PyData.eqv, show (Str.ofString "once" == Str.ofString "once") = true by decide +kernel]; rfl)
@[simp] theorem weq_once_lift : gEq (.str (Str.ofString "once")) (.str (Str.ofString "lift")) = some (.bool false) := (gEq_of shp_word shp_word).trans (by rw [PyData.eqv, show (Str.ofString "once" == Str.ofString "lift") = false by decide +kernel])
@[simp] theorem wne_once_lift : gNe (.str (Str.ofString "once")) (.str (Str.ofString "lift")) = some (.bool true) := (gNe_of shp_word shp_word).trans (by rw [PyData.eqv, show (Str.ofString "once" == Str.ofString "lift") = false by decide +kernel]; rfl)
@[simp] theorem weq_once_renew : gEq (.str (Str.ofString "once")) (.str (Str.ofString "renew")) = some (.bool false) := (gEq_of shp_word shp_word).trans (by rw [PyData.eqv, show (Str.ofString "once" == Str.ofString "renew") = false by decide +kernel])
@[simp] theorem wne_once_renew : gNe (.str (Str.ofString "once")) (.str (Str.ofString "renew")) = some (.bool true) := (gNe_of shp_word shp_word).trans (by rw [PyData.eqv, show (Str.ofString "once" == Str.ofString "renew") = false by decide +kernel]; rfl)
@[simp] theorem nam_lift : gIn (.str (Str.ofString "lift")) (.tuple [(.str (Str.ofString "lift")), (.str (Str.ofString "renew"))]) = some (.bool true) := by rfl
@[simp] theorem nnam_lift : gNotIn (.str (Str.ofString "lift")) (.tuple [(.str (Str.ofString "lift")), (.str (Str.ofString "renew"))]) = some (.bool false) := by rfl
@[simp] theorem lok_lift : gIn (.str (Str.ofString "lift")) (.tuple [(.str (Str.ofString "while")), (.str (Str.ofString "once"))]) = some (.bool false) := by rfl
@[simp] theorem weq_lift_set : gEq (.str (Str.ofString "lift")) (.str (Str.ofString "set")) = some (.bool false) := (gEq_of shp_word shp_word).trans (by rw [PyData.eqv, show (Str.ofString "lift" == Str.ofString "set") = false by decide +kernel])
@[simp] theorem wne_lift_set : gNe (.str (Str.ofString "lift")) (.str (Str.ofString "set")) = some (.bool true) := (gNe_of shp_word shp_word).trans (by rw [PyData.eqv, show (Str.ofString "lift" == Str.ofString "set") = false by decide +kernel]; rfl)
@[simp] theorem weq_lift_while : gEq (.str (Str.ofString "lift")) (.str (Str.ofString "while")) = some (.bool false) := (gEq_of shp_word shp_word).trans (by rw [PyData.eqv, show (Str.ofString "lift" == Str.ofString "while") = false by decide +kernel])
@[simp] theorem wne_lift_while : gNe (.str (Str.ofString "lift")) (.str (Str.ofString "while")) = some (.bool true) := (gNe_of shp_word shp_word).trans (by rw [PyData.eqv, show (Str.ofString "lift" == Str.ofString "while") = false by decide +kernel]; rfl)
@[simp] theorem weq_lift_once : gEq (.str (Str.ofString "lift")) (.str (Str.ofString "once")) = some (.bool false) := (gEq_of shp_word shp_word).trans (by rw [PyData.eqv, show (Str.ofString "lift" == Str.ofString "once") = false by decide +kernel])
@[simp] theorem wne_lift_once : gNe (.str (Str.ofString "lift")) (.str (Str.ofString "once")) = some (.bool true) := (gNe_of shp_word shp_word).trans (by rw [PyData.eqv, show (Str.ofString "lift" == Str.ofString "once") = false by decide +kernel]; rfl)
@[simp] theorem weq_lift_lift : gEq (.str (Str.ofString "lift")) (.str (Str.ofString "lift")) = some (.bool true) := (gEq_of shp_word shp_word).trans (by rw [PyData.eqv, show (Str.ofString "lift" == Str.ofString "lift") = true by decide +kernel])
@[simp] theorem wne_lift_lift : gNe (.str (Str.ofString "lift")) (.str (Str.ofString "lift")) = some (.bool false) := (gNe_of shp_word shp_word).trans (by rw [PyData.eqv, show (Str.ofString "lift" == Str.ofString "lift") = true by decide +kernel]; rfl)
@[simp] theorem weq_lift_renew : gEq (.str (Str.ofString "lift")) (.str (Str.ofString "renew")) = some (.bool false) := (gEq_of shp_word shp_word).trans (by rw [PyData.eqv, show (Str.ofString "lift" == Str.ofString "renew") = false by decide +kernel])
@[simp] theorem wne_lift_renew : gNe (.str (Str.ofString "lift")) (.str (Str.ofString "renew")) = some (.bool true) := (gNe_of shp_word shp_word).trans (by rw [PyData.eqv, show (Str.ofString "lift" == Str.ofString "renew") = false by decide +kernel]; rfl)
@[simp] theorem nam_renew : gIn (.str (Str.ofString "renew")) (.tuple [(.str (Str.ofString "lift")), (.str (Str.ofString "renew"))]) = some (.bool true) := by rfl
@[simp] theorem nnam_renew : gNotIn (.str (Str.ofString "renew")) (.tuple [(.str (Str.ofString "lift")), (.str (Str.ofString "renew"))]) = some (.bool false) := by rfl
@[simp] theorem lok_renew : gIn (.str (Str.ofString "renew")) (.tuple [(.str (Str.ofString "while")), (.str (Str.ofString "once"))]) = some (.bool false) := by rfl
@[simp] theorem weq_renew_set : gEq (.str (Str.ofString "renew")) (.str (Str.ofString "set")) = some (.bool false) := (gEq_of shp_word shp_word).trans (by rw [PyData.eqv, show (Str.ofString "renew" == Str.ofString "set") = false by decide +kernel])
@[simp] theorem wne_renew_set : gNe (.str (Str.ofString "renew")) (.str (Str.ofString "set")) = some (.bool true) := (gNe_of shp_word shp_word).trans (by rw [PyData.eqv, show (Str.ofString "renew" == Str.ofString "set") = false by decide +kernel]; rfl)
@[simp] theorem weq_renew_while : gEq (.str (Str.ofString "renew")) (.str (Str.ofString "while")) = some (.bool false) := (gEq_of shp_word shp_word).trans (by rw [PyData.eqv, show (Str.ofString "renew" == Str.ofString "while") = false by decide +kernel])
@[simp] theorem wne_renew_while : gNe (.str (Str.ofString "renew")) (.str (Str.ofString "while")) = some (.bool true) := (gNe_of shp_word shp_word).trans (by rw [PyData.eqv, show (Str.ofString "renew" == Str.ofString "while") = false by decide +kernel]; rfl)
@[simp] theorem weq_renew_once : gEq (.str (Str.ofString "renew")) (.str (Str.ofString "once")) = some (.bool false) := (gEq_of shp_word shp_word).trans (by rw [PyData.eqv, show (Str.ofString "renew" == Str.ofString "once") = false by decide +kernel])
@[simp] theorem wne_renew_once : gNe (.str (Str.ofString "renew")) (.str (Str.ofString "once")) = some (.bool true) := (gNe_of shp_word shp_word).trans (by rw [PyData.eqv, show (Str.ofString "renew" == Str.ofString "once") = false by decide +kernel]; rfl)
@[simp] theorem weq_renew_lift : gEq (.str (Str.ofString "renew")) (.str (Str.ofString "lift")) = some (.bool false) := (gEq_of shp_word shp_word).trans (by rw [PyData.eqv, show (Str.ofString "renew" == Str.ofString "lift") = false by decide +kernel])
@[simp] theorem wne_renew_lift : gNe (.str (Str.ofString "renew")) (.str (Str.ofString "lift")) = some (.bool true) := (gNe_of shp_word shp_word).trans (by rw [PyData.eqv, show (Str.ofString "renew" == Str.ofString "lift") = false by decide +kernel]; rfl)
@[simp] theorem weq_renew_renew : gEq (.str (Str.ofString "renew")) (.str (Str.ofString "renew")) = some (.bool true) := (gEq_of shp_word shp_word).trans (by rw [PyData.eqv, show (Str.ofString "renew" == Str.ofString "renew") = true by decide +kernel])
@[simp] theorem wne_renew_renew : gNe (.str (Str.ofString "renew")) (.str (Str.ofString "renew")) = some (.bool false) := (gNe_of shp_word shp_word).trans (by rw [PyData.eqv, show (Str.ofString "renew" == Str.ofString "renew") = true by decide +kernel]; rfl)
@[simp] theorem at1_0 (a0 : PyData) : atI [a0] 0 = some a0 := rfl
@[simp] theorem at2_0 (a0 a1 : PyData) : atI [a0, a1] 0 = some a0 := rfl
@[simp] theorem at2_1 (a0 a1 : PyData) : atI [a0, a1] 1 = some a1 := rfl
@[simp] theorem at3_0 (a0 a1 a2 : PyData) : atI [a0, a1, a2] 0 = some a0 := rfl
@[simp] theorem at3_1 (a0 a1 a2 : PyData) : atI [a0, a1, a2] 1 = some a1 := rfl
@[simp] theorem at3_2 (a0 a1 a2 : PyData) : atI [a0, a1, a2] 2 = some a2 := rfl
@[simp] theorem at4_0 (a0 a1 a2 a3 : PyData) : atI [a0, a1, a2, a3] 0 = some a0 := rfl
@[simp] theorem at4_1 (a0 a1 a2 a3 : PyData) : atI [a0, a1, a2, a3] 1 = some a1 := rfl
@[simp] theorem at4_2 (a0 a1 a2 a3 : PyData) : atI [a0, a1, a2, a3] 2 = some a2 := rfl
@[simp] theorem at4_3 (a0 a1 a2 a3 : PyData) : atI [a0, a1, a2, a3] 3 = some a3 := rfl
@[simp] theorem at5_0 (a0 a1 a2 a3 a4 : PyData) : atI [a0, a1, a2, a3, a4] 0 = some a0 := rfl
@[simp] theorem at5_1 (a0 a1 a2 a3 a4 : PyData) : atI [a0, a1, a2, a3, a4] 1 = some a1 := rfl
@[simp] theorem at5_2 (a0 a1 a2 a3 a4 : PyData) : atI [a0, a1, a2, a3, a4] 2 = some a2 := rfl
@[simp] theorem at5_3 (a0 a1 a2 a3 a4 : PyData) : atI [a0, a1, a2, a3, a4] 3 = some a3 := rfl
@[simp] theorem at5_4 (a0 a1 a2 a3 a4 : PyData) : atI [a0, a1, a2, a3, a4] 4 = some a4 := rfl
@[simp] theorem at7_0 (a0 a1 a2 a3 a4 a5 a6 : PyData) : atI [a0, a1, a2, a3, a4, a5, a6] 0 = some a0 := rfl
@[simp] theorem at7_1 (a0 a1 a2 a3 a4 a5 a6 : PyData) : atI [a0, a1, a2, a3, a4, a5, a6] 1 = some a1 := rfl
@[simp] theorem at7_2 (a0 a1 a2 a3 a4 a5 a6 : PyData) : atI [a0, a1, a2, a3, a4, a5, a6] 2 = some a2 := rfl
@[simp] theorem at7_3 (a0 a1 a2 a3 a4 a5 a6 : PyData) : atI [a0, a1, a2, a3, a4, a5, a6] 3 = some a3 := rfl
@[simp] theorem at7_4 (a0 a1 a2 a3 a4 a5 a6 : PyData) : atI [a0, a1, a2, a3, a4, a5, a6] 4 = some a4 := rfl
@[simp] theorem at7_5 (a0 a1 a2 a3 a4 a5 a6 : PyData) : atI [a0, a1, a2, a3, a4, a5, a6] 5 = some a5 := rfl
@[simp] theorem at7_6 (a0 a1 a2 a3 a4 a5 a6 : PyData) : atI [a0, a1, a2, a3, a4, a5, a6] 6 = some a6 := rfl
theorem Art.shp (a : Art) : Shp 1 a.d := by
  cases a <;> (refine shp_tuple fun d hd => ?_) <;> (simp only [List.mem_cons, List.not_mem_nil, or_false] at hd) <;> (rcases hd with rfl | hd <;> first | exact shp_word | skip) <;>
    (repeat (first | (subst hd; exact shp_int _) | (rcases hd with rfl | hd; exact shp_int _)))
theorem Dec.shp (x : Dec) : Shp 3 x.d := by
  refine shp_tuple fun d hd => ?_
  simp only [List.mem_cons, List.not_mem_nil, or_false] at hd
  rcases hd with rfl | rfl | rfl
  · exact (shp_int _).up (by decide)
  · exact (shp_int _).up (by decide)
  · exact shp_tuple fun d hd => by
      obtain ⟨a, _, rfl⟩ := List.mem_map.mp hd
      exact a.shp
theorem decs_shp (xs : List Dec) : Shp 4 (.list (xs.map Dec.d)) := shp_list fun d hd => by
  obtain ⟨x, _, rfl⟩ := List.mem_map.mp hd
  exact x.shp
end DR
end
section
namespace DR
open PySem L2
def topS (i : Nat) : Stmt := PySem.Challenge.pw_doomroll_k53_refusals_made.main.body.getD i (.Pass ⟨0, 0, 0, 0⟩)
noncomputable section

abbrev l_w_numbers_1 : Sl → RS := (sIf (mB (mOp gGt (mVar 5) (mC (.int 0)))) (sSeq (sApp 2 (mOp gMod (mVar 5) (mC (.int 1000))))
  (sSet 5 (mFz (mOp gFdiv (mVar 5) (mC (.int 1000)))))) sNil)
abbrev l_w_numbers_2 : Sl → RS := (sSeq (sSet 3 (mFz (mOp gMod (mOp gAddI (mOp gAddI (mOp gMul (mVar 3) (mC (.int 48271))) (mOp gMod (mVar 4) (mC (.int 1000003)))) (mC (.int 11))) (mC (.int 2147483647)))))
  (sSeq (sSet 5 (mFz (mOp gMinus (mVar 4) (mOp gPow (mC (.int 10)) (mC (.int 18))))))
  (sSeq (sIf (mB (mOp gLt (mVar 5) (mC (.int 0)))) (sApp 2 (mOp gMod (mVar 4) (mC (.int 1000)))) sNil)
  (sFor (itR1 (mC (.int 60))) (gName' 6) [6] l_w_numbers_1))))
abbrev l_w_numbers_3 : Sl → RS := (sSeq (sSet 3 (mFz (mOp gMod (mOp gAddI (mOp gAddI (mOp gAddI (mOp gMul (mVar 3) (mVar 3)) (mOp gMul (mC (.int 69621)) (mVar 3))) (mOp gMul (mC (.int 7)) (mPeek (mCall gLen (mCons (mVar 2) mNil))))) (mC (.int 5))) (mC (.int 2147483629)))))
  (sApp 2 (mOp gMod (mOp gFdiv (mVar 3) (mC (.int 1009))) (mC (.int 1000)))))
def b_w_numbers : Sl → RS :=
  (sSeq (sSet 2 (mLst mNil))
  (sSeq (sSet 3 (mFz (mC (.int 17))))
  (sSeq (sFor (itU (mFrz (mCutS 0 mNoPart (mPart (mC (.int 63)))))) (gName' 4) [4, 5, 6] l_w_numbers_2)
  (sSeq (sWhile 100000 (mPeekB (mB (mOp gLt (mCall gLen (mCons (mVar 2) mNil)) (mVar 1)))) [] l_w_numbers_3)
  (sFrz 2 (sRet (mCut (mVar 2) mNoPart (mPart (mVar 1)))))))))
def f_w_numbers : FnSem := fnSem 2 5 ([2] ++ ([3] ++ (([4] ++ ([3] ++ ([5] ++ (([] ++ []) ++ ([6] ++ (([] ++ [5]) ++ [])))))) ++ (([3] ++ []) ++ [])))) b_w_numbers

def b_w_due : Sl → RS :=
  (sSeq (sSet 1 (mFz (mFrz (mLst (mCons (mC (.str (Str.ofString "NoDay"))) (mCons (mC (.str (Str.ofString "NoRank"))) (mCons (mC (.str (Str.ofString "NoClause"))) (mCons (mC (.str (Str.ofString "NoValue"))) (mCons (mC (.str (Str.ofString "NoDecree"))) (mCons (mC (.str (Str.ofString "TooLow"))) (mCons (mC (.str (Str.ofString "Crooked"))) (mCons (mC (.str (Str.ofString "Full"))) (mCons (mC (.str (Str.ofString "Sealed"))) (mCons (mC (.str (Str.ofString "NoHold"))) mNil))))))))))))))
  (sRet (mOp gAdd (mFrz (mLst (mCons (mC (.bool true)) mNil))) (mFrz (mLc (itU (mFrz (mOp gAdd (mVar 1) (mFrz (mLst (mCons (mC (.str (Str.ofString "NoPage"))) mNil)))))) (gName' 2) [2] mYes (mOp gEq (mVar 2) (mVar 0)))))))
def f_w_due : FnSem := fnSem 1 2 ([1] ++ []) b_w_due

def b_w_kinds : Sl → RS :=
  (sSeq (sSet 1 (mFz (mFrz (mLst (mCons (mIsX 0 fun _ => true) (mCons (mIsX 0 fun c => decide (c = "NoDay")) (mCons (mIsX 0 fun c => decide (c = "NoRank")) (mCons (mIsX 0 fun c => decide (c = "NoClause")) mNil))))))))
  (sSeq (sSet 1 (mFz (mFrz (mOp gAdd (mVar 1) (mFrz (mLst (mCons (mIsX 0 fun c => decide (c = "NoValue")) (mCons (mIsX 0 fun c => decide (c = "NoDecree")) (mCons (mIsX 0 fun c => decide (c = "TooLow")) (mCons (mIsX 0 fun c => decide (c = "Crooked")) mNil))))))))))
  (sRet (mOp gAdd (mVar 1) (mFrz (mLst (mCons (mIsX 0 fun c => decide (c = "Full")) (mCons (mIsX 0 fun c => decide (c = "Sealed")) (mCons (mIsX 0 fun c => decide (c = "NoHold")) (mCons (mIsX 0 fun c => decide (c = "NoPage")) mNil))))))))))
def f_w_kinds : FnSem := fnSem 1 1 ([1] ++ ([1] ++ [])) b_w_kinds

def t_law_main_8 : Sl → RS :=
  (sRet (mFz (mBv (mAnd (mB (mIsX 4 fun _ => true)) (mB (mIsX 6 fun _ => true))))))
def t_law_main_7 : Sl → RS :=
  (sSeq (sIf (mOr (mB (mOp gNe (mXf "NoPage" 6 "row") (mVar 5))) (mB (mOp gNe (mFrz (mCallF f_w_kinds (aI 6 aNil))) (mFrz (mCallF f_w_due (aD (mC (.str (Str.ofString "NoPage"))) aNil)))))) (sRet (mFz (mC (.bool false)))) sNil)
  t_law_main_8)
def t_law_main_6 : Sl → RS :=
  (sSeq (sSet 6 (mMkX "NoPage" ["row"] (mCons (mVar 5) mNil)))
  t_law_main_7)
def t_law_main_5 : Sl → RS :=
  (sSeq (sSet 5 (mFz (mOp gMod (mOp gIx (mVar 1) (mC (.int 4))) (mC (.int 200)))))
  t_law_main_6)
def t_law_main_4 : Sl → RS :=
  (sSeq (sIf (mOr (mB (mOp gNe (mXf "Sealed" 4 "clause") (mVar 2))) (mOr (mB (mOp gNe (mXf "Sealed" 4 "day") (mVar 3))) (mB (mOp gNe (mFrz (mCallF f_w_kinds (aI 4 aNil))) (mFrz (mCallF f_w_due (aD (mC (.str (Str.ofString "Sealed"))) aNil))))))) (sRet (mFz (mC (.bool false)))) sNil)
  t_law_main_5)
def t_law_main_3 : Sl → RS :=
  (sSeq (sSet 4 (mMkX "Sealed" ["clause", "day"] (mCons (mVar 2) (mCons (mVar 3) mNil))))
  t_law_main_4)
def t_law_main_2 : Sl → RS :=
  (sSeq (sSet 3 (mFz (mOp gIx (mFrz (mLst (mCons (mOp gIx (mVar 1) (mC (.int 1))) (mCons (mOp gMinus (mOp gPow (mC (.int 10)) (mC (.int 12))) (mOp gIx (mVar 1) (mC (.int 2)))) mNil)))) (mOp gMod (mOp gIx (mVar 1) (mC (.int 3))) (mC (.int 2))))))
  t_law_main_3)
def t_law_main_1 : Sl → RS :=
  (sSeq (sSet 2 (mFz (mOp gMod (mOp gIx (mVar 1) (mC (.int 0))) (mC (.int 12)))))
  t_law_main_2)
def b_law_main : Sl → RS :=
  (sSeq (sSet 1 (mFz (mFrz (mCallF f_w_numbers (aI 0 (aD (mC (.int 6)) aNil))))))
  t_law_main_1)
def f_law_main : FnSem := fnSem 1 6 ([1] ++ ([2] ++ ([3] ++ ([4] ++ (([] ++ []) ++ ([5] ++ ([6] ++ (([] ++ []) ++ [])))))))) b_law_main

end
section
variable {P : Program} {w : World} {K : PySem.W.Frag} {mg : Str → Option Value} {base : Heap}
abbrev s_xNoPage : Stmt := clsDef (topS 12) 0
theorem sc_xNoPage : FnScope ["self", "row"] ["self", "row"] (defScope s_xNoPage) := ⟨rfl, rfl, rfl, by decide +kernel, rfl, by decide +kernel, by decide +kernel⟩
theorem ok_xNoPage {f : Addr} {fd : FuncData} {C : Addr} (Fn : Fun K "__init__" "NoPage.__init__" s_xNoPage f fd) (T : OexC K C) (h0 : PySem.W.findIn K (.ref C) "row" = some none) :
    FnOk P w K mg base (L2.CX P w) 1 f fd ["self", "row"] (spX C ["row"]) := by
  exact xinit1 (x := "__init__") (qual := "NoPage.__init__") Fn sc_xNoPage rfl rfl T h0 fun cdv A outer s H E => ps_ost (X := (cxOf (L2.CX P w) P w K mg base ["self", "row"] "NoPage.__init__" (defScope s_xNoPage) f cdv A outer s H E)) (pe_var (i := 0) rfl (Or.inl rfl)) (pe_var (i := 1) rfl (Or.inl rfl)) rfl
abbrev s_xSealed : Stmt := clsDef (topS 10) 0
theorem sc_xSealed : FnScope ["self", "clause", "day"] ["self", "clause", "day"] (defScope s_xSealed) := ⟨rfl, rfl, rfl, by decide +kernel, rfl, by decide +kernel, by decide +kernel⟩
theorem ok_xSealed {f : Addr} {fd : FuncData} {C : Addr} (Fn : Fun K "__init__" "Sealed.__init__" s_xSealed f fd) (T : OexC K C) (h0 : PySem.W.findIn K (.ref C) "clause" = some none) (h1 : PySem.W.findIn K (.ref C) "day" = some none) :
    FnOk P w K mg base (L2.CX P w) 1 f fd ["self", "clause", "day"] (spX C ["clause", "day"]) := by
  exact xinit2 (x := "__init__") (qual := "Sealed.__init__") Fn sc_xSealed rfl rfl T h0 h1 fun cdv A outer s H E => ⟨ps_ost (X := (cxOf (L2.CX P w) P w K mg base ["self", "clause", "day"] "Sealed.__init__" (defScope s_xSealed) f cdv A outer s H E)) (pe_var (i := 0) rfl (Or.inl rfl)) (pe_var (i := 1) rfl (Or.inl rfl)) rfl, ps_ost (X := (cxOf (L2.CX P w) P w K mg base ["self", "clause", "day"] "Sealed.__init__" (defScope s_xSealed) f cdv A outer s H E)) (pe_var (i := 0) rfl (Or.inl rfl)) (pe_var (i := 2) rfl (Or.inl rfl)) rfl⟩

abbrev s_w_numbers : Stmt := topS 14
theorem sc_w_numbers : FnScope ["_law_script", "_law_many", "_law_row", "_law_seed", "_law_cell", "_law_rest", "_law_k"] ["_law_script", "_law_many"] (defScope s_w_numbers) := ⟨rfl, rfl, rfl, by decide +kernel, rfl, by decide +kernel, by decide +kernel⟩
theorem ok_w_numbers {f : Addr} {fd : FuncData} (Fn : Fun K "_law_numbers" "_law_numbers" s_w_numbers f fd) (z_len : mg "len" = none) (z_range : mg "range" = none) :
    FnOk P w K mg base (L2.CX P w) 1 f fd ["_law_script", "_law_many"] (spOf K mg f_w_numbers) := by
  refine fn_ok Fn sc_w_numbers rfl rfl fun cdv A outer s H E hr => ?_
  have nd := sc_w_numbers.nd
  have tk := takes_of (X := cxOf (L2.CX P w) P w K mg base ["_law_script", "_law_many", "_law_row", "_law_seed", "_law_cell", "_law_rest", "_law_k"] "_law_numbers" (defScope s_w_numbers) f cdv A outer s H E) rfl rfl rfl rfl
  have hx : Passes (L2.CX P w) (cxOf (L2.CX P w) P w K mg base ["_law_script", "_law_many", "_law_row", "_law_seed", "_law_cell", "_law_rest", "_law_k"] "_law_numbers" (defScope s_w_numbers) f cdv A outer s H E) E := passes_call tk fun _ _ _ _ h => h
  have hp : PassesOwn (model P w) (cxOf (L2.CX P w) P w K mg base ["_law_script", "_law_many", "_law_row", "_law_seed", "_law_cell", "_law_rest", "_law_k"] "_law_numbers" (defScope s_w_numbers) f cdv A outer s H E).A (cxOf (L2.CX P w) P w K mg base ["_law_script", "_law_many", "_law_row", "_law_seed", "_law_cell", "_law_rest", "_law_k"] "_law_numbers" (defScope s_w_numbers) f cdv A outer s H E).env (cxOf (L2.CX P w) P w K mg base ["_law_script", "_law_many", "_law_row", "_law_seed", "_law_cell", "_law_rest", "_law_k"] "_law_numbers" (defScope s_w_numbers) f cdv A outer s H E).xe := passes_of rfl
  exact (simB_cons (simS_set 2 nd (simM_lst simA_nil))
  (simB_cons (simS_set 3 nd simF_int.m)
  (simB_cons (simS_for [4, 5, 6] hp rfl (simI_u (simM_cutS 0 simO_none (simO_some simF_int)).f) (simG_name 4 nd) (simB_cons (simS_set 3 nd (simF_mod (simF_addI (simF_addI (simF_mul (simF_var 3) simF_int) (simF_mod (simF_var 4) simF_int)) simF_int) simF_int).m)
  (simB_cons (simS_set 5 nd (simF_sub (simF_var 4) (simF_pow simF_int simF_int)).m)
  (simB_cons (simS_if (simT_c cs_lt (simF_var 5) simF_int) (simB_one (simS_app 2 (simF_mod (simF_var 4) simF_int))) simB_nil)
  (simB_one (simS_for [6] hp rfl (simI_r1 z_range simF_int) (simG_name 6 nd) (simB_one (simS_if (simT_c cs_gt (simF_var 5) simF_int) (simB_cons (simS_app 2 (simF_mod (simF_var 5) simF_int))
  (simB_one (simS_set 5 nd (simF_fdiv (simF_var 5) simF_int).m))) simB_nil))))))))
  (simB_cons (simS_while 100000 [] hp (simT_peek (simT_c cs_lt (simF_len z_len (simF_var 2)) (simF_var 1))) (simB_cons (simS_set 3 nd (simF_mod (simF_addI (simF_addI (simF_addI (simF_mul (simF_var 3) (simF_var 3)) (simF_mul simF_int (simF_var 3))) (simF_mul simF_int (simF_peek (simF_len z_len (simF_var 2))))) simF_int) simF_int).m)
  (simB_one (simS_app 2 (simF_mod (simF_fdiv (simF_var 3) simF_int) simF_int)))))
  (simB_one (simS_frz 2 (simS_ret (simM_cut (simF_var 2) simO_none (simO_some (simF_var 1))))))))))

abbrev s_w_due : Stmt := topS 15
theorem sc_w_due : FnScope ["_law_name", "_law_names", "_law_one"] ["_law_name"] (defScope s_w_due) := ⟨rfl, rfl, rfl, by decide +kernel, rfl, by decide +kernel, by decide +kernel⟩
theorem ok_w_due {f : Addr} {fd : FuncData} (Fn : Fun K "_law_due" "_law_due" s_w_due f fd) :
    FnOk P w K mg base (L2.CX P w) 1 f fd ["_law_name"] (spOf K mg f_w_due) := by
  refine fn_ok Fn sc_w_due rfl rfl fun cdv A outer s H E hr => ?_
  have nd := sc_w_due.nd
  have tk := takes_of (X := cxOf (L2.CX P w) P w K mg base ["_law_name", "_law_names", "_law_one"] "_law_due" (defScope s_w_due) f cdv A outer s H E) rfl rfl rfl rfl
  have hx : Passes (L2.CX P w) (cxOf (L2.CX P w) P w K mg base ["_law_name", "_law_names", "_law_one"] "_law_due" (defScope s_w_due) f cdv A outer s H E) E := passes_call tk fun _ _ _ _ h => h
  have hp : PassesOwn (model P w) (cxOf (L2.CX P w) P w K mg base ["_law_name", "_law_names", "_law_one"] "_law_due" (defScope s_w_due) f cdv A outer s H E).A (cxOf (L2.CX P w) P w K mg base ["_law_name", "_law_names", "_law_one"] "_law_due" (defScope s_w_due) f cdv A outer s H E).env (cxOf (L2.CX P w) P w K mg base ["_law_name", "_law_names", "_law_one"] "_law_due" (defScope s_w_due) f cdv A outer s H E).xe := passes_of rfl
  exact (simB_cons (simS_set 1 nd (simM_lst (simA_cons simF_str (simA_cons simF_str (simA_cons simF_str (simA_cons simF_str (simA_cons simF_str (simA_cons simF_str (simA_cons simF_str (simA_cons simF_str (simA_cons simF_str (simA_cons simF_str simA_nil))))))))))).f.m)
  (simB_one (simS_ret (simM_add (simM_lst (simA_cons simF_bl simA_nil)).f (simM_lc (own := [("_law_one", 2)]) [2] rfl nd (simI_u (simM_add (simF_var 1) (simM_lst (simA_cons simF_str simA_nil)).f).f) (blkOk_by (N := ["_law_name", "_law_names", "_law_one"]) (sc := defScope s_w_due) (by decide +kernel)) rfl (by decide) (fun _ _ _ _ _ => (simG_name 2 nd)) (fun _ _ _ _ _ => simTs_nil) (fun _ _ _ _ _ => (simF_c (cs_eq hr.units) (simF_var 2) (simF_var 0)))).f))))

abbrev s_w_kinds : Stmt := topS 16
theorem sc_w_kinds : FnScope ["_law_e", "_law_bad"] ["_law_e"] (defScope s_w_kinds) := ⟨rfl, rfl, rfl, by decide +kernel, rfl, by decide +kernel, by decide +kernel⟩
theorem ok_w_kinds {f : Addr} {fd : FuncData} (Fn : Fun K "_law_kinds" "_law_kinds" s_w_kinds f fd) (z_ValueError : mg "ValueError" = none) (z_isinstance : mg "isinstance" = none) (kk : Kinds K mg) :
    FnOk P w K mg base (L2.CX P w) 1 f fd ["_law_e"] (spOf K mg f_w_kinds) := by
  refine fn_ok Fn sc_w_kinds rfl rfl fun cdv A outer s H E hr => ?_
  have nd := sc_w_kinds.nd
  have tk := takes_of (X := cxOf (L2.CX P w) P w K mg base ["_law_e", "_law_bad"] "_law_kinds" (defScope s_w_kinds) f cdv A outer s H E) rfl rfl rfl rfl
  have hx : Passes (L2.CX P w) (cxOf (L2.CX P w) P w K mg base ["_law_e", "_law_bad"] "_law_kinds" (defScope s_w_kinds) f cdv A outer s H E) E := passes_call tk fun _ _ _ _ h => h
  obtain ⟨C0, g0⟩ := kk.root0
  have hp : PassesOwn (model P w) (cxOf (L2.CX P w) P w K mg base ["_law_e", "_law_bad"] "_law_kinds" (defScope s_w_kinds) f cdv A outer s H E).A (cxOf (L2.CX P w) P w K mg base ["_law_e", "_law_bad"] "_law_kinds" (defScope s_w_kinds) f cdv A outer s H E).env (cxOf (L2.CX P w) P w K mg base ["_law_e", "_law_bad"] "_law_kinds" (defScope s_w_kinds) f cdv A outer s H E).xe := passes_of rfl
  exact (simB_cons (simS_set 1 nd (simM_lst (simA_cons (simF_isxVE 0 kk z_isinstance z_ValueError) (simA_cons (simF_isx 0 kk (by decide) z_isinstance) (simA_cons (simF_isx 0 kk (by decide) z_isinstance) (simA_cons (simF_isx 0 kk (by decide) z_isinstance) simA_nil))))).f.m)
  (simB_cons (simS_set 1 nd (simM_add (simF_var 1) (simM_lst (simA_cons (simF_isx 0 kk (by decide) z_isinstance) (simA_cons (simF_isx 0 kk (by decide) z_isinstance) (simA_cons (simF_isx 0 kk (by decide) z_isinstance) (simA_cons (simF_isx 0 kk (by decide) z_isinstance) simA_nil))))).f).f.m)
  (simB_one (simS_ret (simM_add (simF_var 1) (simM_lst (simA_cons (simF_isx 0 kk (by decide) z_isinstance) (simA_cons (simF_isx 0 kk (by decide) z_isinstance) (simA_cons (simF_isx 0 kk (by decide) z_isinstance) (simA_cons (simF_isx 0 kk (by decide) z_isinstance) simA_nil))))).f)))))

abbrev s_law_main : Stmt := topS 17
theorem sc_law_main : FnScope ["_law_script", "_law_numbers_here", "_law_clause", "_law_day", "_law_shut", "_law_row", "_law_page"] ["_law_script"] (defScope s_law_main) := ⟨rfl, rfl, rfl, by decide +kernel, rfl, by decide +kernel, by decide +kernel⟩
theorem ok_law_main {f : Addr} {fd : FuncData} (Fn : Fun K "law" "law" s_law_main f fd) (d__law_due : FnDef P w K mg base "_law_due" f_w_due 1) (d__law_kinds : FnDef P w K mg base "_law_kinds" f_w_kinds 1) (d__law_numbers : FnDef P w K mg base "_law_numbers" f_w_numbers 1) (z_isinstance : mg "isinstance" = none) (kk : Kinds K mg) (xm_NoPage : XMkDef P w K mg base "NoPage" ["row"] 1) (xm_Sealed : XMkDef P w K mg base "Sealed" ["clause", "day"] 1) (xf_NoPage : XfDef K mg "NoPage" ["row"]) (xf_Sealed : XfDef K mg "Sealed" ["clause", "day"]) :
    FnOk P w K mg base (L2.CX P w) 3 f fd ["_law_script"] (spOf K mg f_law_main) := by
  refine fn_ok Fn sc_law_main rfl rfl fun cdv A outer s H E hr => ?_
  have nd := sc_law_main.nd
  have tk := takes_of (X := cxOf (L2.CX P w) P w K mg base ["_law_script", "_law_numbers_here", "_law_clause", "_law_day", "_law_shut", "_law_row", "_law_page"] "law" (defScope s_law_main) f cdv A outer s H E) rfl rfl rfl rfl
  have hx : Passes (L2.CX P w) (cxOf (L2.CX P w) P w K mg base ["_law_script", "_law_numbers_here", "_law_clause", "_law_day", "_law_shut", "_law_row", "_law_page"] "law" (defScope s_law_main) f cdv A outer s H E) E := passes_call tk fun _ _ _ _ h => h
  obtain ⟨C0, g0⟩ := kk.root0
  have hp : PassesOwn (model P w) (cxOf (L2.CX P w) P w K mg base ["_law_script", "_law_numbers_here", "_law_clause", "_law_day", "_law_shut", "_law_row", "_law_page"] "law" (defScope s_law_main) f cdv A outer s H E).A (cxOf (L2.CX P w) P w K mg base ["_law_script", "_law_numbers_here", "_law_clause", "_law_day", "_law_shut", "_law_row", "_law_page"] "law" (defScope s_law_main) f cdv A outer s H E).env (cxOf (L2.CX P w) P w K mg base ["_law_script", "_law_numbers_here", "_law_clause", "_law_day", "_law_shut", "_law_row", "_law_page"] "law" (defScope s_law_main) f cdv A outer s H E).xe := passes_of rfl
  exact (simB_cons (simS_set 1 nd (simM_call d__law_numbers hr hx (simCA_i 0 (simCA_d simF_int simCA_nil))).f.m)
  (simB_cons (simS_set 2 nd (simF_mod (simF_at (simF_var 1) simF_int) simF_int).m)
  (simB_cons (simS_set 3 nd (simF_at (simM_lst (simA_cons (simF_at (simF_var 1) simF_int) (simA_cons (simF_sub (simF_pow simF_int simF_int) (simF_at (simF_var 1) simF_int)) simA_nil))).f (simF_mod (simF_at (simF_var 1) simF_int) simF_int)).m)
  (simB_cons (simS_set 4 nd (simM_mkX xm_Sealed hr (simA_cons (simF_var 2) (simA_cons (simF_var 3) simA_nil))))
  (simB_cons (simS_if (simW_or (simT_c (cs_ne hr.units) (simF_xf 4 xf_Sealed (by simp)) (simF_var 2)) (simW_or (simT_c (cs_ne hr.units) (simF_xf 4 xf_Sealed (by simp)) (simF_var 3)) (simW_or1 (simT_c (cs_ne hr.units) (simM_call d__law_kinds hr hx (simCA_i 4 simCA_nil)).f (simM_call d__law_due hr hx (simCA_d simF_str simCA_nil)).f)))).t (simB_one (simS_ret simF_bl.m)) simB_nil)
  (simB_cons (simS_set 5 nd (simF_mod (simF_at (simF_var 1) simF_int) simF_int).m)
  (simB_cons (simS_set 6 nd (simM_mkX xm_NoPage hr (simA_cons (simF_var 5) simA_nil)))
  (simB_cons (simS_if (simW_or (simT_c (cs_ne hr.units) (simF_xf 6 xf_NoPage (by simp)) (simF_var 5)) (simW_or1 (simT_c (cs_ne hr.units) (simM_call d__law_kinds hr hx (simCA_i 6 simCA_nil)).f (simM_call d__law_due hr hx (simCA_d simF_str simCA_nil)).f))).t (simB_one (simS_ret simF_bl.m)) simB_nil)
  (simB_one (simS_ret (simV_and (simF_isxR 4 kk z_isinstance).v (simV_one (simF_isxR 6 kk z_isinstance).v)).f.m))))))))))

end
end DR
end
section
namespace DR
open PySem L2
theorem app_ints (r : List Int) (x : Int) : (r.map fun n => MD.fz (.int n)) ++ [MD.fz (.int x)] = (r ++ [x]).map fun n => MD.fz (.int n) := by simp
abbrev nIn : Sl → RS := sIf (mB (mOp gGt (mVar 5) (mC (.int 0)))) (sSeq (sApp 2 (mOp gMod (mVar 5) (mC (.int 1000)))) (sSet 5 (mFz (mOp gFdiv (mVar 5) (mC (.int 1000)))))) sNil
theorem n_in (s0 s1 s3 s4 : Option MD) (row : List Int) (rest : Int) (hr : Low row) (hl : row.length ≤ 10000) : ∃ (row' : List Int) (rest' : Int), Low row' ∧ row'.length ≤ row.length + 60 ∧
    runFor (gName' 6) [6] nIn (rngD 0 60) [s0, s1, some (mInts row), s3, s4, some (.fz (.int rest)), none] = .nx [s0, s1, some (mInts row'), s3, s4, some (.fz (.int rest')), none] := by
  obtain ⟨ρ', a, row', rest', h1, h2, rfl⟩ := runFor_inv (g := gName' 6) (L := [6]) (f := nIn) (ds := rngD 0 60) (ρ := [s0, s1, some (mInts row), s3, s4, some (.fz (.int rest)), none])
    (fun i ρ => ∃ (row' : List Int) (rest' : Int), Low row' ∧ row'.length ≤ row.length + i ∧ ρ = [s0, s1, some (mInts row'), s3, s4, some (.fz (.int rest')), none]) ⟨row, rest, hr, Nat.le_refl _, rfl⟩ (by
      rintro i d ρ hd ⟨r, z, h1, h2, rfl⟩
      have hi : i < 60 := by simpa [rngD] using (List.getElem?_eq_some_iff.mp hd).1
      have hz : r.length < sizeLine := small_lt (by omega)
      by_cases hp : 0 < z
      · refine ⟨_, by simp [turn, hp, hz, nIn]; rfl, r ++ [z % 1000], z / 1000, h1.snoc (Int.emod_nonneg _ (by decide)) (Int.emod_lt_of_pos _ (by decide)), by simp; omega, by simp⟩
      · exact ⟨_, by simp [turn, hp, nIn]; rfl, r, z, h1, by omega, by simp⟩)
  exact ⟨row', rest', h1, by simpa [rngD] using h2, a⟩
theorem small_seed {i : Int} (h : 0 ≤ i) (h2 : i < 2147483647) : small i = true := small_of (by omega) (by omega)
abbrev nOut : Sl → RS := sSeq (sSet 3 (mFz (mOp gMod (mOp gAddI (mOp gAddI (mOp gMul (mVar 3) (mC (.int 48271))) (mOp gMod (mVar 4) (mC (.int 1000003)))) (mC (.int 11))) (mC (.int 2147483647)))))
  (sSeq (sSet 5 (mFz (mOp gMinus (mVar 4) (mOp gPow (mC (.int 10)) (mC (.int 18))))))
  (sSeq (sIf (mB (mOp gLt (mVar 5) (mC (.int 0)))) (sApp 2 (mOp gMod (mVar 4) (mC (.int 1000)))) sNil)
  (sFor (itR1 (mC (.int 60))) (gName' 6) [6] nIn)))
theorem n_out (ns : List Int) (s0 s1 : Option MD) (row : List Int) (seed : Int) (hr : Low row) (hl : row.length = 0) (h0 : 0 ≤ seed) (h1 : seed < 2147483647) (hn : ns.length ≤ 63) : ∃ (row' : List Int) (seed' : Int), Low row' ∧ row'.length ≤ 4000 ∧ 0 ≤ seed' ∧ seed' < 2147483647 ∧
    runFor (gName' 4) [4, 5, 6] nOut (ns.map .int) [s0, s1, some (mInts row), some (.fz (.int seed)), none, none, none] = .nx [s0, s1, some (mInts row'), some (.fz (.int seed')), none, none, none] := by
  obtain ⟨ρ', a, row', seed', g1, g2, g3, g4, rfl⟩ := runFor_inv (g := gName' 4) (L := [4, 5, 6]) (f := nOut) (ds := ns.map .int) (ρ := [s0, s1, some (mInts row), some (.fz (.int seed)), none, none, none])
    (fun i ρ => ∃ (row' : List Int) (seed' : Int), Low row' ∧ row'.length ≤ 61 * i ∧ 0 ≤ seed' ∧ seed' < 2147483647 ∧ ρ = [s0, s1, some (mInts row'), some (.fz (.int seed')), none, none, none]) ⟨row, seed, hr, by omega, h0, h1, rfl⟩ (by
      rintro i d ρ hd ⟨r, z, g1, g2, g3, g4, rfl⟩
      have hi : i < ns.length := by simpa using (List.getElem?_eq_some_iff.mp hd).1
      obtain ⟨c, rfl⟩ : ∃ c, d = .int c := by
        rw [List.getElem?_map] at hd
        obtain ⟨c, _, e⟩ := Option.map_eq_some_iff.mp hd
        exact ⟨c, e.symm⟩
      have hz : r.length < sizeLine := small_lt (by omega)
      have hs := small_seed g3 g4
      have b0 := Int.emod_nonneg (z * 48271 + c % 1000003 + 11) (b := 2147483647) (by decide)
      have b1 := Int.emod_lt_of_pos (z * 48271 + c % 1000003 + 11) (b := 2147483647) (by decide)
      by_cases hp : c - 1000000000000000000 < 0
      · obtain ⟨row', rest', k1, k2, k3⟩ := n_in s0 s1 (some (.fz (.int ((z * 48271 + c % 1000003 + 11) % 2147483647)))) (some (.fz (.int c))) (r ++ [c % 1000]) (c - 1000000000000000000) (g1.snoc (Int.emod_nonneg _ (by decide)) (Int.emod_lt_of_pos _ (by decide))) (by simp; omega)
        simp only [mInts, List.map_append, List.map_cons, List.map_nil] at k3
        exact ⟨_, by simp [turn, nOut, hs, hz, hp, bnd, k3]; rfl, row', _, k1, by simp at k2; omega, b0, b1, by simp⟩
      · obtain ⟨row', rest', k1, k2, k3⟩ := n_in s0 s1 (some (.fz (.int ((z * 48271 + c % 1000003 + 11) % 2147483647)))) (some (.fz (.int c))) r (c - 1000000000000000000) g1 (by omega)
        exact ⟨_, by simp [turn, nOut, hs, hz, hp, bnd, k3]; rfl, row', _, k1, by omega, b0, b1, by simp⟩)
  exact ⟨row', seed', g1, by simp at g2; omega, g3, g4, a⟩
abbrev nW : Sl → RS := sSeq (sSet 3 (mFz (mOp gMod (mOp gAddI (mOp gAddI (mOp gAddI (mOp gMul (mVar 3) (mVar 3)) (mOp gMul (mC (.int 69621)) (mVar 3))) (mOp gMul (mC (.int 7)) (mPeek (mCall gLen (mCons (mVar 2) mNil))))) (mC (.int 5))) (mC (.int 2147483629)))))
  (sApp 2 (mOp gMod (mOp gFdiv (mVar 3) (mC (.int 1009))) (mC (.int 1000))))
theorem n_while (s0 : Option MD) (many : Nat) (row : List Int) (seed : Int) (hr : Low row) (hl : row.length ≤ 4000) (h0 : 0 ≤ seed) (h1 : seed < 2147483647) (hm : many ≤ 90000) : ∃ (row' : List Int) (seed' : Int), Low row' ∧ row'.length ≤ 90000 ∧ many ≤ row'.length ∧
    runWhile (mPeekB (mB (mOp gLt (mCall gLen (mCons (mVar 2) mNil)) (mVar 1)))) [] nW 100000 [s0, some (.fz (.int (many : Int))), some (mInts row), some (.fz (.int seed)), none, none, none] = .nx [s0, some (.fz (.int (many : Int))), some (mInts row'), some (.fz (.int seed')), none, none, none] := by
  obtain ⟨ρ', a, row', seed', g1, g2, g3, rfl⟩ := runWhile_inv (c := mPeekB (mB (mOp gLt (mCall gLen (mCons (mVar 2) mNil)) (mVar 1)))) (L := []) (f := nW) (n := 100000) (ρ := [s0, some (.fz (.int (many : Int))), some (mInts row), some (.fz (.int seed)), none, none, none])
    (fun ρ => ∃ (row' : List Int) (seed' : Int), Low row' ∧ row'.length ≤ 90000 ∧ 0 ≤ seed' ∧ seed' < 2147483647 ∧ ρ = [s0, some (.fz (.int (many : Int))), some (mInts row'), some (.fz (.int seed')), none, none, none])
    (fun ρ => ∃ (row' : List Int) (seed' : Int), Low row' ∧ row'.length ≤ 90000 ∧ many ≤ row'.length ∧ ρ = [s0, some (.fz (.int (many : Int))), some (mInts row'), some (.fz (.int seed')), none, none, none])
    (fun ρ => many - (match ρ with | [_, _, some (.ml l), _, _, _, _] => l.length | _ => 0)) (by
      rintro ρ ⟨r, z, g1, g2, g3, g4, rfl⟩
      have hs := small_seed g3 g4
      have hz : r.length < sizeLine := small_lt (by omega)
      by_cases hp : r.length < many
      · refine .inr ⟨[s0, some (.fz (.int (many : Int))), some (mInts r), some (.fz (.int z)), none, none, none], [s0, some (.fz (.int (many : Int))), some (mInts (r ++ [(z * z + 69621 * z + 7 * (r.length : Int) + 5) % 2147483629 / 1009 % 1000])), some (.fz (.int ((z * z + 69621 * z + 7 * (r.length : Int) + 5) % 2147483629))), none, none, none], by simp [hp], by simp [nW, hs, hz, show small 7 = true by decide], ⟨r ++ [(z * z + 69621 * z + 7 * (r.length : Int) + 5) % 2147483629 / 1009 % 1000], _, g1.snoc (Int.emod_nonneg _ (by decide)) (Int.emod_lt_of_pos _ (by decide)), by simp; omega, Int.emod_nonneg (z * z + 69621 * z + 7 * (r.length : Int) + 5) (b := 2147483629) (by decide), Int.lt_trans (Int.emod_lt_of_pos (z * z + 69621 * z + 7 * (r.length : Int) + 5) (b := 2147483629) (by decide)) (by decide), by simp⟩, by simp; omega⟩
      · exact .inl ⟨[s0, some (.fz (.int (many : Int))), some (mInts r), some (.fz (.int z)), none, none, none], by simp [hp], r, z, g1, g2, by omega, rfl⟩) ⟨row, seed, hr, by omega, h0, h1, rfl⟩ (by simp; omega)
  exact ⟨row', seed', g1, g2, g3, a⟩
/-- what _law_numbers hands back: many numbers below 1000 -/
theorem numbers_ok (ns : List Int) (many : Nat) (hn : ns.length ≤ 63) (hm : many ≤ 90000) : ∃ l : List Int, l.length = many ∧ Low l ∧ f_w_numbers [.sc ns, .fz (.int (many : Int))] = .ok (mInts l) [.sc ns, .fz (.int (many : Int))] := by
  have hcut : cutD ns none (some 63) = ns := by
    have := cutD_pre' ns 63
    rw [List.take_of_length_le hn] at this
    exact this
  obtain ⟨row, seed, g1, g2, g3, g4, e1⟩ := n_out ns (some (.sc ns)) (some (.fz (.int (many : Int)))) [] 17 (fun _ h => by cases h) rfl (by decide) (by decide) hn
  obtain ⟨row', seed', k1, k2, k3, e2⟩ := n_while (some (.sc ns)) many row seed g1 g2 g3 g4 hm
  refine ⟨row'.take many, by simp; omega, fun x hx => k1 x (List.mem_of_mem_take hx), ?_⟩
  have e1' := e1
  simp only [mInts, List.map_nil] at e1'
  simp [f_w_numbers, fnSem, okArgs, b_w_numbers, hcut, frzs_ints, MD.frz, e1', e2, small_len]
  rw [cutD_pre', ← List.map_take, ← List.map_take, List.map_map]
  rfl
theorem str_beq (x y : Str) : (x == y) = decide (x = y) := by
  by_cases q : x = y
  · simp [q]
  · simp [q]
abbrev Wd (x : Str) : Prop := (PyData.str x).canLay0 = true
theorem gEq_str {x y : Str} (hx : Wd x) (hy : Wd y) : gEq (.str x) (.str y) = some (.bool (decide (x = y))) := by
  rw [gEq_of (shp_str hx) (shp_str hy), ← str_beq]
  simp [PyData.eqv]
theorem gNe_str {x y : Str} (hx : Wd x) (hy : Wd y) : gNe (.str x) (.str y) = some (.bool (!decide (x = y))) := by
  rw [gNe_of (shp_str hx) (shp_str hy), ← str_beq]
  simp [PyData.eqv]
theorem wd_names : ∀ w ∈ kNames, Wd w := by
  have h : kNames.all (fun w => (PyData.str w).canLay0) = true := by decide +kernel
  exact fun w hw => List.all_eq_true.mp h w hw
theorem wd_empty : Wd (Str.ofString "") := by decide +kernel
theorem ne_empty {w : Str} (h : w ∈ kNames) : ¬ w = Str.ofString "" := by
  have h' : kNames.all (fun w => decide (w ≠ Str.ofString "")) = true := by decide +kernel
  exact of_decide_eq_true (List.all_eq_true.mp h' w h)
def dueD (w : Str) : List PyData := .bool true :: kNames.map fun m => .bool (decide (m = w))
theorem due_kinds (w : Str) : dueD w = kindsD w := by
  unfold dueD kindsD
  rw [List.map_cons, List.map_map]
  congr 1
  apply List.map_congr_left
  intro m _
  show PyData.bool _ = PyData.bool _
  congr 1
  exact decide_eq_decide.mpr eq_comm
theorem due_lc (w : Str) (hw : Wd w) (S1 : Option MD) : runLc (gName' 2) [2] mYes (mOp gEq (mVar 2) (mVar 0)) (kNames.map .str) [] [some (.fz (.str w)), S1, none] = .ok (kNames.map fun m => .bool (decide (m = w))) [some (.fz (.str w)), S1, none] := by
  have := runLc_pure (g := gName' 2) (vs := [2]) (ft := mYes) (fe := mOp gEq (mVar 2) (mVar 0)) (ρ := [some (.fz (.str w)), S1, none])
    (fun _ : Str => true) (fun m => .bool (decide (m = w))) PyData.str kNames [] (fun x hx => ⟨_, _, by simp; rfl, by simp; rfl, fun _ => by
      have g := gEq_str (wd_names x hx) hw
      by_cases q : x = w
      · subst q
        exact ⟨_, by simp [g]; rfl, by simp⟩
      · exact ⟨_, by simp [g, q]; rfl, by simp⟩, fun h => by cases h⟩) (by decide)
  rw [this]
  rfl
theorem due_eq {w : Str} (hw : Wd w) : f_w_due [.fz (.str w)] = .ok (.ml ((dueD w).map .fz)) [.fz (.str w)] := by
  have l := due_lc w hw
  unfold f_w_due b_w_due dueD
  obtain ⟨kb, hk⟩ : ∃ kb : List PyData, kb = kNames.map fun m => .bool (decide (m = w)) := ⟨_, rfl⟩
  have hl : kb.length = 11 := by rw [hk]; simp [kNames]
  rw [← hk] at l ⊢
  clear hk
  have e : (kNames.map PyData.str) = [.str (Str.ofString "NoDay"), .str (Str.ofString "NoRank"), .str (Str.ofString "NoClause"), .str (Str.ofString "NoValue"), .str (Str.ofString "NoDecree"), .str (Str.ofString "TooLow"), .str (Str.ofString "Crooked"), .str (Str.ofString "Full"), .str (Str.ofString "Sealed"), .str (Str.ofString "NoHold"), .str (Str.ofString "NoPage")] := rfl
  rw [e] at l
  simp [fnSem, okArgs, l, hl, small_len]

end DR
end
section
namespace DR
open PySem L2
theorem shp_boolsK : ∀ l : List Bool, Shp 1 (.list (l.map .bool)) := fun l => shp_list fun x hx => by
  obtain ⟨b, _, rfl⟩ := List.mem_map.mp hx
  exact shp_bool b
theorem kinds_eq (x : Str) (fs : List (Str × PyData)) (hx : x ∈ kNames) : f_w_kinds [.fx x fs] = .ok (.ml ((kindsD x).map .fz)) [.fx x fs] := by
  have e : kindsD x = [.bool true, .bool (decide (x = "NoDay")), .bool (decide (x = "NoRank")), .bool (decide (x = "NoClause"))] ++ ([.bool (decide (x = "NoValue")), .bool (decide (x = "NoDecree")), .bool (decide (x = "TooLow")), .bool (decide (x = "Crooked"))] ++ [.bool (decide (x = "Full")), .bool (decide (x = "Sealed")), .bool (decide (x = "NoHold")), .bool (decide (x = "NoPage"))]) := rfl
  rw [e]
  have z4 : 4 ≤ sizeLine := by decide
  have z8 : 8 ≤ sizeLine := by decide
  have z12 : 12 ≤ sizeLine := by decide
  unfold f_w_kinds b_w_kinds
  simp [fnSem, okArgs, hx, z4, z8, z12]
theorem k53_tail (S0 S1 S2 S3 : Option MD) (L : List PyData) (clause day x4 row : Int) (K1 K2 : List PyData) (hrow : x4 % 200 = row) (a4 : atI L 4 = some (.int x4)) (s1 : S1 = some (.fz (.list L))) (s2 : S2 = some (.fz (.int clause))) (s3 : S3 = some (.fz (.int day)))
    (k1 : ∀ fs, f_w_kinds [.fx "Sealed" fs] = .ok (.ml (K1.map .fz)) [.fx "Sealed" fs]) (d1 : f_w_due [.fz (.str (Str.ofString "Sealed"))] = .ok (.ml (K1.map .fz)) [.fz (.str (Str.ofString "Sealed"))]) (e1 : gNe (.list K1) (.list K1) = some (.bool false))
    (k2 : ∀ fs, f_w_kinds [.fx "NoPage" fs] = .ok (.ml (K2.map .fz)) [.fx "NoPage" fs]) (d2 : f_w_due [.fz (.str (Str.ofString "NoPage"))] = .ok (.ml (K2.map .fz)) [.fz (.str (Str.ofString "NoPage"))]) (e2 : gNe (.list K2) (.list K2) = some (.bool false)) :
    ∃ ρ, t_law_main_3 [S0, S1, S2, S3, none, none, none] = .rt (.fz (.bool true)) (S0 :: ρ) := by
  subst s1 s2 s3
  have c1 : gNe (.int clause) (.int clause) = some (.bool false) := gNe_same (n := 0) (shp_int _)
  have c2 : gNe (.int day) (.int day) = some (.bool false) := gNe_same (n := 0) (shp_int _)
  have c3 : gNe (.int row) (.int row) = some (.bool false) := gNe_same (n := 0) (shp_int _)
  have m1 : ("Sealed" : Str) ∈ kNames := by decide
  have m2 : ("NoPage" : Str) ∈ kNames := by decide
  have l1 : List.lookup ("clause" : Str) [(("day" : Str), PyData.int day), ("clause", .int clause)] = some (.int clause) := by rfl
  have l2 : List.lookup ("day" : Str) [(("day" : Str), PyData.int day), ("clause", .int clause)] = some (.int day) := by rfl
  have l3 : List.lookup ("row" : Str) [(("row" : Str), PyData.int row)] = some (.int row) := by rfl
  unfold t_law_main_3 t_law_main_4 t_law_main_5 t_law_main_6 t_law_main_7 t_law_main_8
  obtain ⟨G, hG⟩ : ∃ G, G = f_w_kinds := ⟨_, rfl⟩
  rw [← hG] at k1 k2 ⊢
  clear hG
  obtain ⟨G, hG⟩ : ∃ G, G = f_w_due := ⟨_, rfl⟩
  rw [← hG] at d1 d2 ⊢
  clear hG
  exact ⟨_, by simp [a4, hrow, k1, d1, e1, k2, d2, e2, c1, c2, c3, m1, m2, l1, l2, l3, small_len]; rfl⟩
theorem law_eq (ns : List Int) (hn : ns.length ≤ 63) : ∃ ms, f_law_main [.sc ns] = .ok (.fz (.bool true)) ms := by
  obtain ⟨l, hl, low, e⟩ := numbers_ok ns 6 hn (by decide)
  have e' : f_w_numbers [.sc ns, .fz (.int 6)] = .ok (.ml ((l.map PyData.int).map .fz)) [.sc ns, .fz (.int 6)] := by rw [List.map_map]; exact e
  have n3 := low_at low 3
  have a0 : atI (l.map PyData.int) 0 = some (.int (num l 0)) := atI_ints (i := 0) (by omega) (by omega)
  have a1 : atI (l.map PyData.int) 1 = some (.int (num l 1)) := atI_ints (i := 1) (by omega) (by omega)
  have a2 : atI (l.map PyData.int) 2 = some (.int (num l 2)) := atI_ints (i := 2) (by omega) (by omega)
  have a3 : atI (l.map PyData.int) 3 = some (.int (num l 3)) := atI_ints (i := 3) (by omega) (by omega)
  have a4 : atI (l.map PyData.int) 4 = some (.int (num l 4)) := atI_ints (i := 4) (by omega) (by omega)
  have pw : gPow (.int 10) (.int 12) = some (.int 1000000000000) := by rfl
  obtain ⟨day, hd⟩ : ∃ day : Int, atI [PyData.int (num l 1), PyData.int (1000000000000 - num l 2)] (num l 3 % 2) = some (.int day) := by
    rcases (show num l 3 % 2 = 0 ∨ num l 3 % 2 = 1 by omega) with q | q
    · exact ⟨_, by rw [q]; rfl⟩
    · exact ⟨_, by rw [q]; rfl⟩
  have due : ∀ w : Str, w ∈ kNames → f_w_due [.fz (.str w)] = .ok (.ml ((kindsD w).map .fz)) [.fz (.str w)] := fun w hw => by
    rw [← due_kinds w]
    exact due_eq (wd_names w hw)
  obtain ⟨ρ, ht⟩ := k53_tail (some (.sc ns)) _ _ _ (l.map .int) (num l 0 % 12) day (num l 4) _ _ _ rfl a4 rfl rfl rfl
    (fun fs => kinds_eq "Sealed" fs (by decide)) (due "Sealed" (by decide)) (gNe_same (n := 1) (shp_boolsK _)) (fun fs => kinds_eq "NoPage" fs (by decide)) (due "NoPage" (by decide)) (gNe_same (n := 1) (shp_boolsK _))
  unfold f_law_main b_law_main t_law_main_1 t_law_main_2
  obtain ⟨T4, hT4⟩ : ∃ G, G = t_law_main_3 := ⟨_, rfl⟩
  rw [← hT4] at ht ⊢
  clear hT4
  obtain ⟨G1, hG1⟩ : ∃ G, G = f_w_numbers := ⟨_, rfl⟩
  rw [← hG1] at e' ⊢
  clear hG1
  obtain ⟨L, hL⟩ : ∃ L, L = l.map PyData.int := ⟨_, rfl⟩
  rw [← hL] at e' a0 a1 a2 a3 a4 ht
  exact ⟨_, by simp [fnSem, okArgs, e', a0, a1, a2, a3, pw, hd, ht, small_len]; rfl⟩

end DR
end
namespace DR
open PySem PySem.Spec PyProof.Rows L2

theorem hx_all {P : Program} {w : World} {K : PySem.W.Frag} {h : Heap} {mg : Str → Option Value} {fa : Addr} (X : K.In h) (G : h.Ns mainGlobals mg) (hfa : mg "law" = some (.ref fa)) (c : hxSays 3000 hxFs hxDs K) :
    ∃ fd : FuncData, (∀ (s : Shared) (v : Value), BindsTo s fd ⟨[v], []⟩ [("_law_script", v)]) ∧ ∀ base : Heap, K.In base → base.Ns mainGlobals mg → FnOk P w K mg base (L2.CX P w) 3 fa fd ["_law_script"] (spLaw K) := by
  have y_ValueError : mg "ValueError" = none := PySem.W.mg_none_of X G (hFree_ok (hx_fact c 0 0))
  have y_isinstance : mg "isinstance" = none := PySem.W.mg_none_of X G (hFree_ok (hx_fact c 0 1))
  have y_len : mg "len" = none := PySem.W.mg_none_of X G (hFree_ok (hx_fact c 0 2))
  have y_range : mg "range" = none := PySem.W.mg_none_of X G (hFree_ok (hx_fact c 0 3))
  have kk : Kinds K mg := hKinds_ok X G (hx_fact c 0 4)
  have xw_NoPage_row := hNoat_ok (hx_fact c 0 5)
  have xw_Sealed_clause := hNoat_ok (hx_fact c 0 6)
  have xw_Sealed_day := hNoat_ok (hx_fact c 0 7)
  obtain ⟨xg_NoPage, xo_NoPage, xt_NoPage⟩ := hOex_ok (hx_fact c 0 8)
  obtain ⟨fdxNoPage, FxNoPage⟩ := hx_dM (x := "NoPage") (m := "__init__") (q := "NoPage.__init__") (st := s_xNoPage) c 0 0
  have bxNoPage := FxNoPage.binds (ps := ["self", "row"]) fun _ _ _ _ _ _ us hl => match us, hl with | [_, _], _ => rfl
  have xm_NoPage := fun base : Heap => (⟨He.ga K "NoPage", _, _, _, PySem.W.mg_of X G xg_NoPage, oexB_ok xo_NoPage, xt_NoPage.1, beq_iff_eq.mp xt_NoPage.2, ok_xNoPage (P := P) (w := w) (mg := mg) (base := base) FxNoPage (oexB_ok xo_NoPage) xw_NoPage_row, bxNoPage⟩ : XMkDef P w K mg base "NoPage" ["row"] 1)
  obtain ⟨xg_Sealed, xo_Sealed, xt_Sealed⟩ := hOex_ok (hx_fact c 0 9)
  obtain ⟨fdxSealed, FxSealed⟩ := hx_dM (x := "Sealed") (m := "__init__") (q := "Sealed.__init__") (st := s_xSealed) c 0 1
  have bxSealed := FxSealed.binds (ps := ["self", "clause", "day"]) fun _ _ _ _ _ _ us hl => match us, hl with | [_, _, _], _ => rfl
  have xm_Sealed := fun base : Heap => (⟨He.ga K "Sealed", _, _, _, PySem.W.mg_of X G xg_Sealed, oexB_ok xo_Sealed, xt_Sealed.1, beq_iff_eq.mp xt_Sealed.2, ok_xSealed (P := P) (w := w) (mg := mg) (base := base) FxSealed (oexB_ok xo_Sealed) xw_Sealed_clause xw_Sealed_day, bxSealed⟩ : XMkDef P w K mg base "Sealed" ["clause", "day"] 1)
  have xb_NoPage := He.ba (hx_fact c 0 10)
  have xf_NoPage : XfDef K mg "NoPage" ["row"] := ⟨_, PySem.W.mg_of X G (hGlo_ok xb_NoPage.1), xfB_ok xb_NoPage.2, by simp only [List.mem_cons, List.not_mem_nil, or_false, forall_eq_or_imp, forall_eq]; exact xw_NoPage_row⟩
  have xb_Sealed := He.ba (hx_fact c 0 11)
  have xf_Sealed : XfDef K mg "Sealed" ["clause", "day"] := ⟨_, PySem.W.mg_of X G (hGlo_ok xb_Sealed.1), xfB_ok xb_Sealed.2, by simp only [List.mem_cons, List.not_mem_nil, or_false, forall_eq_or_imp, forall_eq]; exact ⟨xw_Sealed_clause, xw_Sealed_day⟩⟩
  obtain ⟨fd0, F0⟩ := hx_dG (x := "_law_numbers") (st := s_w_numbers) c 0 2
  have a0 := hGlo_ok (hx_fact c 0 12)
  have b0 := F0.binds (ps := ["_law_script", "_law_many"]) fun _ _ _ _ _ _ us hl => match us, hl with | [_, _], _ => rfl
  have o0 := fun base => ok_w_numbers (P := P) (w := w) (mg := mg) (base := base) F0 y_len y_range
  have d0 := fun base : Heap => (⟨_, _, _, o0 base, PySem.W.mg_of X G a0, F0.kp, b0⟩ : FnDef P w K mg base "_law_numbers" f_w_numbers 1)
  obtain ⟨fd1, F1⟩ := hx_dG (x := "_law_due") (st := s_w_due) c 0 3
  have a1 := hGlo_ok (hx_fact c 0 13)
  have b1 := F1.binds (ps := ["_law_name"]) fun _ _ _ _ _ _ us hl => match us, hl with | [_], _ => rfl
  have o1 := fun base => ok_w_due (P := P) (w := w) (mg := mg) (base := base) F1
  have d1 := fun base : Heap => (⟨_, _, _, o1 base, PySem.W.mg_of X G a1, F1.kp, b1⟩ : FnDef P w K mg base "_law_due" f_w_due 1)
  obtain ⟨fd2, F2⟩ := hx_dG (x := "_law_kinds") (st := s_w_kinds) c 0 4
  have a2 := hGlo_ok (hx_fact c 0 14)
  have b2 := F2.binds (ps := ["_law_e"]) fun _ _ _ _ _ _ us hl => match us, hl with | [_], _ => rfl
  have o2 := fun base => ok_w_kinds (P := P) (w := w) (mg := mg) (base := base) F2 y_ValueError y_isinstance kk
  have d2 := fun base : Heap => (⟨_, _, _, o2 base, PySem.W.mg_of X G a2, F2.kp, b2⟩ : FnDef P w K mg base "_law_kinds" f_w_kinds 1)
  obtain ⟨fd3, F3⟩ := hx_dG (x := "law") (st := s_law_main) c 0 5
  have a3 := hGlo_ok (hx_fact c 0 15)
  have b3 := F3.binds (ps := ["_law_script"]) fun _ _ _ _ _ _ us hl => match us, hl with | [_], _ => rfl
  have o3 := fun base => ok_law_main (P := P) (w := w) (mg := mg) (base := base) F3 (d1 base) (d2 base) (d0 base) y_isinstance kk (xm_NoPage base) (xm_Sealed base) xf_NoPage xf_Sealed
  have e := hfa.symm.trans (PySem.W.mg_of X G a3)
  cases e
  have bA := hx_binds (ps := ["_law_script"]) F3 fun _ _ _ _ _ _ us hl => match us, hl with | [_], _ => rfl
  exact ⟨fd3, fun s v => bA s [v] rfl, fun base _ _ => (o3 base).imp (law_imp law_eq)⟩
end DR
open PySem PySem.W PySem.Calls PyProof.Rows
set_option maxHeartbeats 0 in
theorem PySem.Challenge.cw_doomroll_k53_refusals_made_holds : PySem.Challenge.rw_doomroll_k53_refusals_made.Holds := by
  w_on; o_law
  refine HandSHeadRun.head_any (r := OpenLaw.row PySem.Challenge.rw_doomroll_k53_refusals_made) (q := view (OpenLaw.row PySem.Challenge.rw_doomroll_k53_refusals_made).prog [17]) (H := DR.hookX 3000 DR.hxFs DR.hxDs) (ob := DR.hxOb 3000 DR.hxFs DR.hxDs) (M := 12000) (loose := DR.hxNs) (d := HandSHeadRun.topDef (OpenLaw.row PySem.Challenge.rw_doomroll_k53_refusals_made).prog 17) (kwd := []) DR.hxOb_eq
    (by kernel_rfl) (fun s => by kernel_rfl) DR.hx_run (by kernel_rfl) (by kernel_rfl) (by kernel_rfl) (by rfl) (by first | assumption | decide +kernel) (by decide +kernel) ⟨rfl, rfl, rfl, rfl, rfl, by decide +kernel⟩ ?hw ?hc
  case hw => w_witness2
  case hc =>
    refine DR.walk_ofX (l := PySem.Challenge.rw_doomroll_k53_refusals_made) (n := 63) (k := 3) (x := "_law_script") (CX := fun w => L2.CX PySem.Challenge.rw_doomroll_k53_refusals_made.prog w) rfl (by decide) (by kernel_rfl) ⟨rfl, by decide, by decide⟩ ?F (fun _ _ _ _ _ h => DR.noCX h)
    intro w mg fa h Y G hmg0
    obtain ⟨K, KX, c⟩ := Y
    have hmg : mg ("law" : PySem.Str) = some (.ref fa) := by
      have e : (HandSHeadRun.topDef (OpenLaw.row PySem.Challenge.rw_doomroll_k53_refusals_made).prog 17).name = ("law" : PySem.Str) := by kernel_rfl
      rw [← e]
      exact hmg0
    obtain ⟨fd, hb, hF⟩ := DR.hx_all (P := (PySem.Challenge.rw_doomroll_k53_refusals_made).prog) (w := w) KX G hmg c
    exact ⟨K, fd, DR.spLaw K, KX, hb, fun H a ns hl _ hS => ⟨a, ns, rfl, hS, hl, fun _ => rfl⟩, hF⟩
#print axioms PySem.Challenge.cw_doomroll_k53_refusals_made_holds
