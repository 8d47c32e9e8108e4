import PyProof.Rows.All
import Wide.All
import OpenK.AllK
import Wide.FinOn
import HandS.ForMost
import HandS.Evl
import HandS.Deep
import HandS.Codes
import HandS.IsInst
import HandS.TupAny
import HandS.Style
import HandS.Zip
import KE.KUnpackStar
import HandS.Conv
import HandS.More
import KE.KDictZip
import HandS.MapObj
import HandS.ExcValue
import PySem.Challenge.RW_manyruns_k10_parts_kinds_and_looks
set_option Elab.async false
set_option linter.all false
set_option maxRecDepth 100000
/-! DL0: plain data behind the hand layer: D, what stands for it, worlds, growth, states. -/
namespace DL
open PySem L2
open PySem.PyData (strOk)
set_option autoImplicit false

/-! ### plain data -/
inductive D where
  | non | bl (b : Bool) | int (i : Int) | str (x : Str)
  | tup (l : List D) | lst (l : List D)
  | dk (ks : List Key) (l : List D)
  | ob (C : Addr) (ns : List Str) (l : List D)
  | scr (ns : List Int)
  | mob (a : Addr)
  | txt (x : Str)
instance : Inhabited D := ⟨.non⟩

/-- what is known keeps -/
abbrev Ext (H H' : Hp) : Prop := ∀ a o, H a = some o → H' a = some o
theorem Ext.rfl {H : Hp} : Ext H H := fun _ _ h => h
theorem Ext.trans {H H1 H2 : Hp} (a : Ext H H1) (b : Ext H1 H2) : Ext H H2 := fun x o h => b x o (a x o h)

mutual
inductive Rep (K : PySem.W.Frag) (B : Hp) : D → V → Prop
  | non : Rep K B .non .non
  | bl (b : Bool) : Rep K B (.bl b) (.bl b)
  | int (i : Int) : Rep K B (.int i) (.int i)
  | str {x : Str} : strOk x = true → Rep K B (.str x) (.str x)
  | scr {a : Addr} {ns : List Int} : SqL K B a (ns.map V.int) → Rep K B (.scr ns) (.ref a)
  | tup {a : Addr} {xs : List V} {ds : List D} : SqT K B a xs → ds.length ≤ sizeLine → Reps K B ds xs → Rep K B (.tup ds) (.ref a)
  | lst {a : Addr} {xs : List V} {ds : List D} : B a = some (.lst xs) → ds.length ≤ sizeLine → Reps K B ds xs → Rep K B (.lst ds) (.ref a)
  | dk {a : Addr} {ks : List Key} {vs : List V} {ds : List D} : B a = some (.dK (ks.zip vs)) → ks.length = ds.length → ds.length ≤ sizeLine → Reps K B ds vs → Rep K B (.dk ks ds) (.ref a)
  | ob {a C dx : Addr} {ns : List Str} {vs : List V} {ds : List D} : B a = some (.ins C dx (ns.zip vs)) → ns.length = ds.length → Reps K B ds vs → Rep K B (.ob C ns ds) (.ref a)
  | mob (a : Addr) : Rep K B (.mob a) (.ref a)
  | txt (x : Str) : Rep K B (.txt x) (.str x)
inductive Reps (K : PySem.W.Frag) (B : Hp) : List D → List V → Prop
  | nil : Reps K B [] []
  | cons {d : D} {v : V} {ds : List D} {vs : List V} : Rep K B d v → Reps K B ds vs → Reps K B (d :: ds) (v :: vs)
end

section
variable {K : PySem.W.Frag} {B B' H H' : Hp}
mutual
theorem Rep.mono (e : Ext B B') : ∀ (d : D) (v : V), Rep K B d v → Rep K B' d v
  | .non, _, h => by cases h; exact .non
  | .bl b, _, h => by cases h; exact .bl b
  | .int i, _, h => by cases h; exact .int i
  | .str x, _, h => by
    cases h with
    | str h => exact .str h
  | .scr ns, _, h => by
    cases h with
    | scr h => exact .scr (Evl.ex_l e h)
  | .tup l, _, h => by
    cases h with
    | tup hs hl hr => exact .tup (Evl.ex_t e hs) hl (Reps.mono e l _ hr)
  | .lst l, _, h => by
    cases h with
    | lst hs hl hr => exact .lst (e _ _ hs) hl (Reps.mono e l _ hr)
  | .dk ks l, _, h => by
    cases h with
    | dk hs h1 hl hr => exact .dk (e _ _ hs) h1 hl (Reps.mono e l _ hr)
  | .ob C ns l, _, h => by
    cases h with
    | ob hs h1 hr => exact .ob (e _ _ hs) h1 (Reps.mono e l _ hr)
  | .mob a, _, h => by cases h; exact .mob a
  | .txt x, _, h => by cases h; exact .txt x
theorem Reps.mono (e : Ext B B') : ∀ (ds : List D) (vs : List V), Reps K B ds vs → Reps K B' ds vs
  | [], _, h => by cases h; exact .nil
  | d :: ds, _, h => by
    cases h with
    | cons h1 h2 => exact .cons (Rep.mono e d _ h1) (Reps.mono e ds _ h2)
end
/-- strOk is closed -/
theorem strOk_app {x y : Str} (hx : strOk x = true) (hy : strOk y = true) : strOk (x ++ y) = true := by
  unfold strOk at *
  have e : (x ++ y).cps = x.cps ++ y.cps := rfl
  rw [e, Array.all_append, hx, hy]; rfl
theorem Rep.up {d : D} {v : V} (h : Rep K B d v) (e : Ext B B') : Rep K B' d v := Rep.mono e d v h
theorem Reps.up {d : List D} {v : List V} (h : Reps K B d v) (e : Ext B B') : Reps K B' d v := Reps.mono e d v h
theorem Reps.length : ∀ {ds : List D} {vs : List V}, Reps K B ds vs → ds.length = vs.length
  | _, _, .nil => rfl
  | _, _, .cons _ h => by simp [Reps.length h]
theorem Reps.get : ∀ {ds : List D} {vs : List V} {i : Nat} {v : V}, Reps K B ds vs → vs[i]? = some v → ∃ d, ds[i]? = some d ∧ Rep K B d v
  | _, _, _, _, .nil, e => by simp at e
  | _, _, 0, _, .cons h _, e => by
    simp only [List.getElem?_cons_zero, Option.some.injEq] at e
    subst e
    exact ⟨_, rfl, h⟩
  | _, _, i + 1, v, .cons _ t, e => by
    obtain ⟨d, h1, h2⟩ := Reps.get (i := i) (v := v) t (by simpa using e)
    exact ⟨d, by simpa using h1, h2⟩
theorem Reps.getD : ∀ {ds : List D} {vs : List V} {i : Nat} {d : D}, Reps K B ds vs → ds[i]? = some d → ∃ v, vs[i]? = some v ∧ Rep K B d v
  | _, _, _, _, .nil, e => by simp at e
  | _, _, 0, _, .cons h _, e => by
    simp only [List.getElem?_cons_zero, Option.some.injEq] at e
    subst e
    exact ⟨_, rfl, h⟩
  | _, _, i + 1, v, .cons _ t, e => by
    obtain ⟨d, h1, h2⟩ := Reps.getD (i := i) (d := v) t (by simpa using e)
    exact ⟨d, by simpa using h1, h2⟩
theorem Reps.append : ∀ {ds es : List D} {vs ws : List V}, Reps K B ds vs → Reps K B es ws → Reps K B (ds ++ es) (vs ++ ws)
  | _, _, _, _, .nil, s => s
  | _, _, _, _, .cons r t, s => .cons r (Reps.append t s)
theorem Reps.take : ∀ {ds : List D} {vs : List V} (n : Nat), Reps K B ds vs → Reps K B (ds.take n) (vs.take n)
  | _, _, 0, _ => .nil
  | _, _, _ + 1, .nil => .nil
  | _, _, n + 1, .cons r t => .cons r (Reps.take n t)
theorem Reps.drop : ∀ {ds : List D} {vs : List V} (n : Nat), Reps K B ds vs → Reps K B (ds.drop n) (vs.drop n)
  | _, _, 0, r => r
  | _, _, _ + 1, .nil => .nil
  | _, _, n + 1, .cons _ t => Reps.drop n t
theorem Reps.rev {ds : List D} {vs : List V} (h : Reps K B ds vs) : Reps K B ds.reverse vs.reverse := by
  induction h using Reps.rec (motive_1 := fun _ _ _ => True) with
  | nil => exact .nil
  | cons h1 h2 _ ih =>
    rw [List.reverse_cons, List.reverse_cons]
    exact Reps.append ih (.cons h1 .nil)
  | _ => trivial
theorem Reps.set : ∀ {ds : List D} {vs : List V} (i : Nat) {d : D} {v : V}, Reps K B ds vs → Rep K B d v → Reps K B (ds.set i d) (vs.set i v)
  | _, _, _, _, _, .nil, _ => .nil
  | _, _, 0, _, _, .cons _ t, h => .cons h t
  | _, _, n + 1, _, _, .cons r t, h => .cons r (Reps.set n t h)
end

/-! ### owned trees -/
inductive OT where
  | fz (d : D)
  | ow (l : List OT)
  | od (ks : List Key) (l : List OT)
mutual
def OT.toD : OT → D
  | .fz d => d
  | .ow l => .lst (OT.toDs l)
  | .od ks l => .dk ks (OT.toDs l)
def OT.toDs : List OT → List D
  | [] => []
  | t :: ts => OT.toD t :: OT.toDs ts
end
theorem OT.toDs_map : ∀ l : List OT, OT.toDs l = l.map OT.toD
  | [] => rfl
  | t :: ts => by rw [OT.toDs, OT.toDs_map ts, List.map_cons]
@[simp] theorem OT.toD_fz (d : D) : (OT.fz d).toD = d := rfl
@[simp] theorem OT.toD_ow (l : List OT) : (OT.ow l).toD = .lst (l.map OT.toD) := by rw [OT.toD, OT.toDs_map]
@[simp] theorem OT.toD_od (ks : List Key) (l : List OT) : (OT.od ks l).toD = .dk ks (l.map OT.toD) := by rw [OT.toD, OT.toDs_map]
@[simp] theorem OT.map_fz (l : List D) : (l.map OT.fz).map OT.toD = l := by
  rw [List.map_map]
  conv => rhs; rw [← List.map_id l]
  rfl

mutual
inductive RepO (K : PySem.W.Frag) (B H : Hp) : OT → V → List Addr → Prop
  | fz {d : D} {v : V} : Rep K B d v → RepO K B H (.fz d) v []
  | ow {p : Addr} {xs : List V} {l : List OT} {T : List Addr} : H p = some (.lst xs) → l.length ≤ sizeLine → RepOs K B H l xs T → RepO K B H (.ow l) (.ref p) (p :: T)
  | od {p : Addr} {ks : List Key} {xs : List V} {l : List OT} {T : List Addr} : H p = some (.dK (ks.zip xs)) → ks.length = l.length → l.length ≤ sizeLine → RepOs K B H l xs T → RepO K B H (.od ks l) (.ref p) (p :: T)
inductive RepOs (K : PySem.W.Frag) (B H : Hp) : List OT → List V → List Addr → Prop
  | nil : RepOs K B H [] [] []
  | cons {t : OT} {v : V} {ts : List OT} {vs : List V} {T T' : List Addr} : RepO K B H t v T → RepOs K B H ts vs T' → RepOs K B H (t :: ts) (v :: vs) (T ++ T')
end
section
variable {K : PySem.W.Frag} {B B' H H' : Hp}
mutual
theorem RepO.mono (e : Ext B B') : ∀ (t : OT) (v : V) (T : List Addr), (∀ p ∈ T, H' p = H p) → RepO K B H t v T → RepO K B' H' t v T
  | .fz d, _, _, _, h => by
    cases h with
    | fz h => exact .fz (h.up e)
  | .ow l, _, _, hT, h => by
    cases h with
    | ow hp hl hr => exact .ow (by rw [hT _ List.mem_cons_self]; exact hp) hl (RepOs.mono e l _ _ (fun p q => hT p (List.mem_cons_of_mem _ q)) hr)
  | .od ks l, _, _, hT, h => by
    cases h with
    | od hp hk hl hr => exact .od (by rw [hT _ List.mem_cons_self]; exact hp) hk hl (RepOs.mono e l _ _ (fun p q => hT p (List.mem_cons_of_mem _ q)) hr)
theorem RepOs.mono (e : Ext B B') : ∀ (l : List OT) (xs : List V) (T : List Addr), (∀ p ∈ T, H' p = H p) → RepOs K B H l xs T → RepOs K B' H' l xs T
  | [], _, _, _, h => by cases h; exact .nil
  | t :: ts, _, _, hT, h => by
    cases h with
    | cons h1 h2 => exact .cons (RepO.mono e t _ _ (fun p q => hT p (List.mem_append_left _ q)) h1) (RepOs.mono e ts _ _ (fun p q => hT p (List.mem_append_right _ q)) h2)
end
mutual
/-- a tree as it stands, as data -/
theorem RepO.data (e : Ext B B') : ∀ (t : OT) (v : V) (T : List Addr), (∀ p ∈ T, B' p = H p) → RepO K B H t v T → Rep K B' t.toD v
  | .fz d, _, _, _, h => by
    cases h with
    | fz h => exact h.up e
  | .ow l, _, _, hT, h => by
    cases h with
    | ow hp hl hr =>
      refine .lst (xs := _) ?_ ?_ (RepOs.data e l _ _ (fun p q => hT p (List.mem_cons_of_mem _ q)) hr)
      · rw [hT _ List.mem_cons_self]; exact hp
      · rw [OT.toDs_map, List.length_map]; exact hl
  | .od ks l, _, _, hT, h => by
    cases h with
    | od hp hk hl hr =>
      refine .dk (vs := _) ?_ ?_ ?_ (RepOs.data e l _ _ (fun p q => hT p (List.mem_cons_of_mem _ q)) hr)
      · rw [hT _ List.mem_cons_self]; exact hp
      · rw [OT.toDs_map, List.length_map]; exact hk
      · rw [OT.toDs_map, List.length_map]; exact hl
theorem RepOs.data (e : Ext B B') : ∀ (l : List OT) (xs : List V) (T : List Addr), (∀ p ∈ T, B' p = H p) → RepOs K B H l xs T → Reps K B' (OT.toDs l) xs
  | [], _, _, _, h => by cases h; exact .nil
  | t :: ts, _, _, hT, h => by
    cases h with
    | cons h1 h2 => exact .cons (RepO.data e t _ _ (fun p q => hT p (List.mem_append_left _ q)) h1) (RepOs.data e ts _ _ (fun p q => hT p (List.mem_append_right _ q)) h2)
end
theorem RepOs.fzs : ∀ {ds : List D} {vs : List V}, Reps K B ds vs → RepOs K B H (ds.map OT.fz) vs []
  | _, _, .nil => .nil
  | _, _, .cons h t => RepOs.cons (T := []) (T' := []) (.fz h) (RepOs.fzs t)
theorem RepOs.length : ∀ {ds : List OT} {vs : List V} {T : List Addr}, RepOs K B H ds vs T → ds.length = vs.length
  | _, _, _, .nil => rfl
  | _, _, _, .cons _ h => by simp [RepOs.length h]
mutual
/-- owned addresses stand -/
theorem RepO.some : ∀ {t : OT} {v : V} {T : List Addr}, RepO K B H t v T → ∀ p ∈ T, (H p).isSome = true
  | _, _, _, .fz _, p, hp => by cases hp
  | _, _, _, .ow h _ r, q, hq => by
    rcases List.mem_cons.mp hq with e | hq
    · rw [e, h]; rfl
    · exact RepOs.some r q hq
  | _, _, _, .od h _ _ r, q, hq => by
    rcases List.mem_cons.mp hq with e | hq
    · rw [e, h]; rfl
    · exact RepOs.some r q hq
theorem RepOs.some : ∀ {t : List OT} {v : List V} {T : List Addr}, RepOs K B H t v T → ∀ p ∈ T, (H p).isSome = true
  | _, _, _, .nil, p, hp => by cases hp
  | _, _, _, .cons r1 r2, q, hq => by
    rcases List.mem_append.mp hq with hq | hq
    · exact RepO.some r1 q hq
    · exact RepOs.some r2 q hq
end
end

/-! ### environments -/
abbrev Env := List (Option OT)
inductive SimE (K : PySem.W.Frag) (B H : Hp) : Env → St → List Addr → Prop
  | nil : SimE K B H [] [] []
  | none {ρ : Env} {σ : St} {o : Option V} {S : List Addr} : SimE K B H ρ σ S → SimE K B H (Option.none :: ρ) (o :: σ) S
  | some {t : OT} {v : V} {ρ : Env} {σ : St} {T S : List Addr} : RepO K B H t v T → SimE K B H ρ σ S → SimE K B H (Option.some t :: ρ) (Option.some v :: σ) (T ++ S)
section
variable {K : PySem.W.Frag} {B B' H H' : Hp}
theorem SimE.mono (e : Ext B B') : ∀ {ρ : Env} {σ : St} {S : List Addr}, (∀ p ∈ S, H' p = H p) → SimE K B H ρ σ S → SimE K B' H' ρ σ S
  | _, _, _, _, .nil => .nil
  | _, _, _, h, .none r => .none (SimE.mono e h r)
  | _, _, _, h, .some r q => .some (RepO.mono e _ _ _ (fun p z => h p (List.mem_append_left _ z)) r) (SimE.mono e (fun p z => h p (List.mem_append_right _ z)) q)
theorem SimE.some_of : ∀ {ρ : Env} {σ : St} {S : List Addr}, SimE K B H ρ σ S → ∀ p ∈ S, (H p).isSome = true
  | _, _, _, .nil, _, h => by cases h
  | _, _, _, .none r, p, h => SimE.some_of r p h
  | _, _, _, .some r q, p, h => by
    rcases List.mem_append.mp h with h | h
    · exact r.some p h
    · exact SimE.some_of q p h
/-- the part of a slot -/
theorem SimE.split : ∀ {ρ : Env} {σ : St} {S : List Addr} {i : Nat} {x : Option OT}, SimE K B H ρ σ S → ρ[i]? = Option.some x → ∃ A T C, S = A ++ (T ++ C) ∧
    (∀ t, x = Option.some t → ∃ v, σ[i]? = Option.some (Option.some v) ∧ RepO K B H t v T) ∧
    (∀ B' H' t' v' T', Ext B B' → (∀ p ∈ A ++ C, H' p = H p) → RepO K B' H' t' v' T' → SimE K B' H' (ρ.set i (Option.some t')) (σ.set i (Option.some v')) (A ++ (T' ++ C))) ∧
    (∀ B' H' o, Ext B B' → (∀ p ∈ A ++ C, H' p = H p) → SimE K B' H' (ρ.set i Option.none) (σ.set i o) (A ++ C)) ∧
    (∀ B' H' t' v T', Ext B B' → (∀ p ∈ A ++ C, H' p = H p) → σ[i]? = Option.some (Option.some v) → RepO K B' H' t' v T' → SimE K B' H' (ρ.set i (Option.some t')) σ (A ++ (T' ++ C)))
  | _, _, _, _, _, .nil, e => by simp at e
  | _, _, S, 0, x, .none (σ := σ) (o := o) r, e => by
    simp only [List.getElem?_cons_zero, Option.some.injEq] at e
    subst e
    refine ⟨[], [], S, rfl, fun t h => (nomatch h), fun B' H' t' v' T' he hk hr => ?_, fun B' H' o he hk => ?_, fun B' H' t' v' T' he hk hσ hr => ?_⟩
    · exact SimE.some (S := S) hr (SimE.mono he (fun p hp => hk p (by simpa using hp)) r)
    · exact .none (SimE.mono he (fun p hp => hk p (by simpa using hp)) r)
    · simp only [List.getElem?_cons_zero, Option.some.injEq] at hσ
      subst hσ
      exact SimE.some (S := S) hr (SimE.mono he (fun p hp => hk p (by simpa using hp)) r)
  | _, _, _, 0, x, .some (T := T) (S := S) r q, e => by
    simp only [List.getElem?_cons_zero, Option.some.injEq] at e
    subst e
    refine ⟨[], T, S, rfl, fun t h => ?_, fun B' H' t' v' T' he hk hr => ?_, fun B' H' o he hk => ?_, fun B' H' t' v' T' he hk hσ hr => ?_⟩
    · cases h; exact ⟨_, rfl, r⟩
    · exact SimE.some (S := S) hr (SimE.mono he (fun p hp => hk p (by simpa using hp)) q)
    · exact .none (SimE.mono he (fun p hp => hk p (by simpa using hp)) q)
    · simp only [List.getElem?_cons_zero, Option.some.injEq] at hσ
      cases hσ
      exact SimE.some (S := S) hr (SimE.mono he (fun p hp => hk p (by simpa using hp)) q)
  | _, _, _, i + 1, x, .none r, e => by
    obtain ⟨A, T, C, h1, h2, h3, h4, h5⟩ := SimE.split (i := i) (x := x) r (by simpa using e)
    refine ⟨A, T, C, h1, fun t h => ?_, fun B' H' t' v' T' he hk hr => ?_, fun B' H' o he hk => ?_, fun B' H' t' v' T' he hk hσ hr => ?_⟩
    · obtain ⟨v, a, b⟩ := h2 t h
      exact ⟨v, by simpa using a, b⟩
    · exact .none (h3 B' H' t' v' T' he hk hr)
    · exact .none (h4 B' H' o he hk)
    · exact .none (h5 B' H' t' v' T' he hk (by simpa using hσ) hr)
  | _, _, _, i + 1, x, .some (T := T0) r q, e => by
    obtain ⟨A, T, C, h1, h2, h3, h4, h5⟩ := SimE.split (i := i) (x := x) q (by simpa using e)
    have up : ∀ B' H', Ext B B' → (∀ p ∈ (T0 ++ A) ++ C, H' p = H p) → RepO K B' H' _ _ T0 := fun B' H' he hk => RepO.mono he _ _ _ (fun p hp => hk p (List.mem_append_left _ (List.mem_append_left _ hp))) r
    have sub : ∀ (H' : Hp), (∀ p ∈ (T0 ++ A) ++ C, H' p = H p) → ∀ p ∈ A ++ C, H' p = H p := fun H' hk p hp => hk p (by
      rcases List.mem_append.mp hp with z | z
      · exact List.mem_append_left _ (List.mem_append_right _ z)
      · exact List.mem_append_right _ z)
    refine ⟨T0 ++ A, T, C, by rw [h1, List.append_assoc], fun t h => ?_, fun B' H' t' v' T' he hk hr => ?_, fun B' H' o he hk => ?_, fun B' H' t' v' T' he hk hσ hr => ?_⟩
    · obtain ⟨v, a, b⟩ := h2 t h
      exact ⟨v, by simpa using a, b⟩
    · rw [List.append_assoc]
      exact .some (up B' H' he hk) (h3 B' H' t' v' T' he (sub H' hk) hr)
    · rw [List.append_assoc]
      exact .some (up B' H' he hk) (h4 B' H' o he (sub H' hk))
    · rw [List.append_assoc]
      exact .some (up B' H' he hk) (h5 B' H' t' v' T' he (sub H' hk) (by simpa using hσ) hr)
theorem SimE.length : ∀ {ρ : Env} {σ : St} {S : List Addr}, SimE K B H ρ σ S → ρ.length = σ.length
  | _, _, _, .nil => rfl
  | _, _, _, .none r => by simp [SimE.length r]
  | _, _, _, .some _ r => by simp [SimE.length r]
end

/-! ### memory that changes behind one's back; what is known; growth; states -/
/-- an object that may change: what it holds now -/
inductive Mo where
  | lst (l : List D)
  | ins (C : Addr) (ns : List Str) (l : List D)
  | dk (ks : List Key) (l : List D)
abbrev Mem := Addr → Option Mo
def Mem.no : Mem := fun _ => none
def Mem.put (M : Mem) (p : Addr) (o : Mo) : Mem := fun a => if a = p then some o else M a
theorem Mem.put_same {M : Mem} {p : Addr} {o : Mo} : M.put p o p = some o := if_pos rfl
theorem Mem.put_ne {M : Mem} {p a : Addr} {o : Mo} (h : a ≠ p) : M.put p o a = M a := if_neg h
theorem Mem.put_put {M : Mem} {p : Addr} {o o' : Mo} : (M.put p o).put p o' = M.put p o' := by
  funext a
  unfold Mem.put
  by_cases h : a = p
  · rw [if_pos h, if_pos h]
  · rw [if_neg h, if_neg h, if_neg h]
/-- what is known for good, what is known to change -/
structure Kn where
  b : Hp
  m : Mem
instance : Coe Kn Hp := ⟨Kn.b⟩
def RepM (K : PySem.W.Frag) (B H : Hp) (a : Addr) : Mo → Prop
  | .lst l => ∃ xs, H a = some (.lst xs) ∧ l.length ≤ sizeLine ∧ Reps K B l xs
  | .ins C ns l => ∃ dx vs, H a = some (.ins C dx (ns.zip vs)) ∧ ns.length = l.length ∧ Reps K B l vs
  | .dk ks l => ∃ vs, H a = some (.dK (ks.zip vs)) ∧ ks.length = l.length ∧ l.length ≤ sizeLine ∧ Reps K B l vs
section
variable {K : PySem.W.Frag} {B B' H H' : Hp}
theorem RepM.some {a : Addr} {o : Mo} (h : RepM K B H a o) : H a ≠ none := by
  cases o with
  | lst l => obtain ⟨xs, e, _⟩ := h; rw [e]; exact fun z => nomatch z
  | ins C ns l => obtain ⟨dx, vs, e, _⟩ := h; rw [e]; exact fun z => nomatch z
  | dk ks l => obtain ⟨vs, e, _⟩ := h; rw [e]; exact fun z => nomatch z
theorem RepM.mono {a : Addr} {o : Mo} (e : Ext B B') (k : H' a = H a) (h : RepM K B H a o) : RepM K B' H' a o := by
  cases o with
  | lst l => obtain ⟨xs, q, hl, r⟩ := h; exact ⟨xs, k.trans q, hl, r.up e⟩
  | ins C ns l => obtain ⟨dx, vs, q, hl, r⟩ := h; exact ⟨dx, vs, k.trans q, hl, r.up e⟩
  | dk ks l => obtain ⟨vs, q, h1, h2, r⟩ := h; exact ⟨vs, k.trans q, h1, h2, r.up e⟩
end
structure Base (K : PySem.W.Frag) (B : Kn) (H : Hp) : Prop where
  bh : Ext B.b H
  wd : ∀ a o, B.m a = some o → B.b a = none ∧ RepM K B.b H a o
structure Grow (K : PySem.W.Frag) (B : Kn) (H : Hp) (B' : Kn) (H' : Hp) : Prop where
  b : Ext B.b B'.b
  h : ∀ a o, B.m a = none → H a = some o → H' a = some o
  d : ∀ a, B.m a ≠ none → B'.m a ≠ none
  n : ∀ a, B'.m a ≠ none → B.m a ≠ none ∨ H a = none
  f : ∀ a o, B'.b a = some o → B.b a = some o ∨ H a = none
  base : Base K B' H'
section
variable {K : PySem.W.Frag} {B B1 B2 : Kn} {H H1 H2 : Hp}
theorem Base.mh (h : Base K B H) {a : Addr} (e : B.m a ≠ none) : B.b a = none ∧ H a ≠ none := by
  cases q : B.m a with
  | none => exact absurd q e
  | some o => exact ⟨(h.wd a o q).1, (h.wd a o q).2.some⟩
theorem Base.grow (h : Base K B H) : Grow K B H B H := ⟨Ext.rfl, fun _ _ _ e => e, fun _ z => z, fun _ z => .inl z, fun _ _ e => .inl e, h⟩
theorem Base.bd (h : Base K B H) {a : Addr} {o : HO} (e : B.b a = some o) : B.m a = none := by
  by_cases z : B.m a = none
  · exact z
  · have := (h.mh z).1; rw [e] at this; cases this
theorem Grow.free (g : Grow K B H B1 H1) {a : Addr} (e : H1 a = none) : H a = none := by
  cases q : H a with
  | none => rfl
  | some o =>
    by_cases z : B.m a = none
    · rw [g.h a o z q] at e; cases e
    · exact absurd e (g.base.mh (g.d a z)).2
/-- what is no object that changes, stays none -/
theorem Grow.nm (g : Grow K B H B1 H1) {a : Addr} (e : B.m a = none) (h : H a ≠ none) : B1.m a = none := by
  by_cases z : B1.m a = none
  · exact z
  · rcases g.n a z with q | q
    · exact absurd e q
    · exact absurd q h
theorem Grow.trans (g : Grow K B H B1 H1) (k : Grow K B1 H1 B2 H2) : Grow K B H B2 H2 :=
  ⟨g.b.trans k.b, fun a o z e => k.h a o (g.nm z (by rw [e]; exact fun q => nomatch q)) (g.h a o z e), fun a z => k.d a (g.d a z), fun a z => by
    rcases k.n a z with q | q
    · exact g.n a q
    · exact .inr (g.free q), fun a o e => by
    rcases k.f a o e with z | z
    · exact g.f a o z
    · exact .inr (g.free z), k.base⟩
/-- the heap less what may change -/
def Hm (M : Mem) (H : Hp) : Hp := fun a => match M a with
  | none => H a
  | some _ => none
theorem Hm_of {M : Mem} {a : Addr} (h : M a = none) : Hm M H a = H a := by unfold Hm; rw [h]
theorem Hm_no {M : Mem} {a : Addr} (h : M a ≠ none) : Hm M H a = none := by
  unfold Hm
  cases q : M a with
  | none => exact absurd q h
  | some o => rfl
theorem Hm_ext {M : Mem} : Ext (Hm M H) H := fun a o e => by
  by_cases z : M a = none
  · rw [Hm_of z] at e; exact e
  · rw [Hm_no z] at e; cases e
theorem Grow.hm (g : Grow K B H B1 H1) : Ext (Hm B.m H) (Hm B1.m H1) := fun a o e => by
  by_cases z : B.m a = none
  · rw [Hm_of z] at e
    rw [Hm_of (g.nm z (by rw [e]; exact fun q => nomatch q))]
    exact g.h a o z e
  · rw [Hm_no z] at e; cases e
theorem Base.hm (h : Base K B H) : Ext B.b (Hm B.m H) := fun a o e => by
  rw [Hm_of (h.bd e)]; exact h.bh a o e
def Kn.upd (B : Kn) (p : Addr) (o : HO) : Kn := ⟨L2.upd B.b p o, B.m⟩
theorem Base.fresh (h : Base K B H) {p : Addr} (e : H p = none) : B.b p = none ∧ B.m p = none := by
  constructor
  · cases q : B.b p with
    | none => rfl
    | some u => rw [h.bh p u q] at e; cases e
  · by_cases z : B.m p = none
    · exact z
    · exact absurd e (h.mh z).2
/-- a new object that is known from now on -/
theorem Base.new (h : Base K B H) {p : Addr} {o : HO} (e : H p = none) : Grow K B H (B.upd p o) (upd H p o) := by
  obtain ⟨hb, nd⟩ := h.fresh e
  have eb : Ext B.b (L2.upd B.b p o) := Evl.Ex.new hb
  refine ⟨eb, fun a u _ q => Evl.Ex.new e a u q, fun a z => z, fun a z => .inl z, fun a u q => ?_, ⟨fun a u q => ?_, fun a u z => ?_⟩⟩
  · by_cases k : a = p
    · subst k; exact .inr e
    · exact .inl ((upd_ne k).symm.trans q)
  · by_cases k : a = p
    · subst k
      have q : L2.upd B.b a o a = some u := q
      rw [upd_same] at q ⊢; exact q
    · have q : L2.upd B.b p o a = some u := q
      rw [upd_ne k] at q ⊢; exact h.bh a u q
  · have z : B.m a = some u := z
    have k : a ≠ p := fun q => by rw [q, nd] at z; cases z
    refine ⟨(upd_ne k).trans (h.wd a u z).1, (h.wd a u z).2.mono eb (upd_ne k)⟩
/-- a new object that is one's own -/
theorem Base.newO (h : Base K B H) {p : Addr} {o : HO} (e : H p = none) : Grow K B H B (upd H p o) ∧ B.b p = none ∧ B.m p = none := by
  obtain ⟨hb, nd⟩ := h.fresh e
  refine ⟨⟨Ext.rfl, fun a u _ q => Evl.Ex.new e a u q, fun a z => z, fun a z => .inl z, fun a u q => .inl q, ⟨fun a u q => Evl.Ex.new e a u (h.bh a u q), fun a u z => ?_⟩⟩, hb, nd⟩
  have k : a ≠ p := fun q => by rw [q, nd] at z; cases z
  exact ⟨(h.wd a u z).1, (h.wd a u z).2.mono Ext.rfl (upd_ne k)⟩
def Kn.put (B : Kn) (p : Addr) (o : Mo) : Kn := ⟨B.b, B.m.put p o⟩
/-- one's own object becomes one that may change behind one's back -/
theorem Grow.mob {B0 : Kn} {H0 : Hp} (g : Grow K B0 H0 B H) {p : Addr} {o : Mo} (h0 : H0 p = none) (hb : B.b p = none) (nm : B.m p = none) (r : RepM K B.b H p o) : Grow K B0 H0 (B.put p o) H := by
  refine ⟨g.b, g.h, fun a z => ?_, fun a z => ?_, g.f, ⟨g.base.bh, fun a u z => ?_⟩⟩
  · by_cases k : a = p
    · subst k; show B.m.put a o a ≠ none; rw [Mem.put_same]; exact fun q => nomatch q
    · show B.m.put p o a ≠ none; rw [Mem.put_ne k]; exact g.d a z
  · by_cases k : a = p
    · subst k; exact .inr h0
    · have z : B.m.put p o a ≠ none := z
      rw [Mem.put_ne k] at z; exact g.n a z
  · by_cases k : a = p
    · subst k
      have z : B.m.put a o a = some u := z
      rw [Mem.put_same] at z; cases z; exact ⟨hb, r⟩
    · have z : B.m.put p o a = some u := z
      rw [Mem.put_ne k] at z; exact g.base.wd a u z
/-- an object that changes, changes -/
theorem Base.chg (h : Base K B H) {p : Addr} {o : Mo} {u : HO} (hp : B.m p ≠ none) (r : RepM K B.b (upd H p u) p o) : Grow K B H (B.put p o) (upd H p u) := by
  refine ⟨Ext.rfl, fun a v z q => ?_, fun a z => ?_, fun a z => ?_, fun a v q => .inl q, ⟨fun a v q => ?_, fun a v z => ?_⟩⟩
  · have k : a ≠ p := fun q => hp (by rw [← q]; exact z)
    rw [upd_ne k]; exact q
  · by_cases k : a = p
    · subst k; show B.m.put a o a ≠ none; rw [Mem.put_same]; exact fun q => nomatch q
    · show B.m.put p o a ≠ none; rw [Mem.put_ne k]; exact z
  · by_cases k : a = p
    · subst k; exact .inl hp
    · have z : B.m.put p o a ≠ none := z
      rw [Mem.put_ne k] at z; exact .inl z
  · have k : a ≠ p := fun e => hp (by rw [← e]; exact h.bd q)
    rw [upd_ne k]; exact h.bh a v q
  · by_cases k : a = p
    · subst k
      have z : B.m.put a o a = some v := z
      rw [Mem.put_same] at z; cases z; exact ⟨(h.mh hp).1, r⟩
    · have z : B.m.put p o a = some v := z
      rw [Mem.put_ne k] at z
      exact ⟨(h.wd a v z).1, (h.wd a v z).2.mono Ext.rfl (upd_ne k)⟩
/-- one's own new things become known -/
noncomputable def addB (B H : Hp) (T : List Addr) : Hp := fun a => @ite _ (a ∈ T) (Classical.propDecidable _) (H a) (B a)
theorem addB_in {B : Hp} {T : List Addr} {a : Addr} (h : a ∈ T) : addB B H T a = H a := by unfold addB; rw [if_pos h]
theorem addB_out {B : Hp} {T : List Addr} {a : Addr} (h : a ∉ T) : addB B H T a = B a := by unfold addB; rw [if_neg h]
noncomputable def Kn.add (B : Kn) (H : Hp) (T : List Addr) : Kn := ⟨addB B.b H T, B.m⟩
theorem Base.ext_add (h : Base K B H) {T : List Addr} : Ext B.b (B.add H T).b := fun a o e => by
  show addB B.b H T a = some o
  by_cases z : a ∈ T
  · rw [addB_in z]; exact h.bh a o e
  · rw [addB_out z]; exact e
theorem Grow.frz (g : Grow K B H B1 H1) {T : List Addr} (f : ∀ p ∈ T, H p = none) (d : ∀ p ∈ T, B1.m p = none) : Grow K B H (B1.add H1 T) H1 :=
  ⟨g.b.trans g.base.ext_add, g.h, g.d, g.n, fun a o e => by
    have e : addB B1.b H1 T a = some o := e
    by_cases z : a ∈ T
    · exact .inr (f a z)
    · rw [addB_out z] at e; exact g.f a o e, ⟨fun a o e => by
      have e : addB B1.b H1 T a = some o := e
      by_cases z : a ∈ T
      · rw [addB_in z] at e; exact e
      · rw [addB_out z] at e; exact g.base.bh a o e, fun a o z => by
      have k : a ∉ T := fun q => by have := d a q; have z : B1.m a = some o := z; rw [this] at z; cases z
      exact ⟨(addB_out k).trans (g.base.wd a o z).1, (g.base.wd a o z).2.mono g.base.ext_add rfl⟩⟩⟩
end

/-- a state inside a def: what is known, the names' trees, one's own addresses -/
structure Stt (K : PySem.W.Frag) (B : Kn) (H : Hp) (ρ : Env) (σ : St) (S : List Addr) : Prop where
  base : Base K B H
  sim : SimE K B.b H ρ σ S
  nd : S.Nodup
  out : ∀ p ∈ S, B.b p = none ∧ B.m p = none
section
variable {K : PySem.W.Frag} {B B1 : Kn} {H H1 : Hp} {ρ : Env} {σ : St} {S : List Addr}
theorem Stt.some_of (s : Stt K B H ρ σ S) {p : Addr} (hp : p ∈ S) : H p ≠ none := fun e => by
  have := s.sim.some_of p hp
  rw [e] at this; cases this
theorem Stt.grow (s : Stt K B H ρ σ S) (g : Grow K B H B1 H1) : Stt K B1 H1 ρ σ S := by
  have he : ∀ p ∈ S, H1 p = H p := fun p hp => by
    cases q : H p with
    | none => exact absurd q (s.some_of hp)
    | some o => exact g.h p o (s.out p hp).2 q
  refine ⟨g.base, SimE.mono g.b he s.sim, s.nd, fun p hp => ⟨?_, g.nm (s.out p hp).2 (s.some_of hp)⟩⟩
  cases q : B1.b p with
  | none => rfl
  | some o =>
    rcases g.f p o q with z | z
    · rw [(s.out p hp).1] at z; cases z
    · exact absurd z (s.some_of hp)
end
end DL

/-! DL1: readings over plain data: names, constants, operators, displays, calls, tests. -/
namespace DL
open PySem L2
open PySem.PyData (strOk)
set_option autoImplicit false

abbrev RD := Env → Mem → (D → Mem → Prop) → Prop
abbrev RO := Env → Mem → (OT → Mem → Prop) → Prop
abbrev RT := Env → Mem → (Bool → Mem → Prop) → Prop
abbrev RA := Env → Mem → (List D → Mem → Prop) → Prop

/-- one's own new things: what a reading of an owned result hands on -/
structure Own (B : Kn) (H : Hp) (B' : Kn) (T : List Addr) : Prop where
  nd : T.Nodup
  fr : ∀ p ∈ T, H p = none
  nb : ∀ p ∈ T, B'.b p = none
  nw : ∀ p ∈ T, B'.m p = none
theorem Own.nil {B B' : Kn} {H : Hp} : Own B H B' [] := ⟨.nil, fun _ h => (nomatch h), fun _ h => (nomatch h), fun _ h => (nomatch h)⟩

def SndD (K : PySem.W.Frag) (te : TE) (f : RD) : Prop :=
  ∀ (B : Kn) (H : Hp) (ρ : Env) (σ : St) (S : List Addr) (P : D → Mem → Prop) (Q : VK), Stt K B H ρ σ S → f ρ B.m P → (∀ d v B' H', Grow K B H B' H' → Rep K B' d v → P d B'.m → Q v H') → te σ H Q
def SndO (K : PySem.W.Frag) (te : TE) (f : RO) : Prop :=
  ∀ (B : Kn) (H : Hp) (ρ : Env) (σ : St) (S : List Addr) (P : OT → Mem → Prop) (Q : VK), Stt K B H ρ σ S → f ρ B.m P → (∀ t v B' H' T, Grow K B H B' H' → RepO K B' H' t v T → Own B H B' T → P t B'.m → Q v H') → te σ H Q
def SndV (K : PySem.W.Frag) (te : TE) (f : RD) : Prop :=
  ∀ (B : Kn) (H : Hp) (ρ : Env) (σ : St) (S : List Addr) (P : D → Mem → Prop) (Q : VK), Stt K B H ρ σ S → f ρ B.m P → (∀ d v B' H', Grow K B H B' H' → Rep K (Hm B'.m H') d v → P d B'.m → Q v H') → te σ H Q
def SndT (K : PySem.W.Frag) (tt : TT) (f : RT) : Prop :=
  ∀ (B : Kn) (H : Hp) (ρ : Env) (σ : St) (S : List Addr) (P : Bool → Mem → Prop) (Q : Bool → Hp → Prop), Stt K B H ρ σ S → f ρ B.m P → (∀ b B' H', Grow K B H B' H' → P b B'.m → Q b H') → tt σ H Q
def SndA (K : PySem.W.Frag) (ta : TA) (f : RA) : Prop :=
  ∀ (B : Kn) (H : Hp) (ρ : Env) (σ : St) (S : List Addr) (P : List D → Mem → Prop) (Q : List V → Hp → Prop), Stt K B H ρ σ S → f ρ B.m P → (∀ d v B' H', Grow K B H B' H' → Reps K B' d v → P d B'.m → Q v H') → ta σ H Q
def SndAV (K : PySem.W.Frag) (ta : TA) (f : RA) : Prop :=
  ∀ (B : Kn) (H : Hp) (ρ : Env) (σ : St) (S : List Addr) (P : List D → Mem → Prop) (Q : List V → Hp → Prop), Stt K B H ρ σ S → f ρ B.m P → (∀ d v B' H', Grow K B H B' H' → Reps K (Hm B'.m H') d v → P d B'.m → Q v H') → ta σ H Q

structure ED (X : Cx) (e : Expr) (f : RD) : Prop where
  ex : ∃ te, PE X e te ∧ SndD X.K te f
structure EO (X : Cx) (e : Expr) (f : RO) : Prop where
  ex : ∃ te, PE X e te ∧ SndO X.K te f
structure EV (X : Cx) (e : Expr) (f : RD) : Prop where
  ex : ∃ te, PE X e te ∧ SndV X.K te f
structure ET (X : Cx) (e : Expr) (f : RT) : Prop where
  ex : ∃ te, PT X e te ∧ SndT X.K te f
structure EW (X : Cx) (e : Expr) (f : RT) : Prop where
  ex : ∃ te, PW X e te ∧ SndT X.K te f
structure AD (X : Cx) (es : List Expr) (f : RA) : Prop where
  ex : ∃ te, PA X es te ∧ SndA X.K te f
structure AV (X : Cx) (es : List Expr) (f : RA) : Prop where
  ex : ∃ te, PA X es te ∧ SndAV X.K te f

section
variable {X : Cx} {e a b c : Expr} {es : List Expr} {pos : Pos}
/-- an owned result is given away -/
theorem EO.d {f : RO} (h : EO X e f) : ED X e (fun ρ M P => f ρ M fun t M => P t.toD M) := by
  obtain ⟨te, hp, hs⟩ := h.ex
  refine ⟨te, hp, fun B H ρ σ S P Q st hf k => hs B H ρ σ S _ Q st hf fun t v B' H' T g r o p => ?_⟩
  refine k t.toD v (B'.add H' T) H' (g.frz o.fr o.nw) ?_ p
  exact r.data g.base.ext_add _ _ _ (fun p hp => addB_in hp)
theorem ED.o {f : RD} (h : ED X e f) : EO X e (fun ρ M P => f ρ M fun d M => P (.fz d) M) := by
  obtain ⟨te, hp, hs⟩ := h.ex
  exact ⟨te, hp, fun B H ρ σ S P Q st hf k => hs B H ρ σ S _ Q st hf fun d v B' H' g r p => k (.fz d) v B' H' [] g (.fz r) .nil p⟩
theorem ED.v {f : RD} (h : ED X e f) : EV X e f := by
  obtain ⟨te, hp, hs⟩ := h.ex
  exact ⟨te, hp, fun B H ρ σ S P Q st hf k => hs B H ρ σ S _ Q st hf fun d v B' H' g r p => k d v B' H' g (r.up g.base.hm) p⟩
theorem AD.v {f : RA} (h : AD X es f) : AV X es f := by
  obtain ⟨te, hp, hs⟩ := h.ex
  exact ⟨te, hp, fun B H ρ σ S P Q st hf k => hs B H ρ σ S _ Q st hf fun d v B' H' g r p => k d v B' H' g (r.up g.base.hm) p⟩

/-! ### names, constants -/
theorem ed_var (i : Nat) {x : Str} (hN : X.N[i]? = some x := by rfl) (hv : Vis X.env.scope x := by first | exact Or.inl rfl | exact Or.inr (Or.inl rfl) | exact Or.inr (Or.inr rfl)) (hd : (x == ("__debug__" : Str)) = false := by decide)
    (hcd : (x == ("__classdict__" : Str)) = false := by decide) : ED X (.Name x pos) (fun ρ M P => ∃ d, ρ[i]? = some (some (.fz d)) ∧ P d M) := by
  refine ⟨tVar i, pe_var hN hv hd hcd, fun B H ρ σ S P Q st hf k => ?_⟩
  obtain ⟨d, e, p⟩ := hf
  obtain ⟨A, T, C, _, h2, _⟩ := st.sim.split e
  obtain ⟨v, hv, hr⟩ := h2 _ rfl
  cases hr with
  | fz hr => exact ⟨v, hv, k d v B H st.base.grow hr p⟩
theorem ev_var (i : Nat) {x : Str} (hN : X.N[i]? = some x := by rfl) (hv : Vis X.env.scope x := by first | exact Or.inl rfl | exact Or.inr (Or.inl rfl) | exact Or.inr (Or.inr rfl)) (hd : (x == ("__debug__" : Str)) = false := by decide)
    (hcd : (x == ("__classdict__" : Str)) = false := by decide) : EV X (.Name x pos) (fun ρ M P => ∃ t, ρ[i]? = some (some t) ∧ P t.toD M) := by
  refine ⟨tVar i, pe_var hN hv hd hcd, fun B H ρ σ S P Q st hf k => ?_⟩
  obtain ⟨t, e, p⟩ := hf
  obtain ⟨A, T, C, hS, h2, _⟩ := st.sim.split e
  obtain ⟨v, hv, hr⟩ := h2 _ rfl
  refine ⟨v, hv, k t.toD v B H st.base.grow ?_ p⟩
  exact hr.data st.base.hm _ _ _ fun p hp => Hm_of (st.out p (by rw [hS]; exact List.mem_append_right _ (List.mem_append_left _ hp))).2
theorem ed_tc {te : V} {d : D} (h : PE X e (tC te)) (r : ∀ B : Hp, Rep X.K B d te) : ED X e (fun _ M P => P d M) :=
  ⟨tC te, h, fun B H ρ σ S P Q st hf k => k d te B H st.base.grow (r B) hf⟩
theorem ed_int {i : Int} {j} : ED X (.Constant (.int i) j pos) (fun _ M P => P (.int i) M) := ed_tc pe_int fun _ => .int i
theorem ed_bl {i : Bool} {j} : ED X (.Constant (.bool i) j pos) (fun _ M P => P (.bl i) M) := ed_tc pe_bl fun _ => .bl i
theorem ed_non {j} : ED X (.Constant .none j pos) (fun _ M P => P .non M) := ed_tc pe_non fun _ => .non
theorem ed_str {x : Str} {j} (h : strOk x = true := by decide +kernel) : ED X (.Constant (.str x) j pos) (fun _ M P => P (.str x) M) := ed_tc pe_str fun _ => .str h
/-- a module's constant -/
theorem ed_glob {x : Str} {v : V} {u : Value} {d : D} (hg : Gl X x) (hm : X.mg x = some u) (r : RelV v u) (hr : ∀ B : Hp, Rep X.K B d v) (hd : (x == ("__debug__" : Str)) = false := by decide) : ED X (.Name x pos) (fun _ M P => P d M) := ed_tc (pe_glob hg hm r hd) hr

/-! ### two operands -/
/-- values in, data out; the operands as they stand -/
def SR2 (K : PySem.W.Frag) (r : R2) (h : D → D → Mem → (D → Mem → Prop) → Prop) : Prop :=
  ∀ (B : Kn) (H : Hp) (x y : D) (vx vy : V) (P : D → Mem → Prop) (Q : VK), Base K B H → Rep K (Hm B.m H) x vx → Rep K (Hm B.m H) y vy → h x y B.m P → (∀ d v B' H', Grow K B H B' H' → Rep K B' d v → P d B'.m → Q v H') → r vx vy H Q
/-- .. the operands known; an owned result -/
def SR2o (K : PySem.W.Frag) (r : R2) (h : D → D → Mem → (OT → Mem → Prop) → Prop) : Prop :=
  ∀ (B : Kn) (H : Hp) (x y : D) (vx vy : V) (P : OT → Mem → Prop) (Q : VK), Base K B H → Rep K B x vx → Rep K B y vy → h x y B.m P → (∀ t v B' H' T, Grow K B H B' H' → RepO K B' H' t v T → Own B H B' T → P t B'.m → Q v H') → r vx vy H Q
theorem Own.back {K : PySem.W.Frag} {B B1 B2 : Kn} {H H1 : Hp} {T : List Addr} (g : Grow K B H B1 H1) (o : Own B1 H1 B2 T) : Own B H B2 T := ⟨o.nd, fun p hp => g.free (o.fr p hp), o.nb, o.nw⟩
theorem snd_op {K : PySem.W.Frag} {r : R2} {h : D → D → Mem → (D → Mem → Prop) → Prop} {ta tb : TE} {fa fb : RD} (hr : SR2 K r h) (ha : SndV K ta fa) (hb : SndV K tb fb) :
    SndD K (tOp r ta tb) (fun ρ M P => fa ρ M fun x M => fb ρ M fun y M => h x y M P) := fun B H ρ σ S P Q st hf k =>
  ha B H ρ σ S _ _ st hf fun x vx B1 H1 g1 r1 hf1 => hb B1 H1 ρ σ S _ _ (st.grow g1) hf1 fun y vy B2 H2 g2 r2 hf2 =>
    hr B2 H2 x y vx vy P Q g2.base (r1.up g2.hm) r2 hf2 fun d v B3 H3 g3 r3 p => k d v B3 H3 ((g1.trans g2).trans g3) r3 p
theorem snd_opo {K : PySem.W.Frag} {r : R2} {h : D → D → Mem → (OT → Mem → Prop) → Prop} {ta tb : TE} {fa fb : RD} (hr : SR2o K r h) (ha : SndD K ta fa) (hb : SndD K tb fb) :
    SndO K (tOp r ta tb) (fun ρ M P => fa ρ M fun x M => fb ρ M fun y M => h x y M P) := fun B H ρ σ S P Q st hf k =>
  ha B H ρ σ S _ _ st hf fun x vx B1 H1 g1 r1 hf1 => hb B1 H1 ρ σ S _ _ (st.grow g1) hf1 fun y vy B2 H2 g2 r2 hf2 =>
    hr B2 H2 x y vx vy P Q g2.base (r1.up g2.b) r2 hf2 fun t v B3 H3 T g3 r3 o p => k t v B3 H3 T ((g1.trans g2).trans g3) r3 (o.back (g1.trans g2)) p
theorem ed_bin {op : Operator} {r : R2} {h : D → D → Mem → (D → Mem → Prop) → Prop} {fa fb : RD} (ho : OpR X (binaryOp op) r) (hs : SR2 X.K r h) (ha : EV X a fa) (hb : EV X b fb) : ED X (.BinOp a op b pos) (fun ρ M P => fa ρ M fun x M => fb ρ M fun y M => h x y M P) := by
  obtain ⟨ta, pa, sa⟩ := ha.ex
  obtain ⟨tb, pb, sb⟩ := hb.ex
  exact ⟨_, pe_op ho pa pb, snd_op hs sa sb⟩
theorem eo_bin {op : Operator} {r : R2} {h : D → D → Mem → (OT → Mem → Prop) → Prop} {fa fb : RD} (ho : OpR X (binaryOp op) r) (hs : SR2o X.K r h) (ha : ED X a fa) (hb : ED X b fb) : EO X (.BinOp a op b pos) (fun ρ M P => fa ρ M fun x M => fb ρ M fun y M => h x y M P) := by
  obtain ⟨ta, pa, sa⟩ := ha.ex
  obtain ⟨tb, pb, sb⟩ := hb.ex
  exact ⟨_, pe_op ho pa pb, snd_opo hs sa sb⟩
/-- a comparison: as a value, as a test -/
structure EC (X : Cx) (e : Expr) (f : RD) : Prop where
  d : ED X e f
  t : ET X e (fun ρ M P => f ρ M fun d M => ∃ b, d = .bl b ∧ P b M)
theorem snd_test {K : PySem.W.Frag} {te : TE} {f : RD} (h : SndD K te f) : SndT K (tTest te) (fun ρ M P => f ρ M fun d M => ∃ b, d = .bl b ∧ P b M) := fun B H ρ σ S P Q st hf k =>
  h B H ρ σ S _ _ st hf fun d v B' H' g r p => by
    obtain ⟨b, rfl, p⟩ := p
    cases r
    exact ⟨b, rfl, k b B' H' g p⟩
theorem ec_cmp {op : CmpOp} {r : R2} {h : D → D → Mem → (D → Mem → Prop) → Prop} {fa fb : RD} (ho : OpR X (compareOp op) r) (hs : SR2 X.K r h) (ha : EV X a fa) (hb : EV X b fb)
    (h1 : behindInMarks op b = false := by first | exact nobehind _ (by decide) (by decide) | rfl) : EC X (.Compare a [op] [b] pos) (fun ρ M P => fa ρ M fun x M => fb ρ M fun y M => h x y M P) := by
  obtain ⟨ta, pa, sa⟩ := ha.ex
  obtain ⟨tb, pb, sb⟩ := hb.ex
  exact ⟨⟨_, pe_cmpR ho pa pb h1, snd_op hs sa sb⟩, ⟨_, pt_cmpR ho pa pb h1, snd_test (snd_op hs sa sb)⟩⟩

/-! ### scalars' operators -/
theorem sr_I {C : Int → Int → Prop} {g : Int → Int → D} {gv : Int → Int → V} {K : PySem.W.Frag} (hg : ∀ i j (B : Hp), Rep K B (g i j) (gv i j)) : SR2 K (rI C gv) (fun x y M P => ∃ i j, x = .int i ∧ y = .int j ∧ C i j ∧ P (g i j) M) := by
  intro B H x y vx vy P Q bs rx ry h k
  obtain ⟨i, j, rfl, rfl, hc, p⟩ := h
  cases rx; cases ry
  exact ⟨i, j, rfl, rfl, hc, k _ _ B H bs.grow (hg i j B) p⟩
theorem sr_I0 {g : Int → Int → D} {gv : Int → Int → V} {K : PySem.W.Frag} (hg : ∀ i j (B : Hp), Rep K B (g i j) (gv i j)) : SR2 K (rI0 gv) (fun x y M P => ∃ i j, x = .int i ∧ y = .int j ∧ P (g i j) M) := by
  intro B H x y vx vy P Q bs rx ry h k
  obtain ⟨i, j, rfl, rfl, p⟩ := h
  cases rx; cases ry
  exact ⟨i, j, rfl, rfl, k _ _ B H bs.grow (hg i j B) p⟩
/-- what two ints give -/
abbrev hI0 (g : Int → Int → D) : D → D → Mem → (D → Mem → Prop) → Prop := fun x y M P => ∃ i j, x = .int i ∧ y = .int j ∧ P (g i j) M
abbrev hI (C : Int → Int → Prop) (g : Int → Int → D) : D → D → Mem → (D → Mem → Prop) → Prop := fun x y M P => ∃ i j, x = .int i ∧ y = .int j ∧ C i j ∧ P (g i j) M
variable {fa fb : RD}
theorem ed_sub (ha : EV X a fa) (hb : EV X b fb) : ED X (.BinOp a .Sub b pos) (fun ρ M P => fa ρ M fun x M => fb ρ M fun y M => hI0 (fun i j => .int (i - j)) x y M P) := ed_bin op_sub (sr_I0 fun i j B => .int _) ha hb
theorem ed_mulI (ha : EV X a fa) (hb : EV X b fb) : ED X (.BinOp a .Mult b pos) (fun ρ M P => fa ρ M fun x M => fb ρ M fun y M => hI CMul (fun i j => .int (i * j)) x y M P) := ed_bin op_mul (sr_I fun i j B => .int _) ha hb
theorem ed_addI (ha : EV X a fa) (hb : EV X b fb) : ED X (.BinOp a .Add b pos) (fun ρ M P => fa ρ M fun x M => fb ρ M fun y M => hI0 (fun i j => .int (i + j)) x y M P) := ed_bin op_add (sr_I0 fun i j B => .int _) ha hb
theorem ed_mod (ha : EV X a fa) (hb : EV X b fb) : ED X (.BinOp a .Mod b pos) (fun ρ M P => fa ρ M fun x M => fb ρ M fun y M => hI (fun _ j => 0 < j) (fun i j => .int (i % j)) x y M P) := ed_bin op_mod (sr_I fun i j B => .int _) ha hb
theorem ed_fdiv (ha : EV X a fa) (hb : EV X b fb) : ED X (.BinOp a .FloorDiv b pos) (fun ρ M P => fa ρ M fun x M => fb ρ M fun y M => hI CDiv (fun i j => .int (i / j)) x y M P) := ed_bin op_fdiv (sr_I fun i j B => .int _) ha hb
theorem ed_pow (ha : EV X a fa) (hb : EV X b fb) : ED X (.BinOp a .Pow b pos) (fun ρ M P => fa ρ M fun x M => fb ρ M fun y M => hI CPow (fun i j => .int (i ^ j.toNat)) x y M P) := ed_bin op_pow (sr_I fun i j B => .int _) ha hb
theorem ec_lt (ha : EV X a fa) (hb : EV X b fb) : EC X (.Compare a [.Lt] [b] pos) (fun ρ M P => fa ρ M fun x M => fb ρ M fun y M => hI0 (fun i j => .bl (decide (i < j))) x y M P) := ec_cmp op_lt (sr_I0 fun i j B => .bl _) ha hb
theorem ec_le (ha : EV X a fa) (hb : EV X b fb) : EC X (.Compare a [.LtE] [b] pos) (fun ρ M P => fa ρ M fun x M => fb ρ M fun y M => hI0 (fun i j => .bl (decide (i ≤ j))) x y M P) := ec_cmp op_le (sr_I0 fun i j B => .bl _) ha hb
theorem ec_gt (ha : EV X a fa) (hb : EV X b fb) : EC X (.Compare a [.Gt] [b] pos) (fun ρ M P => fa ρ M fun x M => fb ρ M fun y M => hI0 (fun i j => .bl (decide (i > j))) x y M P) := ec_cmp op_gt (sr_I0 fun i j B => .bl _) ha hb
theorem ec_ge (ha : EV X a fa) (hb : EV X b fb) : EC X (.Compare a [.GtE] [b] pos) (fun ρ M P => fa ρ M fun x M => fb ρ M fun y M => hI0 (fun i j => .bl (decide (i ≥ j))) x y M P) := ec_cmp op_ge (sr_I0 fun i j B => .bl _) ha hb
end
end DL

/-! DL2: equality, in, texts, places, slices, truth, displays, calls. -/
namespace DL
open PySem L2
open PySem.PyData (strOk)
set_option autoImplicit false

/-! ### data as the library has it -/
mutual
def D.toP : D → PyData
  | .non => .none
  | .bl b => .bool b
  | .int i => .int i
  | .str x => .str x
  | .tup l => .tuple (D.toPs l)
  | .lst l => .list (D.toPs l)
  | .dk _ _ => .dict []
  | .ob _ _ _ => .dict []
  | .scr _ => .dict []
  | .mob _ => .dict []
  | .txt x => .str x
def D.toPs : List D → List PyData
  | [] => []
  | d :: ds => D.toP d :: D.toPs ds
end
mutual
def D.plain : D → Bool
  | .non => true
  | .bl _ => true
  | .int _ => true
  | .str _ => true
  | .tup l => D.plains l
  | .lst l => D.plains l
  | .dk _ _ => false
  | .ob _ _ _ => false
  | .scr _ => false
  | .mob _ => false
  | .txt _ => false
def D.plains : List D → Bool
  | [] => true
  | d :: ds => D.plain d && D.plains ds
end
mutual
def D.dep : D → Nat
  | .tup l => D.deps l + 1
  | .lst l => D.deps l + 1
  | .dk _ _ => 1
  | .ob _ _ _ => 1
  | .scr _ => 1
  | .mob _ => 1
  | _ => 0
def D.deps : List D → Nat
  | [] => 0
  | d :: ds => max (D.dep d) (D.deps ds)
end
theorem D.toPs_map : ∀ l : List D, D.toPs l = l.map D.toP
  | [] => rfl
  | d :: ds => by rw [D.toPs, D.toPs_map ds]; rfl
theorem D.plains_all : ∀ l : List D, D.plains l = l.all D.plain
  | [] => rfl
  | d :: ds => by rw [D.plains, D.plains_all ds]; rfl
mutual
theorem D.dep_toP : ∀ d : D, (D.toP d).depth ≤ D.dep d
  | .non | .bl _ | .int _ | .str _ | .scr _ | .mob _ | .txt _ => by simp [D.toP, PyData.depth, PyData.depthKv, D.dep]
  | .dk _ _ | .ob _ _ _ => by simp [D.toP, PyData.depth, PyData.depthKv, D.dep]
  | .tup l => by have := D.deps_toP l; simp only [D.toP, PyData.depth, D.dep]; omega
  | .lst l => by have := D.deps_toP l; simp only [D.toP, PyData.depth, D.dep]; omega
theorem D.deps_toP : ∀ l : List D, PyData.depthAll (D.toPs l) ≤ D.deps l
  | [] => by simp [D.toPs, PyData.depthAll, D.deps]
  | d :: ds => by have := D.dep_toP d; have := D.deps_toP ds; simp only [D.toPs, PyData.depthAll, D.deps]; omega
end
section
variable {K : PySem.W.Frag} {B H : Hp}
mutual
theorem Rep.dp : ∀ (d : D) (v : V), d.plain = true → Rep K H d v → Dp K H v d.toP
  | .non, _, _, h => by cases h; simp only [D.toP]; exact .non
  | .bl b, _, _, h => by cases h; simp only [D.toP]; exact .bl b
  | .int i, _, _, h => by cases h; simp only [D.toP]; exact .int i
  | .str x, _, _, h => by cases h; simp only [D.toP]; exact .str x
  | .tup l, _, p, h => by
    cases h with
    | tup hs hl hr => simp only [D.toP]; exact .tup hs (Reps.dp l _ (by simpa only [D.plain] using p) hr)
  | .lst l, _, p, h => by
    cases h with
    | lst hs hl hr => simp only [D.toP]; exact .lst (Evl.sq_of hs) (Reps.dp l _ (by simpa only [D.plain] using p) hr)
  | .dk _ _, _, p, _ => by simp [D.plain] at p
  | .ob _ _ _, _, p, _ => by simp [D.plain] at p
  | .scr _, _, p, _ => by simp [D.plain] at p
  | .mob _, _, p, _ => by simp [D.plain] at p
  | .txt _, _, p, _ => by simp [D.plain] at p
theorem Reps.dp : ∀ (ds : List D) (vs : List V), D.plains ds = true → Reps K H ds vs → DpAll K H vs (D.toPs ds)
  | [], _, _, h => by cases h; simp only [D.toPs]; exact .nil
  | d :: ds, _, p, h => by
    cases h with
    | cons h1 h2 =>
      simp only [D.plains, Bool.and_eq_true] at p
      simp only [D.toPs]
      exact .cons (Rep.dp d _ p.1 h1) (Reps.dp ds _ p.2 h2)
end
mutual
theorem Rep.lay : ∀ (d : D) (v : V), d.plain = true → Rep K H d v → d.toP.canLay0 = true
  | .non, _, _, h => by simp [D.toP, PyData.canLay0]
  | .bl b, _, _, h => by simp [D.toP, PyData.canLay0]
  | .int i, _, _, h => by simp [D.toP, PyData.canLay0]
  | .str x, _, _, h => by
    cases h with
    | str h => simpa [D.toP, PyData.canLay0] using h
  | .tup l, _, p, h => by
    cases h with
    | tup hs hl hr => simp only [D.toP, PyData.canLay0]; exact Reps.lay l _ (by simpa only [D.plain] using p) hr
  | .lst l, _, p, h => by
    cases h with
    | lst hs hl hr => simp only [D.toP, PyData.canLay0]; exact Reps.lay l _ (by simpa only [D.plain] using p) hr
  | .dk _ _, _, p, _ => by simp [D.plain] at p
  | .ob _ _ _, _, p, _ => by simp [D.plain] at p
  | .scr _, _, p, _ => by simp [D.plain] at p
  | .mob _, _, p, _ => by simp [D.plain] at p
  | .txt _, _, p, _ => by simp [D.plain] at p
theorem Reps.lay : ∀ (ds : List D) (vs : List V), D.plains ds = true → Reps K H ds vs → PyData.canLayAll0 (D.toPs ds) = true
  | [], _, _, h => by simp [D.toPs, PyData.canLayAll0]
  | d :: ds, _, p, h => by
    cases h with
    | cons h1 h2 =>
      simp only [D.plains, Bool.and_eq_true] at p
      simp only [D.toPs, PyData.canLayAll0, Bool.and_eq_true]
      exact ⟨Rep.lay d _ p.1 h1, Reps.lay ds _ p.2 h2⟩
end
end
/-- Python's == of data -/
def D.eqv (x y : D) : Bool := PyData.eqv x.toP y.toP

section
variable {X : Cx} {e a b c : Expr} {es : List Expr} {pos : Pos} {fa fb : RD}
theorem OpR.or {f : Value → Value → Sem Value} {r r' : R2} (h : OpR X f r) (h' : OpR X f r') : OpR X f (fun x y H Q => r x y H Q ∨ r' x y H Q) := by
  intro pins s σ H x y v u Q I rx ry q
  rcases q with q | q
  · exact h pins s σ H x y v u Q I rx ry q
  · exact h' pins s σ H x y v u Q I rx ry q
/-- == and != of plain data, one of them not deep; of two texts -/
def D.eqOk (x y : D) : Bool := match x, y with
  | .txt _, .txt _ => true
  | x, y => D.plain x && D.plain y && decide (min (D.dep x) (D.dep y) ≤ 100)
theorem D.eqOk_of {x y : D} (h : D.eqOk x y = true) : (∃ a b, x = .txt a ∧ y = .txt b) ∨ (x.plain = true ∧ y.plain = true ∧ min x.dep y.dep ≤ 100) := by
  unfold D.eqOk at h
  split at h
  · exact .inl ⟨_, _, rfl, rfl⟩
  · simp only [Bool.and_eq_true, decide_eq_true_eq] at h
    exact .inr ⟨h.1.1, h.1.2, h.2⟩
def ng (neg b : Bool) : Bool := if neg then !b else b
def rEqM (K : PySem.W.Frag) (neg : Bool) : R2 := fun x y H Q => (∃ d e, Dp K H x d ∧ Dp K H y e ∧ d.canLay0 = true ∧ e.canLay0 = true ∧ min d.depth e.depth ≤ 100 ∧ Q (.bl (ng neg (PyData.eqv d e))) H) ∨
  ∃ i j, x = .str i ∧ y = .str j ∧ Q (.bl (ng neg (decide (i = j)))) H
theorem op_eqM (hu : X.A.units + 200 < cLine) : OpR X (compareOp .Eq) (rEqM X.K false) := by
  intro pins s σ H x y v u Q I rx ry h
  rcases h with ⟨d, e, hd, he, sd, se, hm, q⟩ | ⟨i, j, rfl, rfl, q⟩
  · obtain ⟨as, r1⟩ := Dp.reads I d x v hd rx
    obtain ⟨bs, r2⟩ := Dp.reads I e y u he ry
    exact SeqAt.compareEq_reads r1 r2 sd se (by omega) ⟨.bl _, H, I, rfl, q⟩
  · exact op_eq pins s σ H _ _ v u Q I rx ry ⟨rfl, by simpa [ng] using q⟩
theorem op_neM (hu : X.A.units + 200 < cLine) : OpR X (compareOp .NotEq) (rEqM X.K true) := by
  intro pins s σ H x y v u Q I rx ry h
  rcases h with ⟨d, e, hd, he, sd, se, hm, q⟩ | ⟨i, j, rfl, rfl, q⟩
  · obtain ⟨as, r1⟩ := Dp.reads I d x v hd rx
    obtain ⟨bs, r2⟩ := Dp.reads I e y u he ry
    exact SeqAt.compareNe_reads r1 r2 sd se (by omega) ⟨.bl _, H, I, rfl, q⟩
  · exact op_ne pins s σ H _ _ v u Q I rx ry ⟨rfl, by simpa [ng] using q⟩
def hEq (neg : Bool) (x y : D) (M : Mem) (P : D → Mem → Prop) : Prop := D.eqOk x y = true ∧ P (.bl (ng neg (D.eqv x y))) M
theorem sr_eqM {K : PySem.W.Frag} {neg : Bool} : SR2 K (rEqM K neg) (hEq neg) := by
  intro B H x y vx vy P Q bs rx ry h k
  obtain ⟨hok, p⟩ := h
  have rx := rx.up Hm_ext
  have ry := ry.up Hm_ext
  rcases D.eqOk_of hok with ⟨a, b, rfl, rfl⟩ | ⟨px, py, hm⟩
  · cases rx; cases ry
    refine .inr ⟨_, _, rfl, rfl, k _ _ B H bs.grow (.bl _) ?_⟩
    have e : D.eqv (.txt a) (.txt b) = decide (a = b) := by
      unfold D.eqv
      simp only [D.toP]
      first | rfl | simp [PyData.eqv]
    rw [← e]; exact p
  · refine .inl ⟨_, _, rx.dp _ _ px, ry.dp _ _ py, rx.lay _ _ px, ry.lay _ _ py, ?_, k _ _ B H bs.grow (.bl _) p⟩
    have := D.dep_toP x
    have := D.dep_toP y
    omega
theorem ec_eq (hu : X.A.units + 200 < cLine) (ha : EV X a fa) (hb : EV X b fb) : EC X (.Compare a [.Eq] [b] pos) (fun ρ M P => fa ρ M fun x M => fb ρ M fun y M => hEq false x y M P) := ec_cmp (op_eqM hu) sr_eqM ha hb
theorem ec_ne (hu : X.A.units + 200 < cLine) (ha : EV X a fa) (hb : EV X b fb) : EC X (.Compare a [.NotEq] [b] pos) (fun ρ M P => fa ρ M fun x M => fb ρ M fun y M => hEq true x y M P) := ec_cmp (op_neM hu) sr_eqM ha hb

/-- in, not in -/
def rInM (K : PySem.W.Frag) (neg : Bool) : R2 := fun x y H Q => (∃ d ds, Dp K H x d ∧ (Dp K H y (.list ds) ∨ Dp K H y (.tuple ds)) ∧ d.canLay0 = true ∧ PyData.canLayAll0 ds = true ∧ min (PyData.depthAll ds) d.depth ≤ 100 ∧
  Q (.bl (if neg then !(ds.any fun z => PyData.eqv z d) else ds.any fun z => PyData.eqv z d)) H) ∨
  ∃ i j, x = .str i ∧ y = .str j ∧ Q (.bl (if neg then !(!(Builtin.Str.occurrences j i 0 j.length 1).isEmpty) else !(Builtin.Str.occurrences j i 0 j.length 1).isEmpty)) H
theorem op_inM (hu : X.A.units + 200 < cLine) : OpR X (compareOp .In) (rInM X.K false) := by
  intro pins s σ H x y v u Q I rx ry h
  rcases h with ⟨d, ds, hd, he, sd, se, hm, q⟩ | h
  · obtain ⟨as, r1⟩ := Dp.reads I d x v hd rx
    rcases he with he | he
    · obtain ⟨bs, r2⟩ := Dp.reads I _ y u he ry
      exact SeqAt.in_list_reads r2 r1 se sd (by omega) ⟨.bl _, H, I, rfl, q⟩
    · obtain ⟨bs, r2⟩ := Dp.reads I _ y u he ry
      exact SeqAt.in_tuple_reads r2 r1 se sd (by omega) ⟨.bl _, H, I, rfl, q⟩
  · exact op_in_str pins s σ H x y v u Q I rx ry h
theorem op_notInM (hu : X.A.units + 200 < cLine) : OpR X (compareOp .NotIn) (rInM X.K true) := by
  intro pins s σ H x y v u Q I rx ry h
  rcases h with ⟨d, ds, hd, he, sd, se, hm, q⟩ | h
  · obtain ⟨as, r1⟩ := Dp.reads I d x v hd rx
    rcases he with he | he
    · obtain ⟨bs, r2⟩ := Dp.reads I _ y u he ry
      exact SeqAt.notIn_list_reads r2 r1 se sd (by omega) ⟨.bl _, H, I, rfl, q⟩
    · obtain ⟨bs, r2⟩ := Dp.reads I _ y u he ry
      exact SeqAt.notIn_tuple_reads r2 r1 se sd (by omega) ⟨.bl _, H, I, rfl, q⟩
  · exact L2.op_notin_str pins s σ H x y v u Q I rx ry h
def subStr (i j : Str) : Bool := !(Builtin.Str.occurrences j i 0 j.length 1).isEmpty
def D.isIn (x : D) (ds : List D) : Bool := ds.any fun z => D.eqv z x
def hIn (neg : Bool) (x y : D) (M : Mem) (P : D → Mem → Prop) : Prop := match y with
  | .lst ds => x.plain = true ∧ D.plains ds = true ∧ min (D.deps ds) x.dep ≤ 100 ∧ P (.bl (if neg then !x.isIn ds else x.isIn ds)) M
  | .tup ds => x.plain = true ∧ D.plains ds = true ∧ min (D.deps ds) x.dep ≤ 100 ∧ P (.bl (if neg then !x.isIn ds else x.isIn ds)) M
  | .str j => ∃ i, x = .str i ∧ P (.bl (if neg then !subStr i j else subStr i j)) M
  | _ => False
theorem isIn_toP (x : D) : ∀ ds : List D, ((D.toPs ds).any fun z => PyData.eqv z x.toP) = x.isIn ds := fun ds => by
  rw [D.toPs_map, List.any_map]; rfl
theorem sr_inM {K : PySem.W.Frag} {neg : Bool} : SR2 K (rInM K neg) (hIn neg) := by
  intro B H x y vx vy P Q bs rx ry h k
  have rx := rx.up Hm_ext
  have ry := ry.up Hm_ext
  cases y with
  | lst ds =>
    obtain ⟨px, py, hm, p⟩ := h
    have d1 := ry.dp _ _ (by simpa only [D.plain] using py)
    have l1 := ry.lay _ _ (by simpa only [D.plain] using py)
    simp only [D.toP, PyData.canLay0] at d1 l1
    refine .inl ⟨_, _, rx.dp _ _ px, .inl d1, rx.lay _ _ px, l1, ?_, ?_⟩
    · have := D.dep_toP x
      have := D.deps_toP ds
      omega
    · rw [isIn_toP]
      exact k _ _ B H bs.grow (.bl _) p
  | tup ds =>
    obtain ⟨px, py, hm, p⟩ := h
    have d1 := ry.dp _ _ (by simpa only [D.plain] using py)
    have l1 := ry.lay _ _ (by simpa only [D.plain] using py)
    simp only [D.toP, PyData.canLay0] at d1 l1
    refine .inl ⟨_, _, rx.dp _ _ px, .inr d1, rx.lay _ _ px, l1, ?_, ?_⟩
    · have := D.dep_toP x
      have := D.deps_toP ds
      omega
    · rw [isIn_toP]
      exact k _ _ B H bs.grow (.bl _) p
  | str j =>
    obtain ⟨i, rfl, p⟩ := h
    cases rx
    cases ry
    exact .inr ⟨i, j, rfl, rfl, k _ _ B H bs.grow (.bl _) p⟩
  | _ => exact False.elim h
theorem ec_in (hu : X.A.units + 200 < cLine) (ha : EV X a fa) (hb : EV X b fb) (h1 : behindInMarks .In b = false := by rfl) : EC X (.Compare a [.In] [b] pos) (fun ρ M P => fa ρ M fun x M => fb ρ M fun y M => hIn false x y M P) := ec_cmp (op_inM hu) sr_inM ha hb h1
theorem ec_notIn (hu : X.A.units + 200 < cLine) (ha : EV X a fa) (hb : EV X b fb) (h1 : behindInMarks .NotIn b = false := by rfl) : EC X (.Compare a [.NotIn] [b] pos) (fun ρ M P => fa ρ M fun x M => fb ρ M fun y M => hIn true x y M P) := ec_cmp (op_notInM hu) sr_inM ha hb h1

/-! ### + and * of any kind -/
def hAdd (x y : D) (M : Mem) (P : OT → Mem → Prop) : Prop := match x, y with
  | .int i, .int j => P (.fz (.int (i + j))) M
  | .str i, .str j => i.length + j.length ≤ sizeLine ∧ P (.fz (.str (i ++ j))) M
  | .tup i, .tup j => i.length + j.length ≤ sizeLine ∧ P (.fz (.tup (i ++ j))) M
  | .lst i, .lst j => i.length + j.length ≤ sizeLine ∧ P (.ow ((i ++ j).map .fz)) M
  | _, _ => False
/-- a new list of known items is one's own -/
theorem new_list {K : PySem.W.Frag} {B : Kn} {H : Hp} {ds : List D} {vs : List V} {P : OT → Mem → Prop} {Q : VK} (bs : Base K B H) (r : Reps K B ds vs) (hl : ds.length ≤ sizeLine) (p : P (.ow (ds.map .fz)) B.m)
    (k : ∀ t v B' H' T, Grow K B H B' H' → RepO K B' H' t v T → Own B H B' T → P t B'.m → Q v H') : ∀ l, H l = none → Q (.ref l) (upd H l (.lst vs)) := fun l hl0 => by
  obtain ⟨g, hb, nd⟩ := bs.newO (o := .lst vs) hl0
  refine k (.ow (ds.map .fz)) (.ref l) B _ [l] g (.ow upd_same (by rw [List.length_map]; exact hl) (RepOs.fzs r)) ⟨by simp, fun p hp => ?_, fun p hp => ?_, fun p hp => ?_⟩ p
  all_goals (rw [List.mem_singleton] at hp; subst hp; assumption)
theorem new_tuple {K : PySem.W.Frag} {B : Kn} {H : Hp} {ds : List D} {vs : List V} {P : D → Mem → Prop} {Q : VK} (bs : Base K B H) (r : Reps K B ds vs) (hl : ds.length ≤ sizeLine) (p : P (.tup ds) B.m)
    (k : ∀ t v B' H', Grow K B H B' H' → Rep K B' t v → P t B'.m → Q v H') : ∀ l, H l = none → Q (.ref l) (upd H l (.tup vs)) := fun l hl0 => by
  have g := bs.new (o := .tup vs) hl0
  exact k (.tup ds) (.ref l) _ _ g (.tup (Evl.st_of upd_same) hl (r.up g.b)) p
theorem kD {K : PySem.W.Frag} {B : Kn} {H : Hp} {P : OT → Mem → Prop} {Q : VK} (k : ∀ t v B' H' T, Grow K B H B' H' → RepO K B' H' t v T → Own B H B' T → P t B'.m → Q v H') : ∀ d v B' H', Grow K B H B' H' → Rep K B' d v → P (.fz d) B'.m → Q v H' := fun d v B' H' g r p => k (.fz d) v B' H' [] g (.fz r) .nil p
def rAddAll (K : PySem.W.Frag) : R2 := fun x y H Q => rI0 (fun i j => .int (i + j)) x y H Q ∨ (∃ i j, x = .str i ∧ y = .str j ∧ i.length + j.length ≤ sizeLine ∧ Q (.str (i ++ j)) H) ∨ rCatA K x y H Q ∨ rCat x y H Q
theorem op_addAll : OpR X (binaryOp .Add) (rAddAll X.K) := OpR.or op_add (OpR.or op_add_str (OpR.or op_catA op_cat))
theorem sr_addAll {K : PySem.W.Frag} : SR2o K (rAddAll K) hAdd := by
  intro B H x y vx vy P Q bs rx ry h k
  cases rx with
  | int i =>
    cases ry with
    | int j => exact .inl ⟨i, j, rfl, rfl, kD k _ _ B H bs.grow (.int _) h⟩
    | _ => exact False.elim h
  | str hx =>
    cases ry with
    | str hy =>
      obtain ⟨hl, p⟩ := h
      exact .inr (.inl ⟨_, _, rfl, rfl, hl, kD k _ _ B H bs.grow (.str (strOk_app hx hy)) p⟩)
    | _ => exact False.elim h
  | tup hx hlx hrx =>
    cases ry with
    | tup hy hly hry =>
      obtain ⟨hl, p⟩ := h
      refine .inr (.inr (.inl ⟨_, _, _, _, rfl, rfl, Evl.ex_t bs.bh hx, Evl.ex_t bs.bh hy, by rw [← hrx.length, ← hry.length]; exact hl, fun e => ?_, fun _ e => ?_, fun _ _ => ?_⟩))
      · subst e
        cases hrx
        exact kD k _ _ B H bs.grow (.tup hy hly hry) p
      · subst e
        cases hry
        rw [List.append_nil] at p
        exact kD k _ _ B H bs.grow (.tup hx hlx hrx) p
      · exact new_tuple bs (hrx.append hry) (by rw [List.length_append]; exact hl) p (kD k)
    | _ => exact False.elim h
  | lst hx hlx hrx =>
    cases ry with
    | lst hy hly hry =>
      obtain ⟨hl, p⟩ := h
      refine .inr (.inr (.inr ⟨_, _, _, _, rfl, rfl, bs.bh _ _ hx, bs.bh _ _ hy, by rw [← hrx.length, ← hry.length]; exact hl, ?_⟩))
      exact new_list bs (hrx.append hry) (by rw [List.length_append]; exact hl) p k
    | _ => exact False.elim h
  | _ => exact False.elim h
theorem eo_add (ha : ED X a fa) (hb : ED X b fb) : EO X (.BinOp a .Add b pos) (fun ρ M P => fa ρ M fun x M => fb ρ M fun y M => hAdd x y M P) := eo_bin op_addAll sr_addAll ha hb
/-- * -/
def repD {α : Type} (l : List α) (k : Int) : List α := (List.replicate k.toNat l).flatten
def hMul (x y : D) (M : Mem) (P : OT → Mem → Prop) : Prop := match x, y with
  | .int i, .int j => CMul i j ∧ P (.fz (.int (i * j))) M
  | .lst l, .int k => -(2 ^ 63) ≤ k ∧ k < 2 ^ 63 ∧ l.length * k.toNat ≤ sizeLine ∧ P (.ow ((repD l k).map .fz)) M
  | _, _ => False
theorem Reps.rep {K : PySem.W.Frag} {B : Hp} {ds : List D} {vs : List V} (h : Reps K B ds vs) : ∀ k : Nat, Reps K B (List.replicate k ds).flatten (List.replicate k vs).flatten
  | 0 => .nil
  | k + 1 => by rw [List.replicate_succ, List.flatten_cons, List.replicate_succ, List.flatten_cons]; exact h.append (Reps.rep h k)
theorem rep_len {α : Type} (l : List α) : ∀ k : Nat, (List.replicate k l).flatten.length = l.length * k
  | 0 => by simp
  | k + 1 => by rw [List.replicate_succ, List.flatten_cons, List.length_append, rep_len l k, Nat.mul_succ, Nat.add_comm]
def rMulAll : R2 := fun x y H Q => rI CMul (fun i j => .int (i * j)) x y H Q ∨ rRep x y H Q
theorem op_mulAll : OpR X (binaryOp .Mult) rMulAll := OpR.or op_mul op_rep
theorem sr_mulAll {K : PySem.W.Frag} : SR2o K rMulAll hMul := by
  intro B H x y vx vy P Q bs rx ry h k
  cases rx with
  | int i =>
    cases ry with
    | int j => exact .inl ⟨i, j, rfl, rfl, h.1, kD k _ _ B H bs.grow (.int _) h.2⟩
    | _ => exact False.elim h
  | lst hx hlx hrx =>
    cases ry with
    | int j =>
      obtain ⟨h1, h2, hl, p⟩ := h
      refine .inr ⟨_, _, _, rfl, rfl, bs.bh _ _ hx, h1, h2, by rw [← hrx.length]; exact hl, ?_⟩
      exact new_list bs (hrx.rep _) (by rw [rep_len]; exact hl) p k
    | _ => exact False.elim h
  | _ => exact False.elim h
theorem eo_mul (ha : ED X a fa) (hb : ED X b fb) : EO X (.BinOp a .Mult b pos) (fun ρ M P => fa ρ M fun x M => fb ρ M fun y M => hMul x y M P) := eo_bin op_mulAll sr_mulAll ha hb

/-! ### places and slices -/
def hIx (x y : D) (M : Mem) (P : D → Mem → Prop) : Prop := match x, y with
  | .tup l, .int i => ∃ d, atI l i = some d ∧ P d M
  | .lst l, .int i => ∃ d, atI l i = some d ∧ P d M
  | .scr l, .int i => ∃ n, atI l i = some n ∧ P (.int n) M
  | .mob p, .int i => ∃ l d, M p = some (.lst l) ∧ atI l i = some d ∧ P d M
  | .str z, .int i => z.length ≤ sizeLine ∧ ∃ c, atI z.cps.toList i = some c ∧ P (.str ⟨#[c]⟩) M
  | _, _ => False
def SR2d (K : PySem.W.Frag) (r : R2) (h : D → D → Mem → (D → Mem → Prop) → Prop) : Prop :=
  ∀ (B : Kn) (H : Hp) (x y : D) (vx vy : V) (P : D → Mem → Prop) (Q : VK), Base K B H → Rep K B x vx → Rep K B y vy → h x y B.m P → (∀ d v B' H', Grow K B H B' H' → Rep K B' d v → P d B'.m → Q v H') → r vx vy H Q
theorem snd_opd {K : PySem.W.Frag} {r : R2} {h : D → D → Mem → (D → Mem → Prop) → Prop} {ta tb : TE} {fa fb : RD} (hr : SR2d K r h) (ha : SndD K ta fa) (hb : SndD K tb fb) :
    SndD K (tOp r ta tb) (fun ρ M P => fa ρ M fun x M => fb ρ M fun y M => h x y M P) := fun B H ρ σ S P Q st hf k =>
  ha B H ρ σ S _ _ st hf fun x vx B1 H1 g1 r1 hf1 => hb B1 H1 ρ σ S _ _ (st.grow g1) hf1 fun y vy B2 H2 g2 r2 hf2 =>
    hr B2 H2 x y vx vy P Q g2.base (r1.up g2.b) r2 hf2 fun d v B3 H3 g3 r3 p => k d v B3 H3 ((g1.trans g2).trans g3) r3 p
theorem Reps.atI {K : PySem.W.Frag} {B : Hp} {ds : List D} {vs : List V} {i : Int} {d : D} (h : Reps K B ds vs) (e : L2.atI ds i = some d) : ∃ v, L2.atI vs i = some v ∧ Rep K B d v := by
  unfold L2.atI at e ⊢
  rw [← h.length]
  cases q : ixN ds.length i with
  | none => rw [q] at e; cases e
  | some j =>
    rw [q] at e
    exact h.getD e
theorem sr_ix {K : PySem.W.Frag} : SR2d K (rIx K) hIx := by
  intro B H x y vx vy P Q bs rx ry h k
  cases rx with
  | tup hx hlx hrx =>
    cases ry with
    | int i =>
      obtain ⟨d, e, p⟩ := h
      obtain ⟨v, e2, rd⟩ := hrx.atI e
      exact .inr (.inl ⟨_, _, i, v, rfl, rfl, Evl.ex_t bs.bh hx, e2, k d v B H bs.grow rd p⟩)
    | _ => exact False.elim h
  | lst hx hlx hrx =>
    cases ry with
    | int i =>
      obtain ⟨d, e, p⟩ := h
      obtain ⟨v, e2, rd⟩ := hrx.atI e
      exact .inl ⟨_, _, i, v, rfl, rfl, Evl.sq_of (bs.bh _ _ hx), e2, k d v B H bs.grow rd p⟩
    | _ => exact False.elim h
  | mob a =>
    cases ry with
    | int i =>
      obtain ⟨l, d, em, e, p⟩ := h
      obtain ⟨_, xs, hx, hl, hrx⟩ := bs.wd a _ em
      obtain ⟨v, e2, rd⟩ := hrx.atI e
      exact .inl ⟨_, _, i, v, rfl, rfl, Evl.sq_of hx, e2, k d v B H bs.grow rd p⟩
    | _ => exact False.elim h
  | scr hx =>
    cases ry with
    | int i =>
      obtain ⟨n, e, p⟩ := h
      refine .inl ⟨_, _, i, .int n, rfl, rfl, Evl.ex_l bs.bh hx, ?_, k _ _ B H bs.grow (.int n) p⟩
      unfold L2.atI at e ⊢
      rw [List.length_map]
      cases q : ixN _ i with
      | none => rw [q] at e; cases e
      | some j =>
        rw [q] at e
        have e' := Option.bind_eq_some_iff.mp e
        show (List.map V.int _)[j]? = _
        rw [List.getElem?_map]
        obtain ⟨a, ha, hb⟩ := e'
        cases ha
        rw [hb]; rfl
    | _ => exact False.elim h
  | str hx =>
    cases ry with
    | int i =>
      obtain ⟨hl, c, e, p⟩ := h
      refine .inr (.inr ⟨_, i, c, rfl, rfl, hl, e, k _ _ B H bs.grow (.str ?_) p⟩)
      obtain ⟨j, _, hj, _⟩ := atI_get e
      unfold strOk at hx ⊢
      have := Array.all_eq_true'.mp hx c (by
        have := List.mem_of_getElem? hj
        simpa using this)
      simpa using this
    | _ => exact False.elim h
  | _ => exact False.elim h
theorem ed_ix (ha : ED X a fa) (hb : ED X b fb) (hp : PlainIx b := by exact fun _ _ => rfl) : ED X (.Subscript a b pos) (fun ρ M P => fa ρ M fun x M => fb ρ M fun y M => hIx x y M P) := by
  obtain ⟨ta, pa, sa⟩ := ha.ex
  obtain ⟨tb, pb, sb⟩ := hb.ex
  exact ⟨_, pe_ix ix_seq pa pb hp, snd_opd sr_ix sa sb⟩
/-- a dict's item by a written text's key, an int's -/
def keyOf : D → Option Key
  | .int i => some (.inl i)
  | .str x => some (.inr x)
  | _ => none
theorem keyOf_rep {K : PySem.W.Frag} {B : Hp} {d : D} {v : V} {k : Key} (h : keyOf d = some k) (r : Rep K B d v) : v = kV k := by
  cases r with
  | int i => cases h; rfl
  | str hx => cases h; rfl
  | _ => cases h
def getK {α : Type} : List Key → List α → Key → Option α
  | k :: ks, d :: ds, x => if k = x then some d else getK ks ds x
  | _, _, _ => none
theorem valV_getK {K : PySem.W.Frag} {B : Hp} {x : Key} : ∀ {ks : List Key} {ds : List D} {vs : List V} {d : D}, Reps K B ds vs → getK ks ds x = some d → ∃ v, valV (ks.zip vs) x = some v ∧ Rep K B d v
  | [], _, _, _, _, e => by simp [getK] at e
  | k :: ks, _, _, _, .nil, e => by simp [getK] at e
  | k :: ks, _, _, d, .cons (v := v) h t, e => by
    unfold getK at e
    by_cases q : k = x
    · rw [if_pos q] at e
      cases e
      subst q
      exact ⟨v, by simp [valV], h⟩
    · rw [if_neg q] at e
      obtain ⟨v', h1, h2⟩ := valV_getK (ks := ks) t e
      refine ⟨v', ?_, h2⟩
      simp only [List.zip_cons_cons, valV]
      rw [← h1]
      simp [valV, q]
def hDix (x y : D) (M : Mem) (P : D → Mem → Prop) : Prop := ∃ ks ds k d, x = .dk ks ds ∧ keyOf y = some k ∧ getK ks ds k = some d ∧ P d M
theorem ed_dix (hu : X.A.units + 200 < cLine) (ha : ED X a fa) (hb : ED X b fb) (hp : NoSl b := by exact fun _ _ => rfl) : ED X (.Subscript a b pos) (fun ρ M P => fa ρ M fun x M => fb ρ M fun y M => hDix x y M P) := by
  obtain ⟨ta, pa, sa⟩ := ha.ex
  obtain ⟨tb, pb, sb⟩ := hb.ex
  refine ⟨_, pe_dget (by omega) pa pb hp, fun B H ρ σ S P Q st hf k => ?_⟩
  refine sa B H ρ σ S _ _ st hf fun x vx B1 H1 g1 r1 hf1 => sb B1 H1 ρ σ S _ _ (st.grow g1) hf1 fun y vy B2 H2 g2 r2 hf2 => ?_
  obtain ⟨ks, ds, kk, d, rfl, hk, hg, p⟩ := hf2
  have r1 := r1.up g2.b
  cases r1 with
  | dk hs h1 hl hr =>
    obtain ⟨v, e1, rd⟩ := valV_getK hr hg
    rw [keyOf_rep hk r2]
    refine ⟨_, v, rfl, ?_, k d v B2 H2 (g1.trans g2) rd p⟩
    rw [← e1]
    exact DGet.k (g2.base.bh _ _ hs)
end
end DL

/-! DLG: a def's promise where nothing that guards a repr is under way: FnG, its rule, calls, the law's end. -/
namespace DL
open PySem L2 PySem.Spec
open PyProof.Rows hiding St
set_option autoImplicit false

structure FnG (P : Program) (w : World) (K : PySem.W.Frag) (mg : Str → Option Value) (base : Heap) (CX : CXT) (k : Nat) (f : Addr) (fd : FuncData) (ps : List Str) (sp : Sp) : Prop where
  len : ∀ vs H Q E, sp vs H Q E → vs.length = ps.length
  run : ∀ (A : Around) (fr : List PySem.Env) (s : Shared) (H : Hp) (args : Args) (us : List Value) (vs : List V) (Q : VK) (E : XK), Room k A ∧ A.guards = some [] → Env0 P w K mg base A fr s H → BindsTo s fd args (ps.zip us) → Vals vs us →
    sp vs H Q E → codeAny (model P w) A (.call (.ref f) args) (CR CX fr P w H s Q E) s
section
variable {P : Program} {w : World} {K : PySem.W.Frag} {mg : Str → Option Value} {base : Heap} {CX : CXT} {k j : Nat} {f : Addr} {fd : FuncData} {ps : List Str} {sp sp' : Sp}
theorem FnOk.g (F : FnOk P w K mg base CX k f fd ps sp) : FnG P w K mg base CX k f fd ps sp := ⟨F.len, fun A fr s H args us vs Q E hr => F.run A fr s H args us vs Q E hr.1⟩
theorem FnG.mono (F : FnG P w K mg base CX j f fd ps sp) (h : j ≤ k) : FnG P w K mg base CX k f fd ps sp := ⟨F.len, fun A fr s H args us vs Q E hr => F.run A fr s H args us vs Q E ⟨hr.1.mono h, hr.2⟩⟩
theorem FnG.imp (F : FnG P w K mg base CX k f fd ps sp) (h : ∀ vs H Q E, sp' vs H Q E → sp vs H Q E) : FnG P w K mg base CX k f fd ps sp' :=
  ⟨fun vs H Q E q => F.len _ _ _ _ (h vs H Q E q), fun A fr s H args us vs Q E hr he hb hv hs => F.run A fr s H args us vs Q E hr he hb hv (h _ _ _ _ hs)⟩

/-- a def by its body: only where no repr is under way need it keep its word -/
theorem fnG_of {name qual : Str} {params : Arguments} {body : List Stmt} {scope : Scope} {dV kV doc pm cdv ct oc : Value} {an od : Option Addr} {osl : Array (Option Value)} {N : List Str}
    (at_ : K.lookup f = some ⟨oc, od, .func (PySem.W.fnOf name qual params body scope dV kV doc pm an cdv ct), osl⟩) (code : PySem.W.codeIn K cdv qual = true) (S : FnScope N ps scope) (len : ∀ vs H Q E, sp vs H Q E → vs.length = ps.length)
    (hbody : ∀ (A : Around) (fr : List PySem.Env) (s : Shared) (H : Hp) (vs : List V) (Q : VK) (E : XK), Room k (A.deeper (envOfC qual scope s.heap.objs.size f cdv)) → A.guards = some [] → sp vs H Q E →
      ∃ t, PSs (cxOf CX P w K mg base N qual scope f cdv A fr s H E) body t ∧ t { nx := fun _ H' => Q .non H', rt := Q } (L2.start N vs) H) :
    FnG P w K mg base CX (k + 1) f (PySem.W.fnOf name qual params body scope dV kV doc pm an cdv ct) ps sp := by
  refine ⟨len, fun A fr s H args us vs Q E ⟨hr, hg⟩ e0 hb rel q => ?_⟩
  have up : ∀ b o, base.get? b = some o → s.heap.get? b = some o := fun b o z => (e0.bs b o z).1
  have KX := e0.mod.kin.keeps up
  have n := len vs H Q E q
  obtain ⟨t, runs, q⟩ := hbody A fr s H vs Q E (hr.deeper _) hg q
  refine codeAny_call_function hr.depth (KX _ _ at_) rfl S.co S.gen rfl (PySem.W.codeRec_of KX code) (hb _ _ _ _ (wpAny_newFunctionEnv_cells S.kind (fun y hy => ?_) ?_))
  · rcases S.par y.1 (List.of_mem_zip (show (y.1, y.2) ∈ _ from hy)).1 with z | z
    · exact .inl z
    · exact .inr ⟨z, PySem.W.cellsFrom_some _ _ _ (.inl z)⟩
  · rintro _ rfl s1 x
    refine ⟨(e0.mod.nolimit.keeps up).keeps x.toInCall.keep, codeAny_func (wpAny_mono (runs.run [] s1 _ H _ (inv_start S hr.hd e0 n rel x) q) ?_ fun _ _ z => z)⟩
    rintro (_ | _ | _ | u) s' h
    · obtain ⟨σ', H', J, q⟩ := h
      exact ⟨.non, H', J.os, J.bare, J.base, J.hok, rfl, q⟩
    · exact h.elim fun _ ⟨_, _, z⟩ => z.elim
    · exact h.elim fun _ ⟨_, _, z⟩ => z.elim
    · obtain ⟨v, σ', H', J, r, q⟩ := h
      exact ⟨v, H', J.os, J.bare, J.base, J.hok, r, q⟩
/-- .. of the text -/
theorem funG {x qual : Str} {st : Stmt} {N : List Str} (F : Fun K x qual st f fd) (S : FnScope N ps (defScope st)) (len : ∀ vs H Q E, sp vs H Q E → vs.length = ps.length)
    (hbody : ∀ (cdv : Value) (A : Around) (fr : List PySem.Env) (s : Shared) (H : Hp) (vs : List V) (Q : VK) (E : XK), Room k (A.deeper (envOfC qual (defScope st) s.heap.objs.size f cdv)) → A.guards = some [] → sp vs H Q E →
      ∃ t, PSs (cxOf CX0 P w K mg base N qual (defScope st) f cdv A fr s H E).nox (defBody st) t ∧ t { nx := fun _ H' => Q .non H', rt := Q } (L2.start N vs) H) : FnG P w K mg base CX0 (k + 1) f fd ps sp := by
  obtain ⟨oc, od, kV, doc, pm, an, cdv, ct, osl, rfl, lk, hcd⟩ := F.ex
  refine fnG_of lk hcd S len fun A fr s H vs Q E hr hg hsp => ?_
  obtain ⟨t, h, q⟩ := hbody cdv A fr s H vs Q E hr hg hsp
  exact ⟨t, h.nox, q⟩
end

section
variable {X : Cx} {CX : CXT} {k : Nat} {f C : Addr} {fd : FuncData} {ps ks : List Str} {sp : Sp} {dvs : List V} {ds : List Value} {E : XK} {x m : Str} {p pos apos : Pos} {e o : Expr} {es : List Expr} {kws : List Keyword} {ta : TE} {t tk : TA}
/-- what a call wants of the room -/
def RG0 (k : Nat) (X : Cx) : Prop := Room k X.A ∧ X.A.guards = some []
theorem RG0.mono {j : Nat} (h : RG0 k X) (hj : j ≤ k) : RG0 j X := ⟨h.1.mono hj, h.2⟩
/-- a call by all that its arguments are, however they were written -/
theorem runBy {pins : List (Addr × Obj)} {σ : L2.St} {H : Hp} {s : Shared} {Q : VK} {us all : List Value} {kw : List (Str × Value)} {vs : List V} (F : FnG X.prog X.w X.K X.mg X.base CX k f fd ps sp) (hr : RG0 k X) (hx : Passes CX X E)
    (I : L2.Inv X pins σ H s) (b : BindsTo s fd ⟨us, kw⟩ (ps.zip all)) (r : Vals vs all) (h : sp vs H Q E) : wpAny (model X.prog X.w) X.A (call (.ref f) us kw) (L2.EP X pins σ Q) X.xe s := by
  refine wpAny_call (codeAny_mono (F.run X.A X.stack s H ⟨us, kw⟩ all vs Q E hr I.env0 b r h) ?_)
  rintro (e | _ | _ | _ | u) s' z
  · exact hx pins σ H s e s' I z
  all_goals first | exact I.after z | exact z.elim
theorem runG {pins : List (Addr × Obj)} {σ : L2.St} {H : Hp} {s : Shared} {Q : VK} {us : List Value} {vs : List V} (F : FnG X.prog X.w X.K X.mg X.base CX k f fd ps sp) (hr : RG0 k X) (hb : Binds X.K fd ps ds) (hd : Vals dvs ds) (hx : Passes CX X E)
    (I : L2.Inv X pins σ H s) (r : Vals vs us) (h : sp (vs ++ dvs) H Q E) : wpAny (model X.prog X.w) X.A (call (.ref f) us) (L2.EP X pins σ Q) X.xe s :=
  runBy F hr hx I (hb s us I.kIn ((r.append hd).length.symm.trans (F.len _ _ _ _ h))) (r.append hd) h
theorem pe_callG (F : FnG X.prog X.w X.K X.mg X.base CX k f fd ps sp) (hr : RG0 k X) (hg : Gl X x) (hm : X.mg x = some (.ref f)) (hk : PySem.W.keepIn X.K (.ref f) = true) (hb : Binds X.K fd ps ds) (hd : Vals dvs ds) (hx : Passes CX X E)
    (ha : PA X (e :: es) t) (hdb : (x == ("__debug__" : Str)) = false := by decide) (he : starEach (e :: es) X.env = (false, eval e X.env) :: starEach es X.env := by rfl) (hpl : (backTo pos (starEach es X.env)).any (·.1) = false := by rfl) :
    PE X (.Call (.Name x p) (e :: es) [] pos) (tCall sp dvs E t) := by
  constructor
  intro pins s σ H Q I h
  exact wpAny_Call_Name_kw (ld_glob I hg hm (PySem.W.callWith_K (h₀ := X.base) I.ok.mod.kin hk (thn (ha.run pos pins s σ H _ I h) fun us s1 ⟨vs, H1, I1, r, q⟩ => ⟨I1.kIn, runG F hr hb hd hx I1 r q⟩) he hpl) hdb)
theorem pe_callG0 (F : FnG X.prog X.w X.K X.mg X.base CX k f fd ps sp) (hr : RG0 k X) (hg : Gl X x) (hm : X.mg x = some (.ref f)) (hk : PySem.W.keepIn X.K (.ref f) = true) (hb : Binds X.K fd ps ds) (hd : Vals dvs ds) (hx : Passes CX X E)
    (hdb : (x == ("__debug__" : Str)) = false := by decide) : PE X (.Call (.Name x p) [] [] pos) (tCall sp dvs E tNil) := by
  constructor
  intro pins s σ H Q I h
  exact wpAny_Call_Name_kw (ld_glob I hg hm (PySem.W.callWith_K0 I.kIn hk (runG (us := []) F hr hb hd hx I .nil h)) hdb)
/-- some of them, in this order -/
def pick {α : Type} (ix : List Nat) (l : List α) : List α := ix.filterMap fun i => l[i]?
theorem Vals.pick {vs : List V} {us : List Value} (r : Vals vs us) : ∀ ix : List Nat, Vals (pick ix vs) (pick ix us)
  | [] => .nil
  | i :: ix => by
    unfold DL.pick
    rw [List.filterMap_cons, List.filterMap_cons]
    cases q : vs[i]? with
    | none => rw [r.none_of q]; exact Vals.pick r ix
    | some v =>
      obtain ⟨u, hu, ru⟩ := r.get q
      rw [hu]
      exact .cons ru (Vals.pick r ix)
/-- n positional values, keywords ks: which value each parameter gets -/
def KB (K : PySem.W.Frag) (fd : FuncData) (ps : List Str) (n : Nat) (ks : List Str) (ix : List Nat) : Prop :=
  ∀ (s : Shared) (us ws : List Value), K.In s.heap → us.length = n → ws.length = ks.length → BindsTo s fd ⟨us, ks.zip ws⟩ (ps.zip (pick ix (us ++ ws)))
theorem Fun.kb {K : PySem.W.Frag} {qual : Str} {st : Stmt} (F : Fun K x qual st f fd) (n : Nat) (ks : List Str) (ix : List Nat) (h : ∀ (kV doc pm : Value) (an : Option Addr) (cdv ct : Value) (us ws : List Value), us.length = n → ws.length = ks.length →
    bindArgs (PySem.W.fnOf x qual (defArgs st) (defBody st) (defScope st) .none kV doc pm an cdv ct) ⟨us, ks.zip ws⟩ = pure (ps.zip (pick ix (us ++ ws)))) : KB K fd ps n ks ix := by
  obtain ⟨oc, od, kV, doc, pm, an, cdv, ct, osl, rfl, lk, hcd⟩ := F.ex
  exact fun s us ws _ h1 h2 => .of_eq (h kV doc pm an cdv ct us ws h1 h2)
variable {n : Nat} {ix : List Nat}
def tCallN (sp : Sp) (n m : Nat) (ix : List Nat) (E : XK) (t tk : TA) : TE := fun σ H Q => t σ H fun vs H1 => tk σ H1 fun zs H2 => vs.length = n ∧ zs.length = m ∧ sp (pick ix (vs ++ zs)) H2 Q E
theorem runGn {pins : List (Addr × Obj)} {σ : L2.St} {H : Hp} {s : Shared} {Q : VK} {us ws : List Value} {vs zs : List V} (F : FnG X.prog X.w X.K X.mg X.base CX k f fd ps sp) (hr : RG0 k X) (hb : KB X.K fd ps n ks ix) (hx : Passes CX X E)
    (I : L2.Inv X pins σ H s) (r : Vals vs us) (rz : Vals zs ws) (l1 : vs.length = n) (l2 : zs.length = ks.length) (h : sp (pick ix (vs ++ zs)) H Q E) : wpAny (model X.prog X.w) X.A (call (.ref f) us (ks.zip ws)) (L2.EP X pins σ Q) X.xe s :=
  runBy F hr hx I (hb s us ws I.kIn (r.length.symm.trans l1) (rz.length.symm.trans l2)) (Vals.pick (r.append rz) ix) h
/-- f(e, .., k = v, ..); f(k = v, ..) -/
theorem pe_callGk (F : FnG X.prog X.w X.K X.mg X.base CX k f fd ps sp) (hr : RG0 k X) (hg : Gl X x) (hm : X.mg x = some (.ref f)) (hk : PySem.W.keepIn X.K (.ref f) = true) (hb : KB X.K fd ps n ks ix) (hx : Passes CX X E)
    (ha : PA X (e :: es) t) (hkw : PK X kws tk) (hall : (backToKw pos (keywordEach kws X.env)).all (·.1.isSome) = true := by rfl) (hks : (backToKw pos (keywordEach kws X.env)).filterMap (·.1) = ks := by rfl)
    (hdb : (x == ("__debug__" : Str)) = false := by decide) (he : starEach (e :: es) X.env = (false, eval e X.env) :: starEach es X.env := by rfl)
    (hpl : ((backTo pos (starEach (e :: es) X.env)).any (·.1) || (backToKw pos (keywordEach kws X.env)).any (·.1.isNone)) = false := by rfl) :
    PE X (.Call (.Name x p) (e :: es) kws pos) (tCallN sp n ks.length ix E t tk) := by
  constructor
  intro pins s σ H Q I h
  refine wpAny_Call_Name_kw (ld_glob I hg hm (PySem.W.callWith_KW (h₀ := X.base) I.ok.mod.kin hk hall (thn (ha.run pos pins s σ H _ I h) fun us s1 ⟨vs, H1, I1, r, q⟩ => thn (hkw.run pos pins s1 σ H1 _ I1 q) fun ws s2 ⟨zs, H2, I2, rz, l1, l2, q2⟩ => ⟨I2.kIn, ?_⟩) hpl he) hdb)
  rw [hks]
  exact runGn F hr hb hx I2 r rz l1 l2 q2
theorem pe_callGk0 (F : FnG X.prog X.w X.K X.mg X.base CX k f fd ps sp) (hr : RG0 k X) (hg : Gl X x) (hm : X.mg x = some (.ref f)) (hk : PySem.W.keepIn X.K (.ref f) = true) (hb : KB X.K fd ps 0 ks ix) (hx : Passes CX X E)
    (hkw : PK X kws tk) (hall : (backToKw pos (keywordEach kws X.env)).all (·.1.isSome) = true := by rfl) (hks : (backToKw pos (keywordEach kws X.env)).filterMap (·.1) = ks := by rfl)
    (hdb : (x == ("__debug__" : Str)) = false := by decide) (hpl : ((backTo pos (starEach [] X.env)).any (·.1) || (backToKw pos (keywordEach kws X.env)).any (·.1.isNone)) = false := by rfl) :
    PE X (.Call (.Name x p) [] kws pos) (tCallN sp 0 ks.length ix E tNil tk) := by
  constructor
  intro pins s σ H Q I h
  refine wpAny_Call_Name_kw (ld_glob I hg hm (PySem.W.callWith_KW0 (h₀ := X.base) I.ok.mod.kin hk hall (thn (hkw.run pos pins s σ H _ I h) fun ws s2 ⟨zs, H2, I2, rz, l1, l2, q2⟩ => ⟨I2.kIn, ?_⟩) hpl) hdb)
  rw [hks]
  exact runGn (us := []) (vs := []) F hr hb hx I2 .nil rz rfl l2 q2
end
end DL

/-! DL3: slices, tests, displays, calls of own defs and of built-in names. -/
namespace DL
open PySem L2
open PySem.PyData (strOk)
set_option autoImplicit false
section
variable {X : Cx} {e a b c o : Expr} {es rest : List Expr} {pos : Pos} {fa fb fc : RD}

/-! ### is None -/
theorem ec_isN {j pos'} (ha : EV X a fa) : EC X (.Compare a [.Is] [.Constant .none j pos'] pos) (fun ρ M P => fa ρ M fun x M => P (.bl (match x with | .non => true | _ => false)) M) := by
  have sr : SR2 X.K (fun x y H Q => y = .non ∧ Q (.bl (decide (x = .non))) H) (fun x y M P => y = .non ∧ P (.bl (match x with | .non => true | _ => false)) M) := by
    intro B H x y vx vy P Q bs rx ry h k
    obtain ⟨rfl, p⟩ := h
    cases ry
    refine ⟨rfl, k _ _ B H bs.grow ?_ p⟩
    cases rx <;> exact .bl _
  have := ec_cmp (pos := pos) op_isN sr ha (ed_non (X := X) (j := j) (pos := pos')).v
  simpa using this
theorem ec_notN {j pos'} (ha : EV X a fa) : EC X (.Compare a [.IsNot] [.Constant .none j pos'] pos) (fun ρ M P => fa ρ M fun x M => P (.bl (match x with | .non => false | _ => true)) M) := by
  have sr : SR2 X.K (fun x y H Q => y = .non ∧ Q (.bl (!decide (x = .non))) H) (fun x y M P => y = .non ∧ P (.bl (match x with | .non => false | _ => true)) M) := by
    intro B H x y vx vy P Q bs rx ry h k
    obtain ⟨rfl, p⟩ := h
    cases ry
    refine ⟨rfl, k _ _ B H bs.grow ?_ p⟩
    cases rx <;> exact .bl _
  have := ec_cmp (pos := pos) op_notN sr ha (ed_non (X := X) (j := j) (pos := pos')).v
  simpa using this

/-! ### slices -/
abbrev RP := Env → Mem → (Option Int → Mem → Prop) → Prop
def SndP (K : PySem.W.Frag) (to : TO) (f : RP) : Prop :=
  ∀ (B : Kn) (H : Hp) (ρ : Env) (σ : St) (S : List Addr) (P : Option Int → Mem → Prop) (Q : Option Int → Hp → Prop), Stt K B H ρ σ S → f ρ B.m P → (∀ o B' H', Grow K B H B' H' → P o B'.m → Q o H') → to σ H Q
structure EP (X : Cx) (e : Option Expr) (f : RP) : Prop where
  ex : ∃ te, PO X e te ∧ SndP X.K te f
theorem ep_none : EP X none (fun _ M P => P none M) := ⟨_, po_none, fun B H ρ σ S P Q st hf k => k none B H st.base.grow hf⟩
theorem ep_some (h : EV X e fa) : EP X (some e) (fun ρ M P => fa ρ M fun d M => ∃ i, d = .int i ∧ P (some i) M) := by
  obtain ⟨te, hp, hs⟩ := h.ex
  refine ⟨_, po_some hp, fun B H ρ σ S P Q st hf k => hs B H ρ σ S _ _ st hf fun d v B' H' g r p => ?_⟩
  obtain ⟨i, rfl, p⟩ := p
  cases r
  exact ⟨i, rfl, k (some i) B' H' g p⟩
def cutL {α : Type} (xs : List α) (lo hi : Option Int) : List α := (xs.drop (HT.sIx xs.length 0 lo)).take (HT.sIx xs.length xs.length hi - HT.sIx xs.length 0 lo)
theorem cutL_length {α : Type} (xs : List α) (lo hi : Option Int) : (cutL xs lo hi).length ≤ xs.length := by
  unfold cutL
  rw [List.length_take, List.length_drop]
  omega
theorem Reps.cut {K : PySem.W.Frag} {B : Hp} {ds : List D} {vs : List V} (h : Reps K B ds vs) (lo hi : Option Int) : Reps K B (cutL ds lo hi) (cutV vs lo hi) := by
  unfold cutL cutV
  rw [h.length]
  exact (h.drop _).take _
def hSl (x : D) (lo hi : Option Int) (M : Mem) (P : OT → Mem → Prop) : Prop := match x with
  | .tup l => P (.fz (.tup (cutL l lo hi))) M
  | .lst l => P (.ow ((cutL l lo hi).map .fz)) M
  | .str z => z.length ≤ sizeLine ∧ P (.fz (.str (cutS z lo hi))) M
  | _ => False
theorem strOk_cut {z : Str} (h : strOk z = true) (lo hi : Option Int) : strOk (cutS z lo hi) = true := by
  unfold strOk at h ⊢
  rw [Array.all_eq_true'] at h ⊢
  intro c hc
  refine h c ?_
  have : c ∈ ((z.cps.toList.drop (HT.sIx z.length 0 lo)).take (HT.sIx z.length z.length hi - HT.sIx z.length 0 lo)) := by simpa [cutS] using hc
  simpa using List.mem_of_mem_drop (List.mem_of_mem_take this)
def rSlAll (K : PySem.W.Frag) : V → Option Int → Option Int → Hp → VK → Prop := fun x lo hi H Q => rSlL K x lo hi H Q ∨ rSlA K x lo hi H Q ∨ rSlS x lo hi H Q
theorem sl_all : SlR X (rSlAll X.K) := SlR.or sl_list (SlR.or sl_tupA sl_str)
theorem cutL_whole {α : Type} {xs : List α} {lo hi : Option Int} (h : HT.sIx xs.length 0 lo = 0 ∧ HT.sIx xs.length xs.length hi = xs.length) : cutL xs lo hi = xs := by
  unfold cutL
  rw [h.1, h.2]
  simp
theorem eo_sl {lo hi : Option Expr} {p2 : Pos} {fl fh : RP} (ha : ED X a fa) (hl : EP X lo fl) (hh : EP X hi fh) : EO X (.Subscript a (.Slice lo hi none p2) pos) (fun ρ M P => fa ρ M fun x M => fl ρ M fun l M => fh ρ M fun h M => hSl x l h M P) := by
  obtain ⟨ta, pa, sa⟩ := ha.ex
  obtain ⟨tl, pl, sl⟩ := hl.ex
  obtain ⟨th, ph, sh⟩ := hh.ex
  refine ⟨_, pe_slice sl_all pa pl ph, fun B H ρ σ S P Q st hf k => ?_⟩
  refine sa B H ρ σ S _ _ st hf fun x vx B1 H1 g1 r1 hf1 => sl B1 H1 ρ σ S _ _ (st.grow g1) hf1 fun l B2 H2 g2 hf2 => sh B2 H2 ρ σ S _ _ ((st.grow g1).grow g2) hf2 fun h B3 H3 g3 hf3 => ?_
  have g := (g1.trans g2).trans g3
  have bs := g3.base
  have r1 := r1.up (g2.b.trans g3.b)
  have k' : ∀ t v B' H' T, Grow X.K B3 H3 B' H' → RepO X.K B' H' t v T → Own B3 H3 B' T → P t B'.m → Q v H' := fun t v B' H' T g' r o p => k t v B' H' T (g.trans g') r (o.back g) p
  cases r1 with
  | tup hx hlx hrx =>
    refine .inr (.inl ⟨_, _, rfl, Evl.ex_t bs.bh hx, fun e => ?_, fun _ => ?_⟩)
    · rw [← hrx.length] at e
      have hf3 : P (.fz (.tup (cutL _ l h))) B3.m := hf3
      rw [cutL_whole e] at hf3
      exact kD k' _ _ B3 H3 bs.grow (.tup hx hlx hrx) hf3
    · exact new_tuple bs (hrx.cut l h) (Nat.le_trans (cutL_length _ _ _) hlx) hf3 (kD k')
  | lst hx hlx hrx =>
    refine .inl ⟨_, _, rfl, Evl.sq_of (bs.bh _ _ hx), ?_⟩
    exact new_list bs (hrx.cut l h) (Nat.le_trans (cutL_length _ _ _) hlx) hf3 k'
  | str hx => exact .inr (.inr ⟨_, rfl, hf3.1, kD k' _ _ B3 H3 bs.grow (.str (strOk_cut hx l h)) hf3.2⟩)
  | _ => exact False.elim hf3

/-! ### tests -/
theorem et_val (h : ED X e fa) (he : ∀ whole, isTrue e X.env whole = (do let v ← whole; standAt e.pos; holding [v] (truthy v)) := by intro _; rfl) : ET X e (fun ρ M P => fa ρ M fun d M => ∃ b, d = .bl b ∧ P b M) := by
  obtain ⟨te, hp, hs⟩ := h.ex
  exact ⟨_, pt_val hp he, snd_test hs⟩
theorem et_not {f : RT} (h : ET X a f) : ET X (.UnaryOp .Not a pos) (fun ρ M P => f ρ M fun b M => P (!b) M) := by
  obtain ⟨te, hp, hs⟩ := h.ex
  exact ⟨_, pt_not hp, fun B H ρ σ S P Q st hf k => hs B H ρ σ S _ _ st hf fun b B' H' g p => k (!b) B' H' g p⟩
theorem ew_and1 {f : RT} (h : ET X a f) : EW X (.BoolOp .And [a] pos) f := by
  obtain ⟨te, hp, hs⟩ := h.ex
  exact ⟨_, pw_and1 hp, hs⟩
theorem ew_or1 {f : RT} (h : ET X a f) : EW X (.BoolOp .Or [a] pos) f := by
  obtain ⟨te, hp, hs⟩ := h.ex
  exact ⟨_, pw_or1 hp, hs⟩
theorem ew_and {f g : RT} (h : ET X a f) (h' : EW X (.BoolOp .And (b :: rest) pos) g) : EW X (.BoolOp .And (a :: b :: rest) pos) (fun ρ M P => f ρ M fun c M => if c = true then g ρ M P else P false M) := by
  obtain ⟨te, hp, hs⟩ := h.ex
  obtain ⟨te', hp', hs'⟩ := h'.ex
  refine ⟨_, pw_and hp hp', fun B H ρ σ S P Q st hf k => hs B H ρ σ S _ _ st hf fun c B' H' g p => ?_⟩
  cases c with
  | true => exact hs' B' H' ρ σ S _ _ (st.grow g) p fun d B2 H2 g2 p2 => k d B2 H2 (g.trans g2) p2
  | false => exact k false B' H' g p
theorem ew_or {f g : RT} (h : ET X a f) (h' : EW X (.BoolOp .Or (b :: rest) pos) g) : EW X (.BoolOp .Or (a :: b :: rest) pos) (fun ρ M P => f ρ M fun c M => if c = true then P true M else g ρ M P) := by
  obtain ⟨te, hp, hs⟩ := h.ex
  obtain ⟨te', hp', hs'⟩ := h'.ex
  refine ⟨_, pw_or hp hp', fun B H ρ σ S P Q st hf k => hs B H ρ σ S _ _ st hf fun c B' H' g p => ?_⟩
  cases c with
  | false => exact hs' B' H' ρ σ S _ _ (st.grow g) p fun d B2 H2 g2 p2 => k d B2 H2 (g.trans g2) p2
  | true => exact k true B' H' g p
theorem EW.t {f : RT} (h : EW X e f) : ET X e f := by
  obtain ⟨te, hp, hs⟩ := h.ex
  exact ⟨_, hp.pt, hs⟩
theorem ed_one {op} (h : ED X a fa) : ED X (.BoolOp op [a] pos) fa := by
  obtain ⟨te, hp, hs⟩ := h.ex
  exact ⟨_, pe_one hp, hs⟩
theorem ed_and (h : ED X a fa) (h' : ED X (.BoolOp .And (b :: rest) pos) fb) : ED X (.BoolOp .And (a :: b :: rest) pos) (fun ρ M P => fa ρ M fun d M => ∃ c, d = .bl c ∧ if c = true then fb ρ M P else P (.bl false) M) := by
  obtain ⟨te, hp, hs⟩ := h.ex
  obtain ⟨te', hp', hs'⟩ := h'.ex
  refine ⟨_, pe_and hp hp', fun B H ρ σ S P Q st hf k => hs B H ρ σ S _ _ st hf fun d v B' H' g r p => ?_⟩
  obtain ⟨c, rfl, p⟩ := p
  cases r
  refine ⟨c, rfl, ?_⟩
  cases c with
  | true => exact hs' B' H' ρ σ S _ _ (st.grow g) p fun d v B2 H2 g2 r2 p2 => k d v B2 H2 (g.trans g2) r2 p2
  | false => exact k _ _ B' H' g (.bl false) p
theorem ed_or (h : ED X a fa) (h' : ED X (.BoolOp .Or (b :: rest) pos) fb) : ED X (.BoolOp .Or (a :: b :: rest) pos) (fun ρ M P => fa ρ M fun d M => ∃ c, d = .bl c ∧ if c = true then P (.bl true) M else fb ρ M P) := by
  obtain ⟨te, hp, hs⟩ := h.ex
  obtain ⟨te', hp', hs'⟩ := h'.ex
  refine ⟨_, pe_or hp hp', fun B H ρ σ S P Q st hf k => hs B H ρ σ S _ _ st hf fun d v B' H' g r p => ?_⟩
  obtain ⟨c, rfl, p⟩ := p
  cases r
  refine ⟨c, rfl, ?_⟩
  cases c with
  | false => exact hs' B' H' ρ σ S _ _ (st.grow g) p fun d v B2 H2 g2 r2 p2 => k d v B2 H2 (g.trans g2) r2 p2
  | true => exact k _ _ B' H' g (.bl true) p
theorem ed_not (h : ED X a fa) : ED X (.UnaryOp .Not a pos) (fun ρ M P => fa ρ M fun d M => ∃ c, d = .bl c ∧ P (.bl (!c)) M) := by
  obtain ⟨te, hp, hs⟩ := h.ex
  refine ⟨_, pe_not hp, fun B H ρ σ S P Q st hf k => hs B H ρ σ S _ _ st hf fun d v B' H' g r p => ?_⟩
  obtain ⟨c, rfl, p⟩ := p
  cases r
  exact ⟨c, rfl, k _ _ B' H' g (.bl _) p⟩
theorem eo_if {f : RT} {ga gb : RO} (hc : ET X c f) (ha : EO X a ga) (hb : EO X b gb) : EO X (.IfExp c a b pos) (fun ρ M P => f ρ M fun d M => if d = true then ga ρ M P else gb ρ M P) := by
  obtain ⟨tc, pc, sc⟩ := hc.ex
  obtain ⟨ta, pa, sa⟩ := ha.ex
  obtain ⟨tb, pb, sb⟩ := hb.ex
  refine ⟨_, pe_ifExp pc pa pb, fun B H ρ σ S P Q st hf k => sc B H ρ σ S _ _ st hf fun d B' H' g p => ?_⟩
  cases d with
  | true => exact sa B' H' ρ σ S _ _ (st.grow g) p fun t v B2 H2 T g2 r2 o2 p2 => k t v B2 H2 T (g.trans g2) r2 (o2.back g) p2
  | false => exact sb B' H' ρ σ S _ _ (st.grow g) p fun t v B2 H2 T g2 r2 o2 p2 => k t v B2 H2 T (g.trans g2) r2 (o2.back g) p2
theorem ed_if {f : RT} (hc : ET X c f) (ha : ED X a fa) (hb : ED X b fb) : ED X (.IfExp c a b pos) (fun ρ M P => f ρ M fun d M => if d = true then fa ρ M P else fb ρ M P) := by
  obtain ⟨tc, pc, sc⟩ := hc.ex
  obtain ⟨ta, pa, sa⟩ := ha.ex
  obtain ⟨tb, pb, sb⟩ := hb.ex
  refine ⟨_, pe_ifExp pc pa pb, fun B H ρ σ S P Q st hf k => sc B H ρ σ S _ _ st hf fun d B' H' g p => ?_⟩
  cases d with
  | true => exact sa B' H' ρ σ S _ _ (st.grow g) p fun t v B2 H2 g2 r2 p2 => k t v B2 H2 (g.trans g2) r2 p2
  | false => exact sb B' H' ρ σ S _ _ (st.grow g) p fun t v B2 H2 g2 r2 p2 => k t v B2 H2 (g.trans g2) r2 p2

/-! ### argument lists, displays -/
theorem ad_nil : AD X [] (fun _ M P => P [] M) := ⟨_, pa_nil, fun B H ρ σ S P Q st hf k => k [] [] B H st.base.grow .nil hf⟩
theorem ad_cons {f : RA} (h : ED X e fa) (h' : AD X es f) (hs : starEach (e :: es) X.env = (false, eval e X.env) :: starEach es X.env := by rfl) : AD X (e :: es) (fun ρ M P => fa ρ M fun d M => f ρ M fun ds M => P (d :: ds) M) := by
  obtain ⟨te, hp, hs1⟩ := h.ex
  obtain ⟨te', hp', hs'⟩ := h'.ex
  exact ⟨_, pa_cons hp hp' hs, fun B H ρ σ S P Q st hf k => hs1 B H ρ σ S _ _ st hf fun d v B' H' g r p => hs' B' H' ρ σ S _ _ (st.grow g) p fun ds vs B2 H2 g2 r2 p2 => k (d :: ds) (v :: vs) B2 H2 (g.trans g2) (.cons (r.up g2.b) r2) p2⟩
theorem av_nil : AV X [] (fun _ M P => P [] M) := ⟨_, pa_nil, fun B H ρ σ S P Q st hf k => k [] [] B H st.base.grow .nil hf⟩
theorem av_cons {f : RA} (h : EV X e fa) (h' : AV X es f) (hs : starEach (e :: es) X.env = (false, eval e X.env) :: starEach es X.env := by rfl) : AV X (e :: es) (fun ρ M P => fa ρ M fun d M => f ρ M fun ds M => P (d :: ds) M) := by
  obtain ⟨te, hp, hs1⟩ := h.ex
  obtain ⟨te', hp', hs'⟩ := h'.ex
  exact ⟨_, pa_cons hp hp' hs, fun B H ρ σ S P Q st hf k => hs1 B H ρ σ S _ _ st hf fun d v B' H' g r p => hs' B' H' ρ σ S _ _ (st.grow g) p fun ds vs B2 H2 g2 r2 p2 => k (d :: ds) (v :: vs) B2 H2 (g.trans g2) (.cons (r.up g2.hm) r2) p2⟩
abbrev RAO := Env → Mem → (List OT → Mem → Prop) → Prop
def SndAO (K : PySem.W.Frag) (ta : TA) (f : RAO) : Prop :=
  ∀ (B : Kn) (H : Hp) (ρ : Env) (σ : St) (S : List Addr) (P : List OT → Mem → Prop) (Q : List V → Hp → Prop), Stt K B H ρ σ S → f ρ B.m P → (∀ t v B' H' T, Grow K B H B' H' → RepOs K B' H' t v T → Own B H B' T → P t B'.m → Q v H') → ta σ H Q
structure AO (X : Cx) (es : List Expr) (f : RAO) : Prop where
  ex : ∃ te, PA X es te ∧ SndAO X.K te f
theorem ao_nil : AO X [] (fun _ M P => P [] M) := ⟨_, pa_nil, fun B H ρ σ S P Q st hf k => k [] [] B H [] st.base.grow .nil .nil hf⟩
theorem Own.join {K : PySem.W.Frag} {B B1 B2 : Kn} {H H1 H2 : Hp} {T1 T2 : List Addr} (o1 : Own B H B1 T1) (s1 : ∀ p ∈ T1, (H1 p).isSome = true) (g2 : Grow K B1 H1 B2 H2) (o2 : Own B H B2 T2) (f2 : ∀ p ∈ T2, H1 p = none) : Own B H B2 (T1 ++ T2) where
  nd := List.nodup_append.mpr ⟨o1.nd, o2.nd, fun a ha b hb e => by subst e; have := s1 a ha; rw [f2 a hb] at this; cases this⟩
  fr := fun p hp => (List.mem_append.mp hp).elim (o1.fr p) (o2.fr p)
  nb := fun p hp => (List.mem_append.mp hp).elim (fun h => by
    cases q : B2.b p with
    | none => rfl
    | some o =>
      rcases g2.f p o q with z | z
      · rw [o1.nb p h] at z; cases z
      · have := s1 p h; rw [z] at this; cases this) (o2.nb p)
  nw := fun p hp => (List.mem_append.mp hp).elim (fun h => g2.nm (o1.nw p h) (fun e => by have := s1 p h; rw [e] at this; cases this)) (o2.nw p)
theorem Grow.same {K : PySem.W.Frag} {B B' : Kn} {H H' : Hp} (g : Grow K B H B' H') {p : Addr} (h : (H p).isSome = true) (nd : B.m p = none) : H' p = H p := by
  cases q : H p with
  | none => rw [q] at h; cases h
  | some o => exact g.h p o nd q
theorem ao_cons {fo : RO} {f : RAO} (h : EO X e fo) (h' : AO X es f) (hs : starEach (e :: es) X.env = (false, eval e X.env) :: starEach es X.env := by rfl) : AO X (e :: es) (fun ρ M P => fo ρ M fun d M => f ρ M fun ds M => P (d :: ds) M) := by
  obtain ⟨te, hp, hs1⟩ := h.ex
  obtain ⟨te', hp', hs'⟩ := h'.ex
  refine ⟨_, pa_cons hp hp' hs, fun B H ρ σ S P Q st hf k => hs1 B H ρ σ S _ _ st hf fun t v B1 H1 T1 g1 r1 o1 p => hs' B1 H1 ρ σ S _ _ (st.grow g1) p fun ts vs B2 H2 T2 g2 r2 o2 p2 => ?_⟩
  refine k (t :: ts) (v :: vs) B2 H2 (T1 ++ T2) (g1.trans g2) (.cons (r1.mono g2.b _ _ _ fun p hp => g2.same (r1.some p hp) (o1.nw p hp)) r2) ?_ p2
  exact o1.join r1.some g2 (o2.back g1) o2.fr
theorem ed_tup {x1} {f : RA} (h : AD X es f) : ED X (.Tuple es x1 pos) (fun ρ M P => f ρ M fun ds M => ds.length ≤ sizeLine ∧ P (.tup ds) M) := by
  obtain ⟨te, hp, hs⟩ := h.ex
  refine ⟨_, pe_tup hp, fun B H ρ σ S P Q st hf k => hs B H ρ σ S _ _ st hf fun ds vs B' H' g r p => ?_⟩
  refine ⟨by rw [← r.length]; exact p.1, ?_⟩
  exact new_tuple g.base r p.1 p.2 fun t v B2 H2 g2 r2 p2 => k t v B2 H2 (g.trans g2) r2 p2
theorem eo_lst {f : RAO} (h : AO X es f) : EO X (.List es pos) (fun ρ M P => f ρ M fun ts M => ts.length ≤ sizeLine ∧ P (.ow ts) M) := by
  obtain ⟨te, hp, hs⟩ := h.ex
  refine ⟨_, pe_lst hp, fun B H ρ σ S P Q st hf k => hs B H ρ σ S _ _ st hf fun ts vs B1 H1 T1 g1 r1 o1 p => ?_⟩
  refine ⟨by rw [← r1.length]; exact p.1, fun l hl0 => ?_⟩
  obtain ⟨g, hb, nd⟩ := g1.base.newO (o := .lst vs) hl0
  have hl : l ∉ T1 := fun h => by have := r1.some l h; rw [hl0] at this; cases this
  refine k (.ow ts) (.ref l) B1 _ (l :: T1) (g1.trans g) (.ow upd_same p.1 (r1.mono Ext.rfl _ _ _ fun p hp => upd_ne fun e => hl (by rw [← e]; exact hp))) ⟨List.nodup_cons.mpr ⟨hl, o1.nd⟩, fun p hp => ?_, fun p hp => ?_, fun p hp => ?_⟩ p.2
  all_goals rcases List.mem_cons.mp hp with rfl | hp
  · exact g1.free hl0
  · exact o1.fr p hp
  · exact hb
  · exact o1.nb p hp
  · exact nd
  · exact o1.nw p hp

/-! ### what a def promises of data -/
structure DSpec where
  ι : Type
  pre : ι → Mem → List D → Prop
  post : ι → Mem → OT → Mem → Prop
/-- .. that looks at nothing that changes -/
def DSpec.pure {ι : Type} (pre : ι → List D → Prop) (post : ι → OT → Prop) : DSpec := ⟨ι, fun i _ ds => pre i ds, fun i _ t _ => post i t⟩
def spOf (K : PySem.W.Frag) (n : Nat) (s : DSpec) : Sp := fun vs H Q _ => ∃ i B ds, Base K B H ∧ Reps K B.b ds vs ∧ ds.length = n ∧ s.pre i B.m ds ∧
  ∀ t v B' H' T, Grow K B H B' H' → RepO K B'.b H' t v T → Own B H B' T → s.post i B.m t B'.m → Q v H'
/-- a def that may be called by its name -/
structure DF (P : Program) (w : World) (K : PySem.W.Frag) (mg : Str → Option Value) (base : Heap) (st : Stmt) (x : Str) (ps : List Str) (k : Nat) (s : DSpec) : Prop where
  ex : ∃ (f : Addr) (fd : FuncData), mg x = some (.ref f) ∧ Fun K x x st f fd ∧ Binds K fd ps [] ∧ FnG P w K mg base CX0 k f fd ps (spOf K ps.length s)
theorem DF.mono {P : Program} {w : World} {K : PySem.W.Frag} {mg : Str → Option Value} {base : Heap} {st : Stmt} {x : Str} {ps : List Str} {k j : Nat} {s : DSpec} (h : DF P w K mg base st x ps k s) (hk : k ≤ j) : DF P w K mg base st x ps j s := by
  obtain ⟨f, fd, h1, h2, h3, h4⟩ := h.ex
  exact ⟨f, fd, h1, h2, h3, h4.mono hk⟩
def scal : D → Bool
  | .non => true
  | .bl _ => true
  | .int _ => true
  | .str _ => true
  | _ => false
theorem Rep.scal {K : PySem.W.Frag} {B B' : Hp} {d : D} {v : V} (h : Rep K B d v) (hs : DL.scal d = true) : Rep K B' d v := by
  cases h with
  | non => exact .non
  | bl b => exact .bl b
  | int i => exact .int i
  | str h => exact .str h
  | _ => cases hs
section
variable {K : PySem.W.Frag} {B B' : Kn} {H H' : Hp}
/-- what calls that look at nothing that changes are told -/
def Kn.still (B : Kn) : Kn := ⟨B.b, Mem.no⟩
theorem Base.still (h : Base K B H) : Base K B.still H := ⟨h.bh, fun _ _ z => nomatch (show (none : Option Mo) = some _ from z)⟩
theorem Grow.unstill (bs : Base K B H) (g : Grow K B.still H B' H') : Grow K B H ⟨B'.b, B.m⟩ H' := by
  have hk : ∀ a o, H a = some o → H' a = some o := fun a o e => g.h a o rfl e
  refine ⟨g.b, fun a o _ e => hk a o e, fun a z => z, fun a z => .inl z, g.f, ⟨g.base.bh, fun a o z => ?_⟩⟩
  obtain ⟨h1, h2⟩ := bs.wd a o z
  have e : H' a = H a := by
    cases q : H a with
    | none => exact absurd q h2.some
    | some u => exact hk a u q
  refine ⟨?_, h2.mono g.b e⟩
  show B'.b a = none
  cases q : B'.b a with
  | none => rfl
  | some u =>
    rcases g.f a u q with z | z
    · have z : B.b a = some u := z
      rw [h1] at z; cases z
    · exact absurd z h2.some
theorem Own.unstill {T : List Addr} (bs : Base K B H) (o : Own B.still H B' T) : Own B H ⟨B'.b, B.m⟩ T := ⟨o.nd, o.fr, o.nb, fun p hp => (bs.fresh (o.fr p hp)).2⟩
/-- .. of all that stands -/
def Kn.view (B : Kn) (H : Hp) : Kn := ⟨Hm B.m H, Mem.no⟩
theorem Base.view (h : Base K B H) : Base K (B.view H) H := ⟨Hm_ext, fun _ _ z => nomatch (show (none : Option Mo) = some _ from z)⟩
theorem Grow.unview (bs : Base K B H) (g : Grow K (B.view H) H B' H') : Grow K B H B H' := by
  have hk : ∀ a o, H a = some o → H' a = some o := fun a o e => g.h a o rfl e
  refine ⟨Ext.rfl, fun a o _ e => hk a o e, fun a z => z, fun a z => .inl z, fun a o e => .inl e, ⟨fun a o e => hk a o (bs.bh a o e), fun a o z => ?_⟩⟩
  obtain ⟨h1, h2⟩ := bs.wd a o z
  refine ⟨h1, h2.mono Ext.rfl ?_⟩
  cases q : H a with
  | none => exact absurd q h2.some
  | some u => exact hk a u q
end
variable {x : Str} {st : Stmt} {ps : List Str} {k : Nat} {s : DSpec} {p : Pos} {f : RA}
theorem RepOs.unfz {K : PySem.W.Frag} {B H : Hp} : ∀ {ds : List D} {vs : List V} {T : List Addr}, RepOs K B H (ds.map OT.fz) vs T → Reps K B ds vs ∧ T = []
  | [], _, _, h => by cases h; exact ⟨.nil, rfl⟩
  | d :: ds, _, _, h => by
    cases h with
    | cons r t =>
      cases r with
      | fz r =>
        obtain ⟨r', e⟩ := RepOs.unfz (ds := ds) t
        subst e
        exact ⟨.cons r r', rfl⟩
theorem RepOs.snoc {K : PySem.W.Frag} {B H : Hp} {u : OT} : ∀ {ts : List OT} {vs : List V} {T : List Addr}, RepOs K B H (ts ++ [u]) vs T → ∃ us v TA TB, vs = us ++ [v] ∧ T = TA ++ TB ∧ RepOs K B H ts us TA ∧ RepO K B H u v TB
  | [], _, _, h => by
    cases h with
    | cons r t => cases t; exact ⟨[], _, [], _, rfl, by simp, .nil, r⟩
  | t :: ts, _, _, h => by
    cases h with
    | cons r t =>
      obtain ⟨us, v, TA, TB, rfl, rfl, h1, h2⟩ := RepOs.snoc (ts := ts) t
      exact ⟨_ :: us, v, _ ++ TA, TB, rfl, by simp, .cons r h1, h2⟩
theorem eo_call (F : DF X.prog X.w X.K X.mg X.base st x ps k s) (hr : RG0 k X) (ha : AD X (e :: es) f) (hg : Gl X x := by rfl) (hdb : (x == ("__debug__" : Str)) = false := by decide)
    (he : starEach (e :: es) X.env = (false, eval e X.env) :: starEach es X.env := by rfl) (hpl : (backTo pos (starEach es X.env)).any (·.1) = false := by rfl) :
    EO X (.Call (.Name x p) (e :: es) [] pos) (fun ρ M P => f ρ M fun ds M => ds.length = ps.length ∧ ∃ i, s.pre i M ds ∧ ∀ t M', s.post i M t M' → P t M') := by
  obtain ⟨f, fd, hm, hF, hb, F⟩ := F.ex
  obtain ⟨ta, pa, sa⟩ := ha.ex
  refine ⟨_, pe_callG F hr hg hm hF.kp hb .nil pass0 pa hdb he hpl, fun B H ρ σ S P Q st hf kk => sa B H ρ σ S _ _ st hf fun ds vs B1 H1 g1 r1 p1 => ?_⟩
  obtain ⟨hl, i, p1, p2⟩ := p1
  refine ⟨i, B1, ds, g1.base, by rw [List.append_nil]; exact r1, hl, p1, fun t v B' H' T g r o q => ?_⟩
  exact kk t v B' H' T (g1.trans g) r (o.back g1) (p2 t _ q)
/-- .. of a def that looks at nothing that changes -/
theorem eo_callP (F : DF X.prog X.w X.K X.mg X.base st x ps k s) (hr : RG0 k X) (ha : AD X (e :: es) f) (hg : Gl X x := by rfl) (hdb : (x == ("__debug__" : Str)) = false := by decide)
    (he : starEach (e :: es) X.env = (false, eval e X.env) :: starEach es X.env := by rfl) (hpl : (backTo pos (starEach es X.env)).any (·.1) = false := by rfl) :
    EO X (.Call (.Name x p) (e :: es) [] pos) (fun ρ M P => f ρ M fun ds M => ds.length = ps.length ∧ ∃ i, s.pre i Mem.no ds ∧ ∀ t, (∃ M', s.post i Mem.no t M') → P t M) := by
  obtain ⟨f, fd, hm, hF, hb, F⟩ := F.ex
  obtain ⟨ta, pa, sa⟩ := ha.ex
  refine ⟨_, pe_callG F hr hg hm hF.kp hb .nil pass0 pa hdb he hpl, fun B H ρ σ S P Q st hf kk => sa B H ρ σ S _ _ st hf fun ds vs B1 H1 g1 r1 p1 => ?_⟩
  obtain ⟨hl, i, p1, p2⟩ := p1
  refine ⟨i, B1.still, ds, g1.base.still, by rw [List.append_nil]; exact r1, hl, p1, fun t v B' H' T g r o q => ?_⟩
  exact kk t v ⟨B'.b, B1.m⟩ H' T (g1.trans (Grow.unstill g1.base g)) r ((o.unstill g1.base).back g1) (p2 t ⟨_, q⟩)
/-- .. with arguments of one's own, and a plain answer -/
theorem ed_callV (F : DF X.prog X.w X.K X.mg X.base st x ps k s) (hr : RG0 k X) (ha : AV X (e :: es) f) (hg : Gl X x := by rfl) (hdb : (x == ("__debug__" : Str)) = false := by decide)
    (he : starEach (e :: es) X.env = (false, eval e X.env) :: starEach es X.env := by rfl) (hpl : (backTo pos (starEach es X.env)).any (·.1) = false := by rfl) :
    ED X (.Call (.Name x p) (e :: es) [] pos) (fun ρ M P => f ρ M fun ds M => ds.length = ps.length ∧ ∃ i, s.pre i Mem.no ds ∧ ∀ t, (∃ M', s.post i Mem.no t M') → ∃ d, t = .fz d ∧ scal d = true ∧ P d M) := by
  obtain ⟨f, fd, hm, hF, hb, F⟩ := F.ex
  obtain ⟨ta, pa, sa⟩ := ha.ex
  refine ⟨_, pe_callG F hr hg hm hF.kp hb .nil pass0 pa hdb he hpl, fun B H ρ σ S P Q st hf kk => sa B H ρ σ S _ _ st hf fun ds vs B1 H1 g1 r1 p1 => ?_⟩
  obtain ⟨hl, i, p1, p2⟩ := p1
  refine ⟨i, B1.view H1, ds, g1.base.view, by rw [List.append_nil]; exact r1, hl, p1, fun t v B' H' T g r o q => ?_⟩
  obtain ⟨d, rfl, hs, q⟩ := p2 t ⟨_, q⟩
  cases r with
  | fz r => exact kk d v B1 H' (g1.trans (Grow.unview g1.base g)) (r.scal hs) q
/-- .. whose last argument is a new list, to be changed there -/
theorem eo_callM {fo : RAO} (F : DF X.prog X.w X.K X.mg X.base st x ps k s) (hr : RG0 k X) (ha : AO X (e :: es) fo) (hg : Gl X x := by rfl) (hdb : (x == ("__debug__" : Str)) = false := by decide)
    (he : starEach (e :: es) X.env = (false, eval e X.env) :: starEach es X.env := by rfl) (hpl : (backTo pos (starEach es X.env)).any (·.1) = false := by rfl) :
    EO X (.Call (.Name x p) (e :: es) [] pos) (fun ρ M P => fo ρ M fun ts M => ∃ ds l, ts = ds.map .fz ++ [.ow (l.map .fz)] ∧ ds.length + 1 = ps.length ∧ ∀ q, M q = none → ∃ i, s.pre i (M.put q (.lst l)) (ds ++ [.mob q]) ∧ ∀ t M', s.post i (M.put q (.lst l)) t M' → P t M') := by
  obtain ⟨f, fd, hm, hF, hb, F⟩ := F.ex
  obtain ⟨ta, pa, sa⟩ := ha.ex
  refine ⟨_, pe_callG F hr hg hm hF.kp hb .nil pass0 pa hdb he hpl, fun B H ρ σ S P Q st hf kk => sa B H ρ σ S _ _ st hf fun ts vs B1 H1 T1 g1 r1 o1 p1 => ?_⟩
  obtain ⟨ds, l, rfl, hl, p1⟩ := p1
  obtain ⟨us, u, TA, TB, rfl, rfl, ra, rb⟩ := RepOs.snoc r1
  obtain ⟨ra', e1⟩ := RepOs.unfz ra
  subst e1
  cases rb with
  | @ow q xs _ T hq hlen hr =>
    obtain ⟨hr', e2⟩ := RepOs.unfz hr
    subst e2
    rw [List.nil_append] at o1
    have q1 := o1.nw q List.mem_cons_self
    obtain ⟨i, h1, h2⟩ := p1 q q1
    have g2 := g1.mob (o1.fr q List.mem_cons_self) (o1.nb q List.mem_cons_self) q1 (o := .lst l) ⟨xs, hq, by rw [List.length_map] at hlen; exact hlen, hr'⟩
    refine ⟨i, B1.put q (.lst l), ds ++ [D.mob q], g2.base, ?_, by rw [List.length_append]; exact hl, h1, fun t v B' H' T g r o z => ?_⟩
    · rw [List.append_nil]
      exact ra'.append (.cons (.mob q) .nil)
    · exact kk t v B' H' T (g2.trans g) r (o.back g2) (h2 t _ z)
/-- keywords' values -/
structure KD (X : Cx) (kws : List Keyword) (f : RA) : Prop where
  ex : ∃ te, PK X kws te ∧ SndA X.K te f
theorem kd_nil : KD X [] (fun _ M P => P [] M) := ⟨_, pk_nil, fun B H ρ σ S P Q st hf k => k [] [] B H st.base.grow .nil hf⟩
theorem kd_cons {nm : Option Str} {kpos : Pos} {kws : List Keyword} {f : RA} (h : ED X e fa) (h' : KD X kws f) : KD X (⟨nm, e, kpos⟩ :: kws) (fun ρ M P => fa ρ M fun d M => f ρ M fun ds M => P (d :: ds) M) := by
  obtain ⟨te, hp, hs1⟩ := h.ex
  obtain ⟨te', hp', hs'⟩ := h'.ex
  exact ⟨_, pk_cons hp hp', fun B H ρ σ S P Q st hf k => hs1 B H ρ σ S _ _ st hf fun d v B' H' g r p => hs' B' H' ρ σ S _ _ (st.grow g) p fun ds vs B2 H2 g2 r2 p2 => k (d :: ds) (v :: vs) B2 H2 (g.trans g2) (.cons (r.up g2.b) r2) p2⟩
theorem Reps.pick {K : PySem.W.Frag} {B : Hp} {ds : List D} {vs : List V} (r : Reps K B ds vs) : ∀ ix : List Nat, Reps K B (DL.pick ix ds) (DL.pick ix vs)
  | [] => .nil
  | i :: ix => by
    unfold DL.pick
    rw [List.filterMap_cons, List.filterMap_cons]
    cases q : ds[i]? with
    | none =>
      have : vs[i]? = none := by rw [List.getElem?_eq_none_iff] at q ⊢; rw [← r.length]; exact q
      rw [this]; exact Reps.pick r ix
    | some v =>
      obtain ⟨u, hu, ru⟩ := r.getD q
      rw [hu]
      exact .cons ru (Reps.pick r ix)
variable {kws : List Keyword} {ks : List Str} {fk : RA}
/-- f(e, .., k = v, ..): n positional ones, ix: which each parameter gets -/
theorem eo_callK (F : DF X.prog X.w X.K X.mg X.base st x ps k s) (hr : RG0 k X) (n : Nat) (ks : List Str) (ix : List Nat) (hb : ∀ (kV doc pm : Value) (an : Option Addr) (cdv ct : Value) (us ws : List Value), us.length = n → ws.length = ks.length →
      bindArgs (PySem.W.fnOf x x (defArgs st) (defBody st) (defScope st) .none kV doc pm an cdv ct) ⟨us, ks.zip ws⟩ = pure (ps.zip (pick ix (us ++ ws))))
    (ha : AD X (e :: es) f) (hkw : KD X kws fk) (hg : Gl X x := by rfl) (hall : (backToKw pos (keywordEach kws X.env)).all (·.1.isSome) = true := by rfl) (hks : (backToKw pos (keywordEach kws X.env)).filterMap (·.1) = ks := by rfl) (hdb : (x == ("__debug__" : Str)) = false := by decide)
    (he : starEach (e :: es) X.env = (false, eval e X.env) :: starEach es X.env := by rfl) (hpl : ((backTo pos (starEach (e :: es) X.env)).any (·.1) || (backToKw pos (keywordEach kws X.env)).any (·.1.isNone)) = false := by rfl) :
    EO X (.Call (.Name x p) (e :: es) kws pos) (fun ρ M P => f ρ M fun ds M => fk ρ M fun zs M => ds.length = n ∧ zs.length = ks.length ∧ (pick ix (ds ++ zs)).length = ps.length ∧ ∃ i, s.pre i Mem.no (pick ix (ds ++ zs)) ∧ ∀ t, (∃ M', s.post i Mem.no t M') → P t M) := by
  obtain ⟨f, fd, hm, hF, _, F⟩ := F.ex
  obtain ⟨ta, pa, sa⟩ := ha.ex
  obtain ⟨tk, pk, sk⟩ := hkw.ex
  refine ⟨_, pe_callGk F hr hg hm hF.kp (Fun.kb hF n ks ix hb) pass0 pa pk hall hks hdb he hpl, fun B H ρ σ S P Q st hf kk => sa B H ρ σ S _ _ st hf fun ds vs B1 H1 g1 r1 p1 => sk B1 H1 ρ σ S _ _ (st.grow g1) p1 fun zs ws B2 H2 g2 r2 p2 => ?_⟩
  obtain ⟨l1, l2, l3, i, p3, p4⟩ := p2
  have r := (r1.up g2.b).append r2
  refine ⟨r1.length.symm.trans l1, r2.length.symm.trans l2, i, B2.still, _, g2.base.still, r.pick ix, l3, p3, fun t v B' H' T g r o q => ?_⟩
  exact kk t v ⟨B'.b, B2.m⟩ H' T ((g1.trans g2).trans (Grow.unstill g2.base g)) r ((o.unstill g2.base).back (g1.trans g2)) (p4 t ⟨_, q⟩)
theorem eo_callK0 (F : DF X.prog X.w X.K X.mg X.base st x ps k s) (hr : RG0 k X) (ks : List Str) (ix : List Nat) (hb : ∀ (kV doc pm : Value) (an : Option Addr) (cdv ct : Value) (us ws : List Value), us.length = 0 → ws.length = ks.length →
      bindArgs (PySem.W.fnOf x x (defArgs st) (defBody st) (defScope st) .none kV doc pm an cdv ct) ⟨us, ks.zip ws⟩ = pure (ps.zip (pick ix (us ++ ws))))
    (hkw : KD X kws fk) (hg : Gl X x := by rfl) (hall : (backToKw pos (keywordEach kws X.env)).all (·.1.isSome) = true := by rfl) (hks : (backToKw pos (keywordEach kws X.env)).filterMap (·.1) = ks := by rfl) (hdb : (x == ("__debug__" : Str)) = false := by decide)
    (hpl : ((backTo pos (starEach [] X.env)).any (·.1) || (backToKw pos (keywordEach kws X.env)).any (·.1.isNone)) = false := by rfl) :
    EO X (.Call (.Name x p) [] kws pos) (fun ρ M P => fk ρ M fun zs M => zs.length = ks.length ∧ (pick ix zs).length = ps.length ∧ ∃ i, s.pre i Mem.no (pick ix zs) ∧ ∀ t, (∃ M', s.post i Mem.no t M') → P t M) := by
  obtain ⟨f, fd, hm, hF, _, F⟩ := F.ex
  obtain ⟨tk, pk, sk⟩ := hkw.ex
  refine ⟨_, pe_callGk0 F hr hg hm hF.kp (Fun.kb hF 0 ks ix hb) pass0 pk hall hks hdb hpl, fun B H ρ σ S P Q st hf kk => sk B H ρ σ S _ _ st hf fun zs ws B2 H2 g2 r2 p2 => ?_⟩
  obtain ⟨l2, l3, i, p3, p4⟩ := p2
  refine ⟨rfl, r2.length.symm.trans l2, i, B2.still, _, g2.base.still, r2.pick ix, l3, p3, fun t v B' H' T g r o q => ?_⟩
  exact kk t v ⟨B'.b, B2.m⟩ H' T (g2.trans (Grow.unstill g2.base g)) r ((o.unstill g2.base).back g2) (p4 t ⟨_, q⟩)
end
end DL

/-! DL4: what a loop walks, targets, list comprehensions. -/
namespace DL
open PySem L2
open PySem.PyData (strOk)
set_option autoImplicit false

/-! ### what is walked -/
/-- from what is known at B0 on, J yields these data -/
structure Walks (K : PySem.W.Frag) (J : It) (ds : List D) (B0 : Hp) : Prop where
  go : ∀ (B : Kn) (H : Hp) (i : Nat) (d : D), Ext B0 B.b → Base K B H → ds[i]? = some d → J.go i H ∧ ∀ x H', J.yld i H x H' → ∃ B', Grow K B H B' H' ∧ B'.m = B.m ∧ Rep K B'.b d x
  stop : ∀ (B : Kn) (H : Hp) (i : Nat), Ext B0 B.b → Base K B H → ds.length ≤ i → J.stop i H
abbrev RI := Env → Mem → (List D → Mem → Prop) → Prop
def SndI (K : PySem.W.Frag) (wi : TI) (f : RI) : Prop :=
  ∀ (B : Kn) (H : Hp) (ρ : Env) (σ : St) (S : List Addr) (P : List D → Mem → Prop) (R : It → Hp → Prop), Stt K B H ρ σ S → f ρ B.m P → (∀ ds J B' H', Grow K B H B' H' → Walks K J ds B'.b → ds.length ≤ sizeLine → P ds B'.m → R J H') → wi σ H R
structure EI (X : Cx) (tg iter : Expr) (f : RI) : Prop where
  ex : ∃ wi, PI X tg iter wi ∧ SndI X.K wi f

section
variable {X : Cx} {tg e a b c o : Expr} {es rest : List Expr} {pos : Pos} {fa fb fc : RD} {K : PySem.W.Frag}
theorem walks_list {B0 : Hp} {l : Addr} {vs : List V} {ds : List D} (h : B0 l = some (.lst vs)) (r : Reps K B0 ds vs) : Walks K (Itl K l) ds B0 where
  go := fun B H i d e bs hd => by
    obtain ⟨v, hv, rd⟩ := r.getD hd
    have hq : H l = some (.lst vs) := bs.bh _ _ (e _ _ h)
    refine ⟨⟨vs, v, Evl.sq_of hq, hv⟩, fun x H' y => ?_⟩
    obtain ⟨rfl, y⟩ := y
    have := y vs (Evl.sq_of hq)
    rw [hv] at this
    cases this
    exact ⟨B, bs.grow, rfl, rd.up e⟩
  stop := fun B H i e bs hi => ⟨vs, Evl.sq_of (bs.bh _ _ (e _ _ h)), by rw [← r.length]; exact hi⟩
theorem walks_tup {B0 : Hp} {l : Addr} {vs : List V} {ds : List D} (h : SqT K B0 l vs) (r : Reps K B0 ds vs) : Walks K (Itt K l) ds B0 where
  go := fun B H i d e bs hd => by
    obtain ⟨v, hv, rd⟩ := r.getD hd
    have hq : SqT K H l vs := Evl.ex_t bs.bh (Evl.ex_t e h)
    refine ⟨⟨vs, v, hq, hv⟩, fun x H' y => ?_⟩
    obtain ⟨rfl, y⟩ := y
    have := y vs hq
    rw [hv] at this
    cases this
    exact ⟨B, bs.grow, rfl, rd.up e⟩
  stop := fun B H i e bs hi => ⟨vs, Evl.ex_t bs.bh (Evl.ex_t e h), by rw [← r.length]; exact hi⟩
/-- a list or a tuple -/
def iSeq (K : PySem.W.Frag) (tl : TE) : TI := fun σ H R => tl σ H fun x H1 => ∃ a, x = .ref a ∧ (((∃ xs, SqL K H1 a xs) ∧ R (Itl K a) H1) ∨ ((∃ xs, SqT K H1 a xs) ∧ R (Itt K a) H1))
theorem pi_seq {l : Expr} {tl : TE} (hl : PE X l tl) : PI X tg l (iSeq X.K tl) := by
  refine ⟨fun pins s σ H R I h => ?_⟩
  refine thn (hl.run pins s σ H _ I h) fun v s1 ⟨x, H1, I1, r1, q1⟩ => ?_
  obtain ⟨a, e, q⟩ := q1
  subst e
  cases r1
  rcases q with ⟨⟨xs, hq⟩, q⟩ | ⟨⟨xs, hq⟩, q⟩
  · obtain ⟨its, rv, p, hz⟩ := I1.list hq
    refine wpAny_pyIter_list p.isList ?_
    refine ⟨s1.heap.objs.size, [s1.heap.objs.size], _, _, H1, rfl, I1.kept (t' := s1.toks) fun b o e => Heap.get?_push_of_some _ e, turn_list a _, ⟨_, Heap.get?_push_size _ rfl, rfl, rfl⟩, fun b hb => ?_, q⟩
    have e : b = s1.heap.objs.size := by simpa using hb
    subst e
    exact I1.fpOk (Nat.le_refl _) (I1.hok.fresh (Nat.le_refl _))
  · obtain ⟨its, rv, p, hz⟩ := I1.tuple hq
    refine wpAny_pyIter_tuple (show s1.heap.IsTuple a its.toArray from p) ?_
    refine ⟨s1.heap.objs.size, [s1.heap.objs.size], _, _, H1, rfl, I1.kept (t' := s1.toks) fun b o e => Heap.get?_push_of_some _ e, turn_tuple a _, ⟨_, Heap.get?_push_size _ rfl, rfl, rfl⟩, fun b hb => ?_, q⟩
    have e : b = s1.heap.objs.size := by simpa using hb
    subst e
    exact I1.fpOk (Nat.le_refl _) (I1.hok.fresh (Nat.le_refl _))
/-- what a sequence yields -/
def D.items : D → Option (List D)
  | .lst l => some l
  | .tup l => some l
  | .scr ns => some (ns.map D.int)
  | _ => none
theorem reps_ints {B : Hp} : ∀ ns : List Int, Reps K B (ns.map D.int) (ns.map V.int)
  | [] => .nil
  | n :: ns => .cons (.int n) (reps_ints ns)
theorem ei_seq (ha : ED X e fa) : EI X tg e (fun ρ M P => fa ρ M fun d M => ∃ l, d.items = some l ∧ l.length ≤ sizeLine ∧ P l M) := by
  obtain ⟨te, hp, hs⟩ := ha.ex
  refine ⟨_, pi_seq hp, fun B H ρ σ S P R st hf k => hs B H ρ σ S _ _ st hf fun d v B' H' g r p => ?_⟩
  obtain ⟨l, e, hz, p⟩ := p
  cases r with
  | lst h hl hr => cases e; exact ⟨_, rfl, .inl ⟨⟨_, Evl.sq_of (g.base.bh _ _ h)⟩, k l _ B' H' g (walks_list h hr) hl p⟩⟩
  | tup h hl hr => cases e; exact ⟨_, rfl, .inr ⟨⟨_, Evl.ex_t g.base.bh h⟩, k l _ B' H' g (walks_tup h hr) hl p⟩⟩
  | @scr a ns h =>
    cases e
    refine ⟨_, rfl, .inl ⟨⟨_, Evl.ex_l g.base.bh h⟩, k _ _ B' H' g ⟨fun B H i d e bs hd => ?_, fun B H i e bs hi => ?_⟩ hz p⟩⟩
    · have hq : SqL X.K H a (ns.map V.int) := Evl.ex_l bs.bh (Evl.ex_l e h)
      obtain ⟨v, hv, rd⟩ := (reps_ints (K := X.K) (B := B) ns).getD hd
      refine ⟨⟨_, v, hq, hv⟩, fun x H' y => ?_⟩
      obtain ⟨rfl, y⟩ := y
      have := y _ hq
      rw [hv] at this
      cases this
      exact ⟨B, bs.grow, rfl, rd⟩
    · exact ⟨_, Evl.ex_l bs.bh (Evl.ex_l e h), by simpa using hi⟩
  | _ => cases e
/-- range -/
def rngD (lo : Int) (n : Nat) : List D := (List.range n).map fun (i : Nat) => D.int (lo + (i : Int))
theorem rngD_get (lo : Int) (n i : Nat) : (rngD lo n)[i]? = if i < n then some (D.int (lo + i)) else none := by
  unfold rngD
  rw [List.getElem?_map]
  by_cases h : i < n
  · rw [if_pos h, List.getElem?_range h]; rfl
  · rw [if_neg h, List.getElem?_eq_none (by simpa using h)]; rfl
theorem rngD_len (lo : Int) (n : Nat) : (rngD lo n).length = n := by simp [rngD]
theorem walks_rng {B0 : Hp} (lo : Int) (n : Nat) : Walks K (Itr lo n) (rngD lo n) B0 where
  go := fun B H i d e bs hd => by
    rw [rngD_get] at hd
    by_cases h : i < n
    · rw [if_pos h] at hd
      cases hd
      refine ⟨h, fun x H' y => ?_⟩
      obtain ⟨rfl, rfl⟩ := y
      exact ⟨B, bs.grow, rfl, .int _⟩
    · rw [if_neg h] at hd; cases hd
  stop := fun B H i e bs hi => by
    have : n ≤ i := by simpa [rngD] using hi
    exact this
theorem rng_size {n : Nat} (lo : Int) (h : n ≤ 1000000) : (rngD lo n).length ≤ sizeLine := by
  have hs : sizeLine = 16777216 := sizeLine_eq
  rw [rngD_len]
  omega
theorem ei_range1 {p : Pos} {f : RA} (hm : X.mg "range" = none) (ha : AV X [a] f) (hg : Gl X "range" := by rfl) (hs : starEach [a] X.env = [(false, eval a X.env)] := by rfl) :
    EI X tg (.Call (.Name "range" p) [a] [] pos) (fun ρ M P => f ρ M fun ds M => ∃ j, ds = [.int j] ∧ -1000000 ≤ j ∧ j ≤ 1000000 ∧ P (rngD 0 j.toNat) M) := by
  obtain ⟨ta, pa, sa⟩ := ha.ex
  refine ⟨_, pi_range1 hg hm pa hs, fun B H ρ σ S P R st hf k => sa B H ρ σ S _ _ st hf fun ds vs B' H' g r p => ?_⟩
  obtain ⟨j, rfl, h1, h2, p⟩ := p
  cases r with
  | cons r rr =>
    cases rr
    cases r
    exact ⟨j, rfl, by omega, by omega, k _ _ B' H' g (walks_rng 0 _) (rng_size 0 (by omega)) p⟩
theorem ei_range2 {p : Pos} {f : RA} (hm : X.mg "range" = none) (ha : AV X [a, b] f) (hg : Gl X "range" := by rfl) (hs : starEach [a, b] X.env = [(false, eval a X.env), (false, eval b X.env)] := by rfl) (hs2 : starEach [b] X.env = [(false, eval b X.env)] := by rfl) :
    EI X tg (.Call (.Name "range" p) [a, b] [] pos) (fun ρ M P => f ρ M fun ds M => ∃ i j, ds = [.int i, .int j] ∧ -1000000 ≤ i ∧ i ≤ 1000000 ∧ -1000000 ≤ j ∧ j ≤ 1000000 ∧ P (rngD i (j - i).toNat) M) := by
  obtain ⟨ta, pa, sa⟩ := ha.ex
  refine ⟨_, pi_range2 hg hm pa hs hs2, fun B H ρ σ S P R st hf k => sa B H ρ σ S _ _ st hf fun ds vs B' H' g r p => ?_⟩
  obtain ⟨i, j, rfl, h1, h2, h3, h4, p⟩ := p
  cases r with
  | cons r rr =>
    cases rr with
    | cons r' rr =>
      cases rr
      cases r
      cases r'
      refine ⟨i, j, rfl, ⟨by omega, by omega, by omega, by omega⟩, k _ _ B' H' g (walks_rng i _) ?_ p⟩
      have hs : sizeLine = 16777216 := sizeLine_eq
      rw [rngD_len]
      omega
/-- zip -/
def zipD (xs ys : List D) : List D := List.zipWith (fun x y => D.tup [x, y]) xs ys
theorem zipD_len (xs ys : List D) : (zipD xs ys).length = min xs.length ys.length := by simp [zipD]
theorem zipD_get {xs ys : List D} {i : Nat} {d : D} (h : (zipD xs ys)[i]? = some d) : ∃ x y, xs[i]? = some x ∧ ys[i]? = some y ∧ d = .tup [x, y] := by
  unfold zipD at h
  rw [List.getElem?_zipWith] at h
  split at h
  · rename_i a b ha hb
    cases h
    exact ⟨a, b, ha, hb, rfl⟩
  · cases h
theorem pair_new {B : Kn} {H : Hp} {x y : D} {vx vy : V} {T : Addr} (bs : Base K B H) (rx : Rep K B x vx) (ry : Rep K B y vy) (hT : H T = none) : ∃ B', Grow K B H B' (upd H T (.tup [vx, vy])) ∧ B'.m = B.m ∧ Rep K B'.b (.tup [x, y]) (.ref T) := by
  have g := bs.new (o := .tup [vx, vy]) hT
  exact ⟨_, g, rfl, .tup (Evl.st_of upd_same) (by show 2 ≤ sizeLine; decide) (.cons (rx.up g.b) (.cons (ry.up g.b) .nil))⟩
theorem ei_zip {p tpos : Pos} {elts : List Expr} {kk : Nat} {f : RA} (hm : X.mg "zip" = none) (ha : AD X [a, b] f) (hg : Gl X "zip" := by rfl)
    (hs : starEach [a, b] X.env = (false, eval a X.env) :: starEach [b] X.env := by rfl) (hpl : (backTo pos (starEach [b] X.env)).any (·.1) = false := by rfl) :
    EI X (.Tuple elts kk tpos) (.Call (.Name "zip" p) [a, b] [] pos) (fun ρ M P => f ρ M fun ds M => ∃ xs ys, ((ds = [.lst xs, .lst ys]) ∨ (ds = [.tup xs, .tup ys])) ∧ P (zipD xs ys) M) := by
  obtain ⟨ta, pa, sa⟩ := ha.ex
  refine ⟨_, RZ.pi_zipA hg hm pa hs hpl, fun B H ρ σ S P R st hf k => sa B H ρ σ S _ _ st hf fun ds vs B' H' g r p => ?_⟩
  obtain ⟨xs, ys, hd, p⟩ := p
  have zl : ∀ {n : Nat}, xs.length ≤ n → (zipD xs ys).length ≤ n := fun {n} h => by rw [zipD_len]; omega
  rcases hd with rfl | rfl
  · cases r with
    | cons r rr =>
      cases rr with
      | cons r' rr =>
        cases rr
        cases r with
        | @lst a1 vs1 _ h1 l1 r1 =>
          cases r' with
          | @lst a2 vs2 _ h2 l2 r2 =>
            refine ⟨a1, a2, vs1, vs2, rfl, .inl ⟨Evl.sq_of (g.base.bh _ _ h1), Evl.sq_of (g.base.bh _ _ h2), k _ _ B' H' g ⟨fun B H i d e bs hd => ?_, fun B H i e bs hi => ?_⟩ (zl l1) p⟩⟩
            · obtain ⟨x, y, hx, hy, rfl⟩ := zipD_get hd
              obtain ⟨vx, ex, rx⟩ := r1.getD hx
              obtain ⟨vy, ey, ry⟩ := r2.getD hy
              have q1 := Evl.sq_of (K := X.K) (bs.bh _ _ (e _ _ h1))
              have q2 := Evl.sq_of (K := X.K) (bs.bh _ _ (e _ _ h2))
              refine ⟨⟨_, _, vx, vy, q1, q2, ex, ey⟩, fun x' H' y' => ?_⟩
              obtain ⟨T, u1, u2, rfl, hT, rfl, z1, z2⟩ := y'
              have := z1 _ q1
              rw [ex] at this
              cases this
              have := z2 _ q2
              rw [ey] at this
              cases this
              exact pair_new bs (rx.up e) (ry.up e) hT
            · refine ⟨_, _, Evl.sq_of (bs.bh _ _ (e _ _ h1)), Evl.sq_of (bs.bh _ _ (e _ _ h2)), ?_⟩
              rw [zipD_len] at hi
              rw [← r1.length, ← r2.length]
              omega
  · cases r with
    | cons r rr =>
      cases rr with
      | cons r' rr =>
        cases rr
        cases r with
        | @tup a1 vs1 _ h1 l1 r1 =>
          cases r' with
          | @tup a2 vs2 _ h2 l2 r2 =>
            refine ⟨a1, a2, vs1, vs2, rfl, .inr ⟨Evl.ex_t g.base.bh h1, Evl.ex_t g.base.bh h2, k _ _ B' H' g ⟨fun B H i d e bs hd => ?_, fun B H i e bs hi => ?_⟩ (zl l1) p⟩⟩
            · obtain ⟨x, y, hx, hy, rfl⟩ := zipD_get hd
              obtain ⟨vx, ex, rx⟩ := r1.getD hx
              obtain ⟨vy, ey, ry⟩ := r2.getD hy
              have q1 := Evl.ex_t (K := X.K) bs.bh (Evl.ex_t e h1)
              have q2 := Evl.ex_t (K := X.K) bs.bh (Evl.ex_t e h2)
              refine ⟨⟨_, _, vx, vy, q1, q2, ex, ey⟩, fun x' H' y' => ?_⟩
              obtain ⟨T, u1, u2, rfl, hT, rfl, z1, z2⟩ := y'
              have := z1 _ q1
              rw [ex] at this
              cases this
              have := z2 _ q2
              rw [ey] at this
              cases this
              exact pair_new bs (rx.up e) (ry.up e) hT
            · refine ⟨_, _, Evl.ex_t bs.bh (Evl.ex_t e h1), Evl.ex_t bs.bh (Evl.ex_t e h2), ?_⟩
              rw [zipD_len] at hi
              rw [← r1.length, ← r2.length]
              omega

/-! ### targets: names, tuples of them -/
abbrev RG := D → Env → Mem → (Env → Mem → Prop) → Prop
def SndG (K : PySem.W.Frag) (tg : TG) (is : List Nat) (g : RG) : Prop :=
  ∀ (B : Kn) (H : Hp) (ρ : Env) (σ : St) (S : List Addr) (d : D) (v : V) (P : Env → Mem → Prop) (Q : St → Hp → Prop), Stt K B H ρ σ S → Rep K B.b d v → g d ρ B.m P →
    (∀ ρ' σ' S' B' H', Grow K B H B' H' → Stt K B' H' ρ' σ' S' → (∀ p ∈ S', p ∈ S) → (∀ vs : List Nat, (∀ i ∈ is, i ∈ vs) → wipe σ' vs = wipe σ vs) → P ρ' B'.m → Q σ' H') → tg v σ H Q
structure EG (X : Cx) (e : Expr) (is : List Nat) (g : RG) : Prop where
  ex : ∃ t, PG X e t ∧ SndG X.K t is g
theorem Stt.set {B : Kn} {H : Hp} {ρ : Env} {σ : St} {S : List Addr} {i : Nat} {x : Option OT} {d : D} {v : V} (st : Stt K B H ρ σ S) (e : ρ[i]? = some x) (r : Rep K B d v) :
    ∃ S', Stt K B H (ρ.set i (some (.fz d))) (σ.set i (some v)) S' ∧ ∀ p ∈ S', p ∈ S := by
  obtain ⟨A, T, C, hS, h2, h3, h4, h5⟩ := st.sim.split e
  have sub : ∀ p ∈ A ++ C, p ∈ S := fun p hp => by
    rw [hS]
    rcases List.mem_append.mp hp with z | z
    · exact List.mem_append_left _ z
    · exact List.mem_append_right _ (List.mem_append_right _ z)
  refine ⟨A ++ ([] ++ C), ⟨st.base, h3 B H (.fz d) v [] Ext.rfl (fun _ _ => rfl) (.fz r), ?_, fun p hp => st.out p (sub p hp)⟩, sub⟩
  have nd := st.nd
  rw [hS] at nd
  exact nd.sublist (List.Sublist.append_left (List.sublist_append_right T C) A)
theorem wipe_set {i : Nat} {o : Option V} : ∀ {vs : List Nat} {σ : St}, i ∈ vs → wipe (σ.set i o) vs = wipe σ vs
  | [], _, h => by cases h
  | j :: vs, σ, h => by
    show (wipe (σ.set i o) vs).set j none = (wipe σ vs).set j none
    by_cases q : i ∈ vs
    · rw [wipe_set q]
    · have e : i = j := by
        rcases List.mem_cons.mp h with h | h
        · exact h
        · exact absurd h q
      subst e
      have go : ∀ (ws : List Nat) (τ : St), i ∉ ws → wipe (τ.set i o) ws = (wipe τ ws).set i o := by
        intro ws
        induction ws with
        | nil => intro τ _; rfl
        | cons w ws ih =>
          intro τ hw
          show (wipe (τ.set i o) ws).set w none = ((wipe τ ws).set w none).set i o
          rw [ih τ fun z => hw (List.mem_cons_of_mem _ z), List.set_comm]
          intro e
          exact hw (by rw [e]; exact List.mem_cons_self)
      rw [go vs σ q, List.set_set]
theorem eg_name (i : Nat) {x : Str} (hN : X.N.Nodup) (hi : X.N[i]? = some x := by rfl) (hx : Loc X.env.scope x := by first | exact Or.inl rfl | exact Or.inr rfl) (hf : X.fn x = true ∨ X.env.scope.names.lookup x = some .local := by first | exact .inl rfl | exact .inr rfl | assumption) :
    EG X (.Name x pos) [i] (fun d ρ M P => i < ρ.length ∧ P (ρ.set i (some (.fz d))) M) := by
  refine ⟨gName i, pg_name hN hi hx hf, fun B H ρ σ S d v P Q st r hg k => ?_⟩
  obtain ⟨S', st', sub⟩ := st.set (List.getElem?_eq_getElem hg.1) r
  exact k _ _ S' B H st.base.grow st' sub (fun vs hvs => wipe_set (hvs i (by simp))) hg.2
abbrev RGs := List D → Env → Mem → (Env → Mem → Prop) → Prop
def SndGs (K : PySem.W.Frag) (tg : TGs) (is : List Nat) (g : RGs) : Prop :=
  ∀ (B : Kn) (H : Hp) (ρ : Env) (σ : St) (S : List Addr) (d : List D) (v : List V) (P : Env → Mem → Prop) (Q : St → Hp → Prop), Stt K B H ρ σ S → Reps K B.b d v → g d ρ B.m P →
    (∀ ρ' σ' S' B' H', Grow K B H B' H' → Stt K B' H' ρ' σ' S' → (∀ p ∈ S', p ∈ S) → (∀ vs : List Nat, (∀ i ∈ is, i ∈ vs) → wipe σ' vs = wipe σ vs) → P ρ' B'.m → Q σ' H') → tg v σ H Q
structure EGs (X : Cx) (e : List Expr) (is : List Nat) (g : RGs) : Prop where
  ex : ∃ t, PGs X e t ∧ SndGs X.K t is g
theorem egs_nil : EGs X [] [] (fun ds ρ M P => ds = [] ∧ P ρ M) := by
  refine ⟨gNil, pgs_nil, fun B H ρ σ S d v P Q st r hg k => ?_⟩
  obtain ⟨rfl, p⟩ := hg
  cases r
  exact ⟨rfl, k ρ σ S B H st.base.grow st (fun _ h => h) (fun _ _ => rfl) p⟩
theorem egs_cons {is js : List Nat} {g : RG} {gs : RGs} (h : EG X e is g) (h' : EGs X es js gs) (hs : (assignEach (e :: es) X.env).map (·.2) = assign e X.env :: (assignEach es X.env).map (·.2) := by rfl) :
    EGs X (e :: es) (is ++ js) (fun ds ρ M P => ∃ d r, ds = d :: r ∧ g d ρ M fun ρ' M => gs r ρ' M P) := by
  obtain ⟨t, pg, sg⟩ := h.ex
  obtain ⟨ts, pgs, sgs⟩ := h'.ex
  refine ⟨_, pgs_cons pg pgs hs, fun B H ρ σ S d v P Q st r hg k => ?_⟩
  obtain ⟨d1, dr, rfl, hg⟩ := hg
  cases r with
  | cons r1 r2 =>
    refine ⟨_, _, rfl, sg B H ρ σ S _ _ _ _ st r1 hg fun ρ1 σ1 S1 B1 H1 g1 st1 sub1 w1 p1 => sgs B1 H1 ρ1 σ1 S1 _ _ _ _ st1 (r2.up g1.b) p1 fun ρ2 σ2 S2 B2 H2 g2 st2 sub2 w2 p2 => ?_⟩
    exact k ρ2 σ2 S2 B2 H2 (g1.trans g2) st2 (fun p hp => sub1 p (sub2 p hp)) (fun vs hvs => (w2 vs fun i hi => hvs i (List.mem_append_right _ hi)).trans (w1 vs fun i hi => hvs i (List.mem_append_left _ hi))) p2
theorem eg_tup {k : Nat} {is : List Nat} {gs : RGs} {n : Nat} (hc : X.calm = true) (h : EGs X es is gs) (hn : (assignEach es X.env).length = n := by rfl) (hst : (assignEach es X.env).findIdx? (·.1) = none := by rfl) :
    EG X (.Tuple es k pos) is (fun d ρ M P => ∃ ds, d = .tup ds ∧ ds.length = n ∧ gs ds ρ M P) := by
  obtain ⟨t, pgs, sgs⟩ := h.ex
  refine ⟨_, pg_tup hc pgs hn hst, fun B H ρ σ S d v P Q st r hg kk => ?_⟩
  obtain ⟨ds, rfl, hl, hg⟩ := hg
  cases r with
  | tup h1 h2 h3 => exact ⟨_, _, rfl, Evl.ex_t st.base.bh h1, by rw [← h3.length]; exact hl, sgs B H ρ σ S _ _ _ _ st h3 hg kk⟩

/-! ### list comprehensions -/
def wipeE : Env → List Nat → Env
  | ρ, [] => ρ
  | ρ, i :: vs => (wipeE ρ vs).set i none
theorem wipeE_length (ρ : Env) : ∀ vs : List Nat, (wipeE ρ vs).length = ρ.length
  | [] => rfl
  | i :: vs => by rw [wipeE, List.length_set, wipeE_length ρ vs]
theorem Stt.none {B : Kn} {H : Hp} {ρ : Env} {σ : St} {S : List Addr} (st : Stt K B H ρ σ S) (i : Nat) : ∃ S', Stt K B H (ρ.set i Option.none) (σ.set i Option.none) S' ∧ ∀ p ∈ S', p ∈ S := by
  by_cases hi : i < ρ.length
  · obtain ⟨A, T, C, hS, h2, h3, h4, h5⟩ := st.sim.split (List.getElem?_eq_getElem hi)
    have sub : ∀ p ∈ A ++ C, p ∈ S := fun p hp => by
      rw [hS]
      rcases List.mem_append.mp hp with z | z
      · exact List.mem_append_left _ z
      · exact List.mem_append_right _ (List.mem_append_right _ z)
    refine ⟨A ++ C, ⟨st.base, h4 B H Option.none Ext.rfl (fun _ _ => rfl), ?_, fun p hp => st.out p (sub p hp)⟩, sub⟩
    have nd := st.nd
    rw [hS] at nd
    exact nd.sublist (List.Sublist.append_left (List.sublist_append_right T C) A)
  · have e1 : ρ.set i Option.none = ρ := List.set_eq_of_length_le (by omega)
    have e2 : σ.set i Option.none = σ := List.set_eq_of_length_le (by have := st.sim.length; omega)
    rw [e1, e2]
    exact ⟨S, st, fun _ h => h⟩
theorem Stt.wipe {B : Kn} {H : Hp} {ρ : Env} {σ : St} {S : List Addr} (st : Stt K B H ρ σ S) : ∀ vs : List Nat, ∃ S', Stt K B H (wipeE ρ vs) (L2.wipe σ vs) S' ∧ ∀ p ∈ S', p ∈ S
  | [] => ⟨S, st, fun _ h => h⟩
  | i :: vs => by
    obtain ⟨S1, st1, h1⟩ := Stt.wipe st vs
    obtain ⟨S2, st2, h2⟩ := st1.none i
    exact ⟨S2, st2, fun p hp => h1 p (h2 p hp)⟩
/-- what a comprehension makes, item by item -/
def compD (g : RG) (f : RT) (t : RO) (ρ : Env) (P : List OT → Mem → Prop) : List D → List OT → Mem → Prop
  | [], acc, M => P acc M
  | d :: ds, acc, M => g d ρ M fun ρ' M => f ρ' M fun b M => if b = true then t ρ' M fun y M => compD g f t ρ P ds (acc ++ [y]) M else compD g f t ρ P ds acc M
structure ETs (X : Cx) (ifs : List Expr) (f : RT) : Prop where
  ex : ∃ t, PTs X ifs t ∧ SndT X.K t f
theorem ets_nil : ETs X [] (fun _ M P => P true M) := ⟨_, pts_nil, fun B H ρ σ S P Q st hf k => k true B H st.base.grow hf⟩
theorem ets_one {f : RT} (h : ET X c f) : ETs X [c] f := by
  obtain ⟨t, hp, hs⟩ := h.ex
  exact ⟨t, pts_one hp, hs⟩
end
end DL

/-! DL5: list comprehensions, statements, a def by its body. -/
namespace DL
open PySem L2 PySem.Spec
open PyProof.Rows hiding St
open PySem.PyData (strOk)
set_option autoImplicit false

/-! ### canonical readings -/
def cO (K : PySem.W.Frag) (f : RO) : TE := fun σ H Q => ∃ B ρ S P, Stt K B H ρ σ S ∧ f ρ B.m P ∧ ∀ t v B' H' T, Grow K B H B' H' → RepO K B'.b H' t v T → Own B H B' T → P t B'.m → Q v H'
def cT (K : PySem.W.Frag) (f : RT) : TT := fun σ H Q => ∃ B ρ S P, Stt K B H ρ σ S ∧ f ρ B.m P ∧ ∀ b B' H', Grow K B H B' H' → P b B'.m → Q b H'
def cI (K : PySem.W.Frag) (f : RI) : TI := fun σ H R => ∃ B ρ S P, Stt K B H ρ σ S ∧ f ρ B.m P ∧ ∀ ds J B' H', Grow K B H B' H' → Walks K J ds B'.b → ds.length ≤ sizeLine → P ds B'.m → R J H'
def cG (K : PySem.W.Frag) (is : List Nat) (g : RG) : TG := fun v σ H Q => ∃ B ρ S d P, Stt K B H ρ σ S ∧ Rep K B.b d v ∧ g d ρ B.m P ∧
  ∀ ρ' σ' S' B' H', Grow K B H B' H' → Stt K B' H' ρ' σ' S' → (∀ p ∈ S', p ∈ S) → (∀ vs : List Nat, (∀ i ∈ is, i ∈ vs) → wipe σ' vs = wipe σ vs) → P ρ' B'.m → Q σ' H'
section
variable {X : Cx} {tg e a b c o iter elt : Expr} {es rest ifs : List Expr} {pos : Pos} {fa fb fc : RD} {K : PySem.W.Frag}
theorem EO.run {f : RO} (h : EO X e f) : PE X e (cO X.K f) := by
  obtain ⟨te, hp, hs⟩ := h.ex
  refine ⟨fun pins s σ H Q I q => hp.run pins s σ H Q I ?_⟩
  obtain ⟨B, ρ, S, P, st, hf, k⟩ := q
  exact hs B H ρ σ S P Q st hf k
theorem EI.run {f : RI} (h : EI X tg e f) : PI X tg e (cI X.K f) := by
  obtain ⟨te, hp, hs⟩ := h.ex
  refine ⟨fun pins s σ H Q I q => hp.run pins s σ H Q I ?_⟩
  obtain ⟨B, ρ, S, P, st, hf, k⟩ := q
  exact hs B H ρ σ S P Q st hf k
theorem ETs.run {f : RT} (h : ETs X ifs f) : PTs X ifs (cT X.K f) := by
  obtain ⟨te, hp, hs⟩ := h.ex
  refine ⟨fun pins s σ H Q I q => hp.run pins s σ H Q I ?_⟩
  obtain ⟨B, ρ, S, P, st, hf, k⟩ := q
  exact hs B H ρ σ S P Q st hf k
theorem EG.run {is : List Nat} {g : RG} (h : EG X e is g) : PG X e (cG X.K is g) := by
  obtain ⟨te, hp, hs⟩ := h.ex
  refine ⟨fun pins s σ H v u Q I r q => hp.run pins s σ H v u Q I r ?_⟩
  obtain ⟨B, ρ, S, d, P, st, rd, hg, k⟩ := q
  exact hs B H ρ σ S d v P Q st rd hg k

theorem wipe_wipe (σ : St) : ∀ vs us : List Nat, (∀ i ∈ vs, i ∈ us) → wipe (wipe σ vs) us = wipe σ us
  | [], _, _ => rfl
  | i :: vs, us, h => by
    show wipe ((wipe σ vs).set i none) us = _
    rw [wipe_set (h i List.mem_cons_self)]
    exact wipe_wipe σ vs us fun j hj => h j (List.mem_cons_of_mem _ hj)
/-- one's own object at p changes -/
theorem Base.mut {B : Kn} {H : Hp} {p : Addr} {o : HO} (h : Base K B H) (hb : B.b p = none) (nd : B.m p = none) : Base K B (upd H p o) :=
  ⟨fun a u e => by rw [upd_ne (ne_of_none e hb)]; exact h.bh a u e, fun a u z => by
    have k : a ≠ p := fun q => by rw [q, nd] at z; cases z
    exact ⟨(h.wd a u z).1, (h.wd a u z).2.mono Ext.rfl (upd_ne k)⟩⟩
theorem Grow.mut {B0 B : Kn} {H0 H : Hp} {p : Addr} {o : HO} (g : Grow K B0 H0 B H) (h0 : H0 p = none) (hb : B.b p = none) (nd : B.m p = none) : Grow K B0 H0 B (upd H p o) :=
  ⟨g.b, fun a u z e => by rw [upd_ne (ne_of_none e h0)]; exact g.h a u z e, g.d, g.n, g.f, g.base.mut hb nd⟩

/-- a list under way at D: its items' trees stand apart -/
structure LcA (K : PySem.W.Frag) (Bz : Kn) (Hz : Hp) (D : Addr) (B : Kn) (H : Hp) (acc : List OT) : Prop where
  gr : Grow K Bz Hz B H
  nb : B.b D = none
  nm : B.m D = none
  ex : ∃ xs T, H D = some (.lst xs) ∧ RepOs K B.b H acc xs T ∧ Own Bz Hz B T ∧ D ∉ T
theorem LcA.grow {Bz B B' : Kn} {Hz H H' : Hp} {D : Addr} {acc : List OT} (a : LcA K Bz Hz D B H acc) (g : Grow K B H B' H') : LcA K Bz Hz D B' H' acc := by
  obtain ⟨xs, T, h1, h2, h3, h4⟩ := a.ex
  have hDn : H D ≠ none := by rw [h1]; exact fun z => nomatch z
  refine ⟨a.gr.trans g, ?_, g.nm a.nm hDn, xs, T, g.h D _ a.nm h1, h2.mono g.b _ _ _ fun q hq => g.same (h2.some q hq) (h3.nw q hq), ⟨h3.nd, h3.fr, fun q hq => ?_, fun q hq => g.nm (h3.nw q hq) (fun e => by have := h2.some q hq; rw [e] at this; cases this)⟩, h4⟩
  · cases q : B'.b D with
    | none => rfl
    | some o =>
      rcases g.f D o q with z | z
      · rw [a.nb] at z; cases z
      · exact absurd z hDn
  · cases z : B'.b q with
    | none => rfl
    | some o =>
      rcases g.f q o z with z | z
      · rw [h3.nb q hq] at z; cases z
      · have := h2.some q hq; rw [z] at this; cases this
theorem RepOs.append {B H : Hp} : ∀ {l m : List OT} {xs ys : List V} {T U : List Addr}, RepOs K B H l xs T → RepOs K B H m ys U → RepOs K B H (l ++ m) (xs ++ ys) (T ++ U)
  | _, _, _, _, _, _, .nil, s => s
  | _, _, _, _, _, _, .cons r t, s => by rw [List.append_assoc]; exact .cons r (RepOs.append t s)
/-- growth of all but D -/
structure GrD (K : PySem.W.Frag) (D : Addr) (B : Kn) (H : Hp) (B' : Kn) (H' : Hp) : Prop where
  b : Ext B.b B'.b
  h : ∀ a o, a ≠ D → B.m a = none → H a = some o → H' a = some o
  n : ∀ a, B'.m a ≠ none → B.m a ≠ none ∨ H a = none
  f : ∀ a o, B'.b a = some o → B.b a = some o ∨ H a = none
  s : ∀ a, H a ≠ none → H' a ≠ none
  base : Base K B' H'
theorem Base.grD {B : Kn} {H : Hp} {D : Addr} (b : Base K B H) : GrD K D B H B H := ⟨Ext.rfl, fun _ _ _ _ e => e, fun _ z => .inl z, fun _ _ e => .inl e, fun _ z => z, b⟩
theorem GrD.step {D : Addr} {B B1 B2 : Kn} {H H1 H2 : Hp} (g : GrD K D B H B1 H1) (k : Grow K B1 H1 B2 H2) : GrD K D B H B2 H2 := by
  have fr : ∀ a, H1 a = none → H a = none := fun a e => by
    by_cases z : H a = none
    · exact z
    · exact absurd e (g.s a z)
  refine ⟨g.b.trans k.b, fun a o z m e => ?_, fun a z => ?_, fun a o e => ?_, fun a z q => g.s a z (k.free q), k.base⟩
  · have h1 := g.h a o z m e
    refine k.h a o ?_ h1
    by_cases q : B1.m a = none
    · exact q
    · rcases g.n a q with w | w
      · exact absurd m w
      · rw [e] at w; cases w
  · rcases k.n a z with q | q
    · exact g.n a q
    · exact .inr (fr a q)
  · rcases k.f a o e with q | q
    · exact g.f a o q
    · exact .inr (fr a q)
theorem GrD.at {D : Addr} {B B1 : Kn} {H H1 : Hp} {o : HO} (g : GrD K D B H B1 H1) (nb : B1.b D = none) (nm : B1.m D = none) : GrD K D B H B1 (upd H1 D o) := by
  refine ⟨g.b, fun a o z m e => by rw [upd_ne z]; exact g.h a o z m e, g.n, g.f, fun a z => ?_, g.base.mut nb nm⟩
  by_cases q : a = D
  · rw [q, upd_same]; exact fun z => nomatch z
  · rw [upd_ne q]; exact g.s a z
theorem Stt.growD {D : Addr} {B B1 : Kn} {H H1 : Hp} {ρ : Env} {σ : L2.St} {S : List Addr} (s : Stt K B H ρ σ S) (hD : D ∉ S) (g : GrD K D B H B1 H1) : Stt K B1 H1 ρ σ S := by
  have nd : ∀ p ∈ S, p ≠ D := fun p hp e => hD (e ▸ hp)
  have he : ∀ p ∈ S, H1 p = H p := fun p hp => by
    cases q : H p with
    | none => exact absurd q (s.some_of hp)
    | some o => exact g.h p o (nd p hp) (s.out p hp).2 q
  refine ⟨g.base, SimE.mono g.b he s.sim, s.nd, fun p hp => ⟨?_, ?_⟩⟩
  · cases q : B1.b p with
    | none => rfl
    | some o =>
      rcases g.f p o q with z | z
      · rw [(s.out p hp).1] at z; cases z
      · exact absurd z (s.some_of hp)
  · by_cases q : B1.m p = Option.none
    · exact q
    · rcases g.n p q with z | z
      · exact absurd (s.out p hp).2 z
      · exact absurd z (s.some_of hp)
theorem LcA.push {Bz B B' : Kn} {Hz H H' : Hp} {D : Addr} {acc : List OT} {t : OT} {v : V} {U : List Addr} (a : LcA K Bz Hz D B H acc) (hD : Hz D = none) (g : Grow K B H B' H') (r : RepO K B'.b H' t v U) (o : Own B H B' U) :
    ∃ xs, H' D = some (.lst xs) ∧ xs.length = acc.length ∧ LcA K Bz Hz D B' (upd H' D (.lst (xs ++ [v]))) (acc ++ [t]) := by
  obtain ⟨xs, T, h1, h2, h3, h4⟩ := a.ex
  have a' := a.grow g
  have hDU : D ∉ U := fun z => by have := o.fr D z; rw [h1] at this; cases this
  refine ⟨xs, g.h D _ a.nm h1, h2.length.symm, a'.gr.mut hD a'.nb a'.nm, a'.nb, a'.nm, xs ++ [v], T ++ U, upd_same, ?_, ?_, fun z => (List.mem_append.mp z).elim h4 hDU⟩
  · have h2' : RepOs K B'.b H' acc xs T := h2.mono g.b _ _ _ fun q hq => g.same (h2.some q hq) (h3.nw q hq)
    have := h2'.append (.cons r .nil)
    rw [List.append_nil] at this
    exact this.mono Ext.rfl _ _ _ fun q hq => upd_ne fun z => (List.mem_append.mp (z ▸ hq)).elim h4 hDU
  · exact h3.join h2.some g (o.back a.gr) o.fr
/-- .. with their number looked at -/
def compS (g : RG) (f : RT) (t : RO) (ρ : Env) (P : List OT → Mem → Prop) : List D → List OT → Mem → Prop
  | [], acc, M => P acc M
  | d :: ds, acc, M => g d ρ M fun ρ' M => f ρ' M fun b M => if b = true then t ρ' M fun y M => acc.length < sizeLine ∧ compS g f t ρ P ds (acc ++ [y]) M else compS g f t ρ P ds acc M
theorem lc_loop {Bz B1 : Kn} {Hz H1 : Hp} {D : Addr} (hD : Hz D = none) {ρ : Env} {σ : L2.St} {S : List Addr} (st : Stt K B1 H1 ρ σ S) (hDS : D ∉ S) {J : It} {ds : List DL.D} (wk : Walks K J ds B1.b) {is vs : List Nat} (his : ∀ i ∈ is, i ∈ vs) {g : RG} {f : RT} {t : RO} {P : List OT → Mem → Prop} {acc0 : List OT}
    (a0 : LcA K Bz Hz D B1 H1 acc0) (hsz : acc0.length + ds.length ≤ sizeLine) (hc : compD g f t (wipeE ρ vs) P ds acc0 B1.m) {Fin : Hp → Prop} (hfin : ∀ B' H' acc, LcA K Bz Hz D B' H' acc → acc.length ≤ acc0.length + ds.length → P acc B'.m → Fin H') :
    ∃ W : Nat → Nat → Hp → Prop, (∃ m, W 0 m H1) ∧ ∀ i m H, W i m H → (J.stop i H ∧ Fin H) ∨ (J.go i H ∧ ∃ Nx : Hp → Prop, (∀ H', Nx H' → ∃ m', m' < m ∧ W (i + 1) m' H') ∧ ∀ x H', J.yld i H x H' →
      cG K is g x (wipe σ vs) H' fun σ2 H2 => wipe σ2 vs = wipe σ vs ∧ cT K f σ2 H2 fun b H3 => if b = true then cO K t σ2 H3 fun y H4 => ∃ acc, H4 D = some (.lst acc) ∧ acc.length < sizeLine ∧ Nx (upd H4 D (.lst (acc ++ [y]))) else Nx H3) := by
  refine ⟨fun i m H' => m = ds.length - i ∧ i ≤ ds.length ∧ ∃ B' acc, GrD K D B1 H1 B' H' ∧ LcA K Bz Hz D B' H' acc ∧ acc.length ≤ acc0.length + i ∧ compD g f t (wipeE ρ vs) P (ds.drop i) acc B'.m, ⟨ds.length, by simp, Nat.zero_le _, B1, acc0, st.base.grD, a0, Nat.le_refl _, hc⟩, ?_⟩
  rintro i m H2 ⟨rfl, hle, B2, acc, g2, a2, hacc, c2⟩
  by_cases hlt : i < ds.length
  · refine .inr ?_
    obtain ⟨go, yl⟩ := wk.go B2 H2 i ds[i] g2.b g2.base (List.getElem?_eq_getElem hlt)
    refine ⟨go, fun H' => i + 1 ≤ ds.length ∧ ∃ B' acc, GrD K D B1 H1 B' H' ∧ LcA K Bz Hz D B' H' acc ∧ acc.length ≤ acc0.length + (i + 1) ∧ compD g f t (wipeE ρ vs) P (ds.drop (i + 1)) acc B'.m, fun H' hN => ⟨ds.length - (i + 1), by omega, rfl, hN⟩, fun x H3 y3 => ?_⟩
    obtain ⟨B3, g3, em, rx⟩ := yl x H3 y3
    rw [List.drop_eq_getElem_cons hlt, ← em] at c2
    replace c2 : g ds[i] (wipeE ρ vs) B3.m fun ρ' M => f ρ' M fun b M => if b = true then t ρ' M fun y M => compD g f t (wipeE ρ vs) P (ds.drop (i + 1)) (acc ++ [y]) M else compD g f t (wipeE ρ vs) P (ds.drop (i + 1)) acc M := c2
    obtain ⟨S3, st3, _⟩ := (st.growD hDS (g2.step g3)).wipe vs
    refine ⟨B3, _, S3, ds[i], _, st3, rx, c2, fun ρ4 σ4 S4 Bg Hg gg st4 _ hw p4 => ?_⟩
    replace g3 := g3.trans gg
    refine ⟨(hw vs his).trans (wipe_wipe σ vs vs fun _ h => h), Bg, ρ4, S4, _, st4, p4, fun b B5 H5 g5 p5 => ?_⟩
    have a5 := a2.grow (g3.trans g5)
    cases b with
    | false => exact ⟨hlt, B5, acc, (g2.step g3).step g5, a5, by omega, p5⟩
    | true =>
      refine ⟨B5, ρ4, S4, _, st4.grow g5, p5, fun d v B6 H6 T6 g6 r6 o6 p6 => ?_⟩
      obtain ⟨xs, h6, hl6, a6⟩ := a5.push hD g6 r6 o6
      exact ⟨xs, h6, (by rw [hl6]; omega), hlt, B6, acc ++ [d], (((g2.step g3).step g5).step g6).at a6.nb a6.nm, a6, by simp; omega, p6⟩
  · have e : i = ds.length := by omega
    subst e
    refine .inl ⟨wk.stop B2 H2 _ g2.b g2.base (Nat.le_refl _), ?_⟩
    rw [List.drop_length] at c2
    exact hfin B2 H2 acc a2 hacc c2
theorem lc_loopS {Bz B1 : Kn} {Hz H1 : Hp} {D : Addr} (hD : Hz D = none) {ρ : Env} {σ : L2.St} {S : List Addr} (st : Stt K B1 H1 ρ σ S) (hDS : D ∉ S) {J : It} {ds : List DL.D} (wk : Walks K J ds B1.b) {is vs : List Nat} (his : ∀ i ∈ is, i ∈ vs) {g : RG} {f : RT} {t : RO} {P : List OT → Mem → Prop} {acc0 : List OT}
    (a0 : LcA K Bz Hz D B1 H1 acc0) (hc : compS g f t (wipeE ρ vs) P ds acc0 B1.m) {Fin : Hp → Prop} (hfin : ∀ B' H' acc, LcA K Bz Hz D B' H' acc → acc.length ≤ acc0.length + ds.length → P acc B'.m → Fin H') :
    ∃ W : Nat → Nat → Hp → Prop, (∃ m, W 0 m H1) ∧ ∀ i m H, W i m H → (J.stop i H ∧ Fin H) ∨ (J.go i H ∧ ∃ Nx : Hp → Prop, (∀ H', Nx H' → ∃ m', m' < m ∧ W (i + 1) m' H') ∧ ∀ x H', J.yld i H x H' →
      cG K is g x (wipe σ vs) H' fun σ2 H2 => wipe σ2 vs = wipe σ vs ∧ cT K f σ2 H2 fun b H3 => if b = true then cO K t σ2 H3 fun y H4 => ∃ acc, H4 D = some (.lst acc) ∧ acc.length < sizeLine ∧ Nx (upd H4 D (.lst (acc ++ [y]))) else Nx H3) := by
  refine ⟨fun i m H' => m = ds.length - i ∧ i ≤ ds.length ∧ ∃ B' acc, GrD K D B1 H1 B' H' ∧ LcA K Bz Hz D B' H' acc ∧ acc.length ≤ acc0.length + i ∧ compS g f t (wipeE ρ vs) P (ds.drop i) acc B'.m, ⟨ds.length, by simp, Nat.zero_le _, B1, acc0, st.base.grD, a0, Nat.le_refl _, hc⟩, ?_⟩
  rintro i m H2 ⟨rfl, hle, B2, acc, g2, a2, hacc, c2⟩
  by_cases hlt : i < ds.length
  · refine .inr ?_
    obtain ⟨go, yl⟩ := wk.go B2 H2 i ds[i] g2.b g2.base (List.getElem?_eq_getElem hlt)
    refine ⟨go, fun H' => i + 1 ≤ ds.length ∧ ∃ B' acc, GrD K D B1 H1 B' H' ∧ LcA K Bz Hz D B' H' acc ∧ acc.length ≤ acc0.length + (i + 1) ∧ compS g f t (wipeE ρ vs) P (ds.drop (i + 1)) acc B'.m, fun H' hN => ⟨ds.length - (i + 1), by omega, rfl, hN⟩, fun x H3 y3 => ?_⟩
    obtain ⟨B3, g3, em, rx⟩ := yl x H3 y3
    rw [List.drop_eq_getElem_cons hlt, ← em] at c2
    replace c2 : g ds[i] (wipeE ρ vs) B3.m fun ρ' M => f ρ' M fun b M => if b = true then t ρ' M fun y M => acc.length < sizeLine ∧ compS g f t (wipeE ρ vs) P (ds.drop (i + 1)) (acc ++ [y]) M else compS g f t (wipeE ρ vs) P (ds.drop (i + 1)) acc M := c2
    obtain ⟨S3, st3, _⟩ := (st.growD hDS (g2.step g3)).wipe vs
    refine ⟨B3, _, S3, ds[i], _, st3, rx, c2, fun ρ4 σ4 S4 Bg Hg gg st4 _ hw p4 => ?_⟩
    replace g3 := g3.trans gg
    refine ⟨(hw vs his).trans (wipe_wipe σ vs vs fun _ h => h), Bg, ρ4, S4, _, st4, p4, fun b B5 H5 g5 p5 => ?_⟩
    have a5 := a2.grow (g3.trans g5)
    cases b with
    | false => exact ⟨hlt, B5, acc, (g2.step g3).step g5, a5, by omega, p5⟩
    | true =>
      refine ⟨B5, ρ4, S4, _, st4.grow g5, p5, fun d v B6 H6 T6 g6 r6 o6 p6 => ?_⟩
      obtain ⟨xs, h6, hl6, a6⟩ := a5.push hD g6 r6 o6
      exact ⟨xs, h6, (by rw [hl6]; exact p6.1), hlt, B6, acc ++ [d], (((g2.step g3).step g5).step g6).at a6.nb a6.nm, a6, by simp; omega, p6.2⟩
  · have e : i = ds.length := by omega
    subst e
    refine .inl ⟨wk.stop B2 H2 _ g2.b g2.base (Nat.le_refl _), ?_⟩
    rw [List.drop_length] at c2
    exact hfin B2 H2 acc a2 hacc c2
theorem LcA.start {B1 : Kn} {H1 : Hp} {D : Addr} (b : Base K B1 H1) (hD : H1 D = none) : LcA K B1 H1 D B1 (upd H1 D (.lst [])) [] := by
  obtain ⟨gD, bD, nD⟩ := b.newO (o := .lst []) hD
  exact ⟨gD, bD, nD, [], [], upd_same, .nil, .nil, fun h => nomatch h⟩
theorem LcA.fin {Bz B : Kn} {Hz H : Hp} {D : Addr} {acc : List OT} (a : LcA K Bz Hz D B H acc) (hD : Hz D = none) (hl : acc.length ≤ sizeLine) : ∃ T, RepO K B.b H (.ow acc) (.ref D) T ∧ Own Bz Hz B T := by
  obtain ⟨xs, T, h1, h2, h3, h4⟩ := a.ex
  refine ⟨D :: T, .ow h1 hl h2, ⟨List.nodup_cons.mpr ⟨h4, h3.nd⟩, fun p hp => ?_, fun p hp => ?_, fun p hp => ?_⟩⟩
  all_goals rcases List.mem_cons.mp hp with rfl | hp
  · exact hD
  · exact h3.fr p hp
  · exact a.nb
  · exact h3.nb p hp
  · exact a.nm
  · exact h3.nw p hp
theorem snd_lc {wi : TI} {fi : RI} {is vs : List Nat} {g : RG} {f : RT} {t : RO} (hi : SndI K wi fi) (his : ∀ i ∈ is, i ∈ vs) :
    SndO K (tLc wi (cG K is g) (cT K f) (cO K t) vs) (fun ρ M P => fi ρ M fun items M => compD g f t (wipeE ρ vs) (fun l M => P (.ow l) M) items [] M) := by
  intro B H ρ σ S P Q st hf k
  refine hi B H ρ σ S _ _ st hf fun ds J B1 H1 g1 wk hsz hc => ?_
  intro D hD
  have a0 := LcA.start g1.base hD
  obtain ⟨gD, _⟩ := g1.base.newO (o := .lst []) hD
  exact lc_loop hD ((st.grow g1).grow gD) (fun z => (st.grow g1).some_of z hD) wk his a0 (by simpa using hsz) hc fun B' H' acc a hl p => by
    obtain ⟨T, r, o⟩ := a.fin hD (Nat.le_trans hl (by simpa using hsz))
    exact k _ _ B' H' T (g1.trans a.gr) r (o.back g1) p
/-- two sources -/
def comp2D (g : RG) (f : RT) (fi1 : RI) (vs1 : List Nat) (g1 : RG) (f1 : RT) (t : RO) (ρ : Env) (P : List OT → Mem → Prop) : List D → List OT → Mem → Prop
  | [], acc, M => P acc M
  | d :: ds, acc, M => g d ρ M fun ρ' M => f ρ' M fun b M => if b = true then fi1 ρ' M fun items M => compS g1 f1 t (wipeE ρ' vs1) (fun acc M => comp2D g f fi1 vs1 g1 f1 t ρ P ds acc M) items acc M else comp2D g f fi1 vs1 g1 f1 t ρ P ds acc M
theorem snd_lc2 {wi : TI} {fi fi1 : RI} {is is1 vs vs1 : List Nat} {g g1 : RG} {f f1 : RT} {t : RO} (hi : SndI K wi fi) (his : ∀ i ∈ is, i ∈ vs) (his1 : ∀ i ∈ is1, i ∈ vs1) :
    SndO K (tLc2 wi (cG K is g) (cT K f) (cI K fi1) (cG K is1 g1) (cT K f1) (cO K t) vs vs1) (fun ρ M P => fi ρ M fun items M => comp2D g f fi1 vs1 g1 f1 t (wipeE ρ vs) (fun l M => l.length ≤ sizeLine ∧ P (.ow l) M) items [] M) := by
  intro B H ρ σ S P Q st hf k
  refine hi B H ρ σ S _ _ st hf fun ds J B1 H1 gr1 wk hsz hc => ?_
  intro D hD
  have a0 := LcA.start gr1.base hD
  have st1 := st.grow gr1
  refine ⟨fun i m H' => m = ds.length - i ∧ i ≤ ds.length ∧ ∃ B' acc, LcA K B1 H1 D B' H' acc ∧ comp2D g f fi1 vs1 g1 f1 t (wipeE ρ vs) (fun l M => l.length ≤ sizeLine ∧ P (.ow l) M) (ds.drop i) acc B'.m, ⟨ds.length, by simp, Nat.zero_le _, B1, [], a0, hc⟩, ?_⟩
  rintro i m H2 ⟨rfl, hle, B2, acc, a2, c2⟩
  by_cases hlt : i < ds.length
  · refine .inr ?_
    obtain ⟨go, yl⟩ := wk.go B2 H2 i ds[i] a2.gr.b a2.gr.base (List.getElem?_eq_getElem hlt)
    refine ⟨go, fun H' => i + 1 ≤ ds.length ∧ ∃ B' acc, LcA K B1 H1 D B' H' acc ∧ comp2D g f fi1 vs1 g1 f1 t (wipeE ρ vs) (fun l M => l.length ≤ sizeLine ∧ P (.ow l) M) (ds.drop (i + 1)) acc B'.m, fun H' hN => ⟨ds.length - (i + 1), by omega, rfl, hN⟩, fun x H3 y3 => ?_⟩
    obtain ⟨B3, g3, em, rx⟩ := yl x H3 y3
    rw [List.drop_eq_getElem_cons hlt, ← em] at c2
    replace c2 : g ds[i] (wipeE ρ vs) B3.m fun ρ' M => f ρ' M fun b M => if b = true then fi1 ρ' M fun items M => compS g1 f1 t (wipeE ρ' vs1) (fun acc M => comp2D g f fi1 vs1 g1 f1 t (wipeE ρ vs) (fun l M => l.length ≤ sizeLine ∧ P (.ow l) M) (ds.drop (i + 1)) acc M) items acc M else comp2D g f fi1 vs1 g1 f1 t (wipeE ρ vs) (fun l M => l.length ≤ sizeLine ∧ P (.ow l) M) (ds.drop (i + 1)) acc M := c2
    obtain ⟨S3, st3, sub3⟩ := (st1.grow (a2.gr.trans g3)).wipe vs
    refine ⟨B3, _, S3, ds[i], _, st3, rx, c2, fun ρ4 σ4 S4 Bg Hg gg st4 sub4 hw p4 => ?_⟩
    replace g3 := g3.trans gg
    refine ⟨(hw vs his).trans (wipe_wipe σ vs vs fun _ h => h), Bg, ρ4, S4, _, st4, p4, fun b B5 H5 g5 p5 => ?_⟩
    have a5 := a2.grow (g3.trans g5)
    cases b with
    | false => exact ⟨hlt, B5, acc, a5, p5⟩
    | true =>
      refine ⟨B5, ρ4, S4, _, st4.grow g5, p5, fun ds1 J1 B6 H6 g6 wk1 _ p6 => ?_⟩
      exact lc_loopS hD ((st4.grow g5).grow g6) (fun z => st1.some_of (sub3 _ (sub4 _ z)) hD) wk1 his1 (a5.grow g6) p6 fun B' H' acc' a hl p => ⟨hlt, B', acc', a, p⟩
  · have e : i = ds.length := by omega
    subst e
    refine .inl ⟨wk.stop B2 H2 _ a2.gr.b a2.gr.base (Nat.le_refl _), ?_⟩
    rw [List.drop_length] at c2
    obtain ⟨T, r, o⟩ := a2.fin hD c2.1
    exact k _ _ B2 H2 T (gr1.trans a2.gr) r (o.back gr1) c2.2
/-- a context of a comprehension's block -/
abbrev BlkOf (X : Cx) (scope : Scope) (Y : Cx) : Prop := ∃ (s : Shared) (H : Hp) (C : Addr) (cl : List (Str × Addr)) (fp : List Addr), Y = X.blk s H scope (compEnvC scope cl C X.env) fp
theorem eo_lc {scope : Scope} {own : List (Str × Nat)} {fi : RI} {is : List Nat} {g : RG} {f : RT} {t : RO} (hc : X.calm = true) (hN : X.N.Nodup) (hi : EI X tg iter fi) (ok : BlkOk X.N X.env.scope scope own) (his : ∀ i ∈ is, i ∈ own.map (·.2))
    (hg : ∀ (s : Shared) (H : Hp) (C : Addr) (cl : List (Str × Addr)) (fp : List Addr), EG (X.blk s H scope (compEnvC scope cl C X.env) fp) tg is g)
    (ht : ∀ (s : Shared) (H : Hp) (C : Addr) (cl : List (Str × Addr)) (fp : List Addr), ETs (X.blk s H scope (compEnvC scope cl C X.env) fp) ifs f)
    (he : ∀ (s : Shared) (H : Hp) (C : Addr) (cl : List (Str × Addr)) (fp : List Addr), EO (X.blk s H scope (compEnvC scope cl C X.env) fp) elt t) (hs : ∀ x, foldedSetIterable iter X.env x = pure x := by intro _; rfl) :
    EO X (.ListComp elt [⟨tg, iter, ifs, 0⟩] scope pos) (fun ρ M P => fi ρ M fun items M => compD g f t (wipeE ρ (own.map (·.2))) (fun l M => P (.ow l) M) items [] M) := by
  obtain ⟨wi, pi, si⟩ := hi.ex
  exact ⟨_, pe_lc hc hN pi ok (fun s H C cl fp => (hg s H C cl fp).run) (fun s H C cl fp => (ht s H C cl fp).run) (fun s H C cl fp => (he s H C cl fp).run) hs, snd_lc si his⟩

/-- two sources; vs1: the second target's names -/
theorem eo_lc2 {tg1 iter1 : Expr} {ifs1 : List Expr} {scope : Scope} {own : List (Str × Nat)} {fi fi1 : RI} {is is1 : List Nat} {g g1 : RG} {f f1 : RT} {t : RO} (vs1 : List Nat) (hc : X.calm = true) (hN : X.N.Nodup) (hi : EI X tg iter fi) (ok : BlkOk X.N X.env.scope scope own) (his : ∀ i ∈ is, i ∈ own.map (·.2)) (his1 : ∀ i ∈ is1, i ∈ vs1) (hvs : ∀ i ∈ vs1, i ∈ own.map (·.2))
    (hg : ∀ (s : Shared) (H : Hp) (C : Addr) (cl : List (Str × Addr)) (fp : List Addr), EG (X.blk s H scope (compEnvC scope cl C X.env) fp) tg is g)
    (ht : ∀ (s : Shared) (H : Hp) (C : Addr) (cl : List (Str × Addr)) (fp : List Addr), ETs (X.blk s H scope (compEnvC scope cl C X.env) fp) ifs f)
    (hi1 : ∀ (s : Shared) (H : Hp) (C : Addr) (cl : List (Str × Addr)) (fp : List Addr), EI (X.blk s H scope (compEnvC scope cl C X.env) fp) tg1 iter1 fi1)
    (hg1 : ∀ (s : Shared) (H : Hp) (C : Addr) (cl : List (Str × Addr)) (fp : List Addr), EG (X.blk s H scope (compEnvC scope cl C X.env) fp) tg1 is1 g1)
    (ht1 : ∀ (s : Shared) (H : Hp) (C : Addr) (cl : List (Str × Addr)) (fp : List Addr), ETs (X.blk s H scope (compEnvC scope cl C X.env) fp) ifs1 f1)
    (he : ∀ (s : Shared) (H : Hp) (C : Addr) (cl : List (Str × Addr)) (fp : List Addr), EO (X.blk s H scope (compEnvC scope cl C X.env) fp) elt t) (hs : ∀ x, foldedSetIterable iter X.env x = pure x := by intro _; rfl) (hs1 : ∀ env x, foldedSetIterable iter1 env x = pure x := by intro _ _; rfl) :
    EO X (.ListComp elt [⟨tg, iter, ifs, 0⟩, ⟨tg1, iter1, ifs1, 0⟩] scope pos) (fun ρ M P => fi ρ M fun items M => comp2D g f fi1 vs1 g1 f1 t (wipeE ρ (own.map (·.2))) (fun l M => l.length ≤ sizeLine ∧ P (.ow l) M) items [] M) := by
  obtain ⟨wi, pi, si⟩ := hi.ex
  exact ⟨_, pe_lc2 hc hN pi ok (fun i hi => hvs i hi) (fun s H C cl fp => (hg s H C cl fp).run) (fun s H C cl fp => (ht s H C cl fp).run) (fun s H C cl fp => (hi1 s H C cl fp).run) (fun s H C cl fp => (hg1 s H C cl fp).run) (fun s H C cl fp => (ht1 s H C cl fp).run) (fun s H C cl fp => (he s H C cl fp).run) hs hs1, snd_lc2 si his his1⟩

/-! ### statements -/
structure DEnds where
  nx : Env → Mem → Prop
  rt : OT → Mem → Prop
  bk : Env → Mem → Prop := fun _ _ => False
  ct : Env → Mem → Prop := fun _ _ => False
/-- a state of a def that began at B0, H0 -/
structure SttF (K : PySem.W.Frag) (B0 : Kn) (H0 : Hp) (B : Kn) (H : Hp) (ρ : Env) (σ : St) (S : List Addr) : Prop where
  st : Stt K B H ρ σ S
  gr : Grow K B0 H0 B H
  fr : ∀ p ∈ S, H0 p = none
abbrev RS := DEnds → Env → Mem → Prop
def SndS (K : PySem.W.Frag) (tS : TS) (g : RS) : Prop :=
  ∀ (B0 : Kn) (H0 : Hp) (B : Kn) (H : Hp) (ρ : Env) (σ : St) (S : List Addr) (P : DEnds) (D : Ends), SttF K B0 H0 B H ρ σ S → g P ρ B.m →
    (∀ B' H' ρ' σ' S', SttF K B0 H0 B' H' ρ' σ' S' → P.nx ρ' B'.m → D.nx σ' H') →
    (∀ B' H' ρ' σ' S', SttF K B0 H0 B' H' ρ' σ' S' → P.bk ρ' B'.m → D.bk σ' H') →
    (∀ B' H' ρ' σ' S', SttF K B0 H0 B' H' ρ' σ' S' → P.ct ρ' B'.m → D.ct σ' H') →
    (∀ t v B' H' T, Grow K B0 H0 B' H' → RepO K B'.b H' t v T → Own B0 H0 B' T → P.rt t B'.m → D.rt v H') → tS D σ H
structure DS (X : Cx) (st : Stmt) (g : RS) : Prop where
  ex : ∃ t, PS X st t ∧ SndS X.K t g
structure DSs (X : Cx) (st : List Stmt) (g : RS) : Prop where
  ex : ∃ t, PSs X st t ∧ SndS X.K t g
variable {st : Stmt} {sts : List Stmt}
theorem dss_nil : DSs X [] (fun P ρ M => P.nx ρ M) := ⟨_, pss_nil, fun B0 H0 B H ρ σ S P D s hg k1 _ _ _ => k1 B H ρ σ S s hg⟩
/-- one statement, then the others; the mark keeps simp from looking further -/
inductive Mark (g h : RS) (P : DEnds) : Type
  | mk
def seqM (g h : RS) (P : DEnds) (_ : Mark g h P) (ρ : Env) (M : Mem) : Prop := g { P with nx := fun ρ' M => h P ρ' M } ρ M
def seqS (g h : RS) : RS := fun P ρ M => seqM g h P .mk ρ M
theorem seq_in {g h : RS} {P : DEnds} {m : Mark g h P} {ρ : Env} {M : Mem} (q : g { P with nx := fun ρ' M => h P ρ' M } ρ M) : seqM g h P m ρ M := q
theorem seqS_M {g h : RS} {P : DEnds} {ρ : Env} {M : Mem} : seqS g h P ρ M = seqM g h P .mk ρ M := rfl
theorem dss_cons {g h : RS} (h1 : DS X st g) (h2 : DSs X sts h) : DSs X (st :: sts) (seqS g h) := by
  obtain ⟨t, pt, stt⟩ := h1.ex
  obtain ⟨u, pu, su⟩ := h2.ex
  exact ⟨_, pss_cons pt pu, fun B0 H0 B H ρ σ S P D s hg k1 k2 k3 k4 => stt B0 H0 B H ρ σ S _ _ s hg (fun B' H' ρ' σ' S' s' p => su B0 H0 B' H' ρ' σ' S' P D s' p k1 k2 k3 k4) k2 k3 k4⟩
theorem SttF.grow {B0 B B1 : Kn} {H0 H H1 : Hp} {ρ : Env} {σ : St} {S : List Addr} (s : SttF K B0 H0 B H ρ σ S) (g : Grow K B H B1 H1) : SttF K B0 H0 B1 H1 ρ σ S := ⟨s.st.grow g, s.gr.trans g, s.fr⟩
/-- a name gets an owned tree that stands apart -/
theorem SttF.putA {B0 B : Kn} {H0 H : Hp} {ρ : Env} {σ : St} {S T1 : List Addr} {i : Nat} {t : OT} {v : V} (s : SttF K B0 H0 B H ρ σ S) (hi : i < ρ.length) (r : RepO K B.b H t v T1) (nd1 : T1.Nodup) (dis : ∀ p ∈ T1, p ∉ S) (o : ∀ p ∈ T1, (B.b p = none ∧ B.m p = none) ∧ H0 p = none) :
    ∃ S', SttF K B0 H0 B H (ρ.set i (some t)) (σ.set i (some v)) S' ∧ ∀ p ∈ S', p ∈ S ∨ p ∈ T1 := by
  have s1 := s.st
  obtain ⟨A, T, C, hS, h2, h3, h4, h5⟩ := s1.sim.split (List.getElem?_eq_getElem hi)
  have nd := s1.nd
  rw [hS] at nd
  have sub : ∀ p ∈ A ++ C, p ∈ S := fun p hp => by
    rw [hS]
    rcases List.mem_append.mp hp with z | z
    · exact List.mem_append_left _ z
    · exact List.mem_append_right _ (List.mem_append_right _ z)
  have ndAC : (A ++ C).Nodup := nd.sublist (List.Sublist.append_left (List.sublist_append_right T C) A)
  have mem : ∀ p ∈ A ++ (T1 ++ C), p ∈ S ∨ p ∈ T1 := fun p hp => by
    rcases List.mem_append.mp hp with z | z
    · exact .inl (sub p (List.mem_append_left _ z))
    · rcases List.mem_append.mp z with z | z
      · exact .inr z
      · exact .inl (sub p (List.mem_append_right _ z))
  refine ⟨A ++ (T1 ++ C), ⟨⟨s1.base, h3 B.b H t v T1 Ext.rfl (fun _ _ => rfl) r, ?_, fun p hp => (mem p hp).elim (s1.out p) fun z => (o p z).1⟩, s.gr, fun p hp => (mem p hp).elim (s.fr p) fun z => (o p z).2⟩, mem⟩
  rw [List.nodup_append] at ndAC
  rw [List.nodup_append, List.nodup_append]
  refine ⟨ndAC.1, ⟨nd1, ndAC.2.1, fun a ha b hb e => dis a ha (sub a (by rw [e]; exact List.mem_append_right _ hb))⟩, fun a ha b hb e => ?_⟩
  rcases List.mem_append.mp hb with z | z
  · exact dis b z (sub b (by rw [← e]; exact List.mem_append_left _ ha))
  · exact ndAC.2.2 a ha b z e
theorem SttF.apart {B0 B B1 : Kn} {H0 H : Hp} {ρ : Env} {σ : St} {S T1 : List Addr} (s : SttF K B0 H0 B H ρ σ S) (o : Own B H B1 T1) : (∀ p ∈ T1, p ∉ S) ∧ ∀ p ∈ T1, (B1.b p = none ∧ B1.m p = none) ∧ H0 p = none :=
  ⟨fun p hp hq => (by
    have := s.st.sim.some_of p hq
    rw [o.fr p hp] at this; cases this), fun p hp => ⟨⟨o.nb p hp, o.nw p hp⟩, s.gr.free (o.fr p hp)⟩⟩
theorem SttF.put {B0 B B1 : Kn} {H0 H H1 : Hp} {ρ : Env} {σ : St} {S T1 : List Addr} {i : Nat} {t : OT} {v : V} (s : SttF K B0 H0 B H ρ σ S) (hi : i < ρ.length) (g : Grow K B H B1 H1) (r : RepO K B1.b H1 t v T1) (o : Own B H B1 T1) :
    ∃ S', SttF K B0 H0 B1 H1 (ρ.set i (some t)) (σ.set i (some v)) S' := by
  obtain ⟨S', s', _⟩ := (s.grow g).putA hi r o.nd (s.apart o).1 (s.apart o).2
  exact ⟨S', s'⟩
/-- x = e, x gets the tree as it is -/
theorem snd_setO {i : Nat} {te : TE} {fo : RO} (h : SndO K te fo) : SndS K (tAsg te (gName i)) (fun P ρ M => fo ρ M fun t M => i < ρ.length ∧ P.nx (ρ.set i (some t)) M) := by
  intro B0 H0 B H ρ σ S P D s hg k1 k2 k3 k4
  refine h B H ρ σ S _ _ s.st hg fun t v B1 H1 T1 g r o p => ?_
  obtain ⟨S', s'⟩ := s.put p.1 g r o
  exact k1 _ _ _ _ S' s' p.2
theorem ds_setO (i : Nat) {x : Str} {pos' : Pos} {fo : RO} (hN : X.N.Nodup) (he : EO X e fo) (hi : X.N[i]? = some x := by rfl) (hx : Loc X.env.scope x := by first | exact Or.inl rfl | exact Or.inr rfl) (hs : swapsWith e (some (.Name x pos')) pos.line X.env = pure false := by rfl)
    (hf : X.fn x = true ∨ X.env.scope.names.lookup x = some .local := by first | exact .inl rfl | exact .inr rfl | assumption) : DS X (.Assign [.Name x pos'] e pos) (fun P ρ M => fo ρ M fun t M => i < ρ.length ∧ P.nx (ρ.set i (some t)) M) := by
  obtain ⟨te, hp, hs'⟩ := he.ex
  exact ⟨_, ps_set hN hi hx hp hs hf, snd_setO hs'⟩
theorem ds_set (i : Nat) {x : Str} {pos' : Pos} {f : RD} (hN : X.N.Nodup) (he : ED X e f) (hi : X.N[i]? = some x := by rfl) (hx : Loc X.env.scope x := by first | exact Or.inl rfl | exact Or.inr rfl) (hs : swapsWith e (some (.Name x pos')) pos.line X.env = pure false := by rfl)
    (hf : X.fn x = true ∨ X.env.scope.names.lookup x = some .local := by first | exact .inl rfl | exact .inr rfl | assumption) : DS X (.Assign [.Name x pos'] e pos) (fun P ρ M => f ρ M fun d M => i < ρ.length ∧ P.nx (ρ.set i (some (.fz d))) M) :=
  ds_setO i hN he.o hi hx hs hf
/-- x = [..] (a comprehension) -/
theorem ds_setLcO (i : Nat) {x : Str} {py spos : Pos} {scope : Scope} {own : List (Str × Nat)} {fi : RI} {is : List Nat} {g : RG} {f : RT} {t : RO} (hc : X.calm = true) (hN : X.N.Nodup) (hi : EI X tg iter fi) (ok : BlkOk X.N X.env.scope scope own) (his : ∀ i ∈ is, i ∈ own.map (·.2))
    (hg : ∀ (s : Shared) (H : Hp) (C : Addr) (cl : List (Str × Addr)) (fp : List Addr), EG (X.blk s H scope (compEnvC scope cl C X.env) fp) tg is g)
    (ht : ∀ (s : Shared) (H : Hp) (C : Addr) (cl : List (Str × Addr)) (fp : List Addr), ETs (X.blk s H scope (compEnvC scope cl C X.env) fp) ifs f)
    (he : ∀ (s : Shared) (H : Hp) (C : Addr) (cl : List (Str × Addr)) (fp : List Addr), EO (X.blk s H scope (compEnvC scope cl C X.env) fp) elt t)
    (hsw : swapsWith (.ListComp elt [⟨tg, iter, ifs, 0⟩] scope pos) (some (.Name x py)) spos.line X.env = pure true) (hy : X.N[i]? = some x := by rfl) (hyl : X.env.scope.names.lookup x = some .local := by rfl) (hs : ∀ x, foldedSetIterable iter X.env x = pure x := by intro _; rfl) :
    DS X (.Assign [.Name x py] (.ListComp elt [⟨tg, iter, ifs, 0⟩] scope pos) spos) (fun P ρ M => fi ρ M fun items M => compD g f t (wipeE ρ (own.map (·.2))) (fun l M => i < ρ.length ∧ P.nx (ρ.set i (some (.ow l))) M) items [] M) := by
  obtain ⟨wi, pi, si⟩ := hi.ex
  exact ⟨_, ps_setLc hc hN hy hyl hsw pi ok (fun s H C cl fp => (hg s H C cl fp).run) (fun s H C cl fp => (ht s H C cl fp).run) (fun s H C cl fp => (he s H C cl fp).run) hs, snd_setO (snd_lc si his)⟩
theorem ds_setLc2O (i : Nat) {tg1 iter1 : Expr} {ifs1 : List Expr} {x : Str} {py spos : Pos} {scope : Scope} {own : List (Str × Nat)} {fi fi1 : RI} {is is1 : List Nat} {g g1 : RG} {f f1 : RT} {t : RO} (vs1 : List Nat) (hc : X.calm = true) (hN : X.N.Nodup) (hi : EI X tg iter fi) (ok : BlkOk X.N X.env.scope scope own) (his : ∀ i ∈ is, i ∈ own.map (·.2)) (his1 : ∀ i ∈ is1, i ∈ vs1) (hvs : ∀ i ∈ vs1, i ∈ own.map (·.2))
    (hg : ∀ (s : Shared) (H : Hp) (C : Addr) (cl : List (Str × Addr)) (fp : List Addr), EG (X.blk s H scope (compEnvC scope cl C X.env) fp) tg is g)
    (ht : ∀ (s : Shared) (H : Hp) (C : Addr) (cl : List (Str × Addr)) (fp : List Addr), ETs (X.blk s H scope (compEnvC scope cl C X.env) fp) ifs f)
    (hi1 : ∀ (s : Shared) (H : Hp) (C : Addr) (cl : List (Str × Addr)) (fp : List Addr), EI (X.blk s H scope (compEnvC scope cl C X.env) fp) tg1 iter1 fi1)
    (hg1 : ∀ (s : Shared) (H : Hp) (C : Addr) (cl : List (Str × Addr)) (fp : List Addr), EG (X.blk s H scope (compEnvC scope cl C X.env) fp) tg1 is1 g1)
    (ht1 : ∀ (s : Shared) (H : Hp) (C : Addr) (cl : List (Str × Addr)) (fp : List Addr), ETs (X.blk s H scope (compEnvC scope cl C X.env) fp) ifs1 f1)
    (he : ∀ (s : Shared) (H : Hp) (C : Addr) (cl : List (Str × Addr)) (fp : List Addr), EO (X.blk s H scope (compEnvC scope cl C X.env) fp) elt t)
    (hsw : swapsWith (.ListComp elt [⟨tg, iter, ifs, 0⟩, ⟨tg1, iter1, ifs1, 0⟩] scope pos) (some (.Name x py)) spos.line X.env = pure true) (hy : X.N[i]? = some x := by rfl) (hyl : X.env.scope.names.lookup x = some .local := by rfl) (hs : ∀ x, foldedSetIterable iter X.env x = pure x := by intro _; rfl) (hs1 : ∀ env x, foldedSetIterable iter1 env x = pure x := by intro _ _; rfl) :
    DS X (.Assign [.Name x py] (.ListComp elt [⟨tg, iter, ifs, 0⟩, ⟨tg1, iter1, ifs1, 0⟩] scope pos) spos) (fun P ρ M => fi ρ M fun items M => comp2D g f fi1 vs1 g1 f1 t (wipeE ρ (own.map (·.2))) (fun l M => l.length ≤ sizeLine ∧ i < ρ.length ∧ P.nx (ρ.set i (some (.ow l))) M) items [] M) := by
  obtain ⟨wi, pi, si⟩ := hi.ex
  exact ⟨_, ps_setLc2 hc hN hy hyl hsw pi ok (fun i hi => hvs i hi) (fun s H C cl fp => (hg s H C cl fp).run) (fun s H C cl fp => (ht s H C cl fp).run) (fun s H C cl fp => (hi1 s H C cl fp).run) (fun s H C cl fp => (hg1 s H C cl fp).run) (fun s H C cl fp => (ht1 s H C cl fp).run) (fun s H C cl fp => (he s H C cl fp).run) hs hs1, snd_setO (snd_lc2 si his his1)⟩
/-- a name's tree is given away: from here on it's plain data -/
theorem SndS.frz {tS : TS} {g : RS} (i : Nat) (h : SndS K tS g) : SndS K tS (fun P ρ M => ∃ t, ρ[i]? = some (some t) ∧ g P (ρ.set i (some (.fz t.toD))) M) := by
  intro B0 H0 B H ρ σ S P D s hg k1 k2 k3 k4
  obtain ⟨t, e, hg⟩ := hg
  obtain ⟨A, T, C, hS, h2, h3, h4, h5⟩ := s.st.sim.split e
  obtain ⟨v, hv, r⟩ := h2 t rfl
  have inS : ∀ p ∈ T, p ∈ S := fun p hp => by rw [hS]; exact List.mem_append_right _ (List.mem_append_left _ hp)
  have g1 : Grow K B0 H0 (B.add H T) H := s.gr.frz (fun p hp => s.fr p (inS p hp)) (fun p hp => (s.st.out p (inS p hp)).2)
  have nd := s.st.nd
  rw [hS] at nd
  have sub : ∀ p ∈ A ++ C, p ∈ S ∧ p ∉ T := fun p hp => by
    rw [List.nodup_append] at nd
    rcases List.mem_append.mp hp with z | z
    · exact ⟨by rw [hS]; exact List.mem_append_left _ z, fun q => nd.2.2 p z p (List.mem_append_left _ q) rfl⟩
    · refine ⟨by rw [hS]; exact List.mem_append_right _ (List.mem_append_right _ z), fun q => ?_⟩
      have := nd.2.1
      rw [List.nodup_append] at this
      exact this.2.2 p q p z rfl
  have rd : Rep K (B.add H T).b t.toD v := r.data s.st.base.ext_add _ _ _ (fun p hp => addB_in hp)
  refine h B0 H0 (B.add H T) H _ σ (A ++ ([] ++ C)) P D ⟨⟨g1.base, h5 (B.add H T).b H (.fz t.toD) v [] s.st.base.ext_add (fun _ _ => rfl) hv (.fz rd), ?_, fun p hp => ?_⟩, g1, fun p hp => s.fr p (sub p hp).1⟩ hg k1 k2 k3 k4
  · exact nd.sublist (List.Sublist.append_left (List.sublist_append_right T C) A)
  · obtain ⟨q1, q2⟩ := sub p hp
    exact ⟨(addB_out q2).trans (s.st.out p q1).1, (s.st.out p q1).2⟩
theorem DS.frz {g : RS} (i : Nat) (h : DS X st g) : DS X st (fun P ρ M => ∃ t, ρ[i]? = some (some t) ∧ g P (ρ.set i (some (.fz t.toD))) M) := by
  obtain ⟨t, p, s⟩ := h.ex
  exact ⟨t, p, s.frz i⟩
theorem DSs.frz {g : RS} (i : Nat) (h : DSs X sts g) : DSs X sts (fun P ρ M => ∃ t, ρ[i]? = some (some t) ∧ g P (ρ.set i (some (.fz t.toD))) M) := by
  obtain ⟨t, p, s⟩ := h.ex
  exact ⟨t, p, s.frz i⟩
theorem ds_ret {fo : RO} (h : EO X e fo) : DS X (.Return (some e) pos) (fun P ρ M => fo ρ M P.rt) := by
  obtain ⟨te, hp, hs⟩ := h.ex
  exact ⟨_, ps_ret hp, fun B0 H0 B H ρ σ S P D s hg k1 k2 k3 k4 => hs B H ρ σ S _ _ s.st hg fun t v B1 H1 T g r o p => k4 t v B1 H1 T (s.gr.trans g) r (o.back s.gr) p⟩
theorem ds_retN : DS X (.Return none pos) (fun P _ M => P.rt (.fz .non) M) :=
  ⟨_, ps_retN, fun B0 H0 B H ρ σ S P D s hg k1 k2 k3 k4 => k4 (.fz .non) .non B H [] s.gr (.fz .non) .nil hg⟩
theorem ds_expr (h : ED X e fa) (hs : swapsWith e none pos.line X.env = pure false := by rfl) : DS X (.Expr e pos) (fun P ρ M => fa ρ M fun _ M => P.nx ρ M) := by
  obtain ⟨te, hp, hs'⟩ := h.ex
  exact ⟨_, ps_expr hp hs, fun B0 H0 B H ρ σ S P D s hg k1 k2 k3 k4 => hs' B H ρ σ S _ _ s.st hg fun d v B1 H1 g r p => k1 B1 H1 ρ σ S (s.grow g) p⟩
theorem ds_pass : DS X (.Pass pos) (fun P ρ M => P.nx ρ M) := ⟨_, ps_pass, fun B0 H0 B H ρ σ S P D s hg k1 k2 k3 k4 => k1 B H ρ σ S s hg⟩
theorem ds_break : DS X (.Break pos) (fun P ρ M => P.bk ρ M) := ⟨_, ps_break, fun B0 H0 B H ρ σ S P D s hg k1 k2 k3 k4 => k2 B H ρ σ S s hg⟩
theorem ds_continue : DS X (.Continue pos) (fun P ρ M => P.ct ρ M) := ⟨_, ps_continue, fun B0 H0 B H ρ σ S P D s hg k1 k2 k3 k4 => k3 B H ρ σ S s hg⟩
/-- what the proof never comes to -/
theorem ds_never : DS X st (fun _ _ _ => False) := ⟨_, ps_never, fun B0 H0 B H ρ σ S P D s hg k1 k2 k3 k4 => hg.elim⟩
theorem dss_never : DSs X sts (fun _ _ _ => False) := ⟨_, pss_never, fun B0 H0 B H ρ σ S P D s hg k1 k2 k3 k4 => hg.elim⟩
theorem ds_if {f : RT} {g h : RS} {sa sb : List Stmt} (hc : ET X c f) (ha : DSs X sa g) (hb : DSs X sb h) : DS X (.If c sa sb pos) (fun P ρ M => f ρ M fun d M => if d = true then g P ρ M else h P ρ M) := by
  obtain ⟨tc, pc, sc⟩ := hc.ex
  obtain ⟨ta, pa, qa⟩ := ha.ex
  obtain ⟨tb, pb, qb⟩ := hb.ex
  refine ⟨_, ps_if pc pa pb, fun B0 H0 B H ρ σ S P D s hg k1 k2 k3 k4 => sc B H ρ σ S _ _ s.st hg fun d B1 H1 g1 p => ?_⟩
  cases d with
  | true => exact qa B0 H0 B1 H1 ρ σ S P D (s.grow g1) p k1 k2 k3 k4
  | false => exact qb B0 H0 B1 H1 ρ σ S P D (s.grow g1) p k1 k2 k3 k4
/-- for: item by item -/
def forD (g : RG) (b : RS) (P : DEnds) : List D → Env → Mem → Prop
  | [], ρ, M => P.nx ρ M
  | d :: ds, ρ, M => g d ρ M fun ρ' M => b { nx := forD g b P ds, ct := forD g b P ds, bk := P.nx, rt := P.rt } ρ' M
theorem SttF.rebase {B0 B B1 : Kn} {H0 H : Hp} {ρ : Env} {σ : L2.St} {S : List Addr} (s : SttF K B0 H0 B H ρ σ S) (e0 : Ext B0.b B1.b) (e1 : Ext B1.b B.b) : SttF K ⟨B1.b, B0.m⟩ H0 B H ρ σ S :=
  ⟨s.st, ⟨e1, s.gr.h, s.gr.d, s.gr.n, fun a o e => (s.gr.f a o e).imp (e0 a o) id, s.st.base⟩, s.fr⟩
theorem Grow.unbase {B0 B1 B : Kn} {H0 H1 H : Hp} (g1 : Grow K B0 H0 B1 H1) (g : Grow K ⟨B1.b, B0.m⟩ H0 B H) : Grow K B0 H0 B H :=
  ⟨g1.b.trans g.b, g.h, g.d, g.n, fun a o e => by
    rcases g.f a o e with z | z
    · exact g1.f a o z
    · exact .inr z, g.base⟩
theorem SttF.unbase {B0 B1 B : Kn} {H0 H1 H : Hp} {ρ : Env} {σ : L2.St} {S : List Addr} (g1 : Grow K B0 H0 B1 H1) (s : SttF K ⟨B1.b, B0.m⟩ H0 B H ρ σ S) : SttF K B0 H0 B H ρ σ S := ⟨s.st, g1.unbase s.gr, s.fr⟩
theorem ds_for {fi : RI} {is : List Nat} {g : RG} {b : RS} {body : List Stmt} (hp : PassesOwn (model X.prog X.w) X.A X.env X.xe) (hc : X.calm = true) (hi : EI X tg iter fi) (hg : EG X tg is g) (hb : DSs X body b)
    (hs : ∀ x, foldedSetIterable iter X.env x = pure x := by intro _; rfl) : DS X (.For tg iter body [] pos) (fun P ρ M => fi ρ M fun items M => forD g b P items ρ M) := by
  obtain ⟨wi, pi, si⟩ := hi.ex
  obtain ⟨tG, pG, sG⟩ := hg.ex
  obtain ⟨tb, pb, sb⟩ := hb.ex
  refine ⟨_, ps_for hp hc pi pG pb hs, fun B0 H0 B H ρ σ S P D s hg k1 k2 k3 k4 => si B H ρ σ S _ _ s.st hg fun ds J B1 H1 g1 wk hsz hf => ?_⟩
  have g01 := s.gr.trans g1
  have s1 : SttF X.K ⟨B1.b, B0.m⟩ H0 B1 H1 ρ σ S := (s.grow g1).rebase g01.b Ext.rfl
  refine ⟨fun i m σ' H' => m = ds.length - i ∧ i ≤ ds.length ∧ ∃ B' ρ' S', SttF X.K ⟨B1.b, B0.m⟩ H0 B' H' ρ' σ' S' ∧ forD g b P (ds.drop i) ρ' B'.m, ⟨ds.length, by simp, Nat.zero_le _, B1, ρ, S, s1, hf⟩, ?_⟩
  rintro i m σ2 H2 ⟨rfl, hle, B2, ρ2, S2, s2, f2⟩
  by_cases hlt : i < ds.length
  · refine .inr ?_
    have hd : ds[i]? = some ds[i] := List.getElem?_eq_getElem hlt
    obtain ⟨go, yl⟩ := wk.go B2 H2 i ds[i] s2.gr.b s2.st.base hd
    refine ⟨go, fun σ' H' => i + 1 ≤ ds.length ∧ ∃ B' ρ' S', SttF X.K ⟨B1.b, B0.m⟩ H0 B' H' ρ' σ' S' ∧ forD g b P (ds.drop (i + 1)) ρ' B'.m, fun σ' H' hN => ⟨ds.length - (i + 1), by omega, rfl, hN⟩, fun x H3 y3 => ?_⟩
    obtain ⟨B3, g3, em, rx⟩ := yl x H3 y3
    rw [List.drop_eq_getElem_cons hlt, ← em] at f2
    have f2 : g ds[i] ρ2 B3.m fun ρ' M => b { nx := forD g b P (ds.drop (i + 1)), ct := forD g b P (ds.drop (i + 1)), bk := P.nx, rt := P.rt } ρ' M := f2
    have s3 := s2.grow g3
    refine sG B3 H3 ρ2 σ2 S2 ds[i] x _ _ s3.st rx f2 fun ρ4 σ4 S4 Bg Hg gg st4 sub4 _ p4 => ?_
    have s4 : SttF X.K ⟨B1.b, B0.m⟩ H0 Bg Hg ρ4 σ4 S4 := ⟨st4, s3.gr.trans gg, fun p hp => s3.fr p (sub4 p hp)⟩
    refine sb ⟨B1.b, B0.m⟩ H0 Bg Hg ρ4 σ4 S4 _ _ s4 p4 (fun B' H' ρ' σ' S' s' p => ⟨hlt, B', ρ', S', s', p⟩) (fun B' H' ρ' σ' S' s' p => k1 B' H' ρ' σ' S' (s'.unbase g01) p) (fun B' H' ρ' σ' S' s' p => ⟨hlt, B', ρ', S', s', p⟩)
      fun t v B' H' T g r o p => k4 t v B' H' T (g01.unbase g) r ⟨o.nd, o.fr, o.nb, o.nw⟩ p
  · have e : i = ds.length := by omega
    subst e
    refine .inl ⟨wk.stop B2 H2 _ s2.gr.b s2.st.base (Nat.le_refl _), ?_⟩
    rw [List.drop_length] at f2
    exact k1 B2 H2 ρ2 σ2 S2 (s2.unbase g01) f2
/-- while: an invariant of the names and a measure -/
theorem ds_while {f : RT} {b : RS} {body : List Stmt} (hp : PassesOwn (model X.prog X.w) X.A X.env X.xe) (hc : ET X c f) (hb : DSs X body b) :
    DS X (.While c body [] pos) (fun P ρ M => ∃ Inv : Nat → Env → Mem → Prop, (∃ m, Inv m ρ M) ∧ ∀ m ρ M, Inv m ρ M → f ρ M fun d M => if d = true then b { nx := fun ρ' M => ∃ m', m' < m ∧ Inv m' ρ' M, ct := fun ρ' M => ∃ m', m' < m ∧ Inv m' ρ' M, bk := P.nx, rt := P.rt } ρ M else P.nx ρ M) := by
  obtain ⟨tc, pc, sc⟩ := hc.ex
  obtain ⟨tb, pb, sb⟩ := hb.ex
  refine ⟨_, ps_while hp pc pb, fun B0 H0 B H ρ σ S P D s hg k1 k2 k3 k4 => ?_⟩
  obtain ⟨Iv, ⟨m0, i0⟩, turn⟩ := hg
  refine ⟨fun m σ' H' => ∃ B' ρ' S', SttF X.K B0 H0 B' H' ρ' σ' S' ∧ Iv m ρ' B'.m, ⟨m0, B, ρ, S, s, i0⟩, ?_⟩
  rintro m σ1 H1 ⟨B1, ρ1, S1, s1, i1⟩
  refine sc B1 H1 ρ1 σ1 S1 _ _ s1.st (turn m ρ1 B1.m i1) fun d B2 H2 g2 p2 => ?_
  have s2 := s1.grow g2
  cases d with
  | true =>
    refine ⟨fun σ' H' => ∃ m', m' < m ∧ ∃ B' ρ' S', SttF X.K B0 H0 B' H' ρ' σ' S' ∧ Iv m' ρ' B'.m, fun σ' H' ⟨m', h1, h2⟩ => ⟨m', h1, h2⟩, ?_⟩
    exact sb B0 H0 B2 H2 ρ1 σ1 S1 _ _ s2 p2 (fun B' H' ρ' σ' S' s' ⟨m', h1, h2⟩ => ⟨m', h1, B', ρ', S', s', h2⟩) (fun B' H' ρ' σ' S' s' p => k1 B' H' ρ' σ' S' s' p) (fun B' H' ρ' σ' S' s' ⟨m', h1, h2⟩ => ⟨m', h1, B', ρ', S', s', h2⟩) k4
  | false => exact k1 B2 H2 ρ1 σ1 S1 s2 p2

/-! ### a def by its body -/
/-- the names' data at the entry -/
def startE (N : List Str) (ds : List D) : Env := ds.map (fun d => some (.fz d)) ++ List.replicate (N.length - ds.length) none
theorem sim_none {B H : Hp} : ∀ n : Nat, SimE K B H (List.replicate n none) (List.replicate n none) []
  | 0 => .nil
  | n + 1 => .none (sim_none n)
theorem sim_start {B H : Hp} {n : Nat} : ∀ {ds : List D} {vs : List V}, Reps K B ds vs → SimE K B H (ds.map (fun d => some (.fz d)) ++ List.replicate n none) (vs.map some ++ List.replicate n none) []
  | _, _, .nil => sim_none n
  | _, _, .cons r t => SimE.some (T := []) (S := []) (.fz r) (sim_start t)
variable {P : Program} {w : World} {mg : Str → Option Value} {base : Heap}
theorem fn_dl {x qual : Str} {st : Stmt} {f : Addr} {fd : FuncData} {N ps : List Str} {k : Nat} {s : DSpec} (F : Fun K x qual st f fd) (S : FnScope N ps (defScope st))
    (hbody : ∀ (X : Cx) (M : Mem) (ds : List D) (i : s.ι), (∃ (cdv : Value) (A : Around) (outer : List PySem.Env) (s0 : Shared) (H0 : Hp) (E : XK), X = (cxOf CX0 P w K mg base N qual (defScope st) f cdv A outer s0 H0 E).nox) → RG0 k X → ds.length = ps.length → s.pre i M ds →
      ∃ g, DSs X (defBody st) g ∧ g { nx := fun _ M' => s.post i M (.fz .non) M', rt := s.post i M } (startE N ds) M) :
    FnG P w K mg base CX0 (k + 1) f fd ps (spOf K ps.length s) := by
  refine funG F S (fun vs H Q E h => ?_) (fun cdv A outer s0 H vs Q E hr hgd h => ?_)
  · obtain ⟨i, B, ds, _, r, hl, _⟩ := h
    rw [← r.length, hl]
  · obtain ⟨i, B, ds, bs, r, hl, hp, kk⟩ := h
    obtain ⟨g, hD, hg⟩ := hbody _ B.m ds i ⟨cdv, A, outer, s0, H, E, rfl⟩ ⟨hr, hgd⟩ hl hp
    obtain ⟨t, pt, stt⟩ := hD.ex
    refine ⟨t, pt, ?_⟩
    have s1 : SttF K B H B H (startE N ds) (L2.start N vs) [] := by
      refine ⟨⟨bs, ?_, .nil, fun _ h => (nomatch h)⟩, bs.grow, fun _ h => (nomatch h)⟩
      unfold startE L2.start
      rw [r.length]
      exact sim_start r
    refine stt B H B H _ _ [] _ _ s1 hg (fun B' H' ρ' σ' S' s' p => ?_) (fun _ _ _ _ _ _ p => p.elim) (fun _ _ _ _ _ _ p => p.elim) fun t v B' H' T g r o p => kk t v B' H' T g r o p
    exact kk (.fz .non) .non B' H' [] s'.gr (.fz .non) .nil p
end
end DL

/-! DL6: unpacking, one's own lists changed, several stores. -/
namespace DL
open PySem L2 PySem.Spec
open PyProof.Rows hiding St
open PySem.PyData (strOk)
set_option autoImplicit false
section
variable {X : Cx} {tg e a b c o iter elt : Expr} {es rest ifs : List Expr} {pos : Pos} {fa fb fc : RD} {K : PySem.W.Frag}

/-! ### (a, *b) = e -/
/-- a sequence taken apart: n places ahead, a list of what's left -/
def gTupS (K : PySem.W.Frag) (n : Nat) (t : TGs) : TG := fun v σ H Q => ∃ a xs, v = .ref a ∧ (SqT K H a xs ∨ SqL K H a xs) ∧ n ≤ xs.length ∧ ∀ p, H p = none → t (xs.take n ++ [.ref p]) σ (upd H p (.lst (xs.drop n))) Q
theorem unpack_star {pins : List (Addr × Obj)} {σ : L2.St} {H : Hp} {s : Shared} {l : Addr} {xs : List V} {n : Nat} {E : Value → Shared → Prop} {Q : List Value → Shared → Prop} (hc : X.calm = true) (I : Inv X pins σ H s) (hq : SqT X.K H l xs ∨ SqL X.K H l xs) (hn : n ≤ xs.length)
    (h : ∀ s' p us, H p = none → Inv X pins σ (upd H p (.lst (xs.drop n))) s' → Vals (xs.take n ++ [.ref p]) us → Q us s') : wpAny (model X.prog X.w) X.A (unpackItems (.ref l) (n + 1) (some n)) Q E s := by
  have hh := I.ok.hd hc
  -- behind the walk: a new list
  have fin : ∀ {items : List Value} {h₂ : Heap} {tk : Nat}, Vals xs items → xs.length ≤ sizeLine → (∀ b o, s.heap.get? b = some o → h₂.get? b = some o) →
      wpAny (model X.prog X.w) X.A (newList ((items.drop n).take ((items.drop n).length - 0)) >>= fun d => pure (items.take n ++ [d] ++ (items.drop n).drop ((items.drop n).length - 0))) Q E { s with heap := h₂, toks := tk } := by
    intro items h₂ tk rv hz keep
    have I2 : Inv X pins σ H { s with heap := h₂, toks := tk } := I.kept keep
    have e1 : (items.drop n).take ((items.drop n).length - 0) = items.drop n := by rw [Nat.sub_zero, List.take_length]
    have e2 : (items.drop n).drop ((items.drop n).length - 0) = [] := by rw [Nat.sub_zero, List.drop_length]
    rw [e1, e2]
    simp only [List.append_nil]
    have hlen := rv.length
    refine wpAny_bind (wpAny_newObj_type (wpAny_pure ?_) (by show (List.drop n items).length ≤ sizeLine; rw [List.length_drop]; omega))
    have hf : H h₂.objs.size = none := I2.hok.fresh (Nat.le_refl _)
    refine h _ h₂.objs.size _ hf (I2.laid (a := h₂.objs.size) (t' := tk) (fun b u e => Heap.get?_push_of_some _ e) (Nat.le_refl _) ?_) ((rv.take n).append (.cons rfl .nil))
    exact ⟨by rw [List.length_drop]; omega, items.drop n, 0, rv.drop n, Heap.get?_push_size _ rfl⟩
  unfold unpackItems
  refine wpAny_bind ?_
  unfold notIterableAtAll
  rcases hq with hq | hq
  · obtain ⟨items, rv, ht, hz⟩ := I.tuple hq
    have hlen := rv.length
    have hlt : l ≠ s.heap.objs.size := Nat.ne_of_lt ht.lt
    refine wpAny_bind (wpAny_specialOf ht.typeIs slot_tuple_iter.lookup (wpAny_pure ?_))
    simp only [Bool.false_eq_true, if_false]
    refine wpAny_bind (wpAny_holding (iter_tuple ht (wpAny_bind (wpAny_holding (draw_tuple hlt n 0 _ _ ⟨_, Heap.get?_push_size _ rfl, rfl, rfl⟩ (ht.push _) (by simp; omega) fun h₁ hit₁ hs₁ => ?_)))))
    have ht₁ : IsTup h₁ l items.toArray := (ht.push _).extBut hs₁.extBut hlt
    rw [Nat.zero_add] at hit₁
    obtain ⟨oi, hoi, _⟩ := id hit₁
    rw [List.drop_zero, List.toList_toArray]
    have hfl : (items.take n).length = n := by rw [List.length_take]; omega
    rw [if_neg (show ¬ ((items.take n).length < n) by rw [hfl]; omega)]
    refine wpAny_bind (wpAny_holding (PySem.W.kun_collect (s := { s with heap := h₁ }) (items := items.toArray) (T := "tuple_iterator") (.inr (.inr (.inr rfl))) (Walks.tuple (A := X.A.in1) hh s.heap.objs.size l hlt items.toArray) (fun j u st => st.1.typeIs) (k := n) (by simp; omega) ⟨hit₁, ht₁⟩ (Heap.lt_size hoi) ht₁.lt (fun h₂ tk hk => ?_) (by simp; omega)))
    rw [List.toList_toArray]
    have ez : n + 1 - 1 - n = 0 := by omega
    show wpAny _ _ (if (items.drop n).length < n + 1 - 1 - n then _ else _) _ _ _
    rw [ez, if_neg (Nat.not_lt_zero _)]
    exact fin rv hz fun b o e => hk b o (Nat.ne_of_lt (Heap.lt_size e)) (hs₁.extBut b o (Nat.ne_of_lt (Heap.lt_size e)) (Heap.get?_push_of_some _ e))
  · obtain ⟨items, rv, hl0, hz⟩ := I.list hq
    have hl := hl0.isList
    have hlen := rv.length
    have hlt : l ≠ s.heap.objs.size := Nat.ne_of_lt hl0.lt
    refine wpAny_bind (wpAny_specialOf hl.typeIs slot_list_iter.lookup (wpAny_pure ?_))
    simp only [Bool.false_eq_true, if_false]
    refine wpAny_bind (wpAny_holding (wpAny_pyIter_list hl (wpAny_bind (wpAny_holding (PySem.W.kun_draw hlt n 0 _ _ ⟨_, Heap.get?_push_size _ rfl, rfl, rfl⟩ (hl.push _) (by simp; omega) fun h₁ hit₁ hs₁ => ?_)))))
    have hl₁ : h₁.IsList l items.toArray := (hl.push _).extBut hs₁.extBut hlt
    rw [Nat.zero_add] at hit₁
    obtain ⟨oi, hoi, _⟩ := id hit₁
    obtain ⟨ol, hol, _⟩ := id hl₁
    rw [List.drop_zero, List.toList_toArray]
    have hfl : (items.take n).length = n := by rw [List.length_take]; omega
    rw [if_neg (show ¬ ((items.take n).length < n) by rw [hfl]; omega)]
    refine wpAny_bind (wpAny_holding (PySem.W.kun_collect (s := { s with heap := h₁ }) (items := items.toArray) (T := "list_iterator") (.inr (.inr (.inl rfl))) (Walks.list (A := X.A.in1) hh s.heap.objs.size l hlt items.toArray) (fun j u st => st.1.typeIs) (k := n) (by simp; omega) ⟨hit₁, hl₁⟩ (Heap.lt_size hoi) (Heap.lt_size hol) (fun h₂ tk hk => ?_) (by simp; omega)))
    rw [List.toList_toArray]
    have ez : n + 1 - 1 - n = 0 := by omega
    show wpAny _ _ (if (items.drop n).length < n + 1 - 1 - n then _ else _) _ _ _
    rw [ez, if_neg (Nat.not_lt_zero _)]
    exact fin rv hz fun b o e => hk b o (Nat.ne_of_lt (Heap.lt_size e)) (hs₁.extBut b o (Nat.ne_of_lt (Heap.lt_size e)) (Heap.get?_push_of_some _ e))
theorem pg_tupS {k n : Nat} {t : TGs} (hc : X.calm = true) (h : PGs X es t) (hn : (assignEach es X.env).length = n + 1 := by rfl) (hst : (assignEach es X.env).findIdx? (·.1) = some n := by rfl) : PG X (.Tuple es k pos) (gTupS X.K n t) := by
  refine ⟨fun pins s σ H v u Q I r hw => ?_⟩
  obtain ⟨a, xs, rfl, hq, hle, hw⟩ := hw
  cases r
  rw [assign_Tuple]
  refine wpAny_bind (wpAny_standAt ?_)
  unfold unpack
  rw [hn, hst]
  refine wpAny_bind (wpAny_holding (unpack_star hc I hq hle fun s' p us hp I' rv => ?_))
  exact h.run pins s' σ _ _ us Q I' rv (hw p hp)
theorem pgs_starred {t : Expr} {p : Pos} {g : TG} (h : PG X t g) (hs : (assignEach [.Starred t p] X.env).map (·.2) = [assign t X.env] := by rfl) : PGs X [.Starred t p] (gCons g gNil) := by
  refine ⟨fun pins s σ H vs us Q I r hw => ?_⟩
  obtain ⟨v, vr, rfl, hw⟩ := hw
  cases r with
  | cons r rr =>
    rw [hs]
    refine assignInOrder_cons (thn (h.run pins s σ H _ _ _ I r hw) fun _ s1 ⟨σ1, H1, I1, q1⟩ => ?_)
    obtain ⟨e, q1⟩ := q1
    subst e
    cases rr
    exact assignInOrder_nil ⟨σ1, H1, I1, q1⟩
theorem egs_starred {t : Expr} {p : Pos} {is : List Nat} {g : RG} (h : EG X t is g) (hs : (assignEach [.Starred t p] X.env).map (·.2) = [assign t X.env] := by rfl) : EGs X [.Starred t p] is (fun ds ρ M P => ∃ d, ds = [d] ∧ g d ρ M P) := by
  obtain ⟨tg, pg, sg⟩ := h.ex
  refine ⟨_, pgs_starred pg hs, fun B H ρ σ S d v P Q st r hg k => ?_⟩
  obtain ⟨d1, rfl, hg⟩ := hg
  cases r with
  | cons r1 r2 =>
    cases r2
    exact ⟨_, _, rfl, sg B H ρ σ S _ _ _ _ st r1 hg fun ρ1 σ1 S1 B1 H1 g1 st1 sub1 w1 p1 => ⟨rfl, k ρ1 σ1 S1 B1 H1 g1 st1 sub1 w1 p1⟩⟩
theorem eg_tupS {k n : Nat} {is : List Nat} {gs : RGs} (hc : X.calm = true) (h : EGs X es is gs) (hn : (assignEach es X.env).length = n + 1 := by rfl) (hst : (assignEach es X.env).findIdx? (·.1) = some n := by rfl) :
    EG X (.Tuple es k pos) is (fun d ρ M P => ∃ ds, d.items = some ds ∧ n ≤ ds.length ∧ ds.length ≤ sizeLine ∧ gs (ds.take n ++ [.lst (ds.drop n)]) ρ M P) := by
  obtain ⟨t, pgs, sgs⟩ := h.ex
  refine ⟨_, pg_tupS hc pgs hn hst, fun B H ρ σ S d v P Q st r hg kk => ?_⟩
  obtain ⟨ds, e, hl, hz, hg⟩ := hg
  have go : ∀ {vs : List V}, Reps X.K B.b ds vs → ds.length ≤ sizeLine → ∀ p, H p = none → t (vs.take n ++ [.ref p]) σ (upd H p (.lst (vs.drop n))) Q := by
    intro vs r hz p hp
    have g1 := st.base.new (o := .lst (vs.drop n)) hp
    refine sgs _ _ ρ σ S _ _ P Q (st.grow g1) ?_ hg fun ρ' σ' S' B' H' g' st' sub w pp => kk ρ' σ' S' B' H' (g1.trans g') st' sub w pp
    exact ((r.take n).up g1.b).append (.cons (.lst upd_same (by rw [List.length_drop]; omega) ((r.drop n).up g1.b)) .nil)
  cases r with
  | tup h1 h2 h3 => cases e; exact ⟨_, _, rfl, .inl (Evl.ex_t st.base.bh h1), by rw [← h3.length]; exact hl, go h3 h2⟩
  | lst h1 h2 h3 => cases e; exact ⟨_, _, rfl, .inr (Evl.sq_of (st.base.bh _ _ h1)), by rw [← h3.length]; exact hl, go h3 h2⟩
  | @scr a' ns h =>
    cases e
    exact ⟨_, _, rfl, .inr (Evl.ex_l st.base.bh h), by rw [List.length_map] at hl ⊢; exact hl, go (reps_ints ns) hz⟩
  | _ => cases e
/-- target = e, any target of names -/
theorem ds_asg {is : List Nat} {g : RG} (he : ED X e fa) (hg : EG X tg is g) (hs : swapsWithSole [tg] e pos.line X.env = pure false := by rfl) (hw : swappedStores [tg] e X.env = pure none := by rfl)
    (h1 : (assignEach [tg] X.env).map (·.2) = [assign tg X.env] := by rfl) : DS X (.Assign [tg] e pos) (fun P ρ M => fa ρ M fun d M => g d ρ M P.nx) := by
  obtain ⟨te, pe, se⟩ := he.ex
  obtain ⟨tG, pG, sG⟩ := hg.ex
  refine ⟨_, ps_asg pe pG hs hw h1, fun B0 H0 B H ρ σ S P D s hg k1 k2 k3 k4 => se B H ρ σ S _ _ s.st hg fun d v B1 H1 g1 r1 p1 => ?_⟩
  have s1 := s.grow g1
  exact sG B1 H1 ρ σ S d v _ _ s1.st r1 p1 fun ρ' σ' S' B' H' g' st' sub _ p => k1 B' H' ρ' σ' S' ⟨st', s1.gr.trans g', fun p hp => s1.fr p (sub p hp)⟩ p
/-- a, b = x, y: plain local names, stored at once -/
theorem ds_par {i j : Nat} {x y : Str} {fo : RAO} {px py pt : Pos} {kt k2 pt2} (hc : X.calm = true) (hN : X.N.Nodup) (ha : AO X [a, b] fo) (hi : X.N[i]? = some x := by rfl) (hj : X.N[j]? = some y := by rfl) (hij : i ≠ j := by decide)
    (hx : X.env.scope.names.lookup x = some .local := by rfl) (hy : X.env.scope.names.lookup y = some .local := by rfl)
    (hw : swappedStores [.Tuple [.Name x px, .Name y py] kt pt] (.Tuple [a, b] k2 pt2) X.env = pure (some [x, y]) := by rfl)
    (hs : swapsWithSole [.Tuple [.Name x px, .Name y py] kt pt] (.Tuple [a, b] k2 pt2) pos.line X.env = pure false := by rfl) :
    DS X (.Assign [.Tuple [.Name x px, .Name y py] kt pt] (.Tuple [a, b] k2 pt2) pos) (fun P ρ M => fo ρ M fun ts M => ∃ t u, ts = [t, u] ∧ i < ρ.length ∧ j < ρ.length ∧ P.nx ((ρ.set i (some t)).set j (some u)) M) := by
  obtain ⟨ta, pa, sa⟩ := ha.ex
  refine ⟨_, ps_par hc hN hi hj hij hx hy pa hw hs, fun B0 H0 B H ρ σ S P D s hg k1 k2 k3 k4 => sa B H ρ σ S _ _ s.st hg fun ts vs B1 H1 T1 g1 r1 o1 p => ?_⟩
  obtain ⟨t, u, rfl, hi', hj', p⟩ := p
  cases r1 with
  | @cons _ v1 _ _ TA TR rA rR =>
    cases rR with
    | @cons _ v2 _ _ TB TC rB rC =>
      cases rC
      rw [List.append_nil] at o1
      refine ⟨_, _, rfl, ?_⟩
      have nd := List.nodup_append.mp o1.nd
      obtain ⟨a1, a2⟩ := s.apart o1
      obtain ⟨S1, s1, m1⟩ := (s.grow g1).putA hi' rA nd.1 (fun p hp => a1 p (List.mem_append_left _ hp)) (fun p hp => a2 p (List.mem_append_left _ hp))
      obtain ⟨S2, s2, m2⟩ := s1.putA (i := j) (by rw [List.length_set]; exact hj') rB nd.2.1 (fun p hp hq => (m1 p hq).elim (a1 p (List.mem_append_right _ hp)) fun z => nd.2.2 p z p hp rfl) (fun p hp => a2 p (List.mem_append_right _ hp))
      exact k1 _ _ _ _ S2 s2 p
theorem ds_par3 {i j l : Nat} {x y z : Str} {fo : RAO} {px py pz pt : Pos} {kt k2 pt2} (hc : X.calm = true) (hN : X.N.Nodup) (ha : AO X [a, b, c] fo) (hi : X.N[i]? = some x := by rfl) (hj : X.N[j]? = some y := by rfl) (hl : X.N[l]? = some z := by rfl) (hij : i ≠ j := by decide) (hil : i ≠ l := by decide) (hjl : j ≠ l := by decide)
    (hx : X.env.scope.names.lookup x = some .local := by rfl) (hy : X.env.scope.names.lookup y = some .local := by rfl) (hz : X.env.scope.names.lookup z = some .local := by rfl)
    (hw : swappedStores [.Tuple [.Name x px, .Name y py, .Name z pz] kt pt] (.Tuple [a, b, c] k2 pt2) X.env = pure (some [x, y, z]) := by rfl)
    (hs : swapsWithSole [.Tuple [.Name x px, .Name y py, .Name z pz] kt pt] (.Tuple [a, b, c] k2 pt2) pos.line X.env = pure false := by rfl) :
    DS X (.Assign [.Tuple [.Name x px, .Name y py, .Name z pz] kt pt] (.Tuple [a, b, c] k2 pt2) pos) (fun P ρ M => fo ρ M fun ts M => ∃ t u v, ts = [t, u, v] ∧ i < ρ.length ∧ j < ρ.length ∧ l < ρ.length ∧ P.nx (((ρ.set i (some t)).set j (some u)).set l (some v)) M) := by
  obtain ⟨ta, pa, sa⟩ := ha.ex
  refine ⟨_, ps_par3 hc hN hi hj hl hij hil hjl hx hy hz pa hw hs, fun B0 H0 B H ρ σ S P D s hg k1 k2 k3 k4 => sa B H ρ σ S _ _ s.st hg fun ts vs B1 H1 T1 g1 r1 o1 p => ?_⟩
  obtain ⟨t, u, v, rfl, hi', hj', hl', p⟩ := p
  cases r1 with
  | @cons _ v1 _ _ TA TR rA rR =>
    cases rR with
    | @cons _ v2 _ _ TB TC rB rC =>
      cases rC with
      | @cons _ v3 _ _ TD TE rD rE =>
        cases rE
        rw [List.append_nil] at o1
        refine ⟨_, _, _, rfl, ?_⟩
        have nd := List.nodup_append.mp o1.nd
        have nd2 := List.nodup_append.mp nd.2.1
        obtain ⟨a1, a2⟩ := s.apart o1
        obtain ⟨S1, s1, m1⟩ := (s.grow g1).putA hi' rA nd.1 (fun p hp => a1 p (List.mem_append_left _ hp)) (fun p hp => a2 p (List.mem_append_left _ hp))
        obtain ⟨S2, s2, m2⟩ := s1.putA (i := j) (by rw [List.length_set]; exact hj') rB nd2.1 (fun p hp hq => (m1 p hq).elim (a1 p (List.mem_append_right _ (List.mem_append_left _ hp))) fun z => nd.2.2 p z p (List.mem_append_left _ hp) rfl)
          (fun p hp => a2 p (List.mem_append_right _ (List.mem_append_left _ hp)))
        obtain ⟨S3, s3, m3⟩ := s2.putA (i := l) (by rw [List.length_set, List.length_set]; exact hl') rD nd2.2.1 (fun p hp hq => (m2 p hq).elim (fun z => (m1 p z).elim (a1 p (List.mem_append_right _ (List.mem_append_right _ hp))) fun z => nd.2.2 p z p (List.mem_append_right _ hp) rfl) fun z => nd2.2.2 p z p hp rfl)
          (fun p hp => a2 p (List.mem_append_right _ (List.mem_append_right _ hp)))
        exact k1 _ _ _ _ S3 s3 p

/-! ### one's own list changed -/
/-- a name's own list, and what may be put in its place -/
theorem SttF.mutate {B0 B : Kn} {H0 H : Hp} {ρ : Env} {σ : L2.St} {S : List Addr} {i : Nat} {l : List OT} (s : SttF K B0 H0 B H ρ σ S) (e : ρ[i]? = some (some (.ow l))) :
    ∃ p xs T, σ[i]? = some (some (.ref p)) ∧ H p = some (.lst xs) ∧ RepOs K B.b H l xs T ∧ B.m p = none ∧ l.length ≤ sizeLine ∧ (T.Nodup ∧ ∀ q ∈ T, B.m q = none) ∧
      ∀ (B1 : Kn) (H1 : Hp) (l' : List OT) (xs' : List V) (T' : List Addr), Grow K B H B1 H1 → RepOs K B1.b H1 l' xs' T' → l'.length ≤ sizeLine → T'.Nodup → (∀ q ∈ T', q ∈ T ∨ (H q = none ∧ B1.b q = none ∧ B1.m q = none)) →
        ∃ S', SttF K B0 H0 B1 (upd H1 p (.lst xs')) (ρ.set i (some (.ow l'))) σ S' := by
  obtain ⟨A, T0, C, hS, h2, h3, h4, h5⟩ := s.st.sim.split e
  obtain ⟨v, hv, r⟩ := h2 _ rfl
  cases r with
  | @ow p xs _ T hp hl hr =>
    have inS : ∀ q ∈ p :: T, q ∈ S := fun q hq => by rw [hS]; exact List.mem_append_right _ (List.mem_append_left _ hq)
    have pS := inS p List.mem_cons_self
    obtain ⟨pB, pW⟩ := s.st.out p pS
    have nd := s.st.nd
    rw [hS, List.nodup_append, List.nodup_append, List.nodup_cons] at nd
    obtain ⟨ndA, ⟨⟨pT, ndT⟩, ndC, dTC⟩, dA⟩ := nd
    refine ⟨p, xs, T, hv, hp, hr, pW, hl, ⟨ndT, fun q hq => (s.st.out q (inS q (List.mem_cons_of_mem _ hq))).2⟩, fun B1 H1 l' xs' T' g r' hl' nd' out => ?_⟩
    have pT' : p ∉ T' := fun q => by
      rcases out p q with z | z
      · exact pT z
      · rw [hp] at z; cases z.1
    have pB1 : B1.b p = none := by
      cases q : B1.b p with
      | none => rfl
      | some o =>
        rcases g.f p o q with z | z
        · rw [pB] at z; cases z
        · rw [hp] at z; cases z
    have pM1 : B1.m p = none := g.nm pW (by rw [hp]; exact fun z => nomatch z)
    have same : ∀ q ∈ S, H1 q = H q := fun q hq => g.same (s.st.sim.some_of q hq) (s.st.out q hq).2
    have acS : ∀ q ∈ A ++ C, q ∈ S := fun q hq => by
      rw [hS]
      rcases List.mem_append.mp hq with z | z
      · exact List.mem_append_left _ z
      · exact List.mem_append_right _ (List.mem_append_right _ z)
    have acP : ∀ q ∈ A ++ C, q ≠ p ∧ q ∉ T := fun q hq => by
      rcases List.mem_append.mp hq with z | z
      · exact ⟨fun z' => dA q z p (List.mem_append_left _ List.mem_cons_self) z', fun z' => dA q z q (List.mem_append_left _ (List.mem_cons_of_mem _ z')) rfl⟩
      · exact ⟨fun z' => dTC p List.mem_cons_self q z z'.symm, fun z' => dTC q (List.mem_cons_of_mem _ z') q z rfl⟩
    have h0p : H0 p = none := s.fr p pS
    have g1 : Grow K B0 H0 B1 (upd H1 p (.lst xs')) := (s.gr.trans g).mut h0p pB1 pM1
    have r2 : RepO K B1.b (upd H1 p (.lst xs')) (.ow l') (.ref p) (p :: T') := .ow upd_same hl' (r'.mono Ext.rfl _ _ _ fun q hq => upd_ne fun z => pT' (by rw [← z]; exact hq))
    have sim := h5 B1.b (upd H1 p (.lst xs')) (.ow l') (.ref p) (p :: T') g.b (fun q hq => by rw [upd_ne (acP q hq).1]; exact same q (acS q hq)) hv r2
    have ndac : (A ++ C).Nodup := List.nodup_append.mpr ⟨ndA, ndC, fun a ha b hb z => dA a ha b (List.mem_append_right _ hb) z⟩
    have dis : ∀ q ∈ p :: T', q ∉ A ++ C := fun q hq hac => by
      rcases List.mem_cons.mp hq with rfl | hq
      · exact (acP q hac).1 rfl
      · rcases out q hq with z | z
        · exact (acP q hac).2 z
        · have := s.st.sim.some_of q (acS q hac); rw [z.1] at this; cases this
    have mem : ∀ q ∈ A ++ ((p :: T') ++ C), q ∈ A ++ C ∨ q ∈ p :: T' := fun q hq => by
      rcases List.mem_append.mp hq with z | z
      · exact .inl (List.mem_append_left _ z)
      · rcases List.mem_append.mp z with z | z
        · exact .inr z
        · exact .inl (List.mem_append_right _ z)
    have at_ : ∀ q ∈ p :: T', (B1.b q = none ∧ B1.m q = none) ∧ H0 q = none := fun q hq => by
      rcases List.mem_cons.mp hq with rfl | hq
      · exact ⟨⟨pB1, pM1⟩, h0p⟩
      · rcases out q hq with z | z
        · have qS := inS q (List.mem_cons_of_mem _ z)
          exact ⟨((s.st.grow g).out q qS), s.fr q qS⟩
        · exact ⟨⟨z.2.1, z.2.2⟩, s.gr.free z.1⟩
    refine ⟨A ++ ((p :: T') ++ C), ⟨g1.base, sim, ?_, fun q hq => (mem q hq).elim (fun z => (s.st.grow g).out q (acS q z)) fun z => (at_ q z).1⟩, g1, fun q hq => (mem q hq).elim (fun z => s.fr q (acS q z)) fun z => (at_ q z).2⟩
    rw [List.nodup_append] at ndac ⊢
    rw [List.nodup_append]
    refine ⟨ndac.1, ⟨List.nodup_cons.mpr ⟨pT', nd'⟩, ndac.2.1, fun a ha b hb z => dis a ha (by rw [z]; exact List.mem_append_right _ hb)⟩, fun a ha b hb z => ?_⟩
    rcases List.mem_append.mp hb with q | q
    · exact dis b q (by rw [← z]; exact List.mem_append_left _ ha)
    · exact ndac.2.2 a ha b q z
theorem Own.after {B B1 : Kn} {H : Hp} {T T1 : List Addr} (o : Own B H B1 T1) (nd : T.Nodup) (hs : ∀ q ∈ T, (H q).isSome = true) : (T ++ T1).Nodup :=
  List.nodup_append.mpr ⟨nd, o.nd, fun a ha b hb e => by
    subst e
    have := hs a ha
    rw [o.fr a hb] at this; cases this⟩
/-- a slot's own tree: its parts -/
theorem SttF.slot {B0 B : Kn} {H0 H : Hp} {ρ : Env} {σ : L2.St} {S : List Addr} {i : Nat} {t : OT} (s : SttF K B0 H0 B H ρ σ S) (e : ρ[i]? = some (some t)) : ∃ v T, σ[i]? = some (some v) ∧ RepO K B.b H t v T ∧ Own B0 H0 B T := by
  obtain ⟨A, T, C, hS, h2, _⟩ := s.st.sim.split e
  obtain ⟨v, hv, r⟩ := h2 _ rfl
  have sub : ∀ p ∈ T, p ∈ S := fun p hp => by rw [hS]; exact List.mem_append_right _ (List.mem_append_left _ hp)
  have nd := s.st.nd
  rw [hS, List.nodup_append, List.nodup_append] at nd
  exact ⟨v, T, hv, r, nd.2.1.1, fun p hp => s.fr p (sub p hp), fun p hp => (s.st.out p (sub p hp)).1, fun p hp => (s.st.out p (sub p hp)).2⟩
end
section
variable {X : Cx} {e : Expr} {pos cpos apos : Pos} {fo : RO} {fa : RD} {x : Str} {K : PySem.W.Frag}
/-- x.append(e) -/
theorem ds_append (i : Nat) {px : Pos} (he : EO X e fo) (hN : X.N[i]? = some x := by rfl) (hv : Vis X.env.scope x := by first | exact Or.inl rfl | exact Or.inr (Or.inl rfl) | exact Or.inr (Or.inr rfl)) (hd : (x == ("__debug__" : Str)) = false := by decide) (hcd : (x == ("__classdict__" : Str)) = false := by decide)
    (hs : swapsWith (.Call (.Attribute (.Name x px) "append" apos) [e] [] cpos) none pos.line X.env = pure false := by rfl)
    (hbase : attributeBase (.Name x px) "append" X.env (eval (.Name x px) X.env) = eval (.Name x px) X.env := by rfl)
    (hfew : ((backTo cpos (starEach [e] X.env)).all (fun x => !x.1) && (backToKw cpos (keywordEach [] X.env)).all (fun x => x.1.isSome) && decide ([e].length + ([] : List Keyword).length + (if ([] : List Keyword).isEmpty then 0 else 1) < 30)) = true := by rfl)
    (hline : (apos.endLine == cpos.line) = true := by rfl) (hst : starEach [e] X.env = (false, eval e X.env) :: starEach [] X.env := by rfl) (hplain : (backTo cpos (starEach [] X.env)).any (·.1) = false := by rfl) :
    DS X (.Expr (.Call (.Attribute (.Name x px) "append" apos) [e] [] cpos) pos) (fun P ρ M => ∃ l, ρ[i]? = some (some (.ow l)) ∧ fo ρ M fun t M => l.length < sizeLine ∧ P.nx (ρ.set i (some (.ow (l ++ [t])))) M) := by
  obtain ⟨te, pe, se⟩ := he.ex
  refine ⟨_, ps_expr (pe_bm PySem.F.plainAttrs_list PySem.F.slot_list_append PySem.F.type_list_append mt_append (pe_var hN hv hd hcd) (pa_cons pe pa_nil hst) hbase hfew hline hst hplain) hs, fun B0 H0 B H ρ σ S P D s hg k1 k2 k3 k4 => ?_⟩
  obtain ⟨l, el, hg⟩ := hg
  obtain ⟨p, xs, T, hσ, hp, hr, nW, hl, hT, k⟩ := s.mutate el
  refine ⟨_, hσ, .inl ⟨rfl, _, Evl.sq_of hp⟩, se B H ρ σ S _ _ s.st hg fun t v B1 H1 T1 g1 r1 o1 p1 => ?_⟩
  have hp1 : H1 p = some (.lst xs) := g1.h p _ nW hp
  refine ⟨p, xs, v, rfl, rfl, hp1, by rw [← hr.length]; exact p1.1, ?_⟩
  have r2 : RepOs X.K B1.b H1 (l ++ [t]) (xs ++ [v]) (T ++ T1) := by
    have := (hr.mono g1.b _ _ _ fun q hq => g1.same (hr.some q hq) (hT.2 q hq)).append (.cons r1 .nil)
    rwa [List.append_nil] at this
  obtain ⟨S', s'⟩ := k B1 H1 (l ++ [t]) (xs ++ [v]) (T ++ T1) g1 r2 (by rw [List.length_append]; exact p1.1) (o1.after hT.1 fun q hq => hr.some q hq) fun q hq => (List.mem_append.mp hq).imp id fun z => ⟨o1.fr q z, o1.nb q z, o1.nw q z⟩
  exact k1 _ _ _ _ S' s' p1.2
/-- .. of a list that changes behind one's back -/
theorem ds_appendM (i : Nat) {px : Pos} (he : ED X e fa) (hN : X.N[i]? = some x := by rfl) (hv : Vis X.env.scope x := by first | exact Or.inl rfl | exact Or.inr (Or.inl rfl) | exact Or.inr (Or.inr rfl)) (hd : (x == ("__debug__" : Str)) = false := by decide) (hcd : (x == ("__classdict__" : Str)) = false := by decide)
    (hs : swapsWith (.Call (.Attribute (.Name x px) "append" apos) [e] [] cpos) none pos.line X.env = pure false := by rfl)
    (hbase : attributeBase (.Name x px) "append" X.env (eval (.Name x px) X.env) = eval (.Name x px) X.env := by rfl)
    (hfew : ((backTo cpos (starEach [e] X.env)).all (fun x => !x.1) && (backToKw cpos (keywordEach [] X.env)).all (fun x => x.1.isSome) && decide ([e].length + ([] : List Keyword).length + (if ([] : List Keyword).isEmpty then 0 else 1) < 30)) = true := by rfl)
    (hline : (apos.endLine == cpos.line) = true := by rfl) (hst : starEach [e] X.env = (false, eval e X.env) :: starEach [] X.env := by rfl) (hplain : (backTo cpos (starEach [] X.env)).any (·.1) = false := by rfl) :
    DS X (.Expr (.Call (.Attribute (.Name x px) "append" apos) [e] [] cpos) pos) (fun P ρ M => ∃ p, ρ[i]? = some (some (.fz (.mob p))) ∧ (∃ l, M p = some (.lst l)) ∧ fa ρ M fun d M => ∃ l, M p = some (.lst l) ∧ l.length < sizeLine ∧ P.nx ρ (M.put p (.lst (l ++ [d])))) := by
  obtain ⟨te, pe, se⟩ := he.ex
  refine ⟨_, ps_expr (pe_bm PySem.F.plainAttrs_list PySem.F.slot_list_append PySem.F.type_list_append mt_append (pe_var hN hv hd hcd) (pa_cons pe pa_nil hst) hbase hfew hline hst hplain) hs, fun B0 H0 B H ρ σ S P D s hg k1 k2 k3 k4 => ?_⟩
  obtain ⟨p, el, ⟨l0, em0⟩, hg⟩ := hg
  obtain ⟨v, T, hσ, r, _⟩ := s.slot el
  cases r with
  | fz r =>
    cases r
    obtain ⟨_, xs0, hx0, _⟩ := s.st.base.wd p _ em0
    refine ⟨_, hσ, .inl ⟨rfl, _, Evl.sq_of hx0⟩, se B H ρ σ S _ _ s.st hg fun d v B1 H1 g1 r1 p1 => ?_⟩
    obtain ⟨l, em, hl, p1⟩ := p1
    obtain ⟨hb, xs, hx, hlen, rx⟩ := g1.base.wd p _ em
    refine ⟨p, xs, v, rfl, rfl, hx, by rw [← rx.length]; exact hl, ?_⟩
    have g2 := g1.base.chg (p := p) (o := .lst (l ++ [d])) (u := .lst (xs ++ [v])) (by rw [em]; exact fun z => nomatch z) ⟨_, upd_same, by rw [List.length_append]; exact hl, rx.append (.cons r1 .nil)⟩
    exact k1 _ _ _ _ S ((s.grow g1).grow g2) p1
/-- a name's own tree is handed on -/
theorem ds_retOwn (i : Nat) {px : Pos} (hN : X.N[i]? = some x := by rfl) (hv : Vis X.env.scope x := by first | exact Or.inl rfl | exact Or.inr (Or.inl rfl) | exact Or.inr (Or.inr rfl)) (hd : (x == ("__debug__" : Str)) = false := by decide) (hcd : (x == ("__classdict__" : Str)) = false := by decide) :
    DS X (.Return (some (.Name x px)) pos) (fun P ρ M => ∃ t, ρ[i]? = some (some t) ∧ P.rt t M) := by
  refine ⟨_, ps_ret (pe_var hN hv hd hcd), fun B0 H0 B H ρ σ S P D s hg k1 k2 k3 k4 => ?_⟩
  obtain ⟨t, e, p⟩ := hg
  obtain ⟨v, T, hσ, r, o⟩ := s.slot e
  exact ⟨v, hσ, k4 t v B H T s.gr r o p⟩
/-- a name's own list of known data becomes one that may change behind one's back -/
theorem SndS.mob {tS : TS} {g : RS} (i : Nat) (h : SndS K tS g) : SndS K tS (fun P ρ M => ∃ l, ρ[i]? = some (some (.ow (l.map .fz))) ∧ ∀ p, M p = none → g P (ρ.set i (some (.fz (.mob p)))) (M.put p (.lst l))) := by
  intro B0 H0 B H ρ σ S P D s hg k1 k2 k3 k4
  obtain ⟨l, e, hg⟩ := hg
  obtain ⟨A, T, C, hS, h2, h3, h4, h5⟩ := s.st.sim.split e
  obtain ⟨v, hv, r⟩ := h2 _ rfl
  cases r with
  | @ow p xs _ T hp hl hr =>
    obtain ⟨hr', e2⟩ := RepOs.unfz hr
    subst e2
    have nd := s.st.nd
    rw [hS] at nd
    have pS : p ∈ S := by rw [hS]; exact List.mem_append_right _ (List.mem_append_left _ List.mem_cons_self)
    have sub : ∀ q ∈ A ++ C, q ∈ S ∧ q ≠ p := fun q hq => by
      rw [List.nodup_append] at nd
      rcases List.mem_append.mp hq with z | z
      · exact ⟨by rw [hS]; exact List.mem_append_left _ z, nd.2.2 q z p (List.mem_append_left _ List.mem_cons_self)⟩
      · refine ⟨by rw [hS]; exact List.mem_append_right _ (List.mem_append_right _ z), fun w => ?_⟩
        have := nd.2.1
        rw [List.nodup_append] at this
        exact this.2.2 p List.mem_cons_self q z w.symm
    obtain ⟨pB, pM⟩ := s.st.out p pS
    have g1 : Grow K B0 H0 (B.put p (.lst l)) H := s.gr.mob (s.fr p pS) pB pM ⟨xs, hp, by rw [List.length_map] at hl; exact hl, hr'⟩
    refine h B0 H0 (B.put p (.lst l)) H _ σ (A ++ ([] ++ C)) P D ⟨⟨g1.base, h5 B.b H (.fz (.mob p)) (.ref p) [] Ext.rfl (fun _ _ => rfl) hv (.fz (.mob p)), ?_, fun q hq => ?_⟩, g1, fun q hq => s.fr q (sub q hq).1⟩ (hg p pM) k1 k2 k3 k4
    · exact nd.sublist (List.Sublist.append_left (List.sublist_append_right _ C) A)
    · exact ⟨(s.st.out q (sub q hq).1).1, (Mem.put_ne (sub q hq).2).trans (s.st.out q (sub q hq).1).2⟩
theorem DS.mob {st : Stmt} {g : RS} (i : Nat) (h : DS X st g) : DS X st (fun P ρ M => ∃ l, ρ[i]? = some (some (.ow (l.map .fz))) ∧ ∀ p, M p = none → g P (ρ.set i (some (.fz (.mob p)))) (M.put p (.lst l))) := by
  obtain ⟨t, p, s⟩ := h.ex
  exact ⟨t, p, s.mob i⟩
theorem DSs.mob {st : List Stmt} {g : RS} (i : Nat) (h : DSs X st g) : DSs X st (fun P ρ M => ∃ l, ρ[i]? = some (some (.ow (l.map .fz))) ∧ ∀ p, M p = none → g P (ρ.set i (some (.fz (.mob p)))) (M.put p (.lst l))) := by
  obtain ⟨t, p, s⟩ := h.ex
  exact ⟨t, p, s.mob i⟩
end
end DL

/-! DL7: more changes of one's own lists; calls of built-in names. -/
namespace DL
open PySem L2 PySem.Spec
open PyProof.Rows hiding St
open PySem.PyData (strOk)
set_option autoImplicit false
section
variable {X : Cx} {e ei : Expr} {es : List Expr} {pos cpos apos : Pos} {fo : RO} {fa fb : RD} {f : RA} {x y : Str} {K : PySem.W.Frag}
theorem RepOs.rev {B H : Hp} : ∀ {l : List OT} {xs : List V} {T : List Addr}, RepOs K B H l xs T → T.Nodup → ∃ T', RepOs K B H l.reverse xs.reverse T' ∧ T'.Perm T
  | _, _, _, .nil, _ => ⟨[], .nil, .refl _⟩
  | _, _, _, .cons (T := T1) (T' := T2) r t, nd => by
    obtain ⟨T', r', p'⟩ := RepOs.rev t (List.nodup_append.mp nd).2.1
    refine ⟨T' ++ (T1 ++ []), ?_, ?_⟩
    · rw [List.reverse_cons, List.reverse_cons]
      exact r'.append (.cons r .nil)
    · rw [List.append_nil]
      exact List.perm_append_comm.trans (p'.append_left T1)
/-- x.extend(e), e a known list -/
theorem ds_extend (i : Nat) {px : Pos} (he : ED X e fa) (hN : X.N[i]? = some x := by rfl) (hv : Vis X.env.scope x := by first | exact Or.inl rfl | exact Or.inr (Or.inl rfl) | exact Or.inr (Or.inr rfl)) (hd : (x == ("__debug__" : Str)) = false := by decide) (hcd : (x == ("__classdict__" : Str)) = false := by decide)
    (hs : swapsWith (.Call (.Attribute (.Name x px) "extend" apos) [e] [] cpos) none pos.line X.env = pure false := by rfl)
    (hbase : attributeBase (.Name x px) "extend" X.env (eval (.Name x px) X.env) = eval (.Name x px) X.env := by rfl)
    (hfew : ((backTo cpos (starEach [e] X.env)).all (fun x => !x.1) && (backToKw cpos (keywordEach [] X.env)).all (fun x => x.1.isSome) && decide ([e].length + ([] : List Keyword).length + (if ([] : List Keyword).isEmpty then 0 else 1) < 30)) = true := by rfl)
    (hline : (apos.endLine == cpos.line) = true := by rfl) (hst : starEach [e] X.env = (false, eval e X.env) :: starEach [] X.env := by rfl) (hplain : (backTo cpos (starEach [] X.env)).any (·.1) = false := by rfl) :
    DS X (.Expr (.Call (.Attribute (.Name x px) "extend" apos) [e] [] cpos) pos) (fun P ρ M => ∃ l, ρ[i]? = some (some (.ow l)) ∧ fa ρ M fun d M => ∃ m, d = .lst m ∧ l.length + m.length ≤ sizeLine ∧ P.nx (ρ.set i (some (.ow (l ++ m.map .fz)))) M) := by
  obtain ⟨te, pe, se⟩ := he.ex
  refine ⟨_, ps_expr (pe_bm PySem.F.plainAttrs_list PySem.F.slot_list_extend PySem.F.type_list_extend mt_extend (pe_var hN hv hd hcd) (pa_cons pe pa_nil hst) hbase hfew hline hst hplain) hs, fun B0 H0 B H ρ σ S P D s hg k1 k2 k3 k4 => ?_⟩
  obtain ⟨l, el, hg⟩ := hg
  obtain ⟨p, xs, T, hσ, hp, hr, nW, hl, hT, k⟩ := s.mutate el
  refine ⟨_, hσ, .inl ⟨rfl, _, Evl.sq_of hp⟩, se B H ρ σ S _ _ s.st hg fun d v B1 H1 g1 r1 p1 => ?_⟩
  obtain ⟨m, rfl, hz, p1⟩ := p1
  have hp1 : H1 p = some (.lst xs) := g1.h p _ nW hp
  cases r1 with
  | @lst b zs _ hb hlb rb =>
    refine ⟨p, b, xs, zs, rfl, rfl, hp1, g1.base.bh _ _ hb, by rw [← hr.length, ← rb.length]; exact hz, ?_⟩
    have r2 : RepOs X.K B1.b H1 (l ++ m.map .fz) (xs ++ zs) (T ++ []) := (hr.mono g1.b _ _ _ fun q hq => g1.same (hr.some q hq) (hT.2 q hq)).append (RepOs.fzs rb)
    rw [List.append_nil] at r2
    obtain ⟨S', s'⟩ := k B1 H1 _ _ T g1 r2 (by rw [List.length_append, List.length_map]; exact hz) hT.1 fun q hq => .inl hq
    exact k1 _ _ _ _ S' s' p1
/-- x.reverse(), x.clear() -/
theorem ds_reverse (i : Nat) {px : Pos} (hN : X.N[i]? = some x := by rfl) (hv : Vis X.env.scope x := by first | exact Or.inl rfl | exact Or.inr (Or.inl rfl) | exact Or.inr (Or.inr rfl)) (hd : (x == ("__debug__" : Str)) = false := by decide) (hcd : (x == ("__classdict__" : Str)) = false := by decide)
    (hs : swapsWith (.Call (.Attribute (.Name x px) "reverse" apos) [] [] cpos) none pos.line X.env = pure false := by rfl)
    (hbase : attributeBase (.Name x px) "reverse" X.env (eval (.Name x px) X.env) = eval (.Name x px) X.env := by rfl) (hline : (apos.endLine == cpos.line) = true := by rfl) :
    DS X (.Expr (.Call (.Attribute (.Name x px) "reverse" apos) [] [] cpos) pos) (fun P ρ M => ∃ l, ρ[i]? = some (some (.ow l)) ∧ P.nx (ρ.set i (some (.ow l.reverse))) M) := by
  refine ⟨_, ps_expr (pe_bm0 PySem.F.plainAttrs_list PySem.F.slot_list_reverse PySem.F.type_list_reverse mt_reverse (pe_var hN hv hd hcd) hbase hline) hs, fun B0 H0 B H ρ σ S P D s hg k1 k2 k3 k4 => ?_⟩
  obtain ⟨l, el, hg⟩ := hg
  obtain ⟨p, xs, T, hσ, hp, hr, nW, hl, hT, k⟩ := s.mutate el
  obtain ⟨T', r', pm⟩ := hr.rev hT.1
  refine ⟨_, hσ, .inl ⟨rfl, _, Evl.sq_of hp⟩, p, xs, rfl, rfl, hp, ?_⟩
  obtain ⟨S', s'⟩ := k B H _ _ T' s.st.base.grow r' (by rw [List.length_reverse]; exact hl) (pm.nodup_iff.mpr hT.1) fun q hq => .inl (pm.mem_iff.mp hq)
  exact k1 _ _ _ _ S' s' hg
theorem ds_clear (i : Nat) {px : Pos} (hN : X.N[i]? = some x := by rfl) (hv : Vis X.env.scope x := by first | exact Or.inl rfl | exact Or.inr (Or.inl rfl) | exact Or.inr (Or.inr rfl)) (hd : (x == ("__debug__" : Str)) = false := by decide) (hcd : (x == ("__classdict__" : Str)) = false := by decide)
    (hs : swapsWith (.Call (.Attribute (.Name x px) "clear" apos) [] [] cpos) none pos.line X.env = pure false := by rfl)
    (hbase : attributeBase (.Name x px) "clear" X.env (eval (.Name x px) X.env) = eval (.Name x px) X.env := by rfl) (hline : (apos.endLine == cpos.line) = true := by rfl) :
    DS X (.Expr (.Call (.Attribute (.Name x px) "clear" apos) [] [] cpos) pos) (fun P ρ M => ∃ l, ρ[i]? = some (some (.ow l)) ∧ P.nx (ρ.set i (some (.ow []))) M) := by
  refine ⟨_, ps_expr (pe_bm0 PySem.F.plainAttrs_list PySem.F.slot_list_clear PySem.F.type_list_clear mt_clear (pe_var hN hv hd hcd) hbase hline) hs, fun B0 H0 B H ρ σ S P D s hg k1 k2 k3 k4 => ?_⟩
  obtain ⟨l, el, hg⟩ := hg
  obtain ⟨p, xs, T, hσ, hp, hr, nW, hl, hT, k⟩ := s.mutate el
  refine ⟨_, hσ, .inl ⟨rfl, _, Evl.sq_of hp⟩, p, xs, rfl, rfl, hp, ?_⟩
  obtain ⟨S', s'⟩ := k B H [] [] [] s.st.base.grow .nil (Nat.zero_le _) .nil fun q hq => nomatch hq
  exact k1 _ _ _ _ S' s' hg
/-- all items of one's own list are known data -/
def fzs (l : List OT) : Option (List D) := match l with
  | [] => some []
  | .fz d :: r => (fzs r).map (d :: ·)
  | .ow _ :: _ => none
  | .od _ _ :: _ => none
theorem fzs_map : ∀ l : List D, fzs (l.map .fz) = some l
  | [] => rfl
  | d :: l => by simp [fzs, fzs_map l]
theorem fzs_eq : ∀ {l : List OT} {ds : List D}, fzs l = some ds → l = ds.map .fz
  | [], ds, h => by cases h; rfl
  | .fz d :: r, ds, h => by
    simp only [fzs, Option.map_eq_some_iff] at h
    obtain ⟨a, ha, rfl⟩ := h
    rw [fzs_eq ha]; rfl
  | .ow _ :: _, _, h => by simp [fzs] at h
  | .od _ _ :: _, _, h => by simp [fzs] at h
/-- x[k] = e -/
theorem ds_setIx (i : Nat) {px spos : Pos} (he : ED X e fa) (hk : EV X ei fb) (hN : X.N[i]? = some x := by rfl) (hv : Vis X.env.scope x := by first | exact Or.inl rfl | exact Or.inr (Or.inl rfl) | exact Or.inr (Or.inr rfl)) (hd : (x == ("__debug__" : Str)) = false := by decide) (hcd : (x == ("__classdict__" : Str)) = false := by decide)
    (ha : ∀ v, assign (.Subscript (.Name x px) ei spos) X.env v = (do
      let ov ← holding [v] (eval (.Name x px) X.env)
      let iv ← holding [v, ov] (eval ei X.env)
      standAt spos
      holding [v, ov, iv] (setItem ov iv v)
      release [v, ov, iv] []) := by intro _; rfl)
    (hs : swapsWithSole [.Subscript (.Name x px) ei spos] e pos.line X.env = pure false := by rfl) (hw : swappedStores [.Subscript (.Name x px) ei spos] e X.env = pure none := by rfl)
    (h1 : (assignEach [.Subscript (.Name x px) ei spos] X.env).map (·.2) = [assign (.Subscript (.Name x px) ei spos) X.env] := by rfl) :
    DS X (.Assign [.Subscript (.Name x px) ei spos] e pos) (fun P ρ M => fa ρ M fun d M => ∃ l m, ρ[i]? = some (some (.ow l)) ∧ fzs l = some m ∧ fb ρ M fun n M => ∃ k j, n = .int k ∧ ixN m.length k = some j ∧ P.nx (ρ.set i (some (.ow ((m.set j d).map .fz)))) M) := by
  obtain ⟨te, pe, se⟩ := he.ex
  obtain ⟨tk, pk, sk⟩ := hk.ex
  refine ⟨_, ps_asg pe (pg_sub (pe_var hN hv hd hcd) pk set_list ha) hs hw h1, fun B0 H0 B H ρ σ S P D s hg k1 k2 k3 k4 => se B H ρ σ S _ _ s.st hg fun d v B1 H1 g1 r1 hk1 => ?_⟩
  have s1 := s.grow g1
  obtain ⟨l, m, el, em, hk1⟩ := hk1
  obtain rfl := fzs_eq em
  obtain ⟨p, xs, T, hσ, hp, hr, nW, hl, hT, k⟩ := s1.mutate el
  refine ⟨_, hσ, sk B1 H1 ρ σ S _ _ s1.st hk1 fun n vn B2 H2 g2 r2 p2 => ?_⟩
  obtain ⟨kk, j, rfl, hj, p2⟩ := p2
  cases r2
  obtain ⟨hr', rfl⟩ := RepOs.unfz hr
  refine ⟨p, xs, kk, j, rfl, rfl, g2.h p _ nW hp, by rw [← hr'.length]; exact hj, ?_⟩
  obtain ⟨S', s'⟩ := k B2 H2 ((m.set j d).map .fz) (xs.set j v) [] g2 (RepOs.fzs ((hr'.up g2.b).set j (r1.up g2.b))) (by rw [List.length_map, List.length_set]; rw [List.length_map] at hl; exact hl) .nil fun q hq => nomatch hq
  exact k1 _ _ _ _ S' s' p2
/-- y = x.pop() : the last one, known data -/
theorem ds_pop (i j : Nat) {px py : Pos} (hNd : X.N.Nodup) (hN : X.N[i]? = some x := by rfl) (hv : Vis X.env.scope x := by first | exact Or.inl rfl | exact Or.inr (Or.inl rfl) | exact Or.inr (Or.inr rfl)) (hd : (x == ("__debug__" : Str)) = false := by decide) (hcd : (x == ("__classdict__" : Str)) = false := by decide)
    (hj : X.N[j]? = some y := by rfl) (hy : Loc X.env.scope y := by first | exact Or.inl rfl | exact Or.inr rfl) (hs : swapsWith (.Call (.Attribute (.Name x px) "pop" apos) [] [] cpos) (some (.Name y py)) pos.line X.env = pure false := by rfl)
    (hf : X.fn y = true ∨ X.env.scope.names.lookup y = some .local := by first | exact .inl rfl | exact .inr rfl | assumption) (hij : j ≠ i := by decide)
    (hbase : attributeBase (.Name x px) "pop" X.env (eval (.Name x px) X.env) = eval (.Name x px) X.env := by rfl) (hline : (apos.endLine == cpos.line) = true := by rfl) :
    DS X (.Assign [.Name y py] (.Call (.Attribute (.Name x px) "pop" apos) [] [] cpos) pos) (fun P ρ M => ∃ l m d, ρ[i]? = some (some (.ow l)) ∧ fzs l = some (m ++ [d]) ∧ j < ρ.length ∧ P.nx ((ρ.set i (some (.ow (m.map .fz)))).set j (some (.fz d))) M) := by
  refine ⟨_, ps_set hNd hj hy (pe_bm0 PySem.F.plainAttrs_list PySem.F.slot_list_pop PySem.F.type_list_pop mt_pop (pe_var hN hv hd hcd) hbase hline) hs hf, fun B0 H0 B H ρ σ S P D s hg k1 k2 k3 k4 => ?_⟩
  obtain ⟨l, m, d, el, em, hjl, hg⟩ := hg
  obtain rfl := fzs_eq em
  obtain ⟨p, xs, T, hσ, hp, hr, nW, hl, hT, k⟩ := s.mutate el
  obtain ⟨hr', rfl⟩ := RepOs.unfz hr
  have hlen := hr'.length
  rw [List.length_append, List.length_singleton] at hlen
  have hd' : (m ++ [d])[xs.length - 1]? = some d := by
    rw [← hlen, Nat.add_sub_cancel, List.getElem?_append_right (Nat.le_refl _), Nat.sub_self]; rfl
  obtain ⟨v, hv', rd⟩ := hr'.getD hd'
  have hm : Reps X.K B m xs.dropLast := by
    have h1 := hr'.take m.length
    rw [List.take_left] at h1
    rw [List.dropLast_eq_take, ← hlen, Nat.add_sub_cancel]
    exact h1
  refine ⟨_, hσ, .inl ⟨rfl, _, Evl.sq_of hp⟩, p, xs, v, rfl, rfl, hp, hv', ?_⟩
  obtain ⟨S', s'⟩ := k B H (m.map .fz) xs.dropLast [] s.st.base.grow (RepOs.fzs hm) (by rw [List.length_map]; rw [List.length_map, List.length_append] at hl; omega) .nil fun q hq => nomatch hq
  obtain ⟨S2, s2, _⟩ := s'.putA (i := j) (t := .fz d) (v := v) (T1 := []) (by rw [List.length_set]; exact hjl) (.fz rd) .nil (fun _ h => nomatch h) (fun _ h => nomatch h)
  exact k1 _ _ _ _ S2 s2 hg
/-- a place of one's own list of known data -/
theorem ed_ixO (i : Nat) {px : Pos} (hk : EV X ei fb) (hN : X.N[i]? = some x := by rfl) (hv : Vis X.env.scope x := by first | exact Or.inl rfl | exact Or.inr (Or.inl rfl) | exact Or.inr (Or.inr rfl)) (hd : (x == ("__debug__" : Str)) = false := by decide) (hcd : (x == ("__classdict__" : Str)) = false := by decide)
    (hp : PlainIx ei := by exact fun _ _ => rfl) : ED X (.Subscript (.Name x px) ei pos) (fun ρ M P => ∃ l m, ρ[i]? = some (some (.ow l)) ∧ fzs l = some m ∧ fb ρ M fun n M => ∃ k d, n = .int k ∧ atI m k = some d ∧ P d M) := by
  obtain ⟨tk, pk, sk⟩ := hk.ex
  refine ⟨_, pe_ix ix_list (pe_var hN hv hd hcd) pk hp, fun B H ρ σ S P Q st hf k => ?_⟩
  obtain ⟨l, m, el, em, hf⟩ := hf
  obtain rfl := fzs_eq em
  obtain ⟨A, T, C, hS, h2, _⟩ := st.sim.split el
  obtain ⟨v, hσ, r⟩ := h2 _ rfl
  cases r with
  | @ow p xs _ T hp hl hr =>
    obtain ⟨hr', rfl⟩ := RepOs.unfz hr
    have nW := (st.out p (by rw [hS]; exact List.mem_append_right _ (List.mem_append_left _ List.mem_cons_self))).2
    refine ⟨_, hσ, sk B H ρ σ S _ _ st hf fun n vn B1 H1 g1 r1 p1 => ?_⟩
    obtain ⟨kk, d, rfl, hd, p1⟩ := p1
    cases r1
    obtain ⟨v, e, rd⟩ := hr'.atI hd
    exact ⟨p, xs, kk, v, rfl, rfl, Evl.sq_of (g1.h p _ nW hp), e, k d v B1 H1 g1 (rd.up g1.b) p1⟩

/-! ### built-in names called -/
/-- a call of values, the operands as they stand -/
def SCV (K : PySem.W.Frag) (r : List V → Hp → VK → Prop) (h : List D → Mem → (D → Mem → Prop) → Prop) : Prop :=
  ∀ (B : Kn) (H : Hp) (ds : List D) (vs : List V) (P : D → Mem → Prop) (Q : VK), Base K B H → Reps K (Hm B.m H) ds vs → h ds B.m P → (∀ d v B' H', Grow K B H B' H' → Rep K B' d v → P d B'.m → Q v H') → r vs H Q
def SCO (K : PySem.W.Frag) (r : List V → Hp → VK → Prop) (h : List D → Mem → (OT → Mem → Prop) → Prop) : Prop :=
  ∀ (B : Kn) (H : Hp) (ds : List D) (vs : List V) (P : OT → Mem → Prop) (Q : VK), Base K B H → Reps K B ds vs → h ds B.m P → (∀ t v B' H' T, Grow K B H B' H' → RepO K B' H' t v T → Own B H B' T → P t B'.m → Q v H') → r vs H Q
variable {T bid : String} {r : List V → Hp → VK → Prop} {p : Pos}
theorem ed_callB {h : List D → Mem → (D → Mem → Prop) → Prop} (hc : CallR X (.builtin bid) r) (sr : SCV X.K r h) (ha : AV X (e :: es) f) (hm : X.mg x = none) (hv : bootBuiltins x = some (.builtin bid)) (hg : Gl X x := by rfl) (hn : x ≠ "__name__" := by decide) (hdb : (x == ("__debug__" : Str)) = false := by decide)
    (he : starEach (e :: es) X.env = (false, eval e X.env) :: starEach es X.env := by rfl) (hpl : (backTo pos (starEach es X.env)).any (·.1) = false := by rfl) : ED X (.Call (.Name x p) (e :: es) [] pos) (fun ρ M P => f ρ M fun ds M => h ds M P) := by
  obtain ⟨ta, pa, sa⟩ := ha.ex
  exact ⟨_, pe_callB hc hg hm hv pa hn hdb he hpl, fun B H ρ σ S P Q st hf k => sa B H ρ σ S _ _ st hf fun ds vs B1 H1 g1 r1 p1 => sr B1 H1 ds vs P Q g1.base r1 p1 fun d v B' H' g r2 p2 => k d v B' H' (g1.trans g) r2 p2⟩
theorem ed_callT {h : List D → Mem → (D → Mem → Prop) → Prop} (hc : CallR X (.type T) r) (sr : SCV X.K r h) (ha : AV X (e :: es) f) (hm : X.mg x = none) (hv : bootBuiltins x = some (.type T)) (hg : Gl X x := by rfl) (hn : x ≠ "__name__" := by decide) (hdb : (x == ("__debug__" : Str)) = false := by decide)
    (he : starEach (e :: es) X.env = (false, eval e X.env) :: starEach es X.env := by rfl) (hpl : (backTo pos (starEach es X.env)).any (·.1) = false := by rfl) : ED X (.Call (.Name x p) (e :: es) [] pos) (fun ρ M P => f ρ M fun ds M => h ds M P) := by
  obtain ⟨ta, pa, sa⟩ := ha.ex
  exact ⟨_, pe_callTy hc hg hm hv pa hn hdb he hpl, fun B H ρ σ S P Q st hf k => sa B H ρ σ S _ _ st hf fun ds vs B1 H1 g1 r1 p1 => sr B1 H1 ds vs P Q g1.base r1 p1 fun d v B' H' g r2 p2 => k d v B' H' (g1.trans g) r2 p2⟩
theorem eo_callB {h : List D → Mem → (OT → Mem → Prop) → Prop} (hc : CallR X (.builtin bid) r) (sr : SCO X.K r h) (ha : AD X (e :: es) f) (hm : X.mg x = none) (hv : bootBuiltins x = some (.builtin bid)) (hg : Gl X x := by rfl) (hn : x ≠ "__name__" := by decide) (hdb : (x == ("__debug__" : Str)) = false := by decide)
    (he : starEach (e :: es) X.env = (false, eval e X.env) :: starEach es X.env := by rfl) (hpl : (backTo pos (starEach es X.env)).any (·.1) = false := by rfl) : EO X (.Call (.Name x p) (e :: es) [] pos) (fun ρ M P => f ρ M fun ds M => h ds M P) := by
  obtain ⟨ta, pa, sa⟩ := ha.ex
  exact ⟨_, pe_callB hc hg hm hv pa hn hdb he hpl, fun B H ρ σ S P Q st hf k => sa B H ρ σ S _ _ st hf fun ds vs B1 H1 g1 r1 p1 => sr B1 H1 ds vs P Q g1.base r1 p1 fun t v B' H' T g r2 o p2 => k t v B' H' T (g1.trans g) r2 (o.back g1) p2⟩
theorem eo_callT {h : List D → Mem → (OT → Mem → Prop) → Prop} (hc : CallR X (.type T) r) (sr : SCO X.K r h) (ha : AD X (e :: es) f) (hm : X.mg x = none) (hv : bootBuiltins x = some (.type T)) (hg : Gl X x := by rfl) (hn : x ≠ "__name__" := by decide) (hdb : (x == ("__debug__" : Str)) = false := by decide)
    (he : starEach (e :: es) X.env = (false, eval e X.env) :: starEach es X.env := by rfl) (hpl : (backTo pos (starEach es X.env)).any (·.1) = false := by rfl) : EO X (.Call (.Name x p) (e :: es) [] pos) (fun ρ M P => f ρ M fun ds M => h ds M P) := by
  obtain ⟨ta, pa, sa⟩ := ha.ex
  exact ⟨_, pe_callTy hc hg hm hv pa hn hdb he hpl, fun B H ρ σ S P Q st hf k => sa B H ρ σ S _ _ st hf fun ds vs B1 H1 g1 r1 p1 => sr B1 H1 ds vs P Q g1.base r1 p1 fun t v B' H' T g r2 o p2 => k t v B' H' T (g1.trans g) r2 (o.back g1) p2⟩
theorem Reps.one {B : Hp} {d : D} {vs : List V} (h : Reps K B [d] vs) : ∃ v, vs = [v] ∧ Rep K B d v := by
  cases h with
  | cons r t => cases t; exact ⟨_, rfl, r⟩
theorem Reps.two {B : Hp} {d e : D} {vs : List V} (h : Reps K B [d, e] vs) : ∃ v u, vs = [v, u] ∧ Rep K B d v ∧ Rep K B e u := by
  cases h with
  | cons r t =>
    cases t with
    | cons r' t' => cases t'; exact ⟨_, _, rfl, r, r'⟩
/-- len -/
def hLen (ds : List D) (M : Mem) (P : D → Mem → Prop) : Prop := match ds with
  | [.lst l] => P (.int l.length) M
  | [.tup l] => P (.int l.length) M
  | [.scr l] => P (.int l.length) M
  | [.str z] => z.length ≤ sizeLine ∧ P (.int z.length) M
  | [.mob p] => ∃ l, M p = some (.lst l) ∧ P (.int l.length) M
  | _ => False
theorem sc_len : SCV K (fun xs H Q => ∃ x n, xs = [x] ∧ LenV K x H n ∧ Q (.int n) H) hLen := by
  intro B H ds vs P Q bs r h k
  match ds, h with
  | [.lst l], h =>
    obtain ⟨v, rfl, q⟩ := r.one
    cases q with
    | lst h1 h2 h3 => exact ⟨_, _, rfl, .inl ⟨_, Evl.sq_of (Hm_ext _ _ h1), rfl⟩, by rw [← h3.length]; exact k _ _ B H bs.grow (.int _) h⟩
  | [.tup l], h =>
    obtain ⟨v, rfl, q⟩ := r.one
    cases q with
    | tup h1 h2 h3 => exact ⟨_, _, rfl, .inr ⟨_, Evl.ex_t Hm_ext h1, rfl⟩, by rw [← h3.length]; exact k _ _ B H bs.grow (.int _) h⟩
  | [.scr l], h =>
    obtain ⟨v, rfl, q⟩ := r.one
    cases q with
    | scr h1 => exact ⟨_, _, rfl, .inl ⟨_, Evl.ex_l Hm_ext h1, rfl⟩, by rw [List.length_map]; exact k _ _ B H bs.grow (.int _) h⟩
  | [.mob p], h =>
    obtain ⟨v, rfl, q⟩ := r.one
    obtain ⟨l, em, h⟩ := h
    cases q
    obtain ⟨_, xs, hx, hl, hrx⟩ := bs.wd p _ em
    exact ⟨_, _, rfl, .inl ⟨_, Evl.sq_of hx, rfl⟩, by rw [← hrx.length]; exact k _ _ B H bs.grow (.int _) h⟩
  | [.str z], h =>
    obtain ⟨v, rfl, q⟩ := r.one
    cases q with
    | str h1 => exact ⟨_, _, rfl, ⟨h.1, rfl⟩, k _ _ B H bs.grow (.int _) h.2⟩
theorem ed_len (hm : X.mg "len" = none) (ha : AV X [e] f) (hg : Gl X "len" := by rfl) (he : starEach [e] X.env = (false, eval e X.env) :: starEach [] X.env := by rfl) : ED X (.Call (.Name "len" p) [e] [] pos) (fun ρ M P => f ρ M fun ds M => hLen ds M P) := ed_callB call_len sc_len ha hm PySem.boot_len hg (by decide) (by decide) he rfl
def hAbs (ds : List D) (M : Mem) (P : D → Mem → Prop) : Prop := ∃ i, ds = [.int i] ∧ P (.int (if i < 0 then -i else i)) M
theorem ed_abs (hm : X.mg "abs" = none) (ha : AV X [e] f) (hg : Gl X "abs" := by rfl) (he : starEach [e] X.env = (false, eval e X.env) :: starEach [] X.env := by rfl) : ED X (.Call (.Name "abs" p) [e] [] pos) (fun ρ M P => f ρ M fun ds M => hAbs ds M P) := ed_callB call_abs (fun B H ds vs P Q bs r h k => by
  obtain ⟨i, rfl, h⟩ := h
  obtain ⟨v, rfl, q⟩ := r.one
  cases q
  exact ⟨i, rfl, k _ _ B H bs.grow (.int _) h⟩) ha hm (by decide +kernel) hg (by decide) (by decide) he rfl
def hInt1 (ds : List D) (M : Mem) (P : D → Mem → Prop) : Prop := match ds with
  | [.int i] => P (.int i) M
  | [.bl b] => P (.int (if b then 1 else 0)) M
  | _ => False
theorem ed_int1 (hm : X.mg "int" = none) (ha : AV X [e] f) (hg : Gl X "int" := by rfl) (he : starEach [e] X.env = (false, eval e X.env) :: starEach [] X.env := by rfl) : ED X (.Call (.Name "int" p) [e] [] pos) (fun ρ M P => f ρ M fun ds M => hInt1 ds M P) := ed_callT call_int1 (fun B H ds vs P Q bs r h k => by
  match ds, h with
  | [.int i], h =>
    obtain ⟨v, rfl, q⟩ := r.one
    cases q
    exact .inl ⟨i, rfl, k _ _ B H bs.grow (.int _) h⟩
  | [.bl b], h =>
    obtain ⟨v, rfl, q⟩ := r.one
    cases q
    exact .inr ⟨b, rfl, k _ _ B H bs.grow (.int _) h⟩) ha hm (by decide +kernel) hg (by decide) (by decide) he rfl
theorem ed_max2 (hc : X.calm = true) (hm : X.mg "max" = none) {e' : Expr} (ha : AV X [e, e'] f) (hg : Gl X "max" := by rfl) (he : starEach [e, e'] X.env = (false, eval e X.env) :: starEach [e'] X.env := by rfl) (hpl : (backTo pos (starEach [e'] X.env)).any (·.1) = false := by rfl) :
    ED X (.Call (.Name "max" p) [e, e'] [] pos) (fun ρ M P => f ρ M fun ds M => ∃ i j, ds = [.int i, .int j] ∧ P (.int (if j > i then j else i)) M) := ed_callB (h := fun ds M P => ∃ i j, ds = [.int i, .int j] ∧ P (.int (if j > i then j else i)) M) (call_max2 hc) (fun B H ds vs P Q bs r h k => by
  obtain ⟨i, j, rfl, h⟩ := h
  obtain ⟨v, u, rfl, q, q'⟩ := r.two
  cases q; cases q'
  exact ⟨i, j, rfl, k _ _ B H bs.grow (.int _) h⟩) ha hm (by decide +kernel) hg (by decide) (by decide) he hpl
theorem ed_min2 (hc : X.calm = true) (hm : X.mg "min" = none) {e' : Expr} (ha : AV X [e, e'] f) (hg : Gl X "min" := by rfl) (he : starEach [e, e'] X.env = (false, eval e X.env) :: starEach [e'] X.env := by rfl) (hpl : (backTo pos (starEach [e'] X.env)).any (·.1) = false := by rfl) :
    ED X (.Call (.Name "min" p) [e, e'] [] pos) (fun ρ M P => f ρ M fun ds M => ∃ i j, ds = [.int i, .int j] ∧ P (.int (if j < i then j else i)) M) := ed_callB (h := fun ds M P => ∃ i j, ds = [.int i, .int j] ∧ P (.int (if j < i then j else i)) M) (call_min2 hc) (fun B H ds vs P Q bs r h k => by
  obtain ⟨i, j, rfl, h⟩ := h
  obtain ⟨v, u, rfl, q, q'⟩ := r.two
  cases q; cases q'
  exact ⟨i, j, rfl, k _ _ B H bs.grow (.int _) h⟩) ha hm (by decide +kernel) hg (by decide) (by decide) he hpl
/-- all, any of a list of truths -/
theorem bools_of {B : Hp} : ∀ {bs : List Bool} {vs : List V}, Reps K B (bs.map D.bl) vs → vs = bs.map V.bl
  | [], _, h => by cases h; rfl
  | b :: bs, _, h => by
    cases h with
    | cons r t => cases r; rw [bools_of t]; rfl
def hAll (q : List Bool → Bool) (ds : List D) (M : Mem) (P : D → Mem → Prop) : Prop := ∃ bs, ds = [.lst (bs.map D.bl)] ∧ P (.bl (q bs)) M
theorem ed_all (hc : X.calm = true) (hm : X.mg "all" = none) (ha : AV X [e] f) (hg : Gl X "all" := by rfl) (he : starEach [e] X.env = (false, eval e X.env) :: starEach [] X.env := by rfl) : ED X (.Call (.Name "all" p) [e] [] pos) (fun ρ M P => f ρ M fun ds M => hAll (·.all id) ds M P) := ed_callB (cr_all hc) (fun B H ds vs P Q bs r h k => by
  obtain ⟨l, rfl, h⟩ := h
  obtain ⟨v, rfl, q⟩ := r.one
  cases q with
  | lst h1 h2 h3 =>
    have := bools_of h3
    subst this
    exact ⟨_, l, rfl, Evl.sq_of (Hm_ext _ _ h1), k _ _ B H bs.grow (.bl _) h⟩) ha hm (by decide +kernel) hg (by decide) (by decide) he rfl
theorem ed_any (hc : X.calm = true) (hm : X.mg "any" = none) (ha : AV X [e] f) (hg : Gl X "any" := by rfl) (he : starEach [e] X.env = (false, eval e X.env) :: starEach [] X.env := by rfl) : ED X (.Call (.Name "any" p) [e] [] pos) (fun ρ M P => f ρ M fun ds M => hAll (·.any id) ds M P) := ed_callB (cr_any hc) (fun B H ds vs P Q bs r h k => by
  obtain ⟨l, rfl, h⟩ := h
  obtain ⟨v, rfl, q⟩ := r.one
  cases q with
  | lst h1 h2 h3 =>
    have := bools_of h3
    subst this
    exact ⟨_, l, rfl, Evl.sq_of (Hm_ext _ _ h1), k _ _ B H bs.grow (.bl _) h⟩) ha hm (by decide +kernel) hg (by decide) (by decide) he rfl
/-- list(x), tuple(x) of a list, a tuple -/
def hSeq (mk : List D → OT) (ds : List D) (M : Mem) (P : OT → Mem → Prop) : Prop := match ds with
  | [.lst l] => P (mk l) M
  | [.tup l] => P (mk l) M
  | _ => False
theorem eo_list (hm : X.mg "list" = none) (ha : AD X [e] f) (hg : Gl X "list" := by rfl) (he : starEach [e] X.env = (false, eval e X.env) :: starEach [] X.env := by rfl) : EO X (.Call (.Name "list" p) [e] [] pos) (fun ρ M P => f ρ M fun ds M => hSeq (fun l => .ow (l.map .fz)) ds M P) := eo_callT call_list_of (fun B H ds vs P Q bs r h k => by
  match ds, h with
  | [.lst l], h =>
    obtain ⟨v, rfl, q⟩ := r.one
    cases q with
    | lst h1 h2 h3 => exact ⟨_, _, rfl, .inl (Evl.sq_of (bs.bh _ _ h1)), new_list bs h3 h2 h k⟩
  | [.tup l], h =>
    obtain ⟨v, rfl, q⟩ := r.one
    cases q with
    | tup h1 h2 h3 => exact ⟨_, _, rfl, .inr (Evl.ex_t bs.bh h1), new_list bs h3 h2 h k⟩) ha hm (by decide +kernel) hg (by decide) (by decide) he rfl
theorem eo_tuple (hm : X.mg "tuple" = none) (ha : AD X [e] f) (hg : Gl X "tuple" := by rfl) (he : starEach [e] X.env = (false, eval e X.env) :: starEach [] X.env := by rfl) : EO X (.Call (.Name "tuple" p) [e] [] pos) (fun ρ M P => f ρ M fun ds M => hSeq (fun l => .fz (.tup l)) ds M P) := eo_callT call_tuple_of (fun B H ds vs P Q bs r h k => by
  match ds, h with
  | [.lst l], h =>
    obtain ⟨v, rfl, q⟩ := r.one
    cases q with
    | lst h1 h2 h3 => exact ⟨_, _, rfl, .inl ⟨Evl.sq_of (bs.bh _ _ h1), new_tuple bs h3 h2 h (kD k)⟩⟩
  | [.tup l], h =>
    obtain ⟨v, rfl, q⟩ := r.one
    cases q with
    | tup h1 h2 h3 => exact ⟨_, _, rfl, .inr ⟨Evl.ex_t bs.bh h1, kD k _ _ B H bs.grow (.tup h1 h2 h3) h⟩⟩) ha hm (by decide +kernel) hg (by decide) (by decide) he rfl
/-- sorted of texts -/
theorem strs_of {B : Hp} : ∀ {bs : List Str} {vs : List V}, Reps K B (bs.map D.str) vs → vs = bs.map V.str ∧ ∀ x ∈ bs, strOk x = true
  | [], _, h => by cases h; exact ⟨rfl, fun _ h => nomatch h⟩
  | b :: bs, _, h => by
    cases h with
    | cons r t =>
      cases r with
      | str hb =>
        obtain ⟨h1, h2⟩ := strs_of t
        exact ⟨by rw [h1]; rfl, fun x hx => by
          rcases List.mem_cons.mp hx with rfl | hx
          · exact hb
          · exact h2 x hx⟩
theorem reps_strs {B : Hp} : ∀ {bs : List Str}, (∀ x ∈ bs, strOk x = true) → Reps K B (bs.map D.str) (bs.map V.str)
  | [], _ => .nil
  | b :: bs, h => .cons (.str (h b List.mem_cons_self)) (reps_strs fun x hx => h x (List.mem_cons_of_mem _ hx))
def hSortS (ds : List D) (M : Mem) (P : OT → Mem → Prop) : Prop := ∃ xs, ds = [.lst (xs.map D.str)] ∧ xs.length < 64 ∧ ∀ ys, ys.Perm xs → sortedS ys = true → P (.ow ((ys.map D.str).map .fz)) M
theorem eo_sortedS (hm : X.mg "sorted" = none) (ha : AD X [e] f) (hg : Gl X "sorted" := by rfl) (he : starEach [e] X.env = (false, eval e X.env) :: starEach [] X.env := by rfl) : EO X (.Call (.Name "sorted" p) [e] [] pos) (fun ρ M P => f ρ M fun ds M => hSortS ds M P) := eo_callB cr_sortedS (fun B H ds vs P Q bs r h k => by
  obtain ⟨xs, rfl, hl, h⟩ := h
  obtain ⟨v, rfl, q⟩ := r.one
  cases q with
  | lst h1 h2 h3 =>
    obtain ⟨e, ok⟩ := strs_of h3
    subst e
    refine ⟨_, xs, rfl, Evl.sq_of (bs.bh _ _ h1), hl, fun ys p hp hs hpn => ?_⟩
    exact new_list bs (reps_strs fun x hx => ok x (hp.mem_iff.mp hx)) (by rw [List.length_map, hp.length_eq]; exact small64 hl) (h ys hp hs) k p hpn) ha hm (by decide +kernel) hg (by decide) (by decide) he rfl
theorem strOk_join {sep : Str} (hs : strOk sep = true) : ∀ {ys : List Str}, (∀ x ∈ ys, strOk x = true) → strOk (PySem.Txt.join sep ys) = true := by
  intro ys h
  rw [TL.join_eq]
  induction ys with
  | nil =>
    show strOk Str.empty = true
    decide +kernel
  | cons x r ih =>
    cases r with
    | nil => exact h x List.mem_cons_self
    | cons y r => exact strOk_app (strOk_app (h x List.mem_cons_self) hs) (ih fun z hz => h z (List.mem_cons_of_mem _ hz))
/-- sep.join(a list of texts) -/
theorem ed_join {o : Expr} (ho : EV X o fa) (he : AV X [e] f) (hbase : attributeBase o "join" X.env (eval o X.env) = eval o X.env := by rfl)
    (hfew : ((backTo cpos (starEach [e] X.env)).all (fun x => !x.1) && (backToKw cpos (keywordEach [] X.env)).all (fun x => x.1.isSome) && decide ([e].length + ([] : List Keyword).length + (if ([] : List Keyword).isEmpty then 0 else 1) < 30)) = true := by rfl)
    (hline : (apos.endLine == cpos.line) = true := by rfl) (hst : starEach [e] X.env = (false, eval e X.env) :: starEach [] X.env := by rfl) (hplain : (backTo cpos (starEach [] X.env)).any (·.1) = false := by rfl) :
    ED X (.Call (.Attribute o "join" apos) [e] [] cpos) (fun ρ M P => fa ρ M fun s M => ∃ sep, s = .str sep ∧ f ρ M fun ds M => ∃ ys, (ds = [.lst (ys.map D.str)] ∨ ds = [.tup (ys.map D.str)]) ∧ (ys.map (·.length)).sum + ys.length * sep.length ≤ 16777216 ∧ P (.str (PySem.Txt.join sep ys)) M) := by
  obtain ⟨to, po, so⟩ := ho.ex
  obtain ⟨te, pe, se⟩ := he.ex
  refine ⟨_, pe_bm PySem.F.plainAttrs_str PySem.F.slot_str_join PySem.F.type_str_join mt_join po pe hbase hfew hline hst hplain, fun B H ρ σ S P Q st hf k => so B H ρ σ S _ _ st hf fun s v B1 H1 g1 r1 p1 => ?_⟩
  obtain ⟨sep, rfl, p1⟩ := p1
  cases r1 with
  | str hsep =>
    refine ⟨?_, se B1 H1 ρ σ S _ _ (st.grow g1) p1 fun ds vs B2 H2 g2 r2 p2 => ?_⟩
    · exact rfl
    · obtain ⟨ys, hds, hz, p2⟩ := p2
      rcases hds with rfl | rfl
      · obtain ⟨v, rfl, q⟩ := r2.one
        cases q with
        | lst h1 h2 h3 =>
          obtain ⟨e, ok⟩ := strs_of h3
          subst e
          exact ⟨sep, _, ys, rfl, rfl, .inl (Evl.sq_of (Hm_ext _ _ h1)), hz, k _ _ B2 H2 (g1.trans g2) (.str (strOk_join hsep ok)) p2⟩
      · obtain ⟨v, rfl, q⟩ := r2.one
        cases q with
        | tup h1 h2 h3 =>
          obtain ⟨e, ok⟩ := strs_of h3
          subst e
          exact ⟨sep, _, ys, rfl, rfl, .inr (Evl.ex_t Hm_ext h1), hz, k _ _ B2 H2 (g1.trans g2) (.str (strOk_join hsep ok)) p2⟩
end
end DL

/-! DL8: isinstance, repr, dict displays, places of lists that change, signs, names' own operators. -/
namespace DL
open PySem L2 PySem.Spec
open PyProof.Rows hiding St
open PySem.PyData (strOk)
set_option autoImplicit false

/-! ### kinds -/
inductive Kd | non | bl | int | str | lst | tup | dk
  deriving DecidableEq
def Kd.nm : Kd → String
  | .non => "NoneType" | .bl => "bool" | .int => "int" | .str => "str" | .lst => "list" | .tup => "tuple" | .dk => "dict"
def Kd.isa (a b : Kd) : Bool := decide (a = b) || (decide (a = .bl) && decide (b = .int))
theorem Kd.kit (a b : Kd) : kitB a.nm b.nm = some (a.isa b) ∨ b = .non := by
  cases b with
  | non => exact .inr rfl
  | _ => left; cases a <;> decide +kernel
def D.kind (M : Mem) : D → Option Kd
  | .non => some .non | .bl _ => some .bl | .int _ => some .int | .str _ => some .str | .txt _ => some .str | .tup _ => some .tup | .lst _ => some .lst | .scr _ => some .lst | .dk _ _ => some .dk
  | .mob p => match M p with
    | some (.lst _) => some .lst
    | some (.dk _ _) => some .dk
    | _ => none
  | .ob _ _ _ => none
section
variable {X : Cx} {e a b c ei : Expr} {es : List Expr} {pos cpos apos p : Pos} {fo : RO} {fa fb fc : RD} {f : RA} {x y : Str} {K : PySem.W.Frag}
theorem sqT_ty {H : Hp} {a : Addr} {xs : List V} (h : SqT K H a xs) : TyX K H (.ref a) (.type "tuple") := by
  rcases h with h | ⟨o, its, n, h1, h2, h3, h4, h5⟩
  · rcases h with h | ⟨o, h⟩
    · exact .base (.tup h)
    · exact .fTuple h
  · exact .kTuple h1 h2
theorem sqL_ty {H : Hp} {a : Addr} {xs : List V} (h : SqL K H a xs) : TyX K H (.ref a) (.type "list") := by
  rcases h with h | ⟨o, its, n, h1, h2, h3, h4, h5⟩
  · rcases h with h | ⟨o, h⟩
    · exact .base (.lst h)
    · exact .base (.frz h)
  · exact .kList h1 h2
theorem Rep.ty {B : Kn} {H : Hp} {d : D} {v : V} {k : Kd} (bs : Base K B H) (r : Rep K (Hm B.m H) d v) (h : d.kind B.m = some k) : TyX K H v (.type k.nm) := by
  cases r with
  | non => cases h; exact .base .non
  | bl b => cases h; exact .base (.bl b)
  | int i => cases h; exact .base (.int i)
  | str _ => cases h; exact .base (.str _)
  | txt _ => cases h; exact .base (.str _)
  | tup h1 h2 h3 => cases h; exact sqT_ty (Evl.ex_t Hm_ext h1)
  | lst h1 h2 h3 => cases h; exact .base (.lst (Hm_ext _ _ h1))
  | scr h1 => cases h; exact sqL_ty (Evl.ex_l Hm_ext h1)
  | dk h1 h2 h3 h4 => cases h; exact .base (.dK (Hm_ext _ _ h1))
  | ob h1 h2 h3 => cases h
  | mob p =>
    unfold D.kind at h
    split at h
    all_goals try (rename_i q; cases q)
    all_goals try cases h
    rename_i q
    cases q' : B.m p with
    | none => rw [q'] at h; cases h
    | some o =>
      rw [q'] at h
      cases o with
      | lst l => cases h; obtain ⟨_, xs, hx, _⟩ := bs.wd p _ q'; exact .base (.lst hx)
      | dk ks l => cases h; obtain ⟨_, vs, hx, _⟩ := bs.wd p _ q'; exact .base (.dK hx)
      | ins C ns l => cases h
/-- isinstance(e, T) -/
theorem ed_isi (k : Kd) {T : Str} {pT : Pos} (ha : EV X e fa) (hm : X.mg "isinstance" = none) (hmT : X.mg T = none) (hv : bootBuiltins T = some (.type k.nm) := by decide +kernel) (hk : k ≠ .non := by decide) (hg : Gl X "isinstance" := by rfl) (hgT : Gl X T := by rfl) (hn : T ≠ "__name__" := by decide) (hdb : (T == ("__debug__" : Str)) = false := by decide)
    (he : starEach [e, .Name T pT] X.env = (false, eval e X.env) :: starEach [.Name T pT] X.env := by rfl) (he2 : starEach [.Name T pT] X.env = (false, eval (.Name T pT) X.env) :: starEach [] X.env := by rfl) (hpl : (backTo pos (starEach [.Name T pT] X.env)).any (·.1) = false := by rfl) :
    ED X (.Call (.Name "isinstance" p) [e, .Name T pT] [] pos) (fun ρ M P => fa ρ M fun x M => ∃ c, x.kind M = some c ∧ P (.bl (c.isa k)) M) := by
  obtain ⟨te, pe, se⟩ := ha.ex
  refine ⟨_, pe_callB call_isi hg hm (by decide +kernel) (pa_cons pe (pa_cons (pe_bltn (v := .ty k.nm) hgT hmT hv rfl hn hdb) pa_nil he2) he) (by decide) (by decide) he hpl, fun B H ρ σ S P Q st hf kk => se B H ρ σ S _ _ st hf fun d v B1 H1 g1 r1 p1 => ?_⟩
  obtain ⟨c, hc, p1⟩ := p1
  refine ⟨v, .ty k.nm, _, _, c.isa k, rfl, .ty _, r1.ty g1.base hc, ?_, kk _ _ B1 H1 g1 (.bl _) p1⟩
  rcases Kd.kit c k with z | z
  · exact kit_ty z
  · exact absurd z hk
theorem kitAny2 {K : PySem.W.Frag} {c k1 k2 : Kd} (h1 : k1 ≠ .non) (h2 : k2 ≠ .non) : PySem.W.kitAny K (.type c.nm) [.type k1.nm, .type k2.nm] = some (c.isa k1 || c.isa k2) := by
  have e1 : PySem.W.kitOne K (.type c.nm) (.type k1.nm) = some (c.isa k1) := (Kd.kit c k1).elim (fun z => kit_ty z) fun z => absurd z h1
  have e2 : PySem.W.kitOne K (.type c.nm) (.type k2.nm) = some (c.isa k2) := (Kd.kit c k2).elim (fun z => kit_ty z) fun z => absurd z h2
  refine kitAny_cons e1 (fun h => ?_) fun h => by rw [h]; rfl
  rw [h, Bool.false_or]
  exact kitAny_cons e2 (fun h => by rw [h]; exact kitAny_nil) fun h => h
/-- isinstance(e, (T, U)) -/
theorem ed_isi2 (k1 k2 : Kd) {T U : Str} {pT pU pt : Pos} {kk0} (ha : EV X e fa) (hm : X.mg "isinstance" = none) (hmT : X.mg T = none) (hmU : X.mg U = none) (hv : bootBuiltins T = some (.type k1.nm) := by decide +kernel) (hvU : bootBuiltins U = some (.type k2.nm) := by decide +kernel) (hk : k1 ≠ .non := by decide) (hk2 : k2 ≠ .non := by decide)
    (hg : Gl X "isinstance" := by rfl) (hgT : Gl X T := by rfl) (hgU : Gl X U := by rfl) (hn : T ≠ "__name__" := by decide) (hn2 : U ≠ "__name__" := by decide) (hdb : (T == ("__debug__" : Str)) = false := by decide) (hdb2 : (U == ("__debug__" : Str)) = false := by decide)
    (hs1 : starEach [.Name T pT, .Name U pU] X.env = (false, eval (.Name T pT) X.env) :: starEach [.Name U pU] X.env := by rfl) (hs2 : starEach [.Name U pU] X.env = (false, eval (.Name U pU) X.env) :: starEach [] X.env := by rfl)
    (he : starEach [e, .Tuple [.Name T pT, .Name U pU] kk0 pt] X.env = (false, eval e X.env) :: starEach [.Tuple [.Name T pT, .Name U pU] kk0 pt] X.env := by rfl) (he2 : starEach [.Tuple [.Name T pT, .Name U pU] kk0 pt] X.env = (false, eval (.Tuple [.Name T pT, .Name U pU] kk0 pt) X.env) :: starEach [] X.env := by rfl) (hpl : (backTo pos (starEach [.Tuple [.Name T pT, .Name U pU] kk0 pt] X.env)).any (·.1) = false := by rfl) :
    ED X (.Call (.Name "isinstance" p) [e, .Tuple [.Name T pT, .Name U pU] kk0 pt] [] pos) (fun ρ M P => fa ρ M fun x M => ∃ c, x.kind M = some c ∧ P (.bl (c.isa k1 || c.isa k2)) M) := by
  obtain ⟨te, pe, se⟩ := ha.ex
  refine ⟨_, pe_callB call_isiT hg hm (by decide +kernel) (pa_cons pe (pa_cons (pe_tup (pa_cons (pe_bltn (v := .ty k1.nm) hgT hmT hv rfl hn hdb) (pa_cons (pe_bltn (v := .ty k2.nm) hgU hmU hvU rfl hn2 hdb2) pa_nil hs2) hs1)) pa_nil he2) he) (by decide) (by decide) he hpl, fun B H ρ σ S P Q st hf kk => se B H ρ σ S _ _ st hf fun d v B1 H1 g1 r1 p1 => ?_⟩
  obtain ⟨c, hc, p1⟩ := p1
  refine ⟨by show 2 ≤ sizeLine; decide, fun tp htp => ?_⟩
  have g2 := g1.base.new (o := .tup [.ty k1.nm, .ty k2.nm]) htp
  exact ⟨v, tp, _, _, _, _, rfl, upd_same, .cons (.ty _) (.cons (.ty _) .nil), (r1.up g2.hm).ty g2.base hc, kitAny2 hk hk2, kk _ _ _ _ (g1.trans g2) (.bl _) p1⟩

/-! ### repr -/
mutual
/-- its ints are short -/
def D.shortI : D → Bool
  | .int i => decide (i.natAbs < 10 ^ 12)
  | .tup l => D.shortIs l
  | .lst l => D.shortIs l
  | _ => true
def D.shortIs : List D → Bool
  | [] => true
  | d :: ds => D.shortI d && D.shortIs ds
end
mutual
/-- how much text -/
def D.blk : D → Nat
  | .str x => x.length
  | .txt x => x.length
  | .tup l => D.blks l
  | .lst l => D.blks l
  | _ => 0
def D.blks : List D → Nat
  | [] => 0
  | d :: ds => D.blk d + 1 + D.blks ds
end
mutual
theorem D.blk_toP : ∀ d : D, (D.toP d).bulk ≤ D.blk d
  | .non | .bl _ | .int _ | .str _ | .scr _ | .mob _ | .dk _ _ | .ob _ _ _ | .txt _ => by simp [D.toP, PyData.bulk, PyData.bulkKv, D.blk, Str.length]
  | .tup l => by have := D.blks_toP l; simp only [D.toP, PyData.bulk, D.blk]; omega
  | .lst l => by have := D.blks_toP l; simp only [D.toP, PyData.bulk, D.blk]; omega
theorem D.blks_toP : ∀ l : List D, PyData.bulkAll (D.toPs l) ≤ D.blks l
  | [] => by simp [D.toPs, PyData.bulkAll, D.blks]
  | d :: ds => by have := D.blk_toP d; have := D.blks_toP ds; simp only [D.toPs, PyData.bulkAll, D.blks]; omega
end
theorem log_small {i : Int} (h : i.natAbs < 10 ^ 12) : i.natAbs.log2 < 1920 := by
  by_cases z : i.natAbs = 0
  · rw [z]; decide
  · rw [Nat.log2_lt z]
    exact Nat.lt_of_lt_of_le h (by decide +kernel)
section
variable {B : Hp}
mutual
theorem Rep.show : ∀ (d : D) (v : V), d.plain = true → d.shortI = true → Rep K B d v → d.toP.showable = true ∧ d.toP.hasDict = false ∧ d.toP.leavesShort 13 = true
  | .non, _, _, _, _ => by simp [D.toP, PyData.showable, PyData.hasDict, PyData.leavesShort]
  | .bl b, _, _, _, _ => by simp [D.toP, PyData.showable, PyData.hasDict, PyData.leavesShort]
  | .int i, _, _, hi, _ => by
    have hi : i.natAbs < 10 ^ 12 := by simpa [D.shortI] using hi
    have h1 := log_small hi
    have h2 := PyData.shown_int_le hi
    simp only [D.toP, PyData.showable, PyData.hasDict, PyData.leavesShort]
    exact ⟨decide_eq_true h1, trivial, decide_eq_true h2⟩
  | .str x, _, _, _, h => by
    cases h with
    | str h =>
      simp only [D.toP, PyData.showable, PyData.hasDict, PyData.leavesShort]
      refine ⟨trivial, trivial, ?_⟩
      unfold strOk at h
      rw [Array.all_eq_true'] at h
      rw [List.all_eq_true]
      intro c hc
      have := h c (by simpa using hc)
      simp only [decide_eq_true_eq] at this ⊢
      omega
  | .tup l, _, p, hi, h => by
    cases h with
    | tup hs hl hr =>
      have := Reps.show l _ (by simpa only [D.plain] using p) (by simpa only [D.shortI] using hi) hr
      simpa only [D.toP, PyData.showable, PyData.hasDict, PyData.leavesShort] using this
  | .lst l, _, p, hi, h => by
    cases h with
    | lst hs hl hr =>
      have := Reps.show l _ (by simpa only [D.plain] using p) (by simpa only [D.shortI] using hi) hr
      simpa only [D.toP, PyData.showable, PyData.hasDict, PyData.leavesShort] using this
  | .dk _ _, _, p, _, _ => by simp [D.plain] at p
  | .ob _ _ _, _, p, _, _ => by simp [D.plain] at p
  | .scr _, _, p, _, _ => by simp [D.plain] at p
  | .mob _, _, p, _, _ => by simp [D.plain] at p
  | .txt _, _, p, _, _ => by simp [D.plain] at p
theorem Reps.show : ∀ (ds : List D) (vs : List V), D.plains ds = true → D.shortIs ds = true → Reps K B ds vs → PyData.showableAll (D.toPs ds) = true ∧ PyData.hasDictAll (D.toPs ds) = false ∧ PyData.leavesShortAll 13 (D.toPs ds) = true
  | [], _, _, _, _ => by simp [D.toPs, PyData.showableAll, PyData.hasDictAll, PyData.leavesShortAll]
  | d :: ds, _, p, hi, h => by
    cases h with
    | cons h1 h2 =>
      simp only [D.plains, Bool.and_eq_true] at p
      simp only [D.shortIs, Bool.and_eq_true] at hi
      have a := Rep.show d _ p.1 hi.1 h1
      have b := Reps.show ds _ p.2 hi.2 h2
      simp only [D.toPs, PyData.showableAll, PyData.hasDictAll, PyData.leavesShortAll, Bool.and_eq_true, Bool.or_eq_false_iff]
      exact ⟨⟨a.1, b.1⟩, ⟨a.2.1, b.2.1⟩, a.2.2, b.2.2⟩
end
end
/-- the text of plain data -/
def D.show (d : D) : Str := d.toP.shown
def isSeq : D → Bool
  | .tup _ => true
  | .lst _ => true
  | _ => false
def rReprD (K : PySem.W.Frag) : List V → Hp → VK → Prop := fun xs H Q => ∃ a d, xs = [.ref a] ∧ Dp K H (.ref a) d ∧ d.showable = true ∧ d.hasDict = false ∧ d.depth ≤ 100 ∧ d.shown.length ≤ sizeLine ∧ Q (.str d.shown) H
theorem call_reprD (hg : X.A.guards = some []) (hu : X.A.units + 200 < cLine) : CallR X (.builtin "repr") (rReprD X.K) := by
  intro pins s σ H xs us Q I r h
  obtain ⟨a, d, rfl, hd, h1, h2, h3, h4, q⟩ := h
  cases r with
  | cons r t =>
    cases t
    obtain ⟨as, rd⟩ := Dp.reads I d _ _ hd r
    cases r
    exact repr_of_reads' rd h1 (PyData.noDict_hsm h2) hg (by omega) (fun _ _ e => e) (fun h' u tk hk => ⟨.str _, H, I.kept hk, ⟨u, rfl⟩, q⟩) h4
def hRepr (ds : List D) (M : Mem) (P : D → Mem → Prop) : Prop := ∃ d, ds = [d] ∧ isSeq d = true ∧ d.plain = true ∧ d.shortI = true ∧ d.dep ≤ 100 ∧ d.blk ≤ 2 ^ 20 ∧ P (.txt d.show) M
theorem ed_repr (hr : X.A.guards = some []) (hu : X.A.units + 200 < cLine) (hm : X.mg "repr" = none) (ha : AV X [e] f) (hg : Gl X "repr" := by rfl) (he : starEach [e] X.env = (false, eval e X.env) :: starEach [] X.env := by rfl) :
    ED X (.Call (.Name "repr" p) [e] [] pos) (fun ρ M P => f ρ M fun ds M => hRepr ds M P) := ed_callB (call_reprD hr hu) (fun B H ds vs P Q bs r h k => by
  obtain ⟨d, rfl, hs, hp, hi, hd, hb, h⟩ := h
  obtain ⟨v, rfl, q⟩ := r.one
  have q' := q.up Hm_ext
  obtain ⟨z1, z2, z3⟩ := Rep.show d v hp hi q'
  have hdp := q'.dp _ _ hp
  have hd2 : d.toP.depth ≤ 100 := Nat.le_trans (D.dep_toP d) hd
  have hsz : d.toP.shown.length ≤ sizeLine := PyData.shown_fits_bulk (by decide) (by decide) z3 (Nat.le_trans (D.blk_toP d) hb)
  have hv : ∃ a, v = .ref a := by
    cases q with
    | tup _ _ _ => exact ⟨_, rfl⟩
    | lst _ _ _ => exact ⟨_, rfl⟩
    | _ => cases hs
  obtain ⟨a, rfl⟩ := hv
  exact ⟨a, _, rfl, hdp, z1, z2, hd2, hsz, k _ _ B H bs.grow (.txt _) h⟩) ha hm (by decide +kernel) hg (by decide) (by decide) he rfl

/-! ### dict displays: keys ints and texts -/
abbrev RDP := Env → Mem → (List Key → List D → Mem → Prop) → Prop
def SndPs (K : PySem.W.Frag) (trs : List (TE × TE)) (f : RDP) : Prop :=
  ∀ (B : Kn) (H : Hp) (ρ : Env) (σ : L2.St) (S : List Addr) (P : List Key → List D → Mem → Prop) (Q : List (V × V) → Hp → Prop), Stt K B H ρ σ S → f ρ B.m P → (∀ ks ds vs B' H', Grow K B H B' H' → Reps K B' ds vs → ks.length = ds.length → P ks ds B'.m → Q ((ks.zip vs).map fun kv => (kV kv.1, kv.2)) H') → tPairs trs σ H Q
structure DPs (X : Cx) (pos : Pos) (keys : List (Option Expr)) (values : List Expr) (f : RDP) : Prop where
  ex : ∃ t, PPs X pos keys values t ∧ SndPs X.K t f
theorem dps_nil : DPs X pos [] [] (fun _ M P => P [] [] M) := ⟨_, pps_nil, fun B H ρ σ S P Q st hf k => k [] [] [] B H st.base.grow .nil rfl hf⟩
theorem dps_cons {ks : List (Option Expr)} {vs : List Expr} {g : RDP} (ha : ED X a fa) (hb : ED X b fb) (h : DPs X pos ks vs g) : DPs X pos (some a :: ks) (b :: vs) (fun ρ M P => fa ρ M fun x M => ∃ k, keyOf x = some k ∧ fb ρ M fun y M => g ρ M fun ks ds M => P (k :: ks) (y :: ds) M) := by
  obtain ⟨ta, pa, sa⟩ := ha.ex
  obtain ⟨tb, pb, sb⟩ := hb.ex
  obtain ⟨t, pt, s⟩ := h.ex
  refine ⟨_, pps_cons pa pb pt, fun B H ρ σ S P Q st hf kk => sa B H ρ σ S _ _ st hf fun x vx B1 H1 g1 r1 p1 => ?_⟩
  obtain ⟨k, hk, p1⟩ := p1
  refine sb B1 H1 ρ σ S _ _ (st.grow g1) p1 fun y vy B2 H2 g2 r2 p2 => s B2 H2 ρ σ S _ _ ((st.grow g1).grow g2) p2 fun ks ds vs B3 H3 g3 r3 hl p3 => ?_
  have := kk (k :: ks) (y :: ds) (vy :: vs) B3 H3 ((g1.trans g2).trans g3) (.cons (r2.up g3.b) r3) (by simp [hl]) p3
  rw [keyOf_rep hk r1]
  exact this
theorem merge_new : ∀ (more acc : List (Key × V)), ((acc ++ more).map (·.1)).Nodup → mergeK acc more = acc ++ more
  | [], acc, _ => by rw [List.append_nil]; rfl
  | q :: r, acc, h => by
    have hn : (acc.any fun kv => decide (kv.1 = q.1)) = false := by
      rw [List.any_eq_false]
      intro z hz e
      rw [List.map_append, List.nodup_append] at h
      exact h.2.2 z.1 (List.mem_map_of_mem hz) q.1 (by simp) (of_decide_eq_true e)
    show mergeK (putK acc q.1 q.2) r = _
    unfold putK
    rw [if_neg (by rw [hn]; exact Bool.false_ne_true), merge_new r (acc ++ [(q.1, q.2)]) (by simpa using h)]
    simp
/-- one's own object at p, made ahead of all that was added since, becomes known -/
theorem Grow.known {B0 B : Kn} {H0 H : Hp} {q : Addr} {o u : HO} (g : Grow K B0 (L2.upd H0 q u) B H) (b0 : Base K B0 H0) (h0 : H0 q = none) (hq : B.b q = none) (nm : B.m q = none) : Grow K B0 H0 (B.upd q o) (L2.upd H q o) := by
  have eb : Ext B.b (L2.upd B.b q o) := Evl.Ex.new hq
  have no : ∀ a, L2.upd H0 q u a = none → H0 a = none := fun a z => by
    by_cases k : a = q
    · rw [k]; exact h0
    · rwa [upd_ne k] at z
  refine ⟨g.b.trans eb, fun a z m e => ?_, g.d, fun a z => (g.n a z).imp id (no a), fun a z e => ?_, ⟨fun a z e => ?_, fun a z e => ?_⟩⟩
  · have k : a ≠ q := ne_of_none e h0
    rw [upd_ne k]
    exact g.h a z m (by rw [upd_ne k]; exact e)
  · by_cases k : a = q
    · rw [k]; exact .inr h0
    · have e : L2.upd B.b q o a = some z := e
      rw [upd_ne k] at e
      exact (g.f a z e).imp id (no a)
  · by_cases k : a = q
    · have e : L2.upd B.b q o a = some z := e
      rw [k, upd_same] at e ⊢; exact e
    · have e : L2.upd B.b q o a = some z := e
      rw [upd_ne k] at e ⊢; exact g.base.bh a z e
  · have e : B.m a = some z := e
    have k : a ≠ q := fun w => by rw [w, nm] at e; cases e
    exact ⟨(upd_ne k).trans (g.base.wd a z e).1, (g.base.wd a z e).2.mono eb (upd_ne k)⟩
theorem ed_dict {keys : List (Option Expr)} {values : List Expr} {g : RDP} (h : DPs X pos keys values g) (hall : keys.all (·.isSome) = true := by rfl) (hl : keys.length = values.length := by rfl) (h0 : keys ≠ [] := by exact fun z => nomatch z) (h15 : keys.length ≤ 15 := by decide) :
    ED X (.Dict keys values pos) (fun ρ M P => g ρ M fun ks ds M => ks.Nodup ∧ ks.length ≤ 15 ∧ P (.dk ks ds) M) := by
  obtain ⟨t, pt, s⟩ := h.ex
  refine ⟨_, pe_disp pt hall hl h0 h15, fun B H ρ σ S P Q st hf k => ?_⟩
  intro q hq
  obtain ⟨g1, nb, nm⟩ := st.base.newO (o := .dK []) hq
  refine s B _ ρ σ S _ _ (st.grow g1) hf fun ks ds vs B2 H2 g2 r2 hl2 p2 => ?_
  have hq1 : L2.upd H q (.dK []) q = some (.dK []) := upd_same
  have h2 : H2 q = some (.dK []) := g2.h q _ nm hq1
  have nb2 : B2.b q = none := by
    cases z : B2.b q with
    | none => rfl
    | some o =>
      rcases g2.f q o z with w | w
      · rw [nb] at w; cases w
      · rw [hq1] at w; cases w
  have nm2 : B2.m q = none := g2.nm nm (by rw [hq1]; exact fun w => nomatch w)
  have lv := r2.length
  have hz : (ks.zip vs).map (·.1) = ks := by rw [List.map_fst_zip]; omega
  refine ⟨h2, ks.zip vs, rfl, by rw [List.length_zip]; have := p2.2.1; omega, ?_⟩
  rw [merge_new (ks.zip vs) [] (by rw [List.nil_append, hz]; exact p2.1), List.nil_append]
  have gk := Grow.known (o := .dK (ks.zip vs)) g2 st.base hq nb2 nm2
  refine k (.dk ks ds) (.ref q) _ _ gk (.dk (vs := vs) ?_ hl2 (by rw [← hl2]; have := p2.2.1; rw [sizeLine_eq]; omega) (r2.up (Evl.Ex.new nb2))) p2.2.2
  exact upd_same

/-! ### places -/
theorem RepOs.getO {B H : Hp} : ∀ {l : List OT} {xs : List V} {T : List Addr} {j : Nat} {t : OT}, RepOs K B H l xs T → l[j]? = Option.some t → ∃ v T', xs[j]? = Option.some v ∧ RepO K B H t v T'
  | [], _, _, _, _, _, e => by simp at e
  | t :: l, _, _, 0, _, .cons r _, e => by
    simp only [List.getElem?_cons_zero, Option.some.injEq] at e
    subst e
    exact ⟨_, _, rfl, r⟩
  | t :: l, _, _, j + 1, _, .cons _ q, e => by
    obtain ⟨v, T', h1, h2⟩ := RepOs.getO (j := j) q (by simpa using e)
    exact ⟨v, T', by simpa using h1, h2⟩
theorem RepOs.atO {B H : Hp} {l : List OT} {xs : List V} {T : List Addr} {i : Int} {d : D} (h : RepOs K B H l xs T) (e : L2.atI l i = Option.some (OT.fz d)) : ∃ v, L2.atI xs i = Option.some v ∧ Rep K B d v := by
  unfold L2.atI at e ⊢
  rw [← h.length]
  cases q : ixN l.length i with
  | none => rw [q] at e; cases e
  | some j =>
    rw [q] at e
    obtain ⟨v, T', h1, h2⟩ := h.getO (show l[j]? = Option.some (OT.fz d) from e)
    cases h2 with
    | fz h2 => exact ⟨v, h1, h2⟩
/-- a place of what a name holds -/
def hIxT (t : OT) (n : D) (M : Mem) (P : D → Mem → Prop) : Prop := match t with
  | .fz d => hIx d n M P
  | .ow l => ∃ k d, n = .int k ∧ atI l k = some (.fz d) ∧ P d M
  | .od _ _ => False
theorem ed_ixN (i : Nat) {px : Pos} (hk : ED X ei fb) (hN : X.N[i]? = some x := by rfl) (hv : Vis X.env.scope x := by first | exact Or.inl rfl | exact Or.inr (Or.inl rfl) | exact Or.inr (Or.inr rfl)) (hd : (x == ("__debug__" : Str)) = false := by decide) (hcd : (x == ("__classdict__" : Str)) = false := by decide)
    (hp : PlainIx ei := by exact fun _ _ => rfl) : ED X (.Subscript (.Name x px) ei pos) (fun ρ M P => ∃ t, ρ[i]? = some (some t) ∧ fb ρ M fun n M => hIxT t n M P) := by
  obtain ⟨tk, pk, sk⟩ := hk.ex
  refine ⟨_, pe_ix ix_seq (pe_var hN hv hd hcd) pk hp, fun B H ρ σ S P Q st hf k => ?_⟩
  obtain ⟨t, el, hf⟩ := hf
  obtain ⟨A, T, C, hS, h2, _⟩ := st.sim.split el
  obtain ⟨v, hσ, r⟩ := h2 _ rfl
  refine ⟨v, hσ, sk B H ρ σ S _ _ st hf fun n vn B1 H1 g1 r1 p1 => ?_⟩
  cases r with
  | od _ _ _ _ => exact p1.elim
  | fz r => exact sr_ix B1 H1 _ n v vn P Q g1.base (r.up g1.b) r1 p1 fun d v' B' H' g r p => k d v' B' H' (g1.trans g) r p
  | @ow q xs l T hq hl hr =>
    obtain ⟨kk, d, rfl, hd, p1⟩ := p1
    cases r1
    have nW := (st.out q (by rw [hS]; exact List.mem_append_right _ (List.mem_append_left _ List.mem_cons_self))).2
    obtain ⟨v, e, rd⟩ := hr.atO hd
    exact .inl ⟨q, xs, kk, v, rfl, rfl, Evl.sq_of (g1.h q _ nW hq), e, k d v B1 H1 g1 (rd.up g1.b) p1⟩
theorem RepOs.setD {B H : Hp} {d : D} {v : V} (r : Rep K B d v) : ∀ {l : List OT} {xs : List V} {T : List Addr} (j : Nat), RepOs K B H l xs T → ∃ T', RepOs K B H (l.set j (.fz d)) (xs.set j v) T' ∧ T'.Sublist T
  | [], _, _, _, .nil => ⟨[], .nil, .slnil⟩
  | t :: l, _, _, 0, .cons (T := T1) (T' := T2) _ q => ⟨[] ++ T2, .cons (.fz r) q, List.sublist_append_right _ _⟩
  | t :: l, _, _, j + 1, .cons (T := T1) (T' := T2) h q => by
    obtain ⟨T', h1, h2⟩ := RepOs.setD r j q
    exact ⟨T1 ++ T', .cons h h1, List.Sublist.append_left h2 T1⟩
/-- x[k] = e, x one's own list -/
theorem ds_setIxO (i : Nat) {px : Pos} (he : ED X e fa) (hk : EV X ei fb) (hN : X.N[i]? = some x := by rfl) (hv : Vis X.env.scope x := by first | exact Or.inl rfl | exact Or.inr (Or.inl rfl) | exact Or.inr (Or.inr rfl)) (hd : (x == ("__debug__" : Str)) = false := by decide) (hcd : (x == ("__classdict__" : Str)) = false := by decide)
    (ha : ∀ v, assign (.Subscript (.Name x px) ei cpos) X.env v = (do
      let ov ← holding [v] (eval (.Name x px) X.env)
      let iv ← holding [v, ov] (eval ei X.env)
      standAt cpos
      holding [v, ov, iv] (setItem ov iv v)
      release [v, ov, iv] []) := by intro _; rfl)
    (hs : swapsWithSole [.Subscript (.Name x px) ei cpos] e pos.line X.env = pure false := by rfl) (hw : swappedStores [.Subscript (.Name x px) ei cpos] e X.env = pure none := by rfl)
    (h1 : (assignEach [.Subscript (.Name x px) ei cpos] X.env).map (·.2) = [assign (.Subscript (.Name x px) ei cpos) X.env] := by rfl) :
    DS X (.Assign [.Subscript (.Name x px) ei cpos] e pos) (fun P ρ M => fa ρ M fun d M => ∃ l, ρ[i]? = some (some (.ow l)) ∧ fb ρ M fun n M => ∃ k j, n = .int k ∧ ixN l.length k = some j ∧ P.nx (ρ.set i (some (.ow (l.set j (.fz d))))) M) := by
  obtain ⟨te, pe, se⟩ := he.ex
  obtain ⟨tk, pk, sk⟩ := hk.ex
  refine ⟨_, ps_asg pe (pg_sub (pe_var hN hv hd hcd) pk set_list ha) hs hw h1, fun B0 H0 B H ρ σ S P D s hg k1 k2 k3 k4 => se B H ρ σ S _ _ s.st hg fun d v B1 H1 g1 r1 hk1 => ?_⟩
  have s1 := s.grow g1
  obtain ⟨l, el, hk1⟩ := hk1
  obtain ⟨q, xs, T, hσ, hp, hr, nW, hl, hT, k⟩ := s1.mutate el
  refine ⟨_, hσ, sk B1 H1 ρ σ S _ _ s1.st hk1 fun n vn B2 H2 g2 r2 p2 => ?_⟩
  obtain ⟨kk, j, rfl, hj, p2⟩ := p2
  cases r2
  obtain ⟨T', r', sl⟩ := (hr.mono g2.b _ _ _ fun z hz => g2.same (hr.some z hz) (hT.2 z hz)).setD (r1.up g2.b) j
  refine ⟨q, xs, kk, j, rfl, rfl, g2.h q _ nW hp, by rw [← hr.length]; exact hj, ?_⟩
  obtain ⟨S', s'⟩ := k B2 H2 _ _ T' g2 r' (by rw [List.length_set]; exact hl) (hT.1.sublist sl) fun z hz => .inl (sl.subset hz)
  exact k1 _ _ _ _ S' s' p2
/-- x[k] = e, x a list that changes behind one's back -/
theorem ds_setIxM (i : Nat) {px spos : Pos} (he : ED X e fa) (hk : ED X ei fb) (hN : X.N[i]? = some x := by rfl) (hv : Vis X.env.scope x := by first | exact Or.inl rfl | exact Or.inr (Or.inl rfl) | exact Or.inr (Or.inr rfl)) (hd : (x == ("__debug__" : Str)) = false := by decide) (hcd : (x == ("__classdict__" : Str)) = false := by decide)
    (ha : ∀ v, assign (.Subscript (.Name x px) ei spos) X.env v = (do
      let ov ← holding [v] (eval (.Name x px) X.env)
      let iv ← holding [v, ov] (eval ei X.env)
      standAt spos
      holding [v, ov, iv] (setItem ov iv v)
      release [v, ov, iv] []) := by intro _; rfl)
    (hs : swapsWithSole [.Subscript (.Name x px) ei spos] e pos.line X.env = pure false := by rfl) (hw : swappedStores [.Subscript (.Name x px) ei spos] e X.env = pure none := by rfl)
    (h1 : (assignEach [.Subscript (.Name x px) ei spos] X.env).map (·.2) = [assign (.Subscript (.Name x px) ei spos) X.env] := by rfl) :
    DS X (.Assign [.Subscript (.Name x px) ei spos] e pos) (fun P ρ M => fa ρ M fun d M => ∃ q, ρ[i]? = some (some (.fz (.mob q))) ∧ fb ρ M fun n M => ∃ l k j, M q = some (.lst l) ∧ n = .int k ∧ ixN l.length k = some j ∧ P.nx ρ (M.put q (.lst (l.set j d)))) := by
  obtain ⟨te, pe, se⟩ := he.ex
  obtain ⟨tk, pk, sk⟩ := hk.ex
  refine ⟨_, ps_asg pe (pg_sub (pe_var hN hv hd hcd) pk set_list ha) hs hw h1, fun B0 H0 B H ρ σ S P D s hg k1 k2 k3 k4 => se B H ρ σ S _ _ s.st hg fun d v B1 H1 g1 r1 hk1 => ?_⟩
  have s1 := s.grow g1
  obtain ⟨q, el, hk1⟩ := hk1
  obtain ⟨vq, T, hσ, rq, _⟩ := s1.slot el
  cases rq with
  | fz rq =>
    cases rq
    refine ⟨_, hσ, sk B1 H1 ρ σ S _ _ s1.st hk1 fun n vn B2 H2 g2 r2 p2 => ?_⟩
    obtain ⟨l, kk, j, em, rfl, hj, p2⟩ := p2
    cases r2
    obtain ⟨hb, xs, hx, hlen, rx⟩ := g2.base.wd q _ em
    refine ⟨q, xs, kk, j, rfl, rfl, hx, by rw [← rx.length]; exact hj, ?_⟩
    have g3 := g2.base.chg (p := q) (o := .lst (l.set j d)) (u := .lst (xs.set j v)) (by rw [em]; exact fun z => nomatch z) ⟨_, upd_same, by rw [List.length_set]; exact hlen, rx.set j (r1.up g2.b)⟩
    exact k1 _ _ _ _ S ((s1.grow g2).grow g3) p2

/-! ### signs, chains -/
theorem ed_neg (ha : EV X a fa) : ED X (.UnaryOp .USub a pos) (fun ρ M P => fa ρ M fun x M => ∃ i, x = .int i ∧ P (.int (-i)) M) := by
  obtain ⟨ta, pa, sa⟩ := ha.ex
  refine ⟨_, pe_un un_neg pa, fun B H ρ σ S P Q st hf k => sa B H ρ σ S _ _ st hf fun d v B1 H1 g1 r1 p1 => ?_⟩
  obtain ⟨i, rfl, p1⟩ := p1
  cases r1
  exact ⟨i, rfl, k _ _ B1 H1 g1 (.int _) p1⟩
theorem ec_chain {op op' : CmpOp} {r r' : R2} {h h' : D → D → Mem → (D → Mem → Prop) → Prop} (ho : OpR X (compareOp op) r) (ho' : OpR X (compareOp op') r') (hs : SR2 X.K r h) (hs' : SR2 X.K r' h') (ha : EV X a fa) (hb : EV X b fb) (hc : EV X c fc)
    (hm : lastMarks [op, op'] [b, c] = false := by with_unfolding_all rfl) : EC X (.Compare a [op, op'] [b, c] pos) (fun ρ M P => fa ρ M fun x M => fb ρ M fun y M => h x y M fun z M => ∃ t, z = .bl t ∧ if t = true then fc ρ M fun w M => h' y w M P else P (.bl false) M) := by
  obtain ⟨ta, pa, sa⟩ := ha.ex
  obtain ⟨tb, pb, sb⟩ := hb.ex
  obtain ⟨tc, pc, sc⟩ := hc.ex
  have snd : SndD X.K (tChain r r' ta tb tc) (fun ρ M P => fa ρ M fun x M => fb ρ M fun y M => h x y M fun z M => ∃ t, z = .bl t ∧ if t = true then fc ρ M fun w M => h' y w M P else P (.bl false) M) := fun B H ρ σ S P Q st hf k =>
    sa B H ρ σ S _ _ st hf fun x vx B1 H1 g1 r1 hf1 => sb B1 H1 ρ σ S _ _ (st.grow g1) hf1 fun y vy B2 H2 g2 r2 hf2 => hs B2 H2 x y vx vy _ _ g2.base (r1.up g2.hm) r2 hf2 fun z vz B3 H3 g3 r3 p3 => by
      obtain ⟨t, rfl, p3⟩ := p3
      cases r3
      refine ⟨t, rfl, ?_⟩
      have g := (g1.trans g2).trans g3
      cases t with
      | true => exact sc B3 H3 ρ σ S _ _ (st.grow g) p3 fun w vw B4 H4 g4 r4 p4 => hs' B4 H4 y w vy vw P Q g4.base ((r2.up g3.hm).up g4.hm) r4 p4 fun d v B5 H5 g5 r5 p5 => k d v B5 H5 ((g.trans g4).trans g5) r5 p5
      | false => exact k _ _ B3 H3 g (.bl false) p3
  exact ⟨⟨_, pe_chain ho ho' pa pb pc hm, snd⟩, ⟨_, pt_chain ho ho' pa pb pc hm, snd_test snd⟩⟩
end
end DL

/-! DL9: a module's constants, what a law's def promises, the law's end. -/
namespace DL
open PySem L2 PySem.Spec
open PyProof.Rows hiding St
open PySem.PyData (strOk)
set_option autoImplicit false

theorem RG0.hu {k : Nat} {X : Cx} (h : RG0 k X) : X.A.units + 200 < cLine := by have := h.1.un; omega
/-- a module's name holds this, for good -/
def GC (K : PySem.W.Frag) (mg : Str → Option Value) (x : Str) (d : D) : Prop := ∃ (v : V) (u : Value), mg x = some u ∧ RelV v u ∧ ∀ B : Hp, Rep K B d v
theorem ed_gc {X : Cx} {x : Str} {d : D} {pos : Pos} (h : GC X.K X.mg x d) (hg : Gl X x := by rfl) (hd : (x == ("__debug__" : Str)) = false := by decide) : ED X (.Name x pos) (fun _ M P => P d M) := by
  obtain ⟨v, u, hm, r, hr⟩ := h
  exact ed_glob hg hm r hr hd
theorem gc_str {K : PySem.W.Frag} {mg : Str → Option Value} {x y : Str} {t : Tok} (h : mg x = some (.str y t)) (hy : strOk y = true := by decide +kernel) : GC K mg x (.str y) := ⟨.str y, _, h, ⟨t, rfl⟩, fun _ => .str hy⟩
theorem gc_int {K : PySem.W.Frag} {mg : Str → Option Value} {x : Str} {i : Int} {t : Tok} (h : mg x = some (.int i t)) : GC K mg x (.int i) := ⟨.int i, _, h, ⟨t, rfl⟩, fun _ => .int i⟩
theorem gc_tupS {K : PySem.W.Frag} {mg : Str → Option Value} {x : Str} {a : Addr} {dd : Option Addr} {its : Array Value} {n : Nat} {sl : Array (Option Value)} {ys : List Str} (h : mg x = some (.ref a)) (hk : K.lookup a = some ⟨.type "tuple", dd, .seq its n, sl⟩) (hv : Vals (ys.map V.str) its.toList)
    (hl : ys.length ≤ 1000 := by decide) (hy : ∀ y ∈ ys, strOk y = true := by decide +kernel) : GC K mg x (.tup (ys.map .str)) := by
  have h1 : its.size ≤ sizeLine := by
    have := hv.length
    rw [List.length_map] at this
    rw [sizeLine_eq]
    have e : its.toList.length = its.size := Array.length_toList
    omega
  refine ⟨.ref a, _, h, rfl, fun B => .tup (.inr ⟨_, its, n, hk, rfl, rfl, h1, hv⟩) (by rw [List.length_map, sizeLine_eq]; omega) (reps_strs hy)⟩
/-- a law: of every short script it tells True -/
def spLaw : DSpec := DSpec.pure (ι := List Int) (fun ns ds => ds = [.scr ns] ∧ ns.length ≤ 63) (fun _ t => t = .fz (.bl true))
section
variable {P : Program} {w : World} {K : PySem.W.Frag} {mg mb : Str → Option Value} {s : Shared} {a : Addr} {vs : List Value} {ns : List Int}
abbrev listO (vs : List Value) : Obj := { cls := .type "list", data := .seq vs.toArray }
/-- what a law's call tracks: the script, known to its object; nothing, where the module itself holds that list -/
def scriptH (K : PySem.W.Frag) (a : Addr) (vs : List Value) (ns : List Int) : Hp := fun b => if b = a ∧ K.lookup a = none then some (.frz (listO vs) (.lst (ns.map V.int))) else none
theorem scriptH_some {b : Addr} {u : HO} (h : scriptH K a vs ns b = some u) : b = a ∧ K.lookup a = none ∧ u = .frz (listO vs) (.lst (ns.map V.int)) := by
  unfold scriptH at h
  split at h
  · next q => cases h; exact ⟨q.1, q.2, rfl⟩
  · cases h
theorem scriptH_sq (KX : K.In s.heap) (ha : s.heap.get? a = some (listO vs)) (hi : IntsAre vs ns) (hl : ns.length ≤ sizeLine) : SqL K (scriptH K a vs ns) a (ns.map V.int) := by
  cases e : K.lookup a with
  | none => exact .inl (.inr ⟨_, if_pos ⟨rfl, e⟩⟩)
  | some o =>
    have z := KX a o e
    rw [ha] at z
    cases z
    exact .inr ⟨_, vs.toArray, _, e, rfl, rfl, rfl, by rw [List.size_toArray, hi.length]; exact hl, by simpa using vals_ints hi⟩
/-- the base that a law's call leaves alone, and what it wants of it -/
theorem script_env (KX : K.In s.heap) (g : s.heap.Ns mainGlobals mg) (b : s.heap.Ns builtinsNs mb) (bb : ∀ x : Str, x ≠ "__name__" → mb x = bootBuiltins x) (nl : s.heap.NoLimit) (ng : s.gens = #[]) (ha : s.heap.get? a = some (listO vs)) (hi : IntsAre vs ns) (hl : ns.length ≤ sizeLine) :
    Env0 P w K mg (hidT s.heap (scriptH K a vs ns)) callerA [] s (scriptH K a vs ns) := by
  have stands : ∀ {m : Str → Option Value} {n : Addr}, s.heap.Ns n m → (hidT s.heap (scriptH K a vs ns)).Ns n m := by
    rintro m n ⟨o, es, ep, e, d, r⟩
    refine ⟨o, es, ep, hidT_get e ?_, d, r⟩
    cases z : scriptH K a vs ns n with
    | none => rfl
    | some u =>
      obtain ⟨rfl, _⟩ := scriptH_some z
      rw [ha] at e
      cases e
      cases d
  obtain ⟨mc, n1, n2⟩ := nl
  refine ⟨rfl, ⟨fun x o e => hidT_get (KX x o e) ?_, stands g, ⟨mb, stands b, bb⟩, ⟨mc, stands n1, n2⟩⟩, fun _ _ e => of_hidT e, Nat.le_of_eq (hidT_size _ _), trivial, nofun, fun x u z => ?_, .of_eq ng⟩
  · cases z : scriptH K a vs ns x with
    | none => rfl
    | some u =>
      obtain ⟨rfl, n, _⟩ := scriptH_some z
      rw [n] at e
      cases e
  · obtain ⟨rfl, _, rfl⟩ := scriptH_some z
    exact ⟨ha, by simpa using hl, vs, _, vals_ints hi, ha⟩
end
theorem lawD {l : PySem.W.OpenLaw} {q : Program} {loose : List Str} {XP : (Str → Option Value) → Heap → Prop} {YP : World → Heap → Prop} {d : DefRec} {K : Params → PySem.W.Frag} {k : Nat} {x : Str} (hn : l.most = some 63) (hdf : d.params.defaults = []) (hr : Room k callerA)
    (hY : ∀ (w : World) (h : Heap), YP w h → (K w.params).In h)
    (F : ∀ (w : World) (mg : Str → Option Value) (fa : Addr) (h : Heap), (K w.params).In h → h.Ns mainGlobals mg → mg d.name = some (.ref fa) →
      ∃ fd : FuncData, (∀ (s : Shared) (u : Value), BindsTo s fd ⟨[u], []⟩ [(x, u)]) ∧ ∀ base : Heap, (K w.params).In base → base.Ns mainGlobals mg → FnG l.prog w (K w.params) mg base CX0 k fa fd [x] (spOf (K w.params) 1 spLaw)) :
    PySem.W.WalkO q loose XP YP l.row.toRowW d [] (fun f vs => PySem.call f vs) := by
  refine Att.attach_call hn hdf fun w s₀ s mg mb fa o pm cd doc a vs ns G Y ho hd hcd hmg ha hi hlen ng => ?_
  have KX := hY w _ Y
  have hl : ns.length ≤ sizeLine := by rw [sizeLine_eq]; omega
  have sq := scriptH_sq KX ha hi hl
  have env := script_env (P := l.prog) (w := w) KX G.T.g G.T.b G.T.builtins G.T.nolimit ng ha hi hl
  obtain ⟨fd, hb, hF⟩ := F w mg fa _ KX G.T.g hmg
  refine codeAny_mono ((hF _ env.mod.kin env.mod.glob).run callerA [] s _ ⟨[.ref a], []⟩ [.ref a] [.ref a] (fun v _ => v = .bl true) (fun _ _ _ => False) ⟨hr, rfl⟩ env (hb s (.ref a)) (.cons rfl .nil)
    ⟨ns, ⟨_, Mem.no⟩, [.scr ns], ⟨Ext.rfl, nofun⟩, .cons (.scr sq) .nil, rfl, ⟨rfl, hlen⟩, fun t v B' H' T _ r _ p => ?_⟩) ?_
  · obtain rfl : t = .fz (.bl true) := p
    cases r with
    | fz r => cases r; rfl
  · rintro (e | _ | _ | _ | u) s' h
    · exact h.elim
    · exact h.elim
    · exact h.elim
    · exact h.elim
    · obtain ⟨_, H', os, bare, un, hok, r, rfl⟩ := h
      cases (show u = Value.bool true from r)
      refine ⟨rfl, .of_keep fun b o e => ?_, os, bare⟩
      cases z : scriptH (K w.params) a vs ns b with
      | none => exact un.keep b o e z nofun nofun
      | some v =>
        obtain ⟨rfl, _, rfl⟩ := scriptH_some z
        rw [ha] at e
        cases e
        exact (hok _ _ (un.frzs _ _ _ z)).1
/-- what is never asked -/
theorem DF.never {P : Program} {w : World} {K : PySem.W.Frag} {mg : Str → Option Value} {base : Heap} {st : Stmt} {x : Str} {ps : List Str} {k : Nat} {s : DSpec} (h : ∃ (f : Addr) (fd : FuncData), mg x = some (.ref f) ∧ Fun K x x st f fd ∧ Binds K fd ps []) (n : ∀ i M ds, ¬ s.pre i M ds) : DF P w K mg base st x ps k s := by
  obtain ⟨f, fd, h1, h2, h3⟩ := h
  exact ⟨f, fd, h1, h2, h3, ⟨fun vs H Q E ⟨i, B, ds, _, _, _, p, _⟩ => absurd p (n _ _ _), fun A fr s0 H args us vs Q E _ _ _ _ ⟨i, B, ds, _, _, _, p, _⟩ => absurd p (n _ _ _)⟩⟩
end DL

/-! DLS: plain readings, case by case: what simp is given. -/
namespace DL
open PySem L2 PySem.Spec
open PyProof.Rows hiding St
open PySem.PyData (strOk)
set_option autoImplicit false
section
variable {M : Mem} {P : D → Mem → Prop} {PO : OT → Mem → Prop} {l m : List D} {i j k : Int} {x y : Str} {p : Addr} {b : Bool} {ks : List Key} {ns : List Int}
theorem hIx_tup : hIx (.tup l) (.int i) M P = ∃ d, atI l i = some d ∧ P d M := rfl
theorem hIx_lst : hIx (.lst l) (.int i) M P = ∃ d, atI l i = some d ∧ P d M := rfl
theorem hIx_scr : hIx (.scr ns) (.int i) M P = ∃ n, atI ns i = some n ∧ P (.int n) M := rfl
theorem hIx_mob : hIx (.mob p) (.int i) M P = ∃ l d, M p = some (.lst l) ∧ atI l i = some d ∧ P d M := rfl
theorem hIx_str : hIx (.str x) (.int i) M P = (x.length ≤ sizeLine ∧ ∃ c, atI x.cps.toList i = some c ∧ P (.str ⟨#[c]⟩) M) := rfl
theorem hIxT_fz {d n : D} : hIxT (.fz d) n M P = hIx d n M P := rfl
theorem hIxT_ow {t : List OT} {n : D} : hIxT (.ow t) n M P = ∃ k d, n = .int k ∧ atI t k = some (.fz d) ∧ P d M := rfl
theorem hAdd_int : hAdd (.int i) (.int j) M PO = PO (.fz (.int (i + j))) M := rfl
theorem hAdd_str : hAdd (.str x) (.str y) M PO = (x.length + y.length ≤ sizeLine ∧ PO (.fz (.str (x ++ y))) M) := rfl
theorem hAdd_tup : hAdd (.tup l) (.tup m) M PO = (l.length + m.length ≤ sizeLine ∧ PO (.fz (.tup (l ++ m))) M) := rfl
theorem hAdd_lst : hAdd (.lst l) (.lst m) M PO = (l.length + m.length ≤ sizeLine ∧ PO (.ow ((l ++ m).map .fz)) M) := rfl
theorem hMul_int : hMul (.int i) (.int j) M PO = (CMul i j ∧ PO (.fz (.int (i * j))) M) := rfl
theorem hMul_lst : hMul (.lst l) (.int k) M PO = (-(2 ^ 63) ≤ k ∧ k < 2 ^ 63 ∧ l.length * k.toNat ≤ sizeLine ∧ PO (.ow ((repD l k).map .fz)) M) := rfl
theorem hSl_tup {lo hi : Option Int} : hSl (.tup l) lo hi M PO = PO (.fz (.tup (cutL l lo hi))) M := rfl
theorem hSl_lst {lo hi : Option Int} : hSl (.lst l) lo hi M PO = PO (.ow ((cutL l lo hi).map .fz)) M := rfl
theorem hSl_str {lo hi : Option Int} : hSl (.str x) lo hi M PO = (x.length ≤ sizeLine ∧ PO (.fz (.str (cutS x lo hi))) M) := rfl
theorem hLen_lst : hLen [.lst l] M P = P (.int l.length) M := rfl
theorem hLen_tup : hLen [.tup l] M P = P (.int l.length) M := rfl
theorem hLen_scr : hLen [.scr ns] M P = P (.int ns.length) M := rfl
theorem hLen_str : hLen [.str x] M P = (x.length ≤ sizeLine ∧ P (.int x.length) M) := rfl
theorem hLen_mob : hLen [.mob p] M P = ∃ l, M p = some (.lst l) ∧ P (.int l.length) M := rfl
theorem hInt_int : hInt1 [.int i] M P = P (.int i) M := rfl
theorem hInt_bl : hInt1 [.bl b] M P = P (.int (if b then 1 else 0)) M := rfl
theorem hAbs_int : hAbs [.int i] M P ↔ P (.int (if i < 0 then -i else i)) M := by simp [hAbs]
theorem hSeq_lst {mk : List D → OT} : hSeq mk [.lst l] M PO = PO (mk l) M := rfl
theorem hSeq_tup {mk : List D → OT} : hSeq mk [.tup l] M PO = PO (mk l) M := rfl
theorem hIn_lst {neg : Bool} {d : D} : hIn neg d (.lst l) M P = (d.plain = true ∧ D.plains l = true ∧ min (D.deps l) d.dep ≤ 100 ∧ P (.bl (if neg then !d.isIn l else d.isIn l)) M) := rfl
theorem hIn_tup {neg : Bool} {d : D} : hIn neg d (.tup l) M P = (d.plain = true ∧ D.plains l = true ∧ min (D.deps l) d.dep ≤ 100 ∧ P (.bl (if neg then !d.isIn l else d.isIn l)) M) := rfl
theorem hIn_str {neg : Bool} {d : D} : hIn neg d (.str x) M P = ∃ i, d = .str i ∧ P (.bl (if neg then !subStr i x else subStr i x)) M := rfl
theorem hEq_eq {neg : Bool} {d e : D} : hEq neg d e M P = (D.eqOk d e = true ∧ P (.bl (ng neg (D.eqv d e))) M) := rfl
theorem hI0_int {g : Int → Int → D} : hI0 g (.int i) (.int j) M P ↔ P (g i j) M := by simp [hI0]
theorem hI_int {C : Int → Int → Prop} {g : Int → Int → D} : hI C g (.int i) (.int j) M P ↔ (C i j ∧ P (g i j) M) := by simp [hI]
theorem ng_f : ng false b = b := rfl
theorem ng_t : ng true b = !b := rfl
theorem atI_0 {α : Type} {a : α} {l : List α} : atI (a :: l) 0 = some a := by simp [atI, ixN]
theorem atI_1 {α : Type} {a b : α} {l : List α} : atI (a :: b :: l) 1 = some b := atI_nat (j := 1) rfl
theorem atI_2 {α : Type} {a b c : α} {l : List α} : atI (a :: b :: c :: l) 2 = some c := atI_nat (j := 2) rfl
theorem atI_m {α : Type} {l : List α} {a : α} (h : l.getLast? = some a) : atI l (-1) = some a := by
  obtain ⟨ys, rfl⟩ := List.getLast?_eq_some_iff.mp h
  exact atI_last _ _
theorem atI_hd {α : Type} {l : List α} {a : α} (h : l.head? = some a) : atI l 0 = some a := by
  cases l with
  | nil => cases h
  | cons b r => cases h; exact atI_0
end
/-! ### loops by what holds ahead of each turn -/
theorem compD_rec {g : RG} {f : RT} {t : RO} {ρ : Env} {P : List OT → Mem → Prop} (I : List D → List OT → Mem → Prop) : ∀ (items : List D) (acc : List OT) (M : Mem), I items acc M → (∀ acc M, I [] acc M → P acc M) →
    (∀ d ds acc M, I (d :: ds) acc M → ∀ C : List OT → Mem → Prop, (∀ acc M, I ds acc M → C acc M) → g d ρ M fun ρ' M => f ρ' M fun b M => if b = true then t ρ' M fun y M => C (acc ++ [y]) M else C acc M) → compD g f t ρ P items acc M
  | [], acc, M, h0, hn, _ => hn acc M h0
  | d :: ds, acc, M, h0, hn, hs => hs d ds acc M h0 (compD g f t ρ P ds) fun acc M h => compD_rec I ds acc M h hn hs
theorem compS_rec {g : RG} {f : RT} {t : RO} {ρ : Env} {P : List OT → Mem → Prop} (I : List D → List OT → Mem → Prop) : ∀ (items : List D) (acc : List OT) (M : Mem), I items acc M → (∀ acc M, I [] acc M → P acc M) →
    (∀ d ds acc M, I (d :: ds) acc M → ∀ C : List OT → Mem → Prop, (∀ acc M, I ds acc M → C acc M) → g d ρ M fun ρ' M => f ρ' M fun b M => if b = true then t ρ' M fun y M => acc.length < sizeLine ∧ C (acc ++ [y]) M else C acc M) → compS g f t ρ P items acc M
  | [], acc, M, h0, hn, _ => hn acc M h0
  | d :: ds, acc, M, h0, hn, hs => hs d ds acc M h0 (compS g f t ρ P ds) fun acc M h => compS_rec I ds acc M h hn hs
theorem comp2D_rec {g g1 : RG} {f f1 : RT} {fi1 : RI} {vs1 : List Nat} {t : RO} {ρ : Env} {P : List OT → Mem → Prop} (I : List D → List OT → Mem → Prop) : ∀ (items : List D) (acc : List OT) (M : Mem), I items acc M → (∀ acc M, I [] acc M → P acc M) →
    (∀ d ds acc M, I (d :: ds) acc M → ∀ C : List OT → Mem → Prop, (∀ acc M, I ds acc M → C acc M) → g d ρ M fun ρ' M => f ρ' M fun b M => if b = true then fi1 ρ' M fun items M => compS g1 f1 t (wipeE ρ' vs1) C items acc M else C acc M) → comp2D g f fi1 vs1 g1 f1 t ρ P items acc M
  | [], acc, M, h0, hn, _ => hn acc M h0
  | d :: ds, acc, M, h0, hn, hs => hs d ds acc M h0 (comp2D g f fi1 vs1 g1 f1 t ρ P ds) fun acc M h => comp2D_rec I ds acc M h hn hs
theorem forD_rec {g : RG} {b : RS} {P : DEnds} (I : List D → Env → Mem → Prop) : ∀ (items : List D) (ρ : Env) (M : Mem), I items ρ M → (∀ ρ M, I [] ρ M → P.nx ρ M) →
    (∀ d ds ρ M, I (d :: ds) ρ M → ∀ C : Env → Mem → Prop, (∀ ρ M, I ds ρ M → C ρ M) → g d ρ M fun ρ' M => b { nx := C, ct := C, bk := P.nx, rt := P.rt } ρ' M) → forD g b P items ρ M
  | [], ρ, M, h0, hn, _ => hn ρ M h0
  | d :: ds, ρ, M, h0, hn, hs => hs d ds ρ M h0 (forD g b P ds) fun ρ M h => forD_rec I ds ρ M h hn hs
theorem trues_all {l : List OT} (h : ∀ t ∈ l, t = .fz (.bl true)) : ∃ bs : List Bool, l.map OT.toD = bs.map D.bl ∧ bs.all id = true := by
  refine ⟨List.replicate l.length true, ?_, by simp⟩
  induction l with
  | nil => rfl
  | cons t l ih =>
    rw [h t List.mem_cons_self, List.length_cons, List.replicate_succ, List.map_cons, List.map_cons, ih fun t ht => h t (List.mem_cons_of_mem _ ht)]
    rfl
theorem deps_mem {l : List D} {d : D} (h : d ∈ l) : d.dep ≤ D.deps l := by
  induction l with
  | nil => cases h
  | cons e l ih =>
    simp only [D.deps]
    rcases List.mem_cons.mp h with rfl | h
    · omega
    · have := ih h; omega
theorem plains_mem {l : List D} {d : D} (hl : D.plains l = true) (h : d ∈ l) : d.plain = true := by
  rw [D.plains_all, List.all_eq_true] at hl
  exact hl d h
theorem dep_tup {l : List D} : (D.tup l).dep = D.deps l + 1 := by simp [D.dep]
theorem dep_lst {l : List D} : (D.lst l).dep = D.deps l + 1 := by simp [D.dep]
theorem plain_tup {l : List D} : (D.tup l).plain = D.plains l := by simp [D.plain]
theorem plain_lst {l : List D} : (D.lst l).plain = D.plains l := by simp [D.plain]
theorem mem_zip_self {l : List D} {x : D} (h : x ∈ zipD l l) : ∃ y ∈ l, x = .tup [y, y] := by
  induction l with
  | nil => cases h
  | cons d l ih =>
    have e : zipD (d :: l) (d :: l) = .tup [d, d] :: zipD l l := rfl
    rw [e] at h
    rcases List.mem_cons.mp h with rfl | h
    · exact ⟨d, List.mem_cons_self, rfl⟩
    · obtain ⟨y, hy, rfl⟩ := ih h
      exact ⟨y, List.mem_cons_of_mem _ hy, rfl⟩
instance : Nonempty Mem := ⟨Mem.no⟩
theorem cutL_1 {α : Type} {a : α} {l : List α} : cutL (a :: l) (some 1) none = l := by
  have e1 : HT.sIx (a :: l).length 0 (some 1) = 1 := by
    show min (1 : Int).toNat (a :: l).length = 1
    rw [List.length_cons]
    show min 1 (l.length + 1) = 1
    omega
  have e2 : HT.sIx (a :: l).length (a :: l).length none = l.length + 1 := rfl
  unfold cutL
  rw [e1, e2]
  show l.take (l.length + 1 - 1) = l
  simp
theorem items_tup {l : List D} : D.items (.tup l) = some l := rfl
theorem items_lst {l : List D} : D.items (.lst l) = some l := rfl
theorem items_scr {ns : List Int} : D.items (.scr ns) = some (ns.map D.int) := rfl
theorem fz_app {l m : List D} : l.map OT.fz ++ m.map OT.fz = (l ++ m).map OT.fz := by rw [List.map_append]
theorem fz_inj {l m : List D} : (l.map OT.fz = m.map OT.fz) ↔ l = m := ⟨fun h => (List.map_inj_right fun x y e => OT.fz.inj e).mp h, fun h => by rw [h]⟩
theorem fz_nil : ([] : List OT) = ([] : List D).map OT.fz := rfl
theorem fz_snoc {l : List D} {d : D} : l.map OT.fz ++ [.fz d] = (l ++ [d]).map OT.fz := by rw [List.map_append]; rfl
/-- all items as they are -/
theorem compS_id {i : Nat} {ρ : Env} {P : List OT → Mem → Prop} (hi : i < ρ.length) : ∀ {items : List D} {acc : List OT} {M : Mem}, acc.length + items.length ≤ 16777216 → P (acc ++ items.map .fz) M →
    compS (fun d ρ M P => i < List.length ρ ∧ P (List.set ρ i (some (OT.fz d))) M) (fun x M P => P true M) (fun ρ M P => ∃ d, ρ[i]? = some (some (OT.fz d)) ∧ P (OT.fz d) M) ρ P items acc M
  | [], acc, M, _, h => by simpa [compS] using h
  | d :: ds, acc, M, hl, h => by
    rw [List.length_cons] at hl
    refine ⟨hi, ?_⟩
    show ∃ d', (ρ.set i (some (OT.fz d)))[i]? = some (some (OT.fz d')) ∧ acc.length < sizeLine ∧ _
    refine ⟨d, List.getElem?_set_self hi, by rw [sizeLine_eq]; omega, ?_⟩
    exact compS_id hi (by rw [List.length_append, List.length_singleton]; omega) (by simpa using h)
theorem kind_non {M : Mem} : D.kind M .non = some .non := rfl
theorem kind_bl {M : Mem} {b : Bool} : D.kind M (.bl b) = some .bl := rfl
theorem kind_int {M : Mem} {i : Int} : D.kind M (.int i) = some .int := rfl
theorem kind_str {M : Mem} {x : Str} : D.kind M (.str x) = some .str := rfl
theorem kind_lst {M : Mem} {l : List D} : D.kind M (.lst l) = some .lst := rfl
theorem kind_tup {M : Mem} {l : List D} : D.kind M (.tup l) = some .tup := rfl
theorem kind_dk {M : Mem} {ks : List Key} {l : List D} : D.kind M (.dk ks l) = some .dk := rfl
theorem ixN_30 : ixN 3 0 = some 0 := rfl
theorem ixN_31 : ixN 3 1 = some 1 := rfl
theorem ixN_32 : ixN 3 2 = some 2 := rfl
theorem ixN_10 : ixN 1 0 = some 0 := rfl
theorem atI_map {α β : Type} {f : α → β} {l : List α} {i : Int} : atI (l.map f) i = (atI l i).map f := by
  unfold atI
  rw [List.length_map]
  cases ixN l.length i with
  | none => rfl
  | some j => show (l.map f)[j]? = _; rw [List.getElem?_map]; rfl
theorem ofString_inj {a b : String} : (Str.ofString a = Str.ofString b) ↔ a = b := by
  constructor
  · intro h
    rw [Str.ofString_eq_toList, Str.ofString_eq_toList] at h
    have h : a.toList.map Char.toNat = b.toList.map Char.toNat := by simpa using h
    have inj : Function.Injective Char.toNat := fun x y e => Char.ext (UInt32.toNat_inj.mp e)
    exact String.toList_inj.mp ((List.map_inj_right fun x y e => inj e).mp h)
  · rintro rfl; rfl
/-- == of data, part by part -/
def D.eqvs : List D → List D → Bool
  | [], [] => true
  | x :: xs, y :: ys => D.eqv x y && D.eqvs xs ys
  | _, _ => false
theorem eqvAll_eq : ∀ xs ys : List D, PyData.eqvAll (D.toPs xs) (D.toPs ys) = D.eqvs xs ys
  | [], [] => by simp [D.toPs, PyData.eqvAll, D.eqvs]
  | x :: xs, [] => by simp [D.toPs, PyData.eqvAll, D.eqvs]
  | [], y :: ys => by simp [D.toPs, PyData.eqvAll, D.eqvs]
  | x :: xs, y :: ys => by simp only [D.toPs, PyData.eqvAll, D.eqvs, eqvAll_eq xs ys]; rfl
theorem eqv_tup {xs ys : List D} : D.eqv (.tup xs) (.tup ys) = D.eqvs xs ys := by rw [← eqvAll_eq]; simp [D.eqv, D.toP, PyData.eqv]
theorem eqv_lst {xs ys : List D} : D.eqv (.lst xs) (.lst ys) = D.eqvs xs ys := by rw [← eqvAll_eq]; simp [D.eqv, D.toP, PyData.eqv]
theorem str_beq {x y : Str} : (x == y) = decide (x = y) := by
  by_cases h : x = y
  · subst h; simp
  · simp [h]
theorem eqv_str {x y : Str} : D.eqv (.str x) (.str y) = decide (x = y) := by rw [← str_beq]; simp [D.eqv, D.toP, PyData.eqv]
theorem eqv_txt {x y : Str} : D.eqv (.txt x) (.txt y) = decide (x = y) := by rw [← str_beq]; simp [D.eqv, D.toP, PyData.eqv]
theorem eqv_int {x y : Int} : D.eqv (.int x) (.int y) = decide (x = y) := by simp [D.eqv, D.toP, PyData.eqv]; rfl
theorem eqv_bl {x y : Bool} : D.eqv (.bl x) (.bl y) = decide (x = y) := by simp [D.eqv, D.toP, PyData.eqv]; cases x <;> cases y <;> rfl
theorem eqv_non : D.eqv .non .non = true := by simp [D.eqv, D.toP, PyData.eqv]
section
variable {x y : Str} {l m : List D} {b : Bool} {i : Int}
theorem eqv_tup_lst : D.eqv (.tup l) (.lst m) = false := by simp [D.eqv, D.toP, PyData.eqv]
theorem eqv_lst_tup : D.eqv (.lst l) (.tup m) = false := by simp [D.eqv, D.toP, PyData.eqv]
theorem eqv_tup_str : D.eqv (.tup l) (.str y) = false := by simp [D.eqv, D.toP, PyData.eqv]
theorem eqv_str_tup : D.eqv (.str x) (.tup m) = false := by simp [D.eqv, D.toP, PyData.eqv]
theorem eqv_str_lst : D.eqv (.str x) (.lst m) = false := by simp [D.eqv, D.toP, PyData.eqv]
theorem eqv_lst_str : D.eqv (.lst l) (.str y) = false := by simp [D.eqv, D.toP, PyData.eqv]
theorem eqv_str_non : D.eqv (.str x) .non = false := by simp [D.eqv, D.toP, PyData.eqv]
theorem eqv_non_str : D.eqv .non (.str x) = false := by simp [D.eqv, D.toP, PyData.eqv]
theorem eqv_tup_non : D.eqv (.tup l) .non = false := by simp [D.eqv, D.toP, PyData.eqv]
theorem eqv_non_tup : D.eqv .non (.tup l) = false := by simp [D.eqv, D.toP, PyData.eqv]
theorem eqv_str_int : D.eqv (.str x) (.int i) = false := by simp [D.eqv, D.toP, PyData.eqv]
theorem eqv_int_str : D.eqv (.int i) (.str x) = false := by simp [D.eqv, D.toP, PyData.eqv]
theorem eqv_str_bl : D.eqv (.str x) (.bl b) = false := by simp [D.eqv, D.toP, PyData.eqv]
theorem eqv_bl_str : D.eqv (.bl b) (.str x) = false := by simp [D.eqv, D.toP, PyData.eqv]
end
/-- of texts in a row -/
theorem isIn_strs {x : Str} {ys : List Str} : D.isIn (.str x) (ys.map .str) = decide (x ∈ ys) := by
  unfold D.isIn
  rw [List.any_map]
  induction ys with
  | nil => rfl
  | cons y ys ih =>
    rw [List.any_cons, ih]
    show (D.eqv (.str y) (.str x) || _) = _
    rw [eqv_str]
    by_cases h : x = y
    · subst h; simp
    · have h' : ¬ y = x := fun e => h e.symm
      simp [h, h']
theorem eqOk_str {x y : Str} : D.eqOk (.str x) (.str y) = true := by simp [D.eqOk, D.plain, D.dep]
theorem eqOk_int {x y : Int} : D.eqOk (.int x) (.int y) = true := by simp [D.eqOk, D.plain, D.dep]
theorem eqOk_bl {x y : Bool} : D.eqOk (.bl x) (.bl y) = true := by simp [D.eqOk, D.plain, D.dep]
theorem eqOk_txt {x y : Str} : D.eqOk (.txt x) (.txt y) = true := rfl
mutual
theorem eqv_self : ∀ d : D, d.plain = true → D.eqv d d = true
  | .non, _ => eqv_non
  | .bl b, _ => by rw [eqv_bl]; simp
  | .int i, _ => by rw [eqv_int]; simp
  | .str x, _ => by rw [eqv_str]; simp
  | .tup l, h => by rw [eqv_tup]; exact eqvs_self l (by simpa only [D.plain] using h)
  | .lst l, h => by rw [eqv_lst]; exact eqvs_self l (by simpa only [D.plain] using h)
  | .dk _ _, h => by simp [D.plain] at h
  | .ob _ _ _, h => by simp [D.plain] at h
  | .scr _, h => by simp [D.plain] at h
  | .mob _, h => by simp [D.plain] at h
  | .txt _, h => by simp [D.plain] at h
theorem eqvs_self : ∀ l : List D, D.plains l = true → D.eqvs l l = true
  | [], _ => by simp [D.eqvs]
  | d :: l, h => by
    simp only [D.plains, Bool.and_eq_true] at h
    simp only [D.eqvs, eqv_self d h.1, eqvs_self l h.2, Bool.and_self]
end
theorem eqOk_of {x y : D} (h1 : x.plain = true) (h2 : y.plain = true) (h3 : x.dep ≤ 100 ∨ y.dep ≤ 100) : D.eqOk x y = true := by
  have h4 : min x.dep y.dep ≤ 100 := by omega
  unfold D.eqOk
  split
  · rfl
  · simp [h1, h2, h4]
theorem plains_strs {ys : List Str} : D.plains (ys.map .str) = true := by rw [D.plains_all]; simp [D.plain]
theorem deps_strs {ys : List Str} : D.deps (ys.map .str) = 0 := by
  induction ys with
  | nil => rfl
  | cons y ys ih => rw [List.map_cons, D.deps, ih]; rfl
theorem toD_map_fz {l : List D} : (OT.ow (l.map .fz)).toD = .lst l := by rw [OT.toD_ow, OT.map_fz]
/-- the names' data at the entry -/
theorem startE_cons {a : Str} {N : List Str} {d : D} {ds : List D} : startE (a :: N) (d :: ds) = some (.fz d) :: startE N ds := by simp [startE]
theorem startE_nil {N : List Str} : startE N [] = List.replicate N.length none := by simp [startE]
/-! ### the box of draws: its numbers; how often it was drawn from -/
def boxL (a b c : Int) : Mo := .lst [.int a, .int b, .int c]
def BoxOk (n : Nat) (a b c : Int) : Prop := 0 ≤ a ∧ 17 ≤ b ∧ b < 2 ^ 62 ∧ 0 ≤ c ∧ c ≤ n
def IsBox (n : Nat) (M : Mem) (p : Addr) : Prop := ∃ a b c : Int, M p = some (boxL a b c) ∧ BoxOk n a b c
/-- only the box at p changes; it's been drawn from at most n times then -/
def BoxTo (p : Addr) (n : Nat) (M M' : Mem) : Prop := ∃ a b c : Int, M' = M.put p (boxL a b c) ∧ BoxOk n a b c
theorem BoxOk.mono {n m : Nat} {a b c : Int} (h : BoxOk n a b c) (e : n ≤ m) : BoxOk m a b c := ⟨h.1, h.2.1, h.2.2.1, h.2.2.2.1, by have := h.2.2.2.2; omega⟩
theorem IsBox.mono {n m : Nat} {M : Mem} {p : Addr} (h : IsBox n M p) (e : n ≤ m) : IsBox m M p := by
  obtain ⟨a, b, c, h1, h2⟩ := h
  exact ⟨a, b, c, h1, h2.mono e⟩
theorem BoxTo.mono {n m : Nat} {M M' : Mem} {p : Addr} (h : BoxTo p n M M') (e : n ≤ m) : BoxTo p m M M' := by
  obtain ⟨a, b, c, h1, h2⟩ := h
  exact ⟨a, b, c, h1, h2.mono e⟩
theorem BoxTo.is {n : Nat} {M M' : Mem} {p : Addr} (h : BoxTo p n M M') : IsBox n M' p := by
  obtain ⟨a, b, c, rfl, h2⟩ := h
  exact ⟨a, b, c, Mem.put_same, h2⟩
theorem BoxTo.trans {n m : Nat} {M M1 M2 : Mem} {p : Addr} (h : BoxTo p n M M1) (g : BoxTo p m M1 M2) : BoxTo p m M M2 := by
  obtain ⟨a, b, c, rfl, h2⟩ := h
  obtain ⟨a', b', c', rfl, h3⟩ := g
  exact ⟨a', b', c', Mem.put_put, h3⟩
theorem IsBox.to {n : Nat} {M : Mem} {p : Addr} (h : IsBox n M p) : BoxTo p n M M := by
  obtain ⟨a, b, c, h1, h2⟩ := h
  refine ⟨a, b, c, ?_, h2⟩
  funext q
  by_cases e : q = p
  · subst e; rw [Mem.put_same, h1]
  · rw [Mem.put_ne e]
theorem BoxTo.at {n : Nat} {M M' : Mem} {p q : Addr} (h : BoxTo p n M M') (e : q ≠ p) : M' q = M q := by
  obtain ⟨a, b, c, rfl, h2⟩ := h
  exact Mem.put_ne e
theorem IsBox.put {n : Nat} {M : Mem} {p q : Addr} {o : Mo} (h : IsBox n M p) (e : p ≠ q) : IsBox n (M.put q o) p := by
  obtain ⟨a, b, c, h1, h2⟩ := h
  exact ⟨a, b, c, (Mem.put_ne e).trans h1, h2⟩
theorem cmul_l {i j : Int} (h0 : -(2 ^ 64) < i) (h1 : i < 2 ^ 64) : CMul i j := .inl ⟨h0, h1⟩
theorem cmul_r {i j : Int} (h0 : -(2 ^ 64) < j) (h1 : j < 2 ^ 64) : CMul i j := .inr ⟨h0, h1⟩
end DL

/-! DLZ: tuple(zip(a, b)), list(zip(a, b)) of two lists. -/
namespace DL
open PySem L2 PySem.Spec
open PyProof.Rows hiding St
set_option autoImplicit false
theorem zip_len0 : typeLookup (.type "zip") "__len__" = pure none := am_miss_of_fast (by decide +kernel)
theorem zip_hint0 : typeLookup (.type "zip") "__length_hint__" = pure none := am_miss_of_fast (by decide +kernel)
/-- a zip of two lists, i turns done: its pair still free, or one that is out -/
def ZSt (z TI TO i1 i2 l1 l2 : Addr) (xs ys : Array Value) (N i : Nat) (h : Heap) : Prop :=
  ((IsZip h z TI TO .none ∧ i = 0 ∧ ∃ a b, IsPair h TO a b) ∨ ∃ T f oT, IsZipHeld h z TI TO T f ∧ h.get? T = some oT ∧ N ≤ T) ∧ IsPair h TI (.ref i1) (.ref i2) ∧ h.IsListIter i1 l1 i ∧ h.IsListIter i2 l2 i ∧ h.IsList l1 xs ∧ h.IsList l2 ys
/-- new pairs so far -/
def ZPr (xs ys : Array Value) (N : Nat) (h : Heap) (acc : Array Value) : Prop :=
  (∀ j : Nat, j < acc.size → ∃ T x y, acc[j]? = some (.ref T) ∧ xs[j]? = some x ∧ ys[j]? = some y ∧ IsPair h T x y ∧ N ≤ T) ∧ acc.toList.Nodup
theorem ZPr.keep {xs ys : Array Value} {N : Nat} {h h' : Heap} {acc : Array Value} (p : ZPr xs ys N h acc) (k : ∀ T o, N ≤ T → h.get? T = some o → h'.get? T = some o) : ZPr xs ys N h' acc :=
  ⟨fun j hj => by
    obtain ⟨T, x, y, e1, e2, e3, e4, e5⟩ := p.1 j hj
    exact ⟨T, x, y, e1, e2, e3, k T _ e5 e4, e5⟩, p.2⟩
theorem ZPr.push {xs ys : Array Value} {N : Nat} {h h' : Heap} {acc : Array Value} {x y : Value} (p : ZPr xs ys N h acc) (hN : N ≤ h.objs.size) (k : ∀ T o, N ≤ T → h.get? T = some o → h'.get? T = some o) (hx : xs[acc.size]? = some x) (hy : ys[acc.size]? = some y)
    (hT : IsPair h' h.objs.size x y) : ZPr xs ys N h' (acc.push (.ref h.objs.size)) := by
  refine ⟨fun j hj => ?_, ?_⟩
  · rw [Array.size_push] at hj
    rcases Nat.lt_or_ge j acc.size with q | q
    · obtain ⟨T, x, y, e1, e2, e3, e4, e5⟩ := p.1 j q
      exact ⟨T, x, y, by rw [Array.getElem?_push, if_neg (by omega)]; exact e1, e2, e3, k T _ e5 e4, e5⟩
    · have e : j = acc.size := by omega
      subst e
      exact ⟨h.objs.size, x, y, by rw [Array.getElem?_push, if_pos rfl], hx, hy, hT, hN⟩
  · rw [Array.toList_push]
    refine List.nodup_append.mpr ⟨p.2, by simp, fun a ha b hb e => ?_⟩
    rw [List.mem_singleton] at hb
    subst hb
    subst e
    obtain ⟨j, hj, ej⟩ := List.getElem_of_mem ha
    have hj' : j < acc.size := by simpa using hj
    obtain ⟨T, x, y, e1, e2, e3, e4, e5⟩ := p.1 j hj'
    have : acc[j]? = some (.ref h.objs.size) := by rw [← Array.getElem?_toList, List.getElem?_eq_getElem hj, ej]
    rw [this] at e1
    cases e1
    exact absurd (Heap.lt_size e4) (Nat.lt_irrefl _)
/-- all below N but these five stays -/
def ZKp (z TI TO i1 i2 S N : Nat) (h h' : Heap) : Prop := ∀ b o, b < N → b ≠ z → b ≠ TO → b ≠ i1 → b ≠ i2 → b ≠ S → h.get? b = some o → h'.get? b = some o
section
variable {prog : Program} {w : World} {A : Around} {R : Result → Shared → Prop} {z TI TO i1 i2 l1 l2 S N : Addr} {xs ys : Array Value} {res : Value}
theorem zip_loop (hh : A.in1.handled = none) (D : ZipApart z TI TO i1 i2 l1 l2) (hz : z < N) (hTI : TI < N) (hTO : TO < N) (h1 : i1 < N) (h2 : i2 < N) (hS : S < N) (hl1 : l1 < N) (hl2 : l2 < N)
    (s1 : S ≠ z) (s2 : S ≠ TI) (s3 : S ≠ TO) (s4 : S ≠ i1) (s5 : S ≠ i2) (s6 : S ≠ l1) (s7 : S ≠ l2) (hn : min xs.size ys.size ≤ sizeLine) (h0 : Heap) (s : Shared) :
    ∀ (k i : Nat) (h : Heap) (acc : Array Value) (c : Nat), min xs.size ys.size - i = k → i ≤ min xs.size ys.size → N ≤ h.objs.size → ZSt z TI TO i1 i2 l1 l2 xs ys N i h → h.get? S = some { cls := .type "list", dict := none, data := .seq acc c, slots := #[] } → acc.size = i → ZPr xs ys N h acc → ZKp z TI TO i1 i2 S N h0 h →
      (∀ h' acc' c', h'.get? S = some { cls := .type "list", dict := none, data := .seq acc' c', slots := #[] } → acc'.size = min xs.size ys.size → ZPr xs ys N h' acc' → ZKp z TI TO i1 i2 S N h0 h' → R (.ok (.ret res)) { s with heap := h' }) →
      codeAny (model prog w) A (.builtin "list.extend.loop" ⟨[.ref S, .ref z, res], []⟩) R { s with heap := h } := by
  have up : ∀ {a T : Addr}, a < N → N ≤ T → T ≠ a := fun q r => Nat.ne_of_gt (Nat.lt_of_lt_of_le q r)
  intro k
  induction k with
  | zero =>
    intro i h acc c hk hi hNh hst hSl hacc hpr hkp hR
    have hend : xs[i]? = none ∨ ys[i]? = none := by
      rcases Nat.lt_or_ge i xs.size with q | q
      · right; rw [Array.getElem?_eq_none]; omega
      · left; rw [Array.getElem?_eq_none]; omega
    obtain ⟨hzz, hp, hi1, hi2, hx, hy⟩ := hst
    have fin : ∀ h' : Heap, (∀ c o, c ≠ z → c ≠ TO → c ≠ i1 → c ≠ i2 → h.get? c = some o → h'.get? c = some o) → R (.ok (.ret res)) { s with heap := h' } := fun h' hk' => by
      exact hR h' acc c (hk' S _ s1 s3 s4 s5 hSl) (by omega) (hpr.keep fun T o r e => hk' T o (up hz r) (up hTO r) (up h1 r) (up h2 r) e) (fun b o b0 b1 b2 b3 b4 b5 e => hk' b o b1 b2 b3 b4 (hkp b o b0 b1 b2 b3 b4 b5 e))
    refine codeAny_builtin (F.entry_extend_loop) ?_
    rw [Around.under_plainId (F.plain_extend_loop) _]
    show wpAny _ A.in1 (pyNext (.ref z) >>= _) _ _ ({ s with heap := h } : Shared)
    refine wpAny_bind ?_
    rcases hzz with ⟨hzz, _, a, b, hT⟩ | ⟨T, f, oT, hzz, hT, hNT⟩
    · exact wpAny_pyNext_zip_end (s := { s with heap := h }) hh D hzz hp hT hi1 hi2 hx hy hend fun h' hk' => wpAny_pure (fin h' hk')
    · exact wpAny_pyNext_zip_end_held (s := { s with heap := h }) hh D hzz hT hp hi1 hi2 hx hy hend fun h' hk' => wpAny_pure (fin h' fun c o c1 _ c3 c4 e => hk' c o c1 c3 c4 e)
  | succ k ih =>
    intro i h acc c hk hi hNh hst hSl hacc hpr hkp hR
    have hlt1 : i < xs.size := by omega
    have hlt2 : i < ys.size := by omega
    obtain ⟨hzz, hp, hi1, hi2, hx, hy⟩ := hst
    refine codeAny_builtin (F.entry_extend_loop) ?_
    rw [Around.under_plainId (F.plain_extend_loop) _]
    show wpAny _ A.in1 (pyNext (.ref z) >>= _) _ _ ({ s with heap := h } : Shared)
    refine wpAny_bind ?_
    rcases hzz with ⟨hzz, _, a, b, hT⟩ | ⟨T, f, oT, hzz, hT, hNT⟩
    · refine wpAny_pyNext_zip_item (s := { s with heap := h }) D hzz hp hT hi1 hi2 hx hy (Array.getElem?_eq_getElem hlt1) (Array.getElem?_eq_getElem hlt2) fun h' q1 q2 q3 q4 q5 q6 q7 => ?_
      have K : ∀ c o, c ≠ z → c ≠ TO → c ≠ i1 → c ≠ i2 → h.get? c = some o → h'.get? c = some o := q7
      have hS' := K S _ s1 s3 s4 s5 hSl
      have hT' : (h'.update S (Obj.mapSeq (·.push (.ref h.objs.size)))).get? h.objs.size = _ := (Heap.get?_update_other _ _ (Ne.symm (up hS hNh))).trans q5
      have oth : ∀ b o, b ≠ S → h'.get? b = some o → (h'.update S (Obj.mapSeq (·.push (.ref h.objs.size)))).get? b = some o := fun b o hb e => (Heap.get?_update_other _ _ (Ne.symm hb)).trans e
      show wpAny _ A.in1 (updateSeq S (·.push (.ref h.objs.size)) >>= _) _ _ ({ s with heap := h' } : Shared)
      refine wpAny_bind ?_
      refine wpAny_updateSeq hS' rfl (wpAny_pure ⟨plainId_quiet (F.plain_extend_loop) _, ih (i + 1) _ (acc.push (.ref h.objs.size)) _ (by omega) (by omega) ?_ ⟨.inr ⟨h.objs.size, false, _, oth z _ (Ne.symm s1) q1, hT', hNh⟩, oth TI _ (Ne.symm s2) (K TI _ D.TIz D.TITO D.TIi1 D.TIi2 hp), q3.at fun o e => oth _ o (Ne.symm s4) e, q4.at fun o e => oth _ o (Ne.symm s5) e, ?_, ?_⟩ (Heap.get?_update_self _ hS' rfl) (by rw [Array.size_push, hacc]) (hpr.push hNh (fun T o r e => oth T o (up hS r) (K T o (up hz r) (up hTO r) (up h1 r) (up h2 r) e)) (by rw [hacc]; exact Array.getElem?_eq_getElem hlt1) (by rw [hacc]; exact Array.getElem?_eq_getElem hlt2) hT') (fun b o b0 b1 b2 b3 b4 b5 e => oth b o b5 (K b o b1 b2 b3 b4 (hkp b o b0 b1 b2 b3 b4 b5 e))) hR⟩)
        (by rw [hacc]; omega) (by show (acc.push _).size ≤ sizeLine + 1; rw [Array.size_push, hacc]; omega)
      · show N ≤ (h'.update S _).objs.size
        rw [Heap.size_update, q6]
        exact Nat.le_succ_of_le hNh
      · exact hx.at fun o e => oth l1 o (Ne.symm s6) (K l1 o D.l1z D.l1TO D.l1i1 D.l1i2 e)
      · exact hy.at fun o e => oth l2 o (Ne.symm s7) (K l2 o D.l2z D.l2TO D.l2i1 D.l2i2 e)
    · refine wpAny_pyNext_zip_item_held (s := { s with heap := h }) D hzz hT hp hi1 hi2 hx hy (Array.getElem?_eq_getElem hlt1) (Array.getElem?_eq_getElem hlt2) fun h' q1 q3 q4 q5 q6 q7 => ?_
      have K : ∀ c o, c ≠ z → c ≠ TO → c ≠ i1 → c ≠ i2 → h.get? c = some o → h'.get? c = some o := fun c o c1 _ c3 c4 e => q7 c o c1 c3 c4 e
      have hS' := K S _ s1 s3 s4 s5 hSl
      have hT' : (h'.update S (Obj.mapSeq (·.push (.ref h.objs.size)))).get? h.objs.size = _ := (Heap.get?_update_other _ _ (Ne.symm (up hS hNh))).trans q5
      have oth : ∀ b o, b ≠ S → h'.get? b = some o → (h'.update S (Obj.mapSeq (·.push (.ref h.objs.size)))).get? b = some o := fun b o hb e => (Heap.get?_update_other _ _ (Ne.symm hb)).trans e
      show wpAny _ A.in1 (updateSeq S (·.push (.ref h.objs.size)) >>= _) _ _ ({ s with heap := h' } : Shared)
      refine wpAny_bind ?_
      refine wpAny_updateSeq hS' rfl (wpAny_pure ⟨plainId_quiet (F.plain_extend_loop) _, ih (i + 1) _ (acc.push (.ref h.objs.size)) _ (by omega) (by omega) ?_ ⟨.inr ⟨T, true, oT, oth z _ (Ne.symm s1) q1, oth T _ (up hS hNT) (K T _ (up hz hNT) (up hTO hNT) (up h1 hNT) (up h2 hNT) hT), hNT⟩, oth TI _ (Ne.symm s2) (K TI _ D.TIz D.TITO D.TIi1 D.TIi2 hp), q3.at fun o e => oth _ o (Ne.symm s4) e, q4.at fun o e => oth _ o (Ne.symm s5) e, ?_, ?_⟩ (Heap.get?_update_self _ hS' rfl) (by rw [Array.size_push, hacc]) (hpr.push hNh (fun T o r e => oth T o (up hS r) (K T o (up hz r) (up hTO r) (up h1 r) (up h2 r) e)) (by rw [hacc]; exact Array.getElem?_eq_getElem hlt1) (by rw [hacc]; exact Array.getElem?_eq_getElem hlt2) hT') (fun b o b0 b1 b2 b3 b4 b5 e => oth b o b5 (K b o b1 b2 b3 b4 (hkp b o b0 b1 b2 b3 b4 b5 e))) hR⟩)
        (by rw [hacc]; omega) (by show (acc.push _).size ≤ sizeLine + 1; rw [Array.size_push, hacc]; omega)
      · show N ≤ (h'.update S _).objs.size
        rw [Heap.size_update, q6]
        exact Nat.le_succ_of_le hNh
      · exact hx.at fun o e => oth l1 o (Ne.symm s6) (K l1 o D.l1z D.l1TO D.l1i1 D.l1i2 e)
      · exact hy.at fun o e => oth l2 o (Ne.symm s7) (K l2 o D.l2z D.l2TO D.l2i1 D.l2i2 e)
/-- collect(zip(a, b)) -/
theorem collect_zip {E : Value → Shared → Prop} {s : Shared} {I : Addr} {Q : List Value → Shared → Prop} (hh : A.in1.handled = none) (hl1 : s.heap.IsList l1 xs) (hl2 : s.heap.IsList l2 ys) (hI1 : l1 < I) (hI2 : l2 < I) (hsz : s.heap.objs.size = I + 5) (hz : IsZip s.heap (I + 4) (I + 2) (I + 3) .none) (hTI : IsPair s.heap (I + 2) (.ref I) (.ref (I + 1)))
    (hTO : IsPair s.heap (I + 3) .none .none) (hi1 : s.heap.IsListIter I l1 0) (hi2 : s.heap.IsListIter (I + 1) l2 0) (hn : min xs.size ys.size ≤ sizeLine)
    (hQ : ∀ h' acc, acc.size = min xs.size ys.size → ZPr xs ys (I + 6) h' acc → (∀ b o, b < I → s.heap.get? b = some o → h'.get? b = some o) → Q acc.toList { s with heap := h' }) : wpAny (model prog w) A (collect (.ref (I + 4))) Q E s := by
  have ap := PySem.W.ktu_apart I l1 l2 hI1 hI2
  have tz : ∀ h : Heap, IsZip h (I + 4) (I + 2) (I + 3) .none → ∀ g d tk os, Shared.TypeIs ⟨h, g, d, tk, os⟩ (.ref (I + 4)) "zip" := fun h e _ _ _ _ => ⟨_, e, rfl⟩
  unfold collect
  refine wpAny_bind (wpAny_runValue (codeAny_builtin (F.entry_proto_collect) ?_))
  rw [Around.under_plainId (F.plain_proto_collect) _]
  show wpAny _ A.in1 (newList [] >>= fun l => again (.builtin "list.__iadd__" ⟨[l, .ref (I + 4)], []⟩)) _ _ s
  refine wpAny_bind (wpAny_newObj_type ?_)
  refine wpAny_pure ⟨plainId_quiet (F.plain_list_iadd) _, codeAny_builtin (F.entry_list_iadd) ?_⟩
  rw [Around.under_plainId (F.plain_list_iadd) _]
  generalize hS : s.heap.objs.size = S
  generalize hh1 : s.heap.push { cls := .type "list", data := .seq ([] : List Value).toArray } = g1
  have k1 : ∀ b o, s.heap.get? b = some o → g1.get? b = some o := fun b o e => by rw [← hh1]; exact Heap.get?_push_of_some _ e
  have eS : g1.get? S = some { cls := .type "list", data := .seq ([] : List Value).toArray } := by rw [← hh1, ← hS]; exact Heap.get?_push_size _ rfl
  have sz1 : g1.objs.size = S + 1 := by rw [← hh1, Heap.size_push, hS]
  show wpAny _ A.in1 (Builtin.List.listExtendWith (.ref S) (.ref (I + 4)) (.ref S)) _ _ _
  unfold Builtin.List.listExtendWith
  refine wpAny_bind (wpAny_typeOf (tz g1 (k1 _ _ hz) _ _ _ _) ?_)
  have n1 : Builtin.List.listSameRef (.ref S) (.ref (I + 4)) = false := by
    have : S ≠ I + 4 := by omega
    simp [Builtin.List.listSameRef, this]
  have n2 : (Value.type "zip" == Value.type "list") = false := by decide
  have n3 : (Value.type "zip" == Value.type "tuple") = false := by decide
  simp only [n1, n2, n3, Bool.or_false, Bool.false_eq_true, if_false]
  refine wpAny_bind (wpAny_pyIter_zip (k1 _ _ hz) ?_)
  refine wpAny_bind (wpAny_holding ?_)
  unfold Builtin.List.listLengthHint
  refine wpAny_bind (wpAny_specialOf (tz g1 (k1 _ _ hz) _ _ _ _) zip_len0 ?_)
  show wpAny _ A.in1 (specialOf (Value.ref (I + 4)) (Str.ofString "__length_hint__") >>= _) _ _ _
  refine wpAny_bind (wpAny_specialOf (tz g1 (k1 _ _ hz) _ _ _ _) zip_hint0 ?_)
  refine wpAny_pure ?_
  show wpAny _ A.in1 (rule "list.extend.makes-room" >>= fun _ => Builtin.List.listTouch (.ref S) >>= fun _ => again (.builtin "list.extend.loop" ⟨[.ref S, .ref (I + 4), .ref S], []⟩)) _ _ _
  refine wpAny_bind (wpAny_rule ?_)
  refine wpAny_bind ?_
  show wpAny _ A.in1 (updateSeq S (·.push .none) >>= fun _ => updateSeq S (·.pop)) _ _ _
  refine wpAny_bind (wpAny_updateSeq eS rfl ?_)
  have eS2 := Heap.get?_update_self (Obj.mapSeq (·.push Value.none)) eS rfl
  refine wpAny_updateSeq eS2 rfl ?_
  have eS3 := Heap.get?_update_self (Obj.mapSeq (·.pop)) eS2 rfl
  have oth : ∀ b o, b ≠ S → g1.get? b = some o → ((g1.update S (Obj.mapSeq (·.push Value.none))).update S (Obj.mapSeq (·.pop))).get? b = some o := fun b o hb e => (Heap.get?_update_other _ _ (Ne.symm hb)).trans ((Heap.get?_update_other _ _ (Ne.symm hb)).trans e)
  have k2 : ∀ b o, b < I + 5 → s.heap.get? b = some o → ((g1.update S (Obj.mapSeq (·.push Value.none))).update S (Obj.mapSeq (·.pop))).get? b = some o := fun b o hb e => oth b o (fun q => by rw [q, ← hS, hsz] at hb; exact Nat.lt_irrefl _ hb) (k1 b o e)
  have sz2 : ((g1.update S (Obj.mapSeq (·.push Value.none))).update S (Obj.mapSeq (·.pop))).objs.size = S + 1 := by rw [Heap.size_update, Heap.size_update, sz1]
  generalize ((g1.update S (Obj.mapSeq (·.push Value.none))).update S (Obj.mapSeq (·.pop))) = g2 at eS3 oth k2 sz2 ⊢
  have eSI : S = I + 5 := hS.symm.trans hsz
  subst eSI
  have ne : ∀ j : Nat, j < 5 → I + 5 ≠ I + j := fun j hj e => absurd (Nat.add_left_cancel e) (Nat.ne_of_gt hj)
  have ltI : ∀ j : Nat, j < 6 → I + j < I + 6 := fun j hj => Nat.add_lt_add_left hj I
  have ltJ : ∀ j : Nat, j < 5 → I + j < I + 5 := fun j hj => Nat.add_lt_add_left hj I
  have l15 : l1 < I + 5 := Nat.lt_of_lt_of_le hI1 (Nat.le_add_right _ _)
  have l25 : l2 < I + 5 := Nat.lt_of_lt_of_le hI2 (Nat.le_add_right _ _)
  refine wpAny_pure ⟨plainId_quiet (F.plain_extend_loop) _, zip_loop (A := A) (N := I + 6) (S := I + 5) hh ap (ltI 4 (by decide)) (ltI 2 (by decide)) (ltI 3 (by decide)) (ltI 0 (by decide)) (ltI 1 (by decide)) (ltI 5 (by decide)) (Nat.lt_succ_of_lt l15) (Nat.lt_succ_of_lt l25)
    (ne 4 (by decide)) (ne 2 (by decide)) (ne 3 (by decide)) (ne 0 (by decide)) (ne 1 (by decide)) (Nat.ne_of_gt l15) (Nat.ne_of_gt l25) hn g2 s (min xs.size ys.size) 0 g2 _ _ rfl (Nat.zero_le _) (by rw [sz2]; exact Nat.le_refl _)
    ⟨.inl ⟨k2 _ _ (ltJ 4 (by decide)) hz, rfl, _, _, k2 _ _ (ltJ 3 (by decide)) hTO⟩, k2 _ _ (ltJ 2 (by decide)) hTI, hi1.at fun o e => k2 _ o (ltJ 0 (by decide)) e, hi2.at fun o e => k2 _ o (ltJ 1 (by decide)) e, hl1.at fun o e => k2 _ o l15 e, hl2.at fun o e => k2 _ o l25 e⟩ eS3 rfl ⟨fun j hj => absurd hj (Nat.not_lt_zero _), by simp⟩ (fun b o _ _ _ _ _ _ e => e) fun h' acc' c' e1 e2 e3 e4 => ?_⟩
  show wpAny _ A (load (I + 5) >>= _) _ _ ({ s with heap := h' } : Shared)
  refine wpAny_bind (wpAny_load e1 ?_)
  refine wpAny_pure (hQ h' acc' e2 e3 fun b o hb e => ?_)
  have nb : ∀ j : Nat, b ≠ I + j := fun j q => by rw [q] at hb; exact absurd hb (Nat.not_lt.mpr (Nat.le_add_right _ _))
  exact e4 b o (Nat.lt_of_lt_of_le hb (Nat.le_add_right _ _)) (nb 4) (nb 3) (nb 0) (nb 1) (nb 5) (k2 b o (Nat.lt_of_lt_of_le hb (Nat.le_add_right _ _)) e)

theorem code_tuple_new_zip {Q₁ : Value → Shared → Prop} {E : Value → Shared → Prop} {s : Shared} {I : Addr} (hh : A.in1.handled = none) (hl1 : s.heap.IsList l1 xs) (hl2 : s.heap.IsList l2 ys) (hI1 : l1 < I) (hI2 : l2 < I) (hsz : s.heap.objs.size = I + 5) (hz : IsZip s.heap (I + 4) (I + 2) (I + 3) .none)
    (hTI : IsPair s.heap (I + 2) (.ref I) (.ref (I + 1))) (hTO : IsPair s.heap (I + 3) .none .none) (hi1 : s.heap.IsListIter I l1 0) (hi2 : s.heap.IsListIter (I + 1) l2 0) (hn : min xs.size ys.size ≤ sizeLine)
    (h : ∀ h' acc, acc.size = min xs.size ys.size → ZPr xs ys (I + 6) h' acc → (∀ b o, b < I → s.heap.get? b = some o → h'.get? b = some o) → Q₁ (.ref h'.objs.size) { s with heap := h'.push { cls := .type "tuple", data := .seq acc } }) :
    codeAny (model prog w) A (.call (.builtin "tuple.__new__") ⟨[.type "tuple", .ref (I + 4)], []⟩) (wants Q₁ E) s := by
  refine codeAny_of_tree ?_
  show wpAny _ A.in1 (do checkBuiltinCall "tuple.__new__" ⟨[.type "tuple", .ref (I + 4)], []⟩; again (.builtin "tuple.__new__" ⟨[.type "tuple", .ref (I + 4)], []⟩)) _ _ s
  refine wpAny_bind (wpAny_of_eq (F.newCall_tuple_1 _) (wpAny_pure ⟨plainId_quiet (F.plain_tuple_new) _, codeAny_builtin (F.entry_tuple_new) ?_⟩))
  rw [Around.under_plainId (F.plain_tuple_new) _]
  have zsub := sub_tuple_self
  have zinit := init_tuple_lookup
  have zmade := madeHere_tuple
  have zty : s.TypeIs (.ref (I + 4)) "zip" := ⟨_, hz, rfl⟩
  have zh1 : A.in1.in1.handled = none := hh
  wp_walk using wpAny_typeOf zty, collect_zip (A := A.in1) zh1 hl1 hl2 hI1 hI2 hsz hz hTI hTO hi1 hi2 hn
  intro h' acc hacc hpr hk
  show wpAny _ _ (Builtin.Tuple.tupleExact acc.toList.toArray >>= fun v => ret v) _ _ _
  unfold Builtin.Tuple.tupleExact
  refine wpAny_bind (wpAny_newObj_type ?_ (by show acc.toList.toArray.size ≤ sizeLine; simp only [Array.toArray_toList]; omega))
  refine wpAny_pure ?_
  have same : acc.toList.toArray = acc := by simp
  rw [same]
  exact h h' acc hacc hpr hk
theorem call_tuple_zip {Q : Value → Shared → Prop} {E : Value → Shared → Prop} {s : Shared} {I : Addr} (hh : A.in1.handled = none) (hl1 : s.heap.IsList l1 xs) (hl2 : s.heap.IsList l2 ys) (hI1 : l1 < I) (hI2 : l2 < I) (hsz : s.heap.objs.size = I + 5) (hz : IsZip s.heap (I + 4) (I + 2) (I + 3) .none)
    (hTI : IsPair s.heap (I + 2) (.ref I) (.ref (I + 1))) (hTO : IsPair s.heap (I + 3) .none .none) (hi1 : s.heap.IsListIter I l1 0) (hi2 : s.heap.IsListIter (I + 1) l2 0) (hn : min xs.size ys.size ≤ sizeLine)
    (h : ∀ h' acc, acc.size = min xs.size ys.size → ZPr xs ys (I + 6) h' acc → (∀ b o, b < I → s.heap.get? b = some o → h'.get? b = some o) → Q (.ref h'.objs.size) { s with heap := h'.push { cls := .type "tuple", data := .seq acc } }) :
    wpAny (model prog w) A (call (.type "tuple") [.ref (I + 4)]) Q E s := by
  refine callType_codes (Q₁ := fun obj s₁ => s₁.TypeIs obj "tuple" ∧ Q obj s₁) (F.called_tuple) (F.typeCall_tuple_1 _) (F.entry_object_init)
    (code_tuple_new_zip (A := A.in1) hh hl1 hl2 hI1 hI2 hsz hz hTI hTO hi1 hi2 hn fun h' acc hacc hpr hk => ⟨⟨_, Heap.get?_push_size _ rfl, rfl⟩, h h' acc hacc hpr hk⟩) fun obj s₁ z => ?_
  exact ⟨z.1, F.args_object_init_2 obj _, object_init_meets (F.called_tuple.init.lookup) (F.called_tuple.made) (by decide) prog w A.in1 _ s₁ ⟨z.1, rfl, z.2⟩⟩
end
end DL

/-! DLY: tuple(zip(a, b)) as a rule. -/
namespace DL
open PySem L2 PySem.Spec
open PyProof.Rows hiding St
set_option autoImplicit false
/-- new pairs laid one by one -/
inductive Lay : Hp → List (V × V) → List Addr → Hp → Prop
  | nil (H : Hp) : Lay H [] [] H
  | cons {H H2 : Hp} {T : Addr} {Ts : List Addr} {p : V × V} {ps : List (V × V)} (e : H T = none) (t : Lay (upd H T (.tup [p.1, p.2])) ps Ts H2) : Lay H (p :: ps) (T :: Ts) H2
/-- pairs as the heap holds them -/
inductive LkP (h : Heap) : List (V × V) → List Addr → Prop
  | nil : LkP h [] []
  | cons {T : Addr} {Ts : List Addr} {x y : V} {ps : List (V × V)} {u v : Value} (e : IsPair h T u v) (r : RelV x u) (q : RelV y v) (t : LkP h ps Ts) : LkP h ((x, y) :: ps) (T :: Ts)
section
variable {X : Cx} {pins : List (Addr × Obj)} {σ : St}
theorem lay_all {h' : Heap} : ∀ {ps : List (V × V)} {Ts : List Addr} (_ : LkP h' ps Ts) (H : Hp) (s : Shared), Inv X pins σ H s → (∀ T ∈ Ts, H T = none ∧ s.heap.get? T = none) → Ts.Nodup → (∀ b o, s.heap.get? b = some o → h'.get? b = some o) →
    ∃ H2, Lay H ps Ts H2 ∧ (∀ q, H q = none → q ∉ Ts → H2 q = none) ∧ Inv X pins σ H2 { s with heap := h' }
  | _, _, .nil, H, s, I, _, _, k => ⟨H, .nil H, fun q e _ => e, I.kept (t' := s.toks) k⟩
  | _, _, .cons (T := T) (Ts := Ts) (x := x) (y := y) (u := u) (v := v) e r q t, H, s, I, fr, nd, k => by
    obtain ⟨G, g1, g2⟩ := restrict h' fun b => decide (b ∉ Ts)
    have nd' := List.nodup_cons.mp nd
    have frT := fr T (List.mem_cons_self ..)
    have kG : ∀ b o, s.heap.get? b = some o → G.get? b = some o := fun b o z => by
      rw [g1 b (decide_eq_true fun hb => by rw [(fr b (List.mem_cons_of_mem _ hb)).2] at z; cases z)]
      exact k b o z
    have eT : G.get? T = some { cls := .type "tuple", data := .seq #[u, v] } := (g1 T (decide_eq_true nd'.1)).trans e
    have I1 : Inv X pins σ (upd H T (.tup [x, y])) { s with heap := G } := I.laidN (t' := s.toks) kG frT.2 frT.1 (show ObjOk X.prog X.w _ _ _ (.tup [x, y]) from ⟨by show 2 ≤ sizeLine; decide, [u, v], .cons r (.cons q .nil), ⟨_, eT, rfl, _, rfl⟩⟩)
    obtain ⟨H2, l, z, I2⟩ := lay_all t (upd H T (.tup [x, y])) { s with heap := G } I1 (fun b hb => ⟨by rw [upd_ne (fun w => nd'.1 (by rw [← w]; exact hb))]; exact (fr b (List.mem_cons_of_mem _ hb)).1, g2 b (decide_eq_false fun w => w hb)⟩) nd'.2 fun b o w => by
      by_cases hb : b ∈ Ts
      · rw [g2 b (decide_eq_false fun w => w hb)] at w; cases w
      · rw [g1 b (decide_eq_true hb)] at w; exact w
    refine ⟨H2, .cons frT.1 l, fun a e1 e2 => z a ?_ fun w => e2 (List.mem_cons_of_mem _ w), I2⟩
    rw [upd_ne fun w => e2 (by rw [w]; exact List.mem_cons_self ..)]
    exact e1
theorem lkp_of {h : Heap} : ∀ {xs ys : List V} {us ws acc : List Value}, Vals xs us → Vals ys ws → acc.length = min us.length ws.length → (∀ j, j < acc.length → ∃ T u w, acc[j]? = some (.ref T) ∧ us[j]? = some u ∧ ws[j]? = some w ∧ IsPair h T u w) →
    ∃ Ts : List Addr, acc = Ts.map Value.ref ∧ LkP h (xs.zip ys) Ts
  | [], ys, us, ws, acc, r, q, hl, hp => by
    cases r
    have : acc = [] := List.eq_nil_of_length_eq_zero (by rw [hl]; simp)
    exact ⟨[], this, .nil⟩
  | x :: xs, [], us, ws, acc, r, q, hl, hp => by
    cases q
    have : acc = [] := List.eq_nil_of_length_eq_zero (by rw [hl]; simp)
    exact ⟨[], this, .nil⟩
  | x :: xs, y :: ys, _, _, acc, .cons r rs, .cons q qs, hl, hp => by
    match acc, hl, hp with
    | [], hl, hp => simp at hl
    | a :: acc, hl, hp =>
      obtain ⟨T, u, w, e1, e2, e3, e4⟩ := hp 0 (by simp)
      simp only [List.getElem?_cons_zero, Option.some.injEq] at e1 e2 e3
      subst e1 e2 e3
      obtain ⟨Ts, e, l⟩ := lkp_of rs qs (acc := acc) (by simp at hl; omega) fun j hj => by
        obtain ⟨T, u, w, f1, f2, f3, f4⟩ := hp (j + 1) (by simp; exact hj)
        simp only [List.getElem?_cons_succ] at f1 f2 f3
        exact ⟨T, u, w, f1, f2, f3, f4⟩
      exact ⟨T :: Ts, by rw [e]; rfl, .cons e4 r q l⟩
theorem vals_refs' : ∀ Ts : List Addr, Vals (Ts.map V.ref) (Ts.map Value.ref)
  | [] => .nil
  | T :: Ts => .cons rfl (vals_refs' Ts)
theorem nodup_refs {Ts : List Addr} (h : (Ts.map Value.ref).Nodup) : Ts.Nodup := by
  induction Ts with
  | nil => exact .nil
  | cons a l ih =>
    rw [List.map_cons, List.nodup_cons] at h
    exact List.nodup_cons.mpr ⟨fun z => h.1 (List.mem_map_of_mem z), ih h.2⟩
def tTupZip (K : PySem.W.Frag) (ta : TA) : TE := fun σ H Q => ta σ H fun vs H1 => ∃ a b xs ys, vs = [.ref a, .ref b] ∧ SqL K H1 a xs ∧ SqL K H1 b ys ∧ ∀ Ts H2 q, Lay H1 (xs.zip ys) Ts H2 → H2 q = none → Q (.ref q) (upd H2 q (.tup (Ts.map V.ref)))
variable {a b : Expr} {es : List Expr} {p p2 pos pos2 : Pos}
theorem pe_tupZip {ta : TA} (hc : X.calm = true) (hm : X.mg "tuple" = none) (hm2 : X.mg "zip" = none) (ha : PA X [a, b] ta) (hg : Gl X "tuple" := by rfl) (hg2 : Gl X "zip" := by rfl)
    (hs : starEach [a, b] X.env = (false, eval a X.env) :: starEach [b] X.env := by rfl) (hpl : (backTo pos2 (starEach [b] X.env)).any (·.1) = false := by rfl)
    (na : starEach [.Call (.Name "zip" p2) [a, b] [] pos2] X.env = (false, eval (.Call (.Name "zip" p2) [a, b] [] pos2) X.env) :: starEach [] X.env := by rfl) :
    PE X (.Call (.Name "tuple" p) [.Call (.Name "zip" p2) [a, b] [] pos2] [] pos) (tTupZip X.K ta) := by
  refine ⟨fun pins s σ H Q I h => ?_⟩
  refine Call_ (ld_blt I hg hm boot_tuple (PyProof.Rows.callWith_type1 (args_cons (thn (Q := fun v s1 => ∃ (N a b : Addr) (xs ys : List V) (its its2 : List Value) (H1 : Hp), v = .ref (N + 4) ∧ Vals xs its ∧ Vals ys its2 ∧ its.length ≤ sizeLine ∧ s1.heap.IsList a its.toArray ∧ s1.heap.IsList b its2.toArray ∧ a < N ∧ b < N ∧ s1.heap.objs.size = N + 5 ∧ IsZip s1.heap (N + 4) (N + 2) (N + 3) .none ∧
      IsPair s1.heap (N + 2) (.ref N) (.ref (N + 1)) ∧ IsPair s1.heap (N + 3) .none .none ∧ s1.heap.IsListIter N a 0 ∧ s1.heap.IsListIter (N + 1) b 0 ∧ (∃ s0 : Shared, Inv X pins σ H1 s0 ∧ N = s0.heap.objs.size ∧ s1 = { s0 with heap := s1.heap } ∧ ∀ c o, s0.heap.get? c = some o → s1.heap.get? c = some o) ∧
      ∀ Ts H2 q, Lay H1 (xs.zip ys) Ts H2 → H2 q = none → Q (.ref q) (upd H2 q (.tup (Ts.map V.ref)))) ?_ fun v s1 ⟨N, a, b, xs, ys, its, its2, H1, ev, rv, rv2, hz0, l1, l2, b1, b2, hsz, hz, hTI, hTO, hi1, hi2, ⟨s0, I0, eN, es, k0⟩, q⟩ => args_nil ?_) na) na))
  · refine Call_ (ld_blt I hg2 hm2 PyProof.Rows.boot_zip (PyProof.Rows.callWith_type1 (thn (ha.run pos2 pins s σ H _ I h) fun us s1 ⟨vs, H1, I1, r1, q1⟩ => ?_) hs hpl))
    obtain ⟨a, b, xs, ys, ex, hqx, hqy, q⟩ := q1
    subst ex
    cases r1 with
    | cons r rr =>
      cases rr with
      | cons r' rr =>
        cases rr
        cases r
        cases r'
        obtain ⟨its, rv, p1, hz1⟩ := I1.list hqx
        obtain ⟨its2, rv2, p2, _⟩ := I1.list hqy
        refine call_zip_2 p1.isList p2.isList fun h' hz hTI hTO h1 h2 hsz hk => ?_
        have I2 : Inv X pins σ H1 { s1 with heap := h' } := I1.kept (t' := s1.toks) hk
        refine ⟨s1.heap.objs.size, a, b, xs, ys, its, its2, H1, rfl, rv, rv2, by rw [← rv.length]; exact hz1, p1.isList.at fun o e => hk _ o e, p2.isList.at fun o e => hk _ o e, p1.lt, p2.lt, hsz, hz, hTI, hTO, h1, h2, ⟨s1, I1, rfl, rfl, hk⟩, q⟩
  · subst ev
    have hd : X.A.handled = none := I0.ok.hd hc
    refine call_tuple_zip hd l1 l2 b1 b2 hsz hz hTI hTO hi1 hi2 (by simp only [List.size_toArray]; omega) fun h' acc hacc hpr hk => ?_
    have kk : ∀ c o, s0.heap.get? c = some o → h'.get? c = some o := fun c o e => hk c o (by rw [eN]; exact Heap.lt_size e) (k0 c o e)
    obtain ⟨Ts, eT, lk⟩ := lkp_of (h := h') (acc := acc.toList) rv rv2 (by rw [Array.length_toList, hacc]; simp) fun j hj => by
      obtain ⟨T, u, w, e1, e2, e3, e4, _⟩ := hpr.1 j (by simpa using hj)
      exact ⟨T, u, w, by rw [Array.getElem?_toList]; exact e1, by simpa using e2, by simpa using e3, e4⟩
    have hin : ∀ T ∈ Ts, s0.heap.objs.size ≤ T ∧ T < h'.objs.size := fun T hT => by
      have hm : Value.ref T ∈ acc.toList := by rw [eT]; exact List.mem_map_of_mem hT
      obtain ⟨j, hj, ej⟩ := List.getElem_of_mem hm
      obtain ⟨T', u, w, e1, e2, e3, e4, e5⟩ := hpr.1 j (by simpa using hj)
      have : acc[j]? = some (.ref T) := by rw [← Array.getElem?_toList, List.getElem?_eq_getElem hj, ej]
      rw [this] at e1
      cases e1
      exact ⟨Nat.le_trans (Nat.le_of_eq eN.symm) (Nat.le_trans (Nat.le_add_right _ _) e5), Heap.lt_size e4⟩
    obtain ⟨H2, ly, fz, I2⟩ := lay_all lk H1 s0 I0 (fun T hT => ⟨I0.hok.fresh (hin T hT).1, by
      cases e : s0.heap.get? T with
      | none => rfl
      | some o => exact absurd (Heap.lt_size e) (Nat.not_lt.mpr (hin T hT).1)⟩) (nodup_refs (by rw [← eT]; exact hpr.2)) kk
    have le : Ts.length ≤ sizeLine := by
      have : acc.toList.length = (Ts.map Value.ref).length := by rw [eT]
      rw [List.length_map, Array.length_toList, hacc, List.size_toArray] at this
      omega
    have I3 : Inv X pins σ (upd H2 h'.objs.size (.tup (Ts.map V.ref))) { s0 with heap := h'.push { cls := .type "tuple", data := .seq acc } } :=
      I2.laid (t' := s0.toks) (fun c o e => Heap.get?_push_of_some _ e) (Nat.le_refl _) (show ObjOk X.prog X.w _ _ _ (.tup (Ts.map V.ref)) from ⟨by rw [List.length_map]; exact le, Ts.map Value.ref, vals_refs' Ts, by
        have : acc = (Ts.map Value.ref).toArray := by rw [← eT, Array.toArray_toList]
        rw [← this]; exact IsTup.new _ _⟩)
    refine ⟨.ref h'.objs.size, upd H2 h'.objs.size (.tup (Ts.map V.ref)), ?_, rfl, q Ts H2 _ ly (I2.hok.fresh (Nat.le_refl _))⟩
    rw [es]
    exact I3
theorem lay_rep {K : PySem.W.Frag} : ∀ {xs ys : List D} {vs us : List V} {Ts : List Addr} {B : Kn} {H H2 : Hp}, Base K B H → Reps K B.b xs vs → Reps K B.b ys us → Lay H (vs.zip us) Ts H2 →
    ∃ B', Grow K B H B' H2 ∧ B'.m = B.m ∧ Reps K B'.b (zipD xs ys) (Ts.map V.ref)
  | [], ys, _, us, _, B, H, _, bs, .nil, q, l => by
    cases l
    exact ⟨B, bs.grow, rfl, .nil⟩
  | x :: xs, [], _, _, _, B, H, _, bs, .cons r rs, .nil, l => by
    cases l
    exact ⟨B, bs.grow, rfl, .nil⟩
  | x :: xs, y :: ys, _, _, _, B, H, _, bs, .cons r rs, .cons q qs, l => by
    cases l with
    | cons e l =>
      obtain ⟨B1, g1, m1, r1⟩ := pair_new bs r q e
      obtain ⟨B2, g2, m2, r2⟩ := lay_rep g1.base (rs.up g1.b) (qs.up g1.b) l
      exact ⟨B2, g1.trans g2, m2.trans m1, .cons (r1.up g2.b) r2⟩
theorem ed_tupZip {f : RA} (hc : X.calm = true) (hm : X.mg "tuple" = none) (hm2 : X.mg "zip" = none) (ha : AD X [a, b] f) (hg : Gl X "tuple" := by rfl) (hg2 : Gl X "zip" := by rfl)
    (hs : starEach [a, b] X.env = (false, eval a X.env) :: starEach [b] X.env := by rfl) (hpl : (backTo pos2 (starEach [b] X.env)).any (·.1) = false := by rfl)
    (na : starEach [.Call (.Name "zip" p2) [a, b] [] pos2] X.env = (false, eval (.Call (.Name "zip" p2) [a, b] [] pos2) X.env) :: starEach [] X.env := by rfl) :
    ED X (.Call (.Name "tuple" p) [.Call (.Name "zip" p2) [a, b] [] pos2] [] pos) (fun ρ M P => f ρ M fun ds M => ∃ xs ys, ds = [.lst xs, .lst ys] ∧ P (.tup (zipD xs ys)) M) := by
  obtain ⟨ta, pa, sa⟩ := ha.ex
  refine ⟨_, pe_tupZip hc hm hm2 pa hg hg2 hs hpl na, fun B H ρ σ S P Q st hf k => sa B H ρ σ S _ _ st hf fun ds vs B1 H1 g r p => ?_⟩
  obtain ⟨xs, ys, rfl, p⟩ := p
  obtain ⟨v, u, rfl, r1, r2⟩ := r.two
  cases r1 with
  | @lst a1 vs1 _ h1 l1 r1 =>
    cases r2 with
    | @lst a2 vs2 _ h2 l2 r2 =>
      refine ⟨a1, a2, vs1, vs2, rfl, Evl.sq_of (g.base.bh _ _ h1), Evl.sq_of (g.base.bh _ _ h2), fun Ts H2 q ly hq => ?_⟩
      obtain ⟨B2, g2, m2, r3⟩ := lay_rep g.base r1 r2 ly
      exact new_tuple g2.base r3 (by rw [zipD_len]; omega) (show P (.tup (zipD xs ys)) B2.m by rw [m2]; exact p) (fun t v B3 H3 g3 r4 p4 => k t v B3 H3 ((g.trans g2).trans g3) r4 p4) q hq
end
end DL

namespace DL
open PySem L2 PySem.Spec
open PyProof.Rows hiding St
set_option autoImplicit false
def top (i : Nat) : Stmt := PySem.Challenge.pw_manyruns_k10_parts_kinds_and_looks.main.body.getD i (.Pass ⟨0, 0, 0, 0⟩)
abbrev s_parts_of : Stmt := top 7
abbrev N_parts_of : List Str := ["body", "word", "rest", "found", "one", "part"]
theorem sc_parts_of : FnScope N_parts_of ["body"] (defScope s_parts_of) := ⟨rfl, rfl, rfl, by decide +kernel, rfl, by decide +kernel, by decide +kernel⟩
abbrev s_looks_back : Stmt := top 8
abbrev N_looks_back : List Str := ["body", "part"]
theorem sc_looks_back : FnScope N_looks_back ["body"] (defScope s_looks_back) := ⟨rfl, rfl, rfl, by decide +kernel, rfl, by decide +kernel, by decide +kernel⟩
abbrev s_kind_of : Stmt := top 9
abbrev N_kind_of : List Str := ["saying", "heads", "body", "first", "last"]
theorem sc_kind_of : FnScope N_kind_of ["saying"] (defScope s_kind_of) := ⟨rfl, rfl, rfl, by decide +kernel, rfl, by decide +kernel, by decide +kernel⟩
abbrev s_law_cell_at : Stmt := top 11
abbrev N_law_cell_at : List Str := ["script", "k"]
theorem sc_law_cell_at : FnScope N_law_cell_at ["script", "k"] (defScope s_law_cell_at) := ⟨rfl, rfl, rfl, by decide +kernel, rfl, by decide +kernel, by decide +kernel⟩
abbrev s_law_box : Stmt := top 12
abbrev N_law_box : List Str := ["script", "k", "cell"]
theorem sc_law_box : FnScope N_law_box ["script", "k"] (defScope s_law_box) := ⟨rfl, rfl, rfl, by decide +kernel, rfl, by decide +kernel, by decide +kernel⟩
abbrev s_law_take : Stmt := top 13
abbrev N_law_take : List Str := ["box", "size", "found", "once", "twice"]
theorem sc_law_take : FnScope N_law_take ["box", "size"] (defScope s_law_take) := ⟨rfl, rfl, rfl, by decide +kernel, rfl, by decide +kernel, by decide +kernel⟩
abbrev s_law_same : Stmt := top 14
abbrev N_law_same : List Str := ["found", "due", "one", "two"]
theorem sc_law_same : FnScope N_law_same ["found", "due"] (defScope s_law_same) := ⟨rfl, rfl, rfl, by decide +kernel, rfl, by decide +kernel, by decide +kernel⟩
abbrev s_law_of : Stmt := top 15
abbrev N_law_of : List Str := ["box", "some"]
theorem sc_law_of : FnScope N_law_of ["box", "some"] (defScope s_law_of) := ⟨rfl, rfl, rfl, by decide +kernel, rfl, by decide +kernel, by decide +kernel⟩
abbrev s_law_names : Stmt := top 16
abbrev N_law_names : List Str := ["box", "size", "letters", "shift", "stem", "spot", "longer", "found", "number", "sign", "turn"]
theorem sc_law_names : FnScope N_law_names ["box", "size"] (defScope s_law_names) := ⟨rfl, rfl, rfl, by decide +kernel, rfl, by decide +kernel, by decide +kernel⟩
abbrev s_law_body : Stmt := top 17
abbrev N_law_body : List Str := ["box", "runs", "marks", "deep", "back", "way", "pair", "some", "word", "mark"]
theorem sc_law_body : FnScope N_law_body ["box", "runs", "marks", "deep", "back"] (defScope s_law_body) := ⟨rfl, rfl, rfl, by decide +kernel, rfl, by decide +kernel, by decide +kernel⟩
abbrev s_law_parts : Stmt := top 18
abbrev N_law_parts : List Str := ["core", "found", "one"]
theorem sc_law_parts : FnScope N_law_parts ["core"] (defScope s_law_parts) := ⟨rfl, rfl, rfl, by decide +kernel, rfl, by decide +kernel, by decide +kernel⟩
abbrev s_law_plain : Stmt := top 19
abbrev N_law_plain : List Str := ["box", "words", "runs", "marks", "back", "heads", "turn", "core"]
theorem sc_law_plain : FnScope N_law_plain ["box", "words", "runs", "marks", "back"] (defScope s_law_plain) := ⟨rfl, rfl, rfl, by decide +kernel, rfl, by decide +kernel, by decide +kernel⟩
abbrev s_law_drawn : Stmt := top 20
abbrev N_law_drawn : List Str := ["box", "runs", "marks", "words"]
theorem sc_law_drawn : FnScope N_law_drawn ["box"] (defScope s_law_drawn) := ⟨rfl, rfl, rfl, by decide +kernel, rfl, by decide +kernel, by decide +kernel⟩
abbrev s_law_plain_right : Stmt := top 21
abbrev N_law_plain_right : List Str := ["box", "plain", "heads", "core", "kept", "due", "found", "words", "looks", "kinds", "kind", "part", "own", "word", "run", "one"]
theorem sc_law_plain_right : FnScope N_law_plain_right ["box"] (defScope s_law_plain_right) := ⟨rfl, rfl, rfl, by decide +kernel, rfl, by decide +kernel, by decide +kernel⟩
abbrev s_law_right : Stmt := top 22
abbrev N_law_right : List Str := ["box", "turn"]
theorem sc_law_right : FnScope N_law_right ["box"] (defScope s_law_right) := ⟨rfl, rfl, rfl, by decide +kernel, rfl, by decide +kernel, by decide +kernel⟩
abbrev s_law : Stmt := top 23
abbrev N_law : List Str := ["script", "k"]
theorem sc_law : FnScope N_law ["script"] (defScope s_law) := ⟨rfl, rfl, rfl, by decide +kernel, rfl, by decide +kernel, by decide +kernel⟩
/-- what stands in the module: its defs, its constants, built-in names -/
structure Tx (K : PySem.W.Frag) (mg : Str → Option Value) : Prop where
  d_parts_of : ∃ (f : Addr) (fd : FuncData), mg "parts_of" = some (.ref f) ∧ Fun K "parts_of" "parts_of" s_parts_of f fd ∧ Binds K fd ["body"] []
  d_looks_back : ∃ (f : Addr) (fd : FuncData), mg "looks_back" = some (.ref f) ∧ Fun K "looks_back" "looks_back" s_looks_back f fd ∧ Binds K fd ["body"] []
  d_kind_of : ∃ (f : Addr) (fd : FuncData), mg "kind_of" = some (.ref f) ∧ Fun K "kind_of" "kind_of" s_kind_of f fd ∧ Binds K fd ["saying"] []
  d_law_cell_at : ∃ (f : Addr) (fd : FuncData), mg "_law_cell_at" = some (.ref f) ∧ Fun K "_law_cell_at" "_law_cell_at" s_law_cell_at f fd ∧ Binds K fd ["script", "k"] []
  d_law_box : ∃ (f : Addr) (fd : FuncData), mg "_law_box" = some (.ref f) ∧ Fun K "_law_box" "_law_box" s_law_box f fd ∧ Binds K fd ["script", "k"] []
  d_law_take : ∃ (f : Addr) (fd : FuncData), mg "_law_take" = some (.ref f) ∧ Fun K "_law_take" "_law_take" s_law_take f fd ∧ Binds K fd ["box", "size"] []
  d_law_same : ∃ (f : Addr) (fd : FuncData), mg "_law_same" = some (.ref f) ∧ Fun K "_law_same" "_law_same" s_law_same f fd ∧ Binds K fd ["found", "due"] []
  d_law_of : ∃ (f : Addr) (fd : FuncData), mg "_law_of" = some (.ref f) ∧ Fun K "_law_of" "_law_of" s_law_of f fd ∧ Binds K fd ["box", "some"] []
  d_law_names : ∃ (f : Addr) (fd : FuncData), mg "_law_names" = some (.ref f) ∧ Fun K "_law_names" "_law_names" s_law_names f fd ∧ Binds K fd ["box", "size"] []
  d_law_body : ∃ (f : Addr) (fd : FuncData), mg "_law_body" = some (.ref f) ∧ Fun K "_law_body" "_law_body" s_law_body f fd ∧ Binds K fd ["box", "runs", "marks", "deep", "back"] []
  d_law_parts : ∃ (f : Addr) (fd : FuncData), mg "_law_parts" = some (.ref f) ∧ Fun K "_law_parts" "_law_parts" s_law_parts f fd ∧ Binds K fd ["core"] []
  d_law_plain : ∃ (f : Addr) (fd : FuncData), mg "_law_plain" = some (.ref f) ∧ Fun K "_law_plain" "_law_plain" s_law_plain f fd ∧ Binds K fd ["box", "words", "runs", "marks", "back"] []
  d_law_drawn : ∃ (f : Addr) (fd : FuncData), mg "_law_drawn" = some (.ref f) ∧ Fun K "_law_drawn" "_law_drawn" s_law_drawn f fd ∧ Binds K fd ["box"] []
  d_law_plain_right : ∃ (f : Addr) (fd : FuncData), mg "_law_plain_right" = some (.ref f) ∧ Fun K "_law_plain_right" "_law_plain_right" s_law_plain_right f fd ∧ Binds K fd ["box"] []
  d_law_right : ∃ (f : Addr) (fd : FuncData), mg "_law_right" = some (.ref f) ∧ Fun K "_law_right" "_law_right" s_law_right f fd ∧ Binds K fd ["box"] []
  d_law : ∃ (f : Addr) (fd : FuncData), mg "law" = some (.ref f) ∧ Fun K "law" "law" s_law f fd ∧ Binds K fd ["script"] []
  c_ALL : GC K mg "ALL" (.str "all")
  c_ANSWER : GC K mg "ANSWER" (.str "answer")
  c_EVER : GC K mg "EVER" (.str "ever")
  c_OF_ONE : GC K mg "OF_ONE" (.tup [.str "not", .str "ahead", .str "ever"])
  c_OF_TWO : GC K mg "OF_TWO" (.tup [.str "and", .str "or", .str "since"])
  c_LOOKING : GC K mg "LOOKING" (.tup [.str "ahead", .str "ever", .str "since"])
  z_abs : mg "abs" = none
  z_all : mg "all" = none
  z_bool : mg "bool" = none
  z_int : mg "int" = none
  z_isinstance : mg "isinstance" = none
  z_len : mg "len" = none
  z_list : mg "list" = none
  z_max : mg "max" = none
  z_min : mg "min" = none
  z_range : mg "range" = none
  z_repr : mg "repr" = none
  z_sorted : mg "sorted" = none
  z_tuple : mg "tuple" = none
  z_zip : mg "zip" = none
end DL

namespace DL
open PySem L2 PySem.Spec
open PyProof.Rows hiding St
set_option autoImplicit false
section
variable {P : Program} {w : World} {K : PySem.W.Frag} {mg : Str → Option Value} {base : Heap}
/-! ### the cell, the box -/
def spCell : DSpec := DSpec.pure (ι := List Int × Int) (fun i ds => ds = [.scr i.1, .int i.2] ∧ 0 ≤ i.2) (fun _ t => ∃ v, t = .fz (.int v))
theorem ok_cell_at (T : Tx K mg) : DF P w K mg base s_law_cell_at "_law_cell_at" ["script", "k"] 1 spCell := by
  obtain ⟨f, fd, hm, F, hb⟩ := T.d_law_cell_at
  refine ⟨f, fd, hm, F, hb, fn_dl F sc_law_cell_at ?_⟩
  rintro X M ds ⟨ns, k⟩ ⟨cdv, A, outer, s0, H0, E, rfl⟩ hr hl ⟨rfl, hk⟩
  refine ⟨_, (dss_cons (ds_if (EC.t (ec_lt (ev_var 1) (ED.v (ed_len T.z_len (av_cons (ev_var 0) av_nil))))) (dss_cons (ds_ret (ED.o (ed_ixN 0 (ed_var 1)))) dss_nil) dss_nil) (dss_cons (ds_ret (ED.o ed_int)) dss_nil)), ?_⟩
  (try simp only [seqS_M, startE_cons, startE_nil, List.length_cons, List.length_nil, List.length_replicate, List.length_set, List.replicate_succ, List.replicate_zero, List.getElem?_cons_zero, List.getElem?_cons_succ, List.set_cons_zero, List.set_cons_succ, Option.some.injEq, OT.fz.injEq, OT.ow.injEq, D.int.injEq, D.str.injEq, D.bl.injEq, D.tup.injEq, D.lst.injEq, List.cons.injEq, exists_eq_left', exists_eq_left, exists_eq_right, and_true, true_and, OT.toD_fz, toD_map_fz, hIx_tup, hIx_lst, hIx_scr, hIx_mob, hIx_str, hIxT_fz, hIxT_ow, hAdd_int, hAdd_str, hAdd_tup, hAdd_lst, hMul_int, hMul_lst, hSl_tup, hSl_lst, hSl_str, hLen_lst, hLen_tup, hLen_scr, hLen_str, hLen_mob, hInt_int, hInt_bl, hAbs_int, hSeq_lst, hSeq_tup, hIn_lst, hIn_tup, hEq_eq, hI0_int, hI_int, ng_f, ng_t, atI_0, atI_1, atI_2, ofString_inj, eqv_str, eqv_txt, eqv_int, eqv_bl, eqv_tup, eqv_lst, eqOk_str, eqOk_int, eqOk_bl, eqOk_txt, decide_eq_true_eq, Nat.zero_lt_succ, exists_and_left, List.take_succ_cons, List.take_zero, List.drop_succ_cons, List.drop_zero, List.cons_append, List.nil_append, and_assoc, atI_map, Option.map_some, Nat.reduceAdd, Nat.reduceLT, Nat.reduceLeDiff, OT.toD_ow, List.map_cons, List.map_nil, D.mob.injEq, Mo.lst.injEq, Mem.put_same, Mem.put_put, ixN_30, ixN_32, ixN_10, exists_prop, fz_app, fz_inj, fz_snoc, OT.map_fz, List.length_map, List.length_append, List.append_nil, Nat.zero_add, cutL_1, items_tup, items_lst, items_scr, forD, compD, compS, comp2D, wipeE, D.isIn, List.any_cons, List.any_nil, String.reduceEq, D.plain, D.plains, D.dep, D.deps, Nat.max_self, Nat.min_self, Nat.zero_le, Nat.zero_min, Nat.min_zero, sizeLine_eq, forall_eq, exists_const, forall_const, kind_non, kind_bl, kind_int, kind_str, kind_lst, kind_tup, kind_dk, Kd.isa, reduceCtorEq, decide_false, decide_true, Bool.or_false, Bool.false_or, Bool.or_true, Bool.true_or, Bool.or_self, Bool.and_false, Bool.false_and, Bool.true_and, Bool.and_true, Bool.and_self, and_self, false_or, or_false, false_and, and_false, reduceIte, Bool.false_eq_true, Bool.not_eq_true, Bool.not_true, Bool.not_false, spCell, DSpec.pure]); repeat (first | (refine seq_in ?_; simp only [seqS_M, startE_cons, startE_nil, List.length_cons, List.length_nil, List.length_replicate, List.length_set, List.replicate_succ, List.replicate_zero, List.getElem?_cons_zero, List.getElem?_cons_succ, List.set_cons_zero, List.set_cons_succ, Option.some.injEq, OT.fz.injEq, OT.ow.injEq, D.int.injEq, D.str.injEq, D.bl.injEq, D.tup.injEq, D.lst.injEq, List.cons.injEq, exists_eq_left', exists_eq_left, exists_eq_right, and_true, true_and, OT.toD_fz, toD_map_fz, hIx_tup, hIx_lst, hIx_scr, hIx_mob, hIx_str, hIxT_fz, hIxT_ow, hAdd_int, hAdd_str, hAdd_tup, hAdd_lst, hMul_int, hMul_lst, hSl_tup, hSl_lst, hSl_str, hLen_lst, hLen_tup, hLen_scr, hLen_str, hLen_mob, hInt_int, hInt_bl, hAbs_int, hSeq_lst, hSeq_tup, hIn_lst, hIn_tup, hEq_eq, hI0_int, hI_int, ng_f, ng_t, atI_0, atI_1, atI_2, ofString_inj, eqv_str, eqv_txt, eqv_int, eqv_bl, eqv_tup, eqv_lst, eqOk_str, eqOk_int, eqOk_bl, eqOk_txt, decide_eq_true_eq, Nat.zero_lt_succ, exists_and_left, List.take_succ_cons, List.take_zero, List.drop_succ_cons, List.drop_zero, List.cons_append, List.nil_append, and_assoc, atI_map, Option.map_some, Nat.reduceAdd, Nat.reduceLT, Nat.reduceLeDiff, OT.toD_ow, List.map_cons, List.map_nil, D.mob.injEq, Mo.lst.injEq, Mem.put_same, Mem.put_put, ixN_30, ixN_32, ixN_10, exists_prop, fz_app, fz_inj, fz_snoc, OT.map_fz, List.length_map, List.length_append, List.append_nil, Nat.zero_add, cutL_1, items_tup, items_lst, items_scr, forD, compD, compS, comp2D, wipeE, D.isIn, List.any_cons, List.any_nil, String.reduceEq, D.plain, D.plains, D.dep, D.deps, Nat.max_self, Nat.min_self, Nat.zero_le, Nat.zero_min, Nat.min_zero, sizeLine_eq, forall_eq, exists_const, forall_const, kind_non, kind_bl, kind_int, kind_str, kind_lst, kind_tup, kind_dk, Kd.isa, reduceCtorEq, decide_false, decide_true, Bool.or_false, Bool.false_or, Bool.or_true, Bool.true_or, Bool.or_self, Bool.and_false, Bool.false_and, Bool.true_and, Bool.and_true, Bool.and_self, and_self, false_or, or_false, false_and, and_false, reduceIte, Bool.false_eq_true, Bool.not_eq_true, Bool.not_true, Bool.not_false, spCell, DSpec.pure]) | refine And.intro (by first | assumption | omega | decide) ?_ | omega | assumption)
  split
  · rename_i h
    obtain ⟨j, rfl⟩ := Int.eq_ofNat_of_zero_le hk
    (try simp only [seqS_M, startE_cons, startE_nil, List.length_cons, List.length_nil, List.length_replicate, List.length_set, List.replicate_succ, List.replicate_zero, List.getElem?_cons_zero, List.getElem?_cons_succ, List.set_cons_zero, List.set_cons_succ, Option.some.injEq, OT.fz.injEq, OT.ow.injEq, D.int.injEq, D.str.injEq, D.bl.injEq, D.tup.injEq, D.lst.injEq, List.cons.injEq, exists_eq_left', exists_eq_left, exists_eq_right, and_true, true_and, OT.toD_fz, toD_map_fz, hIx_tup, hIx_lst, hIx_scr, hIx_mob, hIx_str, hIxT_fz, hIxT_ow, hAdd_int, hAdd_str, hAdd_tup, hAdd_lst, hMul_int, hMul_lst, hSl_tup, hSl_lst, hSl_str, hLen_lst, hLen_tup, hLen_scr, hLen_str, hLen_mob, hInt_int, hInt_bl, hAbs_int, hSeq_lst, hSeq_tup, hIn_lst, hIn_tup, hEq_eq, hI0_int, hI_int, ng_f, ng_t, atI_0, atI_1, atI_2, ofString_inj, eqv_str, eqv_txt, eqv_int, eqv_bl, eqv_tup, eqv_lst, eqOk_str, eqOk_int, eqOk_bl, eqOk_txt, decide_eq_true_eq, Nat.zero_lt_succ, exists_and_left, List.take_succ_cons, List.take_zero, List.drop_succ_cons, List.drop_zero, List.cons_append, List.nil_append, and_assoc, atI_map, Option.map_some, Nat.reduceAdd, Nat.reduceLT, Nat.reduceLeDiff, OT.toD_ow, List.map_cons, List.map_nil, D.mob.injEq, Mo.lst.injEq, Mem.put_same, Mem.put_put, ixN_30, ixN_32, ixN_10, exists_prop, fz_app, fz_inj, fz_snoc, OT.map_fz, List.length_map, List.length_append, List.append_nil, Nat.zero_add, cutL_1, items_tup, items_lst, items_scr, forD, compD, compS, comp2D, wipeE, D.isIn, List.any_cons, List.any_nil, String.reduceEq, D.plain, D.plains, D.dep, D.deps, Nat.max_self, Nat.min_self, Nat.zero_le, Nat.zero_min, Nat.min_zero, sizeLine_eq, forall_eq, exists_const, forall_const, kind_non, kind_bl, kind_int, kind_str, kind_lst, kind_tup, kind_dk, Kd.isa, reduceCtorEq, decide_false, decide_true, Bool.or_false, Bool.false_or, Bool.or_true, Bool.true_or, Bool.or_self, Bool.and_false, Bool.false_and, Bool.true_and, Bool.and_true, Bool.and_self, and_self, false_or, or_false, false_and, and_false, reduceIte, Bool.false_eq_true, Bool.not_eq_true, Bool.not_true, Bool.not_false, spCell, DSpec.pure]); repeat (first | (refine seq_in ?_; simp only [seqS_M, startE_cons, startE_nil, List.length_cons, List.length_nil, List.length_replicate, List.length_set, List.replicate_succ, List.replicate_zero, List.getElem?_cons_zero, List.getElem?_cons_succ, List.set_cons_zero, List.set_cons_succ, Option.some.injEq, OT.fz.injEq, OT.ow.injEq, D.int.injEq, D.str.injEq, D.bl.injEq, D.tup.injEq, D.lst.injEq, List.cons.injEq, exists_eq_left', exists_eq_left, exists_eq_right, and_true, true_and, OT.toD_fz, toD_map_fz, hIx_tup, hIx_lst, hIx_scr, hIx_mob, hIx_str, hIxT_fz, hIxT_ow, hAdd_int, hAdd_str, hAdd_tup, hAdd_lst, hMul_int, hMul_lst, hSl_tup, hSl_lst, hSl_str, hLen_lst, hLen_tup, hLen_scr, hLen_str, hLen_mob, hInt_int, hInt_bl, hAbs_int, hSeq_lst, hSeq_tup, hIn_lst, hIn_tup, hEq_eq, hI0_int, hI_int, ng_f, ng_t, atI_0, atI_1, atI_2, ofString_inj, eqv_str, eqv_txt, eqv_int, eqv_bl, eqv_tup, eqv_lst, eqOk_str, eqOk_int, eqOk_bl, eqOk_txt, decide_eq_true_eq, Nat.zero_lt_succ, exists_and_left, List.take_succ_cons, List.take_zero, List.drop_succ_cons, List.drop_zero, List.cons_append, List.nil_append, and_assoc, atI_map, Option.map_some, Nat.reduceAdd, Nat.reduceLT, Nat.reduceLeDiff, OT.toD_ow, List.map_cons, List.map_nil, D.mob.injEq, Mo.lst.injEq, Mem.put_same, Mem.put_put, ixN_30, ixN_32, ixN_10, exists_prop, fz_app, fz_inj, fz_snoc, OT.map_fz, List.length_map, List.length_append, List.append_nil, Nat.zero_add, cutL_1, items_tup, items_lst, items_scr, forD, compD, compS, comp2D, wipeE, D.isIn, List.any_cons, List.any_nil, String.reduceEq, D.plain, D.plains, D.dep, D.deps, Nat.max_self, Nat.min_self, Nat.zero_le, Nat.zero_min, Nat.min_zero, sizeLine_eq, forall_eq, exists_const, forall_const, kind_non, kind_bl, kind_int, kind_str, kind_lst, kind_tup, kind_dk, Kd.isa, reduceCtorEq, decide_false, decide_true, Bool.or_false, Bool.false_or, Bool.or_true, Bool.true_or, Bool.or_self, Bool.and_false, Bool.false_and, Bool.true_and, Bool.and_true, Bool.and_self, and_self, false_or, or_false, false_and, and_false, reduceIte, Bool.false_eq_true, Bool.not_eq_true, Bool.not_true, Bool.not_false, spCell, DSpec.pure]) | refine And.intro (by first | assumption | omega | decide) ?_ | omega | assumption)
    exact ⟨ns[j]'(by omega), atI_nat (List.getElem?_eq_getElem _), _, rfl⟩
  · (try simp only [seqS_M, startE_cons, startE_nil, List.length_cons, List.length_nil, List.length_replicate, List.length_set, List.replicate_succ, List.replicate_zero, List.getElem?_cons_zero, List.getElem?_cons_succ, List.set_cons_zero, List.set_cons_succ, Option.some.injEq, OT.fz.injEq, OT.ow.injEq, D.int.injEq, D.str.injEq, D.bl.injEq, D.tup.injEq, D.lst.injEq, List.cons.injEq, exists_eq_left', exists_eq_left, exists_eq_right, and_true, true_and, OT.toD_fz, toD_map_fz, hIx_tup, hIx_lst, hIx_scr, hIx_mob, hIx_str, hIxT_fz, hIxT_ow, hAdd_int, hAdd_str, hAdd_tup, hAdd_lst, hMul_int, hMul_lst, hSl_tup, hSl_lst, hSl_str, hLen_lst, hLen_tup, hLen_scr, hLen_str, hLen_mob, hInt_int, hInt_bl, hAbs_int, hSeq_lst, hSeq_tup, hIn_lst, hIn_tup, hEq_eq, hI0_int, hI_int, ng_f, ng_t, atI_0, atI_1, atI_2, ofString_inj, eqv_str, eqv_txt, eqv_int, eqv_bl, eqv_tup, eqv_lst, eqOk_str, eqOk_int, eqOk_bl, eqOk_txt, decide_eq_true_eq, Nat.zero_lt_succ, exists_and_left, List.take_succ_cons, List.take_zero, List.drop_succ_cons, List.drop_zero, List.cons_append, List.nil_append, and_assoc, atI_map, Option.map_some, Nat.reduceAdd, Nat.reduceLT, Nat.reduceLeDiff, OT.toD_ow, List.map_cons, List.map_nil, D.mob.injEq, Mo.lst.injEq, Mem.put_same, Mem.put_put, ixN_30, ixN_32, ixN_10, exists_prop, fz_app, fz_inj, fz_snoc, OT.map_fz, List.length_map, List.length_append, List.append_nil, Nat.zero_add, cutL_1, items_tup, items_lst, items_scr, forD, compD, compS, comp2D, wipeE, D.isIn, List.any_cons, List.any_nil, String.reduceEq, D.plain, D.plains, D.dep, D.deps, Nat.max_self, Nat.min_self, Nat.zero_le, Nat.zero_min, Nat.min_zero, sizeLine_eq, forall_eq, exists_const, forall_const, kind_non, kind_bl, kind_int, kind_str, kind_lst, kind_tup, kind_dk, Kd.isa, reduceCtorEq, decide_false, decide_true, Bool.or_false, Bool.false_or, Bool.or_true, Bool.true_or, Bool.or_self, Bool.and_false, Bool.false_and, Bool.true_and, Bool.and_true, Bool.and_self, and_self, false_or, or_false, false_and, and_false, reduceIte, Bool.false_eq_true, Bool.not_eq_true, Bool.not_true, Bool.not_false, spCell, DSpec.pure]); repeat (first | (refine seq_in ?_; simp only [seqS_M, startE_cons, startE_nil, List.length_cons, List.length_nil, List.length_replicate, List.length_set, List.replicate_succ, List.replicate_zero, List.getElem?_cons_zero, List.getElem?_cons_succ, List.set_cons_zero, List.set_cons_succ, Option.some.injEq, OT.fz.injEq, OT.ow.injEq, D.int.injEq, D.str.injEq, D.bl.injEq, D.tup.injEq, D.lst.injEq, List.cons.injEq, exists_eq_left', exists_eq_left, exists_eq_right, and_true, true_and, OT.toD_fz, toD_map_fz, hIx_tup, hIx_lst, hIx_scr, hIx_mob, hIx_str, hIxT_fz, hIxT_ow, hAdd_int, hAdd_str, hAdd_tup, hAdd_lst, hMul_int, hMul_lst, hSl_tup, hSl_lst, hSl_str, hLen_lst, hLen_tup, hLen_scr, hLen_str, hLen_mob, hInt_int, hInt_bl, hAbs_int, hSeq_lst, hSeq_tup, hIn_lst, hIn_tup, hEq_eq, hI0_int, hI_int, ng_f, ng_t, atI_0, atI_1, atI_2, ofString_inj, eqv_str, eqv_txt, eqv_int, eqv_bl, eqv_tup, eqv_lst, eqOk_str, eqOk_int, eqOk_bl, eqOk_txt, decide_eq_true_eq, Nat.zero_lt_succ, exists_and_left, List.take_succ_cons, List.take_zero, List.drop_succ_cons, List.drop_zero, List.cons_append, List.nil_append, and_assoc, atI_map, Option.map_some, Nat.reduceAdd, Nat.reduceLT, Nat.reduceLeDiff, OT.toD_ow, List.map_cons, List.map_nil, D.mob.injEq, Mo.lst.injEq, Mem.put_same, Mem.put_put, ixN_30, ixN_32, ixN_10, exists_prop, fz_app, fz_inj, fz_snoc, OT.map_fz, List.length_map, List.length_append, List.append_nil, Nat.zero_add, cutL_1, items_tup, items_lst, items_scr, forD, compD, compS, comp2D, wipeE, D.isIn, List.any_cons, List.any_nil, String.reduceEq, D.plain, D.plains, D.dep, D.deps, Nat.max_self, Nat.min_self, Nat.zero_le, Nat.zero_min, Nat.min_zero, sizeLine_eq, forall_eq, exists_const, forall_const, kind_non, kind_bl, kind_int, kind_str, kind_lst, kind_tup, kind_dk, Kd.isa, reduceCtorEq, decide_false, decide_true, Bool.or_false, Bool.false_or, Bool.or_true, Bool.true_or, Bool.or_self, Bool.and_false, Bool.false_and, Bool.true_and, Bool.and_true, Bool.and_self, and_self, false_or, or_false, false_and, and_false, reduceIte, Bool.false_eq_true, Bool.not_eq_true, Bool.not_true, Bool.not_false, spCell, DSpec.pure]) | refine And.intro (by first | assumption | omega | decide) ?_ | omega | assumption)
    exact ⟨0, rfl⟩
def spBox : DSpec := DSpec.pure (ι := List Int × Int) (fun i ds => ds = [.scr i.1, .int i.2] ∧ 0 ≤ i.2 ∧ i.2 ≤ 100) (fun _ t => ∃ a b, t = .ow ([.int a, .int b, .int 0].map .fz) ∧ 0 ≤ a ∧ 17 ≤ b ∧ b < 2 ^ 62)
theorem ok_box (T : Tx K mg) : DF P w K mg base s_law_box "_law_box" ["script", "k"] 2 spBox := by
  have F_law_cell_at := ok_cell_at (P := P) (w := w) (base := base) T
  obtain ⟨f, fd, hm, F, hb⟩ := T.d_law_box
  refine ⟨f, fd, hm, F, hb, fn_dl F sc_law_box ?_⟩
  rintro X M ds ⟨ns, k⟩ ⟨cdv, A, outer, s0, H0, E, rfl⟩ hr hl ⟨rfl, hk⟩
  refine ⟨_, (dss_cons (ds_set 2 sc_law_box.nd (EO.d (eo_callP (DF.mono F_law_cell_at (by first | omega | decide)) hr (ad_cons (ed_var 0) (ad_cons (ed_var 1) ad_nil))))) (dss_cons (ds_ret (eo_lst (ao_cons (eo_mul (ed_abs T.z_abs (av_cons (ev_var 2) av_nil)) (ed_int1 T.z_int (av_cons (ED.v (EC.d (ec_ge (ED.v (ed_abs T.z_abs (av_cons (ev_var 2) av_nil))) (ED.v (ed_pow (ED.v ed_int) (ED.v ed_int)))))) av_nil))) (ao_cons (eo_add (EO.d (eo_add (ed_mod (ev_var 2) (ED.v ed_int)) (EO.d (eo_mul ed_int (ed_var 1))))) ed_int) (ao_cons (ED.o ed_int) ao_nil))))) dss_nil)), ?_⟩
  (try simp only [seqS_M, startE_cons, startE_nil, List.length_cons, List.length_nil, List.length_replicate, List.length_set, List.replicate_succ, List.replicate_zero, List.getElem?_cons_zero, List.getElem?_cons_succ, List.set_cons_zero, List.set_cons_succ, Option.some.injEq, OT.fz.injEq, OT.ow.injEq, D.int.injEq, D.str.injEq, D.bl.injEq, D.tup.injEq, D.lst.injEq, List.cons.injEq, exists_eq_left', exists_eq_left, exists_eq_right, and_true, true_and, OT.toD_fz, toD_map_fz, hIx_tup, hIx_lst, hIx_scr, hIx_mob, hIx_str, hIxT_fz, hIxT_ow, hAdd_int, hAdd_str, hAdd_tup, hAdd_lst, hMul_int, hMul_lst, hSl_tup, hSl_lst, hSl_str, hLen_lst, hLen_tup, hLen_scr, hLen_str, hLen_mob, hInt_int, hInt_bl, hAbs_int, hSeq_lst, hSeq_tup, hIn_lst, hIn_tup, hEq_eq, hI0_int, hI_int, ng_f, ng_t, atI_0, atI_1, atI_2, ofString_inj, eqv_str, eqv_txt, eqv_int, eqv_bl, eqv_tup, eqv_lst, eqOk_str, eqOk_int, eqOk_bl, eqOk_txt, decide_eq_true_eq, Nat.zero_lt_succ, exists_and_left, List.take_succ_cons, List.take_zero, List.drop_succ_cons, List.drop_zero, List.cons_append, List.nil_append, and_assoc, atI_map, Option.map_some, Nat.reduceAdd, Nat.reduceLT, Nat.reduceLeDiff, OT.toD_ow, List.map_cons, List.map_nil, D.mob.injEq, Mo.lst.injEq, Mem.put_same, Mem.put_put, ixN_30, ixN_32, ixN_10, exists_prop, fz_app, fz_inj, fz_snoc, OT.map_fz, List.length_map, List.length_append, List.append_nil, Nat.zero_add, cutL_1, items_tup, items_lst, items_scr, forD, compD, compS, comp2D, wipeE, D.isIn, List.any_cons, List.any_nil, String.reduceEq, D.plain, D.plains, D.dep, D.deps, Nat.max_self, Nat.min_self, Nat.zero_le, Nat.zero_min, Nat.min_zero, sizeLine_eq, forall_eq, exists_const, forall_const, kind_non, kind_bl, kind_int, kind_str, kind_lst, kind_tup, kind_dk, Kd.isa, reduceCtorEq, decide_false, decide_true, Bool.or_false, Bool.false_or, Bool.or_true, Bool.true_or, Bool.or_self, Bool.and_false, Bool.false_and, Bool.true_and, Bool.and_true, Bool.and_self, and_self, false_or, or_false, false_and, and_false, reduceIte, Bool.false_eq_true, Bool.not_eq_true, Bool.not_true, Bool.not_false, spCell, spBox, DSpec.pure]); repeat (first | (refine seq_in ?_; simp only [seqS_M, startE_cons, startE_nil, List.length_cons, List.length_nil, List.length_replicate, List.length_set, List.replicate_succ, List.replicate_zero, List.getElem?_cons_zero, List.getElem?_cons_succ, List.set_cons_zero, List.set_cons_succ, Option.some.injEq, OT.fz.injEq, OT.ow.injEq, D.int.injEq, D.str.injEq, D.bl.injEq, D.tup.injEq, D.lst.injEq, List.cons.injEq, exists_eq_left', exists_eq_left, exists_eq_right, and_true, true_and, OT.toD_fz, toD_map_fz, hIx_tup, hIx_lst, hIx_scr, hIx_mob, hIx_str, hIxT_fz, hIxT_ow, hAdd_int, hAdd_str, hAdd_tup, hAdd_lst, hMul_int, hMul_lst, hSl_tup, hSl_lst, hSl_str, hLen_lst, hLen_tup, hLen_scr, hLen_str, hLen_mob, hInt_int, hInt_bl, hAbs_int, hSeq_lst, hSeq_tup, hIn_lst, hIn_tup, hEq_eq, hI0_int, hI_int, ng_f, ng_t, atI_0, atI_1, atI_2, ofString_inj, eqv_str, eqv_txt, eqv_int, eqv_bl, eqv_tup, eqv_lst, eqOk_str, eqOk_int, eqOk_bl, eqOk_txt, decide_eq_true_eq, Nat.zero_lt_succ, exists_and_left, List.take_succ_cons, List.take_zero, List.drop_succ_cons, List.drop_zero, List.cons_append, List.nil_append, and_assoc, atI_map, Option.map_some, Nat.reduceAdd, Nat.reduceLT, Nat.reduceLeDiff, OT.toD_ow, List.map_cons, List.map_nil, D.mob.injEq, Mo.lst.injEq, Mem.put_same, Mem.put_put, ixN_30, ixN_32, ixN_10, exists_prop, fz_app, fz_inj, fz_snoc, OT.map_fz, List.length_map, List.length_append, List.append_nil, Nat.zero_add, cutL_1, items_tup, items_lst, items_scr, forD, compD, compS, comp2D, wipeE, D.isIn, List.any_cons, List.any_nil, String.reduceEq, D.plain, D.plains, D.dep, D.deps, Nat.max_self, Nat.min_self, Nat.zero_le, Nat.zero_min, Nat.min_zero, sizeLine_eq, forall_eq, exists_const, forall_const, kind_non, kind_bl, kind_int, kind_str, kind_lst, kind_tup, kind_dk, Kd.isa, reduceCtorEq, decide_false, decide_true, Bool.or_false, Bool.false_or, Bool.or_true, Bool.true_or, Bool.or_self, Bool.and_false, Bool.false_and, Bool.true_and, Bool.and_true, Bool.and_self, and_self, false_or, or_false, false_and, and_false, reduceIte, Bool.false_eq_true, Bool.not_eq_true, Bool.not_true, Bool.not_false, spCell, spBox, DSpec.pure]) | refine And.intro (by first | assumption | omega | decide) ?_ | omega | assumption)
  refine ⟨⟨ns, k⟩, rfl, rfl, hk.1, ?_⟩
  rintro t ⟨v, rfl⟩
  have hk1 : 0 ≤ k := hk.1
  have hk2 : k ≤ 100 := hk.2
  (try simp only [seqS_M, startE_cons, startE_nil, List.length_cons, List.length_nil, List.length_replicate, List.length_set, List.replicate_succ, List.replicate_zero, List.getElem?_cons_zero, List.getElem?_cons_succ, List.set_cons_zero, List.set_cons_succ, Option.some.injEq, OT.fz.injEq, OT.ow.injEq, D.int.injEq, D.str.injEq, D.bl.injEq, D.tup.injEq, D.lst.injEq, List.cons.injEq, exists_eq_left', exists_eq_left, exists_eq_right, and_true, true_and, OT.toD_fz, toD_map_fz, hIx_tup, hIx_lst, hIx_scr, hIx_mob, hIx_str, hIxT_fz, hIxT_ow, hAdd_int, hAdd_str, hAdd_tup, hAdd_lst, hMul_int, hMul_lst, hSl_tup, hSl_lst, hSl_str, hLen_lst, hLen_tup, hLen_scr, hLen_str, hLen_mob, hInt_int, hInt_bl, hAbs_int, hSeq_lst, hSeq_tup, hIn_lst, hIn_tup, hEq_eq, hI0_int, hI_int, ng_f, ng_t, atI_0, atI_1, atI_2, ofString_inj, eqv_str, eqv_txt, eqv_int, eqv_bl, eqv_tup, eqv_lst, eqOk_str, eqOk_int, eqOk_bl, eqOk_txt, decide_eq_true_eq, Nat.zero_lt_succ, exists_and_left, List.take_succ_cons, List.take_zero, List.drop_succ_cons, List.drop_zero, List.cons_append, List.nil_append, and_assoc, atI_map, Option.map_some, Nat.reduceAdd, Nat.reduceLT, Nat.reduceLeDiff, OT.toD_ow, List.map_cons, List.map_nil, D.mob.injEq, Mo.lst.injEq, Mem.put_same, Mem.put_put, ixN_30, ixN_32, ixN_10, exists_prop, fz_app, fz_inj, fz_snoc, OT.map_fz, List.length_map, List.length_append, List.append_nil, Nat.zero_add, cutL_1, items_tup, items_lst, items_scr, forD, compD, compS, comp2D, wipeE, D.isIn, List.any_cons, List.any_nil, String.reduceEq, D.plain, D.plains, D.dep, D.deps, Nat.max_self, Nat.min_self, Nat.zero_le, Nat.zero_min, Nat.min_zero, sizeLine_eq, forall_eq, exists_const, forall_const, kind_non, kind_bl, kind_int, kind_str, kind_lst, kind_tup, kind_dk, Kd.isa, reduceCtorEq, decide_false, decide_true, Bool.or_false, Bool.false_or, Bool.or_true, Bool.true_or, Bool.or_self, Bool.and_false, Bool.false_and, Bool.true_and, Bool.and_true, Bool.and_self, and_self, false_or, or_false, false_and, and_false, reduceIte, Bool.false_eq_true, Bool.not_eq_true, Bool.not_true, Bool.not_false]); repeat (first | (refine seq_in ?_; simp only [seqS_M, startE_cons, startE_nil, List.length_cons, List.length_nil, List.length_replicate, List.length_set, List.replicate_succ, List.replicate_zero, List.getElem?_cons_zero, List.getElem?_cons_succ, List.set_cons_zero, List.set_cons_succ, Option.some.injEq, OT.fz.injEq, OT.ow.injEq, D.int.injEq, D.str.injEq, D.bl.injEq, D.tup.injEq, D.lst.injEq, List.cons.injEq, exists_eq_left', exists_eq_left, exists_eq_right, and_true, true_and, OT.toD_fz, toD_map_fz, hIx_tup, hIx_lst, hIx_scr, hIx_mob, hIx_str, hIxT_fz, hIxT_ow, hAdd_int, hAdd_str, hAdd_tup, hAdd_lst, hMul_int, hMul_lst, hSl_tup, hSl_lst, hSl_str, hLen_lst, hLen_tup, hLen_scr, hLen_str, hLen_mob, hInt_int, hInt_bl, hAbs_int, hSeq_lst, hSeq_tup, hIn_lst, hIn_tup, hEq_eq, hI0_int, hI_int, ng_f, ng_t, atI_0, atI_1, atI_2, ofString_inj, eqv_str, eqv_txt, eqv_int, eqv_bl, eqv_tup, eqv_lst, eqOk_str, eqOk_int, eqOk_bl, eqOk_txt, decide_eq_true_eq, Nat.zero_lt_succ, exists_and_left, List.take_succ_cons, List.take_zero, List.drop_succ_cons, List.drop_zero, List.cons_append, List.nil_append, and_assoc, atI_map, Option.map_some, Nat.reduceAdd, Nat.reduceLT, Nat.reduceLeDiff, OT.toD_ow, List.map_cons, List.map_nil, D.mob.injEq, Mo.lst.injEq, Mem.put_same, Mem.put_put, ixN_30, ixN_32, ixN_10, exists_prop, fz_app, fz_inj, fz_snoc, OT.map_fz, List.length_map, List.length_append, List.append_nil, Nat.zero_add, cutL_1, items_tup, items_lst, items_scr, forD, compD, compS, comp2D, wipeE, D.isIn, List.any_cons, List.any_nil, String.reduceEq, D.plain, D.plains, D.dep, D.deps, Nat.max_self, Nat.min_self, Nat.zero_le, Nat.zero_min, Nat.min_zero, sizeLine_eq, forall_eq, exists_const, forall_const, kind_non, kind_bl, kind_int, kind_str, kind_lst, kind_tup, kind_dk, Kd.isa, reduceCtorEq, decide_false, decide_true, Bool.or_false, Bool.false_or, Bool.or_true, Bool.true_or, Bool.or_self, Bool.and_false, Bool.false_and, Bool.true_and, Bool.and_true, Bool.and_self, and_self, false_or, or_false, false_and, and_false, reduceIte, Bool.false_eq_true, Bool.not_eq_true, Bool.not_true, Bool.not_false]) | refine And.intro (by first | assumption | omega | decide) ?_ | omega | assumption)
  have ha : 0 ≤ (if v < 0 then -v else v) := by split <;> omega
  generalize (if v < 0 then -v else v) = y at ha ⊢
  have hu : 0 ≤ (if y ≥ 10 ^ Int.toNat 18 then (1 : Int) else 0) ∧ (if y ≥ 10 ^ Int.toNat 18 then (1 : Int) else 0) ≤ 1 := by split <;> decide
  generalize (if y ≥ 10 ^ Int.toNat 18 then (1 : Int) else 0) = u at hu ⊢
  have hm : 0 ≤ v % 2305843009213693951 ∧ v % 2305843009213693951 < 2305843009213693951 := ⟨Int.emod_nonneg _ (by decide), Int.emod_lt_of_pos _ (by decide)⟩
  refine ⟨⟨by decide, by decide, by decide⟩, cmul_r (by omega) (by omega), by decide, cmul_l (by decide) (by decide), Int.mul_nonneg ha hu.1, ?_, ?_⟩
  · omega
  · omega
def spTake : DSpec := ⟨Addr × Int × Nat, fun i M ds => ds = [.mob i.1, .int i.2.1] ∧ 1 ≤ i.2.1 ∧ i.2.1 ≤ 2 ^ 20 ∧ i.2.2 ≤ 2 ^ 50 ∧ IsBox i.2.2 M i.1,
  fun i M t M' => ∃ r : Int, t = .fz (.int r) ∧ 0 ≤ r ∧ r < i.2.1 ∧ BoxTo i.1 (i.2.2 + 1) M M'⟩
theorem ok_take (T : Tx K mg) : DF P w K mg base s_law_take "_law_take" ["box", "size"] 1 spTake := by
  obtain ⟨f, fd, hm, F, hb⟩ := T.d_law_take
  refine ⟨f, fd, hm, F, hb, fn_dl F sc_law_take ?_⟩
  rintro X M ds ⟨p, size, n⟩ ⟨cdv, A, outer, s0, H0, E, rfl⟩ hr hl ⟨rfl, hs1, hs2, hn, a, b, c, hM, h1, h2, h3, h4, h5⟩
  refine ⟨_, (dss_cons (ds_if (EC.t (ec_gt (ED.v (ed_ixN 0 ed_int)) (ED.v ed_int))) (dss_cons (ds_set 2 sc_law_take.nd (ed_mod (ED.v (ed_ixN 0 ed_int)) (ev_var 1))) (dss_cons (ds_setIxM 0 (ed_fdiv (ED.v (ed_ixN 0 ed_int)) (ev_var 1)) ed_int) (dss_cons (ds_ret (ED.o (ed_var 2))) dss_nil))) dss_nil) (dss_cons (ds_setIxM 0 (EO.d (eo_add (ed_ixN 0 ed_int) ed_int)) ed_int) (dss_cons (ds_set 3 sc_law_take.nd (ed_mod (ED.v (EO.d (eo_mul (EO.d (eo_add (ed_ixN 0 ed_int) (EO.d (eo_mul ed_int (ed_ixN 0 ed_int))))) (EO.d (eo_add ed_int (ed_ixN 0 ed_int)))))) (ED.v ed_int))) (dss_cons (ds_set 4 sc_law_take.nd (ed_mod (ED.v (EO.d (eo_mul (EO.d (eo_add (EO.d (eo_add (ed_var 3) (ed_ixN 0 ed_int))) (ed_fdiv (ED.v (ed_ixN 0 ed_int)) (ED.v ed_int)))) (EO.d (eo_add (ed_mod (ev_var 3) (ED.v ed_int)) ed_int))))) (ED.v ed_int))) (dss_cons (ds_ret (ED.o (ed_mod (ED.v (ed_fdiv (ED.v (ed_mod (ED.v (EO.d (eo_add (EO.d (eo_mul (ed_var 4) ed_int)) (ed_var 3)))) (ED.v ed_int))) (ED.v ed_int))) (ev_var 1)))) dss_nil))))), ?_⟩
  replace hs1 : 1 ≤ size := hs1
  replace hs2 : size ≤ 2 ^ 20 := hs2
  replace hn : n ≤ 2 ^ 50 := hn
  replace h5 : c ≤ n := h5
  replace hM : M p = some (.lst [.int a, .int b, .int c]) := hM
  (try simp only [seqS_M, startE_cons, startE_nil, List.length_cons, List.length_nil, List.length_replicate, List.length_set, List.replicate_succ, List.replicate_zero, List.getElem?_cons_zero, List.getElem?_cons_succ, List.set_cons_zero, List.set_cons_succ, Option.some.injEq, OT.fz.injEq, OT.ow.injEq, D.int.injEq, D.str.injEq, D.bl.injEq, D.tup.injEq, D.lst.injEq, List.cons.injEq, exists_eq_left', exists_eq_left, exists_eq_right, and_true, true_and, OT.toD_fz, toD_map_fz, hIx_tup, hIx_lst, hIx_scr, hIx_mob, hIx_str, hIxT_fz, hIxT_ow, hAdd_int, hAdd_str, hAdd_tup, hAdd_lst, hMul_int, hMul_lst, hSl_tup, hSl_lst, hSl_str, hLen_lst, hLen_tup, hLen_scr, hLen_str, hLen_mob, hInt_int, hInt_bl, hAbs_int, hSeq_lst, hSeq_tup, hIn_lst, hIn_tup, hEq_eq, hI0_int, hI_int, ng_f, ng_t, atI_0, atI_1, atI_2, ofString_inj, eqv_str, eqv_txt, eqv_int, eqv_bl, eqv_tup, eqv_lst, eqOk_str, eqOk_int, eqOk_bl, eqOk_txt, decide_eq_true_eq, Nat.zero_lt_succ, exists_and_left, List.take_succ_cons, List.take_zero, List.drop_succ_cons, List.drop_zero, List.cons_append, List.nil_append, and_assoc, atI_map, Option.map_some, Nat.reduceAdd, Nat.reduceLT, Nat.reduceLeDiff, OT.toD_ow, List.map_cons, List.map_nil, D.mob.injEq, Mo.lst.injEq, Mem.put_same, Mem.put_put, ixN_30, ixN_32, ixN_10, exists_prop, fz_app, fz_inj, fz_snoc, OT.map_fz, List.length_map, List.length_append, List.append_nil, Nat.zero_add, cutL_1, items_tup, items_lst, items_scr, forD, compD, compS, comp2D, wipeE, D.isIn, List.any_cons, List.any_nil, String.reduceEq, D.plain, D.plains, D.dep, D.deps, Nat.max_self, Nat.min_self, Nat.zero_le, Nat.zero_min, Nat.min_zero, sizeLine_eq, forall_eq, exists_const, forall_const, kind_non, kind_bl, kind_int, kind_str, kind_lst, kind_tup, kind_dk, Kd.isa, reduceCtorEq, decide_false, decide_true, Bool.or_false, Bool.false_or, Bool.or_true, Bool.true_or, Bool.or_self, Bool.and_false, Bool.false_and, Bool.true_and, Bool.and_true, Bool.and_self, and_self, false_or, or_false, false_and, and_false, reduceIte, Bool.false_eq_true, Bool.not_eq_true, Bool.not_true, Bool.not_false, spTake, hM]); repeat (first | (refine seq_in ?_; simp only [seqS_M, startE_cons, startE_nil, List.length_cons, List.length_nil, List.length_replicate, List.length_set, List.replicate_succ, List.replicate_zero, List.getElem?_cons_zero, List.getElem?_cons_succ, List.set_cons_zero, List.set_cons_succ, Option.some.injEq, OT.fz.injEq, OT.ow.injEq, D.int.injEq, D.str.injEq, D.bl.injEq, D.tup.injEq, D.lst.injEq, List.cons.injEq, exists_eq_left', exists_eq_left, exists_eq_right, and_true, true_and, OT.toD_fz, toD_map_fz, hIx_tup, hIx_lst, hIx_scr, hIx_mob, hIx_str, hIxT_fz, hIxT_ow, hAdd_int, hAdd_str, hAdd_tup, hAdd_lst, hMul_int, hMul_lst, hSl_tup, hSl_lst, hSl_str, hLen_lst, hLen_tup, hLen_scr, hLen_str, hLen_mob, hInt_int, hInt_bl, hAbs_int, hSeq_lst, hSeq_tup, hIn_lst, hIn_tup, hEq_eq, hI0_int, hI_int, ng_f, ng_t, atI_0, atI_1, atI_2, ofString_inj, eqv_str, eqv_txt, eqv_int, eqv_bl, eqv_tup, eqv_lst, eqOk_str, eqOk_int, eqOk_bl, eqOk_txt, decide_eq_true_eq, Nat.zero_lt_succ, exists_and_left, List.take_succ_cons, List.take_zero, List.drop_succ_cons, List.drop_zero, List.cons_append, List.nil_append, and_assoc, atI_map, Option.map_some, Nat.reduceAdd, Nat.reduceLT, Nat.reduceLeDiff, OT.toD_ow, List.map_cons, List.map_nil, D.mob.injEq, Mo.lst.injEq, Mem.put_same, Mem.put_put, ixN_30, ixN_32, ixN_10, exists_prop, fz_app, fz_inj, fz_snoc, OT.map_fz, List.length_map, List.length_append, List.append_nil, Nat.zero_add, cutL_1, items_tup, items_lst, items_scr, forD, compD, compS, comp2D, wipeE, D.isIn, List.any_cons, List.any_nil, String.reduceEq, D.plain, D.plains, D.dep, D.deps, Nat.max_self, Nat.min_self, Nat.zero_le, Nat.zero_min, Nat.min_zero, sizeLine_eq, forall_eq, exists_const, forall_const, kind_non, kind_bl, kind_int, kind_str, kind_lst, kind_tup, kind_dk, Kd.isa, reduceCtorEq, decide_false, decide_true, Bool.or_false, Bool.false_or, Bool.or_true, Bool.true_or, Bool.or_self, Bool.and_false, Bool.false_and, Bool.true_and, Bool.and_true, Bool.and_self, and_self, false_or, or_false, false_and, and_false, reduceIte, Bool.false_eq_true, Bool.not_eq_true, Bool.not_true, Bool.not_false, spTake, hM]) | refine And.intro (by first | assumption | omega | decide) ?_ | omega | assumption)
  split
  · rename_i h
    (try simp only [seqS_M, startE_cons, startE_nil, List.length_cons, List.length_nil, List.length_replicate, List.length_set, List.replicate_succ, List.replicate_zero, List.getElem?_cons_zero, List.getElem?_cons_succ, List.set_cons_zero, List.set_cons_succ, Option.some.injEq, OT.fz.injEq, OT.ow.injEq, D.int.injEq, D.str.injEq, D.bl.injEq, D.tup.injEq, D.lst.injEq, List.cons.injEq, exists_eq_left', exists_eq_left, exists_eq_right, and_true, true_and, OT.toD_fz, toD_map_fz, hIx_tup, hIx_lst, hIx_scr, hIx_mob, hIx_str, hIxT_fz, hIxT_ow, hAdd_int, hAdd_str, hAdd_tup, hAdd_lst, hMul_int, hMul_lst, hSl_tup, hSl_lst, hSl_str, hLen_lst, hLen_tup, hLen_scr, hLen_str, hLen_mob, hInt_int, hInt_bl, hAbs_int, hSeq_lst, hSeq_tup, hIn_lst, hIn_tup, hEq_eq, hI0_int, hI_int, ng_f, ng_t, atI_0, atI_1, atI_2, ofString_inj, eqv_str, eqv_txt, eqv_int, eqv_bl, eqv_tup, eqv_lst, eqOk_str, eqOk_int, eqOk_bl, eqOk_txt, decide_eq_true_eq, Nat.zero_lt_succ, exists_and_left, List.take_succ_cons, List.take_zero, List.drop_succ_cons, List.drop_zero, List.cons_append, List.nil_append, and_assoc, atI_map, Option.map_some, Nat.reduceAdd, Nat.reduceLT, Nat.reduceLeDiff, OT.toD_ow, List.map_cons, List.map_nil, D.mob.injEq, Mo.lst.injEq, Mem.put_same, Mem.put_put, ixN_30, ixN_32, ixN_10, exists_prop, fz_app, fz_inj, fz_snoc, OT.map_fz, List.length_map, List.length_append, List.append_nil, Nat.zero_add, cutL_1, items_tup, items_lst, items_scr, forD, compD, compS, comp2D, wipeE, D.isIn, List.any_cons, List.any_nil, String.reduceEq, D.plain, D.plains, D.dep, D.deps, Nat.max_self, Nat.min_self, Nat.zero_le, Nat.zero_min, Nat.min_zero, sizeLine_eq, forall_eq, exists_const, forall_const, kind_non, kind_bl, kind_int, kind_str, kind_lst, kind_tup, kind_dk, Kd.isa, reduceCtorEq, decide_false, decide_true, Bool.or_false, Bool.false_or, Bool.or_true, Bool.true_or, Bool.or_self, Bool.and_false, Bool.false_and, Bool.true_and, Bool.and_true, Bool.and_self, and_self, false_or, or_false, false_and, and_false, reduceIte, Bool.false_eq_true, Bool.not_eq_true, Bool.not_true, Bool.not_false, spTake, hM]); repeat (first | (refine seq_in ?_; simp only [seqS_M, startE_cons, startE_nil, List.length_cons, List.length_nil, List.length_replicate, List.length_set, List.replicate_succ, List.replicate_zero, List.getElem?_cons_zero, List.getElem?_cons_succ, List.set_cons_zero, List.set_cons_succ, Option.some.injEq, OT.fz.injEq, OT.ow.injEq, D.int.injEq, D.str.injEq, D.bl.injEq, D.tup.injEq, D.lst.injEq, List.cons.injEq, exists_eq_left', exists_eq_left, exists_eq_right, and_true, true_and, OT.toD_fz, toD_map_fz, hIx_tup, hIx_lst, hIx_scr, hIx_mob, hIx_str, hIxT_fz, hIxT_ow, hAdd_int, hAdd_str, hAdd_tup, hAdd_lst, hMul_int, hMul_lst, hSl_tup, hSl_lst, hSl_str, hLen_lst, hLen_tup, hLen_scr, hLen_str, hLen_mob, hInt_int, hInt_bl, hAbs_int, hSeq_lst, hSeq_tup, hIn_lst, hIn_tup, hEq_eq, hI0_int, hI_int, ng_f, ng_t, atI_0, atI_1, atI_2, ofString_inj, eqv_str, eqv_txt, eqv_int, eqv_bl, eqv_tup, eqv_lst, eqOk_str, eqOk_int, eqOk_bl, eqOk_txt, decide_eq_true_eq, Nat.zero_lt_succ, exists_and_left, List.take_succ_cons, List.take_zero, List.drop_succ_cons, List.drop_zero, List.cons_append, List.nil_append, and_assoc, atI_map, Option.map_some, Nat.reduceAdd, Nat.reduceLT, Nat.reduceLeDiff, OT.toD_ow, List.map_cons, List.map_nil, D.mob.injEq, Mo.lst.injEq, Mem.put_same, Mem.put_put, ixN_30, ixN_32, ixN_10, exists_prop, fz_app, fz_inj, fz_snoc, OT.map_fz, List.length_map, List.length_append, List.append_nil, Nat.zero_add, cutL_1, items_tup, items_lst, items_scr, forD, compD, compS, comp2D, wipeE, D.isIn, List.any_cons, List.any_nil, String.reduceEq, D.plain, D.plains, D.dep, D.deps, Nat.max_self, Nat.min_self, Nat.zero_le, Nat.zero_min, Nat.min_zero, sizeLine_eq, forall_eq, exists_const, forall_const, kind_non, kind_bl, kind_int, kind_str, kind_lst, kind_tup, kind_dk, Kd.isa, reduceCtorEq, decide_false, decide_true, Bool.or_false, Bool.false_or, Bool.or_true, Bool.true_or, Bool.or_self, Bool.and_false, Bool.false_and, Bool.true_and, Bool.and_true, Bool.and_self, and_self, false_or, or_false, false_and, and_false, reduceIte, Bool.false_eq_true, Bool.not_eq_true, Bool.not_true, Bool.not_false, spTake, hM]) | refine And.intro (by first | assumption | omega | decide) ?_ | omega | assumption)
    refine ⟨⟨by omega, by omega⟩, ?_⟩
    (try simp only [seqS_M, startE_cons, startE_nil, List.length_cons, List.length_nil, List.length_replicate, List.length_set, List.replicate_succ, List.replicate_zero, List.getElem?_cons_zero, List.getElem?_cons_succ, List.set_cons_zero, List.set_cons_succ, Option.some.injEq, OT.fz.injEq, OT.ow.injEq, D.int.injEq, D.str.injEq, D.bl.injEq, D.tup.injEq, D.lst.injEq, List.cons.injEq, exists_eq_left', exists_eq_left, exists_eq_right, and_true, true_and, OT.toD_fz, toD_map_fz, hIx_tup, hIx_lst, hIx_scr, hIx_mob, hIx_str, hIxT_fz, hIxT_ow, hAdd_int, hAdd_str, hAdd_tup, hAdd_lst, hMul_int, hMul_lst, hSl_tup, hSl_lst, hSl_str, hLen_lst, hLen_tup, hLen_scr, hLen_str, hLen_mob, hInt_int, hInt_bl, hAbs_int, hSeq_lst, hSeq_tup, hIn_lst, hIn_tup, hEq_eq, hI0_int, hI_int, ng_f, ng_t, atI_0, atI_1, atI_2, ofString_inj, eqv_str, eqv_txt, eqv_int, eqv_bl, eqv_tup, eqv_lst, eqOk_str, eqOk_int, eqOk_bl, eqOk_txt, decide_eq_true_eq, Nat.zero_lt_succ, exists_and_left, List.take_succ_cons, List.take_zero, List.drop_succ_cons, List.drop_zero, List.cons_append, List.nil_append, and_assoc, atI_map, Option.map_some, Nat.reduceAdd, Nat.reduceLT, Nat.reduceLeDiff, OT.toD_ow, List.map_cons, List.map_nil, D.mob.injEq, Mo.lst.injEq, Mem.put_same, Mem.put_put, ixN_30, ixN_32, ixN_10, exists_prop, fz_app, fz_inj, fz_snoc, OT.map_fz, List.length_map, List.length_append, List.append_nil, Nat.zero_add, cutL_1, items_tup, items_lst, items_scr, forD, compD, compS, comp2D, wipeE, D.isIn, List.any_cons, List.any_nil, String.reduceEq, D.plain, D.plains, D.dep, D.deps, Nat.max_self, Nat.min_self, Nat.zero_le, Nat.zero_min, Nat.min_zero, sizeLine_eq, forall_eq, exists_const, forall_const, kind_non, kind_bl, kind_int, kind_str, kind_lst, kind_tup, kind_dk, Kd.isa, reduceCtorEq, decide_false, decide_true, Bool.or_false, Bool.false_or, Bool.or_true, Bool.true_or, Bool.or_self, Bool.and_false, Bool.false_and, Bool.true_and, Bool.and_true, Bool.and_self, and_self, false_or, or_false, false_and, and_false, reduceIte, Bool.false_eq_true, Bool.not_eq_true, Bool.not_true, Bool.not_false, spTake, hM]); repeat (first | (refine seq_in ?_; simp only [seqS_M, startE_cons, startE_nil, List.length_cons, List.length_nil, List.length_replicate, List.length_set, List.replicate_succ, List.replicate_zero, List.getElem?_cons_zero, List.getElem?_cons_succ, List.set_cons_zero, List.set_cons_succ, Option.some.injEq, OT.fz.injEq, OT.ow.injEq, D.int.injEq, D.str.injEq, D.bl.injEq, D.tup.injEq, D.lst.injEq, List.cons.injEq, exists_eq_left', exists_eq_left, exists_eq_right, and_true, true_and, OT.toD_fz, toD_map_fz, hIx_tup, hIx_lst, hIx_scr, hIx_mob, hIx_str, hIxT_fz, hIxT_ow, hAdd_int, hAdd_str, hAdd_tup, hAdd_lst, hMul_int, hMul_lst, hSl_tup, hSl_lst, hSl_str, hLen_lst, hLen_tup, hLen_scr, hLen_str, hLen_mob, hInt_int, hInt_bl, hAbs_int, hSeq_lst, hSeq_tup, hIn_lst, hIn_tup, hEq_eq, hI0_int, hI_int, ng_f, ng_t, atI_0, atI_1, atI_2, ofString_inj, eqv_str, eqv_txt, eqv_int, eqv_bl, eqv_tup, eqv_lst, eqOk_str, eqOk_int, eqOk_bl, eqOk_txt, decide_eq_true_eq, Nat.zero_lt_succ, exists_and_left, List.take_succ_cons, List.take_zero, List.drop_succ_cons, List.drop_zero, List.cons_append, List.nil_append, and_assoc, atI_map, Option.map_some, Nat.reduceAdd, Nat.reduceLT, Nat.reduceLeDiff, OT.toD_ow, List.map_cons, List.map_nil, D.mob.injEq, Mo.lst.injEq, Mem.put_same, Mem.put_put, ixN_30, ixN_32, ixN_10, exists_prop, fz_app, fz_inj, fz_snoc, OT.map_fz, List.length_map, List.length_append, List.append_nil, Nat.zero_add, cutL_1, items_tup, items_lst, items_scr, forD, compD, compS, comp2D, wipeE, D.isIn, List.any_cons, List.any_nil, String.reduceEq, D.plain, D.plains, D.dep, D.deps, Nat.max_self, Nat.min_self, Nat.zero_le, Nat.zero_min, Nat.min_zero, sizeLine_eq, forall_eq, exists_const, forall_const, kind_non, kind_bl, kind_int, kind_str, kind_lst, kind_tup, kind_dk, Kd.isa, reduceCtorEq, decide_false, decide_true, Bool.or_false, Bool.false_or, Bool.or_true, Bool.true_or, Bool.or_self, Bool.and_false, Bool.false_and, Bool.true_and, Bool.and_true, Bool.and_self, and_self, false_or, or_false, false_and, and_false, reduceIte, Bool.false_eq_true, Bool.not_eq_true, Bool.not_true, Bool.not_false, spTake, hM]) | refine And.intro (by first | assumption | omega | decide) ?_ | omega | assumption)
    exact ⟨Int.emod_nonneg _ (by omega), Int.emod_lt_of_pos _ (by omega), _, _, _, rfl, Int.ediv_nonneg h1 (by omega), h2, h3, h4, by omega⟩
  · (try simp only [seqS_M, startE_cons, startE_nil, List.length_cons, List.length_nil, List.length_replicate, List.length_set, List.replicate_succ, List.replicate_zero, List.getElem?_cons_zero, List.getElem?_cons_succ, List.set_cons_zero, List.set_cons_succ, Option.some.injEq, OT.fz.injEq, OT.ow.injEq, D.int.injEq, D.str.injEq, D.bl.injEq, D.tup.injEq, D.lst.injEq, List.cons.injEq, exists_eq_left', exists_eq_left, exists_eq_right, and_true, true_and, OT.toD_fz, toD_map_fz, hIx_tup, hIx_lst, hIx_scr, hIx_mob, hIx_str, hIxT_fz, hIxT_ow, hAdd_int, hAdd_str, hAdd_tup, hAdd_lst, hMul_int, hMul_lst, hSl_tup, hSl_lst, hSl_str, hLen_lst, hLen_tup, hLen_scr, hLen_str, hLen_mob, hInt_int, hInt_bl, hAbs_int, hSeq_lst, hSeq_tup, hIn_lst, hIn_tup, hEq_eq, hI0_int, hI_int, ng_f, ng_t, atI_0, atI_1, atI_2, ofString_inj, eqv_str, eqv_txt, eqv_int, eqv_bl, eqv_tup, eqv_lst, eqOk_str, eqOk_int, eqOk_bl, eqOk_txt, decide_eq_true_eq, Nat.zero_lt_succ, exists_and_left, List.take_succ_cons, List.take_zero, List.drop_succ_cons, List.drop_zero, List.cons_append, List.nil_append, and_assoc, atI_map, Option.map_some, Nat.reduceAdd, Nat.reduceLT, Nat.reduceLeDiff, OT.toD_ow, List.map_cons, List.map_nil, D.mob.injEq, Mo.lst.injEq, Mem.put_same, Mem.put_put, ixN_30, ixN_32, ixN_10, exists_prop, fz_app, fz_inj, fz_snoc, OT.map_fz, List.length_map, List.length_append, List.append_nil, Nat.zero_add, cutL_1, items_tup, items_lst, items_scr, forD, compD, compS, comp2D, wipeE, D.isIn, List.any_cons, List.any_nil, String.reduceEq, D.plain, D.plains, D.dep, D.deps, Nat.max_self, Nat.min_self, Nat.zero_le, Nat.zero_min, Nat.min_zero, sizeLine_eq, forall_eq, exists_const, forall_const, kind_non, kind_bl, kind_int, kind_str, kind_lst, kind_tup, kind_dk, Kd.isa, reduceCtorEq, decide_false, decide_true, Bool.or_false, Bool.false_or, Bool.or_true, Bool.true_or, Bool.or_self, Bool.and_false, Bool.false_and, Bool.true_and, Bool.and_true, Bool.and_self, and_self, false_or, or_false, false_and, and_false, reduceIte, Bool.false_eq_true, Bool.not_eq_true, Bool.not_true, Bool.not_false, spTake, hM]); repeat (first | (refine seq_in ?_; simp only [seqS_M, startE_cons, startE_nil, List.length_cons, List.length_nil, List.length_replicate, List.length_set, List.replicate_succ, List.replicate_zero, List.getElem?_cons_zero, List.getElem?_cons_succ, List.set_cons_zero, List.set_cons_succ, Option.some.injEq, OT.fz.injEq, OT.ow.injEq, D.int.injEq, D.str.injEq, D.bl.injEq, D.tup.injEq, D.lst.injEq, List.cons.injEq, exists_eq_left', exists_eq_left, exists_eq_right, and_true, true_and, OT.toD_fz, toD_map_fz, hIx_tup, hIx_lst, hIx_scr, hIx_mob, hIx_str, hIxT_fz, hIxT_ow, hAdd_int, hAdd_str, hAdd_tup, hAdd_lst, hMul_int, hMul_lst, hSl_tup, hSl_lst, hSl_str, hLen_lst, hLen_tup, hLen_scr, hLen_str, hLen_mob, hInt_int, hInt_bl, hAbs_int, hSeq_lst, hSeq_tup, hIn_lst, hIn_tup, hEq_eq, hI0_int, hI_int, ng_f, ng_t, atI_0, atI_1, atI_2, ofString_inj, eqv_str, eqv_txt, eqv_int, eqv_bl, eqv_tup, eqv_lst, eqOk_str, eqOk_int, eqOk_bl, eqOk_txt, decide_eq_true_eq, Nat.zero_lt_succ, exists_and_left, List.take_succ_cons, List.take_zero, List.drop_succ_cons, List.drop_zero, List.cons_append, List.nil_append, and_assoc, atI_map, Option.map_some, Nat.reduceAdd, Nat.reduceLT, Nat.reduceLeDiff, OT.toD_ow, List.map_cons, List.map_nil, D.mob.injEq, Mo.lst.injEq, Mem.put_same, Mem.put_put, ixN_30, ixN_32, ixN_10, exists_prop, fz_app, fz_inj, fz_snoc, OT.map_fz, List.length_map, List.length_append, List.append_nil, Nat.zero_add, cutL_1, items_tup, items_lst, items_scr, forD, compD, compS, comp2D, wipeE, D.isIn, List.any_cons, List.any_nil, String.reduceEq, D.plain, D.plains, D.dep, D.deps, Nat.max_self, Nat.min_self, Nat.zero_le, Nat.zero_min, Nat.min_zero, sizeLine_eq, forall_eq, exists_const, forall_const, kind_non, kind_bl, kind_int, kind_str, kind_lst, kind_tup, kind_dk, Kd.isa, reduceCtorEq, decide_false, decide_true, Bool.or_false, Bool.false_or, Bool.or_true, Bool.true_or, Bool.or_self, Bool.and_false, Bool.false_and, Bool.true_and, Bool.and_true, Bool.and_self, and_self, false_or, or_false, false_and, and_false, reduceIte, Bool.false_eq_true, Bool.not_eq_true, Bool.not_true, Bool.not_false, spTake, hM]) | refine And.intro (by first | assumption | omega | decide) ?_ | omega | assumption)
    refine ⟨cmul_l (by decide) (by decide), cmul_r (by omega) (by omega), by decide, ?_⟩
    have o1 : 0 ≤ (b + 48271 * (c + 1)) * (39373 + (c + 1)) % 2147483647 ∧ (b + 48271 * (c + 1)) * (39373 + (c + 1)) % 2147483647 < 2147483647 := ⟨Int.emod_nonneg _ (by decide), Int.emod_lt_of_pos _ (by decide)⟩
    generalize (b + 48271 * (c + 1)) * (39373 + (c + 1)) % 2147483647 = once at o1 ⊢
    (try simp only [seqS_M, startE_cons, startE_nil, List.length_cons, List.length_nil, List.length_replicate, List.length_set, List.replicate_succ, List.replicate_zero, List.getElem?_cons_zero, List.getElem?_cons_succ, List.set_cons_zero, List.set_cons_succ, Option.some.injEq, OT.fz.injEq, OT.ow.injEq, D.int.injEq, D.str.injEq, D.bl.injEq, D.tup.injEq, D.lst.injEq, List.cons.injEq, exists_eq_left', exists_eq_left, exists_eq_right, and_true, true_and, OT.toD_fz, toD_map_fz, hIx_tup, hIx_lst, hIx_scr, hIx_mob, hIx_str, hIxT_fz, hIxT_ow, hAdd_int, hAdd_str, hAdd_tup, hAdd_lst, hMul_int, hMul_lst, hSl_tup, hSl_lst, hSl_str, hLen_lst, hLen_tup, hLen_scr, hLen_str, hLen_mob, hInt_int, hInt_bl, hAbs_int, hSeq_lst, hSeq_tup, hIn_lst, hIn_tup, hEq_eq, hI0_int, hI_int, ng_f, ng_t, atI_0, atI_1, atI_2, ofString_inj, eqv_str, eqv_txt, eqv_int, eqv_bl, eqv_tup, eqv_lst, eqOk_str, eqOk_int, eqOk_bl, eqOk_txt, decide_eq_true_eq, Nat.zero_lt_succ, exists_and_left, List.take_succ_cons, List.take_zero, List.drop_succ_cons, List.drop_zero, List.cons_append, List.nil_append, and_assoc, atI_map, Option.map_some, Nat.reduceAdd, Nat.reduceLT, Nat.reduceLeDiff, OT.toD_ow, List.map_cons, List.map_nil, D.mob.injEq, Mo.lst.injEq, Mem.put_same, Mem.put_put, ixN_30, ixN_32, ixN_10, exists_prop, fz_app, fz_inj, fz_snoc, OT.map_fz, List.length_map, List.length_append, List.append_nil, Nat.zero_add, cutL_1, items_tup, items_lst, items_scr, forD, compD, compS, comp2D, wipeE, D.isIn, List.any_cons, List.any_nil, String.reduceEq, D.plain, D.plains, D.dep, D.deps, Nat.max_self, Nat.min_self, Nat.zero_le, Nat.zero_min, Nat.min_zero, sizeLine_eq, forall_eq, exists_const, forall_const, kind_non, kind_bl, kind_int, kind_str, kind_lst, kind_tup, kind_dk, Kd.isa, reduceCtorEq, decide_false, decide_true, Bool.or_false, Bool.false_or, Bool.or_true, Bool.true_or, Bool.or_self, Bool.and_false, Bool.false_and, Bool.true_and, Bool.and_true, Bool.and_self, and_self, false_or, or_false, false_and, and_false, reduceIte, Bool.false_eq_true, Bool.not_eq_true, Bool.not_true, Bool.not_false, spTake, hM]); repeat (first | (refine seq_in ?_; simp only [seqS_M, startE_cons, startE_nil, List.length_cons, List.length_nil, List.length_replicate, List.length_set, List.replicate_succ, List.replicate_zero, List.getElem?_cons_zero, List.getElem?_cons_succ, List.set_cons_zero, List.set_cons_succ, Option.some.injEq, OT.fz.injEq, OT.ow.injEq, D.int.injEq, D.str.injEq, D.bl.injEq, D.tup.injEq, D.lst.injEq, List.cons.injEq, exists_eq_left', exists_eq_left, exists_eq_right, and_true, true_and, OT.toD_fz, toD_map_fz, hIx_tup, hIx_lst, hIx_scr, hIx_mob, hIx_str, hIxT_fz, hIxT_ow, hAdd_int, hAdd_str, hAdd_tup, hAdd_lst, hMul_int, hMul_lst, hSl_tup, hSl_lst, hSl_str, hLen_lst, hLen_tup, hLen_scr, hLen_str, hLen_mob, hInt_int, hInt_bl, hAbs_int, hSeq_lst, hSeq_tup, hIn_lst, hIn_tup, hEq_eq, hI0_int, hI_int, ng_f, ng_t, atI_0, atI_1, atI_2, ofString_inj, eqv_str, eqv_txt, eqv_int, eqv_bl, eqv_tup, eqv_lst, eqOk_str, eqOk_int, eqOk_bl, eqOk_txt, decide_eq_true_eq, Nat.zero_lt_succ, exists_and_left, List.take_succ_cons, List.take_zero, List.drop_succ_cons, List.drop_zero, List.cons_append, List.nil_append, and_assoc, atI_map, Option.map_some, Nat.reduceAdd, Nat.reduceLT, Nat.reduceLeDiff, OT.toD_ow, List.map_cons, List.map_nil, D.mob.injEq, Mo.lst.injEq, Mem.put_same, Mem.put_put, ixN_30, ixN_32, ixN_10, exists_prop, fz_app, fz_inj, fz_snoc, OT.map_fz, List.length_map, List.length_append, List.append_nil, Nat.zero_add, cutL_1, items_tup, items_lst, items_scr, forD, compD, compS, comp2D, wipeE, D.isIn, List.any_cons, List.any_nil, String.reduceEq, D.plain, D.plains, D.dep, D.deps, Nat.max_self, Nat.min_self, Nat.zero_le, Nat.zero_min, Nat.min_zero, sizeLine_eq, forall_eq, exists_const, forall_const, kind_non, kind_bl, kind_int, kind_str, kind_lst, kind_tup, kind_dk, Kd.isa, reduceCtorEq, decide_false, decide_true, Bool.or_false, Bool.false_or, Bool.or_true, Bool.true_or, Bool.or_self, Bool.and_false, Bool.false_and, Bool.true_and, Bool.and_true, Bool.and_self, and_self, false_or, or_false, false_and, and_false, reduceIte, Bool.false_eq_true, Bool.not_eq_true, Bool.not_true, Bool.not_false, spTake, hM]) | refine And.intro (by first | assumption | omega | decide) ?_ | omega | assumption)
    refine ⟨⟨by decide, by decide⟩, by decide, ?_⟩
    have o2 : 0 ≤ once % 40009 ∧ once % 40009 < 40009 := ⟨Int.emod_nonneg _ (by decide), Int.emod_lt_of_pos _ (by decide)⟩
    generalize once % 40009 = small at o2 ⊢
    have o3 : 0 ≤ (once + (c + 1) + b / 1000003) * (small + 7) % 2147483629 ∧ (once + (c + 1) + b / 1000003) * (small + 7) % 2147483629 < 2147483629 := ⟨Int.emod_nonneg _ (by decide), Int.emod_lt_of_pos _ (by decide)⟩
    refine ⟨cmul_r (by omega) (by omega), by decide, ?_⟩
    generalize (once + (c + 1) + b / 1000003) * (small + 7) % 2147483629 = twice at o3 ⊢
    (try simp only [seqS_M, startE_cons, startE_nil, List.length_cons, List.length_nil, List.length_replicate, List.length_set, List.replicate_succ, List.replicate_zero, List.getElem?_cons_zero, List.getElem?_cons_succ, List.set_cons_zero, List.set_cons_succ, Option.some.injEq, OT.fz.injEq, OT.ow.injEq, D.int.injEq, D.str.injEq, D.bl.injEq, D.tup.injEq, D.lst.injEq, List.cons.injEq, exists_eq_left', exists_eq_left, exists_eq_right, and_true, true_and, OT.toD_fz, toD_map_fz, hIx_tup, hIx_lst, hIx_scr, hIx_mob, hIx_str, hIxT_fz, hIxT_ow, hAdd_int, hAdd_str, hAdd_tup, hAdd_lst, hMul_int, hMul_lst, hSl_tup, hSl_lst, hSl_str, hLen_lst, hLen_tup, hLen_scr, hLen_str, hLen_mob, hInt_int, hInt_bl, hAbs_int, hSeq_lst, hSeq_tup, hIn_lst, hIn_tup, hEq_eq, hI0_int, hI_int, ng_f, ng_t, atI_0, atI_1, atI_2, ofString_inj, eqv_str, eqv_txt, eqv_int, eqv_bl, eqv_tup, eqv_lst, eqOk_str, eqOk_int, eqOk_bl, eqOk_txt, decide_eq_true_eq, Nat.zero_lt_succ, exists_and_left, List.take_succ_cons, List.take_zero, List.drop_succ_cons, List.drop_zero, List.cons_append, List.nil_append, and_assoc, atI_map, Option.map_some, Nat.reduceAdd, Nat.reduceLT, Nat.reduceLeDiff, OT.toD_ow, List.map_cons, List.map_nil, D.mob.injEq, Mo.lst.injEq, Mem.put_same, Mem.put_put, ixN_30, ixN_32, ixN_10, exists_prop, fz_app, fz_inj, fz_snoc, OT.map_fz, List.length_map, List.length_append, List.append_nil, Nat.zero_add, cutL_1, items_tup, items_lst, items_scr, forD, compD, compS, comp2D, wipeE, D.isIn, List.any_cons, List.any_nil, String.reduceEq, D.plain, D.plains, D.dep, D.deps, Nat.max_self, Nat.min_self, Nat.zero_le, Nat.zero_min, Nat.min_zero, sizeLine_eq, forall_eq, exists_const, forall_const, kind_non, kind_bl, kind_int, kind_str, kind_lst, kind_tup, kind_dk, Kd.isa, reduceCtorEq, decide_false, decide_true, Bool.or_false, Bool.false_or, Bool.or_true, Bool.true_or, Bool.or_self, Bool.and_false, Bool.false_and, Bool.true_and, Bool.and_true, Bool.and_self, and_self, false_or, or_false, false_and, and_false, reduceIte, Bool.false_eq_true, Bool.not_eq_true, Bool.not_true, Bool.not_false, spTake, hM]); repeat (first | (refine seq_in ?_; simp only [seqS_M, startE_cons, startE_nil, List.length_cons, List.length_nil, List.length_replicate, List.length_set, List.replicate_succ, List.replicate_zero, List.getElem?_cons_zero, List.getElem?_cons_succ, List.set_cons_zero, List.set_cons_succ, Option.some.injEq, OT.fz.injEq, OT.ow.injEq, D.int.injEq, D.str.injEq, D.bl.injEq, D.tup.injEq, D.lst.injEq, List.cons.injEq, exists_eq_left', exists_eq_left, exists_eq_right, and_true, true_and, OT.toD_fz, toD_map_fz, hIx_tup, hIx_lst, hIx_scr, hIx_mob, hIx_str, hIxT_fz, hIxT_ow, hAdd_int, hAdd_str, hAdd_tup, hAdd_lst, hMul_int, hMul_lst, hSl_tup, hSl_lst, hSl_str, hLen_lst, hLen_tup, hLen_scr, hLen_str, hLen_mob, hInt_int, hInt_bl, hAbs_int, hSeq_lst, hSeq_tup, hIn_lst, hIn_tup, hEq_eq, hI0_int, hI_int, ng_f, ng_t, atI_0, atI_1, atI_2, ofString_inj, eqv_str, eqv_txt, eqv_int, eqv_bl, eqv_tup, eqv_lst, eqOk_str, eqOk_int, eqOk_bl, eqOk_txt, decide_eq_true_eq, Nat.zero_lt_succ, exists_and_left, List.take_succ_cons, List.take_zero, List.drop_succ_cons, List.drop_zero, List.cons_append, List.nil_append, and_assoc, atI_map, Option.map_some, Nat.reduceAdd, Nat.reduceLT, Nat.reduceLeDiff, OT.toD_ow, List.map_cons, List.map_nil, D.mob.injEq, Mo.lst.injEq, Mem.put_same, Mem.put_put, ixN_30, ixN_32, ixN_10, exists_prop, fz_app, fz_inj, fz_snoc, OT.map_fz, List.length_map, List.length_append, List.append_nil, Nat.zero_add, cutL_1, items_tup, items_lst, items_scr, forD, compD, compS, comp2D, wipeE, D.isIn, List.any_cons, List.any_nil, String.reduceEq, D.plain, D.plains, D.dep, D.deps, Nat.max_self, Nat.min_self, Nat.zero_le, Nat.zero_min, Nat.min_zero, sizeLine_eq, forall_eq, exists_const, forall_const, kind_non, kind_bl, kind_int, kind_str, kind_lst, kind_tup, kind_dk, Kd.isa, reduceCtorEq, decide_false, decide_true, Bool.or_false, Bool.false_or, Bool.or_true, Bool.true_or, Bool.or_self, Bool.and_false, Bool.false_and, Bool.true_and, Bool.and_true, Bool.and_self, and_self, false_or, or_false, false_and, and_false, reduceIte, Bool.false_eq_true, Bool.not_eq_true, Bool.not_true, Bool.not_false, spTake, hM]) | refine And.intro (by first | assumption | omega | decide) ?_ | omega | assumption)
    refine ⟨cmul_r (by decide) (by decide), by decide, ⟨by decide, by decide⟩, by omega, Int.emod_nonneg _ (by omega), Int.emod_lt_of_pos _ (by omega), _, _, _, rfl, h1, h2, h3, by omega, by omega⟩
def spOf1 : DSpec := ⟨Addr × List D × Nat, fun i M ds => (ds = [.mob i.1, .lst i.2.1] ∨ ds = [.mob i.1, .tup i.2.1]) ∧ i.2.1 ≠ [] ∧ i.2.1.length ≤ 2 ^ 20 ∧ i.2.2 ≤ 2 ^ 50 ∧ IsBox i.2.2 M i.1,
  fun i M t M' => ∃ d ∈ i.2.1, t = .fz d ∧ BoxTo i.1 (i.2.2 + 1) M M'⟩
theorem ok_of (T : Tx K mg) : DF P w K mg base s_law_of "_law_of" ["box", "some"] 2 spOf1 := by
  have F_law_take := ok_take (P := P) (w := w) (base := base) T
  obtain ⟨f, fd, hm, F, hb⟩ := T.d_law_of
  refine ⟨f, fd, hm, F, hb, fn_dl F sc_law_of ?_⟩
  rintro X M ds ⟨p, l, n⟩ ⟨cdv, A, outer, s0, H0, E, rfl⟩ hr hl ⟨hds, hl0, hl1, hn, hB⟩
  refine ⟨_, (dss_cons (ds_ret (ED.o (ed_ixN 1 (EO.d (eo_call (DF.mono F_law_take (by first | omega | decide)) hr (ad_cons (ed_var 0) (ad_cons (ed_len T.z_len (av_cons (ev_var 1) av_nil)) ad_nil))))))) dss_nil), ?_⟩
  replace hl0 : l ≠ [] := hl0
  replace hl1 : l.length ≤ 2 ^ 20 := hl1
  have hlen := List.length_pos_iff.mpr hl0
  rcases hds with rfl | rfl
  all_goals
    (try simp only [seqS_M, startE_cons, startE_nil, List.length_cons, List.length_nil, List.length_replicate, List.length_set, List.replicate_succ, List.replicate_zero, List.getElem?_cons_zero, List.getElem?_cons_succ, List.set_cons_zero, List.set_cons_succ, Option.some.injEq, OT.fz.injEq, OT.ow.injEq, D.int.injEq, D.str.injEq, D.bl.injEq, D.tup.injEq, D.lst.injEq, List.cons.injEq, exists_eq_left', exists_eq_left, exists_eq_right, and_true, true_and, OT.toD_fz, toD_map_fz, hIx_tup, hIx_lst, hIx_scr, hIx_mob, hIx_str, hIxT_fz, hIxT_ow, hAdd_int, hAdd_str, hAdd_tup, hAdd_lst, hMul_int, hMul_lst, hSl_tup, hSl_lst, hSl_str, hLen_lst, hLen_tup, hLen_scr, hLen_str, hLen_mob, hInt_int, hInt_bl, hAbs_int, hSeq_lst, hSeq_tup, hIn_lst, hIn_tup, hEq_eq, hI0_int, hI_int, ng_f, ng_t, atI_0, atI_1, atI_2, ofString_inj, eqv_str, eqv_txt, eqv_int, eqv_bl, eqv_tup, eqv_lst, eqOk_str, eqOk_int, eqOk_bl, eqOk_txt, decide_eq_true_eq, Nat.zero_lt_succ, exists_and_left, List.take_succ_cons, List.take_zero, List.drop_succ_cons, List.drop_zero, List.cons_append, List.nil_append, and_assoc, atI_map, Option.map_some, Nat.reduceAdd, Nat.reduceLT, Nat.reduceLeDiff, OT.toD_ow, List.map_cons, List.map_nil, D.mob.injEq, Mo.lst.injEq, Mem.put_same, Mem.put_put, ixN_30, ixN_32, ixN_10, exists_prop, fz_app, fz_inj, fz_snoc, OT.map_fz, List.length_map, List.length_append, List.append_nil, Nat.zero_add, cutL_1, items_tup, items_lst, items_scr, forD, compD, compS, comp2D, wipeE, D.isIn, List.any_cons, List.any_nil, String.reduceEq, D.plain, D.plains, D.dep, D.deps, Nat.max_self, Nat.min_self, Nat.zero_le, Nat.zero_min, Nat.min_zero, sizeLine_eq, forall_eq, exists_const, forall_const, kind_non, kind_bl, kind_int, kind_str, kind_lst, kind_tup, kind_dk, Kd.isa, reduceCtorEq, decide_false, decide_true, Bool.or_false, Bool.false_or, Bool.or_true, Bool.true_or, Bool.or_self, Bool.and_false, Bool.false_and, Bool.true_and, Bool.and_true, Bool.and_self, and_self, false_or, or_false, false_and, and_false, reduceIte, Bool.false_eq_true, Bool.not_eq_true, Bool.not_true, Bool.not_false, spTake]); repeat (first | (refine seq_in ?_; simp only [seqS_M, startE_cons, startE_nil, List.length_cons, List.length_nil, List.length_replicate, List.length_set, List.replicate_succ, List.replicate_zero, List.getElem?_cons_zero, List.getElem?_cons_succ, List.set_cons_zero, List.set_cons_succ, Option.some.injEq, OT.fz.injEq, OT.ow.injEq, D.int.injEq, D.str.injEq, D.bl.injEq, D.tup.injEq, D.lst.injEq, List.cons.injEq, exists_eq_left', exists_eq_left, exists_eq_right, and_true, true_and, OT.toD_fz, toD_map_fz, hIx_tup, hIx_lst, hIx_scr, hIx_mob, hIx_str, hIxT_fz, hIxT_ow, hAdd_int, hAdd_str, hAdd_tup, hAdd_lst, hMul_int, hMul_lst, hSl_tup, hSl_lst, hSl_str, hLen_lst, hLen_tup, hLen_scr, hLen_str, hLen_mob, hInt_int, hInt_bl, hAbs_int, hSeq_lst, hSeq_tup, hIn_lst, hIn_tup, hEq_eq, hI0_int, hI_int, ng_f, ng_t, atI_0, atI_1, atI_2, ofString_inj, eqv_str, eqv_txt, eqv_int, eqv_bl, eqv_tup, eqv_lst, eqOk_str, eqOk_int, eqOk_bl, eqOk_txt, decide_eq_true_eq, Nat.zero_lt_succ, exists_and_left, List.take_succ_cons, List.take_zero, List.drop_succ_cons, List.drop_zero, List.cons_append, List.nil_append, and_assoc, atI_map, Option.map_some, Nat.reduceAdd, Nat.reduceLT, Nat.reduceLeDiff, OT.toD_ow, List.map_cons, List.map_nil, D.mob.injEq, Mo.lst.injEq, Mem.put_same, Mem.put_put, ixN_30, ixN_32, ixN_10, exists_prop, fz_app, fz_inj, fz_snoc, OT.map_fz, List.length_map, List.length_append, List.append_nil, Nat.zero_add, cutL_1, items_tup, items_lst, items_scr, forD, compD, compS, comp2D, wipeE, D.isIn, List.any_cons, List.any_nil, String.reduceEq, D.plain, D.plains, D.dep, D.deps, Nat.max_self, Nat.min_self, Nat.zero_le, Nat.zero_min, Nat.min_zero, sizeLine_eq, forall_eq, exists_const, forall_const, kind_non, kind_bl, kind_int, kind_str, kind_lst, kind_tup, kind_dk, Kd.isa, reduceCtorEq, decide_false, decide_true, Bool.or_false, Bool.false_or, Bool.or_true, Bool.true_or, Bool.or_self, Bool.and_false, Bool.false_and, Bool.true_and, Bool.and_true, Bool.and_self, and_self, false_or, or_false, false_and, and_false, reduceIte, Bool.false_eq_true, Bool.not_eq_true, Bool.not_true, Bool.not_false, spTake]) | refine And.intro (by first | assumption | omega | decide) ?_ | omega | assumption)
    refine ⟨⟨p, (l.length : Nat), n⟩, rfl, rfl, by show (1 : Int) ≤ (l.length : Nat); omega, by show ((l.length : Nat) : Int) ≤ 2 ^ 20; omega, hn, hB, ?_⟩
    rintro t M' ⟨r, rfl, hr0, hr1, hB'⟩
    replace hr1 : r < (l.length : Nat) := hr1
    obtain ⟨j, rfl⟩ := Int.eq_ofNat_of_zero_le hr0
    simp only [seqS_M, startE_cons, startE_nil, List.length_cons, List.length_nil, List.length_replicate, List.length_set, List.replicate_succ, List.replicate_zero, List.getElem?_cons_zero, List.getElem?_cons_succ, List.set_cons_zero, List.set_cons_succ, Option.some.injEq, OT.fz.injEq, OT.ow.injEq, D.int.injEq, D.str.injEq, D.bl.injEq, D.tup.injEq, D.lst.injEq, List.cons.injEq, exists_eq_left', exists_eq_left, exists_eq_right, and_true, true_and, OT.toD_fz, toD_map_fz, hIx_tup, hIx_lst, hIx_scr, hIx_mob, hIx_str, hIxT_fz, hIxT_ow, hAdd_int, hAdd_str, hAdd_tup, hAdd_lst, hMul_int, hMul_lst, hSl_tup, hSl_lst, hSl_str, hLen_lst, hLen_tup, hLen_scr, hLen_str, hLen_mob, hInt_int, hInt_bl, hAbs_int, hSeq_lst, hSeq_tup, hIn_lst, hIn_tup, hEq_eq, hI0_int, hI_int, ng_f, ng_t, atI_0, atI_1, atI_2, ofString_inj, eqv_str, eqv_txt, eqv_int, eqv_bl, eqv_tup, eqv_lst, eqOk_str, eqOk_int, eqOk_bl, eqOk_txt, decide_eq_true_eq, Nat.zero_lt_succ, exists_and_left, List.take_succ_cons, List.take_zero, List.drop_succ_cons, List.drop_zero, List.cons_append, List.nil_append, and_assoc, atI_map, Option.map_some, Nat.reduceAdd, Nat.reduceLT, Nat.reduceLeDiff, OT.toD_ow, List.map_cons, List.map_nil, D.mob.injEq, Mo.lst.injEq, Mem.put_same, Mem.put_put, ixN_30, ixN_32, ixN_10, exists_prop, fz_app, fz_inj, fz_snoc, OT.map_fz, List.length_map, List.length_append, List.append_nil, Nat.zero_add, cutL_1, items_tup, items_lst, items_scr, forD, compD, compS, comp2D, wipeE, D.isIn, List.any_cons, List.any_nil, String.reduceEq, D.plain, D.plains, D.dep, D.deps, Nat.max_self, Nat.min_self, Nat.zero_le, Nat.zero_min, Nat.min_zero, sizeLine_eq, forall_eq, exists_const, forall_const, kind_non, kind_bl, kind_int, kind_str, kind_lst, kind_tup, kind_dk, Kd.isa, reduceCtorEq, decide_false, decide_true, Bool.or_false, Bool.false_or, Bool.or_true, Bool.true_or, Bool.or_self, Bool.and_false, Bool.false_and, Bool.true_and, Bool.and_true, Bool.and_self, and_self, false_or, or_false, false_and, and_false, reduceIte, Bool.false_eq_true, Bool.not_eq_true, Bool.not_true, Bool.not_false]
    have hj : j < l.length := by omega
    exact ⟨l[j], atI_nat (List.getElem?_eq_getElem hj), l[j], List.getElem_mem hj, rfl, hB'⟩
/-- one thing beside itself -/
def spSame (n : Nat) : DSpec := DSpec.pure (ι := D) (fun d ds => ds = [d, d] ∧ d.plain = true ∧ d.dep < n ∧ d.dep ≤ 100) (fun _ t => t = .fz (.bl true))
theorem ok_same (T : Tx K mg) : ∀ n, DF P w K mg base s_law_same "_law_same" ["found", "due"] n (spSame n) := by
  intro n
  induction n with
  | zero => exact DF.never T.d_law_same fun i M ds h => by have := h.2.2.1; omega
  | succ n ih =>
    have F_law_same := ih
    obtain ⟨f, fd, hm, F, hb⟩ := T.d_law_same
    refine ⟨f, fd, hm, F, hb, fn_dl F sc_law_same ?_⟩
    rintro X M ds (d : D) ⟨cdv, A, outer, s0, H0, E, rfl⟩ hr hl ⟨rfl, hp, hd, hd2⟩
    refine ⟨_, (dss_cons (ds_if (et_val (ed_isi2 .lst .tup (ev_var 1) T.z_isinstance T.z_list T.z_tuple)) (dss_cons (ds_if (EW.t (ew_or (EC.t (ec_ne hr.hu (ED.v (ed_isi .lst (ev_var 0) T.z_isinstance T.z_list)) (ED.v (ed_isi .lst (ev_var 1) T.z_isinstance T.z_list)))) (ew_or1 (EC.t (ec_ne hr.hu (ED.v (ed_isi .tup (ev_var 0) T.z_isinstance T.z_tuple)) (ED.v (ed_isi .tup (ev_var 1) T.z_isinstance T.z_tuple))))))) (dss_cons (ds_ret (ED.o ed_bl)) dss_nil) dss_nil) (dss_cons (ds_ret (ED.o (ed_and (EC.d (ec_eq hr.hu (ED.v (ed_len T.z_len (av_cons (ev_var 0) av_nil))) (ED.v (ed_len T.z_len (av_cons (ev_var 1) av_nil))))) (ed_one (ed_all rfl T.z_all (av_cons (ED.v (EO.d (eo_lc (own := [("one", 2), ("two", 3)]) rfl sc_law_same.nd (ei_zip T.z_zip (ad_cons (ed_var 0) (ad_cons (ed_var 1) ad_nil))) (blkOk_by (N := N_law_same) (sc := (defScope s_law_same)) (by first | decide +kernel | exact rfl)) (by decide) (fun _ _ _ _ _ => (eg_tup (n := 2) rfl (egs_cons (eg_name 2 sc_law_same.nd) (egs_cons (eg_name 3 sc_law_same.nd) egs_nil)))) (fun _ _ _ _ _ => ets_nil) (fun _ _ _ _ _ => (ED.o (ed_callV (DF.mono F_law_same (by first | omega | decide)) hr (av_cons (ev_var 2) (av_cons (ev_var 3) av_nil)))))))) av_nil)))))) dss_nil)) dss_nil) (dss_cons (ds_if (EW.t (ew_or (EC.t (ec_ne hr.hu (ED.v (ed_isi .bl (ev_var 0) T.z_isinstance T.z_bool)) (ED.v (ed_isi .bl (ev_var 1) T.z_isinstance T.z_bool)))) (ew_or1 (EC.t (ec_ne hr.hu (ED.v (ed_isi .int (ev_var 0) T.z_isinstance T.z_int)) (ED.v (ed_isi .int (ev_var 1) T.z_isinstance T.z_int))))))) (dss_cons (ds_ret (ED.o ed_bl)) dss_nil) dss_nil) (dss_cons (ds_ret (ED.o (EC.d (ec_eq hr.hu (ev_var 0) (ev_var 1))))) dss_nil))), ?_⟩
    have hself : D.eqOk d d = true := eqOk_of hp hp (.inl hd2)
    cases d with
    | tup l =>
      (try simp only [seqS_M, startE_cons, startE_nil, List.length_cons, List.length_nil, List.length_replicate, List.length_set, List.replicate_succ, List.replicate_zero, List.getElem?_cons_zero, List.getElem?_cons_succ, List.set_cons_zero, List.set_cons_succ, Option.some.injEq, OT.fz.injEq, OT.ow.injEq, D.int.injEq, D.str.injEq, D.bl.injEq, D.tup.injEq, D.lst.injEq, List.cons.injEq, exists_eq_left', exists_eq_left, exists_eq_right, and_true, true_and, OT.toD_fz, toD_map_fz, hIx_tup, hIx_lst, hIx_scr, hIx_mob, hIx_str, hIxT_fz, hIxT_ow, hAdd_int, hAdd_str, hAdd_tup, hAdd_lst, hMul_int, hMul_lst, hSl_tup, hSl_lst, hSl_str, hLen_lst, hLen_tup, hLen_scr, hLen_str, hLen_mob, hInt_int, hInt_bl, hAbs_int, hSeq_lst, hSeq_tup, hIn_lst, hIn_tup, hEq_eq, hI0_int, hI_int, ng_f, ng_t, atI_0, atI_1, atI_2, ofString_inj, eqv_str, eqv_txt, eqv_int, eqv_bl, eqv_tup, eqv_lst, eqOk_str, eqOk_int, eqOk_bl, eqOk_txt, decide_eq_true_eq, Nat.zero_lt_succ, exists_and_left, List.take_succ_cons, List.take_zero, List.drop_succ_cons, List.drop_zero, List.cons_append, List.nil_append, and_assoc, atI_map, Option.map_some, Nat.reduceAdd, Nat.reduceLT, Nat.reduceLeDiff, OT.toD_ow, List.map_cons, List.map_nil, D.mob.injEq, Mo.lst.injEq, Mem.put_same, Mem.put_put, ixN_30, ixN_32, ixN_10, exists_prop, fz_app, fz_inj, fz_snoc, OT.map_fz, List.length_map, List.length_append, List.append_nil, Nat.zero_add, cutL_1, items_tup, items_lst, items_scr, forD, compD, compS, comp2D, wipeE, D.isIn, List.any_cons, List.any_nil, String.reduceEq, D.plain, D.plains, D.dep, D.deps, Nat.max_self, Nat.min_self, Nat.zero_le, Nat.zero_min, Nat.min_zero, sizeLine_eq, forall_eq, exists_const, forall_const, kind_non, kind_bl, kind_int, kind_str, kind_lst, kind_tup, kind_dk, Kd.isa, reduceCtorEq, decide_false, decide_true, Bool.or_false, Bool.false_or, Bool.or_true, Bool.true_or, Bool.or_self, Bool.and_false, Bool.false_and, Bool.true_and, Bool.and_true, Bool.and_self, and_self, false_or, or_false, false_and, and_false, reduceIte, Bool.false_eq_true, Bool.not_eq_true, Bool.not_true, Bool.not_false, spSame, DSpec.pure]); repeat (first | (refine seq_in ?_; simp only [seqS_M, startE_cons, startE_nil, List.length_cons, List.length_nil, List.length_replicate, List.length_set, List.replicate_succ, List.replicate_zero, List.getElem?_cons_zero, List.getElem?_cons_succ, List.set_cons_zero, List.set_cons_succ, Option.some.injEq, OT.fz.injEq, OT.ow.injEq, D.int.injEq, D.str.injEq, D.bl.injEq, D.tup.injEq, D.lst.injEq, List.cons.injEq, exists_eq_left', exists_eq_left, exists_eq_right, and_true, true_and, OT.toD_fz, toD_map_fz, hIx_tup, hIx_lst, hIx_scr, hIx_mob, hIx_str, hIxT_fz, hIxT_ow, hAdd_int, hAdd_str, hAdd_tup, hAdd_lst, hMul_int, hMul_lst, hSl_tup, hSl_lst, hSl_str, hLen_lst, hLen_tup, hLen_scr, hLen_str, hLen_mob, hInt_int, hInt_bl, hAbs_int, hSeq_lst, hSeq_tup, hIn_lst, hIn_tup, hEq_eq, hI0_int, hI_int, ng_f, ng_t, atI_0, atI_1, atI_2, ofString_inj, eqv_str, eqv_txt, eqv_int, eqv_bl, eqv_tup, eqv_lst, eqOk_str, eqOk_int, eqOk_bl, eqOk_txt, decide_eq_true_eq, Nat.zero_lt_succ, exists_and_left, List.take_succ_cons, List.take_zero, List.drop_succ_cons, List.drop_zero, List.cons_append, List.nil_append, and_assoc, atI_map, Option.map_some, Nat.reduceAdd, Nat.reduceLT, Nat.reduceLeDiff, OT.toD_ow, List.map_cons, List.map_nil, D.mob.injEq, Mo.lst.injEq, Mem.put_same, Mem.put_put, ixN_30, ixN_32, ixN_10, exists_prop, fz_app, fz_inj, fz_snoc, OT.map_fz, List.length_map, List.length_append, List.append_nil, Nat.zero_add, cutL_1, items_tup, items_lst, items_scr, forD, compD, compS, comp2D, wipeE, D.isIn, List.any_cons, List.any_nil, String.reduceEq, D.plain, D.plains, D.dep, D.deps, Nat.max_self, Nat.min_self, Nat.zero_le, Nat.zero_min, Nat.min_zero, sizeLine_eq, forall_eq, exists_const, forall_const, kind_non, kind_bl, kind_int, kind_str, kind_lst, kind_tup, kind_dk, Kd.isa, reduceCtorEq, decide_false, decide_true, Bool.or_false, Bool.false_or, Bool.or_true, Bool.true_or, Bool.or_self, Bool.and_false, Bool.false_and, Bool.true_and, Bool.and_true, Bool.and_self, and_self, false_or, or_false, false_and, and_false, reduceIte, Bool.false_eq_true, Bool.not_eq_true, Bool.not_true, Bool.not_false, spSame, DSpec.pure]) | refine And.intro (by first | assumption | omega | decide) ?_ | omega | assumption)
      replace hd : D.deps l < n := by rw [dep_tup] at hd; omega
      replace hd2 : D.deps l ≤ 100 := by rw [dep_tup] at hd2; omega
      replace hp : D.plains l = true := by rw [plain_tup] at hp; exact hp
      refine compD_rec (fun ds acc M => (∀ x ∈ ds, ∃ y ∈ l, x = .tup [y, y]) ∧ ∀ t ∈ acc, t = .fz (.bl true)) _ _ _ ⟨fun x hx => mem_zip_self hx, fun t ht => nomatch ht⟩ (fun acc M h => ?_) fun d ds acc M h C hC => ?_
      · obtain ⟨bs, e1, e2⟩ := trues_all h.2
        exact ⟨bs, by rw [e1], congrArg D.bl e2⟩
      · obtain ⟨y, hy, rfl⟩ := h.1 d List.mem_cons_self
        simp only [seqS_M, startE_cons, startE_nil, List.length_cons, List.length_nil, List.length_replicate, List.length_set, List.replicate_succ, List.replicate_zero, List.getElem?_cons_zero, List.getElem?_cons_succ, List.set_cons_zero, List.set_cons_succ, Option.some.injEq, OT.fz.injEq, OT.ow.injEq, D.int.injEq, D.str.injEq, D.bl.injEq, D.tup.injEq, D.lst.injEq, List.cons.injEq, exists_eq_left', exists_eq_left, exists_eq_right, and_true, true_and, OT.toD_fz, toD_map_fz, hIx_tup, hIx_lst, hIx_scr, hIx_mob, hIx_str, hIxT_fz, hIxT_ow, hAdd_int, hAdd_str, hAdd_tup, hAdd_lst, hMul_int, hMul_lst, hSl_tup, hSl_lst, hSl_str, hLen_lst, hLen_tup, hLen_scr, hLen_str, hLen_mob, hInt_int, hInt_bl, hAbs_int, hSeq_lst, hSeq_tup, hIn_lst, hIn_tup, hEq_eq, hI0_int, hI_int, ng_f, ng_t, atI_0, atI_1, atI_2, ofString_inj, eqv_str, eqv_txt, eqv_int, eqv_bl, eqv_tup, eqv_lst, eqOk_str, eqOk_int, eqOk_bl, eqOk_txt, decide_eq_true_eq, Nat.zero_lt_succ, exists_and_left, List.take_succ_cons, List.take_zero, List.drop_succ_cons, List.drop_zero, List.cons_append, List.nil_append, and_assoc, atI_map, Option.map_some, Nat.reduceAdd, Nat.reduceLT, Nat.reduceLeDiff, OT.toD_ow, List.map_cons, List.map_nil, D.mob.injEq, Mo.lst.injEq, Mem.put_same, Mem.put_put, ixN_30, ixN_32, ixN_10, exists_prop, fz_app, fz_inj, fz_snoc, OT.map_fz, List.length_map, List.length_append, List.append_nil, Nat.zero_add, cutL_1, items_tup, items_lst, items_scr, forD, compD, compS, comp2D, wipeE, D.isIn, List.any_cons, List.any_nil, String.reduceEq, D.plain, D.plains, D.dep, D.deps, Nat.max_self, Nat.min_self, Nat.zero_le, Nat.zero_min, Nat.min_zero, sizeLine_eq, forall_eq, exists_const, forall_const, kind_non, kind_bl, kind_int, kind_str, kind_lst, kind_tup, kind_dk, Kd.isa, reduceCtorEq, decide_false, decide_true, Bool.or_false, Bool.false_or, Bool.or_true, Bool.true_or, Bool.or_self, Bool.and_false, Bool.false_and, Bool.true_and, Bool.and_true, Bool.and_self, and_self, false_or, or_false, false_and, and_false, reduceIte, Bool.false_eq_true, Bool.not_eq_true, Bool.not_true, Bool.not_false, wipeE, List.length_cons]
        refine ⟨plains_mem hp hy, by have := deps_mem hy; omega, by have := deps_mem hy; omega, rfl, hC _ _ ⟨fun x hx => h.1 x (List.mem_cons_of_mem _ hx), fun t ht => ?_⟩⟩
        rcases List.mem_append.mp ht with ht | ht
        · exact h.2 t ht
        · simpa using ht
    | lst l =>
      (try simp only [seqS_M, startE_cons, startE_nil, List.length_cons, List.length_nil, List.length_replicate, List.length_set, List.replicate_succ, List.replicate_zero, List.getElem?_cons_zero, List.getElem?_cons_succ, List.set_cons_zero, List.set_cons_succ, Option.some.injEq, OT.fz.injEq, OT.ow.injEq, D.int.injEq, D.str.injEq, D.bl.injEq, D.tup.injEq, D.lst.injEq, List.cons.injEq, exists_eq_left', exists_eq_left, exists_eq_right, and_true, true_and, OT.toD_fz, toD_map_fz, hIx_tup, hIx_lst, hIx_scr, hIx_mob, hIx_str, hIxT_fz, hIxT_ow, hAdd_int, hAdd_str, hAdd_tup, hAdd_lst, hMul_int, hMul_lst, hSl_tup, hSl_lst, hSl_str, hLen_lst, hLen_tup, hLen_scr, hLen_str, hLen_mob, hInt_int, hInt_bl, hAbs_int, hSeq_lst, hSeq_tup, hIn_lst, hIn_tup, hEq_eq, hI0_int, hI_int, ng_f, ng_t, atI_0, atI_1, atI_2, ofString_inj, eqv_str, eqv_txt, eqv_int, eqv_bl, eqv_tup, eqv_lst, eqOk_str, eqOk_int, eqOk_bl, eqOk_txt, decide_eq_true_eq, Nat.zero_lt_succ, exists_and_left, List.take_succ_cons, List.take_zero, List.drop_succ_cons, List.drop_zero, List.cons_append, List.nil_append, and_assoc, atI_map, Option.map_some, Nat.reduceAdd, Nat.reduceLT, Nat.reduceLeDiff, OT.toD_ow, List.map_cons, List.map_nil, D.mob.injEq, Mo.lst.injEq, Mem.put_same, Mem.put_put, ixN_30, ixN_32, ixN_10, exists_prop, fz_app, fz_inj, fz_snoc, OT.map_fz, List.length_map, List.length_append, List.append_nil, Nat.zero_add, cutL_1, items_tup, items_lst, items_scr, forD, compD, compS, comp2D, wipeE, D.isIn, List.any_cons, List.any_nil, String.reduceEq, D.plain, D.plains, D.dep, D.deps, Nat.max_self, Nat.min_self, Nat.zero_le, Nat.zero_min, Nat.min_zero, sizeLine_eq, forall_eq, exists_const, forall_const, kind_non, kind_bl, kind_int, kind_str, kind_lst, kind_tup, kind_dk, Kd.isa, reduceCtorEq, decide_false, decide_true, Bool.or_false, Bool.false_or, Bool.or_true, Bool.true_or, Bool.or_self, Bool.and_false, Bool.false_and, Bool.true_and, Bool.and_true, Bool.and_self, and_self, false_or, or_false, false_and, and_false, reduceIte, Bool.false_eq_true, Bool.not_eq_true, Bool.not_true, Bool.not_false, spSame, DSpec.pure]); repeat (first | (refine seq_in ?_; simp only [seqS_M, startE_cons, startE_nil, List.length_cons, List.length_nil, List.length_replicate, List.length_set, List.replicate_succ, List.replicate_zero, List.getElem?_cons_zero, List.getElem?_cons_succ, List.set_cons_zero, List.set_cons_succ, Option.some.injEq, OT.fz.injEq, OT.ow.injEq, D.int.injEq, D.str.injEq, D.bl.injEq, D.tup.injEq, D.lst.injEq, List.cons.injEq, exists_eq_left', exists_eq_left, exists_eq_right, and_true, true_and, OT.toD_fz, toD_map_fz, hIx_tup, hIx_lst, hIx_scr, hIx_mob, hIx_str, hIxT_fz, hIxT_ow, hAdd_int, hAdd_str, hAdd_tup, hAdd_lst, hMul_int, hMul_lst, hSl_tup, hSl_lst, hSl_str, hLen_lst, hLen_tup, hLen_scr, hLen_str, hLen_mob, hInt_int, hInt_bl, hAbs_int, hSeq_lst, hSeq_tup, hIn_lst, hIn_tup, hEq_eq, hI0_int, hI_int, ng_f, ng_t, atI_0, atI_1, atI_2, ofString_inj, eqv_str, eqv_txt, eqv_int, eqv_bl, eqv_tup, eqv_lst, eqOk_str, eqOk_int, eqOk_bl, eqOk_txt, decide_eq_true_eq, Nat.zero_lt_succ, exists_and_left, List.take_succ_cons, List.take_zero, List.drop_succ_cons, List.drop_zero, List.cons_append, List.nil_append, and_assoc, atI_map, Option.map_some, Nat.reduceAdd, Nat.reduceLT, Nat.reduceLeDiff, OT.toD_ow, List.map_cons, List.map_nil, D.mob.injEq, Mo.lst.injEq, Mem.put_same, Mem.put_put, ixN_30, ixN_32, ixN_10, exists_prop, fz_app, fz_inj, fz_snoc, OT.map_fz, List.length_map, List.length_append, List.append_nil, Nat.zero_add, cutL_1, items_tup, items_lst, items_scr, forD, compD, compS, comp2D, wipeE, D.isIn, List.any_cons, List.any_nil, String.reduceEq, D.plain, D.plains, D.dep, D.deps, Nat.max_self, Nat.min_self, Nat.zero_le, Nat.zero_min, Nat.min_zero, sizeLine_eq, forall_eq, exists_const, forall_const, kind_non, kind_bl, kind_int, kind_str, kind_lst, kind_tup, kind_dk, Kd.isa, reduceCtorEq, decide_false, decide_true, Bool.or_false, Bool.false_or, Bool.or_true, Bool.true_or, Bool.or_self, Bool.and_false, Bool.false_and, Bool.true_and, Bool.and_true, Bool.and_self, and_self, false_or, or_false, false_and, and_false, reduceIte, Bool.false_eq_true, Bool.not_eq_true, Bool.not_true, Bool.not_false, spSame, DSpec.pure]) | refine And.intro (by first | assumption | omega | decide) ?_ | omega | assumption)
      replace hd : D.deps l < n := by rw [dep_lst] at hd; omega
      replace hd2 : D.deps l ≤ 100 := by rw [dep_lst] at hd2; omega
      replace hp : D.plains l = true := by rw [plain_lst] at hp; exact hp
      refine compD_rec (fun ds acc M => (∀ x ∈ ds, ∃ y ∈ l, x = .tup [y, y]) ∧ ∀ t ∈ acc, t = .fz (.bl true)) _ _ _ ⟨fun x hx => mem_zip_self hx, fun t ht => nomatch ht⟩ (fun acc M h => ?_) fun d ds acc M h C hC => ?_
      · obtain ⟨bs, e1, e2⟩ := trues_all h.2
        exact ⟨bs, by rw [e1], congrArg D.bl e2⟩
      · obtain ⟨y, hy, rfl⟩ := h.1 d List.mem_cons_self
        simp only [seqS_M, startE_cons, startE_nil, List.length_cons, List.length_nil, List.length_replicate, List.length_set, List.replicate_succ, List.replicate_zero, List.getElem?_cons_zero, List.getElem?_cons_succ, List.set_cons_zero, List.set_cons_succ, Option.some.injEq, OT.fz.injEq, OT.ow.injEq, D.int.injEq, D.str.injEq, D.bl.injEq, D.tup.injEq, D.lst.injEq, List.cons.injEq, exists_eq_left', exists_eq_left, exists_eq_right, and_true, true_and, OT.toD_fz, toD_map_fz, hIx_tup, hIx_lst, hIx_scr, hIx_mob, hIx_str, hIxT_fz, hIxT_ow, hAdd_int, hAdd_str, hAdd_tup, hAdd_lst, hMul_int, hMul_lst, hSl_tup, hSl_lst, hSl_str, hLen_lst, hLen_tup, hLen_scr, hLen_str, hLen_mob, hInt_int, hInt_bl, hAbs_int, hSeq_lst, hSeq_tup, hIn_lst, hIn_tup, hEq_eq, hI0_int, hI_int, ng_f, ng_t, atI_0, atI_1, atI_2, ofString_inj, eqv_str, eqv_txt, eqv_int, eqv_bl, eqv_tup, eqv_lst, eqOk_str, eqOk_int, eqOk_bl, eqOk_txt, decide_eq_true_eq, Nat.zero_lt_succ, exists_and_left, List.take_succ_cons, List.take_zero, List.drop_succ_cons, List.drop_zero, List.cons_append, List.nil_append, and_assoc, atI_map, Option.map_some, Nat.reduceAdd, Nat.reduceLT, Nat.reduceLeDiff, OT.toD_ow, List.map_cons, List.map_nil, D.mob.injEq, Mo.lst.injEq, Mem.put_same, Mem.put_put, ixN_30, ixN_32, ixN_10, exists_prop, fz_app, fz_inj, fz_snoc, OT.map_fz, List.length_map, List.length_append, List.append_nil, Nat.zero_add, cutL_1, items_tup, items_lst, items_scr, forD, compD, compS, comp2D, wipeE, D.isIn, List.any_cons, List.any_nil, String.reduceEq, D.plain, D.plains, D.dep, D.deps, Nat.max_self, Nat.min_self, Nat.zero_le, Nat.zero_min, Nat.min_zero, sizeLine_eq, forall_eq, exists_const, forall_const, kind_non, kind_bl, kind_int, kind_str, kind_lst, kind_tup, kind_dk, Kd.isa, reduceCtorEq, decide_false, decide_true, Bool.or_false, Bool.false_or, Bool.or_true, Bool.true_or, Bool.or_self, Bool.and_false, Bool.false_and, Bool.true_and, Bool.and_true, Bool.and_self, and_self, false_or, or_false, false_and, and_false, reduceIte, Bool.false_eq_true, Bool.not_eq_true, Bool.not_true, Bool.not_false, wipeE, List.length_cons]
        refine ⟨plains_mem hp hy, by have := deps_mem hy; omega, by have := deps_mem hy; omega, rfl, hC _ _ ⟨fun x hx => h.1 x (List.mem_cons_of_mem _ hx), fun t ht => ?_⟩⟩
        rcases List.mem_append.mp ht with ht | ht
        · exact h.2 t ht
        · simpa using ht
    | non =>
      (try simp only [seqS_M, startE_cons, startE_nil, List.length_cons, List.length_nil, List.length_replicate, List.length_set, List.replicate_succ, List.replicate_zero, List.getElem?_cons_zero, List.getElem?_cons_succ, List.set_cons_zero, List.set_cons_succ, Option.some.injEq, OT.fz.injEq, OT.ow.injEq, D.int.injEq, D.str.injEq, D.bl.injEq, D.tup.injEq, D.lst.injEq, List.cons.injEq, exists_eq_left', exists_eq_left, exists_eq_right, and_true, true_and, OT.toD_fz, toD_map_fz, hIx_tup, hIx_lst, hIx_scr, hIx_mob, hIx_str, hIxT_fz, hIxT_ow, hAdd_int, hAdd_str, hAdd_tup, hAdd_lst, hMul_int, hMul_lst, hSl_tup, hSl_lst, hSl_str, hLen_lst, hLen_tup, hLen_scr, hLen_str, hLen_mob, hInt_int, hInt_bl, hAbs_int, hSeq_lst, hSeq_tup, hIn_lst, hIn_tup, hEq_eq, hI0_int, hI_int, ng_f, ng_t, atI_0, atI_1, atI_2, ofString_inj, eqv_str, eqv_txt, eqv_int, eqv_bl, eqv_tup, eqv_lst, eqOk_str, eqOk_int, eqOk_bl, eqOk_txt, decide_eq_true_eq, Nat.zero_lt_succ, exists_and_left, List.take_succ_cons, List.take_zero, List.drop_succ_cons, List.drop_zero, List.cons_append, List.nil_append, and_assoc, atI_map, Option.map_some, Nat.reduceAdd, Nat.reduceLT, Nat.reduceLeDiff, OT.toD_ow, List.map_cons, List.map_nil, D.mob.injEq, Mo.lst.injEq, Mem.put_same, Mem.put_put, ixN_30, ixN_32, ixN_10, exists_prop, fz_app, fz_inj, fz_snoc, OT.map_fz, List.length_map, List.length_append, List.append_nil, Nat.zero_add, cutL_1, items_tup, items_lst, items_scr, forD, compD, compS, comp2D, wipeE, D.isIn, List.any_cons, List.any_nil, String.reduceEq, D.plain, D.plains, D.dep, D.deps, Nat.max_self, Nat.min_self, Nat.zero_le, Nat.zero_min, Nat.min_zero, sizeLine_eq, forall_eq, exists_const, forall_const, kind_non, kind_bl, kind_int, kind_str, kind_lst, kind_tup, kind_dk, Kd.isa, reduceCtorEq, decide_false, decide_true, Bool.or_false, Bool.false_or, Bool.or_true, Bool.true_or, Bool.or_self, Bool.and_false, Bool.false_and, Bool.true_and, Bool.and_true, Bool.and_self, and_self, false_or, or_false, false_and, and_false, reduceIte, Bool.false_eq_true, Bool.not_eq_true, Bool.not_true, Bool.not_false, spSame, DSpec.pure]); repeat (first | (refine seq_in ?_; simp only [seqS_M, startE_cons, startE_nil, List.length_cons, List.length_nil, List.length_replicate, List.length_set, List.replicate_succ, List.replicate_zero, List.getElem?_cons_zero, List.getElem?_cons_succ, List.set_cons_zero, List.set_cons_succ, Option.some.injEq, OT.fz.injEq, OT.ow.injEq, D.int.injEq, D.str.injEq, D.bl.injEq, D.tup.injEq, D.lst.injEq, List.cons.injEq, exists_eq_left', exists_eq_left, exists_eq_right, and_true, true_and, OT.toD_fz, toD_map_fz, hIx_tup, hIx_lst, hIx_scr, hIx_mob, hIx_str, hIxT_fz, hIxT_ow, hAdd_int, hAdd_str, hAdd_tup, hAdd_lst, hMul_int, hMul_lst, hSl_tup, hSl_lst, hSl_str, hLen_lst, hLen_tup, hLen_scr, hLen_str, hLen_mob, hInt_int, hInt_bl, hAbs_int, hSeq_lst, hSeq_tup, hIn_lst, hIn_tup, hEq_eq, hI0_int, hI_int, ng_f, ng_t, atI_0, atI_1, atI_2, ofString_inj, eqv_str, eqv_txt, eqv_int, eqv_bl, eqv_tup, eqv_lst, eqOk_str, eqOk_int, eqOk_bl, eqOk_txt, decide_eq_true_eq, Nat.zero_lt_succ, exists_and_left, List.take_succ_cons, List.take_zero, List.drop_succ_cons, List.drop_zero, List.cons_append, List.nil_append, and_assoc, atI_map, Option.map_some, Nat.reduceAdd, Nat.reduceLT, Nat.reduceLeDiff, OT.toD_ow, List.map_cons, List.map_nil, D.mob.injEq, Mo.lst.injEq, Mem.put_same, Mem.put_put, ixN_30, ixN_32, ixN_10, exists_prop, fz_app, fz_inj, fz_snoc, OT.map_fz, List.length_map, List.length_append, List.append_nil, Nat.zero_add, cutL_1, items_tup, items_lst, items_scr, forD, compD, compS, comp2D, wipeE, D.isIn, List.any_cons, List.any_nil, String.reduceEq, D.plain, D.plains, D.dep, D.deps, Nat.max_self, Nat.min_self, Nat.zero_le, Nat.zero_min, Nat.min_zero, sizeLine_eq, forall_eq, exists_const, forall_const, kind_non, kind_bl, kind_int, kind_str, kind_lst, kind_tup, kind_dk, Kd.isa, reduceCtorEq, decide_false, decide_true, Bool.or_false, Bool.false_or, Bool.or_true, Bool.true_or, Bool.or_self, Bool.and_false, Bool.false_and, Bool.true_and, Bool.and_true, Bool.and_self, and_self, false_or, or_false, false_and, and_false, reduceIte, Bool.false_eq_true, Bool.not_eq_true, Bool.not_true, Bool.not_false, spSame, DSpec.pure]) | refine And.intro (by first | assumption | omega | decide) ?_ | omega | assumption)
    | bl b =>
      (try simp only [seqS_M, startE_cons, startE_nil, List.length_cons, List.length_nil, List.length_replicate, List.length_set, List.replicate_succ, List.replicate_zero, List.getElem?_cons_zero, List.getElem?_cons_succ, List.set_cons_zero, List.set_cons_succ, Option.some.injEq, OT.fz.injEq, OT.ow.injEq, D.int.injEq, D.str.injEq, D.bl.injEq, D.tup.injEq, D.lst.injEq, List.cons.injEq, exists_eq_left', exists_eq_left, exists_eq_right, and_true, true_and, OT.toD_fz, toD_map_fz, hIx_tup, hIx_lst, hIx_scr, hIx_mob, hIx_str, hIxT_fz, hIxT_ow, hAdd_int, hAdd_str, hAdd_tup, hAdd_lst, hMul_int, hMul_lst, hSl_tup, hSl_lst, hSl_str, hLen_lst, hLen_tup, hLen_scr, hLen_str, hLen_mob, hInt_int, hInt_bl, hAbs_int, hSeq_lst, hSeq_tup, hIn_lst, hIn_tup, hEq_eq, hI0_int, hI_int, ng_f, ng_t, atI_0, atI_1, atI_2, ofString_inj, eqv_str, eqv_txt, eqv_int, eqv_bl, eqv_tup, eqv_lst, eqOk_str, eqOk_int, eqOk_bl, eqOk_txt, decide_eq_true_eq, Nat.zero_lt_succ, exists_and_left, List.take_succ_cons, List.take_zero, List.drop_succ_cons, List.drop_zero, List.cons_append, List.nil_append, and_assoc, atI_map, Option.map_some, Nat.reduceAdd, Nat.reduceLT, Nat.reduceLeDiff, OT.toD_ow, List.map_cons, List.map_nil, D.mob.injEq, Mo.lst.injEq, Mem.put_same, Mem.put_put, ixN_30, ixN_32, ixN_10, exists_prop, fz_app, fz_inj, fz_snoc, OT.map_fz, List.length_map, List.length_append, List.append_nil, Nat.zero_add, cutL_1, items_tup, items_lst, items_scr, forD, compD, compS, comp2D, wipeE, D.isIn, List.any_cons, List.any_nil, String.reduceEq, D.plain, D.plains, D.dep, D.deps, Nat.max_self, Nat.min_self, Nat.zero_le, Nat.zero_min, Nat.min_zero, sizeLine_eq, forall_eq, exists_const, forall_const, kind_non, kind_bl, kind_int, kind_str, kind_lst, kind_tup, kind_dk, Kd.isa, reduceCtorEq, decide_false, decide_true, Bool.or_false, Bool.false_or, Bool.or_true, Bool.true_or, Bool.or_self, Bool.and_false, Bool.false_and, Bool.true_and, Bool.and_true, Bool.and_self, and_self, false_or, or_false, false_and, and_false, reduceIte, Bool.false_eq_true, Bool.not_eq_true, Bool.not_true, Bool.not_false, spSame, DSpec.pure]); repeat (first | (refine seq_in ?_; simp only [seqS_M, startE_cons, startE_nil, List.length_cons, List.length_nil, List.length_replicate, List.length_set, List.replicate_succ, List.replicate_zero, List.getElem?_cons_zero, List.getElem?_cons_succ, List.set_cons_zero, List.set_cons_succ, Option.some.injEq, OT.fz.injEq, OT.ow.injEq, D.int.injEq, D.str.injEq, D.bl.injEq, D.tup.injEq, D.lst.injEq, List.cons.injEq, exists_eq_left', exists_eq_left, exists_eq_right, and_true, true_and, OT.toD_fz, toD_map_fz, hIx_tup, hIx_lst, hIx_scr, hIx_mob, hIx_str, hIxT_fz, hIxT_ow, hAdd_int, hAdd_str, hAdd_tup, hAdd_lst, hMul_int, hMul_lst, hSl_tup, hSl_lst, hSl_str, hLen_lst, hLen_tup, hLen_scr, hLen_str, hLen_mob, hInt_int, hInt_bl, hAbs_int, hSeq_lst, hSeq_tup, hIn_lst, hIn_tup, hEq_eq, hI0_int, hI_int, ng_f, ng_t, atI_0, atI_1, atI_2, ofString_inj, eqv_str, eqv_txt, eqv_int, eqv_bl, eqv_tup, eqv_lst, eqOk_str, eqOk_int, eqOk_bl, eqOk_txt, decide_eq_true_eq, Nat.zero_lt_succ, exists_and_left, List.take_succ_cons, List.take_zero, List.drop_succ_cons, List.drop_zero, List.cons_append, List.nil_append, and_assoc, atI_map, Option.map_some, Nat.reduceAdd, Nat.reduceLT, Nat.reduceLeDiff, OT.toD_ow, List.map_cons, List.map_nil, D.mob.injEq, Mo.lst.injEq, Mem.put_same, Mem.put_put, ixN_30, ixN_32, ixN_10, exists_prop, fz_app, fz_inj, fz_snoc, OT.map_fz, List.length_map, List.length_append, List.append_nil, Nat.zero_add, cutL_1, items_tup, items_lst, items_scr, forD, compD, compS, comp2D, wipeE, D.isIn, List.any_cons, List.any_nil, String.reduceEq, D.plain, D.plains, D.dep, D.deps, Nat.max_self, Nat.min_self, Nat.zero_le, Nat.zero_min, Nat.min_zero, sizeLine_eq, forall_eq, exists_const, forall_const, kind_non, kind_bl, kind_int, kind_str, kind_lst, kind_tup, kind_dk, Kd.isa, reduceCtorEq, decide_false, decide_true, Bool.or_false, Bool.false_or, Bool.or_true, Bool.true_or, Bool.or_self, Bool.and_false, Bool.false_and, Bool.true_and, Bool.and_true, Bool.and_self, and_self, false_or, or_false, false_and, and_false, reduceIte, Bool.false_eq_true, Bool.not_eq_true, Bool.not_true, Bool.not_false, spSame, DSpec.pure]) | refine And.intro (by first | assumption | omega | decide) ?_ | omega | assumption)
    | int i =>
      (try simp only [seqS_M, startE_cons, startE_nil, List.length_cons, List.length_nil, List.length_replicate, List.length_set, List.replicate_succ, List.replicate_zero, List.getElem?_cons_zero, List.getElem?_cons_succ, List.set_cons_zero, List.set_cons_succ, Option.some.injEq, OT.fz.injEq, OT.ow.injEq, D.int.injEq, D.str.injEq, D.bl.injEq, D.tup.injEq, D.lst.injEq, List.cons.injEq, exists_eq_left', exists_eq_left, exists_eq_right, and_true, true_and, OT.toD_fz, toD_map_fz, hIx_tup, hIx_lst, hIx_scr, hIx_mob, hIx_str, hIxT_fz, hIxT_ow, hAdd_int, hAdd_str, hAdd_tup, hAdd_lst, hMul_int, hMul_lst, hSl_tup, hSl_lst, hSl_str, hLen_lst, hLen_tup, hLen_scr, hLen_str, hLen_mob, hInt_int, hInt_bl, hAbs_int, hSeq_lst, hSeq_tup, hIn_lst, hIn_tup, hEq_eq, hI0_int, hI_int, ng_f, ng_t, atI_0, atI_1, atI_2, ofString_inj, eqv_str, eqv_txt, eqv_int, eqv_bl, eqv_tup, eqv_lst, eqOk_str, eqOk_int, eqOk_bl, eqOk_txt, decide_eq_true_eq, Nat.zero_lt_succ, exists_and_left, List.take_succ_cons, List.take_zero, List.drop_succ_cons, List.drop_zero, List.cons_append, List.nil_append, and_assoc, atI_map, Option.map_some, Nat.reduceAdd, Nat.reduceLT, Nat.reduceLeDiff, OT.toD_ow, List.map_cons, List.map_nil, D.mob.injEq, Mo.lst.injEq, Mem.put_same, Mem.put_put, ixN_30, ixN_32, ixN_10, exists_prop, fz_app, fz_inj, fz_snoc, OT.map_fz, List.length_map, List.length_append, List.append_nil, Nat.zero_add, cutL_1, items_tup, items_lst, items_scr, forD, compD, compS, comp2D, wipeE, D.isIn, List.any_cons, List.any_nil, String.reduceEq, D.plain, D.plains, D.dep, D.deps, Nat.max_self, Nat.min_self, Nat.zero_le, Nat.zero_min, Nat.min_zero, sizeLine_eq, forall_eq, exists_const, forall_const, kind_non, kind_bl, kind_int, kind_str, kind_lst, kind_tup, kind_dk, Kd.isa, reduceCtorEq, decide_false, decide_true, Bool.or_false, Bool.false_or, Bool.or_true, Bool.true_or, Bool.or_self, Bool.and_false, Bool.false_and, Bool.true_and, Bool.and_true, Bool.and_self, and_self, false_or, or_false, false_and, and_false, reduceIte, Bool.false_eq_true, Bool.not_eq_true, Bool.not_true, Bool.not_false, spSame, DSpec.pure]); repeat (first | (refine seq_in ?_; simp only [seqS_M, startE_cons, startE_nil, List.length_cons, List.length_nil, List.length_replicate, List.length_set, List.replicate_succ, List.replicate_zero, List.getElem?_cons_zero, List.getElem?_cons_succ, List.set_cons_zero, List.set_cons_succ, Option.some.injEq, OT.fz.injEq, OT.ow.injEq, D.int.injEq, D.str.injEq, D.bl.injEq, D.tup.injEq, D.lst.injEq, List.cons.injEq, exists_eq_left', exists_eq_left, exists_eq_right, and_true, true_and, OT.toD_fz, toD_map_fz, hIx_tup, hIx_lst, hIx_scr, hIx_mob, hIx_str, hIxT_fz, hIxT_ow, hAdd_int, hAdd_str, hAdd_tup, hAdd_lst, hMul_int, hMul_lst, hSl_tup, hSl_lst, hSl_str, hLen_lst, hLen_tup, hLen_scr, hLen_str, hLen_mob, hInt_int, hInt_bl, hAbs_int, hSeq_lst, hSeq_tup, hIn_lst, hIn_tup, hEq_eq, hI0_int, hI_int, ng_f, ng_t, atI_0, atI_1, atI_2, ofString_inj, eqv_str, eqv_txt, eqv_int, eqv_bl, eqv_tup, eqv_lst, eqOk_str, eqOk_int, eqOk_bl, eqOk_txt, decide_eq_true_eq, Nat.zero_lt_succ, exists_and_left, List.take_succ_cons, List.take_zero, List.drop_succ_cons, List.drop_zero, List.cons_append, List.nil_append, and_assoc, atI_map, Option.map_some, Nat.reduceAdd, Nat.reduceLT, Nat.reduceLeDiff, OT.toD_ow, List.map_cons, List.map_nil, D.mob.injEq, Mo.lst.injEq, Mem.put_same, Mem.put_put, ixN_30, ixN_32, ixN_10, exists_prop, fz_app, fz_inj, fz_snoc, OT.map_fz, List.length_map, List.length_append, List.append_nil, Nat.zero_add, cutL_1, items_tup, items_lst, items_scr, forD, compD, compS, comp2D, wipeE, D.isIn, List.any_cons, List.any_nil, String.reduceEq, D.plain, D.plains, D.dep, D.deps, Nat.max_self, Nat.min_self, Nat.zero_le, Nat.zero_min, Nat.min_zero, sizeLine_eq, forall_eq, exists_const, forall_const, kind_non, kind_bl, kind_int, kind_str, kind_lst, kind_tup, kind_dk, Kd.isa, reduceCtorEq, decide_false, decide_true, Bool.or_false, Bool.false_or, Bool.or_true, Bool.true_or, Bool.or_self, Bool.and_false, Bool.false_and, Bool.true_and, Bool.and_true, Bool.and_self, and_self, false_or, or_false, false_and, and_false, reduceIte, Bool.false_eq_true, Bool.not_eq_true, Bool.not_true, Bool.not_false, spSame, DSpec.pure]) | refine And.intro (by first | assumption | omega | decide) ?_ | omega | assumption)
    | str x =>
      (try simp only [seqS_M, startE_cons, startE_nil, List.length_cons, List.length_nil, List.length_replicate, List.length_set, List.replicate_succ, List.replicate_zero, List.getElem?_cons_zero, List.getElem?_cons_succ, List.set_cons_zero, List.set_cons_succ, Option.some.injEq, OT.fz.injEq, OT.ow.injEq, D.int.injEq, D.str.injEq, D.bl.injEq, D.tup.injEq, D.lst.injEq, List.cons.injEq, exists_eq_left', exists_eq_left, exists_eq_right, and_true, true_and, OT.toD_fz, toD_map_fz, hIx_tup, hIx_lst, hIx_scr, hIx_mob, hIx_str, hIxT_fz, hIxT_ow, hAdd_int, hAdd_str, hAdd_tup, hAdd_lst, hMul_int, hMul_lst, hSl_tup, hSl_lst, hSl_str, hLen_lst, hLen_tup, hLen_scr, hLen_str, hLen_mob, hInt_int, hInt_bl, hAbs_int, hSeq_lst, hSeq_tup, hIn_lst, hIn_tup, hEq_eq, hI0_int, hI_int, ng_f, ng_t, atI_0, atI_1, atI_2, ofString_inj, eqv_str, eqv_txt, eqv_int, eqv_bl, eqv_tup, eqv_lst, eqOk_str, eqOk_int, eqOk_bl, eqOk_txt, decide_eq_true_eq, Nat.zero_lt_succ, exists_and_left, List.take_succ_cons, List.take_zero, List.drop_succ_cons, List.drop_zero, List.cons_append, List.nil_append, and_assoc, atI_map, Option.map_some, Nat.reduceAdd, Nat.reduceLT, Nat.reduceLeDiff, OT.toD_ow, List.map_cons, List.map_nil, D.mob.injEq, Mo.lst.injEq, Mem.put_same, Mem.put_put, ixN_30, ixN_32, ixN_10, exists_prop, fz_app, fz_inj, fz_snoc, OT.map_fz, List.length_map, List.length_append, List.append_nil, Nat.zero_add, cutL_1, items_tup, items_lst, items_scr, forD, compD, compS, comp2D, wipeE, D.isIn, List.any_cons, List.any_nil, String.reduceEq, D.plain, D.plains, D.dep, D.deps, Nat.max_self, Nat.min_self, Nat.zero_le, Nat.zero_min, Nat.min_zero, sizeLine_eq, forall_eq, exists_const, forall_const, kind_non, kind_bl, kind_int, kind_str, kind_lst, kind_tup, kind_dk, Kd.isa, reduceCtorEq, decide_false, decide_true, Bool.or_false, Bool.false_or, Bool.or_true, Bool.true_or, Bool.or_self, Bool.and_false, Bool.false_and, Bool.true_and, Bool.and_true, Bool.and_self, and_self, false_or, or_false, false_and, and_false, reduceIte, Bool.false_eq_true, Bool.not_eq_true, Bool.not_true, Bool.not_false, spSame, DSpec.pure]); repeat (first | (refine seq_in ?_; simp only [seqS_M, startE_cons, startE_nil, List.length_cons, List.length_nil, List.length_replicate, List.length_set, List.replicate_succ, List.replicate_zero, List.getElem?_cons_zero, List.getElem?_cons_succ, List.set_cons_zero, List.set_cons_succ, Option.some.injEq, OT.fz.injEq, OT.ow.injEq, D.int.injEq, D.str.injEq, D.bl.injEq, D.tup.injEq, D.lst.injEq, List.cons.injEq, exists_eq_left', exists_eq_left, exists_eq_right, and_true, true_and, OT.toD_fz, toD_map_fz, hIx_tup, hIx_lst, hIx_scr, hIx_mob, hIx_str, hIxT_fz, hIxT_ow, hAdd_int, hAdd_str, hAdd_tup, hAdd_lst, hMul_int, hMul_lst, hSl_tup, hSl_lst, hSl_str, hLen_lst, hLen_tup, hLen_scr, hLen_str, hLen_mob, hInt_int, hInt_bl, hAbs_int, hSeq_lst, hSeq_tup, hIn_lst, hIn_tup, hEq_eq, hI0_int, hI_int, ng_f, ng_t, atI_0, atI_1, atI_2, ofString_inj, eqv_str, eqv_txt, eqv_int, eqv_bl, eqv_tup, eqv_lst, eqOk_str, eqOk_int, eqOk_bl, eqOk_txt, decide_eq_true_eq, Nat.zero_lt_succ, exists_and_left, List.take_succ_cons, List.take_zero, List.drop_succ_cons, List.drop_zero, List.cons_append, List.nil_append, and_assoc, atI_map, Option.map_some, Nat.reduceAdd, Nat.reduceLT, Nat.reduceLeDiff, OT.toD_ow, List.map_cons, List.map_nil, D.mob.injEq, Mo.lst.injEq, Mem.put_same, Mem.put_put, ixN_30, ixN_32, ixN_10, exists_prop, fz_app, fz_inj, fz_snoc, OT.map_fz, List.length_map, List.length_append, List.append_nil, Nat.zero_add, cutL_1, items_tup, items_lst, items_scr, forD, compD, compS, comp2D, wipeE, D.isIn, List.any_cons, List.any_nil, String.reduceEq, D.plain, D.plains, D.dep, D.deps, Nat.max_self, Nat.min_self, Nat.zero_le, Nat.zero_min, Nat.min_zero, sizeLine_eq, forall_eq, exists_const, forall_const, kind_non, kind_bl, kind_int, kind_str, kind_lst, kind_tup, kind_dk, Kd.isa, reduceCtorEq, decide_false, decide_true, Bool.or_false, Bool.false_or, Bool.or_true, Bool.true_or, Bool.or_self, Bool.and_false, Bool.false_and, Bool.true_and, Bool.and_true, Bool.and_self, and_self, false_or, or_false, false_and, and_false, reduceIte, Bool.false_eq_true, Bool.not_eq_true, Bool.not_true, Bool.not_false, spSame, DSpec.pure]) | refine And.intro (by first | assumption | omega | decide) ?_ | omega | assumption)
    | _ => simp [D.plain] at hp
end
end DL

namespace DL
open PySem L2 PySem.Spec
open PyProof.Rows hiding St
set_option autoImplicit false
section
variable {P : Program} {w : World} {K : PySem.W.Frag} {mg : Str → Option Value} {base : Heap}
/-! ### bodies -/
inductive Bd where
  | has (r m : Str) | alike (a b : Str) (ms : List Str)
  | nt (b : Bd) | an (b c : Bd) | or (b c : Bd) | ah (b : Bd) | ev (b : Bd) | si (b c : Bd)
def Bd.toD : Bd → D
  | .has r m => .tup [.str "has", .str r, .str m]
  | .alike a b ms => .tup [.str "alike", .str a, .str b, .tup (ms.map .str)]
  | .nt b => .tup [.str "not", b.toD]
  | .an b c => .tup [.str "and", b.toD, c.toD]
  | .or b c => .tup [.str "or", b.toD, c.toD]
  | .ah b => .tup [.str "ahead", b.toD]
  | .ev b => .tup [.str "ever", b.toD]
  | .si b c => .tup [.str "since", b.toD, c.toD]
/-- all bodies of it, each behind those it's made of -/
def Bd.parts : Bd → List Bd
  | .has r m => [.has r m]
  | .alike a b ms => [.alike a b ms]
  | .nt b => b.parts ++ [.nt b]
  | .an b c => b.parts ++ c.parts ++ [.an b c]
  | .or b c => b.parts ++ c.parts ++ [.or b c]
  | .ah b => b.parts ++ [.ah b]
  | .ev b => b.parts ++ [.ev b]
  | .si b c => b.parts ++ c.parts ++ [.si b c]
def Bd.hgt : Bd → Nat
  | .has _ _ => 0
  | .alike _ _ _ => 0
  | .nt b => b.hgt + 1
  | .an b c => max b.hgt c.hgt + 1
  | .or b c => max b.hgt c.hgt + 1
  | .ah b => b.hgt + 1
  | .ev b => b.hgt + 1
  | .si b c => max b.hgt c.hgt + 1
def Bd.backs : Bd → Bool
  | .ah _ => true
  | .ev _ => true
  | .si _ _ => true
  | _ => false
theorem strs_inj {a b : List Str} : (a.map D.str = b.map D.str) ↔ a = b := ⟨fun h => (List.map_inj_right fun x y e => D.str.inj e).mp h, fun h => by rw [h]⟩
theorem Bd.inj : ∀ {b c : Bd}, b.toD = c.toD → b = c := by
  intro b
  induction b with
  | has r m => intro c h; cases c <;> simp [Bd.toD, ofString_inj] at h ⊢; exact h
  | alike a b ms => intro c h; cases c <;> simp [Bd.toD, ofString_inj, strs_inj] at h ⊢; exact h
  | nt b ih => intro c h; cases c <;> simp [Bd.toD, ofString_inj] at h ⊢; exact ih h
  | ah b ih => intro c h; cases c <;> simp [Bd.toD, ofString_inj] at h ⊢; exact ih h
  | ev b ih => intro c h; cases c <;> simp [Bd.toD, ofString_inj] at h ⊢; exact ih h
  | an b c ih ih2 => intro d h; cases d <;> simp [Bd.toD, ofString_inj] at h ⊢; exact ⟨ih h.1, ih2 h.2⟩
  | or b c ih ih2 => intro d h; cases d <;> simp [Bd.toD, ofString_inj] at h ⊢; exact ⟨ih h.1, ih2 h.2⟩
  | si b c ih ih2 => intro d h; cases d <;> simp [Bd.toD, ofString_inj] at h ⊢; exact ⟨ih h.1, ih2 h.2⟩
theorem bd_inj {b c : Bd} : (b.toD = c.toD) ↔ b = c := ⟨Bd.inj, fun h => by rw [h]⟩
theorem kind_bd {M : Mem} {b : Bd} : D.kind M b.toD = some .tup := by cases b <;> rfl
theorem parts_pow : ∀ b : Bd, b.parts.length + 1 ≤ 2 ^ (b.hgt + 1) := by
  have two : ∀ (x y z : Nat), z ≤ 2 ^ (x + 1) → 2 ^ (x + 1) ≤ 2 ^ (max x y + 1) := fun x y z _ => Nat.pow_le_pow_right (by decide) (by omega)
  have up : ∀ h : Nat, 2 ^ (h + 1 + 1) = 2 * 2 ^ (h + 1) := fun h => by rw [Nat.pow_succ 2 (h + 1), Nat.mul_comm]
  have mx : ∀ x y : Nat, 2 ^ (x + 1) ≤ 2 ^ (max x y + 1) ∧ 2 ^ (y + 1) ≤ 2 ^ (max x y + 1) := fun x y => ⟨Nat.pow_le_pow_right (by decide) (by omega), Nat.pow_le_pow_right (by decide) (by omega)⟩
  intro b
  induction b with
  | has r m => simp [Bd.parts, Bd.hgt]
  | alike a b ms => simp [Bd.parts, Bd.hgt]
  | nt b ih => simp only [Bd.parts, Bd.hgt, List.length_append, List.length_singleton, up]; omega
  | ah b ih => simp only [Bd.parts, Bd.hgt, List.length_append, List.length_singleton, up]; omega
  | ev b ih => simp only [Bd.parts, Bd.hgt, List.length_append, List.length_singleton, up]; omega
  | an b c ih ih2 => simp only [Bd.parts, Bd.hgt, List.length_append, List.length_singleton, up]; have := mx b.hgt c.hgt; omega
  | or b c ih ih2 => simp only [Bd.parts, Bd.hgt, List.length_append, List.length_singleton, up]; have := mx b.hgt c.hgt; omega
  | si b c ih ih2 => simp only [Bd.parts, Bd.hgt, List.length_append, List.length_singleton, up]; have := mx b.hgt c.hgt; omega
theorem parts_small {b : Bd} (h : b.hgt ≤ 20) : b.parts.length ≤ 2097152 := by
  have h1 := parts_pow b
  have h2 : 2 ^ (b.hgt + 1) ≤ 2 ^ 21 := Nat.pow_le_pow_right (by decide) (by omega)
  have h3 : 2 ^ 21 = 2097152 := by decide
  omega
def Bd.partsD (b : Bd) : List D := b.parts.map Bd.toD
section
variable {b c : Bd} {r m : Str} {ms : List Str}
theorem pD_has : (Bd.has r m).partsD = [.tup [.str "has", .str r, .str m]] := rfl
theorem pD_alike : (Bd.alike r m ms).partsD = [.tup [.str "alike", .str r, .str m, .tup (ms.map .str)]] := rfl
theorem pD_nt : (Bd.nt b).partsD = b.partsD ++ [.tup [.str "not", b.toD]] := by simp [Bd.partsD, Bd.parts, Bd.toD]
theorem pD_an : (Bd.an b c).partsD = b.partsD ++ c.partsD ++ [.tup [.str "and", b.toD, c.toD]] := by simp [Bd.partsD, Bd.parts, Bd.toD]
theorem pD_or : (Bd.or b c).partsD = b.partsD ++ c.partsD ++ [.tup [.str "or", b.toD, c.toD]] := by simp [Bd.partsD, Bd.parts, Bd.toD]
theorem pD_ah : (Bd.ah b).partsD = b.partsD ++ [.tup [.str "ahead", b.toD]] := by simp [Bd.partsD, Bd.parts, Bd.toD]
theorem pD_ev : (Bd.ev b).partsD = b.partsD ++ [.tup [.str "ever", b.toD]] := by simp [Bd.partsD, Bd.parts, Bd.toD]
theorem pD_si : (Bd.si b c).partsD = b.partsD ++ c.partsD ++ [.tup [.str "since", b.toD, c.toD]] := by simp [Bd.partsD, Bd.parts, Bd.toD]
theorem pD_len : b.partsD.length = b.parts.length := by simp [Bd.partsD]
end
def spParts (n : Nat) : DSpec := DSpec.pure (ι := Bd) (fun b ds => ds = [b.toD] ∧ b.hgt < n ∧ b.hgt ≤ 20) (fun b t => t = .ow (b.partsD.map .fz))
theorem ok_law_parts (T : Tx K mg) : ∀ n, DF P w K mg base s_law_parts "_law_parts" ["core"] n (spParts n) := by
  intro n
  induction n with
  | zero => exact DF.never T.d_law_parts fun i M ds h => by have := h.2.1; omega
  | succ n ih =>
    have F_law_parts := ih
    obtain ⟨f, fd, hm, F, hb⟩ := T.d_law_parts
    refine ⟨f, fd, hm, F, hb, fn_dl F sc_law_parts ?_⟩
    rintro X M ds (b : Bd) ⟨cdv, A, outer, s0, H0, E, rfl⟩ hr hl ⟨rfl, hd, hd2⟩
    refine ⟨_, (dss_cons (ds_setO 1 sc_law_parts.nd (eo_lst ao_nil)) (dss_cons (ds_for PassesOwn.never rfl (ei_seq (EO.d (eo_sl (ed_var 0) (ep_some (ED.v ed_int)) ep_none))) (eg_name 2 sc_law_parts.nd) (dss_cons (ds_if (EW.t (ew_and (et_val (ed_isi .tup (ev_var 2) T.z_isinstance T.z_tuple)) (ew_and1 (EC.t (ec_notIn hr.hu (ED.v (ed_ixN 0 ed_int)) (ED.v (ed_tup (ad_cons ed_str (ad_cons ed_str ad_nil))))))))) (dss_cons (ds_extend 1 (EO.d (eo_callP (DF.mono F_law_parts (by first | omega | decide)) hr (ad_cons (ed_var 2) ad_nil)))) dss_nil) dss_nil) dss_nil)) (dss_cons (DS.frz 1 (ds_ret (eo_add (ed_var 1) (EO.d (eo_lst (ao_cons (ED.o (ed_var 0)) ao_nil)))))) dss_nil))), ?_⟩
    cases b with
    | has r m =>
      (try simp only [seqS_M, startE_cons, startE_nil, List.length_cons, List.length_nil, List.length_replicate, List.length_set, List.replicate_succ, List.replicate_zero, List.getElem?_cons_zero, List.getElem?_cons_succ, List.set_cons_zero, List.set_cons_succ, Option.some.injEq, OT.fz.injEq, OT.ow.injEq, D.int.injEq, D.str.injEq, D.bl.injEq, D.tup.injEq, D.lst.injEq, List.cons.injEq, exists_eq_left', exists_eq_left, exists_eq_right, and_true, true_and, OT.toD_fz, toD_map_fz, hIx_tup, hIx_lst, hIx_scr, hIx_mob, hIx_str, hIxT_fz, hIxT_ow, hAdd_int, hAdd_str, hAdd_tup, hAdd_lst, hMul_int, hMul_lst, hSl_tup, hSl_lst, hSl_str, hLen_lst, hLen_tup, hLen_scr, hLen_str, hLen_mob, hInt_int, hInt_bl, hAbs_int, hSeq_lst, hSeq_tup, hIn_lst, hIn_tup, hEq_eq, hI0_int, hI_int, ng_f, ng_t, atI_0, atI_1, atI_2, ofString_inj, eqv_str, eqv_txt, eqv_int, eqv_bl, eqv_tup, eqv_lst, eqOk_str, eqOk_int, eqOk_bl, eqOk_txt, decide_eq_true_eq, Nat.zero_lt_succ, exists_and_left, List.take_succ_cons, List.take_zero, List.drop_succ_cons, List.drop_zero, List.cons_append, List.nil_append, and_assoc, atI_map, Option.map_some, Nat.reduceAdd, Nat.reduceLT, Nat.reduceLeDiff, OT.toD_ow, List.map_cons, List.map_nil, D.mob.injEq, Mo.lst.injEq, Mem.put_same, Mem.put_put, ixN_30, ixN_32, ixN_10, exists_prop, fz_app, fz_inj, fz_snoc, OT.map_fz, List.length_map, List.length_append, List.append_nil, Nat.zero_add, cutL_1, items_tup, items_lst, items_scr, forD, compD, compS, comp2D, wipeE, D.isIn, List.any_cons, List.any_nil, String.reduceEq, D.plain, D.plains, D.dep, D.deps, Nat.max_self, Nat.min_self, Nat.zero_le, Nat.zero_min, Nat.min_zero, sizeLine_eq, forall_eq, exists_const, forall_const, kind_non, kind_bl, kind_int, kind_str, kind_lst, kind_tup, kind_dk, Kd.isa, reduceCtorEq, decide_false, decide_true, Bool.or_false, Bool.false_or, Bool.or_true, Bool.true_or, Bool.or_self, Bool.and_false, Bool.false_and, Bool.true_and, Bool.and_true, Bool.and_self, and_self, false_or, or_false, false_and, and_false, reduceIte, Bool.false_eq_true, Bool.not_eq_true, Bool.not_true, Bool.not_false, Bd.toD, spParts, DSpec.pure, pD_has, pD_alike]); repeat (first | (refine seq_in ?_; simp only [seqS_M, startE_cons, startE_nil, List.length_cons, List.length_nil, List.length_replicate, List.length_set, List.replicate_succ, List.replicate_zero, List.getElem?_cons_zero, List.getElem?_cons_succ, List.set_cons_zero, List.set_cons_succ, Option.some.injEq, OT.fz.injEq, OT.ow.injEq, D.int.injEq, D.str.injEq, D.bl.injEq, D.tup.injEq, D.lst.injEq, List.cons.injEq, exists_eq_left', exists_eq_left, exists_eq_right, and_true, true_and, OT.toD_fz, toD_map_fz, hIx_tup, hIx_lst, hIx_scr, hIx_mob, hIx_str, hIxT_fz, hIxT_ow, hAdd_int, hAdd_str, hAdd_tup, hAdd_lst, hMul_int, hMul_lst, hSl_tup, hSl_lst, hSl_str, hLen_lst, hLen_tup, hLen_scr, hLen_str, hLen_mob, hInt_int, hInt_bl, hAbs_int, hSeq_lst, hSeq_tup, hIn_lst, hIn_tup, hEq_eq, hI0_int, hI_int, ng_f, ng_t, atI_0, atI_1, atI_2, ofString_inj, eqv_str, eqv_txt, eqv_int, eqv_bl, eqv_tup, eqv_lst, eqOk_str, eqOk_int, eqOk_bl, eqOk_txt, decide_eq_true_eq, Nat.zero_lt_succ, exists_and_left, List.take_succ_cons, List.take_zero, List.drop_succ_cons, List.drop_zero, List.cons_append, List.nil_append, and_assoc, atI_map, Option.map_some, Nat.reduceAdd, Nat.reduceLT, Nat.reduceLeDiff, OT.toD_ow, List.map_cons, List.map_nil, D.mob.injEq, Mo.lst.injEq, Mem.put_same, Mem.put_put, ixN_30, ixN_32, ixN_10, exists_prop, fz_app, fz_inj, fz_snoc, OT.map_fz, List.length_map, List.length_append, List.append_nil, Nat.zero_add, cutL_1, items_tup, items_lst, items_scr, forD, compD, compS, comp2D, wipeE, D.isIn, List.any_cons, List.any_nil, String.reduceEq, D.plain, D.plains, D.dep, D.deps, Nat.max_self, Nat.min_self, Nat.zero_le, Nat.zero_min, Nat.min_zero, sizeLine_eq, forall_eq, exists_const, forall_const, kind_non, kind_bl, kind_int, kind_str, kind_lst, kind_tup, kind_dk, Kd.isa, reduceCtorEq, decide_false, decide_true, Bool.or_false, Bool.false_or, Bool.or_true, Bool.true_or, Bool.or_self, Bool.and_false, Bool.false_and, Bool.true_and, Bool.and_true, Bool.and_self, and_self, false_or, or_false, false_and, and_false, reduceIte, Bool.false_eq_true, Bool.not_eq_true, Bool.not_true, Bool.not_false, Bd.toD, spParts, DSpec.pure, pD_has, pD_alike]) | refine And.intro (by first | assumption | omega | decide) ?_ | omega | assumption)
    | alike r m ms =>
      (try simp only [seqS_M, startE_cons, startE_nil, List.length_cons, List.length_nil, List.length_replicate, List.length_set, List.replicate_succ, List.replicate_zero, List.getElem?_cons_zero, List.getElem?_cons_succ, List.set_cons_zero, List.set_cons_succ, Option.some.injEq, OT.fz.injEq, OT.ow.injEq, D.int.injEq, D.str.injEq, D.bl.injEq, D.tup.injEq, D.lst.injEq, List.cons.injEq, exists_eq_left', exists_eq_left, exists_eq_right, and_true, true_and, OT.toD_fz, toD_map_fz, hIx_tup, hIx_lst, hIx_scr, hIx_mob, hIx_str, hIxT_fz, hIxT_ow, hAdd_int, hAdd_str, hAdd_tup, hAdd_lst, hMul_int, hMul_lst, hSl_tup, hSl_lst, hSl_str, hLen_lst, hLen_tup, hLen_scr, hLen_str, hLen_mob, hInt_int, hInt_bl, hAbs_int, hSeq_lst, hSeq_tup, hIn_lst, hIn_tup, hEq_eq, hI0_int, hI_int, ng_f, ng_t, atI_0, atI_1, atI_2, ofString_inj, eqv_str, eqv_txt, eqv_int, eqv_bl, eqv_tup, eqv_lst, eqOk_str, eqOk_int, eqOk_bl, eqOk_txt, decide_eq_true_eq, Nat.zero_lt_succ, exists_and_left, List.take_succ_cons, List.take_zero, List.drop_succ_cons, List.drop_zero, List.cons_append, List.nil_append, and_assoc, atI_map, Option.map_some, Nat.reduceAdd, Nat.reduceLT, Nat.reduceLeDiff, OT.toD_ow, List.map_cons, List.map_nil, D.mob.injEq, Mo.lst.injEq, Mem.put_same, Mem.put_put, ixN_30, ixN_32, ixN_10, exists_prop, fz_app, fz_inj, fz_snoc, OT.map_fz, List.length_map, List.length_append, List.append_nil, Nat.zero_add, cutL_1, items_tup, items_lst, items_scr, forD, compD, compS, comp2D, wipeE, D.isIn, List.any_cons, List.any_nil, String.reduceEq, D.plain, D.plains, D.dep, D.deps, Nat.max_self, Nat.min_self, Nat.zero_le, Nat.zero_min, Nat.min_zero, sizeLine_eq, forall_eq, exists_const, forall_const, kind_non, kind_bl, kind_int, kind_str, kind_lst, kind_tup, kind_dk, Kd.isa, reduceCtorEq, decide_false, decide_true, Bool.or_false, Bool.false_or, Bool.or_true, Bool.true_or, Bool.or_self, Bool.and_false, Bool.false_and, Bool.true_and, Bool.and_true, Bool.and_self, and_self, false_or, or_false, false_and, and_false, reduceIte, Bool.false_eq_true, Bool.not_eq_true, Bool.not_true, Bool.not_false, Bd.toD, spParts, DSpec.pure, pD_has, pD_alike]); repeat (first | (refine seq_in ?_; simp only [seqS_M, startE_cons, startE_nil, List.length_cons, List.length_nil, List.length_replicate, List.length_set, List.replicate_succ, List.replicate_zero, List.getElem?_cons_zero, List.getElem?_cons_succ, List.set_cons_zero, List.set_cons_succ, Option.some.injEq, OT.fz.injEq, OT.ow.injEq, D.int.injEq, D.str.injEq, D.bl.injEq, D.tup.injEq, D.lst.injEq, List.cons.injEq, exists_eq_left', exists_eq_left, exists_eq_right, and_true, true_and, OT.toD_fz, toD_map_fz, hIx_tup, hIx_lst, hIx_scr, hIx_mob, hIx_str, hIxT_fz, hIxT_ow, hAdd_int, hAdd_str, hAdd_tup, hAdd_lst, hMul_int, hMul_lst, hSl_tup, hSl_lst, hSl_str, hLen_lst, hLen_tup, hLen_scr, hLen_str, hLen_mob, hInt_int, hInt_bl, hAbs_int, hSeq_lst, hSeq_tup, hIn_lst, hIn_tup, hEq_eq, hI0_int, hI_int, ng_f, ng_t, atI_0, atI_1, atI_2, ofString_inj, eqv_str, eqv_txt, eqv_int, eqv_bl, eqv_tup, eqv_lst, eqOk_str, eqOk_int, eqOk_bl, eqOk_txt, decide_eq_true_eq, Nat.zero_lt_succ, exists_and_left, List.take_succ_cons, List.take_zero, List.drop_succ_cons, List.drop_zero, List.cons_append, List.nil_append, and_assoc, atI_map, Option.map_some, Nat.reduceAdd, Nat.reduceLT, Nat.reduceLeDiff, OT.toD_ow, List.map_cons, List.map_nil, D.mob.injEq, Mo.lst.injEq, Mem.put_same, Mem.put_put, ixN_30, ixN_32, ixN_10, exists_prop, fz_app, fz_inj, fz_snoc, OT.map_fz, List.length_map, List.length_append, List.append_nil, Nat.zero_add, cutL_1, items_tup, items_lst, items_scr, forD, compD, compS, comp2D, wipeE, D.isIn, List.any_cons, List.any_nil, String.reduceEq, D.plain, D.plains, D.dep, D.deps, Nat.max_self, Nat.min_self, Nat.zero_le, Nat.zero_min, Nat.min_zero, sizeLine_eq, forall_eq, exists_const, forall_const, kind_non, kind_bl, kind_int, kind_str, kind_lst, kind_tup, kind_dk, Kd.isa, reduceCtorEq, decide_false, decide_true, Bool.or_false, Bool.false_or, Bool.or_true, Bool.true_or, Bool.or_self, Bool.and_false, Bool.false_and, Bool.true_and, Bool.and_true, Bool.and_self, and_self, false_or, or_false, false_and, and_false, reduceIte, Bool.false_eq_true, Bool.not_eq_true, Bool.not_true, Bool.not_false, Bd.toD, spParts, DSpec.pure, pD_has, pD_alike]) | refine And.intro (by first | assumption | omega | decide) ?_ | omega | assumption)
    | nt b =>
      simp only [Bd.hgt] at hd hd2
      have s1 := parts_small (b := b) (by omega)
      (try simp only [seqS_M, startE_cons, startE_nil, List.length_cons, List.length_nil, List.length_replicate, List.length_set, List.replicate_succ, List.replicate_zero, List.getElem?_cons_zero, List.getElem?_cons_succ, List.set_cons_zero, List.set_cons_succ, Option.some.injEq, OT.fz.injEq, OT.ow.injEq, D.int.injEq, D.str.injEq, D.bl.injEq, D.tup.injEq, D.lst.injEq, List.cons.injEq, exists_eq_left', exists_eq_left, exists_eq_right, and_true, true_and, OT.toD_fz, toD_map_fz, hIx_tup, hIx_lst, hIx_scr, hIx_mob, hIx_str, hIxT_fz, hIxT_ow, hAdd_int, hAdd_str, hAdd_tup, hAdd_lst, hMul_int, hMul_lst, hSl_tup, hSl_lst, hSl_str, hLen_lst, hLen_tup, hLen_scr, hLen_str, hLen_mob, hInt_int, hInt_bl, hAbs_int, hSeq_lst, hSeq_tup, hIn_lst, hIn_tup, hEq_eq, hI0_int, hI_int, ng_f, ng_t, atI_0, atI_1, atI_2, ofString_inj, eqv_str, eqv_txt, eqv_int, eqv_bl, eqv_tup, eqv_lst, eqOk_str, eqOk_int, eqOk_bl, eqOk_txt, decide_eq_true_eq, Nat.zero_lt_succ, exists_and_left, List.take_succ_cons, List.take_zero, List.drop_succ_cons, List.drop_zero, List.cons_append, List.nil_append, and_assoc, atI_map, Option.map_some, Nat.reduceAdd, Nat.reduceLT, Nat.reduceLeDiff, OT.toD_ow, List.map_cons, List.map_nil, D.mob.injEq, Mo.lst.injEq, Mem.put_same, Mem.put_put, ixN_30, ixN_32, ixN_10, exists_prop, fz_app, fz_inj, fz_snoc, OT.map_fz, List.length_map, List.length_append, List.append_nil, Nat.zero_add, cutL_1, items_tup, items_lst, items_scr, forD, compD, compS, comp2D, wipeE, D.isIn, List.any_cons, List.any_nil, String.reduceEq, D.plain, D.plains, D.dep, D.deps, Nat.max_self, Nat.min_self, Nat.zero_le, Nat.zero_min, Nat.min_zero, sizeLine_eq, forall_eq, exists_const, forall_const, kind_non, kind_bl, kind_int, kind_str, kind_lst, kind_tup, kind_dk, Kd.isa, reduceCtorEq, decide_false, decide_true, Bool.or_false, Bool.false_or, Bool.or_true, Bool.true_or, Bool.or_self, Bool.and_false, Bool.false_and, Bool.true_and, Bool.and_true, Bool.and_self, and_self, false_or, or_false, false_and, and_false, reduceIte, Bool.false_eq_true, Bool.not_eq_true, Bool.not_true, Bool.not_false, Bd.toD, spParts, DSpec.pure, kind_bd, bd_inj, pD_has, pD_alike, pD_nt, pD_an, pD_or, pD_ah, pD_ev, pD_si, pD_len]); repeat (first | (refine seq_in ?_; simp only [seqS_M, startE_cons, startE_nil, List.length_cons, List.length_nil, List.length_replicate, List.length_set, List.replicate_succ, List.replicate_zero, List.getElem?_cons_zero, List.getElem?_cons_succ, List.set_cons_zero, List.set_cons_succ, Option.some.injEq, OT.fz.injEq, OT.ow.injEq, D.int.injEq, D.str.injEq, D.bl.injEq, D.tup.injEq, D.lst.injEq, List.cons.injEq, exists_eq_left', exists_eq_left, exists_eq_right, and_true, true_and, OT.toD_fz, toD_map_fz, hIx_tup, hIx_lst, hIx_scr, hIx_mob, hIx_str, hIxT_fz, hIxT_ow, hAdd_int, hAdd_str, hAdd_tup, hAdd_lst, hMul_int, hMul_lst, hSl_tup, hSl_lst, hSl_str, hLen_lst, hLen_tup, hLen_scr, hLen_str, hLen_mob, hInt_int, hInt_bl, hAbs_int, hSeq_lst, hSeq_tup, hIn_lst, hIn_tup, hEq_eq, hI0_int, hI_int, ng_f, ng_t, atI_0, atI_1, atI_2, ofString_inj, eqv_str, eqv_txt, eqv_int, eqv_bl, eqv_tup, eqv_lst, eqOk_str, eqOk_int, eqOk_bl, eqOk_txt, decide_eq_true_eq, Nat.zero_lt_succ, exists_and_left, List.take_succ_cons, List.take_zero, List.drop_succ_cons, List.drop_zero, List.cons_append, List.nil_append, and_assoc, atI_map, Option.map_some, Nat.reduceAdd, Nat.reduceLT, Nat.reduceLeDiff, OT.toD_ow, List.map_cons, List.map_nil, D.mob.injEq, Mo.lst.injEq, Mem.put_same, Mem.put_put, ixN_30, ixN_32, ixN_10, exists_prop, fz_app, fz_inj, fz_snoc, OT.map_fz, List.length_map, List.length_append, List.append_nil, Nat.zero_add, cutL_1, items_tup, items_lst, items_scr, forD, compD, compS, comp2D, wipeE, D.isIn, List.any_cons, List.any_nil, String.reduceEq, D.plain, D.plains, D.dep, D.deps, Nat.max_self, Nat.min_self, Nat.zero_le, Nat.zero_min, Nat.min_zero, sizeLine_eq, forall_eq, exists_const, forall_const, kind_non, kind_bl, kind_int, kind_str, kind_lst, kind_tup, kind_dk, Kd.isa, reduceCtorEq, decide_false, decide_true, Bool.or_false, Bool.false_or, Bool.or_true, Bool.true_or, Bool.or_self, Bool.and_false, Bool.false_and, Bool.true_and, Bool.and_true, Bool.and_self, and_self, false_or, or_false, false_and, and_false, reduceIte, Bool.false_eq_true, Bool.not_eq_true, Bool.not_true, Bool.not_false, Bd.toD, spParts, DSpec.pure, kind_bd, bd_inj, pD_has, pD_alike, pD_nt, pD_an, pD_or, pD_ah, pD_ev, pD_si, pD_len]) | refine And.intro (by first | assumption | omega | decide) ?_ | omega | assumption)
    | ah b =>
      simp only [Bd.hgt] at hd hd2
      have s1 := parts_small (b := b) (by omega)
      (try simp only [seqS_M, startE_cons, startE_nil, List.length_cons, List.length_nil, List.length_replicate, List.length_set, List.replicate_succ, List.replicate_zero, List.getElem?_cons_zero, List.getElem?_cons_succ, List.set_cons_zero, List.set_cons_succ, Option.some.injEq, OT.fz.injEq, OT.ow.injEq, D.int.injEq, D.str.injEq, D.bl.injEq, D.tup.injEq, D.lst.injEq, List.cons.injEq, exists_eq_left', exists_eq_left, exists_eq_right, and_true, true_and, OT.toD_fz, toD_map_fz, hIx_tup, hIx_lst, hIx_scr, hIx_mob, hIx_str, hIxT_fz, hIxT_ow, hAdd_int, hAdd_str, hAdd_tup, hAdd_lst, hMul_int, hMul_lst, hSl_tup, hSl_lst, hSl_str, hLen_lst, hLen_tup, hLen_scr, hLen_str, hLen_mob, hInt_int, hInt_bl, hAbs_int, hSeq_lst, hSeq_tup, hIn_lst, hIn_tup, hEq_eq, hI0_int, hI_int, ng_f, ng_t, atI_0, atI_1, atI_2, ofString_inj, eqv_str, eqv_txt, eqv_int, eqv_bl, eqv_tup, eqv_lst, eqOk_str, eqOk_int, eqOk_bl, eqOk_txt, decide_eq_true_eq, Nat.zero_lt_succ, exists_and_left, List.take_succ_cons, List.take_zero, List.drop_succ_cons, List.drop_zero, List.cons_append, List.nil_append, and_assoc, atI_map, Option.map_some, Nat.reduceAdd, Nat.reduceLT, Nat.reduceLeDiff, OT.toD_ow, List.map_cons, List.map_nil, D.mob.injEq, Mo.lst.injEq, Mem.put_same, Mem.put_put, ixN_30, ixN_32, ixN_10, exists_prop, fz_app, fz_inj, fz_snoc, OT.map_fz, List.length_map, List.length_append, List.append_nil, Nat.zero_add, cutL_1, items_tup, items_lst, items_scr, forD, compD, compS, comp2D, wipeE, D.isIn, List.any_cons, List.any_nil, String.reduceEq, D.plain, D.plains, D.dep, D.deps, Nat.max_self, Nat.min_self, Nat.zero_le, Nat.zero_min, Nat.min_zero, sizeLine_eq, forall_eq, exists_const, forall_const, kind_non, kind_bl, kind_int, kind_str, kind_lst, kind_tup, kind_dk, Kd.isa, reduceCtorEq, decide_false, decide_true, Bool.or_false, Bool.false_or, Bool.or_true, Bool.true_or, Bool.or_self, Bool.and_false, Bool.false_and, Bool.true_and, Bool.and_true, Bool.and_self, and_self, false_or, or_false, false_and, and_false, reduceIte, Bool.false_eq_true, Bool.not_eq_true, Bool.not_true, Bool.not_false, Bd.toD, spParts, DSpec.pure, kind_bd, bd_inj, pD_has, pD_alike, pD_nt, pD_an, pD_or, pD_ah, pD_ev, pD_si, pD_len]); repeat (first | (refine seq_in ?_; simp only [seqS_M, startE_cons, startE_nil, List.length_cons, List.length_nil, List.length_replicate, List.length_set, List.replicate_succ, List.replicate_zero, List.getElem?_cons_zero, List.getElem?_cons_succ, List.set_cons_zero, List.set_cons_succ, Option.some.injEq, OT.fz.injEq, OT.ow.injEq, D.int.injEq, D.str.injEq, D.bl.injEq, D.tup.injEq, D.lst.injEq, List.cons.injEq, exists_eq_left', exists_eq_left, exists_eq_right, and_true, true_and, OT.toD_fz, toD_map_fz, hIx_tup, hIx_lst, hIx_scr, hIx_mob, hIx_str, hIxT_fz, hIxT_ow, hAdd_int, hAdd_str, hAdd_tup, hAdd_lst, hMul_int, hMul_lst, hSl_tup, hSl_lst, hSl_str, hLen_lst, hLen_tup, hLen_scr, hLen_str, hLen_mob, hInt_int, hInt_bl, hAbs_int, hSeq_lst, hSeq_tup, hIn_lst, hIn_tup, hEq_eq, hI0_int, hI_int, ng_f, ng_t, atI_0, atI_1, atI_2, ofString_inj, eqv_str, eqv_txt, eqv_int, eqv_bl, eqv_tup, eqv_lst, eqOk_str, eqOk_int, eqOk_bl, eqOk_txt, decide_eq_true_eq, Nat.zero_lt_succ, exists_and_left, List.take_succ_cons, List.take_zero, List.drop_succ_cons, List.drop_zero, List.cons_append, List.nil_append, and_assoc, atI_map, Option.map_some, Nat.reduceAdd, Nat.reduceLT, Nat.reduceLeDiff, OT.toD_ow, List.map_cons, List.map_nil, D.mob.injEq, Mo.lst.injEq, Mem.put_same, Mem.put_put, ixN_30, ixN_32, ixN_10, exists_prop, fz_app, fz_inj, fz_snoc, OT.map_fz, List.length_map, List.length_append, List.append_nil, Nat.zero_add, cutL_1, items_tup, items_lst, items_scr, forD, compD, compS, comp2D, wipeE, D.isIn, List.any_cons, List.any_nil, String.reduceEq, D.plain, D.plains, D.dep, D.deps, Nat.max_self, Nat.min_self, Nat.zero_le, Nat.zero_min, Nat.min_zero, sizeLine_eq, forall_eq, exists_const, forall_const, kind_non, kind_bl, kind_int, kind_str, kind_lst, kind_tup, kind_dk, Kd.isa, reduceCtorEq, decide_false, decide_true, Bool.or_false, Bool.false_or, Bool.or_true, Bool.true_or, Bool.or_self, Bool.and_false, Bool.false_and, Bool.true_and, Bool.and_true, Bool.and_self, and_self, false_or, or_false, false_and, and_false, reduceIte, Bool.false_eq_true, Bool.not_eq_true, Bool.not_true, Bool.not_false, Bd.toD, spParts, DSpec.pure, kind_bd, bd_inj, pD_has, pD_alike, pD_nt, pD_an, pD_or, pD_ah, pD_ev, pD_si, pD_len]) | refine And.intro (by first | assumption | omega | decide) ?_ | omega | assumption)
    | ev b =>
      simp only [Bd.hgt] at hd hd2
      have s1 := parts_small (b := b) (by omega)
      (try simp only [seqS_M, startE_cons, startE_nil, List.length_cons, List.length_nil, List.length_replicate, List.length_set, List.replicate_succ, List.replicate_zero, List.getElem?_cons_zero, List.getElem?_cons_succ, List.set_cons_zero, List.set_cons_succ, Option.some.injEq, OT.fz.injEq, OT.ow.injEq, D.int.injEq, D.str.injEq, D.bl.injEq, D.tup.injEq, D.lst.injEq, List.cons.injEq, exists_eq_left', exists_eq_left, exists_eq_right, and_true, true_and, OT.toD_fz, toD_map_fz, hIx_tup, hIx_lst, hIx_scr, hIx_mob, hIx_str, hIxT_fz, hIxT_ow, hAdd_int, hAdd_str, hAdd_tup, hAdd_lst, hMul_int, hMul_lst, hSl_tup, hSl_lst, hSl_str, hLen_lst, hLen_tup, hLen_scr, hLen_str, hLen_mob, hInt_int, hInt_bl, hAbs_int, hSeq_lst, hSeq_tup, hIn_lst, hIn_tup, hEq_eq, hI0_int, hI_int, ng_f, ng_t, atI_0, atI_1, atI_2, ofString_inj, eqv_str, eqv_txt, eqv_int, eqv_bl, eqv_tup, eqv_lst, eqOk_str, eqOk_int, eqOk_bl, eqOk_txt, decide_eq_true_eq, Nat.zero_lt_succ, exists_and_left, List.take_succ_cons, List.take_zero, List.drop_succ_cons, List.drop_zero, List.cons_append, List.nil_append, and_assoc, atI_map, Option.map_some, Nat.reduceAdd, Nat.reduceLT, Nat.reduceLeDiff, OT.toD_ow, List.map_cons, List.map_nil, D.mob.injEq, Mo.lst.injEq, Mem.put_same, Mem.put_put, ixN_30, ixN_32, ixN_10, exists_prop, fz_app, fz_inj, fz_snoc, OT.map_fz, List.length_map, List.length_append, List.append_nil, Nat.zero_add, cutL_1, items_tup, items_lst, items_scr, forD, compD, compS, comp2D, wipeE, D.isIn, List.any_cons, List.any_nil, String.reduceEq, D.plain, D.plains, D.dep, D.deps, Nat.max_self, Nat.min_self, Nat.zero_le, Nat.zero_min, Nat.min_zero, sizeLine_eq, forall_eq, exists_const, forall_const, kind_non, kind_bl, kind_int, kind_str, kind_lst, kind_tup, kind_dk, Kd.isa, reduceCtorEq, decide_false, decide_true, Bool.or_false, Bool.false_or, Bool.or_true, Bool.true_or, Bool.or_self, Bool.and_false, Bool.false_and, Bool.true_and, Bool.and_true, Bool.and_self, and_self, false_or, or_false, false_and, and_false, reduceIte, Bool.false_eq_true, Bool.not_eq_true, Bool.not_true, Bool.not_false, Bd.toD, spParts, DSpec.pure, kind_bd, bd_inj, pD_has, pD_alike, pD_nt, pD_an, pD_or, pD_ah, pD_ev, pD_si, pD_len]); repeat (first | (refine seq_in ?_; simp only [seqS_M, startE_cons, startE_nil, List.length_cons, List.length_nil, List.length_replicate, List.length_set, List.replicate_succ, List.replicate_zero, List.getElem?_cons_zero, List.getElem?_cons_succ, List.set_cons_zero, List.set_cons_succ, Option.some.injEq, OT.fz.injEq, OT.ow.injEq, D.int.injEq, D.str.injEq, D.bl.injEq, D.tup.injEq, D.lst.injEq, List.cons.injEq, exists_eq_left', exists_eq_left, exists_eq_right, and_true, true_and, OT.toD_fz, toD_map_fz, hIx_tup, hIx_lst, hIx_scr, hIx_mob, hIx_str, hIxT_fz, hIxT_ow, hAdd_int, hAdd_str, hAdd_tup, hAdd_lst, hMul_int, hMul_lst, hSl_tup, hSl_lst, hSl_str, hLen_lst, hLen_tup, hLen_scr, hLen_str, hLen_mob, hInt_int, hInt_bl, hAbs_int, hSeq_lst, hSeq_tup, hIn_lst, hIn_tup, hEq_eq, hI0_int, hI_int, ng_f, ng_t, atI_0, atI_1, atI_2, ofString_inj, eqv_str, eqv_txt, eqv_int, eqv_bl, eqv_tup, eqv_lst, eqOk_str, eqOk_int, eqOk_bl, eqOk_txt, decide_eq_true_eq, Nat.zero_lt_succ, exists_and_left, List.take_succ_cons, List.take_zero, List.drop_succ_cons, List.drop_zero, List.cons_append, List.nil_append, and_assoc, atI_map, Option.map_some, Nat.reduceAdd, Nat.reduceLT, Nat.reduceLeDiff, OT.toD_ow, List.map_cons, List.map_nil, D.mob.injEq, Mo.lst.injEq, Mem.put_same, Mem.put_put, ixN_30, ixN_32, ixN_10, exists_prop, fz_app, fz_inj, fz_snoc, OT.map_fz, List.length_map, List.length_append, List.append_nil, Nat.zero_add, cutL_1, items_tup, items_lst, items_scr, forD, compD, compS, comp2D, wipeE, D.isIn, List.any_cons, List.any_nil, String.reduceEq, D.plain, D.plains, D.dep, D.deps, Nat.max_self, Nat.min_self, Nat.zero_le, Nat.zero_min, Nat.min_zero, sizeLine_eq, forall_eq, exists_const, forall_const, kind_non, kind_bl, kind_int, kind_str, kind_lst, kind_tup, kind_dk, Kd.isa, reduceCtorEq, decide_false, decide_true, Bool.or_false, Bool.false_or, Bool.or_true, Bool.true_or, Bool.or_self, Bool.and_false, Bool.false_and, Bool.true_and, Bool.and_true, Bool.and_self, and_self, false_or, or_false, false_and, and_false, reduceIte, Bool.false_eq_true, Bool.not_eq_true, Bool.not_true, Bool.not_false, Bd.toD, spParts, DSpec.pure, kind_bd, bd_inj, pD_has, pD_alike, pD_nt, pD_an, pD_or, pD_ah, pD_ev, pD_si, pD_len]) | refine And.intro (by first | assumption | omega | decide) ?_ | omega | assumption)
    | an b c =>
      simp only [Bd.hgt] at hd hd2
      have s1 := parts_small (b := b) (by omega)
      have s2 := parts_small (b := c) (by omega)
      (try simp only [seqS_M, startE_cons, startE_nil, List.length_cons, List.length_nil, List.length_replicate, List.length_set, List.replicate_succ, List.replicate_zero, List.getElem?_cons_zero, List.getElem?_cons_succ, List.set_cons_zero, List.set_cons_succ, Option.some.injEq, OT.fz.injEq, OT.ow.injEq, D.int.injEq, D.str.injEq, D.bl.injEq, D.tup.injEq, D.lst.injEq, List.cons.injEq, exists_eq_left', exists_eq_left, exists_eq_right, and_true, true_and, OT.toD_fz, toD_map_fz, hIx_tup, hIx_lst, hIx_scr, hIx_mob, hIx_str, hIxT_fz, hIxT_ow, hAdd_int, hAdd_str, hAdd_tup, hAdd_lst, hMul_int, hMul_lst, hSl_tup, hSl_lst, hSl_str, hLen_lst, hLen_tup, hLen_scr, hLen_str, hLen_mob, hInt_int, hInt_bl, hAbs_int, hSeq_lst, hSeq_tup, hIn_lst, hIn_tup, hEq_eq, hI0_int, hI_int, ng_f, ng_t, atI_0, atI_1, atI_2, ofString_inj, eqv_str, eqv_txt, eqv_int, eqv_bl, eqv_tup, eqv_lst, eqOk_str, eqOk_int, eqOk_bl, eqOk_txt, decide_eq_true_eq, Nat.zero_lt_succ, exists_and_left, List.take_succ_cons, List.take_zero, List.drop_succ_cons, List.drop_zero, List.cons_append, List.nil_append, and_assoc, atI_map, Option.map_some, Nat.reduceAdd, Nat.reduceLT, Nat.reduceLeDiff, OT.toD_ow, List.map_cons, List.map_nil, D.mob.injEq, Mo.lst.injEq, Mem.put_same, Mem.put_put, ixN_30, ixN_32, ixN_10, exists_prop, fz_app, fz_inj, fz_snoc, OT.map_fz, List.length_map, List.length_append, List.append_nil, Nat.zero_add, cutL_1, items_tup, items_lst, items_scr, forD, compD, compS, comp2D, wipeE, D.isIn, List.any_cons, List.any_nil, String.reduceEq, D.plain, D.plains, D.dep, D.deps, Nat.max_self, Nat.min_self, Nat.zero_le, Nat.zero_min, Nat.min_zero, sizeLine_eq, forall_eq, exists_const, forall_const, kind_non, kind_bl, kind_int, kind_str, kind_lst, kind_tup, kind_dk, Kd.isa, reduceCtorEq, decide_false, decide_true, Bool.or_false, Bool.false_or, Bool.or_true, Bool.true_or, Bool.or_self, Bool.and_false, Bool.false_and, Bool.true_and, Bool.and_true, Bool.and_self, and_self, false_or, or_false, false_and, and_false, reduceIte, Bool.false_eq_true, Bool.not_eq_true, Bool.not_true, Bool.not_false, Bd.toD, spParts, DSpec.pure, kind_bd, bd_inj, pD_has, pD_alike, pD_nt, pD_an, pD_or, pD_ah, pD_ev, pD_si, pD_len]); repeat (first | (refine seq_in ?_; simp only [seqS_M, startE_cons, startE_nil, List.length_cons, List.length_nil, List.length_replicate, List.length_set, List.replicate_succ, List.replicate_zero, List.getElem?_cons_zero, List.getElem?_cons_succ, List.set_cons_zero, List.set_cons_succ, Option.some.injEq, OT.fz.injEq, OT.ow.injEq, D.int.injEq, D.str.injEq, D.bl.injEq, D.tup.injEq, D.lst.injEq, List.cons.injEq, exists_eq_left', exists_eq_left, exists_eq_right, and_true, true_and, OT.toD_fz, toD_map_fz, hIx_tup, hIx_lst, hIx_scr, hIx_mob, hIx_str, hIxT_fz, hIxT_ow, hAdd_int, hAdd_str, hAdd_tup, hAdd_lst, hMul_int, hMul_lst, hSl_tup, hSl_lst, hSl_str, hLen_lst, hLen_tup, hLen_scr, hLen_str, hLen_mob, hInt_int, hInt_bl, hAbs_int, hSeq_lst, hSeq_tup, hIn_lst, hIn_tup, hEq_eq, hI0_int, hI_int, ng_f, ng_t, atI_0, atI_1, atI_2, ofString_inj, eqv_str, eqv_txt, eqv_int, eqv_bl, eqv_tup, eqv_lst, eqOk_str, eqOk_int, eqOk_bl, eqOk_txt, decide_eq_true_eq, Nat.zero_lt_succ, exists_and_left, List.take_succ_cons, List.take_zero, List.drop_succ_cons, List.drop_zero, List.cons_append, List.nil_append, and_assoc, atI_map, Option.map_some, Nat.reduceAdd, Nat.reduceLT, Nat.reduceLeDiff, OT.toD_ow, List.map_cons, List.map_nil, D.mob.injEq, Mo.lst.injEq, Mem.put_same, Mem.put_put, ixN_30, ixN_32, ixN_10, exists_prop, fz_app, fz_inj, fz_snoc, OT.map_fz, List.length_map, List.length_append, List.append_nil, Nat.zero_add, cutL_1, items_tup, items_lst, items_scr, forD, compD, compS, comp2D, wipeE, D.isIn, List.any_cons, List.any_nil, String.reduceEq, D.plain, D.plains, D.dep, D.deps, Nat.max_self, Nat.min_self, Nat.zero_le, Nat.zero_min, Nat.min_zero, sizeLine_eq, forall_eq, exists_const, forall_const, kind_non, kind_bl, kind_int, kind_str, kind_lst, kind_tup, kind_dk, Kd.isa, reduceCtorEq, decide_false, decide_true, Bool.or_false, Bool.false_or, Bool.or_true, Bool.true_or, Bool.or_self, Bool.and_false, Bool.false_and, Bool.true_and, Bool.and_true, Bool.and_self, and_self, false_or, or_false, false_and, and_false, reduceIte, Bool.false_eq_true, Bool.not_eq_true, Bool.not_true, Bool.not_false, Bd.toD, spParts, DSpec.pure, kind_bd, bd_inj, pD_has, pD_alike, pD_nt, pD_an, pD_or, pD_ah, pD_ev, pD_si, pD_len]) | refine And.intro (by first | assumption | omega | decide) ?_ | omega | assumption)
    | or b c =>
      simp only [Bd.hgt] at hd hd2
      have s1 := parts_small (b := b) (by omega)
      have s2 := parts_small (b := c) (by omega)
      (try simp only [seqS_M, startE_cons, startE_nil, List.length_cons, List.length_nil, List.length_replicate, List.length_set, List.replicate_succ, List.replicate_zero, List.getElem?_cons_zero, List.getElem?_cons_succ, List.set_cons_zero, List.set_cons_succ, Option.some.injEq, OT.fz.injEq, OT.ow.injEq, D.int.injEq, D.str.injEq, D.bl.injEq, D.tup.injEq, D.lst.injEq, List.cons.injEq, exists_eq_left', exists_eq_left, exists_eq_right, and_true, true_and, OT.toD_fz, toD_map_fz, hIx_tup, hIx_lst, hIx_scr, hIx_mob, hIx_str, hIxT_fz, hIxT_ow, hAdd_int, hAdd_str, hAdd_tup, hAdd_lst, hMul_int, hMul_lst, hSl_tup, hSl_lst, hSl_str, hLen_lst, hLen_tup, hLen_scr, hLen_str, hLen_mob, hInt_int, hInt_bl, hAbs_int, hSeq_lst, hSeq_tup, hIn_lst, hIn_tup, hEq_eq, hI0_int, hI_int, ng_f, ng_t, atI_0, atI_1, atI_2, ofString_inj, eqv_str, eqv_txt, eqv_int, eqv_bl, eqv_tup, eqv_lst, eqOk_str, eqOk_int, eqOk_bl, eqOk_txt, decide_eq_true_eq, Nat.zero_lt_succ, exists_and_left, List.take_succ_cons, List.take_zero, List.drop_succ_cons, List.drop_zero, List.cons_append, List.nil_append, and_assoc, atI_map, Option.map_some, Nat.reduceAdd, Nat.reduceLT, Nat.reduceLeDiff, OT.toD_ow, List.map_cons, List.map_nil, D.mob.injEq, Mo.lst.injEq, Mem.put_same, Mem.put_put, ixN_30, ixN_32, ixN_10, exists_prop, fz_app, fz_inj, fz_snoc, OT.map_fz, List.length_map, List.length_append, List.append_nil, Nat.zero_add, cutL_1, items_tup, items_lst, items_scr, forD, compD, compS, comp2D, wipeE, D.isIn, List.any_cons, List.any_nil, String.reduceEq, D.plain, D.plains, D.dep, D.deps, Nat.max_self, Nat.min_self, Nat.zero_le, Nat.zero_min, Nat.min_zero, sizeLine_eq, forall_eq, exists_const, forall_const, kind_non, kind_bl, kind_int, kind_str, kind_lst, kind_tup, kind_dk, Kd.isa, reduceCtorEq, decide_false, decide_true, Bool.or_false, Bool.false_or, Bool.or_true, Bool.true_or, Bool.or_self, Bool.and_false, Bool.false_and, Bool.true_and, Bool.and_true, Bool.and_self, and_self, false_or, or_false, false_and, and_false, reduceIte, Bool.false_eq_true, Bool.not_eq_true, Bool.not_true, Bool.not_false, Bd.toD, spParts, DSpec.pure, kind_bd, bd_inj, pD_has, pD_alike, pD_nt, pD_an, pD_or, pD_ah, pD_ev, pD_si, pD_len]); repeat (first | (refine seq_in ?_; simp only [seqS_M, startE_cons, startE_nil, List.length_cons, List.length_nil, List.length_replicate, List.length_set, List.replicate_succ, List.replicate_zero, List.getElem?_cons_zero, List.getElem?_cons_succ, List.set_cons_zero, List.set_cons_succ, Option.some.injEq, OT.fz.injEq, OT.ow.injEq, D.int.injEq, D.str.injEq, D.bl.injEq, D.tup.injEq, D.lst.injEq, List.cons.injEq, exists_eq_left', exists_eq_left, exists_eq_right, and_true, true_and, OT.toD_fz, toD_map_fz, hIx_tup, hIx_lst, hIx_scr, hIx_mob, hIx_str, hIxT_fz, hIxT_ow, hAdd_int, hAdd_str, hAdd_tup, hAdd_lst, hMul_int, hMul_lst, hSl_tup, hSl_lst, hSl_str, hLen_lst, hLen_tup, hLen_scr, hLen_str, hLen_mob, hInt_int, hInt_bl, hAbs_int, hSeq_lst, hSeq_tup, hIn_lst, hIn_tup, hEq_eq, hI0_int, hI_int, ng_f, ng_t, atI_0, atI_1, atI_2, ofString_inj, eqv_str, eqv_txt, eqv_int, eqv_bl, eqv_tup, eqv_lst, eqOk_str, eqOk_int, eqOk_bl, eqOk_txt, decide_eq_true_eq, Nat.zero_lt_succ, exists_and_left, List.take_succ_cons, List.take_zero, List.drop_succ_cons, List.drop_zero, List.cons_append, List.nil_append, and_assoc, atI_map, Option.map_some, Nat.reduceAdd, Nat.reduceLT, Nat.reduceLeDiff, OT.toD_ow, List.map_cons, List.map_nil, D.mob.injEq, Mo.lst.injEq, Mem.put_same, Mem.put_put, ixN_30, ixN_32, ixN_10, exists_prop, fz_app, fz_inj, fz_snoc, OT.map_fz, List.length_map, List.length_append, List.append_nil, Nat.zero_add, cutL_1, items_tup, items_lst, items_scr, forD, compD, compS, comp2D, wipeE, D.isIn, List.any_cons, List.any_nil, String.reduceEq, D.plain, D.plains, D.dep, D.deps, Nat.max_self, Nat.min_self, Nat.zero_le, Nat.zero_min, Nat.min_zero, sizeLine_eq, forall_eq, exists_const, forall_const, kind_non, kind_bl, kind_int, kind_str, kind_lst, kind_tup, kind_dk, Kd.isa, reduceCtorEq, decide_false, decide_true, Bool.or_false, Bool.false_or, Bool.or_true, Bool.true_or, Bool.or_self, Bool.and_false, Bool.false_and, Bool.true_and, Bool.and_true, Bool.and_self, and_self, false_or, or_false, false_and, and_false, reduceIte, Bool.false_eq_true, Bool.not_eq_true, Bool.not_true, Bool.not_false, Bd.toD, spParts, DSpec.pure, kind_bd, bd_inj, pD_has, pD_alike, pD_nt, pD_an, pD_or, pD_ah, pD_ev, pD_si, pD_len]) | refine And.intro (by first | assumption | omega | decide) ?_ | omega | assumption)
    | si b c =>
      simp only [Bd.hgt] at hd hd2
      have s1 := parts_small (b := b) (by omega)
      have s2 := parts_small (b := c) (by omega)
      (try simp only [seqS_M, startE_cons, startE_nil, List.length_cons, List.length_nil, List.length_replicate, List.length_set, List.replicate_succ, List.replicate_zero, List.getElem?_cons_zero, List.getElem?_cons_succ, List.set_cons_zero, List.set_cons_succ, Option.some.injEq, OT.fz.injEq, OT.ow.injEq, D.int.injEq, D.str.injEq, D.bl.injEq, D.tup.injEq, D.lst.injEq, List.cons.injEq, exists_eq_left', exists_eq_left, exists_eq_right, and_true, true_and, OT.toD_fz, toD_map_fz, hIx_tup, hIx_lst, hIx_scr, hIx_mob, hIx_str, hIxT_fz, hIxT_ow, hAdd_int, hAdd_str, hAdd_tup, hAdd_lst, hMul_int, hMul_lst, hSl_tup, hSl_lst, hSl_str, hLen_lst, hLen_tup, hLen_scr, hLen_str, hLen_mob, hInt_int, hInt_bl, hAbs_int, hSeq_lst, hSeq_tup, hIn_lst, hIn_tup, hEq_eq, hI0_int, hI_int, ng_f, ng_t, atI_0, atI_1, atI_2, ofString_inj, eqv_str, eqv_txt, eqv_int, eqv_bl, eqv_tup, eqv_lst, eqOk_str, eqOk_int, eqOk_bl, eqOk_txt, decide_eq_true_eq, Nat.zero_lt_succ, exists_and_left, List.take_succ_cons, List.take_zero, List.drop_succ_cons, List.drop_zero, List.cons_append, List.nil_append, and_assoc, atI_map, Option.map_some, Nat.reduceAdd, Nat.reduceLT, Nat.reduceLeDiff, OT.toD_ow, List.map_cons, List.map_nil, D.mob.injEq, Mo.lst.injEq, Mem.put_same, Mem.put_put, ixN_30, ixN_32, ixN_10, exists_prop, fz_app, fz_inj, fz_snoc, OT.map_fz, List.length_map, List.length_append, List.append_nil, Nat.zero_add, cutL_1, items_tup, items_lst, items_scr, forD, compD, compS, comp2D, wipeE, D.isIn, List.any_cons, List.any_nil, String.reduceEq, D.plain, D.plains, D.dep, D.deps, Nat.max_self, Nat.min_self, Nat.zero_le, Nat.zero_min, Nat.min_zero, sizeLine_eq, forall_eq, exists_const, forall_const, kind_non, kind_bl, kind_int, kind_str, kind_lst, kind_tup, kind_dk, Kd.isa, reduceCtorEq, decide_false, decide_true, Bool.or_false, Bool.false_or, Bool.or_true, Bool.true_or, Bool.or_self, Bool.and_false, Bool.false_and, Bool.true_and, Bool.and_true, Bool.and_self, and_self, false_or, or_false, false_and, and_false, reduceIte, Bool.false_eq_true, Bool.not_eq_true, Bool.not_true, Bool.not_false, Bd.toD, spParts, DSpec.pure, kind_bd, bd_inj, pD_has, pD_alike, pD_nt, pD_an, pD_or, pD_ah, pD_ev, pD_si, pD_len]); repeat (first | (refine seq_in ?_; simp only [seqS_M, startE_cons, startE_nil, List.length_cons, List.length_nil, List.length_replicate, List.length_set, List.replicate_succ, List.replicate_zero, List.getElem?_cons_zero, List.getElem?_cons_succ, List.set_cons_zero, List.set_cons_succ, Option.some.injEq, OT.fz.injEq, OT.ow.injEq, D.int.injEq, D.str.injEq, D.bl.injEq, D.tup.injEq, D.lst.injEq, List.cons.injEq, exists_eq_left', exists_eq_left, exists_eq_right, and_true, true_and, OT.toD_fz, toD_map_fz, hIx_tup, hIx_lst, hIx_scr, hIx_mob, hIx_str, hIxT_fz, hIxT_ow, hAdd_int, hAdd_str, hAdd_tup, hAdd_lst, hMul_int, hMul_lst, hSl_tup, hSl_lst, hSl_str, hLen_lst, hLen_tup, hLen_scr, hLen_str, hLen_mob, hInt_int, hInt_bl, hAbs_int, hSeq_lst, hSeq_tup, hIn_lst, hIn_tup, hEq_eq, hI0_int, hI_int, ng_f, ng_t, atI_0, atI_1, atI_2, ofString_inj, eqv_str, eqv_txt, eqv_int, eqv_bl, eqv_tup, eqv_lst, eqOk_str, eqOk_int, eqOk_bl, eqOk_txt, decide_eq_true_eq, Nat.zero_lt_succ, exists_and_left, List.take_succ_cons, List.take_zero, List.drop_succ_cons, List.drop_zero, List.cons_append, List.nil_append, and_assoc, atI_map, Option.map_some, Nat.reduceAdd, Nat.reduceLT, Nat.reduceLeDiff, OT.toD_ow, List.map_cons, List.map_nil, D.mob.injEq, Mo.lst.injEq, Mem.put_same, Mem.put_put, ixN_30, ixN_32, ixN_10, exists_prop, fz_app, fz_inj, fz_snoc, OT.map_fz, List.length_map, List.length_append, List.append_nil, Nat.zero_add, cutL_1, items_tup, items_lst, items_scr, forD, compD, compS, comp2D, wipeE, D.isIn, List.any_cons, List.any_nil, String.reduceEq, D.plain, D.plains, D.dep, D.deps, Nat.max_self, Nat.min_self, Nat.zero_le, Nat.zero_min, Nat.min_zero, sizeLine_eq, forall_eq, exists_const, forall_const, kind_non, kind_bl, kind_int, kind_str, kind_lst, kind_tup, kind_dk, Kd.isa, reduceCtorEq, decide_false, decide_true, Bool.or_false, Bool.false_or, Bool.or_true, Bool.true_or, Bool.or_self, Bool.and_false, Bool.false_and, Bool.true_and, Bool.and_true, Bool.and_self, and_self, false_or, or_false, false_and, and_false, reduceIte, Bool.false_eq_true, Bool.not_eq_true, Bool.not_true, Bool.not_false, Bd.toD, spParts, DSpec.pure, kind_bd, bd_inj, pD_has, pD_alike, pD_nt, pD_an, pD_or, pD_ah, pD_ev, pD_si, pD_len]) | refine And.intro (by first | assumption | omega | decide) ?_ | omega | assumption)
theorem ok_parts_of (T : Tx K mg) : ∀ n, DF P w K mg base s_parts_of "parts_of" ["body"] n (spParts n) := by
  intro n
  induction n with
  | zero => exact DF.never T.d_parts_of fun i M ds h => by have := h.2.1; omega
  | succ n ih =>
    have F_parts_of := ih
    obtain ⟨f, fd, hm, F, hb⟩ := T.d_parts_of
    refine ⟨f, fd, hm, F, hb, fn_dl F sc_parts_of ?_⟩
    rintro X M ds (b : Bd) ⟨cdv, A, outer, s0, H0, E, rfl⟩ hr hl ⟨rfl, hd, hd2⟩
    refine ⟨_, (dss_cons (ds_asg (ed_var 0) (eg_tupS (n := 1) rfl (egs_cons (eg_name 1 sc_parts_of.nd) (egs_starred (eg_name 2 sc_parts_of.nd))))) (dss_cons (ds_set 3 sc_parts_of.nd (EO.d (eo_lst ao_nil))) (dss_cons (ds_if (EW.t (ew_or (EC.t (ec_in hr.hu (ev_var 1) (ED.v (ed_gc T.c_OF_ONE)))) (ew_or1 (EC.t (ec_in hr.hu (ev_var 1) (ED.v (ed_gc T.c_OF_TWO))))))) (dss_cons (ds_setLc2O (own := [("one", 4), ("part", 5)]) 3 [5] rfl sc_parts_of.nd (ei_seq (ed_var 2)) (blkOk_by (N := N_parts_of) (sc := (defScope s_parts_of)) (by first | decide +kernel | exact rfl)) (by decide) (by decide) (by decide) (fun _ _ _ _ _ => (eg_name 4 sc_parts_of.nd)) (fun _ _ _ _ _ => ets_nil) (fun _ _ _ _ _ => (ei_seq (EO.d (eo_callP (DF.mono F_parts_of (by first | omega | decide)) hr (ad_cons (ed_var 4) ad_nil))))) (fun _ _ _ _ _ => (eg_name 5 sc_parts_of.nd)) (fun _ _ _ _ _ => ets_nil) (fun _ _ _ _ _ => (ED.o (ed_var 5))) (by rfl)) (DSs.frz 3 dss_nil)) dss_nil) (dss_cons (ds_ret (eo_add (ed_var 3) (EO.d (eo_lst (ao_cons (eo_tuple T.z_tuple (ad_cons (ed_var 0) ad_nil)) ao_nil))))) dss_nil)))), ?_⟩
    cases b with
    | has r m =>
      (try simp only [seqS_M, startE_cons, startE_nil, List.length_cons, List.length_nil, List.length_replicate, List.length_set, List.replicate_succ, List.replicate_zero, List.getElem?_cons_zero, List.getElem?_cons_succ, List.set_cons_zero, List.set_cons_succ, Option.some.injEq, OT.fz.injEq, OT.ow.injEq, D.int.injEq, D.str.injEq, D.bl.injEq, D.tup.injEq, D.lst.injEq, List.cons.injEq, exists_eq_left', exists_eq_left, exists_eq_right, and_true, true_and, OT.toD_fz, toD_map_fz, hIx_tup, hIx_lst, hIx_scr, hIx_mob, hIx_str, hIxT_fz, hIxT_ow, hAdd_int, hAdd_str, hAdd_tup, hAdd_lst, hMul_int, hMul_lst, hSl_tup, hSl_lst, hSl_str, hLen_lst, hLen_tup, hLen_scr, hLen_str, hLen_mob, hInt_int, hInt_bl, hAbs_int, hSeq_lst, hSeq_tup, hIn_lst, hIn_tup, hEq_eq, hI0_int, hI_int, ng_f, ng_t, atI_0, atI_1, atI_2, ofString_inj, eqv_str, eqv_txt, eqv_int, eqv_bl, eqv_tup, eqv_lst, eqOk_str, eqOk_int, eqOk_bl, eqOk_txt, decide_eq_true_eq, Nat.zero_lt_succ, exists_and_left, List.take_succ_cons, List.take_zero, List.drop_succ_cons, List.drop_zero, List.cons_append, List.nil_append, and_assoc, atI_map, Option.map_some, Nat.reduceAdd, Nat.reduceLT, Nat.reduceLeDiff, OT.toD_ow, List.map_cons, List.map_nil, D.mob.injEq, Mo.lst.injEq, Mem.put_same, Mem.put_put, ixN_30, ixN_32, ixN_10, exists_prop, fz_app, fz_inj, fz_snoc, OT.map_fz, List.length_map, List.length_append, List.append_nil, Nat.zero_add, cutL_1, items_tup, items_lst, items_scr, forD, compD, compS, comp2D, wipeE, D.isIn, List.any_cons, List.any_nil, String.reduceEq, D.plain, D.plains, D.dep, D.deps, Nat.max_self, Nat.min_self, Nat.zero_le, Nat.zero_min, Nat.min_zero, sizeLine_eq, forall_eq, exists_const, forall_const, kind_non, kind_bl, kind_int, kind_str, kind_lst, kind_tup, kind_dk, Kd.isa, reduceCtorEq, decide_false, decide_true, Bool.or_false, Bool.false_or, Bool.or_true, Bool.true_or, Bool.or_self, Bool.and_false, Bool.false_and, Bool.true_and, Bool.and_true, Bool.and_self, and_self, false_or, or_false, false_and, and_false, reduceIte, Bool.false_eq_true, Bool.not_eq_true, Bool.not_true, Bool.not_false, Bd.toD, spParts, DSpec.pure, pD_has, pD_alike]); repeat (first | (refine seq_in ?_; simp only [seqS_M, startE_cons, startE_nil, List.length_cons, List.length_nil, List.length_replicate, List.length_set, List.replicate_succ, List.replicate_zero, List.getElem?_cons_zero, List.getElem?_cons_succ, List.set_cons_zero, List.set_cons_succ, Option.some.injEq, OT.fz.injEq, OT.ow.injEq, D.int.injEq, D.str.injEq, D.bl.injEq, D.tup.injEq, D.lst.injEq, List.cons.injEq, exists_eq_left', exists_eq_left, exists_eq_right, and_true, true_and, OT.toD_fz, toD_map_fz, hIx_tup, hIx_lst, hIx_scr, hIx_mob, hIx_str, hIxT_fz, hIxT_ow, hAdd_int, hAdd_str, hAdd_tup, hAdd_lst, hMul_int, hMul_lst, hSl_tup, hSl_lst, hSl_str, hLen_lst, hLen_tup, hLen_scr, hLen_str, hLen_mob, hInt_int, hInt_bl, hAbs_int, hSeq_lst, hSeq_tup, hIn_lst, hIn_tup, hEq_eq, hI0_int, hI_int, ng_f, ng_t, atI_0, atI_1, atI_2, ofString_inj, eqv_str, eqv_txt, eqv_int, eqv_bl, eqv_tup, eqv_lst, eqOk_str, eqOk_int, eqOk_bl, eqOk_txt, decide_eq_true_eq, Nat.zero_lt_succ, exists_and_left, List.take_succ_cons, List.take_zero, List.drop_succ_cons, List.drop_zero, List.cons_append, List.nil_append, and_assoc, atI_map, Option.map_some, Nat.reduceAdd, Nat.reduceLT, Nat.reduceLeDiff, OT.toD_ow, List.map_cons, List.map_nil, D.mob.injEq, Mo.lst.injEq, Mem.put_same, Mem.put_put, ixN_30, ixN_32, ixN_10, exists_prop, fz_app, fz_inj, fz_snoc, OT.map_fz, List.length_map, List.length_append, List.append_nil, Nat.zero_add, cutL_1, items_tup, items_lst, items_scr, forD, compD, compS, comp2D, wipeE, D.isIn, List.any_cons, List.any_nil, String.reduceEq, D.plain, D.plains, D.dep, D.deps, Nat.max_self, Nat.min_self, Nat.zero_le, Nat.zero_min, Nat.min_zero, sizeLine_eq, forall_eq, exists_const, forall_const, kind_non, kind_bl, kind_int, kind_str, kind_lst, kind_tup, kind_dk, Kd.isa, reduceCtorEq, decide_false, decide_true, Bool.or_false, Bool.false_or, Bool.or_true, Bool.true_or, Bool.or_self, Bool.and_false, Bool.false_and, Bool.true_and, Bool.and_true, Bool.and_self, and_self, false_or, or_false, false_and, and_false, reduceIte, Bool.false_eq_true, Bool.not_eq_true, Bool.not_true, Bool.not_false, Bd.toD, spParts, DSpec.pure, pD_has, pD_alike]) | refine And.intro (by first | assumption | omega | decide) ?_ | omega | assumption)
    | alike r m ms =>
      (try simp only [seqS_M, startE_cons, startE_nil, List.length_cons, List.length_nil, List.length_replicate, List.length_set, List.replicate_succ, List.replicate_zero, List.getElem?_cons_zero, List.getElem?_cons_succ, List.set_cons_zero, List.set_cons_succ, Option.some.injEq, OT.fz.injEq, OT.ow.injEq, D.int.injEq, D.str.injEq, D.bl.injEq, D.tup.injEq, D.lst.injEq, List.cons.injEq, exists_eq_left', exists_eq_left, exists_eq_right, and_true, true_and, OT.toD_fz, toD_map_fz, hIx_tup, hIx_lst, hIx_scr, hIx_mob, hIx_str, hIxT_fz, hIxT_ow, hAdd_int, hAdd_str, hAdd_tup, hAdd_lst, hMul_int, hMul_lst, hSl_tup, hSl_lst, hSl_str, hLen_lst, hLen_tup, hLen_scr, hLen_str, hLen_mob, hInt_int, hInt_bl, hAbs_int, hSeq_lst, hSeq_tup, hIn_lst, hIn_tup, hEq_eq, hI0_int, hI_int, ng_f, ng_t, atI_0, atI_1, atI_2, ofString_inj, eqv_str, eqv_txt, eqv_int, eqv_bl, eqv_tup, eqv_lst, eqOk_str, eqOk_int, eqOk_bl, eqOk_txt, decide_eq_true_eq, Nat.zero_lt_succ, exists_and_left, List.take_succ_cons, List.take_zero, List.drop_succ_cons, List.drop_zero, List.cons_append, List.nil_append, and_assoc, atI_map, Option.map_some, Nat.reduceAdd, Nat.reduceLT, Nat.reduceLeDiff, OT.toD_ow, List.map_cons, List.map_nil, D.mob.injEq, Mo.lst.injEq, Mem.put_same, Mem.put_put, ixN_30, ixN_32, ixN_10, exists_prop, fz_app, fz_inj, fz_snoc, OT.map_fz, List.length_map, List.length_append, List.append_nil, Nat.zero_add, cutL_1, items_tup, items_lst, items_scr, forD, compD, compS, comp2D, wipeE, D.isIn, List.any_cons, List.any_nil, String.reduceEq, D.plain, D.plains, D.dep, D.deps, Nat.max_self, Nat.min_self, Nat.zero_le, Nat.zero_min, Nat.min_zero, sizeLine_eq, forall_eq, exists_const, forall_const, kind_non, kind_bl, kind_int, kind_str, kind_lst, kind_tup, kind_dk, Kd.isa, reduceCtorEq, decide_false, decide_true, Bool.or_false, Bool.false_or, Bool.or_true, Bool.true_or, Bool.or_self, Bool.and_false, Bool.false_and, Bool.true_and, Bool.and_true, Bool.and_self, and_self, false_or, or_false, false_and, and_false, reduceIte, Bool.false_eq_true, Bool.not_eq_true, Bool.not_true, Bool.not_false, Bd.toD, spParts, DSpec.pure, pD_has, pD_alike]); repeat (first | (refine seq_in ?_; simp only [seqS_M, startE_cons, startE_nil, List.length_cons, List.length_nil, List.length_replicate, List.length_set, List.replicate_succ, List.replicate_zero, List.getElem?_cons_zero, List.getElem?_cons_succ, List.set_cons_zero, List.set_cons_succ, Option.some.injEq, OT.fz.injEq, OT.ow.injEq, D.int.injEq, D.str.injEq, D.bl.injEq, D.tup.injEq, D.lst.injEq, List.cons.injEq, exists_eq_left', exists_eq_left, exists_eq_right, and_true, true_and, OT.toD_fz, toD_map_fz, hIx_tup, hIx_lst, hIx_scr, hIx_mob, hIx_str, hIxT_fz, hIxT_ow, hAdd_int, hAdd_str, hAdd_tup, hAdd_lst, hMul_int, hMul_lst, hSl_tup, hSl_lst, hSl_str, hLen_lst, hLen_tup, hLen_scr, hLen_str, hLen_mob, hInt_int, hInt_bl, hAbs_int, hSeq_lst, hSeq_tup, hIn_lst, hIn_tup, hEq_eq, hI0_int, hI_int, ng_f, ng_t, atI_0, atI_1, atI_2, ofString_inj, eqv_str, eqv_txt, eqv_int, eqv_bl, eqv_tup, eqv_lst, eqOk_str, eqOk_int, eqOk_bl, eqOk_txt, decide_eq_true_eq, Nat.zero_lt_succ, exists_and_left, List.take_succ_cons, List.take_zero, List.drop_succ_cons, List.drop_zero, List.cons_append, List.nil_append, and_assoc, atI_map, Option.map_some, Nat.reduceAdd, Nat.reduceLT, Nat.reduceLeDiff, OT.toD_ow, List.map_cons, List.map_nil, D.mob.injEq, Mo.lst.injEq, Mem.put_same, Mem.put_put, ixN_30, ixN_32, ixN_10, exists_prop, fz_app, fz_inj, fz_snoc, OT.map_fz, List.length_map, List.length_append, List.append_nil, Nat.zero_add, cutL_1, items_tup, items_lst, items_scr, forD, compD, compS, comp2D, wipeE, D.isIn, List.any_cons, List.any_nil, String.reduceEq, D.plain, D.plains, D.dep, D.deps, Nat.max_self, Nat.min_self, Nat.zero_le, Nat.zero_min, Nat.min_zero, sizeLine_eq, forall_eq, exists_const, forall_const, kind_non, kind_bl, kind_int, kind_str, kind_lst, kind_tup, kind_dk, Kd.isa, reduceCtorEq, decide_false, decide_true, Bool.or_false, Bool.false_or, Bool.or_true, Bool.true_or, Bool.or_self, Bool.and_false, Bool.false_and, Bool.true_and, Bool.and_true, Bool.and_self, and_self, false_or, or_false, false_and, and_false, reduceIte, Bool.false_eq_true, Bool.not_eq_true, Bool.not_true, Bool.not_false, Bd.toD, spParts, DSpec.pure, pD_has, pD_alike]) | refine And.intro (by first | assumption | omega | decide) ?_ | omega | assumption)
    | nt b =>
      simp only [Bd.hgt] at hd hd2
      have s1 := parts_small (b := b) (by omega)
      (try simp only [seqS_M, startE_cons, startE_nil, List.length_cons, List.length_nil, List.length_replicate, List.length_set, List.replicate_succ, List.replicate_zero, List.getElem?_cons_zero, List.getElem?_cons_succ, List.set_cons_zero, List.set_cons_succ, Option.some.injEq, OT.fz.injEq, OT.ow.injEq, D.int.injEq, D.str.injEq, D.bl.injEq, D.tup.injEq, D.lst.injEq, List.cons.injEq, exists_eq_left', exists_eq_left, exists_eq_right, and_true, true_and, OT.toD_fz, toD_map_fz, hIx_tup, hIx_lst, hIx_scr, hIx_mob, hIx_str, hIxT_fz, hIxT_ow, hAdd_int, hAdd_str, hAdd_tup, hAdd_lst, hMul_int, hMul_lst, hSl_tup, hSl_lst, hSl_str, hLen_lst, hLen_tup, hLen_scr, hLen_str, hLen_mob, hInt_int, hInt_bl, hAbs_int, hSeq_lst, hSeq_tup, hIn_lst, hIn_tup, hEq_eq, hI0_int, hI_int, ng_f, ng_t, atI_0, atI_1, atI_2, ofString_inj, eqv_str, eqv_txt, eqv_int, eqv_bl, eqv_tup, eqv_lst, eqOk_str, eqOk_int, eqOk_bl, eqOk_txt, decide_eq_true_eq, Nat.zero_lt_succ, exists_and_left, List.take_succ_cons, List.take_zero, List.drop_succ_cons, List.drop_zero, List.cons_append, List.nil_append, and_assoc, atI_map, Option.map_some, Nat.reduceAdd, Nat.reduceLT, Nat.reduceLeDiff, OT.toD_ow, List.map_cons, List.map_nil, D.mob.injEq, Mo.lst.injEq, Mem.put_same, Mem.put_put, ixN_30, ixN_32, ixN_10, exists_prop, fz_app, fz_inj, fz_snoc, OT.map_fz, List.length_map, List.length_append, List.append_nil, Nat.zero_add, cutL_1, items_tup, items_lst, items_scr, forD, compD, compS, comp2D, wipeE, D.isIn, List.any_cons, List.any_nil, String.reduceEq, D.plain, D.plains, D.dep, D.deps, Nat.max_self, Nat.min_self, Nat.zero_le, Nat.zero_min, Nat.min_zero, sizeLine_eq, forall_eq, exists_const, forall_const, kind_non, kind_bl, kind_int, kind_str, kind_lst, kind_tup, kind_dk, Kd.isa, reduceCtorEq, decide_false, decide_true, Bool.or_false, Bool.false_or, Bool.or_true, Bool.true_or, Bool.or_self, Bool.and_false, Bool.false_and, Bool.true_and, Bool.and_true, Bool.and_self, and_self, false_or, or_false, false_and, and_false, reduceIte, Bool.false_eq_true, Bool.not_eq_true, Bool.not_true, Bool.not_false, Bd.toD, spParts, DSpec.pure, kind_bd, bd_inj, pD_has, pD_alike, pD_nt, pD_an, pD_or, pD_ah, pD_ev, pD_si, pD_len]); repeat (first | (refine seq_in ?_; simp only [seqS_M, startE_cons, startE_nil, List.length_cons, List.length_nil, List.length_replicate, List.length_set, List.replicate_succ, List.replicate_zero, List.getElem?_cons_zero, List.getElem?_cons_succ, List.set_cons_zero, List.set_cons_succ, Option.some.injEq, OT.fz.injEq, OT.ow.injEq, D.int.injEq, D.str.injEq, D.bl.injEq, D.tup.injEq, D.lst.injEq, List.cons.injEq, exists_eq_left', exists_eq_left, exists_eq_right, and_true, true_and, OT.toD_fz, toD_map_fz, hIx_tup, hIx_lst, hIx_scr, hIx_mob, hIx_str, hIxT_fz, hIxT_ow, hAdd_int, hAdd_str, hAdd_tup, hAdd_lst, hMul_int, hMul_lst, hSl_tup, hSl_lst, hSl_str, hLen_lst, hLen_tup, hLen_scr, hLen_str, hLen_mob, hInt_int, hInt_bl, hAbs_int, hSeq_lst, hSeq_tup, hIn_lst, hIn_tup, hEq_eq, hI0_int, hI_int, ng_f, ng_t, atI_0, atI_1, atI_2, ofString_inj, eqv_str, eqv_txt, eqv_int, eqv_bl, eqv_tup, eqv_lst, eqOk_str, eqOk_int, eqOk_bl, eqOk_txt, decide_eq_true_eq, Nat.zero_lt_succ, exists_and_left, List.take_succ_cons, List.take_zero, List.drop_succ_cons, List.drop_zero, List.cons_append, List.nil_append, and_assoc, atI_map, Option.map_some, Nat.reduceAdd, Nat.reduceLT, Nat.reduceLeDiff, OT.toD_ow, List.map_cons, List.map_nil, D.mob.injEq, Mo.lst.injEq, Mem.put_same, Mem.put_put, ixN_30, ixN_32, ixN_10, exists_prop, fz_app, fz_inj, fz_snoc, OT.map_fz, List.length_map, List.length_append, List.append_nil, Nat.zero_add, cutL_1, items_tup, items_lst, items_scr, forD, compD, compS, comp2D, wipeE, D.isIn, List.any_cons, List.any_nil, String.reduceEq, D.plain, D.plains, D.dep, D.deps, Nat.max_self, Nat.min_self, Nat.zero_le, Nat.zero_min, Nat.min_zero, sizeLine_eq, forall_eq, exists_const, forall_const, kind_non, kind_bl, kind_int, kind_str, kind_lst, kind_tup, kind_dk, Kd.isa, reduceCtorEq, decide_false, decide_true, Bool.or_false, Bool.false_or, Bool.or_true, Bool.true_or, Bool.or_self, Bool.and_false, Bool.false_and, Bool.true_and, Bool.and_true, Bool.and_self, and_self, false_or, or_false, false_and, and_false, reduceIte, Bool.false_eq_true, Bool.not_eq_true, Bool.not_true, Bool.not_false, Bd.toD, spParts, DSpec.pure, kind_bd, bd_inj, pD_has, pD_alike, pD_nt, pD_an, pD_or, pD_ah, pD_ev, pD_si, pD_len]) | refine And.intro (by first | assumption | omega | decide) ?_ | omega | assumption)
      refine compS_id (by simp) (by rw [pD_len]; show 0 + _ ≤ _; omega) ?_
      simp only [seqS_M, startE_cons, startE_nil, List.length_cons, List.length_nil, List.length_replicate, List.length_set, List.replicate_succ, List.replicate_zero, List.getElem?_cons_zero, List.getElem?_cons_succ, List.set_cons_zero, List.set_cons_succ, Option.some.injEq, OT.fz.injEq, OT.ow.injEq, D.int.injEq, D.str.injEq, D.bl.injEq, D.tup.injEq, D.lst.injEq, List.cons.injEq, exists_eq_left', exists_eq_left, exists_eq_right, and_true, true_and, OT.toD_fz, toD_map_fz, hIx_tup, hIx_lst, hIx_scr, hIx_mob, hIx_str, hIxT_fz, hIxT_ow, hAdd_int, hAdd_str, hAdd_tup, hAdd_lst, hMul_int, hMul_lst, hSl_tup, hSl_lst, hSl_str, hLen_lst, hLen_tup, hLen_scr, hLen_str, hLen_mob, hInt_int, hInt_bl, hAbs_int, hSeq_lst, hSeq_tup, hIn_lst, hIn_tup, hEq_eq, hI0_int, hI_int, ng_f, ng_t, atI_0, atI_1, atI_2, ofString_inj, eqv_str, eqv_txt, eqv_int, eqv_bl, eqv_tup, eqv_lst, eqOk_str, eqOk_int, eqOk_bl, eqOk_txt, decide_eq_true_eq, Nat.zero_lt_succ, exists_and_left, List.take_succ_cons, List.take_zero, List.drop_succ_cons, List.drop_zero, List.cons_append, List.nil_append, and_assoc, atI_map, Option.map_some, Nat.reduceAdd, Nat.reduceLT, Nat.reduceLeDiff, OT.toD_ow, List.map_cons, List.map_nil, D.mob.injEq, Mo.lst.injEq, Mem.put_same, Mem.put_put, ixN_30, ixN_32, ixN_10, exists_prop, fz_app, fz_inj, fz_snoc, OT.map_fz, List.length_map, List.length_append, List.append_nil, Nat.zero_add, cutL_1, items_tup, items_lst, items_scr, forD, compD, compS, comp2D, wipeE, D.isIn, List.any_cons, List.any_nil, String.reduceEq, D.plain, D.plains, D.dep, D.deps, Nat.max_self, Nat.min_self, Nat.zero_le, Nat.zero_min, Nat.min_zero, sizeLine_eq, forall_eq, exists_const, forall_const, kind_non, kind_bl, kind_int, kind_str, kind_lst, kind_tup, kind_dk, Kd.isa, reduceCtorEq, decide_false, decide_true, Bool.or_false, Bool.false_or, Bool.or_true, Bool.true_or, Bool.or_self, Bool.and_false, Bool.false_and, Bool.true_and, Bool.and_true, Bool.and_self, and_self, false_or, or_false, false_and, and_false, reduceIte, Bool.false_eq_true, Bool.not_eq_true, Bool.not_true, Bool.not_false, pD_len]
      (try simp only [seqS_M, startE_cons, startE_nil, List.length_cons, List.length_nil, List.length_replicate, List.length_set, List.replicate_succ, List.replicate_zero, List.getElem?_cons_zero, List.getElem?_cons_succ, List.set_cons_zero, List.set_cons_succ, Option.some.injEq, OT.fz.injEq, OT.ow.injEq, D.int.injEq, D.str.injEq, D.bl.injEq, D.tup.injEq, D.lst.injEq, List.cons.injEq, exists_eq_left', exists_eq_left, exists_eq_right, and_true, true_and, OT.toD_fz, toD_map_fz, hIx_tup, hIx_lst, hIx_scr, hIx_mob, hIx_str, hIxT_fz, hIxT_ow, hAdd_int, hAdd_str, hAdd_tup, hAdd_lst, hMul_int, hMul_lst, hSl_tup, hSl_lst, hSl_str, hLen_lst, hLen_tup, hLen_scr, hLen_str, hLen_mob, hInt_int, hInt_bl, hAbs_int, hSeq_lst, hSeq_tup, hIn_lst, hIn_tup, hEq_eq, hI0_int, hI_int, ng_f, ng_t, atI_0, atI_1, atI_2, ofString_inj, eqv_str, eqv_txt, eqv_int, eqv_bl, eqv_tup, eqv_lst, eqOk_str, eqOk_int, eqOk_bl, eqOk_txt, decide_eq_true_eq, Nat.zero_lt_succ, exists_and_left, List.take_succ_cons, List.take_zero, List.drop_succ_cons, List.drop_zero, List.cons_append, List.nil_append, and_assoc, atI_map, Option.map_some, Nat.reduceAdd, Nat.reduceLT, Nat.reduceLeDiff, OT.toD_ow, List.map_cons, List.map_nil, D.mob.injEq, Mo.lst.injEq, Mem.put_same, Mem.put_put, ixN_30, ixN_32, ixN_10, exists_prop, fz_app, fz_inj, fz_snoc, OT.map_fz, List.length_map, List.length_append, List.append_nil, Nat.zero_add, cutL_1, items_tup, items_lst, items_scr, forD, compD, compS, comp2D, wipeE, D.isIn, List.any_cons, List.any_nil, String.reduceEq, D.plain, D.plains, D.dep, D.deps, Nat.max_self, Nat.min_self, Nat.zero_le, Nat.zero_min, Nat.min_zero, sizeLine_eq, forall_eq, exists_const, forall_const, kind_non, kind_bl, kind_int, kind_str, kind_lst, kind_tup, kind_dk, Kd.isa, reduceCtorEq, decide_false, decide_true, Bool.or_false, Bool.false_or, Bool.or_true, Bool.true_or, Bool.or_self, Bool.and_false, Bool.false_and, Bool.true_and, Bool.and_true, Bool.and_self, and_self, false_or, or_false, false_and, and_false, reduceIte, Bool.false_eq_true, Bool.not_eq_true, Bool.not_true, Bool.not_false, Bd.toD, spParts, DSpec.pure, pD_len]); repeat (first | (refine seq_in ?_; simp only [seqS_M, startE_cons, startE_nil, List.length_cons, List.length_nil, List.length_replicate, List.length_set, List.replicate_succ, List.replicate_zero, List.getElem?_cons_zero, List.getElem?_cons_succ, List.set_cons_zero, List.set_cons_succ, Option.some.injEq, OT.fz.injEq, OT.ow.injEq, D.int.injEq, D.str.injEq, D.bl.injEq, D.tup.injEq, D.lst.injEq, List.cons.injEq, exists_eq_left', exists_eq_left, exists_eq_right, and_true, true_and, OT.toD_fz, toD_map_fz, hIx_tup, hIx_lst, hIx_scr, hIx_mob, hIx_str, hIxT_fz, hIxT_ow, hAdd_int, hAdd_str, hAdd_tup, hAdd_lst, hMul_int, hMul_lst, hSl_tup, hSl_lst, hSl_str, hLen_lst, hLen_tup, hLen_scr, hLen_str, hLen_mob, hInt_int, hInt_bl, hAbs_int, hSeq_lst, hSeq_tup, hIn_lst, hIn_tup, hEq_eq, hI0_int, hI_int, ng_f, ng_t, atI_0, atI_1, atI_2, ofString_inj, eqv_str, eqv_txt, eqv_int, eqv_bl, eqv_tup, eqv_lst, eqOk_str, eqOk_int, eqOk_bl, eqOk_txt, decide_eq_true_eq, Nat.zero_lt_succ, exists_and_left, List.take_succ_cons, List.take_zero, List.drop_succ_cons, List.drop_zero, List.cons_append, List.nil_append, and_assoc, atI_map, Option.map_some, Nat.reduceAdd, Nat.reduceLT, Nat.reduceLeDiff, OT.toD_ow, List.map_cons, List.map_nil, D.mob.injEq, Mo.lst.injEq, Mem.put_same, Mem.put_put, ixN_30, ixN_32, ixN_10, exists_prop, fz_app, fz_inj, fz_snoc, OT.map_fz, List.length_map, List.length_append, List.append_nil, Nat.zero_add, cutL_1, items_tup, items_lst, items_scr, forD, compD, compS, comp2D, wipeE, D.isIn, List.any_cons, List.any_nil, String.reduceEq, D.plain, D.plains, D.dep, D.deps, Nat.max_self, Nat.min_self, Nat.zero_le, Nat.zero_min, Nat.min_zero, sizeLine_eq, forall_eq, exists_const, forall_const, kind_non, kind_bl, kind_int, kind_str, kind_lst, kind_tup, kind_dk, Kd.isa, reduceCtorEq, decide_false, decide_true, Bool.or_false, Bool.false_or, Bool.or_true, Bool.true_or, Bool.or_self, Bool.and_false, Bool.false_and, Bool.true_and, Bool.and_true, Bool.and_self, and_self, false_or, or_false, false_and, and_false, reduceIte, Bool.false_eq_true, Bool.not_eq_true, Bool.not_true, Bool.not_false, Bd.toD, spParts, DSpec.pure, pD_len]) | refine And.intro (by first | assumption | omega | decide) ?_ | omega | assumption)
    | ah b =>
      simp only [Bd.hgt] at hd hd2
      have s1 := parts_small (b := b) (by omega)
      (try simp only [seqS_M, startE_cons, startE_nil, List.length_cons, List.length_nil, List.length_replicate, List.length_set, List.replicate_succ, List.replicate_zero, List.getElem?_cons_zero, List.getElem?_cons_succ, List.set_cons_zero, List.set_cons_succ, Option.some.injEq, OT.fz.injEq, OT.ow.injEq, D.int.injEq, D.str.injEq, D.bl.injEq, D.tup.injEq, D.lst.injEq, List.cons.injEq, exists_eq_left', exists_eq_left, exists_eq_right, and_true, true_and, OT.toD_fz, toD_map_fz, hIx_tup, hIx_lst, hIx_scr, hIx_mob, hIx_str, hIxT_fz, hIxT_ow, hAdd_int, hAdd_str, hAdd_tup, hAdd_lst, hMul_int, hMul_lst, hSl_tup, hSl_lst, hSl_str, hLen_lst, hLen_tup, hLen_scr, hLen_str, hLen_mob, hInt_int, hInt_bl, hAbs_int, hSeq_lst, hSeq_tup, hIn_lst, hIn_tup, hEq_eq, hI0_int, hI_int, ng_f, ng_t, atI_0, atI_1, atI_2, ofString_inj, eqv_str, eqv_txt, eqv_int, eqv_bl, eqv_tup, eqv_lst, eqOk_str, eqOk_int, eqOk_bl, eqOk_txt, decide_eq_true_eq, Nat.zero_lt_succ, exists_and_left, List.take_succ_cons, List.take_zero, List.drop_succ_cons, List.drop_zero, List.cons_append, List.nil_append, and_assoc, atI_map, Option.map_some, Nat.reduceAdd, Nat.reduceLT, Nat.reduceLeDiff, OT.toD_ow, List.map_cons, List.map_nil, D.mob.injEq, Mo.lst.injEq, Mem.put_same, Mem.put_put, ixN_30, ixN_32, ixN_10, exists_prop, fz_app, fz_inj, fz_snoc, OT.map_fz, List.length_map, List.length_append, List.append_nil, Nat.zero_add, cutL_1, items_tup, items_lst, items_scr, forD, compD, compS, comp2D, wipeE, D.isIn, List.any_cons, List.any_nil, String.reduceEq, D.plain, D.plains, D.dep, D.deps, Nat.max_self, Nat.min_self, Nat.zero_le, Nat.zero_min, Nat.min_zero, sizeLine_eq, forall_eq, exists_const, forall_const, kind_non, kind_bl, kind_int, kind_str, kind_lst, kind_tup, kind_dk, Kd.isa, reduceCtorEq, decide_false, decide_true, Bool.or_false, Bool.false_or, Bool.or_true, Bool.true_or, Bool.or_self, Bool.and_false, Bool.false_and, Bool.true_and, Bool.and_true, Bool.and_self, and_self, false_or, or_false, false_and, and_false, reduceIte, Bool.false_eq_true, Bool.not_eq_true, Bool.not_true, Bool.not_false, Bd.toD, spParts, DSpec.pure, kind_bd, bd_inj, pD_has, pD_alike, pD_nt, pD_an, pD_or, pD_ah, pD_ev, pD_si, pD_len]); repeat (first | (refine seq_in ?_; simp only [seqS_M, startE_cons, startE_nil, List.length_cons, List.length_nil, List.length_replicate, List.length_set, List.replicate_succ, List.replicate_zero, List.getElem?_cons_zero, List.getElem?_cons_succ, List.set_cons_zero, List.set_cons_succ, Option.some.injEq, OT.fz.injEq, OT.ow.injEq, D.int.injEq, D.str.injEq, D.bl.injEq, D.tup.injEq, D.lst.injEq, List.cons.injEq, exists_eq_left', exists_eq_left, exists_eq_right, and_true, true_and, OT.toD_fz, toD_map_fz, hIx_tup, hIx_lst, hIx_scr, hIx_mob, hIx_str, hIxT_fz, hIxT_ow, hAdd_int, hAdd_str, hAdd_tup, hAdd_lst, hMul_int, hMul_lst, hSl_tup, hSl_lst, hSl_str, hLen_lst, hLen_tup, hLen_scr, hLen_str, hLen_mob, hInt_int, hInt_bl, hAbs_int, hSeq_lst, hSeq_tup, hIn_lst, hIn_tup, hEq_eq, hI0_int, hI_int, ng_f, ng_t, atI_0, atI_1, atI_2, ofString_inj, eqv_str, eqv_txt, eqv_int, eqv_bl, eqv_tup, eqv_lst, eqOk_str, eqOk_int, eqOk_bl, eqOk_txt, decide_eq_true_eq, Nat.zero_lt_succ, exists_and_left, List.take_succ_cons, List.take_zero, List.drop_succ_cons, List.drop_zero, List.cons_append, List.nil_append, and_assoc, atI_map, Option.map_some, Nat.reduceAdd, Nat.reduceLT, Nat.reduceLeDiff, OT.toD_ow, List.map_cons, List.map_nil, D.mob.injEq, Mo.lst.injEq, Mem.put_same, Mem.put_put, ixN_30, ixN_32, ixN_10, exists_prop, fz_app, fz_inj, fz_snoc, OT.map_fz, List.length_map, List.length_append, List.append_nil, Nat.zero_add, cutL_1, items_tup, items_lst, items_scr, forD, compD, compS, comp2D, wipeE, D.isIn, List.any_cons, List.any_nil, String.reduceEq, D.plain, D.plains, D.dep, D.deps, Nat.max_self, Nat.min_self, Nat.zero_le, Nat.zero_min, Nat.min_zero, sizeLine_eq, forall_eq, exists_const, forall_const, kind_non, kind_bl, kind_int, kind_str, kind_lst, kind_tup, kind_dk, Kd.isa, reduceCtorEq, decide_false, decide_true, Bool.or_false, Bool.false_or, Bool.or_true, Bool.true_or, Bool.or_self, Bool.and_false, Bool.false_and, Bool.true_and, Bool.and_true, Bool.and_self, and_self, false_or, or_false, false_and, and_false, reduceIte, Bool.false_eq_true, Bool.not_eq_true, Bool.not_true, Bool.not_false, Bd.toD, spParts, DSpec.pure, kind_bd, bd_inj, pD_has, pD_alike, pD_nt, pD_an, pD_or, pD_ah, pD_ev, pD_si, pD_len]) | refine And.intro (by first | assumption | omega | decide) ?_ | omega | assumption)
      refine compS_id (by simp) (by rw [pD_len]; show 0 + _ ≤ _; omega) ?_
      simp only [seqS_M, startE_cons, startE_nil, List.length_cons, List.length_nil, List.length_replicate, List.length_set, List.replicate_succ, List.replicate_zero, List.getElem?_cons_zero, List.getElem?_cons_succ, List.set_cons_zero, List.set_cons_succ, Option.some.injEq, OT.fz.injEq, OT.ow.injEq, D.int.injEq, D.str.injEq, D.bl.injEq, D.tup.injEq, D.lst.injEq, List.cons.injEq, exists_eq_left', exists_eq_left, exists_eq_right, and_true, true_and, OT.toD_fz, toD_map_fz, hIx_tup, hIx_lst, hIx_scr, hIx_mob, hIx_str, hIxT_fz, hIxT_ow, hAdd_int, hAdd_str, hAdd_tup, hAdd_lst, hMul_int, hMul_lst, hSl_tup, hSl_lst, hSl_str, hLen_lst, hLen_tup, hLen_scr, hLen_str, hLen_mob, hInt_int, hInt_bl, hAbs_int, hSeq_lst, hSeq_tup, hIn_lst, hIn_tup, hEq_eq, hI0_int, hI_int, ng_f, ng_t, atI_0, atI_1, atI_2, ofString_inj, eqv_str, eqv_txt, eqv_int, eqv_bl, eqv_tup, eqv_lst, eqOk_str, eqOk_int, eqOk_bl, eqOk_txt, decide_eq_true_eq, Nat.zero_lt_succ, exists_and_left, List.take_succ_cons, List.take_zero, List.drop_succ_cons, List.drop_zero, List.cons_append, List.nil_append, and_assoc, atI_map, Option.map_some, Nat.reduceAdd, Nat.reduceLT, Nat.reduceLeDiff, OT.toD_ow, List.map_cons, List.map_nil, D.mob.injEq, Mo.lst.injEq, Mem.put_same, Mem.put_put, ixN_30, ixN_32, ixN_10, exists_prop, fz_app, fz_inj, fz_snoc, OT.map_fz, List.length_map, List.length_append, List.append_nil, Nat.zero_add, cutL_1, items_tup, items_lst, items_scr, forD, compD, compS, comp2D, wipeE, D.isIn, List.any_cons, List.any_nil, String.reduceEq, D.plain, D.plains, D.dep, D.deps, Nat.max_self, Nat.min_self, Nat.zero_le, Nat.zero_min, Nat.min_zero, sizeLine_eq, forall_eq, exists_const, forall_const, kind_non, kind_bl, kind_int, kind_str, kind_lst, kind_tup, kind_dk, Kd.isa, reduceCtorEq, decide_false, decide_true, Bool.or_false, Bool.false_or, Bool.or_true, Bool.true_or, Bool.or_self, Bool.and_false, Bool.false_and, Bool.true_and, Bool.and_true, Bool.and_self, and_self, false_or, or_false, false_and, and_false, reduceIte, Bool.false_eq_true, Bool.not_eq_true, Bool.not_true, Bool.not_false, pD_len]
      (try simp only [seqS_M, startE_cons, startE_nil, List.length_cons, List.length_nil, List.length_replicate, List.length_set, List.replicate_succ, List.replicate_zero, List.getElem?_cons_zero, List.getElem?_cons_succ, List.set_cons_zero, List.set_cons_succ, Option.some.injEq, OT.fz.injEq, OT.ow.injEq, D.int.injEq, D.str.injEq, D.bl.injEq, D.tup.injEq, D.lst.injEq, List.cons.injEq, exists_eq_left', exists_eq_left, exists_eq_right, and_true, true_and, OT.toD_fz, toD_map_fz, hIx_tup, hIx_lst, hIx_scr, hIx_mob, hIx_str, hIxT_fz, hIxT_ow, hAdd_int, hAdd_str, hAdd_tup, hAdd_lst, hMul_int, hMul_lst, hSl_tup, hSl_lst, hSl_str, hLen_lst, hLen_tup, hLen_scr, hLen_str, hLen_mob, hInt_int, hInt_bl, hAbs_int, hSeq_lst, hSeq_tup, hIn_lst, hIn_tup, hEq_eq, hI0_int, hI_int, ng_f, ng_t, atI_0, atI_1, atI_2, ofString_inj, eqv_str, eqv_txt, eqv_int, eqv_bl, eqv_tup, eqv_lst, eqOk_str, eqOk_int, eqOk_bl, eqOk_txt, decide_eq_true_eq, Nat.zero_lt_succ, exists_and_left, List.take_succ_cons, List.take_zero, List.drop_succ_cons, List.drop_zero, List.cons_append, List.nil_append, and_assoc, atI_map, Option.map_some, Nat.reduceAdd, Nat.reduceLT, Nat.reduceLeDiff, OT.toD_ow, List.map_cons, List.map_nil, D.mob.injEq, Mo.lst.injEq, Mem.put_same, Mem.put_put, ixN_30, ixN_32, ixN_10, exists_prop, fz_app, fz_inj, fz_snoc, OT.map_fz, List.length_map, List.length_append, List.append_nil, Nat.zero_add, cutL_1, items_tup, items_lst, items_scr, forD, compD, compS, comp2D, wipeE, D.isIn, List.any_cons, List.any_nil, String.reduceEq, D.plain, D.plains, D.dep, D.deps, Nat.max_self, Nat.min_self, Nat.zero_le, Nat.zero_min, Nat.min_zero, sizeLine_eq, forall_eq, exists_const, forall_const, kind_non, kind_bl, kind_int, kind_str, kind_lst, kind_tup, kind_dk, Kd.isa, reduceCtorEq, decide_false, decide_true, Bool.or_false, Bool.false_or, Bool.or_true, Bool.true_or, Bool.or_self, Bool.and_false, Bool.false_and, Bool.true_and, Bool.and_true, Bool.and_self, and_self, false_or, or_false, false_and, and_false, reduceIte, Bool.false_eq_true, Bool.not_eq_true, Bool.not_true, Bool.not_false, Bd.toD, spParts, DSpec.pure, pD_len]); repeat (first | (refine seq_in ?_; simp only [seqS_M, startE_cons, startE_nil, List.length_cons, List.length_nil, List.length_replicate, List.length_set, List.replicate_succ, List.replicate_zero, List.getElem?_cons_zero, List.getElem?_cons_succ, List.set_cons_zero, List.set_cons_succ, Option.some.injEq, OT.fz.injEq, OT.ow.injEq, D.int.injEq, D.str.injEq, D.bl.injEq, D.tup.injEq, D.lst.injEq, List.cons.injEq, exists_eq_left', exists_eq_left, exists_eq_right, and_true, true_and, OT.toD_fz, toD_map_fz, hIx_tup, hIx_lst, hIx_scr, hIx_mob, hIx_str, hIxT_fz, hIxT_ow, hAdd_int, hAdd_str, hAdd_tup, hAdd_lst, hMul_int, hMul_lst, hSl_tup, hSl_lst, hSl_str, hLen_lst, hLen_tup, hLen_scr, hLen_str, hLen_mob, hInt_int, hInt_bl, hAbs_int, hSeq_lst, hSeq_tup, hIn_lst, hIn_tup, hEq_eq, hI0_int, hI_int, ng_f, ng_t, atI_0, atI_1, atI_2, ofString_inj, eqv_str, eqv_txt, eqv_int, eqv_bl, eqv_tup, eqv_lst, eqOk_str, eqOk_int, eqOk_bl, eqOk_txt, decide_eq_true_eq, Nat.zero_lt_succ, exists_and_left, List.take_succ_cons, List.take_zero, List.drop_succ_cons, List.drop_zero, List.cons_append, List.nil_append, and_assoc, atI_map, Option.map_some, Nat.reduceAdd, Nat.reduceLT, Nat.reduceLeDiff, OT.toD_ow, List.map_cons, List.map_nil, D.mob.injEq, Mo.lst.injEq, Mem.put_same, Mem.put_put, ixN_30, ixN_32, ixN_10, exists_prop, fz_app, fz_inj, fz_snoc, OT.map_fz, List.length_map, List.length_append, List.append_nil, Nat.zero_add, cutL_1, items_tup, items_lst, items_scr, forD, compD, compS, comp2D, wipeE, D.isIn, List.any_cons, List.any_nil, String.reduceEq, D.plain, D.plains, D.dep, D.deps, Nat.max_self, Nat.min_self, Nat.zero_le, Nat.zero_min, Nat.min_zero, sizeLine_eq, forall_eq, exists_const, forall_const, kind_non, kind_bl, kind_int, kind_str, kind_lst, kind_tup, kind_dk, Kd.isa, reduceCtorEq, decide_false, decide_true, Bool.or_false, Bool.false_or, Bool.or_true, Bool.true_or, Bool.or_self, Bool.and_false, Bool.false_and, Bool.true_and, Bool.and_true, Bool.and_self, and_self, false_or, or_false, false_and, and_false, reduceIte, Bool.false_eq_true, Bool.not_eq_true, Bool.not_true, Bool.not_false, Bd.toD, spParts, DSpec.pure, pD_len]) | refine And.intro (by first | assumption | omega | decide) ?_ | omega | assumption)
    | ev b =>
      simp only [Bd.hgt] at hd hd2
      have s1 := parts_small (b := b) (by omega)
      (try simp only [seqS_M, startE_cons, startE_nil, List.length_cons, List.length_nil, List.length_replicate, List.length_set, List.replicate_succ, List.replicate_zero, List.getElem?_cons_zero, List.getElem?_cons_succ, List.set_cons_zero, List.set_cons_succ, Option.some.injEq, OT.fz.injEq, OT.ow.injEq, D.int.injEq, D.str.injEq, D.bl.injEq, D.tup.injEq, D.lst.injEq, List.cons.injEq, exists_eq_left', exists_eq_left, exists_eq_right, and_true, true_and, OT.toD_fz, toD_map_fz, hIx_tup, hIx_lst, hIx_scr, hIx_mob, hIx_str, hIxT_fz, hIxT_ow, hAdd_int, hAdd_str, hAdd_tup, hAdd_lst, hMul_int, hMul_lst, hSl_tup, hSl_lst, hSl_str, hLen_lst, hLen_tup, hLen_scr, hLen_str, hLen_mob, hInt_int, hInt_bl, hAbs_int, hSeq_lst, hSeq_tup, hIn_lst, hIn_tup, hEq_eq, hI0_int, hI_int, ng_f, ng_t, atI_0, atI_1, atI_2, ofString_inj, eqv_str, eqv_txt, eqv_int, eqv_bl, eqv_tup, eqv_lst, eqOk_str, eqOk_int, eqOk_bl, eqOk_txt, decide_eq_true_eq, Nat.zero_lt_succ, exists_and_left, List.take_succ_cons, List.take_zero, List.drop_succ_cons, List.drop_zero, List.cons_append, List.nil_append, and_assoc, atI_map, Option.map_some, Nat.reduceAdd, Nat.reduceLT, Nat.reduceLeDiff, OT.toD_ow, List.map_cons, List.map_nil, D.mob.injEq, Mo.lst.injEq, Mem.put_same, Mem.put_put, ixN_30, ixN_32, ixN_10, exists_prop, fz_app, fz_inj, fz_snoc, OT.map_fz, List.length_map, List.length_append, List.append_nil, Nat.zero_add, cutL_1, items_tup, items_lst, items_scr, forD, compD, compS, comp2D, wipeE, D.isIn, List.any_cons, List.any_nil, String.reduceEq, D.plain, D.plains, D.dep, D.deps, Nat.max_self, Nat.min_self, Nat.zero_le, Nat.zero_min, Nat.min_zero, sizeLine_eq, forall_eq, exists_const, forall_const, kind_non, kind_bl, kind_int, kind_str, kind_lst, kind_tup, kind_dk, Kd.isa, reduceCtorEq, decide_false, decide_true, Bool.or_false, Bool.false_or, Bool.or_true, Bool.true_or, Bool.or_self, Bool.and_false, Bool.false_and, Bool.true_and, Bool.and_true, Bool.and_self, and_self, false_or, or_false, false_and, and_false, reduceIte, Bool.false_eq_true, Bool.not_eq_true, Bool.not_true, Bool.not_false, Bd.toD, spParts, DSpec.pure, kind_bd, bd_inj, pD_has, pD_alike, pD_nt, pD_an, pD_or, pD_ah, pD_ev, pD_si, pD_len]); repeat (first | (refine seq_in ?_; simp only [seqS_M, startE_cons, startE_nil, List.length_cons, List.length_nil, List.length_replicate, List.length_set, List.replicate_succ, List.replicate_zero, List.getElem?_cons_zero, List.getElem?_cons_succ, List.set_cons_zero, List.set_cons_succ, Option.some.injEq, OT.fz.injEq, OT.ow.injEq, D.int.injEq, D.str.injEq, D.bl.injEq, D.tup.injEq, D.lst.injEq, List.cons.injEq, exists_eq_left', exists_eq_left, exists_eq_right, and_true, true_and, OT.toD_fz, toD_map_fz, hIx_tup, hIx_lst, hIx_scr, hIx_mob, hIx_str, hIxT_fz, hIxT_ow, hAdd_int, hAdd_str, hAdd_tup, hAdd_lst, hMul_int, hMul_lst, hSl_tup, hSl_lst, hSl_str, hLen_lst, hLen_tup, hLen_scr, hLen_str, hLen_mob, hInt_int, hInt_bl, hAbs_int, hSeq_lst, hSeq_tup, hIn_lst, hIn_tup, hEq_eq, hI0_int, hI_int, ng_f, ng_t, atI_0, atI_1, atI_2, ofString_inj, eqv_str, eqv_txt, eqv_int, eqv_bl, eqv_tup, eqv_lst, eqOk_str, eqOk_int, eqOk_bl, eqOk_txt, decide_eq_true_eq, Nat.zero_lt_succ, exists_and_left, List.take_succ_cons, List.take_zero, List.drop_succ_cons, List.drop_zero, List.cons_append, List.nil_append, and_assoc, atI_map, Option.map_some, Nat.reduceAdd, Nat.reduceLT, Nat.reduceLeDiff, OT.toD_ow, List.map_cons, List.map_nil, D.mob.injEq, Mo.lst.injEq, Mem.put_same, Mem.put_put, ixN_30, ixN_32, ixN_10, exists_prop, fz_app, fz_inj, fz_snoc, OT.map_fz, List.length_map, List.length_append, List.append_nil, Nat.zero_add, cutL_1, items_tup, items_lst, items_scr, forD, compD, compS, comp2D, wipeE, D.isIn, List.any_cons, List.any_nil, String.reduceEq, D.plain, D.plains, D.dep, D.deps, Nat.max_self, Nat.min_self, Nat.zero_le, Nat.zero_min, Nat.min_zero, sizeLine_eq, forall_eq, exists_const, forall_const, kind_non, kind_bl, kind_int, kind_str, kind_lst, kind_tup, kind_dk, Kd.isa, reduceCtorEq, decide_false, decide_true, Bool.or_false, Bool.false_or, Bool.or_true, Bool.true_or, Bool.or_self, Bool.and_false, Bool.false_and, Bool.true_and, Bool.and_true, Bool.and_self, and_self, false_or, or_false, false_and, and_false, reduceIte, Bool.false_eq_true, Bool.not_eq_true, Bool.not_true, Bool.not_false, Bd.toD, spParts, DSpec.pure, kind_bd, bd_inj, pD_has, pD_alike, pD_nt, pD_an, pD_or, pD_ah, pD_ev, pD_si, pD_len]) | refine And.intro (by first | assumption | omega | decide) ?_ | omega | assumption)
      refine compS_id (by simp) (by rw [pD_len]; show 0 + _ ≤ _; omega) ?_
      simp only [seqS_M, startE_cons, startE_nil, List.length_cons, List.length_nil, List.length_replicate, List.length_set, List.replicate_succ, List.replicate_zero, List.getElem?_cons_zero, List.getElem?_cons_succ, List.set_cons_zero, List.set_cons_succ, Option.some.injEq, OT.fz.injEq, OT.ow.injEq, D.int.injEq, D.str.injEq, D.bl.injEq, D.tup.injEq, D.lst.injEq, List.cons.injEq, exists_eq_left', exists_eq_left, exists_eq_right, and_true, true_and, OT.toD_fz, toD_map_fz, hIx_tup, hIx_lst, hIx_scr, hIx_mob, hIx_str, hIxT_fz, hIxT_ow, hAdd_int, hAdd_str, hAdd_tup, hAdd_lst, hMul_int, hMul_lst, hSl_tup, hSl_lst, hSl_str, hLen_lst, hLen_tup, hLen_scr, hLen_str, hLen_mob, hInt_int, hInt_bl, hAbs_int, hSeq_lst, hSeq_tup, hIn_lst, hIn_tup, hEq_eq, hI0_int, hI_int, ng_f, ng_t, atI_0, atI_1, atI_2, ofString_inj, eqv_str, eqv_txt, eqv_int, eqv_bl, eqv_tup, eqv_lst, eqOk_str, eqOk_int, eqOk_bl, eqOk_txt, decide_eq_true_eq, Nat.zero_lt_succ, exists_and_left, List.take_succ_cons, List.take_zero, List.drop_succ_cons, List.drop_zero, List.cons_append, List.nil_append, and_assoc, atI_map, Option.map_some, Nat.reduceAdd, Nat.reduceLT, Nat.reduceLeDiff, OT.toD_ow, List.map_cons, List.map_nil, D.mob.injEq, Mo.lst.injEq, Mem.put_same, Mem.put_put, ixN_30, ixN_32, ixN_10, exists_prop, fz_app, fz_inj, fz_snoc, OT.map_fz, List.length_map, List.length_append, List.append_nil, Nat.zero_add, cutL_1, items_tup, items_lst, items_scr, forD, compD, compS, comp2D, wipeE, D.isIn, List.any_cons, List.any_nil, String.reduceEq, D.plain, D.plains, D.dep, D.deps, Nat.max_self, Nat.min_self, Nat.zero_le, Nat.zero_min, Nat.min_zero, sizeLine_eq, forall_eq, exists_const, forall_const, kind_non, kind_bl, kind_int, kind_str, kind_lst, kind_tup, kind_dk, Kd.isa, reduceCtorEq, decide_false, decide_true, Bool.or_false, Bool.false_or, Bool.or_true, Bool.true_or, Bool.or_self, Bool.and_false, Bool.false_and, Bool.true_and, Bool.and_true, Bool.and_self, and_self, false_or, or_false, false_and, and_false, reduceIte, Bool.false_eq_true, Bool.not_eq_true, Bool.not_true, Bool.not_false, pD_len]
      (try simp only [seqS_M, startE_cons, startE_nil, List.length_cons, List.length_nil, List.length_replicate, List.length_set, List.replicate_succ, List.replicate_zero, List.getElem?_cons_zero, List.getElem?_cons_succ, List.set_cons_zero, List.set_cons_succ, Option.some.injEq, OT.fz.injEq, OT.ow.injEq, D.int.injEq, D.str.injEq, D.bl.injEq, D.tup.injEq, D.lst.injEq, List.cons.injEq, exists_eq_left', exists_eq_left, exists_eq_right, and_true, true_and, OT.toD_fz, toD_map_fz, hIx_tup, hIx_lst, hIx_scr, hIx_mob, hIx_str, hIxT_fz, hIxT_ow, hAdd_int, hAdd_str, hAdd_tup, hAdd_lst, hMul_int, hMul_lst, hSl_tup, hSl_lst, hSl_str, hLen_lst, hLen_tup, hLen_scr, hLen_str, hLen_mob, hInt_int, hInt_bl, hAbs_int, hSeq_lst, hSeq_tup, hIn_lst, hIn_tup, hEq_eq, hI0_int, hI_int, ng_f, ng_t, atI_0, atI_1, atI_2, ofString_inj, eqv_str, eqv_txt, eqv_int, eqv_bl, eqv_tup, eqv_lst, eqOk_str, eqOk_int, eqOk_bl, eqOk_txt, decide_eq_true_eq, Nat.zero_lt_succ, exists_and_left, List.take_succ_cons, List.take_zero, List.drop_succ_cons, List.drop_zero, List.cons_append, List.nil_append, and_assoc, atI_map, Option.map_some, Nat.reduceAdd, Nat.reduceLT, Nat.reduceLeDiff, OT.toD_ow, List.map_cons, List.map_nil, D.mob.injEq, Mo.lst.injEq, Mem.put_same, Mem.put_put, ixN_30, ixN_32, ixN_10, exists_prop, fz_app, fz_inj, fz_snoc, OT.map_fz, List.length_map, List.length_append, List.append_nil, Nat.zero_add, cutL_1, items_tup, items_lst, items_scr, forD, compD, compS, comp2D, wipeE, D.isIn, List.any_cons, List.any_nil, String.reduceEq, D.plain, D.plains, D.dep, D.deps, Nat.max_self, Nat.min_self, Nat.zero_le, Nat.zero_min, Nat.min_zero, sizeLine_eq, forall_eq, exists_const, forall_const, kind_non, kind_bl, kind_int, kind_str, kind_lst, kind_tup, kind_dk, Kd.isa, reduceCtorEq, decide_false, decide_true, Bool.or_false, Bool.false_or, Bool.or_true, Bool.true_or, Bool.or_self, Bool.and_false, Bool.false_and, Bool.true_and, Bool.and_true, Bool.and_self, and_self, false_or, or_false, false_and, and_false, reduceIte, Bool.false_eq_true, Bool.not_eq_true, Bool.not_true, Bool.not_false, Bd.toD, spParts, DSpec.pure, pD_len]); repeat (first | (refine seq_in ?_; simp only [seqS_M, startE_cons, startE_nil, List.length_cons, List.length_nil, List.length_replicate, List.length_set, List.replicate_succ, List.replicate_zero, List.getElem?_cons_zero, List.getElem?_cons_succ, List.set_cons_zero, List.set_cons_succ, Option.some.injEq, OT.fz.injEq, OT.ow.injEq, D.int.injEq, D.str.injEq, D.bl.injEq, D.tup.injEq, D.lst.injEq, List.cons.injEq, exists_eq_left', exists_eq_left, exists_eq_right, and_true, true_and, OT.toD_fz, toD_map_fz, hIx_tup, hIx_lst, hIx_scr, hIx_mob, hIx_str, hIxT_fz, hIxT_ow, hAdd_int, hAdd_str, hAdd_tup, hAdd_lst, hMul_int, hMul_lst, hSl_tup, hSl_lst, hSl_str, hLen_lst, hLen_tup, hLen_scr, hLen_str, hLen_mob, hInt_int, hInt_bl, hAbs_int, hSeq_lst, hSeq_tup, hIn_lst, hIn_tup, hEq_eq, hI0_int, hI_int, ng_f, ng_t, atI_0, atI_1, atI_2, ofString_inj, eqv_str, eqv_txt, eqv_int, eqv_bl, eqv_tup, eqv_lst, eqOk_str, eqOk_int, eqOk_bl, eqOk_txt, decide_eq_true_eq, Nat.zero_lt_succ, exists_and_left, List.take_succ_cons, List.take_zero, List.drop_succ_cons, List.drop_zero, List.cons_append, List.nil_append, and_assoc, atI_map, Option.map_some, Nat.reduceAdd, Nat.reduceLT, Nat.reduceLeDiff, OT.toD_ow, List.map_cons, List.map_nil, D.mob.injEq, Mo.lst.injEq, Mem.put_same, Mem.put_put, ixN_30, ixN_32, ixN_10, exists_prop, fz_app, fz_inj, fz_snoc, OT.map_fz, List.length_map, List.length_append, List.append_nil, Nat.zero_add, cutL_1, items_tup, items_lst, items_scr, forD, compD, compS, comp2D, wipeE, D.isIn, List.any_cons, List.any_nil, String.reduceEq, D.plain, D.plains, D.dep, D.deps, Nat.max_self, Nat.min_self, Nat.zero_le, Nat.zero_min, Nat.min_zero, sizeLine_eq, forall_eq, exists_const, forall_const, kind_non, kind_bl, kind_int, kind_str, kind_lst, kind_tup, kind_dk, Kd.isa, reduceCtorEq, decide_false, decide_true, Bool.or_false, Bool.false_or, Bool.or_true, Bool.true_or, Bool.or_self, Bool.and_false, Bool.false_and, Bool.true_and, Bool.and_true, Bool.and_self, and_self, false_or, or_false, false_and, and_false, reduceIte, Bool.false_eq_true, Bool.not_eq_true, Bool.not_true, Bool.not_false, Bd.toD, spParts, DSpec.pure, pD_len]) | refine And.intro (by first | assumption | omega | decide) ?_ | omega | assumption)
    | an b c =>
      simp only [Bd.hgt] at hd hd2
      have s1 := parts_small (b := b) (by omega)
      have s2 := parts_small (b := c) (by omega)
      (try simp only [seqS_M, startE_cons, startE_nil, List.length_cons, List.length_nil, List.length_replicate, List.length_set, List.replicate_succ, List.replicate_zero, List.getElem?_cons_zero, List.getElem?_cons_succ, List.set_cons_zero, List.set_cons_succ, Option.some.injEq, OT.fz.injEq, OT.ow.injEq, D.int.injEq, D.str.injEq, D.bl.injEq, D.tup.injEq, D.lst.injEq, List.cons.injEq, exists_eq_left', exists_eq_left, exists_eq_right, and_true, true_and, OT.toD_fz, toD_map_fz, hIx_tup, hIx_lst, hIx_scr, hIx_mob, hIx_str, hIxT_fz, hIxT_ow, hAdd_int, hAdd_str, hAdd_tup, hAdd_lst, hMul_int, hMul_lst, hSl_tup, hSl_lst, hSl_str, hLen_lst, hLen_tup, hLen_scr, hLen_str, hLen_mob, hInt_int, hInt_bl, hAbs_int, hSeq_lst, hSeq_tup, hIn_lst, hIn_tup, hEq_eq, hI0_int, hI_int, ng_f, ng_t, atI_0, atI_1, atI_2, ofString_inj, eqv_str, eqv_txt, eqv_int, eqv_bl, eqv_tup, eqv_lst, eqOk_str, eqOk_int, eqOk_bl, eqOk_txt, decide_eq_true_eq, Nat.zero_lt_succ, exists_and_left, List.take_succ_cons, List.take_zero, List.drop_succ_cons, List.drop_zero, List.cons_append, List.nil_append, and_assoc, atI_map, Option.map_some, Nat.reduceAdd, Nat.reduceLT, Nat.reduceLeDiff, OT.toD_ow, List.map_cons, List.map_nil, D.mob.injEq, Mo.lst.injEq, Mem.put_same, Mem.put_put, ixN_30, ixN_32, ixN_10, exists_prop, fz_app, fz_inj, fz_snoc, OT.map_fz, List.length_map, List.length_append, List.append_nil, Nat.zero_add, cutL_1, items_tup, items_lst, items_scr, forD, compD, compS, comp2D, wipeE, D.isIn, List.any_cons, List.any_nil, String.reduceEq, D.plain, D.plains, D.dep, D.deps, Nat.max_self, Nat.min_self, Nat.zero_le, Nat.zero_min, Nat.min_zero, sizeLine_eq, forall_eq, exists_const, forall_const, kind_non, kind_bl, kind_int, kind_str, kind_lst, kind_tup, kind_dk, Kd.isa, reduceCtorEq, decide_false, decide_true, Bool.or_false, Bool.false_or, Bool.or_true, Bool.true_or, Bool.or_self, Bool.and_false, Bool.false_and, Bool.true_and, Bool.and_true, Bool.and_self, and_self, false_or, or_false, false_and, and_false, reduceIte, Bool.false_eq_true, Bool.not_eq_true, Bool.not_true, Bool.not_false, Bd.toD, spParts, DSpec.pure, kind_bd, bd_inj, pD_has, pD_alike, pD_nt, pD_an, pD_or, pD_ah, pD_ev, pD_si, pD_len]); repeat (first | (refine seq_in ?_; simp only [seqS_M, startE_cons, startE_nil, List.length_cons, List.length_nil, List.length_replicate, List.length_set, List.replicate_succ, List.replicate_zero, List.getElem?_cons_zero, List.getElem?_cons_succ, List.set_cons_zero, List.set_cons_succ, Option.some.injEq, OT.fz.injEq, OT.ow.injEq, D.int.injEq, D.str.injEq, D.bl.injEq, D.tup.injEq, D.lst.injEq, List.cons.injEq, exists_eq_left', exists_eq_left, exists_eq_right, and_true, true_and, OT.toD_fz, toD_map_fz, hIx_tup, hIx_lst, hIx_scr, hIx_mob, hIx_str, hIxT_fz, hIxT_ow, hAdd_int, hAdd_str, hAdd_tup, hAdd_lst, hMul_int, hMul_lst, hSl_tup, hSl_lst, hSl_str, hLen_lst, hLen_tup, hLen_scr, hLen_str, hLen_mob, hInt_int, hInt_bl, hAbs_int, hSeq_lst, hSeq_tup, hIn_lst, hIn_tup, hEq_eq, hI0_int, hI_int, ng_f, ng_t, atI_0, atI_1, atI_2, ofString_inj, eqv_str, eqv_txt, eqv_int, eqv_bl, eqv_tup, eqv_lst, eqOk_str, eqOk_int, eqOk_bl, eqOk_txt, decide_eq_true_eq, Nat.zero_lt_succ, exists_and_left, List.take_succ_cons, List.take_zero, List.drop_succ_cons, List.drop_zero, List.cons_append, List.nil_append, and_assoc, atI_map, Option.map_some, Nat.reduceAdd, Nat.reduceLT, Nat.reduceLeDiff, OT.toD_ow, List.map_cons, List.map_nil, D.mob.injEq, Mo.lst.injEq, Mem.put_same, Mem.put_put, ixN_30, ixN_32, ixN_10, exists_prop, fz_app, fz_inj, fz_snoc, OT.map_fz, List.length_map, List.length_append, List.append_nil, Nat.zero_add, cutL_1, items_tup, items_lst, items_scr, forD, compD, compS, comp2D, wipeE, D.isIn, List.any_cons, List.any_nil, String.reduceEq, D.plain, D.plains, D.dep, D.deps, Nat.max_self, Nat.min_self, Nat.zero_le, Nat.zero_min, Nat.min_zero, sizeLine_eq, forall_eq, exists_const, forall_const, kind_non, kind_bl, kind_int, kind_str, kind_lst, kind_tup, kind_dk, Kd.isa, reduceCtorEq, decide_false, decide_true, Bool.or_false, Bool.false_or, Bool.or_true, Bool.true_or, Bool.or_self, Bool.and_false, Bool.false_and, Bool.true_and, Bool.and_true, Bool.and_self, and_self, false_or, or_false, false_and, and_false, reduceIte, Bool.false_eq_true, Bool.not_eq_true, Bool.not_true, Bool.not_false, Bd.toD, spParts, DSpec.pure, kind_bd, bd_inj, pD_has, pD_alike, pD_nt, pD_an, pD_or, pD_ah, pD_ev, pD_si, pD_len]) | refine And.intro (by first | assumption | omega | decide) ?_ | omega | assumption)
      refine compS_id (by simp) (by rw [pD_len]; show 0 + _ ≤ _; omega) ?_
      refine ⟨by omega, by omega, by omega, compS_id (by simp) (by rw [List.nil_append, List.length_map, pD_len, pD_len]; omega) ?_⟩
      simp only [seqS_M, startE_cons, startE_nil, List.length_cons, List.length_nil, List.length_replicate, List.length_set, List.replicate_succ, List.replicate_zero, List.getElem?_cons_zero, List.getElem?_cons_succ, List.set_cons_zero, List.set_cons_succ, Option.some.injEq, OT.fz.injEq, OT.ow.injEq, D.int.injEq, D.str.injEq, D.bl.injEq, D.tup.injEq, D.lst.injEq, List.cons.injEq, exists_eq_left', exists_eq_left, exists_eq_right, and_true, true_and, OT.toD_fz, toD_map_fz, hIx_tup, hIx_lst, hIx_scr, hIx_mob, hIx_str, hIxT_fz, hIxT_ow, hAdd_int, hAdd_str, hAdd_tup, hAdd_lst, hMul_int, hMul_lst, hSl_tup, hSl_lst, hSl_str, hLen_lst, hLen_tup, hLen_scr, hLen_str, hLen_mob, hInt_int, hInt_bl, hAbs_int, hSeq_lst, hSeq_tup, hIn_lst, hIn_tup, hEq_eq, hI0_int, hI_int, ng_f, ng_t, atI_0, atI_1, atI_2, ofString_inj, eqv_str, eqv_txt, eqv_int, eqv_bl, eqv_tup, eqv_lst, eqOk_str, eqOk_int, eqOk_bl, eqOk_txt, decide_eq_true_eq, Nat.zero_lt_succ, exists_and_left, List.take_succ_cons, List.take_zero, List.drop_succ_cons, List.drop_zero, List.cons_append, List.nil_append, and_assoc, atI_map, Option.map_some, Nat.reduceAdd, Nat.reduceLT, Nat.reduceLeDiff, OT.toD_ow, List.map_cons, List.map_nil, D.mob.injEq, Mo.lst.injEq, Mem.put_same, Mem.put_put, ixN_30, ixN_32, ixN_10, exists_prop, fz_app, fz_inj, fz_snoc, OT.map_fz, List.length_map, List.length_append, List.append_nil, Nat.zero_add, cutL_1, items_tup, items_lst, items_scr, forD, compD, compS, comp2D, wipeE, D.isIn, List.any_cons, List.any_nil, String.reduceEq, D.plain, D.plains, D.dep, D.deps, Nat.max_self, Nat.min_self, Nat.zero_le, Nat.zero_min, Nat.min_zero, sizeLine_eq, forall_eq, exists_const, forall_const, kind_non, kind_bl, kind_int, kind_str, kind_lst, kind_tup, kind_dk, Kd.isa, reduceCtorEq, decide_false, decide_true, Bool.or_false, Bool.false_or, Bool.or_true, Bool.true_or, Bool.or_self, Bool.and_false, Bool.false_and, Bool.true_and, Bool.and_true, Bool.and_self, and_self, false_or, or_false, false_and, and_false, reduceIte, Bool.false_eq_true, Bool.not_eq_true, Bool.not_true, Bool.not_false, pD_len]
      (try simp only [seqS_M, startE_cons, startE_nil, List.length_cons, List.length_nil, List.length_replicate, List.length_set, List.replicate_succ, List.replicate_zero, List.getElem?_cons_zero, List.getElem?_cons_succ, List.set_cons_zero, List.set_cons_succ, Option.some.injEq, OT.fz.injEq, OT.ow.injEq, D.int.injEq, D.str.injEq, D.bl.injEq, D.tup.injEq, D.lst.injEq, List.cons.injEq, exists_eq_left', exists_eq_left, exists_eq_right, and_true, true_and, OT.toD_fz, toD_map_fz, hIx_tup, hIx_lst, hIx_scr, hIx_mob, hIx_str, hIxT_fz, hIxT_ow, hAdd_int, hAdd_str, hAdd_tup, hAdd_lst, hMul_int, hMul_lst, hSl_tup, hSl_lst, hSl_str, hLen_lst, hLen_tup, hLen_scr, hLen_str, hLen_mob, hInt_int, hInt_bl, hAbs_int, hSeq_lst, hSeq_tup, hIn_lst, hIn_tup, hEq_eq, hI0_int, hI_int, ng_f, ng_t, atI_0, atI_1, atI_2, ofString_inj, eqv_str, eqv_txt, eqv_int, eqv_bl, eqv_tup, eqv_lst, eqOk_str, eqOk_int, eqOk_bl, eqOk_txt, decide_eq_true_eq, Nat.zero_lt_succ, exists_and_left, List.take_succ_cons, List.take_zero, List.drop_succ_cons, List.drop_zero, List.cons_append, List.nil_append, and_assoc, atI_map, Option.map_some, Nat.reduceAdd, Nat.reduceLT, Nat.reduceLeDiff, OT.toD_ow, List.map_cons, List.map_nil, D.mob.injEq, Mo.lst.injEq, Mem.put_same, Mem.put_put, ixN_30, ixN_32, ixN_10, exists_prop, fz_app, fz_inj, fz_snoc, OT.map_fz, List.length_map, List.length_append, List.append_nil, Nat.zero_add, cutL_1, items_tup, items_lst, items_scr, forD, compD, compS, comp2D, wipeE, D.isIn, List.any_cons, List.any_nil, String.reduceEq, D.plain, D.plains, D.dep, D.deps, Nat.max_self, Nat.min_self, Nat.zero_le, Nat.zero_min, Nat.min_zero, sizeLine_eq, forall_eq, exists_const, forall_const, kind_non, kind_bl, kind_int, kind_str, kind_lst, kind_tup, kind_dk, Kd.isa, reduceCtorEq, decide_false, decide_true, Bool.or_false, Bool.false_or, Bool.or_true, Bool.true_or, Bool.or_self, Bool.and_false, Bool.false_and, Bool.true_and, Bool.and_true, Bool.and_self, and_self, false_or, or_false, false_and, and_false, reduceIte, Bool.false_eq_true, Bool.not_eq_true, Bool.not_true, Bool.not_false, Bd.toD, spParts, DSpec.pure, pD_len]); repeat (first | (refine seq_in ?_; simp only [seqS_M, startE_cons, startE_nil, List.length_cons, List.length_nil, List.length_replicate, List.length_set, List.replicate_succ, List.replicate_zero, List.getElem?_cons_zero, List.getElem?_cons_succ, List.set_cons_zero, List.set_cons_succ, Option.some.injEq, OT.fz.injEq, OT.ow.injEq, D.int.injEq, D.str.injEq, D.bl.injEq, D.tup.injEq, D.lst.injEq, List.cons.injEq, exists_eq_left', exists_eq_left, exists_eq_right, and_true, true_and, OT.toD_fz, toD_map_fz, hIx_tup, hIx_lst, hIx_scr, hIx_mob, hIx_str, hIxT_fz, hIxT_ow, hAdd_int, hAdd_str, hAdd_tup, hAdd_lst, hMul_int, hMul_lst, hSl_tup, hSl_lst, hSl_str, hLen_lst, hLen_tup, hLen_scr, hLen_str, hLen_mob, hInt_int, hInt_bl, hAbs_int, hSeq_lst, hSeq_tup, hIn_lst, hIn_tup, hEq_eq, hI0_int, hI_int, ng_f, ng_t, atI_0, atI_1, atI_2, ofString_inj, eqv_str, eqv_txt, eqv_int, eqv_bl, eqv_tup, eqv_lst, eqOk_str, eqOk_int, eqOk_bl, eqOk_txt, decide_eq_true_eq, Nat.zero_lt_succ, exists_and_left, List.take_succ_cons, List.take_zero, List.drop_succ_cons, List.drop_zero, List.cons_append, List.nil_append, and_assoc, atI_map, Option.map_some, Nat.reduceAdd, Nat.reduceLT, Nat.reduceLeDiff, OT.toD_ow, List.map_cons, List.map_nil, D.mob.injEq, Mo.lst.injEq, Mem.put_same, Mem.put_put, ixN_30, ixN_32, ixN_10, exists_prop, fz_app, fz_inj, fz_snoc, OT.map_fz, List.length_map, List.length_append, List.append_nil, Nat.zero_add, cutL_1, items_tup, items_lst, items_scr, forD, compD, compS, comp2D, wipeE, D.isIn, List.any_cons, List.any_nil, String.reduceEq, D.plain, D.plains, D.dep, D.deps, Nat.max_self, Nat.min_self, Nat.zero_le, Nat.zero_min, Nat.min_zero, sizeLine_eq, forall_eq, exists_const, forall_const, kind_non, kind_bl, kind_int, kind_str, kind_lst, kind_tup, kind_dk, Kd.isa, reduceCtorEq, decide_false, decide_true, Bool.or_false, Bool.false_or, Bool.or_true, Bool.true_or, Bool.or_self, Bool.and_false, Bool.false_and, Bool.true_and, Bool.and_true, Bool.and_self, and_self, false_or, or_false, false_and, and_false, reduceIte, Bool.false_eq_true, Bool.not_eq_true, Bool.not_true, Bool.not_false, Bd.toD, spParts, DSpec.pure, pD_len]) | refine And.intro (by first | assumption | omega | decide) ?_ | omega | assumption)
    | or b c =>
      simp only [Bd.hgt] at hd hd2
      have s1 := parts_small (b := b) (by omega)
      have s2 := parts_small (b := c) (by omega)
      (try simp only [seqS_M, startE_cons, startE_nil, List.length_cons, List.length_nil, List.length_replicate, List.length_set, List.replicate_succ, List.replicate_zero, List.getElem?_cons_zero, List.getElem?_cons_succ, List.set_cons_zero, List.set_cons_succ, Option.some.injEq, OT.fz.injEq, OT.ow.injEq, D.int.injEq, D.str.injEq, D.bl.injEq, D.tup.injEq, D.lst.injEq, List.cons.injEq, exists_eq_left', exists_eq_left, exists_eq_right, and_true, true_and, OT.toD_fz, toD_map_fz, hIx_tup, hIx_lst, hIx_scr, hIx_mob, hIx_str, hIxT_fz, hIxT_ow, hAdd_int, hAdd_str, hAdd_tup, hAdd_lst, hMul_int, hMul_lst, hSl_tup, hSl_lst, hSl_str, hLen_lst, hLen_tup, hLen_scr, hLen_str, hLen_mob, hInt_int, hInt_bl, hAbs_int, hSeq_lst, hSeq_tup, hIn_lst, hIn_tup, hEq_eq, hI0_int, hI_int, ng_f, ng_t, atI_0, atI_1, atI_2, ofString_inj, eqv_str, eqv_txt, eqv_int, eqv_bl, eqv_tup, eqv_lst, eqOk_str, eqOk_int, eqOk_bl, eqOk_txt, decide_eq_true_eq, Nat.zero_lt_succ, exists_and_left, List.take_succ_cons, List.take_zero, List.drop_succ_cons, List.drop_zero, List.cons_append, List.nil_append, and_assoc, atI_map, Option.map_some, Nat.reduceAdd, Nat.reduceLT, Nat.reduceLeDiff, OT.toD_ow, List.map_cons, List.map_nil, D.mob.injEq, Mo.lst.injEq, Mem.put_same, Mem.put_put, ixN_30, ixN_32, ixN_10, exists_prop, fz_app, fz_inj, fz_snoc, OT.map_fz, List.length_map, List.length_append, List.append_nil, Nat.zero_add, cutL_1, items_tup, items_lst, items_scr, forD, compD, compS, comp2D, wipeE, D.isIn, List.any_cons, List.any_nil, String.reduceEq, D.plain, D.plains, D.dep, D.deps, Nat.max_self, Nat.min_self, Nat.zero_le, Nat.zero_min, Nat.min_zero, sizeLine_eq, forall_eq, exists_const, forall_const, kind_non, kind_bl, kind_int, kind_str, kind_lst, kind_tup, kind_dk, Kd.isa, reduceCtorEq, decide_false, decide_true, Bool.or_false, Bool.false_or, Bool.or_true, Bool.true_or, Bool.or_self, Bool.and_false, Bool.false_and, Bool.true_and, Bool.and_true, Bool.and_self, and_self, false_or, or_false, false_and, and_false, reduceIte, Bool.false_eq_true, Bool.not_eq_true, Bool.not_true, Bool.not_false, Bd.toD, spParts, DSpec.pure, kind_bd, bd_inj, pD_has, pD_alike, pD_nt, pD_an, pD_or, pD_ah, pD_ev, pD_si, pD_len]); repeat (first | (refine seq_in ?_; simp only [seqS_M, startE_cons, startE_nil, List.length_cons, List.length_nil, List.length_replicate, List.length_set, List.replicate_succ, List.replicate_zero, List.getElem?_cons_zero, List.getElem?_cons_succ, List.set_cons_zero, List.set_cons_succ, Option.some.injEq, OT.fz.injEq, OT.ow.injEq, D.int.injEq, D.str.injEq, D.bl.injEq, D.tup.injEq, D.lst.injEq, List.cons.injEq, exists_eq_left', exists_eq_left, exists_eq_right, and_true, true_and, OT.toD_fz, toD_map_fz, hIx_tup, hIx_lst, hIx_scr, hIx_mob, hIx_str, hIxT_fz, hIxT_ow, hAdd_int, hAdd_str, hAdd_tup, hAdd_lst, hMul_int, hMul_lst, hSl_tup, hSl_lst, hSl_str, hLen_lst, hLen_tup, hLen_scr, hLen_str, hLen_mob, hInt_int, hInt_bl, hAbs_int, hSeq_lst, hSeq_tup, hIn_lst, hIn_tup, hEq_eq, hI0_int, hI_int, ng_f, ng_t, atI_0, atI_1, atI_2, ofString_inj, eqv_str, eqv_txt, eqv_int, eqv_bl, eqv_tup, eqv_lst, eqOk_str, eqOk_int, eqOk_bl, eqOk_txt, decide_eq_true_eq, Nat.zero_lt_succ, exists_and_left, List.take_succ_cons, List.take_zero, List.drop_succ_cons, List.drop_zero, List.cons_append, List.nil_append, and_assoc, atI_map, Option.map_some, Nat.reduceAdd, Nat.reduceLT, Nat.reduceLeDiff, OT.toD_ow, List.map_cons, List.map_nil, D.mob.injEq, Mo.lst.injEq, Mem.put_same, Mem.put_put, ixN_30, ixN_32, ixN_10, exists_prop, fz_app, fz_inj, fz_snoc, OT.map_fz, List.length_map, List.length_append, List.append_nil, Nat.zero_add, cutL_1, items_tup, items_lst, items_scr, forD, compD, compS, comp2D, wipeE, D.isIn, List.any_cons, List.any_nil, String.reduceEq, D.plain, D.plains, D.dep, D.deps, Nat.max_self, Nat.min_self, Nat.zero_le, Nat.zero_min, Nat.min_zero, sizeLine_eq, forall_eq, exists_const, forall_const, kind_non, kind_bl, kind_int, kind_str, kind_lst, kind_tup, kind_dk, Kd.isa, reduceCtorEq, decide_false, decide_true, Bool.or_false, Bool.false_or, Bool.or_true, Bool.true_or, Bool.or_self, Bool.and_false, Bool.false_and, Bool.true_and, Bool.and_true, Bool.and_self, and_self, false_or, or_false, false_and, and_false, reduceIte, Bool.false_eq_true, Bool.not_eq_true, Bool.not_true, Bool.not_false, Bd.toD, spParts, DSpec.pure, kind_bd, bd_inj, pD_has, pD_alike, pD_nt, pD_an, pD_or, pD_ah, pD_ev, pD_si, pD_len]) | refine And.intro (by first | assumption | omega | decide) ?_ | omega | assumption)
      refine compS_id (by simp) (by rw [pD_len]; show 0 + _ ≤ _; omega) ?_
      refine ⟨by omega, by omega, by omega, compS_id (by simp) (by rw [List.nil_append, List.length_map, pD_len, pD_len]; omega) ?_⟩
      simp only [seqS_M, startE_cons, startE_nil, List.length_cons, List.length_nil, List.length_replicate, List.length_set, List.replicate_succ, List.replicate_zero, List.getElem?_cons_zero, List.getElem?_cons_succ, List.set_cons_zero, List.set_cons_succ, Option.some.injEq, OT.fz.injEq, OT.ow.injEq, D.int.injEq, D.str.injEq, D.bl.injEq, D.tup.injEq, D.lst.injEq, List.cons.injEq, exists_eq_left', exists_eq_left, exists_eq_right, and_true, true_and, OT.toD_fz, toD_map_fz, hIx_tup, hIx_lst, hIx_scr, hIx_mob, hIx_str, hIxT_fz, hIxT_ow, hAdd_int, hAdd_str, hAdd_tup, hAdd_lst, hMul_int, hMul_lst, hSl_tup, hSl_lst, hSl_str, hLen_lst, hLen_tup, hLen_scr, hLen_str, hLen_mob, hInt_int, hInt_bl, hAbs_int, hSeq_lst, hSeq_tup, hIn_lst, hIn_tup, hEq_eq, hI0_int, hI_int, ng_f, ng_t, atI_0, atI_1, atI_2, ofString_inj, eqv_str, eqv_txt, eqv_int, eqv_bl, eqv_tup, eqv_lst, eqOk_str, eqOk_int, eqOk_bl, eqOk_txt, decide_eq_true_eq, Nat.zero_lt_succ, exists_and_left, List.take_succ_cons, List.take_zero, List.drop_succ_cons, List.drop_zero, List.cons_append, List.nil_append, and_assoc, atI_map, Option.map_some, Nat.reduceAdd, Nat.reduceLT, Nat.reduceLeDiff, OT.toD_ow, List.map_cons, List.map_nil, D.mob.injEq, Mo.lst.injEq, Mem.put_same, Mem.put_put, ixN_30, ixN_32, ixN_10, exists_prop, fz_app, fz_inj, fz_snoc, OT.map_fz, List.length_map, List.length_append, List.append_nil, Nat.zero_add, cutL_1, items_tup, items_lst, items_scr, forD, compD, compS, comp2D, wipeE, D.isIn, List.any_cons, List.any_nil, String.reduceEq, D.plain, D.plains, D.dep, D.deps, Nat.max_self, Nat.min_self, Nat.zero_le, Nat.zero_min, Nat.min_zero, sizeLine_eq, forall_eq, exists_const, forall_const, kind_non, kind_bl, kind_int, kind_str, kind_lst, kind_tup, kind_dk, Kd.isa, reduceCtorEq, decide_false, decide_true, Bool.or_false, Bool.false_or, Bool.or_true, Bool.true_or, Bool.or_self, Bool.and_false, Bool.false_and, Bool.true_and, Bool.and_true, Bool.and_self, and_self, false_or, or_false, false_and, and_false, reduceIte, Bool.false_eq_true, Bool.not_eq_true, Bool.not_true, Bool.not_false, pD_len]
      (try simp only [seqS_M, startE_cons, startE_nil, List.length_cons, List.length_nil, List.length_replicate, List.length_set, List.replicate_succ, List.replicate_zero, List.getElem?_cons_zero, List.getElem?_cons_succ, List.set_cons_zero, List.set_cons_succ, Option.some.injEq, OT.fz.injEq, OT.ow.injEq, D.int.injEq, D.str.injEq, D.bl.injEq, D.tup.injEq, D.lst.injEq, List.cons.injEq, exists_eq_left', exists_eq_left, exists_eq_right, and_true, true_and, OT.toD_fz, toD_map_fz, hIx_tup, hIx_lst, hIx_scr, hIx_mob, hIx_str, hIxT_fz, hIxT_ow, hAdd_int, hAdd_str, hAdd_tup, hAdd_lst, hMul_int, hMul_lst, hSl_tup, hSl_lst, hSl_str, hLen_lst, hLen_tup, hLen_scr, hLen_str, hLen_mob, hInt_int, hInt_bl, hAbs_int, hSeq_lst, hSeq_tup, hIn_lst, hIn_tup, hEq_eq, hI0_int, hI_int, ng_f, ng_t, atI_0, atI_1, atI_2, ofString_inj, eqv_str, eqv_txt, eqv_int, eqv_bl, eqv_tup, eqv_lst, eqOk_str, eqOk_int, eqOk_bl, eqOk_txt, decide_eq_true_eq, Nat.zero_lt_succ, exists_and_left, List.take_succ_cons, List.take_zero, List.drop_succ_cons, List.drop_zero, List.cons_append, List.nil_append, and_assoc, atI_map, Option.map_some, Nat.reduceAdd, Nat.reduceLT, Nat.reduceLeDiff, OT.toD_ow, List.map_cons, List.map_nil, D.mob.injEq, Mo.lst.injEq, Mem.put_same, Mem.put_put, ixN_30, ixN_32, ixN_10, exists_prop, fz_app, fz_inj, fz_snoc, OT.map_fz, List.length_map, List.length_append, List.append_nil, Nat.zero_add, cutL_1, items_tup, items_lst, items_scr, forD, compD, compS, comp2D, wipeE, D.isIn, List.any_cons, List.any_nil, String.reduceEq, D.plain, D.plains, D.dep, D.deps, Nat.max_self, Nat.min_self, Nat.zero_le, Nat.zero_min, Nat.min_zero, sizeLine_eq, forall_eq, exists_const, forall_const, kind_non, kind_bl, kind_int, kind_str, kind_lst, kind_tup, kind_dk, Kd.isa, reduceCtorEq, decide_false, decide_true, Bool.or_false, Bool.false_or, Bool.or_true, Bool.true_or, Bool.or_self, Bool.and_false, Bool.false_and, Bool.true_and, Bool.and_true, Bool.and_self, and_self, false_or, or_false, false_and, and_false, reduceIte, Bool.false_eq_true, Bool.not_eq_true, Bool.not_true, Bool.not_false, Bd.toD, spParts, DSpec.pure, pD_len]); repeat (first | (refine seq_in ?_; simp only [seqS_M, startE_cons, startE_nil, List.length_cons, List.length_nil, List.length_replicate, List.length_set, List.replicate_succ, List.replicate_zero, List.getElem?_cons_zero, List.getElem?_cons_succ, List.set_cons_zero, List.set_cons_succ, Option.some.injEq, OT.fz.injEq, OT.ow.injEq, D.int.injEq, D.str.injEq, D.bl.injEq, D.tup.injEq, D.lst.injEq, List.cons.injEq, exists_eq_left', exists_eq_left, exists_eq_right, and_true, true_and, OT.toD_fz, toD_map_fz, hIx_tup, hIx_lst, hIx_scr, hIx_mob, hIx_str, hIxT_fz, hIxT_ow, hAdd_int, hAdd_str, hAdd_tup, hAdd_lst, hMul_int, hMul_lst, hSl_tup, hSl_lst, hSl_str, hLen_lst, hLen_tup, hLen_scr, hLen_str, hLen_mob, hInt_int, hInt_bl, hAbs_int, hSeq_lst, hSeq_tup, hIn_lst, hIn_tup, hEq_eq, hI0_int, hI_int, ng_f, ng_t, atI_0, atI_1, atI_2, ofString_inj, eqv_str, eqv_txt, eqv_int, eqv_bl, eqv_tup, eqv_lst, eqOk_str, eqOk_int, eqOk_bl, eqOk_txt, decide_eq_true_eq, Nat.zero_lt_succ, exists_and_left, List.take_succ_cons, List.take_zero, List.drop_succ_cons, List.drop_zero, List.cons_append, List.nil_append, and_assoc, atI_map, Option.map_some, Nat.reduceAdd, Nat.reduceLT, Nat.reduceLeDiff, OT.toD_ow, List.map_cons, List.map_nil, D.mob.injEq, Mo.lst.injEq, Mem.put_same, Mem.put_put, ixN_30, ixN_32, ixN_10, exists_prop, fz_app, fz_inj, fz_snoc, OT.map_fz, List.length_map, List.length_append, List.append_nil, Nat.zero_add, cutL_1, items_tup, items_lst, items_scr, forD, compD, compS, comp2D, wipeE, D.isIn, List.any_cons, List.any_nil, String.reduceEq, D.plain, D.plains, D.dep, D.deps, Nat.max_self, Nat.min_self, Nat.zero_le, Nat.zero_min, Nat.min_zero, sizeLine_eq, forall_eq, exists_const, forall_const, kind_non, kind_bl, kind_int, kind_str, kind_lst, kind_tup, kind_dk, Kd.isa, reduceCtorEq, decide_false, decide_true, Bool.or_false, Bool.false_or, Bool.or_true, Bool.true_or, Bool.or_self, Bool.and_false, Bool.false_and, Bool.true_and, Bool.and_true, Bool.and_self, and_self, false_or, or_false, false_and, and_false, reduceIte, Bool.false_eq_true, Bool.not_eq_true, Bool.not_true, Bool.not_false, Bd.toD, spParts, DSpec.pure, pD_len]) | refine And.intro (by first | assumption | omega | decide) ?_ | omega | assumption)
    | si b c =>
      simp only [Bd.hgt] at hd hd2
      have s1 := parts_small (b := b) (by omega)
      have s2 := parts_small (b := c) (by omega)
      (try simp only [seqS_M, startE_cons, startE_nil, List.length_cons, List.length_nil, List.length_replicate, List.length_set, List.replicate_succ, List.replicate_zero, List.getElem?_cons_zero, List.getElem?_cons_succ, List.set_cons_zero, List.set_cons_succ, Option.some.injEq, OT.fz.injEq, OT.ow.injEq, D.int.injEq, D.str.injEq, D.bl.injEq, D.tup.injEq, D.lst.injEq, List.cons.injEq, exists_eq_left', exists_eq_left, exists_eq_right, and_true, true_and, OT.toD_fz, toD_map_fz, hIx_tup, hIx_lst, hIx_scr, hIx_mob, hIx_str, hIxT_fz, hIxT_ow, hAdd_int, hAdd_str, hAdd_tup, hAdd_lst, hMul_int, hMul_lst, hSl_tup, hSl_lst, hSl_str, hLen_lst, hLen_tup, hLen_scr, hLen_str, hLen_mob, hInt_int, hInt_bl, hAbs_int, hSeq_lst, hSeq_tup, hIn_lst, hIn_tup, hEq_eq, hI0_int, hI_int, ng_f, ng_t, atI_0, atI_1, atI_2, ofString_inj, eqv_str, eqv_txt, eqv_int, eqv_bl, eqv_tup, eqv_lst, eqOk_str, eqOk_int, eqOk_bl, eqOk_txt, decide_eq_true_eq, Nat.zero_lt_succ, exists_and_left, List.take_succ_cons, List.take_zero, List.drop_succ_cons, List.drop_zero, List.cons_append, List.nil_append, and_assoc, atI_map, Option.map_some, Nat.reduceAdd, Nat.reduceLT, Nat.reduceLeDiff, OT.toD_ow, List.map_cons, List.map_nil, D.mob.injEq, Mo.lst.injEq, Mem.put_same, Mem.put_put, ixN_30, ixN_32, ixN_10, exists_prop, fz_app, fz_inj, fz_snoc, OT.map_fz, List.length_map, List.length_append, List.append_nil, Nat.zero_add, cutL_1, items_tup, items_lst, items_scr, forD, compD, compS, comp2D, wipeE, D.isIn, List.any_cons, List.any_nil, String.reduceEq, D.plain, D.plains, D.dep, D.deps, Nat.max_self, Nat.min_self, Nat.zero_le, Nat.zero_min, Nat.min_zero, sizeLine_eq, forall_eq, exists_const, forall_const, kind_non, kind_bl, kind_int, kind_str, kind_lst, kind_tup, kind_dk, Kd.isa, reduceCtorEq, decide_false, decide_true, Bool.or_false, Bool.false_or, Bool.or_true, Bool.true_or, Bool.or_self, Bool.and_false, Bool.false_and, Bool.true_and, Bool.and_true, Bool.and_self, and_self, false_or, or_false, false_and, and_false, reduceIte, Bool.false_eq_true, Bool.not_eq_true, Bool.not_true, Bool.not_false, Bd.toD, spParts, DSpec.pure, kind_bd, bd_inj, pD_has, pD_alike, pD_nt, pD_an, pD_or, pD_ah, pD_ev, pD_si, pD_len]); repeat (first | (refine seq_in ?_; simp only [seqS_M, startE_cons, startE_nil, List.length_cons, List.length_nil, List.length_replicate, List.length_set, List.replicate_succ, List.replicate_zero, List.getElem?_cons_zero, List.getElem?_cons_succ, List.set_cons_zero, List.set_cons_succ, Option.some.injEq, OT.fz.injEq, OT.ow.injEq, D.int.injEq, D.str.injEq, D.bl.injEq, D.tup.injEq, D.lst.injEq, List.cons.injEq, exists_eq_left', exists_eq_left, exists_eq_right, and_true, true_and, OT.toD_fz, toD_map_fz, hIx_tup, hIx_lst, hIx_scr, hIx_mob, hIx_str, hIxT_fz, hIxT_ow, hAdd_int, hAdd_str, hAdd_tup, hAdd_lst, hMul_int, hMul_lst, hSl_tup, hSl_lst, hSl_str, hLen_lst, hLen_tup, hLen_scr, hLen_str, hLen_mob, hInt_int, hInt_bl, hAbs_int, hSeq_lst, hSeq_tup, hIn_lst, hIn_tup, hEq_eq, hI0_int, hI_int, ng_f, ng_t, atI_0, atI_1, atI_2, ofString_inj, eqv_str, eqv_txt, eqv_int, eqv_bl, eqv_tup, eqv_lst, eqOk_str, eqOk_int, eqOk_bl, eqOk_txt, decide_eq_true_eq, Nat.zero_lt_succ, exists_and_left, List.take_succ_cons, List.take_zero, List.drop_succ_cons, List.drop_zero, List.cons_append, List.nil_append, and_assoc, atI_map, Option.map_some, Nat.reduceAdd, Nat.reduceLT, Nat.reduceLeDiff, OT.toD_ow, List.map_cons, List.map_nil, D.mob.injEq, Mo.lst.injEq, Mem.put_same, Mem.put_put, ixN_30, ixN_32, ixN_10, exists_prop, fz_app, fz_inj, fz_snoc, OT.map_fz, List.length_map, List.length_append, List.append_nil, Nat.zero_add, cutL_1, items_tup, items_lst, items_scr, forD, compD, compS, comp2D, wipeE, D.isIn, List.any_cons, List.any_nil, String.reduceEq, D.plain, D.plains, D.dep, D.deps, Nat.max_self, Nat.min_self, Nat.zero_le, Nat.zero_min, Nat.min_zero, sizeLine_eq, forall_eq, exists_const, forall_const, kind_non, kind_bl, kind_int, kind_str, kind_lst, kind_tup, kind_dk, Kd.isa, reduceCtorEq, decide_false, decide_true, Bool.or_false, Bool.false_or, Bool.or_true, Bool.true_or, Bool.or_self, Bool.and_false, Bool.false_and, Bool.true_and, Bool.and_true, Bool.and_self, and_self, false_or, or_false, false_and, and_false, reduceIte, Bool.false_eq_true, Bool.not_eq_true, Bool.not_true, Bool.not_false, Bd.toD, spParts, DSpec.pure, kind_bd, bd_inj, pD_has, pD_alike, pD_nt, pD_an, pD_or, pD_ah, pD_ev, pD_si, pD_len]) | refine And.intro (by first | assumption | omega | decide) ?_ | omega | assumption)
      refine compS_id (by simp) (by rw [pD_len]; show 0 + _ ≤ _; omega) ?_
      refine ⟨by omega, by omega, by omega, compS_id (by simp) (by rw [List.nil_append, List.length_map, pD_len, pD_len]; omega) ?_⟩
      simp only [seqS_M, startE_cons, startE_nil, List.length_cons, List.length_nil, List.length_replicate, List.length_set, List.replicate_succ, List.replicate_zero, List.getElem?_cons_zero, List.getElem?_cons_succ, List.set_cons_zero, List.set_cons_succ, Option.some.injEq, OT.fz.injEq, OT.ow.injEq, D.int.injEq, D.str.injEq, D.bl.injEq, D.tup.injEq, D.lst.injEq, List.cons.injEq, exists_eq_left', exists_eq_left, exists_eq_right, and_true, true_and, OT.toD_fz, toD_map_fz, hIx_tup, hIx_lst, hIx_scr, hIx_mob, hIx_str, hIxT_fz, hIxT_ow, hAdd_int, hAdd_str, hAdd_tup, hAdd_lst, hMul_int, hMul_lst, hSl_tup, hSl_lst, hSl_str, hLen_lst, hLen_tup, hLen_scr, hLen_str, hLen_mob, hInt_int, hInt_bl, hAbs_int, hSeq_lst, hSeq_tup, hIn_lst, hIn_tup, hEq_eq, hI0_int, hI_int, ng_f, ng_t, atI_0, atI_1, atI_2, ofString_inj, eqv_str, eqv_txt, eqv_int, eqv_bl, eqv_tup, eqv_lst, eqOk_str, eqOk_int, eqOk_bl, eqOk_txt, decide_eq_true_eq, Nat.zero_lt_succ, exists_and_left, List.take_succ_cons, List.take_zero, List.drop_succ_cons, List.drop_zero, List.cons_append, List.nil_append, and_assoc, atI_map, Option.map_some, Nat.reduceAdd, Nat.reduceLT, Nat.reduceLeDiff, OT.toD_ow, List.map_cons, List.map_nil, D.mob.injEq, Mo.lst.injEq, Mem.put_same, Mem.put_put, ixN_30, ixN_32, ixN_10, exists_prop, fz_app, fz_inj, fz_snoc, OT.map_fz, List.length_map, List.length_append, List.append_nil, Nat.zero_add, cutL_1, items_tup, items_lst, items_scr, forD, compD, compS, comp2D, wipeE, D.isIn, List.any_cons, List.any_nil, String.reduceEq, D.plain, D.plains, D.dep, D.deps, Nat.max_self, Nat.min_self, Nat.zero_le, Nat.zero_min, Nat.min_zero, sizeLine_eq, forall_eq, exists_const, forall_const, kind_non, kind_bl, kind_int, kind_str, kind_lst, kind_tup, kind_dk, Kd.isa, reduceCtorEq, decide_false, decide_true, Bool.or_false, Bool.false_or, Bool.or_true, Bool.true_or, Bool.or_self, Bool.and_false, Bool.false_and, Bool.true_and, Bool.and_true, Bool.and_self, and_self, false_or, or_false, false_and, and_false, reduceIte, Bool.false_eq_true, Bool.not_eq_true, Bool.not_true, Bool.not_false, pD_len]
      (try simp only [seqS_M, startE_cons, startE_nil, List.length_cons, List.length_nil, List.length_replicate, List.length_set, List.replicate_succ, List.replicate_zero, List.getElem?_cons_zero, List.getElem?_cons_succ, List.set_cons_zero, List.set_cons_succ, Option.some.injEq, OT.fz.injEq, OT.ow.injEq, D.int.injEq, D.str.injEq, D.bl.injEq, D.tup.injEq, D.lst.injEq, List.cons.injEq, exists_eq_left', exists_eq_left, exists_eq_right, and_true, true_and, OT.toD_fz, toD_map_fz, hIx_tup, hIx_lst, hIx_scr, hIx_mob, hIx_str, hIxT_fz, hIxT_ow, hAdd_int, hAdd_str, hAdd_tup, hAdd_lst, hMul_int, hMul_lst, hSl_tup, hSl_lst, hSl_str, hLen_lst, hLen_tup, hLen_scr, hLen_str, hLen_mob, hInt_int, hInt_bl, hAbs_int, hSeq_lst, hSeq_tup, hIn_lst, hIn_tup, hEq_eq, hI0_int, hI_int, ng_f, ng_t, atI_0, atI_1, atI_2, ofString_inj, eqv_str, eqv_txt, eqv_int, eqv_bl, eqv_tup, eqv_lst, eqOk_str, eqOk_int, eqOk_bl, eqOk_txt, decide_eq_true_eq, Nat.zero_lt_succ, exists_and_left, List.take_succ_cons, List.take_zero, List.drop_succ_cons, List.drop_zero, List.cons_append, List.nil_append, and_assoc, atI_map, Option.map_some, Nat.reduceAdd, Nat.reduceLT, Nat.reduceLeDiff, OT.toD_ow, List.map_cons, List.map_nil, D.mob.injEq, Mo.lst.injEq, Mem.put_same, Mem.put_put, ixN_30, ixN_32, ixN_10, exists_prop, fz_app, fz_inj, fz_snoc, OT.map_fz, List.length_map, List.length_append, List.append_nil, Nat.zero_add, cutL_1, items_tup, items_lst, items_scr, forD, compD, compS, comp2D, wipeE, D.isIn, List.any_cons, List.any_nil, String.reduceEq, D.plain, D.plains, D.dep, D.deps, Nat.max_self, Nat.min_self, Nat.zero_le, Nat.zero_min, Nat.min_zero, sizeLine_eq, forall_eq, exists_const, forall_const, kind_non, kind_bl, kind_int, kind_str, kind_lst, kind_tup, kind_dk, Kd.isa, reduceCtorEq, decide_false, decide_true, Bool.or_false, Bool.false_or, Bool.or_true, Bool.true_or, Bool.or_self, Bool.and_false, Bool.false_and, Bool.true_and, Bool.and_true, Bool.and_self, and_self, false_or, or_false, false_and, and_false, reduceIte, Bool.false_eq_true, Bool.not_eq_true, Bool.not_true, Bool.not_false, Bd.toD, spParts, DSpec.pure, pD_len]); repeat (first | (refine seq_in ?_; simp only [seqS_M, startE_cons, startE_nil, List.length_cons, List.length_nil, List.length_replicate, List.length_set, List.replicate_succ, List.replicate_zero, List.getElem?_cons_zero, List.getElem?_cons_succ, List.set_cons_zero, List.set_cons_succ, Option.some.injEq, OT.fz.injEq, OT.ow.injEq, D.int.injEq, D.str.injEq, D.bl.injEq, D.tup.injEq, D.lst.injEq, List.cons.injEq, exists_eq_left', exists_eq_left, exists_eq_right, and_true, true_and, OT.toD_fz, toD_map_fz, hIx_tup, hIx_lst, hIx_scr, hIx_mob, hIx_str, hIxT_fz, hIxT_ow, hAdd_int, hAdd_str, hAdd_tup, hAdd_lst, hMul_int, hMul_lst, hSl_tup, hSl_lst, hSl_str, hLen_lst, hLen_tup, hLen_scr, hLen_str, hLen_mob, hInt_int, hInt_bl, hAbs_int, hSeq_lst, hSeq_tup, hIn_lst, hIn_tup, hEq_eq, hI0_int, hI_int, ng_f, ng_t, atI_0, atI_1, atI_2, ofString_inj, eqv_str, eqv_txt, eqv_int, eqv_bl, eqv_tup, eqv_lst, eqOk_str, eqOk_int, eqOk_bl, eqOk_txt, decide_eq_true_eq, Nat.zero_lt_succ, exists_and_left, List.take_succ_cons, List.take_zero, List.drop_succ_cons, List.drop_zero, List.cons_append, List.nil_append, and_assoc, atI_map, Option.map_some, Nat.reduceAdd, Nat.reduceLT, Nat.reduceLeDiff, OT.toD_ow, List.map_cons, List.map_nil, D.mob.injEq, Mo.lst.injEq, Mem.put_same, Mem.put_put, ixN_30, ixN_32, ixN_10, exists_prop, fz_app, fz_inj, fz_snoc, OT.map_fz, List.length_map, List.length_append, List.append_nil, Nat.zero_add, cutL_1, items_tup, items_lst, items_scr, forD, compD, compS, comp2D, wipeE, D.isIn, List.any_cons, List.any_nil, String.reduceEq, D.plain, D.plains, D.dep, D.deps, Nat.max_self, Nat.min_self, Nat.zero_le, Nat.zero_min, Nat.min_zero, sizeLine_eq, forall_eq, exists_const, forall_const, kind_non, kind_bl, kind_int, kind_str, kind_lst, kind_tup, kind_dk, Kd.isa, reduceCtorEq, decide_false, decide_true, Bool.or_false, Bool.false_or, Bool.or_true, Bool.true_or, Bool.or_self, Bool.and_false, Bool.false_and, Bool.true_and, Bool.and_true, Bool.and_self, and_self, false_or, or_false, false_and, and_false, reduceIte, Bool.false_eq_true, Bool.not_eq_true, Bool.not_true, Bool.not_false, Bd.toD, spParts, DSpec.pure, pD_len]) | refine And.intro (by first | assumption | omega | decide) ?_ | omega | assumption)
/-- how many look back -/
def spLooks : DSpec := DSpec.pure (ι := Bd) (fun b ds => ds = [b.toD] ∧ b.hgt ≤ 20) (fun b t => t = .fz (.int ((b.parts.filter Bd.backs).length : Nat)))
theorem ok_looks_back (T : Tx K mg) : DF P w K mg base s_looks_back "looks_back" ["body"] 22 spLooks := by
  have F_parts_of := ok_parts_of (P := P) (w := w) (base := base) T 21
  obtain ⟨f, fd, hm, F, hb⟩ := T.d_looks_back
  refine ⟨f, fd, hm, F, hb, fn_dl F sc_looks_back ?_⟩
  rintro X M ds (b : Bd) ⟨cdv, A, outer, s0, H0, E, rfl⟩ hr hl ⟨rfl, hd⟩
  refine ⟨_, (dss_cons (ds_ret (ED.o (ed_len T.z_len (av_cons (ED.v (EO.d (eo_lc (own := [("part", 1)]) rfl sc_looks_back.nd (ei_seq (EO.d (eo_callP (DF.mono F_parts_of (by first | omega | decide)) hr (ad_cons (ed_var 0) ad_nil)))) (blkOk_by (N := N_looks_back) (sc := (defScope s_looks_back)) (by first | decide +kernel | exact rfl)) (by decide) (fun _ _ _ _ _ => (eg_name 1 sc_looks_back.nd)) (fun _ _ _ _ _ => (ets_one (EC.t (ec_in hr.hu (ED.v (ed_ixN 1 ed_int)) (ED.v (ed_gc T.c_LOOKING)))))) (fun _ _ _ _ _ => (ED.o (ed_var 1)))))) av_nil)))) dss_nil), ?_⟩
  have s1 := parts_small hd
  (try simp only [seqS_M, startE_cons, startE_nil, List.length_cons, List.length_nil, List.length_replicate, List.length_set, List.replicate_succ, List.replicate_zero, List.getElem?_cons_zero, List.getElem?_cons_succ, List.set_cons_zero, List.set_cons_succ, Option.some.injEq, OT.fz.injEq, OT.ow.injEq, D.int.injEq, D.str.injEq, D.bl.injEq, D.tup.injEq, D.lst.injEq, List.cons.injEq, exists_eq_left', exists_eq_left, exists_eq_right, and_true, true_and, OT.toD_fz, toD_map_fz, hIx_tup, hIx_lst, hIx_scr, hIx_mob, hIx_str, hIxT_fz, hIxT_ow, hAdd_int, hAdd_str, hAdd_tup, hAdd_lst, hMul_int, hMul_lst, hSl_tup, hSl_lst, hSl_str, hLen_lst, hLen_tup, hLen_scr, hLen_str, hLen_mob, hInt_int, hInt_bl, hAbs_int, hSeq_lst, hSeq_tup, hIn_lst, hIn_tup, hEq_eq, hI0_int, hI_int, ng_f, ng_t, atI_0, atI_1, atI_2, ofString_inj, eqv_str, eqv_txt, eqv_int, eqv_bl, eqv_tup, eqv_lst, eqOk_str, eqOk_int, eqOk_bl, eqOk_txt, decide_eq_true_eq, Nat.zero_lt_succ, exists_and_left, List.take_succ_cons, List.take_zero, List.drop_succ_cons, List.drop_zero, List.cons_append, List.nil_append, and_assoc, atI_map, Option.map_some, Nat.reduceAdd, Nat.reduceLT, Nat.reduceLeDiff, OT.toD_ow, List.map_cons, List.map_nil, D.mob.injEq, Mo.lst.injEq, Mem.put_same, Mem.put_put, ixN_30, ixN_32, ixN_10, exists_prop, fz_app, fz_inj, fz_snoc, OT.map_fz, List.length_map, List.length_append, List.append_nil, Nat.zero_add, cutL_1, items_tup, items_lst, items_scr, forD, compD, compS, comp2D, wipeE, D.isIn, List.any_cons, List.any_nil, String.reduceEq, D.plain, D.plains, D.dep, D.deps, Nat.max_self, Nat.min_self, Nat.zero_le, Nat.zero_min, Nat.min_zero, sizeLine_eq, forall_eq, exists_const, forall_const, kind_non, kind_bl, kind_int, kind_str, kind_lst, kind_tup, kind_dk, Kd.isa, reduceCtorEq, decide_false, decide_true, Bool.or_false, Bool.false_or, Bool.or_true, Bool.true_or, Bool.or_self, Bool.and_false, Bool.false_and, Bool.true_and, Bool.and_true, Bool.and_self, and_self, false_or, or_false, false_and, and_false, reduceIte, Bool.false_eq_true, Bool.not_eq_true, Bool.not_true, Bool.not_false, spLooks, spParts, DSpec.pure, bd_inj, pD_len]); repeat (first | (refine seq_in ?_; simp only [seqS_M, startE_cons, startE_nil, List.length_cons, List.length_nil, List.length_replicate, List.length_set, List.replicate_succ, List.replicate_zero, List.getElem?_cons_zero, List.getElem?_cons_succ, List.set_cons_zero, List.set_cons_succ, Option.some.injEq, OT.fz.injEq, OT.ow.injEq, D.int.injEq, D.str.injEq, D.bl.injEq, D.tup.injEq, D.lst.injEq, List.cons.injEq, exists_eq_left', exists_eq_left, exists_eq_right, and_true, true_and, OT.toD_fz, toD_map_fz, hIx_tup, hIx_lst, hIx_scr, hIx_mob, hIx_str, hIxT_fz, hIxT_ow, hAdd_int, hAdd_str, hAdd_tup, hAdd_lst, hMul_int, hMul_lst, hSl_tup, hSl_lst, hSl_str, hLen_lst, hLen_tup, hLen_scr, hLen_str, hLen_mob, hInt_int, hInt_bl, hAbs_int, hSeq_lst, hSeq_tup, hIn_lst, hIn_tup, hEq_eq, hI0_int, hI_int, ng_f, ng_t, atI_0, atI_1, atI_2, ofString_inj, eqv_str, eqv_txt, eqv_int, eqv_bl, eqv_tup, eqv_lst, eqOk_str, eqOk_int, eqOk_bl, eqOk_txt, decide_eq_true_eq, Nat.zero_lt_succ, exists_and_left, List.take_succ_cons, List.take_zero, List.drop_succ_cons, List.drop_zero, List.cons_append, List.nil_append, and_assoc, atI_map, Option.map_some, Nat.reduceAdd, Nat.reduceLT, Nat.reduceLeDiff, OT.toD_ow, List.map_cons, List.map_nil, D.mob.injEq, Mo.lst.injEq, Mem.put_same, Mem.put_put, ixN_30, ixN_32, ixN_10, exists_prop, fz_app, fz_inj, fz_snoc, OT.map_fz, List.length_map, List.length_append, List.append_nil, Nat.zero_add, cutL_1, items_tup, items_lst, items_scr, forD, compD, compS, comp2D, wipeE, D.isIn, List.any_cons, List.any_nil, String.reduceEq, D.plain, D.plains, D.dep, D.deps, Nat.max_self, Nat.min_self, Nat.zero_le, Nat.zero_min, Nat.min_zero, sizeLine_eq, forall_eq, exists_const, forall_const, kind_non, kind_bl, kind_int, kind_str, kind_lst, kind_tup, kind_dk, Kd.isa, reduceCtorEq, decide_false, decide_true, Bool.or_false, Bool.false_or, Bool.or_true, Bool.true_or, Bool.or_self, Bool.and_false, Bool.false_and, Bool.true_and, Bool.and_true, Bool.and_self, and_self, false_or, or_false, false_and, and_false, reduceIte, Bool.false_eq_true, Bool.not_eq_true, Bool.not_true, Bool.not_false, spLooks, spParts, DSpec.pure, bd_inj, pD_len]) | refine And.intro (by first | assumption | omega | decide) ?_ | omega | assumption)
  refine compD_rec (fun ds acc M => ∃ bs : List Bd, ds = bs.map Bd.toD ∧ acc.length + (bs.filter Bd.backs).length = (b.parts.filter Bd.backs).length) _ _ _ ⟨b.parts, rfl, by simp⟩ (fun acc M h => ?_) fun d ds acc M h C hC => ?_
  · obtain ⟨bs, e1, e2⟩ := h
    have : bs = [] := by simpa using e1.symm
    subst this
    have e2 : acc.length = (b.parts.filter Bd.backs).length := by simpa using e2
    show ((acc.length : Nat) : Int) = _
    rw [e2]
  · obtain ⟨bs, e1, e2⟩ := h
    cases bs with
    | nil => cases e1
    | cons c bs =>
      rw [List.map_cons] at e1
      obtain ⟨rfl, rfl⟩ := List.cons.inj e1
      rw [List.filter_cons] at e2
      cases c <;> simp only [seqS_M, startE_cons, startE_nil, List.length_cons, List.length_nil, List.length_replicate, List.length_set, List.replicate_succ, List.replicate_zero, List.getElem?_cons_zero, List.getElem?_cons_succ, List.set_cons_zero, List.set_cons_succ, Option.some.injEq, OT.fz.injEq, OT.ow.injEq, D.int.injEq, D.str.injEq, D.bl.injEq, D.tup.injEq, D.lst.injEq, List.cons.injEq, exists_eq_left', exists_eq_left, exists_eq_right, and_true, true_and, OT.toD_fz, toD_map_fz, hIx_tup, hIx_lst, hIx_scr, hIx_mob, hIx_str, hIxT_fz, hIxT_ow, hAdd_int, hAdd_str, hAdd_tup, hAdd_lst, hMul_int, hMul_lst, hSl_tup, hSl_lst, hSl_str, hLen_lst, hLen_tup, hLen_scr, hLen_str, hLen_mob, hInt_int, hInt_bl, hAbs_int, hSeq_lst, hSeq_tup, hIn_lst, hIn_tup, hEq_eq, hI0_int, hI_int, ng_f, ng_t, atI_0, atI_1, atI_2, ofString_inj, eqv_str, eqv_txt, eqv_int, eqv_bl, eqv_tup, eqv_lst, eqOk_str, eqOk_int, eqOk_bl, eqOk_txt, decide_eq_true_eq, Nat.zero_lt_succ, exists_and_left, List.take_succ_cons, List.take_zero, List.drop_succ_cons, List.drop_zero, List.cons_append, List.nil_append, and_assoc, atI_map, Option.map_some, Nat.reduceAdd, Nat.reduceLT, Nat.reduceLeDiff, OT.toD_ow, List.map_cons, List.map_nil, D.mob.injEq, Mo.lst.injEq, Mem.put_same, Mem.put_put, ixN_30, ixN_32, ixN_10, exists_prop, fz_app, fz_inj, fz_snoc, OT.map_fz, List.length_map, List.length_append, List.append_nil, Nat.zero_add, cutL_1, items_tup, items_lst, items_scr, forD, compD, compS, comp2D, wipeE, D.isIn, List.any_cons, List.any_nil, String.reduceEq, D.plain, D.plains, D.dep, D.deps, Nat.max_self, Nat.min_self, Nat.zero_le, Nat.zero_min, Nat.min_zero, sizeLine_eq, forall_eq, exists_const, forall_const, kind_non, kind_bl, kind_int, kind_str, kind_lst, kind_tup, kind_dk, Kd.isa, reduceCtorEq, decide_false, decide_true, Bool.or_false, Bool.false_or, Bool.or_true, Bool.true_or, Bool.or_self, Bool.and_false, Bool.false_and, Bool.true_and, Bool.and_true, Bool.and_self, and_self, false_or, or_false, false_and, and_false, reduceIte, Bool.false_eq_true, Bool.not_eq_true, Bool.not_true, Bool.not_false, Bd.toD] <;> refine hC _ _ ⟨bs, rfl, ?_⟩ <;> simp [Bd.backs] at e2 ⊢ <;> omega
end
end DL

namespace DL
open PySem L2 PySem.Spec
open PyProof.Rows hiding St
set_option autoImplicit false
section
variable {P : Program} {w : World} {K : PySem.W.Frag} {mg : Str → Option Value} {base : Heap}
/-! ### draws as they're used -/
theorem take_at {M : Mem} {p : Addr} {size : Int} {n : Nat} {Q : OT → Mem → Prop} (h1 : 1 ≤ size) (h2 : size ≤ 2 ^ 20) (hn : n ≤ 2 ^ 50) (hB : IsBox n M p) (k : ∀ r M', 0 ≤ r → r < size → BoxTo p (n + 1) M M' → Q (.fz (.int r)) M') :
    ∃ i : Addr × Int × Nat, p = i.fst ∧ size = i.snd.fst ∧ 1 ≤ i.snd.fst ∧ i.snd.fst ≤ 2 ^ 20 ∧ i.snd.snd ≤ 2 ^ 50 ∧ IsBox i.snd.snd M i.fst ∧ ∀ (t : OT) (M' : Mem), (∃ r, t = OT.fz (D.int r) ∧ 0 ≤ r ∧ r < i.snd.fst ∧ BoxTo i.fst (i.snd.snd + 1) M M') → Q t M' :=
  ⟨⟨p, size, n⟩, rfl, rfl, h1, h2, hn, hB, fun t M' ⟨r, e, h0, h1, hB'⟩ => by subst e; exact k r M' h0 h1 hB'⟩
/-! ### names -/
abbrev abc : Str := "abcdefghijklmnopqrstuvwxyz"
theorem abc_len : abc.length = 26 := by decide +kernel
theorem abc_size : abc.cps.toList.length = 26 := by decide +kernel
theorem abc_all : ∀ c ∈ abc.cps.toList, 97 ≤ c ∧ c ≤ 122 := by decide +kernel
/-- small letters alone -/
def Low (x : Str) : Prop := ∀ c ∈ x.cps.toList, 97 ≤ c ∧ c ≤ 122
theorem abc_at {r : Int} (h0 : 0 ≤ r) (h1 : r < 26) : ∃ c, atI abc.cps.toList r = some c ∧ Low ⟨#[c]⟩ := by
  obtain ⟨j, rfl⟩ := Int.eq_ofNat_of_zero_le h0
  have hj : j < abc.cps.toList.length := by rw [abc_size]; omega
  refine ⟨_, atI_nat (List.getElem?_eq_getElem hj), fun c hc => ?_⟩
  have : c = abc.cps.toList[j] := by simpa using hc
  rw [this]
  exact abc_all _ (List.getElem_mem hj)
theorem low_app {x y : Str} (hx : Low x) (hy : Low y) : Low (x ++ y) := fun c hc => by
  have e : (x ++ y).cps = x.cps ++ y.cps := rfl
  rw [e, Array.toList_append, List.mem_append] at hc
  exact hc.elim (hx c) (hy c)
theorem len_app {x y : Str} : (x ++ y).length = x.length + y.length := strLen_append x y
theorem low_nil : Low (Str.ofString "") := fun c hc => by
  have e : (Str.ofString "").cps.toList = [] := by decide +kernel
  rw [e] at hc
  cases hc
theorem len_nil : (Str.ofString "").length = 0 := by decide +kernel
theorem low_join : ∀ {ys : List Str}, (∀ y ∈ ys, Low y ∧ y.length = 1) → Low (Str.join (Str.ofString "") ys) ∧ (Str.join (Str.ofString "") ys).length = ys.length
  | [], _ => ⟨low_nil, len_nil⟩
  | [x], h => ⟨(h x List.mem_cons_self).1, (h x List.mem_cons_self).2⟩
  | x :: y :: r, h => by
    obtain ⟨h1, h2⟩ := low_join (ys := y :: r) fun z hz => h z (List.mem_cons_of_mem _ hz)
    obtain ⟨x1, x2⟩ := h x List.mem_cons_self
    refine ⟨low_app (low_app x1 low_nil) h1, ?_⟩
    show ((x ++ Str.ofString "") ++ Str.join (Str.ofString "") (y :: r)).length = _
    rw [len_app, len_app, h2, x2, len_nil]
    simp only [List.length_cons]
    omega
theorem low_cut {x : Str} (h : Low x) (lo hi : Option Int) : Low (cutS x lo hi) := fun c hc => by
  have : c ∈ ((x.cps.toList.drop (HT.sIx x.length 0 lo)).take (HT.sIx x.length x.length hi - HT.sIx x.length 0 lo)) := by simpa [cutS] using hc
  exact h c (List.mem_of_mem_drop (List.mem_of_mem_take this))
theorem len_cut {x : Str} {s : Nat} : (cutS x none (some (s : Int))).length + (cutS x (some (s : Int)) none).length = x.length := by
  have e : ∀ lo hi, (cutS x lo hi).length = ((x.cps.toList.drop (HT.sIx x.length 0 lo)).take (HT.sIx x.length x.length hi - HT.sIx x.length 0 lo)).length := fun lo hi => by simp [cutS, Str.length]
  have n : x.cps.toList.length = x.length := by simp [Str.length]
  rw [e, e, HT.sIx_nat, HT.sIx_nat, HT.sIx_none, HT.sIx_none, List.length_take, List.length_take, List.length_drop, List.length_drop, n]
  omega
theorem rngD_cons {a : Int} {n : Nat} : rngD a (n + 1) = .int a :: rngD (a + 1) n := by
  unfold rngD
  rw [List.range_succ_eq_map, List.map_cons, List.map_map]
  congr 1
  · simp
  · refine List.map_congr_left fun i _ => ?_
    simp only [Function.comp]
    congr 1
    push_cast
    omega
def spNames : DSpec := ⟨Addr × Int × Nat, fun i M ds => ds = [.mob i.1, .int i.2.1] ∧ 0 ≤ i.2.1 ∧ i.2.1 ≤ 26 ∧ i.2.2 + 20 ≤ 2 ^ 50 ∧ IsBox i.2.2 M i.1,
  fun i M t M' => ∃ xs : List Str, t = .ow ((xs.map .str).map .fz) ∧ (xs.length : Int) = i.2.1 ∧ (∀ x ∈ xs, Low x ∧ x.length ≤ 8) ∧ BoxTo i.1 (i.2.2 + 20) M M'⟩
theorem ok_names (T : Tx K mg) : DF P w K mg base s_law_names "_law_names" ["box", "size"] 2 spNames := by
  have F_law_take := ok_take (P := P) (w := w) (base := base) T
  obtain ⟨f, fd, hm, F, hb⟩ := T.d_law_names
  refine ⟨f, fd, hm, F, hb, fn_dl F sc_law_names ?_⟩
  rintro X M ds ⟨p, size, n⟩ ⟨cdv, A, outer, s0, H0, E, rfl⟩ hr hl ⟨rfl, hs1, hs2, hn, hB⟩
  refine ⟨_, (dss_cons (ds_asg (ed_tup (ad_cons ed_str (ad_cons (EO.d (eo_call (DF.mono F_law_take (by first | omega | decide)) hr (ad_cons (ed_var 0) (ad_cons ed_int ad_nil)))) ad_nil))) (eg_tup (n := 2) rfl (egs_cons (eg_name 2 sc_law_names.nd) (egs_cons (eg_name 3 sc_law_names.nd) egs_nil)))) (dss_cons (ds_set 4 sc_law_names.nd (ed_join (ED.v ed_str) (av_cons (ED.v (EO.d (eo_lc (own := [("turn", 10)]) rfl sc_law_names.nd (ei_range1 T.z_range (av_cons (ED.v (EO.d (eo_call (DF.mono F_law_take (by first | omega | decide)) hr (ad_cons (ed_var 0) (ad_cons ed_int ad_nil))))) av_nil)) (blkOk_by (N := N_law_names) (sc := (defScope s_law_names)) (by first | decide +kernel | exact rfl)) (by decide) (fun _ _ _ _ _ => (eg_name 10 sc_law_names.nd)) (fun _ _ _ _ _ => ets_nil) (fun _ _ _ _ _ => (ED.o (ed_ixN 2 (EO.d (eo_call (DF.mono F_law_take (by first | omega | decide)) hr (ad_cons (ed_var 0) (ad_cons ed_int ad_nil)))))))))) av_nil))) (dss_cons (ds_par3 (i := 5) (j := 6) (l := 7) rfl sc_law_names.nd (ao_cons (ED.o (EO.d (eo_call (DF.mono F_law_take (by first | omega | decide)) hr (ad_cons (ed_var 0) (ad_cons (EO.d (eo_add (ed_len T.z_len (av_cons (ev_var 4) av_nil)) ed_int)) ad_nil))))) (ao_cons (ED.o (EO.d (eo_call (DF.mono F_law_take (by first | omega | decide)) hr (ad_cons (ed_var 0) (ad_cons ed_int ad_nil))))) (ao_cons (eo_lst ao_nil) ao_nil)))) (dss_cons (ds_for PassesOwn.never rfl (ei_range1 T.z_range (av_cons (ev_var 1) av_nil)) (eg_name 8 sc_law_names.nd) (dss_cons (ds_set 9 sc_law_names.nd (ed_ixN 2 (ed_mod (ED.v (EO.d (eo_add (ed_var 3) (EO.d (eo_mul ed_int (ed_var 8)))))) (ED.v ed_int)))) (dss_cons (ds_append 7 (eo_add (EO.d (eo_add (EO.d (eo_sl (ed_var 4) ep_none (ep_some (ev_var 5)))) (ed_var 9))) (EO.d (eo_sl (ed_var 4) (ep_some (ev_var 5)) ep_none)))) (dss_cons (ds_if (EW.t (ew_and (EC.t (ec_eq hr.hu (ev_var 6) (ED.v ed_int))) (ew_and1 (EC.t (ec_eq hr.hu (ED.v (ed_mod (ev_var 8) (ED.v ed_int))) (ED.v ed_int)))))) (dss_cons (ds_setIxO 7 (EO.d (eo_add (ed_ixN 7 (ed_sub (ev_var 8) (ED.v ed_int))) (ed_ixN 2 (ed_mod (ED.v (EO.d (eo_add (ed_var 3) (ed_var 8)))) (ED.v ed_int))))) (ev_var 8)) dss_nil) dss_nil) dss_nil)))) (dss_cons (ds_retOwn 7) dss_nil))))), ?_⟩
  replace hs1 : 0 ≤ size := hs1
  replace hs2 : size ≤ 26 := hs2
  replace hn : n + 20 ≤ 2 ^ 50 := hn
  replace hB : IsBox n M p := hB
  (try simp only [seqS_M, startE_cons, startE_nil, List.length_cons, List.length_nil, List.length_replicate, List.length_set, List.replicate_succ, List.replicate_zero, List.getElem?_cons_zero, List.getElem?_cons_succ, List.set_cons_zero, List.set_cons_succ, Option.some.injEq, OT.fz.injEq, OT.ow.injEq, D.int.injEq, D.str.injEq, D.bl.injEq, D.tup.injEq, D.lst.injEq, List.cons.injEq, exists_eq_left', exists_eq_left, exists_eq_right, and_true, true_and, OT.toD_fz, toD_map_fz, hIx_tup, hIx_lst, hIx_scr, hIx_mob, hIx_str, hIxT_fz, hIxT_ow, hAdd_int, hAdd_str, hAdd_tup, hAdd_lst, hMul_int, hMul_lst, hSl_tup, hSl_lst, hSl_str, hLen_lst, hLen_tup, hLen_scr, hLen_str, hLen_mob, hInt_int, hInt_bl, hAbs_int, hSeq_lst, hSeq_tup, hIn_lst, hIn_tup, hEq_eq, hI0_int, hI_int, ng_f, ng_t, atI_0, atI_1, atI_2, ofString_inj, eqv_str, eqv_txt, eqv_int, eqv_bl, eqv_tup, eqv_lst, eqOk_str, eqOk_int, eqOk_bl, eqOk_txt, decide_eq_true_eq, Nat.zero_lt_succ, exists_and_left, List.take_succ_cons, List.take_zero, List.drop_succ_cons, List.drop_zero, List.cons_append, List.nil_append, and_assoc, atI_map, Option.map_some, Nat.reduceAdd, Nat.reduceLT, Nat.reduceLeDiff, OT.toD_ow, List.map_cons, List.map_nil, D.mob.injEq, Mo.lst.injEq, Mem.put_same, Mem.put_put, ixN_30, ixN_32, ixN_10, exists_prop, fz_app, fz_inj, fz_snoc, OT.map_fz, List.length_map, List.length_append, List.append_nil, Nat.zero_add, cutL_1, items_tup, items_lst, items_scr, forD, compD, compS, comp2D, wipeE, D.isIn, List.any_cons, List.any_nil, String.reduceEq, D.plain, D.plains, D.dep, D.deps, Nat.max_self, Nat.min_self, Nat.zero_le, Nat.zero_min, Nat.min_zero, sizeLine_eq, forall_eq, exists_const, forall_const, kind_non, kind_bl, kind_int, kind_str, kind_lst, kind_tup, kind_dk, Kd.isa, reduceCtorEq, decide_false, decide_true, Bool.or_false, Bool.false_or, Bool.or_true, Bool.true_or, Bool.or_self, Bool.and_false, Bool.false_and, Bool.true_and, Bool.and_true, Bool.and_self, and_self, false_or, or_false, false_and, and_false, reduceIte, Bool.false_eq_true, Bool.not_eq_true, Bool.not_true, Bool.not_false, spTake]); repeat (first | (refine seq_in ?_; simp only [seqS_M, startE_cons, startE_nil, List.length_cons, List.length_nil, List.length_replicate, List.length_set, List.replicate_succ, List.replicate_zero, List.getElem?_cons_zero, List.getElem?_cons_succ, List.set_cons_zero, List.set_cons_succ, Option.some.injEq, OT.fz.injEq, OT.ow.injEq, D.int.injEq, D.str.injEq, D.bl.injEq, D.tup.injEq, D.lst.injEq, List.cons.injEq, exists_eq_left', exists_eq_left, exists_eq_right, and_true, true_and, OT.toD_fz, toD_map_fz, hIx_tup, hIx_lst, hIx_scr, hIx_mob, hIx_str, hIxT_fz, hIxT_ow, hAdd_int, hAdd_str, hAdd_tup, hAdd_lst, hMul_int, hMul_lst, hSl_tup, hSl_lst, hSl_str, hLen_lst, hLen_tup, hLen_scr, hLen_str, hLen_mob, hInt_int, hInt_bl, hAbs_int, hSeq_lst, hSeq_tup, hIn_lst, hIn_tup, hEq_eq, hI0_int, hI_int, ng_f, ng_t, atI_0, atI_1, atI_2, ofString_inj, eqv_str, eqv_txt, eqv_int, eqv_bl, eqv_tup, eqv_lst, eqOk_str, eqOk_int, eqOk_bl, eqOk_txt, decide_eq_true_eq, Nat.zero_lt_succ, exists_and_left, List.take_succ_cons, List.take_zero, List.drop_succ_cons, List.drop_zero, List.cons_append, List.nil_append, and_assoc, atI_map, Option.map_some, Nat.reduceAdd, Nat.reduceLT, Nat.reduceLeDiff, OT.toD_ow, List.map_cons, List.map_nil, D.mob.injEq, Mo.lst.injEq, Mem.put_same, Mem.put_put, ixN_30, ixN_32, ixN_10, exists_prop, fz_app, fz_inj, fz_snoc, OT.map_fz, List.length_map, List.length_append, List.append_nil, Nat.zero_add, cutL_1, items_tup, items_lst, items_scr, forD, compD, compS, comp2D, wipeE, D.isIn, List.any_cons, List.any_nil, String.reduceEq, D.plain, D.plains, D.dep, D.deps, Nat.max_self, Nat.min_self, Nat.zero_le, Nat.zero_min, Nat.min_zero, sizeLine_eq, forall_eq, exists_const, forall_const, kind_non, kind_bl, kind_int, kind_str, kind_lst, kind_tup, kind_dk, Kd.isa, reduceCtorEq, decide_false, decide_true, Bool.or_false, Bool.false_or, Bool.or_true, Bool.true_or, Bool.or_self, Bool.and_false, Bool.false_and, Bool.true_and, Bool.and_true, Bool.and_self, and_self, false_or, or_false, false_and, and_false, reduceIte, Bool.false_eq_true, Bool.not_eq_true, Bool.not_true, Bool.not_false, spTake]) | refine And.intro (by first | assumption | omega | decide) ?_ | omega | assumption)
  refine take_at (by decide) (by decide) (by omega : n ≤ _) hB fun shift M1 h0 h1 hB1 => ?_
  (try simp only [seqS_M, startE_cons, startE_nil, List.length_cons, List.length_nil, List.length_replicate, List.length_set, List.replicate_succ, List.replicate_zero, List.getElem?_cons_zero, List.getElem?_cons_succ, List.set_cons_zero, List.set_cons_succ, Option.some.injEq, OT.fz.injEq, OT.ow.injEq, D.int.injEq, D.str.injEq, D.bl.injEq, D.tup.injEq, D.lst.injEq, List.cons.injEq, exists_eq_left', exists_eq_left, exists_eq_right, and_true, true_and, OT.toD_fz, toD_map_fz, hIx_tup, hIx_lst, hIx_scr, hIx_mob, hIx_str, hIxT_fz, hIxT_ow, hAdd_int, hAdd_str, hAdd_tup, hAdd_lst, hMul_int, hMul_lst, hSl_tup, hSl_lst, hSl_str, hLen_lst, hLen_tup, hLen_scr, hLen_str, hLen_mob, hInt_int, hInt_bl, hAbs_int, hSeq_lst, hSeq_tup, hIn_lst, hIn_tup, hEq_eq, hI0_int, hI_int, ng_f, ng_t, atI_0, atI_1, atI_2, ofString_inj, eqv_str, eqv_txt, eqv_int, eqv_bl, eqv_tup, eqv_lst, eqOk_str, eqOk_int, eqOk_bl, eqOk_txt, decide_eq_true_eq, Nat.zero_lt_succ, exists_and_left, List.take_succ_cons, List.take_zero, List.drop_succ_cons, List.drop_zero, List.cons_append, List.nil_append, and_assoc, atI_map, Option.map_some, Nat.reduceAdd, Nat.reduceLT, Nat.reduceLeDiff, OT.toD_ow, List.map_cons, List.map_nil, D.mob.injEq, Mo.lst.injEq, Mem.put_same, Mem.put_put, ixN_30, ixN_32, ixN_10, exists_prop, fz_app, fz_inj, fz_snoc, OT.map_fz, List.length_map, List.length_append, List.append_nil, Nat.zero_add, cutL_1, items_tup, items_lst, items_scr, forD, compD, compS, comp2D, wipeE, D.isIn, List.any_cons, List.any_nil, String.reduceEq, D.plain, D.plains, D.dep, D.deps, Nat.max_self, Nat.min_self, Nat.zero_le, Nat.zero_min, Nat.min_zero, sizeLine_eq, forall_eq, exists_const, forall_const, kind_non, kind_bl, kind_int, kind_str, kind_lst, kind_tup, kind_dk, Kd.isa, reduceCtorEq, decide_false, decide_true, Bool.or_false, Bool.false_or, Bool.or_true, Bool.true_or, Bool.or_self, Bool.and_false, Bool.false_and, Bool.true_and, Bool.and_true, Bool.and_self, and_self, false_or, or_false, false_and, and_false, reduceIte, Bool.false_eq_true, Bool.not_eq_true, Bool.not_true, Bool.not_false, spTake]); repeat (first | (refine seq_in ?_; simp only [seqS_M, startE_cons, startE_nil, List.length_cons, List.length_nil, List.length_replicate, List.length_set, List.replicate_succ, List.replicate_zero, List.getElem?_cons_zero, List.getElem?_cons_succ, List.set_cons_zero, List.set_cons_succ, Option.some.injEq, OT.fz.injEq, OT.ow.injEq, D.int.injEq, D.str.injEq, D.bl.injEq, D.tup.injEq, D.lst.injEq, List.cons.injEq, exists_eq_left', exists_eq_left, exists_eq_right, and_true, true_and, OT.toD_fz, toD_map_fz, hIx_tup, hIx_lst, hIx_scr, hIx_mob, hIx_str, hIxT_fz, hIxT_ow, hAdd_int, hAdd_str, hAdd_tup, hAdd_lst, hMul_int, hMul_lst, hSl_tup, hSl_lst, hSl_str, hLen_lst, hLen_tup, hLen_scr, hLen_str, hLen_mob, hInt_int, hInt_bl, hAbs_int, hSeq_lst, hSeq_tup, hIn_lst, hIn_tup, hEq_eq, hI0_int, hI_int, ng_f, ng_t, atI_0, atI_1, atI_2, ofString_inj, eqv_str, eqv_txt, eqv_int, eqv_bl, eqv_tup, eqv_lst, eqOk_str, eqOk_int, eqOk_bl, eqOk_txt, decide_eq_true_eq, Nat.zero_lt_succ, exists_and_left, List.take_succ_cons, List.take_zero, List.drop_succ_cons, List.drop_zero, List.cons_append, List.nil_append, and_assoc, atI_map, Option.map_some, Nat.reduceAdd, Nat.reduceLT, Nat.reduceLeDiff, OT.toD_ow, List.map_cons, List.map_nil, D.mob.injEq, Mo.lst.injEq, Mem.put_same, Mem.put_put, ixN_30, ixN_32, ixN_10, exists_prop, fz_app, fz_inj, fz_snoc, OT.map_fz, List.length_map, List.length_append, List.append_nil, Nat.zero_add, cutL_1, items_tup, items_lst, items_scr, forD, compD, compS, comp2D, wipeE, D.isIn, List.any_cons, List.any_nil, String.reduceEq, D.plain, D.plains, D.dep, D.deps, Nat.max_self, Nat.min_self, Nat.zero_le, Nat.zero_min, Nat.min_zero, sizeLine_eq, forall_eq, exists_const, forall_const, kind_non, kind_bl, kind_int, kind_str, kind_lst, kind_tup, kind_dk, Kd.isa, reduceCtorEq, decide_false, decide_true, Bool.or_false, Bool.false_or, Bool.or_true, Bool.true_or, Bool.or_self, Bool.and_false, Bool.false_and, Bool.true_and, Bool.and_true, Bool.and_self, and_self, false_or, or_false, false_and, and_false, reduceIte, Bool.false_eq_true, Bool.not_eq_true, Bool.not_true, Bool.not_false, spTake]) | refine And.intro (by first | assumption | omega | decide) ?_ | omega | assumption)
  refine take_at (by decide) (by decide) (by omega : n + 1 ≤ _) hB1.is fun len M2 h2 h3 hB2 => ?_
  (try simp only [seqS_M, startE_cons, startE_nil, List.length_cons, List.length_nil, List.length_replicate, List.length_set, List.replicate_succ, List.replicate_zero, List.getElem?_cons_zero, List.getElem?_cons_succ, List.set_cons_zero, List.set_cons_succ, Option.some.injEq, OT.fz.injEq, OT.ow.injEq, D.int.injEq, D.str.injEq, D.bl.injEq, D.tup.injEq, D.lst.injEq, List.cons.injEq, exists_eq_left', exists_eq_left, exists_eq_right, and_true, true_and, OT.toD_fz, toD_map_fz, hIx_tup, hIx_lst, hIx_scr, hIx_mob, hIx_str, hIxT_fz, hIxT_ow, hAdd_int, hAdd_str, hAdd_tup, hAdd_lst, hMul_int, hMul_lst, hSl_tup, hSl_lst, hSl_str, hLen_lst, hLen_tup, hLen_scr, hLen_str, hLen_mob, hInt_int, hInt_bl, hAbs_int, hSeq_lst, hSeq_tup, hIn_lst, hIn_tup, hEq_eq, hI0_int, hI_int, ng_f, ng_t, atI_0, atI_1, atI_2, ofString_inj, eqv_str, eqv_txt, eqv_int, eqv_bl, eqv_tup, eqv_lst, eqOk_str, eqOk_int, eqOk_bl, eqOk_txt, decide_eq_true_eq, Nat.zero_lt_succ, exists_and_left, List.take_succ_cons, List.take_zero, List.drop_succ_cons, List.drop_zero, List.cons_append, List.nil_append, and_assoc, atI_map, Option.map_some, Nat.reduceAdd, Nat.reduceLT, Nat.reduceLeDiff, OT.toD_ow, List.map_cons, List.map_nil, D.mob.injEq, Mo.lst.injEq, Mem.put_same, Mem.put_put, ixN_30, ixN_32, ixN_10, exists_prop, fz_app, fz_inj, fz_snoc, OT.map_fz, List.length_map, List.length_append, List.append_nil, Nat.zero_add, cutL_1, items_tup, items_lst, items_scr, forD, compD, compS, comp2D, wipeE, D.isIn, List.any_cons, List.any_nil, String.reduceEq, D.plain, D.plains, D.dep, D.deps, Nat.max_self, Nat.min_self, Nat.zero_le, Nat.zero_min, Nat.min_zero, sizeLine_eq, forall_eq, exists_const, forall_const, kind_non, kind_bl, kind_int, kind_str, kind_lst, kind_tup, kind_dk, Kd.isa, reduceCtorEq, decide_false, decide_true, Bool.or_false, Bool.false_or, Bool.or_true, Bool.true_or, Bool.or_self, Bool.and_false, Bool.false_and, Bool.true_and, Bool.and_true, Bool.and_self, and_self, false_or, or_false, false_and, and_false, reduceIte, Bool.false_eq_true, Bool.not_eq_true, Bool.not_true, Bool.not_false, spTake]); repeat (first | (refine seq_in ?_; simp only [seqS_M, startE_cons, startE_nil, List.length_cons, List.length_nil, List.length_replicate, List.length_set, List.replicate_succ, List.replicate_zero, List.getElem?_cons_zero, List.getElem?_cons_succ, List.set_cons_zero, List.set_cons_succ, Option.some.injEq, OT.fz.injEq, OT.ow.injEq, D.int.injEq, D.str.injEq, D.bl.injEq, D.tup.injEq, D.lst.injEq, List.cons.injEq, exists_eq_left', exists_eq_left, exists_eq_right, and_true, true_and, OT.toD_fz, toD_map_fz, hIx_tup, hIx_lst, hIx_scr, hIx_mob, hIx_str, hIxT_fz, hIxT_ow, hAdd_int, hAdd_str, hAdd_tup, hAdd_lst, hMul_int, hMul_lst, hSl_tup, hSl_lst, hSl_str, hLen_lst, hLen_tup, hLen_scr, hLen_str, hLen_mob, hInt_int, hInt_bl, hAbs_int, hSeq_lst, hSeq_tup, hIn_lst, hIn_tup, hEq_eq, hI0_int, hI_int, ng_f, ng_t, atI_0, atI_1, atI_2, ofString_inj, eqv_str, eqv_txt, eqv_int, eqv_bl, eqv_tup, eqv_lst, eqOk_str, eqOk_int, eqOk_bl, eqOk_txt, decide_eq_true_eq, Nat.zero_lt_succ, exists_and_left, List.take_succ_cons, List.take_zero, List.drop_succ_cons, List.drop_zero, List.cons_append, List.nil_append, and_assoc, atI_map, Option.map_some, Nat.reduceAdd, Nat.reduceLT, Nat.reduceLeDiff, OT.toD_ow, List.map_cons, List.map_nil, D.mob.injEq, Mo.lst.injEq, Mem.put_same, Mem.put_put, ixN_30, ixN_32, ixN_10, exists_prop, fz_app, fz_inj, fz_snoc, OT.map_fz, List.length_map, List.length_append, List.append_nil, Nat.zero_add, cutL_1, items_tup, items_lst, items_scr, forD, compD, compS, comp2D, wipeE, D.isIn, List.any_cons, List.any_nil, String.reduceEq, D.plain, D.plains, D.dep, D.deps, Nat.max_self, Nat.min_self, Nat.zero_le, Nat.zero_min, Nat.min_zero, sizeLine_eq, forall_eq, exists_const, forall_const, kind_non, kind_bl, kind_int, kind_str, kind_lst, kind_tup, kind_dk, Kd.isa, reduceCtorEq, decide_false, decide_true, Bool.or_false, Bool.false_or, Bool.or_true, Bool.true_or, Bool.or_self, Bool.and_false, Bool.false_and, Bool.true_and, Bool.and_true, Bool.and_self, and_self, false_or, or_false, false_and, and_false, reduceIte, Bool.false_eq_true, Bool.not_eq_true, Bool.not_true, Bool.not_false, spTake]) | refine And.intro (by first | assumption | omega | decide) ?_ | omega | assumption)
  obtain ⟨len, rfl⟩ := Int.eq_ofNat_of_zero_le h2
  refine compD_rec (fun ds acc M' => acc.length + ds.length = len ∧ BoxTo p (n + 2 + acc.length) M M' ∧ ∃ ys : List Str, acc = (ys.map .str).map .fz ∧ ∀ y ∈ ys, Low y ∧ y.length = 1) _ _ _ ⟨by simp [rngD_len], hB1.trans hB2, [], rfl, fun _ h => nomatch h⟩ (fun acc M3 h => ?_) fun d ds acc M3 h C hC => ?_
  · obtain ⟨hl3, hB3, ys, rfl, hy⟩ := h
    obtain ⟨e1, e2⟩ := low_join hy
    rw [← TL.join_eq] at e1 e2
    have hl4 : ys.length = len := by simpa using hl3
    have hsum : (ys.map (·.length)).sum = ys.length := by
      clear hl3 hB3 e1 e2 hl4
      induction ys with
      | nil => rfl
      | cons y ys ih => rw [List.map_cons, List.sum_cons, ih fun z hz => hy z (List.mem_cons_of_mem _ hz), (hy y List.mem_cons_self).2, List.length_cons]; omega
    have e0 : (Str.ofString "").length = 0 := by decide +kernel
    refine ⟨ys, by rw [OT.map_fz], by rw [hsum, e0]; omega, ?_⟩
    generalize Txt.join (Str.ofString "") ys = stem at e1 e2 ⊢
    simp only [List.length_map] at hB3 hl3
    (try simp only [seqS_M, startE_cons, startE_nil, List.length_cons, List.length_nil, List.length_replicate, List.length_set, List.replicate_succ, List.replicate_zero, List.getElem?_cons_zero, List.getElem?_cons_succ, List.set_cons_zero, List.set_cons_succ, Option.some.injEq, OT.fz.injEq, OT.ow.injEq, D.int.injEq, D.str.injEq, D.bl.injEq, D.tup.injEq, D.lst.injEq, List.cons.injEq, exists_eq_left', exists_eq_left, exists_eq_right, and_true, true_and, OT.toD_fz, toD_map_fz, hIx_tup, hIx_lst, hIx_scr, hIx_mob, hIx_str, hIxT_fz, hIxT_ow, hAdd_int, hAdd_str, hAdd_tup, hAdd_lst, hMul_int, hMul_lst, hSl_tup, hSl_lst, hSl_str, hLen_lst, hLen_tup, hLen_scr, hLen_str, hLen_mob, hInt_int, hInt_bl, hAbs_int, hSeq_lst, hSeq_tup, hIn_lst, hIn_tup, hEq_eq, hI0_int, hI_int, ng_f, ng_t, atI_0, atI_1, atI_2, ofString_inj, eqv_str, eqv_txt, eqv_int, eqv_bl, eqv_tup, eqv_lst, eqOk_str, eqOk_int, eqOk_bl, eqOk_txt, decide_eq_true_eq, Nat.zero_lt_succ, exists_and_left, List.take_succ_cons, List.take_zero, List.drop_succ_cons, List.drop_zero, List.cons_append, List.nil_append, and_assoc, atI_map, Option.map_some, Nat.reduceAdd, Nat.reduceLT, Nat.reduceLeDiff, OT.toD_ow, List.map_cons, List.map_nil, D.mob.injEq, Mo.lst.injEq, Mem.put_same, Mem.put_put, ixN_30, ixN_32, ixN_10, exists_prop, fz_app, fz_inj, fz_snoc, OT.map_fz, List.length_map, List.length_append, List.append_nil, Nat.zero_add, cutL_1, items_tup, items_lst, items_scr, forD, compD, compS, comp2D, wipeE, D.isIn, List.any_cons, List.any_nil, String.reduceEq, D.plain, D.plains, D.dep, D.deps, Nat.max_self, Nat.min_self, Nat.zero_le, Nat.zero_min, Nat.min_zero, sizeLine_eq, forall_eq, exists_const, forall_const, kind_non, kind_bl, kind_int, kind_str, kind_lst, kind_tup, kind_dk, Kd.isa, reduceCtorEq, decide_false, decide_true, Bool.or_false, Bool.false_or, Bool.or_true, Bool.true_or, Bool.or_self, Bool.and_false, Bool.false_and, Bool.true_and, Bool.and_true, Bool.and_self, and_self, false_or, or_false, false_and, and_false, reduceIte, Bool.false_eq_true, Bool.not_eq_true, Bool.not_true, Bool.not_false, spTake]); repeat (first | (refine seq_in ?_; simp only [seqS_M, startE_cons, startE_nil, List.length_cons, List.length_nil, List.length_replicate, List.length_set, List.replicate_succ, List.replicate_zero, List.getElem?_cons_zero, List.getElem?_cons_succ, List.set_cons_zero, List.set_cons_succ, Option.some.injEq, OT.fz.injEq, OT.ow.injEq, D.int.injEq, D.str.injEq, D.bl.injEq, D.tup.injEq, D.lst.injEq, List.cons.injEq, exists_eq_left', exists_eq_left, exists_eq_right, and_true, true_and, OT.toD_fz, toD_map_fz, hIx_tup, hIx_lst, hIx_scr, hIx_mob, hIx_str, hIxT_fz, hIxT_ow, hAdd_int, hAdd_str, hAdd_tup, hAdd_lst, hMul_int, hMul_lst, hSl_tup, hSl_lst, hSl_str, hLen_lst, hLen_tup, hLen_scr, hLen_str, hLen_mob, hInt_int, hInt_bl, hAbs_int, hSeq_lst, hSeq_tup, hIn_lst, hIn_tup, hEq_eq, hI0_int, hI_int, ng_f, ng_t, atI_0, atI_1, atI_2, ofString_inj, eqv_str, eqv_txt, eqv_int, eqv_bl, eqv_tup, eqv_lst, eqOk_str, eqOk_int, eqOk_bl, eqOk_txt, decide_eq_true_eq, Nat.zero_lt_succ, exists_and_left, List.take_succ_cons, List.take_zero, List.drop_succ_cons, List.drop_zero, List.cons_append, List.nil_append, and_assoc, atI_map, Option.map_some, Nat.reduceAdd, Nat.reduceLT, Nat.reduceLeDiff, OT.toD_ow, List.map_cons, List.map_nil, D.mob.injEq, Mo.lst.injEq, Mem.put_same, Mem.put_put, ixN_30, ixN_32, ixN_10, exists_prop, fz_app, fz_inj, fz_snoc, OT.map_fz, List.length_map, List.length_append, List.append_nil, Nat.zero_add, cutL_1, items_tup, items_lst, items_scr, forD, compD, compS, comp2D, wipeE, D.isIn, List.any_cons, List.any_nil, String.reduceEq, D.plain, D.plains, D.dep, D.deps, Nat.max_self, Nat.min_self, Nat.zero_le, Nat.zero_min, Nat.min_zero, sizeLine_eq, forall_eq, exists_const, forall_const, kind_non, kind_bl, kind_int, kind_str, kind_lst, kind_tup, kind_dk, Kd.isa, reduceCtorEq, decide_false, decide_true, Bool.or_false, Bool.false_or, Bool.or_true, Bool.true_or, Bool.or_self, Bool.and_false, Bool.false_and, Bool.true_and, Bool.and_true, Bool.and_self, and_self, false_or, or_false, false_and, and_false, reduceIte, Bool.false_eq_true, Bool.not_eq_true, Bool.not_true, Bool.not_false, spTake]) | refine And.intro (by first | assumption | omega | decide) ?_ | omega | assumption)
    refine take_at (by omega) (by omega) (by omega : n + 2 + ys.length ≤ _) hB3.is fun spot M4 h4 h5 hB4 => ?_
    (try simp only [seqS_M, startE_cons, startE_nil, List.length_cons, List.length_nil, List.length_replicate, List.length_set, List.replicate_succ, List.replicate_zero, List.getElem?_cons_zero, List.getElem?_cons_succ, List.set_cons_zero, List.set_cons_succ, Option.some.injEq, OT.fz.injEq, OT.ow.injEq, D.int.injEq, D.str.injEq, D.bl.injEq, D.tup.injEq, D.lst.injEq, List.cons.injEq, exists_eq_left', exists_eq_left, exists_eq_right, and_true, true_and, OT.toD_fz, toD_map_fz, hIx_tup, hIx_lst, hIx_scr, hIx_mob, hIx_str, hIxT_fz, hIxT_ow, hAdd_int, hAdd_str, hAdd_tup, hAdd_lst, hMul_int, hMul_lst, hSl_tup, hSl_lst, hSl_str, hLen_lst, hLen_tup, hLen_scr, hLen_str, hLen_mob, hInt_int, hInt_bl, hAbs_int, hSeq_lst, hSeq_tup, hIn_lst, hIn_tup, hEq_eq, hI0_int, hI_int, ng_f, ng_t, atI_0, atI_1, atI_2, ofString_inj, eqv_str, eqv_txt, eqv_int, eqv_bl, eqv_tup, eqv_lst, eqOk_str, eqOk_int, eqOk_bl, eqOk_txt, decide_eq_true_eq, Nat.zero_lt_succ, exists_and_left, List.take_succ_cons, List.take_zero, List.drop_succ_cons, List.drop_zero, List.cons_append, List.nil_append, and_assoc, atI_map, Option.map_some, Nat.reduceAdd, Nat.reduceLT, Nat.reduceLeDiff, OT.toD_ow, List.map_cons, List.map_nil, D.mob.injEq, Mo.lst.injEq, Mem.put_same, Mem.put_put, ixN_30, ixN_32, ixN_10, exists_prop, fz_app, fz_inj, fz_snoc, OT.map_fz, List.length_map, List.length_append, List.append_nil, Nat.zero_add, cutL_1, items_tup, items_lst, items_scr, forD, compD, compS, comp2D, wipeE, D.isIn, List.any_cons, List.any_nil, String.reduceEq, D.plain, D.plains, D.dep, D.deps, Nat.max_self, Nat.min_self, Nat.zero_le, Nat.zero_min, Nat.min_zero, sizeLine_eq, forall_eq, exists_const, forall_const, kind_non, kind_bl, kind_int, kind_str, kind_lst, kind_tup, kind_dk, Kd.isa, reduceCtorEq, decide_false, decide_true, Bool.or_false, Bool.false_or, Bool.or_true, Bool.true_or, Bool.or_self, Bool.and_false, Bool.false_and, Bool.true_and, Bool.and_true, Bool.and_self, and_self, false_or, or_false, false_and, and_false, reduceIte, Bool.false_eq_true, Bool.not_eq_true, Bool.not_true, Bool.not_false, spTake]); repeat (first | (refine seq_in ?_; simp only [seqS_M, startE_cons, startE_nil, List.length_cons, List.length_nil, List.length_replicate, List.length_set, List.replicate_succ, List.replicate_zero, List.getElem?_cons_zero, List.getElem?_cons_succ, List.set_cons_zero, List.set_cons_succ, Option.some.injEq, OT.fz.injEq, OT.ow.injEq, D.int.injEq, D.str.injEq, D.bl.injEq, D.tup.injEq, D.lst.injEq, List.cons.injEq, exists_eq_left', exists_eq_left, exists_eq_right, and_true, true_and, OT.toD_fz, toD_map_fz, hIx_tup, hIx_lst, hIx_scr, hIx_mob, hIx_str, hIxT_fz, hIxT_ow, hAdd_int, hAdd_str, hAdd_tup, hAdd_lst, hMul_int, hMul_lst, hSl_tup, hSl_lst, hSl_str, hLen_lst, hLen_tup, hLen_scr, hLen_str, hLen_mob, hInt_int, hInt_bl, hAbs_int, hSeq_lst, hSeq_tup, hIn_lst, hIn_tup, hEq_eq, hI0_int, hI_int, ng_f, ng_t, atI_0, atI_1, atI_2, ofString_inj, eqv_str, eqv_txt, eqv_int, eqv_bl, eqv_tup, eqv_lst, eqOk_str, eqOk_int, eqOk_bl, eqOk_txt, decide_eq_true_eq, Nat.zero_lt_succ, exists_and_left, List.take_succ_cons, List.take_zero, List.drop_succ_cons, List.drop_zero, List.cons_append, List.nil_append, and_assoc, atI_map, Option.map_some, Nat.reduceAdd, Nat.reduceLT, Nat.reduceLeDiff, OT.toD_ow, List.map_cons, List.map_nil, D.mob.injEq, Mo.lst.injEq, Mem.put_same, Mem.put_put, ixN_30, ixN_32, ixN_10, exists_prop, fz_app, fz_inj, fz_snoc, OT.map_fz, List.length_map, List.length_append, List.append_nil, Nat.zero_add, cutL_1, items_tup, items_lst, items_scr, forD, compD, compS, comp2D, wipeE, D.isIn, List.any_cons, List.any_nil, String.reduceEq, D.plain, D.plains, D.dep, D.deps, Nat.max_self, Nat.min_self, Nat.zero_le, Nat.zero_min, Nat.min_zero, sizeLine_eq, forall_eq, exists_const, forall_const, kind_non, kind_bl, kind_int, kind_str, kind_lst, kind_tup, kind_dk, Kd.isa, reduceCtorEq, decide_false, decide_true, Bool.or_false, Bool.false_or, Bool.or_true, Bool.true_or, Bool.or_self, Bool.and_false, Bool.false_and, Bool.true_and, Bool.and_true, Bool.and_self, and_self, false_or, or_false, false_and, and_false, reduceIte, Bool.false_eq_true, Bool.not_eq_true, Bool.not_true, Bool.not_false, spTake]) | refine And.intro (by first | assumption | omega | decide) ?_ | omega | assumption)
    refine take_at (by decide) (by decide) (by omega : n + 2 + ys.length + 1 ≤ _) hB4.is fun longer M5 h6 h7 hB5 => ?_
    (try simp only [seqS_M, startE_cons, startE_nil, List.length_cons, List.length_nil, List.length_replicate, List.length_set, List.replicate_succ, List.replicate_zero, List.getElem?_cons_zero, List.getElem?_cons_succ, List.set_cons_zero, List.set_cons_succ, Option.some.injEq, OT.fz.injEq, OT.ow.injEq, D.int.injEq, D.str.injEq, D.bl.injEq, D.tup.injEq, D.lst.injEq, List.cons.injEq, exists_eq_left', exists_eq_left, exists_eq_right, and_true, true_and, OT.toD_fz, toD_map_fz, hIx_tup, hIx_lst, hIx_scr, hIx_mob, hIx_str, hIxT_fz, hIxT_ow, hAdd_int, hAdd_str, hAdd_tup, hAdd_lst, hMul_int, hMul_lst, hSl_tup, hSl_lst, hSl_str, hLen_lst, hLen_tup, hLen_scr, hLen_str, hLen_mob, hInt_int, hInt_bl, hAbs_int, hSeq_lst, hSeq_tup, hIn_lst, hIn_tup, hEq_eq, hI0_int, hI_int, ng_f, ng_t, atI_0, atI_1, atI_2, ofString_inj, eqv_str, eqv_txt, eqv_int, eqv_bl, eqv_tup, eqv_lst, eqOk_str, eqOk_int, eqOk_bl, eqOk_txt, decide_eq_true_eq, Nat.zero_lt_succ, exists_and_left, List.take_succ_cons, List.take_zero, List.drop_succ_cons, List.drop_zero, List.cons_append, List.nil_append, and_assoc, atI_map, Option.map_some, Nat.reduceAdd, Nat.reduceLT, Nat.reduceLeDiff, OT.toD_ow, List.map_cons, List.map_nil, D.mob.injEq, Mo.lst.injEq, Mem.put_same, Mem.put_put, ixN_30, ixN_32, ixN_10, exists_prop, fz_app, fz_inj, fz_snoc, OT.map_fz, List.length_map, List.length_append, List.append_nil, Nat.zero_add, cutL_1, items_tup, items_lst, items_scr, forD, compD, compS, comp2D, wipeE, D.isIn, List.any_cons, List.any_nil, String.reduceEq, D.plain, D.plains, D.dep, D.deps, Nat.max_self, Nat.min_self, Nat.zero_le, Nat.zero_min, Nat.min_zero, sizeLine_eq, forall_eq, exists_const, forall_const, kind_non, kind_bl, kind_int, kind_str, kind_lst, kind_tup, kind_dk, Kd.isa, reduceCtorEq, decide_false, decide_true, Bool.or_false, Bool.false_or, Bool.or_true, Bool.true_or, Bool.or_self, Bool.and_false, Bool.false_and, Bool.true_and, Bool.and_true, Bool.and_self, and_self, false_or, or_false, false_and, and_false, reduceIte, Bool.false_eq_true, Bool.not_eq_true, Bool.not_true, Bool.not_false, spTake]); repeat (first | (refine seq_in ?_; simp only [seqS_M, startE_cons, startE_nil, List.length_cons, List.length_nil, List.length_replicate, List.length_set, List.replicate_succ, List.replicate_zero, List.getElem?_cons_zero, List.getElem?_cons_succ, List.set_cons_zero, List.set_cons_succ, Option.some.injEq, OT.fz.injEq, OT.ow.injEq, D.int.injEq, D.str.injEq, D.bl.injEq, D.tup.injEq, D.lst.injEq, List.cons.injEq, exists_eq_left', exists_eq_left, exists_eq_right, and_true, true_and, OT.toD_fz, toD_map_fz, hIx_tup, hIx_lst, hIx_scr, hIx_mob, hIx_str, hIxT_fz, hIxT_ow, hAdd_int, hAdd_str, hAdd_tup, hAdd_lst, hMul_int, hMul_lst, hSl_tup, hSl_lst, hSl_str, hLen_lst, hLen_tup, hLen_scr, hLen_str, hLen_mob, hInt_int, hInt_bl, hAbs_int, hSeq_lst, hSeq_tup, hIn_lst, hIn_tup, hEq_eq, hI0_int, hI_int, ng_f, ng_t, atI_0, atI_1, atI_2, ofString_inj, eqv_str, eqv_txt, eqv_int, eqv_bl, eqv_tup, eqv_lst, eqOk_str, eqOk_int, eqOk_bl, eqOk_txt, decide_eq_true_eq, Nat.zero_lt_succ, exists_and_left, List.take_succ_cons, List.take_zero, List.drop_succ_cons, List.drop_zero, List.cons_append, List.nil_append, and_assoc, atI_map, Option.map_some, Nat.reduceAdd, Nat.reduceLT, Nat.reduceLeDiff, OT.toD_ow, List.map_cons, List.map_nil, D.mob.injEq, Mo.lst.injEq, Mem.put_same, Mem.put_put, ixN_30, ixN_32, ixN_10, exists_prop, fz_app, fz_inj, fz_snoc, OT.map_fz, List.length_map, List.length_append, List.append_nil, Nat.zero_add, cutL_1, items_tup, items_lst, items_scr, forD, compD, compS, comp2D, wipeE, D.isIn, List.any_cons, List.any_nil, String.reduceEq, D.plain, D.plains, D.dep, D.deps, Nat.max_self, Nat.min_self, Nat.zero_le, Nat.zero_min, Nat.min_zero, sizeLine_eq, forall_eq, exists_const, forall_const, kind_non, kind_bl, kind_int, kind_str, kind_lst, kind_tup, kind_dk, Kd.isa, reduceCtorEq, decide_false, decide_true, Bool.or_false, Bool.false_or, Bool.or_true, Bool.true_or, Bool.or_self, Bool.and_false, Bool.false_and, Bool.true_and, Bool.and_true, Bool.and_self, and_self, false_or, or_false, false_and, and_false, reduceIte, Bool.false_eq_true, Bool.not_eq_true, Bool.not_true, Bool.not_false, spTake]) | refine And.intro (by first | assumption | omega | decide) ?_ | omega | assumption)

    obtain ⟨spot, rfl⟩ := Int.eq_ofNat_of_zero_le h4
    obtain ⟨size, rfl⟩ := Int.eq_ofNat_of_zero_le hs1
    have hB6 : BoxTo p (n + 20) M M5 := ((hB3.trans hB4).trans hB5).mono (by omega)
    refine forD_rec (fun ds ρ M' => M' = M5 ∧ ∃ (a : Nat) (xs : List Str) (u v : Option OT), ds = rngD a (size - a) ∧ a ≤ size ∧ xs.length = a ∧ ρ = [some (.fz (.mob p)), some (.fz (.int size)), some (.fz (.str abc)), some (.fz (.int shift)), some (.fz (.str stem)), some (.fz (.int spot)), some (.fz (.int longer)), some (.ow ((xs.map .str).map .fz)), u, v, none] ∧
      ∀ i x, xs[i]? = some x → Low x ∧ x.length ≤ 8 ∧ (i % 2 = 0 → x.length ≤ 7)) _ _ _ ⟨rfl, 0, [], none, none, rfl, by omega, rfl, rfl, fun i x h => by simp at h⟩ (fun ρ M' h => ?_) fun d ds ρ M' h C hC => ?_
    · obtain ⟨rfl, a, xs, u, v, hds, ha, hx, rfl, hall⟩ := h
      have : a = size := by
        have := congrArg List.length hds
        rw [rngD_len] at this
        simp at this
        omega
      subst this
      (try simp only [seqS_M, startE_cons, startE_nil, List.length_cons, List.length_nil, List.length_replicate, List.length_set, List.replicate_succ, List.replicate_zero, List.getElem?_cons_zero, List.getElem?_cons_succ, List.set_cons_zero, List.set_cons_succ, Option.some.injEq, OT.fz.injEq, OT.ow.injEq, D.int.injEq, D.str.injEq, D.bl.injEq, D.tup.injEq, D.lst.injEq, List.cons.injEq, exists_eq_left', exists_eq_left, exists_eq_right, and_true, true_and, OT.toD_fz, toD_map_fz, hIx_tup, hIx_lst, hIx_scr, hIx_mob, hIx_str, hIxT_fz, hIxT_ow, hAdd_int, hAdd_str, hAdd_tup, hAdd_lst, hMul_int, hMul_lst, hSl_tup, hSl_lst, hSl_str, hLen_lst, hLen_tup, hLen_scr, hLen_str, hLen_mob, hInt_int, hInt_bl, hAbs_int, hSeq_lst, hSeq_tup, hIn_lst, hIn_tup, hEq_eq, hI0_int, hI_int, ng_f, ng_t, atI_0, atI_1, atI_2, ofString_inj, eqv_str, eqv_txt, eqv_int, eqv_bl, eqv_tup, eqv_lst, eqOk_str, eqOk_int, eqOk_bl, eqOk_txt, decide_eq_true_eq, Nat.zero_lt_succ, exists_and_left, List.take_succ_cons, List.take_zero, List.drop_succ_cons, List.drop_zero, List.cons_append, List.nil_append, and_assoc, atI_map, Option.map_some, Nat.reduceAdd, Nat.reduceLT, Nat.reduceLeDiff, OT.toD_ow, List.map_cons, List.map_nil, D.mob.injEq, Mo.lst.injEq, Mem.put_same, Mem.put_put, ixN_30, ixN_32, ixN_10, exists_prop, fz_app, fz_inj, fz_snoc, OT.map_fz, List.length_map, List.length_append, List.append_nil, Nat.zero_add, cutL_1, items_tup, items_lst, items_scr, forD, compD, compS, comp2D, wipeE, D.isIn, List.any_cons, List.any_nil, String.reduceEq, D.plain, D.plains, D.dep, D.deps, Nat.max_self, Nat.min_self, Nat.zero_le, Nat.zero_min, Nat.min_zero, sizeLine_eq, forall_eq, exists_const, forall_const, kind_non, kind_bl, kind_int, kind_str, kind_lst, kind_tup, kind_dk, Kd.isa, reduceCtorEq, decide_false, decide_true, Bool.or_false, Bool.false_or, Bool.or_true, Bool.true_or, Bool.or_self, Bool.and_false, Bool.false_and, Bool.true_and, Bool.and_true, Bool.and_self, and_self, false_or, or_false, false_and, and_false, reduceIte, Bool.false_eq_true, Bool.not_eq_true, Bool.not_true, Bool.not_false, spNames]); repeat (first | (refine seq_in ?_; simp only [seqS_M, startE_cons, startE_nil, List.length_cons, List.length_nil, List.length_replicate, List.length_set, List.replicate_succ, List.replicate_zero, List.getElem?_cons_zero, List.getElem?_cons_succ, List.set_cons_zero, List.set_cons_succ, Option.some.injEq, OT.fz.injEq, OT.ow.injEq, D.int.injEq, D.str.injEq, D.bl.injEq, D.tup.injEq, D.lst.injEq, List.cons.injEq, exists_eq_left', exists_eq_left, exists_eq_right, and_true, true_and, OT.toD_fz, toD_map_fz, hIx_tup, hIx_lst, hIx_scr, hIx_mob, hIx_str, hIxT_fz, hIxT_ow, hAdd_int, hAdd_str, hAdd_tup, hAdd_lst, hMul_int, hMul_lst, hSl_tup, hSl_lst, hSl_str, hLen_lst, hLen_tup, hLen_scr, hLen_str, hLen_mob, hInt_int, hInt_bl, hAbs_int, hSeq_lst, hSeq_tup, hIn_lst, hIn_tup, hEq_eq, hI0_int, hI_int, ng_f, ng_t, atI_0, atI_1, atI_2, ofString_inj, eqv_str, eqv_txt, eqv_int, eqv_bl, eqv_tup, eqv_lst, eqOk_str, eqOk_int, eqOk_bl, eqOk_txt, decide_eq_true_eq, Nat.zero_lt_succ, exists_and_left, List.take_succ_cons, List.take_zero, List.drop_succ_cons, List.drop_zero, List.cons_append, List.nil_append, and_assoc, atI_map, Option.map_some, Nat.reduceAdd, Nat.reduceLT, Nat.reduceLeDiff, OT.toD_ow, List.map_cons, List.map_nil, D.mob.injEq, Mo.lst.injEq, Mem.put_same, Mem.put_put, ixN_30, ixN_32, ixN_10, exists_prop, fz_app, fz_inj, fz_snoc, OT.map_fz, List.length_map, List.length_append, List.append_nil, Nat.zero_add, cutL_1, items_tup, items_lst, items_scr, forD, compD, compS, comp2D, wipeE, D.isIn, List.any_cons, List.any_nil, String.reduceEq, D.plain, D.plains, D.dep, D.deps, Nat.max_self, Nat.min_self, Nat.zero_le, Nat.zero_min, Nat.min_zero, sizeLine_eq, forall_eq, exists_const, forall_const, kind_non, kind_bl, kind_int, kind_str, kind_lst, kind_tup, kind_dk, Kd.isa, reduceCtorEq, decide_false, decide_true, Bool.or_false, Bool.false_or, Bool.or_true, Bool.true_or, Bool.or_self, Bool.and_false, Bool.false_and, Bool.true_and, Bool.and_true, Bool.and_self, and_self, false_or, or_false, false_and, and_false, reduceIte, Bool.false_eq_true, Bool.not_eq_true, Bool.not_true, Bool.not_false, spNames]) | refine And.intro (by first | assumption | omega | decide) ?_ | omega | assumption)
      refine ⟨xs, rfl, by omega, fun x hx => ?_, hB6⟩
      obtain ⟨i, hi, e⟩ := List.mem_iff_getElem.mp hx
      have := hall i x (by rw [List.getElem?_eq_getElem hi, e])
      exact ⟨this.1, this.2.1⟩
    · obtain ⟨rfl, a, xs, u, v, hds, ha, hx, rfl, hall⟩ := h
      have hlt : a < size := by
        have := congrArg List.length hds
        rw [rngD_len] at this
        simp at this
        omega
      obtain ⟨m, hm⟩ : ∃ m, size - a = m + 1 := ⟨size - a - 1, by omega⟩
      rw [hm, rngD_cons] at hds
      obtain ⟨rfl, rfl⟩ := List.cons.inj hds
      have hm2 : rngD ((a : Int) + 1) m = rngD ((a + 1 : Nat) : Int) (size - (a + 1)) := by rw [show m = size - (a + 1) by omega]; rfl
      obtain ⟨c, hc, lc⟩ := abc_at (r := (shift + 3 * a) % 26) (Int.emod_nonneg _ (by decide)) (Int.emod_lt_of_pos _ (by decide))
      have l1 : (⟨#[c]⟩ : Str).length = 1 := rfl
      have l2 := len_cut (x := stem) (s := spot)
      have l3 : (cutS stem none (some (spot : Int)) ++ ⟨#[c]⟩).length = (cutS stem none (some (spot : Int))).length + 1 := len_app
      have nlow : Low (cutS stem none (some (spot : Int)) ++ ⟨#[c]⟩ ++ cutS stem (some (spot : Int)) none) := low_app (low_app (low_cut e1 _ _) lc) (low_cut e1 _ _)
      have nlen : (cutS stem none (some (spot : Int)) ++ ⟨#[c]⟩ ++ cutS stem (some (spot : Int)) none).length ≤ 7 := by rw [len_app, l3]; omega
      have l5 := cmul_l (i := 3) (j := (a : Int)) (by decide) (by decide)
      have l6 : (cutS stem none (some (spot : Int)) ++ ⟨#[c]⟩).length + (cutS stem (some (spot : Int)) none).length ≤ 16777216 := by rw [l3]; omega
      (try simp only [seqS_M, startE_cons, startE_nil, List.length_cons, List.length_nil, List.length_replicate, List.length_set, List.replicate_succ, List.replicate_zero, List.getElem?_cons_zero, List.getElem?_cons_succ, List.set_cons_zero, List.set_cons_succ, Option.some.injEq, OT.fz.injEq, OT.ow.injEq, D.int.injEq, D.str.injEq, D.bl.injEq, D.tup.injEq, D.lst.injEq, List.cons.injEq, exists_eq_left', exists_eq_left, exists_eq_right, and_true, true_and, OT.toD_fz, toD_map_fz, hIx_tup, hIx_lst, hIx_scr, hIx_mob, hIx_str, hIxT_fz, hIxT_ow, hAdd_int, hAdd_str, hAdd_tup, hAdd_lst, hMul_int, hMul_lst, hSl_tup, hSl_lst, hSl_str, hLen_lst, hLen_tup, hLen_scr, hLen_str, hLen_mob, hInt_int, hInt_bl, hAbs_int, hSeq_lst, hSeq_tup, hIn_lst, hIn_tup, hEq_eq, hI0_int, hI_int, ng_f, ng_t, atI_0, atI_1, atI_2, ofString_inj, eqv_str, eqv_txt, eqv_int, eqv_bl, eqv_tup, eqv_lst, eqOk_str, eqOk_int, eqOk_bl, eqOk_txt, decide_eq_true_eq, Nat.zero_lt_succ, exists_and_left, List.take_succ_cons, List.take_zero, List.drop_succ_cons, List.drop_zero, List.cons_append, List.nil_append, and_assoc, atI_map, Option.map_some, Nat.reduceAdd, Nat.reduceLT, Nat.reduceLeDiff, OT.toD_ow, List.map_cons, List.map_nil, D.mob.injEq, Mo.lst.injEq, Mem.put_same, Mem.put_put, ixN_30, ixN_32, ixN_10, exists_prop, fz_app, fz_inj, fz_snoc, OT.map_fz, List.length_map, List.length_append, List.append_nil, Nat.zero_add, cutL_1, items_tup, items_lst, items_scr, forD, compD, compS, comp2D, wipeE, D.isIn, List.any_cons, List.any_nil, String.reduceEq, D.plain, D.plains, D.dep, D.deps, Nat.max_self, Nat.min_self, Nat.zero_le, Nat.zero_min, Nat.min_zero, sizeLine_eq, forall_eq, exists_const, forall_const, kind_non, kind_bl, kind_int, kind_str, kind_lst, kind_tup, kind_dk, Kd.isa, reduceCtorEq, decide_false, decide_true, Bool.or_false, Bool.false_or, Bool.or_true, Bool.true_or, Bool.or_self, Bool.and_false, Bool.false_and, Bool.true_and, Bool.and_true, Bool.and_self, and_self, false_or, or_false, false_and, and_false, reduceIte, Bool.false_eq_true, Bool.not_eq_true, Bool.not_true, Bool.not_false, hc, abc_len]); repeat (first | (refine seq_in ?_; simp only [seqS_M, startE_cons, startE_nil, List.length_cons, List.length_nil, List.length_replicate, List.length_set, List.replicate_succ, List.replicate_zero, List.getElem?_cons_zero, List.getElem?_cons_succ, List.set_cons_zero, List.set_cons_succ, Option.some.injEq, OT.fz.injEq, OT.ow.injEq, D.int.injEq, D.str.injEq, D.bl.injEq, D.tup.injEq, D.lst.injEq, List.cons.injEq, exists_eq_left', exists_eq_left, exists_eq_right, and_true, true_and, OT.toD_fz, toD_map_fz, hIx_tup, hIx_lst, hIx_scr, hIx_mob, hIx_str, hIxT_fz, hIxT_ow, hAdd_int, hAdd_str, hAdd_tup, hAdd_lst, hMul_int, hMul_lst, hSl_tup, hSl_lst, hSl_str, hLen_lst, hLen_tup, hLen_scr, hLen_str, hLen_mob, hInt_int, hInt_bl, hAbs_int, hSeq_lst, hSeq_tup, hIn_lst, hIn_tup, hEq_eq, hI0_int, hI_int, ng_f, ng_t, atI_0, atI_1, atI_2, ofString_inj, eqv_str, eqv_txt, eqv_int, eqv_bl, eqv_tup, eqv_lst, eqOk_str, eqOk_int, eqOk_bl, eqOk_txt, decide_eq_true_eq, Nat.zero_lt_succ, exists_and_left, List.take_succ_cons, List.take_zero, List.drop_succ_cons, List.drop_zero, List.cons_append, List.nil_append, and_assoc, atI_map, Option.map_some, Nat.reduceAdd, Nat.reduceLT, Nat.reduceLeDiff, OT.toD_ow, List.map_cons, List.map_nil, D.mob.injEq, Mo.lst.injEq, Mem.put_same, Mem.put_put, ixN_30, ixN_32, ixN_10, exists_prop, fz_app, fz_inj, fz_snoc, OT.map_fz, List.length_map, List.length_append, List.append_nil, Nat.zero_add, cutL_1, items_tup, items_lst, items_scr, forD, compD, compS, comp2D, wipeE, D.isIn, List.any_cons, List.any_nil, String.reduceEq, D.plain, D.plains, D.dep, D.deps, Nat.max_self, Nat.min_self, Nat.zero_le, Nat.zero_min, Nat.min_zero, sizeLine_eq, forall_eq, exists_const, forall_const, kind_non, kind_bl, kind_int, kind_str, kind_lst, kind_tup, kind_dk, Kd.isa, reduceCtorEq, decide_false, decide_true, Bool.or_false, Bool.false_or, Bool.or_true, Bool.true_or, Bool.or_self, Bool.and_false, Bool.false_and, Bool.true_and, Bool.and_true, Bool.and_self, and_self, false_or, or_false, false_and, and_false, reduceIte, Bool.false_eq_true, Bool.not_eq_true, Bool.not_true, Bool.not_false, hc, abc_len]) | refine And.intro (by first | assumption | omega | decide) ?_ | omega | assumption)

      generalize (cutS stem none (some (spot : Int)) ++ ⟨#[c]⟩ ++ cutS stem (some (spot : Int)) none) = nw at nlow nlen ⊢
      have keep : ∀ i x, (xs ++ [nw])[i]? = some x → Low x ∧ x.length ≤ 8 ∧ (i % 2 = 0 → x.length ≤ 7) := fun i x e => by
        rw [List.getElem?_append] at e
        split at e
        · exact hall i x e
        · rename_i hi
          have : i - xs.length = 0 := by
            cases q : i - xs.length with
            | zero => rfl
            | succ k => rw [q] at e; simp at e
          rw [this] at e
          simp at e
          subst e
          exact ⟨nlow, by omega, fun _ => nlen⟩
      have done : ∀ (zs : List Str) (w : Option OT), zs.length = a + 1 → (∀ i x, zs[i]? = some x → Low x ∧ x.length ≤ 8 ∧ (i % 2 = 0 → x.length ≤ 7)) → C [some (.fz (.mob p)), some (.fz (.int size)), some (.fz (.str abc)), some (.fz (.int shift)), some (.fz (.str stem)), some (.fz (.int spot)), some (.fz (.int longer)), some (.ow ((zs.map .str).map .fz)), some (.fz (.int a)), w, none] M' :=
        fun zs w hz hall' => hC _ _ ⟨rfl, a + 1, zs, some (.fz (.int a)), w, hm2, by omega, hz, rfl, hall'⟩
      have plain : C [some (.fz (.mob p)), some (.fz (.int size)), some (.fz (.str abc)), some (.fz (.int shift)), some (.fz (.str stem)), some (.fz (.int spot)), some (.fz (.int longer)), some (.ow ((xs.map D.str ++ [D.str nw]).map .fz)), some (.fz (.int a)), some (.fz (.str ⟨#[c]⟩)), none] M' := by
        have := done (xs ++ [nw]) (some (.fz (.str ⟨#[c]⟩))) (by simp [hx]) keep
        rwa [List.map_append] at this
      split
      · refine ⟨by decide, ?_⟩
        split
        · rename_i hodd
          obtain ⟨b, rfl⟩ : ∃ b, a = b + 1 := ⟨a - 1, by omega⟩
          have hb : b < xs.length := by omega
          have e3 : atI (xs.map D.str ++ [D.str nw]) (((b + 1 : Nat) : Int) - 1) = some (.str xs[b]) := by
            rw [show (((b + 1 : Nat) : Int) - 1) = (b : Int) by omega]
            refine atI_nat ?_
            rw [List.getElem?_append_left (by rw [List.length_map]; exact hb), List.getElem?_map, List.getElem?_eq_getElem hb]
            rfl
          have o := hall b xs[b] (List.getElem?_eq_getElem hb)
          obtain ⟨c2, hc2, lc2⟩ := abc_at (r := (shift + ((b + 1 : Nat) : Int)) % 26) (Int.emod_nonneg _ (by decide)) (Int.emod_lt_of_pos _ (by decide))
          have o7 : xs[b].length ≤ 7 := o.2.2 (by omega)
          have l4 : (⟨#[c2]⟩ : Str).length = 1 := rfl
          have e6 : ixN (xs.length + 1) (((b + 1 : Nat) : Int)) = some (b + 1) := by
            unfold ixN
            rw [if_pos (by omega), if_pos (by omega)]
            rfl
          (try simp only [seqS_M, startE_cons, startE_nil, List.length_cons, List.length_nil, List.length_replicate, List.length_set, List.replicate_succ, List.replicate_zero, List.getElem?_cons_zero, List.getElem?_cons_succ, List.set_cons_zero, List.set_cons_succ, Option.some.injEq, OT.fz.injEq, OT.ow.injEq, D.int.injEq, D.str.injEq, D.bl.injEq, D.tup.injEq, D.lst.injEq, List.cons.injEq, exists_eq_left', exists_eq_left, exists_eq_right, and_true, true_and, OT.toD_fz, toD_map_fz, hIx_tup, hIx_lst, hIx_scr, hIx_mob, hIx_str, hIxT_fz, hIxT_ow, hAdd_int, hAdd_str, hAdd_tup, hAdd_lst, hMul_int, hMul_lst, hSl_tup, hSl_lst, hSl_str, hLen_lst, hLen_tup, hLen_scr, hLen_str, hLen_mob, hInt_int, hInt_bl, hAbs_int, hSeq_lst, hSeq_tup, hIn_lst, hIn_tup, hEq_eq, hI0_int, hI_int, ng_f, ng_t, atI_0, atI_1, atI_2, ofString_inj, eqv_str, eqv_txt, eqv_int, eqv_bl, eqv_tup, eqv_lst, eqOk_str, eqOk_int, eqOk_bl, eqOk_txt, decide_eq_true_eq, Nat.zero_lt_succ, exists_and_left, List.take_succ_cons, List.take_zero, List.drop_succ_cons, List.drop_zero, List.cons_append, List.nil_append, and_assoc, atI_map, Option.map_some, Nat.reduceAdd, Nat.reduceLT, Nat.reduceLeDiff, OT.toD_ow, List.map_cons, List.map_nil, D.mob.injEq, Mo.lst.injEq, Mem.put_same, Mem.put_put, ixN_30, ixN_32, ixN_10, exists_prop, fz_app, fz_inj, fz_snoc, OT.map_fz, List.length_map, List.length_append, List.append_nil, Nat.zero_add, cutL_1, items_tup, items_lst, items_scr, forD, compD, compS, comp2D, wipeE, D.isIn, List.any_cons, List.any_nil, String.reduceEq, D.plain, D.plains, D.dep, D.deps, Nat.max_self, Nat.min_self, Nat.zero_le, Nat.zero_min, Nat.min_zero, sizeLine_eq, forall_eq, exists_const, forall_const, kind_non, kind_bl, kind_int, kind_str, kind_lst, kind_tup, kind_dk, Kd.isa, reduceCtorEq, decide_false, decide_true, Bool.or_false, Bool.false_or, Bool.or_true, Bool.true_or, Bool.or_self, Bool.and_false, Bool.false_and, Bool.true_and, Bool.and_true, Bool.and_self, and_self, false_or, or_false, false_and, and_false, reduceIte, Bool.false_eq_true, Bool.not_eq_true, Bool.not_true, Bool.not_false, hc2, e3, e6, abc_len]); repeat (first | (refine seq_in ?_; simp only [seqS_M, startE_cons, startE_nil, List.length_cons, List.length_nil, List.length_replicate, List.length_set, List.replicate_succ, List.replicate_zero, List.getElem?_cons_zero, List.getElem?_cons_succ, List.set_cons_zero, List.set_cons_succ, Option.some.injEq, OT.fz.injEq, OT.ow.injEq, D.int.injEq, D.str.injEq, D.bl.injEq, D.tup.injEq, D.lst.injEq, List.cons.injEq, exists_eq_left', exists_eq_left, exists_eq_right, and_true, true_and, OT.toD_fz, toD_map_fz, hIx_tup, hIx_lst, hIx_scr, hIx_mob, hIx_str, hIxT_fz, hIxT_ow, hAdd_int, hAdd_str, hAdd_tup, hAdd_lst, hMul_int, hMul_lst, hSl_tup, hSl_lst, hSl_str, hLen_lst, hLen_tup, hLen_scr, hLen_str, hLen_mob, hInt_int, hInt_bl, hAbs_int, hSeq_lst, hSeq_tup, hIn_lst, hIn_tup, hEq_eq, hI0_int, hI_int, ng_f, ng_t, atI_0, atI_1, atI_2, ofString_inj, eqv_str, eqv_txt, eqv_int, eqv_bl, eqv_tup, eqv_lst, eqOk_str, eqOk_int, eqOk_bl, eqOk_txt, decide_eq_true_eq, Nat.zero_lt_succ, exists_and_left, List.take_succ_cons, List.take_zero, List.drop_succ_cons, List.drop_zero, List.cons_append, List.nil_append, and_assoc, atI_map, Option.map_some, Nat.reduceAdd, Nat.reduceLT, Nat.reduceLeDiff, OT.toD_ow, List.map_cons, List.map_nil, D.mob.injEq, Mo.lst.injEq, Mem.put_same, Mem.put_put, ixN_30, ixN_32, ixN_10, exists_prop, fz_app, fz_inj, fz_snoc, OT.map_fz, List.length_map, List.length_append, List.append_nil, Nat.zero_add, cutL_1, items_tup, items_lst, items_scr, forD, compD, compS, comp2D, wipeE, D.isIn, List.any_cons, List.any_nil, String.reduceEq, D.plain, D.plains, D.dep, D.deps, Nat.max_self, Nat.min_self, Nat.zero_le, Nat.zero_min, Nat.min_zero, sizeLine_eq, forall_eq, exists_const, forall_const, kind_non, kind_bl, kind_int, kind_str, kind_lst, kind_tup, kind_dk, Kd.isa, reduceCtorEq, decide_false, decide_true, Bool.or_false, Bool.false_or, Bool.or_true, Bool.true_or, Bool.or_self, Bool.and_false, Bool.false_and, Bool.true_and, Bool.and_true, Bool.and_self, and_self, false_or, or_false, false_and, and_false, reduceIte, Bool.false_eq_true, Bool.not_eq_true, Bool.not_true, Bool.not_false, hc2, e3, e6, abc_len]) | refine And.intro (by first | assumption | omega | decide) ?_ | omega | assumption)
          · have := done (xs ++ [xs[b] ++ ⟨#[c2]⟩]) (some (.fz (.str ⟨#[c]⟩))) (by simp [hx]) fun i x e => by
              rw [List.getElem?_append] at e
              split at e
              · exact hall i x e
              · rename_i hi
                have hz : i - xs.length = 0 := by
                  cases q : i - xs.length with
                  | zero => rfl
                  | succ k => rw [q] at e; simp at e
                rw [hz] at e
                simp at e
                subst e
                refine ⟨low_app o.1 lc2, by rw [len_app]; omega, fun hev => by omega⟩
            have e5 : ((xs.map D.str ++ [D.str nw]).map OT.fz).set (b + 1) (OT.fz (D.str (xs[b] ++ ⟨#[c2]⟩))) = ((xs ++ [xs[b] ++ ⟨#[c2]⟩]).map D.str).map OT.fz := by
              rw [List.map_append, List.map_append, List.map_append, List.set_append_right _ _ (by simp [hx])]
              simp [hx]
            rw [e5]
            exact this
        · exact plain
      · exact plain
  · obtain ⟨hl3, hB3, ys, rfl, hy⟩ := h
    (try simp only [seqS_M, startE_cons, startE_nil, List.length_cons, List.length_nil, List.length_replicate, List.length_set, List.replicate_succ, List.replicate_zero, List.getElem?_cons_zero, List.getElem?_cons_succ, List.set_cons_zero, List.set_cons_succ, Option.some.injEq, OT.fz.injEq, OT.ow.injEq, D.int.injEq, D.str.injEq, D.bl.injEq, D.tup.injEq, D.lst.injEq, List.cons.injEq, exists_eq_left', exists_eq_left, exists_eq_right, and_true, true_and, OT.toD_fz, toD_map_fz, hIx_tup, hIx_lst, hIx_scr, hIx_mob, hIx_str, hIxT_fz, hIxT_ow, hAdd_int, hAdd_str, hAdd_tup, hAdd_lst, hMul_int, hMul_lst, hSl_tup, hSl_lst, hSl_str, hLen_lst, hLen_tup, hLen_scr, hLen_str, hLen_mob, hInt_int, hInt_bl, hAbs_int, hSeq_lst, hSeq_tup, hIn_lst, hIn_tup, hEq_eq, hI0_int, hI_int, ng_f, ng_t, atI_0, atI_1, atI_2, ofString_inj, eqv_str, eqv_txt, eqv_int, eqv_bl, eqv_tup, eqv_lst, eqOk_str, eqOk_int, eqOk_bl, eqOk_txt, decide_eq_true_eq, Nat.zero_lt_succ, exists_and_left, List.take_succ_cons, List.take_zero, List.drop_succ_cons, List.drop_zero, List.cons_append, List.nil_append, and_assoc, atI_map, Option.map_some, Nat.reduceAdd, Nat.reduceLT, Nat.reduceLeDiff, OT.toD_ow, List.map_cons, List.map_nil, D.mob.injEq, Mo.lst.injEq, Mem.put_same, Mem.put_put, ixN_30, ixN_32, ixN_10, exists_prop, fz_app, fz_inj, fz_snoc, OT.map_fz, List.length_map, List.length_append, List.append_nil, Nat.zero_add, cutL_1, items_tup, items_lst, items_scr, forD, compD, compS, comp2D, wipeE, D.isIn, List.any_cons, List.any_nil, String.reduceEq, D.plain, D.plains, D.dep, D.deps, Nat.max_self, Nat.min_self, Nat.zero_le, Nat.zero_min, Nat.min_zero, sizeLine_eq, forall_eq, exists_const, forall_const, kind_non, kind_bl, kind_int, kind_str, kind_lst, kind_tup, kind_dk, Kd.isa, reduceCtorEq, decide_false, decide_true, Bool.or_false, Bool.false_or, Bool.or_true, Bool.true_or, Bool.or_self, Bool.and_false, Bool.false_and, Bool.true_and, Bool.and_true, Bool.and_self, and_self, false_or, or_false, false_and, and_false, reduceIte, Bool.false_eq_true, Bool.not_eq_true, Bool.not_true, Bool.not_false, spTake]); repeat (first | (refine seq_in ?_; simp only [seqS_M, startE_cons, startE_nil, List.length_cons, List.length_nil, List.length_replicate, List.length_set, List.replicate_succ, List.replicate_zero, List.getElem?_cons_zero, List.getElem?_cons_succ, List.set_cons_zero, List.set_cons_succ, Option.some.injEq, OT.fz.injEq, OT.ow.injEq, D.int.injEq, D.str.injEq, D.bl.injEq, D.tup.injEq, D.lst.injEq, List.cons.injEq, exists_eq_left', exists_eq_left, exists_eq_right, and_true, true_and, OT.toD_fz, toD_map_fz, hIx_tup, hIx_lst, hIx_scr, hIx_mob, hIx_str, hIxT_fz, hIxT_ow, hAdd_int, hAdd_str, hAdd_tup, hAdd_lst, hMul_int, hMul_lst, hSl_tup, hSl_lst, hSl_str, hLen_lst, hLen_tup, hLen_scr, hLen_str, hLen_mob, hInt_int, hInt_bl, hAbs_int, hSeq_lst, hSeq_tup, hIn_lst, hIn_tup, hEq_eq, hI0_int, hI_int, ng_f, ng_t, atI_0, atI_1, atI_2, ofString_inj, eqv_str, eqv_txt, eqv_int, eqv_bl, eqv_tup, eqv_lst, eqOk_str, eqOk_int, eqOk_bl, eqOk_txt, decide_eq_true_eq, Nat.zero_lt_succ, exists_and_left, List.take_succ_cons, List.take_zero, List.drop_succ_cons, List.drop_zero, List.cons_append, List.nil_append, and_assoc, atI_map, Option.map_some, Nat.reduceAdd, Nat.reduceLT, Nat.reduceLeDiff, OT.toD_ow, List.map_cons, List.map_nil, D.mob.injEq, Mo.lst.injEq, Mem.put_same, Mem.put_put, ixN_30, ixN_32, ixN_10, exists_prop, fz_app, fz_inj, fz_snoc, OT.map_fz, List.length_map, List.length_append, List.append_nil, Nat.zero_add, cutL_1, items_tup, items_lst, items_scr, forD, compD, compS, comp2D, wipeE, D.isIn, List.any_cons, List.any_nil, String.reduceEq, D.plain, D.plains, D.dep, D.deps, Nat.max_self, Nat.min_self, Nat.zero_le, Nat.zero_min, Nat.min_zero, sizeLine_eq, forall_eq, exists_const, forall_const, kind_non, kind_bl, kind_int, kind_str, kind_lst, kind_tup, kind_dk, Kd.isa, reduceCtorEq, decide_false, decide_true, Bool.or_false, Bool.false_or, Bool.or_true, Bool.true_or, Bool.or_self, Bool.and_false, Bool.false_and, Bool.true_and, Bool.and_true, Bool.and_self, and_self, false_or, or_false, false_and, and_false, reduceIte, Bool.false_eq_true, Bool.not_eq_true, Bool.not_true, Bool.not_false, spTake]) | refine And.intro (by first | assumption | omega | decide) ?_ | omega | assumption)
    refine take_at (by decide) (by decide) (by simp at hl3 ⊢; omega : n + 2 + _ ≤ _) hB3.is fun r M4 h4 h5 hB4 => ?_
    obtain ⟨c, hc, lc⟩ := abc_at h4 h5
    simp only [seqS_M, startE_cons, startE_nil, List.length_cons, List.length_nil, List.length_replicate, List.length_set, List.replicate_succ, List.replicate_zero, List.getElem?_cons_zero, List.getElem?_cons_succ, List.set_cons_zero, List.set_cons_succ, Option.some.injEq, OT.fz.injEq, OT.ow.injEq, D.int.injEq, D.str.injEq, D.bl.injEq, D.tup.injEq, D.lst.injEq, List.cons.injEq, exists_eq_left', exists_eq_left, exists_eq_right, and_true, true_and, OT.toD_fz, toD_map_fz, hIx_tup, hIx_lst, hIx_scr, hIx_mob, hIx_str, hIxT_fz, hIxT_ow, hAdd_int, hAdd_str, hAdd_tup, hAdd_lst, hMul_int, hMul_lst, hSl_tup, hSl_lst, hSl_str, hLen_lst, hLen_tup, hLen_scr, hLen_str, hLen_mob, hInt_int, hInt_bl, hAbs_int, hSeq_lst, hSeq_tup, hIn_lst, hIn_tup, hEq_eq, hI0_int, hI_int, ng_f, ng_t, atI_0, atI_1, atI_2, ofString_inj, eqv_str, eqv_txt, eqv_int, eqv_bl, eqv_tup, eqv_lst, eqOk_str, eqOk_int, eqOk_bl, eqOk_txt, decide_eq_true_eq, Nat.zero_lt_succ, exists_and_left, List.take_succ_cons, List.take_zero, List.drop_succ_cons, List.drop_zero, List.cons_append, List.nil_append, and_assoc, atI_map, Option.map_some, Nat.reduceAdd, Nat.reduceLT, Nat.reduceLeDiff, OT.toD_ow, List.map_cons, List.map_nil, D.mob.injEq, Mo.lst.injEq, Mem.put_same, Mem.put_put, ixN_30, ixN_32, ixN_10, exists_prop, fz_app, fz_inj, fz_snoc, OT.map_fz, List.length_map, List.length_append, List.append_nil, Nat.zero_add, cutL_1, items_tup, items_lst, items_scr, forD, compD, compS, comp2D, wipeE, D.isIn, List.any_cons, List.any_nil, String.reduceEq, D.plain, D.plains, D.dep, D.deps, Nat.max_self, Nat.min_self, Nat.zero_le, Nat.zero_min, Nat.min_zero, sizeLine_eq, forall_eq, exists_const, forall_const, kind_non, kind_bl, kind_int, kind_str, kind_lst, kind_tup, kind_dk, Kd.isa, reduceCtorEq, decide_false, decide_true, Bool.or_false, Bool.false_or, Bool.or_true, Bool.true_or, Bool.or_self, Bool.and_false, Bool.false_and, Bool.true_and, Bool.and_true, Bool.and_self, and_self, false_or, or_false, false_and, and_false, reduceIte, Bool.false_eq_true, Bool.not_eq_true, Bool.not_true, Bool.not_false, hc, abc_len]
    refine hC _ _ ⟨by simp at hl3 ⊢; omega, (hB3.trans hB4).mono (by simp; omega), ys ++ [⟨#[c]⟩], by simp, fun y hy' => ?_⟩
    rcases List.mem_append.mp hy' with z | z
    · exact hy y z
    · rw [List.mem_singleton] at z
      subst z
      exact ⟨lc, rfl⟩
end
end DL

namespace DL
open PySem L2 PySem.Spec
open PyProof.Rows hiding St
set_option autoImplicit false
section
variable {P : Program} {w : World} {K : PySem.W.Frag} {mg : Str → Option Value} {base : Heap}
/-! ### the box and what may still look back -/
theorem Mem.put_comm {M : Mem} {p q : Addr} {x y : Mo} (h : p ≠ q) : (M.put p x).put q y = (M.put q y).put p x := by
  funext a
  unfold Mem.put
  by_cases h1 : a = q
  · by_cases h2 : a = p
    · exact absurd (h2.symm.trans h1) h
    · rw [if_pos h1, if_neg h2, if_pos h1]
  · rw [if_neg h1]
    by_cases h2 : a = p
    · rw [if_pos h2, if_pos h2]
    · rw [if_neg h2, if_neg h2, if_neg h1]
def bk (k : Int) : Mo := .lst [.int k]
/-- the box and the one number change, nothing else -/
def BB (p q : Addr) (n : Nat) (M M' : Mem) : Prop := ∃ a b c k : Int, M' = (M.put p (boxL a b c)).put q (bk k) ∧ BoxOk n a b c
section
variable {M M1 M2 : Mem} {p q : Addr} {n m : Nat}
theorem BB.mono (h : BB p q n M M1) (e : n ≤ m) : BB p q m M M1 := by
  obtain ⟨a, b, c, k, h1, h2⟩ := h
  exact ⟨a, b, c, k, h1, h2.mono e⟩
theorem BB.trans (hp : p ≠ q) (h : BB p q n M M1) (g : BB p q m M1 M2) : BB p q m M M2 := by
  obtain ⟨a, b, c, k, rfl, h2⟩ := h
  obtain ⟨a', b', c', k', rfl, h3⟩ := g
  refine ⟨a', b', c', k', ?_, h3⟩
  funext x
  by_cases e1 : x = q
  · subst e1; rw [Mem.put_same, Mem.put_same]
  · rw [Mem.put_ne e1, Mem.put_ne e1]
    by_cases e2 : x = p
    · subst e2; rw [Mem.put_same, Mem.put_same]
    · rw [Mem.put_ne e2, Mem.put_ne e2, Mem.put_ne e1, Mem.put_ne e2]
theorem BB.box (hp : p ≠ q) (h : BB p q n M M1) : IsBox n M1 p ∧ ∃ k, M1 q = some (bk k) := by
  obtain ⟨a, b, c, k, rfl, h2⟩ := h
  exact ⟨⟨a, b, c, (Mem.put_ne hp).trans Mem.put_same, h2⟩, k, Mem.put_same⟩
theorem BoxTo.bb (hp : p ≠ q) (h : BoxTo p n M M1) {k : Int} (hk : M q = some (bk k)) : BB p q n M M1 := by
  obtain ⟨a, b, c, rfl, h2⟩ := h
  refine ⟨a, b, c, k, ?_, h2⟩
  funext x
  by_cases e : x = q
  · subst e; rw [Mem.put_same, Mem.put_ne hp.symm, hk]
  · rw [Mem.put_ne e]
theorem IsBox.bb (hp : p ≠ q) (h : IsBox n M p) {k : Int} (hk : M q = some (bk k)) : BB p q n M M := h.to.bb hp hk
theorem BB.put (h : BB p q n M M1) {k : Int} : BB p q n M (M1.put q (bk k)) := by
  obtain ⟨a, b, c, k', rfl, h2⟩ := h
  exact ⟨a, b, c, k, Mem.put_put, h2⟩
end
theorem of_at {M : Mem} {p : Addr} {l : List D} {n : Nat} {ds : List D} {Q : OT → Mem → Prop} (h0 : ds = [.mob p, .lst l] ∨ ds = [.mob p, .tup l]) (h1 : l ≠ []) (h2 : l.length ≤ 2 ^ 20) (hn : n ≤ 2 ^ 50) (hB : IsBox n M p) (k : ∀ d M', d ∈ l → BoxTo p (n + 1) M M' → Q (.fz d) M') :
    ∃ i, spOf1.pre i M ds ∧ ∀ t M', spOf1.post i M t M' → Q t M' :=
  ⟨⟨p, l, n⟩, ⟨h0, h1, h2, hn, hB⟩, fun t M' ⟨d, hd, e, hB'⟩ => by subst e; exact k d M' hd hB'⟩
/-! ### a body's draw -/
/-- its words are short -/
def Bd.ok : Bd → Prop
  | .has r m => r.length ≤ 8 ∧ m.length ≤ 8
  | .alike a b ms => a.length ≤ 8 ∧ b.length ≤ 8 ∧ ms.length ≤ 10 ∧ ∀ m ∈ ms, m.length ≤ 8
  | .nt b => b.ok
  | .an b c => b.ok ∧ c.ok
  | .or b c => b.ok ∧ c.ok
  | .ah b => b.ok
  | .ev b => b.ok
  | .si b c => b.ok ∧ c.ok
structure BI where
  p : Addr
  q : Addr
  runs : List Str
  marks : List Str
  deep : Nat
  n : Nat
def cst (d : Nat) : Nat := 20 * 3 ^ d
theorem cst_s (d : Nat) : cst (d + 1) = 3 * cst d := by unfold cst; rw [Nat.pow_succ]; omega
theorem cst_pos (d : Nat) : 20 ≤ cst d := by unfold cst; have := Nat.one_le_pow d 3 (by decide); omega
def BI.ok (i : BI) (M : Mem) : Prop := i.p ≠ i.q ∧ IsBox i.n M i.p ∧ (∃ k, M i.q = some (bk k)) ∧ i.runs ≠ [] ∧ i.marks ≠ [] ∧ i.runs.length ≤ 10 ∧ i.marks.length ≤ 9 ∧ (∀ x ∈ i.runs, x.length ≤ 8) ∧ (∀ x ∈ i.marks, x.length ≤ 8) ∧ i.n + cst i.deep ≤ 2 ^ 50
theorem ite_or {c d : Prop} [Decidable c] [Decidable d] {A B : Prop} (hA : c ∨ d → A) (hB : ¬ c → ¬ d → B) : if c then A else if d then A else B := by
  by_cases h : c
  · rw [if_pos h]; exact hA (.inl h)
  · rw [if_neg h]
    by_cases h2 : d
    · rw [if_pos h2]; exact hA (.inr h2)
    · rw [if_neg h2]; exact hB h h2
theorem mem_strs {d : D} {l : List Str} (h : d ∈ l.map D.str) : ∃ x ∈ l, d = .str x := by
  obtain ⟨x, hx, e⟩ := List.mem_map.mp h
  exact ⟨x, hx, e.symm⟩
def spBody (d : Nat) : DSpec := ⟨BI, fun i M ds => ds = [.mob i.p, .lst (i.runs.map .str), .lst (i.marks.map .str), .int i.deep, .mob i.q] ∧ i.deep < d ∧ i.ok M,
  fun i M t M' => ∃ b : Bd, t = .fz b.toD ∧ b.hgt ≤ i.deep ∧ b.ok ∧ BB i.p i.q (i.n + cst i.deep) M M'⟩
theorem body_at {d e m : Nat} {M0 Mx : Mem} {p q : Addr} {runs marks : List Str} {Q : OT → Mem → Prop} (hpq : p ≠ q) (hB : BB p q m M0 Mx) (he : e < d) (hr0 : runs ≠ []) (hm0 : marks ≠ []) (hr1 : runs.length ≤ 10) (hm1 : marks.length ≤ 9) (hr2 : ∀ x ∈ runs, x.length ≤ 8) (hm2 : ∀ x ∈ marks, x.length ≤ 8) (hn : m + cst e ≤ 2 ^ 50)
    (k : ∀ (b : Bd) M', b.hgt ≤ e → b.ok → BB p q (m + cst e) M0 M' → Q (.fz b.toD) M') :
    ∃ i, (spBody d).pre i Mx [.mob p, .lst (runs.map .str), .lst (marks.map .str), .int e, .mob q] ∧ ∀ t M', (spBody d).post i Mx t M' → Q t M' :=
  ⟨⟨p, q, runs, marks, e, m⟩, ⟨rfl, he, hpq, (hB.box hpq).1, (hB.box hpq).2, hr0, hm0, hr1, hm1, hr2, hm2, hn⟩, fun t M' ⟨b, ht, h1, h2, h3⟩ => by subst ht; exact k b M' h1 h2 (hB.trans hpq h3)⟩
theorem ok_body (T : Tx K mg) : ∀ d, DF P w K mg base s_law_body "_law_body" ["box", "runs", "marks", "deep", "back"] (d + 3) (spBody d) := by
  intro d
  induction d with
  | zero => exact DF.never T.d_law_body fun i M ds h => by have := h.2.1; omega
  | succ d ih =>
    have F_law_body := ih
    have F_law_take := ok_take (P := P) (w := w) (base := base) T
    have F_law_of := ok_of (P := P) (w := w) (base := base) T
    obtain ⟨f, fd, hm, F, hb⟩ := T.d_law_body
    refine ⟨f, fd, hm, F, hb, fn_dl F sc_law_body ?_⟩
    rintro X M ds ⟨p, q, runs, marks, deep, n⟩ ⟨cdv, A, outer, s0, H0, E, rfl⟩ hr hl ⟨rfl, hd, hpq, hB, ⟨k, hk⟩, hr0, hm0, hr1, hm1, hr2, hm2, hn⟩
    refine ⟨_, (dss_cons (ds_set 5 sc_law_body.nd (EO.d (eo_call (DF.mono F_law_take (by first | omega | decide)) hr (ad_cons (ed_var 0) (ad_cons ed_int ad_nil))))) (dss_cons (ds_if (EW.t (ew_or (EC.t (ec_eq hr.hu (ev_var 3) (ED.v ed_int))) (ew_or1 (EC.t (ec_lt (ev_var 5) (ED.v ed_int)))))) (dss_cons (ds_if (EW.t (ew_and (EC.t (ec_gt (ED.v (ed_len T.z_len (av_cons (ev_var 1) av_nil))) (ED.v ed_int))) (ew_and1 (EC.t (ec_eq hr.hu (ED.v (EO.d (eo_call (DF.mono F_law_take (by first | omega | decide)) hr (ad_cons (ed_var 0) (ad_cons ed_int ad_nil))))) (ED.v ed_int)))))) (dss_cons (ds_set 6 sc_law_body.nd (EO.d (eo_call (DF.mono F_law_of (by first | omega | decide)) hr (ad_cons (ed_var 0) (ad_cons (EO.d (eo_lst (ao_cons (ED.o (ed_tup (ad_cons (ed_ixN 1 ed_int) (ad_cons (ed_ixN 1 ed_int) ad_nil)))) (ao_cons (ED.o (ed_tup (ad_cons (ed_ixN 1 ed_int) (ad_cons (ed_ixN 1 ed_int) ad_nil)))) (ao_cons (ED.o (ed_tup (ad_cons (ed_ixN 1 (ed_neg (ED.v ed_int))) (ad_cons (ed_ixN 1 ed_int) ad_nil)))) ao_nil))))) ad_nil))))) (dss_cons (ds_setLcO (own := [("mark", 9)]) 7 rfl sc_law_body.nd (ei_seq (ed_var 2)) (blkOk_by (N := N_law_body) (sc := (defScope s_law_body)) (by first | decide +kernel | exact rfl)) (by decide) (fun _ _ _ _ _ => (eg_name 9 sc_law_body.nd)) (fun _ _ _ _ _ => (ets_one (EC.t (ec_eq hr.hu (ED.v (EO.d (eo_call (DF.mono F_law_take (by first | omega | decide)) hr (ad_cons (ed_var 0) (ad_cons ed_int ad_nil))))) (ED.v ed_int))))) (fun _ _ _ _ _ => (ED.o (ed_var 9))) (by rfl)) (DSs.frz 7 (dss_cons (ds_set 7 sc_law_body.nd (EO.d (eo_add (ed_var 7) (EO.d (eo_mul (EO.d (eo_lst (ao_cons (eo_call (DF.mono F_law_of (by first | omega | decide)) hr (ad_cons (ed_var 0) (ad_cons (ed_var 2) ad_nil))) ao_nil))) (ed_int1 T.z_int (av_cons (ED.v (EC.d (ec_eq hr.hu (ev_var 7) (ED.v (EO.d (eo_lst ao_nil)))))) av_nil))))))) (dss_cons (ds_ret (eo_add (EO.d (eo_add (ed_tup (ad_cons ed_str ad_nil)) (ed_var 6))) (ed_tup (ad_cons (EO.d (eo_tuple T.z_tuple (ad_cons (EO.d (eo_sortedS T.z_sorted (ad_cons (ed_var 7) ad_nil))) ad_nil))) ad_nil)))) dss_nil))))) dss_nil) (dss_cons (ds_ret (ED.o (ed_tup (ad_cons ed_str (ad_cons (EO.d (eo_call (DF.mono F_law_of (by first | omega | decide)) hr (ad_cons (ed_var 0) (ad_cons (ed_var 1) ad_nil)))) (ad_cons (EO.d (eo_call (DF.mono F_law_of (by first | omega | decide)) hr (ad_cons (ed_var 0) (ad_cons (ed_var 2) ad_nil)))) ad_nil)))))) dss_nil)) dss_nil) (dss_cons (ds_if (EC.t (ec_lt (ev_var 5) (ED.v ed_int))) (dss_cons (ds_ret (ED.o (ed_tup (ad_cons ed_str (ad_cons (EO.d (eo_call (DF.mono F_law_body (by first | omega | decide)) hr (ad_cons (ed_var 0) (ad_cons (ed_var 1) (ad_cons (ed_var 2) (ad_cons (ed_sub (ev_var 3) (ED.v ed_int)) (ad_cons (ed_var 4) ad_nil))))))) ad_nil))))) dss_nil) dss_nil) (dss_cons (ds_if (EW.t (ew_or (EC.t (ec_lt (ev_var 5) (ED.v ed_int))) (ew_or1 (EC.t (ec_eq hr.hu (ED.v (ed_ixN 4 ed_int)) (ED.v ed_int)))))) (dss_cons (ds_set 8 sc_law_body.nd (ed_ix (EO.d (eo_lst (ao_cons (ED.o ed_str) (ao_cons (ED.o ed_str) ao_nil)))) (ed_mod (ev_var 5) (ED.v ed_int)))) (dss_cons (ds_ret (ED.o (ed_tup (ad_cons (ed_var 8) (ad_cons (EO.d (eo_call (DF.mono F_law_body (by first | omega | decide)) hr (ad_cons (ed_var 0) (ad_cons (ed_var 1) (ad_cons (ed_var 2) (ad_cons (ed_sub (ev_var 3) (ED.v ed_int)) (ad_cons (ed_var 4) ad_nil))))))) (ad_cons (EO.d (eo_call (DF.mono F_law_body (by first | omega | decide)) hr (ad_cons (ed_var 0) (ad_cons (ed_var 1) (ad_cons (ed_var 2) (ad_cons (ed_sub (ev_var 3) (ED.v ed_int)) (ad_cons (ed_var 4) ad_nil))))))) ad_nil)))))) dss_nil)) dss_nil) (dss_cons (ds_setIxM 4 (ed_sub (ED.v (ed_ixN 4 ed_int)) (ED.v ed_int)) ed_int) (dss_cons (ds_if (EC.t (ec_eq hr.hu (ev_var 5) (ED.v ed_int))) (dss_cons (ds_ret (ED.o (ed_tup (ad_cons (EO.d (eo_call (DF.mono F_law_of (by first | omega | decide)) hr (ad_cons (ed_var 0) (ad_cons (EO.d (eo_lst (ao_cons (ED.o ed_str) (ao_cons (ED.o ed_str) ao_nil)))) ad_nil)))) (ad_cons (EO.d (eo_call (DF.mono F_law_body (by first | omega | decide)) hr (ad_cons (ed_var 0) (ad_cons (ed_var 1) (ad_cons (ed_var 2) (ad_cons (ed_sub (ev_var 3) (ED.v ed_int)) (ad_cons (ed_var 4) ad_nil))))))) ad_nil))))) dss_nil) dss_nil) (dss_cons (ds_ret (ED.o (ed_tup (ad_cons ed_str (ad_cons (EO.d (eo_call (DF.mono F_law_body (by first | omega | decide)) hr (ad_cons (ed_var 0) (ad_cons (ed_var 1) (ad_cons (ed_var 2) (ad_cons (ed_sub (ev_var 3) (ED.v ed_int)) (ad_cons (ed_var 4) ad_nil))))))) (ad_cons (EO.d (eo_call (DF.mono F_law_body (by first | omega | decide)) hr (ad_cons (ed_var 0) (ad_cons (ed_var 1) (ad_cons (ed_var 2) (ad_cons (ed_sub (ev_var 3) (ED.v ed_int)) (ad_cons (ed_var 4) ad_nil))))))) ad_nil)))))) dss_nil))))))), ?_⟩
    replace hd : deep < d + 1 := hd
    replace hpq : p ≠ q := hpq
    replace hB : IsBox n M p := hB
    replace hk : M q = some (bk k) := hk
    replace hr0 : runs ≠ [] := hr0
    replace hm0 : marks ≠ [] := hm0
    replace hr1 : runs.length ≤ 10 := hr1
    replace hm1 : marks.length ≤ 9 := hm1
    replace hr2 : ∀ x ∈ runs, x.length ≤ 8 := hr2
    replace hm2 : ∀ x ∈ marks, x.length ≤ 8 := hm2
    replace hn : n + cst deep ≤ 2 ^ 50 := hn
    have c20 := cst_pos deep
    (try simp only [seqS_M, startE_cons, startE_nil, List.length_cons, List.length_nil, List.length_replicate, List.length_set, List.replicate_succ, List.replicate_zero, List.getElem?_cons_zero, List.getElem?_cons_succ, List.set_cons_zero, List.set_cons_succ, Option.some.injEq, OT.fz.injEq, OT.ow.injEq, D.int.injEq, D.str.injEq, D.bl.injEq, D.tup.injEq, D.lst.injEq, List.cons.injEq, exists_eq_left', exists_eq_left, exists_eq_right, and_true, true_and, OT.toD_fz, toD_map_fz, hIx_tup, hIx_lst, hIx_scr, hIx_mob, hIx_str, hIxT_fz, hIxT_ow, hAdd_int, hAdd_str, hAdd_tup, hAdd_lst, hMul_int, hMul_lst, hSl_tup, hSl_lst, hSl_str, hLen_lst, hLen_tup, hLen_scr, hLen_str, hLen_mob, hInt_int, hInt_bl, hAbs_int, hSeq_lst, hSeq_tup, hIn_lst, hIn_tup, hEq_eq, hI0_int, hI_int, ng_f, ng_t, atI_0, atI_1, atI_2, ofString_inj, eqv_str, eqv_txt, eqv_int, eqv_bl, eqv_tup, eqv_lst, eqOk_str, eqOk_int, eqOk_bl, eqOk_txt, decide_eq_true_eq, Nat.zero_lt_succ, exists_and_left, List.take_succ_cons, List.take_zero, List.drop_succ_cons, List.drop_zero, List.cons_append, List.nil_append, and_assoc, atI_map, Option.map_some, Nat.reduceAdd, Nat.reduceLT, Nat.reduceLeDiff, OT.toD_ow, List.map_cons, List.map_nil, D.mob.injEq, Mo.lst.injEq, Mem.put_same, Mem.put_put, ixN_30, ixN_32, ixN_10, exists_prop, fz_app, fz_inj, fz_snoc, OT.map_fz, List.length_map, List.length_append, List.append_nil, Nat.zero_add, cutL_1, items_tup, items_lst, items_scr, forD, compD, compS, comp2D, wipeE, D.isIn, List.any_cons, List.any_nil, String.reduceEq, D.plain, D.plains, D.dep, D.deps, Nat.max_self, Nat.min_self, Nat.zero_le, Nat.zero_min, Nat.min_zero, sizeLine_eq, forall_eq, exists_const, forall_const, kind_non, kind_bl, kind_int, kind_str, kind_lst, kind_tup, kind_dk, Kd.isa, reduceCtorEq, decide_false, decide_true, Bool.or_false, Bool.false_or, Bool.or_true, Bool.true_or, Bool.or_self, Bool.and_false, Bool.false_and, Bool.true_and, Bool.and_true, Bool.and_self, and_self, false_or, or_false, false_and, and_false, reduceIte, Bool.false_eq_true, Bool.not_eq_true, Bool.not_true, Bool.not_false, spTake]); repeat (first | (refine seq_in ?_; simp only [seqS_M, startE_cons, startE_nil, List.length_cons, List.length_nil, List.length_replicate, List.length_set, List.replicate_succ, List.replicate_zero, List.getElem?_cons_zero, List.getElem?_cons_succ, List.set_cons_zero, List.set_cons_succ, Option.some.injEq, OT.fz.injEq, OT.ow.injEq, D.int.injEq, D.str.injEq, D.bl.injEq, D.tup.injEq, D.lst.injEq, List.cons.injEq, exists_eq_left', exists_eq_left, exists_eq_right, and_true, true_and, OT.toD_fz, toD_map_fz, hIx_tup, hIx_lst, hIx_scr, hIx_mob, hIx_str, hIxT_fz, hIxT_ow, hAdd_int, hAdd_str, hAdd_tup, hAdd_lst, hMul_int, hMul_lst, hSl_tup, hSl_lst, hSl_str, hLen_lst, hLen_tup, hLen_scr, hLen_str, hLen_mob, hInt_int, hInt_bl, hAbs_int, hSeq_lst, hSeq_tup, hIn_lst, hIn_tup, hEq_eq, hI0_int, hI_int, ng_f, ng_t, atI_0, atI_1, atI_2, ofString_inj, eqv_str, eqv_txt, eqv_int, eqv_bl, eqv_tup, eqv_lst, eqOk_str, eqOk_int, eqOk_bl, eqOk_txt, decide_eq_true_eq, Nat.zero_lt_succ, exists_and_left, List.take_succ_cons, List.take_zero, List.drop_succ_cons, List.drop_zero, List.cons_append, List.nil_append, and_assoc, atI_map, Option.map_some, Nat.reduceAdd, Nat.reduceLT, Nat.reduceLeDiff, OT.toD_ow, List.map_cons, List.map_nil, D.mob.injEq, Mo.lst.injEq, Mem.put_same, Mem.put_put, ixN_30, ixN_32, ixN_10, exists_prop, fz_app, fz_inj, fz_snoc, OT.map_fz, List.length_map, List.length_append, List.append_nil, Nat.zero_add, cutL_1, items_tup, items_lst, items_scr, forD, compD, compS, comp2D, wipeE, D.isIn, List.any_cons, List.any_nil, String.reduceEq, D.plain, D.plains, D.dep, D.deps, Nat.max_self, Nat.min_self, Nat.zero_le, Nat.zero_min, Nat.min_zero, sizeLine_eq, forall_eq, exists_const, forall_const, kind_non, kind_bl, kind_int, kind_str, kind_lst, kind_tup, kind_dk, Kd.isa, reduceCtorEq, decide_false, decide_true, Bool.or_false, Bool.false_or, Bool.or_true, Bool.true_or, Bool.or_self, Bool.and_false, Bool.false_and, Bool.true_and, Bool.and_true, Bool.and_self, and_self, false_or, or_false, false_and, and_false, reduceIte, Bool.false_eq_true, Bool.not_eq_true, Bool.not_true, Bool.not_false, spTake]) | refine And.intro (by first | assumption | omega | decide) ?_ | omega | assumption)
    refine take_at (by decide) (by decide) (by omega : n ≤ _) hB fun way M1 h0 h1 hB1 => ?_
    (try simp only [seqS_M, startE_cons, startE_nil, List.length_cons, List.length_nil, List.length_replicate, List.length_set, List.replicate_succ, List.replicate_zero, List.getElem?_cons_zero, List.getElem?_cons_succ, List.set_cons_zero, List.set_cons_succ, Option.some.injEq, OT.fz.injEq, OT.ow.injEq, D.int.injEq, D.str.injEq, D.bl.injEq, D.tup.injEq, D.lst.injEq, List.cons.injEq, exists_eq_left', exists_eq_left, exists_eq_right, and_true, true_and, OT.toD_fz, toD_map_fz, hIx_tup, hIx_lst, hIx_scr, hIx_mob, hIx_str, hIxT_fz, hIxT_ow, hAdd_int, hAdd_str, hAdd_tup, hAdd_lst, hMul_int, hMul_lst, hSl_tup, hSl_lst, hSl_str, hLen_lst, hLen_tup, hLen_scr, hLen_str, hLen_mob, hInt_int, hInt_bl, hAbs_int, hSeq_lst, hSeq_tup, hIn_lst, hIn_tup, hEq_eq, hI0_int, hI_int, ng_f, ng_t, atI_0, atI_1, atI_2, ofString_inj, eqv_str, eqv_txt, eqv_int, eqv_bl, eqv_tup, eqv_lst, eqOk_str, eqOk_int, eqOk_bl, eqOk_txt, decide_eq_true_eq, Nat.zero_lt_succ, exists_and_left, List.take_succ_cons, List.take_zero, List.drop_succ_cons, List.drop_zero, List.cons_append, List.nil_append, and_assoc, atI_map, Option.map_some, Nat.reduceAdd, Nat.reduceLT, Nat.reduceLeDiff, OT.toD_ow, List.map_cons, List.map_nil, D.mob.injEq, Mo.lst.injEq, Mem.put_same, Mem.put_put, ixN_30, ixN_32, ixN_10, exists_prop, fz_app, fz_inj, fz_snoc, OT.map_fz, List.length_map, List.length_append, List.append_nil, Nat.zero_add, cutL_1, items_tup, items_lst, items_scr, forD, compD, compS, comp2D, wipeE, D.isIn, List.any_cons, List.any_nil, String.reduceEq, D.plain, D.plains, D.dep, D.deps, Nat.max_self, Nat.min_self, Nat.zero_le, Nat.zero_min, Nat.min_zero, sizeLine_eq, forall_eq, exists_const, forall_const, kind_non, kind_bl, kind_int, kind_str, kind_lst, kind_tup, kind_dk, Kd.isa, reduceCtorEq, decide_false, decide_true, Bool.or_false, Bool.false_or, Bool.or_true, Bool.true_or, Bool.or_self, Bool.and_false, Bool.false_and, Bool.true_and, Bool.and_true, Bool.and_self, and_self, false_or, or_false, false_and, and_false, reduceIte, Bool.false_eq_true, Bool.not_eq_true, Bool.not_true, Bool.not_false, spTake]); repeat (first | (refine seq_in ?_; simp only [seqS_M, startE_cons, startE_nil, List.length_cons, List.length_nil, List.length_replicate, List.length_set, List.replicate_succ, List.replicate_zero, List.getElem?_cons_zero, List.getElem?_cons_succ, List.set_cons_zero, List.set_cons_succ, Option.some.injEq, OT.fz.injEq, OT.ow.injEq, D.int.injEq, D.str.injEq, D.bl.injEq, D.tup.injEq, D.lst.injEq, List.cons.injEq, exists_eq_left', exists_eq_left, exists_eq_right, and_true, true_and, OT.toD_fz, toD_map_fz, hIx_tup, hIx_lst, hIx_scr, hIx_mob, hIx_str, hIxT_fz, hIxT_ow, hAdd_int, hAdd_str, hAdd_tup, hAdd_lst, hMul_int, hMul_lst, hSl_tup, hSl_lst, hSl_str, hLen_lst, hLen_tup, hLen_scr, hLen_str, hLen_mob, hInt_int, hInt_bl, hAbs_int, hSeq_lst, hSeq_tup, hIn_lst, hIn_tup, hEq_eq, hI0_int, hI_int, ng_f, ng_t, atI_0, atI_1, atI_2, ofString_inj, eqv_str, eqv_txt, eqv_int, eqv_bl, eqv_tup, eqv_lst, eqOk_str, eqOk_int, eqOk_bl, eqOk_txt, decide_eq_true_eq, Nat.zero_lt_succ, exists_and_left, List.take_succ_cons, List.take_zero, List.drop_succ_cons, List.drop_zero, List.cons_append, List.nil_append, and_assoc, atI_map, Option.map_some, Nat.reduceAdd, Nat.reduceLT, Nat.reduceLeDiff, OT.toD_ow, List.map_cons, List.map_nil, D.mob.injEq, Mo.lst.injEq, Mem.put_same, Mem.put_put, ixN_30, ixN_32, ixN_10, exists_prop, fz_app, fz_inj, fz_snoc, OT.map_fz, List.length_map, List.length_append, List.append_nil, Nat.zero_add, cutL_1, items_tup, items_lst, items_scr, forD, compD, compS, comp2D, wipeE, D.isIn, List.any_cons, List.any_nil, String.reduceEq, D.plain, D.plains, D.dep, D.deps, Nat.max_self, Nat.min_self, Nat.zero_le, Nat.zero_min, Nat.min_zero, sizeLine_eq, forall_eq, exists_const, forall_const, kind_non, kind_bl, kind_int, kind_str, kind_lst, kind_tup, kind_dk, Kd.isa, reduceCtorEq, decide_false, decide_true, Bool.or_false, Bool.false_or, Bool.or_true, Bool.true_or, Bool.or_self, Bool.and_false, Bool.false_and, Bool.true_and, Bool.and_true, Bool.and_self, and_self, false_or, or_false, false_and, and_false, reduceIte, Bool.false_eq_true, Bool.not_eq_true, Bool.not_true, Bool.not_false, spTake]) | refine And.intro (by first | assumption | omega | decide) ?_ | omega | assumption)
    refine ite_or (fun _ => ?_) (fun hdeep hway => ?_)
    · (try simp only [seqS_M, startE_cons, startE_nil, List.length_cons, List.length_nil, List.length_replicate, List.length_set, List.replicate_succ, List.replicate_zero, List.getElem?_cons_zero, List.getElem?_cons_succ, List.set_cons_zero, List.set_cons_succ, Option.some.injEq, OT.fz.injEq, OT.ow.injEq, D.int.injEq, D.str.injEq, D.bl.injEq, D.tup.injEq, D.lst.injEq, List.cons.injEq, exists_eq_left', exists_eq_left, exists_eq_right, and_true, true_and, OT.toD_fz, toD_map_fz, hIx_tup, hIx_lst, hIx_scr, hIx_mob, hIx_str, hIxT_fz, hIxT_ow, hAdd_int, hAdd_str, hAdd_tup, hAdd_lst, hMul_int, hMul_lst, hSl_tup, hSl_lst, hSl_str, hLen_lst, hLen_tup, hLen_scr, hLen_str, hLen_mob, hInt_int, hInt_bl, hAbs_int, hSeq_lst, hSeq_tup, hIn_lst, hIn_tup, hEq_eq, hI0_int, hI_int, ng_f, ng_t, atI_0, atI_1, atI_2, ofString_inj, eqv_str, eqv_txt, eqv_int, eqv_bl, eqv_tup, eqv_lst, eqOk_str, eqOk_int, eqOk_bl, eqOk_txt, decide_eq_true_eq, Nat.zero_lt_succ, exists_and_left, List.take_succ_cons, List.take_zero, List.drop_succ_cons, List.drop_zero, List.cons_append, List.nil_append, and_assoc, atI_map, Option.map_some, Nat.reduceAdd, Nat.reduceLT, Nat.reduceLeDiff, OT.toD_ow, List.map_cons, List.map_nil, D.mob.injEq, Mo.lst.injEq, Mem.put_same, Mem.put_put, ixN_30, ixN_32, ixN_10, exists_prop, fz_app, fz_inj, fz_snoc, OT.map_fz, List.length_map, List.length_append, List.append_nil, Nat.zero_add, cutL_1, items_tup, items_lst, items_scr, forD, compD, compS, comp2D, wipeE, D.isIn, List.any_cons, List.any_nil, String.reduceEq, D.plain, D.plains, D.dep, D.deps, Nat.max_self, Nat.min_self, Nat.zero_le, Nat.zero_min, Nat.min_zero, sizeLine_eq, forall_eq, exists_const, forall_const, kind_non, kind_bl, kind_int, kind_str, kind_lst, kind_tup, kind_dk, Kd.isa, reduceCtorEq, decide_false, decide_true, Bool.or_false, Bool.false_or, Bool.or_true, Bool.true_or, Bool.or_self, Bool.and_false, Bool.false_and, Bool.true_and, Bool.and_true, Bool.and_self, and_self, false_or, or_false, false_and, and_false, reduceIte, Bool.false_eq_true, Bool.not_eq_true, Bool.not_true, Bool.not_false, spTake]); repeat (first | (refine seq_in ?_; simp only [seqS_M, startE_cons, startE_nil, List.length_cons, List.length_nil, List.length_replicate, List.length_set, List.replicate_succ, List.replicate_zero, List.getElem?_cons_zero, List.getElem?_cons_succ, List.set_cons_zero, List.set_cons_succ, Option.some.injEq, OT.fz.injEq, OT.ow.injEq, D.int.injEq, D.str.injEq, D.bl.injEq, D.tup.injEq, D.lst.injEq, List.cons.injEq, exists_eq_left', exists_eq_left, exists_eq_right, and_true, true_and, OT.toD_fz, toD_map_fz, hIx_tup, hIx_lst, hIx_scr, hIx_mob, hIx_str, hIxT_fz, hIxT_ow, hAdd_int, hAdd_str, hAdd_tup, hAdd_lst, hMul_int, hMul_lst, hSl_tup, hSl_lst, hSl_str, hLen_lst, hLen_tup, hLen_scr, hLen_str, hLen_mob, hInt_int, hInt_bl, hAbs_int, hSeq_lst, hSeq_tup, hIn_lst, hIn_tup, hEq_eq, hI0_int, hI_int, ng_f, ng_t, atI_0, atI_1, atI_2, ofString_inj, eqv_str, eqv_txt, eqv_int, eqv_bl, eqv_tup, eqv_lst, eqOk_str, eqOk_int, eqOk_bl, eqOk_txt, decide_eq_true_eq, Nat.zero_lt_succ, exists_and_left, List.take_succ_cons, List.take_zero, List.drop_succ_cons, List.drop_zero, List.cons_append, List.nil_append, and_assoc, atI_map, Option.map_some, Nat.reduceAdd, Nat.reduceLT, Nat.reduceLeDiff, OT.toD_ow, List.map_cons, List.map_nil, D.mob.injEq, Mo.lst.injEq, Mem.put_same, Mem.put_put, ixN_30, ixN_32, ixN_10, exists_prop, fz_app, fz_inj, fz_snoc, OT.map_fz, List.length_map, List.length_append, List.append_nil, Nat.zero_add, cutL_1, items_tup, items_lst, items_scr, forD, compD, compS, comp2D, wipeE, D.isIn, List.any_cons, List.any_nil, String.reduceEq, D.plain, D.plains, D.dep, D.deps, Nat.max_self, Nat.min_self, Nat.zero_le, Nat.zero_min, Nat.min_zero, sizeLine_eq, forall_eq, exists_const, forall_const, kind_non, kind_bl, kind_int, kind_str, kind_lst, kind_tup, kind_dk, Kd.isa, reduceCtorEq, decide_false, decide_true, Bool.or_false, Bool.false_or, Bool.or_true, Bool.true_or, Bool.or_self, Bool.and_false, Bool.false_and, Bool.true_and, Bool.and_true, Bool.and_self, and_self, false_or, or_false, false_and, and_false, reduceIte, Bool.false_eq_true, Bool.not_eq_true, Bool.not_true, Bool.not_false, spTake]) | refine And.intro (by first | assumption | omega | decide) ?_ | omega | assumption)
      split
      · rename_i hlen
        replace hlen : 1 < runs.length := by omega
        refine take_at (by decide) (by decide) (by omega : n + 1 ≤ _) hB1.is fun two M2 h2 h3 hB2 => ?_
        (try simp only [seqS_M, startE_cons, startE_nil, List.length_cons, List.length_nil, List.length_replicate, List.length_set, List.replicate_succ, List.replicate_zero, List.getElem?_cons_zero, List.getElem?_cons_succ, List.set_cons_zero, List.set_cons_succ, Option.some.injEq, OT.fz.injEq, OT.ow.injEq, D.int.injEq, D.str.injEq, D.bl.injEq, D.tup.injEq, D.lst.injEq, List.cons.injEq, exists_eq_left', exists_eq_left, exists_eq_right, and_true, true_and, OT.toD_fz, toD_map_fz, hIx_tup, hIx_lst, hIx_scr, hIx_mob, hIx_str, hIxT_fz, hIxT_ow, hAdd_int, hAdd_str, hAdd_tup, hAdd_lst, hMul_int, hMul_lst, hSl_tup, hSl_lst, hSl_str, hLen_lst, hLen_tup, hLen_scr, hLen_str, hLen_mob, hInt_int, hInt_bl, hAbs_int, hSeq_lst, hSeq_tup, hIn_lst, hIn_tup, hEq_eq, hI0_int, hI_int, ng_f, ng_t, atI_0, atI_1, atI_2, ofString_inj, eqv_str, eqv_txt, eqv_int, eqv_bl, eqv_tup, eqv_lst, eqOk_str, eqOk_int, eqOk_bl, eqOk_txt, decide_eq_true_eq, Nat.zero_lt_succ, exists_and_left, List.take_succ_cons, List.take_zero, List.drop_succ_cons, List.drop_zero, List.cons_append, List.nil_append, and_assoc, atI_map, Option.map_some, Nat.reduceAdd, Nat.reduceLT, Nat.reduceLeDiff, OT.toD_ow, List.map_cons, List.map_nil, D.mob.injEq, Mo.lst.injEq, Mem.put_same, Mem.put_put, ixN_30, ixN_32, ixN_10, exists_prop, fz_app, fz_inj, fz_snoc, OT.map_fz, List.length_map, List.length_append, List.append_nil, Nat.zero_add, cutL_1, items_tup, items_lst, items_scr, forD, compD, compS, comp2D, wipeE, D.isIn, List.any_cons, List.any_nil, String.reduceEq, D.plain, D.plains, D.dep, D.deps, Nat.max_self, Nat.min_self, Nat.zero_le, Nat.zero_min, Nat.min_zero, sizeLine_eq, forall_eq, exists_const, forall_const, kind_non, kind_bl, kind_int, kind_str, kind_lst, kind_tup, kind_dk, Kd.isa, reduceCtorEq, decide_false, decide_true, Bool.or_false, Bool.false_or, Bool.or_true, Bool.true_or, Bool.or_self, Bool.and_false, Bool.false_and, Bool.true_and, Bool.and_true, Bool.and_self, and_self, false_or, or_false, false_and, and_false, reduceIte, Bool.false_eq_true, Bool.not_eq_true, Bool.not_true, Bool.not_false, spTake]); repeat (first | (refine seq_in ?_; simp only [seqS_M, startE_cons, startE_nil, List.length_cons, List.length_nil, List.length_replicate, List.length_set, List.replicate_succ, List.replicate_zero, List.getElem?_cons_zero, List.getElem?_cons_succ, List.set_cons_zero, List.set_cons_succ, Option.some.injEq, OT.fz.injEq, OT.ow.injEq, D.int.injEq, D.str.injEq, D.bl.injEq, D.tup.injEq, D.lst.injEq, List.cons.injEq, exists_eq_left', exists_eq_left, exists_eq_right, and_true, true_and, OT.toD_fz, toD_map_fz, hIx_tup, hIx_lst, hIx_scr, hIx_mob, hIx_str, hIxT_fz, hIxT_ow, hAdd_int, hAdd_str, hAdd_tup, hAdd_lst, hMul_int, hMul_lst, hSl_tup, hSl_lst, hSl_str, hLen_lst, hLen_tup, hLen_scr, hLen_str, hLen_mob, hInt_int, hInt_bl, hAbs_int, hSeq_lst, hSeq_tup, hIn_lst, hIn_tup, hEq_eq, hI0_int, hI_int, ng_f, ng_t, atI_0, atI_1, atI_2, ofString_inj, eqv_str, eqv_txt, eqv_int, eqv_bl, eqv_tup, eqv_lst, eqOk_str, eqOk_int, eqOk_bl, eqOk_txt, decide_eq_true_eq, Nat.zero_lt_succ, exists_and_left, List.take_succ_cons, List.take_zero, List.drop_succ_cons, List.drop_zero, List.cons_append, List.nil_append, and_assoc, atI_map, Option.map_some, Nat.reduceAdd, Nat.reduceLT, Nat.reduceLeDiff, OT.toD_ow, List.map_cons, List.map_nil, D.mob.injEq, Mo.lst.injEq, Mem.put_same, Mem.put_put, ixN_30, ixN_32, ixN_10, exists_prop, fz_app, fz_inj, fz_snoc, OT.map_fz, List.length_map, List.length_append, List.append_nil, Nat.zero_add, cutL_1, items_tup, items_lst, items_scr, forD, compD, compS, comp2D, wipeE, D.isIn, List.any_cons, List.any_nil, String.reduceEq, D.plain, D.plains, D.dep, D.deps, Nat.max_self, Nat.min_self, Nat.zero_le, Nat.zero_min, Nat.min_zero, sizeLine_eq, forall_eq, exists_const, forall_const, kind_non, kind_bl, kind_int, kind_str, kind_lst, kind_tup, kind_dk, Kd.isa, reduceCtorEq, decide_false, decide_true, Bool.or_false, Bool.false_or, Bool.or_true, Bool.true_or, Bool.or_self, Bool.and_false, Bool.false_and, Bool.true_and, Bool.and_true, Bool.and_self, and_self, false_or, or_false, false_and, and_false, reduceIte, Bool.false_eq_true, Bool.not_eq_true, Bool.not_true, Bool.not_false, spTake]) | refine And.intro (by first | assumption | omega | decide) ?_ | omega | assumption)
        split
        · have e0 : atI runs 0 = some runs[0] := atI_nat (List.getElem?_eq_getElem (i := 0) (by omega))
          have e1 : atI runs 1 = some runs[1] := atI_nat (List.getElem?_eq_getElem (i := 1) (by omega))
          have em := atI_m (l := runs) (List.getLast?_eq_some_getLast hr0)
          (try simp only [seqS_M, startE_cons, startE_nil, List.length_cons, List.length_nil, List.length_replicate, List.length_set, List.replicate_succ, List.replicate_zero, List.getElem?_cons_zero, List.getElem?_cons_succ, List.set_cons_zero, List.set_cons_succ, Option.some.injEq, OT.fz.injEq, OT.ow.injEq, D.int.injEq, D.str.injEq, D.bl.injEq, D.tup.injEq, D.lst.injEq, List.cons.injEq, exists_eq_left', exists_eq_left, exists_eq_right, and_true, true_and, OT.toD_fz, toD_map_fz, hIx_tup, hIx_lst, hIx_scr, hIx_mob, hIx_str, hIxT_fz, hIxT_ow, hAdd_int, hAdd_str, hAdd_tup, hAdd_lst, hMul_int, hMul_lst, hSl_tup, hSl_lst, hSl_str, hLen_lst, hLen_tup, hLen_scr, hLen_str, hLen_mob, hInt_int, hInt_bl, hAbs_int, hSeq_lst, hSeq_tup, hIn_lst, hIn_tup, hEq_eq, hI0_int, hI_int, ng_f, ng_t, atI_0, atI_1, atI_2, ofString_inj, eqv_str, eqv_txt, eqv_int, eqv_bl, eqv_tup, eqv_lst, eqOk_str, eqOk_int, eqOk_bl, eqOk_txt, decide_eq_true_eq, Nat.zero_lt_succ, exists_and_left, List.take_succ_cons, List.take_zero, List.drop_succ_cons, List.drop_zero, List.cons_append, List.nil_append, and_assoc, atI_map, Option.map_some, Nat.reduceAdd, Nat.reduceLT, Nat.reduceLeDiff, OT.toD_ow, List.map_cons, List.map_nil, D.mob.injEq, Mo.lst.injEq, Mem.put_same, Mem.put_put, ixN_30, ixN_32, ixN_10, exists_prop, fz_app, fz_inj, fz_snoc, OT.map_fz, List.length_map, List.length_append, List.append_nil, Nat.zero_add, cutL_1, items_tup, items_lst, items_scr, forD, compD, compS, comp2D, wipeE, D.isIn, List.any_cons, List.any_nil, String.reduceEq, D.plain, D.plains, D.dep, D.deps, Nat.max_self, Nat.min_self, Nat.zero_le, Nat.zero_min, Nat.min_zero, sizeLine_eq, forall_eq, exists_const, forall_const, kind_non, kind_bl, kind_int, kind_str, kind_lst, kind_tup, kind_dk, Kd.isa, reduceCtorEq, decide_false, decide_true, Bool.or_false, Bool.false_or, Bool.or_true, Bool.true_or, Bool.or_self, Bool.and_false, Bool.false_and, Bool.true_and, Bool.and_true, Bool.and_self, and_self, false_or, or_false, false_and, and_false, reduceIte, Bool.false_eq_true, Bool.not_eq_true, Bool.not_true, Bool.not_false, spTake, e0, e1, em, Int.reduceNeg]); repeat (first | (refine seq_in ?_; simp only [seqS_M, startE_cons, startE_nil, List.length_cons, List.length_nil, List.length_replicate, List.length_set, List.replicate_succ, List.replicate_zero, List.getElem?_cons_zero, List.getElem?_cons_succ, List.set_cons_zero, List.set_cons_succ, Option.some.injEq, OT.fz.injEq, OT.ow.injEq, D.int.injEq, D.str.injEq, D.bl.injEq, D.tup.injEq, D.lst.injEq, List.cons.injEq, exists_eq_left', exists_eq_left, exists_eq_right, and_true, true_and, OT.toD_fz, toD_map_fz, hIx_tup, hIx_lst, hIx_scr, hIx_mob, hIx_str, hIxT_fz, hIxT_ow, hAdd_int, hAdd_str, hAdd_tup, hAdd_lst, hMul_int, hMul_lst, hSl_tup, hSl_lst, hSl_str, hLen_lst, hLen_tup, hLen_scr, hLen_str, hLen_mob, hInt_int, hInt_bl, hAbs_int, hSeq_lst, hSeq_tup, hIn_lst, hIn_tup, hEq_eq, hI0_int, hI_int, ng_f, ng_t, atI_0, atI_1, atI_2, ofString_inj, eqv_str, eqv_txt, eqv_int, eqv_bl, eqv_tup, eqv_lst, eqOk_str, eqOk_int, eqOk_bl, eqOk_txt, decide_eq_true_eq, Nat.zero_lt_succ, exists_and_left, List.take_succ_cons, List.take_zero, List.drop_succ_cons, List.drop_zero, List.cons_append, List.nil_append, and_assoc, atI_map, Option.map_some, Nat.reduceAdd, Nat.reduceLT, Nat.reduceLeDiff, OT.toD_ow, List.map_cons, List.map_nil, D.mob.injEq, Mo.lst.injEq, Mem.put_same, Mem.put_put, ixN_30, ixN_32, ixN_10, exists_prop, fz_app, fz_inj, fz_snoc, OT.map_fz, List.length_map, List.length_append, List.append_nil, Nat.zero_add, cutL_1, items_tup, items_lst, items_scr, forD, compD, compS, comp2D, wipeE, D.isIn, List.any_cons, List.any_nil, String.reduceEq, D.plain, D.plains, D.dep, D.deps, Nat.max_self, Nat.min_self, Nat.zero_le, Nat.zero_min, Nat.min_zero, sizeLine_eq, forall_eq, exists_const, forall_const, kind_non, kind_bl, kind_int, kind_str, kind_lst, kind_tup, kind_dk, Kd.isa, reduceCtorEq, decide_false, decide_true, Bool.or_false, Bool.false_or, Bool.or_true, Bool.true_or, Bool.or_self, Bool.and_false, Bool.false_and, Bool.true_and, Bool.and_true, Bool.and_self, and_self, false_or, or_false, false_and, and_false, reduceIte, Bool.false_eq_true, Bool.not_eq_true, Bool.not_true, Bool.not_false, spTake, e0, e1, em, Int.reduceNeg]) | refine And.intro (by first | assumption | omega | decide) ?_ | omega | assumption)
          refine of_at (.inl rfl) (by simp) (by simp) (by omega : n + 2 ≤ _) hB2.is fun dp M3 hdp hB3 => ?_
          obtain ⟨a, b, ha, hb', rfl⟩ : ∃ a b, a ∈ runs ∧ b ∈ runs ∧ dp = .tup [.str a, .str b] := by
            simp only [List.mem_cons, List.not_mem_nil, or_false] at hdp
            rcases hdp with rfl | rfl | rfl
            · exact ⟨_, _, List.getElem_mem _, List.getElem_mem _, rfl⟩
            · exact ⟨_, _, List.getElem_mem _, List.getElem_mem _, rfl⟩
            · exact ⟨_, _, List.getLast_mem hr0, List.getElem_mem _, rfl⟩
          (try simp only [seqS_M, startE_cons, startE_nil, List.length_cons, List.length_nil, List.length_replicate, List.length_set, List.replicate_succ, List.replicate_zero, List.getElem?_cons_zero, List.getElem?_cons_succ, List.set_cons_zero, List.set_cons_succ, Option.some.injEq, OT.fz.injEq, OT.ow.injEq, D.int.injEq, D.str.injEq, D.bl.injEq, D.tup.injEq, D.lst.injEq, List.cons.injEq, exists_eq_left', exists_eq_left, exists_eq_right, and_true, true_and, OT.toD_fz, toD_map_fz, hIx_tup, hIx_lst, hIx_scr, hIx_mob, hIx_str, hIxT_fz, hIxT_ow, hAdd_int, hAdd_str, hAdd_tup, hAdd_lst, hMul_int, hMul_lst, hSl_tup, hSl_lst, hSl_str, hLen_lst, hLen_tup, hLen_scr, hLen_str, hLen_mob, hInt_int, hInt_bl, hAbs_int, hSeq_lst, hSeq_tup, hIn_lst, hIn_tup, hEq_eq, hI0_int, hI_int, ng_f, ng_t, atI_0, atI_1, atI_2, ofString_inj, eqv_str, eqv_txt, eqv_int, eqv_bl, eqv_tup, eqv_lst, eqOk_str, eqOk_int, eqOk_bl, eqOk_txt, decide_eq_true_eq, Nat.zero_lt_succ, exists_and_left, List.take_succ_cons, List.take_zero, List.drop_succ_cons, List.drop_zero, List.cons_append, List.nil_append, and_assoc, atI_map, Option.map_some, Nat.reduceAdd, Nat.reduceLT, Nat.reduceLeDiff, OT.toD_ow, List.map_cons, List.map_nil, D.mob.injEq, Mo.lst.injEq, Mem.put_same, Mem.put_put, ixN_30, ixN_32, ixN_10, exists_prop, fz_app, fz_inj, fz_snoc, OT.map_fz, List.length_map, List.length_append, List.append_nil, Nat.zero_add, cutL_1, items_tup, items_lst, items_scr, forD, compD, compS, comp2D, wipeE, D.isIn, List.any_cons, List.any_nil, String.reduceEq, D.plain, D.plains, D.dep, D.deps, Nat.max_self, Nat.min_self, Nat.zero_le, Nat.zero_min, Nat.min_zero, sizeLine_eq, forall_eq, exists_const, forall_const, kind_non, kind_bl, kind_int, kind_str, kind_lst, kind_tup, kind_dk, Kd.isa, reduceCtorEq, decide_false, decide_true, Bool.or_false, Bool.false_or, Bool.or_true, Bool.true_or, Bool.or_self, Bool.and_false, Bool.false_and, Bool.true_and, Bool.and_true, Bool.and_self, and_self, false_or, or_false, false_and, and_false, reduceIte, Bool.false_eq_true, Bool.not_eq_true, Bool.not_true, Bool.not_false, spTake]); repeat (first | (refine seq_in ?_; simp only [seqS_M, startE_cons, startE_nil, List.length_cons, List.length_nil, List.length_replicate, List.length_set, List.replicate_succ, List.replicate_zero, List.getElem?_cons_zero, List.getElem?_cons_succ, List.set_cons_zero, List.set_cons_succ, Option.some.injEq, OT.fz.injEq, OT.ow.injEq, D.int.injEq, D.str.injEq, D.bl.injEq, D.tup.injEq, D.lst.injEq, List.cons.injEq, exists_eq_left', exists_eq_left, exists_eq_right, and_true, true_and, OT.toD_fz, toD_map_fz, hIx_tup, hIx_lst, hIx_scr, hIx_mob, hIx_str, hIxT_fz, hIxT_ow, hAdd_int, hAdd_str, hAdd_tup, hAdd_lst, hMul_int, hMul_lst, hSl_tup, hSl_lst, hSl_str, hLen_lst, hLen_tup, hLen_scr, hLen_str, hLen_mob, hInt_int, hInt_bl, hAbs_int, hSeq_lst, hSeq_tup, hIn_lst, hIn_tup, hEq_eq, hI0_int, hI_int, ng_f, ng_t, atI_0, atI_1, atI_2, ofString_inj, eqv_str, eqv_txt, eqv_int, eqv_bl, eqv_tup, eqv_lst, eqOk_str, eqOk_int, eqOk_bl, eqOk_txt, decide_eq_true_eq, Nat.zero_lt_succ, exists_and_left, List.take_succ_cons, List.take_zero, List.drop_succ_cons, List.drop_zero, List.cons_append, List.nil_append, and_assoc, atI_map, Option.map_some, Nat.reduceAdd, Nat.reduceLT, Nat.reduceLeDiff, OT.toD_ow, List.map_cons, List.map_nil, D.mob.injEq, Mo.lst.injEq, Mem.put_same, Mem.put_put, ixN_30, ixN_32, ixN_10, exists_prop, fz_app, fz_inj, fz_snoc, OT.map_fz, List.length_map, List.length_append, List.append_nil, Nat.zero_add, cutL_1, items_tup, items_lst, items_scr, forD, compD, compS, comp2D, wipeE, D.isIn, List.any_cons, List.any_nil, String.reduceEq, D.plain, D.plains, D.dep, D.deps, Nat.max_self, Nat.min_self, Nat.zero_le, Nat.zero_min, Nat.min_zero, sizeLine_eq, forall_eq, exists_const, forall_const, kind_non, kind_bl, kind_int, kind_str, kind_lst, kind_tup, kind_dk, Kd.isa, reduceCtorEq, decide_false, decide_true, Bool.or_false, Bool.false_or, Bool.or_true, Bool.true_or, Bool.or_self, Bool.and_false, Bool.false_and, Bool.true_and, Bool.and_true, Bool.and_self, and_self, false_or, or_false, false_and, and_false, reduceIte, Bool.false_eq_true, Bool.not_eq_true, Bool.not_true, Bool.not_false, spTake]) | refine And.intro (by first | assumption | omega | decide) ?_ | omega | assumption)
          have hB4 : BoxTo p (n + 3) M M3 := (hB1.trans (hB2.trans hB3)).mono (by omega)
          refine compD_rec (fun ds acc M' => ∃ (done : Nat) (ys : List Str), done + ds.length = marks.length ∧ (∀ x ∈ ds, ∃ m ∈ marks, x = .str m) ∧ acc = (ys.map .str).map .fz ∧ (∀ y ∈ ys, y ∈ marks) ∧ ys.length ≤ done ∧ BoxTo p (n + 3 + done) M M') _ _ _
            ⟨0, [], by simp, fun x hx => (mem_strs hx), rfl, (fun y hy => absurd hy List.not_mem_nil), Nat.le_refl _, hB4⟩ (fun acc M4 h => ?_) fun dm ds acc M4 h C hC => ?_
          · obtain ⟨done, ys, hdone, _, rfl, hys, hlys, hB5⟩ := h
            replace hdone : done = marks.length := by simpa using hdone
            (try simp only [seqS_M, startE_cons, startE_nil, List.length_cons, List.length_nil, List.length_replicate, List.length_set, List.replicate_succ, List.replicate_zero, List.getElem?_cons_zero, List.getElem?_cons_succ, List.set_cons_zero, List.set_cons_succ, Option.some.injEq, OT.fz.injEq, OT.ow.injEq, D.int.injEq, D.str.injEq, D.bl.injEq, D.tup.injEq, D.lst.injEq, List.cons.injEq, exists_eq_left', exists_eq_left, exists_eq_right, and_true, true_and, OT.toD_fz, toD_map_fz, hIx_tup, hIx_lst, hIx_scr, hIx_mob, hIx_str, hIxT_fz, hIxT_ow, hAdd_int, hAdd_str, hAdd_tup, hAdd_lst, hMul_int, hMul_lst, hSl_tup, hSl_lst, hSl_str, hLen_lst, hLen_tup, hLen_scr, hLen_str, hLen_mob, hInt_int, hInt_bl, hAbs_int, hSeq_lst, hSeq_tup, hIn_lst, hIn_tup, hEq_eq, hI0_int, hI_int, ng_f, ng_t, atI_0, atI_1, atI_2, ofString_inj, eqv_str, eqv_txt, eqv_int, eqv_bl, eqv_tup, eqv_lst, eqOk_str, eqOk_int, eqOk_bl, eqOk_txt, decide_eq_true_eq, Nat.zero_lt_succ, exists_and_left, List.take_succ_cons, List.take_zero, List.drop_succ_cons, List.drop_zero, List.cons_append, List.nil_append, and_assoc, atI_map, Option.map_some, Nat.reduceAdd, Nat.reduceLT, Nat.reduceLeDiff, OT.toD_ow, List.map_cons, List.map_nil, D.mob.injEq, Mo.lst.injEq, Mem.put_same, Mem.put_put, ixN_30, ixN_32, ixN_10, exists_prop, fz_app, fz_inj, fz_snoc, OT.map_fz, List.length_map, List.length_append, List.append_nil, Nat.zero_add, cutL_1, items_tup, items_lst, items_scr, forD, compD, compS, comp2D, wipeE, D.isIn, List.any_cons, List.any_nil, String.reduceEq, D.plain, D.plains, D.dep, D.deps, Nat.max_self, Nat.min_self, Nat.zero_le, Nat.zero_min, Nat.min_zero, sizeLine_eq, forall_eq, exists_const, forall_const, kind_non, kind_bl, kind_int, kind_str, kind_lst, kind_tup, kind_dk, Kd.isa, reduceCtorEq, decide_false, decide_true, Bool.or_false, Bool.false_or, Bool.or_true, Bool.true_or, Bool.or_self, Bool.and_false, Bool.false_and, Bool.true_and, Bool.and_true, Bool.and_self, and_self, false_or, or_false, false_and, and_false, reduceIte, Bool.false_eq_true, Bool.not_eq_true, Bool.not_true, Bool.not_false, spTake]); repeat (first | (refine seq_in ?_; simp only [seqS_M, startE_cons, startE_nil, List.length_cons, List.length_nil, List.length_replicate, List.length_set, List.replicate_succ, List.replicate_zero, List.getElem?_cons_zero, List.getElem?_cons_succ, List.set_cons_zero, List.set_cons_succ, Option.some.injEq, OT.fz.injEq, OT.ow.injEq, D.int.injEq, D.str.injEq, D.bl.injEq, D.tup.injEq, D.lst.injEq, List.cons.injEq, exists_eq_left', exists_eq_left, exists_eq_right, and_true, true_and, OT.toD_fz, toD_map_fz, hIx_tup, hIx_lst, hIx_scr, hIx_mob, hIx_str, hIxT_fz, hIxT_ow, hAdd_int, hAdd_str, hAdd_tup, hAdd_lst, hMul_int, hMul_lst, hSl_tup, hSl_lst, hSl_str, hLen_lst, hLen_tup, hLen_scr, hLen_str, hLen_mob, hInt_int, hInt_bl, hAbs_int, hSeq_lst, hSeq_tup, hIn_lst, hIn_tup, hEq_eq, hI0_int, hI_int, ng_f, ng_t, atI_0, atI_1, atI_2, ofString_inj, eqv_str, eqv_txt, eqv_int, eqv_bl, eqv_tup, eqv_lst, eqOk_str, eqOk_int, eqOk_bl, eqOk_txt, decide_eq_true_eq, Nat.zero_lt_succ, exists_and_left, List.take_succ_cons, List.take_zero, List.drop_succ_cons, List.drop_zero, List.cons_append, List.nil_append, and_assoc, atI_map, Option.map_some, Nat.reduceAdd, Nat.reduceLT, Nat.reduceLeDiff, OT.toD_ow, List.map_cons, List.map_nil, D.mob.injEq, Mo.lst.injEq, Mem.put_same, Mem.put_put, ixN_30, ixN_32, ixN_10, exists_prop, fz_app, fz_inj, fz_snoc, OT.map_fz, List.length_map, List.length_append, List.append_nil, Nat.zero_add, cutL_1, items_tup, items_lst, items_scr, forD, compD, compS, comp2D, wipeE, D.isIn, List.any_cons, List.any_nil, String.reduceEq, D.plain, D.plains, D.dep, D.deps, Nat.max_self, Nat.min_self, Nat.zero_le, Nat.zero_min, Nat.min_zero, sizeLine_eq, forall_eq, exists_const, forall_const, kind_non, kind_bl, kind_int, kind_str, kind_lst, kind_tup, kind_dk, Kd.isa, reduceCtorEq, decide_false, decide_true, Bool.or_false, Bool.false_or, Bool.or_true, Bool.true_or, Bool.or_self, Bool.and_false, Bool.false_and, Bool.true_and, Bool.and_true, Bool.and_self, and_self, false_or, or_false, false_and, and_false, reduceIte, Bool.false_eq_true, Bool.not_eq_true, Bool.not_true, Bool.not_false, spTake]) | refine And.intro (by first | assumption | omega | decide) ?_ | omega | assumption)
            refine of_at (.inl rfl) (by simpa using hm0) (by rw [List.length_map]; omega) (by omega : n + 3 + done ≤ _) hB5.is fun dm M5 hdm hB6 => ?_
            obtain ⟨m, hm', rfl⟩ := mem_strs hdm
            have hok : (D.lst (ys.map D.str)).eqOk (.lst []) = true := eqOk_of (by rw [plain_lst]; exact plains_strs) rfl (.inr (by decide))
            cases ys with
            | nil =>
              (try simp only [seqS_M, startE_cons, startE_nil, List.length_cons, List.length_nil, List.length_replicate, List.length_set, List.replicate_succ, List.replicate_zero, List.getElem?_cons_zero, List.getElem?_cons_succ, List.set_cons_zero, List.set_cons_succ, Option.some.injEq, OT.fz.injEq, OT.ow.injEq, D.int.injEq, D.str.injEq, D.bl.injEq, D.tup.injEq, D.lst.injEq, List.cons.injEq, exists_eq_left', exists_eq_left, exists_eq_right, and_true, true_and, OT.toD_fz, toD_map_fz, hIx_tup, hIx_lst, hIx_scr, hIx_mob, hIx_str, hIxT_fz, hIxT_ow, hAdd_int, hAdd_str, hAdd_tup, hAdd_lst, hMul_int, hMul_lst, hSl_tup, hSl_lst, hSl_str, hLen_lst, hLen_tup, hLen_scr, hLen_str, hLen_mob, hInt_int, hInt_bl, hAbs_int, hSeq_lst, hSeq_tup, hIn_lst, hIn_tup, hEq_eq, hI0_int, hI_int, ng_f, ng_t, atI_0, atI_1, atI_2, ofString_inj, eqv_str, eqv_txt, eqv_int, eqv_bl, eqv_tup, eqv_lst, eqOk_str, eqOk_int, eqOk_bl, eqOk_txt, decide_eq_true_eq, Nat.zero_lt_succ, exists_and_left, List.take_succ_cons, List.take_zero, List.drop_succ_cons, List.drop_zero, List.cons_append, List.nil_append, and_assoc, atI_map, Option.map_some, Nat.reduceAdd, Nat.reduceLT, Nat.reduceLeDiff, OT.toD_ow, List.map_cons, List.map_nil, D.mob.injEq, Mo.lst.injEq, Mem.put_same, Mem.put_put, ixN_30, ixN_32, ixN_10, exists_prop, fz_app, fz_inj, fz_snoc, OT.map_fz, List.length_map, List.length_append, List.append_nil, Nat.zero_add, cutL_1, items_tup, items_lst, items_scr, forD, compD, compS, comp2D, wipeE, D.isIn, List.any_cons, List.any_nil, String.reduceEq, D.plain, D.plains, D.dep, D.deps, Nat.max_self, Nat.min_self, Nat.zero_le, Nat.zero_min, Nat.min_zero, sizeLine_eq, forall_eq, exists_const, forall_const, kind_non, kind_bl, kind_int, kind_str, kind_lst, kind_tup, kind_dk, Kd.isa, reduceCtorEq, decide_false, decide_true, Bool.or_false, Bool.false_or, Bool.or_true, Bool.true_or, Bool.or_self, Bool.and_false, Bool.false_and, Bool.true_and, Bool.and_true, Bool.and_self, and_self, false_or, or_false, false_and, and_false, reduceIte, Bool.false_eq_true, Bool.not_eq_true, Bool.not_true, Bool.not_false, spTake, D.eqvs, repD, Int.reduceToNat, List.flatten_nil, List.flatten_cons]); repeat (first | (refine seq_in ?_; simp only [seqS_M, startE_cons, startE_nil, List.length_cons, List.length_nil, List.length_replicate, List.length_set, List.replicate_succ, List.replicate_zero, List.getElem?_cons_zero, List.getElem?_cons_succ, List.set_cons_zero, List.set_cons_succ, Option.some.injEq, OT.fz.injEq, OT.ow.injEq, D.int.injEq, D.str.injEq, D.bl.injEq, D.tup.injEq, D.lst.injEq, List.cons.injEq, exists_eq_left', exists_eq_left, exists_eq_right, and_true, true_and, OT.toD_fz, toD_map_fz, hIx_tup, hIx_lst, hIx_scr, hIx_mob, hIx_str, hIxT_fz, hIxT_ow, hAdd_int, hAdd_str, hAdd_tup, hAdd_lst, hMul_int, hMul_lst, hSl_tup, hSl_lst, hSl_str, hLen_lst, hLen_tup, hLen_scr, hLen_str, hLen_mob, hInt_int, hInt_bl, hAbs_int, hSeq_lst, hSeq_tup, hIn_lst, hIn_tup, hEq_eq, hI0_int, hI_int, ng_f, ng_t, atI_0, atI_1, atI_2, ofString_inj, eqv_str, eqv_txt, eqv_int, eqv_bl, eqv_tup, eqv_lst, eqOk_str, eqOk_int, eqOk_bl, eqOk_txt, decide_eq_true_eq, Nat.zero_lt_succ, exists_and_left, List.take_succ_cons, List.take_zero, List.drop_succ_cons, List.drop_zero, List.cons_append, List.nil_append, and_assoc, atI_map, Option.map_some, Nat.reduceAdd, Nat.reduceLT, Nat.reduceLeDiff, OT.toD_ow, List.map_cons, List.map_nil, D.mob.injEq, Mo.lst.injEq, Mem.put_same, Mem.put_put, ixN_30, ixN_32, ixN_10, exists_prop, fz_app, fz_inj, fz_snoc, OT.map_fz, List.length_map, List.length_append, List.append_nil, Nat.zero_add, cutL_1, items_tup, items_lst, items_scr, forD, compD, compS, comp2D, wipeE, D.isIn, List.any_cons, List.any_nil, String.reduceEq, D.plain, D.plains, D.dep, D.deps, Nat.max_self, Nat.min_self, Nat.zero_le, Nat.zero_min, Nat.min_zero, sizeLine_eq, forall_eq, exists_const, forall_const, kind_non, kind_bl, kind_int, kind_str, kind_lst, kind_tup, kind_dk, Kd.isa, reduceCtorEq, decide_false, decide_true, Bool.or_false, Bool.false_or, Bool.or_true, Bool.true_or, Bool.or_self, Bool.and_false, Bool.false_and, Bool.true_and, Bool.and_true, Bool.and_self, and_self, false_or, or_false, false_and, and_false, reduceIte, Bool.false_eq_true, Bool.not_eq_true, Bool.not_true, Bool.not_false, spTake, D.eqvs, repD, Int.reduceToNat, List.flatten_nil, List.flatten_cons]) | refine And.intro (by first | assumption | omega | decide) ?_ | omega | assumption)
              (try simp only [seqS_M, startE_cons, startE_nil, List.length_cons, List.length_nil, List.length_replicate, List.length_set, List.replicate_succ, List.replicate_zero, List.getElem?_cons_zero, List.getElem?_cons_succ, List.set_cons_zero, List.set_cons_succ, Option.some.injEq, OT.fz.injEq, OT.ow.injEq, D.int.injEq, D.str.injEq, D.bl.injEq, D.tup.injEq, D.lst.injEq, List.cons.injEq, exists_eq_left', exists_eq_left, exists_eq_right, and_true, true_and, OT.toD_fz, toD_map_fz, hIx_tup, hIx_lst, hIx_scr, hIx_mob, hIx_str, hIxT_fz, hIxT_ow, hAdd_int, hAdd_str, hAdd_tup, hAdd_lst, hMul_int, hMul_lst, hSl_tup, hSl_lst, hSl_str, hLen_lst, hLen_tup, hLen_scr, hLen_str, hLen_mob, hInt_int, hInt_bl, hAbs_int, hSeq_lst, hSeq_tup, hIn_lst, hIn_tup, hEq_eq, hI0_int, hI_int, ng_f, ng_t, atI_0, atI_1, atI_2, ofString_inj, eqv_str, eqv_txt, eqv_int, eqv_bl, eqv_tup, eqv_lst, eqOk_str, eqOk_int, eqOk_bl, eqOk_txt, decide_eq_true_eq, Nat.zero_lt_succ, exists_and_left, List.take_succ_cons, List.take_zero, List.drop_succ_cons, List.drop_zero, List.cons_append, List.nil_append, and_assoc, atI_map, Option.map_some, Nat.reduceAdd, Nat.reduceLT, Nat.reduceLeDiff, OT.toD_ow, List.map_cons, List.map_nil, D.mob.injEq, Mo.lst.injEq, Mem.put_same, Mem.put_put, ixN_30, ixN_32, ixN_10, exists_prop, fz_app, fz_inj, fz_snoc, OT.map_fz, List.length_map, List.length_append, List.append_nil, Nat.zero_add, cutL_1, items_tup, items_lst, items_scr, forD, compD, compS, comp2D, wipeE, D.isIn, List.any_cons, List.any_nil, String.reduceEq, D.plain, D.plains, D.dep, D.deps, Nat.max_self, Nat.min_self, Nat.zero_le, Nat.zero_min, Nat.min_zero, sizeLine_eq, forall_eq, exists_const, forall_const, kind_non, kind_bl, kind_int, kind_str, kind_lst, kind_tup, kind_dk, Kd.isa, reduceCtorEq, decide_false, decide_true, Bool.or_false, Bool.false_or, Bool.or_true, Bool.true_or, Bool.or_self, Bool.and_false, Bool.false_and, Bool.true_and, Bool.and_true, Bool.and_self, and_self, false_or, or_false, false_and, and_false, reduceIte, Bool.false_eq_true, Bool.not_eq_true, Bool.not_true, Bool.not_false, spTake]); repeat (first | (refine seq_in ?_; simp only [seqS_M, startE_cons, startE_nil, List.length_cons, List.length_nil, List.length_replicate, List.length_set, List.replicate_succ, List.replicate_zero, List.getElem?_cons_zero, List.getElem?_cons_succ, List.set_cons_zero, List.set_cons_succ, Option.some.injEq, OT.fz.injEq, OT.ow.injEq, D.int.injEq, D.str.injEq, D.bl.injEq, D.tup.injEq, D.lst.injEq, List.cons.injEq, exists_eq_left', exists_eq_left, exists_eq_right, and_true, true_and, OT.toD_fz, toD_map_fz, hIx_tup, hIx_lst, hIx_scr, hIx_mob, hIx_str, hIxT_fz, hIxT_ow, hAdd_int, hAdd_str, hAdd_tup, hAdd_lst, hMul_int, hMul_lst, hSl_tup, hSl_lst, hSl_str, hLen_lst, hLen_tup, hLen_scr, hLen_str, hLen_mob, hInt_int, hInt_bl, hAbs_int, hSeq_lst, hSeq_tup, hIn_lst, hIn_tup, hEq_eq, hI0_int, hI_int, ng_f, ng_t, atI_0, atI_1, atI_2, ofString_inj, eqv_str, eqv_txt, eqv_int, eqv_bl, eqv_tup, eqv_lst, eqOk_str, eqOk_int, eqOk_bl, eqOk_txt, decide_eq_true_eq, Nat.zero_lt_succ, exists_and_left, List.take_succ_cons, List.take_zero, List.drop_succ_cons, List.drop_zero, List.cons_append, List.nil_append, and_assoc, atI_map, Option.map_some, Nat.reduceAdd, Nat.reduceLT, Nat.reduceLeDiff, OT.toD_ow, List.map_cons, List.map_nil, D.mob.injEq, Mo.lst.injEq, Mem.put_same, Mem.put_put, ixN_30, ixN_32, ixN_10, exists_prop, fz_app, fz_inj, fz_snoc, OT.map_fz, List.length_map, List.length_append, List.append_nil, Nat.zero_add, cutL_1, items_tup, items_lst, items_scr, forD, compD, compS, comp2D, wipeE, D.isIn, List.any_cons, List.any_nil, String.reduceEq, D.plain, D.plains, D.dep, D.deps, Nat.max_self, Nat.min_self, Nat.zero_le, Nat.zero_min, Nat.min_zero, sizeLine_eq, forall_eq, exists_const, forall_const, kind_non, kind_bl, kind_int, kind_str, kind_lst, kind_tup, kind_dk, Kd.isa, reduceCtorEq, decide_false, decide_true, Bool.or_false, Bool.false_or, Bool.or_true, Bool.true_or, Bool.or_self, Bool.and_false, Bool.false_and, Bool.true_and, Bool.and_true, Bool.and_self, and_self, false_or, or_false, false_and, and_false, reduceIte, Bool.false_eq_true, Bool.not_eq_true, Bool.not_true, Bool.not_false, spTake]) | refine And.intro (by first | assumption | omega | decide) ?_ | omega | assumption)
              refine ⟨[m], rfl, by simp, fun zs hp hs => ?_⟩
              have hz : ∀ z ∈ zs, z ∈ marks := fun z hz => by
                have := hp.mem_iff.mp hz
                have : z = m := by simpa using this
                rw [this]; exact hm'
              have hzl : zs.length ≤ 10 := by
                rw [hp.length_eq]
                simp only [List.length_cons, List.length_nil]
                omega
              (try simp only [seqS_M, startE_cons, startE_nil, List.length_cons, List.length_nil, List.length_replicate, List.length_set, List.replicate_succ, List.replicate_zero, List.getElem?_cons_zero, List.getElem?_cons_succ, List.set_cons_zero, List.set_cons_succ, Option.some.injEq, OT.fz.injEq, OT.ow.injEq, D.int.injEq, D.str.injEq, D.bl.injEq, D.tup.injEq, D.lst.injEq, List.cons.injEq, exists_eq_left', exists_eq_left, exists_eq_right, and_true, true_and, OT.toD_fz, toD_map_fz, hIx_tup, hIx_lst, hIx_scr, hIx_mob, hIx_str, hIxT_fz, hIxT_ow, hAdd_int, hAdd_str, hAdd_tup, hAdd_lst, hMul_int, hMul_lst, hSl_tup, hSl_lst, hSl_str, hLen_lst, hLen_tup, hLen_scr, hLen_str, hLen_mob, hInt_int, hInt_bl, hAbs_int, hSeq_lst, hSeq_tup, hIn_lst, hIn_tup, hEq_eq, hI0_int, hI_int, ng_f, ng_t, atI_0, atI_1, atI_2, ofString_inj, eqv_str, eqv_txt, eqv_int, eqv_bl, eqv_tup, eqv_lst, eqOk_str, eqOk_int, eqOk_bl, eqOk_txt, decide_eq_true_eq, Nat.zero_lt_succ, exists_and_left, List.take_succ_cons, List.take_zero, List.drop_succ_cons, List.drop_zero, List.cons_append, List.nil_append, and_assoc, atI_map, Option.map_some, Nat.reduceAdd, Nat.reduceLT, Nat.reduceLeDiff, OT.toD_ow, List.map_cons, List.map_nil, D.mob.injEq, Mo.lst.injEq, Mem.put_same, Mem.put_put, ixN_30, ixN_32, ixN_10, exists_prop, fz_app, fz_inj, fz_snoc, OT.map_fz, List.length_map, List.length_append, List.append_nil, Nat.zero_add, cutL_1, items_tup, items_lst, items_scr, forD, compD, compS, comp2D, wipeE, D.isIn, List.any_cons, List.any_nil, String.reduceEq, D.plain, D.plains, D.dep, D.deps, Nat.max_self, Nat.min_self, Nat.zero_le, Nat.zero_min, Nat.min_zero, sizeLine_eq, forall_eq, exists_const, forall_const, kind_non, kind_bl, kind_int, kind_str, kind_lst, kind_tup, kind_dk, Kd.isa, reduceCtorEq, decide_false, decide_true, Bool.or_false, Bool.false_or, Bool.or_true, Bool.true_or, Bool.or_self, Bool.and_false, Bool.false_and, Bool.true_and, Bool.and_true, Bool.and_self, and_self, false_or, or_false, false_and, and_false, reduceIte, Bool.false_eq_true, Bool.not_eq_true, Bool.not_true, Bool.not_false, spBody]); repeat (first | (refine seq_in ?_; simp only [seqS_M, startE_cons, startE_nil, List.length_cons, List.length_nil, List.length_replicate, List.length_set, List.replicate_succ, List.replicate_zero, List.getElem?_cons_zero, List.getElem?_cons_succ, List.set_cons_zero, List.set_cons_succ, Option.some.injEq, OT.fz.injEq, OT.ow.injEq, D.int.injEq, D.str.injEq, D.bl.injEq, D.tup.injEq, D.lst.injEq, List.cons.injEq, exists_eq_left', exists_eq_left, exists_eq_right, and_true, true_and, OT.toD_fz, toD_map_fz, hIx_tup, hIx_lst, hIx_scr, hIx_mob, hIx_str, hIxT_fz, hIxT_ow, hAdd_int, hAdd_str, hAdd_tup, hAdd_lst, hMul_int, hMul_lst, hSl_tup, hSl_lst, hSl_str, hLen_lst, hLen_tup, hLen_scr, hLen_str, hLen_mob, hInt_int, hInt_bl, hAbs_int, hSeq_lst, hSeq_tup, hIn_lst, hIn_tup, hEq_eq, hI0_int, hI_int, ng_f, ng_t, atI_0, atI_1, atI_2, ofString_inj, eqv_str, eqv_txt, eqv_int, eqv_bl, eqv_tup, eqv_lst, eqOk_str, eqOk_int, eqOk_bl, eqOk_txt, decide_eq_true_eq, Nat.zero_lt_succ, exists_and_left, List.take_succ_cons, List.take_zero, List.drop_succ_cons, List.drop_zero, List.cons_append, List.nil_append, and_assoc, atI_map, Option.map_some, Nat.reduceAdd, Nat.reduceLT, Nat.reduceLeDiff, OT.toD_ow, List.map_cons, List.map_nil, D.mob.injEq, Mo.lst.injEq, Mem.put_same, Mem.put_put, ixN_30, ixN_32, ixN_10, exists_prop, fz_app, fz_inj, fz_snoc, OT.map_fz, List.length_map, List.length_append, List.append_nil, Nat.zero_add, cutL_1, items_tup, items_lst, items_scr, forD, compD, compS, comp2D, wipeE, D.isIn, List.any_cons, List.any_nil, String.reduceEq, D.plain, D.plains, D.dep, D.deps, Nat.max_self, Nat.min_self, Nat.zero_le, Nat.zero_min, Nat.min_zero, sizeLine_eq, forall_eq, exists_const, forall_const, kind_non, kind_bl, kind_int, kind_str, kind_lst, kind_tup, kind_dk, Kd.isa, reduceCtorEq, decide_false, decide_true, Bool.or_false, Bool.false_or, Bool.or_true, Bool.true_or, Bool.or_self, Bool.and_false, Bool.false_and, Bool.true_and, Bool.and_true, Bool.and_self, and_self, false_or, or_false, false_and, and_false, reduceIte, Bool.false_eq_true, Bool.not_eq_true, Bool.not_true, Bool.not_false, spBody]) | refine And.intro (by first | assumption | omega | decide) ?_ | omega | assumption)
              exact ⟨.alike a b zs, rfl, Nat.zero_le _, ⟨hr2 a ha, hr2 b hb', hzl, fun z h => hm2 z (hz z h)⟩, ((hB5.trans hB6).mono (by omega)).bb hpq hk⟩
            | cons y ys =>
              rw [List.length_cons] at hlys
              (try simp only [seqS_M, startE_cons, startE_nil, List.length_cons, List.length_nil, List.length_replicate, List.length_set, List.replicate_succ, List.replicate_zero, List.getElem?_cons_zero, List.getElem?_cons_succ, List.set_cons_zero, List.set_cons_succ, Option.some.injEq, OT.fz.injEq, OT.ow.injEq, D.int.injEq, D.str.injEq, D.bl.injEq, D.tup.injEq, D.lst.injEq, List.cons.injEq, exists_eq_left', exists_eq_left, exists_eq_right, and_true, true_and, OT.toD_fz, toD_map_fz, hIx_tup, hIx_lst, hIx_scr, hIx_mob, hIx_str, hIxT_fz, hIxT_ow, hAdd_int, hAdd_str, hAdd_tup, hAdd_lst, hMul_int, hMul_lst, hSl_tup, hSl_lst, hSl_str, hLen_lst, hLen_tup, hLen_scr, hLen_str, hLen_mob, hInt_int, hInt_bl, hAbs_int, hSeq_lst, hSeq_tup, hIn_lst, hIn_tup, hEq_eq, hI0_int, hI_int, ng_f, ng_t, atI_0, atI_1, atI_2, ofString_inj, eqv_str, eqv_txt, eqv_int, eqv_bl, eqv_tup, eqv_lst, eqOk_str, eqOk_int, eqOk_bl, eqOk_txt, decide_eq_true_eq, Nat.zero_lt_succ, exists_and_left, List.take_succ_cons, List.take_zero, List.drop_succ_cons, List.drop_zero, List.cons_append, List.nil_append, and_assoc, atI_map, Option.map_some, Nat.reduceAdd, Nat.reduceLT, Nat.reduceLeDiff, OT.toD_ow, List.map_cons, List.map_nil, D.mob.injEq, Mo.lst.injEq, Mem.put_same, Mem.put_put, ixN_30, ixN_32, ixN_10, exists_prop, fz_app, fz_inj, fz_snoc, OT.map_fz, List.length_map, List.length_append, List.append_nil, Nat.zero_add, cutL_1, items_tup, items_lst, items_scr, forD, compD, compS, comp2D, wipeE, D.isIn, List.any_cons, List.any_nil, String.reduceEq, D.plain, D.plains, D.dep, D.deps, Nat.max_self, Nat.min_self, Nat.zero_le, Nat.zero_min, Nat.min_zero, sizeLine_eq, forall_eq, exists_const, forall_const, kind_non, kind_bl, kind_int, kind_str, kind_lst, kind_tup, kind_dk, Kd.isa, reduceCtorEq, decide_false, decide_true, Bool.or_false, Bool.false_or, Bool.or_true, Bool.true_or, Bool.or_self, Bool.and_false, Bool.false_and, Bool.true_and, Bool.and_true, Bool.and_self, and_self, false_or, or_false, false_and, and_false, reduceIte, Bool.false_eq_true, Bool.not_eq_true, Bool.not_true, Bool.not_false, spTake, D.eqvs, repD, Int.reduceToNat, List.flatten_nil, List.flatten_cons]); repeat (first | (refine seq_in ?_; simp only [seqS_M, startE_cons, startE_nil, List.length_cons, List.length_nil, List.length_replicate, List.length_set, List.replicate_succ, List.replicate_zero, List.getElem?_cons_zero, List.getElem?_cons_succ, List.set_cons_zero, List.set_cons_succ, Option.some.injEq, OT.fz.injEq, OT.ow.injEq, D.int.injEq, D.str.injEq, D.bl.injEq, D.tup.injEq, D.lst.injEq, List.cons.injEq, exists_eq_left', exists_eq_left, exists_eq_right, and_true, true_and, OT.toD_fz, toD_map_fz, hIx_tup, hIx_lst, hIx_scr, hIx_mob, hIx_str, hIxT_fz, hIxT_ow, hAdd_int, hAdd_str, hAdd_tup, hAdd_lst, hMul_int, hMul_lst, hSl_tup, hSl_lst, hSl_str, hLen_lst, hLen_tup, hLen_scr, hLen_str, hLen_mob, hInt_int, hInt_bl, hAbs_int, hSeq_lst, hSeq_tup, hIn_lst, hIn_tup, hEq_eq, hI0_int, hI_int, ng_f, ng_t, atI_0, atI_1, atI_2, ofString_inj, eqv_str, eqv_txt, eqv_int, eqv_bl, eqv_tup, eqv_lst, eqOk_str, eqOk_int, eqOk_bl, eqOk_txt, decide_eq_true_eq, Nat.zero_lt_succ, exists_and_left, List.take_succ_cons, List.take_zero, List.drop_succ_cons, List.drop_zero, List.cons_append, List.nil_append, and_assoc, atI_map, Option.map_some, Nat.reduceAdd, Nat.reduceLT, Nat.reduceLeDiff, OT.toD_ow, List.map_cons, List.map_nil, D.mob.injEq, Mo.lst.injEq, Mem.put_same, Mem.put_put, ixN_30, ixN_32, ixN_10, exists_prop, fz_app, fz_inj, fz_snoc, OT.map_fz, List.length_map, List.length_append, List.append_nil, Nat.zero_add, cutL_1, items_tup, items_lst, items_scr, forD, compD, compS, comp2D, wipeE, D.isIn, List.any_cons, List.any_nil, String.reduceEq, D.plain, D.plains, D.dep, D.deps, Nat.max_self, Nat.min_self, Nat.zero_le, Nat.zero_min, Nat.min_zero, sizeLine_eq, forall_eq, exists_const, forall_const, kind_non, kind_bl, kind_int, kind_str, kind_lst, kind_tup, kind_dk, Kd.isa, reduceCtorEq, decide_false, decide_true, Bool.or_false, Bool.false_or, Bool.or_true, Bool.true_or, Bool.or_self, Bool.and_false, Bool.false_and, Bool.true_and, Bool.and_true, Bool.and_self, and_self, false_or, or_false, false_and, and_false, reduceIte, Bool.false_eq_true, Bool.not_eq_true, Bool.not_true, Bool.not_false, spTake, D.eqvs, repD, Int.reduceToNat, List.flatten_nil, List.flatten_cons]) | refine And.intro (by first | assumption | omega | decide) ?_ | omega | assumption)
              (try simp only [seqS_M, startE_cons, startE_nil, List.length_cons, List.length_nil, List.length_replicate, List.length_set, List.replicate_succ, List.replicate_zero, List.getElem?_cons_zero, List.getElem?_cons_succ, List.set_cons_zero, List.set_cons_succ, Option.some.injEq, OT.fz.injEq, OT.ow.injEq, D.int.injEq, D.str.injEq, D.bl.injEq, D.tup.injEq, D.lst.injEq, List.cons.injEq, exists_eq_left', exists_eq_left, exists_eq_right, and_true, true_and, OT.toD_fz, toD_map_fz, hIx_tup, hIx_lst, hIx_scr, hIx_mob, hIx_str, hIxT_fz, hIxT_ow, hAdd_int, hAdd_str, hAdd_tup, hAdd_lst, hMul_int, hMul_lst, hSl_tup, hSl_lst, hSl_str, hLen_lst, hLen_tup, hLen_scr, hLen_str, hLen_mob, hInt_int, hInt_bl, hAbs_int, hSeq_lst, hSeq_tup, hIn_lst, hIn_tup, hEq_eq, hI0_int, hI_int, ng_f, ng_t, atI_0, atI_1, atI_2, ofString_inj, eqv_str, eqv_txt, eqv_int, eqv_bl, eqv_tup, eqv_lst, eqOk_str, eqOk_int, eqOk_bl, eqOk_txt, decide_eq_true_eq, Nat.zero_lt_succ, exists_and_left, List.take_succ_cons, List.take_zero, List.drop_succ_cons, List.drop_zero, List.cons_append, List.nil_append, and_assoc, atI_map, Option.map_some, Nat.reduceAdd, Nat.reduceLT, Nat.reduceLeDiff, OT.toD_ow, List.map_cons, List.map_nil, D.mob.injEq, Mo.lst.injEq, Mem.put_same, Mem.put_put, ixN_30, ixN_32, ixN_10, exists_prop, fz_app, fz_inj, fz_snoc, OT.map_fz, List.length_map, List.length_append, List.append_nil, Nat.zero_add, cutL_1, items_tup, items_lst, items_scr, forD, compD, compS, comp2D, wipeE, D.isIn, List.any_cons, List.any_nil, String.reduceEq, D.plain, D.plains, D.dep, D.deps, Nat.max_self, Nat.min_self, Nat.zero_le, Nat.zero_min, Nat.min_zero, sizeLine_eq, forall_eq, exists_const, forall_const, kind_non, kind_bl, kind_int, kind_str, kind_lst, kind_tup, kind_dk, Kd.isa, reduceCtorEq, decide_false, decide_true, Bool.or_false, Bool.false_or, Bool.or_true, Bool.true_or, Bool.or_self, Bool.and_false, Bool.false_and, Bool.true_and, Bool.and_true, Bool.and_self, and_self, false_or, or_false, false_and, and_false, reduceIte, Bool.false_eq_true, Bool.not_eq_true, Bool.not_true, Bool.not_false, spTake]); repeat (first | (refine seq_in ?_; simp only [seqS_M, startE_cons, startE_nil, List.length_cons, List.length_nil, List.length_replicate, List.length_set, List.replicate_succ, List.replicate_zero, List.getElem?_cons_zero, List.getElem?_cons_succ, List.set_cons_zero, List.set_cons_succ, Option.some.injEq, OT.fz.injEq, OT.ow.injEq, D.int.injEq, D.str.injEq, D.bl.injEq, D.tup.injEq, D.lst.injEq, List.cons.injEq, exists_eq_left', exists_eq_left, exists_eq_right, and_true, true_and, OT.toD_fz, toD_map_fz, hIx_tup, hIx_lst, hIx_scr, hIx_mob, hIx_str, hIxT_fz, hIxT_ow, hAdd_int, hAdd_str, hAdd_tup, hAdd_lst, hMul_int, hMul_lst, hSl_tup, hSl_lst, hSl_str, hLen_lst, hLen_tup, hLen_scr, hLen_str, hLen_mob, hInt_int, hInt_bl, hAbs_int, hSeq_lst, hSeq_tup, hIn_lst, hIn_tup, hEq_eq, hI0_int, hI_int, ng_f, ng_t, atI_0, atI_1, atI_2, ofString_inj, eqv_str, eqv_txt, eqv_int, eqv_bl, eqv_tup, eqv_lst, eqOk_str, eqOk_int, eqOk_bl, eqOk_txt, decide_eq_true_eq, Nat.zero_lt_succ, exists_and_left, List.take_succ_cons, List.take_zero, List.drop_succ_cons, List.drop_zero, List.cons_append, List.nil_append, and_assoc, atI_map, Option.map_some, Nat.reduceAdd, Nat.reduceLT, Nat.reduceLeDiff, OT.toD_ow, List.map_cons, List.map_nil, D.mob.injEq, Mo.lst.injEq, Mem.put_same, Mem.put_put, ixN_30, ixN_32, ixN_10, exists_prop, fz_app, fz_inj, fz_snoc, OT.map_fz, List.length_map, List.length_append, List.append_nil, Nat.zero_add, cutL_1, items_tup, items_lst, items_scr, forD, compD, compS, comp2D, wipeE, D.isIn, List.any_cons, List.any_nil, String.reduceEq, D.plain, D.plains, D.dep, D.deps, Nat.max_self, Nat.min_self, Nat.zero_le, Nat.zero_min, Nat.min_zero, sizeLine_eq, forall_eq, exists_const, forall_const, kind_non, kind_bl, kind_int, kind_str, kind_lst, kind_tup, kind_dk, Kd.isa, reduceCtorEq, decide_false, decide_true, Bool.or_false, Bool.false_or, Bool.or_true, Bool.true_or, Bool.or_self, Bool.and_false, Bool.false_and, Bool.true_and, Bool.and_true, Bool.and_self, and_self, false_or, or_false, false_and, and_false, reduceIte, Bool.false_eq_true, Bool.not_eq_true, Bool.not_true, Bool.not_false, spTake]) | refine And.intro (by first | assumption | omega | decide) ?_ | omega | assumption)
              refine ⟨y :: ys, rfl, by rw [List.length_cons]; omega, fun zs hp hs => ?_⟩
              have hz : ∀ z ∈ zs, z ∈ marks := fun z hz => by
                have := hp.mem_iff.mp hz
                exact hys z this
              have hzl : zs.length ≤ 10 := by
                rw [hp.length_eq]
                simp only [List.length_cons, List.length_nil]
                omega
              (try simp only [seqS_M, startE_cons, startE_nil, List.length_cons, List.length_nil, List.length_replicate, List.length_set, List.replicate_succ, List.replicate_zero, List.getElem?_cons_zero, List.getElem?_cons_succ, List.set_cons_zero, List.set_cons_succ, Option.some.injEq, OT.fz.injEq, OT.ow.injEq, D.int.injEq, D.str.injEq, D.bl.injEq, D.tup.injEq, D.lst.injEq, List.cons.injEq, exists_eq_left', exists_eq_left, exists_eq_right, and_true, true_and, OT.toD_fz, toD_map_fz, hIx_tup, hIx_lst, hIx_scr, hIx_mob, hIx_str, hIxT_fz, hIxT_ow, hAdd_int, hAdd_str, hAdd_tup, hAdd_lst, hMul_int, hMul_lst, hSl_tup, hSl_lst, hSl_str, hLen_lst, hLen_tup, hLen_scr, hLen_str, hLen_mob, hInt_int, hInt_bl, hAbs_int, hSeq_lst, hSeq_tup, hIn_lst, hIn_tup, hEq_eq, hI0_int, hI_int, ng_f, ng_t, atI_0, atI_1, atI_2, ofString_inj, eqv_str, eqv_txt, eqv_int, eqv_bl, eqv_tup, eqv_lst, eqOk_str, eqOk_int, eqOk_bl, eqOk_txt, decide_eq_true_eq, Nat.zero_lt_succ, exists_and_left, List.take_succ_cons, List.take_zero, List.drop_succ_cons, List.drop_zero, List.cons_append, List.nil_append, and_assoc, atI_map, Option.map_some, Nat.reduceAdd, Nat.reduceLT, Nat.reduceLeDiff, OT.toD_ow, List.map_cons, List.map_nil, D.mob.injEq, Mo.lst.injEq, Mem.put_same, Mem.put_put, ixN_30, ixN_32, ixN_10, exists_prop, fz_app, fz_inj, fz_snoc, OT.map_fz, List.length_map, List.length_append, List.append_nil, Nat.zero_add, cutL_1, items_tup, items_lst, items_scr, forD, compD, compS, comp2D, wipeE, D.isIn, List.any_cons, List.any_nil, String.reduceEq, D.plain, D.plains, D.dep, D.deps, Nat.max_self, Nat.min_self, Nat.zero_le, Nat.zero_min, Nat.min_zero, sizeLine_eq, forall_eq, exists_const, forall_const, kind_non, kind_bl, kind_int, kind_str, kind_lst, kind_tup, kind_dk, Kd.isa, reduceCtorEq, decide_false, decide_true, Bool.or_false, Bool.false_or, Bool.or_true, Bool.true_or, Bool.or_self, Bool.and_false, Bool.false_and, Bool.true_and, Bool.and_true, Bool.and_self, and_self, false_or, or_false, false_and, and_false, reduceIte, Bool.false_eq_true, Bool.not_eq_true, Bool.not_true, Bool.not_false, spBody]); repeat (first | (refine seq_in ?_; simp only [seqS_M, startE_cons, startE_nil, List.length_cons, List.length_nil, List.length_replicate, List.length_set, List.replicate_succ, List.replicate_zero, List.getElem?_cons_zero, List.getElem?_cons_succ, List.set_cons_zero, List.set_cons_succ, Option.some.injEq, OT.fz.injEq, OT.ow.injEq, D.int.injEq, D.str.injEq, D.bl.injEq, D.tup.injEq, D.lst.injEq, List.cons.injEq, exists_eq_left', exists_eq_left, exists_eq_right, and_true, true_and, OT.toD_fz, toD_map_fz, hIx_tup, hIx_lst, hIx_scr, hIx_mob, hIx_str, hIxT_fz, hIxT_ow, hAdd_int, hAdd_str, hAdd_tup, hAdd_lst, hMul_int, hMul_lst, hSl_tup, hSl_lst, hSl_str, hLen_lst, hLen_tup, hLen_scr, hLen_str, hLen_mob, hInt_int, hInt_bl, hAbs_int, hSeq_lst, hSeq_tup, hIn_lst, hIn_tup, hEq_eq, hI0_int, hI_int, ng_f, ng_t, atI_0, atI_1, atI_2, ofString_inj, eqv_str, eqv_txt, eqv_int, eqv_bl, eqv_tup, eqv_lst, eqOk_str, eqOk_int, eqOk_bl, eqOk_txt, decide_eq_true_eq, Nat.zero_lt_succ, exists_and_left, List.take_succ_cons, List.take_zero, List.drop_succ_cons, List.drop_zero, List.cons_append, List.nil_append, and_assoc, atI_map, Option.map_some, Nat.reduceAdd, Nat.reduceLT, Nat.reduceLeDiff, OT.toD_ow, List.map_cons, List.map_nil, D.mob.injEq, Mo.lst.injEq, Mem.put_same, Mem.put_put, ixN_30, ixN_32, ixN_10, exists_prop, fz_app, fz_inj, fz_snoc, OT.map_fz, List.length_map, List.length_append, List.append_nil, Nat.zero_add, cutL_1, items_tup, items_lst, items_scr, forD, compD, compS, comp2D, wipeE, D.isIn, List.any_cons, List.any_nil, String.reduceEq, D.plain, D.plains, D.dep, D.deps, Nat.max_self, Nat.min_self, Nat.zero_le, Nat.zero_min, Nat.min_zero, sizeLine_eq, forall_eq, exists_const, forall_const, kind_non, kind_bl, kind_int, kind_str, kind_lst, kind_tup, kind_dk, Kd.isa, reduceCtorEq, decide_false, decide_true, Bool.or_false, Bool.false_or, Bool.or_true, Bool.true_or, Bool.or_self, Bool.and_false, Bool.false_and, Bool.true_and, Bool.and_true, Bool.and_self, and_self, false_or, or_false, false_and, and_false, reduceIte, Bool.false_eq_true, Bool.not_eq_true, Bool.not_true, Bool.not_false, spBody]) | refine And.intro (by first | assumption | omega | decide) ?_ | omega | assumption)
              exact ⟨.alike a b zs, rfl, Nat.zero_le _, ⟨hr2 a ha, hr2 b hb', hzl, fun z h => hm2 z (hz z h)⟩, ((hB5.trans hB6).mono (by omega)).bb hpq hk⟩
          · obtain ⟨done, ys, hdone, hds, rfl, hys, hlys, hB5⟩ := h
            obtain ⟨m, hm', rfl⟩ := hds dm List.mem_cons_self
            rw [List.length_cons] at hdone
            simp only [seqS_M, startE_cons, startE_nil, List.length_cons, List.length_nil, List.length_replicate, List.length_set, List.replicate_succ, List.replicate_zero, List.getElem?_cons_zero, List.getElem?_cons_succ, List.set_cons_zero, List.set_cons_succ, Option.some.injEq, OT.fz.injEq, OT.ow.injEq, D.int.injEq, D.str.injEq, D.bl.injEq, D.tup.injEq, D.lst.injEq, List.cons.injEq, exists_eq_left', exists_eq_left, exists_eq_right, and_true, true_and, OT.toD_fz, toD_map_fz, hIx_tup, hIx_lst, hIx_scr, hIx_mob, hIx_str, hIxT_fz, hIxT_ow, hAdd_int, hAdd_str, hAdd_tup, hAdd_lst, hMul_int, hMul_lst, hSl_tup, hSl_lst, hSl_str, hLen_lst, hLen_tup, hLen_scr, hLen_str, hLen_mob, hInt_int, hInt_bl, hAbs_int, hSeq_lst, hSeq_tup, hIn_lst, hIn_tup, hEq_eq, hI0_int, hI_int, ng_f, ng_t, atI_0, atI_1, atI_2, ofString_inj, eqv_str, eqv_txt, eqv_int, eqv_bl, eqv_tup, eqv_lst, eqOk_str, eqOk_int, eqOk_bl, eqOk_txt, decide_eq_true_eq, Nat.zero_lt_succ, exists_and_left, List.take_succ_cons, List.take_zero, List.drop_succ_cons, List.drop_zero, List.cons_append, List.nil_append, and_assoc, atI_map, Option.map_some, Nat.reduceAdd, Nat.reduceLT, Nat.reduceLeDiff, OT.toD_ow, List.map_cons, List.map_nil, D.mob.injEq, Mo.lst.injEq, Mem.put_same, Mem.put_put, ixN_30, ixN_32, ixN_10, exists_prop, fz_app, fz_inj, fz_snoc, OT.map_fz, List.length_map, List.length_append, List.append_nil, Nat.zero_add, cutL_1, items_tup, items_lst, items_scr, forD, compD, compS, comp2D, wipeE, D.isIn, List.any_cons, List.any_nil, String.reduceEq, D.plain, D.plains, D.dep, D.deps, Nat.max_self, Nat.min_self, Nat.zero_le, Nat.zero_min, Nat.min_zero, sizeLine_eq, forall_eq, exists_const, forall_const, kind_non, kind_bl, kind_int, kind_str, kind_lst, kind_tup, kind_dk, Kd.isa, reduceCtorEq, decide_false, decide_true, Bool.or_false, Bool.false_or, Bool.or_true, Bool.true_or, Bool.or_self, Bool.and_false, Bool.false_and, Bool.true_and, Bool.and_true, Bool.and_self, and_self, false_or, or_false, false_and, and_false, reduceIte, Bool.false_eq_true, Bool.not_eq_true, Bool.not_true, Bool.not_false, spTake]
            refine take_at (by decide) (by decide) (by omega : n + 3 + done ≤ _) hB5.is fun z M5 h4 h5 hB6 => ?_
            have hB7 : BoxTo p (n + 3 + (done + 1)) M M5 := (hB5.trans hB6).mono (by omega)
            simp only [seqS_M, startE_cons, startE_nil, List.length_cons, List.length_nil, List.length_replicate, List.length_set, List.replicate_succ, List.replicate_zero, List.getElem?_cons_zero, List.getElem?_cons_succ, List.set_cons_zero, List.set_cons_succ, Option.some.injEq, OT.fz.injEq, OT.ow.injEq, D.int.injEq, D.str.injEq, D.bl.injEq, D.tup.injEq, D.lst.injEq, List.cons.injEq, exists_eq_left', exists_eq_left, exists_eq_right, and_true, true_and, OT.toD_fz, toD_map_fz, hIx_tup, hIx_lst, hIx_scr, hIx_mob, hIx_str, hIxT_fz, hIxT_ow, hAdd_int, hAdd_str, hAdd_tup, hAdd_lst, hMul_int, hMul_lst, hSl_tup, hSl_lst, hSl_str, hLen_lst, hLen_tup, hLen_scr, hLen_str, hLen_mob, hInt_int, hInt_bl, hAbs_int, hSeq_lst, hSeq_tup, hIn_lst, hIn_tup, hEq_eq, hI0_int, hI_int, ng_f, ng_t, atI_0, atI_1, atI_2, ofString_inj, eqv_str, eqv_txt, eqv_int, eqv_bl, eqv_tup, eqv_lst, eqOk_str, eqOk_int, eqOk_bl, eqOk_txt, decide_eq_true_eq, Nat.zero_lt_succ, exists_and_left, List.take_succ_cons, List.take_zero, List.drop_succ_cons, List.drop_zero, List.cons_append, List.nil_append, and_assoc, atI_map, Option.map_some, Nat.reduceAdd, Nat.reduceLT, Nat.reduceLeDiff, OT.toD_ow, List.map_cons, List.map_nil, D.mob.injEq, Mo.lst.injEq, Mem.put_same, Mem.put_put, ixN_30, ixN_32, ixN_10, exists_prop, fz_app, fz_inj, fz_snoc, OT.map_fz, List.length_map, List.length_append, List.append_nil, Nat.zero_add, cutL_1, items_tup, items_lst, items_scr, forD, compD, compS, comp2D, wipeE, D.isIn, List.any_cons, List.any_nil, String.reduceEq, D.plain, D.plains, D.dep, D.deps, Nat.max_self, Nat.min_self, Nat.zero_le, Nat.zero_min, Nat.min_zero, sizeLine_eq, forall_eq, exists_const, forall_const, kind_non, kind_bl, kind_int, kind_str, kind_lst, kind_tup, kind_dk, Kd.isa, reduceCtorEq, decide_false, decide_true, Bool.or_false, Bool.false_or, Bool.or_true, Bool.true_or, Bool.or_self, Bool.and_false, Bool.false_and, Bool.true_and, Bool.and_true, Bool.and_self, and_self, false_or, or_false, false_and, and_false, reduceIte, Bool.false_eq_true, Bool.not_eq_true, Bool.not_true, Bool.not_false]
            split
            · exact hC _ _ ⟨done + 1, ys ++ [m], by omega, fun x hx => hds x (List.mem_cons_of_mem _ hx), by simp, fun y hy => (List.mem_append.mp hy).elim (hys y) fun w => by rw [List.mem_singleton] at w; rw [w]; exact hm', by simp; omega, hB7⟩
            · exact hC _ _ ⟨done + 1, ys, by omega, fun x hx => hds x (List.mem_cons_of_mem _ hx), rfl, hys, by omega, hB7⟩
        ·
          (try simp only [seqS_M, startE_cons, startE_nil, List.length_cons, List.length_nil, List.length_replicate, List.length_set, List.replicate_succ, List.replicate_zero, List.getElem?_cons_zero, List.getElem?_cons_succ, List.set_cons_zero, List.set_cons_succ, Option.some.injEq, OT.fz.injEq, OT.ow.injEq, D.int.injEq, D.str.injEq, D.bl.injEq, D.tup.injEq, D.lst.injEq, List.cons.injEq, exists_eq_left', exists_eq_left, exists_eq_right, and_true, true_and, OT.toD_fz, toD_map_fz, hIx_tup, hIx_lst, hIx_scr, hIx_mob, hIx_str, hIxT_fz, hIxT_ow, hAdd_int, hAdd_str, hAdd_tup, hAdd_lst, hMul_int, hMul_lst, hSl_tup, hSl_lst, hSl_str, hLen_lst, hLen_tup, hLen_scr, hLen_str, hLen_mob, hInt_int, hInt_bl, hAbs_int, hSeq_lst, hSeq_tup, hIn_lst, hIn_tup, hEq_eq, hI0_int, hI_int, ng_f, ng_t, atI_0, atI_1, atI_2, ofString_inj, eqv_str, eqv_txt, eqv_int, eqv_bl, eqv_tup, eqv_lst, eqOk_str, eqOk_int, eqOk_bl, eqOk_txt, decide_eq_true_eq, Nat.zero_lt_succ, exists_and_left, List.take_succ_cons, List.take_zero, List.drop_succ_cons, List.drop_zero, List.cons_append, List.nil_append, and_assoc, atI_map, Option.map_some, Nat.reduceAdd, Nat.reduceLT, Nat.reduceLeDiff, OT.toD_ow, List.map_cons, List.map_nil, D.mob.injEq, Mo.lst.injEq, Mem.put_same, Mem.put_put, ixN_30, ixN_32, ixN_10, exists_prop, fz_app, fz_inj, fz_snoc, OT.map_fz, List.length_map, List.length_append, List.append_nil, Nat.zero_add, cutL_1, items_tup, items_lst, items_scr, forD, compD, compS, comp2D, wipeE, D.isIn, List.any_cons, List.any_nil, String.reduceEq, D.plain, D.plains, D.dep, D.deps, Nat.max_self, Nat.min_self, Nat.zero_le, Nat.zero_min, Nat.min_zero, sizeLine_eq, forall_eq, exists_const, forall_const, kind_non, kind_bl, kind_int, kind_str, kind_lst, kind_tup, kind_dk, Kd.isa, reduceCtorEq, decide_false, decide_true, Bool.or_false, Bool.false_or, Bool.or_true, Bool.true_or, Bool.or_self, Bool.and_false, Bool.false_and, Bool.true_and, Bool.and_true, Bool.and_self, and_self, false_or, or_false, false_and, and_false, reduceIte, Bool.false_eq_true, Bool.not_eq_true, Bool.not_true, Bool.not_false, spTake]); repeat (first | (refine seq_in ?_; simp only [seqS_M, startE_cons, startE_nil, List.length_cons, List.length_nil, List.length_replicate, List.length_set, List.replicate_succ, List.replicate_zero, List.getElem?_cons_zero, List.getElem?_cons_succ, List.set_cons_zero, List.set_cons_succ, Option.some.injEq, OT.fz.injEq, OT.ow.injEq, D.int.injEq, D.str.injEq, D.bl.injEq, D.tup.injEq, D.lst.injEq, List.cons.injEq, exists_eq_left', exists_eq_left, exists_eq_right, and_true, true_and, OT.toD_fz, toD_map_fz, hIx_tup, hIx_lst, hIx_scr, hIx_mob, hIx_str, hIxT_fz, hIxT_ow, hAdd_int, hAdd_str, hAdd_tup, hAdd_lst, hMul_int, hMul_lst, hSl_tup, hSl_lst, hSl_str, hLen_lst, hLen_tup, hLen_scr, hLen_str, hLen_mob, hInt_int, hInt_bl, hAbs_int, hSeq_lst, hSeq_tup, hIn_lst, hIn_tup, hEq_eq, hI0_int, hI_int, ng_f, ng_t, atI_0, atI_1, atI_2, ofString_inj, eqv_str, eqv_txt, eqv_int, eqv_bl, eqv_tup, eqv_lst, eqOk_str, eqOk_int, eqOk_bl, eqOk_txt, decide_eq_true_eq, Nat.zero_lt_succ, exists_and_left, List.take_succ_cons, List.take_zero, List.drop_succ_cons, List.drop_zero, List.cons_append, List.nil_append, and_assoc, atI_map, Option.map_some, Nat.reduceAdd, Nat.reduceLT, Nat.reduceLeDiff, OT.toD_ow, List.map_cons, List.map_nil, D.mob.injEq, Mo.lst.injEq, Mem.put_same, Mem.put_put, ixN_30, ixN_32, ixN_10, exists_prop, fz_app, fz_inj, fz_snoc, OT.map_fz, List.length_map, List.length_append, List.append_nil, Nat.zero_add, cutL_1, items_tup, items_lst, items_scr, forD, compD, compS, comp2D, wipeE, D.isIn, List.any_cons, List.any_nil, String.reduceEq, D.plain, D.plains, D.dep, D.deps, Nat.max_self, Nat.min_self, Nat.zero_le, Nat.zero_min, Nat.min_zero, sizeLine_eq, forall_eq, exists_const, forall_const, kind_non, kind_bl, kind_int, kind_str, kind_lst, kind_tup, kind_dk, Kd.isa, reduceCtorEq, decide_false, decide_true, Bool.or_false, Bool.false_or, Bool.or_true, Bool.true_or, Bool.or_self, Bool.and_false, Bool.false_and, Bool.true_and, Bool.and_true, Bool.and_self, and_self, false_or, or_false, false_and, and_false, reduceIte, Bool.false_eq_true, Bool.not_eq_true, Bool.not_true, Bool.not_false, spTake]) | refine And.intro (by first | assumption | omega | decide) ?_ | omega | assumption)
          refine of_at (.inl rfl) (by simpa using hr0) (by rw [List.length_map]; omega) (by omega : n + 2 ≤ _) hB2.is fun d1 M3 hd1 hB3 => ?_
          refine of_at (.inl rfl) (by simpa using hm0) (by rw [List.length_map]; omega) (by omega : n + 2 + 1 ≤ _) hB3.is fun d2 M4 hd2 hB4 => ?_
          obtain ⟨r, hr', rfl⟩ := mem_strs hd1
          obtain ⟨m, hm', rfl⟩ := mem_strs hd2
          (try simp only [seqS_M, startE_cons, startE_nil, List.length_cons, List.length_nil, List.length_replicate, List.length_set, List.replicate_succ, List.replicate_zero, List.getElem?_cons_zero, List.getElem?_cons_succ, List.set_cons_zero, List.set_cons_succ, Option.some.injEq, OT.fz.injEq, OT.ow.injEq, D.int.injEq, D.str.injEq, D.bl.injEq, D.tup.injEq, D.lst.injEq, List.cons.injEq, exists_eq_left', exists_eq_left, exists_eq_right, and_true, true_and, OT.toD_fz, toD_map_fz, hIx_tup, hIx_lst, hIx_scr, hIx_mob, hIx_str, hIxT_fz, hIxT_ow, hAdd_int, hAdd_str, hAdd_tup, hAdd_lst, hMul_int, hMul_lst, hSl_tup, hSl_lst, hSl_str, hLen_lst, hLen_tup, hLen_scr, hLen_str, hLen_mob, hInt_int, hInt_bl, hAbs_int, hSeq_lst, hSeq_tup, hIn_lst, hIn_tup, hEq_eq, hI0_int, hI_int, ng_f, ng_t, atI_0, atI_1, atI_2, ofString_inj, eqv_str, eqv_txt, eqv_int, eqv_bl, eqv_tup, eqv_lst, eqOk_str, eqOk_int, eqOk_bl, eqOk_txt, decide_eq_true_eq, Nat.zero_lt_succ, exists_and_left, List.take_succ_cons, List.take_zero, List.drop_succ_cons, List.drop_zero, List.cons_append, List.nil_append, and_assoc, atI_map, Option.map_some, Nat.reduceAdd, Nat.reduceLT, Nat.reduceLeDiff, OT.toD_ow, List.map_cons, List.map_nil, D.mob.injEq, Mo.lst.injEq, Mem.put_same, Mem.put_put, ixN_30, ixN_32, ixN_10, exists_prop, fz_app, fz_inj, fz_snoc, OT.map_fz, List.length_map, List.length_append, List.append_nil, Nat.zero_add, cutL_1, items_tup, items_lst, items_scr, forD, compD, compS, comp2D, wipeE, D.isIn, List.any_cons, List.any_nil, String.reduceEq, D.plain, D.plains, D.dep, D.deps, Nat.max_self, Nat.min_self, Nat.zero_le, Nat.zero_min, Nat.min_zero, sizeLine_eq, forall_eq, exists_const, forall_const, kind_non, kind_bl, kind_int, kind_str, kind_lst, kind_tup, kind_dk, Kd.isa, reduceCtorEq, decide_false, decide_true, Bool.or_false, Bool.false_or, Bool.or_true, Bool.true_or, Bool.or_self, Bool.and_false, Bool.false_and, Bool.true_and, Bool.and_true, Bool.and_self, and_self, false_or, or_false, false_and, and_false, reduceIte, Bool.false_eq_true, Bool.not_eq_true, Bool.not_true, Bool.not_false, spBody]); repeat (first | (refine seq_in ?_; simp only [seqS_M, startE_cons, startE_nil, List.length_cons, List.length_nil, List.length_replicate, List.length_set, List.replicate_succ, List.replicate_zero, List.getElem?_cons_zero, List.getElem?_cons_succ, List.set_cons_zero, List.set_cons_succ, Option.some.injEq, OT.fz.injEq, OT.ow.injEq, D.int.injEq, D.str.injEq, D.bl.injEq, D.tup.injEq, D.lst.injEq, List.cons.injEq, exists_eq_left', exists_eq_left, exists_eq_right, and_true, true_and, OT.toD_fz, toD_map_fz, hIx_tup, hIx_lst, hIx_scr, hIx_mob, hIx_str, hIxT_fz, hIxT_ow, hAdd_int, hAdd_str, hAdd_tup, hAdd_lst, hMul_int, hMul_lst, hSl_tup, hSl_lst, hSl_str, hLen_lst, hLen_tup, hLen_scr, hLen_str, hLen_mob, hInt_int, hInt_bl, hAbs_int, hSeq_lst, hSeq_tup, hIn_lst, hIn_tup, hEq_eq, hI0_int, hI_int, ng_f, ng_t, atI_0, atI_1, atI_2, ofString_inj, eqv_str, eqv_txt, eqv_int, eqv_bl, eqv_tup, eqv_lst, eqOk_str, eqOk_int, eqOk_bl, eqOk_txt, decide_eq_true_eq, Nat.zero_lt_succ, exists_and_left, List.take_succ_cons, List.take_zero, List.drop_succ_cons, List.drop_zero, List.cons_append, List.nil_append, and_assoc, atI_map, Option.map_some, Nat.reduceAdd, Nat.reduceLT, Nat.reduceLeDiff, OT.toD_ow, List.map_cons, List.map_nil, D.mob.injEq, Mo.lst.injEq, Mem.put_same, Mem.put_put, ixN_30, ixN_32, ixN_10, exists_prop, fz_app, fz_inj, fz_snoc, OT.map_fz, List.length_map, List.length_append, List.append_nil, Nat.zero_add, cutL_1, items_tup, items_lst, items_scr, forD, compD, compS, comp2D, wipeE, D.isIn, List.any_cons, List.any_nil, String.reduceEq, D.plain, D.plains, D.dep, D.deps, Nat.max_self, Nat.min_self, Nat.zero_le, Nat.zero_min, Nat.min_zero, sizeLine_eq, forall_eq, exists_const, forall_const, kind_non, kind_bl, kind_int, kind_str, kind_lst, kind_tup, kind_dk, Kd.isa, reduceCtorEq, decide_false, decide_true, Bool.or_false, Bool.false_or, Bool.or_true, Bool.true_or, Bool.or_self, Bool.and_false, Bool.false_and, Bool.true_and, Bool.and_true, Bool.and_self, and_self, false_or, or_false, false_and, and_false, reduceIte, Bool.false_eq_true, Bool.not_eq_true, Bool.not_true, Bool.not_false, spBody]) | refine And.intro (by first | assumption | omega | decide) ?_ | omega | assumption)
          exact ⟨.has r m, rfl, Nat.zero_le _, ⟨hr2 r hr', hm2 m hm'⟩, (((hB1.trans hB2).trans (hB3.trans hB4)).mono (by omega)).bb hpq hk⟩
      ·
        (try simp only [seqS_M, startE_cons, startE_nil, List.length_cons, List.length_nil, List.length_replicate, List.length_set, List.replicate_succ, List.replicate_zero, List.getElem?_cons_zero, List.getElem?_cons_succ, List.set_cons_zero, List.set_cons_succ, Option.some.injEq, OT.fz.injEq, OT.ow.injEq, D.int.injEq, D.str.injEq, D.bl.injEq, D.tup.injEq, D.lst.injEq, List.cons.injEq, exists_eq_left', exists_eq_left, exists_eq_right, and_true, true_and, OT.toD_fz, toD_map_fz, hIx_tup, hIx_lst, hIx_scr, hIx_mob, hIx_str, hIxT_fz, hIxT_ow, hAdd_int, hAdd_str, hAdd_tup, hAdd_lst, hMul_int, hMul_lst, hSl_tup, hSl_lst, hSl_str, hLen_lst, hLen_tup, hLen_scr, hLen_str, hLen_mob, hInt_int, hInt_bl, hAbs_int, hSeq_lst, hSeq_tup, hIn_lst, hIn_tup, hEq_eq, hI0_int, hI_int, ng_f, ng_t, atI_0, atI_1, atI_2, ofString_inj, eqv_str, eqv_txt, eqv_int, eqv_bl, eqv_tup, eqv_lst, eqOk_str, eqOk_int, eqOk_bl, eqOk_txt, decide_eq_true_eq, Nat.zero_lt_succ, exists_and_left, List.take_succ_cons, List.take_zero, List.drop_succ_cons, List.drop_zero, List.cons_append, List.nil_append, and_assoc, atI_map, Option.map_some, Nat.reduceAdd, Nat.reduceLT, Nat.reduceLeDiff, OT.toD_ow, List.map_cons, List.map_nil, D.mob.injEq, Mo.lst.injEq, Mem.put_same, Mem.put_put, ixN_30, ixN_32, ixN_10, exists_prop, fz_app, fz_inj, fz_snoc, OT.map_fz, List.length_map, List.length_append, List.append_nil, Nat.zero_add, cutL_1, items_tup, items_lst, items_scr, forD, compD, compS, comp2D, wipeE, D.isIn, List.any_cons, List.any_nil, String.reduceEq, D.plain, D.plains, D.dep, D.deps, Nat.max_self, Nat.min_self, Nat.zero_le, Nat.zero_min, Nat.min_zero, sizeLine_eq, forall_eq, exists_const, forall_const, kind_non, kind_bl, kind_int, kind_str, kind_lst, kind_tup, kind_dk, Kd.isa, reduceCtorEq, decide_false, decide_true, Bool.or_false, Bool.false_or, Bool.or_true, Bool.true_or, Bool.or_self, Bool.and_false, Bool.false_and, Bool.true_and, Bool.and_true, Bool.and_self, and_self, false_or, or_false, false_and, and_false, reduceIte, Bool.false_eq_true, Bool.not_eq_true, Bool.not_true, Bool.not_false, spTake]); repeat (first | (refine seq_in ?_; simp only [seqS_M, startE_cons, startE_nil, List.length_cons, List.length_nil, List.length_replicate, List.length_set, List.replicate_succ, List.replicate_zero, List.getElem?_cons_zero, List.getElem?_cons_succ, List.set_cons_zero, List.set_cons_succ, Option.some.injEq, OT.fz.injEq, OT.ow.injEq, D.int.injEq, D.str.injEq, D.bl.injEq, D.tup.injEq, D.lst.injEq, List.cons.injEq, exists_eq_left', exists_eq_left, exists_eq_right, and_true, true_and, OT.toD_fz, toD_map_fz, hIx_tup, hIx_lst, hIx_scr, hIx_mob, hIx_str, hIxT_fz, hIxT_ow, hAdd_int, hAdd_str, hAdd_tup, hAdd_lst, hMul_int, hMul_lst, hSl_tup, hSl_lst, hSl_str, hLen_lst, hLen_tup, hLen_scr, hLen_str, hLen_mob, hInt_int, hInt_bl, hAbs_int, hSeq_lst, hSeq_tup, hIn_lst, hIn_tup, hEq_eq, hI0_int, hI_int, ng_f, ng_t, atI_0, atI_1, atI_2, ofString_inj, eqv_str, eqv_txt, eqv_int, eqv_bl, eqv_tup, eqv_lst, eqOk_str, eqOk_int, eqOk_bl, eqOk_txt, decide_eq_true_eq, Nat.zero_lt_succ, exists_and_left, List.take_succ_cons, List.take_zero, List.drop_succ_cons, List.drop_zero, List.cons_append, List.nil_append, and_assoc, atI_map, Option.map_some, Nat.reduceAdd, Nat.reduceLT, Nat.reduceLeDiff, OT.toD_ow, List.map_cons, List.map_nil, D.mob.injEq, Mo.lst.injEq, Mem.put_same, Mem.put_put, ixN_30, ixN_32, ixN_10, exists_prop, fz_app, fz_inj, fz_snoc, OT.map_fz, List.length_map, List.length_append, List.append_nil, Nat.zero_add, cutL_1, items_tup, items_lst, items_scr, forD, compD, compS, comp2D, wipeE, D.isIn, List.any_cons, List.any_nil, String.reduceEq, D.plain, D.plains, D.dep, D.deps, Nat.max_self, Nat.min_self, Nat.zero_le, Nat.zero_min, Nat.min_zero, sizeLine_eq, forall_eq, exists_const, forall_const, kind_non, kind_bl, kind_int, kind_str, kind_lst, kind_tup, kind_dk, Kd.isa, reduceCtorEq, decide_false, decide_true, Bool.or_false, Bool.false_or, Bool.or_true, Bool.true_or, Bool.or_self, Bool.and_false, Bool.false_and, Bool.true_and, Bool.and_true, Bool.and_self, and_self, false_or, or_false, false_and, and_false, reduceIte, Bool.false_eq_true, Bool.not_eq_true, Bool.not_true, Bool.not_false, spTake]) | refine And.intro (by first | assumption | omega | decide) ?_ | omega | assumption)
        refine of_at (.inl rfl) (by simpa using hr0) (by rw [List.length_map]; omega) (by omega : n + 1 ≤ _) hB1.is fun d1 M3 hd1 hB3 => ?_
        refine of_at (.inl rfl) (by simpa using hm0) (by rw [List.length_map]; omega) (by omega : n + 1 + 1 ≤ _) hB3.is fun d2 M4 hd2 hB4 => ?_
        obtain ⟨r, hr', rfl⟩ := mem_strs hd1
        obtain ⟨m, hm', rfl⟩ := mem_strs hd2
        (try simp only [seqS_M, startE_cons, startE_nil, List.length_cons, List.length_nil, List.length_replicate, List.length_set, List.replicate_succ, List.replicate_zero, List.getElem?_cons_zero, List.getElem?_cons_succ, List.set_cons_zero, List.set_cons_succ, Option.some.injEq, OT.fz.injEq, OT.ow.injEq, D.int.injEq, D.str.injEq, D.bl.injEq, D.tup.injEq, D.lst.injEq, List.cons.injEq, exists_eq_left', exists_eq_left, exists_eq_right, and_true, true_and, OT.toD_fz, toD_map_fz, hIx_tup, hIx_lst, hIx_scr, hIx_mob, hIx_str, hIxT_fz, hIxT_ow, hAdd_int, hAdd_str, hAdd_tup, hAdd_lst, hMul_int, hMul_lst, hSl_tup, hSl_lst, hSl_str, hLen_lst, hLen_tup, hLen_scr, hLen_str, hLen_mob, hInt_int, hInt_bl, hAbs_int, hSeq_lst, hSeq_tup, hIn_lst, hIn_tup, hEq_eq, hI0_int, hI_int, ng_f, ng_t, atI_0, atI_1, atI_2, ofString_inj, eqv_str, eqv_txt, eqv_int, eqv_bl, eqv_tup, eqv_lst, eqOk_str, eqOk_int, eqOk_bl, eqOk_txt, decide_eq_true_eq, Nat.zero_lt_succ, exists_and_left, List.take_succ_cons, List.take_zero, List.drop_succ_cons, List.drop_zero, List.cons_append, List.nil_append, and_assoc, atI_map, Option.map_some, Nat.reduceAdd, Nat.reduceLT, Nat.reduceLeDiff, OT.toD_ow, List.map_cons, List.map_nil, D.mob.injEq, Mo.lst.injEq, Mem.put_same, Mem.put_put, ixN_30, ixN_32, ixN_10, exists_prop, fz_app, fz_inj, fz_snoc, OT.map_fz, List.length_map, List.length_append, List.append_nil, Nat.zero_add, cutL_1, items_tup, items_lst, items_scr, forD, compD, compS, comp2D, wipeE, D.isIn, List.any_cons, List.any_nil, String.reduceEq, D.plain, D.plains, D.dep, D.deps, Nat.max_self, Nat.min_self, Nat.zero_le, Nat.zero_min, Nat.min_zero, sizeLine_eq, forall_eq, exists_const, forall_const, kind_non, kind_bl, kind_int, kind_str, kind_lst, kind_tup, kind_dk, Kd.isa, reduceCtorEq, decide_false, decide_true, Bool.or_false, Bool.false_or, Bool.or_true, Bool.true_or, Bool.or_self, Bool.and_false, Bool.false_and, Bool.true_and, Bool.and_true, Bool.and_self, and_self, false_or, or_false, false_and, and_false, reduceIte, Bool.false_eq_true, Bool.not_eq_true, Bool.not_true, Bool.not_false, spBody]); repeat (first | (refine seq_in ?_; simp only [seqS_M, startE_cons, startE_nil, List.length_cons, List.length_nil, List.length_replicate, List.length_set, List.replicate_succ, List.replicate_zero, List.getElem?_cons_zero, List.getElem?_cons_succ, List.set_cons_zero, List.set_cons_succ, Option.some.injEq, OT.fz.injEq, OT.ow.injEq, D.int.injEq, D.str.injEq, D.bl.injEq, D.tup.injEq, D.lst.injEq, List.cons.injEq, exists_eq_left', exists_eq_left, exists_eq_right, and_true, true_and, OT.toD_fz, toD_map_fz, hIx_tup, hIx_lst, hIx_scr, hIx_mob, hIx_str, hIxT_fz, hIxT_ow, hAdd_int, hAdd_str, hAdd_tup, hAdd_lst, hMul_int, hMul_lst, hSl_tup, hSl_lst, hSl_str, hLen_lst, hLen_tup, hLen_scr, hLen_str, hLen_mob, hInt_int, hInt_bl, hAbs_int, hSeq_lst, hSeq_tup, hIn_lst, hIn_tup, hEq_eq, hI0_int, hI_int, ng_f, ng_t, atI_0, atI_1, atI_2, ofString_inj, eqv_str, eqv_txt, eqv_int, eqv_bl, eqv_tup, eqv_lst, eqOk_str, eqOk_int, eqOk_bl, eqOk_txt, decide_eq_true_eq, Nat.zero_lt_succ, exists_and_left, List.take_succ_cons, List.take_zero, List.drop_succ_cons, List.drop_zero, List.cons_append, List.nil_append, and_assoc, atI_map, Option.map_some, Nat.reduceAdd, Nat.reduceLT, Nat.reduceLeDiff, OT.toD_ow, List.map_cons, List.map_nil, D.mob.injEq, Mo.lst.injEq, Mem.put_same, Mem.put_put, ixN_30, ixN_32, ixN_10, exists_prop, fz_app, fz_inj, fz_snoc, OT.map_fz, List.length_map, List.length_append, List.append_nil, Nat.zero_add, cutL_1, items_tup, items_lst, items_scr, forD, compD, compS, comp2D, wipeE, D.isIn, List.any_cons, List.any_nil, String.reduceEq, D.plain, D.plains, D.dep, D.deps, Nat.max_self, Nat.min_self, Nat.zero_le, Nat.zero_min, Nat.min_zero, sizeLine_eq, forall_eq, exists_const, forall_const, kind_non, kind_bl, kind_int, kind_str, kind_lst, kind_tup, kind_dk, Kd.isa, reduceCtorEq, decide_false, decide_true, Bool.or_false, Bool.false_or, Bool.or_true, Bool.true_or, Bool.or_self, Bool.and_false, Bool.false_and, Bool.true_and, Bool.and_true, Bool.and_self, and_self, false_or, or_false, false_and, and_false, reduceIte, Bool.false_eq_true, Bool.not_eq_true, Bool.not_true, Bool.not_false, spBody]) | refine And.intro (by first | assumption | omega | decide) ?_ | omega | assumption)
        exact ⟨.has r m, rfl, Nat.zero_le _, ⟨hr2 r hr', hm2 m hm'⟩, ((hB1.trans (hB3.trans hB4)).mono (by omega)).bb hpq hk⟩
    · obtain ⟨e, rfl⟩ : ∃ e, deep = e + 1 := ⟨deep - 1, by omega⟩
      have hde : ((e + 1 : Nat) : Int) - 1 = (e : Int) := by omega
      have cs := cst_s e
      have cp := cst_pos e
      have hBB : BB p q (n + 1) M M1 := hB1.bb hpq hk
      obtain ⟨k1, hk1⟩ := (hBB.box hpq).2
      have hk2 : M1 q = some (.lst [.int k1]) := hk1
      (try simp only [seqS_M, startE_cons, startE_nil, List.length_cons, List.length_nil, List.length_replicate, List.length_set, List.replicate_succ, List.replicate_zero, List.getElem?_cons_zero, List.getElem?_cons_succ, List.set_cons_zero, List.set_cons_succ, Option.some.injEq, OT.fz.injEq, OT.ow.injEq, D.int.injEq, D.str.injEq, D.bl.injEq, D.tup.injEq, D.lst.injEq, List.cons.injEq, exists_eq_left', exists_eq_left, exists_eq_right, and_true, true_and, OT.toD_fz, toD_map_fz, hIx_tup, hIx_lst, hIx_scr, hIx_mob, hIx_str, hIxT_fz, hIxT_ow, hAdd_int, hAdd_str, hAdd_tup, hAdd_lst, hMul_int, hMul_lst, hSl_tup, hSl_lst, hSl_str, hLen_lst, hLen_tup, hLen_scr, hLen_str, hLen_mob, hInt_int, hInt_bl, hAbs_int, hSeq_lst, hSeq_tup, hIn_lst, hIn_tup, hEq_eq, hI0_int, hI_int, ng_f, ng_t, atI_0, atI_1, atI_2, ofString_inj, eqv_str, eqv_txt, eqv_int, eqv_bl, eqv_tup, eqv_lst, eqOk_str, eqOk_int, eqOk_bl, eqOk_txt, decide_eq_true_eq, Nat.zero_lt_succ, exists_and_left, List.take_succ_cons, List.take_zero, List.drop_succ_cons, List.drop_zero, List.cons_append, List.nil_append, and_assoc, atI_map, Option.map_some, Nat.reduceAdd, Nat.reduceLT, Nat.reduceLeDiff, OT.toD_ow, List.map_cons, List.map_nil, D.mob.injEq, Mo.lst.injEq, Mem.put_same, Mem.put_put, ixN_30, ixN_32, ixN_10, exists_prop, fz_app, fz_inj, fz_snoc, OT.map_fz, List.length_map, List.length_append, List.append_nil, Nat.zero_add, cutL_1, items_tup, items_lst, items_scr, forD, compD, compS, comp2D, wipeE, D.isIn, List.any_cons, List.any_nil, String.reduceEq, D.plain, D.plains, D.dep, D.deps, Nat.max_self, Nat.min_self, Nat.zero_le, Nat.zero_min, Nat.min_zero, sizeLine_eq, forall_eq, exists_const, forall_const, kind_non, kind_bl, kind_int, kind_str, kind_lst, kind_tup, kind_dk, Kd.isa, reduceCtorEq, decide_false, decide_true, Bool.or_false, Bool.false_or, Bool.or_true, Bool.true_or, Bool.or_self, Bool.and_false, Bool.false_and, Bool.true_and, Bool.and_true, Bool.and_self, and_self, false_or, or_false, false_and, and_false, reduceIte, Bool.false_eq_true, Bool.not_eq_true, Bool.not_true, Bool.not_false, hde]); repeat (first | (refine seq_in ?_; simp only [seqS_M, startE_cons, startE_nil, List.length_cons, List.length_nil, List.length_replicate, List.length_set, List.replicate_succ, List.replicate_zero, List.getElem?_cons_zero, List.getElem?_cons_succ, List.set_cons_zero, List.set_cons_succ, Option.some.injEq, OT.fz.injEq, OT.ow.injEq, D.int.injEq, D.str.injEq, D.bl.injEq, D.tup.injEq, D.lst.injEq, List.cons.injEq, exists_eq_left', exists_eq_left, exists_eq_right, and_true, true_and, OT.toD_fz, toD_map_fz, hIx_tup, hIx_lst, hIx_scr, hIx_mob, hIx_str, hIxT_fz, hIxT_ow, hAdd_int, hAdd_str, hAdd_tup, hAdd_lst, hMul_int, hMul_lst, hSl_tup, hSl_lst, hSl_str, hLen_lst, hLen_tup, hLen_scr, hLen_str, hLen_mob, hInt_int, hInt_bl, hAbs_int, hSeq_lst, hSeq_tup, hIn_lst, hIn_tup, hEq_eq, hI0_int, hI_int, ng_f, ng_t, atI_0, atI_1, atI_2, ofString_inj, eqv_str, eqv_txt, eqv_int, eqv_bl, eqv_tup, eqv_lst, eqOk_str, eqOk_int, eqOk_bl, eqOk_txt, decide_eq_true_eq, Nat.zero_lt_succ, exists_and_left, List.take_succ_cons, List.take_zero, List.drop_succ_cons, List.drop_zero, List.cons_append, List.nil_append, and_assoc, atI_map, Option.map_some, Nat.reduceAdd, Nat.reduceLT, Nat.reduceLeDiff, OT.toD_ow, List.map_cons, List.map_nil, D.mob.injEq, Mo.lst.injEq, Mem.put_same, Mem.put_put, ixN_30, ixN_32, ixN_10, exists_prop, fz_app, fz_inj, fz_snoc, OT.map_fz, List.length_map, List.length_append, List.append_nil, Nat.zero_add, cutL_1, items_tup, items_lst, items_scr, forD, compD, compS, comp2D, wipeE, D.isIn, List.any_cons, List.any_nil, String.reduceEq, D.plain, D.plains, D.dep, D.deps, Nat.max_self, Nat.min_self, Nat.zero_le, Nat.zero_min, Nat.min_zero, sizeLine_eq, forall_eq, exists_const, forall_const, kind_non, kind_bl, kind_int, kind_str, kind_lst, kind_tup, kind_dk, Kd.isa, reduceCtorEq, decide_false, decide_true, Bool.or_false, Bool.false_or, Bool.or_true, Bool.true_or, Bool.or_self, Bool.and_false, Bool.false_and, Bool.true_and, Bool.and_true, Bool.and_self, and_self, false_or, or_false, false_and, and_false, reduceIte, Bool.false_eq_true, Bool.not_eq_true, Bool.not_true, Bool.not_false, hde]) | refine And.intro (by first | assumption | omega | decide) ?_ | omega | assumption)
      split
      · (try simp only [seqS_M, startE_cons, startE_nil, List.length_cons, List.length_nil, List.length_replicate, List.length_set, List.replicate_succ, List.replicate_zero, List.getElem?_cons_zero, List.getElem?_cons_succ, List.set_cons_zero, List.set_cons_succ, Option.some.injEq, OT.fz.injEq, OT.ow.injEq, D.int.injEq, D.str.injEq, D.bl.injEq, D.tup.injEq, D.lst.injEq, List.cons.injEq, exists_eq_left', exists_eq_left, exists_eq_right, and_true, true_and, OT.toD_fz, toD_map_fz, hIx_tup, hIx_lst, hIx_scr, hIx_mob, hIx_str, hIxT_fz, hIxT_ow, hAdd_int, hAdd_str, hAdd_tup, hAdd_lst, hMul_int, hMul_lst, hSl_tup, hSl_lst, hSl_str, hLen_lst, hLen_tup, hLen_scr, hLen_str, hLen_mob, hInt_int, hInt_bl, hAbs_int, hSeq_lst, hSeq_tup, hIn_lst, hIn_tup, hEq_eq, hI0_int, hI_int, ng_f, ng_t, atI_0, atI_1, atI_2, ofString_inj, eqv_str, eqv_txt, eqv_int, eqv_bl, eqv_tup, eqv_lst, eqOk_str, eqOk_int, eqOk_bl, eqOk_txt, decide_eq_true_eq, Nat.zero_lt_succ, exists_and_left, List.take_succ_cons, List.take_zero, List.drop_succ_cons, List.drop_zero, List.cons_append, List.nil_append, and_assoc, atI_map, Option.map_some, Nat.reduceAdd, Nat.reduceLT, Nat.reduceLeDiff, OT.toD_ow, List.map_cons, List.map_nil, D.mob.injEq, Mo.lst.injEq, Mem.put_same, Mem.put_put, ixN_30, ixN_32, ixN_10, exists_prop, fz_app, fz_inj, fz_snoc, OT.map_fz, List.length_map, List.length_append, List.append_nil, Nat.zero_add, cutL_1, items_tup, items_lst, items_scr, forD, compD, compS, comp2D, wipeE, D.isIn, List.any_cons, List.any_nil, String.reduceEq, D.plain, D.plains, D.dep, D.deps, Nat.max_self, Nat.min_self, Nat.zero_le, Nat.zero_min, Nat.min_zero, sizeLine_eq, forall_eq, exists_const, forall_const, kind_non, kind_bl, kind_int, kind_str, kind_lst, kind_tup, kind_dk, Kd.isa, reduceCtorEq, decide_false, decide_true, Bool.or_false, Bool.false_or, Bool.or_true, Bool.true_or, Bool.or_self, Bool.and_false, Bool.false_and, Bool.true_and, Bool.and_true, Bool.and_self, and_self, false_or, or_false, false_and, and_false, reduceIte, Bool.false_eq_true, Bool.not_eq_true, Bool.not_true, Bool.not_false, hde]); repeat (first | (refine seq_in ?_; simp only [seqS_M, startE_cons, startE_nil, List.length_cons, List.length_nil, List.length_replicate, List.length_set, List.replicate_succ, List.replicate_zero, List.getElem?_cons_zero, List.getElem?_cons_succ, List.set_cons_zero, List.set_cons_succ, Option.some.injEq, OT.fz.injEq, OT.ow.injEq, D.int.injEq, D.str.injEq, D.bl.injEq, D.tup.injEq, D.lst.injEq, List.cons.injEq, exists_eq_left', exists_eq_left, exists_eq_right, and_true, true_and, OT.toD_fz, toD_map_fz, hIx_tup, hIx_lst, hIx_scr, hIx_mob, hIx_str, hIxT_fz, hIxT_ow, hAdd_int, hAdd_str, hAdd_tup, hAdd_lst, hMul_int, hMul_lst, hSl_tup, hSl_lst, hSl_str, hLen_lst, hLen_tup, hLen_scr, hLen_str, hLen_mob, hInt_int, hInt_bl, hAbs_int, hSeq_lst, hSeq_tup, hIn_lst, hIn_tup, hEq_eq, hI0_int, hI_int, ng_f, ng_t, atI_0, atI_1, atI_2, ofString_inj, eqv_str, eqv_txt, eqv_int, eqv_bl, eqv_tup, eqv_lst, eqOk_str, eqOk_int, eqOk_bl, eqOk_txt, decide_eq_true_eq, Nat.zero_lt_succ, exists_and_left, List.take_succ_cons, List.take_zero, List.drop_succ_cons, List.drop_zero, List.cons_append, List.nil_append, and_assoc, atI_map, Option.map_some, Nat.reduceAdd, Nat.reduceLT, Nat.reduceLeDiff, OT.toD_ow, List.map_cons, List.map_nil, D.mob.injEq, Mo.lst.injEq, Mem.put_same, Mem.put_put, ixN_30, ixN_32, ixN_10, exists_prop, fz_app, fz_inj, fz_snoc, OT.map_fz, List.length_map, List.length_append, List.append_nil, Nat.zero_add, cutL_1, items_tup, items_lst, items_scr, forD, compD, compS, comp2D, wipeE, D.isIn, List.any_cons, List.any_nil, String.reduceEq, D.plain, D.plains, D.dep, D.deps, Nat.max_self, Nat.min_self, Nat.zero_le, Nat.zero_min, Nat.min_zero, sizeLine_eq, forall_eq, exists_const, forall_const, kind_non, kind_bl, kind_int, kind_str, kind_lst, kind_tup, kind_dk, Kd.isa, reduceCtorEq, decide_false, decide_true, Bool.or_false, Bool.false_or, Bool.or_true, Bool.true_or, Bool.or_self, Bool.and_false, Bool.false_and, Bool.true_and, Bool.and_true, Bool.and_self, and_self, false_or, or_false, false_and, and_false, reduceIte, Bool.false_eq_true, Bool.not_eq_true, Bool.not_true, Bool.not_false, hde]) | refine And.intro (by first | assumption | omega | decide) ?_ | omega | assumption)
        refine body_at hpq hBB (by omega) hr0 hm0 hr1 hm1 hr2 hm2 (by omega) fun b M2 g1 g2 g3 => ?_
        (try simp only [seqS_M, startE_cons, startE_nil, List.length_cons, List.length_nil, List.length_replicate, List.length_set, List.replicate_succ, List.replicate_zero, List.getElem?_cons_zero, List.getElem?_cons_succ, List.set_cons_zero, List.set_cons_succ, Option.some.injEq, OT.fz.injEq, OT.ow.injEq, D.int.injEq, D.str.injEq, D.bl.injEq, D.tup.injEq, D.lst.injEq, List.cons.injEq, exists_eq_left', exists_eq_left, exists_eq_right, and_true, true_and, OT.toD_fz, toD_map_fz, hIx_tup, hIx_lst, hIx_scr, hIx_mob, hIx_str, hIxT_fz, hIxT_ow, hAdd_int, hAdd_str, hAdd_tup, hAdd_lst, hMul_int, hMul_lst, hSl_tup, hSl_lst, hSl_str, hLen_lst, hLen_tup, hLen_scr, hLen_str, hLen_mob, hInt_int, hInt_bl, hAbs_int, hSeq_lst, hSeq_tup, hIn_lst, hIn_tup, hEq_eq, hI0_int, hI_int, ng_f, ng_t, atI_0, atI_1, atI_2, ofString_inj, eqv_str, eqv_txt, eqv_int, eqv_bl, eqv_tup, eqv_lst, eqOk_str, eqOk_int, eqOk_bl, eqOk_txt, decide_eq_true_eq, Nat.zero_lt_succ, exists_and_left, List.take_succ_cons, List.take_zero, List.drop_succ_cons, List.drop_zero, List.cons_append, List.nil_append, and_assoc, atI_map, Option.map_some, Nat.reduceAdd, Nat.reduceLT, Nat.reduceLeDiff, OT.toD_ow, List.map_cons, List.map_nil, D.mob.injEq, Mo.lst.injEq, Mem.put_same, Mem.put_put, ixN_30, ixN_32, ixN_10, exists_prop, fz_app, fz_inj, fz_snoc, OT.map_fz, List.length_map, List.length_append, List.append_nil, Nat.zero_add, cutL_1, items_tup, items_lst, items_scr, forD, compD, compS, comp2D, wipeE, D.isIn, List.any_cons, List.any_nil, String.reduceEq, D.plain, D.plains, D.dep, D.deps, Nat.max_self, Nat.min_self, Nat.zero_le, Nat.zero_min, Nat.min_zero, sizeLine_eq, forall_eq, exists_const, forall_const, kind_non, kind_bl, kind_int, kind_str, kind_lst, kind_tup, kind_dk, Kd.isa, reduceCtorEq, decide_false, decide_true, Bool.or_false, Bool.false_or, Bool.or_true, Bool.true_or, Bool.or_self, Bool.and_false, Bool.false_and, Bool.true_and, Bool.and_true, Bool.and_self, and_self, false_or, or_false, false_and, and_false, reduceIte, Bool.false_eq_true, Bool.not_eq_true, Bool.not_true, Bool.not_false, spBody]); repeat (first | (refine seq_in ?_; simp only [seqS_M, startE_cons, startE_nil, List.length_cons, List.length_nil, List.length_replicate, List.length_set, List.replicate_succ, List.replicate_zero, List.getElem?_cons_zero, List.getElem?_cons_succ, List.set_cons_zero, List.set_cons_succ, Option.some.injEq, OT.fz.injEq, OT.ow.injEq, D.int.injEq, D.str.injEq, D.bl.injEq, D.tup.injEq, D.lst.injEq, List.cons.injEq, exists_eq_left', exists_eq_left, exists_eq_right, and_true, true_and, OT.toD_fz, toD_map_fz, hIx_tup, hIx_lst, hIx_scr, hIx_mob, hIx_str, hIxT_fz, hIxT_ow, hAdd_int, hAdd_str, hAdd_tup, hAdd_lst, hMul_int, hMul_lst, hSl_tup, hSl_lst, hSl_str, hLen_lst, hLen_tup, hLen_scr, hLen_str, hLen_mob, hInt_int, hInt_bl, hAbs_int, hSeq_lst, hSeq_tup, hIn_lst, hIn_tup, hEq_eq, hI0_int, hI_int, ng_f, ng_t, atI_0, atI_1, atI_2, ofString_inj, eqv_str, eqv_txt, eqv_int, eqv_bl, eqv_tup, eqv_lst, eqOk_str, eqOk_int, eqOk_bl, eqOk_txt, decide_eq_true_eq, Nat.zero_lt_succ, exists_and_left, List.take_succ_cons, List.take_zero, List.drop_succ_cons, List.drop_zero, List.cons_append, List.nil_append, and_assoc, atI_map, Option.map_some, Nat.reduceAdd, Nat.reduceLT, Nat.reduceLeDiff, OT.toD_ow, List.map_cons, List.map_nil, D.mob.injEq, Mo.lst.injEq, Mem.put_same, Mem.put_put, ixN_30, ixN_32, ixN_10, exists_prop, fz_app, fz_inj, fz_snoc, OT.map_fz, List.length_map, List.length_append, List.append_nil, Nat.zero_add, cutL_1, items_tup, items_lst, items_scr, forD, compD, compS, comp2D, wipeE, D.isIn, List.any_cons, List.any_nil, String.reduceEq, D.plain, D.plains, D.dep, D.deps, Nat.max_self, Nat.min_self, Nat.zero_le, Nat.zero_min, Nat.min_zero, sizeLine_eq, forall_eq, exists_const, forall_const, kind_non, kind_bl, kind_int, kind_str, kind_lst, kind_tup, kind_dk, Kd.isa, reduceCtorEq, decide_false, decide_true, Bool.or_false, Bool.false_or, Bool.or_true, Bool.true_or, Bool.or_self, Bool.and_false, Bool.false_and, Bool.true_and, Bool.and_true, Bool.and_self, and_self, false_or, or_false, false_and, and_false, reduceIte, Bool.false_eq_true, Bool.not_eq_true, Bool.not_true, Bool.not_false, spBody]) | refine And.intro (by first | assumption | omega | decide) ?_ | omega | assumption)
        exact ⟨.nt b, rfl, by simp only [Bd.hgt]; omega, g2, g3.mono (by omega)⟩
      · (try simp only [seqS_M, startE_cons, startE_nil, List.length_cons, List.length_nil, List.length_replicate, List.length_set, List.replicate_succ, List.replicate_zero, List.getElem?_cons_zero, List.getElem?_cons_succ, List.set_cons_zero, List.set_cons_succ, Option.some.injEq, OT.fz.injEq, OT.ow.injEq, D.int.injEq, D.str.injEq, D.bl.injEq, D.tup.injEq, D.lst.injEq, List.cons.injEq, exists_eq_left', exists_eq_left, exists_eq_right, and_true, true_and, OT.toD_fz, toD_map_fz, hIx_tup, hIx_lst, hIx_scr, hIx_mob, hIx_str, hIxT_fz, hIxT_ow, hAdd_int, hAdd_str, hAdd_tup, hAdd_lst, hMul_int, hMul_lst, hSl_tup, hSl_lst, hSl_str, hLen_lst, hLen_tup, hLen_scr, hLen_str, hLen_mob, hInt_int, hInt_bl, hAbs_int, hSeq_lst, hSeq_tup, hIn_lst, hIn_tup, hEq_eq, hI0_int, hI_int, ng_f, ng_t, atI_0, atI_1, atI_2, ofString_inj, eqv_str, eqv_txt, eqv_int, eqv_bl, eqv_tup, eqv_lst, eqOk_str, eqOk_int, eqOk_bl, eqOk_txt, decide_eq_true_eq, Nat.zero_lt_succ, exists_and_left, List.take_succ_cons, List.take_zero, List.drop_succ_cons, List.drop_zero, List.cons_append, List.nil_append, and_assoc, atI_map, Option.map_some, Nat.reduceAdd, Nat.reduceLT, Nat.reduceLeDiff, OT.toD_ow, List.map_cons, List.map_nil, D.mob.injEq, Mo.lst.injEq, Mem.put_same, Mem.put_put, ixN_30, ixN_32, ixN_10, exists_prop, fz_app, fz_inj, fz_snoc, OT.map_fz, List.length_map, List.length_append, List.append_nil, Nat.zero_add, cutL_1, items_tup, items_lst, items_scr, forD, compD, compS, comp2D, wipeE, D.isIn, List.any_cons, List.any_nil, String.reduceEq, D.plain, D.plains, D.dep, D.deps, Nat.max_self, Nat.min_self, Nat.zero_le, Nat.zero_min, Nat.min_zero, sizeLine_eq, forall_eq, exists_const, forall_const, kind_non, kind_bl, kind_int, kind_str, kind_lst, kind_tup, kind_dk, Kd.isa, reduceCtorEq, decide_false, decide_true, Bool.or_false, Bool.false_or, Bool.or_true, Bool.true_or, Bool.or_self, Bool.and_false, Bool.false_and, Bool.true_and, Bool.and_true, Bool.and_self, and_self, false_or, or_false, false_and, and_false, reduceIte, Bool.false_eq_true, Bool.not_eq_true, Bool.not_true, Bool.not_false, hde, hk2]); repeat (first | (refine seq_in ?_; simp only [seqS_M, startE_cons, startE_nil, List.length_cons, List.length_nil, List.length_replicate, List.length_set, List.replicate_succ, List.replicate_zero, List.getElem?_cons_zero, List.getElem?_cons_succ, List.set_cons_zero, List.set_cons_succ, Option.some.injEq, OT.fz.injEq, OT.ow.injEq, D.int.injEq, D.str.injEq, D.bl.injEq, D.tup.injEq, D.lst.injEq, List.cons.injEq, exists_eq_left', exists_eq_left, exists_eq_right, and_true, true_and, OT.toD_fz, toD_map_fz, hIx_tup, hIx_lst, hIx_scr, hIx_mob, hIx_str, hIxT_fz, hIxT_ow, hAdd_int, hAdd_str, hAdd_tup, hAdd_lst, hMul_int, hMul_lst, hSl_tup, hSl_lst, hSl_str, hLen_lst, hLen_tup, hLen_scr, hLen_str, hLen_mob, hInt_int, hInt_bl, hAbs_int, hSeq_lst, hSeq_tup, hIn_lst, hIn_tup, hEq_eq, hI0_int, hI_int, ng_f, ng_t, atI_0, atI_1, atI_2, ofString_inj, eqv_str, eqv_txt, eqv_int, eqv_bl, eqv_tup, eqv_lst, eqOk_str, eqOk_int, eqOk_bl, eqOk_txt, decide_eq_true_eq, Nat.zero_lt_succ, exists_and_left, List.take_succ_cons, List.take_zero, List.drop_succ_cons, List.drop_zero, List.cons_append, List.nil_append, and_assoc, atI_map, Option.map_some, Nat.reduceAdd, Nat.reduceLT, Nat.reduceLeDiff, OT.toD_ow, List.map_cons, List.map_nil, D.mob.injEq, Mo.lst.injEq, Mem.put_same, Mem.put_put, ixN_30, ixN_32, ixN_10, exists_prop, fz_app, fz_inj, fz_snoc, OT.map_fz, List.length_map, List.length_append, List.append_nil, Nat.zero_add, cutL_1, items_tup, items_lst, items_scr, forD, compD, compS, comp2D, wipeE, D.isIn, List.any_cons, List.any_nil, String.reduceEq, D.plain, D.plains, D.dep, D.deps, Nat.max_self, Nat.min_self, Nat.zero_le, Nat.zero_min, Nat.min_zero, sizeLine_eq, forall_eq, exists_const, forall_const, kind_non, kind_bl, kind_int, kind_str, kind_lst, kind_tup, kind_dk, Kd.isa, reduceCtorEq, decide_false, decide_true, Bool.or_false, Bool.false_or, Bool.or_true, Bool.true_or, Bool.or_self, Bool.and_false, Bool.false_and, Bool.true_and, Bool.and_true, Bool.and_self, and_self, false_or, or_false, false_and, and_false, reduceIte, Bool.false_eq_true, Bool.not_eq_true, Bool.not_true, Bool.not_false, hde, hk2]) | refine And.intro (by first | assumption | omega | decide) ?_ | omega | assumption)
        refine ite_or (fun _ => ?_) (fun hw8 hk0 => ?_)
        · have hw : way % 2 = 0 ∨ way % 2 = 1 := by omega
          rcases hw with hw | hw
          · (try simp only [seqS_M, startE_cons, startE_nil, List.length_cons, List.length_nil, List.length_replicate, List.length_set, List.replicate_succ, List.replicate_zero, List.getElem?_cons_zero, List.getElem?_cons_succ, List.set_cons_zero, List.set_cons_succ, Option.some.injEq, OT.fz.injEq, OT.ow.injEq, D.int.injEq, D.str.injEq, D.bl.injEq, D.tup.injEq, D.lst.injEq, List.cons.injEq, exists_eq_left', exists_eq_left, exists_eq_right, and_true, true_and, OT.toD_fz, toD_map_fz, hIx_tup, hIx_lst, hIx_scr, hIx_mob, hIx_str, hIxT_fz, hIxT_ow, hAdd_int, hAdd_str, hAdd_tup, hAdd_lst, hMul_int, hMul_lst, hSl_tup, hSl_lst, hSl_str, hLen_lst, hLen_tup, hLen_scr, hLen_str, hLen_mob, hInt_int, hInt_bl, hAbs_int, hSeq_lst, hSeq_tup, hIn_lst, hIn_tup, hEq_eq, hI0_int, hI_int, ng_f, ng_t, atI_0, atI_1, atI_2, ofString_inj, eqv_str, eqv_txt, eqv_int, eqv_bl, eqv_tup, eqv_lst, eqOk_str, eqOk_int, eqOk_bl, eqOk_txt, decide_eq_true_eq, Nat.zero_lt_succ, exists_and_left, List.take_succ_cons, List.take_zero, List.drop_succ_cons, List.drop_zero, List.cons_append, List.nil_append, and_assoc, atI_map, Option.map_some, Nat.reduceAdd, Nat.reduceLT, Nat.reduceLeDiff, OT.toD_ow, List.map_cons, List.map_nil, D.mob.injEq, Mo.lst.injEq, Mem.put_same, Mem.put_put, ixN_30, ixN_32, ixN_10, exists_prop, fz_app, fz_inj, fz_snoc, OT.map_fz, List.length_map, List.length_append, List.append_nil, Nat.zero_add, cutL_1, items_tup, items_lst, items_scr, forD, compD, compS, comp2D, wipeE, D.isIn, List.any_cons, List.any_nil, String.reduceEq, D.plain, D.plains, D.dep, D.deps, Nat.max_self, Nat.min_self, Nat.zero_le, Nat.zero_min, Nat.min_zero, sizeLine_eq, forall_eq, exists_const, forall_const, kind_non, kind_bl, kind_int, kind_str, kind_lst, kind_tup, kind_dk, Kd.isa, reduceCtorEq, decide_false, decide_true, Bool.or_false, Bool.false_or, Bool.or_true, Bool.true_or, Bool.or_self, Bool.and_false, Bool.false_and, Bool.true_and, Bool.and_true, Bool.and_self, and_self, false_or, or_false, false_and, and_false, reduceIte, Bool.false_eq_true, Bool.not_eq_true, Bool.not_true, Bool.not_false, hde, hw]); repeat (first | (refine seq_in ?_; simp only [seqS_M, startE_cons, startE_nil, List.length_cons, List.length_nil, List.length_replicate, List.length_set, List.replicate_succ, List.replicate_zero, List.getElem?_cons_zero, List.getElem?_cons_succ, List.set_cons_zero, List.set_cons_succ, Option.some.injEq, OT.fz.injEq, OT.ow.injEq, D.int.injEq, D.str.injEq, D.bl.injEq, D.tup.injEq, D.lst.injEq, List.cons.injEq, exists_eq_left', exists_eq_left, exists_eq_right, and_true, true_and, OT.toD_fz, toD_map_fz, hIx_tup, hIx_lst, hIx_scr, hIx_mob, hIx_str, hIxT_fz, hIxT_ow, hAdd_int, hAdd_str, hAdd_tup, hAdd_lst, hMul_int, hMul_lst, hSl_tup, hSl_lst, hSl_str, hLen_lst, hLen_tup, hLen_scr, hLen_str, hLen_mob, hInt_int, hInt_bl, hAbs_int, hSeq_lst, hSeq_tup, hIn_lst, hIn_tup, hEq_eq, hI0_int, hI_int, ng_f, ng_t, atI_0, atI_1, atI_2, ofString_inj, eqv_str, eqv_txt, eqv_int, eqv_bl, eqv_tup, eqv_lst, eqOk_str, eqOk_int, eqOk_bl, eqOk_txt, decide_eq_true_eq, Nat.zero_lt_succ, exists_and_left, List.take_succ_cons, List.take_zero, List.drop_succ_cons, List.drop_zero, List.cons_append, List.nil_append, and_assoc, atI_map, Option.map_some, Nat.reduceAdd, Nat.reduceLT, Nat.reduceLeDiff, OT.toD_ow, List.map_cons, List.map_nil, D.mob.injEq, Mo.lst.injEq, Mem.put_same, Mem.put_put, ixN_30, ixN_32, ixN_10, exists_prop, fz_app, fz_inj, fz_snoc, OT.map_fz, List.length_map, List.length_append, List.append_nil, Nat.zero_add, cutL_1, items_tup, items_lst, items_scr, forD, compD, compS, comp2D, wipeE, D.isIn, List.any_cons, List.any_nil, String.reduceEq, D.plain, D.plains, D.dep, D.deps, Nat.max_self, Nat.min_self, Nat.zero_le, Nat.zero_min, Nat.min_zero, sizeLine_eq, forall_eq, exists_const, forall_const, kind_non, kind_bl, kind_int, kind_str, kind_lst, kind_tup, kind_dk, Kd.isa, reduceCtorEq, decide_false, decide_true, Bool.or_false, Bool.false_or, Bool.or_true, Bool.true_or, Bool.or_self, Bool.and_false, Bool.false_and, Bool.true_and, Bool.and_true, Bool.and_self, and_self, false_or, or_false, false_and, and_false, reduceIte, Bool.false_eq_true, Bool.not_eq_true, Bool.not_true, Bool.not_false, hde, hw]) | refine And.intro (by first | assumption | omega | decide) ?_ | omega | assumption)
            refine body_at hpq hBB (by omega) hr0 hm0 hr1 hm1 hr2 hm2 (by omega) fun b M2 g1 g2 g3 => ?_
            (try simp only [seqS_M, startE_cons, startE_nil, List.length_cons, List.length_nil, List.length_replicate, List.length_set, List.replicate_succ, List.replicate_zero, List.getElem?_cons_zero, List.getElem?_cons_succ, List.set_cons_zero, List.set_cons_succ, Option.some.injEq, OT.fz.injEq, OT.ow.injEq, D.int.injEq, D.str.injEq, D.bl.injEq, D.tup.injEq, D.lst.injEq, List.cons.injEq, exists_eq_left', exists_eq_left, exists_eq_right, and_true, true_and, OT.toD_fz, toD_map_fz, hIx_tup, hIx_lst, hIx_scr, hIx_mob, hIx_str, hIxT_fz, hIxT_ow, hAdd_int, hAdd_str, hAdd_tup, hAdd_lst, hMul_int, hMul_lst, hSl_tup, hSl_lst, hSl_str, hLen_lst, hLen_tup, hLen_scr, hLen_str, hLen_mob, hInt_int, hInt_bl, hAbs_int, hSeq_lst, hSeq_tup, hIn_lst, hIn_tup, hEq_eq, hI0_int, hI_int, ng_f, ng_t, atI_0, atI_1, atI_2, ofString_inj, eqv_str, eqv_txt, eqv_int, eqv_bl, eqv_tup, eqv_lst, eqOk_str, eqOk_int, eqOk_bl, eqOk_txt, decide_eq_true_eq, Nat.zero_lt_succ, exists_and_left, List.take_succ_cons, List.take_zero, List.drop_succ_cons, List.drop_zero, List.cons_append, List.nil_append, and_assoc, atI_map, Option.map_some, Nat.reduceAdd, Nat.reduceLT, Nat.reduceLeDiff, OT.toD_ow, List.map_cons, List.map_nil, D.mob.injEq, Mo.lst.injEq, Mem.put_same, Mem.put_put, ixN_30, ixN_32, ixN_10, exists_prop, fz_app, fz_inj, fz_snoc, OT.map_fz, List.length_map, List.length_append, List.append_nil, Nat.zero_add, cutL_1, items_tup, items_lst, items_scr, forD, compD, compS, comp2D, wipeE, D.isIn, List.any_cons, List.any_nil, String.reduceEq, D.plain, D.plains, D.dep, D.deps, Nat.max_self, Nat.min_self, Nat.zero_le, Nat.zero_min, Nat.min_zero, sizeLine_eq, forall_eq, exists_const, forall_const, kind_non, kind_bl, kind_int, kind_str, kind_lst, kind_tup, kind_dk, Kd.isa, reduceCtorEq, decide_false, decide_true, Bool.or_false, Bool.false_or, Bool.or_true, Bool.true_or, Bool.or_self, Bool.and_false, Bool.false_and, Bool.true_and, Bool.and_true, Bool.and_self, and_self, false_or, or_false, false_and, and_false, reduceIte, Bool.false_eq_true, Bool.not_eq_true, Bool.not_true, Bool.not_false, hde]); repeat (first | (refine seq_in ?_; simp only [seqS_M, startE_cons, startE_nil, List.length_cons, List.length_nil, List.length_replicate, List.length_set, List.replicate_succ, List.replicate_zero, List.getElem?_cons_zero, List.getElem?_cons_succ, List.set_cons_zero, List.set_cons_succ, Option.some.injEq, OT.fz.injEq, OT.ow.injEq, D.int.injEq, D.str.injEq, D.bl.injEq, D.tup.injEq, D.lst.injEq, List.cons.injEq, exists_eq_left', exists_eq_left, exists_eq_right, and_true, true_and, OT.toD_fz, toD_map_fz, hIx_tup, hIx_lst, hIx_scr, hIx_mob, hIx_str, hIxT_fz, hIxT_ow, hAdd_int, hAdd_str, hAdd_tup, hAdd_lst, hMul_int, hMul_lst, hSl_tup, hSl_lst, hSl_str, hLen_lst, hLen_tup, hLen_scr, hLen_str, hLen_mob, hInt_int, hInt_bl, hAbs_int, hSeq_lst, hSeq_tup, hIn_lst, hIn_tup, hEq_eq, hI0_int, hI_int, ng_f, ng_t, atI_0, atI_1, atI_2, ofString_inj, eqv_str, eqv_txt, eqv_int, eqv_bl, eqv_tup, eqv_lst, eqOk_str, eqOk_int, eqOk_bl, eqOk_txt, decide_eq_true_eq, Nat.zero_lt_succ, exists_and_left, List.take_succ_cons, List.take_zero, List.drop_succ_cons, List.drop_zero, List.cons_append, List.nil_append, and_assoc, atI_map, Option.map_some, Nat.reduceAdd, Nat.reduceLT, Nat.reduceLeDiff, OT.toD_ow, List.map_cons, List.map_nil, D.mob.injEq, Mo.lst.injEq, Mem.put_same, Mem.put_put, ixN_30, ixN_32, ixN_10, exists_prop, fz_app, fz_inj, fz_snoc, OT.map_fz, List.length_map, List.length_append, List.append_nil, Nat.zero_add, cutL_1, items_tup, items_lst, items_scr, forD, compD, compS, comp2D, wipeE, D.isIn, List.any_cons, List.any_nil, String.reduceEq, D.plain, D.plains, D.dep, D.deps, Nat.max_self, Nat.min_self, Nat.zero_le, Nat.zero_min, Nat.min_zero, sizeLine_eq, forall_eq, exists_const, forall_const, kind_non, kind_bl, kind_int, kind_str, kind_lst, kind_tup, kind_dk, Kd.isa, reduceCtorEq, decide_false, decide_true, Bool.or_false, Bool.false_or, Bool.or_true, Bool.true_or, Bool.or_self, Bool.and_false, Bool.false_and, Bool.true_and, Bool.and_true, Bool.and_self, and_self, false_or, or_false, false_and, and_false, reduceIte, Bool.false_eq_true, Bool.not_eq_true, Bool.not_true, Bool.not_false, hde]) | refine And.intro (by first | assumption | omega | decide) ?_ | omega | assumption)
            refine body_at hpq g3 (by omega) hr0 hm0 hr1 hm1 hr2 hm2 (by omega) fun c M3 g4 g5 g6 => ?_
            (try simp only [seqS_M, startE_cons, startE_nil, List.length_cons, List.length_nil, List.length_replicate, List.length_set, List.replicate_succ, List.replicate_zero, List.getElem?_cons_zero, List.getElem?_cons_succ, List.set_cons_zero, List.set_cons_succ, Option.some.injEq, OT.fz.injEq, OT.ow.injEq, D.int.injEq, D.str.injEq, D.bl.injEq, D.tup.injEq, D.lst.injEq, List.cons.injEq, exists_eq_left', exists_eq_left, exists_eq_right, and_true, true_and, OT.toD_fz, toD_map_fz, hIx_tup, hIx_lst, hIx_scr, hIx_mob, hIx_str, hIxT_fz, hIxT_ow, hAdd_int, hAdd_str, hAdd_tup, hAdd_lst, hMul_int, hMul_lst, hSl_tup, hSl_lst, hSl_str, hLen_lst, hLen_tup, hLen_scr, hLen_str, hLen_mob, hInt_int, hInt_bl, hAbs_int, hSeq_lst, hSeq_tup, hIn_lst, hIn_tup, hEq_eq, hI0_int, hI_int, ng_f, ng_t, atI_0, atI_1, atI_2, ofString_inj, eqv_str, eqv_txt, eqv_int, eqv_bl, eqv_tup, eqv_lst, eqOk_str, eqOk_int, eqOk_bl, eqOk_txt, decide_eq_true_eq, Nat.zero_lt_succ, exists_and_left, List.take_succ_cons, List.take_zero, List.drop_succ_cons, List.drop_zero, List.cons_append, List.nil_append, and_assoc, atI_map, Option.map_some, Nat.reduceAdd, Nat.reduceLT, Nat.reduceLeDiff, OT.toD_ow, List.map_cons, List.map_nil, D.mob.injEq, Mo.lst.injEq, Mem.put_same, Mem.put_put, ixN_30, ixN_32, ixN_10, exists_prop, fz_app, fz_inj, fz_snoc, OT.map_fz, List.length_map, List.length_append, List.append_nil, Nat.zero_add, cutL_1, items_tup, items_lst, items_scr, forD, compD, compS, comp2D, wipeE, D.isIn, List.any_cons, List.any_nil, String.reduceEq, D.plain, D.plains, D.dep, D.deps, Nat.max_self, Nat.min_self, Nat.zero_le, Nat.zero_min, Nat.min_zero, sizeLine_eq, forall_eq, exists_const, forall_const, kind_non, kind_bl, kind_int, kind_str, kind_lst, kind_tup, kind_dk, Kd.isa, reduceCtorEq, decide_false, decide_true, Bool.or_false, Bool.false_or, Bool.or_true, Bool.true_or, Bool.or_self, Bool.and_false, Bool.false_and, Bool.true_and, Bool.and_true, Bool.and_self, and_self, false_or, or_false, false_and, and_false, reduceIte, Bool.false_eq_true, Bool.not_eq_true, Bool.not_true, Bool.not_false, spBody]); repeat (first | (refine seq_in ?_; simp only [seqS_M, startE_cons, startE_nil, List.length_cons, List.length_nil, List.length_replicate, List.length_set, List.replicate_succ, List.replicate_zero, List.getElem?_cons_zero, List.getElem?_cons_succ, List.set_cons_zero, List.set_cons_succ, Option.some.injEq, OT.fz.injEq, OT.ow.injEq, D.int.injEq, D.str.injEq, D.bl.injEq, D.tup.injEq, D.lst.injEq, List.cons.injEq, exists_eq_left', exists_eq_left, exists_eq_right, and_true, true_and, OT.toD_fz, toD_map_fz, hIx_tup, hIx_lst, hIx_scr, hIx_mob, hIx_str, hIxT_fz, hIxT_ow, hAdd_int, hAdd_str, hAdd_tup, hAdd_lst, hMul_int, hMul_lst, hSl_tup, hSl_lst, hSl_str, hLen_lst, hLen_tup, hLen_scr, hLen_str, hLen_mob, hInt_int, hInt_bl, hAbs_int, hSeq_lst, hSeq_tup, hIn_lst, hIn_tup, hEq_eq, hI0_int, hI_int, ng_f, ng_t, atI_0, atI_1, atI_2, ofString_inj, eqv_str, eqv_txt, eqv_int, eqv_bl, eqv_tup, eqv_lst, eqOk_str, eqOk_int, eqOk_bl, eqOk_txt, decide_eq_true_eq, Nat.zero_lt_succ, exists_and_left, List.take_succ_cons, List.take_zero, List.drop_succ_cons, List.drop_zero, List.cons_append, List.nil_append, and_assoc, atI_map, Option.map_some, Nat.reduceAdd, Nat.reduceLT, Nat.reduceLeDiff, OT.toD_ow, List.map_cons, List.map_nil, D.mob.injEq, Mo.lst.injEq, Mem.put_same, Mem.put_put, ixN_30, ixN_32, ixN_10, exists_prop, fz_app, fz_inj, fz_snoc, OT.map_fz, List.length_map, List.length_append, List.append_nil, Nat.zero_add, cutL_1, items_tup, items_lst, items_scr, forD, compD, compS, comp2D, wipeE, D.isIn, List.any_cons, List.any_nil, String.reduceEq, D.plain, D.plains, D.dep, D.deps, Nat.max_self, Nat.min_self, Nat.zero_le, Nat.zero_min, Nat.min_zero, sizeLine_eq, forall_eq, exists_const, forall_const, kind_non, kind_bl, kind_int, kind_str, kind_lst, kind_tup, kind_dk, Kd.isa, reduceCtorEq, decide_false, decide_true, Bool.or_false, Bool.false_or, Bool.or_true, Bool.true_or, Bool.or_self, Bool.and_false, Bool.false_and, Bool.true_and, Bool.and_true, Bool.and_self, and_self, false_or, or_false, false_and, and_false, reduceIte, Bool.false_eq_true, Bool.not_eq_true, Bool.not_true, Bool.not_false, spBody]) | refine And.intro (by first | assumption | omega | decide) ?_ | omega | assumption)
            exact ⟨.an b c, rfl, by simp only [Bd.hgt]; omega, ⟨g2, g5⟩, g6.mono (by omega)⟩
          · (try simp only [seqS_M, startE_cons, startE_nil, List.length_cons, List.length_nil, List.length_replicate, List.length_set, List.replicate_succ, List.replicate_zero, List.getElem?_cons_zero, List.getElem?_cons_succ, List.set_cons_zero, List.set_cons_succ, Option.some.injEq, OT.fz.injEq, OT.ow.injEq, D.int.injEq, D.str.injEq, D.bl.injEq, D.tup.injEq, D.lst.injEq, List.cons.injEq, exists_eq_left', exists_eq_left, exists_eq_right, and_true, true_and, OT.toD_fz, toD_map_fz, hIx_tup, hIx_lst, hIx_scr, hIx_mob, hIx_str, hIxT_fz, hIxT_ow, hAdd_int, hAdd_str, hAdd_tup, hAdd_lst, hMul_int, hMul_lst, hSl_tup, hSl_lst, hSl_str, hLen_lst, hLen_tup, hLen_scr, hLen_str, hLen_mob, hInt_int, hInt_bl, hAbs_int, hSeq_lst, hSeq_tup, hIn_lst, hIn_tup, hEq_eq, hI0_int, hI_int, ng_f, ng_t, atI_0, atI_1, atI_2, ofString_inj, eqv_str, eqv_txt, eqv_int, eqv_bl, eqv_tup, eqv_lst, eqOk_str, eqOk_int, eqOk_bl, eqOk_txt, decide_eq_true_eq, Nat.zero_lt_succ, exists_and_left, List.take_succ_cons, List.take_zero, List.drop_succ_cons, List.drop_zero, List.cons_append, List.nil_append, and_assoc, atI_map, Option.map_some, Nat.reduceAdd, Nat.reduceLT, Nat.reduceLeDiff, OT.toD_ow, List.map_cons, List.map_nil, D.mob.injEq, Mo.lst.injEq, Mem.put_same, Mem.put_put, ixN_30, ixN_32, ixN_10, exists_prop, fz_app, fz_inj, fz_snoc, OT.map_fz, List.length_map, List.length_append, List.append_nil, Nat.zero_add, cutL_1, items_tup, items_lst, items_scr, forD, compD, compS, comp2D, wipeE, D.isIn, List.any_cons, List.any_nil, String.reduceEq, D.plain, D.plains, D.dep, D.deps, Nat.max_self, Nat.min_self, Nat.zero_le, Nat.zero_min, Nat.min_zero, sizeLine_eq, forall_eq, exists_const, forall_const, kind_non, kind_bl, kind_int, kind_str, kind_lst, kind_tup, kind_dk, Kd.isa, reduceCtorEq, decide_false, decide_true, Bool.or_false, Bool.false_or, Bool.or_true, Bool.true_or, Bool.or_self, Bool.and_false, Bool.false_and, Bool.true_and, Bool.and_true, Bool.and_self, and_self, false_or, or_false, false_and, and_false, reduceIte, Bool.false_eq_true, Bool.not_eq_true, Bool.not_true, Bool.not_false, hde, hw]); repeat (first | (refine seq_in ?_; simp only [seqS_M, startE_cons, startE_nil, List.length_cons, List.length_nil, List.length_replicate, List.length_set, List.replicate_succ, List.replicate_zero, List.getElem?_cons_zero, List.getElem?_cons_succ, List.set_cons_zero, List.set_cons_succ, Option.some.injEq, OT.fz.injEq, OT.ow.injEq, D.int.injEq, D.str.injEq, D.bl.injEq, D.tup.injEq, D.lst.injEq, List.cons.injEq, exists_eq_left', exists_eq_left, exists_eq_right, and_true, true_and, OT.toD_fz, toD_map_fz, hIx_tup, hIx_lst, hIx_scr, hIx_mob, hIx_str, hIxT_fz, hIxT_ow, hAdd_int, hAdd_str, hAdd_tup, hAdd_lst, hMul_int, hMul_lst, hSl_tup, hSl_lst, hSl_str, hLen_lst, hLen_tup, hLen_scr, hLen_str, hLen_mob, hInt_int, hInt_bl, hAbs_int, hSeq_lst, hSeq_tup, hIn_lst, hIn_tup, hEq_eq, hI0_int, hI_int, ng_f, ng_t, atI_0, atI_1, atI_2, ofString_inj, eqv_str, eqv_txt, eqv_int, eqv_bl, eqv_tup, eqv_lst, eqOk_str, eqOk_int, eqOk_bl, eqOk_txt, decide_eq_true_eq, Nat.zero_lt_succ, exists_and_left, List.take_succ_cons, List.take_zero, List.drop_succ_cons, List.drop_zero, List.cons_append, List.nil_append, and_assoc, atI_map, Option.map_some, Nat.reduceAdd, Nat.reduceLT, Nat.reduceLeDiff, OT.toD_ow, List.map_cons, List.map_nil, D.mob.injEq, Mo.lst.injEq, Mem.put_same, Mem.put_put, ixN_30, ixN_32, ixN_10, exists_prop, fz_app, fz_inj, fz_snoc, OT.map_fz, List.length_map, List.length_append, List.append_nil, Nat.zero_add, cutL_1, items_tup, items_lst, items_scr, forD, compD, compS, comp2D, wipeE, D.isIn, List.any_cons, List.any_nil, String.reduceEq, D.plain, D.plains, D.dep, D.deps, Nat.max_self, Nat.min_self, Nat.zero_le, Nat.zero_min, Nat.min_zero, sizeLine_eq, forall_eq, exists_const, forall_const, kind_non, kind_bl, kind_int, kind_str, kind_lst, kind_tup, kind_dk, Kd.isa, reduceCtorEq, decide_false, decide_true, Bool.or_false, Bool.false_or, Bool.or_true, Bool.true_or, Bool.or_self, Bool.and_false, Bool.false_and, Bool.true_and, Bool.and_true, Bool.and_self, and_self, false_or, or_false, false_and, and_false, reduceIte, Bool.false_eq_true, Bool.not_eq_true, Bool.not_true, Bool.not_false, hde, hw]) | refine And.intro (by first | assumption | omega | decide) ?_ | omega | assumption)
            refine body_at hpq hBB (by omega) hr0 hm0 hr1 hm1 hr2 hm2 (by omega) fun b M2 g1 g2 g3 => ?_
            (try simp only [seqS_M, startE_cons, startE_nil, List.length_cons, List.length_nil, List.length_replicate, List.length_set, List.replicate_succ, List.replicate_zero, List.getElem?_cons_zero, List.getElem?_cons_succ, List.set_cons_zero, List.set_cons_succ, Option.some.injEq, OT.fz.injEq, OT.ow.injEq, D.int.injEq, D.str.injEq, D.bl.injEq, D.tup.injEq, D.lst.injEq, List.cons.injEq, exists_eq_left', exists_eq_left, exists_eq_right, and_true, true_and, OT.toD_fz, toD_map_fz, hIx_tup, hIx_lst, hIx_scr, hIx_mob, hIx_str, hIxT_fz, hIxT_ow, hAdd_int, hAdd_str, hAdd_tup, hAdd_lst, hMul_int, hMul_lst, hSl_tup, hSl_lst, hSl_str, hLen_lst, hLen_tup, hLen_scr, hLen_str, hLen_mob, hInt_int, hInt_bl, hAbs_int, hSeq_lst, hSeq_tup, hIn_lst, hIn_tup, hEq_eq, hI0_int, hI_int, ng_f, ng_t, atI_0, atI_1, atI_2, ofString_inj, eqv_str, eqv_txt, eqv_int, eqv_bl, eqv_tup, eqv_lst, eqOk_str, eqOk_int, eqOk_bl, eqOk_txt, decide_eq_true_eq, Nat.zero_lt_succ, exists_and_left, List.take_succ_cons, List.take_zero, List.drop_succ_cons, List.drop_zero, List.cons_append, List.nil_append, and_assoc, atI_map, Option.map_some, Nat.reduceAdd, Nat.reduceLT, Nat.reduceLeDiff, OT.toD_ow, List.map_cons, List.map_nil, D.mob.injEq, Mo.lst.injEq, Mem.put_same, Mem.put_put, ixN_30, ixN_32, ixN_10, exists_prop, fz_app, fz_inj, fz_snoc, OT.map_fz, List.length_map, List.length_append, List.append_nil, Nat.zero_add, cutL_1, items_tup, items_lst, items_scr, forD, compD, compS, comp2D, wipeE, D.isIn, List.any_cons, List.any_nil, String.reduceEq, D.plain, D.plains, D.dep, D.deps, Nat.max_self, Nat.min_self, Nat.zero_le, Nat.zero_min, Nat.min_zero, sizeLine_eq, forall_eq, exists_const, forall_const, kind_non, kind_bl, kind_int, kind_str, kind_lst, kind_tup, kind_dk, Kd.isa, reduceCtorEq, decide_false, decide_true, Bool.or_false, Bool.false_or, Bool.or_true, Bool.true_or, Bool.or_self, Bool.and_false, Bool.false_and, Bool.true_and, Bool.and_true, Bool.and_self, and_self, false_or, or_false, false_and, and_false, reduceIte, Bool.false_eq_true, Bool.not_eq_true, Bool.not_true, Bool.not_false, hde]); repeat (first | (refine seq_in ?_; simp only [seqS_M, startE_cons, startE_nil, List.length_cons, List.length_nil, List.length_replicate, List.length_set, List.replicate_succ, List.replicate_zero, List.getElem?_cons_zero, List.getElem?_cons_succ, List.set_cons_zero, List.set_cons_succ, Option.some.injEq, OT.fz.injEq, OT.ow.injEq, D.int.injEq, D.str.injEq, D.bl.injEq, D.tup.injEq, D.lst.injEq, List.cons.injEq, exists_eq_left', exists_eq_left, exists_eq_right, and_true, true_and, OT.toD_fz, toD_map_fz, hIx_tup, hIx_lst, hIx_scr, hIx_mob, hIx_str, hIxT_fz, hIxT_ow, hAdd_int, hAdd_str, hAdd_tup, hAdd_lst, hMul_int, hMul_lst, hSl_tup, hSl_lst, hSl_str, hLen_lst, hLen_tup, hLen_scr, hLen_str, hLen_mob, hInt_int, hInt_bl, hAbs_int, hSeq_lst, hSeq_tup, hIn_lst, hIn_tup, hEq_eq, hI0_int, hI_int, ng_f, ng_t, atI_0, atI_1, atI_2, ofString_inj, eqv_str, eqv_txt, eqv_int, eqv_bl, eqv_tup, eqv_lst, eqOk_str, eqOk_int, eqOk_bl, eqOk_txt, decide_eq_true_eq, Nat.zero_lt_succ, exists_and_left, List.take_succ_cons, List.take_zero, List.drop_succ_cons, List.drop_zero, List.cons_append, List.nil_append, and_assoc, atI_map, Option.map_some, Nat.reduceAdd, Nat.reduceLT, Nat.reduceLeDiff, OT.toD_ow, List.map_cons, List.map_nil, D.mob.injEq, Mo.lst.injEq, Mem.put_same, Mem.put_put, ixN_30, ixN_32, ixN_10, exists_prop, fz_app, fz_inj, fz_snoc, OT.map_fz, List.length_map, List.length_append, List.append_nil, Nat.zero_add, cutL_1, items_tup, items_lst, items_scr, forD, compD, compS, comp2D, wipeE, D.isIn, List.any_cons, List.any_nil, String.reduceEq, D.plain, D.plains, D.dep, D.deps, Nat.max_self, Nat.min_self, Nat.zero_le, Nat.zero_min, Nat.min_zero, sizeLine_eq, forall_eq, exists_const, forall_const, kind_non, kind_bl, kind_int, kind_str, kind_lst, kind_tup, kind_dk, Kd.isa, reduceCtorEq, decide_false, decide_true, Bool.or_false, Bool.false_or, Bool.or_true, Bool.true_or, Bool.or_self, Bool.and_false, Bool.false_and, Bool.true_and, Bool.and_true, Bool.and_self, and_self, false_or, or_false, false_and, and_false, reduceIte, Bool.false_eq_true, Bool.not_eq_true, Bool.not_true, Bool.not_false, hde]) | refine And.intro (by first | assumption | omega | decide) ?_ | omega | assumption)
            refine body_at hpq g3 (by omega) hr0 hm0 hr1 hm1 hr2 hm2 (by omega) fun c M3 g4 g5 g6 => ?_
            (try simp only [seqS_M, startE_cons, startE_nil, List.length_cons, List.length_nil, List.length_replicate, List.length_set, List.replicate_succ, List.replicate_zero, List.getElem?_cons_zero, List.getElem?_cons_succ, List.set_cons_zero, List.set_cons_succ, Option.some.injEq, OT.fz.injEq, OT.ow.injEq, D.int.injEq, D.str.injEq, D.bl.injEq, D.tup.injEq, D.lst.injEq, List.cons.injEq, exists_eq_left', exists_eq_left, exists_eq_right, and_true, true_and, OT.toD_fz, toD_map_fz, hIx_tup, hIx_lst, hIx_scr, hIx_mob, hIx_str, hIxT_fz, hIxT_ow, hAdd_int, hAdd_str, hAdd_tup, hAdd_lst, hMul_int, hMul_lst, hSl_tup, hSl_lst, hSl_str, hLen_lst, hLen_tup, hLen_scr, hLen_str, hLen_mob, hInt_int, hInt_bl, hAbs_int, hSeq_lst, hSeq_tup, hIn_lst, hIn_tup, hEq_eq, hI0_int, hI_int, ng_f, ng_t, atI_0, atI_1, atI_2, ofString_inj, eqv_str, eqv_txt, eqv_int, eqv_bl, eqv_tup, eqv_lst, eqOk_str, eqOk_int, eqOk_bl, eqOk_txt, decide_eq_true_eq, Nat.zero_lt_succ, exists_and_left, List.take_succ_cons, List.take_zero, List.drop_succ_cons, List.drop_zero, List.cons_append, List.nil_append, and_assoc, atI_map, Option.map_some, Nat.reduceAdd, Nat.reduceLT, Nat.reduceLeDiff, OT.toD_ow, List.map_cons, List.map_nil, D.mob.injEq, Mo.lst.injEq, Mem.put_same, Mem.put_put, ixN_30, ixN_32, ixN_10, exists_prop, fz_app, fz_inj, fz_snoc, OT.map_fz, List.length_map, List.length_append, List.append_nil, Nat.zero_add, cutL_1, items_tup, items_lst, items_scr, forD, compD, compS, comp2D, wipeE, D.isIn, List.any_cons, List.any_nil, String.reduceEq, D.plain, D.plains, D.dep, D.deps, Nat.max_self, Nat.min_self, Nat.zero_le, Nat.zero_min, Nat.min_zero, sizeLine_eq, forall_eq, exists_const, forall_const, kind_non, kind_bl, kind_int, kind_str, kind_lst, kind_tup, kind_dk, Kd.isa, reduceCtorEq, decide_false, decide_true, Bool.or_false, Bool.false_or, Bool.or_true, Bool.true_or, Bool.or_self, Bool.and_false, Bool.false_and, Bool.true_and, Bool.and_true, Bool.and_self, and_self, false_or, or_false, false_and, and_false, reduceIte, Bool.false_eq_true, Bool.not_eq_true, Bool.not_true, Bool.not_false, spBody]); repeat (first | (refine seq_in ?_; simp only [seqS_M, startE_cons, startE_nil, List.length_cons, List.length_nil, List.length_replicate, List.length_set, List.replicate_succ, List.replicate_zero, List.getElem?_cons_zero, List.getElem?_cons_succ, List.set_cons_zero, List.set_cons_succ, Option.some.injEq, OT.fz.injEq, OT.ow.injEq, D.int.injEq, D.str.injEq, D.bl.injEq, D.tup.injEq, D.lst.injEq, List.cons.injEq, exists_eq_left', exists_eq_left, exists_eq_right, and_true, true_and, OT.toD_fz, toD_map_fz, hIx_tup, hIx_lst, hIx_scr, hIx_mob, hIx_str, hIxT_fz, hIxT_ow, hAdd_int, hAdd_str, hAdd_tup, hAdd_lst, hMul_int, hMul_lst, hSl_tup, hSl_lst, hSl_str, hLen_lst, hLen_tup, hLen_scr, hLen_str, hLen_mob, hInt_int, hInt_bl, hAbs_int, hSeq_lst, hSeq_tup, hIn_lst, hIn_tup, hEq_eq, hI0_int, hI_int, ng_f, ng_t, atI_0, atI_1, atI_2, ofString_inj, eqv_str, eqv_txt, eqv_int, eqv_bl, eqv_tup, eqv_lst, eqOk_str, eqOk_int, eqOk_bl, eqOk_txt, decide_eq_true_eq, Nat.zero_lt_succ, exists_and_left, List.take_succ_cons, List.take_zero, List.drop_succ_cons, List.drop_zero, List.cons_append, List.nil_append, and_assoc, atI_map, Option.map_some, Nat.reduceAdd, Nat.reduceLT, Nat.reduceLeDiff, OT.toD_ow, List.map_cons, List.map_nil, D.mob.injEq, Mo.lst.injEq, Mem.put_same, Mem.put_put, ixN_30, ixN_32, ixN_10, exists_prop, fz_app, fz_inj, fz_snoc, OT.map_fz, List.length_map, List.length_append, List.append_nil, Nat.zero_add, cutL_1, items_tup, items_lst, items_scr, forD, compD, compS, comp2D, wipeE, D.isIn, List.any_cons, List.any_nil, String.reduceEq, D.plain, D.plains, D.dep, D.deps, Nat.max_self, Nat.min_self, Nat.zero_le, Nat.zero_min, Nat.min_zero, sizeLine_eq, forall_eq, exists_const, forall_const, kind_non, kind_bl, kind_int, kind_str, kind_lst, kind_tup, kind_dk, Kd.isa, reduceCtorEq, decide_false, decide_true, Bool.or_false, Bool.false_or, Bool.or_true, Bool.true_or, Bool.or_self, Bool.and_false, Bool.false_and, Bool.true_and, Bool.and_true, Bool.and_self, and_self, false_or, or_false, false_and, and_false, reduceIte, Bool.false_eq_true, Bool.not_eq_true, Bool.not_true, Bool.not_false, spBody]) | refine And.intro (by first | assumption | omega | decide) ?_ | omega | assumption)
            exact ⟨.or b c, rfl, by simp only [Bd.hgt]; omega, ⟨g2, g5⟩, g6.mono (by omega)⟩
        · have hBC : BB p q (n + 1) M (M1.put q (.lst [.int (k1 - 1)])) := hBB.put
          (try simp only [seqS_M, startE_cons, startE_nil, List.length_cons, List.length_nil, List.length_replicate, List.length_set, List.replicate_succ, List.replicate_zero, List.getElem?_cons_zero, List.getElem?_cons_succ, List.set_cons_zero, List.set_cons_succ, Option.some.injEq, OT.fz.injEq, OT.ow.injEq, D.int.injEq, D.str.injEq, D.bl.injEq, D.tup.injEq, D.lst.injEq, List.cons.injEq, exists_eq_left', exists_eq_left, exists_eq_right, and_true, true_and, OT.toD_fz, toD_map_fz, hIx_tup, hIx_lst, hIx_scr, hIx_mob, hIx_str, hIxT_fz, hIxT_ow, hAdd_int, hAdd_str, hAdd_tup, hAdd_lst, hMul_int, hMul_lst, hSl_tup, hSl_lst, hSl_str, hLen_lst, hLen_tup, hLen_scr, hLen_str, hLen_mob, hInt_int, hInt_bl, hAbs_int, hSeq_lst, hSeq_tup, hIn_lst, hIn_tup, hEq_eq, hI0_int, hI_int, ng_f, ng_t, atI_0, atI_1, atI_2, ofString_inj, eqv_str, eqv_txt, eqv_int, eqv_bl, eqv_tup, eqv_lst, eqOk_str, eqOk_int, eqOk_bl, eqOk_txt, decide_eq_true_eq, Nat.zero_lt_succ, exists_and_left, List.take_succ_cons, List.take_zero, List.drop_succ_cons, List.drop_zero, List.cons_append, List.nil_append, and_assoc, atI_map, Option.map_some, Nat.reduceAdd, Nat.reduceLT, Nat.reduceLeDiff, OT.toD_ow, List.map_cons, List.map_nil, D.mob.injEq, Mo.lst.injEq, Mem.put_same, Mem.put_put, ixN_30, ixN_32, ixN_10, exists_prop, fz_app, fz_inj, fz_snoc, OT.map_fz, List.length_map, List.length_append, List.append_nil, Nat.zero_add, cutL_1, items_tup, items_lst, items_scr, forD, compD, compS, comp2D, wipeE, D.isIn, List.any_cons, List.any_nil, String.reduceEq, D.plain, D.plains, D.dep, D.deps, Nat.max_self, Nat.min_self, Nat.zero_le, Nat.zero_min, Nat.min_zero, sizeLine_eq, forall_eq, exists_const, forall_const, kind_non, kind_bl, kind_int, kind_str, kind_lst, kind_tup, kind_dk, Kd.isa, reduceCtorEq, decide_false, decide_true, Bool.or_false, Bool.false_or, Bool.or_true, Bool.true_or, Bool.or_self, Bool.and_false, Bool.false_and, Bool.true_and, Bool.and_true, Bool.and_self, and_self, false_or, or_false, false_and, and_false, reduceIte, Bool.false_eq_true, Bool.not_eq_true, Bool.not_true, Bool.not_false, hde, hk2]); repeat (first | (refine seq_in ?_; simp only [seqS_M, startE_cons, startE_nil, List.length_cons, List.length_nil, List.length_replicate, List.length_set, List.replicate_succ, List.replicate_zero, List.getElem?_cons_zero, List.getElem?_cons_succ, List.set_cons_zero, List.set_cons_succ, Option.some.injEq, OT.fz.injEq, OT.ow.injEq, D.int.injEq, D.str.injEq, D.bl.injEq, D.tup.injEq, D.lst.injEq, List.cons.injEq, exists_eq_left', exists_eq_left, exists_eq_right, and_true, true_and, OT.toD_fz, toD_map_fz, hIx_tup, hIx_lst, hIx_scr, hIx_mob, hIx_str, hIxT_fz, hIxT_ow, hAdd_int, hAdd_str, hAdd_tup, hAdd_lst, hMul_int, hMul_lst, hSl_tup, hSl_lst, hSl_str, hLen_lst, hLen_tup, hLen_scr, hLen_str, hLen_mob, hInt_int, hInt_bl, hAbs_int, hSeq_lst, hSeq_tup, hIn_lst, hIn_tup, hEq_eq, hI0_int, hI_int, ng_f, ng_t, atI_0, atI_1, atI_2, ofString_inj, eqv_str, eqv_txt, eqv_int, eqv_bl, eqv_tup, eqv_lst, eqOk_str, eqOk_int, eqOk_bl, eqOk_txt, decide_eq_true_eq, Nat.zero_lt_succ, exists_and_left, List.take_succ_cons, List.take_zero, List.drop_succ_cons, List.drop_zero, List.cons_append, List.nil_append, and_assoc, atI_map, Option.map_some, Nat.reduceAdd, Nat.reduceLT, Nat.reduceLeDiff, OT.toD_ow, List.map_cons, List.map_nil, D.mob.injEq, Mo.lst.injEq, Mem.put_same, Mem.put_put, ixN_30, ixN_32, ixN_10, exists_prop, fz_app, fz_inj, fz_snoc, OT.map_fz, List.length_map, List.length_append, List.append_nil, Nat.zero_add, cutL_1, items_tup, items_lst, items_scr, forD, compD, compS, comp2D, wipeE, D.isIn, List.any_cons, List.any_nil, String.reduceEq, D.plain, D.plains, D.dep, D.deps, Nat.max_self, Nat.min_self, Nat.zero_le, Nat.zero_min, Nat.min_zero, sizeLine_eq, forall_eq, exists_const, forall_const, kind_non, kind_bl, kind_int, kind_str, kind_lst, kind_tup, kind_dk, Kd.isa, reduceCtorEq, decide_false, decide_true, Bool.or_false, Bool.false_or, Bool.or_true, Bool.true_or, Bool.or_self, Bool.and_false, Bool.false_and, Bool.true_and, Bool.and_true, Bool.and_self, and_self, false_or, or_false, false_and, and_false, reduceIte, Bool.false_eq_true, Bool.not_eq_true, Bool.not_true, Bool.not_false, hde, hk2]) | refine And.intro (by first | assumption | omega | decide) ?_ | omega | assumption)
          split
          · (try simp only [seqS_M, startE_cons, startE_nil, List.length_cons, List.length_nil, List.length_replicate, List.length_set, List.replicate_succ, List.replicate_zero, List.getElem?_cons_zero, List.getElem?_cons_succ, List.set_cons_zero, List.set_cons_succ, Option.some.injEq, OT.fz.injEq, OT.ow.injEq, D.int.injEq, D.str.injEq, D.bl.injEq, D.tup.injEq, D.lst.injEq, List.cons.injEq, exists_eq_left', exists_eq_left, exists_eq_right, and_true, true_and, OT.toD_fz, toD_map_fz, hIx_tup, hIx_lst, hIx_scr, hIx_mob, hIx_str, hIxT_fz, hIxT_ow, hAdd_int, hAdd_str, hAdd_tup, hAdd_lst, hMul_int, hMul_lst, hSl_tup, hSl_lst, hSl_str, hLen_lst, hLen_tup, hLen_scr, hLen_str, hLen_mob, hInt_int, hInt_bl, hAbs_int, hSeq_lst, hSeq_tup, hIn_lst, hIn_tup, hEq_eq, hI0_int, hI_int, ng_f, ng_t, atI_0, atI_1, atI_2, ofString_inj, eqv_str, eqv_txt, eqv_int, eqv_bl, eqv_tup, eqv_lst, eqOk_str, eqOk_int, eqOk_bl, eqOk_txt, decide_eq_true_eq, Nat.zero_lt_succ, exists_and_left, List.take_succ_cons, List.take_zero, List.drop_succ_cons, List.drop_zero, List.cons_append, List.nil_append, and_assoc, atI_map, Option.map_some, Nat.reduceAdd, Nat.reduceLT, Nat.reduceLeDiff, OT.toD_ow, List.map_cons, List.map_nil, D.mob.injEq, Mo.lst.injEq, Mem.put_same, Mem.put_put, ixN_30, ixN_32, ixN_10, exists_prop, fz_app, fz_inj, fz_snoc, OT.map_fz, List.length_map, List.length_append, List.append_nil, Nat.zero_add, cutL_1, items_tup, items_lst, items_scr, forD, compD, compS, comp2D, wipeE, D.isIn, List.any_cons, List.any_nil, String.reduceEq, D.plain, D.plains, D.dep, D.deps, Nat.max_self, Nat.min_self, Nat.zero_le, Nat.zero_min, Nat.min_zero, sizeLine_eq, forall_eq, exists_const, forall_const, kind_non, kind_bl, kind_int, kind_str, kind_lst, kind_tup, kind_dk, Kd.isa, reduceCtorEq, decide_false, decide_true, Bool.or_false, Bool.false_or, Bool.or_true, Bool.true_or, Bool.or_self, Bool.and_false, Bool.false_and, Bool.true_and, Bool.and_true, Bool.and_self, and_self, false_or, or_false, false_and, and_false, reduceIte, Bool.false_eq_true, Bool.not_eq_true, Bool.not_true, Bool.not_false, hde, hk2]); repeat (first | (refine seq_in ?_; simp only [seqS_M, startE_cons, startE_nil, List.length_cons, List.length_nil, List.length_replicate, List.length_set, List.replicate_succ, List.replicate_zero, List.getElem?_cons_zero, List.getElem?_cons_succ, List.set_cons_zero, List.set_cons_succ, Option.some.injEq, OT.fz.injEq, OT.ow.injEq, D.int.injEq, D.str.injEq, D.bl.injEq, D.tup.injEq, D.lst.injEq, List.cons.injEq, exists_eq_left', exists_eq_left, exists_eq_right, and_true, true_and, OT.toD_fz, toD_map_fz, hIx_tup, hIx_lst, hIx_scr, hIx_mob, hIx_str, hIxT_fz, hIxT_ow, hAdd_int, hAdd_str, hAdd_tup, hAdd_lst, hMul_int, hMul_lst, hSl_tup, hSl_lst, hSl_str, hLen_lst, hLen_tup, hLen_scr, hLen_str, hLen_mob, hInt_int, hInt_bl, hAbs_int, hSeq_lst, hSeq_tup, hIn_lst, hIn_tup, hEq_eq, hI0_int, hI_int, ng_f, ng_t, atI_0, atI_1, atI_2, ofString_inj, eqv_str, eqv_txt, eqv_int, eqv_bl, eqv_tup, eqv_lst, eqOk_str, eqOk_int, eqOk_bl, eqOk_txt, decide_eq_true_eq, Nat.zero_lt_succ, exists_and_left, List.take_succ_cons, List.take_zero, List.drop_succ_cons, List.drop_zero, List.cons_append, List.nil_append, and_assoc, atI_map, Option.map_some, Nat.reduceAdd, Nat.reduceLT, Nat.reduceLeDiff, OT.toD_ow, List.map_cons, List.map_nil, D.mob.injEq, Mo.lst.injEq, Mem.put_same, Mem.put_put, ixN_30, ixN_32, ixN_10, exists_prop, fz_app, fz_inj, fz_snoc, OT.map_fz, List.length_map, List.length_append, List.append_nil, Nat.zero_add, cutL_1, items_tup, items_lst, items_scr, forD, compD, compS, comp2D, wipeE, D.isIn, List.any_cons, List.any_nil, String.reduceEq, D.plain, D.plains, D.dep, D.deps, Nat.max_self, Nat.min_self, Nat.zero_le, Nat.zero_min, Nat.min_zero, sizeLine_eq, forall_eq, exists_const, forall_const, kind_non, kind_bl, kind_int, kind_str, kind_lst, kind_tup, kind_dk, Kd.isa, reduceCtorEq, decide_false, decide_true, Bool.or_false, Bool.false_or, Bool.or_true, Bool.true_or, Bool.or_self, Bool.and_false, Bool.false_and, Bool.true_and, Bool.and_true, Bool.and_self, and_self, false_or, or_false, false_and, and_false, reduceIte, Bool.false_eq_true, Bool.not_eq_true, Bool.not_true, Bool.not_false, hde, hk2]) | refine And.intro (by first | assumption | omega | decide) ?_ | omega | assumption)
            refine of_at (.inl rfl) (by simp) (by simp) (by omega : n + 1 ≤ _) (hBC.box hpq).1 fun dw M2 hdw hB2 => ?_
            obtain ⟨k2, hk3⟩ := (hBC.box hpq).2
            have hBD : BB p q (n + 2) M M2 := (hBC.trans hpq (hB2.bb hpq hk3)).mono (by omega)
            have hdw' : dw = .str "ahead" ∨ dw = .str "ever" := by simpa using hdw
            rcases hdw' with rfl | rfl
            · (try simp only [seqS_M, startE_cons, startE_nil, List.length_cons, List.length_nil, List.length_replicate, List.length_set, List.replicate_succ, List.replicate_zero, List.getElem?_cons_zero, List.getElem?_cons_succ, List.set_cons_zero, List.set_cons_succ, Option.some.injEq, OT.fz.injEq, OT.ow.injEq, D.int.injEq, D.str.injEq, D.bl.injEq, D.tup.injEq, D.lst.injEq, List.cons.injEq, exists_eq_left', exists_eq_left, exists_eq_right, and_true, true_and, OT.toD_fz, toD_map_fz, hIx_tup, hIx_lst, hIx_scr, hIx_mob, hIx_str, hIxT_fz, hIxT_ow, hAdd_int, hAdd_str, hAdd_tup, hAdd_lst, hMul_int, hMul_lst, hSl_tup, hSl_lst, hSl_str, hLen_lst, hLen_tup, hLen_scr, hLen_str, hLen_mob, hInt_int, hInt_bl, hAbs_int, hSeq_lst, hSeq_tup, hIn_lst, hIn_tup, hEq_eq, hI0_int, hI_int, ng_f, ng_t, atI_0, atI_1, atI_2, ofString_inj, eqv_str, eqv_txt, eqv_int, eqv_bl, eqv_tup, eqv_lst, eqOk_str, eqOk_int, eqOk_bl, eqOk_txt, decide_eq_true_eq, Nat.zero_lt_succ, exists_and_left, List.take_succ_cons, List.take_zero, List.drop_succ_cons, List.drop_zero, List.cons_append, List.nil_append, and_assoc, atI_map, Option.map_some, Nat.reduceAdd, Nat.reduceLT, Nat.reduceLeDiff, OT.toD_ow, List.map_cons, List.map_nil, D.mob.injEq, Mo.lst.injEq, Mem.put_same, Mem.put_put, ixN_30, ixN_32, ixN_10, exists_prop, fz_app, fz_inj, fz_snoc, OT.map_fz, List.length_map, List.length_append, List.append_nil, Nat.zero_add, cutL_1, items_tup, items_lst, items_scr, forD, compD, compS, comp2D, wipeE, D.isIn, List.any_cons, List.any_nil, String.reduceEq, D.plain, D.plains, D.dep, D.deps, Nat.max_self, Nat.min_self, Nat.zero_le, Nat.zero_min, Nat.min_zero, sizeLine_eq, forall_eq, exists_const, forall_const, kind_non, kind_bl, kind_int, kind_str, kind_lst, kind_tup, kind_dk, Kd.isa, reduceCtorEq, decide_false, decide_true, Bool.or_false, Bool.false_or, Bool.or_true, Bool.true_or, Bool.or_self, Bool.and_false, Bool.false_and, Bool.true_and, Bool.and_true, Bool.and_self, and_self, false_or, or_false, false_and, and_false, reduceIte, Bool.false_eq_true, Bool.not_eq_true, Bool.not_true, Bool.not_false, hde]); repeat (first | (refine seq_in ?_; simp only [seqS_M, startE_cons, startE_nil, List.length_cons, List.length_nil, List.length_replicate, List.length_set, List.replicate_succ, List.replicate_zero, List.getElem?_cons_zero, List.getElem?_cons_succ, List.set_cons_zero, List.set_cons_succ, Option.some.injEq, OT.fz.injEq, OT.ow.injEq, D.int.injEq, D.str.injEq, D.bl.injEq, D.tup.injEq, D.lst.injEq, List.cons.injEq, exists_eq_left', exists_eq_left, exists_eq_right, and_true, true_and, OT.toD_fz, toD_map_fz, hIx_tup, hIx_lst, hIx_scr, hIx_mob, hIx_str, hIxT_fz, hIxT_ow, hAdd_int, hAdd_str, hAdd_tup, hAdd_lst, hMul_int, hMul_lst, hSl_tup, hSl_lst, hSl_str, hLen_lst, hLen_tup, hLen_scr, hLen_str, hLen_mob, hInt_int, hInt_bl, hAbs_int, hSeq_lst, hSeq_tup, hIn_lst, hIn_tup, hEq_eq, hI0_int, hI_int, ng_f, ng_t, atI_0, atI_1, atI_2, ofString_inj, eqv_str, eqv_txt, eqv_int, eqv_bl, eqv_tup, eqv_lst, eqOk_str, eqOk_int, eqOk_bl, eqOk_txt, decide_eq_true_eq, Nat.zero_lt_succ, exists_and_left, List.take_succ_cons, List.take_zero, List.drop_succ_cons, List.drop_zero, List.cons_append, List.nil_append, and_assoc, atI_map, Option.map_some, Nat.reduceAdd, Nat.reduceLT, Nat.reduceLeDiff, OT.toD_ow, List.map_cons, List.map_nil, D.mob.injEq, Mo.lst.injEq, Mem.put_same, Mem.put_put, ixN_30, ixN_32, ixN_10, exists_prop, fz_app, fz_inj, fz_snoc, OT.map_fz, List.length_map, List.length_append, List.append_nil, Nat.zero_add, cutL_1, items_tup, items_lst, items_scr, forD, compD, compS, comp2D, wipeE, D.isIn, List.any_cons, List.any_nil, String.reduceEq, D.plain, D.plains, D.dep, D.deps, Nat.max_self, Nat.min_self, Nat.zero_le, Nat.zero_min, Nat.min_zero, sizeLine_eq, forall_eq, exists_const, forall_const, kind_non, kind_bl, kind_int, kind_str, kind_lst, kind_tup, kind_dk, Kd.isa, reduceCtorEq, decide_false, decide_true, Bool.or_false, Bool.false_or, Bool.or_true, Bool.true_or, Bool.or_self, Bool.and_false, Bool.false_and, Bool.true_and, Bool.and_true, Bool.and_self, and_self, false_or, or_false, false_and, and_false, reduceIte, Bool.false_eq_true, Bool.not_eq_true, Bool.not_true, Bool.not_false, hde]) | refine And.intro (by first | assumption | omega | decide) ?_ | omega | assumption)
              refine body_at hpq hBD (by omega) hr0 hm0 hr1 hm1 hr2 hm2 (by omega) fun b M3 g1 g2 g3 => ?_
              (try simp only [seqS_M, startE_cons, startE_nil, List.length_cons, List.length_nil, List.length_replicate, List.length_set, List.replicate_succ, List.replicate_zero, List.getElem?_cons_zero, List.getElem?_cons_succ, List.set_cons_zero, List.set_cons_succ, Option.some.injEq, OT.fz.injEq, OT.ow.injEq, D.int.injEq, D.str.injEq, D.bl.injEq, D.tup.injEq, D.lst.injEq, List.cons.injEq, exists_eq_left', exists_eq_left, exists_eq_right, and_true, true_and, OT.toD_fz, toD_map_fz, hIx_tup, hIx_lst, hIx_scr, hIx_mob, hIx_str, hIxT_fz, hIxT_ow, hAdd_int, hAdd_str, hAdd_tup, hAdd_lst, hMul_int, hMul_lst, hSl_tup, hSl_lst, hSl_str, hLen_lst, hLen_tup, hLen_scr, hLen_str, hLen_mob, hInt_int, hInt_bl, hAbs_int, hSeq_lst, hSeq_tup, hIn_lst, hIn_tup, hEq_eq, hI0_int, hI_int, ng_f, ng_t, atI_0, atI_1, atI_2, ofString_inj, eqv_str, eqv_txt, eqv_int, eqv_bl, eqv_tup, eqv_lst, eqOk_str, eqOk_int, eqOk_bl, eqOk_txt, decide_eq_true_eq, Nat.zero_lt_succ, exists_and_left, List.take_succ_cons, List.take_zero, List.drop_succ_cons, List.drop_zero, List.cons_append, List.nil_append, and_assoc, atI_map, Option.map_some, Nat.reduceAdd, Nat.reduceLT, Nat.reduceLeDiff, OT.toD_ow, List.map_cons, List.map_nil, D.mob.injEq, Mo.lst.injEq, Mem.put_same, Mem.put_put, ixN_30, ixN_32, ixN_10, exists_prop, fz_app, fz_inj, fz_snoc, OT.map_fz, List.length_map, List.length_append, List.append_nil, Nat.zero_add, cutL_1, items_tup, items_lst, items_scr, forD, compD, compS, comp2D, wipeE, D.isIn, List.any_cons, List.any_nil, String.reduceEq, D.plain, D.plains, D.dep, D.deps, Nat.max_self, Nat.min_self, Nat.zero_le, Nat.zero_min, Nat.min_zero, sizeLine_eq, forall_eq, exists_const, forall_const, kind_non, kind_bl, kind_int, kind_str, kind_lst, kind_tup, kind_dk, Kd.isa, reduceCtorEq, decide_false, decide_true, Bool.or_false, Bool.false_or, Bool.or_true, Bool.true_or, Bool.or_self, Bool.and_false, Bool.false_and, Bool.true_and, Bool.and_true, Bool.and_self, and_self, false_or, or_false, false_and, and_false, reduceIte, Bool.false_eq_true, Bool.not_eq_true, Bool.not_true, Bool.not_false, spBody]); repeat (first | (refine seq_in ?_; simp only [seqS_M, startE_cons, startE_nil, List.length_cons, List.length_nil, List.length_replicate, List.length_set, List.replicate_succ, List.replicate_zero, List.getElem?_cons_zero, List.getElem?_cons_succ, List.set_cons_zero, List.set_cons_succ, Option.some.injEq, OT.fz.injEq, OT.ow.injEq, D.int.injEq, D.str.injEq, D.bl.injEq, D.tup.injEq, D.lst.injEq, List.cons.injEq, exists_eq_left', exists_eq_left, exists_eq_right, and_true, true_and, OT.toD_fz, toD_map_fz, hIx_tup, hIx_lst, hIx_scr, hIx_mob, hIx_str, hIxT_fz, hIxT_ow, hAdd_int, hAdd_str, hAdd_tup, hAdd_lst, hMul_int, hMul_lst, hSl_tup, hSl_lst, hSl_str, hLen_lst, hLen_tup, hLen_scr, hLen_str, hLen_mob, hInt_int, hInt_bl, hAbs_int, hSeq_lst, hSeq_tup, hIn_lst, hIn_tup, hEq_eq, hI0_int, hI_int, ng_f, ng_t, atI_0, atI_1, atI_2, ofString_inj, eqv_str, eqv_txt, eqv_int, eqv_bl, eqv_tup, eqv_lst, eqOk_str, eqOk_int, eqOk_bl, eqOk_txt, decide_eq_true_eq, Nat.zero_lt_succ, exists_and_left, List.take_succ_cons, List.take_zero, List.drop_succ_cons, List.drop_zero, List.cons_append, List.nil_append, and_assoc, atI_map, Option.map_some, Nat.reduceAdd, Nat.reduceLT, Nat.reduceLeDiff, OT.toD_ow, List.map_cons, List.map_nil, D.mob.injEq, Mo.lst.injEq, Mem.put_same, Mem.put_put, ixN_30, ixN_32, ixN_10, exists_prop, fz_app, fz_inj, fz_snoc, OT.map_fz, List.length_map, List.length_append, List.append_nil, Nat.zero_add, cutL_1, items_tup, items_lst, items_scr, forD, compD, compS, comp2D, wipeE, D.isIn, List.any_cons, List.any_nil, String.reduceEq, D.plain, D.plains, D.dep, D.deps, Nat.max_self, Nat.min_self, Nat.zero_le, Nat.zero_min, Nat.min_zero, sizeLine_eq, forall_eq, exists_const, forall_const, kind_non, kind_bl, kind_int, kind_str, kind_lst, kind_tup, kind_dk, Kd.isa, reduceCtorEq, decide_false, decide_true, Bool.or_false, Bool.false_or, Bool.or_true, Bool.true_or, Bool.or_self, Bool.and_false, Bool.false_and, Bool.true_and, Bool.and_true, Bool.and_self, and_self, false_or, or_false, false_and, and_false, reduceIte, Bool.false_eq_true, Bool.not_eq_true, Bool.not_true, Bool.not_false, spBody]) | refine And.intro (by first | assumption | omega | decide) ?_ | omega | assumption)
              exact ⟨.ah b, rfl, by simp only [Bd.hgt]; omega, g2, g3.mono (by omega)⟩
            · (try simp only [seqS_M, startE_cons, startE_nil, List.length_cons, List.length_nil, List.length_replicate, List.length_set, List.replicate_succ, List.replicate_zero, List.getElem?_cons_zero, List.getElem?_cons_succ, List.set_cons_zero, List.set_cons_succ, Option.some.injEq, OT.fz.injEq, OT.ow.injEq, D.int.injEq, D.str.injEq, D.bl.injEq, D.tup.injEq, D.lst.injEq, List.cons.injEq, exists_eq_left', exists_eq_left, exists_eq_right, and_true, true_and, OT.toD_fz, toD_map_fz, hIx_tup, hIx_lst, hIx_scr, hIx_mob, hIx_str, hIxT_fz, hIxT_ow, hAdd_int, hAdd_str, hAdd_tup, hAdd_lst, hMul_int, hMul_lst, hSl_tup, hSl_lst, hSl_str, hLen_lst, hLen_tup, hLen_scr, hLen_str, hLen_mob, hInt_int, hInt_bl, hAbs_int, hSeq_lst, hSeq_tup, hIn_lst, hIn_tup, hEq_eq, hI0_int, hI_int, ng_f, ng_t, atI_0, atI_1, atI_2, ofString_inj, eqv_str, eqv_txt, eqv_int, eqv_bl, eqv_tup, eqv_lst, eqOk_str, eqOk_int, eqOk_bl, eqOk_txt, decide_eq_true_eq, Nat.zero_lt_succ, exists_and_left, List.take_succ_cons, List.take_zero, List.drop_succ_cons, List.drop_zero, List.cons_append, List.nil_append, and_assoc, atI_map, Option.map_some, Nat.reduceAdd, Nat.reduceLT, Nat.reduceLeDiff, OT.toD_ow, List.map_cons, List.map_nil, D.mob.injEq, Mo.lst.injEq, Mem.put_same, Mem.put_put, ixN_30, ixN_32, ixN_10, exists_prop, fz_app, fz_inj, fz_snoc, OT.map_fz, List.length_map, List.length_append, List.append_nil, Nat.zero_add, cutL_1, items_tup, items_lst, items_scr, forD, compD, compS, comp2D, wipeE, D.isIn, List.any_cons, List.any_nil, String.reduceEq, D.plain, D.plains, D.dep, D.deps, Nat.max_self, Nat.min_self, Nat.zero_le, Nat.zero_min, Nat.min_zero, sizeLine_eq, forall_eq, exists_const, forall_const, kind_non, kind_bl, kind_int, kind_str, kind_lst, kind_tup, kind_dk, Kd.isa, reduceCtorEq, decide_false, decide_true, Bool.or_false, Bool.false_or, Bool.or_true, Bool.true_or, Bool.or_self, Bool.and_false, Bool.false_and, Bool.true_and, Bool.and_true, Bool.and_self, and_self, false_or, or_false, false_and, and_false, reduceIte, Bool.false_eq_true, Bool.not_eq_true, Bool.not_true, Bool.not_false, hde]); repeat (first | (refine seq_in ?_; simp only [seqS_M, startE_cons, startE_nil, List.length_cons, List.length_nil, List.length_replicate, List.length_set, List.replicate_succ, List.replicate_zero, List.getElem?_cons_zero, List.getElem?_cons_succ, List.set_cons_zero, List.set_cons_succ, Option.some.injEq, OT.fz.injEq, OT.ow.injEq, D.int.injEq, D.str.injEq, D.bl.injEq, D.tup.injEq, D.lst.injEq, List.cons.injEq, exists_eq_left', exists_eq_left, exists_eq_right, and_true, true_and, OT.toD_fz, toD_map_fz, hIx_tup, hIx_lst, hIx_scr, hIx_mob, hIx_str, hIxT_fz, hIxT_ow, hAdd_int, hAdd_str, hAdd_tup, hAdd_lst, hMul_int, hMul_lst, hSl_tup, hSl_lst, hSl_str, hLen_lst, hLen_tup, hLen_scr, hLen_str, hLen_mob, hInt_int, hInt_bl, hAbs_int, hSeq_lst, hSeq_tup, hIn_lst, hIn_tup, hEq_eq, hI0_int, hI_int, ng_f, ng_t, atI_0, atI_1, atI_2, ofString_inj, eqv_str, eqv_txt, eqv_int, eqv_bl, eqv_tup, eqv_lst, eqOk_str, eqOk_int, eqOk_bl, eqOk_txt, decide_eq_true_eq, Nat.zero_lt_succ, exists_and_left, List.take_succ_cons, List.take_zero, List.drop_succ_cons, List.drop_zero, List.cons_append, List.nil_append, and_assoc, atI_map, Option.map_some, Nat.reduceAdd, Nat.reduceLT, Nat.reduceLeDiff, OT.toD_ow, List.map_cons, List.map_nil, D.mob.injEq, Mo.lst.injEq, Mem.put_same, Mem.put_put, ixN_30, ixN_32, ixN_10, exists_prop, fz_app, fz_inj, fz_snoc, OT.map_fz, List.length_map, List.length_append, List.append_nil, Nat.zero_add, cutL_1, items_tup, items_lst, items_scr, forD, compD, compS, comp2D, wipeE, D.isIn, List.any_cons, List.any_nil, String.reduceEq, D.plain, D.plains, D.dep, D.deps, Nat.max_self, Nat.min_self, Nat.zero_le, Nat.zero_min, Nat.min_zero, sizeLine_eq, forall_eq, exists_const, forall_const, kind_non, kind_bl, kind_int, kind_str, kind_lst, kind_tup, kind_dk, Kd.isa, reduceCtorEq, decide_false, decide_true, Bool.or_false, Bool.false_or, Bool.or_true, Bool.true_or, Bool.or_self, Bool.and_false, Bool.false_and, Bool.true_and, Bool.and_true, Bool.and_self, and_self, false_or, or_false, false_and, and_false, reduceIte, Bool.false_eq_true, Bool.not_eq_true, Bool.not_true, Bool.not_false, hde]) | refine And.intro (by first | assumption | omega | decide) ?_ | omega | assumption)
              refine body_at hpq hBD (by omega) hr0 hm0 hr1 hm1 hr2 hm2 (by omega) fun b M3 g1 g2 g3 => ?_
              (try simp only [seqS_M, startE_cons, startE_nil, List.length_cons, List.length_nil, List.length_replicate, List.length_set, List.replicate_succ, List.replicate_zero, List.getElem?_cons_zero, List.getElem?_cons_succ, List.set_cons_zero, List.set_cons_succ, Option.some.injEq, OT.fz.injEq, OT.ow.injEq, D.int.injEq, D.str.injEq, D.bl.injEq, D.tup.injEq, D.lst.injEq, List.cons.injEq, exists_eq_left', exists_eq_left, exists_eq_right, and_true, true_and, OT.toD_fz, toD_map_fz, hIx_tup, hIx_lst, hIx_scr, hIx_mob, hIx_str, hIxT_fz, hIxT_ow, hAdd_int, hAdd_str, hAdd_tup, hAdd_lst, hMul_int, hMul_lst, hSl_tup, hSl_lst, hSl_str, hLen_lst, hLen_tup, hLen_scr, hLen_str, hLen_mob, hInt_int, hInt_bl, hAbs_int, hSeq_lst, hSeq_tup, hIn_lst, hIn_tup, hEq_eq, hI0_int, hI_int, ng_f, ng_t, atI_0, atI_1, atI_2, ofString_inj, eqv_str, eqv_txt, eqv_int, eqv_bl, eqv_tup, eqv_lst, eqOk_str, eqOk_int, eqOk_bl, eqOk_txt, decide_eq_true_eq, Nat.zero_lt_succ, exists_and_left, List.take_succ_cons, List.take_zero, List.drop_succ_cons, List.drop_zero, List.cons_append, List.nil_append, and_assoc, atI_map, Option.map_some, Nat.reduceAdd, Nat.reduceLT, Nat.reduceLeDiff, OT.toD_ow, List.map_cons, List.map_nil, D.mob.injEq, Mo.lst.injEq, Mem.put_same, Mem.put_put, ixN_30, ixN_32, ixN_10, exists_prop, fz_app, fz_inj, fz_snoc, OT.map_fz, List.length_map, List.length_append, List.append_nil, Nat.zero_add, cutL_1, items_tup, items_lst, items_scr, forD, compD, compS, comp2D, wipeE, D.isIn, List.any_cons, List.any_nil, String.reduceEq, D.plain, D.plains, D.dep, D.deps, Nat.max_self, Nat.min_self, Nat.zero_le, Nat.zero_min, Nat.min_zero, sizeLine_eq, forall_eq, exists_const, forall_const, kind_non, kind_bl, kind_int, kind_str, kind_lst, kind_tup, kind_dk, Kd.isa, reduceCtorEq, decide_false, decide_true, Bool.or_false, Bool.false_or, Bool.or_true, Bool.true_or, Bool.or_self, Bool.and_false, Bool.false_and, Bool.true_and, Bool.and_true, Bool.and_self, and_self, false_or, or_false, false_and, and_false, reduceIte, Bool.false_eq_true, Bool.not_eq_true, Bool.not_true, Bool.not_false, spBody]); repeat (first | (refine seq_in ?_; simp only [seqS_M, startE_cons, startE_nil, List.length_cons, List.length_nil, List.length_replicate, List.length_set, List.replicate_succ, List.replicate_zero, List.getElem?_cons_zero, List.getElem?_cons_succ, List.set_cons_zero, List.set_cons_succ, Option.some.injEq, OT.fz.injEq, OT.ow.injEq, D.int.injEq, D.str.injEq, D.bl.injEq, D.tup.injEq, D.lst.injEq, List.cons.injEq, exists_eq_left', exists_eq_left, exists_eq_right, and_true, true_and, OT.toD_fz, toD_map_fz, hIx_tup, hIx_lst, hIx_scr, hIx_mob, hIx_str, hIxT_fz, hIxT_ow, hAdd_int, hAdd_str, hAdd_tup, hAdd_lst, hMul_int, hMul_lst, hSl_tup, hSl_lst, hSl_str, hLen_lst, hLen_tup, hLen_scr, hLen_str, hLen_mob, hInt_int, hInt_bl, hAbs_int, hSeq_lst, hSeq_tup, hIn_lst, hIn_tup, hEq_eq, hI0_int, hI_int, ng_f, ng_t, atI_0, atI_1, atI_2, ofString_inj, eqv_str, eqv_txt, eqv_int, eqv_bl, eqv_tup, eqv_lst, eqOk_str, eqOk_int, eqOk_bl, eqOk_txt, decide_eq_true_eq, Nat.zero_lt_succ, exists_and_left, List.take_succ_cons, List.take_zero, List.drop_succ_cons, List.drop_zero, List.cons_append, List.nil_append, and_assoc, atI_map, Option.map_some, Nat.reduceAdd, Nat.reduceLT, Nat.reduceLeDiff, OT.toD_ow, List.map_cons, List.map_nil, D.mob.injEq, Mo.lst.injEq, Mem.put_same, Mem.put_put, ixN_30, ixN_32, ixN_10, exists_prop, fz_app, fz_inj, fz_snoc, OT.map_fz, List.length_map, List.length_append, List.append_nil, Nat.zero_add, cutL_1, items_tup, items_lst, items_scr, forD, compD, compS, comp2D, wipeE, D.isIn, List.any_cons, List.any_nil, String.reduceEq, D.plain, D.plains, D.dep, D.deps, Nat.max_self, Nat.min_self, Nat.zero_le, Nat.zero_min, Nat.min_zero, sizeLine_eq, forall_eq, exists_const, forall_const, kind_non, kind_bl, kind_int, kind_str, kind_lst, kind_tup, kind_dk, Kd.isa, reduceCtorEq, decide_false, decide_true, Bool.or_false, Bool.false_or, Bool.or_true, Bool.true_or, Bool.or_self, Bool.and_false, Bool.false_and, Bool.true_and, Bool.and_true, Bool.and_self, and_self, false_or, or_false, false_and, and_false, reduceIte, Bool.false_eq_true, Bool.not_eq_true, Bool.not_true, Bool.not_false, spBody]) | refine And.intro (by first | assumption | omega | decide) ?_ | omega | assumption)
              exact ⟨.ev b, rfl, by simp only [Bd.hgt]; omega, g2, g3.mono (by omega)⟩
          · (try simp only [seqS_M, startE_cons, startE_nil, List.length_cons, List.length_nil, List.length_replicate, List.length_set, List.replicate_succ, List.replicate_zero, List.getElem?_cons_zero, List.getElem?_cons_succ, List.set_cons_zero, List.set_cons_succ, Option.some.injEq, OT.fz.injEq, OT.ow.injEq, D.int.injEq, D.str.injEq, D.bl.injEq, D.tup.injEq, D.lst.injEq, List.cons.injEq, exists_eq_left', exists_eq_left, exists_eq_right, and_true, true_and, OT.toD_fz, toD_map_fz, hIx_tup, hIx_lst, hIx_scr, hIx_mob, hIx_str, hIxT_fz, hIxT_ow, hAdd_int, hAdd_str, hAdd_tup, hAdd_lst, hMul_int, hMul_lst, hSl_tup, hSl_lst, hSl_str, hLen_lst, hLen_tup, hLen_scr, hLen_str, hLen_mob, hInt_int, hInt_bl, hAbs_int, hSeq_lst, hSeq_tup, hIn_lst, hIn_tup, hEq_eq, hI0_int, hI_int, ng_f, ng_t, atI_0, atI_1, atI_2, ofString_inj, eqv_str, eqv_txt, eqv_int, eqv_bl, eqv_tup, eqv_lst, eqOk_str, eqOk_int, eqOk_bl, eqOk_txt, decide_eq_true_eq, Nat.zero_lt_succ, exists_and_left, List.take_succ_cons, List.take_zero, List.drop_succ_cons, List.drop_zero, List.cons_append, List.nil_append, and_assoc, atI_map, Option.map_some, Nat.reduceAdd, Nat.reduceLT, Nat.reduceLeDiff, OT.toD_ow, List.map_cons, List.map_nil, D.mob.injEq, Mo.lst.injEq, Mem.put_same, Mem.put_put, ixN_30, ixN_32, ixN_10, exists_prop, fz_app, fz_inj, fz_snoc, OT.map_fz, List.length_map, List.length_append, List.append_nil, Nat.zero_add, cutL_1, items_tup, items_lst, items_scr, forD, compD, compS, comp2D, wipeE, D.isIn, List.any_cons, List.any_nil, String.reduceEq, D.plain, D.plains, D.dep, D.deps, Nat.max_self, Nat.min_self, Nat.zero_le, Nat.zero_min, Nat.min_zero, sizeLine_eq, forall_eq, exists_const, forall_const, kind_non, kind_bl, kind_int, kind_str, kind_lst, kind_tup, kind_dk, Kd.isa, reduceCtorEq, decide_false, decide_true, Bool.or_false, Bool.false_or, Bool.or_true, Bool.true_or, Bool.or_self, Bool.and_false, Bool.false_and, Bool.true_and, Bool.and_true, Bool.and_self, and_self, false_or, or_false, false_and, and_false, reduceIte, Bool.false_eq_true, Bool.not_eq_true, Bool.not_true, Bool.not_false, hde]); repeat (first | (refine seq_in ?_; simp only [seqS_M, startE_cons, startE_nil, List.length_cons, List.length_nil, List.length_replicate, List.length_set, List.replicate_succ, List.replicate_zero, List.getElem?_cons_zero, List.getElem?_cons_succ, List.set_cons_zero, List.set_cons_succ, Option.some.injEq, OT.fz.injEq, OT.ow.injEq, D.int.injEq, D.str.injEq, D.bl.injEq, D.tup.injEq, D.lst.injEq, List.cons.injEq, exists_eq_left', exists_eq_left, exists_eq_right, and_true, true_and, OT.toD_fz, toD_map_fz, hIx_tup, hIx_lst, hIx_scr, hIx_mob, hIx_str, hIxT_fz, hIxT_ow, hAdd_int, hAdd_str, hAdd_tup, hAdd_lst, hMul_int, hMul_lst, hSl_tup, hSl_lst, hSl_str, hLen_lst, hLen_tup, hLen_scr, hLen_str, hLen_mob, hInt_int, hInt_bl, hAbs_int, hSeq_lst, hSeq_tup, hIn_lst, hIn_tup, hEq_eq, hI0_int, hI_int, ng_f, ng_t, atI_0, atI_1, atI_2, ofString_inj, eqv_str, eqv_txt, eqv_int, eqv_bl, eqv_tup, eqv_lst, eqOk_str, eqOk_int, eqOk_bl, eqOk_txt, decide_eq_true_eq, Nat.zero_lt_succ, exists_and_left, List.take_succ_cons, List.take_zero, List.drop_succ_cons, List.drop_zero, List.cons_append, List.nil_append, and_assoc, atI_map, Option.map_some, Nat.reduceAdd, Nat.reduceLT, Nat.reduceLeDiff, OT.toD_ow, List.map_cons, List.map_nil, D.mob.injEq, Mo.lst.injEq, Mem.put_same, Mem.put_put, ixN_30, ixN_32, ixN_10, exists_prop, fz_app, fz_inj, fz_snoc, OT.map_fz, List.length_map, List.length_append, List.append_nil, Nat.zero_add, cutL_1, items_tup, items_lst, items_scr, forD, compD, compS, comp2D, wipeE, D.isIn, List.any_cons, List.any_nil, String.reduceEq, D.plain, D.plains, D.dep, D.deps, Nat.max_self, Nat.min_self, Nat.zero_le, Nat.zero_min, Nat.min_zero, sizeLine_eq, forall_eq, exists_const, forall_const, kind_non, kind_bl, kind_int, kind_str, kind_lst, kind_tup, kind_dk, Kd.isa, reduceCtorEq, decide_false, decide_true, Bool.or_false, Bool.false_or, Bool.or_true, Bool.true_or, Bool.or_self, Bool.and_false, Bool.false_and, Bool.true_and, Bool.and_true, Bool.and_self, and_self, false_or, or_false, false_and, and_false, reduceIte, Bool.false_eq_true, Bool.not_eq_true, Bool.not_true, Bool.not_false, hde]) | refine And.intro (by first | assumption | omega | decide) ?_ | omega | assumption)
            refine body_at hpq hBC (by omega) hr0 hm0 hr1 hm1 hr2 hm2 (by omega) fun b M2 g1 g2 g3 => ?_
            (try simp only [seqS_M, startE_cons, startE_nil, List.length_cons, List.length_nil, List.length_replicate, List.length_set, List.replicate_succ, List.replicate_zero, List.getElem?_cons_zero, List.getElem?_cons_succ, List.set_cons_zero, List.set_cons_succ, Option.some.injEq, OT.fz.injEq, OT.ow.injEq, D.int.injEq, D.str.injEq, D.bl.injEq, D.tup.injEq, D.lst.injEq, List.cons.injEq, exists_eq_left', exists_eq_left, exists_eq_right, and_true, true_and, OT.toD_fz, toD_map_fz, hIx_tup, hIx_lst, hIx_scr, hIx_mob, hIx_str, hIxT_fz, hIxT_ow, hAdd_int, hAdd_str, hAdd_tup, hAdd_lst, hMul_int, hMul_lst, hSl_tup, hSl_lst, hSl_str, hLen_lst, hLen_tup, hLen_scr, hLen_str, hLen_mob, hInt_int, hInt_bl, hAbs_int, hSeq_lst, hSeq_tup, hIn_lst, hIn_tup, hEq_eq, hI0_int, hI_int, ng_f, ng_t, atI_0, atI_1, atI_2, ofString_inj, eqv_str, eqv_txt, eqv_int, eqv_bl, eqv_tup, eqv_lst, eqOk_str, eqOk_int, eqOk_bl, eqOk_txt, decide_eq_true_eq, Nat.zero_lt_succ, exists_and_left, List.take_succ_cons, List.take_zero, List.drop_succ_cons, List.drop_zero, List.cons_append, List.nil_append, and_assoc, atI_map, Option.map_some, Nat.reduceAdd, Nat.reduceLT, Nat.reduceLeDiff, OT.toD_ow, List.map_cons, List.map_nil, D.mob.injEq, Mo.lst.injEq, Mem.put_same, Mem.put_put, ixN_30, ixN_32, ixN_10, exists_prop, fz_app, fz_inj, fz_snoc, OT.map_fz, List.length_map, List.length_append, List.append_nil, Nat.zero_add, cutL_1, items_tup, items_lst, items_scr, forD, compD, compS, comp2D, wipeE, D.isIn, List.any_cons, List.any_nil, String.reduceEq, D.plain, D.plains, D.dep, D.deps, Nat.max_self, Nat.min_self, Nat.zero_le, Nat.zero_min, Nat.min_zero, sizeLine_eq, forall_eq, exists_const, forall_const, kind_non, kind_bl, kind_int, kind_str, kind_lst, kind_tup, kind_dk, Kd.isa, reduceCtorEq, decide_false, decide_true, Bool.or_false, Bool.false_or, Bool.or_true, Bool.true_or, Bool.or_self, Bool.and_false, Bool.false_and, Bool.true_and, Bool.and_true, Bool.and_self, and_self, false_or, or_false, false_and, and_false, reduceIte, Bool.false_eq_true, Bool.not_eq_true, Bool.not_true, Bool.not_false, hde]); repeat (first | (refine seq_in ?_; simp only [seqS_M, startE_cons, startE_nil, List.length_cons, List.length_nil, List.length_replicate, List.length_set, List.replicate_succ, List.replicate_zero, List.getElem?_cons_zero, List.getElem?_cons_succ, List.set_cons_zero, List.set_cons_succ, Option.some.injEq, OT.fz.injEq, OT.ow.injEq, D.int.injEq, D.str.injEq, D.bl.injEq, D.tup.injEq, D.lst.injEq, List.cons.injEq, exists_eq_left', exists_eq_left, exists_eq_right, and_true, true_and, OT.toD_fz, toD_map_fz, hIx_tup, hIx_lst, hIx_scr, hIx_mob, hIx_str, hIxT_fz, hIxT_ow, hAdd_int, hAdd_str, hAdd_tup, hAdd_lst, hMul_int, hMul_lst, hSl_tup, hSl_lst, hSl_str, hLen_lst, hLen_tup, hLen_scr, hLen_str, hLen_mob, hInt_int, hInt_bl, hAbs_int, hSeq_lst, hSeq_tup, hIn_lst, hIn_tup, hEq_eq, hI0_int, hI_int, ng_f, ng_t, atI_0, atI_1, atI_2, ofString_inj, eqv_str, eqv_txt, eqv_int, eqv_bl, eqv_tup, eqv_lst, eqOk_str, eqOk_int, eqOk_bl, eqOk_txt, decide_eq_true_eq, Nat.zero_lt_succ, exists_and_left, List.take_succ_cons, List.take_zero, List.drop_succ_cons, List.drop_zero, List.cons_append, List.nil_append, and_assoc, atI_map, Option.map_some, Nat.reduceAdd, Nat.reduceLT, Nat.reduceLeDiff, OT.toD_ow, List.map_cons, List.map_nil, D.mob.injEq, Mo.lst.injEq, Mem.put_same, Mem.put_put, ixN_30, ixN_32, ixN_10, exists_prop, fz_app, fz_inj, fz_snoc, OT.map_fz, List.length_map, List.length_append, List.append_nil, Nat.zero_add, cutL_1, items_tup, items_lst, items_scr, forD, compD, compS, comp2D, wipeE, D.isIn, List.any_cons, List.any_nil, String.reduceEq, D.plain, D.plains, D.dep, D.deps, Nat.max_self, Nat.min_self, Nat.zero_le, Nat.zero_min, Nat.min_zero, sizeLine_eq, forall_eq, exists_const, forall_const, kind_non, kind_bl, kind_int, kind_str, kind_lst, kind_tup, kind_dk, Kd.isa, reduceCtorEq, decide_false, decide_true, Bool.or_false, Bool.false_or, Bool.or_true, Bool.true_or, Bool.or_self, Bool.and_false, Bool.false_and, Bool.true_and, Bool.and_true, Bool.and_self, and_self, false_or, or_false, false_and, and_false, reduceIte, Bool.false_eq_true, Bool.not_eq_true, Bool.not_true, Bool.not_false, hde]) | refine And.intro (by first | assumption | omega | decide) ?_ | omega | assumption)
            refine body_at hpq g3 (by omega) hr0 hm0 hr1 hm1 hr2 hm2 (by omega) fun c M3 g4 g5 g6 => ?_
            (try simp only [seqS_M, startE_cons, startE_nil, List.length_cons, List.length_nil, List.length_replicate, List.length_set, List.replicate_succ, List.replicate_zero, List.getElem?_cons_zero, List.getElem?_cons_succ, List.set_cons_zero, List.set_cons_succ, Option.some.injEq, OT.fz.injEq, OT.ow.injEq, D.int.injEq, D.str.injEq, D.bl.injEq, D.tup.injEq, D.lst.injEq, List.cons.injEq, exists_eq_left', exists_eq_left, exists_eq_right, and_true, true_and, OT.toD_fz, toD_map_fz, hIx_tup, hIx_lst, hIx_scr, hIx_mob, hIx_str, hIxT_fz, hIxT_ow, hAdd_int, hAdd_str, hAdd_tup, hAdd_lst, hMul_int, hMul_lst, hSl_tup, hSl_lst, hSl_str, hLen_lst, hLen_tup, hLen_scr, hLen_str, hLen_mob, hInt_int, hInt_bl, hAbs_int, hSeq_lst, hSeq_tup, hIn_lst, hIn_tup, hEq_eq, hI0_int, hI_int, ng_f, ng_t, atI_0, atI_1, atI_2, ofString_inj, eqv_str, eqv_txt, eqv_int, eqv_bl, eqv_tup, eqv_lst, eqOk_str, eqOk_int, eqOk_bl, eqOk_txt, decide_eq_true_eq, Nat.zero_lt_succ, exists_and_left, List.take_succ_cons, List.take_zero, List.drop_succ_cons, List.drop_zero, List.cons_append, List.nil_append, and_assoc, atI_map, Option.map_some, Nat.reduceAdd, Nat.reduceLT, Nat.reduceLeDiff, OT.toD_ow, List.map_cons, List.map_nil, D.mob.injEq, Mo.lst.injEq, Mem.put_same, Mem.put_put, ixN_30, ixN_32, ixN_10, exists_prop, fz_app, fz_inj, fz_snoc, OT.map_fz, List.length_map, List.length_append, List.append_nil, Nat.zero_add, cutL_1, items_tup, items_lst, items_scr, forD, compD, compS, comp2D, wipeE, D.isIn, List.any_cons, List.any_nil, String.reduceEq, D.plain, D.plains, D.dep, D.deps, Nat.max_self, Nat.min_self, Nat.zero_le, Nat.zero_min, Nat.min_zero, sizeLine_eq, forall_eq, exists_const, forall_const, kind_non, kind_bl, kind_int, kind_str, kind_lst, kind_tup, kind_dk, Kd.isa, reduceCtorEq, decide_false, decide_true, Bool.or_false, Bool.false_or, Bool.or_true, Bool.true_or, Bool.or_self, Bool.and_false, Bool.false_and, Bool.true_and, Bool.and_true, Bool.and_self, and_self, false_or, or_false, false_and, and_false, reduceIte, Bool.false_eq_true, Bool.not_eq_true, Bool.not_true, Bool.not_false, spBody]); repeat (first | (refine seq_in ?_; simp only [seqS_M, startE_cons, startE_nil, List.length_cons, List.length_nil, List.length_replicate, List.length_set, List.replicate_succ, List.replicate_zero, List.getElem?_cons_zero, List.getElem?_cons_succ, List.set_cons_zero, List.set_cons_succ, Option.some.injEq, OT.fz.injEq, OT.ow.injEq, D.int.injEq, D.str.injEq, D.bl.injEq, D.tup.injEq, D.lst.injEq, List.cons.injEq, exists_eq_left', exists_eq_left, exists_eq_right, and_true, true_and, OT.toD_fz, toD_map_fz, hIx_tup, hIx_lst, hIx_scr, hIx_mob, hIx_str, hIxT_fz, hIxT_ow, hAdd_int, hAdd_str, hAdd_tup, hAdd_lst, hMul_int, hMul_lst, hSl_tup, hSl_lst, hSl_str, hLen_lst, hLen_tup, hLen_scr, hLen_str, hLen_mob, hInt_int, hInt_bl, hAbs_int, hSeq_lst, hSeq_tup, hIn_lst, hIn_tup, hEq_eq, hI0_int, hI_int, ng_f, ng_t, atI_0, atI_1, atI_2, ofString_inj, eqv_str, eqv_txt, eqv_int, eqv_bl, eqv_tup, eqv_lst, eqOk_str, eqOk_int, eqOk_bl, eqOk_txt, decide_eq_true_eq, Nat.zero_lt_succ, exists_and_left, List.take_succ_cons, List.take_zero, List.drop_succ_cons, List.drop_zero, List.cons_append, List.nil_append, and_assoc, atI_map, Option.map_some, Nat.reduceAdd, Nat.reduceLT, Nat.reduceLeDiff, OT.toD_ow, List.map_cons, List.map_nil, D.mob.injEq, Mo.lst.injEq, Mem.put_same, Mem.put_put, ixN_30, ixN_32, ixN_10, exists_prop, fz_app, fz_inj, fz_snoc, OT.map_fz, List.length_map, List.length_append, List.append_nil, Nat.zero_add, cutL_1, items_tup, items_lst, items_scr, forD, compD, compS, comp2D, wipeE, D.isIn, List.any_cons, List.any_nil, String.reduceEq, D.plain, D.plains, D.dep, D.deps, Nat.max_self, Nat.min_self, Nat.zero_le, Nat.zero_min, Nat.min_zero, sizeLine_eq, forall_eq, exists_const, forall_const, kind_non, kind_bl, kind_int, kind_str, kind_lst, kind_tup, kind_dk, Kd.isa, reduceCtorEq, decide_false, decide_true, Bool.or_false, Bool.false_or, Bool.or_true, Bool.true_or, Bool.or_self, Bool.and_false, Bool.false_and, Bool.true_and, Bool.and_true, Bool.and_self, and_self, false_or, or_false, false_and, and_false, reduceIte, Bool.false_eq_true, Bool.not_eq_true, Bool.not_true, Bool.not_false, spBody]) | refine And.intro (by first | assumption | omega | decide) ?_ | omega | assumption)
            exact ⟨.si b c, rfl, by simp only [Bd.hgt]; omega, ⟨g2, g5⟩, g6.mono (by omega)⟩
end
end DL

namespace DL
open PySem L2 PySem.Spec
open PyProof.Rows hiding St
set_option autoImplicit false
section
variable {P : Program} {w : World} {K : PySem.W.Frag} {mg : Str → Option Value} {base : Heap}
/-! ### a plain saying -/
structure PI where
  p : Addr
  words : List Str
  runs : List Str
  marks : List Str
  back : Int
  n : Nat
def plCost : Nat := 6 * (2 + cst 3)
def plD (words runs : List Str) (b : Bd) : D := .tup [.tup (zipD (words.map .str) (runs.map .str)), b.toD]
def spPlain : DSpec := ⟨PI, fun i M ds => ds = [.mob i.p, .lst (i.words.map .str), .lst (i.runs.map .str), .lst (i.marks.map .str), .int i.back] ∧ IsBox i.n M i.p ∧ 1 ≤ i.words.length ∧ i.words.length ≤ 3 ∧ i.runs.length = 3 ∧ i.marks ≠ [] ∧ i.marks.length ≤ 9 ∧ (∀ x ∈ i.runs, x.length ≤ 8) ∧ (∀ x ∈ i.marks, x.length ≤ 8) ∧ i.n + plCost ≤ 2 ^ 50,
  fun i M t M' => ∃ b : Bd, t = .fz (plD i.words i.runs b) ∧ b.hgt ≤ 3 ∧ b.ok ∧ b.parts.length < 13 ∧ IsBox (i.n + plCost) M' i.p⟩
theorem ok_plain (T : Tx K mg) : DF P w K mg base s_law_plain "_law_plain" ["box", "words", "runs", "marks", "back"] 22 spPlain := by
  have F_law_take := ok_take (P := P) (w := w) (base := base) T
  have F_law_body := ok_body (P := P) (w := w) (base := base) T 4
  have F_law_parts := ok_law_parts (P := P) (w := w) (base := base) T 4
  obtain ⟨f, fd, hm, F, hb⟩ := T.d_law_plain
  refine ⟨f, fd, hm, F, hb, fn_dl F sc_law_plain ?_⟩
  rintro X M ds ⟨p, words, runs, marks, back, n⟩ ⟨cdv, A, outer, s0, H0, E, rfl⟩ hr hl ⟨rfl, hB, hw1, hw2, hr1, hm0, hm1, hr2, hm2, hn⟩
  refine ⟨_, (dss_cons (ds_set 5 sc_law_plain.nd (ed_tupZip rfl T.z_tuple T.z_zip (ad_cons (ed_var 1) (ad_cons (ed_var 2) ad_nil)))) (dss_cons (ds_for PassesOwn.never rfl (ei_range1 T.z_range (av_cons (ED.v ed_int) av_nil)) (eg_name 6 sc_law_plain.nd) (dss_cons (ds_set 7 sc_law_plain.nd (EO.d (eo_callM (DF.mono F_law_body (by first | omega | decide)) hr (ao_cons (ED.o (ed_var 0)) (ao_cons (ED.o (EO.d (eo_sl (EO.d (eo_list T.z_list (ad_cons (ed_var 2) ad_nil))) ep_none (ep_some (ED.v (ed_len T.z_len (av_cons (ev_var 1) av_nil))))))) (ao_cons (ED.o (ed_var 3)) (ao_cons (ED.o (EO.d (eo_add ed_int (EO.d (eo_call (DF.mono F_law_take (by first | omega | decide)) hr (ad_cons (ed_var 0) (ad_cons ed_int ad_nil))))))) (ao_cons (eo_lst (ao_cons (ED.o (ed_var 4)) ao_nil)) ao_nil)))))))) (dss_cons (ds_if (EC.t (ec_lt (ED.v (ed_len T.z_len (av_cons (ED.v (EO.d (eo_callP (DF.mono F_law_parts (by first | omega | decide)) hr (ad_cons (ed_var 7) ad_nil)))) av_nil))) (ED.v ed_int))) (dss_cons (ds_ret (ED.o (ed_tup (ad_cons (ed_var 5) (ad_cons (ed_var 7) ad_nil))))) dss_nil) dss_nil) dss_nil))) (dss_cons (ds_ret (ED.o (ed_tup (ad_cons (ed_var 5) (ad_cons (ed_tup (ad_cons ed_str (ad_cons (ed_ixN 2 ed_int) (ad_cons (ed_ixN 3 ed_int) ad_nil)))) ad_nil))))) dss_nil))), ?_⟩
  replace hB : IsBox n M p := hB
  replace hw1 : 1 ≤ words.length := hw1
  replace hw2 : words.length ≤ 3 := hw2
  replace hr1 : runs.length = 3 := hr1
  replace hm0 : marks ≠ [] := hm0
  replace hm1 : marks.length ≤ 9 := hm1
  replace hr2 : ∀ x ∈ runs, x.length ≤ 8 := hr2
  replace hm2 : ∀ x ∈ marks, x.length ≤ 8 := hm2
  replace hn : n + plCost ≤ 2 ^ 50 := hn
  (try simp only [seqS_M, startE_cons, startE_nil, List.length_cons, List.length_nil, List.length_replicate, List.length_set, List.replicate_succ, List.replicate_zero, List.getElem?_cons_zero, List.getElem?_cons_succ, List.set_cons_zero, List.set_cons_succ, Option.some.injEq, OT.fz.injEq, OT.ow.injEq, D.int.injEq, D.str.injEq, D.bl.injEq, D.tup.injEq, D.lst.injEq, List.cons.injEq, exists_eq_left', exists_eq_left, exists_eq_right, and_true, true_and, OT.toD_fz, toD_map_fz, hIx_tup, hIx_lst, hIx_scr, hIx_mob, hIx_str, hIxT_fz, hIxT_ow, hAdd_int, hAdd_str, hAdd_tup, hAdd_lst, hMul_int, hMul_lst, hSl_tup, hSl_lst, hSl_str, hLen_lst, hLen_tup, hLen_scr, hLen_str, hLen_mob, hInt_int, hInt_bl, hAbs_int, hSeq_lst, hSeq_tup, hIn_lst, hIn_tup, hEq_eq, hI0_int, hI_int, ng_f, ng_t, atI_0, atI_1, atI_2, ofString_inj, eqv_str, eqv_txt, eqv_int, eqv_bl, eqv_tup, eqv_lst, eqOk_str, eqOk_int, eqOk_bl, eqOk_txt, decide_eq_true_eq, Nat.zero_lt_succ, exists_and_left, List.take_succ_cons, List.take_zero, List.drop_succ_cons, List.drop_zero, List.cons_append, List.nil_append, and_assoc, atI_map, Option.map_some, Nat.reduceAdd, Nat.reduceLT, Nat.reduceLeDiff, OT.toD_ow, List.map_cons, List.map_nil, D.mob.injEq, Mo.lst.injEq, Mem.put_same, Mem.put_put, ixN_30, ixN_32, ixN_10, exists_prop, fz_app, fz_inj, fz_snoc, OT.map_fz, List.length_map, List.length_append, List.append_nil, Nat.zero_add, cutL_1, items_tup, items_lst, items_scr, forD, compD, compS, comp2D, wipeE, D.isIn, List.any_cons, List.any_nil, String.reduceEq, D.plain, D.plains, D.dep, D.deps, Nat.max_self, Nat.min_self, Nat.zero_le, Nat.zero_min, Nat.min_zero, sizeLine_eq, forall_eq, exists_const, forall_const, kind_non, kind_bl, kind_int, kind_str, kind_lst, kind_tup, kind_dk, Kd.isa, reduceCtorEq, decide_false, decide_true, Bool.or_false, Bool.false_or, Bool.or_true, Bool.true_or, Bool.or_self, Bool.and_false, Bool.false_and, Bool.true_and, Bool.and_true, Bool.and_self, and_self, false_or, or_false, false_and, and_false, reduceIte, Bool.false_eq_true, Bool.not_eq_true, Bool.not_true, Bool.not_false, spTake]); repeat (first | (refine seq_in ?_; simp only [seqS_M, startE_cons, startE_nil, List.length_cons, List.length_nil, List.length_replicate, List.length_set, List.replicate_succ, List.replicate_zero, List.getElem?_cons_zero, List.getElem?_cons_succ, List.set_cons_zero, List.set_cons_succ, Option.some.injEq, OT.fz.injEq, OT.ow.injEq, D.int.injEq, D.str.injEq, D.bl.injEq, D.tup.injEq, D.lst.injEq, List.cons.injEq, exists_eq_left', exists_eq_left, exists_eq_right, and_true, true_and, OT.toD_fz, toD_map_fz, hIx_tup, hIx_lst, hIx_scr, hIx_mob, hIx_str, hIxT_fz, hIxT_ow, hAdd_int, hAdd_str, hAdd_tup, hAdd_lst, hMul_int, hMul_lst, hSl_tup, hSl_lst, hSl_str, hLen_lst, hLen_tup, hLen_scr, hLen_str, hLen_mob, hInt_int, hInt_bl, hAbs_int, hSeq_lst, hSeq_tup, hIn_lst, hIn_tup, hEq_eq, hI0_int, hI_int, ng_f, ng_t, atI_0, atI_1, atI_2, ofString_inj, eqv_str, eqv_txt, eqv_int, eqv_bl, eqv_tup, eqv_lst, eqOk_str, eqOk_int, eqOk_bl, eqOk_txt, decide_eq_true_eq, Nat.zero_lt_succ, exists_and_left, List.take_succ_cons, List.take_zero, List.drop_succ_cons, List.drop_zero, List.cons_append, List.nil_append, and_assoc, atI_map, Option.map_some, Nat.reduceAdd, Nat.reduceLT, Nat.reduceLeDiff, OT.toD_ow, List.map_cons, List.map_nil, D.mob.injEq, Mo.lst.injEq, Mem.put_same, Mem.put_put, ixN_30, ixN_32, ixN_10, exists_prop, fz_app, fz_inj, fz_snoc, OT.map_fz, List.length_map, List.length_append, List.append_nil, Nat.zero_add, cutL_1, items_tup, items_lst, items_scr, forD, compD, compS, comp2D, wipeE, D.isIn, List.any_cons, List.any_nil, String.reduceEq, D.plain, D.plains, D.dep, D.deps, Nat.max_self, Nat.min_self, Nat.zero_le, Nat.zero_min, Nat.min_zero, sizeLine_eq, forall_eq, exists_const, forall_const, kind_non, kind_bl, kind_int, kind_str, kind_lst, kind_tup, kind_dk, Kd.isa, reduceCtorEq, decide_false, decide_true, Bool.or_false, Bool.false_or, Bool.or_true, Bool.true_or, Bool.or_self, Bool.and_false, Bool.false_and, Bool.true_and, Bool.and_true, Bool.and_self, and_self, false_or, or_false, false_and, and_false, reduceIte, Bool.false_eq_true, Bool.not_eq_true, Bool.not_true, Bool.not_false, spTake]) | refine And.intro (by first | assumption | omega | decide) ?_ | omega | assumption)
  have hc3 : cst 3 = 540 := by decide
  have hpc : plCost = 6 * 542 := by decide
  generalize hhd : D.tup (zipD (words.map .str) (runs.map .str)) = heads
  refine forD_rec (fun ds ρ M' => ∃ (u v : Option OT) (j : Nat), ds.length + j = 6 ∧ ρ = [some (.fz (.mob p)), some (.fz (.lst (words.map .str))), some (.fz (.lst (runs.map .str))), some (.fz (.lst (marks.map .str))), some (.fz (.int back)), some (.fz heads), u, v] ∧ IsBox (n + j * 542) M' p) _ _ _
    ⟨none, none, 0, by rw [rngD_len]; decide, rfl, hB.mono (by omega)⟩ (fun ρ M' h => ?_) fun d ds ρ M' h C hC => ?_
  · obtain ⟨u, v, j, hj, rfl, hB1⟩ := h
    have e0 : atI runs 0 = some runs[0] := atI_nat (List.getElem?_eq_getElem (i := 0) (by omega))
    have m0 := List.length_pos_iff.mpr hm0
    have e1 : atI marks 0 = some marks[0] := atI_nat (List.getElem?_eq_getElem (i := 0) m0)
    (try simp only [seqS_M, startE_cons, startE_nil, List.length_cons, List.length_nil, List.length_replicate, List.length_set, List.replicate_succ, List.replicate_zero, List.getElem?_cons_zero, List.getElem?_cons_succ, List.set_cons_zero, List.set_cons_succ, Option.some.injEq, OT.fz.injEq, OT.ow.injEq, D.int.injEq, D.str.injEq, D.bl.injEq, D.tup.injEq, D.lst.injEq, List.cons.injEq, exists_eq_left', exists_eq_left, exists_eq_right, and_true, true_and, OT.toD_fz, toD_map_fz, hIx_tup, hIx_lst, hIx_scr, hIx_mob, hIx_str, hIxT_fz, hIxT_ow, hAdd_int, hAdd_str, hAdd_tup, hAdd_lst, hMul_int, hMul_lst, hSl_tup, hSl_lst, hSl_str, hLen_lst, hLen_tup, hLen_scr, hLen_str, hLen_mob, hInt_int, hInt_bl, hAbs_int, hSeq_lst, hSeq_tup, hIn_lst, hIn_tup, hEq_eq, hI0_int, hI_int, ng_f, ng_t, atI_0, atI_1, atI_2, ofString_inj, eqv_str, eqv_txt, eqv_int, eqv_bl, eqv_tup, eqv_lst, eqOk_str, eqOk_int, eqOk_bl, eqOk_txt, decide_eq_true_eq, Nat.zero_lt_succ, exists_and_left, List.take_succ_cons, List.take_zero, List.drop_succ_cons, List.drop_zero, List.cons_append, List.nil_append, and_assoc, atI_map, Option.map_some, Nat.reduceAdd, Nat.reduceLT, Nat.reduceLeDiff, OT.toD_ow, List.map_cons, List.map_nil, D.mob.injEq, Mo.lst.injEq, Mem.put_same, Mem.put_put, ixN_30, ixN_32, ixN_10, exists_prop, fz_app, fz_inj, fz_snoc, OT.map_fz, List.length_map, List.length_append, List.append_nil, Nat.zero_add, cutL_1, items_tup, items_lst, items_scr, forD, compD, compS, comp2D, wipeE, D.isIn, List.any_cons, List.any_nil, String.reduceEq, D.plain, D.plains, D.dep, D.deps, Nat.max_self, Nat.min_self, Nat.zero_le, Nat.zero_min, Nat.min_zero, sizeLine_eq, forall_eq, exists_const, forall_const, kind_non, kind_bl, kind_int, kind_str, kind_lst, kind_tup, kind_dk, Kd.isa, reduceCtorEq, decide_false, decide_true, Bool.or_false, Bool.false_or, Bool.or_true, Bool.true_or, Bool.or_self, Bool.and_false, Bool.false_and, Bool.true_and, Bool.and_true, Bool.and_self, and_self, false_or, or_false, false_and, and_false, reduceIte, Bool.false_eq_true, Bool.not_eq_true, Bool.not_true, Bool.not_false, e0, e1, spPlain]); repeat (first | (refine seq_in ?_; simp only [seqS_M, startE_cons, startE_nil, List.length_cons, List.length_nil, List.length_replicate, List.length_set, List.replicate_succ, List.replicate_zero, List.getElem?_cons_zero, List.getElem?_cons_succ, List.set_cons_zero, List.set_cons_succ, Option.some.injEq, OT.fz.injEq, OT.ow.injEq, D.int.injEq, D.str.injEq, D.bl.injEq, D.tup.injEq, D.lst.injEq, List.cons.injEq, exists_eq_left', exists_eq_left, exists_eq_right, and_true, true_and, OT.toD_fz, toD_map_fz, hIx_tup, hIx_lst, hIx_scr, hIx_mob, hIx_str, hIxT_fz, hIxT_ow, hAdd_int, hAdd_str, hAdd_tup, hAdd_lst, hMul_int, hMul_lst, hSl_tup, hSl_lst, hSl_str, hLen_lst, hLen_tup, hLen_scr, hLen_str, hLen_mob, hInt_int, hInt_bl, hAbs_int, hSeq_lst, hSeq_tup, hIn_lst, hIn_tup, hEq_eq, hI0_int, hI_int, ng_f, ng_t, atI_0, atI_1, atI_2, ofString_inj, eqv_str, eqv_txt, eqv_int, eqv_bl, eqv_tup, eqv_lst, eqOk_str, eqOk_int, eqOk_bl, eqOk_txt, decide_eq_true_eq, Nat.zero_lt_succ, exists_and_left, List.take_succ_cons, List.take_zero, List.drop_succ_cons, List.drop_zero, List.cons_append, List.nil_append, and_assoc, atI_map, Option.map_some, Nat.reduceAdd, Nat.reduceLT, Nat.reduceLeDiff, OT.toD_ow, List.map_cons, List.map_nil, D.mob.injEq, Mo.lst.injEq, Mem.put_same, Mem.put_put, ixN_30, ixN_32, ixN_10, exists_prop, fz_app, fz_inj, fz_snoc, OT.map_fz, List.length_map, List.length_append, List.append_nil, Nat.zero_add, cutL_1, items_tup, items_lst, items_scr, forD, compD, compS, comp2D, wipeE, D.isIn, List.any_cons, List.any_nil, String.reduceEq, D.plain, D.plains, D.dep, D.deps, Nat.max_self, Nat.min_self, Nat.zero_le, Nat.zero_min, Nat.min_zero, sizeLine_eq, forall_eq, exists_const, forall_const, kind_non, kind_bl, kind_int, kind_str, kind_lst, kind_tup, kind_dk, Kd.isa, reduceCtorEq, decide_false, decide_true, Bool.or_false, Bool.false_or, Bool.or_true, Bool.true_or, Bool.or_self, Bool.and_false, Bool.false_and, Bool.true_and, Bool.and_true, Bool.and_self, and_self, false_or, or_false, false_and, and_false, reduceIte, Bool.false_eq_true, Bool.not_eq_true, Bool.not_true, Bool.not_false, e0, e1, spPlain]) | refine And.intro (by first | assumption | omega | decide) ?_ | omega | assumption)
    refine ⟨.has runs[0] marks[0], ?_, Nat.zero_le _, ⟨hr2 _ (List.getElem_mem _), hm2 _ (List.getElem_mem _)⟩, by simp [Bd.parts], hB1.mono ?_⟩
    · unfold plD
      rw [hhd]
      rfl
    · show n + j * 542 ≤ n + plCost
      omega
  · obtain ⟨u, v, j, hj, rfl, hB1⟩ := h
    rw [List.length_cons] at hj
    (try simp only [seqS_M, startE_cons, startE_nil, List.length_cons, List.length_nil, List.length_replicate, List.length_set, List.replicate_succ, List.replicate_zero, List.getElem?_cons_zero, List.getElem?_cons_succ, List.set_cons_zero, List.set_cons_succ, Option.some.injEq, OT.fz.injEq, OT.ow.injEq, D.int.injEq, D.str.injEq, D.bl.injEq, D.tup.injEq, D.lst.injEq, List.cons.injEq, exists_eq_left', exists_eq_left, exists_eq_right, and_true, true_and, OT.toD_fz, toD_map_fz, hIx_tup, hIx_lst, hIx_scr, hIx_mob, hIx_str, hIxT_fz, hIxT_ow, hAdd_int, hAdd_str, hAdd_tup, hAdd_lst, hMul_int, hMul_lst, hSl_tup, hSl_lst, hSl_str, hLen_lst, hLen_tup, hLen_scr, hLen_str, hLen_mob, hInt_int, hInt_bl, hAbs_int, hSeq_lst, hSeq_tup, hIn_lst, hIn_tup, hEq_eq, hI0_int, hI_int, ng_f, ng_t, atI_0, atI_1, atI_2, ofString_inj, eqv_str, eqv_txt, eqv_int, eqv_bl, eqv_tup, eqv_lst, eqOk_str, eqOk_int, eqOk_bl, eqOk_txt, decide_eq_true_eq, Nat.zero_lt_succ, exists_and_left, List.take_succ_cons, List.take_zero, List.drop_succ_cons, List.drop_zero, List.cons_append, List.nil_append, and_assoc, atI_map, Option.map_some, Nat.reduceAdd, Nat.reduceLT, Nat.reduceLeDiff, OT.toD_ow, List.map_cons, List.map_nil, D.mob.injEq, Mo.lst.injEq, Mem.put_same, Mem.put_put, ixN_30, ixN_32, ixN_10, exists_prop, fz_app, fz_inj, fz_snoc, OT.map_fz, List.length_map, List.length_append, List.append_nil, Nat.zero_add, cutL_1, items_tup, items_lst, items_scr, forD, compD, compS, comp2D, wipeE, D.isIn, List.any_cons, List.any_nil, String.reduceEq, D.plain, D.plains, D.dep, D.deps, Nat.max_self, Nat.min_self, Nat.zero_le, Nat.zero_min, Nat.min_zero, sizeLine_eq, forall_eq, exists_const, forall_const, kind_non, kind_bl, kind_int, kind_str, kind_lst, kind_tup, kind_dk, Kd.isa, reduceCtorEq, decide_false, decide_true, Bool.or_false, Bool.false_or, Bool.or_true, Bool.true_or, Bool.or_self, Bool.and_false, Bool.false_and, Bool.true_and, Bool.and_true, Bool.and_self, and_self, false_or, or_false, false_and, and_false, reduceIte, Bool.false_eq_true, Bool.not_eq_true, Bool.not_true, Bool.not_false, spTake]); repeat (first | (refine seq_in ?_; simp only [seqS_M, startE_cons, startE_nil, List.length_cons, List.length_nil, List.length_replicate, List.length_set, List.replicate_succ, List.replicate_zero, List.getElem?_cons_zero, List.getElem?_cons_succ, List.set_cons_zero, List.set_cons_succ, Option.some.injEq, OT.fz.injEq, OT.ow.injEq, D.int.injEq, D.str.injEq, D.bl.injEq, D.tup.injEq, D.lst.injEq, List.cons.injEq, exists_eq_left', exists_eq_left, exists_eq_right, and_true, true_and, OT.toD_fz, toD_map_fz, hIx_tup, hIx_lst, hIx_scr, hIx_mob, hIx_str, hIxT_fz, hIxT_ow, hAdd_int, hAdd_str, hAdd_tup, hAdd_lst, hMul_int, hMul_lst, hSl_tup, hSl_lst, hSl_str, hLen_lst, hLen_tup, hLen_scr, hLen_str, hLen_mob, hInt_int, hInt_bl, hAbs_int, hSeq_lst, hSeq_tup, hIn_lst, hIn_tup, hEq_eq, hI0_int, hI_int, ng_f, ng_t, atI_0, atI_1, atI_2, ofString_inj, eqv_str, eqv_txt, eqv_int, eqv_bl, eqv_tup, eqv_lst, eqOk_str, eqOk_int, eqOk_bl, eqOk_txt, decide_eq_true_eq, Nat.zero_lt_succ, exists_and_left, List.take_succ_cons, List.take_zero, List.drop_succ_cons, List.drop_zero, List.cons_append, List.nil_append, and_assoc, atI_map, Option.map_some, Nat.reduceAdd, Nat.reduceLT, Nat.reduceLeDiff, OT.toD_ow, List.map_cons, List.map_nil, D.mob.injEq, Mo.lst.injEq, Mem.put_same, Mem.put_put, ixN_30, ixN_32, ixN_10, exists_prop, fz_app, fz_inj, fz_snoc, OT.map_fz, List.length_map, List.length_append, List.append_nil, Nat.zero_add, cutL_1, items_tup, items_lst, items_scr, forD, compD, compS, comp2D, wipeE, D.isIn, List.any_cons, List.any_nil, String.reduceEq, D.plain, D.plains, D.dep, D.deps, Nat.max_self, Nat.min_self, Nat.zero_le, Nat.zero_min, Nat.min_zero, sizeLine_eq, forall_eq, exists_const, forall_const, kind_non, kind_bl, kind_int, kind_str, kind_lst, kind_tup, kind_dk, Kd.isa, reduceCtorEq, decide_false, decide_true, Bool.or_false, Bool.false_or, Bool.or_true, Bool.true_or, Bool.or_self, Bool.and_false, Bool.false_and, Bool.true_and, Bool.and_true, Bool.and_self, and_self, false_or, or_false, false_and, and_false, reduceIte, Bool.false_eq_true, Bool.not_eq_true, Bool.not_true, Bool.not_false, spTake]) | refine And.intro (by first | assumption | omega | decide) ?_ | omega | assumption)
    refine take_at (by decide) (by decide) (by omega : n + j * 542 ≤ _) hB1 fun r M1 h0 h1 hB2 => ?_
    (try simp only [seqS_M, startE_cons, startE_nil, List.length_cons, List.length_nil, List.length_replicate, List.length_set, List.replicate_succ, List.replicate_zero, List.getElem?_cons_zero, List.getElem?_cons_succ, List.set_cons_zero, List.set_cons_succ, Option.some.injEq, OT.fz.injEq, OT.ow.injEq, D.int.injEq, D.str.injEq, D.bl.injEq, D.tup.injEq, D.lst.injEq, List.cons.injEq, exists_eq_left', exists_eq_left, exists_eq_right, and_true, true_and, OT.toD_fz, toD_map_fz, hIx_tup, hIx_lst, hIx_scr, hIx_mob, hIx_str, hIxT_fz, hIxT_ow, hAdd_int, hAdd_str, hAdd_tup, hAdd_lst, hMul_int, hMul_lst, hSl_tup, hSl_lst, hSl_str, hLen_lst, hLen_tup, hLen_scr, hLen_str, hLen_mob, hInt_int, hInt_bl, hAbs_int, hSeq_lst, hSeq_tup, hIn_lst, hIn_tup, hEq_eq, hI0_int, hI_int, ng_f, ng_t, atI_0, atI_1, atI_2, ofString_inj, eqv_str, eqv_txt, eqv_int, eqv_bl, eqv_tup, eqv_lst, eqOk_str, eqOk_int, eqOk_bl, eqOk_txt, decide_eq_true_eq, Nat.zero_lt_succ, exists_and_left, List.take_succ_cons, List.take_zero, List.drop_succ_cons, List.drop_zero, List.cons_append, List.nil_append, and_assoc, atI_map, Option.map_some, Nat.reduceAdd, Nat.reduceLT, Nat.reduceLeDiff, OT.toD_ow, List.map_cons, List.map_nil, D.mob.injEq, Mo.lst.injEq, Mem.put_same, Mem.put_put, ixN_30, ixN_32, ixN_10, exists_prop, fz_app, fz_inj, fz_snoc, OT.map_fz, List.length_map, List.length_append, List.append_nil, Nat.zero_add, cutL_1, items_tup, items_lst, items_scr, forD, compD, compS, comp2D, wipeE, D.isIn, List.any_cons, List.any_nil, String.reduceEq, D.plain, D.plains, D.dep, D.deps, Nat.max_self, Nat.min_self, Nat.zero_le, Nat.zero_min, Nat.min_zero, sizeLine_eq, forall_eq, exists_const, forall_const, kind_non, kind_bl, kind_int, kind_str, kind_lst, kind_tup, kind_dk, Kd.isa, reduceCtorEq, decide_false, decide_true, Bool.or_false, Bool.false_or, Bool.or_true, Bool.true_or, Bool.or_self, Bool.and_false, Bool.false_and, Bool.true_and, Bool.and_true, Bool.and_self, and_self, false_or, or_false, false_and, and_false, reduceIte, Bool.false_eq_true, Bool.not_eq_true, Bool.not_true, Bool.not_false, spTake]); repeat (first | (refine seq_in ?_; simp only [seqS_M, startE_cons, startE_nil, List.length_cons, List.length_nil, List.length_replicate, List.length_set, List.replicate_succ, List.replicate_zero, List.getElem?_cons_zero, List.getElem?_cons_succ, List.set_cons_zero, List.set_cons_succ, Option.some.injEq, OT.fz.injEq, OT.ow.injEq, D.int.injEq, D.str.injEq, D.bl.injEq, D.tup.injEq, D.lst.injEq, List.cons.injEq, exists_eq_left', exists_eq_left, exists_eq_right, and_true, true_and, OT.toD_fz, toD_map_fz, hIx_tup, hIx_lst, hIx_scr, hIx_mob, hIx_str, hIxT_fz, hIxT_ow, hAdd_int, hAdd_str, hAdd_tup, hAdd_lst, hMul_int, hMul_lst, hSl_tup, hSl_lst, hSl_str, hLen_lst, hLen_tup, hLen_scr, hLen_str, hLen_mob, hInt_int, hInt_bl, hAbs_int, hSeq_lst, hSeq_tup, hIn_lst, hIn_tup, hEq_eq, hI0_int, hI_int, ng_f, ng_t, atI_0, atI_1, atI_2, ofString_inj, eqv_str, eqv_txt, eqv_int, eqv_bl, eqv_tup, eqv_lst, eqOk_str, eqOk_int, eqOk_bl, eqOk_txt, decide_eq_true_eq, Nat.zero_lt_succ, exists_and_left, List.take_succ_cons, List.take_zero, List.drop_succ_cons, List.drop_zero, List.cons_append, List.nil_append, and_assoc, atI_map, Option.map_some, Nat.reduceAdd, Nat.reduceLT, Nat.reduceLeDiff, OT.toD_ow, List.map_cons, List.map_nil, D.mob.injEq, Mo.lst.injEq, Mem.put_same, Mem.put_put, ixN_30, ixN_32, ixN_10, exists_prop, fz_app, fz_inj, fz_snoc, OT.map_fz, List.length_map, List.length_append, List.append_nil, Nat.zero_add, cutL_1, items_tup, items_lst, items_scr, forD, compD, compS, comp2D, wipeE, D.isIn, List.any_cons, List.any_nil, String.reduceEq, D.plain, D.plains, D.dep, D.deps, Nat.max_self, Nat.min_self, Nat.zero_le, Nat.zero_min, Nat.min_zero, sizeLine_eq, forall_eq, exists_const, forall_const, kind_non, kind_bl, kind_int, kind_str, kind_lst, kind_tup, kind_dk, Kd.isa, reduceCtorEq, decide_false, decide_true, Bool.or_false, Bool.false_or, Bool.or_true, Bool.true_or, Bool.or_self, Bool.and_false, Bool.false_and, Bool.true_and, Bool.and_true, Bool.and_self, and_self, false_or, or_false, false_and, and_false, reduceIte, Bool.false_eq_true, Bool.not_eq_true, Bool.not_true, Bool.not_false, spTake]) | refine And.intro (by first | assumption | omega | decide) ?_ | omega | assumption)
    refine ⟨[.mob p, .lst (cutL (runs.map .str) none (some (words.length : Int))), .lst (marks.map .str), .int (1 + r)], [.int back], rfl, rfl, fun q hq => ?_⟩
    obtain ⟨e, rfl⟩ := Int.eq_ofNat_of_zero_le h0
    have hpq : p ≠ q := fun z => by obtain ⟨a, b, c, z1, _⟩ := hB2.is; rw [z, hq] at z1; cases z1
    have hB3 : IsBox (n + j * 542 + 1) (M1.put q (.lst [.int back])) p := hB2.is.put hpq
    have hcut : cutL (runs.map D.str) none (some (words.length : Int)) = (runs.take words.length).map .str := by
      unfold cutL
      rw [HT.sIx_nat, HT.sIx_none, List.length_map, List.map_take]
      simp
    have htl : (runs.take words.length).length = words.length := by rw [List.length_take]; omega
    have he3 : cst (e + 1) ≤ 540 := by rw [← hc3]; unfold cst; exact Nat.mul_le_mul_left _ (Nat.pow_le_pow_right (by decide) (by omega))
    have hpre : (spBody 4).pre ⟨p, q, runs.take words.length, marks, e + 1, n + j * 542 + 1⟩ (M1.put q (.lst [.int back])) [.mob p, .lst (cutL (runs.map .str) none (some (words.length : Int))), .lst (marks.map .str), .int (1 + (e : Int)), .mob q] := by
      refine ⟨?_, by show e + 1 < 4; omega, hpq, hB3, ⟨back, Mem.put_same⟩, ?_, hm0, ?_, hm1, fun x hx => hr2 x (List.mem_of_mem_take hx), hm2, ?_⟩
      · rw [hcut, show (1 + (e : Int)) = ((e + 1 : Nat) : Int) by omega]
      · intro z
        have := congrArg List.length (show runs.take words.length = [] from z)
        rw [htl, List.length_nil] at this
        omega
      · show (runs.take words.length).length ≤ 10
        omega
      · show n + j * 542 + 1 + cst (e + 1) ≤ 2 ^ 50
        omega
    refine ⟨_, hpre, ?_⟩
    rintro t M2 ⟨b, rfl, g1, g2, g3⟩
    have g1 : b.hgt ≤ e + 1 := g1
    have hB4 : IsBox (n + (j + 1) * 542) M2 p := (g3.box hpq).1.mono (by show n + j * 542 + 1 + cst (e + 1) ≤ _; omega)
    have s1 := parts_small (b := b) (by omega)
    (try simp only [seqS_M, startE_cons, startE_nil, List.length_cons, List.length_nil, List.length_replicate, List.length_set, List.replicate_succ, List.replicate_zero, List.getElem?_cons_zero, List.getElem?_cons_succ, List.set_cons_zero, List.set_cons_succ, Option.some.injEq, OT.fz.injEq, OT.ow.injEq, D.int.injEq, D.str.injEq, D.bl.injEq, D.tup.injEq, D.lst.injEq, List.cons.injEq, exists_eq_left', exists_eq_left, exists_eq_right, and_true, true_and, OT.toD_fz, toD_map_fz, hIx_tup, hIx_lst, hIx_scr, hIx_mob, hIx_str, hIxT_fz, hIxT_ow, hAdd_int, hAdd_str, hAdd_tup, hAdd_lst, hMul_int, hMul_lst, hSl_tup, hSl_lst, hSl_str, hLen_lst, hLen_tup, hLen_scr, hLen_str, hLen_mob, hInt_int, hInt_bl, hAbs_int, hSeq_lst, hSeq_tup, hIn_lst, hIn_tup, hEq_eq, hI0_int, hI_int, ng_f, ng_t, atI_0, atI_1, atI_2, ofString_inj, eqv_str, eqv_txt, eqv_int, eqv_bl, eqv_tup, eqv_lst, eqOk_str, eqOk_int, eqOk_bl, eqOk_txt, decide_eq_true_eq, Nat.zero_lt_succ, exists_and_left, List.take_succ_cons, List.take_zero, List.drop_succ_cons, List.drop_zero, List.cons_append, List.nil_append, and_assoc, atI_map, Option.map_some, Nat.reduceAdd, Nat.reduceLT, Nat.reduceLeDiff, OT.toD_ow, List.map_cons, List.map_nil, D.mob.injEq, Mo.lst.injEq, Mem.put_same, Mem.put_put, ixN_30, ixN_32, ixN_10, exists_prop, fz_app, fz_inj, fz_snoc, OT.map_fz, List.length_map, List.length_append, List.append_nil, Nat.zero_add, cutL_1, items_tup, items_lst, items_scr, forD, compD, compS, comp2D, wipeE, D.isIn, List.any_cons, List.any_nil, String.reduceEq, D.plain, D.plains, D.dep, D.deps, Nat.max_self, Nat.min_self, Nat.zero_le, Nat.zero_min, Nat.min_zero, sizeLine_eq, forall_eq, exists_const, forall_const, kind_non, kind_bl, kind_int, kind_str, kind_lst, kind_tup, kind_dk, Kd.isa, reduceCtorEq, decide_false, decide_true, Bool.or_false, Bool.false_or, Bool.or_true, Bool.true_or, Bool.or_self, Bool.and_false, Bool.false_and, Bool.true_and, Bool.and_true, Bool.and_self, and_self, false_or, or_false, false_and, and_false, reduceIte, Bool.false_eq_true, Bool.not_eq_true, Bool.not_true, Bool.not_false, spParts, DSpec.pure, pD_len, bd_inj]); repeat (first | (refine seq_in ?_; simp only [seqS_M, startE_cons, startE_nil, List.length_cons, List.length_nil, List.length_replicate, List.length_set, List.replicate_succ, List.replicate_zero, List.getElem?_cons_zero, List.getElem?_cons_succ, List.set_cons_zero, List.set_cons_succ, Option.some.injEq, OT.fz.injEq, OT.ow.injEq, D.int.injEq, D.str.injEq, D.bl.injEq, D.tup.injEq, D.lst.injEq, List.cons.injEq, exists_eq_left', exists_eq_left, exists_eq_right, and_true, true_and, OT.toD_fz, toD_map_fz, hIx_tup, hIx_lst, hIx_scr, hIx_mob, hIx_str, hIxT_fz, hIxT_ow, hAdd_int, hAdd_str, hAdd_tup, hAdd_lst, hMul_int, hMul_lst, hSl_tup, hSl_lst, hSl_str, hLen_lst, hLen_tup, hLen_scr, hLen_str, hLen_mob, hInt_int, hInt_bl, hAbs_int, hSeq_lst, hSeq_tup, hIn_lst, hIn_tup, hEq_eq, hI0_int, hI_int, ng_f, ng_t, atI_0, atI_1, atI_2, ofString_inj, eqv_str, eqv_txt, eqv_int, eqv_bl, eqv_tup, eqv_lst, eqOk_str, eqOk_int, eqOk_bl, eqOk_txt, decide_eq_true_eq, Nat.zero_lt_succ, exists_and_left, List.take_succ_cons, List.take_zero, List.drop_succ_cons, List.drop_zero, List.cons_append, List.nil_append, and_assoc, atI_map, Option.map_some, Nat.reduceAdd, Nat.reduceLT, Nat.reduceLeDiff, OT.toD_ow, List.map_cons, List.map_nil, D.mob.injEq, Mo.lst.injEq, Mem.put_same, Mem.put_put, ixN_30, ixN_32, ixN_10, exists_prop, fz_app, fz_inj, fz_snoc, OT.map_fz, List.length_map, List.length_append, List.append_nil, Nat.zero_add, cutL_1, items_tup, items_lst, items_scr, forD, compD, compS, comp2D, wipeE, D.isIn, List.any_cons, List.any_nil, String.reduceEq, D.plain, D.plains, D.dep, D.deps, Nat.max_self, Nat.min_self, Nat.zero_le, Nat.zero_min, Nat.min_zero, sizeLine_eq, forall_eq, exists_const, forall_const, kind_non, kind_bl, kind_int, kind_str, kind_lst, kind_tup, kind_dk, Kd.isa, reduceCtorEq, decide_false, decide_true, Bool.or_false, Bool.false_or, Bool.or_true, Bool.true_or, Bool.or_self, Bool.and_false, Bool.false_and, Bool.true_and, Bool.and_true, Bool.and_self, and_self, false_or, or_false, false_and, and_false, reduceIte, Bool.false_eq_true, Bool.not_eq_true, Bool.not_true, Bool.not_false, spParts, DSpec.pure, pD_len, bd_inj]) | refine And.intro (by first | assumption | omega | decide) ?_ | omega | assumption)
    split
    · (try simp only [seqS_M, startE_cons, startE_nil, List.length_cons, List.length_nil, List.length_replicate, List.length_set, List.replicate_succ, List.replicate_zero, List.getElem?_cons_zero, List.getElem?_cons_succ, List.set_cons_zero, List.set_cons_succ, Option.some.injEq, OT.fz.injEq, OT.ow.injEq, D.int.injEq, D.str.injEq, D.bl.injEq, D.tup.injEq, D.lst.injEq, List.cons.injEq, exists_eq_left', exists_eq_left, exists_eq_right, and_true, true_and, OT.toD_fz, toD_map_fz, hIx_tup, hIx_lst, hIx_scr, hIx_mob, hIx_str, hIxT_fz, hIxT_ow, hAdd_int, hAdd_str, hAdd_tup, hAdd_lst, hMul_int, hMul_lst, hSl_tup, hSl_lst, hSl_str, hLen_lst, hLen_tup, hLen_scr, hLen_str, hLen_mob, hInt_int, hInt_bl, hAbs_int, hSeq_lst, hSeq_tup, hIn_lst, hIn_tup, hEq_eq, hI0_int, hI_int, ng_f, ng_t, atI_0, atI_1, atI_2, ofString_inj, eqv_str, eqv_txt, eqv_int, eqv_bl, eqv_tup, eqv_lst, eqOk_str, eqOk_int, eqOk_bl, eqOk_txt, decide_eq_true_eq, Nat.zero_lt_succ, exists_and_left, List.take_succ_cons, List.take_zero, List.drop_succ_cons, List.drop_zero, List.cons_append, List.nil_append, and_assoc, atI_map, Option.map_some, Nat.reduceAdd, Nat.reduceLT, Nat.reduceLeDiff, OT.toD_ow, List.map_cons, List.map_nil, D.mob.injEq, Mo.lst.injEq, Mem.put_same, Mem.put_put, ixN_30, ixN_32, ixN_10, exists_prop, fz_app, fz_inj, fz_snoc, OT.map_fz, List.length_map, List.length_append, List.append_nil, Nat.zero_add, cutL_1, items_tup, items_lst, items_scr, forD, compD, compS, comp2D, wipeE, D.isIn, List.any_cons, List.any_nil, String.reduceEq, D.plain, D.plains, D.dep, D.deps, Nat.max_self, Nat.min_self, Nat.zero_le, Nat.zero_min, Nat.min_zero, sizeLine_eq, forall_eq, exists_const, forall_const, kind_non, kind_bl, kind_int, kind_str, kind_lst, kind_tup, kind_dk, Kd.isa, reduceCtorEq, decide_false, decide_true, Bool.or_false, Bool.false_or, Bool.or_true, Bool.true_or, Bool.or_self, Bool.and_false, Bool.false_and, Bool.true_and, Bool.and_true, Bool.and_self, and_self, false_or, or_false, false_and, and_false, reduceIte, Bool.false_eq_true, Bool.not_eq_true, Bool.not_true, Bool.not_false, spPlain]); repeat (first | (refine seq_in ?_; simp only [seqS_M, startE_cons, startE_nil, List.length_cons, List.length_nil, List.length_replicate, List.length_set, List.replicate_succ, List.replicate_zero, List.getElem?_cons_zero, List.getElem?_cons_succ, List.set_cons_zero, List.set_cons_succ, Option.some.injEq, OT.fz.injEq, OT.ow.injEq, D.int.injEq, D.str.injEq, D.bl.injEq, D.tup.injEq, D.lst.injEq, List.cons.injEq, exists_eq_left', exists_eq_left, exists_eq_right, and_true, true_and, OT.toD_fz, toD_map_fz, hIx_tup, hIx_lst, hIx_scr, hIx_mob, hIx_str, hIxT_fz, hIxT_ow, hAdd_int, hAdd_str, hAdd_tup, hAdd_lst, hMul_int, hMul_lst, hSl_tup, hSl_lst, hSl_str, hLen_lst, hLen_tup, hLen_scr, hLen_str, hLen_mob, hInt_int, hInt_bl, hAbs_int, hSeq_lst, hSeq_tup, hIn_lst, hIn_tup, hEq_eq, hI0_int, hI_int, ng_f, ng_t, atI_0, atI_1, atI_2, ofString_inj, eqv_str, eqv_txt, eqv_int, eqv_bl, eqv_tup, eqv_lst, eqOk_str, eqOk_int, eqOk_bl, eqOk_txt, decide_eq_true_eq, Nat.zero_lt_succ, exists_and_left, List.take_succ_cons, List.take_zero, List.drop_succ_cons, List.drop_zero, List.cons_append, List.nil_append, and_assoc, atI_map, Option.map_some, Nat.reduceAdd, Nat.reduceLT, Nat.reduceLeDiff, OT.toD_ow, List.map_cons, List.map_nil, D.mob.injEq, Mo.lst.injEq, Mem.put_same, Mem.put_put, ixN_30, ixN_32, ixN_10, exists_prop, fz_app, fz_inj, fz_snoc, OT.map_fz, List.length_map, List.length_append, List.append_nil, Nat.zero_add, cutL_1, items_tup, items_lst, items_scr, forD, compD, compS, comp2D, wipeE, D.isIn, List.any_cons, List.any_nil, String.reduceEq, D.plain, D.plains, D.dep, D.deps, Nat.max_self, Nat.min_self, Nat.zero_le, Nat.zero_min, Nat.min_zero, sizeLine_eq, forall_eq, exists_const, forall_const, kind_non, kind_bl, kind_int, kind_str, kind_lst, kind_tup, kind_dk, Kd.isa, reduceCtorEq, decide_false, decide_true, Bool.or_false, Bool.false_or, Bool.or_true, Bool.true_or, Bool.or_self, Bool.and_false, Bool.false_and, Bool.true_and, Bool.and_true, Bool.and_self, and_self, false_or, or_false, false_and, and_false, reduceIte, Bool.false_eq_true, Bool.not_eq_true, Bool.not_true, Bool.not_false, spPlain]) | refine And.intro (by first | assumption | omega | decide) ?_ | omega | assumption)
      refine ⟨b, ?_, by omega, g2, by omega, hB4.mono ?_⟩
      · unfold plD
        rw [hhd]
      · show n + (j + 1) * 542 ≤ n + plCost
        omega
    · exact hC _ _ ⟨_, _, j + 1, by omega, rfl, hB4⟩
end
end DL

namespace DL
open PySem L2 PySem.Spec
open PyProof.Rows hiding St
set_option autoImplicit false
section
variable {P : Program} {w : World} {K : PySem.W.Frag} {mg : Str → Option Value} {base : Heap}
def wordSets : List (List Str) := [["all"], ["all", "all"], ["some"], ["some", "some"], ["all", "some"], ["some", "all"], ["all", "all", "some"], ["all", "some", "some"], ["all", "all", "all"], ["some", "all", "all"]]
def drCost : Nat := 60 + plCost
def spDrawn : DSpec := ⟨Addr × Nat, fun i M ds => ds = [.mob i.1] ∧ IsBox i.2 M i.1 ∧ i.2 + drCost ≤ 2 ^ 50,
  fun i M t M' => ∃ (ws runs : List Str) (b : Bd), t = .fz (plD ws runs b) ∧ ws ∈ wordSets ∧ runs.length = 3 ∧ (∀ x ∈ runs, x.length ≤ 8) ∧ b.hgt ≤ 3 ∧ b.ok ∧ b.parts.length < 13 ∧ IsBox (i.2 + drCost) M' i.1⟩
theorem names_at {M : Mem} {p : Addr} {size : Int} {n : Nat} {Q : OT → Mem → Prop} (h1 : 0 ≤ size) (h2 : size ≤ 26) (hn : n + 20 ≤ 2 ^ 50) (hB : IsBox n M p) (k : ∀ (xs : List Str) M', (xs.length : Int) = size → (∀ x ∈ xs, Low x ∧ x.length ≤ 8) → BoxTo p (n + 20) M M' → Q (.ow ((xs.map .str).map .fz)) M') :
    ∃ i, spNames.pre i M [.mob p, .int size] ∧ ∀ t M', spNames.post i M t M' → Q t M' :=
  ⟨⟨p, size, n⟩, ⟨rfl, h1, h2, hn, hB⟩, fun t M' ⟨xs, e, l, h, hB'⟩ => by subst e; exact k xs M' l h hB'⟩
theorem ok_drawn (T : Tx K mg) : DF P w K mg base s_law_drawn "_law_drawn" ["box"] 23 spDrawn := by
  have F_law_take := ok_take (P := P) (w := w) (base := base) T
  have F_law_names := ok_names (P := P) (w := w) (base := base) T
  have F_law_of := ok_of (P := P) (w := w) (base := base) T
  have F_law_plain := ok_plain (P := P) (w := w) (base := base) T
  obtain ⟨f, fd, hm, F, hb⟩ := T.d_law_drawn
  refine ⟨f, fd, hm, F, hb, fn_dl F sc_law_drawn ?_⟩
  rintro X M ds ⟨p, n⟩ ⟨cdv, A, outer, s0, H0, E, rfl⟩ hr hl ⟨rfl, hB, hn⟩
  refine ⟨_, (dss_cons (ds_par (i := 1) (j := 2) rfl sc_law_drawn.nd (ao_cons (ED.o (EO.d (eo_call (DF.mono F_law_names (by first | omega | decide)) hr (ad_cons (ed_var 0) (ad_cons ed_int ad_nil))))) (ao_cons (ED.o (EO.d (eo_sortedS T.z_sorted (ad_cons (EO.d (eo_call (DF.mono F_law_names (by first | omega | decide)) hr (ad_cons (ed_var 0) (ad_cons (EO.d (eo_add ed_int (EO.d (eo_call (DF.mono F_law_take (by first | omega | decide)) hr (ad_cons (ed_var 0) (ad_cons ed_int ad_nil)))))) ad_nil)))) ad_nil)))) ao_nil))) (dss_cons (ds_set 3 sc_law_drawn.nd (EO.d (eo_call (DF.mono F_law_of (by first | omega | decide)) hr (ad_cons (ed_var 0) (ad_cons (EO.d (eo_lst (ao_cons (eo_lst (ao_cons (ED.o ed_str) ao_nil)) (ao_cons (eo_lst (ao_cons (ED.o ed_str) (ao_cons (ED.o ed_str) ao_nil))) (ao_cons (eo_lst (ao_cons (ED.o ed_str) ao_nil)) (ao_cons (eo_lst (ao_cons (ED.o ed_str) (ao_cons (ED.o ed_str) ao_nil))) (ao_cons (eo_lst (ao_cons (ED.o ed_str) (ao_cons (ED.o ed_str) ao_nil))) (ao_cons (eo_lst (ao_cons (ED.o ed_str) (ao_cons (ED.o ed_str) ao_nil))) (ao_cons (eo_lst (ao_cons (ED.o ed_str) (ao_cons (ED.o ed_str) (ao_cons (ED.o ed_str) ao_nil)))) (ao_cons (eo_lst (ao_cons (ED.o ed_str) (ao_cons (ED.o ed_str) (ao_cons (ED.o ed_str) ao_nil)))) (ao_cons (eo_mul (EO.d (eo_lst (ao_cons (ED.o ed_str) ao_nil))) ed_int) (ao_cons (eo_lst (ao_cons (ED.o ed_str) (ao_cons (ED.o ed_str) (ao_cons (ED.o ed_str) ao_nil)))) ao_nil)))))))))))) ad_nil))))) (dss_cons (ds_ret (eo_call (DF.mono F_law_plain (by first | omega | decide)) hr (ad_cons (ed_var 0) (ad_cons (ed_var 3) (ad_cons (ed_var 1) (ad_cons (ed_var 2) (ad_cons (EO.d (eo_call (DF.mono F_law_take (by first | omega | decide)) hr (ad_cons (ed_var 0) (ad_cons ed_int ad_nil)))) ad_nil))))))) dss_nil))), ?_⟩
  replace hB : IsBox n M p := hB
  replace hn : n + drCost ≤ 2 ^ 50 := hn
  have hdc : drCost = 60 + plCost := rfl
  (try simp only [seqS_M, startE_cons, startE_nil, List.length_cons, List.length_nil, List.length_replicate, List.length_set, List.replicate_succ, List.replicate_zero, List.getElem?_cons_zero, List.getElem?_cons_succ, List.set_cons_zero, List.set_cons_succ, Option.some.injEq, OT.fz.injEq, OT.ow.injEq, D.int.injEq, D.str.injEq, D.bl.injEq, D.tup.injEq, D.lst.injEq, List.cons.injEq, exists_eq_left', exists_eq_left, exists_eq_right, and_true, true_and, OT.toD_fz, toD_map_fz, hIx_tup, hIx_lst, hIx_scr, hIx_mob, hIx_str, hIxT_fz, hIxT_ow, hAdd_int, hAdd_str, hAdd_tup, hAdd_lst, hMul_int, hMul_lst, hSl_tup, hSl_lst, hSl_str, hLen_lst, hLen_tup, hLen_scr, hLen_str, hLen_mob, hInt_int, hInt_bl, hAbs_int, hSeq_lst, hSeq_tup, hIn_lst, hIn_tup, hEq_eq, hI0_int, hI_int, ng_f, ng_t, atI_0, atI_1, atI_2, ofString_inj, eqv_str, eqv_txt, eqv_int, eqv_bl, eqv_tup, eqv_lst, eqOk_str, eqOk_int, eqOk_bl, eqOk_txt, decide_eq_true_eq, Nat.zero_lt_succ, exists_and_left, List.take_succ_cons, List.take_zero, List.drop_succ_cons, List.drop_zero, List.cons_append, List.nil_append, and_assoc, atI_map, Option.map_some, Nat.reduceAdd, Nat.reduceLT, Nat.reduceLeDiff, OT.toD_ow, List.map_cons, List.map_nil, D.mob.injEq, Mo.lst.injEq, Mem.put_same, Mem.put_put, ixN_30, ixN_32, ixN_10, exists_prop, fz_app, fz_inj, fz_snoc, OT.map_fz, List.length_map, List.length_append, List.append_nil, Nat.zero_add, cutL_1, items_tup, items_lst, items_scr, forD, compD, compS, comp2D, wipeE, D.isIn, List.any_cons, List.any_nil, String.reduceEq, D.plain, D.plains, D.dep, D.deps, Nat.max_self, Nat.min_self, Nat.zero_le, Nat.zero_min, Nat.min_zero, sizeLine_eq, forall_eq, exists_const, forall_const, kind_non, kind_bl, kind_int, kind_str, kind_lst, kind_tup, kind_dk, Kd.isa, reduceCtorEq, decide_false, decide_true, Bool.or_false, Bool.false_or, Bool.or_true, Bool.true_or, Bool.or_self, Bool.and_false, Bool.false_and, Bool.true_and, Bool.and_true, Bool.and_self, and_self, false_or, or_false, false_and, and_false, reduceIte, Bool.false_eq_true, Bool.not_eq_true, Bool.not_true, Bool.not_false, spTake]); repeat (first | (refine seq_in ?_; simp only [seqS_M, startE_cons, startE_nil, List.length_cons, List.length_nil, List.length_replicate, List.length_set, List.replicate_succ, List.replicate_zero, List.getElem?_cons_zero, List.getElem?_cons_succ, List.set_cons_zero, List.set_cons_succ, Option.some.injEq, OT.fz.injEq, OT.ow.injEq, D.int.injEq, D.str.injEq, D.bl.injEq, D.tup.injEq, D.lst.injEq, List.cons.injEq, exists_eq_left', exists_eq_left, exists_eq_right, and_true, true_and, OT.toD_fz, toD_map_fz, hIx_tup, hIx_lst, hIx_scr, hIx_mob, hIx_str, hIxT_fz, hIxT_ow, hAdd_int, hAdd_str, hAdd_tup, hAdd_lst, hMul_int, hMul_lst, hSl_tup, hSl_lst, hSl_str, hLen_lst, hLen_tup, hLen_scr, hLen_str, hLen_mob, hInt_int, hInt_bl, hAbs_int, hSeq_lst, hSeq_tup, hIn_lst, hIn_tup, hEq_eq, hI0_int, hI_int, ng_f, ng_t, atI_0, atI_1, atI_2, ofString_inj, eqv_str, eqv_txt, eqv_int, eqv_bl, eqv_tup, eqv_lst, eqOk_str, eqOk_int, eqOk_bl, eqOk_txt, decide_eq_true_eq, Nat.zero_lt_succ, exists_and_left, List.take_succ_cons, List.take_zero, List.drop_succ_cons, List.drop_zero, List.cons_append, List.nil_append, and_assoc, atI_map, Option.map_some, Nat.reduceAdd, Nat.reduceLT, Nat.reduceLeDiff, OT.toD_ow, List.map_cons, List.map_nil, D.mob.injEq, Mo.lst.injEq, Mem.put_same, Mem.put_put, ixN_30, ixN_32, ixN_10, exists_prop, fz_app, fz_inj, fz_snoc, OT.map_fz, List.length_map, List.length_append, List.append_nil, Nat.zero_add, cutL_1, items_tup, items_lst, items_scr, forD, compD, compS, comp2D, wipeE, D.isIn, List.any_cons, List.any_nil, String.reduceEq, D.plain, D.plains, D.dep, D.deps, Nat.max_self, Nat.min_self, Nat.zero_le, Nat.zero_min, Nat.min_zero, sizeLine_eq, forall_eq, exists_const, forall_const, kind_non, kind_bl, kind_int, kind_str, kind_lst, kind_tup, kind_dk, Kd.isa, reduceCtorEq, decide_false, decide_true, Bool.or_false, Bool.false_or, Bool.or_true, Bool.true_or, Bool.or_self, Bool.and_false, Bool.false_and, Bool.true_and, Bool.and_true, Bool.and_self, and_self, false_or, or_false, false_and, and_false, reduceIte, Bool.false_eq_true, Bool.not_eq_true, Bool.not_true, Bool.not_false, spTake]) | refine And.intro (by first | assumption | omega | decide) ?_ | omega | assumption)
  refine names_at (by decide) (by decide) (by omega : n + 20 ≤ _) hB fun runs M1 hrl hr2 hB1 => ?_
  refine take_at (by decide) (by decide) (by omega : n + 20 ≤ _) hB1.is fun r M2 h0 h1 hB2 => ?_
  (try simp only [seqS_M, startE_cons, startE_nil, List.length_cons, List.length_nil, List.length_replicate, List.length_set, List.replicate_succ, List.replicate_zero, List.getElem?_cons_zero, List.getElem?_cons_succ, List.set_cons_zero, List.set_cons_succ, Option.some.injEq, OT.fz.injEq, OT.ow.injEq, D.int.injEq, D.str.injEq, D.bl.injEq, D.tup.injEq, D.lst.injEq, List.cons.injEq, exists_eq_left', exists_eq_left, exists_eq_right, and_true, true_and, OT.toD_fz, toD_map_fz, hIx_tup, hIx_lst, hIx_scr, hIx_mob, hIx_str, hIxT_fz, hIxT_ow, hAdd_int, hAdd_str, hAdd_tup, hAdd_lst, hMul_int, hMul_lst, hSl_tup, hSl_lst, hSl_str, hLen_lst, hLen_tup, hLen_scr, hLen_str, hLen_mob, hInt_int, hInt_bl, hAbs_int, hSeq_lst, hSeq_tup, hIn_lst, hIn_tup, hEq_eq, hI0_int, hI_int, ng_f, ng_t, atI_0, atI_1, atI_2, ofString_inj, eqv_str, eqv_txt, eqv_int, eqv_bl, eqv_tup, eqv_lst, eqOk_str, eqOk_int, eqOk_bl, eqOk_txt, decide_eq_true_eq, Nat.zero_lt_succ, exists_and_left, List.take_succ_cons, List.take_zero, List.drop_succ_cons, List.drop_zero, List.cons_append, List.nil_append, and_assoc, atI_map, Option.map_some, Nat.reduceAdd, Nat.reduceLT, Nat.reduceLeDiff, OT.toD_ow, List.map_cons, List.map_nil, D.mob.injEq, Mo.lst.injEq, Mem.put_same, Mem.put_put, ixN_30, ixN_32, ixN_10, exists_prop, fz_app, fz_inj, fz_snoc, OT.map_fz, List.length_map, List.length_append, List.append_nil, Nat.zero_add, cutL_1, items_tup, items_lst, items_scr, forD, compD, compS, comp2D, wipeE, D.isIn, List.any_cons, List.any_nil, String.reduceEq, D.plain, D.plains, D.dep, D.deps, Nat.max_self, Nat.min_self, Nat.zero_le, Nat.zero_min, Nat.min_zero, sizeLine_eq, forall_eq, exists_const, forall_const, kind_non, kind_bl, kind_int, kind_str, kind_lst, kind_tup, kind_dk, Kd.isa, reduceCtorEq, decide_false, decide_true, Bool.or_false, Bool.false_or, Bool.or_true, Bool.true_or, Bool.or_self, Bool.and_false, Bool.false_and, Bool.true_and, Bool.and_true, Bool.and_self, and_self, false_or, or_false, false_and, and_false, reduceIte, Bool.false_eq_true, Bool.not_eq_true, Bool.not_true, Bool.not_false, spTake]); repeat (first | (refine seq_in ?_; simp only [seqS_M, startE_cons, startE_nil, List.length_cons, List.length_nil, List.length_replicate, List.length_set, List.replicate_succ, List.replicate_zero, List.getElem?_cons_zero, List.getElem?_cons_succ, List.set_cons_zero, List.set_cons_succ, Option.some.injEq, OT.fz.injEq, OT.ow.injEq, D.int.injEq, D.str.injEq, D.bl.injEq, D.tup.injEq, D.lst.injEq, List.cons.injEq, exists_eq_left', exists_eq_left, exists_eq_right, and_true, true_and, OT.toD_fz, toD_map_fz, hIx_tup, hIx_lst, hIx_scr, hIx_mob, hIx_str, hIxT_fz, hIxT_ow, hAdd_int, hAdd_str, hAdd_tup, hAdd_lst, hMul_int, hMul_lst, hSl_tup, hSl_lst, hSl_str, hLen_lst, hLen_tup, hLen_scr, hLen_str, hLen_mob, hInt_int, hInt_bl, hAbs_int, hSeq_lst, hSeq_tup, hIn_lst, hIn_tup, hEq_eq, hI0_int, hI_int, ng_f, ng_t, atI_0, atI_1, atI_2, ofString_inj, eqv_str, eqv_txt, eqv_int, eqv_bl, eqv_tup, eqv_lst, eqOk_str, eqOk_int, eqOk_bl, eqOk_txt, decide_eq_true_eq, Nat.zero_lt_succ, exists_and_left, List.take_succ_cons, List.take_zero, List.drop_succ_cons, List.drop_zero, List.cons_append, List.nil_append, and_assoc, atI_map, Option.map_some, Nat.reduceAdd, Nat.reduceLT, Nat.reduceLeDiff, OT.toD_ow, List.map_cons, List.map_nil, D.mob.injEq, Mo.lst.injEq, Mem.put_same, Mem.put_put, ixN_30, ixN_32, ixN_10, exists_prop, fz_app, fz_inj, fz_snoc, OT.map_fz, List.length_map, List.length_append, List.append_nil, Nat.zero_add, cutL_1, items_tup, items_lst, items_scr, forD, compD, compS, comp2D, wipeE, D.isIn, List.any_cons, List.any_nil, String.reduceEq, D.plain, D.plains, D.dep, D.deps, Nat.max_self, Nat.min_self, Nat.zero_le, Nat.zero_min, Nat.min_zero, sizeLine_eq, forall_eq, exists_const, forall_const, kind_non, kind_bl, kind_int, kind_str, kind_lst, kind_tup, kind_dk, Kd.isa, reduceCtorEq, decide_false, decide_true, Bool.or_false, Bool.false_or, Bool.or_true, Bool.true_or, Bool.or_self, Bool.and_false, Bool.false_and, Bool.true_and, Bool.and_true, Bool.and_self, and_self, false_or, or_false, false_and, and_false, reduceIte, Bool.false_eq_true, Bool.not_eq_true, Bool.not_true, Bool.not_false, spTake]) | refine And.intro (by first | assumption | omega | decide) ?_ | omega | assumption)
  refine names_at (by omega) (by omega) (by omega : n + 21 + 20 ≤ _) hB2.is fun marks M3 hml hm2 hB3 => ?_
  (try simp only [seqS_M, startE_cons, startE_nil, List.length_cons, List.length_nil, List.length_replicate, List.length_set, List.replicate_succ, List.replicate_zero, List.getElem?_cons_zero, List.getElem?_cons_succ, List.set_cons_zero, List.set_cons_succ, Option.some.injEq, OT.fz.injEq, OT.ow.injEq, D.int.injEq, D.str.injEq, D.bl.injEq, D.tup.injEq, D.lst.injEq, List.cons.injEq, exists_eq_left', exists_eq_left, exists_eq_right, and_true, true_and, OT.toD_fz, toD_map_fz, hIx_tup, hIx_lst, hIx_scr, hIx_mob, hIx_str, hIxT_fz, hIxT_ow, hAdd_int, hAdd_str, hAdd_tup, hAdd_lst, hMul_int, hMul_lst, hSl_tup, hSl_lst, hSl_str, hLen_lst, hLen_tup, hLen_scr, hLen_str, hLen_mob, hInt_int, hInt_bl, hAbs_int, hSeq_lst, hSeq_tup, hIn_lst, hIn_tup, hEq_eq, hI0_int, hI_int, ng_f, ng_t, atI_0, atI_1, atI_2, ofString_inj, eqv_str, eqv_txt, eqv_int, eqv_bl, eqv_tup, eqv_lst, eqOk_str, eqOk_int, eqOk_bl, eqOk_txt, decide_eq_true_eq, Nat.zero_lt_succ, exists_and_left, List.take_succ_cons, List.take_zero, List.drop_succ_cons, List.drop_zero, List.cons_append, List.nil_append, and_assoc, atI_map, Option.map_some, Nat.reduceAdd, Nat.reduceLT, Nat.reduceLeDiff, OT.toD_ow, List.map_cons, List.map_nil, D.mob.injEq, Mo.lst.injEq, Mem.put_same, Mem.put_put, ixN_30, ixN_32, ixN_10, exists_prop, fz_app, fz_inj, fz_snoc, OT.map_fz, List.length_map, List.length_append, List.append_nil, Nat.zero_add, cutL_1, items_tup, items_lst, items_scr, forD, compD, compS, comp2D, wipeE, D.isIn, List.any_cons, List.any_nil, String.reduceEq, D.plain, D.plains, D.dep, D.deps, Nat.max_self, Nat.min_self, Nat.zero_le, Nat.zero_min, Nat.min_zero, sizeLine_eq, forall_eq, exists_const, forall_const, kind_non, kind_bl, kind_int, kind_str, kind_lst, kind_tup, kind_dk, Kd.isa, reduceCtorEq, decide_false, decide_true, Bool.or_false, Bool.false_or, Bool.or_true, Bool.true_or, Bool.or_self, Bool.and_false, Bool.false_and, Bool.true_and, Bool.and_true, Bool.and_self, and_self, false_or, or_false, false_and, and_false, reduceIte, Bool.false_eq_true, Bool.not_eq_true, Bool.not_true, Bool.not_false, spTake]); repeat (first | (refine seq_in ?_; simp only [seqS_M, startE_cons, startE_nil, List.length_cons, List.length_nil, List.length_replicate, List.length_set, List.replicate_succ, List.replicate_zero, List.getElem?_cons_zero, List.getElem?_cons_succ, List.set_cons_zero, List.set_cons_succ, Option.some.injEq, OT.fz.injEq, OT.ow.injEq, D.int.injEq, D.str.injEq, D.bl.injEq, D.tup.injEq, D.lst.injEq, List.cons.injEq, exists_eq_left', exists_eq_left, exists_eq_right, and_true, true_and, OT.toD_fz, toD_map_fz, hIx_tup, hIx_lst, hIx_scr, hIx_mob, hIx_str, hIxT_fz, hIxT_ow, hAdd_int, hAdd_str, hAdd_tup, hAdd_lst, hMul_int, hMul_lst, hSl_tup, hSl_lst, hSl_str, hLen_lst, hLen_tup, hLen_scr, hLen_str, hLen_mob, hInt_int, hInt_bl, hAbs_int, hSeq_lst, hSeq_tup, hIn_lst, hIn_tup, hEq_eq, hI0_int, hI_int, ng_f, ng_t, atI_0, atI_1, atI_2, ofString_inj, eqv_str, eqv_txt, eqv_int, eqv_bl, eqv_tup, eqv_lst, eqOk_str, eqOk_int, eqOk_bl, eqOk_txt, decide_eq_true_eq, Nat.zero_lt_succ, exists_and_left, List.take_succ_cons, List.take_zero, List.drop_succ_cons, List.drop_zero, List.cons_append, List.nil_append, and_assoc, atI_map, Option.map_some, Nat.reduceAdd, Nat.reduceLT, Nat.reduceLeDiff, OT.toD_ow, List.map_cons, List.map_nil, D.mob.injEq, Mo.lst.injEq, Mem.put_same, Mem.put_put, ixN_30, ixN_32, ixN_10, exists_prop, fz_app, fz_inj, fz_snoc, OT.map_fz, List.length_map, List.length_append, List.append_nil, Nat.zero_add, cutL_1, items_tup, items_lst, items_scr, forD, compD, compS, comp2D, wipeE, D.isIn, List.any_cons, List.any_nil, String.reduceEq, D.plain, D.plains, D.dep, D.deps, Nat.max_self, Nat.min_self, Nat.zero_le, Nat.zero_min, Nat.min_zero, sizeLine_eq, forall_eq, exists_const, forall_const, kind_non, kind_bl, kind_int, kind_str, kind_lst, kind_tup, kind_dk, Kd.isa, reduceCtorEq, decide_false, decide_true, Bool.or_false, Bool.false_or, Bool.or_true, Bool.true_or, Bool.or_self, Bool.and_false, Bool.false_and, Bool.true_and, Bool.and_true, Bool.and_self, and_self, false_or, or_false, false_and, and_false, reduceIte, Bool.false_eq_true, Bool.not_eq_true, Bool.not_true, Bool.not_false, spTake]) | refine And.intro (by first | assumption | omega | decide) ?_ | omega | assumption)
  refine ⟨marks, rfl, by omega, fun zs hp hs => ?_⟩
  have hz : ∀ z ∈ zs, z.length ≤ 8 := fun z hz => (hm2 z (hp.mem_iff.mp hz)).2
  have hzl : zs.length = marks.length := hp.length_eq
  have hz0 : zs ≠ [] := fun q => by rw [q, List.length_nil] at hzl; omega
  have rep3 : repD [D.str (Str.ofString "all")] 3 = [.str "all", .str "all", .str "all"] := rfl
  (try simp only [seqS_M, startE_cons, startE_nil, List.length_cons, List.length_nil, List.length_replicate, List.length_set, List.replicate_succ, List.replicate_zero, List.getElem?_cons_zero, List.getElem?_cons_succ, List.set_cons_zero, List.set_cons_succ, Option.some.injEq, OT.fz.injEq, OT.ow.injEq, D.int.injEq, D.str.injEq, D.bl.injEq, D.tup.injEq, D.lst.injEq, List.cons.injEq, exists_eq_left', exists_eq_left, exists_eq_right, and_true, true_and, OT.toD_fz, toD_map_fz, hIx_tup, hIx_lst, hIx_scr, hIx_mob, hIx_str, hIxT_fz, hIxT_ow, hAdd_int, hAdd_str, hAdd_tup, hAdd_lst, hMul_int, hMul_lst, hSl_tup, hSl_lst, hSl_str, hLen_lst, hLen_tup, hLen_scr, hLen_str, hLen_mob, hInt_int, hInt_bl, hAbs_int, hSeq_lst, hSeq_tup, hIn_lst, hIn_tup, hEq_eq, hI0_int, hI_int, ng_f, ng_t, atI_0, atI_1, atI_2, ofString_inj, eqv_str, eqv_txt, eqv_int, eqv_bl, eqv_tup, eqv_lst, eqOk_str, eqOk_int, eqOk_bl, eqOk_txt, decide_eq_true_eq, Nat.zero_lt_succ, exists_and_left, List.take_succ_cons, List.take_zero, List.drop_succ_cons, List.drop_zero, List.cons_append, List.nil_append, and_assoc, atI_map, Option.map_some, Nat.reduceAdd, Nat.reduceLT, Nat.reduceLeDiff, OT.toD_ow, List.map_cons, List.map_nil, D.mob.injEq, Mo.lst.injEq, Mem.put_same, Mem.put_put, ixN_30, ixN_32, ixN_10, exists_prop, fz_app, fz_inj, fz_snoc, OT.map_fz, List.length_map, List.length_append, List.append_nil, Nat.zero_add, cutL_1, items_tup, items_lst, items_scr, forD, compD, compS, comp2D, wipeE, D.isIn, List.any_cons, List.any_nil, String.reduceEq, D.plain, D.plains, D.dep, D.deps, Nat.max_self, Nat.min_self, Nat.zero_le, Nat.zero_min, Nat.min_zero, sizeLine_eq, forall_eq, exists_const, forall_const, kind_non, kind_bl, kind_int, kind_str, kind_lst, kind_tup, kind_dk, Kd.isa, reduceCtorEq, decide_false, decide_true, Bool.or_false, Bool.false_or, Bool.or_true, Bool.true_or, Bool.or_self, Bool.and_false, Bool.false_and, Bool.true_and, Bool.and_true, Bool.and_self, and_self, false_or, or_false, false_and, and_false, reduceIte, Bool.false_eq_true, Bool.not_eq_true, Bool.not_true, Bool.not_false, spTake, rep3]); repeat (first | (refine seq_in ?_; simp only [seqS_M, startE_cons, startE_nil, List.length_cons, List.length_nil, List.length_replicate, List.length_set, List.replicate_succ, List.replicate_zero, List.getElem?_cons_zero, List.getElem?_cons_succ, List.set_cons_zero, List.set_cons_succ, Option.some.injEq, OT.fz.injEq, OT.ow.injEq, D.int.injEq, D.str.injEq, D.bl.injEq, D.tup.injEq, D.lst.injEq, List.cons.injEq, exists_eq_left', exists_eq_left, exists_eq_right, and_true, true_and, OT.toD_fz, toD_map_fz, hIx_tup, hIx_lst, hIx_scr, hIx_mob, hIx_str, hIxT_fz, hIxT_ow, hAdd_int, hAdd_str, hAdd_tup, hAdd_lst, hMul_int, hMul_lst, hSl_tup, hSl_lst, hSl_str, hLen_lst, hLen_tup, hLen_scr, hLen_str, hLen_mob, hInt_int, hInt_bl, hAbs_int, hSeq_lst, hSeq_tup, hIn_lst, hIn_tup, hEq_eq, hI0_int, hI_int, ng_f, ng_t, atI_0, atI_1, atI_2, ofString_inj, eqv_str, eqv_txt, eqv_int, eqv_bl, eqv_tup, eqv_lst, eqOk_str, eqOk_int, eqOk_bl, eqOk_txt, decide_eq_true_eq, Nat.zero_lt_succ, exists_and_left, List.take_succ_cons, List.take_zero, List.drop_succ_cons, List.drop_zero, List.cons_append, List.nil_append, and_assoc, atI_map, Option.map_some, Nat.reduceAdd, Nat.reduceLT, Nat.reduceLeDiff, OT.toD_ow, List.map_cons, List.map_nil, D.mob.injEq, Mo.lst.injEq, Mem.put_same, Mem.put_put, ixN_30, ixN_32, ixN_10, exists_prop, fz_app, fz_inj, fz_snoc, OT.map_fz, List.length_map, List.length_append, List.append_nil, Nat.zero_add, cutL_1, items_tup, items_lst, items_scr, forD, compD, compS, comp2D, wipeE, D.isIn, List.any_cons, List.any_nil, String.reduceEq, D.plain, D.plains, D.dep, D.deps, Nat.max_self, Nat.min_self, Nat.zero_le, Nat.zero_min, Nat.min_zero, sizeLine_eq, forall_eq, exists_const, forall_const, kind_non, kind_bl, kind_int, kind_str, kind_lst, kind_tup, kind_dk, Kd.isa, reduceCtorEq, decide_false, decide_true, Bool.or_false, Bool.false_or, Bool.or_true, Bool.true_or, Bool.or_self, Bool.and_false, Bool.false_and, Bool.true_and, Bool.and_true, Bool.and_self, and_self, false_or, or_false, false_and, and_false, reduceIte, Bool.false_eq_true, Bool.not_eq_true, Bool.not_true, Bool.not_false, spTake, rep3]) | refine And.intro (by first | assumption | omega | decide) ?_ | omega | assumption)
  refine of_at (.inl rfl) (by simp) (by simp) (by omega : n + 41 ≤ _) hB3.is fun d M4 hd hB4 => ?_
  obtain ⟨ws, hws, rfl⟩ : ∃ ws ∈ wordSets, d = .lst (ws.map .str) := by
    simp only [List.mem_cons, List.not_mem_nil, or_false] at hd
    unfold wordSets
    rcases hd with rfl | rfl | rfl | rfl | rfl | rfl | rfl | rfl | rfl | rfl
    · exact ⟨["all"], by simp, rfl⟩
    · exact ⟨["all", "all"], by simp, rfl⟩
    · exact ⟨["some"], by simp, rfl⟩
    · exact ⟨["some", "some"], by simp, rfl⟩
    · exact ⟨["all", "some"], by simp, rfl⟩
    · exact ⟨["some", "all"], by simp, rfl⟩
    · exact ⟨["all", "all", "some"], by simp, rfl⟩
    · exact ⟨["all", "some", "some"], by simp, rfl⟩
    · exact ⟨["all", "all", "all"], by simp, rfl⟩
    · exact ⟨["some", "all", "all"], by simp, rfl⟩
  have hwl : ∀ ws ∈ wordSets, 1 ≤ ws.length ∧ ws.length ≤ 3 := by unfold wordSets; simp
  (try simp only [seqS_M, startE_cons, startE_nil, List.length_cons, List.length_nil, List.length_replicate, List.length_set, List.replicate_succ, List.replicate_zero, List.getElem?_cons_zero, List.getElem?_cons_succ, List.set_cons_zero, List.set_cons_succ, Option.some.injEq, OT.fz.injEq, OT.ow.injEq, D.int.injEq, D.str.injEq, D.bl.injEq, D.tup.injEq, D.lst.injEq, List.cons.injEq, exists_eq_left', exists_eq_left, exists_eq_right, and_true, true_and, OT.toD_fz, toD_map_fz, hIx_tup, hIx_lst, hIx_scr, hIx_mob, hIx_str, hIxT_fz, hIxT_ow, hAdd_int, hAdd_str, hAdd_tup, hAdd_lst, hMul_int, hMul_lst, hSl_tup, hSl_lst, hSl_str, hLen_lst, hLen_tup, hLen_scr, hLen_str, hLen_mob, hInt_int, hInt_bl, hAbs_int, hSeq_lst, hSeq_tup, hIn_lst, hIn_tup, hEq_eq, hI0_int, hI_int, ng_f, ng_t, atI_0, atI_1, atI_2, ofString_inj, eqv_str, eqv_txt, eqv_int, eqv_bl, eqv_tup, eqv_lst, eqOk_str, eqOk_int, eqOk_bl, eqOk_txt, decide_eq_true_eq, Nat.zero_lt_succ, exists_and_left, List.take_succ_cons, List.take_zero, List.drop_succ_cons, List.drop_zero, List.cons_append, List.nil_append, and_assoc, atI_map, Option.map_some, Nat.reduceAdd, Nat.reduceLT, Nat.reduceLeDiff, OT.toD_ow, List.map_cons, List.map_nil, D.mob.injEq, Mo.lst.injEq, Mem.put_same, Mem.put_put, ixN_30, ixN_32, ixN_10, exists_prop, fz_app, fz_inj, fz_snoc, OT.map_fz, List.length_map, List.length_append, List.append_nil, Nat.zero_add, cutL_1, items_tup, items_lst, items_scr, forD, compD, compS, comp2D, wipeE, D.isIn, List.any_cons, List.any_nil, String.reduceEq, D.plain, D.plains, D.dep, D.deps, Nat.max_self, Nat.min_self, Nat.zero_le, Nat.zero_min, Nat.min_zero, sizeLine_eq, forall_eq, exists_const, forall_const, kind_non, kind_bl, kind_int, kind_str, kind_lst, kind_tup, kind_dk, Kd.isa, reduceCtorEq, decide_false, decide_true, Bool.or_false, Bool.false_or, Bool.or_true, Bool.true_or, Bool.or_self, Bool.and_false, Bool.false_and, Bool.true_and, Bool.and_true, Bool.and_self, and_self, false_or, or_false, false_and, and_false, reduceIte, Bool.false_eq_true, Bool.not_eq_true, Bool.not_true, Bool.not_false, spTake]); repeat (first | (refine seq_in ?_; simp only [seqS_M, startE_cons, startE_nil, List.length_cons, List.length_nil, List.length_replicate, List.length_set, List.replicate_succ, List.replicate_zero, List.getElem?_cons_zero, List.getElem?_cons_succ, List.set_cons_zero, List.set_cons_succ, Option.some.injEq, OT.fz.injEq, OT.ow.injEq, D.int.injEq, D.str.injEq, D.bl.injEq, D.tup.injEq, D.lst.injEq, List.cons.injEq, exists_eq_left', exists_eq_left, exists_eq_right, and_true, true_and, OT.toD_fz, toD_map_fz, hIx_tup, hIx_lst, hIx_scr, hIx_mob, hIx_str, hIxT_fz, hIxT_ow, hAdd_int, hAdd_str, hAdd_tup, hAdd_lst, hMul_int, hMul_lst, hSl_tup, hSl_lst, hSl_str, hLen_lst, hLen_tup, hLen_scr, hLen_str, hLen_mob, hInt_int, hInt_bl, hAbs_int, hSeq_lst, hSeq_tup, hIn_lst, hIn_tup, hEq_eq, hI0_int, hI_int, ng_f, ng_t, atI_0, atI_1, atI_2, ofString_inj, eqv_str, eqv_txt, eqv_int, eqv_bl, eqv_tup, eqv_lst, eqOk_str, eqOk_int, eqOk_bl, eqOk_txt, decide_eq_true_eq, Nat.zero_lt_succ, exists_and_left, List.take_succ_cons, List.take_zero, List.drop_succ_cons, List.drop_zero, List.cons_append, List.nil_append, and_assoc, atI_map, Option.map_some, Nat.reduceAdd, Nat.reduceLT, Nat.reduceLeDiff, OT.toD_ow, List.map_cons, List.map_nil, D.mob.injEq, Mo.lst.injEq, Mem.put_same, Mem.put_put, ixN_30, ixN_32, ixN_10, exists_prop, fz_app, fz_inj, fz_snoc, OT.map_fz, List.length_map, List.length_append, List.append_nil, Nat.zero_add, cutL_1, items_tup, items_lst, items_scr, forD, compD, compS, comp2D, wipeE, D.isIn, List.any_cons, List.any_nil, String.reduceEq, D.plain, D.plains, D.dep, D.deps, Nat.max_self, Nat.min_self, Nat.zero_le, Nat.zero_min, Nat.min_zero, sizeLine_eq, forall_eq, exists_const, forall_const, kind_non, kind_bl, kind_int, kind_str, kind_lst, kind_tup, kind_dk, Kd.isa, reduceCtorEq, decide_false, decide_true, Bool.or_false, Bool.false_or, Bool.or_true, Bool.true_or, Bool.or_self, Bool.and_false, Bool.false_and, Bool.true_and, Bool.and_true, Bool.and_self, and_self, false_or, or_false, false_and, and_false, reduceIte, Bool.false_eq_true, Bool.not_eq_true, Bool.not_true, Bool.not_false, spTake]) | refine And.intro (by first | assumption | omega | decide) ?_ | omega | assumption)
  refine take_at (by decide) (by decide) (by omega : n + 41 + 1 ≤ _) hB4.is fun back M5 h2 h3 hB5 => ?_
  (try simp only [seqS_M, startE_cons, startE_nil, List.length_cons, List.length_nil, List.length_replicate, List.length_set, List.replicate_succ, List.replicate_zero, List.getElem?_cons_zero, List.getElem?_cons_succ, List.set_cons_zero, List.set_cons_succ, Option.some.injEq, OT.fz.injEq, OT.ow.injEq, D.int.injEq, D.str.injEq, D.bl.injEq, D.tup.injEq, D.lst.injEq, List.cons.injEq, exists_eq_left', exists_eq_left, exists_eq_right, and_true, true_and, OT.toD_fz, toD_map_fz, hIx_tup, hIx_lst, hIx_scr, hIx_mob, hIx_str, hIxT_fz, hIxT_ow, hAdd_int, hAdd_str, hAdd_tup, hAdd_lst, hMul_int, hMul_lst, hSl_tup, hSl_lst, hSl_str, hLen_lst, hLen_tup, hLen_scr, hLen_str, hLen_mob, hInt_int, hInt_bl, hAbs_int, hSeq_lst, hSeq_tup, hIn_lst, hIn_tup, hEq_eq, hI0_int, hI_int, ng_f, ng_t, atI_0, atI_1, atI_2, ofString_inj, eqv_str, eqv_txt, eqv_int, eqv_bl, eqv_tup, eqv_lst, eqOk_str, eqOk_int, eqOk_bl, eqOk_txt, decide_eq_true_eq, Nat.zero_lt_succ, exists_and_left, List.take_succ_cons, List.take_zero, List.drop_succ_cons, List.drop_zero, List.cons_append, List.nil_append, and_assoc, atI_map, Option.map_some, Nat.reduceAdd, Nat.reduceLT, Nat.reduceLeDiff, OT.toD_ow, List.map_cons, List.map_nil, D.mob.injEq, Mo.lst.injEq, Mem.put_same, Mem.put_put, ixN_30, ixN_32, ixN_10, exists_prop, fz_app, fz_inj, fz_snoc, OT.map_fz, List.length_map, List.length_append, List.append_nil, Nat.zero_add, cutL_1, items_tup, items_lst, items_scr, forD, compD, compS, comp2D, wipeE, D.isIn, List.any_cons, List.any_nil, String.reduceEq, D.plain, D.plains, D.dep, D.deps, Nat.max_self, Nat.min_self, Nat.zero_le, Nat.zero_min, Nat.min_zero, sizeLine_eq, forall_eq, exists_const, forall_const, kind_non, kind_bl, kind_int, kind_str, kind_lst, kind_tup, kind_dk, Kd.isa, reduceCtorEq, decide_false, decide_true, Bool.or_false, Bool.false_or, Bool.or_true, Bool.true_or, Bool.or_self, Bool.and_false, Bool.false_and, Bool.true_and, Bool.and_true, Bool.and_self, and_self, false_or, or_false, false_and, and_false, reduceIte, Bool.false_eq_true, Bool.not_eq_true, Bool.not_true, Bool.not_false, spTake]); repeat (first | (refine seq_in ?_; simp only [seqS_M, startE_cons, startE_nil, List.length_cons, List.length_nil, List.length_replicate, List.length_set, List.replicate_succ, List.replicate_zero, List.getElem?_cons_zero, List.getElem?_cons_succ, List.set_cons_zero, List.set_cons_succ, Option.some.injEq, OT.fz.injEq, OT.ow.injEq, D.int.injEq, D.str.injEq, D.bl.injEq, D.tup.injEq, D.lst.injEq, List.cons.injEq, exists_eq_left', exists_eq_left, exists_eq_right, and_true, true_and, OT.toD_fz, toD_map_fz, hIx_tup, hIx_lst, hIx_scr, hIx_mob, hIx_str, hIxT_fz, hIxT_ow, hAdd_int, hAdd_str, hAdd_tup, hAdd_lst, hMul_int, hMul_lst, hSl_tup, hSl_lst, hSl_str, hLen_lst, hLen_tup, hLen_scr, hLen_str, hLen_mob, hInt_int, hInt_bl, hAbs_int, hSeq_lst, hSeq_tup, hIn_lst, hIn_tup, hEq_eq, hI0_int, hI_int, ng_f, ng_t, atI_0, atI_1, atI_2, ofString_inj, eqv_str, eqv_txt, eqv_int, eqv_bl, eqv_tup, eqv_lst, eqOk_str, eqOk_int, eqOk_bl, eqOk_txt, decide_eq_true_eq, Nat.zero_lt_succ, exists_and_left, List.take_succ_cons, List.take_zero, List.drop_succ_cons, List.drop_zero, List.cons_append, List.nil_append, and_assoc, atI_map, Option.map_some, Nat.reduceAdd, Nat.reduceLT, Nat.reduceLeDiff, OT.toD_ow, List.map_cons, List.map_nil, D.mob.injEq, Mo.lst.injEq, Mem.put_same, Mem.put_put, ixN_30, ixN_32, ixN_10, exists_prop, fz_app, fz_inj, fz_snoc, OT.map_fz, List.length_map, List.length_append, List.append_nil, Nat.zero_add, cutL_1, items_tup, items_lst, items_scr, forD, compD, compS, comp2D, wipeE, D.isIn, List.any_cons, List.any_nil, String.reduceEq, D.plain, D.plains, D.dep, D.deps, Nat.max_self, Nat.min_self, Nat.zero_le, Nat.zero_min, Nat.min_zero, sizeLine_eq, forall_eq, exists_const, forall_const, kind_non, kind_bl, kind_int, kind_str, kind_lst, kind_tup, kind_dk, Kd.isa, reduceCtorEq, decide_false, decide_true, Bool.or_false, Bool.false_or, Bool.or_true, Bool.true_or, Bool.or_self, Bool.and_false, Bool.false_and, Bool.true_and, Bool.and_true, Bool.and_self, and_self, false_or, or_false, false_and, and_false, reduceIte, Bool.false_eq_true, Bool.not_eq_true, Bool.not_true, Bool.not_false, spTake]) | refine And.intro (by first | assumption | omega | decide) ?_ | omega | assumption)
  refine ⟨⟨p, ws, runs, zs, back, n + 43⟩, ⟨rfl, hB5.is, (hwl ws hws).1, (hwl ws hws).2, by show runs.length = 3; omega, hz0, by show zs.length ≤ 9; omega, fun x hx => (hr2 x hx).2, hz, by show n + 43 + plCost ≤ 2 ^ 50; omega⟩, ?_⟩
  rintro t M6 ⟨b, rfl, g1, g2, g3, g4⟩
  (try simp only [seqS_M, startE_cons, startE_nil, List.length_cons, List.length_nil, List.length_replicate, List.length_set, List.replicate_succ, List.replicate_zero, List.getElem?_cons_zero, List.getElem?_cons_succ, List.set_cons_zero, List.set_cons_succ, Option.some.injEq, OT.fz.injEq, OT.ow.injEq, D.int.injEq, D.str.injEq, D.bl.injEq, D.tup.injEq, D.lst.injEq, List.cons.injEq, exists_eq_left', exists_eq_left, exists_eq_right, and_true, true_and, OT.toD_fz, toD_map_fz, hIx_tup, hIx_lst, hIx_scr, hIx_mob, hIx_str, hIxT_fz, hIxT_ow, hAdd_int, hAdd_str, hAdd_tup, hAdd_lst, hMul_int, hMul_lst, hSl_tup, hSl_lst, hSl_str, hLen_lst, hLen_tup, hLen_scr, hLen_str, hLen_mob, hInt_int, hInt_bl, hAbs_int, hSeq_lst, hSeq_tup, hIn_lst, hIn_tup, hEq_eq, hI0_int, hI_int, ng_f, ng_t, atI_0, atI_1, atI_2, ofString_inj, eqv_str, eqv_txt, eqv_int, eqv_bl, eqv_tup, eqv_lst, eqOk_str, eqOk_int, eqOk_bl, eqOk_txt, decide_eq_true_eq, Nat.zero_lt_succ, exists_and_left, List.take_succ_cons, List.take_zero, List.drop_succ_cons, List.drop_zero, List.cons_append, List.nil_append, and_assoc, atI_map, Option.map_some, Nat.reduceAdd, Nat.reduceLT, Nat.reduceLeDiff, OT.toD_ow, List.map_cons, List.map_nil, D.mob.injEq, Mo.lst.injEq, Mem.put_same, Mem.put_put, ixN_30, ixN_32, ixN_10, exists_prop, fz_app, fz_inj, fz_snoc, OT.map_fz, List.length_map, List.length_append, List.append_nil, Nat.zero_add, cutL_1, items_tup, items_lst, items_scr, forD, compD, compS, comp2D, wipeE, D.isIn, List.any_cons, List.any_nil, String.reduceEq, D.plain, D.plains, D.dep, D.deps, Nat.max_self, Nat.min_self, Nat.zero_le, Nat.zero_min, Nat.min_zero, sizeLine_eq, forall_eq, exists_const, forall_const, kind_non, kind_bl, kind_int, kind_str, kind_lst, kind_tup, kind_dk, Kd.isa, reduceCtorEq, decide_false, decide_true, Bool.or_false, Bool.false_or, Bool.or_true, Bool.true_or, Bool.or_self, Bool.and_false, Bool.false_and, Bool.true_and, Bool.and_true, Bool.and_self, and_self, false_or, or_false, false_and, and_false, reduceIte, Bool.false_eq_true, Bool.not_eq_true, Bool.not_true, Bool.not_false, spDrawn]); repeat (first | (refine seq_in ?_; simp only [seqS_M, startE_cons, startE_nil, List.length_cons, List.length_nil, List.length_replicate, List.length_set, List.replicate_succ, List.replicate_zero, List.getElem?_cons_zero, List.getElem?_cons_succ, List.set_cons_zero, List.set_cons_succ, Option.some.injEq, OT.fz.injEq, OT.ow.injEq, D.int.injEq, D.str.injEq, D.bl.injEq, D.tup.injEq, D.lst.injEq, List.cons.injEq, exists_eq_left', exists_eq_left, exists_eq_right, and_true, true_and, OT.toD_fz, toD_map_fz, hIx_tup, hIx_lst, hIx_scr, hIx_mob, hIx_str, hIxT_fz, hIxT_ow, hAdd_int, hAdd_str, hAdd_tup, hAdd_lst, hMul_int, hMul_lst, hSl_tup, hSl_lst, hSl_str, hLen_lst, hLen_tup, hLen_scr, hLen_str, hLen_mob, hInt_int, hInt_bl, hAbs_int, hSeq_lst, hSeq_tup, hIn_lst, hIn_tup, hEq_eq, hI0_int, hI_int, ng_f, ng_t, atI_0, atI_1, atI_2, ofString_inj, eqv_str, eqv_txt, eqv_int, eqv_bl, eqv_tup, eqv_lst, eqOk_str, eqOk_int, eqOk_bl, eqOk_txt, decide_eq_true_eq, Nat.zero_lt_succ, exists_and_left, List.take_succ_cons, List.take_zero, List.drop_succ_cons, List.drop_zero, List.cons_append, List.nil_append, and_assoc, atI_map, Option.map_some, Nat.reduceAdd, Nat.reduceLT, Nat.reduceLeDiff, OT.toD_ow, List.map_cons, List.map_nil, D.mob.injEq, Mo.lst.injEq, Mem.put_same, Mem.put_put, ixN_30, ixN_32, ixN_10, exists_prop, fz_app, fz_inj, fz_snoc, OT.map_fz, List.length_map, List.length_append, List.append_nil, Nat.zero_add, cutL_1, items_tup, items_lst, items_scr, forD, compD, compS, comp2D, wipeE, D.isIn, List.any_cons, List.any_nil, String.reduceEq, D.plain, D.plains, D.dep, D.deps, Nat.max_self, Nat.min_self, Nat.zero_le, Nat.zero_min, Nat.min_zero, sizeLine_eq, forall_eq, exists_const, forall_const, kind_non, kind_bl, kind_int, kind_str, kind_lst, kind_tup, kind_dk, Kd.isa, reduceCtorEq, decide_false, decide_true, Bool.or_false, Bool.false_or, Bool.or_true, Bool.true_or, Bool.or_self, Bool.and_false, Bool.false_and, Bool.true_and, Bool.and_true, Bool.and_self, and_self, false_or, or_false, false_and, and_false, reduceIte, Bool.false_eq_true, Bool.not_eq_true, Bool.not_true, Bool.not_false, spDrawn]) | refine And.intro (by first | assumption | omega | decide) ?_ | omega | assumption)
  exact ⟨ws, runs, b, rfl, hws, by omega, fun x hx => (hr2 x hx).2, g1, g2, g3, g4.mono (by show n + 43 + plCost ≤ n + drCost; omega)⟩
end
end DL

namespace DL
open PySem L2 PySem.Spec
open PyProof.Rows hiding St
set_option autoImplicit false
section
variable {P : Program} {w : World} {K : PySem.W.Frag} {mg : Str → Option Value} {base : Heap}
def fstW (ws : List Str) : Str := ws.headD ""
def lstW (ws : List Str) : Str := ws.getLastD ""
def kindW (ws : List Str) : Str := if fstW ws = lstW ws then fstW ws else if fstW ws = "all" then "answer" else "ever"
def spKind : DSpec := DSpec.pure (ι := List Str × List Str × Bd) (fun i ds => ds = [plD i.1 i.2.1 i.2.2] ∧ i.1 ∈ wordSets ∧ i.2.1.length = 3) (fun i t => t = .fz (.str (kindW i.1)))
theorem three {α : Type} {l : List α} (h : l.length = 3) : ∃ a b c, l = [a, b, c] := by
  match l, h with
  | [a, b, c], _ => exact ⟨a, b, c, rfl⟩
theorem atI_m1 {α : Type} {a : α} : atI [a] (-1) = some a := atI_m rfl
theorem atI_m2 {α : Type} {a b : α} : atI [a, b] (-1) = some b := atI_m rfl
theorem atI_m3 {α : Type} {a b c : α} : atI [a, b, c] (-1) = some c := atI_m rfl
theorem ok_kind (T : Tx K mg) : DF P w K mg base s_kind_of "kind_of" ["saying"] 1 spKind := by
  obtain ⟨f, fd, hm, F, hb⟩ := T.d_kind_of
  refine ⟨f, fd, hm, F, hb, fn_dl F sc_kind_of ?_⟩
  rintro X M ds ⟨ws, runs, b⟩ ⟨cdv, A, outer, s0, H0, E, rfl⟩ hr hl ⟨rfl, hw, hr3⟩
  refine ⟨_, (dss_cons (ds_asg (ed_var 0) (eg_tup (n := 2) rfl (egs_cons (eg_name 1 sc_kind_of.nd) (egs_cons (eg_name 2 sc_kind_of.nd) egs_nil)))) (dss_cons (ds_par (i := 3) (j := 4) rfl sc_kind_of.nd (ao_cons (ED.o (ed_ix (ed_ixN 1 ed_int) ed_int)) (ao_cons (ED.o (ed_ix (ed_ixN 1 (ed_neg (ED.v ed_int))) ed_int)) ao_nil))) (dss_cons (ds_if (EC.t (ec_eq hr.hu (ev_var 3) (ev_var 4))) (dss_cons (ds_ret (ED.o (ed_var 3))) dss_nil) dss_nil) (dss_cons (ds_ret (ED.o (ed_if (EC.t (ec_eq hr.hu (ev_var 3) (ED.v (ed_gc T.c_ALL)))) (ed_gc T.c_ANSWER) (ed_gc T.c_EVER)))) dss_nil)))), ?_⟩
  obtain ⟨r0, r1, r2, rfl⟩ := three (show runs.length = 3 from hr3)
  replace hw : ws ∈ wordSets := hw
  unfold wordSets at hw
  simp only [List.mem_cons, List.not_mem_nil, or_false] at hw
  have n1 : (Str.ofString "all" = Str.ofString "some") = False := by simp [ofString_inj]
  have n2 : (Str.ofString "some" = Str.ofString "all") = False := by simp [ofString_inj]
  rcases hw with rfl | rfl | rfl | rfl | rfl | rfl | rfl | rfl | rfl | rfl
  all_goals ((try simp only [seqS_M, startE_cons, startE_nil, List.length_cons, List.length_nil, List.length_replicate, List.length_set, List.replicate_succ, List.replicate_zero, List.getElem?_cons_zero, List.getElem?_cons_succ, List.set_cons_zero, List.set_cons_succ, Option.some.injEq, OT.fz.injEq, OT.ow.injEq, D.int.injEq, D.str.injEq, D.bl.injEq, D.tup.injEq, D.lst.injEq, List.cons.injEq, exists_eq_left', exists_eq_left, exists_eq_right, and_true, true_and, OT.toD_fz, toD_map_fz, hIx_tup, hIx_lst, hIx_scr, hIx_mob, hIx_str, hIxT_fz, hIxT_ow, hAdd_int, hAdd_str, hAdd_tup, hAdd_lst, hMul_int, hMul_lst, hSl_tup, hSl_lst, hSl_str, hLen_lst, hLen_tup, hLen_scr, hLen_str, hLen_mob, hInt_int, hInt_bl, hAbs_int, hSeq_lst, hSeq_tup, hIn_lst, hIn_tup, hEq_eq, hI0_int, hI_int, ng_f, ng_t, atI_0, atI_1, atI_2, ofString_inj, eqv_str, eqv_txt, eqv_int, eqv_bl, eqv_tup, eqv_lst, eqOk_str, eqOk_int, eqOk_bl, eqOk_txt, decide_eq_true_eq, Nat.zero_lt_succ, exists_and_left, List.take_succ_cons, List.take_zero, List.drop_succ_cons, List.drop_zero, List.cons_append, List.nil_append, and_assoc, atI_map, Option.map_some, Nat.reduceAdd, Nat.reduceLT, Nat.reduceLeDiff, OT.toD_ow, List.map_cons, List.map_nil, D.mob.injEq, Mo.lst.injEq, Mem.put_same, Mem.put_put, ixN_30, ixN_32, ixN_10, exists_prop, fz_app, fz_inj, fz_snoc, OT.map_fz, List.length_map, List.length_append, List.append_nil, Nat.zero_add, cutL_1, items_tup, items_lst, items_scr, forD, compD, compS, comp2D, wipeE, D.isIn, List.any_cons, List.any_nil, String.reduceEq, D.plain, D.plains, D.dep, D.deps, Nat.max_self, Nat.min_self, Nat.zero_le, Nat.zero_min, Nat.min_zero, sizeLine_eq, forall_eq, exists_const, forall_const, kind_non, kind_bl, kind_int, kind_str, kind_lst, kind_tup, kind_dk, Kd.isa, reduceCtorEq, decide_false, decide_true, Bool.or_false, Bool.false_or, Bool.or_true, Bool.true_or, Bool.or_self, Bool.and_false, Bool.false_and, Bool.true_and, Bool.and_true, Bool.and_self, and_self, false_or, or_false, false_and, and_false, reduceIte, Bool.false_eq_true, Bool.not_eq_true, Bool.not_true, Bool.not_false, plD, zipD, List.zipWith, List.map, Int.reduceNeg, atI_m1, atI_m2, atI_m3, n1, n2]); repeat (first | (refine seq_in ?_; simp only [seqS_M, startE_cons, startE_nil, List.length_cons, List.length_nil, List.length_replicate, List.length_set, List.replicate_succ, List.replicate_zero, List.getElem?_cons_zero, List.getElem?_cons_succ, List.set_cons_zero, List.set_cons_succ, Option.some.injEq, OT.fz.injEq, OT.ow.injEq, D.int.injEq, D.str.injEq, D.bl.injEq, D.tup.injEq, D.lst.injEq, List.cons.injEq, exists_eq_left', exists_eq_left, exists_eq_right, and_true, true_and, OT.toD_fz, toD_map_fz, hIx_tup, hIx_lst, hIx_scr, hIx_mob, hIx_str, hIxT_fz, hIxT_ow, hAdd_int, hAdd_str, hAdd_tup, hAdd_lst, hMul_int, hMul_lst, hSl_tup, hSl_lst, hSl_str, hLen_lst, hLen_tup, hLen_scr, hLen_str, hLen_mob, hInt_int, hInt_bl, hAbs_int, hSeq_lst, hSeq_tup, hIn_lst, hIn_tup, hEq_eq, hI0_int, hI_int, ng_f, ng_t, atI_0, atI_1, atI_2, ofString_inj, eqv_str, eqv_txt, eqv_int, eqv_bl, eqv_tup, eqv_lst, eqOk_str, eqOk_int, eqOk_bl, eqOk_txt, decide_eq_true_eq, Nat.zero_lt_succ, exists_and_left, List.take_succ_cons, List.take_zero, List.drop_succ_cons, List.drop_zero, List.cons_append, List.nil_append, and_assoc, atI_map, Option.map_some, Nat.reduceAdd, Nat.reduceLT, Nat.reduceLeDiff, OT.toD_ow, List.map_cons, List.map_nil, D.mob.injEq, Mo.lst.injEq, Mem.put_same, Mem.put_put, ixN_30, ixN_32, ixN_10, exists_prop, fz_app, fz_inj, fz_snoc, OT.map_fz, List.length_map, List.length_append, List.append_nil, Nat.zero_add, cutL_1, items_tup, items_lst, items_scr, forD, compD, compS, comp2D, wipeE, D.isIn, List.any_cons, List.any_nil, String.reduceEq, D.plain, D.plains, D.dep, D.deps, Nat.max_self, Nat.min_self, Nat.zero_le, Nat.zero_min, Nat.min_zero, sizeLine_eq, forall_eq, exists_const, forall_const, kind_non, kind_bl, kind_int, kind_str, kind_lst, kind_tup, kind_dk, Kd.isa, reduceCtorEq, decide_false, decide_true, Bool.or_false, Bool.false_or, Bool.or_true, Bool.true_or, Bool.or_self, Bool.and_false, Bool.false_and, Bool.true_and, Bool.and_true, Bool.and_self, and_self, false_or, or_false, false_and, and_false, reduceIte, Bool.false_eq_true, Bool.not_eq_true, Bool.not_true, Bool.not_false, plD, zipD, List.zipWith, List.map, Int.reduceNeg, atI_m1, atI_m2, atI_m3, n1, n2]) | refine And.intro (by first | assumption | omega | decide) ?_ | omega | assumption))
  all_goals simp [spKind, DSpec.pure, kindW, fstW, lstW, n1, n2]
end
end DL

namespace DL
open PySem L2 PySem.Spec
open PyProof.Rows hiding St
set_option autoImplicit false
section
variable {P : Program} {w : World} {K : PySem.W.Frag} {mg : Str → Option Value} {base : Heap}
theorem bd_plain : ∀ b : Bd, b.toD.plain = true := by
  intro b
  induction b <;> simp_all [Bd.toD, D.plain, D.plains, plains_strs]
theorem bd_shortI : ∀ b : Bd, b.toD.shortI = true := by
  have zstr : ∀ l : List Str, D.shortIs (l.map .str) = true := fun l => by
    induction l <;> simp_all [D.shortIs, D.shortI]
  intro b
  induction b <;> simp_all [Bd.toD, D.shortI, D.shortIs]
theorem bd_dep : ∀ b : Bd, b.toD.dep ≤ b.hgt + 2 := by
  have zstr : ∀ l : List Str, D.deps (l.map .str) = 0 := fun l => by
    induction l <;> simp_all [D.deps, D.dep]
  intro b
  induction b <;> simp only [Bd.toD, D.dep, D.deps, Bd.hgt, zstr] <;> omega
theorem bd_blk : ∀ b : Bd, b.ok → b.toD.blk ≤ 200 * b.parts.length := by
  have zstr : ∀ l : List Str, (∀ x ∈ l, x.length ≤ 8) → D.blks (l.map .str) ≤ 9 * l.length := fun l => by
    induction l with
    | nil => intro _; simp [D.blks]
    | cons x l ih =>
      intro h
      have h1 := h x List.mem_cons_self
      have h2 := ih fun y hy => h y (List.mem_cons_of_mem _ hy)
      simp only [List.map_cons, D.blks, D.blk, List.length_cons]
      omega
  have e1 : (Str.ofString "has").length = 3 := by decide +kernel
  have e2 : (Str.ofString "alike").length = 5 := by decide +kernel
  have e3 : (Str.ofString "not").length = 3 := by decide +kernel
  have e4 : (Str.ofString "and").length = 3 := by decide +kernel
  have e5 : (Str.ofString "or").length = 2 := by decide +kernel
  have e6 : (Str.ofString "ahead").length = 5 := by decide +kernel
  have e7 : (Str.ofString "ever").length = 4 := by decide +kernel
  have e8 : (Str.ofString "since").length = 5 := by decide +kernel
  intro b
  induction b with
  | has r m => intro h; obtain ⟨h1, h2⟩ := h; simp only [Bd.toD, D.blk, D.blks, Bd.parts, List.length_singleton, e1]; omega
  | alike a b ms => intro h; obtain ⟨h1, h2, h3, h4⟩ := h; have := zstr ms h4; simp only [Bd.toD, D.blk, D.blks, Bd.parts, List.length_singleton, e2]; omega
  | nt b ih => intro h; have := ih h; simp only [Bd.toD, D.blk, D.blks, Bd.parts, List.length_append, List.length_singleton, e3]; omega
  | ah b ih => intro h; have := ih h; simp only [Bd.toD, D.blk, D.blks, Bd.parts, List.length_append, List.length_singleton, e6]; omega
  | ev b ih => intro h; have := ih h; simp only [Bd.toD, D.blk, D.blks, Bd.parts, List.length_append, List.length_singleton, e7]; omega
  | an b c ih ih2 => intro h; have := ih h.1; have := ih2 h.2; simp only [Bd.toD, D.blk, D.blks, Bd.parts, List.length_append, List.length_singleton, e4]; omega
  | or b c ih ih2 => intro h; have := ih h.1; have := ih2 h.2; simp only [Bd.toD, D.blk, D.blks, Bd.parts, List.length_append, List.length_singleton, e5]; omega
  | si b c ih ih2 => intro h; have := ih h.1; have := ih2 h.2; simp only [Bd.toD, D.blk, D.blks, Bd.parts, List.length_append, List.length_singleton, e8]; omega
theorem parts_hgt : ∀ (b c : Bd), c ∈ b.parts → c.hgt ≤ b.hgt ∧ (b.ok → c.ok) := by
  intro b
  induction b with
  | has r m => intro c hc; simp only [Bd.parts, List.mem_singleton] at hc; subst hc; exact ⟨Nat.le_refl _, id⟩
  | alike a b ms => intro c hc; simp only [Bd.parts, List.mem_singleton] at hc; subst hc; exact ⟨Nat.le_refl _, id⟩
  | nt b ih =>
    intro c hc
    simp only [Bd.parts, List.mem_append, List.mem_singleton] at hc
    rcases hc with hc | rfl
    · exact ⟨Nat.le_succ_of_le (ih c hc).1, (ih c hc).2⟩
    · exact ⟨Nat.le_refl _, id⟩
  | ah b ih =>
    intro c hc
    simp only [Bd.parts, List.mem_append, List.mem_singleton] at hc
    rcases hc with hc | rfl
    · exact ⟨Nat.le_succ_of_le (ih c hc).1, (ih c hc).2⟩
    · exact ⟨Nat.le_refl _, id⟩
  | ev b ih =>
    intro c hc
    simp only [Bd.parts, List.mem_append, List.mem_singleton] at hc
    rcases hc with hc | rfl
    · exact ⟨Nat.le_succ_of_le (ih c hc).1, (ih c hc).2⟩
    · exact ⟨Nat.le_refl _, id⟩
  | an b c ih ih2 =>
    intro d hd
    simp only [Bd.parts, List.mem_append, List.mem_singleton] at hd
    rcases hd with (hd | hd) | rfl
    · exact ⟨by have := (ih d hd).1; simp only [Bd.hgt]; omega, fun h => (ih d hd).2 h.1⟩
    · exact ⟨by have := (ih2 d hd).1; simp only [Bd.hgt]; omega, fun h => (ih2 d hd).2 h.2⟩
    · exact ⟨Nat.le_refl _, id⟩
  | or b c ih ih2 =>
    intro d hd
    simp only [Bd.parts, List.mem_append, List.mem_singleton] at hd
    rcases hd with (hd | hd) | rfl
    · exact ⟨by have := (ih d hd).1; simp only [Bd.hgt]; omega, fun h => (ih d hd).2 h.1⟩
    · exact ⟨by have := (ih2 d hd).1; simp only [Bd.hgt]; omega, fun h => (ih2 d hd).2 h.2⟩
    · exact ⟨Nat.le_refl _, id⟩
  | si b c ih ih2 =>
    intro d hd
    simp only [Bd.parts, List.mem_append, List.mem_singleton] at hd
    rcases hd with (hd | hd) | rfl
    · exact ⟨by have := (ih d hd).1; simp only [Bd.hgt]; omega, fun h => (ih d hd).2 h.1⟩
    · exact ⟨by have := (ih2 d hd).1; simp only [Bd.hgt]; omega, fun h => (ih2 d hd).2 h.2⟩
    · exact ⟨Nat.le_refl _, id⟩
theorem parts_last : ∀ b : Bd, b.parts.getLast? = some b := by
  intro b
  cases b <;> simp [Bd.parts]
end
end DL

namespace DL
open PySem L2 PySem.Spec
open PyProof.Rows hiding St
set_option autoImplicit false
section
variable {P : Program} {w : World} {K : PySem.W.Frag} {mg : Str → Option Value} {base : Heap}
def spRight (c : Nat) : DSpec := ⟨Addr × Nat, fun i M ds => ds = [.mob i.1] ∧ IsBox i.2 M i.1 ∧ i.2 + c ≤ 2 ^ 50, fun i M t M' => t = .fz (.bl true) ∧ IsBox (i.2 + c) M' i.1⟩
theorem plD_fits {ws runs : List Str} {b : Bd} (hw : ws ∈ wordSets) (hr : runs.length = 3) (hr2 : ∀ x ∈ runs, x.length ≤ 8) (hb : b.ok) (hh : b.hgt ≤ 3) (hp : b.parts.length < 13) : (plD ws runs b).plain = true ∧ (plD ws runs b).shortI = true ∧ (plD ws runs b).dep ≤ 100 ∧ (plD ws runs b).blk ≤ 2 ^ 20 := by
  obtain ⟨r0, r1, r2, rfl⟩ := three hr
  have b1 := bd_plain b
  have b2 := bd_shortI b
  have b3 := bd_dep b
  have b4 := bd_blk b hb
  have e1 : (Str.ofString "all").length = 3 := by decide +kernel
  have e2 : (Str.ofString "some").length = 4 := by decide +kernel
  have q0 := hr2 r0 (by simp)
  have q1 := hr2 r1 (by simp)
  have q2 := hr2 r2 (by simp)
  unfold wordSets at hw
  simp only [List.mem_cons, List.not_mem_nil, or_false] at hw
  rcases hw with rfl | rfl | rfl | rfl | rfl | rfl | rfl | rfl | rfl | rfl <;> refine ⟨?_, ?_, ?_, ?_⟩ <;> simp [plD, zipD, D.plain, D.plains, D.shortI, D.shortIs, D.dep, D.deps, D.blk, D.blks, b1, b2, e1, e2] <;> omega
theorem partsD_plain (b : Bd) : (D.lst b.partsD).plain = true := by
  rw [plain_lst, D.plains_all]
  exact List.all_eq_true.mpr fun d hd => by
    obtain ⟨c, _, rfl⟩ := List.mem_map.mp hd
    exact bd_plain c
theorem deps_le {l : List D} {n : Nat} (h : ∀ d ∈ l, d.dep ≤ n) : D.deps l ≤ n := by
  induction l with
  | nil => exact Nat.zero_le _
  | cons d l ih =>
    have h1 := h d List.mem_cons_self
    have h2 := ih fun e he => h e (List.mem_cons_of_mem _ he)
    simp only [D.deps]
    omega
theorem partsD_dep (b : Bd) : (D.lst b.partsD).dep ≤ b.hgt + 3 := by
  rw [dep_lst]
  have : D.deps b.partsD ≤ b.hgt + 2 := deps_le fun d hd => by
    obtain ⟨c, hc, rfl⟩ := List.mem_map.mp hd
    have := bd_dep c
    have := (parts_hgt b c hc).1
    omega
  omega
theorem words_ends {ws : List Str} (h : ws ∈ wordSets) : ((fstW ws = "all" ∨ fstW ws = "some") ∧ (lstW ws = "all" ∨ lstW ws = "some")) ∧ atI (ws.map D.str) 0 = some (.str (fstW ws)) ∧ atI (ws.map D.str) (-1) = some (.str (lstW ws)) := by
  unfold wordSets at h
  simp only [List.mem_cons, List.not_mem_nil, or_false] at h
  rcases h with rfl | rfl | rfl | rfl | rfl | rfl | rfl | rfl | rfl | rfl <;> refine ⟨⟨?_, ?_⟩, atI_hd rfl, atI_m rfl⟩ <;> first | exact .inl rfl | exact .inr rfl
theorem keyOf_str {x : Str} : keyOf (.str x) = some (.inr x) := rfl
theorem hDix_dk {ks : List Key} {ds : List D} {y : D} {M : Mem} {PP : D → Mem → Prop} : hDix (.dk ks ds) y M PP = ∃ k d, keyOf y = some k ∧ getK ks ds k = some d ∧ PP d M := by
  refine propext ⟨fun ⟨_, _, k, d, e, h⟩ => by cases e; exact ⟨k, d, h⟩, fun ⟨k, d, h⟩ => ⟨_, _, k, d, rfl, h⟩⟩
theorem pick1 {α : Type} {d : α} : pick [0] [d] = [d] := rfl
theorem set_set2 {ρ : Env} {i j : Nat} {u v u' v' : Option OT} (h : i ≠ j) : ((((ρ.set i u).set j v).set i u').set j v') = (ρ.set i u').set j v' := by
  refine List.ext_getElem? fun n => ?_
  simp only [List.getElem?_set, List.length_set]
  split <;> split <;> simp_all
theorem set_same2 {ρ : Env} {i j : Nat} {u v : Option OT} (h1 : ρ[i]? = some u) (h2 : ρ[j]? = some v) : (ρ.set i u).set j v = ρ := by
  refine List.ext_getElem? fun n => ?_
  rw [List.getElem?_set, List.getElem?_set, List.length_set]
  split
  · rename_i e
    subst e
    split
    · exact h2.symm
    · rename_i e
      rw [List.getElem?_eq_none (by omega)] at h2
      cases h2
  · split
    · rename_i e
      subst e
      split
      · exact h1.symm
      · rename_i e
        rw [List.getElem?_eq_none (by omega)] at h1
        cases h1
    · rfl
theorem forD_set2 {g : RG} {bd : RS} {PE : DEnds} (i j : Nat) (I : List D → Mem → Prop) {items : List D} {ρ : Env} {M : Mem} {x y : Option OT} (hi : ρ[i]? = some x) (hj : ρ[j]? = some y) (h0 : I items M) (hn : ∀ u v M, I [] M → PE.nx ((ρ.set i u).set j v) M)
    (hs : ∀ d ds u v M, I (d :: ds) M → ∀ C : Env → Mem → Prop, (∀ u v M, I ds M → C ((ρ.set i u).set j v) M) → g d ((ρ.set i u).set j v) M fun ρ' M => bd { nx := C, ct := C, bk := PE.nx, rt := PE.rt } ρ' M) : forD g bd PE items ρ M :=
  forD_rec (fun ds ρ' M => (∃ u v, ρ' = (ρ.set i u).set j v) ∧ I ds M) _ _ _ ⟨⟨x, y, (set_same2 hi hj).symm⟩, h0⟩ (fun ρ' M ⟨⟨u, v, e⟩, h⟩ => by subst e; exact hn u v M h) fun d ds ρ' M ⟨⟨u, v, e⟩, h⟩ C hC => by
    subst e
    exact hs d ds u v M h C fun u v M h => hC _ M ⟨⟨u, v, rfl⟩, h⟩
theorem ok_plain_right (T : Tx K mg) : DF P w K mg base s_law_plain_right "_law_plain_right" ["box"] 110 (spRight drCost) := by
  have F_law_drawn := ok_drawn (P := P) (w := w) (base := base) T
  have F_law_parts := ok_law_parts (P := P) (w := w) (base := base) T 4
  have F_parts_of := ok_parts_of (P := P) (w := w) (base := base) T 4
  have F_law_same := ok_same (P := P) (w := w) (base := base) T 101
  have F_kind_of := ok_kind (P := P) (w := w) (base := base) T
  have F_looks_back := ok_looks_back (P := P) (w := w) (base := base) T
  obtain ⟨f, fd, hm, F, hb⟩ := T.d_law_plain_right
  refine ⟨f, fd, hm, F, hb, fn_dl F sc_law_plain_right ?_⟩
  rintro X M ds ⟨p, n⟩ ⟨cdv, A, outer, s0, H0, E, rfl⟩ hr hl ⟨rfl, hB, hn⟩
  refine ⟨_, (dss_cons (ds_set 1 sc_law_plain_right.nd (EO.d (eo_call (DF.mono F_law_drawn (by first | omega | decide)) hr (ad_cons (ed_var 0) ad_nil)))) (dss_cons (ds_asg (ed_var 1) (eg_tup (n := 2) rfl (egs_cons (eg_name 2 sc_law_plain_right.nd) (egs_cons (eg_name 3 sc_law_plain_right.nd) egs_nil)))) (dss_cons (ds_par (i := 4) (j := 5) rfl sc_law_plain_right.nd (ao_cons (ED.o (ed_repr hr.2 hr.hu T.z_repr (av_cons (ev_var 1) av_nil))) (ao_cons (ED.o (EO.d (eo_callP (DF.mono F_law_parts (by first | omega | decide)) hr (ad_cons (ed_var 3) ad_nil)))) ao_nil))) (dss_cons (ds_setO 6 sc_law_plain_right.nd (eo_callP (DF.mono F_parts_of (by first | omega | decide)) hr (ad_cons (ed_var 3) ad_nil))) (dss_cons (ds_if (EW.t (ew_or (et_not (et_val (ed_callV (DF.mono F_law_same (by first | omega | decide)) hr (av_cons (ev_var 6) (av_cons (ev_var 5) av_nil))))) (ew_or1 (et_not (et_val (ed_callV (DF.mono F_law_same (by first | omega | decide)) hr (av_cons (ED.v (ed_ixN 6 (ed_neg (ED.v ed_int)))) (av_cons (ev_var 3) av_nil)))))))) (dss_cons (ds_ret (ED.o ed_bl)) dss_nil) dss_nil) (dss_cons (ds_reverse 6) (dss_cons (ds_append 6 (ED.o (ed_var 3))) (dss_cons (ds_asg (ed_tup (ad_cons (EO.d (eo_lc (own := [("word", 13), ("run", 14)]) rfl sc_law_plain_right.nd (ei_seq (ed_var 2)) (blkOk_by (N := N_law_plain_right) (sc := (defScope s_law_plain_right)) (by first | decide +kernel | exact rfl)) (by decide) (fun _ _ _ _ _ => (eg_tup (n := 2) rfl (egs_cons (eg_name 13 sc_law_plain_right.nd) (egs_cons (eg_name 14 sc_law_plain_right.nd) egs_nil)))) (fun _ _ _ _ _ => ets_nil) (fun _ _ _ _ _ => (ED.o (ed_var 13))))) (ad_cons (ed_tup (ad_cons ed_str (ad_cons ed_str (ad_cons ed_str ad_nil)))) ad_nil))) (eg_tup (n := 2) rfl (egs_cons (eg_name 7 sc_law_plain_right.nd) (egs_cons (eg_name 8 sc_law_plain_right.nd) egs_nil)))) (dss_cons (ds_set 9 sc_law_plain_right.nd (ed_dix hr.hu (ed_dict (dps_cons ed_str (EO.d (eo_lst (ao_cons (ED.o ed_str) (ao_cons (ED.o ed_str) ao_nil)))) (dps_cons ed_str (EO.d (eo_lst (ao_cons (ED.o ed_str) (ao_cons (ED.o ed_str) ao_nil)))) dps_nil))) (ed_ixN 7 ed_int))) (dss_cons (ds_set 10 sc_law_plain_right.nd (ed_if (EC.t (ec_ne hr.hu (ED.v (ed_ixN 7 ed_int)) (ED.v (ed_ixN 7 (ed_neg (ED.v ed_int)))))) (ed_ixN 9 (ed_int1 T.z_int (av_cons (ED.v (EC.d (ec_eq hr.hu (ED.v (ed_ixN 7 (ed_neg (ED.v ed_int)))) (ED.v ed_str)))) av_nil))) (ed_ixN 7 ed_int))) (dss_cons (ds_if (et_not (et_val (ed_callV (DF.mono F_law_same (by first | omega | decide)) hr (av_cons (ED.v (EO.d (eo_lst (ao_cons (eo_callP (DF.mono F_kind_of (by first | omega | decide)) hr (ad_cons (ed_var 1) ad_nil)) (ao_cons (eo_callK0 (DF.mono F_kind_of (by first | omega | decide)) hr ["saying"] [0] (fun _ _ _ _ _ _ us ws h1 h2 => match us, ws, h1, h2 with | [], [_], _, _ => rfl) (kd_cons (ed_var 1) kd_nil)) ao_nil))))) (av_cons (ED.v (EO.d (eo_lst (ao_cons (ED.o (ed_var 10)) (ao_cons (ED.o (ed_var 10)) ao_nil))))) av_nil))))) (dss_cons (ds_ret (ED.o ed_bl)) dss_nil) dss_nil) (dss_cons (ds_for PassesOwn.never rfl (ei_seq (ed_var 5)) (eg_name 11 sc_law_plain_right.nd) (dss_cons (ds_set 12 sc_law_plain_right.nd (EO.d (eo_callP (DF.mono F_law_parts (by first | omega | decide)) hr (ad_cons (ed_var 11) ad_nil)))) (dss_cons (ds_if (et_not (et_val (ed_callV (DF.mono F_law_same (by first | omega | decide)) hr (av_cons (ED.v (EO.d (eo_lst (ao_cons (eo_callP (DF.mono F_parts_of (by first | omega | decide)) hr (ad_cons (ed_var 11) ad_nil)) (ao_cons (eo_callK0 (DF.mono F_parts_of (by first | omega | decide)) hr ["body"] [0] (fun _ _ _ _ _ _ us ws h1 h2 => match us, ws, h1, h2 with | [], [_], _, _ => rfl) (kd_cons (ed_var 11) kd_nil)) ao_nil))))) (av_cons (ED.v (EO.d (eo_lst (ao_cons (ED.o (ed_var 12)) (ao_cons (ED.o (ed_var 12)) ao_nil))))) av_nil))))) (dss_cons (ds_ret (ED.o ed_bl)) dss_nil) dss_nil) (dss_cons (ds_if (et_not (et_val (ed_callV (DF.mono F_law_same (by first | omega | decide)) hr (av_cons (ED.v (EO.d (eo_callK0 (DF.mono F_looks_back (by first | omega | decide)) hr ["body"] [0] (fun _ _ _ _ _ _ us ws h1 h2 => match us, ws, h1, h2 with | [], [_], _, _ => rfl) (kd_cons (ed_var 11) kd_nil)))) (av_cons (ED.v (ed_len T.z_len (av_cons (ED.v (EO.d (eo_lc (own := [("one", 15)]) rfl sc_law_plain_right.nd (ei_seq (ed_var 12)) (blkOk_by (N := N_law_plain_right) (sc := (defScope s_law_plain_right)) (by first | decide +kernel | exact rfl)) (by decide) (fun _ _ _ _ _ => (eg_name 15 sc_law_plain_right.nd)) (fun _ _ _ _ _ => (ets_one (EC.t (ec_in hr.hu (ED.v (ed_ixN 15 ed_int)) (ev_var 8))))) (fun _ _ _ _ _ => (ED.o (ed_var 15)))))) av_nil))) av_nil))))) (dss_cons (ds_ret (ED.o ed_bl)) dss_nil) dss_nil) dss_nil)))) (dss_cons (ds_ret (ED.o (EC.d (ec_eq hr.hu (ED.v (ed_repr hr.2 hr.hu T.z_repr (av_cons (ev_var 1) av_nil))) (ev_var 4))))) dss_nil))))))))))))), ?_⟩
  replace hB : IsBox n M p := hB
  replace hn : n + drCost ≤ 2 ^ 50 := hn
  (try simp only [seqS_M, startE_cons, startE_nil, List.length_cons, List.length_nil, List.length_replicate, List.length_set, List.replicate_succ, List.replicate_zero, List.getElem?_cons_zero, List.getElem?_cons_succ, List.set_cons_zero, List.set_cons_succ, Option.some.injEq, OT.fz.injEq, OT.ow.injEq, D.int.injEq, D.str.injEq, D.bl.injEq, D.tup.injEq, D.lst.injEq, List.cons.injEq, exists_eq_left', exists_eq_left, exists_eq_right, and_true, true_and, OT.toD_fz, toD_map_fz, hIx_tup, hIx_lst, hIx_scr, hIx_mob, hIx_str, hIxT_fz, hIxT_ow, hAdd_int, hAdd_str, hAdd_tup, hAdd_lst, hMul_int, hMul_lst, hSl_tup, hSl_lst, hSl_str, hLen_lst, hLen_tup, hLen_scr, hLen_str, hLen_mob, hInt_int, hInt_bl, hAbs_int, hSeq_lst, hSeq_tup, hIn_lst, hIn_tup, hEq_eq, hI0_int, hI_int, ng_f, ng_t, atI_0, atI_1, atI_2, ofString_inj, eqv_str, eqv_txt, eqv_int, eqv_bl, eqv_tup, eqv_lst, eqOk_str, eqOk_int, eqOk_bl, eqOk_txt, decide_eq_true_eq, Nat.zero_lt_succ, exists_and_left, List.take_succ_cons, List.take_zero, List.drop_succ_cons, List.drop_zero, List.cons_append, List.nil_append, and_assoc, atI_map, Option.map_some, Nat.reduceAdd, Nat.reduceLT, Nat.reduceLeDiff, OT.toD_ow, List.map_cons, List.map_nil, D.mob.injEq, Mo.lst.injEq, Mem.put_same, Mem.put_put, ixN_30, ixN_32, ixN_10, exists_prop, fz_app, fz_inj, fz_snoc, OT.map_fz, List.length_map, List.length_append, List.append_nil, Nat.zero_add, cutL_1, items_tup, items_lst, items_scr, forD, compD, compS, comp2D, wipeE, D.isIn, List.any_cons, List.any_nil, String.reduceEq, D.plain, D.plains, D.dep, D.deps, Nat.max_self, Nat.min_self, Nat.zero_le, Nat.zero_min, Nat.min_zero, sizeLine_eq, forall_eq, exists_const, forall_const, kind_non, kind_bl, kind_int, kind_str, kind_lst, kind_tup, kind_dk, Kd.isa, reduceCtorEq, decide_false, decide_true, Bool.or_false, Bool.false_or, Bool.or_true, Bool.true_or, Bool.or_self, Bool.and_false, Bool.false_and, Bool.true_and, Bool.and_true, Bool.and_self, and_self, false_or, or_false, false_and, and_false, reduceIte, Bool.false_eq_true, Bool.not_eq_true, Bool.not_true, Bool.not_false]); repeat (first | (refine seq_in ?_; simp only [seqS_M, startE_cons, startE_nil, List.length_cons, List.length_nil, List.length_replicate, List.length_set, List.replicate_succ, List.replicate_zero, List.getElem?_cons_zero, List.getElem?_cons_succ, List.set_cons_zero, List.set_cons_succ, Option.some.injEq, OT.fz.injEq, OT.ow.injEq, D.int.injEq, D.str.injEq, D.bl.injEq, D.tup.injEq, D.lst.injEq, List.cons.injEq, exists_eq_left', exists_eq_left, exists_eq_right, and_true, true_and, OT.toD_fz, toD_map_fz, hIx_tup, hIx_lst, hIx_scr, hIx_mob, hIx_str, hIxT_fz, hIxT_ow, hAdd_int, hAdd_str, hAdd_tup, hAdd_lst, hMul_int, hMul_lst, hSl_tup, hSl_lst, hSl_str, hLen_lst, hLen_tup, hLen_scr, hLen_str, hLen_mob, hInt_int, hInt_bl, hAbs_int, hSeq_lst, hSeq_tup, hIn_lst, hIn_tup, hEq_eq, hI0_int, hI_int, ng_f, ng_t, atI_0, atI_1, atI_2, ofString_inj, eqv_str, eqv_txt, eqv_int, eqv_bl, eqv_tup, eqv_lst, eqOk_str, eqOk_int, eqOk_bl, eqOk_txt, decide_eq_true_eq, Nat.zero_lt_succ, exists_and_left, List.take_succ_cons, List.take_zero, List.drop_succ_cons, List.drop_zero, List.cons_append, List.nil_append, and_assoc, atI_map, Option.map_some, Nat.reduceAdd, Nat.reduceLT, Nat.reduceLeDiff, OT.toD_ow, List.map_cons, List.map_nil, D.mob.injEq, Mo.lst.injEq, Mem.put_same, Mem.put_put, ixN_30, ixN_32, ixN_10, exists_prop, fz_app, fz_inj, fz_snoc, OT.map_fz, List.length_map, List.length_append, List.append_nil, Nat.zero_add, cutL_1, items_tup, items_lst, items_scr, forD, compD, compS, comp2D, wipeE, D.isIn, List.any_cons, List.any_nil, String.reduceEq, D.plain, D.plains, D.dep, D.deps, Nat.max_self, Nat.min_self, Nat.zero_le, Nat.zero_min, Nat.min_zero, sizeLine_eq, forall_eq, exists_const, forall_const, kind_non, kind_bl, kind_int, kind_str, kind_lst, kind_tup, kind_dk, Kd.isa, reduceCtorEq, decide_false, decide_true, Bool.or_false, Bool.false_or, Bool.or_true, Bool.true_or, Bool.or_self, Bool.and_false, Bool.false_and, Bool.true_and, Bool.and_true, Bool.and_self, and_self, false_or, or_false, false_and, and_false, reduceIte, Bool.false_eq_true, Bool.not_eq_true, Bool.not_true, Bool.not_false]) | refine And.intro (by first | assumption | omega | decide) ?_ | omega | assumption)
  refine ⟨⟨p, n⟩, ⟨rfl, hB, hn⟩, ?_⟩
  rintro t M1 ⟨ws, runs, b, rfl, hws, hrl, hr2, hh, hbk, hpl, hB1⟩
  replace hB1 : IsBox (n + drCost) M1 p := hB1
  have hfit := plD_fits hws hrl hr2 hbk hh hpl
  unfold plD at hfit ⊢
  obtain ⟨f1, f2, f3, f4⟩ := hfit
  generalize hhd : zipD (ws.map .str) (runs.map .str) = hs at f1 f2 f3 f4 ⊢
  have s1 := parts_small (b := b) (by omega)
  (try simp only [seqS_M, startE_cons, startE_nil, List.length_cons, List.length_nil, List.length_replicate, List.length_set, List.replicate_succ, List.replicate_zero, List.getElem?_cons_zero, List.getElem?_cons_succ, List.set_cons_zero, List.set_cons_succ, Option.some.injEq, OT.fz.injEq, OT.ow.injEq, D.int.injEq, D.str.injEq, D.bl.injEq, D.tup.injEq, D.lst.injEq, List.cons.injEq, exists_eq_left', exists_eq_left, exists_eq_right, and_true, true_and, OT.toD_fz, toD_map_fz, hIx_tup, hIx_lst, hIx_scr, hIx_mob, hIx_str, hIxT_fz, hIxT_ow, hAdd_int, hAdd_str, hAdd_tup, hAdd_lst, hMul_int, hMul_lst, hSl_tup, hSl_lst, hSl_str, hLen_lst, hLen_tup, hLen_scr, hLen_str, hLen_mob, hInt_int, hInt_bl, hAbs_int, hSeq_lst, hSeq_tup, hIn_lst, hIn_tup, hEq_eq, hI0_int, hI_int, ng_f, ng_t, atI_0, atI_1, atI_2, ofString_inj, eqv_str, eqv_txt, eqv_int, eqv_bl, eqv_tup, eqv_lst, eqOk_str, eqOk_int, eqOk_bl, eqOk_txt, decide_eq_true_eq, Nat.zero_lt_succ, exists_and_left, List.take_succ_cons, List.take_zero, List.drop_succ_cons, List.drop_zero, List.cons_append, List.nil_append, and_assoc, atI_map, Option.map_some, Nat.reduceAdd, Nat.reduceLT, Nat.reduceLeDiff, OT.toD_ow, List.map_cons, List.map_nil, D.mob.injEq, Mo.lst.injEq, Mem.put_same, Mem.put_put, ixN_30, ixN_32, ixN_10, exists_prop, fz_app, fz_inj, fz_snoc, OT.map_fz, List.length_map, List.length_append, List.append_nil, Nat.zero_add, cutL_1, items_tup, items_lst, items_scr, forD, compD, compS, comp2D, wipeE, D.isIn, List.any_cons, List.any_nil, String.reduceEq, D.plain, D.plains, D.dep, D.deps, Nat.max_self, Nat.min_self, Nat.zero_le, Nat.zero_min, Nat.min_zero, sizeLine_eq, forall_eq, exists_const, forall_const, kind_non, kind_bl, kind_int, kind_str, kind_lst, kind_tup, kind_dk, Kd.isa, reduceCtorEq, decide_false, decide_true, Bool.or_false, Bool.false_or, Bool.or_true, Bool.true_or, Bool.or_self, Bool.and_false, Bool.false_and, Bool.true_and, Bool.and_true, Bool.and_self, and_self, false_or, or_false, false_and, and_false, reduceIte, Bool.false_eq_true, Bool.not_eq_true, Bool.not_true, Bool.not_false, f1, f2, spParts, DSpec.pure, bd_inj]); repeat (first | (refine seq_in ?_; simp only [seqS_M, startE_cons, startE_nil, List.length_cons, List.length_nil, List.length_replicate, List.length_set, List.replicate_succ, List.replicate_zero, List.getElem?_cons_zero, List.getElem?_cons_succ, List.set_cons_zero, List.set_cons_succ, Option.some.injEq, OT.fz.injEq, OT.ow.injEq, D.int.injEq, D.str.injEq, D.bl.injEq, D.tup.injEq, D.lst.injEq, List.cons.injEq, exists_eq_left', exists_eq_left, exists_eq_right, and_true, true_and, OT.toD_fz, toD_map_fz, hIx_tup, hIx_lst, hIx_scr, hIx_mob, hIx_str, hIxT_fz, hIxT_ow, hAdd_int, hAdd_str, hAdd_tup, hAdd_lst, hMul_int, hMul_lst, hSl_tup, hSl_lst, hSl_str, hLen_lst, hLen_tup, hLen_scr, hLen_str, hLen_mob, hInt_int, hInt_bl, hAbs_int, hSeq_lst, hSeq_tup, hIn_lst, hIn_tup, hEq_eq, hI0_int, hI_int, ng_f, ng_t, atI_0, atI_1, atI_2, ofString_inj, eqv_str, eqv_txt, eqv_int, eqv_bl, eqv_tup, eqv_lst, eqOk_str, eqOk_int, eqOk_bl, eqOk_txt, decide_eq_true_eq, Nat.zero_lt_succ, exists_and_left, List.take_succ_cons, List.take_zero, List.drop_succ_cons, List.drop_zero, List.cons_append, List.nil_append, and_assoc, atI_map, Option.map_some, Nat.reduceAdd, Nat.reduceLT, Nat.reduceLeDiff, OT.toD_ow, List.map_cons, List.map_nil, D.mob.injEq, Mo.lst.injEq, Mem.put_same, Mem.put_put, ixN_30, ixN_32, ixN_10, exists_prop, fz_app, fz_inj, fz_snoc, OT.map_fz, List.length_map, List.length_append, List.append_nil, Nat.zero_add, cutL_1, items_tup, items_lst, items_scr, forD, compD, compS, comp2D, wipeE, D.isIn, List.any_cons, List.any_nil, String.reduceEq, D.plain, D.plains, D.dep, D.deps, Nat.max_self, Nat.min_self, Nat.zero_le, Nat.zero_min, Nat.min_zero, sizeLine_eq, forall_eq, exists_const, forall_const, kind_non, kind_bl, kind_int, kind_str, kind_lst, kind_tup, kind_dk, Kd.isa, reduceCtorEq, decide_false, decide_true, Bool.or_false, Bool.false_or, Bool.or_true, Bool.true_or, Bool.or_self, Bool.and_false, Bool.false_and, Bool.true_and, Bool.and_true, Bool.and_self, and_self, false_or, or_false, false_and, and_false, reduceIte, Bool.false_eq_true, Bool.not_eq_true, Bool.not_true, Bool.not_false, f1, f2, spParts, DSpec.pure, bd_inj]) | refine And.intro (by first | assumption | omega | decide) ?_ | omega | assumption)
  refine ⟨_, rfl, rfl, f1, f2, f3, f4, ?_⟩
  have p1 := partsD_plain b
  have p2 : D.deps b.partsD ≤ b.hgt + 2 := by have := partsD_dep b; rw [dep_lst] at this; omega
  have p3 := bd_dep b
  have em : atI b.partsD (-1) = some b.toD := atI_m (by unfold Bd.partsD; rw [List.getLast?_map, parts_last]; rfl)
  (try simp only [seqS_M, startE_cons, startE_nil, List.length_cons, List.length_nil, List.length_replicate, List.length_set, List.replicate_succ, List.replicate_zero, List.getElem?_cons_zero, List.getElem?_cons_succ, List.set_cons_zero, List.set_cons_succ, Option.some.injEq, OT.fz.injEq, OT.ow.injEq, D.int.injEq, D.str.injEq, D.bl.injEq, D.tup.injEq, D.lst.injEq, List.cons.injEq, exists_eq_left', exists_eq_left, exists_eq_right, and_true, true_and, OT.toD_fz, toD_map_fz, hIx_tup, hIx_lst, hIx_scr, hIx_mob, hIx_str, hIxT_fz, hIxT_ow, hAdd_int, hAdd_str, hAdd_tup, hAdd_lst, hMul_int, hMul_lst, hSl_tup, hSl_lst, hSl_str, hLen_lst, hLen_tup, hLen_scr, hLen_str, hLen_mob, hInt_int, hInt_bl, hAbs_int, hSeq_lst, hSeq_tup, hIn_lst, hIn_tup, hEq_eq, hI0_int, hI_int, ng_f, ng_t, atI_0, atI_1, atI_2, ofString_inj, eqv_str, eqv_txt, eqv_int, eqv_bl, eqv_tup, eqv_lst, eqOk_str, eqOk_int, eqOk_bl, eqOk_txt, decide_eq_true_eq, Nat.zero_lt_succ, exists_and_left, List.take_succ_cons, List.take_zero, List.drop_succ_cons, List.drop_zero, List.cons_append, List.nil_append, and_assoc, atI_map, Option.map_some, Nat.reduceAdd, Nat.reduceLT, Nat.reduceLeDiff, OT.toD_ow, List.map_cons, List.map_nil, D.mob.injEq, Mo.lst.injEq, Mem.put_same, Mem.put_put, ixN_30, ixN_32, ixN_10, exists_prop, fz_app, fz_inj, fz_snoc, OT.map_fz, List.length_map, List.length_append, List.append_nil, Nat.zero_add, cutL_1, items_tup, items_lst, items_scr, forD, compD, compS, comp2D, wipeE, D.isIn, List.any_cons, List.any_nil, String.reduceEq, D.plain, D.plains, D.dep, D.deps, Nat.max_self, Nat.min_self, Nat.zero_le, Nat.zero_min, Nat.min_zero, sizeLine_eq, forall_eq, exists_const, forall_const, kind_non, kind_bl, kind_int, kind_str, kind_lst, kind_tup, kind_dk, Kd.isa, reduceCtorEq, decide_false, decide_true, Bool.or_false, Bool.false_or, Bool.or_true, Bool.true_or, Bool.or_self, Bool.and_false, Bool.false_and, Bool.true_and, Bool.and_true, Bool.and_self, and_self, false_or, or_false, false_and, and_false, reduceIte, Bool.false_eq_true, Bool.not_eq_true, Bool.not_true, Bool.not_false, spSame, spParts, DSpec.pure, bd_inj, bd_plain, p1, em, Int.reduceNeg]); repeat (first | (refine seq_in ?_; simp only [seqS_M, startE_cons, startE_nil, List.length_cons, List.length_nil, List.length_replicate, List.length_set, List.replicate_succ, List.replicate_zero, List.getElem?_cons_zero, List.getElem?_cons_succ, List.set_cons_zero, List.set_cons_succ, Option.some.injEq, OT.fz.injEq, OT.ow.injEq, D.int.injEq, D.str.injEq, D.bl.injEq, D.tup.injEq, D.lst.injEq, List.cons.injEq, exists_eq_left', exists_eq_left, exists_eq_right, and_true, true_and, OT.toD_fz, toD_map_fz, hIx_tup, hIx_lst, hIx_scr, hIx_mob, hIx_str, hIxT_fz, hIxT_ow, hAdd_int, hAdd_str, hAdd_tup, hAdd_lst, hMul_int, hMul_lst, hSl_tup, hSl_lst, hSl_str, hLen_lst, hLen_tup, hLen_scr, hLen_str, hLen_mob, hInt_int, hInt_bl, hAbs_int, hSeq_lst, hSeq_tup, hIn_lst, hIn_tup, hEq_eq, hI0_int, hI_int, ng_f, ng_t, atI_0, atI_1, atI_2, ofString_inj, eqv_str, eqv_txt, eqv_int, eqv_bl, eqv_tup, eqv_lst, eqOk_str, eqOk_int, eqOk_bl, eqOk_txt, decide_eq_true_eq, Nat.zero_lt_succ, exists_and_left, List.take_succ_cons, List.take_zero, List.drop_succ_cons, List.drop_zero, List.cons_append, List.nil_append, and_assoc, atI_map, Option.map_some, Nat.reduceAdd, Nat.reduceLT, Nat.reduceLeDiff, OT.toD_ow, List.map_cons, List.map_nil, D.mob.injEq, Mo.lst.injEq, Mem.put_same, Mem.put_put, ixN_30, ixN_32, ixN_10, exists_prop, fz_app, fz_inj, fz_snoc, OT.map_fz, List.length_map, List.length_append, List.append_nil, Nat.zero_add, cutL_1, items_tup, items_lst, items_scr, forD, compD, compS, comp2D, wipeE, D.isIn, List.any_cons, List.any_nil, String.reduceEq, D.plain, D.plains, D.dep, D.deps, Nat.max_self, Nat.min_self, Nat.zero_le, Nat.zero_min, Nat.min_zero, sizeLine_eq, forall_eq, exists_const, forall_const, kind_non, kind_bl, kind_int, kind_str, kind_lst, kind_tup, kind_dk, Kd.isa, reduceCtorEq, decide_false, decide_true, Bool.or_false, Bool.false_or, Bool.or_true, Bool.true_or, Bool.or_self, Bool.and_false, Bool.false_and, Bool.true_and, Bool.and_true, Bool.and_self, and_self, false_or, or_false, false_and, and_false, reduceIte, Bool.false_eq_true, Bool.not_eq_true, Bool.not_true, Bool.not_false, spSame, spParts, DSpec.pure, bd_inj, bd_plain, p1, em, Int.reduceNeg]) | refine And.intro (by first | assumption | omega | decide) ?_ | omega | assumption)
  have hzl : hs.length ≤ 3 := by rw [← hhd, zipD_len, List.length_map, List.length_map, hrl]; omega
  (try simp only [seqS_M, startE_cons, startE_nil, List.length_cons, List.length_nil, List.length_replicate, List.length_set, List.replicate_succ, List.replicate_zero, List.getElem?_cons_zero, List.getElem?_cons_succ, List.set_cons_zero, List.set_cons_succ, Option.some.injEq, OT.fz.injEq, OT.ow.injEq, D.int.injEq, D.str.injEq, D.bl.injEq, D.tup.injEq, D.lst.injEq, List.cons.injEq, exists_eq_left', exists_eq_left, exists_eq_right, and_true, true_and, OT.toD_fz, toD_map_fz, hIx_tup, hIx_lst, hIx_scr, hIx_mob, hIx_str, hIxT_fz, hIxT_ow, hAdd_int, hAdd_str, hAdd_tup, hAdd_lst, hMul_int, hMul_lst, hSl_tup, hSl_lst, hSl_str, hLen_lst, hLen_tup, hLen_scr, hLen_str, hLen_mob, hInt_int, hInt_bl, hAbs_int, hSeq_lst, hSeq_tup, hIn_lst, hIn_tup, hEq_eq, hI0_int, hI_int, ng_f, ng_t, atI_0, atI_1, atI_2, ofString_inj, eqv_str, eqv_txt, eqv_int, eqv_bl, eqv_tup, eqv_lst, eqOk_str, eqOk_int, eqOk_bl, eqOk_txt, decide_eq_true_eq, Nat.zero_lt_succ, exists_and_left, List.take_succ_cons, List.take_zero, List.drop_succ_cons, List.drop_zero, List.cons_append, List.nil_append, and_assoc, atI_map, Option.map_some, Nat.reduceAdd, Nat.reduceLT, Nat.reduceLeDiff, OT.toD_ow, List.map_cons, List.map_nil, D.mob.injEq, Mo.lst.injEq, Mem.put_same, Mem.put_put, ixN_30, ixN_32, ixN_10, exists_prop, fz_app, fz_inj, fz_snoc, OT.map_fz, List.length_map, List.length_append, List.append_nil, Nat.zero_add, cutL_1, items_tup, items_lst, items_scr, forD, compD, compS, comp2D, wipeE, D.isIn, List.any_cons, List.any_nil, String.reduceEq, D.plain, D.plains, D.dep, D.deps, Nat.max_self, Nat.min_self, Nat.zero_le, Nat.zero_min, Nat.min_zero, sizeLine_eq, forall_eq, exists_const, forall_const, kind_non, kind_bl, kind_int, kind_str, kind_lst, kind_tup, kind_dk, Kd.isa, reduceCtorEq, decide_false, decide_true, Bool.or_false, Bool.false_or, Bool.or_true, Bool.true_or, Bool.or_self, Bool.and_false, Bool.false_and, Bool.true_and, Bool.and_true, Bool.and_self, and_self, false_or, or_false, false_and, and_false, reduceIte, Bool.false_eq_true, Bool.not_eq_true, Bool.not_true, Bool.not_false, spSame, spParts, DSpec.pure, bd_inj, bd_plain, p1, em, Int.reduceNeg, pD_len, List.length_reverse, List.length_map]); repeat (first | (refine seq_in ?_; simp only [seqS_M, startE_cons, startE_nil, List.length_cons, List.length_nil, List.length_replicate, List.length_set, List.replicate_succ, List.replicate_zero, List.getElem?_cons_zero, List.getElem?_cons_succ, List.set_cons_zero, List.set_cons_succ, Option.some.injEq, OT.fz.injEq, OT.ow.injEq, D.int.injEq, D.str.injEq, D.bl.injEq, D.tup.injEq, D.lst.injEq, List.cons.injEq, exists_eq_left', exists_eq_left, exists_eq_right, and_true, true_and, OT.toD_fz, toD_map_fz, hIx_tup, hIx_lst, hIx_scr, hIx_mob, hIx_str, hIxT_fz, hIxT_ow, hAdd_int, hAdd_str, hAdd_tup, hAdd_lst, hMul_int, hMul_lst, hSl_tup, hSl_lst, hSl_str, hLen_lst, hLen_tup, hLen_scr, hLen_str, hLen_mob, hInt_int, hInt_bl, hAbs_int, hSeq_lst, hSeq_tup, hIn_lst, hIn_tup, hEq_eq, hI0_int, hI_int, ng_f, ng_t, atI_0, atI_1, atI_2, ofString_inj, eqv_str, eqv_txt, eqv_int, eqv_bl, eqv_tup, eqv_lst, eqOk_str, eqOk_int, eqOk_bl, eqOk_txt, decide_eq_true_eq, Nat.zero_lt_succ, exists_and_left, List.take_succ_cons, List.take_zero, List.drop_succ_cons, List.drop_zero, List.cons_append, List.nil_append, and_assoc, atI_map, Option.map_some, Nat.reduceAdd, Nat.reduceLT, Nat.reduceLeDiff, OT.toD_ow, List.map_cons, List.map_nil, D.mob.injEq, Mo.lst.injEq, Mem.put_same, Mem.put_put, ixN_30, ixN_32, ixN_10, exists_prop, fz_app, fz_inj, fz_snoc, OT.map_fz, List.length_map, List.length_append, List.append_nil, Nat.zero_add, cutL_1, items_tup, items_lst, items_scr, forD, compD, compS, comp2D, wipeE, D.isIn, List.any_cons, List.any_nil, String.reduceEq, D.plain, D.plains, D.dep, D.deps, Nat.max_self, Nat.min_self, Nat.zero_le, Nat.zero_min, Nat.min_zero, sizeLine_eq, forall_eq, exists_const, forall_const, kind_non, kind_bl, kind_int, kind_str, kind_lst, kind_tup, kind_dk, Kd.isa, reduceCtorEq, decide_false, decide_true, Bool.or_false, Bool.false_or, Bool.or_true, Bool.true_or, Bool.or_self, Bool.and_false, Bool.false_and, Bool.true_and, Bool.and_true, Bool.and_self, and_self, false_or, or_false, false_and, and_false, reduceIte, Bool.false_eq_true, Bool.not_eq_true, Bool.not_true, Bool.not_false, spSame, spParts, DSpec.pure, bd_inj, bd_plain, p1, em, Int.reduceNeg, pD_len, List.length_reverse, List.length_map]) | refine And.intro (by first | assumption | omega | decide) ?_ | omega | assumption)
  obtain ⟨⟨hf, hl2⟩, ha0, ha1⟩ := words_ends hws
  have hwl : ws.length ≤ 3 := by unfold wordSets at hws; simp only [List.mem_cons, List.not_mem_nil, or_false] at hws; rcases hws with rfl | rfl | rfl | rfl | rfl | rfl | rfl | rfl | rfl | rfl <;> decide
  refine compD_rec (fun ds acc M' => M' = M1 ∧ ∃ (done rest rr : List Str), ws = done ++ rest ∧ ds = zipD (rest.map .str) (rr.map .str) ∧ rest.length ≤ rr.length ∧ acc = (done.map .str).map .fz) _ _ _ ⟨rfl, [], ws, runs, rfl, hhd.symm, by omega, rfl⟩ (fun acc M' h => ?_) fun d ds acc M' h C hC => ?_
  · obtain ⟨rfl, done, rest, rr, rfl, e1, e2, rfl⟩ := h
    have : rest = [] := by
      have := congrArg List.length e1
      rw [zipD_len, List.length_map, List.length_map] at this
      simp only [List.length_nil] at this
      exact List.eq_nil_of_length_eq_zero (by omega)
    subst this
    rw [List.append_nil] at *
    have n1 : (Str.ofString "all" = Str.ofString "some") = False := by simp [ofString_inj]
    have n2 : (Str.ofString "some" = Str.ofString "all") = False := by simp [ofString_inj]
    have hkd : kindW done = if fstW done = lstW done then fstW done else if fstW done = "all" then "answer" else "ever" := rfl
    have hsk : spKind.pre ⟨done, runs, b⟩ Mem.no [D.tup [D.tup hs, b.toD]] := ⟨by show [D.tup [D.tup hs, b.toD]] = [plD done runs b]; unfold plD; rw [hhd], hws, hrl⟩
    rcases hf with hf | hf <;> rcases hl2 with hl2 | hl2 <;> rw [hf, hl2] at hkd <;> rw [hf] at ha0 <;> rw [hl2] at ha1
    all_goals simp only [n1, n2, if_true, if_false] at hkd
    all_goals ((try simp only [seqS_M, startE_cons, startE_nil, List.length_cons, List.length_nil, List.length_replicate, List.length_set, List.replicate_succ, List.replicate_zero, List.getElem?_cons_zero, List.getElem?_cons_succ, List.set_cons_zero, List.set_cons_succ, Option.some.injEq, OT.fz.injEq, OT.ow.injEq, D.int.injEq, D.str.injEq, D.bl.injEq, D.tup.injEq, D.lst.injEq, List.cons.injEq, exists_eq_left', exists_eq_left, exists_eq_right, and_true, true_and, OT.toD_fz, toD_map_fz, hIx_tup, hIx_lst, hIx_scr, hIx_mob, hIx_str, hIxT_fz, hIxT_ow, hAdd_int, hAdd_str, hAdd_tup, hAdd_lst, hMul_int, hMul_lst, hSl_tup, hSl_lst, hSl_str, hLen_lst, hLen_tup, hLen_scr, hLen_str, hLen_mob, hInt_int, hInt_bl, hAbs_int, hSeq_lst, hSeq_tup, hIn_lst, hIn_tup, hEq_eq, hI0_int, hI_int, ng_f, ng_t, atI_0, atI_1, atI_2, ofString_inj, eqv_str, eqv_txt, eqv_int, eqv_bl, eqv_tup, eqv_lst, eqOk_str, eqOk_int, eqOk_bl, eqOk_txt, decide_eq_true_eq, Nat.zero_lt_succ, exists_and_left, List.take_succ_cons, List.take_zero, List.drop_succ_cons, List.drop_zero, List.cons_append, List.nil_append, and_assoc, atI_map, Option.map_some, Nat.reduceAdd, Nat.reduceLT, Nat.reduceLeDiff, OT.toD_ow, List.map_cons, List.map_nil, D.mob.injEq, Mo.lst.injEq, Mem.put_same, Mem.put_put, ixN_30, ixN_32, ixN_10, exists_prop, fz_app, fz_inj, fz_snoc, OT.map_fz, List.length_map, List.length_append, List.append_nil, Nat.zero_add, cutL_1, items_tup, items_lst, items_scr, forD, compD, compS, comp2D, wipeE, D.isIn, List.any_cons, List.any_nil, String.reduceEq, D.plain, D.plains, D.dep, D.deps, Nat.max_self, Nat.min_self, Nat.zero_le, Nat.zero_min, Nat.min_zero, sizeLine_eq, forall_eq, exists_const, forall_const, kind_non, kind_bl, kind_int, kind_str, kind_lst, kind_tup, kind_dk, Kd.isa, reduceCtorEq, decide_false, decide_true, Bool.or_false, Bool.false_or, Bool.or_true, Bool.true_or, Bool.or_self, Bool.and_false, Bool.false_and, Bool.true_and, Bool.and_true, Bool.and_self, and_self, false_or, or_false, false_and, and_false, reduceIte, Bool.false_eq_true, Bool.not_eq_true, Bool.not_true, Bool.not_false, ha0, ha1, hkd, n1, n2, Int.reduceNeg]); repeat (first | (refine seq_in ?_; simp only [seqS_M, startE_cons, startE_nil, List.length_cons, List.length_nil, List.length_replicate, List.length_set, List.replicate_succ, List.replicate_zero, List.getElem?_cons_zero, List.getElem?_cons_succ, List.set_cons_zero, List.set_cons_succ, Option.some.injEq, OT.fz.injEq, OT.ow.injEq, D.int.injEq, D.str.injEq, D.bl.injEq, D.tup.injEq, D.lst.injEq, List.cons.injEq, exists_eq_left', exists_eq_left, exists_eq_right, and_true, true_and, OT.toD_fz, toD_map_fz, hIx_tup, hIx_lst, hIx_scr, hIx_mob, hIx_str, hIxT_fz, hIxT_ow, hAdd_int, hAdd_str, hAdd_tup, hAdd_lst, hMul_int, hMul_lst, hSl_tup, hSl_lst, hSl_str, hLen_lst, hLen_tup, hLen_scr, hLen_str, hLen_mob, hInt_int, hInt_bl, hAbs_int, hSeq_lst, hSeq_tup, hIn_lst, hIn_tup, hEq_eq, hI0_int, hI_int, ng_f, ng_t, atI_0, atI_1, atI_2, ofString_inj, eqv_str, eqv_txt, eqv_int, eqv_bl, eqv_tup, eqv_lst, eqOk_str, eqOk_int, eqOk_bl, eqOk_txt, decide_eq_true_eq, Nat.zero_lt_succ, exists_and_left, List.take_succ_cons, List.take_zero, List.drop_succ_cons, List.drop_zero, List.cons_append, List.nil_append, and_assoc, atI_map, Option.map_some, Nat.reduceAdd, Nat.reduceLT, Nat.reduceLeDiff, OT.toD_ow, List.map_cons, List.map_nil, D.mob.injEq, Mo.lst.injEq, Mem.put_same, Mem.put_put, ixN_30, ixN_32, ixN_10, exists_prop, fz_app, fz_inj, fz_snoc, OT.map_fz, List.length_map, List.length_append, List.append_nil, Nat.zero_add, cutL_1, items_tup, items_lst, items_scr, forD, compD, compS, comp2D, wipeE, D.isIn, List.any_cons, List.any_nil, String.reduceEq, D.plain, D.plains, D.dep, D.deps, Nat.max_self, Nat.min_self, Nat.zero_le, Nat.zero_min, Nat.min_zero, sizeLine_eq, forall_eq, exists_const, forall_const, kind_non, kind_bl, kind_int, kind_str, kind_lst, kind_tup, kind_dk, Kd.isa, reduceCtorEq, decide_false, decide_true, Bool.or_false, Bool.false_or, Bool.or_true, Bool.true_or, Bool.or_self, Bool.and_false, Bool.false_and, Bool.true_and, Bool.and_true, Bool.and_self, and_self, false_or, or_false, false_and, and_false, reduceIte, Bool.false_eq_true, Bool.not_eq_true, Bool.not_true, Bool.not_false, ha0, ha1, hkd, n1, n2, Int.reduceNeg]) | refine And.intro (by first | assumption | omega | decide) ?_ | omega | assumption))
    all_goals refine ⟨_, rfl, _, rfl, by simp [n1], ?_⟩
    all_goals (simp only [hDix_dk, keyOf_str, getK, Sum.inr.injEq, n1, n2, seqS_M, startE_cons, startE_nil, List.length_cons, List.length_nil, List.length_replicate, List.length_set, List.replicate_succ, List.replicate_zero, List.getElem?_cons_zero, List.getElem?_cons_succ, List.set_cons_zero, List.set_cons_succ, Option.some.injEq, OT.fz.injEq, OT.ow.injEq, D.int.injEq, D.str.injEq, D.bl.injEq, D.tup.injEq, D.lst.injEq, List.cons.injEq, exists_eq_left', exists_eq_left, exists_eq_right, and_true, true_and, OT.toD_fz, toD_map_fz, hIx_tup, hIx_lst, hIx_scr, hIx_mob, hIx_str, hIxT_fz, hIxT_ow, hAdd_int, hAdd_str, hAdd_tup, hAdd_lst, hMul_int, hMul_lst, hSl_tup, hSl_lst, hSl_str, hLen_lst, hLen_tup, hLen_scr, hLen_str, hLen_mob, hInt_int, hInt_bl, hAbs_int, hSeq_lst, hSeq_tup, hIn_lst, hIn_tup, hEq_eq, hI0_int, hI_int, ng_f, ng_t, atI_0, atI_1, atI_2, ofString_inj, eqv_str, eqv_txt, eqv_int, eqv_bl, eqv_tup, eqv_lst, eqOk_str, eqOk_int, eqOk_bl, eqOk_txt, decide_eq_true_eq, Nat.zero_lt_succ, exists_and_left, List.take_succ_cons, List.take_zero, List.drop_succ_cons, List.drop_zero, List.cons_append, List.nil_append, and_assoc, atI_map, Option.map_some, Nat.reduceAdd, Nat.reduceLT, Nat.reduceLeDiff, OT.toD_ow, List.map_cons, List.map_nil, D.mob.injEq, Mo.lst.injEq, Mem.put_same, Mem.put_put, ixN_30, ixN_32, ixN_10, exists_prop, fz_app, fz_inj, fz_snoc, OT.map_fz, List.length_map, List.length_append, List.append_nil, Nat.zero_add, cutL_1, items_tup, items_lst, items_scr, forD, compD, compS, comp2D, wipeE, D.isIn, List.any_cons, List.any_nil, String.reduceEq, D.plain, D.plains, D.dep, D.deps, Nat.max_self, Nat.min_self, Nat.zero_le, Nat.zero_min, Nat.min_zero, sizeLine_eq, forall_eq, exists_const, forall_const, kind_non, kind_bl, kind_int, kind_str, kind_lst, kind_tup, kind_dk, Kd.isa, reduceCtorEq, decide_false, decide_true, Bool.or_false, Bool.false_or, Bool.or_true, Bool.true_or, Bool.or_self, Bool.and_false, Bool.false_and, Bool.true_and, Bool.and_true, Bool.and_self, and_self, false_or, or_false, false_and, and_false, reduceIte, Bool.false_eq_true, Bool.not_eq_true, Bool.not_true, Bool.not_false])
    all_goals ((try simp only [seqS_M, startE_cons, startE_nil, List.length_cons, List.length_nil, List.length_replicate, List.length_set, List.replicate_succ, List.replicate_zero, List.getElem?_cons_zero, List.getElem?_cons_succ, List.set_cons_zero, List.set_cons_succ, Option.some.injEq, OT.fz.injEq, OT.ow.injEq, D.int.injEq, D.str.injEq, D.bl.injEq, D.tup.injEq, D.lst.injEq, List.cons.injEq, exists_eq_left', exists_eq_left, exists_eq_right, and_true, true_and, OT.toD_fz, toD_map_fz, hIx_tup, hIx_lst, hIx_scr, hIx_mob, hIx_str, hIxT_fz, hIxT_ow, hAdd_int, hAdd_str, hAdd_tup, hAdd_lst, hMul_int, hMul_lst, hSl_tup, hSl_lst, hSl_str, hLen_lst, hLen_tup, hLen_scr, hLen_str, hLen_mob, hInt_int, hInt_bl, hAbs_int, hSeq_lst, hSeq_tup, hIn_lst, hIn_tup, hEq_eq, hI0_int, hI_int, ng_f, ng_t, atI_0, atI_1, atI_2, ofString_inj, eqv_str, eqv_txt, eqv_int, eqv_bl, eqv_tup, eqv_lst, eqOk_str, eqOk_int, eqOk_bl, eqOk_txt, decide_eq_true_eq, Nat.zero_lt_succ, exists_and_left, List.take_succ_cons, List.take_zero, List.drop_succ_cons, List.drop_zero, List.cons_append, List.nil_append, and_assoc, atI_map, Option.map_some, Nat.reduceAdd, Nat.reduceLT, Nat.reduceLeDiff, OT.toD_ow, List.map_cons, List.map_nil, D.mob.injEq, Mo.lst.injEq, Mem.put_same, Mem.put_put, ixN_30, ixN_32, ixN_10, exists_prop, fz_app, fz_inj, fz_snoc, OT.map_fz, List.length_map, List.length_append, List.append_nil, Nat.zero_add, cutL_1, items_tup, items_lst, items_scr, forD, compD, compS, comp2D, wipeE, D.isIn, List.any_cons, List.any_nil, String.reduceEq, D.plain, D.plains, D.dep, D.deps, Nat.max_self, Nat.min_self, Nat.zero_le, Nat.zero_min, Nat.min_zero, sizeLine_eq, forall_eq, exists_const, forall_const, kind_non, kind_bl, kind_int, kind_str, kind_lst, kind_tup, kind_dk, Kd.isa, reduceCtorEq, decide_false, decide_true, Bool.or_false, Bool.false_or, Bool.or_true, Bool.true_or, Bool.or_self, Bool.and_false, Bool.false_and, Bool.true_and, Bool.and_true, Bool.and_self, and_self, false_or, or_false, false_and, and_false, reduceIte, Bool.false_eq_true, Bool.not_eq_true, Bool.not_true, Bool.not_false, ha0, ha1, hkd, n1, n2, Int.reduceNeg]); repeat (first | (refine seq_in ?_; simp only [seqS_M, startE_cons, startE_nil, List.length_cons, List.length_nil, List.length_replicate, List.length_set, List.replicate_succ, List.replicate_zero, List.getElem?_cons_zero, List.getElem?_cons_succ, List.set_cons_zero, List.set_cons_succ, Option.some.injEq, OT.fz.injEq, OT.ow.injEq, D.int.injEq, D.str.injEq, D.bl.injEq, D.tup.injEq, D.lst.injEq, List.cons.injEq, exists_eq_left', exists_eq_left, exists_eq_right, and_true, true_and, OT.toD_fz, toD_map_fz, hIx_tup, hIx_lst, hIx_scr, hIx_mob, hIx_str, hIxT_fz, hIxT_ow, hAdd_int, hAdd_str, hAdd_tup, hAdd_lst, hMul_int, hMul_lst, hSl_tup, hSl_lst, hSl_str, hLen_lst, hLen_tup, hLen_scr, hLen_str, hLen_mob, hInt_int, hInt_bl, hAbs_int, hSeq_lst, hSeq_tup, hIn_lst, hIn_tup, hEq_eq, hI0_int, hI_int, ng_f, ng_t, atI_0, atI_1, atI_2, ofString_inj, eqv_str, eqv_txt, eqv_int, eqv_bl, eqv_tup, eqv_lst, eqOk_str, eqOk_int, eqOk_bl, eqOk_txt, decide_eq_true_eq, Nat.zero_lt_succ, exists_and_left, List.take_succ_cons, List.take_zero, List.drop_succ_cons, List.drop_zero, List.cons_append, List.nil_append, and_assoc, atI_map, Option.map_some, Nat.reduceAdd, Nat.reduceLT, Nat.reduceLeDiff, OT.toD_ow, List.map_cons, List.map_nil, D.mob.injEq, Mo.lst.injEq, Mem.put_same, Mem.put_put, ixN_30, ixN_32, ixN_10, exists_prop, fz_app, fz_inj, fz_snoc, OT.map_fz, List.length_map, List.length_append, List.append_nil, Nat.zero_add, cutL_1, items_tup, items_lst, items_scr, forD, compD, compS, comp2D, wipeE, D.isIn, List.any_cons, List.any_nil, String.reduceEq, D.plain, D.plains, D.dep, D.deps, Nat.max_self, Nat.min_self, Nat.zero_le, Nat.zero_min, Nat.min_zero, sizeLine_eq, forall_eq, exists_const, forall_const, kind_non, kind_bl, kind_int, kind_str, kind_lst, kind_tup, kind_dk, Kd.isa, reduceCtorEq, decide_false, decide_true, Bool.or_false, Bool.false_or, Bool.or_true, Bool.true_or, Bool.or_self, Bool.and_false, Bool.false_and, Bool.true_and, Bool.and_true, Bool.and_self, and_self, false_or, or_false, false_and, and_false, reduceIte, Bool.false_eq_true, Bool.not_eq_true, Bool.not_true, Bool.not_false, ha0, ha1, hkd, n1, n2, Int.reduceNeg]) | refine And.intro (by first | assumption | omega | decide) ?_ | omega | assumption))
    all_goals refine ⟨_, hsk, ?_⟩
    all_goals rintro t ⟨_, rfl⟩
    all_goals ((try simp only [seqS_M, startE_cons, startE_nil, List.length_cons, List.length_nil, List.length_replicate, List.length_set, List.replicate_succ, List.replicate_zero, List.getElem?_cons_zero, List.getElem?_cons_succ, List.set_cons_zero, List.set_cons_succ, Option.some.injEq, OT.fz.injEq, OT.ow.injEq, D.int.injEq, D.str.injEq, D.bl.injEq, D.tup.injEq, D.lst.injEq, List.cons.injEq, exists_eq_left', exists_eq_left, exists_eq_right, and_true, true_and, OT.toD_fz, toD_map_fz, hIx_tup, hIx_lst, hIx_scr, hIx_mob, hIx_str, hIxT_fz, hIxT_ow, hAdd_int, hAdd_str, hAdd_tup, hAdd_lst, hMul_int, hMul_lst, hSl_tup, hSl_lst, hSl_str, hLen_lst, hLen_tup, hLen_scr, hLen_str, hLen_mob, hInt_int, hInt_bl, hAbs_int, hSeq_lst, hSeq_tup, hIn_lst, hIn_tup, hEq_eq, hI0_int, hI_int, ng_f, ng_t, atI_0, atI_1, atI_2, ofString_inj, eqv_str, eqv_txt, eqv_int, eqv_bl, eqv_tup, eqv_lst, eqOk_str, eqOk_int, eqOk_bl, eqOk_txt, decide_eq_true_eq, Nat.zero_lt_succ, exists_and_left, List.take_succ_cons, List.take_zero, List.drop_succ_cons, List.drop_zero, List.cons_append, List.nil_append, and_assoc, atI_map, Option.map_some, Nat.reduceAdd, Nat.reduceLT, Nat.reduceLeDiff, OT.toD_ow, List.map_cons, List.map_nil, D.mob.injEq, Mo.lst.injEq, Mem.put_same, Mem.put_put, ixN_30, ixN_32, ixN_10, exists_prop, fz_app, fz_inj, fz_snoc, OT.map_fz, List.length_map, List.length_append, List.append_nil, Nat.zero_add, cutL_1, items_tup, items_lst, items_scr, forD, compD, compS, comp2D, wipeE, D.isIn, List.any_cons, List.any_nil, String.reduceEq, D.plain, D.plains, D.dep, D.deps, Nat.max_self, Nat.min_self, Nat.zero_le, Nat.zero_min, Nat.min_zero, sizeLine_eq, forall_eq, exists_const, forall_const, kind_non, kind_bl, kind_int, kind_str, kind_lst, kind_tup, kind_dk, Kd.isa, reduceCtorEq, decide_false, decide_true, Bool.or_false, Bool.false_or, Bool.or_true, Bool.true_or, Bool.or_self, Bool.and_false, Bool.false_and, Bool.true_and, Bool.and_true, Bool.and_self, and_self, false_or, or_false, false_and, and_false, reduceIte, Bool.false_eq_true, Bool.not_eq_true, Bool.not_true, Bool.not_false, pick1, hkd, n1, n2, Int.reduceNeg]); repeat (first | (refine seq_in ?_; simp only [seqS_M, startE_cons, startE_nil, List.length_cons, List.length_nil, List.length_replicate, List.length_set, List.replicate_succ, List.replicate_zero, List.getElem?_cons_zero, List.getElem?_cons_succ, List.set_cons_zero, List.set_cons_succ, Option.some.injEq, OT.fz.injEq, OT.ow.injEq, D.int.injEq, D.str.injEq, D.bl.injEq, D.tup.injEq, D.lst.injEq, List.cons.injEq, exists_eq_left', exists_eq_left, exists_eq_right, and_true, true_and, OT.toD_fz, toD_map_fz, hIx_tup, hIx_lst, hIx_scr, hIx_mob, hIx_str, hIxT_fz, hIxT_ow, hAdd_int, hAdd_str, hAdd_tup, hAdd_lst, hMul_int, hMul_lst, hSl_tup, hSl_lst, hSl_str, hLen_lst, hLen_tup, hLen_scr, hLen_str, hLen_mob, hInt_int, hInt_bl, hAbs_int, hSeq_lst, hSeq_tup, hIn_lst, hIn_tup, hEq_eq, hI0_int, hI_int, ng_f, ng_t, atI_0, atI_1, atI_2, ofString_inj, eqv_str, eqv_txt, eqv_int, eqv_bl, eqv_tup, eqv_lst, eqOk_str, eqOk_int, eqOk_bl, eqOk_txt, decide_eq_true_eq, Nat.zero_lt_succ, exists_and_left, List.take_succ_cons, List.take_zero, List.drop_succ_cons, List.drop_zero, List.cons_append, List.nil_append, and_assoc, atI_map, Option.map_some, Nat.reduceAdd, Nat.reduceLT, Nat.reduceLeDiff, OT.toD_ow, List.map_cons, List.map_nil, D.mob.injEq, Mo.lst.injEq, Mem.put_same, Mem.put_put, ixN_30, ixN_32, ixN_10, exists_prop, fz_app, fz_inj, fz_snoc, OT.map_fz, List.length_map, List.length_append, List.append_nil, Nat.zero_add, cutL_1, items_tup, items_lst, items_scr, forD, compD, compS, comp2D, wipeE, D.isIn, List.any_cons, List.any_nil, String.reduceEq, D.plain, D.plains, D.dep, D.deps, Nat.max_self, Nat.min_self, Nat.zero_le, Nat.zero_min, Nat.min_zero, sizeLine_eq, forall_eq, exists_const, forall_const, kind_non, kind_bl, kind_int, kind_str, kind_lst, kind_tup, kind_dk, Kd.isa, reduceCtorEq, decide_false, decide_true, Bool.or_false, Bool.false_or, Bool.or_true, Bool.true_or, Bool.or_self, Bool.and_false, Bool.false_and, Bool.true_and, Bool.and_true, Bool.and_self, and_self, false_or, or_false, false_and, and_false, reduceIte, Bool.false_eq_true, Bool.not_eq_true, Bool.not_true, Bool.not_false, pick1, hkd, n1, n2, Int.reduceNeg]) | refine And.intro (by first | assumption | omega | decide) ?_ | omega | assumption))
    all_goals refine ⟨_, hsk, ?_⟩
    all_goals rintro t ⟨_, rfl⟩
    all_goals ((try simp only [seqS_M, startE_cons, startE_nil, List.length_cons, List.length_nil, List.length_replicate, List.length_set, List.replicate_succ, List.replicate_zero, List.getElem?_cons_zero, List.getElem?_cons_succ, List.set_cons_zero, List.set_cons_succ, Option.some.injEq, OT.fz.injEq, OT.ow.injEq, D.int.injEq, D.str.injEq, D.bl.injEq, D.tup.injEq, D.lst.injEq, List.cons.injEq, exists_eq_left', exists_eq_left, exists_eq_right, and_true, true_and, OT.toD_fz, toD_map_fz, hIx_tup, hIx_lst, hIx_scr, hIx_mob, hIx_str, hIxT_fz, hIxT_ow, hAdd_int, hAdd_str, hAdd_tup, hAdd_lst, hMul_int, hMul_lst, hSl_tup, hSl_lst, hSl_str, hLen_lst, hLen_tup, hLen_scr, hLen_str, hLen_mob, hInt_int, hInt_bl, hAbs_int, hSeq_lst, hSeq_tup, hIn_lst, hIn_tup, hEq_eq, hI0_int, hI_int, ng_f, ng_t, atI_0, atI_1, atI_2, ofString_inj, eqv_str, eqv_txt, eqv_int, eqv_bl, eqv_tup, eqv_lst, eqOk_str, eqOk_int, eqOk_bl, eqOk_txt, decide_eq_true_eq, Nat.zero_lt_succ, exists_and_left, List.take_succ_cons, List.take_zero, List.drop_succ_cons, List.drop_zero, List.cons_append, List.nil_append, and_assoc, atI_map, Option.map_some, Nat.reduceAdd, Nat.reduceLT, Nat.reduceLeDiff, OT.toD_ow, List.map_cons, List.map_nil, D.mob.injEq, Mo.lst.injEq, Mem.put_same, Mem.put_put, ixN_30, ixN_32, ixN_10, exists_prop, fz_app, fz_inj, fz_snoc, OT.map_fz, List.length_map, List.length_append, List.append_nil, Nat.zero_add, cutL_1, items_tup, items_lst, items_scr, forD, compD, compS, comp2D, wipeE, D.isIn, List.any_cons, List.any_nil, String.reduceEq, D.plain, D.plains, D.dep, D.deps, Nat.max_self, Nat.min_self, Nat.zero_le, Nat.zero_min, Nat.min_zero, sizeLine_eq, forall_eq, exists_const, forall_const, kind_non, kind_bl, kind_int, kind_str, kind_lst, kind_tup, kind_dk, Kd.isa, reduceCtorEq, decide_false, decide_true, Bool.or_false, Bool.false_or, Bool.or_true, Bool.true_or, Bool.or_self, Bool.and_false, Bool.false_and, Bool.true_and, Bool.and_true, Bool.and_self, and_self, false_or, or_false, false_and, and_false, reduceIte, Bool.false_eq_true, Bool.not_eq_true, Bool.not_true, Bool.not_false, pick1, hkd, n1, n2, Int.reduceNeg, pD_len]); repeat (first | (refine seq_in ?_; simp only [seqS_M, startE_cons, startE_nil, List.length_cons, List.length_nil, List.length_replicate, List.length_set, List.replicate_succ, List.replicate_zero, List.getElem?_cons_zero, List.getElem?_cons_succ, List.set_cons_zero, List.set_cons_succ, Option.some.injEq, OT.fz.injEq, OT.ow.injEq, D.int.injEq, D.str.injEq, D.bl.injEq, D.tup.injEq, D.lst.injEq, List.cons.injEq, exists_eq_left', exists_eq_left, exists_eq_right, and_true, true_and, OT.toD_fz, toD_map_fz, hIx_tup, hIx_lst, hIx_scr, hIx_mob, hIx_str, hIxT_fz, hIxT_ow, hAdd_int, hAdd_str, hAdd_tup, hAdd_lst, hMul_int, hMul_lst, hSl_tup, hSl_lst, hSl_str, hLen_lst, hLen_tup, hLen_scr, hLen_str, hLen_mob, hInt_int, hInt_bl, hAbs_int, hSeq_lst, hSeq_tup, hIn_lst, hIn_tup, hEq_eq, hI0_int, hI_int, ng_f, ng_t, atI_0, atI_1, atI_2, ofString_inj, eqv_str, eqv_txt, eqv_int, eqv_bl, eqv_tup, eqv_lst, eqOk_str, eqOk_int, eqOk_bl, eqOk_txt, decide_eq_true_eq, Nat.zero_lt_succ, exists_and_left, List.take_succ_cons, List.take_zero, List.drop_succ_cons, List.drop_zero, List.cons_append, List.nil_append, and_assoc, atI_map, Option.map_some, Nat.reduceAdd, Nat.reduceLT, Nat.reduceLeDiff, OT.toD_ow, List.map_cons, List.map_nil, D.mob.injEq, Mo.lst.injEq, Mem.put_same, Mem.put_put, ixN_30, ixN_32, ixN_10, exists_prop, fz_app, fz_inj, fz_snoc, OT.map_fz, List.length_map, List.length_append, List.append_nil, Nat.zero_add, cutL_1, items_tup, items_lst, items_scr, forD, compD, compS, comp2D, wipeE, D.isIn, List.any_cons, List.any_nil, String.reduceEq, D.plain, D.plains, D.dep, D.deps, Nat.max_self, Nat.min_self, Nat.zero_le, Nat.zero_min, Nat.min_zero, sizeLine_eq, forall_eq, exists_const, forall_const, kind_non, kind_bl, kind_int, kind_str, kind_lst, kind_tup, kind_dk, Kd.isa, reduceCtorEq, decide_false, decide_true, Bool.or_false, Bool.false_or, Bool.or_true, Bool.true_or, Bool.or_self, Bool.and_false, Bool.false_and, Bool.true_and, Bool.and_true, Bool.and_self, and_self, false_or, or_false, false_and, and_false, reduceIte, Bool.false_eq_true, Bool.not_eq_true, Bool.not_true, Bool.not_false, pick1, hkd, n1, n2, Int.reduceNeg, pD_len]) | refine And.intro (by first | assumption | omega | decide) ?_ | omega | assumption))
    all_goals
      refine forD_set2 11 12 (fun ds M1 => M1 = M' ∧ ∃ bs : List Bd, ds = bs.map Bd.toD ∧ ∀ c ∈ bs, c ∈ b.parts) rfl rfl ⟨rfl, b.parts, rfl, fun c hc => hc⟩ (fun u v M1 h => ?_) fun d ds u v M1 h C hC => ?_
      · obtain ⟨e, -⟩ := h
        subst e
        (try simp only [seqS_M, startE_cons, startE_nil, List.length_cons, List.length_nil, List.length_replicate, List.length_set, List.replicate_succ, List.replicate_zero, List.getElem?_cons_zero, List.getElem?_cons_succ, List.set_cons_zero, List.set_cons_succ, Option.some.injEq, OT.fz.injEq, OT.ow.injEq, D.int.injEq, D.str.injEq, D.bl.injEq, D.tup.injEq, D.lst.injEq, List.cons.injEq, exists_eq_left', exists_eq_left, exists_eq_right, and_true, true_and, OT.toD_fz, toD_map_fz, hIx_tup, hIx_lst, hIx_scr, hIx_mob, hIx_str, hIxT_fz, hIxT_ow, hAdd_int, hAdd_str, hAdd_tup, hAdd_lst, hMul_int, hMul_lst, hSl_tup, hSl_lst, hSl_str, hLen_lst, hLen_tup, hLen_scr, hLen_str, hLen_mob, hInt_int, hInt_bl, hAbs_int, hSeq_lst, hSeq_tup, hIn_lst, hIn_tup, hEq_eq, hI0_int, hI_int, ng_f, ng_t, atI_0, atI_1, atI_2, ofString_inj, eqv_str, eqv_txt, eqv_int, eqv_bl, eqv_tup, eqv_lst, eqOk_str, eqOk_int, eqOk_bl, eqOk_txt, decide_eq_true_eq, Nat.zero_lt_succ, exists_and_left, List.take_succ_cons, List.take_zero, List.drop_succ_cons, List.drop_zero, List.cons_append, List.nil_append, and_assoc, atI_map, Option.map_some, Nat.reduceAdd, Nat.reduceLT, Nat.reduceLeDiff, OT.toD_ow, List.map_cons, List.map_nil, D.mob.injEq, Mo.lst.injEq, Mem.put_same, Mem.put_put, ixN_30, ixN_32, ixN_10, exists_prop, fz_app, fz_inj, fz_snoc, OT.map_fz, List.length_map, List.length_append, List.append_nil, Nat.zero_add, cutL_1, items_tup, items_lst, items_scr, forD, compD, compS, comp2D, wipeE, D.isIn, List.any_cons, List.any_nil, String.reduceEq, D.plain, D.plains, D.dep, D.deps, Nat.max_self, Nat.min_self, Nat.zero_le, Nat.zero_min, Nat.min_zero, sizeLine_eq, forall_eq, exists_const, forall_const, kind_non, kind_bl, kind_int, kind_str, kind_lst, kind_tup, kind_dk, Kd.isa, reduceCtorEq, decide_false, decide_true, Bool.or_false, Bool.false_or, Bool.or_true, Bool.true_or, Bool.or_self, Bool.and_false, Bool.false_and, Bool.true_and, Bool.and_true, Bool.and_self, and_self, false_or, or_false, false_and, and_false, reduceIte, Bool.false_eq_true, Bool.not_eq_true, Bool.not_true, Bool.not_false, f1, f2, n1, n2, Int.reduceNeg]); repeat (first | (refine seq_in ?_; simp only [seqS_M, startE_cons, startE_nil, List.length_cons, List.length_nil, List.length_replicate, List.length_set, List.replicate_succ, List.replicate_zero, List.getElem?_cons_zero, List.getElem?_cons_succ, List.set_cons_zero, List.set_cons_succ, Option.some.injEq, OT.fz.injEq, OT.ow.injEq, D.int.injEq, D.str.injEq, D.bl.injEq, D.tup.injEq, D.lst.injEq, List.cons.injEq, exists_eq_left', exists_eq_left, exists_eq_right, and_true, true_and, OT.toD_fz, toD_map_fz, hIx_tup, hIx_lst, hIx_scr, hIx_mob, hIx_str, hIxT_fz, hIxT_ow, hAdd_int, hAdd_str, hAdd_tup, hAdd_lst, hMul_int, hMul_lst, hSl_tup, hSl_lst, hSl_str, hLen_lst, hLen_tup, hLen_scr, hLen_str, hLen_mob, hInt_int, hInt_bl, hAbs_int, hSeq_lst, hSeq_tup, hIn_lst, hIn_tup, hEq_eq, hI0_int, hI_int, ng_f, ng_t, atI_0, atI_1, atI_2, ofString_inj, eqv_str, eqv_txt, eqv_int, eqv_bl, eqv_tup, eqv_lst, eqOk_str, eqOk_int, eqOk_bl, eqOk_txt, decide_eq_true_eq, Nat.zero_lt_succ, exists_and_left, List.take_succ_cons, List.take_zero, List.drop_succ_cons, List.drop_zero, List.cons_append, List.nil_append, and_assoc, atI_map, Option.map_some, Nat.reduceAdd, Nat.reduceLT, Nat.reduceLeDiff, OT.toD_ow, List.map_cons, List.map_nil, D.mob.injEq, Mo.lst.injEq, Mem.put_same, Mem.put_put, ixN_30, ixN_32, ixN_10, exists_prop, fz_app, fz_inj, fz_snoc, OT.map_fz, List.length_map, List.length_append, List.append_nil, Nat.zero_add, cutL_1, items_tup, items_lst, items_scr, forD, compD, compS, comp2D, wipeE, D.isIn, List.any_cons, List.any_nil, String.reduceEq, D.plain, D.plains, D.dep, D.deps, Nat.max_self, Nat.min_self, Nat.zero_le, Nat.zero_min, Nat.min_zero, sizeLine_eq, forall_eq, exists_const, forall_const, kind_non, kind_bl, kind_int, kind_str, kind_lst, kind_tup, kind_dk, Kd.isa, reduceCtorEq, decide_false, decide_true, Bool.or_false, Bool.false_or, Bool.or_true, Bool.true_or, Bool.or_self, Bool.and_false, Bool.false_and, Bool.true_and, Bool.and_true, Bool.and_self, and_self, false_or, or_false, false_and, and_false, reduceIte, Bool.false_eq_true, Bool.not_eq_true, Bool.not_true, Bool.not_false, f1, f2, n1, n2, Int.reduceNeg]) | refine And.intro (by first | assumption | omega | decide) ?_ | omega | assumption)
        refine ⟨_, rfl, rfl, f1, f2, f3, f4, ?_⟩
        (try simp only [seqS_M, startE_cons, startE_nil, List.length_cons, List.length_nil, List.length_replicate, List.length_set, List.replicate_succ, List.replicate_zero, List.getElem?_cons_zero, List.getElem?_cons_succ, List.set_cons_zero, List.set_cons_succ, Option.some.injEq, OT.fz.injEq, OT.ow.injEq, D.int.injEq, D.str.injEq, D.bl.injEq, D.tup.injEq, D.lst.injEq, List.cons.injEq, exists_eq_left', exists_eq_left, exists_eq_right, and_true, true_and, OT.toD_fz, toD_map_fz, hIx_tup, hIx_lst, hIx_scr, hIx_mob, hIx_str, hIxT_fz, hIxT_ow, hAdd_int, hAdd_str, hAdd_tup, hAdd_lst, hMul_int, hMul_lst, hSl_tup, hSl_lst, hSl_str, hLen_lst, hLen_tup, hLen_scr, hLen_str, hLen_mob, hInt_int, hInt_bl, hAbs_int, hSeq_lst, hSeq_tup, hIn_lst, hIn_tup, hEq_eq, hI0_int, hI_int, ng_f, ng_t, atI_0, atI_1, atI_2, ofString_inj, eqv_str, eqv_txt, eqv_int, eqv_bl, eqv_tup, eqv_lst, eqOk_str, eqOk_int, eqOk_bl, eqOk_txt, decide_eq_true_eq, Nat.zero_lt_succ, exists_and_left, List.take_succ_cons, List.take_zero, List.drop_succ_cons, List.drop_zero, List.cons_append, List.nil_append, and_assoc, atI_map, Option.map_some, Nat.reduceAdd, Nat.reduceLT, Nat.reduceLeDiff, OT.toD_ow, List.map_cons, List.map_nil, D.mob.injEq, Mo.lst.injEq, Mem.put_same, Mem.put_put, ixN_30, ixN_32, ixN_10, exists_prop, fz_app, fz_inj, fz_snoc, OT.map_fz, List.length_map, List.length_append, List.append_nil, Nat.zero_add, cutL_1, items_tup, items_lst, items_scr, forD, compD, compS, comp2D, wipeE, D.isIn, List.any_cons, List.any_nil, String.reduceEq, D.plain, D.plains, D.dep, D.deps, Nat.max_self, Nat.min_self, Nat.zero_le, Nat.zero_min, Nat.min_zero, sizeLine_eq, forall_eq, exists_const, forall_const, kind_non, kind_bl, kind_int, kind_str, kind_lst, kind_tup, kind_dk, Kd.isa, reduceCtorEq, decide_false, decide_true, Bool.or_false, Bool.false_or, Bool.or_true, Bool.true_or, Bool.or_self, Bool.and_false, Bool.false_and, Bool.true_and, Bool.and_true, Bool.and_self, and_self, false_or, or_false, false_and, and_false, reduceIte, Bool.false_eq_true, Bool.not_eq_true, Bool.not_true, Bool.not_false, f1, f2, n1, n2, Int.reduceNeg]); repeat (first | (refine seq_in ?_; simp only [seqS_M, startE_cons, startE_nil, List.length_cons, List.length_nil, List.length_replicate, List.length_set, List.replicate_succ, List.replicate_zero, List.getElem?_cons_zero, List.getElem?_cons_succ, List.set_cons_zero, List.set_cons_succ, Option.some.injEq, OT.fz.injEq, OT.ow.injEq, D.int.injEq, D.str.injEq, D.bl.injEq, D.tup.injEq, D.lst.injEq, List.cons.injEq, exists_eq_left', exists_eq_left, exists_eq_right, and_true, true_and, OT.toD_fz, toD_map_fz, hIx_tup, hIx_lst, hIx_scr, hIx_mob, hIx_str, hIxT_fz, hIxT_ow, hAdd_int, hAdd_str, hAdd_tup, hAdd_lst, hMul_int, hMul_lst, hSl_tup, hSl_lst, hSl_str, hLen_lst, hLen_tup, hLen_scr, hLen_str, hLen_mob, hInt_int, hInt_bl, hAbs_int, hSeq_lst, hSeq_tup, hIn_lst, hIn_tup, hEq_eq, hI0_int, hI_int, ng_f, ng_t, atI_0, atI_1, atI_2, ofString_inj, eqv_str, eqv_txt, eqv_int, eqv_bl, eqv_tup, eqv_lst, eqOk_str, eqOk_int, eqOk_bl, eqOk_txt, decide_eq_true_eq, Nat.zero_lt_succ, exists_and_left, List.take_succ_cons, List.take_zero, List.drop_succ_cons, List.drop_zero, List.cons_append, List.nil_append, and_assoc, atI_map, Option.map_some, Nat.reduceAdd, Nat.reduceLT, Nat.reduceLeDiff, OT.toD_ow, List.map_cons, List.map_nil, D.mob.injEq, Mo.lst.injEq, Mem.put_same, Mem.put_put, ixN_30, ixN_32, ixN_10, exists_prop, fz_app, fz_inj, fz_snoc, OT.map_fz, List.length_map, List.length_append, List.append_nil, Nat.zero_add, cutL_1, items_tup, items_lst, items_scr, forD, compD, compS, comp2D, wipeE, D.isIn, List.any_cons, List.any_nil, String.reduceEq, D.plain, D.plains, D.dep, D.deps, Nat.max_self, Nat.min_self, Nat.zero_le, Nat.zero_min, Nat.min_zero, sizeLine_eq, forall_eq, exists_const, forall_const, kind_non, kind_bl, kind_int, kind_str, kind_lst, kind_tup, kind_dk, Kd.isa, reduceCtorEq, decide_false, decide_true, Bool.or_false, Bool.false_or, Bool.or_true, Bool.true_or, Bool.or_self, Bool.and_false, Bool.false_and, Bool.true_and, Bool.and_true, Bool.and_self, and_self, false_or, or_false, false_and, and_false, reduceIte, Bool.false_eq_true, Bool.not_eq_true, Bool.not_true, Bool.not_false, f1, f2, n1, n2, Int.reduceNeg]) | refine And.intro (by first | assumption | omega | decide) ?_ | omega | assumption)
        exact ⟨rfl, hB1⟩
      · obtain ⟨e, bs, e1, hbs⟩ := h
        subst e
        cases bs with
        | nil => cases e1
        | cons c bs =>
          obtain ⟨rfl, rfl⟩ := List.cons.inj e1
          have hc := hbs c List.mem_cons_self
          have c1 := (parts_hgt b c hc).1
          have c2 := partsD_plain c
          rw [plain_lst] at c2
          have c3 : D.deps c.partsD ≤ c.hgt + 2 := by have := partsD_dep c; rw [dep_lst] at this; omega
          have c4 := parts_small (b := c) (by omega)
          (try simp only [seqS_M, startE_cons, startE_nil, List.length_cons, List.length_nil, List.length_replicate, List.length_set, List.replicate_succ, List.replicate_zero, List.getElem?_cons_zero, List.getElem?_cons_succ, List.set_cons_zero, List.set_cons_succ, Option.some.injEq, OT.fz.injEq, OT.ow.injEq, D.int.injEq, D.str.injEq, D.bl.injEq, D.tup.injEq, D.lst.injEq, List.cons.injEq, exists_eq_left', exists_eq_left, exists_eq_right, and_true, true_and, OT.toD_fz, toD_map_fz, hIx_tup, hIx_lst, hIx_scr, hIx_mob, hIx_str, hIxT_fz, hIxT_ow, hAdd_int, hAdd_str, hAdd_tup, hAdd_lst, hMul_int, hMul_lst, hSl_tup, hSl_lst, hSl_str, hLen_lst, hLen_tup, hLen_scr, hLen_str, hLen_mob, hInt_int, hInt_bl, hAbs_int, hSeq_lst, hSeq_tup, hIn_lst, hIn_tup, hEq_eq, hI0_int, hI_int, ng_f, ng_t, atI_0, atI_1, atI_2, ofString_inj, eqv_str, eqv_txt, eqv_int, eqv_bl, eqv_tup, eqv_lst, eqOk_str, eqOk_int, eqOk_bl, eqOk_txt, decide_eq_true_eq, Nat.zero_lt_succ, exists_and_left, List.take_succ_cons, List.take_zero, List.drop_succ_cons, List.drop_zero, List.cons_append, List.nil_append, and_assoc, atI_map, Option.map_some, Nat.reduceAdd, Nat.reduceLT, Nat.reduceLeDiff, OT.toD_ow, List.map_cons, List.map_nil, D.mob.injEq, Mo.lst.injEq, Mem.put_same, Mem.put_put, ixN_30, ixN_32, ixN_10, exists_prop, fz_app, fz_inj, fz_snoc, OT.map_fz, List.length_map, List.length_append, List.append_nil, Nat.zero_add, cutL_1, items_tup, items_lst, items_scr, forD, compD, compS, comp2D, wipeE, D.isIn, List.any_cons, List.any_nil, String.reduceEq, D.plain, D.plains, D.dep, D.deps, Nat.max_self, Nat.min_self, Nat.zero_le, Nat.zero_min, Nat.min_zero, sizeLine_eq, forall_eq, exists_const, forall_const, kind_non, kind_bl, kind_int, kind_str, kind_lst, kind_tup, kind_dk, Kd.isa, reduceCtorEq, decide_false, decide_true, Bool.or_false, Bool.false_or, Bool.or_true, Bool.true_or, Bool.or_self, Bool.and_false, Bool.false_and, Bool.true_and, Bool.and_true, Bool.and_self, and_self, false_or, or_false, false_and, and_false, reduceIte, Bool.false_eq_true, Bool.not_eq_true, Bool.not_true, Bool.not_false, spSame, spParts, spLooks, DSpec.pure, bd_inj, c2, pick1, pD_len]); repeat (first | (refine seq_in ?_; simp only [seqS_M, startE_cons, startE_nil, List.length_cons, List.length_nil, List.length_replicate, List.length_set, List.replicate_succ, List.replicate_zero, List.getElem?_cons_zero, List.getElem?_cons_succ, List.set_cons_zero, List.set_cons_succ, Option.some.injEq, OT.fz.injEq, OT.ow.injEq, D.int.injEq, D.str.injEq, D.bl.injEq, D.tup.injEq, D.lst.injEq, List.cons.injEq, exists_eq_left', exists_eq_left, exists_eq_right, and_true, true_and, OT.toD_fz, toD_map_fz, hIx_tup, hIx_lst, hIx_scr, hIx_mob, hIx_str, hIxT_fz, hIxT_ow, hAdd_int, hAdd_str, hAdd_tup, hAdd_lst, hMul_int, hMul_lst, hSl_tup, hSl_lst, hSl_str, hLen_lst, hLen_tup, hLen_scr, hLen_str, hLen_mob, hInt_int, hInt_bl, hAbs_int, hSeq_lst, hSeq_tup, hIn_lst, hIn_tup, hEq_eq, hI0_int, hI_int, ng_f, ng_t, atI_0, atI_1, atI_2, ofString_inj, eqv_str, eqv_txt, eqv_int, eqv_bl, eqv_tup, eqv_lst, eqOk_str, eqOk_int, eqOk_bl, eqOk_txt, decide_eq_true_eq, Nat.zero_lt_succ, exists_and_left, List.take_succ_cons, List.take_zero, List.drop_succ_cons, List.drop_zero, List.cons_append, List.nil_append, and_assoc, atI_map, Option.map_some, Nat.reduceAdd, Nat.reduceLT, Nat.reduceLeDiff, OT.toD_ow, List.map_cons, List.map_nil, D.mob.injEq, Mo.lst.injEq, Mem.put_same, Mem.put_put, ixN_30, ixN_32, ixN_10, exists_prop, fz_app, fz_inj, fz_snoc, OT.map_fz, List.length_map, List.length_append, List.append_nil, Nat.zero_add, cutL_1, items_tup, items_lst, items_scr, forD, compD, compS, comp2D, wipeE, D.isIn, List.any_cons, List.any_nil, String.reduceEq, D.plain, D.plains, D.dep, D.deps, Nat.max_self, Nat.min_self, Nat.zero_le, Nat.zero_min, Nat.min_zero, sizeLine_eq, forall_eq, exists_const, forall_const, kind_non, kind_bl, kind_int, kind_str, kind_lst, kind_tup, kind_dk, Kd.isa, reduceCtorEq, decide_false, decide_true, Bool.or_false, Bool.false_or, Bool.or_true, Bool.true_or, Bool.or_self, Bool.and_false, Bool.false_and, Bool.true_and, Bool.and_true, Bool.and_self, and_self, false_or, or_false, false_and, and_false, reduceIte, Bool.false_eq_true, Bool.not_eq_true, Bool.not_true, Bool.not_false, spSame, spParts, spLooks, DSpec.pure, bd_inj, c2, pick1, pD_len]) | refine And.intro (by first | assumption | omega | decide) ?_ | omega | assumption)
          refine compD_rec (fun ds acc M' => M' = M1 ∧ ∃ cs : List Bd, ds = cs.map Bd.toD ∧ acc.length + (cs.filter Bd.backs).length = (c.parts.filter Bd.backs).length) _ _ _ ⟨rfl, c.parts, rfl, by simp⟩ (fun acc M' h => ?_) fun d ds acc M' h C' hC' => ?_
          · obtain ⟨e, cs, e1, e2⟩ := h
            subst e
            have : cs = [] := by simpa using e1.symm
            subst this
            have e2 : acc.length = (c.parts.filter Bd.backs).length := by simpa using e2
            exact ⟨by rw [e2], rfl, hC (some (.fz c.toD)) (some (.fz (.lst c.partsD))) _ ⟨rfl, bs, rfl, fun x hx => hbs x (List.mem_cons_of_mem _ hx)⟩⟩
          · obtain ⟨e, cs, e1, e2⟩ := h
            subst e
            cases cs with
            | nil => cases e1
            | cons x cs =>
              rw [List.map_cons] at e1
              obtain ⟨rfl, rfl⟩ := List.cons.inj e1
              rw [List.filter_cons] at e2
              cases x <;> simp only [seqS_M, startE_cons, startE_nil, List.length_cons, List.length_nil, List.length_replicate, List.length_set, List.replicate_succ, List.replicate_zero, List.getElem?_cons_zero, List.getElem?_cons_succ, List.set_cons_zero, List.set_cons_succ, Option.some.injEq, OT.fz.injEq, OT.ow.injEq, D.int.injEq, D.str.injEq, D.bl.injEq, D.tup.injEq, D.lst.injEq, List.cons.injEq, exists_eq_left', exists_eq_left, exists_eq_right, and_true, true_and, OT.toD_fz, toD_map_fz, hIx_tup, hIx_lst, hIx_scr, hIx_mob, hIx_str, hIxT_fz, hIxT_ow, hAdd_int, hAdd_str, hAdd_tup, hAdd_lst, hMul_int, hMul_lst, hSl_tup, hSl_lst, hSl_str, hLen_lst, hLen_tup, hLen_scr, hLen_str, hLen_mob, hInt_int, hInt_bl, hAbs_int, hSeq_lst, hSeq_tup, hIn_lst, hIn_tup, hEq_eq, hI0_int, hI_int, ng_f, ng_t, atI_0, atI_1, atI_2, ofString_inj, eqv_str, eqv_txt, eqv_int, eqv_bl, eqv_tup, eqv_lst, eqOk_str, eqOk_int, eqOk_bl, eqOk_txt, decide_eq_true_eq, Nat.zero_lt_succ, exists_and_left, List.take_succ_cons, List.take_zero, List.drop_succ_cons, List.drop_zero, List.cons_append, List.nil_append, and_assoc, atI_map, Option.map_some, Nat.reduceAdd, Nat.reduceLT, Nat.reduceLeDiff, OT.toD_ow, List.map_cons, List.map_nil, D.mob.injEq, Mo.lst.injEq, Mem.put_same, Mem.put_put, ixN_30, ixN_32, ixN_10, exists_prop, fz_app, fz_inj, fz_snoc, OT.map_fz, List.length_map, List.length_append, List.append_nil, Nat.zero_add, cutL_1, items_tup, items_lst, items_scr, forD, compD, compS, comp2D, wipeE, D.isIn, List.any_cons, List.any_nil, String.reduceEq, D.plain, D.plains, D.dep, D.deps, Nat.max_self, Nat.min_self, Nat.zero_le, Nat.zero_min, Nat.min_zero, sizeLine_eq, forall_eq, exists_const, forall_const, kind_non, kind_bl, kind_int, kind_str, kind_lst, kind_tup, kind_dk, Kd.isa, reduceCtorEq, decide_false, decide_true, Bool.or_false, Bool.false_or, Bool.or_true, Bool.true_or, Bool.or_self, Bool.and_false, Bool.false_and, Bool.true_and, Bool.and_true, Bool.and_self, and_self, false_or, or_false, false_and, and_false, reduceIte, Bool.false_eq_true, Bool.not_eq_true, Bool.not_true, Bool.not_false, Bd.toD] <;> refine hC' _ _ ⟨rfl, cs, rfl, ?_⟩ <;> simp [Bd.backs] at e2 ⊢ <;> omega
  · obtain ⟨rfl, done, rest, rr, e0, e1, e2, rfl⟩ := h
    match rest, rr, e1, e2 with
    | [], _, e1, _ => exact absurd e1 (by simp [zipD])
    | x :: rest, [], _, e2 => simp at e2
    | x :: rest, y :: rr, e1, e2 =>
      have e1 : d :: ds = .tup [.str x, .str y] :: zipD (rest.map .str) (rr.map .str) := e1
      obtain ⟨rfl, rfl⟩ := List.cons.inj e1
      simp only [seqS_M, startE_cons, startE_nil, List.length_cons, List.length_nil, List.length_replicate, List.length_set, List.replicate_succ, List.replicate_zero, List.getElem?_cons_zero, List.getElem?_cons_succ, List.set_cons_zero, List.set_cons_succ, Option.some.injEq, OT.fz.injEq, OT.ow.injEq, D.int.injEq, D.str.injEq, D.bl.injEq, D.tup.injEq, D.lst.injEq, List.cons.injEq, exists_eq_left', exists_eq_left, exists_eq_right, and_true, true_and, OT.toD_fz, toD_map_fz, hIx_tup, hIx_lst, hIx_scr, hIx_mob, hIx_str, hIxT_fz, hIxT_ow, hAdd_int, hAdd_str, hAdd_tup, hAdd_lst, hMul_int, hMul_lst, hSl_tup, hSl_lst, hSl_str, hLen_lst, hLen_tup, hLen_scr, hLen_str, hLen_mob, hInt_int, hInt_bl, hAbs_int, hSeq_lst, hSeq_tup, hIn_lst, hIn_tup, hEq_eq, hI0_int, hI_int, ng_f, ng_t, atI_0, atI_1, atI_2, ofString_inj, eqv_str, eqv_txt, eqv_int, eqv_bl, eqv_tup, eqv_lst, eqOk_str, eqOk_int, eqOk_bl, eqOk_txt, decide_eq_true_eq, Nat.zero_lt_succ, exists_and_left, List.take_succ_cons, List.take_zero, List.drop_succ_cons, List.drop_zero, List.cons_append, List.nil_append, and_assoc, atI_map, Option.map_some, Nat.reduceAdd, Nat.reduceLT, Nat.reduceLeDiff, OT.toD_ow, List.map_cons, List.map_nil, D.mob.injEq, Mo.lst.injEq, Mem.put_same, Mem.put_put, ixN_30, ixN_32, ixN_10, exists_prop, fz_app, fz_inj, fz_snoc, OT.map_fz, List.length_map, List.length_append, List.append_nil, Nat.zero_add, cutL_1, items_tup, items_lst, items_scr, forD, compD, compS, comp2D, wipeE, D.isIn, List.any_cons, List.any_nil, String.reduceEq, D.plain, D.plains, D.dep, D.deps, Nat.max_self, Nat.min_self, Nat.zero_le, Nat.zero_min, Nat.min_zero, sizeLine_eq, forall_eq, exists_const, forall_const, kind_non, kind_bl, kind_int, kind_str, kind_lst, kind_tup, kind_dk, Kd.isa, reduceCtorEq, decide_false, decide_true, Bool.or_false, Bool.false_or, Bool.or_true, Bool.true_or, Bool.or_self, Bool.and_false, Bool.false_and, Bool.true_and, Bool.and_true, Bool.and_self, and_self, false_or, or_false, false_and, and_false, reduceIte, Bool.false_eq_true, Bool.not_eq_true, Bool.not_true, Bool.not_false]
      exact hC _ _ ⟨rfl, done ++ [x], rest, rr, by rw [e0]; simp, rfl, by simpa using e2, by simp⟩
end
end DL

namespace DL
open PySem L2 PySem.Spec
open PyProof.Rows hiding St
set_option autoImplicit false
section
variable {P : Program} {w : World} {K : PySem.W.Frag} {mg : Str → Option Value} {base : Heap}
def riCost : Nat := 10 * drCost
theorem ok_right (T : Tx K mg) : DF P w K mg base s_law_right "_law_right" ["box"] 111 (spRight riCost) := by
  have F_law_plain_right := ok_plain_right (P := P) (w := w) (base := base) T
  obtain ⟨f, fd, hm, F, hb⟩ := T.d_law_right
  refine ⟨f, fd, hm, F, hb, fn_dl F sc_law_right ?_⟩
  rintro X M ds ⟨p, n⟩ ⟨cdv, A, outer, s0, H0, E, rfl⟩ hr hl ⟨rfl, hB, hn⟩
  refine ⟨_, (dss_cons (ds_ret (ED.o (ed_all rfl T.z_all (av_cons (ED.v (EO.d (eo_lc (own := [("turn", 1)]) rfl sc_law_right.nd (ei_range1 T.z_range (av_cons (ED.v ed_int) av_nil)) (blkOk_by (N := N_law_right) (sc := (defScope s_law_right)) (by first | decide +kernel | exact rfl)) (by decide) (fun _ _ _ _ _ => (eg_name 1 sc_law_right.nd)) (fun _ _ _ _ _ => ets_nil) (fun _ _ _ _ _ => (eo_call (DF.mono F_law_plain_right (by first | omega | decide)) hr (ad_cons (ed_var 0) ad_nil)))))) av_nil)))) dss_nil), ?_⟩
  replace hB : IsBox n M p := hB
  replace hn : n + riCost ≤ 2 ^ 50 := hn
  have hrc : riCost = 10 * drCost := rfl
  (try simp only [seqS_M, startE_cons, startE_nil, List.length_cons, List.length_nil, List.length_replicate, List.length_set, List.replicate_succ, List.replicate_zero, List.getElem?_cons_zero, List.getElem?_cons_succ, List.set_cons_zero, List.set_cons_succ, Option.some.injEq, OT.fz.injEq, OT.ow.injEq, D.int.injEq, D.str.injEq, D.bl.injEq, D.tup.injEq, D.lst.injEq, List.cons.injEq, exists_eq_left', exists_eq_left, exists_eq_right, and_true, true_and, OT.toD_fz, toD_map_fz, hIx_tup, hIx_lst, hIx_scr, hIx_mob, hIx_str, hIxT_fz, hIxT_ow, hAdd_int, hAdd_str, hAdd_tup, hAdd_lst, hMul_int, hMul_lst, hSl_tup, hSl_lst, hSl_str, hLen_lst, hLen_tup, hLen_scr, hLen_str, hLen_mob, hInt_int, hInt_bl, hAbs_int, hSeq_lst, hSeq_tup, hIn_lst, hIn_tup, hEq_eq, hI0_int, hI_int, ng_f, ng_t, atI_0, atI_1, atI_2, ofString_inj, eqv_str, eqv_txt, eqv_int, eqv_bl, eqv_tup, eqv_lst, eqOk_str, eqOk_int, eqOk_bl, eqOk_txt, decide_eq_true_eq, Nat.zero_lt_succ, exists_and_left, List.take_succ_cons, List.take_zero, List.drop_succ_cons, List.drop_zero, List.cons_append, List.nil_append, and_assoc, atI_map, Option.map_some, Nat.reduceAdd, Nat.reduceLT, Nat.reduceLeDiff, OT.toD_ow, List.map_cons, List.map_nil, D.mob.injEq, Mo.lst.injEq, Mem.put_same, Mem.put_put, ixN_30, ixN_32, ixN_10, exists_prop, fz_app, fz_inj, fz_snoc, OT.map_fz, List.length_map, List.length_append, List.append_nil, Nat.zero_add, cutL_1, items_tup, items_lst, items_scr, forD, compD, compS, comp2D, wipeE, D.isIn, List.any_cons, List.any_nil, String.reduceEq, D.plain, D.plains, D.dep, D.deps, Nat.max_self, Nat.min_self, Nat.zero_le, Nat.zero_min, Nat.min_zero, sizeLine_eq, forall_eq, exists_const, forall_const, kind_non, kind_bl, kind_int, kind_str, kind_lst, kind_tup, kind_dk, Kd.isa, reduceCtorEq, decide_false, decide_true, Bool.or_false, Bool.false_or, Bool.or_true, Bool.true_or, Bool.or_self, Bool.and_false, Bool.false_and, Bool.true_and, Bool.and_true, Bool.and_self, and_self, false_or, or_false, false_and, and_false, reduceIte, Bool.false_eq_true, Bool.not_eq_true, Bool.not_true, Bool.not_false]); repeat (first | (refine seq_in ?_; simp only [seqS_M, startE_cons, startE_nil, List.length_cons, List.length_nil, List.length_replicate, List.length_set, List.replicate_succ, List.replicate_zero, List.getElem?_cons_zero, List.getElem?_cons_succ, List.set_cons_zero, List.set_cons_succ, Option.some.injEq, OT.fz.injEq, OT.ow.injEq, D.int.injEq, D.str.injEq, D.bl.injEq, D.tup.injEq, D.lst.injEq, List.cons.injEq, exists_eq_left', exists_eq_left, exists_eq_right, and_true, true_and, OT.toD_fz, toD_map_fz, hIx_tup, hIx_lst, hIx_scr, hIx_mob, hIx_str, hIxT_fz, hIxT_ow, hAdd_int, hAdd_str, hAdd_tup, hAdd_lst, hMul_int, hMul_lst, hSl_tup, hSl_lst, hSl_str, hLen_lst, hLen_tup, hLen_scr, hLen_str, hLen_mob, hInt_int, hInt_bl, hAbs_int, hSeq_lst, hSeq_tup, hIn_lst, hIn_tup, hEq_eq, hI0_int, hI_int, ng_f, ng_t, atI_0, atI_1, atI_2, ofString_inj, eqv_str, eqv_txt, eqv_int, eqv_bl, eqv_tup, eqv_lst, eqOk_str, eqOk_int, eqOk_bl, eqOk_txt, decide_eq_true_eq, Nat.zero_lt_succ, exists_and_left, List.take_succ_cons, List.take_zero, List.drop_succ_cons, List.drop_zero, List.cons_append, List.nil_append, and_assoc, atI_map, Option.map_some, Nat.reduceAdd, Nat.reduceLT, Nat.reduceLeDiff, OT.toD_ow, List.map_cons, List.map_nil, D.mob.injEq, Mo.lst.injEq, Mem.put_same, Mem.put_put, ixN_30, ixN_32, ixN_10, exists_prop, fz_app, fz_inj, fz_snoc, OT.map_fz, List.length_map, List.length_append, List.append_nil, Nat.zero_add, cutL_1, items_tup, items_lst, items_scr, forD, compD, compS, comp2D, wipeE, D.isIn, List.any_cons, List.any_nil, String.reduceEq, D.plain, D.plains, D.dep, D.deps, Nat.max_self, Nat.min_self, Nat.zero_le, Nat.zero_min, Nat.min_zero, sizeLine_eq, forall_eq, exists_const, forall_const, kind_non, kind_bl, kind_int, kind_str, kind_lst, kind_tup, kind_dk, Kd.isa, reduceCtorEq, decide_false, decide_true, Bool.or_false, Bool.false_or, Bool.or_true, Bool.true_or, Bool.or_self, Bool.and_false, Bool.false_and, Bool.true_and, Bool.and_true, Bool.and_self, and_self, false_or, or_false, false_and, and_false, reduceIte, Bool.false_eq_true, Bool.not_eq_true, Bool.not_true, Bool.not_false]) | refine And.intro (by first | assumption | omega | decide) ?_ | omega | assumption)
  refine compD_rec (fun ds acc M' => ∃ j : Nat, ds.length + j = 10 ∧ IsBox (n + j * drCost) M' p ∧ ∀ t ∈ acc, t = .fz (.bl true)) _ _ _ ⟨0, by rw [rngD_len]; decide, hB.mono (by omega), fun t ht => nomatch ht⟩ (fun acc M' h => ?_) fun d ds acc M' h C hC => ?_
  · obtain ⟨j, hj, hB1, ht⟩ := h
    have hj : j = 10 := by simpa using hj
    subst hj
    obtain ⟨bs, e1, e2⟩ := trues_all ht
    exact ⟨bs, by rw [e1], congrArg (fun z => OT.fz (D.bl z)) e2, hB1⟩
  · obtain ⟨j, hj, hB1, ht⟩ := h
    rw [List.length_cons] at hj
    simp only [seqS_M, startE_cons, startE_nil, List.length_cons, List.length_nil, List.length_replicate, List.length_set, List.replicate_succ, List.replicate_zero, List.getElem?_cons_zero, List.getElem?_cons_succ, List.set_cons_zero, List.set_cons_succ, Option.some.injEq, OT.fz.injEq, OT.ow.injEq, D.int.injEq, D.str.injEq, D.bl.injEq, D.tup.injEq, D.lst.injEq, List.cons.injEq, exists_eq_left', exists_eq_left, exists_eq_right, and_true, true_and, OT.toD_fz, toD_map_fz, hIx_tup, hIx_lst, hIx_scr, hIx_mob, hIx_str, hIxT_fz, hIxT_ow, hAdd_int, hAdd_str, hAdd_tup, hAdd_lst, hMul_int, hMul_lst, hSl_tup, hSl_lst, hSl_str, hLen_lst, hLen_tup, hLen_scr, hLen_str, hLen_mob, hInt_int, hInt_bl, hAbs_int, hSeq_lst, hSeq_tup, hIn_lst, hIn_tup, hEq_eq, hI0_int, hI_int, ng_f, ng_t, atI_0, atI_1, atI_2, ofString_inj, eqv_str, eqv_txt, eqv_int, eqv_bl, eqv_tup, eqv_lst, eqOk_str, eqOk_int, eqOk_bl, eqOk_txt, decide_eq_true_eq, Nat.zero_lt_succ, exists_and_left, List.take_succ_cons, List.take_zero, List.drop_succ_cons, List.drop_zero, List.cons_append, List.nil_append, and_assoc, atI_map, Option.map_some, Nat.reduceAdd, Nat.reduceLT, Nat.reduceLeDiff, OT.toD_ow, List.map_cons, List.map_nil, D.mob.injEq, Mo.lst.injEq, Mem.put_same, Mem.put_put, ixN_30, ixN_32, ixN_10, exists_prop, fz_app, fz_inj, fz_snoc, OT.map_fz, List.length_map, List.length_append, List.append_nil, Nat.zero_add, cutL_1, items_tup, items_lst, items_scr, forD, compD, compS, comp2D, wipeE, D.isIn, List.any_cons, List.any_nil, String.reduceEq, D.plain, D.plains, D.dep, D.deps, Nat.max_self, Nat.min_self, Nat.zero_le, Nat.zero_min, Nat.min_zero, sizeLine_eq, forall_eq, exists_const, forall_const, kind_non, kind_bl, kind_int, kind_str, kind_lst, kind_tup, kind_dk, Kd.isa, reduceCtorEq, decide_false, decide_true, Bool.or_false, Bool.false_or, Bool.or_true, Bool.true_or, Bool.or_self, Bool.and_false, Bool.false_and, Bool.true_and, Bool.and_true, Bool.and_self, and_self, false_or, or_false, false_and, and_false, reduceIte, Bool.false_eq_true, Bool.not_eq_true, Bool.not_true, Bool.not_false]
    have hle : (j + 1) * drCost ≤ 10 * drCost := Nat.mul_le_mul_right _ (by omega)
    rw [Nat.succ_mul] at hle
    refine ⟨⟨p, n + j * drCost⟩, ⟨rfl, hB1, by show n + j * drCost + drCost ≤ 2 ^ 50; omega⟩, ?_⟩
    rintro t M2 ⟨rfl, hB2⟩
    refine hC _ _ ⟨j + 1, by omega, hB2.mono (by show n + j * drCost + drCost ≤ _; rw [Nat.succ_mul]; omega), fun t hm => ?_⟩
    rcases List.mem_append.mp hm with hm | hm
    · exact ht t hm
    · simpa using hm
theorem ok_law (T : Tx K mg) : DF P w K mg base s_law "law" ["script"] 112 spLaw := by
  have F_law_right := ok_right (P := P) (w := w) (base := base) T
  have F_law_box := ok_box (P := P) (w := w) (base := base) T
  obtain ⟨f, fd, hm, F, hb⟩ := T.d_law
  refine ⟨f, fd, hm, F, hb, fn_dl F sc_law ?_⟩
  rintro X M ds (ns : List Int) ⟨cdv, A, outer, s0, H0, E, rfl⟩ hr hl ⟨rfl, hn⟩
  refine ⟨_, (dss_cons (ds_ret (ED.o (ed_all rfl T.z_all (av_cons (ED.v (EO.d (eo_lc (own := [("k", 1)]) rfl sc_law.nd (ei_range1 T.z_range (av_cons (ED.v (ed_max2 rfl T.z_max (av_cons (ED.v ed_int) (av_cons (ED.v (ed_min2 rfl T.z_min (av_cons (ED.v ed_int) (av_cons (ED.v (ed_len T.z_len (av_cons (ev_var 0) av_nil))) av_nil)))) av_nil)))) av_nil)) (blkOk_by (N := N_law) (sc := (defScope s_law)) (by first | decide +kernel | exact rfl)) (by decide) (fun _ _ _ _ _ => (eg_name 1 sc_law.nd)) (fun _ _ _ _ _ => ets_nil) (fun _ _ _ _ _ => (eo_callM (DF.mono F_law_right (by first | omega | decide)) hr (ao_cons (eo_callP (DF.mono F_law_box (by first | omega | decide)) hr (ad_cons (ed_var 0) (ad_cons (ed_var 1) ad_nil))) ao_nil)))))) av_nil)))) dss_nil), ?_⟩
  (try simp only [seqS_M, startE_cons, startE_nil, List.length_cons, List.length_nil, List.length_replicate, List.length_set, List.replicate_succ, List.replicate_zero, List.getElem?_cons_zero, List.getElem?_cons_succ, List.set_cons_zero, List.set_cons_succ, Option.some.injEq, OT.fz.injEq, OT.ow.injEq, D.int.injEq, D.str.injEq, D.bl.injEq, D.tup.injEq, D.lst.injEq, List.cons.injEq, exists_eq_left', exists_eq_left, exists_eq_right, and_true, true_and, OT.toD_fz, toD_map_fz, hIx_tup, hIx_lst, hIx_scr, hIx_mob, hIx_str, hIxT_fz, hIxT_ow, hAdd_int, hAdd_str, hAdd_tup, hAdd_lst, hMul_int, hMul_lst, hSl_tup, hSl_lst, hSl_str, hLen_lst, hLen_tup, hLen_scr, hLen_str, hLen_mob, hInt_int, hInt_bl, hAbs_int, hSeq_lst, hSeq_tup, hIn_lst, hIn_tup, hEq_eq, hI0_int, hI_int, ng_f, ng_t, atI_0, atI_1, atI_2, ofString_inj, eqv_str, eqv_txt, eqv_int, eqv_bl, eqv_tup, eqv_lst, eqOk_str, eqOk_int, eqOk_bl, eqOk_txt, decide_eq_true_eq, Nat.zero_lt_succ, exists_and_left, List.take_succ_cons, List.take_zero, List.drop_succ_cons, List.drop_zero, List.cons_append, List.nil_append, and_assoc, atI_map, Option.map_some, Nat.reduceAdd, Nat.reduceLT, Nat.reduceLeDiff, OT.toD_ow, List.map_cons, List.map_nil, D.mob.injEq, Mo.lst.injEq, Mem.put_same, Mem.put_put, ixN_30, ixN_32, ixN_10, exists_prop, fz_app, fz_inj, fz_snoc, OT.map_fz, List.length_map, List.length_append, List.append_nil, Nat.zero_add, cutL_1, items_tup, items_lst, items_scr, forD, compD, compS, comp2D, wipeE, D.isIn, List.any_cons, List.any_nil, String.reduceEq, D.plain, D.plains, D.dep, D.deps, Nat.max_self, Nat.min_self, Nat.zero_le, Nat.zero_min, Nat.min_zero, sizeLine_eq, forall_eq, exists_const, forall_const, kind_non, kind_bl, kind_int, kind_str, kind_lst, kind_tup, kind_dk, Kd.isa, reduceCtorEq, decide_false, decide_true, Bool.or_false, Bool.false_or, Bool.or_true, Bool.true_or, Bool.or_self, Bool.and_false, Bool.false_and, Bool.true_and, Bool.and_true, Bool.and_self, and_self, false_or, or_false, false_and, and_false, reduceIte, Bool.false_eq_true, Bool.not_eq_true, Bool.not_true, Bool.not_false]); repeat (first | (refine seq_in ?_; simp only [seqS_M, startE_cons, startE_nil, List.length_cons, List.length_nil, List.length_replicate, List.length_set, List.replicate_succ, List.replicate_zero, List.getElem?_cons_zero, List.getElem?_cons_succ, List.set_cons_zero, List.set_cons_succ, Option.some.injEq, OT.fz.injEq, OT.ow.injEq, D.int.injEq, D.str.injEq, D.bl.injEq, D.tup.injEq, D.lst.injEq, List.cons.injEq, exists_eq_left', exists_eq_left, exists_eq_right, and_true, true_and, OT.toD_fz, toD_map_fz, hIx_tup, hIx_lst, hIx_scr, hIx_mob, hIx_str, hIxT_fz, hIxT_ow, hAdd_int, hAdd_str, hAdd_tup, hAdd_lst, hMul_int, hMul_lst, hSl_tup, hSl_lst, hSl_str, hLen_lst, hLen_tup, hLen_scr, hLen_str, hLen_mob, hInt_int, hInt_bl, hAbs_int, hSeq_lst, hSeq_tup, hIn_lst, hIn_tup, hEq_eq, hI0_int, hI_int, ng_f, ng_t, atI_0, atI_1, atI_2, ofString_inj, eqv_str, eqv_txt, eqv_int, eqv_bl, eqv_tup, eqv_lst, eqOk_str, eqOk_int, eqOk_bl, eqOk_txt, decide_eq_true_eq, Nat.zero_lt_succ, exists_and_left, List.take_succ_cons, List.take_zero, List.drop_succ_cons, List.drop_zero, List.cons_append, List.nil_append, and_assoc, atI_map, Option.map_some, Nat.reduceAdd, Nat.reduceLT, Nat.reduceLeDiff, OT.toD_ow, List.map_cons, List.map_nil, D.mob.injEq, Mo.lst.injEq, Mem.put_same, Mem.put_put, ixN_30, ixN_32, ixN_10, exists_prop, fz_app, fz_inj, fz_snoc, OT.map_fz, List.length_map, List.length_append, List.append_nil, Nat.zero_add, cutL_1, items_tup, items_lst, items_scr, forD, compD, compS, comp2D, wipeE, D.isIn, List.any_cons, List.any_nil, String.reduceEq, D.plain, D.plains, D.dep, D.deps, Nat.max_self, Nat.min_self, Nat.zero_le, Nat.zero_min, Nat.min_zero, sizeLine_eq, forall_eq, exists_const, forall_const, kind_non, kind_bl, kind_int, kind_str, kind_lst, kind_tup, kind_dk, Kd.isa, reduceCtorEq, decide_false, decide_true, Bool.or_false, Bool.false_or, Bool.or_true, Bool.true_or, Bool.or_self, Bool.and_false, Bool.false_and, Bool.true_and, Bool.and_true, Bool.and_self, and_self, false_or, or_false, false_and, and_false, reduceIte, Bool.false_eq_true, Bool.not_eq_true, Bool.not_true, Bool.not_false]) | refine And.intro (by first | assumption | omega | decide) ?_ | omega | assumption)
  have hN : (if (if (ns.length : Int) < 4 then (ns.length : Int) else 4) > 1 then if (ns.length : Int) < 4 then (ns.length : Int) else 4 else 1).toNat ≤ 4 := by split <;> split <;> omega
  generalize (if (if (ns.length : Int) < 4 then (ns.length : Int) else 4) > 1 then if (ns.length : Int) < 4 then (ns.length : Int) else 4 else 1).toNat = N at hN ⊢
  refine compD_rec (fun ds acc M' => (∃ (a : Int) (m : Nat), ds = rngD a m ∧ 0 ≤ a ∧ a + m ≤ 4) ∧ ∀ t ∈ acc, t = .fz (.bl true)) _ _ _ ⟨⟨0, N, rfl, Int.le_refl _, by omega⟩, fun t ht => nomatch ht⟩ (fun acc M' h => ?_) fun d ds acc M' h C hC => ?_
  · obtain ⟨bs, e1, e2⟩ := trues_all h.2
    exact ⟨bs, by rw [e1], congrArg (fun z => OT.fz (D.bl z)) e2⟩
  · obtain ⟨⟨a, m, e, ha, hm⟩, ht⟩ := h
    cases m with
    | zero => cases e
    | succ m =>
      rw [rngD_cons] at e
      obtain ⟨rfl, rfl⟩ := List.cons.inj e
      simp only [seqS_M, startE_cons, startE_nil, List.length_cons, List.length_nil, List.length_replicate, List.length_set, List.replicate_succ, List.replicate_zero, List.getElem?_cons_zero, List.getElem?_cons_succ, List.set_cons_zero, List.set_cons_succ, Option.some.injEq, OT.fz.injEq, OT.ow.injEq, D.int.injEq, D.str.injEq, D.bl.injEq, D.tup.injEq, D.lst.injEq, List.cons.injEq, exists_eq_left', exists_eq_left, exists_eq_right, and_true, true_and, OT.toD_fz, toD_map_fz, hIx_tup, hIx_lst, hIx_scr, hIx_mob, hIx_str, hIxT_fz, hIxT_ow, hAdd_int, hAdd_str, hAdd_tup, hAdd_lst, hMul_int, hMul_lst, hSl_tup, hSl_lst, hSl_str, hLen_lst, hLen_tup, hLen_scr, hLen_str, hLen_mob, hInt_int, hInt_bl, hAbs_int, hSeq_lst, hSeq_tup, hIn_lst, hIn_tup, hEq_eq, hI0_int, hI_int, ng_f, ng_t, atI_0, atI_1, atI_2, ofString_inj, eqv_str, eqv_txt, eqv_int, eqv_bl, eqv_tup, eqv_lst, eqOk_str, eqOk_int, eqOk_bl, eqOk_txt, decide_eq_true_eq, Nat.zero_lt_succ, exists_and_left, List.take_succ_cons, List.take_zero, List.drop_succ_cons, List.drop_zero, List.cons_append, List.nil_append, and_assoc, atI_map, Option.map_some, Nat.reduceAdd, Nat.reduceLT, Nat.reduceLeDiff, OT.toD_ow, List.map_cons, List.map_nil, D.mob.injEq, Mo.lst.injEq, Mem.put_same, Mem.put_put, ixN_30, ixN_32, ixN_10, exists_prop, fz_app, fz_inj, fz_snoc, OT.map_fz, List.length_map, List.length_append, List.append_nil, Nat.zero_add, cutL_1, items_tup, items_lst, items_scr, forD, compD, compS, comp2D, wipeE, D.isIn, List.any_cons, List.any_nil, String.reduceEq, D.plain, D.plains, D.dep, D.deps, Nat.max_self, Nat.min_self, Nat.zero_le, Nat.zero_min, Nat.min_zero, sizeLine_eq, forall_eq, exists_const, forall_const, kind_non, kind_bl, kind_int, kind_str, kind_lst, kind_tup, kind_dk, Kd.isa, reduceCtorEq, decide_false, decide_true, Bool.or_false, Bool.false_or, Bool.or_true, Bool.true_or, Bool.or_self, Bool.and_false, Bool.false_and, Bool.true_and, Bool.and_true, Bool.and_self, and_self, false_or, or_false, false_and, and_false, reduceIte, Bool.false_eq_true, Bool.not_eq_true, Bool.not_true, Bool.not_false]
      refine ⟨⟨ns, a⟩, ⟨rfl, ha, by show a ≤ 100; omega⟩, ?_⟩
      rintro t ⟨_, x, y, rfl, hx, hy, hy2⟩
      refine ⟨[], [.int x, .int y, .int 0], rfl, rfl, fun q hq => ⟨⟨q, 0⟩, ⟨rfl, ⟨x, y, 0, Mem.put_same, ?_⟩, ?_⟩, ?_⟩⟩
      · exact ⟨hx, hy, hy2, Int.le_refl 0, Int.le_refl 0⟩
      · show 0 + riCost ≤ 2 ^ 50
        decide
      · rintro t M2 ⟨rfl, _⟩
        refine hC _ _ ⟨⟨a + 1, m, rfl, by omega, by omega⟩, fun t hm => ?_⟩
        rcases List.mem_append.mp hm with hm | hm
        · exact ht t hm
        · simpa using hm
end
theorem all_mk {K : PySem.W.Frag} {h : Heap} {mg : Str → Option Value} (X : K.In h) (G : h.Ns mainGlobals mg)
    {f0 : Addr} {od0 an0 : Option Addr} {sl0 : Array (Option Value)} {oc0 kV0 dc0 pm0 cd0 ct0 : Value}
    {f1 : Addr} {od1 an1 : Option Addr} {sl1 : Array (Option Value)} {oc1 kV1 dc1 pm1 cd1 ct1 : Value}
    {f2 : Addr} {od2 an2 : Option Addr} {sl2 : Array (Option Value)} {oc2 kV2 dc2 pm2 cd2 ct2 : Value}
    {f3 : Addr} {od3 an3 : Option Addr} {sl3 : Array (Option Value)} {oc3 kV3 dc3 pm3 cd3 ct3 : Value}
    {f4 : Addr} {od4 an4 : Option Addr} {sl4 : Array (Option Value)} {oc4 kV4 dc4 pm4 cd4 ct4 : Value}
    {f5 : Addr} {od5 an5 : Option Addr} {sl5 : Array (Option Value)} {oc5 kV5 dc5 pm5 cd5 ct5 : Value}
    {f6 : Addr} {od6 an6 : Option Addr} {sl6 : Array (Option Value)} {oc6 kV6 dc6 pm6 cd6 ct6 : Value}
    {f7 : Addr} {od7 an7 : Option Addr} {sl7 : Array (Option Value)} {oc7 kV7 dc7 pm7 cd7 ct7 : Value}
    {f8 : Addr} {od8 an8 : Option Addr} {sl8 : Array (Option Value)} {oc8 kV8 dc8 pm8 cd8 ct8 : Value}
    {f9 : Addr} {od9 an9 : Option Addr} {sl9 : Array (Option Value)} {oc9 kV9 dc9 pm9 cd9 ct9 : Value}
    {f10 : Addr} {od10 an10 : Option Addr} {sl10 : Array (Option Value)} {oc10 kV10 dc10 pm10 cd10 ct10 : Value}
    {f11 : Addr} {od11 an11 : Option Addr} {sl11 : Array (Option Value)} {oc11 kV11 dc11 pm11 cd11 ct11 : Value}
    {f12 : Addr} {od12 an12 : Option Addr} {sl12 : Array (Option Value)} {oc12 kV12 dc12 pm12 cd12 ct12 : Value}
    {f13 : Addr} {od13 an13 : Option Addr} {sl13 : Array (Option Value)} {oc13 kV13 dc13 pm13 cd13 ct13 : Value}
    {f14 : Addr} {od14 an14 : Option Addr} {sl14 : Array (Option Value)} {oc14 kV14 dc14 pm14 cd14 ct14 : Value}
    {f15 : Addr} {od15 an15 : Option Addr} {sl15 : Array (Option Value)} {oc15 kV15 dc15 pm15 cd15 ct15 : Value}
    {t0 : Tok}
    {t1 : Tok}
    {t2 : Tok}
    {g3 : Addr} {dd3 : Option Addr} {it3 : Array Value} {n3 : Nat} {sk3 : Array (Option Value)}
    {g4 : Addr} {dd4 : Option Addr} {it4 : Array Value} {n4 : Nat} {sk4 : Array (Option Value)}
    {g5 : Addr} {dd5 : Option Addr} {it5 : Array Value} {n5 : Nat} {sk5 : Array (Option Value)}
    (a0 : PySem.W.nsIn K mainGlobals "parts_of" = some (some (.ref f0)))
    (l0 : K.lookup f0 = some ⟨oc0, od0, .func (PySem.W.fnOf "parts_of" "parts_of" (defArgs s_parts_of) (defBody s_parts_of) (defScope s_parts_of) .none kV0 dc0 pm0 an0 cd0 ct0), sl0⟩)
    (c0 : PySem.W.codeIn K cd0 "parts_of" = true)
    (k0 : PySem.W.keepIn K (.ref f0) = true)
    (a1 : PySem.W.nsIn K mainGlobals "looks_back" = some (some (.ref f1)))
    (l1 : K.lookup f1 = some ⟨oc1, od1, .func (PySem.W.fnOf "looks_back" "looks_back" (defArgs s_looks_back) (defBody s_looks_back) (defScope s_looks_back) .none kV1 dc1 pm1 an1 cd1 ct1), sl1⟩)
    (c1 : PySem.W.codeIn K cd1 "looks_back" = true)
    (k1 : PySem.W.keepIn K (.ref f1) = true)
    (a2 : PySem.W.nsIn K mainGlobals "kind_of" = some (some (.ref f2)))
    (l2 : K.lookup f2 = some ⟨oc2, od2, .func (PySem.W.fnOf "kind_of" "kind_of" (defArgs s_kind_of) (defBody s_kind_of) (defScope s_kind_of) .none kV2 dc2 pm2 an2 cd2 ct2), sl2⟩)
    (c2 : PySem.W.codeIn K cd2 "kind_of" = true)
    (k2 : PySem.W.keepIn K (.ref f2) = true)
    (a3 : PySem.W.nsIn K mainGlobals "_law_cell_at" = some (some (.ref f3)))
    (l3 : K.lookup f3 = some ⟨oc3, od3, .func (PySem.W.fnOf "_law_cell_at" "_law_cell_at" (defArgs s_law_cell_at) (defBody s_law_cell_at) (defScope s_law_cell_at) .none kV3 dc3 pm3 an3 cd3 ct3), sl3⟩)
    (c3 : PySem.W.codeIn K cd3 "_law_cell_at" = true)
    (k3 : PySem.W.keepIn K (.ref f3) = true)
    (a4 : PySem.W.nsIn K mainGlobals "_law_box" = some (some (.ref f4)))
    (l4 : K.lookup f4 = some ⟨oc4, od4, .func (PySem.W.fnOf "_law_box" "_law_box" (defArgs s_law_box) (defBody s_law_box) (defScope s_law_box) .none kV4 dc4 pm4 an4 cd4 ct4), sl4⟩)
    (c4 : PySem.W.codeIn K cd4 "_law_box" = true)
    (k4 : PySem.W.keepIn K (.ref f4) = true)
    (a5 : PySem.W.nsIn K mainGlobals "_law_take" = some (some (.ref f5)))
    (l5 : K.lookup f5 = some ⟨oc5, od5, .func (PySem.W.fnOf "_law_take" "_law_take" (defArgs s_law_take) (defBody s_law_take) (defScope s_law_take) .none kV5 dc5 pm5 an5 cd5 ct5), sl5⟩)
    (c5 : PySem.W.codeIn K cd5 "_law_take" = true)
    (k5 : PySem.W.keepIn K (.ref f5) = true)
    (a6 : PySem.W.nsIn K mainGlobals "_law_same" = some (some (.ref f6)))
    (l6 : K.lookup f6 = some ⟨oc6, od6, .func (PySem.W.fnOf "_law_same" "_law_same" (defArgs s_law_same) (defBody s_law_same) (defScope s_law_same) .none kV6 dc6 pm6 an6 cd6 ct6), sl6⟩)
    (c6 : PySem.W.codeIn K cd6 "_law_same" = true)
    (k6 : PySem.W.keepIn K (.ref f6) = true)
    (a7 : PySem.W.nsIn K mainGlobals "_law_of" = some (some (.ref f7)))
    (l7 : K.lookup f7 = some ⟨oc7, od7, .func (PySem.W.fnOf "_law_of" "_law_of" (defArgs s_law_of) (defBody s_law_of) (defScope s_law_of) .none kV7 dc7 pm7 an7 cd7 ct7), sl7⟩)
    (c7 : PySem.W.codeIn K cd7 "_law_of" = true)
    (k7 : PySem.W.keepIn K (.ref f7) = true)
    (a8 : PySem.W.nsIn K mainGlobals "_law_names" = some (some (.ref f8)))
    (l8 : K.lookup f8 = some ⟨oc8, od8, .func (PySem.W.fnOf "_law_names" "_law_names" (defArgs s_law_names) (defBody s_law_names) (defScope s_law_names) .none kV8 dc8 pm8 an8 cd8 ct8), sl8⟩)
    (c8 : PySem.W.codeIn K cd8 "_law_names" = true)
    (k8 : PySem.W.keepIn K (.ref f8) = true)
    (a9 : PySem.W.nsIn K mainGlobals "_law_body" = some (some (.ref f9)))
    (l9 : K.lookup f9 = some ⟨oc9, od9, .func (PySem.W.fnOf "_law_body" "_law_body" (defArgs s_law_body) (defBody s_law_body) (defScope s_law_body) .none kV9 dc9 pm9 an9 cd9 ct9), sl9⟩)
    (c9 : PySem.W.codeIn K cd9 "_law_body" = true)
    (k9 : PySem.W.keepIn K (.ref f9) = true)
    (a10 : PySem.W.nsIn K mainGlobals "_law_parts" = some (some (.ref f10)))
    (l10 : K.lookup f10 = some ⟨oc10, od10, .func (PySem.W.fnOf "_law_parts" "_law_parts" (defArgs s_law_parts) (defBody s_law_parts) (defScope s_law_parts) .none kV10 dc10 pm10 an10 cd10 ct10), sl10⟩)
    (c10 : PySem.W.codeIn K cd10 "_law_parts" = true)
    (k10 : PySem.W.keepIn K (.ref f10) = true)
    (a11 : PySem.W.nsIn K mainGlobals "_law_plain" = some (some (.ref f11)))
    (l11 : K.lookup f11 = some ⟨oc11, od11, .func (PySem.W.fnOf "_law_plain" "_law_plain" (defArgs s_law_plain) (defBody s_law_plain) (defScope s_law_plain) .none kV11 dc11 pm11 an11 cd11 ct11), sl11⟩)
    (c11 : PySem.W.codeIn K cd11 "_law_plain" = true)
    (k11 : PySem.W.keepIn K (.ref f11) = true)
    (a12 : PySem.W.nsIn K mainGlobals "_law_drawn" = some (some (.ref f12)))
    (l12 : K.lookup f12 = some ⟨oc12, od12, .func (PySem.W.fnOf "_law_drawn" "_law_drawn" (defArgs s_law_drawn) (defBody s_law_drawn) (defScope s_law_drawn) .none kV12 dc12 pm12 an12 cd12 ct12), sl12⟩)
    (c12 : PySem.W.codeIn K cd12 "_law_drawn" = true)
    (k12 : PySem.W.keepIn K (.ref f12) = true)
    (a13 : PySem.W.nsIn K mainGlobals "_law_plain_right" = some (some (.ref f13)))
    (l13 : K.lookup f13 = some ⟨oc13, od13, .func (PySem.W.fnOf "_law_plain_right" "_law_plain_right" (defArgs s_law_plain_right) (defBody s_law_plain_right) (defScope s_law_plain_right) .none kV13 dc13 pm13 an13 cd13 ct13), sl13⟩)
    (c13 : PySem.W.codeIn K cd13 "_law_plain_right" = true)
    (k13 : PySem.W.keepIn K (.ref f13) = true)
    (a14 : PySem.W.nsIn K mainGlobals "_law_right" = some (some (.ref f14)))
    (l14 : K.lookup f14 = some ⟨oc14, od14, .func (PySem.W.fnOf "_law_right" "_law_right" (defArgs s_law_right) (defBody s_law_right) (defScope s_law_right) .none kV14 dc14 pm14 an14 cd14 ct14), sl14⟩)
    (c14 : PySem.W.codeIn K cd14 "_law_right" = true)
    (k14 : PySem.W.keepIn K (.ref f14) = true)
    (a15 : PySem.W.nsIn K mainGlobals "law" = some (some (.ref f15)))
    (l15 : K.lookup f15 = some ⟨oc15, od15, .func (PySem.W.fnOf "law" "law" (defArgs s_law) (defBody s_law) (defScope s_law) .none kV15 dc15 pm15 an15 cd15 ct15), sl15⟩)
    (c15 : PySem.W.codeIn K cd15 "law" = true)
    (k15 : PySem.W.keepIn K (.ref f15) = true)
    (v0 : PySem.W.nsIn K mainGlobals "ALL" = some (some (.str "all" t0)))
    (v1 : PySem.W.nsIn K mainGlobals "ANSWER" = some (some (.str "answer" t1)))
    (v2 : PySem.W.nsIn K mainGlobals "EVER" = some (some (.str "ever" t2)))
    (v3 : PySem.W.nsIn K mainGlobals "OF_ONE" = some (some (.ref g3)))
    (w3 : K.lookup g3 = some ⟨.type "tuple", dd3, .seq it3 n3, sk3⟩)
    (x3 : Vals ((["not", "ahead", "ever"] : List Str).map V.str) it3.toList)
    (v4 : PySem.W.nsIn K mainGlobals "OF_TWO" = some (some (.ref g4)))
    (w4 : K.lookup g4 = some ⟨.type "tuple", dd4, .seq it4 n4, sk4⟩)
    (x4 : Vals ((["and", "or", "since"] : List Str).map V.str) it4.toList)
    (v5 : PySem.W.nsIn K mainGlobals "LOOKING" = some (some (.ref g5)))
    (w5 : K.lookup g5 = some ⟨.type "tuple", dd5, .seq it5 n5, sk5⟩)
    (x5 : Vals ((["ahead", "ever", "since"] : List Str).map V.str) it5.toList)
    (z_abs : PySem.W.nsIn K mainGlobals "abs" = some none)
    (z_all : PySem.W.nsIn K mainGlobals "all" = some none)
    (z_bool : PySem.W.nsIn K mainGlobals "bool" = some none)
    (z_int : PySem.W.nsIn K mainGlobals "int" = some none)
    (z_isinstance : PySem.W.nsIn K mainGlobals "isinstance" = some none)
    (z_len : PySem.W.nsIn K mainGlobals "len" = some none)
    (z_list : PySem.W.nsIn K mainGlobals "list" = some none)
    (z_max : PySem.W.nsIn K mainGlobals "max" = some none)
    (z_min : PySem.W.nsIn K mainGlobals "min" = some none)
    (z_range : PySem.W.nsIn K mainGlobals "range" = some none)
    (z_repr : PySem.W.nsIn K mainGlobals "repr" = some none)
    (z_sorted : PySem.W.nsIn K mainGlobals "sorted" = some none)
    (z_tuple : PySem.W.nsIn K mainGlobals "tuple" = some none)
    (z_zip : PySem.W.nsIn K mainGlobals "zip" = some none) : Tx K mg where
  d_parts_of := ⟨f0, _, PySem.W.mg_of X G a0, fun_mk (st := s_parts_of) l0 c0 k0, (fun_mk (st := s_parts_of) l0 c0 k0).binds fun _ _ _ _ _ _ us hl => match us, hl with | [_], _ => rfl⟩
  d_looks_back := ⟨f1, _, PySem.W.mg_of X G a1, fun_mk (st := s_looks_back) l1 c1 k1, (fun_mk (st := s_looks_back) l1 c1 k1).binds fun _ _ _ _ _ _ us hl => match us, hl with | [_], _ => rfl⟩
  d_kind_of := ⟨f2, _, PySem.W.mg_of X G a2, fun_mk (st := s_kind_of) l2 c2 k2, (fun_mk (st := s_kind_of) l2 c2 k2).binds fun _ _ _ _ _ _ us hl => match us, hl with | [_], _ => rfl⟩
  d_law_cell_at := ⟨f3, _, PySem.W.mg_of X G a3, fun_mk (st := s_law_cell_at) l3 c3 k3, (fun_mk (st := s_law_cell_at) l3 c3 k3).binds fun _ _ _ _ _ _ us hl => match us, hl with | [_, _], _ => rfl⟩
  d_law_box := ⟨f4, _, PySem.W.mg_of X G a4, fun_mk (st := s_law_box) l4 c4 k4, (fun_mk (st := s_law_box) l4 c4 k4).binds fun _ _ _ _ _ _ us hl => match us, hl with | [_, _], _ => rfl⟩
  d_law_take := ⟨f5, _, PySem.W.mg_of X G a5, fun_mk (st := s_law_take) l5 c5 k5, (fun_mk (st := s_law_take) l5 c5 k5).binds fun _ _ _ _ _ _ us hl => match us, hl with | [_, _], _ => rfl⟩
  d_law_same := ⟨f6, _, PySem.W.mg_of X G a6, fun_mk (st := s_law_same) l6 c6 k6, (fun_mk (st := s_law_same) l6 c6 k6).binds fun _ _ _ _ _ _ us hl => match us, hl with | [_, _], _ => rfl⟩
  d_law_of := ⟨f7, _, PySem.W.mg_of X G a7, fun_mk (st := s_law_of) l7 c7 k7, (fun_mk (st := s_law_of) l7 c7 k7).binds fun _ _ _ _ _ _ us hl => match us, hl with | [_, _], _ => rfl⟩
  d_law_names := ⟨f8, _, PySem.W.mg_of X G a8, fun_mk (st := s_law_names) l8 c8 k8, (fun_mk (st := s_law_names) l8 c8 k8).binds fun _ _ _ _ _ _ us hl => match us, hl with | [_, _], _ => rfl⟩
  d_law_body := ⟨f9, _, PySem.W.mg_of X G a9, fun_mk (st := s_law_body) l9 c9 k9, (fun_mk (st := s_law_body) l9 c9 k9).binds fun _ _ _ _ _ _ us hl => match us, hl with | [_, _, _, _, _], _ => rfl⟩
  d_law_parts := ⟨f10, _, PySem.W.mg_of X G a10, fun_mk (st := s_law_parts) l10 c10 k10, (fun_mk (st := s_law_parts) l10 c10 k10).binds fun _ _ _ _ _ _ us hl => match us, hl with | [_], _ => rfl⟩
  d_law_plain := ⟨f11, _, PySem.W.mg_of X G a11, fun_mk (st := s_law_plain) l11 c11 k11, (fun_mk (st := s_law_plain) l11 c11 k11).binds fun _ _ _ _ _ _ us hl => match us, hl with | [_, _, _, _, _], _ => rfl⟩
  d_law_drawn := ⟨f12, _, PySem.W.mg_of X G a12, fun_mk (st := s_law_drawn) l12 c12 k12, (fun_mk (st := s_law_drawn) l12 c12 k12).binds fun _ _ _ _ _ _ us hl => match us, hl with | [_], _ => rfl⟩
  d_law_plain_right := ⟨f13, _, PySem.W.mg_of X G a13, fun_mk (st := s_law_plain_right) l13 c13 k13, (fun_mk (st := s_law_plain_right) l13 c13 k13).binds fun _ _ _ _ _ _ us hl => match us, hl with | [_], _ => rfl⟩
  d_law_right := ⟨f14, _, PySem.W.mg_of X G a14, fun_mk (st := s_law_right) l14 c14 k14, (fun_mk (st := s_law_right) l14 c14 k14).binds fun _ _ _ _ _ _ us hl => match us, hl with | [_], _ => rfl⟩
  d_law := ⟨f15, _, PySem.W.mg_of X G a15, fun_mk (st := s_law) l15 c15 k15, (fun_mk (st := s_law) l15 c15 k15).binds fun _ _ _ _ _ _ us hl => match us, hl with | [_], _ => rfl⟩
  c_ALL := gc_str (PySem.W.mg_of X G v0)
  c_ANSWER := gc_str (PySem.W.mg_of X G v1)
  c_EVER := gc_str (PySem.W.mg_of X G v2)
  c_OF_ONE := gc_tupS (ys := ["not", "ahead", "ever"]) (PySem.W.mg_of X G v3) w3 x3
  c_OF_TWO := gc_tupS (ys := ["and", "or", "since"]) (PySem.W.mg_of X G v4) w4 x4
  c_LOOKING := gc_tupS (ys := ["ahead", "ever", "since"]) (PySem.W.mg_of X G v5) w5 x5
  z_abs := PySem.W.mg_none_of X G z_abs
  z_all := PySem.W.mg_none_of X G z_all
  z_bool := PySem.W.mg_none_of X G z_bool
  z_int := PySem.W.mg_none_of X G z_int
  z_isinstance := PySem.W.mg_none_of X G z_isinstance
  z_len := PySem.W.mg_none_of X G z_len
  z_list := PySem.W.mg_none_of X G z_list
  z_max := PySem.W.mg_none_of X G z_max
  z_min := PySem.W.mg_none_of X G z_min
  z_range := PySem.W.mg_none_of X G z_range
  z_repr := PySem.W.mg_none_of X G z_repr
  z_sorted := PySem.W.mg_none_of X G z_sorted
  z_tuple := PySem.W.mg_none_of X G z_tuple
  z_zip := PySem.W.mg_none_of X G z_zip
theorem law_end {P : Program} {w : World} {K : PySem.W.Frag} {mg : Str → Option Value} {fa : Addr} (T : Tx K mg) (h : mg "law" = some (.ref fa)) :
    ∃ fd : FuncData, (∀ (s : Shared) (u : Value), BindsTo s fd ⟨[u], []⟩ [("script", u)]) ∧ ∀ base : Heap, K.In base → base.Ns mainGlobals mg → FnG P w K mg base CX0 112 fa fd ["script"] (spOf K 1 spLaw) := by
  obtain ⟨f, fd, hm, F, hb⟩ := T.d_law
  rw [h] at hm
  cases hm
  refine ⟨fd, fun s u => ?_, fun base hK hN => ?_⟩
  · obtain ⟨oc, od, kV, doc, pm, an, cdv, ct, osl, rfl, _, _⟩ := F.ex
    exact .of_eq rfl
  · obtain ⟨f2, fd2, e, F2, hb2, g⟩ := (ok_law (P := P) (w := w) (base := base) T).ex
    rw [h] at e
    cases e
    obtain ⟨_, _, _, _, _, _, _, _, _, _, q1, _⟩ := F.ex
    obtain ⟨_, _, _, _, _, _, _, _, _, _, q2, _⟩ := F2.ex
    rw [q1] at q2
    cases q2
    exact g
end DL

open PySem PySem.W PyProof.Rows in
set_option maxRecDepth 100000 in
set_option maxHeartbeats 0 in
theorem PySem.Challenge.cw_manyruns_k10_parts_kinds_and_looks_holds : PySem.Challenge.rw_manyruns_k10_parts_kinds_and_looks.Holds := by
  w_on; o_law; k_head; (case hw => w_witness2)
  k_fill
  refine DL.lawD (l := PySem.Challenge.rw_manyruns_k10_parts_kinds_and_looks) (k := 112) (x := "script") rfl rfl ⟨rfl, by decide, by decide⟩ (fun w h Y => PySem.W.kIn_of Y) ?F
  case F =>
    intro w mg fa h KX G hmg
    refine' DL.law_end (DL.all_mk KX G ?a0 ?l0 ?c0 ?k0 ?a1 ?l1 ?c1 ?k1 ?a2 ?l2 ?c2 ?k2 ?a3 ?l3 ?c3 ?k3 ?a4 ?l4 ?c4 ?k4 ?a5 ?l5 ?c5 ?k5 ?a6 ?l6 ?c6 ?k6 ?a7 ?l7 ?c7 ?k7 ?a8 ?l8 ?c8 ?k8 ?a9 ?l9 ?c9 ?k9 ?a10 ?l10 ?c10 ?k10 ?a11 ?l11 ?c11 ?k11 ?a12 ?l12 ?c12 ?k12 ?a13 ?l13 ?c13 ?k13 ?a14 ?l14 ?c14 ?k14 ?a15 ?l15 ?c15 ?k15 ?v0 ?v1 ?v2 ?v3 ?w3 ?x3 ?v4 ?w4 ?x4 ?v5 ?w5 ?x5 ?z_abs ?z_all ?z_bool ?z_int ?z_isinstance ?z_len ?z_list ?z_max ?z_min ?z_range ?z_repr ?z_sorted ?z_tuple ?z_zip) hmg
    (case a0 => k_is)
    (case l0 => k_is)
    (case c0 => k_is)
    (case k0 => k_is)
    (case a1 => k_is)
    (case l1 => k_is)
    (case c1 => k_is)
    (case k1 => k_is)
    (case a2 => k_is)
    (case l2 => k_is)
    (case c2 => k_is)
    (case k2 => k_is)
    (case a3 => k_is)
    (case l3 => k_is)
    (case c3 => k_is)
    (case k3 => k_is)
    (case a4 => k_is)
    (case l4 => k_is)
    (case c4 => k_is)
    (case k4 => k_is)
    (case a5 => k_is)
    (case l5 => k_is)
    (case c5 => k_is)
    (case k5 => k_is)
    (case a6 => k_is)
    (case l6 => k_is)
    (case c6 => k_is)
    (case k6 => k_is)
    (case a7 => k_is)
    (case l7 => k_is)
    (case c7 => k_is)
    (case k7 => k_is)
    (case a8 => k_is)
    (case l8 => k_is)
    (case c8 => k_is)
    (case k8 => k_is)
    (case a9 => k_is)
    (case l9 => k_is)
    (case c9 => k_is)
    (case k9 => k_is)
    (case a10 => k_is)
    (case l10 => k_is)
    (case c10 => k_is)
    (case k10 => k_is)
    (case a11 => k_is)
    (case l11 => k_is)
    (case c11 => k_is)
    (case k11 => k_is)
    (case a12 => k_is)
    (case l12 => k_is)
    (case c12 => k_is)
    (case k12 => k_is)
    (case a13 => k_is)
    (case l13 => k_is)
    (case c13 => k_is)
    (case k13 => k_is)
    (case a14 => k_is)
    (case l14 => k_is)
    (case c14 => k_is)
    (case k14 => k_is)
    (case a15 => k_is)
    (case l15 => k_is)
    (case c15 => k_is)
    (case k15 => k_is)
    (case v0 => k_is)
    (case v1 => k_is)
    (case v2 => k_is)
    (case v3 => k_is)
    (case w3 => k_is)
    (case x3 => exact by repeat (first | exact .nil | refine .cons ⟨_, rfl⟩ ?_))
    (case v4 => k_is)
    (case w4 => k_is)
    (case x4 => exact by repeat (first | exact .nil | refine .cons ⟨_, rfl⟩ ?_))
    (case v5 => k_is)
    (case w5 => k_is)
    (case x5 => exact by repeat (first | exact .nil | refine .cons ⟨_, rfl⟩ ?_))
    (case z_abs => k_is)
    (case z_all => k_is)
    (case z_bool => k_is)
    (case z_int => k_is)
    (case z_isinstance => k_is)
    (case z_len => k_is)
    (case z_list => k_is)
    (case z_max => k_is)
    (case z_min => k_is)
    (case z_range => k_is)
    (case z_repr => k_is)
    (case z_sorted => k_is)
    (case z_tuple => k_is)
    (case z_zip => k_is)

