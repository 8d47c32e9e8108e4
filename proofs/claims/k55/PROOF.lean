import PyProof.Rows.All
import Wide.All
import OpenK.AllK
import Wide.FinOn
import HandS.ForMost
import HandS.Evl
import HandS.Deep
import KE.KDictKeyed
import HandS.Codes
import HandS.IsInst
import HandS.TupAny
import HandS.Style
import HandS.Zip
import KE.KUnpackStar
import HandS.Conv
import HandS.More
import KE.KDictZip
import HandS.MapObj
import HandS.ExcValue
import KE.KeyNested
import KE.SortData
import HandS.TupSets
import HandS.MakeKwOnly
import KE.DataCmp
import HandS.OwnEq
import HandS.TupLe
import HandS.DictComp
import HandS.Defaults
import KE.GoesEnum
import KE.KTurns
import KE.KDictDisplayH
import KE.KDictCopyH
import HandS.RevTup
import KE.KDictList
import HandS.TupLen
import PySem.Challenge.RW_manyruns_k55_states_that_follow
set_option Elab.async false
set_option linter.all false
set_option maxRecDepth 100000
/-! DL0: plain data behind the hand layer: D, what stands for it, worlds, growth, states. -/
namespace DL
open PySem L2
open PySem.PyData (strOk)
set_option autoImplicit false

/-! ### plain data -/
inductive D where
  | non | bl (b : Bool) | int (i : Int) | str (x : Str)
  | tup (l : List D) | lst (l : List D)
  | dk (ks : List Key) (l : List D)
  | dn (w : World) (ks : List D) (l : List D)
  | ob (C : Addr) (ns : List Str) (l : List D)
  | scr (ns : List Int)
  | mob (a : Addr)
  | txt (x : Str)
instance : Inhabited D := ⟨.non⟩

mutual
/-- may be a key -/
def D.hk : D → Bool
  | .non => true
  | .bl _ => true
  | .int _ => true
  | .str _ => true
  | .tup l => D.hks l
  | _ => false
def D.hks : List D → Bool
  | [] => true
  | d :: ds => D.hk d && D.hks ds
end
mutual
/-- the key that it is -/
def D.key : D → NestedKey
  | .non => .none
  | .bl b => .num (if b = true then 1 else 0)
  | .int i => .num i
  | .str x => .text x
  | .tup l => .tup (D.keys l)
  | _ => .none
def D.keys : List D → List NestedKey
  | [] => []
  | d :: ds => D.key d :: D.keys ds
end
theorem D.keys_map : ∀ l : List D, D.keys l = l.map D.key
  | [] => rfl
  | d :: l => by rw [D.keys, D.keys_map l, List.map_cons]
theorem D.hks_all : ∀ l : List D, D.hks l = l.all D.hk
  | [] => rfl
  | d :: l => by rw [D.hks, D.hks_all l, List.all_cons]
/-- the entries of a dict: each key, where its own tuple stands, its value -/
def entsN (nks : List NestedKey) (as : List Addr) (us : List Value) : List (NestedKey × Addr × Value) := nks.zip (as.zip us)
/-- a dict whose keys are tuples: what its object holds -/
def DnAt (w : World) (a : Addr) (nks : List NestedKey) (as : List Addr) (vs : List V) (ep : Nat) (h : Heap) : Prop :=
  (a == sysModules) = false ∧ ∃ us : List Value, Vals vs us ∧ ∃ o es, h.get? a = some o ∧ o.ExactDict ∧ o.data = .dict es ep ∧ es.toList = (entsN nks as us).map fun x => ⟨x.1.hash w, .ref x.2.1, x.2.2⟩
abbrev dnO (w : World) (a : Addr) (nks : List NestedKey) (as : List Addr) (vs : List V) (ep : Nat) : HO := .ext (DnAt w a nks as vs ep)
/-- data that may be such keys: unlike tuples, not too deep -/
structure KeysOk (ks : List D) : Prop where
  tup : ∀ k ∈ ks, (∃ l, k = .tup l) ∧ k.hk = true ∧ k.key.depth ≤ 8
  nd : (ks.map D.key).Nodup
/-- what is known keeps -/
abbrev Ext (H H' : Hp) : Prop := ∀ a o, H a = some o → H' a = some o
theorem Ext.rfl {H : Hp} : Ext H H := fun _ _ h => h
theorem Ext.trans {H H1 H2 : Hp} (a : Ext H H1) (b : Ext H1 H2) : Ext H H2 := fun x o h => b x o (a x o h)

mutual
inductive Rep (K : PySem.W.Frag) (B : Hp) : D → V → Prop
  | non : Rep K B .non .non
  | bl (b : Bool) : Rep K B (.bl b) (.bl b)
  | int (i : Int) : Rep K B (.int i) (.int i)
  | str {x : Str} : strOk x = true → Rep K B (.str x) (.str x)
  | scr {a : Addr} {ns : List Int} : SqL K B a (ns.map V.int) → Rep K B (.scr ns) (.ref a)
  | tup {a : Addr} {xs : List V} {ds : List D} : SqT K B a xs → ds.length ≤ sizeLine → Reps K B ds xs → Rep K B (.tup ds) (.ref a)
  | lst {a : Addr} {xs : List V} {ds : List D} : B a = some (.lst xs) → ds.length ≤ sizeLine → Reps K B ds xs → Rep K B (.lst ds) (.ref a)
  | dk {a : Addr} {ks : List Key} {vs : List V} {ds : List D} : B a = some (.dK (ks.zip vs)) → ks.length = ds.length → ds.length ≤ sizeLine → Reps K B ds vs → Rep K B (.dk ks ds) (.ref a)
  | dn {a : Addr} {w : World} {ks ds : List D} {as : List Addr} {vs : List V} {ep : Nat} : B a = some (dnO w a (ks.map D.key) as vs ep) → KeysOk ks → ks.length = ds.length → ds.length ≤ sizeLine → Reps K B ks (as.map V.ref) → Reps K B ds vs → Rep K B (.dn w ks ds) (.ref a)
  | ob {a C dx : Addr} {ns : List Str} {vs : List V} {ds : List D} : B a = some (.ins C dx (ns.zip vs)) → ns.length = ds.length → Reps K B ds vs → Rep K B (.ob C ns ds) (.ref a)
  | mob (a : Addr) : Rep K B (.mob a) (.ref a)
  | txt (x : Str) : Rep K B (.txt x) (.str x)
inductive Reps (K : PySem.W.Frag) (B : Hp) : List D → List V → Prop
  | nil : Reps K B [] []
  | cons {d : D} {v : V} {ds : List D} {vs : List V} : Rep K B d v → Reps K B ds vs → Reps K B (d :: ds) (v :: vs)
end

section
variable {K : PySem.W.Frag} {B B' H H' : Hp}
mutual
theorem Rep.mono (e : Ext B B') : ∀ (d : D) (v : V), Rep K B d v → Rep K B' d v
  | .non, _, h => by cases h; exact .non
  | .bl b, _, h => by cases h; exact .bl b
  | .int i, _, h => by cases h; exact .int i
  | .str x, _, h => by
    cases h with
    | str h => exact .str h
  | .scr ns, _, h => by
    cases h with
    | scr h => exact .scr (Evl.ex_l e h)
  | .tup l, _, h => by
    cases h with
    | tup hs hl hr => exact .tup (Evl.ex_t e hs) hl (Reps.mono e l _ hr)
  | .lst l, _, h => by
    cases h with
    | lst hs hl hr => exact .lst (e _ _ hs) hl (Reps.mono e l _ hr)
  | .dk ks l, _, h => by
    cases h with
    | dk hs h1 hl hr => exact .dk (e _ _ hs) h1 hl (Reps.mono e l _ hr)
  | .dn w ks l, _, h => by
    cases h with
    | dn hs h0 h1 hl hk hr => exact .dn (e _ _ hs) h0 h1 hl (Reps.mono e ks _ hk) (Reps.mono e l _ hr)
  | .ob C ns l, _, h => by
    cases h with
    | ob hs h1 hr => exact .ob (e _ _ hs) h1 (Reps.mono e l _ hr)
  | .mob a, _, h => by cases h; exact .mob a
  | .txt x, _, h => by cases h; exact .txt x
theorem Reps.mono (e : Ext B B') : ∀ (ds : List D) (vs : List V), Reps K B ds vs → Reps K B' ds vs
  | [], _, h => by cases h; exact .nil
  | d :: ds, _, h => by
    cases h with
    | cons h1 h2 => exact .cons (Rep.mono e d _ h1) (Reps.mono e ds _ h2)
end
/-- strOk is closed -/
theorem strOk_app {x y : Str} (hx : strOk x = true) (hy : strOk y = true) : strOk (x ++ y) = true := by
  unfold strOk at *
  have e : (x ++ y).cps = x.cps ++ y.cps := rfl
  rw [e, Array.all_append, hx, hy]; rfl
theorem Rep.up {d : D} {v : V} (h : Rep K B d v) (e : Ext B B') : Rep K B' d v := Rep.mono e d v h
theorem Reps.up {d : List D} {v : List V} (h : Reps K B d v) (e : Ext B B') : Reps K B' d v := Reps.mono e d v h
theorem Reps.length : ∀ {ds : List D} {vs : List V}, Reps K B ds vs → ds.length = vs.length
  | _, _, .nil => rfl
  | _, _, .cons _ h => by simp [Reps.length h]
theorem Reps.get : ∀ {ds : List D} {vs : List V} {i : Nat} {v : V}, Reps K B ds vs → vs[i]? = some v → ∃ d, ds[i]? = some d ∧ Rep K B d v
  | _, _, _, _, .nil, e => by simp at e
  | _, _, 0, _, .cons h _, e => by
    simp only [List.getElem?_cons_zero, Option.some.injEq] at e
    subst e
    exact ⟨_, rfl, h⟩
  | _, _, i + 1, v, .cons _ t, e => by
    obtain ⟨d, h1, h2⟩ := Reps.get (i := i) (v := v) t (by simpa using e)
    exact ⟨d, by simpa using h1, h2⟩
theorem Reps.getD : ∀ {ds : List D} {vs : List V} {i : Nat} {d : D}, Reps K B ds vs → ds[i]? = some d → ∃ v, vs[i]? = some v ∧ Rep K B d v
  | _, _, _, _, .nil, e => by simp at e
  | _, _, 0, _, .cons h _, e => by
    simp only [List.getElem?_cons_zero, Option.some.injEq] at e
    subst e
    exact ⟨_, rfl, h⟩
  | _, _, i + 1, v, .cons _ t, e => by
    obtain ⟨d, h1, h2⟩ := Reps.getD (i := i) (d := v) t (by simpa using e)
    exact ⟨d, by simpa using h1, h2⟩
theorem Reps.append : ∀ {ds es : List D} {vs ws : List V}, Reps K B ds vs → Reps K B es ws → Reps K B (ds ++ es) (vs ++ ws)
  | _, _, _, _, .nil, s => s
  | _, _, _, _, .cons r t, s => .cons r (Reps.append t s)
theorem Reps.take : ∀ {ds : List D} {vs : List V} (n : Nat), Reps K B ds vs → Reps K B (ds.take n) (vs.take n)
  | _, _, 0, _ => .nil
  | _, _, _ + 1, .nil => .nil
  | _, _, n + 1, .cons r t => .cons r (Reps.take n t)
theorem Reps.drop : ∀ {ds : List D} {vs : List V} (n : Nat), Reps K B ds vs → Reps K B (ds.drop n) (vs.drop n)
  | _, _, 0, r => r
  | _, _, _ + 1, .nil => .nil
  | _, _, n + 1, .cons _ t => Reps.drop n t
theorem Reps.rev {ds : List D} {vs : List V} (h : Reps K B ds vs) : Reps K B ds.reverse vs.reverse := by
  induction h using Reps.rec (motive_1 := fun _ _ _ => True) with
  | nil => exact .nil
  | cons h1 h2 _ ih =>
    rw [List.reverse_cons, List.reverse_cons]
    exact Reps.append ih (.cons h1 .nil)
  | _ => trivial
theorem Reps.set : ∀ {ds : List D} {vs : List V} (i : Nat) {d : D} {v : V}, Reps K B ds vs → Rep K B d v → Reps K B (ds.set i d) (vs.set i v)
  | _, _, _, _, _, .nil, _ => .nil
  | _, _, 0, _, _, .cons _ t, h => .cons h t
  | _, _, n + 1, _, _, .cons r t, h => .cons r (Reps.set n t h)
end

/-! ### owned trees -/
inductive OT where
  | fz (d : D)
  | ow (l : List OT)
  | od (ks : List Key) (l : List OT)
  | on (w : World) (ks : List D) (l : List OT)
mutual
def OT.toD : OT → D
  | .fz d => d
  | .ow l => .lst (OT.toDs l)
  | .od ks l => .dk ks (OT.toDs l)
  | .on w ks l => .dn w ks (OT.toDs l)
def OT.toDs : List OT → List D
  | [] => []
  | t :: ts => OT.toD t :: OT.toDs ts
end
theorem OT.toDs_map : ∀ l : List OT, OT.toDs l = l.map OT.toD
  | [] => rfl
  | t :: ts => by rw [OT.toDs, OT.toDs_map ts, List.map_cons]
@[simp] theorem OT.toD_fz (d : D) : (OT.fz d).toD = d := rfl
@[simp] theorem OT.toD_ow (l : List OT) : (OT.ow l).toD = .lst (l.map OT.toD) := by rw [OT.toD, OT.toDs_map]
@[simp] theorem OT.toD_od (ks : List Key) (l : List OT) : (OT.od ks l).toD = .dk ks (l.map OT.toD) := by rw [OT.toD, OT.toDs_map]
@[simp] theorem OT.toD_on (w : World) (ks : List D) (l : List OT) : (OT.on w ks l).toD = .dn w ks (l.map OT.toD) := by rw [OT.toD, OT.toDs_map]
@[simp] theorem OT.map_fz (l : List D) : (l.map OT.fz).map OT.toD = l := by
  rw [List.map_map]
  conv => rhs; rw [← List.map_id l]
  rfl

mutual
inductive RepO (K : PySem.W.Frag) (B H : Hp) : OT → V → List Addr → Prop
  | fz {d : D} {v : V} : Rep K B d v → RepO K B H (.fz d) v []
  | ow {p : Addr} {xs : List V} {l : List OT} {T : List Addr} : H p = some (.lst xs) → l.length ≤ sizeLine → RepOs K B H l xs T → RepO K B H (.ow l) (.ref p) (p :: T)
  | od {p : Addr} {ks : List Key} {xs : List V} {l : List OT} {T : List Addr} : H p = some (.dK (ks.zip xs)) → ks.length = l.length → l.length ≤ sizeLine → RepOs K B H l xs T → RepO K B H (.od ks l) (.ref p) (p :: T)
  | on {p : Addr} {w : World} {ks : List D} {as : List Addr} {xs : List V} {l : List OT} {T : List Addr} {ep : Nat} : H p = some (dnO w p (ks.map D.key) as xs ep) → KeysOk ks → ks.length = l.length → l.length ≤ sizeLine → Reps K B ks (as.map V.ref) → RepOs K B H l xs T → RepO K B H (.on w ks l) (.ref p) (p :: T)
inductive RepOs (K : PySem.W.Frag) (B H : Hp) : List OT → List V → List Addr → Prop
  | nil : RepOs K B H [] [] []
  | cons {t : OT} {v : V} {ts : List OT} {vs : List V} {T T' : List Addr} : RepO K B H t v T → RepOs K B H ts vs T' → RepOs K B H (t :: ts) (v :: vs) (T ++ T')
end
section
variable {K : PySem.W.Frag} {B B' H H' : Hp}
mutual
theorem RepO.mono (e : Ext B B') : ∀ (t : OT) (v : V) (T : List Addr), (∀ p ∈ T, H' p = H p) → RepO K B H t v T → RepO K B' H' t v T
  | .fz d, _, _, _, h => by
    cases h with
    | fz h => exact .fz (h.up e)
  | .ow l, _, _, hT, h => by
    cases h with
    | ow hp hl hr => exact .ow (by rw [hT _ List.mem_cons_self]; exact hp) hl (RepOs.mono e l _ _ (fun p q => hT p (List.mem_cons_of_mem _ q)) hr)
  | .od ks l, _, _, hT, h => by
    cases h with
    | od hp hk hl hr => exact .od (by rw [hT _ List.mem_cons_self]; exact hp) hk hl (RepOs.mono e l _ _ (fun p q => hT p (List.mem_cons_of_mem _ q)) hr)
  | .on w ks l, _, _, hT, h => by
    cases h with
    | on hp h0 hk hl hks hr => exact .on (by rw [hT _ List.mem_cons_self]; exact hp) h0 hk hl (hks.up e) (RepOs.mono e l _ _ (fun p q => hT p (List.mem_cons_of_mem _ q)) hr)
theorem RepOs.mono (e : Ext B B') : ∀ (l : List OT) (xs : List V) (T : List Addr), (∀ p ∈ T, H' p = H p) → RepOs K B H l xs T → RepOs K B' H' l xs T
  | [], _, _, _, h => by cases h; exact .nil
  | t :: ts, _, _, hT, h => by
    cases h with
    | cons h1 h2 => exact .cons (RepO.mono e t _ _ (fun p q => hT p (List.mem_append_left _ q)) h1) (RepOs.mono e ts _ _ (fun p q => hT p (List.mem_append_right _ q)) h2)
end
mutual
/-- a tree as it stands, as data -/
theorem RepO.data (e : Ext B B') : ∀ (t : OT) (v : V) (T : List Addr), (∀ p ∈ T, B' p = H p) → RepO K B H t v T → Rep K B' t.toD v
  | .fz d, _, _, _, h => by
    cases h with
    | fz h => exact h.up e
  | .ow l, _, _, hT, h => by
    cases h with
    | ow hp hl hr =>
      refine .lst (xs := _) ?_ ?_ (RepOs.data e l _ _ (fun p q => hT p (List.mem_cons_of_mem _ q)) hr)
      · rw [hT _ List.mem_cons_self]; exact hp
      · rw [OT.toDs_map, List.length_map]; exact hl
  | .od ks l, _, _, hT, h => by
    cases h with
    | od hp hk hl hr =>
      refine .dk (vs := _) ?_ ?_ ?_ (RepOs.data e l _ _ (fun p q => hT p (List.mem_cons_of_mem _ q)) hr)
      · rw [hT _ List.mem_cons_self]; exact hp
      · rw [OT.toDs_map, List.length_map]; exact hk
      · rw [OT.toDs_map, List.length_map]; exact hl
  | .on w ks l, _, _, hT, h => by
    cases h with
    | @on _ _ _ _ _ _ _ ep0 hp h0 hk hl hks hr =>
      refine .dn (vs := _) (ep := ep0) ?_ h0 ?_ ?_ (hks.up e) (RepOs.data e l _ _ (fun p q => hT p (List.mem_cons_of_mem _ q)) hr)
      · rw [hT _ List.mem_cons_self]; exact hp
      · rw [OT.toDs_map, List.length_map]; exact hk
      · rw [OT.toDs_map, List.length_map]; exact hl
theorem RepOs.data (e : Ext B B') : ∀ (l : List OT) (xs : List V) (T : List Addr), (∀ p ∈ T, B' p = H p) → RepOs K B H l xs T → Reps K B' (OT.toDs l) xs
  | [], _, _, _, h => by cases h; exact .nil
  | t :: ts, _, _, hT, h => by
    cases h with
    | cons h1 h2 => exact .cons (RepO.data e t _ _ (fun p q => hT p (List.mem_append_left _ q)) h1) (RepOs.data e ts _ _ (fun p q => hT p (List.mem_append_right _ q)) h2)
end
theorem RepOs.fzs : ∀ {ds : List D} {vs : List V}, Reps K B ds vs → RepOs K B H (ds.map OT.fz) vs []
  | _, _, .nil => .nil
  | _, _, .cons h t => RepOs.cons (T := []) (T' := []) (.fz h) (RepOs.fzs t)
theorem RepOs.length : ∀ {ds : List OT} {vs : List V} {T : List Addr}, RepOs K B H ds vs T → ds.length = vs.length
  | _, _, _, .nil => rfl
  | _, _, _, .cons _ h => by simp [RepOs.length h]
mutual
/-- owned addresses stand -/
theorem RepO.some : ∀ {t : OT} {v : V} {T : List Addr}, RepO K B H t v T → ∀ p ∈ T, (H p).isSome = true
  | _, _, _, .fz _, p, hp => by cases hp
  | _, _, _, .ow h _ r, q, hq => by
    rcases List.mem_cons.mp hq with e | hq
    · rw [e, h]; rfl
    · exact RepOs.some r q hq
  | _, _, _, .od h _ _ r, q, hq => by
    rcases List.mem_cons.mp hq with e | hq
    · rw [e, h]; rfl
    · exact RepOs.some r q hq
  | _, _, _, .on h _ _ _ _ r, q, hq => by
    rcases List.mem_cons.mp hq with e | hq
    · rw [e, h]; rfl
    · exact RepOs.some r q hq
theorem RepOs.some : ∀ {t : List OT} {v : List V} {T : List Addr}, RepOs K B H t v T → ∀ p ∈ T, (H p).isSome = true
  | _, _, _, .nil, p, hp => by cases hp
  | _, _, _, .cons r1 r2, q, hq => by
    rcases List.mem_append.mp hq with hq | hq
    · exact RepO.some r1 q hq
    · exact RepOs.some r2 q hq
end
end

/-! ### environments -/
abbrev Env := List (Option OT)
inductive SimE (K : PySem.W.Frag) (B H : Hp) : Env → St → List Addr → Prop
  | nil : SimE K B H [] [] []
  | none {ρ : Env} {σ : St} {o : Option V} {S : List Addr} : SimE K B H ρ σ S → SimE K B H (Option.none :: ρ) (o :: σ) S
  | some {t : OT} {v : V} {ρ : Env} {σ : St} {T S : List Addr} : RepO K B H t v T → SimE K B H ρ σ S → SimE K B H (Option.some t :: ρ) (Option.some v :: σ) (T ++ S)
section
variable {K : PySem.W.Frag} {B B' H H' : Hp}
theorem SimE.mono (e : Ext B B') : ∀ {ρ : Env} {σ : St} {S : List Addr}, (∀ p ∈ S, H' p = H p) → SimE K B H ρ σ S → SimE K B' H' ρ σ S
  | _, _, _, _, .nil => .nil
  | _, _, _, h, .none r => .none (SimE.mono e h r)
  | _, _, _, h, .some r q => .some (RepO.mono e _ _ _ (fun p z => h p (List.mem_append_left _ z)) r) (SimE.mono e (fun p z => h p (List.mem_append_right _ z)) q)
theorem SimE.some_of : ∀ {ρ : Env} {σ : St} {S : List Addr}, SimE K B H ρ σ S → ∀ p ∈ S, (H p).isSome = true
  | _, _, _, .nil, _, h => by cases h
  | _, _, _, .none r, p, h => SimE.some_of r p h
  | _, _, _, .some r q, p, h => by
    rcases List.mem_append.mp h with h | h
    · exact r.some p h
    · exact SimE.some_of q p h
/-- the part of a slot -/
theorem SimE.split : ∀ {ρ : Env} {σ : St} {S : List Addr} {i : Nat} {x : Option OT}, SimE K B H ρ σ S → ρ[i]? = Option.some x → ∃ A T C, S = A ++ (T ++ C) ∧
    (∀ t, x = Option.some t → ∃ v, σ[i]? = Option.some (Option.some v) ∧ RepO K B H t v T) ∧
    (∀ B' H' t' v' T', Ext B B' → (∀ p ∈ A ++ C, H' p = H p) → RepO K B' H' t' v' T' → SimE K B' H' (ρ.set i (Option.some t')) (σ.set i (Option.some v')) (A ++ (T' ++ C))) ∧
    (∀ B' H' o, Ext B B' → (∀ p ∈ A ++ C, H' p = H p) → SimE K B' H' (ρ.set i Option.none) (σ.set i o) (A ++ C)) ∧
    (∀ B' H' t' v T', Ext B B' → (∀ p ∈ A ++ C, H' p = H p) → σ[i]? = Option.some (Option.some v) → RepO K B' H' t' v T' → SimE K B' H' (ρ.set i (Option.some t')) σ (A ++ (T' ++ C)))
  | _, _, _, _, _, .nil, e => by simp at e
  | _, _, S, 0, x, .none (σ := σ) (o := o) r, e => by
    simp only [List.getElem?_cons_zero, Option.some.injEq] at e
    subst e
    refine ⟨[], [], S, rfl, fun t h => (nomatch h), fun B' H' t' v' T' he hk hr => ?_, fun B' H' o he hk => ?_, fun B' H' t' v' T' he hk hσ hr => ?_⟩
    · exact SimE.some (S := S) hr (SimE.mono he (fun p hp => hk p (by simpa using hp)) r)
    · exact .none (SimE.mono he (fun p hp => hk p (by simpa using hp)) r)
    · simp only [List.getElem?_cons_zero, Option.some.injEq] at hσ
      subst hσ
      exact SimE.some (S := S) hr (SimE.mono he (fun p hp => hk p (by simpa using hp)) r)
  | _, _, _, 0, x, .some (T := T) (S := S) r q, e => by
    simp only [List.getElem?_cons_zero, Option.some.injEq] at e
    subst e
    refine ⟨[], T, S, rfl, fun t h => ?_, fun B' H' t' v' T' he hk hr => ?_, fun B' H' o he hk => ?_, fun B' H' t' v' T' he hk hσ hr => ?_⟩
    · cases h; exact ⟨_, rfl, r⟩
    · exact SimE.some (S := S) hr (SimE.mono he (fun p hp => hk p (by simpa using hp)) q)
    · exact .none (SimE.mono he (fun p hp => hk p (by simpa using hp)) q)
    · simp only [List.getElem?_cons_zero, Option.some.injEq] at hσ
      cases hσ
      exact SimE.some (S := S) hr (SimE.mono he (fun p hp => hk p (by simpa using hp)) q)
  | _, _, _, i + 1, x, .none r, e => by
    obtain ⟨A, T, C, h1, h2, h3, h4, h5⟩ := SimE.split (i := i) (x := x) r (by simpa using e)
    refine ⟨A, T, C, h1, fun t h => ?_, fun B' H' t' v' T' he hk hr => ?_, fun B' H' o he hk => ?_, fun B' H' t' v' T' he hk hσ hr => ?_⟩
    · obtain ⟨v, a, b⟩ := h2 t h
      exact ⟨v, by simpa using a, b⟩
    · exact .none (h3 B' H' t' v' T' he hk hr)
    · exact .none (h4 B' H' o he hk)
    · exact .none (h5 B' H' t' v' T' he hk (by simpa using hσ) hr)
  | _, _, _, i + 1, x, .some (T := T0) r q, e => by
    obtain ⟨A, T, C, h1, h2, h3, h4, h5⟩ := SimE.split (i := i) (x := x) q (by simpa using e)
    have up : ∀ B' H', Ext B B' → (∀ p ∈ (T0 ++ A) ++ C, H' p = H p) → RepO K B' H' _ _ T0 := fun B' H' he hk => RepO.mono he _ _ _ (fun p hp => hk p (List.mem_append_left _ (List.mem_append_left _ hp))) r
    have sub : ∀ (H' : Hp), (∀ p ∈ (T0 ++ A) ++ C, H' p = H p) → ∀ p ∈ A ++ C, H' p = H p := fun H' hk p hp => hk p (by
      rcases List.mem_append.mp hp with z | z
      · exact List.mem_append_left _ (List.mem_append_right _ z)
      · exact List.mem_append_right _ z)
    refine ⟨T0 ++ A, T, C, by rw [h1, List.append_assoc], fun t h => ?_, fun B' H' t' v' T' he hk hr => ?_, fun B' H' o he hk => ?_, fun B' H' t' v' T' he hk hσ hr => ?_⟩
    · obtain ⟨v, a, b⟩ := h2 t h
      exact ⟨v, by simpa using a, b⟩
    · rw [List.append_assoc]
      exact .some (up B' H' he hk) (h3 B' H' t' v' T' he (sub H' hk) hr)
    · rw [List.append_assoc]
      exact .some (up B' H' he hk) (h4 B' H' o he (sub H' hk))
    · rw [List.append_assoc]
      exact .some (up B' H' he hk) (h5 B' H' t' v' T' he (sub H' hk) (by simpa using hσ) hr)
theorem SimE.length : ∀ {ρ : Env} {σ : St} {S : List Addr}, SimE K B H ρ σ S → ρ.length = σ.length
  | _, _, _, .nil => rfl
  | _, _, _, .none r => by simp [SimE.length r]
  | _, _, _, .some _ r => by simp [SimE.length r]
end

/-! ### memory that changes behind one's back; what is known; growth; states -/
/-- an object that may change: what it holds now -/
inductive Mo where
  | lst (l : List D)
  | ins (C : Addr) (ns : List Str) (l : List D)
  | dk (ks : List Key) (l : List D)
abbrev Mem := Addr → Option Mo
def Mem.no : Mem := fun _ => none
def Mem.put (M : Mem) (p : Addr) (o : Mo) : Mem := fun a => if a = p then some o else M a
theorem Mem.put_same {M : Mem} {p : Addr} {o : Mo} : M.put p o p = some o := if_pos rfl
theorem Mem.put_ne {M : Mem} {p a : Addr} {o : Mo} (h : a ≠ p) : M.put p o a = M a := if_neg h
theorem Mem.put_put {M : Mem} {p : Addr} {o o' : Mo} : (M.put p o).put p o' = M.put p o' := by
  funext a
  unfold Mem.put
  by_cases h : a = p
  · rw [if_pos h, if_pos h]
  · rw [if_neg h, if_neg h, if_neg h]
/-- what is known for good, what is known to change -/
structure Kn where
  b : Hp
  m : Mem
instance : Coe Kn Hp := ⟨Kn.b⟩
def RepM (K : PySem.W.Frag) (B H : Hp) (a : Addr) : Mo → Prop
  | .lst l => ∃ xs, H a = some (.lst xs) ∧ l.length ≤ sizeLine ∧ Reps K B l xs
  | .ins C ns l => ∃ dx vs, H a = some (.ins C dx (ns.zip vs)) ∧ ns.length = l.length ∧ Reps K B l vs
  | .dk ks l => ∃ vs, H a = some (.dK (ks.zip vs)) ∧ ks.length = l.length ∧ l.length ≤ sizeLine ∧ Reps K B l vs
section
variable {K : PySem.W.Frag} {B B' H H' : Hp}
theorem RepM.some {a : Addr} {o : Mo} (h : RepM K B H a o) : H a ≠ none := by
  cases o with
  | lst l => obtain ⟨xs, e, _⟩ := h; rw [e]; exact fun z => nomatch z
  | ins C ns l => obtain ⟨dx, vs, e, _⟩ := h; rw [e]; exact fun z => nomatch z
  | dk ks l => obtain ⟨vs, e, _⟩ := h; rw [e]; exact fun z => nomatch z
theorem RepM.mono {a : Addr} {o : Mo} (e : Ext B B') (k : H' a = H a) (h : RepM K B H a o) : RepM K B' H' a o := by
  cases o with
  | lst l => obtain ⟨xs, q, hl, r⟩ := h; exact ⟨xs, k.trans q, hl, r.up e⟩
  | ins C ns l => obtain ⟨dx, vs, q, hl, r⟩ := h; exact ⟨dx, vs, k.trans q, hl, r.up e⟩
  | dk ks l => obtain ⟨vs, q, h1, h2, r⟩ := h; exact ⟨vs, k.trans q, h1, h2, r.up e⟩
end
structure Base (K : PySem.W.Frag) (B : Kn) (H : Hp) : Prop where
  bh : Ext B.b H
  wd : ∀ a o, B.m a = some o → B.b a = none ∧ RepM K B.b H a o
structure Grow (K : PySem.W.Frag) (B : Kn) (H : Hp) (B' : Kn) (H' : Hp) : Prop where
  b : Ext B.b B'.b
  h : ∀ a o, B.m a = none → H a = some o → H' a = some o
  d : ∀ a, B.m a ≠ none → B'.m a ≠ none
  n : ∀ a, B'.m a ≠ none → B.m a ≠ none ∨ H a = none
  f : ∀ a o, B'.b a = some o → B.b a = some o ∨ H a = none
  base : Base K B' H'
section
variable {K : PySem.W.Frag} {B B1 B2 : Kn} {H H1 H2 : Hp}
theorem Base.mh (h : Base K B H) {a : Addr} (e : B.m a ≠ none) : B.b a = none ∧ H a ≠ none := by
  cases q : B.m a with
  | none => exact absurd q e
  | some o => exact ⟨(h.wd a o q).1, (h.wd a o q).2.some⟩
theorem Base.grow (h : Base K B H) : Grow K B H B H := ⟨Ext.rfl, fun _ _ _ e => e, fun _ z => z, fun _ z => .inl z, fun _ _ e => .inl e, h⟩
theorem Base.bd (h : Base K B H) {a : Addr} {o : HO} (e : B.b a = some o) : B.m a = none := by
  by_cases z : B.m a = none
  · exact z
  · have := (h.mh z).1; rw [e] at this; cases this
theorem Grow.free (g : Grow K B H B1 H1) {a : Addr} (e : H1 a = none) : H a = none := by
  cases q : H a with
  | none => rfl
  | some o =>
    by_cases z : B.m a = none
    · rw [g.h a o z q] at e; cases e
    · exact absurd e (g.base.mh (g.d a z)).2
/-- what is no object that changes, stays none -/
theorem Grow.nm (g : Grow K B H B1 H1) {a : Addr} (e : B.m a = none) (h : H a ≠ none) : B1.m a = none := by
  by_cases z : B1.m a = none
  · exact z
  · rcases g.n a z with q | q
    · exact absurd e q
    · exact absurd q h
theorem Grow.trans (g : Grow K B H B1 H1) (k : Grow K B1 H1 B2 H2) : Grow K B H B2 H2 :=
  ⟨g.b.trans k.b, fun a o z e => k.h a o (g.nm z (by rw [e]; exact fun q => nomatch q)) (g.h a o z e), fun a z => k.d a (g.d a z), fun a z => by
    rcases k.n a z with q | q
    · exact g.n a q
    · exact .inr (g.free q), fun a o e => by
    rcases k.f a o e with z | z
    · exact g.f a o z
    · exact .inr (g.free z), k.base⟩
/-- the heap less what may change -/
def Hm (M : Mem) (H : Hp) : Hp := fun a => match M a with
  | none => H a
  | some _ => none
theorem Hm_of {M : Mem} {a : Addr} (h : M a = none) : Hm M H a = H a := by unfold Hm; rw [h]
theorem Hm_no {M : Mem} {a : Addr} (h : M a ≠ none) : Hm M H a = none := by
  unfold Hm
  cases q : M a with
  | none => exact absurd q h
  | some o => rfl
theorem Hm_ext {M : Mem} : Ext (Hm M H) H := fun a o e => by
  by_cases z : M a = none
  · rw [Hm_of z] at e; exact e
  · rw [Hm_no z] at e; cases e
theorem Grow.hm (g : Grow K B H B1 H1) : Ext (Hm B.m H) (Hm B1.m H1) := fun a o e => by
  by_cases z : B.m a = none
  · rw [Hm_of z] at e
    rw [Hm_of (g.nm z (by rw [e]; exact fun q => nomatch q))]
    exact g.h a o z e
  · rw [Hm_no z] at e; cases e
theorem Base.hm (h : Base K B H) : Ext B.b (Hm B.m H) := fun a o e => by
  rw [Hm_of (h.bd e)]; exact h.bh a o e
def Kn.upd (B : Kn) (p : Addr) (o : HO) : Kn := ⟨L2.upd B.b p o, B.m⟩
theorem Base.fresh (h : Base K B H) {p : Addr} (e : H p = none) : B.b p = none ∧ B.m p = none := by
  constructor
  · cases q : B.b p with
    | none => rfl
    | some u => rw [h.bh p u q] at e; cases e
  · by_cases z : B.m p = none
    · exact z
    · exact absurd e (h.mh z).2
/-- a new object that is known from now on -/
theorem Base.new (h : Base K B H) {p : Addr} {o : HO} (e : H p = none) : Grow K B H (B.upd p o) (upd H p o) := by
  obtain ⟨hb, nd⟩ := h.fresh e
  have eb : Ext B.b (L2.upd B.b p o) := Evl.Ex.new hb
  refine ⟨eb, fun a u _ q => Evl.Ex.new e a u q, fun a z => z, fun a z => .inl z, fun a u q => ?_, ⟨fun a u q => ?_, fun a u z => ?_⟩⟩
  · by_cases k : a = p
    · subst k; exact .inr e
    · exact .inl ((upd_ne k).symm.trans q)
  · by_cases k : a = p
    · subst k
      have q : L2.upd B.b a o a = some u := q
      rw [upd_same] at q ⊢; exact q
    · have q : L2.upd B.b p o a = some u := q
      rw [upd_ne k] at q ⊢; exact h.bh a u q
  · have z : B.m a = some u := z
    have k : a ≠ p := fun q => by rw [q, nd] at z; cases z
    refine ⟨(upd_ne k).trans (h.wd a u z).1, (h.wd a u z).2.mono eb (upd_ne k)⟩
/-- a new object that is one's own -/
theorem Base.newO (h : Base K B H) {p : Addr} {o : HO} (e : H p = none) : Grow K B H B (upd H p o) ∧ B.b p = none ∧ B.m p = none := by
  obtain ⟨hb, nd⟩ := h.fresh e
  refine ⟨⟨Ext.rfl, fun a u _ q => Evl.Ex.new e a u q, fun a z => z, fun a z => .inl z, fun a u q => .inl q, ⟨fun a u q => Evl.Ex.new e a u (h.bh a u q), fun a u z => ?_⟩⟩, hb, nd⟩
  have k : a ≠ p := fun q => by rw [q, nd] at z; cases z
  exact ⟨(h.wd a u z).1, (h.wd a u z).2.mono Ext.rfl (upd_ne k)⟩
def Kn.put (B : Kn) (p : Addr) (o : Mo) : Kn := ⟨B.b, B.m.put p o⟩
/-- one's own object becomes one that may change behind one's back -/
theorem Grow.mob {B0 : Kn} {H0 : Hp} (g : Grow K B0 H0 B H) {p : Addr} {o : Mo} (h0 : H0 p = none) (hb : B.b p = none) (nm : B.m p = none) (r : RepM K B.b H p o) : Grow K B0 H0 (B.put p o) H := by
  refine ⟨g.b, g.h, fun a z => ?_, fun a z => ?_, g.f, ⟨g.base.bh, fun a u z => ?_⟩⟩
  · by_cases k : a = p
    · subst k; show B.m.put a o a ≠ none; rw [Mem.put_same]; exact fun q => nomatch q
    · show B.m.put p o a ≠ none; rw [Mem.put_ne k]; exact g.d a z
  · by_cases k : a = p
    · subst k; exact .inr h0
    · have z : B.m.put p o a ≠ none := z
      rw [Mem.put_ne k] at z; exact g.n a z
  · by_cases k : a = p
    · subst k
      have z : B.m.put a o a = some u := z
      rw [Mem.put_same] at z; cases z; exact ⟨hb, r⟩
    · have z : B.m.put p o a = some u := z
      rw [Mem.put_ne k] at z; exact g.base.wd a u z
/-- an object that changes, changes -/
theorem Base.chg (h : Base K B H) {p : Addr} {o : Mo} {u : HO} (hp : B.m p ≠ none) (r : RepM K B.b (upd H p u) p o) : Grow K B H (B.put p o) (upd H p u) := by
  refine ⟨Ext.rfl, fun a v z q => ?_, fun a z => ?_, fun a z => ?_, fun a v q => .inl q, ⟨fun a v q => ?_, fun a v z => ?_⟩⟩
  · have k : a ≠ p := fun q => hp (by rw [← q]; exact z)
    rw [upd_ne k]; exact q
  · by_cases k : a = p
    · subst k; show B.m.put a o a ≠ none; rw [Mem.put_same]; exact fun q => nomatch q
    · show B.m.put p o a ≠ none; rw [Mem.put_ne k]; exact z
  · by_cases k : a = p
    · subst k; exact .inl hp
    · have z : B.m.put p o a ≠ none := z
      rw [Mem.put_ne k] at z; exact .inl z
  · have k : a ≠ p := fun e => hp (by rw [← e]; exact h.bd q)
    rw [upd_ne k]; exact h.bh a v q
  · by_cases k : a = p
    · subst k
      have z : B.m.put a o a = some v := z
      rw [Mem.put_same] at z; cases z; exact ⟨(h.mh hp).1, r⟩
    · have z : B.m.put p o a = some v := z
      rw [Mem.put_ne k] at z
      exact ⟨(h.wd a v z).1, (h.wd a v z).2.mono Ext.rfl (upd_ne k)⟩
/-- one's own new things become known -/
noncomputable def addB (B H : Hp) (T : List Addr) : Hp := fun a => @ite _ (a ∈ T) (Classical.propDecidable _) (H a) (B a)
theorem addB_in {B : Hp} {T : List Addr} {a : Addr} (h : a ∈ T) : addB B H T a = H a := by unfold addB; rw [if_pos h]
theorem addB_out {B : Hp} {T : List Addr} {a : Addr} (h : a ∉ T) : addB B H T a = B a := by unfold addB; rw [if_neg h]
noncomputable def Kn.add (B : Kn) (H : Hp) (T : List Addr) : Kn := ⟨addB B.b H T, B.m⟩
theorem Base.ext_add (h : Base K B H) {T : List Addr} : Ext B.b (B.add H T).b := fun a o e => by
  show addB B.b H T a = some o
  by_cases z : a ∈ T
  · rw [addB_in z]; exact h.bh a o e
  · rw [addB_out z]; exact e
theorem Grow.frz (g : Grow K B H B1 H1) {T : List Addr} (f : ∀ p ∈ T, H p = none) (d : ∀ p ∈ T, B1.m p = none) : Grow K B H (B1.add H1 T) H1 :=
  ⟨g.b.trans g.base.ext_add, g.h, g.d, g.n, fun a o e => by
    have e : addB B1.b H1 T a = some o := e
    by_cases z : a ∈ T
    · exact .inr (f a z)
    · rw [addB_out z] at e; exact g.f a o e, ⟨fun a o e => by
      have e : addB B1.b H1 T a = some o := e
      by_cases z : a ∈ T
      · rw [addB_in z] at e; exact e
      · rw [addB_out z] at e; exact g.base.bh a o e, fun a o z => by
      have k : a ∉ T := fun q => by have := d a q; have z : B1.m a = some o := z; rw [this] at z; cases z
      exact ⟨(addB_out k).trans (g.base.wd a o z).1, (g.base.wd a o z).2.mono g.base.ext_add rfl⟩⟩⟩
end

/-- a state inside a def: what is known, the names' trees, one's own addresses -/
structure Stt (K : PySem.W.Frag) (B : Kn) (H : Hp) (ρ : Env) (σ : St) (S : List Addr) : Prop where
  base : Base K B H
  sim : SimE K B.b H ρ σ S
  nd : S.Nodup
  out : ∀ p ∈ S, B.b p = none ∧ B.m p = none
section
variable {K : PySem.W.Frag} {B B1 : Kn} {H H1 : Hp} {ρ : Env} {σ : St} {S : List Addr}
theorem Stt.some_of (s : Stt K B H ρ σ S) {p : Addr} (hp : p ∈ S) : H p ≠ none := fun e => by
  have := s.sim.some_of p hp
  rw [e] at this; cases this
theorem Stt.grow (s : Stt K B H ρ σ S) (g : Grow K B H B1 H1) : Stt K B1 H1 ρ σ S := by
  have he : ∀ p ∈ S, H1 p = H p := fun p hp => by
    cases q : H p with
    | none => exact absurd q (s.some_of hp)
    | some o => exact g.h p o (s.out p hp).2 q
  refine ⟨g.base, SimE.mono g.b he s.sim, s.nd, fun p hp => ⟨?_, g.nm (s.out p hp).2 (s.some_of hp)⟩⟩
  cases q : B1.b p with
  | none => rfl
  | some o =>
    rcases g.f p o q with z | z
    · rw [(s.out p hp).1] at z; cases z
    · exact absurd z (s.some_of hp)
end
end DL

/-! DL1: readings over plain data: names, constants, operators, displays, calls, tests. -/
namespace DL
open PySem L2
open PySem.PyData (strOk)
set_option autoImplicit false

abbrev RD := Env → Mem → (D → Mem → Prop) → Prop
abbrev RO := Env → Mem → (OT → Mem → Prop) → Prop
abbrev RT := Env → Mem → (Bool → Mem → Prop) → Prop
abbrev RA := Env → Mem → (List D → Mem → Prop) → Prop

/-- one's own new things: what a reading of an owned result hands on -/
structure Own (B : Kn) (H : Hp) (B' : Kn) (T : List Addr) : Prop where
  nd : T.Nodup
  fr : ∀ p ∈ T, H p = none
  nb : ∀ p ∈ T, B'.b p = none
  nw : ∀ p ∈ T, B'.m p = none
theorem Own.nil {B B' : Kn} {H : Hp} : Own B H B' [] := ⟨.nil, fun _ h => (nomatch h), fun _ h => (nomatch h), fun _ h => (nomatch h)⟩

def SndD (K : PySem.W.Frag) (te : TE) (f : RD) : Prop :=
  ∀ (B : Kn) (H : Hp) (ρ : Env) (σ : St) (S : List Addr) (P : D → Mem → Prop) (Q : VK), Stt K B H ρ σ S → f ρ B.m P → (∀ d v B' H', Grow K B H B' H' → Rep K B' d v → P d B'.m → Q v H') → te σ H Q
def SndO (K : PySem.W.Frag) (te : TE) (f : RO) : Prop :=
  ∀ (B : Kn) (H : Hp) (ρ : Env) (σ : St) (S : List Addr) (P : OT → Mem → Prop) (Q : VK), Stt K B H ρ σ S → f ρ B.m P → (∀ t v B' H' T, Grow K B H B' H' → RepO K B' H' t v T → Own B H B' T → P t B'.m → Q v H') → te σ H Q
def SndV (K : PySem.W.Frag) (te : TE) (f : RD) : Prop :=
  ∀ (B : Kn) (H : Hp) (ρ : Env) (σ : St) (S : List Addr) (P : D → Mem → Prop) (Q : VK), Stt K B H ρ σ S → f ρ B.m P → (∀ d v B' H', Grow K B H B' H' → Rep K (Hm B'.m H') d v → P d B'.m → Q v H') → te σ H Q
def SndT (K : PySem.W.Frag) (tt : TT) (f : RT) : Prop :=
  ∀ (B : Kn) (H : Hp) (ρ : Env) (σ : St) (S : List Addr) (P : Bool → Mem → Prop) (Q : Bool → Hp → Prop), Stt K B H ρ σ S → f ρ B.m P → (∀ b B' H', Grow K B H B' H' → P b B'.m → Q b H') → tt σ H Q
def SndA (K : PySem.W.Frag) (ta : TA) (f : RA) : Prop :=
  ∀ (B : Kn) (H : Hp) (ρ : Env) (σ : St) (S : List Addr) (P : List D → Mem → Prop) (Q : List V → Hp → Prop), Stt K B H ρ σ S → f ρ B.m P → (∀ d v B' H', Grow K B H B' H' → Reps K B' d v → P d B'.m → Q v H') → ta σ H Q
def SndAV (K : PySem.W.Frag) (ta : TA) (f : RA) : Prop :=
  ∀ (B : Kn) (H : Hp) (ρ : Env) (σ : St) (S : List Addr) (P : List D → Mem → Prop) (Q : List V → Hp → Prop), Stt K B H ρ σ S → f ρ B.m P → (∀ d v B' H', Grow K B H B' H' → Reps K (Hm B'.m H') d v → P d B'.m → Q v H') → ta σ H Q

structure ED (X : Cx) (e : Expr) (f : RD) : Prop where
  ex : ∃ te, PE X e te ∧ SndD X.K te f
structure EO (X : Cx) (e : Expr) (f : RO) : Prop where
  ex : ∃ te, PE X e te ∧ SndO X.K te f
structure EV (X : Cx) (e : Expr) (f : RD) : Prop where
  ex : ∃ te, PE X e te ∧ SndV X.K te f
structure ET (X : Cx) (e : Expr) (f : RT) : Prop where
  ex : ∃ te, PT X e te ∧ SndT X.K te f
structure EW (X : Cx) (e : Expr) (f : RT) : Prop where
  ex : ∃ te, PW X e te ∧ SndT X.K te f
structure AD (X : Cx) (es : List Expr) (f : RA) : Prop where
  ex : ∃ te, PA X es te ∧ SndA X.K te f
structure AV (X : Cx) (es : List Expr) (f : RA) : Prop where
  ex : ∃ te, PA X es te ∧ SndAV X.K te f

section
variable {X : Cx} {e a b c : Expr} {es : List Expr} {pos : Pos}
/-- an owned result is given away -/
theorem EO.d {f : RO} (h : EO X e f) : ED X e (fun ρ M P => f ρ M fun t M => P t.toD M) := by
  obtain ⟨te, hp, hs⟩ := h.ex
  refine ⟨te, hp, fun B H ρ σ S P Q st hf k => hs B H ρ σ S _ Q st hf fun t v B' H' T g r o p => ?_⟩
  refine k t.toD v (B'.add H' T) H' (g.frz o.fr o.nw) ?_ p
  exact r.data g.base.ext_add _ _ _ (fun p hp => addB_in hp)
theorem ED.o {f : RD} (h : ED X e f) : EO X e (fun ρ M P => f ρ M fun d M => P (.fz d) M) := by
  obtain ⟨te, hp, hs⟩ := h.ex
  exact ⟨te, hp, fun B H ρ σ S P Q st hf k => hs B H ρ σ S _ Q st hf fun d v B' H' g r p => k (.fz d) v B' H' [] g (.fz r) .nil p⟩
theorem ED.v {f : RD} (h : ED X e f) : EV X e f := by
  obtain ⟨te, hp, hs⟩ := h.ex
  exact ⟨te, hp, fun B H ρ σ S P Q st hf k => hs B H ρ σ S _ Q st hf fun d v B' H' g r p => k d v B' H' g (r.up g.base.hm) p⟩
theorem AD.v {f : RA} (h : AD X es f) : AV X es f := by
  obtain ⟨te, hp, hs⟩ := h.ex
  exact ⟨te, hp, fun B H ρ σ S P Q st hf k => hs B H ρ σ S _ Q st hf fun d v B' H' g r p => k d v B' H' g (r.up g.base.hm) p⟩

/-! ### names, constants -/
theorem ed_var (i : Nat) {x : Str} (hN : X.N[i]? = some x := by rfl) (hv : Vis X.env.scope x := by first | exact Or.inl rfl | exact Or.inr (Or.inl rfl) | exact Or.inr (Or.inr rfl)) (hd : (x == ("__debug__" : Str)) = false := by decide)
    (hcd : (x == ("__classdict__" : Str)) = false := by decide) : ED X (.Name x pos) (fun ρ M P => ∃ d, ρ[i]? = some (some (.fz d)) ∧ P d M) := by
  refine ⟨tVar i, pe_var hN hv hd hcd, fun B H ρ σ S P Q st hf k => ?_⟩
  obtain ⟨d, e, p⟩ := hf
  obtain ⟨A, T, C, _, h2, _⟩ := st.sim.split e
  obtain ⟨v, hv, hr⟩ := h2 _ rfl
  cases hr with
  | fz hr => exact ⟨v, hv, k d v B H st.base.grow hr p⟩
theorem ev_var (i : Nat) {x : Str} (hN : X.N[i]? = some x := by rfl) (hv : Vis X.env.scope x := by first | exact Or.inl rfl | exact Or.inr (Or.inl rfl) | exact Or.inr (Or.inr rfl)) (hd : (x == ("__debug__" : Str)) = false := by decide)
    (hcd : (x == ("__classdict__" : Str)) = false := by decide) : EV X (.Name x pos) (fun ρ M P => ∃ t, ρ[i]? = some (some t) ∧ P t.toD M) := by
  refine ⟨tVar i, pe_var hN hv hd hcd, fun B H ρ σ S P Q st hf k => ?_⟩
  obtain ⟨t, e, p⟩ := hf
  obtain ⟨A, T, C, hS, h2, _⟩ := st.sim.split e
  obtain ⟨v, hv, hr⟩ := h2 _ rfl
  refine ⟨v, hv, k t.toD v B H st.base.grow ?_ p⟩
  exact hr.data st.base.hm _ _ _ fun p hp => Hm_of (st.out p (by rw [hS]; exact List.mem_append_right _ (List.mem_append_left _ hp))).2
theorem ed_tc {te : V} {d : D} (h : PE X e (tC te)) (r : ∀ B : Hp, Rep X.K B d te) : ED X e (fun _ M P => P d M) :=
  ⟨tC te, h, fun B H ρ σ S P Q st hf k => k d te B H st.base.grow (r B) hf⟩
theorem ed_int {i : Int} {j} : ED X (.Constant (.int i) j pos) (fun _ M P => P (.int i) M) := ed_tc pe_int fun _ => .int i
theorem ed_bl {i : Bool} {j} : ED X (.Constant (.bool i) j pos) (fun _ M P => P (.bl i) M) := ed_tc pe_bl fun _ => .bl i
theorem ed_non {j} : ED X (.Constant .none j pos) (fun _ M P => P .non M) := ed_tc pe_non fun _ => .non
theorem ed_str {x : Str} {j} (h : strOk x = true := by decide +kernel) : ED X (.Constant (.str x) j pos) (fun _ M P => P (.str x) M) := ed_tc pe_str fun _ => .str h
/-- a module's constant -/
theorem ed_glob {x : Str} {v : V} {u : Value} {d : D} (hg : Gl X x) (hm : X.mg x = some u) (r : RelV v u) (hr : ∀ B : Hp, Rep X.K B d v) (hd : (x == ("__debug__" : Str)) = false := by decide) : ED X (.Name x pos) (fun _ M P => P d M) := ed_tc (pe_glob hg hm r hd) hr

/-! ### two operands -/
/-- values in, data out; the operands as they stand -/
def SR2 (K : PySem.W.Frag) (r : R2) (h : D → D → Mem → (D → Mem → Prop) → Prop) : Prop :=
  ∀ (B : Kn) (H : Hp) (x y : D) (vx vy : V) (P : D → Mem → Prop) (Q : VK), Base K B H → Rep K (Hm B.m H) x vx → Rep K (Hm B.m H) y vy → h x y B.m P → (∀ d v B' H', Grow K B H B' H' → Rep K B' d v → P d B'.m → Q v H') → r vx vy H Q
/-- .. the operands known; an owned result -/
def SR2o (K : PySem.W.Frag) (r : R2) (h : D → D → Mem → (OT → Mem → Prop) → Prop) : Prop :=
  ∀ (B : Kn) (H : Hp) (x y : D) (vx vy : V) (P : OT → Mem → Prop) (Q : VK), Base K B H → Rep K B x vx → Rep K B y vy → h x y B.m P → (∀ t v B' H' T, Grow K B H B' H' → RepO K B' H' t v T → Own B H B' T → P t B'.m → Q v H') → r vx vy H Q
theorem Own.back {K : PySem.W.Frag} {B B1 B2 : Kn} {H H1 : Hp} {T : List Addr} (g : Grow K B H B1 H1) (o : Own B1 H1 B2 T) : Own B H B2 T := ⟨o.nd, fun p hp => g.free (o.fr p hp), o.nb, o.nw⟩
theorem snd_op {K : PySem.W.Frag} {r : R2} {h : D → D → Mem → (D → Mem → Prop) → Prop} {ta tb : TE} {fa fb : RD} (hr : SR2 K r h) (ha : SndV K ta fa) (hb : SndV K tb fb) :
    SndD K (tOp r ta tb) (fun ρ M P => fa ρ M fun x M => fb ρ M fun y M => h x y M P) := fun B H ρ σ S P Q st hf k =>
  ha B H ρ σ S _ _ st hf fun x vx B1 H1 g1 r1 hf1 => hb B1 H1 ρ σ S _ _ (st.grow g1) hf1 fun y vy B2 H2 g2 r2 hf2 =>
    hr B2 H2 x y vx vy P Q g2.base (r1.up g2.hm) r2 hf2 fun d v B3 H3 g3 r3 p => k d v B3 H3 ((g1.trans g2).trans g3) r3 p
theorem snd_opo {K : PySem.W.Frag} {r : R2} {h : D → D → Mem → (OT → Mem → Prop) → Prop} {ta tb : TE} {fa fb : RD} (hr : SR2o K r h) (ha : SndD K ta fa) (hb : SndD K tb fb) :
    SndO K (tOp r ta tb) (fun ρ M P => fa ρ M fun x M => fb ρ M fun y M => h x y M P) := fun B H ρ σ S P Q st hf k =>
  ha B H ρ σ S _ _ st hf fun x vx B1 H1 g1 r1 hf1 => hb B1 H1 ρ σ S _ _ (st.grow g1) hf1 fun y vy B2 H2 g2 r2 hf2 =>
    hr B2 H2 x y vx vy P Q g2.base (r1.up g2.b) r2 hf2 fun t v B3 H3 T g3 r3 o p => k t v B3 H3 T ((g1.trans g2).trans g3) r3 (o.back (g1.trans g2)) p
theorem ed_bin {op : Operator} {r : R2} {h : D → D → Mem → (D → Mem → Prop) → Prop} {fa fb : RD} (ho : OpR X (binaryOp op) r) (hs : SR2 X.K r h) (ha : EV X a fa) (hb : EV X b fb) : ED X (.BinOp a op b pos) (fun ρ M P => fa ρ M fun x M => fb ρ M fun y M => h x y M P) := by
  obtain ⟨ta, pa, sa⟩ := ha.ex
  obtain ⟨tb, pb, sb⟩ := hb.ex
  exact ⟨_, pe_op ho pa pb, snd_op hs sa sb⟩
theorem eo_bin {op : Operator} {r : R2} {h : D → D → Mem → (OT → Mem → Prop) → Prop} {fa fb : RD} (ho : OpR X (binaryOp op) r) (hs : SR2o X.K r h) (ha : ED X a fa) (hb : ED X b fb) : EO X (.BinOp a op b pos) (fun ρ M P => fa ρ M fun x M => fb ρ M fun y M => h x y M P) := by
  obtain ⟨ta, pa, sa⟩ := ha.ex
  obtain ⟨tb, pb, sb⟩ := hb.ex
  exact ⟨_, pe_op ho pa pb, snd_opo hs sa sb⟩
/-- a comparison: as a value, as a test -/
structure EC (X : Cx) (e : Expr) (f : RD) : Prop where
  d : ED X e f
  t : ET X e (fun ρ M P => f ρ M fun d M => ∃ b, d = .bl b ∧ P b M)
theorem snd_test {K : PySem.W.Frag} {te : TE} {f : RD} (h : SndD K te f) : SndT K (tTest te) (fun ρ M P => f ρ M fun d M => ∃ b, d = .bl b ∧ P b M) := fun B H ρ σ S P Q st hf k =>
  h B H ρ σ S _ _ st hf fun d v B' H' g r p => by
    obtain ⟨b, rfl, p⟩ := p
    cases r
    exact ⟨b, rfl, k b B' H' g p⟩
theorem ec_cmp {op : CmpOp} {r : R2} {h : D → D → Mem → (D → Mem → Prop) → Prop} {fa fb : RD} (ho : OpR X (compareOp op) r) (hs : SR2 X.K r h) (ha : EV X a fa) (hb : EV X b fb)
    (h1 : behindInMarks op b = false := by first | exact nobehind _ (by decide) (by decide) | rfl) : EC X (.Compare a [op] [b] pos) (fun ρ M P => fa ρ M fun x M => fb ρ M fun y M => h x y M P) := by
  obtain ⟨ta, pa, sa⟩ := ha.ex
  obtain ⟨tb, pb, sb⟩ := hb.ex
  exact ⟨⟨_, pe_cmpR ho pa pb h1, snd_op hs sa sb⟩, ⟨_, pt_cmpR ho pa pb h1, snd_test (snd_op hs sa sb)⟩⟩

/-! ### scalars' operators -/
theorem sr_I {C : Int → Int → Prop} {g : Int → Int → D} {gv : Int → Int → V} {K : PySem.W.Frag} (hg : ∀ i j (B : Hp), Rep K B (g i j) (gv i j)) : SR2 K (rI C gv) (fun x y M P => ∃ i j, x = .int i ∧ y = .int j ∧ C i j ∧ P (g i j) M) := by
  intro B H x y vx vy P Q bs rx ry h k
  obtain ⟨i, j, rfl, rfl, hc, p⟩ := h
  cases rx; cases ry
  exact ⟨i, j, rfl, rfl, hc, k _ _ B H bs.grow (hg i j B) p⟩
theorem sr_I0 {g : Int → Int → D} {gv : Int → Int → V} {K : PySem.W.Frag} (hg : ∀ i j (B : Hp), Rep K B (g i j) (gv i j)) : SR2 K (rI0 gv) (fun x y M P => ∃ i j, x = .int i ∧ y = .int j ∧ P (g i j) M) := by
  intro B H x y vx vy P Q bs rx ry h k
  obtain ⟨i, j, rfl, rfl, p⟩ := h
  cases rx; cases ry
  exact ⟨i, j, rfl, rfl, k _ _ B H bs.grow (hg i j B) p⟩
/-- what two ints give -/
abbrev hI0 (g : Int → Int → D) : D → D → Mem → (D → Mem → Prop) → Prop := fun x y M P => ∃ i j, x = .int i ∧ y = .int j ∧ P (g i j) M
abbrev hI (C : Int → Int → Prop) (g : Int → Int → D) : D → D → Mem → (D → Mem → Prop) → Prop := fun x y M P => ∃ i j, x = .int i ∧ y = .int j ∧ C i j ∧ P (g i j) M
variable {fa fb : RD}
theorem ed_sub (ha : EV X a fa) (hb : EV X b fb) : ED X (.BinOp a .Sub b pos) (fun ρ M P => fa ρ M fun x M => fb ρ M fun y M => hI0 (fun i j => .int (i - j)) x y M P) := ed_bin op_sub (sr_I0 fun i j B => .int _) ha hb
theorem ed_mulI (ha : EV X a fa) (hb : EV X b fb) : ED X (.BinOp a .Mult b pos) (fun ρ M P => fa ρ M fun x M => fb ρ M fun y M => hI CMul (fun i j => .int (i * j)) x y M P) := ed_bin op_mul (sr_I fun i j B => .int _) ha hb
theorem ed_addI (ha : EV X a fa) (hb : EV X b fb) : ED X (.BinOp a .Add b pos) (fun ρ M P => fa ρ M fun x M => fb ρ M fun y M => hI0 (fun i j => .int (i + j)) x y M P) := ed_bin op_add (sr_I0 fun i j B => .int _) ha hb
theorem ed_mod (ha : EV X a fa) (hb : EV X b fb) : ED X (.BinOp a .Mod b pos) (fun ρ M P => fa ρ M fun x M => fb ρ M fun y M => hI (fun _ j => 0 < j) (fun i j => .int (i % j)) x y M P) := ed_bin op_mod (sr_I fun i j B => .int _) ha hb
theorem ed_fdiv (ha : EV X a fa) (hb : EV X b fb) : ED X (.BinOp a .FloorDiv b pos) (fun ρ M P => fa ρ M fun x M => fb ρ M fun y M => hI CDiv (fun i j => .int (i / j)) x y M P) := ed_bin op_fdiv (sr_I fun i j B => .int _) ha hb
theorem ed_pow (ha : EV X a fa) (hb : EV X b fb) : ED X (.BinOp a .Pow b pos) (fun ρ M P => fa ρ M fun x M => fb ρ M fun y M => hI CPow (fun i j => .int (i ^ j.toNat)) x y M P) := ed_bin op_pow (sr_I fun i j B => .int _) ha hb
theorem ec_lt (ha : EV X a fa) (hb : EV X b fb) : EC X (.Compare a [.Lt] [b] pos) (fun ρ M P => fa ρ M fun x M => fb ρ M fun y M => hI0 (fun i j => .bl (decide (i < j))) x y M P) := ec_cmp op_lt (sr_I0 fun i j B => .bl _) ha hb
theorem ec_le (ha : EV X a fa) (hb : EV X b fb) : EC X (.Compare a [.LtE] [b] pos) (fun ρ M P => fa ρ M fun x M => fb ρ M fun y M => hI0 (fun i j => .bl (decide (i ≤ j))) x y M P) := ec_cmp op_le (sr_I0 fun i j B => .bl _) ha hb
theorem ec_gt (ha : EV X a fa) (hb : EV X b fb) : EC X (.Compare a [.Gt] [b] pos) (fun ρ M P => fa ρ M fun x M => fb ρ M fun y M => hI0 (fun i j => .bl (decide (i > j))) x y M P) := ec_cmp op_gt (sr_I0 fun i j B => .bl _) ha hb
theorem ec_ge (ha : EV X a fa) (hb : EV X b fb) : EC X (.Compare a [.GtE] [b] pos) (fun ρ M P => fa ρ M fun x M => fb ρ M fun y M => hI0 (fun i j => .bl (decide (i ≥ j))) x y M P) := ec_cmp op_ge (sr_I0 fun i j B => .bl _) ha hb
end
end DL

/-! DL2: equality, in, texts, places, slices, truth, displays, calls. -/
namespace DL
open PySem L2
open PySem.PyData (strOk)
set_option autoImplicit false

/-! ### data as the library has it -/
mutual
def D.toP : D → PyData
  | .non => .none
  | .bl b => .bool b
  | .int i => .int i
  | .str x => .str x
  | .tup l => .tuple (D.toPs l)
  | .lst l => .list (D.toPs l)
  | .dk _ _ => .dict []
  | .dn _ _ _ => .dict []
  | .ob _ _ _ => .dict []
  | .scr _ => .dict []
  | .mob _ => .dict []
  | .txt x => .str x
def D.toPs : List D → List PyData
  | [] => []
  | d :: ds => D.toP d :: D.toPs ds
end
mutual
def D.plain : D → Bool
  | .non => true
  | .bl _ => true
  | .int _ => true
  | .str _ => true
  | .tup l => D.plains l
  | .lst l => D.plains l
  | .dk _ _ => false
  | .dn _ _ _ => false
  | .ob _ _ _ => false
  | .scr _ => false
  | .mob _ => false
  | .txt _ => false
def D.plains : List D → Bool
  | [] => true
  | d :: ds => D.plain d && D.plains ds
end
mutual
def D.dep : D → Nat
  | .tup l => D.deps l + 1
  | .lst l => D.deps l + 1
  | .dk _ _ => 1
  | .dn _ _ _ => 1
  | .ob _ _ _ => 1
  | .scr _ => 1
  | .mob _ => 1
  | _ => 0
def D.deps : List D → Nat
  | [] => 0
  | d :: ds => max (D.dep d) (D.deps ds)
end
theorem D.toPs_map : ∀ l : List D, D.toPs l = l.map D.toP
  | [] => rfl
  | d :: ds => by rw [D.toPs, D.toPs_map ds]; rfl
theorem D.plains_all : ∀ l : List D, D.plains l = l.all D.plain
  | [] => rfl
  | d :: ds => by rw [D.plains, D.plains_all ds]; rfl
mutual
theorem D.dep_toP : ∀ d : D, (D.toP d).depth ≤ D.dep d
  | .non | .bl _ | .int _ | .str _ | .scr _ | .mob _ | .txt _ => by simp [D.toP, PyData.depth, PyData.depthKv, D.dep]
  | .dk _ _ | .dn _ _ _ | .ob _ _ _ => by simp [D.toP, PyData.depth, PyData.depthKv, D.dep]
  | .tup l => by have := D.deps_toP l; simp only [D.toP, PyData.depth, D.dep]; omega
  | .lst l => by have := D.deps_toP l; simp only [D.toP, PyData.depth, D.dep]; omega
theorem D.deps_toP : ∀ l : List D, PyData.depthAll (D.toPs l) ≤ D.deps l
  | [] => by simp [D.toPs, PyData.depthAll, D.deps]
  | d :: ds => by have := D.dep_toP d; have := D.deps_toP ds; simp only [D.toPs, PyData.depthAll, D.deps]; omega
end
section
variable {K : PySem.W.Frag} {B H : Hp}
mutual
theorem Rep.dp : ∀ (d : D) (v : V), d.plain = true → Rep K H d v → Dp K H v d.toP
  | .non, _, _, h => by cases h; simp only [D.toP]; exact .non
  | .bl b, _, _, h => by cases h; simp only [D.toP]; exact .bl b
  | .int i, _, _, h => by cases h; simp only [D.toP]; exact .int i
  | .str x, _, _, h => by cases h; simp only [D.toP]; exact .str x
  | .tup l, _, p, h => by
    cases h with
    | tup hs hl hr => simp only [D.toP]; exact .tup hs (Reps.dp l _ (by simpa only [D.plain] using p) hr)
  | .lst l, _, p, h => by
    cases h with
    | lst hs hl hr => simp only [D.toP]; exact .lst (Evl.sq_of hs) (Reps.dp l _ (by simpa only [D.plain] using p) hr)
  | .dk _ _, _, p, _ => by simp [D.plain] at p
  | .dn _ _ _, _, p, _ => by simp [D.plain] at p
  | .ob _ _ _, _, p, _ => by simp [D.plain] at p
  | .scr _, _, p, _ => by simp [D.plain] at p
  | .mob _, _, p, _ => by simp [D.plain] at p
  | .txt _, _, p, _ => by simp [D.plain] at p
theorem Reps.dp : ∀ (ds : List D) (vs : List V), D.plains ds = true → Reps K H ds vs → DpAll K H vs (D.toPs ds)
  | [], _, _, h => by cases h; simp only [D.toPs]; exact .nil
  | d :: ds, _, p, h => by
    cases h with
    | cons h1 h2 =>
      simp only [D.plains, Bool.and_eq_true] at p
      simp only [D.toPs]
      exact .cons (Rep.dp d _ p.1 h1) (Reps.dp ds _ p.2 h2)
end
mutual
theorem Rep.lay : ∀ (d : D) (v : V), d.plain = true → Rep K H d v → d.toP.canLay0 = true
  | .non, _, _, h => by simp [D.toP, PyData.canLay0]
  | .bl b, _, _, h => by simp [D.toP, PyData.canLay0]
  | .int i, _, _, h => by simp [D.toP, PyData.canLay0]
  | .str x, _, _, h => by
    cases h with
    | str h => simpa [D.toP, PyData.canLay0] using h
  | .tup l, _, p, h => by
    cases h with
    | tup hs hl hr => simp only [D.toP, PyData.canLay0]; exact Reps.lay l _ (by simpa only [D.plain] using p) hr
  | .lst l, _, p, h => by
    cases h with
    | lst hs hl hr => simp only [D.toP, PyData.canLay0]; exact Reps.lay l _ (by simpa only [D.plain] using p) hr
  | .dk _ _, _, p, _ => by simp [D.plain] at p
  | .dn _ _ _, _, p, _ => by simp [D.plain] at p
  | .ob _ _ _, _, p, _ => by simp [D.plain] at p
  | .scr _, _, p, _ => by simp [D.plain] at p
  | .mob _, _, p, _ => by simp [D.plain] at p
  | .txt _, _, p, _ => by simp [D.plain] at p
theorem Reps.lay : ∀ (ds : List D) (vs : List V), D.plains ds = true → Reps K H ds vs → PyData.canLayAll0 (D.toPs ds) = true
  | [], _, _, h => by simp [D.toPs, PyData.canLayAll0]
  | d :: ds, _, p, h => by
    cases h with
    | cons h1 h2 =>
      simp only [D.plains, Bool.and_eq_true] at p
      simp only [D.toPs, PyData.canLayAll0, Bool.and_eq_true]
      exact ⟨Rep.lay d _ p.1 h1, Reps.lay ds _ p.2 h2⟩
end
end
/-- Python's == of data -/
def D.eqv (x y : D) : Bool := PyData.eqv x.toP y.toP

section
variable {X : Cx} {e a b c : Expr} {es : List Expr} {pos : Pos} {fa fb : RD}
theorem OpR.or {f : Value → Value → Sem Value} {r r' : R2} (h : OpR X f r) (h' : OpR X f r') : OpR X f (fun x y H Q => r x y H Q ∨ r' x y H Q) := by
  intro pins s σ H x y v u Q I rx ry q
  rcases q with q | q
  · exact h pins s σ H x y v u Q I rx ry q
  · exact h' pins s σ H x y v u Q I rx ry q
/-- == and != of plain data, one of them not deep; of two texts -/
def D.eqOk (x y : D) : Bool := match x, y with
  | .txt _, .txt _ => true
  | x, y => D.plain x && D.plain y && decide (min (D.dep x) (D.dep y) ≤ 100)
theorem D.eqOk_of {x y : D} (h : D.eqOk x y = true) : (∃ a b, x = .txt a ∧ y = .txt b) ∨ (x.plain = true ∧ y.plain = true ∧ min x.dep y.dep ≤ 100) := by
  unfold D.eqOk at h
  split at h
  · exact .inl ⟨_, _, rfl, rfl⟩
  · simp only [Bool.and_eq_true, decide_eq_true_eq] at h
    exact .inr ⟨h.1.1, h.1.2, h.2⟩
def ng (neg b : Bool) : Bool := if neg then !b else b
def rEqM (K : PySem.W.Frag) (neg : Bool) : R2 := fun x y H Q => (∃ d e, Dp K H x d ∧ Dp K H y e ∧ d.canLay0 = true ∧ e.canLay0 = true ∧ min d.depth e.depth ≤ 100 ∧ Q (.bl (ng neg (PyData.eqv d e))) H) ∨
  ∃ i j, x = .str i ∧ y = .str j ∧ Q (.bl (ng neg (decide (i = j)))) H
theorem op_eqM (hu : X.A.units + 200 < cLine) : OpR X (compareOp .Eq) (rEqM X.K false) := by
  intro pins s σ H x y v u Q I rx ry h
  rcases h with ⟨d, e, hd, he, sd, se, hm, q⟩ | ⟨i, j, rfl, rfl, q⟩
  · obtain ⟨as, r1⟩ := Dp.reads I d x v hd rx
    obtain ⟨bs, r2⟩ := Dp.reads I e y u he ry
    exact SeqAt.compareEq_reads r1 r2 sd se (by omega) ⟨.bl _, H, I, rfl, q⟩
  · exact op_eq pins s σ H _ _ v u Q I rx ry ⟨rfl, by simpa [ng] using q⟩
theorem op_neM (hu : X.A.units + 200 < cLine) : OpR X (compareOp .NotEq) (rEqM X.K true) := by
  intro pins s σ H x y v u Q I rx ry h
  rcases h with ⟨d, e, hd, he, sd, se, hm, q⟩ | ⟨i, j, rfl, rfl, q⟩
  · obtain ⟨as, r1⟩ := Dp.reads I d x v hd rx
    obtain ⟨bs, r2⟩ := Dp.reads I e y u he ry
    exact SeqAt.compareNe_reads r1 r2 sd se (by omega) ⟨.bl _, H, I, rfl, q⟩
  · exact op_ne pins s σ H _ _ v u Q I rx ry ⟨rfl, by simpa [ng] using q⟩
def hEq (neg : Bool) (x y : D) (M : Mem) (P : D → Mem → Prop) : Prop := D.eqOk x y = true ∧ P (.bl (ng neg (D.eqv x y))) M
theorem sr_eqM {K : PySem.W.Frag} {neg : Bool} : SR2 K (rEqM K neg) (hEq neg) := by
  intro B H x y vx vy P Q bs rx ry h k
  obtain ⟨hok, p⟩ := h
  have rx := rx.up Hm_ext
  have ry := ry.up Hm_ext
  rcases D.eqOk_of hok with ⟨a, b, rfl, rfl⟩ | ⟨px, py, hm⟩
  · cases rx; cases ry
    refine .inr ⟨_, _, rfl, rfl, k _ _ B H bs.grow (.bl _) ?_⟩
    have e : D.eqv (.txt a) (.txt b) = decide (a = b) := by
      unfold D.eqv
      simp only [D.toP]
      first | rfl | simp [PyData.eqv]
    rw [← e]; exact p
  · refine .inl ⟨_, _, rx.dp _ _ px, ry.dp _ _ py, rx.lay _ _ px, ry.lay _ _ py, ?_, k _ _ B H bs.grow (.bl _) p⟩
    have := D.dep_toP x
    have := D.dep_toP y
    omega
theorem ec_eq (hu : X.A.units + 200 < cLine) (ha : EV X a fa) (hb : EV X b fb) : EC X (.Compare a [.Eq] [b] pos) (fun ρ M P => fa ρ M fun x M => fb ρ M fun y M => hEq false x y M P) := ec_cmp (op_eqM hu) sr_eqM ha hb
theorem ec_ne (hu : X.A.units + 200 < cLine) (ha : EV X a fa) (hb : EV X b fb) : EC X (.Compare a [.NotEq] [b] pos) (fun ρ M P => fa ρ M fun x M => fb ρ M fun y M => hEq true x y M P) := ec_cmp (op_neM hu) sr_eqM ha hb

/-- in, not in -/
def rInM (K : PySem.W.Frag) (neg : Bool) : R2 := fun x y H Q => (∃ d ds, Dp K H x d ∧ (Dp K H y (.list ds) ∨ Dp K H y (.tuple ds)) ∧ d.canLay0 = true ∧ PyData.canLayAll0 ds = true ∧ min (PyData.depthAll ds) d.depth ≤ 100 ∧
  Q (.bl (if neg then !(ds.any fun z => PyData.eqv z d) else ds.any fun z => PyData.eqv z d)) H) ∨
  ∃ i j, x = .str i ∧ y = .str j ∧ Q (.bl (if neg then !(!(Builtin.Str.occurrences j i 0 j.length 1).isEmpty) else !(Builtin.Str.occurrences j i 0 j.length 1).isEmpty)) H
theorem op_inM (hu : X.A.units + 200 < cLine) : OpR X (compareOp .In) (rInM X.K false) := by
  intro pins s σ H x y v u Q I rx ry h
  rcases h with ⟨d, ds, hd, he, sd, se, hm, q⟩ | h
  · obtain ⟨as, r1⟩ := Dp.reads I d x v hd rx
    rcases he with he | he
    · obtain ⟨bs, r2⟩ := Dp.reads I _ y u he ry
      exact SeqAt.in_list_reads r2 r1 se sd (by omega) ⟨.bl _, H, I, rfl, q⟩
    · obtain ⟨bs, r2⟩ := Dp.reads I _ y u he ry
      exact SeqAt.in_tuple_reads r2 r1 se sd (by omega) ⟨.bl _, H, I, rfl, q⟩
  · exact op_in_str pins s σ H x y v u Q I rx ry h
theorem op_notInM (hu : X.A.units + 200 < cLine) : OpR X (compareOp .NotIn) (rInM X.K true) := by
  intro pins s σ H x y v u Q I rx ry h
  rcases h with ⟨d, ds, hd, he, sd, se, hm, q⟩ | h
  · obtain ⟨as, r1⟩ := Dp.reads I d x v hd rx
    rcases he with he | he
    · obtain ⟨bs, r2⟩ := Dp.reads I _ y u he ry
      exact SeqAt.notIn_list_reads r2 r1 se sd (by omega) ⟨.bl _, H, I, rfl, q⟩
    · obtain ⟨bs, r2⟩ := Dp.reads I _ y u he ry
      exact SeqAt.notIn_tuple_reads r2 r1 se sd (by omega) ⟨.bl _, H, I, rfl, q⟩
  · exact L2.op_notin_str pins s σ H x y v u Q I rx ry h
def subStr (i j : Str) : Bool := !(Builtin.Str.occurrences j i 0 j.length 1).isEmpty
def D.isIn (x : D) (ds : List D) : Bool := ds.any fun z => D.eqv z x
def hIn (neg : Bool) (x y : D) (M : Mem) (P : D → Mem → Prop) : Prop := match y with
  | .lst ds => x.plain = true ∧ D.plains ds = true ∧ min (D.deps ds) x.dep ≤ 100 ∧ P (.bl (if neg then !x.isIn ds else x.isIn ds)) M
  | .tup ds => x.plain = true ∧ D.plains ds = true ∧ min (D.deps ds) x.dep ≤ 100 ∧ P (.bl (if neg then !x.isIn ds else x.isIn ds)) M
  | .str j => ∃ i, x = .str i ∧ P (.bl (if neg then !subStr i j else subStr i j)) M
  | _ => False
theorem isIn_toP (x : D) : ∀ ds : List D, ((D.toPs ds).any fun z => PyData.eqv z x.toP) = x.isIn ds := fun ds => by
  rw [D.toPs_map, List.any_map]; rfl
theorem sr_inM {K : PySem.W.Frag} {neg : Bool} : SR2 K (rInM K neg) (hIn neg) := by
  intro B H x y vx vy P Q bs rx ry h k
  have rx := rx.up Hm_ext
  have ry := ry.up Hm_ext
  cases y with
  | lst ds =>
    obtain ⟨px, py, hm, p⟩ := h
    have d1 := ry.dp _ _ (by simpa only [D.plain] using py)
    have l1 := ry.lay _ _ (by simpa only [D.plain] using py)
    simp only [D.toP, PyData.canLay0] at d1 l1
    refine .inl ⟨_, _, rx.dp _ _ px, .inl d1, rx.lay _ _ px, l1, ?_, ?_⟩
    · have := D.dep_toP x
      have := D.deps_toP ds
      omega
    · rw [isIn_toP]
      exact k _ _ B H bs.grow (.bl _) p
  | tup ds =>
    obtain ⟨px, py, hm, p⟩ := h
    have d1 := ry.dp _ _ (by simpa only [D.plain] using py)
    have l1 := ry.lay _ _ (by simpa only [D.plain] using py)
    simp only [D.toP, PyData.canLay0] at d1 l1
    refine .inl ⟨_, _, rx.dp _ _ px, .inr d1, rx.lay _ _ px, l1, ?_, ?_⟩
    · have := D.dep_toP x
      have := D.deps_toP ds
      omega
    · rw [isIn_toP]
      exact k _ _ B H bs.grow (.bl _) p
  | str j =>
    obtain ⟨i, rfl, p⟩ := h
    cases rx
    cases ry
    exact .inr ⟨i, j, rfl, rfl, k _ _ B H bs.grow (.bl _) p⟩
  | _ => exact False.elim h
theorem ec_in (hu : X.A.units + 200 < cLine) (ha : EV X a fa) (hb : EV X b fb) (h1 : behindInMarks .In b = false := by rfl) : EC X (.Compare a [.In] [b] pos) (fun ρ M P => fa ρ M fun x M => fb ρ M fun y M => hIn false x y M P) := ec_cmp (op_inM hu) sr_inM ha hb h1
theorem ec_notIn (hu : X.A.units + 200 < cLine) (ha : EV X a fa) (hb : EV X b fb) (h1 : behindInMarks .NotIn b = false := by rfl) : EC X (.Compare a [.NotIn] [b] pos) (fun ρ M P => fa ρ M fun x M => fb ρ M fun y M => hIn true x y M P) := ec_cmp (op_notInM hu) sr_inM ha hb h1

/-! ### + and * of any kind -/
def hAdd (x y : D) (M : Mem) (P : OT → Mem → Prop) : Prop := match x, y with
  | .int i, .int j => P (.fz (.int (i + j))) M
  | .str i, .str j => i.length + j.length ≤ sizeLine ∧ P (.fz (.str (i ++ j))) M
  | .tup i, .tup j => i.length + j.length ≤ sizeLine ∧ P (.fz (.tup (i ++ j))) M
  | .lst i, .lst j => i.length + j.length ≤ sizeLine ∧ P (.ow ((i ++ j).map .fz)) M
  | _, _ => False
/-- a new list of known items is one's own -/
theorem new_list {K : PySem.W.Frag} {B : Kn} {H : Hp} {ds : List D} {vs : List V} {P : OT → Mem → Prop} {Q : VK} (bs : Base K B H) (r : Reps K B ds vs) (hl : ds.length ≤ sizeLine) (p : P (.ow (ds.map .fz)) B.m)
    (k : ∀ t v B' H' T, Grow K B H B' H' → RepO K B' H' t v T → Own B H B' T → P t B'.m → Q v H') : ∀ l, H l = none → Q (.ref l) (upd H l (.lst vs)) := fun l hl0 => by
  obtain ⟨g, hb, nd⟩ := bs.newO (o := .lst vs) hl0
  refine k (.ow (ds.map .fz)) (.ref l) B _ [l] g (.ow upd_same (by rw [List.length_map]; exact hl) (RepOs.fzs r)) ⟨by simp, fun p hp => ?_, fun p hp => ?_, fun p hp => ?_⟩ p
  all_goals (rw [List.mem_singleton] at hp; subst hp; assumption)
theorem new_tuple {K : PySem.W.Frag} {B : Kn} {H : Hp} {ds : List D} {vs : List V} {P : D → Mem → Prop} {Q : VK} (bs : Base K B H) (r : Reps K B ds vs) (hl : ds.length ≤ sizeLine) (p : P (.tup ds) B.m)
    (k : ∀ t v B' H', Grow K B H B' H' → Rep K B' t v → P t B'.m → Q v H') : ∀ l, H l = none → Q (.ref l) (upd H l (.tup vs)) := fun l hl0 => by
  have g := bs.new (o := .tup vs) hl0
  exact k (.tup ds) (.ref l) _ _ g (.tup (Evl.st_of upd_same) hl (r.up g.b)) p
theorem kD {K : PySem.W.Frag} {B : Kn} {H : Hp} {P : OT → Mem → Prop} {Q : VK} (k : ∀ t v B' H' T, Grow K B H B' H' → RepO K B' H' t v T → Own B H B' T → P t B'.m → Q v H') : ∀ d v B' H', Grow K B H B' H' → Rep K B' d v → P (.fz d) B'.m → Q v H' := fun d v B' H' g r p => k (.fz d) v B' H' [] g (.fz r) .nil p
def rAddAll (K : PySem.W.Frag) : R2 := fun x y H Q => rI0 (fun i j => .int (i + j)) x y H Q ∨ (∃ i j, x = .str i ∧ y = .str j ∧ i.length + j.length ≤ sizeLine ∧ Q (.str (i ++ j)) H) ∨ rCatA K x y H Q ∨ rCat x y H Q
theorem op_addAll : OpR X (binaryOp .Add) (rAddAll X.K) := OpR.or op_add (OpR.or op_add_str (OpR.or op_catA op_cat))
theorem sr_addAll {K : PySem.W.Frag} : SR2o K (rAddAll K) hAdd := by
  intro B H x y vx vy P Q bs rx ry h k
  cases rx with
  | int i =>
    cases ry with
    | int j => exact .inl ⟨i, j, rfl, rfl, kD k _ _ B H bs.grow (.int _) h⟩
    | _ => exact False.elim h
  | str hx =>
    cases ry with
    | str hy =>
      obtain ⟨hl, p⟩ := h
      exact .inr (.inl ⟨_, _, rfl, rfl, hl, kD k _ _ B H bs.grow (.str (strOk_app hx hy)) p⟩)
    | _ => exact False.elim h
  | tup hx hlx hrx =>
    cases ry with
    | tup hy hly hry =>
      obtain ⟨hl, p⟩ := h
      refine .inr (.inr (.inl ⟨_, _, _, _, rfl, rfl, Evl.ex_t bs.bh hx, Evl.ex_t bs.bh hy, by rw [← hrx.length, ← hry.length]; exact hl, fun e => ?_, fun _ e => ?_, fun _ _ => ?_⟩))
      · subst e
        cases hrx
        exact kD k _ _ B H bs.grow (.tup hy hly hry) p
      · subst e
        cases hry
        rw [List.append_nil] at p
        exact kD k _ _ B H bs.grow (.tup hx hlx hrx) p
      · exact new_tuple bs (hrx.append hry) (by rw [List.length_append]; exact hl) p (kD k)
    | _ => exact False.elim h
  | lst hx hlx hrx =>
    cases ry with
    | lst hy hly hry =>
      obtain ⟨hl, p⟩ := h
      refine .inr (.inr (.inr ⟨_, _, _, _, rfl, rfl, bs.bh _ _ hx, bs.bh _ _ hy, by rw [← hrx.length, ← hry.length]; exact hl, ?_⟩))
      exact new_list bs (hrx.append hry) (by rw [List.length_append]; exact hl) p k
    | _ => exact False.elim h
  | _ => exact False.elim h
theorem eo_add (ha : ED X a fa) (hb : ED X b fb) : EO X (.BinOp a .Add b pos) (fun ρ M P => fa ρ M fun x M => fb ρ M fun y M => hAdd x y M P) := eo_bin op_addAll sr_addAll ha hb
/-- * -/
def repD {α : Type} (l : List α) (k : Int) : List α := (List.replicate k.toNat l).flatten
def hMul (x y : D) (M : Mem) (P : OT → Mem → Prop) : Prop := match x, y with
  | .int i, .int j => CMul i j ∧ P (.fz (.int (i * j))) M
  | .lst l, .int k => -(2 ^ 63) ≤ k ∧ k < 2 ^ 63 ∧ l.length * k.toNat ≤ sizeLine ∧ P (.ow ((repD l k).map .fz)) M
  | _, _ => False
theorem Reps.rep {K : PySem.W.Frag} {B : Hp} {ds : List D} {vs : List V} (h : Reps K B ds vs) : ∀ k : Nat, Reps K B (List.replicate k ds).flatten (List.replicate k vs).flatten
  | 0 => .nil
  | k + 1 => by rw [List.replicate_succ, List.flatten_cons, List.replicate_succ, List.flatten_cons]; exact h.append (Reps.rep h k)
theorem rep_len {α : Type} (l : List α) : ∀ k : Nat, (List.replicate k l).flatten.length = l.length * k
  | 0 => by simp
  | k + 1 => by rw [List.replicate_succ, List.flatten_cons, List.length_append, rep_len l k, Nat.mul_succ, Nat.add_comm]
def rMulAll : R2 := fun x y H Q => rI CMul (fun i j => .int (i * j)) x y H Q ∨ rRep x y H Q
theorem op_mulAll : OpR X (binaryOp .Mult) rMulAll := OpR.or op_mul op_rep
theorem sr_mulAll {K : PySem.W.Frag} : SR2o K rMulAll hMul := by
  intro B H x y vx vy P Q bs rx ry h k
  cases rx with
  | int i =>
    cases ry with
    | int j => exact .inl ⟨i, j, rfl, rfl, h.1, kD k _ _ B H bs.grow (.int _) h.2⟩
    | _ => exact False.elim h
  | lst hx hlx hrx =>
    cases ry with
    | int j =>
      obtain ⟨h1, h2, hl, p⟩ := h
      refine .inr ⟨_, _, _, rfl, rfl, bs.bh _ _ hx, h1, h2, by rw [← hrx.length]; exact hl, ?_⟩
      exact new_list bs (hrx.rep _) (by rw [rep_len]; exact hl) p k
    | _ => exact False.elim h
  | _ => exact False.elim h
theorem eo_mul (ha : ED X a fa) (hb : ED X b fb) : EO X (.BinOp a .Mult b pos) (fun ρ M P => fa ρ M fun x M => fb ρ M fun y M => hMul x y M P) := eo_bin op_mulAll sr_mulAll ha hb

/-! ### places and slices -/
def hIx (x y : D) (M : Mem) (P : D → Mem → Prop) : Prop := match x, y with
  | .tup l, .int i => ∃ d, atI l i = some d ∧ P d M
  | .lst l, .int i => ∃ d, atI l i = some d ∧ P d M
  | .scr l, .int i => ∃ n, atI l i = some n ∧ P (.int n) M
  | .mob p, .int i => ∃ l d, M p = some (.lst l) ∧ atI l i = some d ∧ P d M
  | .str z, .int i => z.length ≤ sizeLine ∧ ∃ c, atI z.cps.toList i = some c ∧ P (.str ⟨#[c]⟩) M
  | _, _ => False
def SR2d (K : PySem.W.Frag) (r : R2) (h : D → D → Mem → (D → Mem → Prop) → Prop) : Prop :=
  ∀ (B : Kn) (H : Hp) (x y : D) (vx vy : V) (P : D → Mem → Prop) (Q : VK), Base K B H → Rep K B x vx → Rep K B y vy → h x y B.m P → (∀ d v B' H', Grow K B H B' H' → Rep K B' d v → P d B'.m → Q v H') → r vx vy H Q
theorem snd_opd {K : PySem.W.Frag} {r : R2} {h : D → D → Mem → (D → Mem → Prop) → Prop} {ta tb : TE} {fa fb : RD} (hr : SR2d K r h) (ha : SndD K ta fa) (hb : SndD K tb fb) :
    SndD K (tOp r ta tb) (fun ρ M P => fa ρ M fun x M => fb ρ M fun y M => h x y M P) := fun B H ρ σ S P Q st hf k =>
  ha B H ρ σ S _ _ st hf fun x vx B1 H1 g1 r1 hf1 => hb B1 H1 ρ σ S _ _ (st.grow g1) hf1 fun y vy B2 H2 g2 r2 hf2 =>
    hr B2 H2 x y vx vy P Q g2.base (r1.up g2.b) r2 hf2 fun d v B3 H3 g3 r3 p => k d v B3 H3 ((g1.trans g2).trans g3) r3 p
theorem Reps.atI {K : PySem.W.Frag} {B : Hp} {ds : List D} {vs : List V} {i : Int} {d : D} (h : Reps K B ds vs) (e : L2.atI ds i = some d) : ∃ v, L2.atI vs i = some v ∧ Rep K B d v := by
  unfold L2.atI at e ⊢
  rw [← h.length]
  cases q : ixN ds.length i with
  | none => rw [q] at e; cases e
  | some j =>
    rw [q] at e
    exact h.getD e
theorem sr_ix {K : PySem.W.Frag} : SR2d K (rIx K) hIx := by
  intro B H x y vx vy P Q bs rx ry h k
  cases rx with
  | tup hx hlx hrx =>
    cases ry with
    | int i =>
      obtain ⟨d, e, p⟩ := h
      obtain ⟨v, e2, rd⟩ := hrx.atI e
      exact .inr (.inl ⟨_, _, i, v, rfl, rfl, Evl.ex_t bs.bh hx, e2, k d v B H bs.grow rd p⟩)
    | _ => exact False.elim h
  | lst hx hlx hrx =>
    cases ry with
    | int i =>
      obtain ⟨d, e, p⟩ := h
      obtain ⟨v, e2, rd⟩ := hrx.atI e
      exact .inl ⟨_, _, i, v, rfl, rfl, Evl.sq_of (bs.bh _ _ hx), e2, k d v B H bs.grow rd p⟩
    | _ => exact False.elim h
  | mob a =>
    cases ry with
    | int i =>
      obtain ⟨l, d, em, e, p⟩ := h
      obtain ⟨_, xs, hx, hl, hrx⟩ := bs.wd a _ em
      obtain ⟨v, e2, rd⟩ := hrx.atI e
      exact .inl ⟨_, _, i, v, rfl, rfl, Evl.sq_of hx, e2, k d v B H bs.grow rd p⟩
    | _ => exact False.elim h
  | scr hx =>
    cases ry with
    | int i =>
      obtain ⟨n, e, p⟩ := h
      refine .inl ⟨_, _, i, .int n, rfl, rfl, Evl.ex_l bs.bh hx, ?_, k _ _ B H bs.grow (.int n) p⟩
      unfold L2.atI at e ⊢
      rw [List.length_map]
      cases q : ixN _ i with
      | none => rw [q] at e; cases e
      | some j =>
        rw [q] at e
        have e' := Option.bind_eq_some_iff.mp e
        show (List.map V.int _)[j]? = _
        rw [List.getElem?_map]
        obtain ⟨a, ha, hb⟩ := e'
        cases ha
        rw [hb]; rfl
    | _ => exact False.elim h
  | str hx =>
    cases ry with
    | int i =>
      obtain ⟨hl, c, e, p⟩ := h
      refine .inr (.inr ⟨_, i, c, rfl, rfl, hl, e, k _ _ B H bs.grow (.str ?_) p⟩)
      obtain ⟨j, _, hj, _⟩ := atI_get e
      unfold strOk at hx ⊢
      have := Array.all_eq_true'.mp hx c (by
        have := List.mem_of_getElem? hj
        simpa using this)
      simpa using this
    | _ => exact False.elim h
  | _ => exact False.elim h
theorem ed_ix (ha : ED X a fa) (hb : ED X b fb) (hp : PlainIx b := by exact fun _ _ => rfl) : ED X (.Subscript a b pos) (fun ρ M P => fa ρ M fun x M => fb ρ M fun y M => hIx x y M P) := by
  obtain ⟨ta, pa, sa⟩ := ha.ex
  obtain ⟨tb, pb, sb⟩ := hb.ex
  exact ⟨_, pe_ix ix_seq pa pb hp, snd_opd sr_ix sa sb⟩
/-- a dict's item by a written text's key, an int's -/
def keyOf : D → Option Key
  | .int i => some (.inl i)
  | .str x => some (.inr x)
  | _ => none
theorem keyOf_rep {K : PySem.W.Frag} {B : Hp} {d : D} {v : V} {k : Key} (h : keyOf d = some k) (r : Rep K B d v) : v = kV k := by
  cases r with
  | int i => cases h; rfl
  | str hx => cases h; rfl
  | _ => cases h
def getK {α : Type} : List Key → List α → Key → Option α
  | k :: ks, d :: ds, x => if k = x then some d else getK ks ds x
  | _, _, _ => none
theorem valV_getK {K : PySem.W.Frag} {B : Hp} {x : Key} : ∀ {ks : List Key} {ds : List D} {vs : List V} {d : D}, Reps K B ds vs → getK ks ds x = some d → ∃ v, valV (ks.zip vs) x = some v ∧ Rep K B d v
  | [], _, _, _, _, e => by simp [getK] at e
  | k :: ks, _, _, _, .nil, e => by simp [getK] at e
  | k :: ks, _, _, d, .cons (v := v) h t, e => by
    unfold getK at e
    by_cases q : k = x
    · rw [if_pos q] at e
      cases e
      subst q
      exact ⟨v, by simp [valV], h⟩
    · rw [if_neg q] at e
      obtain ⟨v', h1, h2⟩ := valV_getK (ks := ks) t e
      refine ⟨v', ?_, h2⟩
      simp only [List.zip_cons_cons, valV]
      rw [← h1]
      simp [valV, q]
def hDix (x y : D) (M : Mem) (P : D → Mem → Prop) : Prop := ∃ ks ds k d, x = .dk ks ds ∧ keyOf y = some k ∧ getK ks ds k = some d ∧ P d M
theorem ed_dix (hu : X.A.units + 200 < cLine) (ha : ED X a fa) (hb : ED X b fb) (hp : NoSl b := by exact fun _ _ => rfl) : ED X (.Subscript a b pos) (fun ρ M P => fa ρ M fun x M => fb ρ M fun y M => hDix x y M P) := by
  obtain ⟨ta, pa, sa⟩ := ha.ex
  obtain ⟨tb, pb, sb⟩ := hb.ex
  refine ⟨_, pe_dget (by omega) pa pb hp, fun B H ρ σ S P Q st hf k => ?_⟩
  refine sa B H ρ σ S _ _ st hf fun x vx B1 H1 g1 r1 hf1 => sb B1 H1 ρ σ S _ _ (st.grow g1) hf1 fun y vy B2 H2 g2 r2 hf2 => ?_
  obtain ⟨ks, ds, kk, d, rfl, hk, hg, p⟩ := hf2
  have r1 := r1.up g2.b
  cases r1 with
  | dk hs h1 hl hr =>
    obtain ⟨v, e1, rd⟩ := valV_getK hr hg
    rw [keyOf_rep hk r2]
    refine ⟨_, v, rfl, ?_, k d v B2 H2 (g1.trans g2) rd p⟩
    rw [← e1]
    exact DGet.k (g2.base.bh _ _ hs)
end
end DL

/-! DLG: a def's promise where nothing that guards a repr is under way: FnG, its rule, calls, the law's end. -/
namespace DL
open PySem L2 PySem.Spec
open PyProof.Rows hiding St
set_option autoImplicit false

structure FnG (P : Program) (w : World) (K : PySem.W.Frag) (mg : Str → Option Value) (base : Heap) (CX : CXT) (k : Nat) (f : Addr) (fd : FuncData) (ps : List Str) (sp : Sp) : Prop where
  len : ∀ vs H Q E, sp vs H Q E → vs.length = ps.length
  run : ∀ (A : Around) (fr : List PySem.Env) (s : Shared) (H : Hp) (args : Args) (us : List Value) (vs : List V) (Q : VK) (E : XK), Room k A ∧ A.guards = some [] → Env0 P w K mg base A fr s H → BindsTo s fd args (ps.zip us) → Vals vs us →
    sp vs H Q E → codeAny (model P w) A (.call (.ref f) args) (CR CX fr P w H s Q E) s
section
variable {P : Program} {w : World} {K : PySem.W.Frag} {mg : Str → Option Value} {base : Heap} {CX : CXT} {k j : Nat} {f : Addr} {fd : FuncData} {ps : List Str} {sp sp' : Sp}
theorem FnOk.g (F : FnOk P w K mg base CX k f fd ps sp) : FnG P w K mg base CX k f fd ps sp := ⟨F.len, fun A fr s H args us vs Q E hr => F.run A fr s H args us vs Q E hr.1⟩
theorem FnG.mono (F : FnG P w K mg base CX j f fd ps sp) (h : j ≤ k) : FnG P w K mg base CX k f fd ps sp := ⟨F.len, fun A fr s H args us vs Q E hr => F.run A fr s H args us vs Q E ⟨hr.1.mono h, hr.2⟩⟩
theorem FnG.imp (F : FnG P w K mg base CX k f fd ps sp) (h : ∀ vs H Q E, sp' vs H Q E → sp vs H Q E) : FnG P w K mg base CX k f fd ps sp' :=
  ⟨fun vs H Q E q => F.len _ _ _ _ (h vs H Q E q), fun A fr s H args us vs Q E hr he hb hv hs => F.run A fr s H args us vs Q E hr he hb hv (h _ _ _ _ hs)⟩

/-- a def by its body: only where no repr is under way need it keep its word -/
theorem fnG_of {name qual : Str} {params : Arguments} {body : List Stmt} {scope : Scope} {dV kV doc pm cdv ct oc : Value} {an od : Option Addr} {osl : Array (Option Value)} {N : List Str}
    (at_ : K.lookup f = some ⟨oc, od, .func (PySem.W.fnOf name qual params body scope dV kV doc pm an cdv ct), osl⟩) (code : PySem.W.codeIn K cdv qual = true) (S : FnScope N ps scope) (len : ∀ vs H Q E, sp vs H Q E → vs.length = ps.length)
    (hbody : ∀ (A : Around) (fr : List PySem.Env) (s : Shared) (H : Hp) (vs : List V) (Q : VK) (E : XK), Room k (A.deeper (envOfC qual scope s.heap.objs.size f cdv)) → A.guards = some [] → sp vs H Q E →
      ∃ t, PSs (cxOf CX P w K mg base N qual scope f cdv A fr s H E) body t ∧ t { nx := fun _ H' => Q .non H', rt := Q } (L2.start N vs) H) :
    FnG P w K mg base CX (k + 1) f (PySem.W.fnOf name qual params body scope dV kV doc pm an cdv ct) ps sp := by
  refine ⟨len, fun A fr s H args us vs Q E ⟨hr, hg⟩ e0 hb rel q => ?_⟩
  have up : ∀ b o, base.get? b = some o → s.heap.get? b = some o := fun b o z => (e0.bs b o z).1
  have KX := e0.mod.kin.keeps up
  have n := len vs H Q E q
  obtain ⟨t, runs, q⟩ := hbody A fr s H vs Q E (hr.deeper _) hg q
  refine codeAny_call_function hr.depth (KX _ _ at_) rfl S.co S.gen rfl (PySem.W.codeRec_of KX code) (hb _ _ _ _ (wpAny_newFunctionEnv_cells S.kind (fun y hy => ?_) ?_))
  · rcases S.par y.1 (List.of_mem_zip (show (y.1, y.2) ∈ _ from hy)).1 with z | z
    · exact .inl z
    · exact .inr ⟨z, PySem.W.cellsFrom_some _ _ _ (.inl z)⟩
  · rintro _ rfl s1 x
    refine ⟨(e0.mod.nolimit.keeps up).keeps x.toInCall.keep, codeAny_func (wpAny_mono (runs.run [] s1 _ H _ (inv_start S hr.hd e0 n rel x) q) ?_ fun _ _ z => z)⟩
    rintro (_ | _ | _ | u) s' h
    · obtain ⟨σ', H', J, q⟩ := h
      exact ⟨.non, H', J.os, J.bare, J.base, J.hok, rfl, q⟩
    · exact h.elim fun _ ⟨_, _, z⟩ => z.elim
    · exact h.elim fun _ ⟨_, _, z⟩ => z.elim
    · obtain ⟨v, σ', H', J, r, q⟩ := h
      exact ⟨v, H', J.os, J.bare, J.base, J.hok, r, q⟩
/-- .. of the text -/
theorem funG {x qual : Str} {st : Stmt} {N : List Str} (F : Fun K x qual st f fd) (S : FnScope N ps (defScope st)) (len : ∀ vs H Q E, sp vs H Q E → vs.length = ps.length)
    (hbody : ∀ (cdv : Value) (A : Around) (fr : List PySem.Env) (s : Shared) (H : Hp) (vs : List V) (Q : VK) (E : XK), Room k (A.deeper (envOfC qual (defScope st) s.heap.objs.size f cdv)) → A.guards = some [] → sp vs H Q E →
      ∃ t, PSs (cxOf CX0 P w K mg base N qual (defScope st) f cdv A fr s H E).nox (defBody st) t ∧ t { nx := fun _ H' => Q .non H', rt := Q } (L2.start N vs) H) : FnG P w K mg base CX0 (k + 1) f fd ps sp := by
  obtain ⟨oc, od, kV, doc, pm, an, cdv, ct, osl, rfl, lk, hcd⟩ := F.ex
  refine fnG_of lk hcd S len fun A fr s H vs Q E hr hg hsp => ?_
  obtain ⟨t, h, q⟩ := hbody cdv A fr s H vs Q E hr hg hsp
  exact ⟨t, h.nox, q⟩
end

section
variable {X : Cx} {CX : CXT} {k : Nat} {f C : Addr} {fd : FuncData} {ps ks : List Str} {sp : Sp} {dvs : List V} {ds : List Value} {E : XK} {x m : Str} {p pos apos : Pos} {e o : Expr} {es : List Expr} {kws : List Keyword} {ta : TE} {t tk : TA}
/-- what a call wants of the room -/
def RG0 (k : Nat) (X : Cx) : Prop := Room k X.A ∧ X.A.guards = some []
theorem RG0.mono {j : Nat} (h : RG0 k X) (hj : j ≤ k) : RG0 j X := ⟨h.1.mono hj, h.2⟩
/-- a call by all that its arguments are, however they were written -/
theorem runBy {pins : List (Addr × Obj)} {σ : L2.St} {H : Hp} {s : Shared} {Q : VK} {us all : List Value} {kw : List (Str × Value)} {vs : List V} (F : FnG X.prog X.w X.K X.mg X.base CX k f fd ps sp) (hr : RG0 k X) (hx : Passes CX X E)
    (I : L2.Inv X pins σ H s) (b : BindsTo s fd ⟨us, kw⟩ (ps.zip all)) (r : Vals vs all) (h : sp vs H Q E) : wpAny (model X.prog X.w) X.A (call (.ref f) us kw) (L2.EP X pins σ Q) X.xe s := by
  refine wpAny_call (codeAny_mono (F.run X.A X.stack s H ⟨us, kw⟩ all vs Q E hr I.env0 b r h) ?_)
  rintro (e | _ | _ | _ | u) s' z
  · exact hx pins σ H s e s' I z
  all_goals first | exact I.after z | exact z.elim
theorem runG {pins : List (Addr × Obj)} {σ : L2.St} {H : Hp} {s : Shared} {Q : VK} {us : List Value} {vs : List V} (F : FnG X.prog X.w X.K X.mg X.base CX k f fd ps sp) (hr : RG0 k X) (hb : Binds X.K fd ps ds) (hd : Vals dvs ds) (hx : Passes CX X E)
    (I : L2.Inv X pins σ H s) (r : Vals vs us) (h : sp (vs ++ dvs) H Q E) : wpAny (model X.prog X.w) X.A (call (.ref f) us) (L2.EP X pins σ Q) X.xe s :=
  runBy F hr hx I (hb s us I.kIn ((r.append hd).length.symm.trans (F.len _ _ _ _ h))) (r.append hd) h
theorem pe_callG (F : FnG X.prog X.w X.K X.mg X.base CX k f fd ps sp) (hr : RG0 k X) (hg : Gl X x) (hm : X.mg x = some (.ref f)) (hk : PySem.W.keepIn X.K (.ref f) = true) (hb : Binds X.K fd ps ds) (hd : Vals dvs ds) (hx : Passes CX X E)
    (ha : PA X (e :: es) t) (hdb : (x == ("__debug__" : Str)) = false := by decide) (he : starEach (e :: es) X.env = (false, eval e X.env) :: starEach es X.env := by rfl) (hpl : (backTo pos (starEach es X.env)).any (·.1) = false := by rfl) :
    PE X (.Call (.Name x p) (e :: es) [] pos) (tCall sp dvs E t) := by
  constructor
  intro pins s σ H Q I h
  exact wpAny_Call_Name_kw (ld_glob I hg hm (PySem.W.callWith_K (h₀ := X.base) I.ok.mod.kin hk (thn (ha.run pos pins s σ H _ I h) fun us s1 ⟨vs, H1, I1, r, q⟩ => ⟨I1.kIn, runG F hr hb hd hx I1 r q⟩) he hpl) hdb)
theorem pe_callG0 (F : FnG X.prog X.w X.K X.mg X.base CX k f fd ps sp) (hr : RG0 k X) (hg : Gl X x) (hm : X.mg x = some (.ref f)) (hk : PySem.W.keepIn X.K (.ref f) = true) (hb : Binds X.K fd ps ds) (hd : Vals dvs ds) (hx : Passes CX X E)
    (hdb : (x == ("__debug__" : Str)) = false := by decide) : PE X (.Call (.Name x p) [] [] pos) (tCall sp dvs E tNil) := by
  constructor
  intro pins s σ H Q I h
  exact wpAny_Call_Name_kw (ld_glob I hg hm (PySem.W.callWith_K0 I.kIn hk (runG (us := []) F hr hb hd hx I .nil h)) hdb)
/-- some of them, in this order -/
def pick {α : Type} (ix : List Nat) (l : List α) : List α := ix.filterMap fun i => l[i]?
theorem Vals.pick {vs : List V} {us : List Value} (r : Vals vs us) : ∀ ix : List Nat, Vals (pick ix vs) (pick ix us)
  | [] => .nil
  | i :: ix => by
    unfold DL.pick
    rw [List.filterMap_cons, List.filterMap_cons]
    cases q : vs[i]? with
    | none => rw [r.none_of q]; exact Vals.pick r ix
    | some v =>
      obtain ⟨u, hu, ru⟩ := r.get q
      rw [hu]
      exact .cons ru (Vals.pick r ix)
/-- n positional values, keywords ks: which value each parameter gets -/
def KB (K : PySem.W.Frag) (fd : FuncData) (ps : List Str) (n : Nat) (ks : List Str) (ix : List Nat) : Prop :=
  ∀ (s : Shared) (us ws : List Value), K.In s.heap → us.length = n → ws.length = ks.length → BindsTo s fd ⟨us, ks.zip ws⟩ (ps.zip (pick ix (us ++ ws)))
theorem Fun.kb {K : PySem.W.Frag} {qual : Str} {st : Stmt} (F : Fun K x qual st f fd) (n : Nat) (ks : List Str) (ix : List Nat) (h : ∀ (kV doc pm : Value) (an : Option Addr) (cdv ct : Value) (us ws : List Value), us.length = n → ws.length = ks.length →
    bindArgs (PySem.W.fnOf x qual (defArgs st) (defBody st) (defScope st) .none kV doc pm an cdv ct) ⟨us, ks.zip ws⟩ = pure (ps.zip (pick ix (us ++ ws)))) : KB K fd ps n ks ix := by
  obtain ⟨oc, od, kV, doc, pm, an, cdv, ct, osl, rfl, lk, hcd⟩ := F.ex
  exact fun s us ws _ h1 h2 => .of_eq (h kV doc pm an cdv ct us ws h1 h2)
variable {n : Nat} {ix : List Nat}
def tCallN (sp : Sp) (n m : Nat) (ix : List Nat) (E : XK) (t tk : TA) : TE := fun σ H Q => t σ H fun vs H1 => tk σ H1 fun zs H2 => vs.length = n ∧ zs.length = m ∧ sp (pick ix (vs ++ zs)) H2 Q E
theorem runGn {pins : List (Addr × Obj)} {σ : L2.St} {H : Hp} {s : Shared} {Q : VK} {us ws : List Value} {vs zs : List V} (F : FnG X.prog X.w X.K X.mg X.base CX k f fd ps sp) (hr : RG0 k X) (hb : KB X.K fd ps n ks ix) (hx : Passes CX X E)
    (I : L2.Inv X pins σ H s) (r : Vals vs us) (rz : Vals zs ws) (l1 : vs.length = n) (l2 : zs.length = ks.length) (h : sp (pick ix (vs ++ zs)) H Q E) : wpAny (model X.prog X.w) X.A (call (.ref f) us (ks.zip ws)) (L2.EP X pins σ Q) X.xe s :=
  runBy F hr hx I (hb s us ws I.kIn (r.length.symm.trans l1) (rz.length.symm.trans l2)) (Vals.pick (r.append rz) ix) h
/-- f(e, .., k = v, ..); f(k = v, ..) -/
theorem pe_callGk (F : FnG X.prog X.w X.K X.mg X.base CX k f fd ps sp) (hr : RG0 k X) (hg : Gl X x) (hm : X.mg x = some (.ref f)) (hk : PySem.W.keepIn X.K (.ref f) = true) (hb : KB X.K fd ps n ks ix) (hx : Passes CX X E)
    (ha : PA X (e :: es) t) (hkw : PK X kws tk) (hall : (backToKw pos (keywordEach kws X.env)).all (·.1.isSome) = true := by rfl) (hks : (backToKw pos (keywordEach kws X.env)).filterMap (·.1) = ks := by rfl)
    (hdb : (x == ("__debug__" : Str)) = false := by decide) (he : starEach (e :: es) X.env = (false, eval e X.env) :: starEach es X.env := by rfl)
    (hpl : ((backTo pos (starEach (e :: es) X.env)).any (·.1) || (backToKw pos (keywordEach kws X.env)).any (·.1.isNone)) = false := by rfl) :
    PE X (.Call (.Name x p) (e :: es) kws pos) (tCallN sp n ks.length ix E t tk) := by
  constructor
  intro pins s σ H Q I h
  refine wpAny_Call_Name_kw (ld_glob I hg hm (PySem.W.callWith_KW (h₀ := X.base) I.ok.mod.kin hk hall (thn (ha.run pos pins s σ H _ I h) fun us s1 ⟨vs, H1, I1, r, q⟩ => thn (hkw.run pos pins s1 σ H1 _ I1 q) fun ws s2 ⟨zs, H2, I2, rz, l1, l2, q2⟩ => ⟨I2.kIn, ?_⟩) hpl he) hdb)
  rw [hks]
  exact runGn F hr hb hx I2 r rz l1 l2 q2
theorem pe_callGk0 (F : FnG X.prog X.w X.K X.mg X.base CX k f fd ps sp) (hr : RG0 k X) (hg : Gl X x) (hm : X.mg x = some (.ref f)) (hk : PySem.W.keepIn X.K (.ref f) = true) (hb : KB X.K fd ps 0 ks ix) (hx : Passes CX X E)
    (hkw : PK X kws tk) (hall : (backToKw pos (keywordEach kws X.env)).all (·.1.isSome) = true := by rfl) (hks : (backToKw pos (keywordEach kws X.env)).filterMap (·.1) = ks := by rfl)
    (hdb : (x == ("__debug__" : Str)) = false := by decide) (hpl : ((backTo pos (starEach [] X.env)).any (·.1) || (backToKw pos (keywordEach kws X.env)).any (·.1.isNone)) = false := by rfl) :
    PE X (.Call (.Name x p) [] kws pos) (tCallN sp 0 ks.length ix E tNil tk) := by
  constructor
  intro pins s σ H Q I h
  refine wpAny_Call_Name_kw (ld_glob I hg hm (PySem.W.callWith_KW0 (h₀ := X.base) I.ok.mod.kin hk hall (thn (hkw.run pos pins s σ H _ I h) fun ws s2 ⟨zs, H2, I2, rz, l1, l2, q2⟩ => ⟨I2.kIn, ?_⟩) hpl) hdb)
  rw [hks]
  exact runGn (us := []) (vs := []) F hr hb hx I2 .nil rz rfl l2 q2
end
end DL

/-! DL3: slices, tests, displays, calls of own defs and of built-in names. -/
namespace DL
open PySem L2
open PySem.PyData (strOk)
set_option autoImplicit false
section
variable {X : Cx} {e a b c o : Expr} {es rest : List Expr} {pos : Pos} {fa fb fc : RD}

/-! ### is None -/
theorem ec_isN {j pos'} (ha : EV X a fa) : EC X (.Compare a [.Is] [.Constant .none j pos'] pos) (fun ρ M P => fa ρ M fun x M => P (.bl (match x with | .non => true | _ => false)) M) := by
  have sr : SR2 X.K (fun x y H Q => y = .non ∧ Q (.bl (decide (x = .non))) H) (fun x y M P => y = .non ∧ P (.bl (match x with | .non => true | _ => false)) M) := by
    intro B H x y vx vy P Q bs rx ry h k
    obtain ⟨rfl, p⟩ := h
    cases ry
    refine ⟨rfl, k _ _ B H bs.grow ?_ p⟩
    cases rx <;> exact .bl _
  have := ec_cmp (pos := pos) op_isN sr ha (ed_non (X := X) (j := j) (pos := pos')).v
  simpa using this
theorem ec_notN {j pos'} (ha : EV X a fa) : EC X (.Compare a [.IsNot] [.Constant .none j pos'] pos) (fun ρ M P => fa ρ M fun x M => P (.bl (match x with | .non => false | _ => true)) M) := by
  have sr : SR2 X.K (fun x y H Q => y = .non ∧ Q (.bl (!decide (x = .non))) H) (fun x y M P => y = .non ∧ P (.bl (match x with | .non => false | _ => true)) M) := by
    intro B H x y vx vy P Q bs rx ry h k
    obtain ⟨rfl, p⟩ := h
    cases ry
    refine ⟨rfl, k _ _ B H bs.grow ?_ p⟩
    cases rx <;> exact .bl _
  have := ec_cmp (pos := pos) op_notN sr ha (ed_non (X := X) (j := j) (pos := pos')).v
  simpa using this

/-! ### slices -/
abbrev RP := Env → Mem → (Option Int → Mem → Prop) → Prop
def SndP (K : PySem.W.Frag) (to : TO) (f : RP) : Prop :=
  ∀ (B : Kn) (H : Hp) (ρ : Env) (σ : St) (S : List Addr) (P : Option Int → Mem → Prop) (Q : Option Int → Hp → Prop), Stt K B H ρ σ S → f ρ B.m P → (∀ o B' H', Grow K B H B' H' → P o B'.m → Q o H') → to σ H Q
structure EP (X : Cx) (e : Option Expr) (f : RP) : Prop where
  ex : ∃ te, PO X e te ∧ SndP X.K te f
theorem ep_none : EP X none (fun _ M P => P none M) := ⟨_, po_none, fun B H ρ σ S P Q st hf k => k none B H st.base.grow hf⟩
theorem ep_some (h : EV X e fa) : EP X (some e) (fun ρ M P => fa ρ M fun d M => ∃ i, d = .int i ∧ P (some i) M) := by
  obtain ⟨te, hp, hs⟩ := h.ex
  refine ⟨_, po_some hp, fun B H ρ σ S P Q st hf k => hs B H ρ σ S _ _ st hf fun d v B' H' g r p => ?_⟩
  obtain ⟨i, rfl, p⟩ := p
  cases r
  exact ⟨i, rfl, k (some i) B' H' g p⟩
def cutL {α : Type} (xs : List α) (lo hi : Option Int) : List α := (xs.drop (HT.sIx xs.length 0 lo)).take (HT.sIx xs.length xs.length hi - HT.sIx xs.length 0 lo)
theorem cutL_length {α : Type} (xs : List α) (lo hi : Option Int) : (cutL xs lo hi).length ≤ xs.length := by
  unfold cutL
  rw [List.length_take, List.length_drop]
  omega
theorem Reps.cut {K : PySem.W.Frag} {B : Hp} {ds : List D} {vs : List V} (h : Reps K B ds vs) (lo hi : Option Int) : Reps K B (cutL ds lo hi) (cutV vs lo hi) := by
  unfold cutL cutV
  rw [h.length]
  exact (h.drop _).take _
def hSl (x : D) (lo hi : Option Int) (M : Mem) (P : OT → Mem → Prop) : Prop := match x with
  | .tup l => P (.fz (.tup (cutL l lo hi))) M
  | .lst l => P (.ow ((cutL l lo hi).map .fz)) M
  | .str z => z.length ≤ sizeLine ∧ P (.fz (.str (cutS z lo hi))) M
  | _ => False
theorem strOk_cut {z : Str} (h : strOk z = true) (lo hi : Option Int) : strOk (cutS z lo hi) = true := by
  unfold strOk at h ⊢
  rw [Array.all_eq_true'] at h ⊢
  intro c hc
  refine h c ?_
  have : c ∈ ((z.cps.toList.drop (HT.sIx z.length 0 lo)).take (HT.sIx z.length z.length hi - HT.sIx z.length 0 lo)) := by simpa [cutS] using hc
  simpa using List.mem_of_mem_drop (List.mem_of_mem_take this)
def rSlAll (K : PySem.W.Frag) : V → Option Int → Option Int → Hp → VK → Prop := fun x lo hi H Q => rSlL K x lo hi H Q ∨ rSlA K x lo hi H Q ∨ rSlS x lo hi H Q
theorem sl_all : SlR X (rSlAll X.K) := SlR.or sl_list (SlR.or sl_tupA sl_str)
theorem cutL_whole {α : Type} {xs : List α} {lo hi : Option Int} (h : HT.sIx xs.length 0 lo = 0 ∧ HT.sIx xs.length xs.length hi = xs.length) : cutL xs lo hi = xs := by
  unfold cutL
  rw [h.1, h.2]
  simp
theorem eo_sl {lo hi : Option Expr} {p2 : Pos} {fl fh : RP} (ha : ED X a fa) (hl : EP X lo fl) (hh : EP X hi fh) : EO X (.Subscript a (.Slice lo hi none p2) pos) (fun ρ M P => fa ρ M fun x M => fl ρ M fun l M => fh ρ M fun h M => hSl x l h M P) := by
  obtain ⟨ta, pa, sa⟩ := ha.ex
  obtain ⟨tl, pl, sl⟩ := hl.ex
  obtain ⟨th, ph, sh⟩ := hh.ex
  refine ⟨_, pe_slice sl_all pa pl ph, fun B H ρ σ S P Q st hf k => ?_⟩
  refine sa B H ρ σ S _ _ st hf fun x vx B1 H1 g1 r1 hf1 => sl B1 H1 ρ σ S _ _ (st.grow g1) hf1 fun l B2 H2 g2 hf2 => sh B2 H2 ρ σ S _ _ ((st.grow g1).grow g2) hf2 fun h B3 H3 g3 hf3 => ?_
  have g := (g1.trans g2).trans g3
  have bs := g3.base
  have r1 := r1.up (g2.b.trans g3.b)
  have k' : ∀ t v B' H' T, Grow X.K B3 H3 B' H' → RepO X.K B' H' t v T → Own B3 H3 B' T → P t B'.m → Q v H' := fun t v B' H' T g' r o p => k t v B' H' T (g.trans g') r (o.back g) p
  cases r1 with
  | tup hx hlx hrx =>
    refine .inr (.inl ⟨_, _, rfl, Evl.ex_t bs.bh hx, fun e => ?_, fun _ => ?_⟩)
    · rw [← hrx.length] at e
      have hf3 : P (.fz (.tup (cutL _ l h))) B3.m := hf3
      rw [cutL_whole e] at hf3
      exact kD k' _ _ B3 H3 bs.grow (.tup hx hlx hrx) hf3
    · exact new_tuple bs (hrx.cut l h) (Nat.le_trans (cutL_length _ _ _) hlx) hf3 (kD k')
  | lst hx hlx hrx =>
    refine .inl ⟨_, _, rfl, Evl.sq_of (bs.bh _ _ hx), ?_⟩
    exact new_list bs (hrx.cut l h) (Nat.le_trans (cutL_length _ _ _) hlx) hf3 k'
  | str hx => exact .inr (.inr ⟨_, rfl, hf3.1, kD k' _ _ B3 H3 bs.grow (.str (strOk_cut hx l h)) hf3.2⟩)
  | _ => exact False.elim hf3

/-! ### tests -/
theorem et_val (h : ED X e fa) (he : ∀ whole, isTrue e X.env whole = (do let v ← whole; standAt e.pos; holding [v] (truthy v)) := by intro _; rfl) : ET X e (fun ρ M P => fa ρ M fun d M => ∃ b, d = .bl b ∧ P b M) := by
  obtain ⟨te, hp, hs⟩ := h.ex
  exact ⟨_, pt_val hp he, snd_test hs⟩
theorem et_not {f : RT} (h : ET X a f) : ET X (.UnaryOp .Not a pos) (fun ρ M P => f ρ M fun b M => P (!b) M) := by
  obtain ⟨te, hp, hs⟩ := h.ex
  exact ⟨_, pt_not hp, fun B H ρ σ S P Q st hf k => hs B H ρ σ S _ _ st hf fun b B' H' g p => k (!b) B' H' g p⟩
theorem ew_and1 {f : RT} (h : ET X a f) : EW X (.BoolOp .And [a] pos) f := by
  obtain ⟨te, hp, hs⟩ := h.ex
  exact ⟨_, pw_and1 hp, hs⟩
theorem ew_or1 {f : RT} (h : ET X a f) : EW X (.BoolOp .Or [a] pos) f := by
  obtain ⟨te, hp, hs⟩ := h.ex
  exact ⟨_, pw_or1 hp, hs⟩
theorem ew_and {f g : RT} (h : ET X a f) (h' : EW X (.BoolOp .And (b :: rest) pos) g) : EW X (.BoolOp .And (a :: b :: rest) pos) (fun ρ M P => f ρ M fun c M => if c = true then g ρ M P else P false M) := by
  obtain ⟨te, hp, hs⟩ := h.ex
  obtain ⟨te', hp', hs'⟩ := h'.ex
  refine ⟨_, pw_and hp hp', fun B H ρ σ S P Q st hf k => hs B H ρ σ S _ _ st hf fun c B' H' g p => ?_⟩
  cases c with
  | true => exact hs' B' H' ρ σ S _ _ (st.grow g) p fun d B2 H2 g2 p2 => k d B2 H2 (g.trans g2) p2
  | false => exact k false B' H' g p
theorem ew_or {f g : RT} (h : ET X a f) (h' : EW X (.BoolOp .Or (b :: rest) pos) g) : EW X (.BoolOp .Or (a :: b :: rest) pos) (fun ρ M P => f ρ M fun c M => if c = true then P true M else g ρ M P) := by
  obtain ⟨te, hp, hs⟩ := h.ex
  obtain ⟨te', hp', hs'⟩ := h'.ex
  refine ⟨_, pw_or hp hp', fun B H ρ σ S P Q st hf k => hs B H ρ σ S _ _ st hf fun c B' H' g p => ?_⟩
  cases c with
  | false => exact hs' B' H' ρ σ S _ _ (st.grow g) p fun d B2 H2 g2 p2 => k d B2 H2 (g.trans g2) p2
  | true => exact k true B' H' g p
theorem EW.t {f : RT} (h : EW X e f) : ET X e f := by
  obtain ⟨te, hp, hs⟩ := h.ex
  exact ⟨_, hp.pt, hs⟩
theorem ed_one {op} (h : ED X a fa) : ED X (.BoolOp op [a] pos) fa := by
  obtain ⟨te, hp, hs⟩ := h.ex
  exact ⟨_, pe_one hp, hs⟩
theorem ed_and (h : ED X a fa) (h' : ED X (.BoolOp .And (b :: rest) pos) fb) : ED X (.BoolOp .And (a :: b :: rest) pos) (fun ρ M P => fa ρ M fun d M => ∃ c, d = .bl c ∧ if c = true then fb ρ M P else P (.bl false) M) := by
  obtain ⟨te, hp, hs⟩ := h.ex
  obtain ⟨te', hp', hs'⟩ := h'.ex
  refine ⟨_, pe_and hp hp', fun B H ρ σ S P Q st hf k => hs B H ρ σ S _ _ st hf fun d v B' H' g r p => ?_⟩
  obtain ⟨c, rfl, p⟩ := p
  cases r
  refine ⟨c, rfl, ?_⟩
  cases c with
  | true => exact hs' B' H' ρ σ S _ _ (st.grow g) p fun d v B2 H2 g2 r2 p2 => k d v B2 H2 (g.trans g2) r2 p2
  | false => exact k _ _ B' H' g (.bl false) p
theorem ed_or (h : ED X a fa) (h' : ED X (.BoolOp .Or (b :: rest) pos) fb) : ED X (.BoolOp .Or (a :: b :: rest) pos) (fun ρ M P => fa ρ M fun d M => ∃ c, d = .bl c ∧ if c = true then P (.bl true) M else fb ρ M P) := by
  obtain ⟨te, hp, hs⟩ := h.ex
  obtain ⟨te', hp', hs'⟩ := h'.ex
  refine ⟨_, pe_or hp hp', fun B H ρ σ S P Q st hf k => hs B H ρ σ S _ _ st hf fun d v B' H' g r p => ?_⟩
  obtain ⟨c, rfl, p⟩ := p
  cases r
  refine ⟨c, rfl, ?_⟩
  cases c with
  | false => exact hs' B' H' ρ σ S _ _ (st.grow g) p fun d v B2 H2 g2 r2 p2 => k d v B2 H2 (g.trans g2) r2 p2
  | true => exact k _ _ B' H' g (.bl true) p
theorem ed_not (h : ED X a fa) : ED X (.UnaryOp .Not a pos) (fun ρ M P => fa ρ M fun d M => ∃ c, d = .bl c ∧ P (.bl (!c)) M) := by
  obtain ⟨te, hp, hs⟩ := h.ex
  refine ⟨_, pe_not hp, fun B H ρ σ S P Q st hf k => hs B H ρ σ S _ _ st hf fun d v B' H' g r p => ?_⟩
  obtain ⟨c, rfl, p⟩ := p
  cases r
  exact ⟨c, rfl, k _ _ B' H' g (.bl _) p⟩
theorem eo_if {f : RT} {ga gb : RO} (hc : ET X c f) (ha : EO X a ga) (hb : EO X b gb) : EO X (.IfExp c a b pos) (fun ρ M P => f ρ M fun d M => if d = true then ga ρ M P else gb ρ M P) := by
  obtain ⟨tc, pc, sc⟩ := hc.ex
  obtain ⟨ta, pa, sa⟩ := ha.ex
  obtain ⟨tb, pb, sb⟩ := hb.ex
  refine ⟨_, pe_ifExp pc pa pb, fun B H ρ σ S P Q st hf k => sc B H ρ σ S _ _ st hf fun d B' H' g p => ?_⟩
  cases d with
  | true => exact sa B' H' ρ σ S _ _ (st.grow g) p fun t v B2 H2 T g2 r2 o2 p2 => k t v B2 H2 T (g.trans g2) r2 (o2.back g) p2
  | false => exact sb B' H' ρ σ S _ _ (st.grow g) p fun t v B2 H2 T g2 r2 o2 p2 => k t v B2 H2 T (g.trans g2) r2 (o2.back g) p2
theorem ed_if {f : RT} (hc : ET X c f) (ha : ED X a fa) (hb : ED X b fb) : ED X (.IfExp c a b pos) (fun ρ M P => f ρ M fun d M => if d = true then fa ρ M P else fb ρ M P) := by
  obtain ⟨tc, pc, sc⟩ := hc.ex
  obtain ⟨ta, pa, sa⟩ := ha.ex
  obtain ⟨tb, pb, sb⟩ := hb.ex
  refine ⟨_, pe_ifExp pc pa pb, fun B H ρ σ S P Q st hf k => sc B H ρ σ S _ _ st hf fun d B' H' g p => ?_⟩
  cases d with
  | true => exact sa B' H' ρ σ S _ _ (st.grow g) p fun t v B2 H2 g2 r2 p2 => k t v B2 H2 (g.trans g2) r2 p2
  | false => exact sb B' H' ρ σ S _ _ (st.grow g) p fun t v B2 H2 g2 r2 p2 => k t v B2 H2 (g.trans g2) r2 p2

/-! ### argument lists, displays -/
theorem ad_nil : AD X [] (fun _ M P => P [] M) := ⟨_, pa_nil, fun B H ρ σ S P Q st hf k => k [] [] B H st.base.grow .nil hf⟩
theorem ad_cons {f : RA} (h : ED X e fa) (h' : AD X es f) (hs : starEach (e :: es) X.env = (false, eval e X.env) :: starEach es X.env := by rfl) : AD X (e :: es) (fun ρ M P => fa ρ M fun d M => f ρ M fun ds M => P (d :: ds) M) := by
  obtain ⟨te, hp, hs1⟩ := h.ex
  obtain ⟨te', hp', hs'⟩ := h'.ex
  exact ⟨_, pa_cons hp hp' hs, fun B H ρ σ S P Q st hf k => hs1 B H ρ σ S _ _ st hf fun d v B' H' g r p => hs' B' H' ρ σ S _ _ (st.grow g) p fun ds vs B2 H2 g2 r2 p2 => k (d :: ds) (v :: vs) B2 H2 (g.trans g2) (.cons (r.up g2.b) r2) p2⟩
theorem av_nil : AV X [] (fun _ M P => P [] M) := ⟨_, pa_nil, fun B H ρ σ S P Q st hf k => k [] [] B H st.base.grow .nil hf⟩
theorem av_cons {f : RA} (h : EV X e fa) (h' : AV X es f) (hs : starEach (e :: es) X.env = (false, eval e X.env) :: starEach es X.env := by rfl) : AV X (e :: es) (fun ρ M P => fa ρ M fun d M => f ρ M fun ds M => P (d :: ds) M) := by
  obtain ⟨te, hp, hs1⟩ := h.ex
  obtain ⟨te', hp', hs'⟩ := h'.ex
  exact ⟨_, pa_cons hp hp' hs, fun B H ρ σ S P Q st hf k => hs1 B H ρ σ S _ _ st hf fun d v B' H' g r p => hs' B' H' ρ σ S _ _ (st.grow g) p fun ds vs B2 H2 g2 r2 p2 => k (d :: ds) (v :: vs) B2 H2 (g.trans g2) (.cons (r.up g2.hm) r2) p2⟩
abbrev RAO := Env → Mem → (List OT → Mem → Prop) → Prop
def SndAO (K : PySem.W.Frag) (ta : TA) (f : RAO) : Prop :=
  ∀ (B : Kn) (H : Hp) (ρ : Env) (σ : St) (S : List Addr) (P : List OT → Mem → Prop) (Q : List V → Hp → Prop), Stt K B H ρ σ S → f ρ B.m P → (∀ t v B' H' T, Grow K B H B' H' → RepOs K B' H' t v T → Own B H B' T → P t B'.m → Q v H') → ta σ H Q
structure AO (X : Cx) (es : List Expr) (f : RAO) : Prop where
  ex : ∃ te, PA X es te ∧ SndAO X.K te f
theorem ao_nil : AO X [] (fun _ M P => P [] M) := ⟨_, pa_nil, fun B H ρ σ S P Q st hf k => k [] [] B H [] st.base.grow .nil .nil hf⟩
theorem Own.join {K : PySem.W.Frag} {B B1 B2 : Kn} {H H1 H2 : Hp} {T1 T2 : List Addr} (o1 : Own B H B1 T1) (s1 : ∀ p ∈ T1, (H1 p).isSome = true) (g2 : Grow K B1 H1 B2 H2) (o2 : Own B H B2 T2) (f2 : ∀ p ∈ T2, H1 p = none) : Own B H B2 (T1 ++ T2) where
  nd := List.nodup_append.mpr ⟨o1.nd, o2.nd, fun a ha b hb e => by subst e; have := s1 a ha; rw [f2 a hb] at this; cases this⟩
  fr := fun p hp => (List.mem_append.mp hp).elim (o1.fr p) (o2.fr p)
  nb := fun p hp => (List.mem_append.mp hp).elim (fun h => by
    cases q : B2.b p with
    | none => rfl
    | some o =>
      rcases g2.f p o q with z | z
      · rw [o1.nb p h] at z; cases z
      · have := s1 p h; rw [z] at this; cases this) (o2.nb p)
  nw := fun p hp => (List.mem_append.mp hp).elim (fun h => g2.nm (o1.nw p h) (fun e => by have := s1 p h; rw [e] at this; cases this)) (o2.nw p)
theorem Grow.same {K : PySem.W.Frag} {B B' : Kn} {H H' : Hp} (g : Grow K B H B' H') {p : Addr} (h : (H p).isSome = true) (nd : B.m p = none) : H' p = H p := by
  cases q : H p with
  | none => rw [q] at h; cases h
  | some o => exact g.h p o nd q
theorem ao_cons {fo : RO} {f : RAO} (h : EO X e fo) (h' : AO X es f) (hs : starEach (e :: es) X.env = (false, eval e X.env) :: starEach es X.env := by rfl) : AO X (e :: es) (fun ρ M P => fo ρ M fun d M => f ρ M fun ds M => P (d :: ds) M) := by
  obtain ⟨te, hp, hs1⟩ := h.ex
  obtain ⟨te', hp', hs'⟩ := h'.ex
  refine ⟨_, pa_cons hp hp' hs, fun B H ρ σ S P Q st hf k => hs1 B H ρ σ S _ _ st hf fun t v B1 H1 T1 g1 r1 o1 p => hs' B1 H1 ρ σ S _ _ (st.grow g1) p fun ts vs B2 H2 T2 g2 r2 o2 p2 => ?_⟩
  refine k (t :: ts) (v :: vs) B2 H2 (T1 ++ T2) (g1.trans g2) (.cons (r1.mono g2.b _ _ _ fun p hp => g2.same (r1.some p hp) (o1.nw p hp)) r2) ?_ p2
  exact o1.join r1.some g2 (o2.back g1) o2.fr
theorem ed_tup {x1} {f : RA} (h : AD X es f) : ED X (.Tuple es x1 pos) (fun ρ M P => f ρ M fun ds M => ds.length ≤ sizeLine ∧ P (.tup ds) M) := by
  obtain ⟨te, hp, hs⟩ := h.ex
  refine ⟨_, pe_tup hp, fun B H ρ σ S P Q st hf k => hs B H ρ σ S _ _ st hf fun ds vs B' H' g r p => ?_⟩
  refine ⟨by rw [← r.length]; exact p.1, ?_⟩
  exact new_tuple g.base r p.1 p.2 fun t v B2 H2 g2 r2 p2 => k t v B2 H2 (g.trans g2) r2 p2
theorem eo_lst {f : RAO} (h : AO X es f) : EO X (.List es pos) (fun ρ M P => f ρ M fun ts M => ts.length ≤ sizeLine ∧ P (.ow ts) M) := by
  obtain ⟨te, hp, hs⟩ := h.ex
  refine ⟨_, pe_lst hp, fun B H ρ σ S P Q st hf k => hs B H ρ σ S _ _ st hf fun ts vs B1 H1 T1 g1 r1 o1 p => ?_⟩
  refine ⟨by rw [← r1.length]; exact p.1, fun l hl0 => ?_⟩
  obtain ⟨g, hb, nd⟩ := g1.base.newO (o := .lst vs) hl0
  have hl : l ∉ T1 := fun h => by have := r1.some l h; rw [hl0] at this; cases this
  refine k (.ow ts) (.ref l) B1 _ (l :: T1) (g1.trans g) (.ow upd_same p.1 (r1.mono Ext.rfl _ _ _ fun p hp => upd_ne fun e => hl (by rw [← e]; exact hp))) ⟨List.nodup_cons.mpr ⟨hl, o1.nd⟩, fun p hp => ?_, fun p hp => ?_, fun p hp => ?_⟩ p.2
  all_goals rcases List.mem_cons.mp hp with rfl | hp
  · exact g1.free hl0
  · exact o1.fr p hp
  · exact hb
  · exact o1.nb p hp
  · exact nd
  · exact o1.nw p hp

/-! ### what a def promises of data -/
structure DSpec where
  ι : Type
  pre : ι → Mem → List D → Prop
  post : ι → Mem → OT → Mem → Prop
/-- .. that looks at nothing that changes -/
def DSpec.pure {ι : Type} (pre : ι → List D → Prop) (post : ι → OT → Prop) : DSpec := ⟨ι, fun i _ ds => pre i ds, fun i _ t _ => post i t⟩
def spOf (K : PySem.W.Frag) (n : Nat) (s : DSpec) : Sp := fun vs H Q _ => ∃ i B ds, Base K B H ∧ Reps K B.b ds vs ∧ ds.length = n ∧ s.pre i B.m ds ∧
  ∀ t v B' H' T, Grow K B H B' H' → RepO K B'.b H' t v T → Own B H B' T → s.post i B.m t B'.m → Q v H'
/-- a def that may be called by its name -/
structure DF (P : Program) (w : World) (K : PySem.W.Frag) (mg : Str → Option Value) (base : Heap) (st : Stmt) (x : Str) (ps : List Str) (k : Nat) (s : DSpec) : Prop where
  ex : ∃ (f : Addr) (fd : FuncData), mg x = some (.ref f) ∧ Fun K x x st f fd ∧ Binds K fd ps [] ∧ FnG P w K mg base CX0 k f fd ps (spOf K ps.length s)
theorem DF.mono {P : Program} {w : World} {K : PySem.W.Frag} {mg : Str → Option Value} {base : Heap} {st : Stmt} {x : Str} {ps : List Str} {k j : Nat} {s : DSpec} (h : DF P w K mg base st x ps k s) (hk : k ≤ j) : DF P w K mg base st x ps j s := by
  obtain ⟨f, fd, h1, h2, h3, h4⟩ := h.ex
  exact ⟨f, fd, h1, h2, h3, h4.mono hk⟩
def scal : D → Bool
  | .non => true
  | .bl _ => true
  | .int _ => true
  | .str _ => true
  | _ => false
theorem Rep.scal {K : PySem.W.Frag} {B B' : Hp} {d : D} {v : V} (h : Rep K B d v) (hs : DL.scal d = true) : Rep K B' d v := by
  cases h with
  | non => exact .non
  | bl b => exact .bl b
  | int i => exact .int i
  | str h => exact .str h
  | _ => cases hs
section
variable {K : PySem.W.Frag} {B B' : Kn} {H H' : Hp}
/-- what calls that look at nothing that changes are told -/
def Kn.still (B : Kn) : Kn := ⟨B.b, Mem.no⟩
theorem Base.still (h : Base K B H) : Base K B.still H := ⟨h.bh, fun _ _ z => nomatch (show (none : Option Mo) = some _ from z)⟩
theorem Grow.unstill (bs : Base K B H) (g : Grow K B.still H B' H') : Grow K B H ⟨B'.b, B.m⟩ H' := by
  have hk : ∀ a o, H a = some o → H' a = some o := fun a o e => g.h a o rfl e
  refine ⟨g.b, fun a o _ e => hk a o e, fun a z => z, fun a z => .inl z, g.f, ⟨g.base.bh, fun a o z => ?_⟩⟩
  obtain ⟨h1, h2⟩ := bs.wd a o z
  have e : H' a = H a := by
    cases q : H a with
    | none => exact absurd q h2.some
    | some u => exact hk a u q
  refine ⟨?_, h2.mono g.b e⟩
  show B'.b a = none
  cases q : B'.b a with
  | none => rfl
  | some u =>
    rcases g.f a u q with z | z
    · have z : B.b a = some u := z
      rw [h1] at z; cases z
    · exact absurd z h2.some
theorem Own.unstill {T : List Addr} (bs : Base K B H) (o : Own B.still H B' T) : Own B H ⟨B'.b, B.m⟩ T := ⟨o.nd, o.fr, o.nb, fun p hp => (bs.fresh (o.fr p hp)).2⟩
/-- .. of all that stands -/
def Kn.view (B : Kn) (H : Hp) : Kn := ⟨Hm B.m H, Mem.no⟩
theorem Base.view (h : Base K B H) : Base K (B.view H) H := ⟨Hm_ext, fun _ _ z => nomatch (show (none : Option Mo) = some _ from z)⟩
theorem Grow.unview (bs : Base K B H) (g : Grow K (B.view H) H B' H') : Grow K B H B H' := by
  have hk : ∀ a o, H a = some o → H' a = some o := fun a o e => g.h a o rfl e
  refine ⟨Ext.rfl, fun a o _ e => hk a o e, fun a z => z, fun a z => .inl z, fun a o e => .inl e, ⟨fun a o e => hk a o (bs.bh a o e), fun a o z => ?_⟩⟩
  obtain ⟨h1, h2⟩ := bs.wd a o z
  refine ⟨h1, h2.mono Ext.rfl ?_⟩
  cases q : H a with
  | none => exact absurd q h2.some
  | some u => exact hk a u q
end
variable {x : Str} {st : Stmt} {ps : List Str} {k : Nat} {s : DSpec} {p : Pos} {f : RA}
theorem RepOs.unfz {K : PySem.W.Frag} {B H : Hp} : ∀ {ds : List D} {vs : List V} {T : List Addr}, RepOs K B H (ds.map OT.fz) vs T → Reps K B ds vs ∧ T = []
  | [], _, _, h => by cases h; exact ⟨.nil, rfl⟩
  | d :: ds, _, _, h => by
    cases h with
    | cons r t =>
      cases r with
      | fz r =>
        obtain ⟨r', e⟩ := RepOs.unfz (ds := ds) t
        subst e
        exact ⟨.cons r r', rfl⟩
theorem RepOs.snoc {K : PySem.W.Frag} {B H : Hp} {u : OT} : ∀ {ts : List OT} {vs : List V} {T : List Addr}, RepOs K B H (ts ++ [u]) vs T → ∃ us v TA TB, vs = us ++ [v] ∧ T = TA ++ TB ∧ RepOs K B H ts us TA ∧ RepO K B H u v TB
  | [], _, _, h => by
    cases h with
    | cons r t => cases t; exact ⟨[], _, [], _, rfl, by simp, .nil, r⟩
  | t :: ts, _, _, h => by
    cases h with
    | cons r t =>
      obtain ⟨us, v, TA, TB, rfl, rfl, h1, h2⟩ := RepOs.snoc (ts := ts) t
      exact ⟨_ :: us, v, _ ++ TA, TB, rfl, by simp, .cons r h1, h2⟩
theorem eo_call (F : DF X.prog X.w X.K X.mg X.base st x ps k s) (hr : RG0 k X) (ha : AD X (e :: es) f) (hg : Gl X x := by rfl) (hdb : (x == ("__debug__" : Str)) = false := by decide)
    (he : starEach (e :: es) X.env = (false, eval e X.env) :: starEach es X.env := by rfl) (hpl : (backTo pos (starEach es X.env)).any (·.1) = false := by rfl) :
    EO X (.Call (.Name x p) (e :: es) [] pos) (fun ρ M P => f ρ M fun ds M => ds.length = ps.length ∧ ∃ i, s.pre i M ds ∧ ∀ t M', s.post i M t M' → P t M') := by
  obtain ⟨f, fd, hm, hF, hb, F⟩ := F.ex
  obtain ⟨ta, pa, sa⟩ := ha.ex
  refine ⟨_, pe_callG F hr hg hm hF.kp hb .nil pass0 pa hdb he hpl, fun B H ρ σ S P Q st hf kk => sa B H ρ σ S _ _ st hf fun ds vs B1 H1 g1 r1 p1 => ?_⟩
  obtain ⟨hl, i, p1, p2⟩ := p1
  refine ⟨i, B1, ds, g1.base, by rw [List.append_nil]; exact r1, hl, p1, fun t v B' H' T g r o q => ?_⟩
  exact kk t v B' H' T (g1.trans g) r (o.back g1) (p2 t _ q)
/-- .. of a def that looks at nothing that changes -/
theorem eo_callP (F : DF X.prog X.w X.K X.mg X.base st x ps k s) (hr : RG0 k X) (ha : AD X (e :: es) f) (hg : Gl X x := by rfl) (hdb : (x == ("__debug__" : Str)) = false := by decide)
    (he : starEach (e :: es) X.env = (false, eval e X.env) :: starEach es X.env := by rfl) (hpl : (backTo pos (starEach es X.env)).any (·.1) = false := by rfl) :
    EO X (.Call (.Name x p) (e :: es) [] pos) (fun ρ M P => f ρ M fun ds M => ds.length = ps.length ∧ ∃ i, s.pre i Mem.no ds ∧ ∀ t, (∃ M', s.post i Mem.no t M') → P t M) := by
  obtain ⟨f, fd, hm, hF, hb, F⟩ := F.ex
  obtain ⟨ta, pa, sa⟩ := ha.ex
  refine ⟨_, pe_callG F hr hg hm hF.kp hb .nil pass0 pa hdb he hpl, fun B H ρ σ S P Q st hf kk => sa B H ρ σ S _ _ st hf fun ds vs B1 H1 g1 r1 p1 => ?_⟩
  obtain ⟨hl, i, p1, p2⟩ := p1
  refine ⟨i, B1.still, ds, g1.base.still, by rw [List.append_nil]; exact r1, hl, p1, fun t v B' H' T g r o q => ?_⟩
  exact kk t v ⟨B'.b, B1.m⟩ H' T (g1.trans (Grow.unstill g1.base g)) r ((o.unstill g1.base).back g1) (p2 t ⟨_, q⟩)
/-- .. with arguments of one's own, and a plain answer -/
theorem ed_callV (F : DF X.prog X.w X.K X.mg X.base st x ps k s) (hr : RG0 k X) (ha : AV X (e :: es) f) (hg : Gl X x := by rfl) (hdb : (x == ("__debug__" : Str)) = false := by decide)
    (he : starEach (e :: es) X.env = (false, eval e X.env) :: starEach es X.env := by rfl) (hpl : (backTo pos (starEach es X.env)).any (·.1) = false := by rfl) :
    ED X (.Call (.Name x p) (e :: es) [] pos) (fun ρ M P => f ρ M fun ds M => ds.length = ps.length ∧ ∃ i, s.pre i Mem.no ds ∧ ∀ t, (∃ M', s.post i Mem.no t M') → ∃ d, t = .fz d ∧ scal d = true ∧ P d M) := by
  obtain ⟨f, fd, hm, hF, hb, F⟩ := F.ex
  obtain ⟨ta, pa, sa⟩ := ha.ex
  refine ⟨_, pe_callG F hr hg hm hF.kp hb .nil pass0 pa hdb he hpl, fun B H ρ σ S P Q st hf kk => sa B H ρ σ S _ _ st hf fun ds vs B1 H1 g1 r1 p1 => ?_⟩
  obtain ⟨hl, i, p1, p2⟩ := p1
  refine ⟨i, B1.view H1, ds, g1.base.view, by rw [List.append_nil]; exact r1, hl, p1, fun t v B' H' T g r o q => ?_⟩
  obtain ⟨d, rfl, hs, q⟩ := p2 t ⟨_, q⟩
  cases r with
  | fz r => exact kk d v B1 H' (g1.trans (Grow.unview g1.base g)) (r.scal hs) q
/-- .. whose last argument is a new list, to be changed there -/
theorem eo_callM {fo : RAO} (F : DF X.prog X.w X.K X.mg X.base st x ps k s) (hr : RG0 k X) (ha : AO X (e :: es) fo) (hg : Gl X x := by rfl) (hdb : (x == ("__debug__" : Str)) = false := by decide)
    (he : starEach (e :: es) X.env = (false, eval e X.env) :: starEach es X.env := by rfl) (hpl : (backTo pos (starEach es X.env)).any (·.1) = false := by rfl) :
    EO X (.Call (.Name x p) (e :: es) [] pos) (fun ρ M P => fo ρ M fun ts M => ∃ ds l, ts = ds.map .fz ++ [.ow (l.map .fz)] ∧ ds.length + 1 = ps.length ∧ ∀ q, M q = none → ∃ i, s.pre i (M.put q (.lst l)) (ds ++ [.mob q]) ∧ ∀ t M', s.post i (M.put q (.lst l)) t M' → P t M') := by
  obtain ⟨f, fd, hm, hF, hb, F⟩ := F.ex
  obtain ⟨ta, pa, sa⟩ := ha.ex
  refine ⟨_, pe_callG F hr hg hm hF.kp hb .nil pass0 pa hdb he hpl, fun B H ρ σ S P Q st hf kk => sa B H ρ σ S _ _ st hf fun ts vs B1 H1 T1 g1 r1 o1 p1 => ?_⟩
  obtain ⟨ds, l, rfl, hl, p1⟩ := p1
  obtain ⟨us, u, TA, TB, rfl, rfl, ra, rb⟩ := RepOs.snoc r1
  obtain ⟨ra', e1⟩ := RepOs.unfz ra
  subst e1
  cases rb with
  | @ow q xs _ T hq hlen hr =>
    obtain ⟨hr', e2⟩ := RepOs.unfz hr
    subst e2
    rw [List.nil_append] at o1
    have q1 := o1.nw q List.mem_cons_self
    obtain ⟨i, h1, h2⟩ := p1 q q1
    have g2 := g1.mob (o1.fr q List.mem_cons_self) (o1.nb q List.mem_cons_self) q1 (o := .lst l) ⟨xs, hq, by rw [List.length_map] at hlen; exact hlen, hr'⟩
    refine ⟨i, B1.put q (.lst l), ds ++ [D.mob q], g2.base, ?_, by rw [List.length_append]; exact hl, h1, fun t v B' H' T g r o z => ?_⟩
    · rw [List.append_nil]
      exact ra'.append (.cons (.mob q) .nil)
    · exact kk t v B' H' T (g2.trans g) r (o.back g2) (h2 t _ z)
/-- keywords' values -/
structure KD (X : Cx) (kws : List Keyword) (f : RA) : Prop where
  ex : ∃ te, PK X kws te ∧ SndA X.K te f
theorem kd_nil : KD X [] (fun _ M P => P [] M) := ⟨_, pk_nil, fun B H ρ σ S P Q st hf k => k [] [] B H st.base.grow .nil hf⟩
theorem kd_cons {nm : Option Str} {kpos : Pos} {kws : List Keyword} {f : RA} (h : ED X e fa) (h' : KD X kws f) : KD X (⟨nm, e, kpos⟩ :: kws) (fun ρ M P => fa ρ M fun d M => f ρ M fun ds M => P (d :: ds) M) := by
  obtain ⟨te, hp, hs1⟩ := h.ex
  obtain ⟨te', hp', hs'⟩ := h'.ex
  exact ⟨_, pk_cons hp hp', fun B H ρ σ S P Q st hf k => hs1 B H ρ σ S _ _ st hf fun d v B' H' g r p => hs' B' H' ρ σ S _ _ (st.grow g) p fun ds vs B2 H2 g2 r2 p2 => k (d :: ds) (v :: vs) B2 H2 (g.trans g2) (.cons (r.up g2.b) r2) p2⟩
theorem Reps.pick {K : PySem.W.Frag} {B : Hp} {ds : List D} {vs : List V} (r : Reps K B ds vs) : ∀ ix : List Nat, Reps K B (DL.pick ix ds) (DL.pick ix vs)
  | [] => .nil
  | i :: ix => by
    unfold DL.pick
    rw [List.filterMap_cons, List.filterMap_cons]
    cases q : ds[i]? with
    | none =>
      have : vs[i]? = none := by rw [List.getElem?_eq_none_iff] at q ⊢; rw [← r.length]; exact q
      rw [this]; exact Reps.pick r ix
    | some v =>
      obtain ⟨u, hu, ru⟩ := r.getD q
      rw [hu]
      exact .cons ru (Reps.pick r ix)
variable {kws : List Keyword} {ks : List Str} {fk : RA}
/-- a def that may have parameters by name alone -/
structure DFK (P : Program) (w : World) (K : PySem.W.Frag) (mg : Str → Option Value) (base : Heap) (st : Stmt) (x : Str) (ps : List Str) (k : Nat) (s : DSpec) : Prop where
  ex : ∃ (f : Addr) (fd : FuncData), mg x = some (.ref f) ∧ Fun K x x st f fd ∧ FnG P w K mg base CX0 k f fd ps (spOf K ps.length s)
theorem DF.kw {P : Program} {w : World} {K : PySem.W.Frag} {mg : Str → Option Value} {base : Heap} {st : Stmt} {x : Str} {ps : List Str} {k : Nat} {s : DSpec} (h : DF P w K mg base st x ps k s) : DFK P w K mg base st x ps k s := by
  obtain ⟨f, fd, h1, h2, _, h4⟩ := h.ex
  exact ⟨f, fd, h1, h2, h4⟩
theorem DFK.mono {P : Program} {w : World} {K : PySem.W.Frag} {mg : Str → Option Value} {base : Heap} {st : Stmt} {x : Str} {ps : List Str} {k j : Nat} {s : DSpec} (h : DFK P w K mg base st x ps k s) (hk : k ≤ j) : DFK P w K mg base st x ps j s := by
  obtain ⟨f, fd, h1, h2, h4⟩ := h.ex
  exact ⟨f, fd, h1, h2, h4.mono hk⟩
/-- f(e, .., k = v, ..): n positional ones, ix: which each parameter gets -/
theorem eo_callK (F : DFK X.prog X.w X.K X.mg X.base st x ps k s) (hr : RG0 k X) (n : Nat) (ks : List Str) (ix : List Nat) (hb : ∀ (kV doc pm : Value) (an : Option Addr) (cdv ct : Value) (us ws : List Value), us.length = n → ws.length = ks.length →
      bindArgs (PySem.W.fnOf x x (defArgs st) (defBody st) (defScope st) .none kV doc pm an cdv ct) ⟨us, ks.zip ws⟩ = pure (ps.zip (pick ix (us ++ ws))))
    (ha : AD X (e :: es) f) (hkw : KD X kws fk) (hg : Gl X x := by rfl) (hall : (backToKw pos (keywordEach kws X.env)).all (·.1.isSome) = true := by rfl) (hks : (backToKw pos (keywordEach kws X.env)).filterMap (·.1) = ks := by rfl) (hdb : (x == ("__debug__" : Str)) = false := by decide)
    (he : starEach (e :: es) X.env = (false, eval e X.env) :: starEach es X.env := by rfl) (hpl : ((backTo pos (starEach (e :: es) X.env)).any (·.1) || (backToKw pos (keywordEach kws X.env)).any (·.1.isNone)) = false := by rfl) :
    EO X (.Call (.Name x p) (e :: es) kws pos) (fun ρ M P => f ρ M fun ds M => fk ρ M fun zs M => ds.length = n ∧ zs.length = ks.length ∧ (pick ix (ds ++ zs)).length = ps.length ∧ ∃ i, s.pre i Mem.no (pick ix (ds ++ zs)) ∧ ∀ t, (∃ M', s.post i Mem.no t M') → P t M) := by
  obtain ⟨f, fd, hm, hF, F⟩ := F.ex
  obtain ⟨ta, pa, sa⟩ := ha.ex
  obtain ⟨tk, pk, sk⟩ := hkw.ex
  refine ⟨_, pe_callGk F hr hg hm hF.kp (Fun.kb hF n ks ix hb) pass0 pa pk hall hks hdb he hpl, fun B H ρ σ S P Q st hf kk => sa B H ρ σ S _ _ st hf fun ds vs B1 H1 g1 r1 p1 => sk B1 H1 ρ σ S _ _ (st.grow g1) p1 fun zs ws B2 H2 g2 r2 p2 => ?_⟩
  obtain ⟨l1, l2, l3, i, p3, p4⟩ := p2
  have r := (r1.up g2.b).append r2
  refine ⟨r1.length.symm.trans l1, r2.length.symm.trans l2, i, B2.still, _, g2.base.still, r.pick ix, l3, p3, fun t v B' H' T g r o q => ?_⟩
  exact kk t v ⟨B'.b, B2.m⟩ H' T ((g1.trans g2).trans (Grow.unstill g2.base g)) r ((o.unstill g2.base).back (g1.trans g2)) (p4 t ⟨_, q⟩)
theorem eo_callK0 (F : DFK X.prog X.w X.K X.mg X.base st x ps k s) (hr : RG0 k X) (ks : List Str) (ix : List Nat) (hb : ∀ (kV doc pm : Value) (an : Option Addr) (cdv ct : Value) (us ws : List Value), us.length = 0 → ws.length = ks.length →
      bindArgs (PySem.W.fnOf x x (defArgs st) (defBody st) (defScope st) .none kV doc pm an cdv ct) ⟨us, ks.zip ws⟩ = pure (ps.zip (pick ix (us ++ ws))))
    (hkw : KD X kws fk) (hg : Gl X x := by rfl) (hall : (backToKw pos (keywordEach kws X.env)).all (·.1.isSome) = true := by rfl) (hks : (backToKw pos (keywordEach kws X.env)).filterMap (·.1) = ks := by rfl) (hdb : (x == ("__debug__" : Str)) = false := by decide)
    (hpl : ((backTo pos (starEach [] X.env)).any (·.1) || (backToKw pos (keywordEach kws X.env)).any (·.1.isNone)) = false := by rfl) :
    EO X (.Call (.Name x p) [] kws pos) (fun ρ M P => fk ρ M fun zs M => zs.length = ks.length ∧ (pick ix zs).length = ps.length ∧ ∃ i, s.pre i Mem.no (pick ix zs) ∧ ∀ t, (∃ M', s.post i Mem.no t M') → P t M) := by
  obtain ⟨f, fd, hm, hF, F⟩ := F.ex
  obtain ⟨tk, pk, sk⟩ := hkw.ex
  refine ⟨_, pe_callGk0 F hr hg hm hF.kp (Fun.kb hF 0 ks ix hb) pass0 pk hall hks hdb hpl, fun B H ρ σ S P Q st hf kk => sk B H ρ σ S _ _ st hf fun zs ws B2 H2 g2 r2 p2 => ?_⟩
  obtain ⟨l2, l3, i, p3, p4⟩ := p2
  refine ⟨rfl, r2.length.symm.trans l2, i, B2.still, _, g2.base.still, r2.pick ix, l3, p3, fun t v B' H' T g r o q => ?_⟩
  exact kk t v ⟨B'.b, B2.m⟩ H' T (g2.trans (Grow.unstill g2.base g)) r ((o.unstill g2.base).back g2) (p4 t ⟨_, q⟩)
end
end DL

/-! DL4: what a loop walks, targets, list comprehensions. -/
namespace DL
open PySem L2
open PySem.PyData (strOk)
set_option autoImplicit false

/-! ### what is walked -/
/-- from what is known at B0 on, J yields these data -/
structure Walks (K : PySem.W.Frag) (J : It) (ds : List D) (B0 : Hp) : Prop where
  go : ∀ (B : Kn) (H : Hp) (i : Nat) (d : D), Ext B0 B.b → Base K B H → ds[i]? = some d → J.go i H ∧ ∀ x H', J.yld i H x H' → ∃ B', Grow K B H B' H' ∧ B'.m = B.m ∧ Rep K B'.b d x
  stop : ∀ (B : Kn) (H : Hp) (i : Nat), Ext B0 B.b → Base K B H → ds.length ≤ i → J.stop i H
abbrev RI := Env → Mem → (List D → Mem → Prop) → Prop
def SndI (K : PySem.W.Frag) (wi : TI) (f : RI) : Prop :=
  ∀ (B : Kn) (H : Hp) (ρ : Env) (σ : St) (S : List Addr) (P : List D → Mem → Prop) (R : It → Hp → Prop), Stt K B H ρ σ S → f ρ B.m P → (∀ ds J B' H', Grow K B H B' H' → Walks K J ds B'.b → ds.length ≤ sizeLine → P ds B'.m → R J H') → wi σ H R
structure EI (X : Cx) (tg iter : Expr) (f : RI) : Prop where
  ex : ∃ wi, PI X tg iter wi ∧ SndI X.K wi f

section
variable {X : Cx} {tg e a b c o : Expr} {es rest : List Expr} {pos : Pos} {fa fb fc : RD} {K : PySem.W.Frag}
theorem walks_list {B0 : Hp} {l : Addr} {vs : List V} {ds : List D} (h : B0 l = some (.lst vs)) (r : Reps K B0 ds vs) : Walks K (Itl K l) ds B0 where
  go := fun B H i d e bs hd => by
    obtain ⟨v, hv, rd⟩ := r.getD hd
    have hq : H l = some (.lst vs) := bs.bh _ _ (e _ _ h)
    refine ⟨⟨vs, v, Evl.sq_of hq, hv⟩, fun x H' y => ?_⟩
    obtain ⟨rfl, y⟩ := y
    have := y vs (Evl.sq_of hq)
    rw [hv] at this
    cases this
    exact ⟨B, bs.grow, rfl, rd.up e⟩
  stop := fun B H i e bs hi => ⟨vs, Evl.sq_of (bs.bh _ _ (e _ _ h)), by rw [← r.length]; exact hi⟩
theorem walks_tup {B0 : Hp} {l : Addr} {vs : List V} {ds : List D} (h : SqT K B0 l vs) (r : Reps K B0 ds vs) : Walks K (Itt K l) ds B0 where
  go := fun B H i d e bs hd => by
    obtain ⟨v, hv, rd⟩ := r.getD hd
    have hq : SqT K H l vs := Evl.ex_t bs.bh (Evl.ex_t e h)
    refine ⟨⟨vs, v, hq, hv⟩, fun x H' y => ?_⟩
    obtain ⟨rfl, y⟩ := y
    have := y vs hq
    rw [hv] at this
    cases this
    exact ⟨B, bs.grow, rfl, rd.up e⟩
  stop := fun B H i e bs hi => ⟨vs, Evl.ex_t bs.bh (Evl.ex_t e h), by rw [← r.length]; exact hi⟩
/-- a list or a tuple -/
def iSeq (K : PySem.W.Frag) (tl : TE) : TI := fun σ H R => tl σ H fun x H1 => ∃ a, x = .ref a ∧ (((∃ xs, SqL K H1 a xs) ∧ R (Itl K a) H1) ∨ ((∃ xs, SqT K H1 a xs) ∧ R (Itt K a) H1))
theorem pi_seq {l : Expr} {tl : TE} (hl : PE X l tl) : PI X tg l (iSeq X.K tl) := by
  refine ⟨fun pins s σ H R I h => ?_⟩
  refine thn (hl.run pins s σ H _ I h) fun v s1 ⟨x, H1, I1, r1, q1⟩ => ?_
  obtain ⟨a, e, q⟩ := q1
  subst e
  cases r1
  rcases q with ⟨⟨xs, hq⟩, q⟩ | ⟨⟨xs, hq⟩, q⟩
  · obtain ⟨its, rv, p, hz⟩ := I1.list hq
    refine wpAny_pyIter_list p.isList ?_
    refine ⟨s1.heap.objs.size, [s1.heap.objs.size], _, _, H1, rfl, I1.kept (t' := s1.toks) fun b o e => Heap.get?_push_of_some _ e, turn_list a _, ⟨_, Heap.get?_push_size _ rfl, rfl, rfl⟩, fun b hb => ?_, q⟩
    have e : b = s1.heap.objs.size := by simpa using hb
    subst e
    exact I1.fpOk (Nat.le_refl _) (I1.hok.fresh (Nat.le_refl _))
  · obtain ⟨its, rv, p, hz⟩ := I1.tuple hq
    refine wpAny_pyIter_tuple (show s1.heap.IsTuple a its.toArray from p) ?_
    refine ⟨s1.heap.objs.size, [s1.heap.objs.size], _, _, H1, rfl, I1.kept (t' := s1.toks) fun b o e => Heap.get?_push_of_some _ e, turn_tuple a _, ⟨_, Heap.get?_push_size _ rfl, rfl, rfl⟩, fun b hb => ?_, q⟩
    have e : b = s1.heap.objs.size := by simpa using hb
    subst e
    exact I1.fpOk (Nat.le_refl _) (I1.hok.fresh (Nat.le_refl _))
/-- what a sequence yields -/
def D.items : D → Option (List D)
  | .lst l => some l
  | .tup l => some l
  | .scr ns => some (ns.map D.int)
  | _ => none
theorem reps_ints {B : Hp} : ∀ ns : List Int, Reps K B (ns.map D.int) (ns.map V.int)
  | [] => .nil
  | n :: ns => .cons (.int n) (reps_ints ns)
theorem ei_seq (ha : ED X e fa) : EI X tg e (fun ρ M P => fa ρ M fun d M => ∃ l, d.items = some l ∧ l.length ≤ sizeLine ∧ P l M) := by
  obtain ⟨te, hp, hs⟩ := ha.ex
  refine ⟨_, pi_seq hp, fun B H ρ σ S P R st hf k => hs B H ρ σ S _ _ st hf fun d v B' H' g r p => ?_⟩
  obtain ⟨l, e, hz, p⟩ := p
  cases r with
  | lst h hl hr => cases e; exact ⟨_, rfl, .inl ⟨⟨_, Evl.sq_of (g.base.bh _ _ h)⟩, k l _ B' H' g (walks_list h hr) hl p⟩⟩
  | tup h hl hr => cases e; exact ⟨_, rfl, .inr ⟨⟨_, Evl.ex_t g.base.bh h⟩, k l _ B' H' g (walks_tup h hr) hl p⟩⟩
  | @scr a ns h =>
    cases e
    refine ⟨_, rfl, .inl ⟨⟨_, Evl.ex_l g.base.bh h⟩, k _ _ B' H' g ⟨fun B H i d e bs hd => ?_, fun B H i e bs hi => ?_⟩ hz p⟩⟩
    · have hq : SqL X.K H a (ns.map V.int) := Evl.ex_l bs.bh (Evl.ex_l e h)
      obtain ⟨v, hv, rd⟩ := (reps_ints (K := X.K) (B := B) ns).getD hd
      refine ⟨⟨_, v, hq, hv⟩, fun x H' y => ?_⟩
      obtain ⟨rfl, y⟩ := y
      have := y _ hq
      rw [hv] at this
      cases this
      exact ⟨B, bs.grow, rfl, rd⟩
    · exact ⟨_, Evl.ex_l bs.bh (Evl.ex_l e h), by simpa using hi⟩
  | _ => cases e
/-- range -/
def rngD (lo : Int) (n : Nat) : List D := (List.range n).map fun (i : Nat) => D.int (lo + (i : Int))
theorem rngD_get (lo : Int) (n i : Nat) : (rngD lo n)[i]? = if i < n then some (D.int (lo + i)) else none := by
  unfold rngD
  rw [List.getElem?_map]
  by_cases h : i < n
  · rw [if_pos h, List.getElem?_range h]; rfl
  · rw [if_neg h, List.getElem?_eq_none (by simpa using h)]; rfl
theorem rngD_len (lo : Int) (n : Nat) : (rngD lo n).length = n := by simp [rngD]
theorem walks_rng {B0 : Hp} (lo : Int) (n : Nat) : Walks K (Itr lo n) (rngD lo n) B0 where
  go := fun B H i d e bs hd => by
    rw [rngD_get] at hd
    by_cases h : i < n
    · rw [if_pos h] at hd
      cases hd
      refine ⟨h, fun x H' y => ?_⟩
      obtain ⟨rfl, rfl⟩ := y
      exact ⟨B, bs.grow, rfl, .int _⟩
    · rw [if_neg h] at hd; cases hd
  stop := fun B H i e bs hi => by
    have : n ≤ i := by simpa [rngD] using hi
    exact this
theorem rng_size {n : Nat} (lo : Int) (h : n ≤ 1000000) : (rngD lo n).length ≤ sizeLine := by
  have hs : sizeLine = 16777216 := sizeLine_eq
  rw [rngD_len]
  omega
theorem ei_range1 {p : Pos} {f : RA} (hm : X.mg "range" = none) (ha : AV X [a] f) (hg : Gl X "range" := by rfl) (hs : starEach [a] X.env = [(false, eval a X.env)] := by rfl) :
    EI X tg (.Call (.Name "range" p) [a] [] pos) (fun ρ M P => f ρ M fun ds M => ∃ j, ds = [.int j] ∧ -1000000 ≤ j ∧ j ≤ 1000000 ∧ P (rngD 0 j.toNat) M) := by
  obtain ⟨ta, pa, sa⟩ := ha.ex
  refine ⟨_, pi_range1 hg hm pa hs, fun B H ρ σ S P R st hf k => sa B H ρ σ S _ _ st hf fun ds vs B' H' g r p => ?_⟩
  obtain ⟨j, rfl, h1, h2, p⟩ := p
  cases r with
  | cons r rr =>
    cases rr
    cases r
    exact ⟨j, rfl, by omega, by omega, k _ _ B' H' g (walks_rng 0 _) (rng_size 0 (by omega)) p⟩
theorem ei_range2 {p : Pos} {f : RA} (hm : X.mg "range" = none) (ha : AV X [a, b] f) (hg : Gl X "range" := by rfl) (hs : starEach [a, b] X.env = [(false, eval a X.env), (false, eval b X.env)] := by rfl) (hs2 : starEach [b] X.env = [(false, eval b X.env)] := by rfl) :
    EI X tg (.Call (.Name "range" p) [a, b] [] pos) (fun ρ M P => f ρ M fun ds M => ∃ i j, ds = [.int i, .int j] ∧ -1000000 ≤ i ∧ i ≤ 1000000 ∧ -1000000 ≤ j ∧ j ≤ 1000000 ∧ P (rngD i (j - i).toNat) M) := by
  obtain ⟨ta, pa, sa⟩ := ha.ex
  refine ⟨_, pi_range2 hg hm pa hs hs2, fun B H ρ σ S P R st hf k => sa B H ρ σ S _ _ st hf fun ds vs B' H' g r p => ?_⟩
  obtain ⟨i, j, rfl, h1, h2, h3, h4, p⟩ := p
  cases r with
  | cons r rr =>
    cases rr with
    | cons r' rr =>
      cases rr
      cases r
      cases r'
      refine ⟨i, j, rfl, ⟨by omega, by omega, by omega, by omega⟩, k _ _ B' H' g (walks_rng i _) ?_ p⟩
      have hs : sizeLine = 16777216 := sizeLine_eq
      rw [rngD_len]
      omega
/-- zip -/
def zipD (xs ys : List D) : List D := List.zipWith (fun x y => D.tup [x, y]) xs ys
theorem zipD_len (xs ys : List D) : (zipD xs ys).length = min xs.length ys.length := by simp [zipD]
theorem zipD_get {xs ys : List D} {i : Nat} {d : D} (h : (zipD xs ys)[i]? = some d) : ∃ x y, xs[i]? = some x ∧ ys[i]? = some y ∧ d = .tup [x, y] := by
  unfold zipD at h
  rw [List.getElem?_zipWith] at h
  split at h
  · rename_i a b ha hb
    cases h
    exact ⟨a, b, ha, hb, rfl⟩
  · cases h
theorem pair_new {B : Kn} {H : Hp} {x y : D} {vx vy : V} {T : Addr} (bs : Base K B H) (rx : Rep K B x vx) (ry : Rep K B y vy) (hT : H T = none) : ∃ B', Grow K B H B' (upd H T (.tup [vx, vy])) ∧ B'.m = B.m ∧ Rep K B'.b (.tup [x, y]) (.ref T) := by
  have g := bs.new (o := .tup [vx, vy]) hT
  exact ⟨_, g, rfl, .tup (Evl.st_of upd_same) (by show 2 ≤ sizeLine; decide) (.cons (rx.up g.b) (.cons (ry.up g.b) .nil))⟩
theorem ei_zip {p tpos : Pos} {elts : List Expr} {kk : Nat} {f : RA} (hm : X.mg "zip" = none) (ha : AD X [a, b] f) (hg : Gl X "zip" := by rfl)
    (hs : starEach [a, b] X.env = (false, eval a X.env) :: starEach [b] X.env := by rfl) (hpl : (backTo pos (starEach [b] X.env)).any (·.1) = false := by rfl) :
    EI X (.Tuple elts kk tpos) (.Call (.Name "zip" p) [a, b] [] pos) (fun ρ M P => f ρ M fun ds M => ∃ xs ys, ((ds = [.lst xs, .lst ys]) ∨ (ds = [.tup xs, .tup ys])) ∧ P (zipD xs ys) M) := by
  obtain ⟨ta, pa, sa⟩ := ha.ex
  refine ⟨_, RZ.pi_zipA hg hm pa hs hpl, fun B H ρ σ S P R st hf k => sa B H ρ σ S _ _ st hf fun ds vs B' H' g r p => ?_⟩
  obtain ⟨xs, ys, hd, p⟩ := p
  have zl : ∀ {n : Nat}, xs.length ≤ n → (zipD xs ys).length ≤ n := fun {n} h => by rw [zipD_len]; omega
  rcases hd with rfl | rfl
  · cases r with
    | cons r rr =>
      cases rr with
      | cons r' rr =>
        cases rr
        cases r with
        | @lst a1 vs1 _ h1 l1 r1 =>
          cases r' with
          | @lst a2 vs2 _ h2 l2 r2 =>
            refine ⟨a1, a2, vs1, vs2, rfl, .inl ⟨Evl.sq_of (g.base.bh _ _ h1), Evl.sq_of (g.base.bh _ _ h2), k _ _ B' H' g ⟨fun B H i d e bs hd => ?_, fun B H i e bs hi => ?_⟩ (zl l1) p⟩⟩
            · obtain ⟨x, y, hx, hy, rfl⟩ := zipD_get hd
              obtain ⟨vx, ex, rx⟩ := r1.getD hx
              obtain ⟨vy, ey, ry⟩ := r2.getD hy
              have q1 := Evl.sq_of (K := X.K) (bs.bh _ _ (e _ _ h1))
              have q2 := Evl.sq_of (K := X.K) (bs.bh _ _ (e _ _ h2))
              refine ⟨⟨_, _, vx, vy, q1, q2, ex, ey⟩, fun x' H' y' => ?_⟩
              obtain ⟨T, u1, u2, rfl, hT, rfl, z1, z2⟩ := y'
              have := z1 _ q1
              rw [ex] at this
              cases this
              have := z2 _ q2
              rw [ey] at this
              cases this
              exact pair_new bs (rx.up e) (ry.up e) hT
            · refine ⟨_, _, Evl.sq_of (bs.bh _ _ (e _ _ h1)), Evl.sq_of (bs.bh _ _ (e _ _ h2)), ?_⟩
              rw [zipD_len] at hi
              rw [← r1.length, ← r2.length]
              omega
  · cases r with
    | cons r rr =>
      cases rr with
      | cons r' rr =>
        cases rr
        cases r with
        | @tup a1 vs1 _ h1 l1 r1 =>
          cases r' with
          | @tup a2 vs2 _ h2 l2 r2 =>
            refine ⟨a1, a2, vs1, vs2, rfl, .inr ⟨Evl.ex_t g.base.bh h1, Evl.ex_t g.base.bh h2, k _ _ B' H' g ⟨fun B H i d e bs hd => ?_, fun B H i e bs hi => ?_⟩ (zl l1) p⟩⟩
            · obtain ⟨x, y, hx, hy, rfl⟩ := zipD_get hd
              obtain ⟨vx, ex, rx⟩ := r1.getD hx
              obtain ⟨vy, ey, ry⟩ := r2.getD hy
              have q1 := Evl.ex_t (K := X.K) bs.bh (Evl.ex_t e h1)
              have q2 := Evl.ex_t (K := X.K) bs.bh (Evl.ex_t e h2)
              refine ⟨⟨_, _, vx, vy, q1, q2, ex, ey⟩, fun x' H' y' => ?_⟩
              obtain ⟨T, u1, u2, rfl, hT, rfl, z1, z2⟩ := y'
              have := z1 _ q1
              rw [ex] at this
              cases this
              have := z2 _ q2
              rw [ey] at this
              cases this
              exact pair_new bs (rx.up e) (ry.up e) hT
            · refine ⟨_, _, Evl.ex_t bs.bh (Evl.ex_t e h1), Evl.ex_t bs.bh (Evl.ex_t e h2), ?_⟩
              rw [zipD_len] at hi
              rw [← r1.length, ← r2.length]
              omega

/-! ### targets: names, tuples of them -/
abbrev RG := D → Env → Mem → (Env → Mem → Prop) → Prop
def SndG (K : PySem.W.Frag) (tg : TG) (is : List Nat) (g : RG) : Prop :=
  ∀ (B : Kn) (H : Hp) (ρ : Env) (σ : St) (S : List Addr) (d : D) (v : V) (P : Env → Mem → Prop) (Q : St → Hp → Prop), Stt K B H ρ σ S → Rep K B.b d v → g d ρ B.m P →
    (∀ ρ' σ' S' B' H', Grow K B H B' H' → Stt K B' H' ρ' σ' S' → (∀ p ∈ S', p ∈ S) → (∀ vs : List Nat, (∀ i ∈ is, i ∈ vs) → wipe σ' vs = wipe σ vs) → P ρ' B'.m → Q σ' H') → tg v σ H Q
structure EG (X : Cx) (e : Expr) (is : List Nat) (g : RG) : Prop where
  ex : ∃ t, PG X e t ∧ SndG X.K t is g
theorem Stt.set {B : Kn} {H : Hp} {ρ : Env} {σ : St} {S : List Addr} {i : Nat} {x : Option OT} {d : D} {v : V} (st : Stt K B H ρ σ S) (e : ρ[i]? = some x) (r : Rep K B d v) :
    ∃ S', Stt K B H (ρ.set i (some (.fz d))) (σ.set i (some v)) S' ∧ ∀ p ∈ S', p ∈ S := by
  obtain ⟨A, T, C, hS, h2, h3, h4, h5⟩ := st.sim.split e
  have sub : ∀ p ∈ A ++ C, p ∈ S := fun p hp => by
    rw [hS]
    rcases List.mem_append.mp hp with z | z
    · exact List.mem_append_left _ z
    · exact List.mem_append_right _ (List.mem_append_right _ z)
  refine ⟨A ++ ([] ++ C), ⟨st.base, h3 B H (.fz d) v [] Ext.rfl (fun _ _ => rfl) (.fz r), ?_, fun p hp => st.out p (sub p hp)⟩, sub⟩
  have nd := st.nd
  rw [hS] at nd
  exact nd.sublist (List.Sublist.append_left (List.sublist_append_right T C) A)
theorem wipe_set {i : Nat} {o : Option V} : ∀ {vs : List Nat} {σ : St}, i ∈ vs → wipe (σ.set i o) vs = wipe σ vs
  | [], _, h => by cases h
  | j :: vs, σ, h => by
    show (wipe (σ.set i o) vs).set j none = (wipe σ vs).set j none
    by_cases q : i ∈ vs
    · rw [wipe_set q]
    · have e : i = j := by
        rcases List.mem_cons.mp h with h | h
        · exact h
        · exact absurd h q
      subst e
      have go : ∀ (ws : List Nat) (τ : St), i ∉ ws → wipe (τ.set i o) ws = (wipe τ ws).set i o := by
        intro ws
        induction ws with
        | nil => intro τ _; rfl
        | cons w ws ih =>
          intro τ hw
          show (wipe (τ.set i o) ws).set w none = ((wipe τ ws).set w none).set i o
          rw [ih τ fun z => hw (List.mem_cons_of_mem _ z), List.set_comm]
          intro e
          exact hw (by rw [e]; exact List.mem_cons_self)
      rw [go vs σ q, List.set_set]
theorem eg_name (i : Nat) {x : Str} (hN : X.N.Nodup) (hi : X.N[i]? = some x := by rfl) (hx : Loc X.env.scope x := by first | exact Or.inl rfl | exact Or.inr rfl) (hf : X.fn x = true ∨ X.env.scope.names.lookup x = some .local := by first | exact .inl rfl | exact .inr rfl | assumption) :
    EG X (.Name x pos) [i] (fun d ρ M P => i < ρ.length ∧ P (ρ.set i (some (.fz d))) M) := by
  refine ⟨gName i, pg_name hN hi hx hf, fun B H ρ σ S d v P Q st r hg k => ?_⟩
  obtain ⟨S', st', sub⟩ := st.set (List.getElem?_eq_getElem hg.1) r
  exact k _ _ S' B H st.base.grow st' sub (fun vs hvs => wipe_set (hvs i (by simp))) hg.2
abbrev RGs := List D → Env → Mem → (Env → Mem → Prop) → Prop
def SndGs (K : PySem.W.Frag) (tg : TGs) (is : List Nat) (g : RGs) : Prop :=
  ∀ (B : Kn) (H : Hp) (ρ : Env) (σ : St) (S : List Addr) (d : List D) (v : List V) (P : Env → Mem → Prop) (Q : St → Hp → Prop), Stt K B H ρ σ S → Reps K B.b d v → g d ρ B.m P →
    (∀ ρ' σ' S' B' H', Grow K B H B' H' → Stt K B' H' ρ' σ' S' → (∀ p ∈ S', p ∈ S) → (∀ vs : List Nat, (∀ i ∈ is, i ∈ vs) → wipe σ' vs = wipe σ vs) → P ρ' B'.m → Q σ' H') → tg v σ H Q
structure EGs (X : Cx) (e : List Expr) (is : List Nat) (g : RGs) : Prop where
  ex : ∃ t, PGs X e t ∧ SndGs X.K t is g
theorem egs_nil : EGs X [] [] (fun ds ρ M P => ds = [] ∧ P ρ M) := by
  refine ⟨gNil, pgs_nil, fun B H ρ σ S d v P Q st r hg k => ?_⟩
  obtain ⟨rfl, p⟩ := hg
  cases r
  exact ⟨rfl, k ρ σ S B H st.base.grow st (fun _ h => h) (fun _ _ => rfl) p⟩
theorem egs_cons {is js : List Nat} {g : RG} {gs : RGs} (h : EG X e is g) (h' : EGs X es js gs) (hs : (assignEach (e :: es) X.env).map (·.2) = assign e X.env :: (assignEach es X.env).map (·.2) := by rfl) :
    EGs X (e :: es) (is ++ js) (fun ds ρ M P => ∃ d r, ds = d :: r ∧ g d ρ M fun ρ' M => gs r ρ' M P) := by
  obtain ⟨t, pg, sg⟩ := h.ex
  obtain ⟨ts, pgs, sgs⟩ := h'.ex
  refine ⟨_, pgs_cons pg pgs hs, fun B H ρ σ S d v P Q st r hg k => ?_⟩
  obtain ⟨d1, dr, rfl, hg⟩ := hg
  cases r with
  | cons r1 r2 =>
    refine ⟨_, _, rfl, sg B H ρ σ S _ _ _ _ st r1 hg fun ρ1 σ1 S1 B1 H1 g1 st1 sub1 w1 p1 => sgs B1 H1 ρ1 σ1 S1 _ _ _ _ st1 (r2.up g1.b) p1 fun ρ2 σ2 S2 B2 H2 g2 st2 sub2 w2 p2 => ?_⟩
    exact k ρ2 σ2 S2 B2 H2 (g1.trans g2) st2 (fun p hp => sub1 p (sub2 p hp)) (fun vs hvs => (w2 vs fun i hi => hvs i (List.mem_append_right _ hi)).trans (w1 vs fun i hi => hvs i (List.mem_append_left _ hi))) p2
theorem eg_tup {k : Nat} {is : List Nat} {gs : RGs} {n : Nat} (hc : X.calm = true) (h : EGs X es is gs) (hn : (assignEach es X.env).length = n := by rfl) (hst : (assignEach es X.env).findIdx? (·.1) = none := by rfl) :
    EG X (.Tuple es k pos) is (fun d ρ M P => ∃ ds, d = .tup ds ∧ ds.length = n ∧ gs ds ρ M P) := by
  obtain ⟨t, pgs, sgs⟩ := h.ex
  refine ⟨_, pg_tup hc pgs hn hst, fun B H ρ σ S d v P Q st r hg kk => ?_⟩
  obtain ⟨ds, rfl, hl, hg⟩ := hg
  cases r with
  | tup h1 h2 h3 => exact ⟨_, _, rfl, Evl.ex_t st.base.bh h1, by rw [← h3.length]; exact hl, sgs B H ρ σ S _ _ _ _ st h3 hg kk⟩

/-! ### list comprehensions -/
def wipeE : Env → List Nat → Env
  | ρ, [] => ρ
  | ρ, i :: vs => (wipeE ρ vs).set i none
theorem wipeE_length (ρ : Env) : ∀ vs : List Nat, (wipeE ρ vs).length = ρ.length
  | [] => rfl
  | i :: vs => by rw [wipeE, List.length_set, wipeE_length ρ vs]
theorem Stt.none {B : Kn} {H : Hp} {ρ : Env} {σ : St} {S : List Addr} (st : Stt K B H ρ σ S) (i : Nat) : ∃ S', Stt K B H (ρ.set i Option.none) (σ.set i Option.none) S' ∧ ∀ p ∈ S', p ∈ S := by
  by_cases hi : i < ρ.length
  · obtain ⟨A, T, C, hS, h2, h3, h4, h5⟩ := st.sim.split (List.getElem?_eq_getElem hi)
    have sub : ∀ p ∈ A ++ C, p ∈ S := fun p hp => by
      rw [hS]
      rcases List.mem_append.mp hp with z | z
      · exact List.mem_append_left _ z
      · exact List.mem_append_right _ (List.mem_append_right _ z)
    refine ⟨A ++ C, ⟨st.base, h4 B H Option.none Ext.rfl (fun _ _ => rfl), ?_, fun p hp => st.out p (sub p hp)⟩, sub⟩
    have nd := st.nd
    rw [hS] at nd
    exact nd.sublist (List.Sublist.append_left (List.sublist_append_right T C) A)
  · have e1 : ρ.set i Option.none = ρ := List.set_eq_of_length_le (by omega)
    have e2 : σ.set i Option.none = σ := List.set_eq_of_length_le (by have := st.sim.length; omega)
    rw [e1, e2]
    exact ⟨S, st, fun _ h => h⟩
theorem Stt.wipe {B : Kn} {H : Hp} {ρ : Env} {σ : St} {S : List Addr} (st : Stt K B H ρ σ S) : ∀ vs : List Nat, ∃ S', Stt K B H (wipeE ρ vs) (L2.wipe σ vs) S' ∧ ∀ p ∈ S', p ∈ S
  | [] => ⟨S, st, fun _ h => h⟩
  | i :: vs => by
    obtain ⟨S1, st1, h1⟩ := Stt.wipe st vs
    obtain ⟨S2, st2, h2⟩ := st1.none i
    exact ⟨S2, st2, fun p hp => h1 p (h2 p hp)⟩
/-- what a comprehension makes, item by item -/
def compD (g : RG) (f : RT) (t : RO) (ρ : Env) (P : List OT → Mem → Prop) : List D → List OT → Mem → Prop
  | [], acc, M => P acc M
  | d :: ds, acc, M => g d ρ M fun ρ' M => f ρ' M fun b M => if b = true then t ρ' M fun y M => compD g f t ρ P ds (acc ++ [y]) M else compD g f t ρ P ds acc M
structure ETs (X : Cx) (ifs : List Expr) (f : RT) : Prop where
  ex : ∃ t, PTs X ifs t ∧ SndT X.K t f
theorem ets_nil : ETs X [] (fun _ M P => P true M) := ⟨_, pts_nil, fun B H ρ σ S P Q st hf k => k true B H st.base.grow hf⟩
theorem ets_one {f : RT} (h : ET X c f) : ETs X [c] f := by
  obtain ⟨t, hp, hs⟩ := h.ex
  exact ⟨t, pts_one hp, hs⟩
end
end DL

/-! DL5: list comprehensions, statements, a def by its body. -/
namespace DL
open PySem L2 PySem.Spec
open PyProof.Rows hiding St
open PySem.PyData (strOk)
set_option autoImplicit false

/-! ### canonical readings -/
def cO (K : PySem.W.Frag) (f : RO) : TE := fun σ H Q => ∃ B ρ S P, Stt K B H ρ σ S ∧ f ρ B.m P ∧ ∀ t v B' H' T, Grow K B H B' H' → RepO K B'.b H' t v T → Own B H B' T → P t B'.m → Q v H'
def cT (K : PySem.W.Frag) (f : RT) : TT := fun σ H Q => ∃ B ρ S P, Stt K B H ρ σ S ∧ f ρ B.m P ∧ ∀ b B' H', Grow K B H B' H' → P b B'.m → Q b H'
def cI (K : PySem.W.Frag) (f : RI) : TI := fun σ H R => ∃ B ρ S P, Stt K B H ρ σ S ∧ f ρ B.m P ∧ ∀ ds J B' H', Grow K B H B' H' → Walks K J ds B'.b → ds.length ≤ sizeLine → P ds B'.m → R J H'
def cG (K : PySem.W.Frag) (is : List Nat) (g : RG) : TG := fun v σ H Q => ∃ B ρ S d P, Stt K B H ρ σ S ∧ Rep K B.b d v ∧ g d ρ B.m P ∧
  ∀ ρ' σ' S' B' H', Grow K B H B' H' → Stt K B' H' ρ' σ' S' → (∀ p ∈ S', p ∈ S) → (∀ vs : List Nat, (∀ i ∈ is, i ∈ vs) → wipe σ' vs = wipe σ vs) → P ρ' B'.m → Q σ' H'
section
variable {X : Cx} {tg e a b c o iter elt : Expr} {es rest ifs : List Expr} {pos : Pos} {fa fb fc : RD} {K : PySem.W.Frag}
theorem EO.run {f : RO} (h : EO X e f) : PE X e (cO X.K f) := by
  obtain ⟨te, hp, hs⟩ := h.ex
  refine ⟨fun pins s σ H Q I q => hp.run pins s σ H Q I ?_⟩
  obtain ⟨B, ρ, S, P, st, hf, k⟩ := q
  exact hs B H ρ σ S P Q st hf k
theorem EI.run {f : RI} (h : EI X tg e f) : PI X tg e (cI X.K f) := by
  obtain ⟨te, hp, hs⟩ := h.ex
  refine ⟨fun pins s σ H Q I q => hp.run pins s σ H Q I ?_⟩
  obtain ⟨B, ρ, S, P, st, hf, k⟩ := q
  exact hs B H ρ σ S P Q st hf k
theorem ETs.run {f : RT} (h : ETs X ifs f) : PTs X ifs (cT X.K f) := by
  obtain ⟨te, hp, hs⟩ := h.ex
  refine ⟨fun pins s σ H Q I q => hp.run pins s σ H Q I ?_⟩
  obtain ⟨B, ρ, S, P, st, hf, k⟩ := q
  exact hs B H ρ σ S P Q st hf k
theorem EG.run {is : List Nat} {g : RG} (h : EG X e is g) : PG X e (cG X.K is g) := by
  obtain ⟨te, hp, hs⟩ := h.ex
  refine ⟨fun pins s σ H v u Q I r q => hp.run pins s σ H v u Q I r ?_⟩
  obtain ⟨B, ρ, S, d, P, st, rd, hg, k⟩ := q
  exact hs B H ρ σ S d v P Q st rd hg k

theorem wipe_wipe (σ : St) : ∀ vs us : List Nat, (∀ i ∈ vs, i ∈ us) → wipe (wipe σ vs) us = wipe σ us
  | [], _, _ => rfl
  | i :: vs, us, h => by
    show wipe ((wipe σ vs).set i none) us = _
    rw [wipe_set (h i List.mem_cons_self)]
    exact wipe_wipe σ vs us fun j hj => h j (List.mem_cons_of_mem _ hj)
/-- one's own object at p changes -/
theorem Base.mut {B : Kn} {H : Hp} {p : Addr} {o : HO} (h : Base K B H) (hb : B.b p = none) (nd : B.m p = none) : Base K B (upd H p o) :=
  ⟨fun a u e => by rw [upd_ne (ne_of_none e hb)]; exact h.bh a u e, fun a u z => by
    have k : a ≠ p := fun q => by rw [q, nd] at z; cases z
    exact ⟨(h.wd a u z).1, (h.wd a u z).2.mono Ext.rfl (upd_ne k)⟩⟩
theorem Grow.mut {B0 B : Kn} {H0 H : Hp} {p : Addr} {o : HO} (g : Grow K B0 H0 B H) (h0 : H0 p = none) (hb : B.b p = none) (nd : B.m p = none) : Grow K B0 H0 B (upd H p o) :=
  ⟨g.b, fun a u z e => by rw [upd_ne (ne_of_none e h0)]; exact g.h a u z e, g.d, g.n, g.f, g.base.mut hb nd⟩

/-- a list under way at D: its items' trees stand apart -/
structure LcA (K : PySem.W.Frag) (Bz : Kn) (Hz : Hp) (D : Addr) (B : Kn) (H : Hp) (acc : List OT) : Prop where
  gr : Grow K Bz Hz B H
  nb : B.b D = none
  nm : B.m D = none
  ex : ∃ xs T, H D = some (.lst xs) ∧ RepOs K B.b H acc xs T ∧ Own Bz Hz B T ∧ D ∉ T
theorem LcA.grow {Bz B B' : Kn} {Hz H H' : Hp} {D : Addr} {acc : List OT} (a : LcA K Bz Hz D B H acc) (g : Grow K B H B' H') : LcA K Bz Hz D B' H' acc := by
  obtain ⟨xs, T, h1, h2, h3, h4⟩ := a.ex
  have hDn : H D ≠ none := by rw [h1]; exact fun z => nomatch z
  refine ⟨a.gr.trans g, ?_, g.nm a.nm hDn, xs, T, g.h D _ a.nm h1, h2.mono g.b _ _ _ fun q hq => g.same (h2.some q hq) (h3.nw q hq), ⟨h3.nd, h3.fr, fun q hq => ?_, fun q hq => g.nm (h3.nw q hq) (fun e => by have := h2.some q hq; rw [e] at this; cases this)⟩, h4⟩
  · cases q : B'.b D with
    | none => rfl
    | some o =>
      rcases g.f D o q with z | z
      · rw [a.nb] at z; cases z
      · exact absurd z hDn
  · cases z : B'.b q with
    | none => rfl
    | some o =>
      rcases g.f q o z with z | z
      · rw [h3.nb q hq] at z; cases z
      · have := h2.some q hq; rw [z] at this; cases this
theorem RepOs.append {B H : Hp} : ∀ {l m : List OT} {xs ys : List V} {T U : List Addr}, RepOs K B H l xs T → RepOs K B H m ys U → RepOs K B H (l ++ m) (xs ++ ys) (T ++ U)
  | _, _, _, _, _, _, .nil, s => s
  | _, _, _, _, _, _, .cons r t, s => by rw [List.append_assoc]; exact .cons r (RepOs.append t s)
/-- growth of all but D -/
structure GrD (K : PySem.W.Frag) (D : Addr) (B : Kn) (H : Hp) (B' : Kn) (H' : Hp) : Prop where
  b : Ext B.b B'.b
  h : ∀ a o, a ≠ D → B.m a = none → H a = some o → H' a = some o
  n : ∀ a, B'.m a ≠ none → B.m a ≠ none ∨ H a = none
  f : ∀ a o, B'.b a = some o → B.b a = some o ∨ H a = none
  s : ∀ a, H a ≠ none → H' a ≠ none
  base : Base K B' H'
theorem Base.grD {B : Kn} {H : Hp} {D : Addr} (b : Base K B H) : GrD K D B H B H := ⟨Ext.rfl, fun _ _ _ _ e => e, fun _ z => .inl z, fun _ _ e => .inl e, fun _ z => z, b⟩
theorem GrD.step {D : Addr} {B B1 B2 : Kn} {H H1 H2 : Hp} (g : GrD K D B H B1 H1) (k : Grow K B1 H1 B2 H2) : GrD K D B H B2 H2 := by
  have fr : ∀ a, H1 a = none → H a = none := fun a e => by
    by_cases z : H a = none
    · exact z
    · exact absurd e (g.s a z)
  refine ⟨g.b.trans k.b, fun a o z m e => ?_, fun a z => ?_, fun a o e => ?_, fun a z q => g.s a z (k.free q), k.base⟩
  · have h1 := g.h a o z m e
    refine k.h a o ?_ h1
    by_cases q : B1.m a = none
    · exact q
    · rcases g.n a q with w | w
      · exact absurd m w
      · rw [e] at w; cases w
  · rcases k.n a z with q | q
    · exact g.n a q
    · exact .inr (fr a q)
  · rcases k.f a o e with q | q
    · exact g.f a o q
    · exact .inr (fr a q)
theorem GrD.at {D : Addr} {B B1 : Kn} {H H1 : Hp} {o : HO} (g : GrD K D B H B1 H1) (nb : B1.b D = none) (nm : B1.m D = none) : GrD K D B H B1 (upd H1 D o) := by
  refine ⟨g.b, fun a o z m e => by rw [upd_ne z]; exact g.h a o z m e, g.n, g.f, fun a z => ?_, g.base.mut nb nm⟩
  by_cases q : a = D
  · rw [q, upd_same]; exact fun z => nomatch z
  · rw [upd_ne q]; exact g.s a z
theorem Stt.growD {D : Addr} {B B1 : Kn} {H H1 : Hp} {ρ : Env} {σ : L2.St} {S : List Addr} (s : Stt K B H ρ σ S) (hD : D ∉ S) (g : GrD K D B H B1 H1) : Stt K B1 H1 ρ σ S := by
  have nd : ∀ p ∈ S, p ≠ D := fun p hp e => hD (e ▸ hp)
  have he : ∀ p ∈ S, H1 p = H p := fun p hp => by
    cases q : H p with
    | none => exact absurd q (s.some_of hp)
    | some o => exact g.h p o (nd p hp) (s.out p hp).2 q
  refine ⟨g.base, SimE.mono g.b he s.sim, s.nd, fun p hp => ⟨?_, ?_⟩⟩
  · cases q : B1.b p with
    | none => rfl
    | some o =>
      rcases g.f p o q with z | z
      · rw [(s.out p hp).1] at z; cases z
      · exact absurd z (s.some_of hp)
  · by_cases q : B1.m p = Option.none
    · exact q
    · rcases g.n p q with z | z
      · exact absurd (s.out p hp).2 z
      · exact absurd z (s.some_of hp)
theorem LcA.push {Bz B B' : Kn} {Hz H H' : Hp} {D : Addr} {acc : List OT} {t : OT} {v : V} {U : List Addr} (a : LcA K Bz Hz D B H acc) (hD : Hz D = none) (g : Grow K B H B' H') (r : RepO K B'.b H' t v U) (o : Own B H B' U) :
    ∃ xs, H' D = some (.lst xs) ∧ xs.length = acc.length ∧ LcA K Bz Hz D B' (upd H' D (.lst (xs ++ [v]))) (acc ++ [t]) := by
  obtain ⟨xs, T, h1, h2, h3, h4⟩ := a.ex
  have a' := a.grow g
  have hDU : D ∉ U := fun z => by have := o.fr D z; rw [h1] at this; cases this
  refine ⟨xs, g.h D _ a.nm h1, h2.length.symm, a'.gr.mut hD a'.nb a'.nm, a'.nb, a'.nm, xs ++ [v], T ++ U, upd_same, ?_, ?_, fun z => (List.mem_append.mp z).elim h4 hDU⟩
  · have h2' : RepOs K B'.b H' acc xs T := h2.mono g.b _ _ _ fun q hq => g.same (h2.some q hq) (h3.nw q hq)
    have := h2'.append (.cons r .nil)
    rw [List.append_nil] at this
    exact this.mono Ext.rfl _ _ _ fun q hq => upd_ne fun z => (List.mem_append.mp (z ▸ hq)).elim h4 hDU
  · exact h3.join h2.some g (o.back a.gr) o.fr
/-- .. with their number looked at -/
def compS (g : RG) (f : RT) (t : RO) (ρ : Env) (P : List OT → Mem → Prop) : List D → List OT → Mem → Prop
  | [], acc, M => P acc M
  | d :: ds, acc, M => g d ρ M fun ρ' M => f ρ' M fun b M => if b = true then t ρ' M fun y M => acc.length < sizeLine ∧ compS g f t ρ P ds (acc ++ [y]) M else compS g f t ρ P ds acc M
theorem lc_loop {Bz B1 : Kn} {Hz H1 : Hp} {D : Addr} (hD : Hz D = none) {ρ : Env} {σ : L2.St} {S : List Addr} (st : Stt K B1 H1 ρ σ S) (hDS : D ∉ S) {J : It} {ds : List DL.D} (wk : Walks K J ds B1.b) {is vs : List Nat} (his : ∀ i ∈ is, i ∈ vs) {g : RG} {f : RT} {t : RO} {P : List OT → Mem → Prop} {acc0 : List OT}
    (a0 : LcA K Bz Hz D B1 H1 acc0) (hsz : acc0.length + ds.length ≤ sizeLine) (hc : compD g f t (wipeE ρ vs) P ds acc0 B1.m) {Fin : Hp → Prop} (hfin : ∀ B' H' acc, LcA K Bz Hz D B' H' acc → acc.length ≤ acc0.length + ds.length → P acc B'.m → Fin H') :
    ∃ W : Nat → Nat → Hp → Prop, (∃ m, W 0 m H1) ∧ ∀ i m H, W i m H → (J.stop i H ∧ Fin H) ∨ (J.go i H ∧ ∃ Nx : Hp → Prop, (∀ H', Nx H' → ∃ m', m' < m ∧ W (i + 1) m' H') ∧ ∀ x H', J.yld i H x H' →
      cG K is g x (wipe σ vs) H' fun σ2 H2 => wipe σ2 vs = wipe σ vs ∧ cT K f σ2 H2 fun b H3 => if b = true then cO K t σ2 H3 fun y H4 => ∃ acc, H4 D = some (.lst acc) ∧ acc.length < sizeLine ∧ Nx (upd H4 D (.lst (acc ++ [y]))) else Nx H3) := by
  refine ⟨fun i m H' => m = ds.length - i ∧ i ≤ ds.length ∧ ∃ B' acc, GrD K D B1 H1 B' H' ∧ LcA K Bz Hz D B' H' acc ∧ acc.length ≤ acc0.length + i ∧ compD g f t (wipeE ρ vs) P (ds.drop i) acc B'.m, ⟨ds.length, by simp, Nat.zero_le _, B1, acc0, st.base.grD, a0, Nat.le_refl _, hc⟩, ?_⟩
  rintro i m H2 ⟨rfl, hle, B2, acc, g2, a2, hacc, c2⟩
  by_cases hlt : i < ds.length
  · refine .inr ?_
    obtain ⟨go, yl⟩ := wk.go B2 H2 i ds[i] g2.b g2.base (List.getElem?_eq_getElem hlt)
    refine ⟨go, fun H' => i + 1 ≤ ds.length ∧ ∃ B' acc, GrD K D B1 H1 B' H' ∧ LcA K Bz Hz D B' H' acc ∧ acc.length ≤ acc0.length + (i + 1) ∧ compD g f t (wipeE ρ vs) P (ds.drop (i + 1)) acc B'.m, fun H' hN => ⟨ds.length - (i + 1), by omega, rfl, hN⟩, fun x H3 y3 => ?_⟩
    obtain ⟨B3, g3, em, rx⟩ := yl x H3 y3
    rw [List.drop_eq_getElem_cons hlt, ← em] at c2
    replace c2 : g ds[i] (wipeE ρ vs) B3.m fun ρ' M => f ρ' M fun b M => if b = true then t ρ' M fun y M => compD g f t (wipeE ρ vs) P (ds.drop (i + 1)) (acc ++ [y]) M else compD g f t (wipeE ρ vs) P (ds.drop (i + 1)) acc M := c2
    obtain ⟨S3, st3, _⟩ := (st.growD hDS (g2.step g3)).wipe vs
    refine ⟨B3, _, S3, ds[i], _, st3, rx, c2, fun ρ4 σ4 S4 Bg Hg gg st4 _ hw p4 => ?_⟩
    replace g3 := g3.trans gg
    refine ⟨(hw vs his).trans (wipe_wipe σ vs vs fun _ h => h), Bg, ρ4, S4, _, st4, p4, fun b B5 H5 g5 p5 => ?_⟩
    have a5 := a2.grow (g3.trans g5)
    cases b with
    | false => exact ⟨hlt, B5, acc, (g2.step g3).step g5, a5, by omega, p5⟩
    | true =>
      refine ⟨B5, ρ4, S4, _, st4.grow g5, p5, fun d v B6 H6 T6 g6 r6 o6 p6 => ?_⟩
      obtain ⟨xs, h6, hl6, a6⟩ := a5.push hD g6 r6 o6
      exact ⟨xs, h6, (by rw [hl6]; omega), hlt, B6, acc ++ [d], (((g2.step g3).step g5).step g6).at a6.nb a6.nm, a6, by simp; omega, p6⟩
  · have e : i = ds.length := by omega
    subst e
    refine .inl ⟨wk.stop B2 H2 _ g2.b g2.base (Nat.le_refl _), ?_⟩
    rw [List.drop_length] at c2
    exact hfin B2 H2 acc a2 hacc c2
theorem lc_loopS {Bz B1 : Kn} {Hz H1 : Hp} {D : Addr} (hD : Hz D = none) {ρ : Env} {σ : L2.St} {S : List Addr} (st : Stt K B1 H1 ρ σ S) (hDS : D ∉ S) {J : It} {ds : List DL.D} (wk : Walks K J ds B1.b) {is vs : List Nat} (his : ∀ i ∈ is, i ∈ vs) {g : RG} {f : RT} {t : RO} {P : List OT → Mem → Prop} {acc0 : List OT}
    (a0 : LcA K Bz Hz D B1 H1 acc0) (hc : compS g f t (wipeE ρ vs) P ds acc0 B1.m) {Fin : Hp → Prop} (hfin : ∀ B' H' acc, LcA K Bz Hz D B' H' acc → acc.length ≤ acc0.length + ds.length → P acc B'.m → Fin H') :
    ∃ W : Nat → Nat → Hp → Prop, (∃ m, W 0 m H1) ∧ ∀ i m H, W i m H → (J.stop i H ∧ Fin H) ∨ (J.go i H ∧ ∃ Nx : Hp → Prop, (∀ H', Nx H' → ∃ m', m' < m ∧ W (i + 1) m' H') ∧ ∀ x H', J.yld i H x H' →
      cG K is g x (wipe σ vs) H' fun σ2 H2 => wipe σ2 vs = wipe σ vs ∧ cT K f σ2 H2 fun b H3 => if b = true then cO K t σ2 H3 fun y H4 => ∃ acc, H4 D = some (.lst acc) ∧ acc.length < sizeLine ∧ Nx (upd H4 D (.lst (acc ++ [y]))) else Nx H3) := by
  refine ⟨fun i m H' => m = ds.length - i ∧ i ≤ ds.length ∧ ∃ B' acc, GrD K D B1 H1 B' H' ∧ LcA K Bz Hz D B' H' acc ∧ acc.length ≤ acc0.length + i ∧ compS g f t (wipeE ρ vs) P (ds.drop i) acc B'.m, ⟨ds.length, by simp, Nat.zero_le _, B1, acc0, st.base.grD, a0, Nat.le_refl _, hc⟩, ?_⟩
  rintro i m H2 ⟨rfl, hle, B2, acc, g2, a2, hacc, c2⟩
  by_cases hlt : i < ds.length
  · refine .inr ?_
    obtain ⟨go, yl⟩ := wk.go B2 H2 i ds[i] g2.b g2.base (List.getElem?_eq_getElem hlt)
    refine ⟨go, fun H' => i + 1 ≤ ds.length ∧ ∃ B' acc, GrD K D B1 H1 B' H' ∧ LcA K Bz Hz D B' H' acc ∧ acc.length ≤ acc0.length + (i + 1) ∧ compS g f t (wipeE ρ vs) P (ds.drop (i + 1)) acc B'.m, fun H' hN => ⟨ds.length - (i + 1), by omega, rfl, hN⟩, fun x H3 y3 => ?_⟩
    obtain ⟨B3, g3, em, rx⟩ := yl x H3 y3
    rw [List.drop_eq_getElem_cons hlt, ← em] at c2
    replace c2 : g ds[i] (wipeE ρ vs) B3.m fun ρ' M => f ρ' M fun b M => if b = true then t ρ' M fun y M => acc.length < sizeLine ∧ compS g f t (wipeE ρ vs) P (ds.drop (i + 1)) (acc ++ [y]) M else compS g f t (wipeE ρ vs) P (ds.drop (i + 1)) acc M := c2
    obtain ⟨S3, st3, _⟩ := (st.growD hDS (g2.step g3)).wipe vs
    refine ⟨B3, _, S3, ds[i], _, st3, rx, c2, fun ρ4 σ4 S4 Bg Hg gg st4 _ hw p4 => ?_⟩
    replace g3 := g3.trans gg
    refine ⟨(hw vs his).trans (wipe_wipe σ vs vs fun _ h => h), Bg, ρ4, S4, _, st4, p4, fun b B5 H5 g5 p5 => ?_⟩
    have a5 := a2.grow (g3.trans g5)
    cases b with
    | false => exact ⟨hlt, B5, acc, (g2.step g3).step g5, a5, by omega, p5⟩
    | true =>
      refine ⟨B5, ρ4, S4, _, st4.grow g5, p5, fun d v B6 H6 T6 g6 r6 o6 p6 => ?_⟩
      obtain ⟨xs, h6, hl6, a6⟩ := a5.push hD g6 r6 o6
      exact ⟨xs, h6, (by rw [hl6]; exact p6.1), hlt, B6, acc ++ [d], (((g2.step g3).step g5).step g6).at a6.nb a6.nm, a6, by simp; omega, p6.2⟩
  · have e : i = ds.length := by omega
    subst e
    refine .inl ⟨wk.stop B2 H2 _ g2.b g2.base (Nat.le_refl _), ?_⟩
    rw [List.drop_length] at c2
    exact hfin B2 H2 acc a2 hacc c2
theorem LcA.start {B1 : Kn} {H1 : Hp} {D : Addr} (b : Base K B1 H1) (hD : H1 D = none) : LcA K B1 H1 D B1 (upd H1 D (.lst [])) [] := by
  obtain ⟨gD, bD, nD⟩ := b.newO (o := .lst []) hD
  exact ⟨gD, bD, nD, [], [], upd_same, .nil, .nil, fun h => nomatch h⟩
theorem LcA.fin {Bz B : Kn} {Hz H : Hp} {D : Addr} {acc : List OT} (a : LcA K Bz Hz D B H acc) (hD : Hz D = none) (hl : acc.length ≤ sizeLine) : ∃ T, RepO K B.b H (.ow acc) (.ref D) T ∧ Own Bz Hz B T := by
  obtain ⟨xs, T, h1, h2, h3, h4⟩ := a.ex
  refine ⟨D :: T, .ow h1 hl h2, ⟨List.nodup_cons.mpr ⟨h4, h3.nd⟩, fun p hp => ?_, fun p hp => ?_, fun p hp => ?_⟩⟩
  all_goals rcases List.mem_cons.mp hp with rfl | hp
  · exact hD
  · exact h3.fr p hp
  · exact a.nb
  · exact h3.nb p hp
  · exact a.nm
  · exact h3.nw p hp
theorem snd_lc {wi : TI} {fi : RI} {is vs : List Nat} {g : RG} {f : RT} {t : RO} (hi : SndI K wi fi) (his : ∀ i ∈ is, i ∈ vs) :
    SndO K (tLc wi (cG K is g) (cT K f) (cO K t) vs) (fun ρ M P => fi ρ M fun items M => compD g f t (wipeE ρ vs) (fun l M => P (.ow l) M) items [] M) := by
  intro B H ρ σ S P Q st hf k
  refine hi B H ρ σ S _ _ st hf fun ds J B1 H1 g1 wk hsz hc => ?_
  intro D hD
  have a0 := LcA.start g1.base hD
  obtain ⟨gD, _⟩ := g1.base.newO (o := .lst []) hD
  exact lc_loop hD ((st.grow g1).grow gD) (fun z => (st.grow g1).some_of z hD) wk his a0 (by simpa using hsz) hc fun B' H' acc a hl p => by
    obtain ⟨T, r, o⟩ := a.fin hD (Nat.le_trans hl (by simpa using hsz))
    exact k _ _ B' H' T (g1.trans a.gr) r (o.back g1) p
/-- two sources -/
def comp2D (g : RG) (f : RT) (fi1 : RI) (vs1 : List Nat) (g1 : RG) (f1 : RT) (t : RO) (ρ : Env) (P : List OT → Mem → Prop) : List D → List OT → Mem → Prop
  | [], acc, M => P acc M
  | d :: ds, acc, M => g d ρ M fun ρ' M => f ρ' M fun b M => if b = true then fi1 ρ' M fun items M => compS g1 f1 t (wipeE ρ' vs1) (fun acc M => comp2D g f fi1 vs1 g1 f1 t ρ P ds acc M) items acc M else comp2D g f fi1 vs1 g1 f1 t ρ P ds acc M
theorem snd_lc2 {wi : TI} {fi fi1 : RI} {is is1 vs vs1 : List Nat} {g g1 : RG} {f f1 : RT} {t : RO} (hi : SndI K wi fi) (his : ∀ i ∈ is, i ∈ vs) (his1 : ∀ i ∈ is1, i ∈ vs1) :
    SndO K (tLc2 wi (cG K is g) (cT K f) (cI K fi1) (cG K is1 g1) (cT K f1) (cO K t) vs vs1) (fun ρ M P => fi ρ M fun items M => comp2D g f fi1 vs1 g1 f1 t (wipeE ρ vs) (fun l M => l.length ≤ sizeLine ∧ P (.ow l) M) items [] M) := by
  intro B H ρ σ S P Q st hf k
  refine hi B H ρ σ S _ _ st hf fun ds J B1 H1 gr1 wk hsz hc => ?_
  intro D hD
  have a0 := LcA.start gr1.base hD
  have st1 := st.grow gr1
  refine ⟨fun i m H' => m = ds.length - i ∧ i ≤ ds.length ∧ ∃ B' acc, LcA K B1 H1 D B' H' acc ∧ comp2D g f fi1 vs1 g1 f1 t (wipeE ρ vs) (fun l M => l.length ≤ sizeLine ∧ P (.ow l) M) (ds.drop i) acc B'.m, ⟨ds.length, by simp, Nat.zero_le _, B1, [], a0, hc⟩, ?_⟩
  rintro i m H2 ⟨rfl, hle, B2, acc, a2, c2⟩
  by_cases hlt : i < ds.length
  · refine .inr ?_
    obtain ⟨go, yl⟩ := wk.go B2 H2 i ds[i] a2.gr.b a2.gr.base (List.getElem?_eq_getElem hlt)
    refine ⟨go, fun H' => i + 1 ≤ ds.length ∧ ∃ B' acc, LcA K B1 H1 D B' H' acc ∧ comp2D g f fi1 vs1 g1 f1 t (wipeE ρ vs) (fun l M => l.length ≤ sizeLine ∧ P (.ow l) M) (ds.drop (i + 1)) acc B'.m, fun H' hN => ⟨ds.length - (i + 1), by omega, rfl, hN⟩, fun x H3 y3 => ?_⟩
    obtain ⟨B3, g3, em, rx⟩ := yl x H3 y3
    rw [List.drop_eq_getElem_cons hlt, ← em] at c2
    replace c2 : g ds[i] (wipeE ρ vs) B3.m fun ρ' M => f ρ' M fun b M => if b = true then fi1 ρ' M fun items M => compS g1 f1 t (wipeE ρ' vs1) (fun acc M => comp2D g f fi1 vs1 g1 f1 t (wipeE ρ vs) (fun l M => l.length ≤ sizeLine ∧ P (.ow l) M) (ds.drop (i + 1)) acc M) items acc M else comp2D g f fi1 vs1 g1 f1 t (wipeE ρ vs) (fun l M => l.length ≤ sizeLine ∧ P (.ow l) M) (ds.drop (i + 1)) acc M := c2
    obtain ⟨S3, st3, sub3⟩ := (st1.grow (a2.gr.trans g3)).wipe vs
    refine ⟨B3, _, S3, ds[i], _, st3, rx, c2, fun ρ4 σ4 S4 Bg Hg gg st4 sub4 hw p4 => ?_⟩
    replace g3 := g3.trans gg
    refine ⟨(hw vs his).trans (wipe_wipe σ vs vs fun _ h => h), Bg, ρ4, S4, _, st4, p4, fun b B5 H5 g5 p5 => ?_⟩
    have a5 := a2.grow (g3.trans g5)
    cases b with
    | false => exact ⟨hlt, B5, acc, a5, p5⟩
    | true =>
      refine ⟨B5, ρ4, S4, _, st4.grow g5, p5, fun ds1 J1 B6 H6 g6 wk1 _ p6 => ?_⟩
      exact lc_loopS hD ((st4.grow g5).grow g6) (fun z => st1.some_of (sub3 _ (sub4 _ z)) hD) wk1 his1 (a5.grow g6) p6 fun B' H' acc' a hl p => ⟨hlt, B', acc', a, p⟩
  · have e : i = ds.length := by omega
    subst e
    refine .inl ⟨wk.stop B2 H2 _ a2.gr.b a2.gr.base (Nat.le_refl _), ?_⟩
    rw [List.drop_length] at c2
    obtain ⟨T, r, o⟩ := a2.fin hD c2.1
    exact k _ _ B2 H2 T (gr1.trans a2.gr) r (o.back gr1) c2.2
/-- a context of a comprehension's block -/
abbrev BlkOf (X : Cx) (scope : Scope) (Y : Cx) : Prop := ∃ (s : Shared) (H : Hp) (C : Addr) (cl : List (Str × Addr)) (fp : List Addr), Y = X.blk s H scope (compEnvC scope cl C X.env) fp
theorem eo_lc {scope : Scope} {own : List (Str × Nat)} {fi : RI} {is : List Nat} {g : RG} {f : RT} {t : RO} (hc : X.calm = true) (hN : X.N.Nodup) (hi : EI X tg iter fi) (ok : BlkOk X.N X.env.scope scope own) (his : ∀ i ∈ is, i ∈ own.map (·.2))
    (hg : ∀ (s : Shared) (H : Hp) (C : Addr) (cl : List (Str × Addr)) (fp : List Addr), EG (X.blk s H scope (compEnvC scope cl C X.env) fp) tg is g)
    (ht : ∀ (s : Shared) (H : Hp) (C : Addr) (cl : List (Str × Addr)) (fp : List Addr), ETs (X.blk s H scope (compEnvC scope cl C X.env) fp) ifs f)
    (he : ∀ (s : Shared) (H : Hp) (C : Addr) (cl : List (Str × Addr)) (fp : List Addr), EO (X.blk s H scope (compEnvC scope cl C X.env) fp) elt t) (hs : ∀ x, foldedSetIterable iter X.env x = pure x := by intro _; rfl) :
    EO X (.ListComp elt [⟨tg, iter, ifs, 0⟩] scope pos) (fun ρ M P => fi ρ M fun items M => compD g f t (wipeE ρ (own.map (·.2))) (fun l M => P (.ow l) M) items [] M) := by
  obtain ⟨wi, pi, si⟩ := hi.ex
  exact ⟨_, pe_lc hc hN pi ok (fun s H C cl fp => (hg s H C cl fp).run) (fun s H C cl fp => (ht s H C cl fp).run) (fun s H C cl fp => (he s H C cl fp).run) hs, snd_lc si his⟩

/-- two sources; vs1: the second target's names -/
theorem eo_lc2 {tg1 iter1 : Expr} {ifs1 : List Expr} {scope : Scope} {own : List (Str × Nat)} {fi fi1 : RI} {is is1 : List Nat} {g g1 : RG} {f f1 : RT} {t : RO} (vs1 : List Nat) (hc : X.calm = true) (hN : X.N.Nodup) (hi : EI X tg iter fi) (ok : BlkOk X.N X.env.scope scope own) (his : ∀ i ∈ is, i ∈ own.map (·.2)) (his1 : ∀ i ∈ is1, i ∈ vs1) (hvs : ∀ i ∈ vs1, i ∈ own.map (·.2))
    (hg : ∀ (s : Shared) (H : Hp) (C : Addr) (cl : List (Str × Addr)) (fp : List Addr), EG (X.blk s H scope (compEnvC scope cl C X.env) fp) tg is g)
    (ht : ∀ (s : Shared) (H : Hp) (C : Addr) (cl : List (Str × Addr)) (fp : List Addr), ETs (X.blk s H scope (compEnvC scope cl C X.env) fp) ifs f)
    (hi1 : ∀ (s : Shared) (H : Hp) (C : Addr) (cl : List (Str × Addr)) (fp : List Addr), EI (X.blk s H scope (compEnvC scope cl C X.env) fp) tg1 iter1 fi1)
    (hg1 : ∀ (s : Shared) (H : Hp) (C : Addr) (cl : List (Str × Addr)) (fp : List Addr), EG (X.blk s H scope (compEnvC scope cl C X.env) fp) tg1 is1 g1)
    (ht1 : ∀ (s : Shared) (H : Hp) (C : Addr) (cl : List (Str × Addr)) (fp : List Addr), ETs (X.blk s H scope (compEnvC scope cl C X.env) fp) ifs1 f1)
    (he : ∀ (s : Shared) (H : Hp) (C : Addr) (cl : List (Str × Addr)) (fp : List Addr), EO (X.blk s H scope (compEnvC scope cl C X.env) fp) elt t) (hs : ∀ x, foldedSetIterable iter X.env x = pure x := by intro _; rfl) (hs1 : ∀ env x, foldedSetIterable iter1 env x = pure x := by intro _ _; rfl) :
    EO X (.ListComp elt [⟨tg, iter, ifs, 0⟩, ⟨tg1, iter1, ifs1, 0⟩] scope pos) (fun ρ M P => fi ρ M fun items M => comp2D g f fi1 vs1 g1 f1 t (wipeE ρ (own.map (·.2))) (fun l M => l.length ≤ sizeLine ∧ P (.ow l) M) items [] M) := by
  obtain ⟨wi, pi, si⟩ := hi.ex
  exact ⟨_, pe_lc2 hc hN pi ok (fun i hi => hvs i hi) (fun s H C cl fp => (hg s H C cl fp).run) (fun s H C cl fp => (ht s H C cl fp).run) (fun s H C cl fp => (hi1 s H C cl fp).run) (fun s H C cl fp => (hg1 s H C cl fp).run) (fun s H C cl fp => (ht1 s H C cl fp).run) (fun s H C cl fp => (he s H C cl fp).run) hs hs1, snd_lc2 si his his1⟩

/-! ### statements -/
structure DEnds where
  nx : Env → Mem → Prop
  rt : OT → Mem → Prop
  bk : Env → Mem → Prop := fun _ _ => False
  ct : Env → Mem → Prop := fun _ _ => False
/-- a state of a def that began at B0, H0 -/
structure SttF (K : PySem.W.Frag) (B0 : Kn) (H0 : Hp) (B : Kn) (H : Hp) (ρ : Env) (σ : St) (S : List Addr) : Prop where
  st : Stt K B H ρ σ S
  gr : Grow K B0 H0 B H
  fr : ∀ p ∈ S, H0 p = none
abbrev RS := DEnds → Env → Mem → Prop
def SndS (K : PySem.W.Frag) (tS : TS) (g : RS) : Prop :=
  ∀ (B0 : Kn) (H0 : Hp) (B : Kn) (H : Hp) (ρ : Env) (σ : St) (S : List Addr) (P : DEnds) (D : Ends), SttF K B0 H0 B H ρ σ S → g P ρ B.m →
    (∀ B' H' ρ' σ' S', SttF K B0 H0 B' H' ρ' σ' S' → P.nx ρ' B'.m → D.nx σ' H') →
    (∀ B' H' ρ' σ' S', SttF K B0 H0 B' H' ρ' σ' S' → P.bk ρ' B'.m → D.bk σ' H') →
    (∀ B' H' ρ' σ' S', SttF K B0 H0 B' H' ρ' σ' S' → P.ct ρ' B'.m → D.ct σ' H') →
    (∀ t v B' H' T, Grow K B0 H0 B' H' → RepO K B'.b H' t v T → Own B0 H0 B' T → P.rt t B'.m → D.rt v H') → tS D σ H
structure DS (X : Cx) (st : Stmt) (g : RS) : Prop where
  ex : ∃ t, PS X st t ∧ SndS X.K t g
structure DSs (X : Cx) (st : List Stmt) (g : RS) : Prop where
  ex : ∃ t, PSs X st t ∧ SndS X.K t g
variable {st : Stmt} {sts : List Stmt}
theorem dss_nil : DSs X [] (fun P ρ M => P.nx ρ M) := ⟨_, pss_nil, fun B0 H0 B H ρ σ S P D s hg k1 _ _ _ => k1 B H ρ σ S s hg⟩
/-- one statement, then the others; the mark keeps simp from looking further -/
inductive Mark (g h : RS) (P : DEnds) : Type
  | mk
def seqM (g h : RS) (P : DEnds) (_ : Mark g h P) (ρ : Env) (M : Mem) : Prop := g { P with nx := fun ρ' M => h P ρ' M } ρ M
def seqS (g h : RS) : RS := fun P ρ M => seqM g h P .mk ρ M
theorem seq_in {g h : RS} {P : DEnds} {m : Mark g h P} {ρ : Env} {M : Mem} (q : g { P with nx := fun ρ' M => h P ρ' M } ρ M) : seqM g h P m ρ M := q
theorem seqS_M {g h : RS} {P : DEnds} {ρ : Env} {M : Mem} : seqS g h P ρ M = seqM g h P .mk ρ M := rfl
theorem dss_cons {g h : RS} (h1 : DS X st g) (h2 : DSs X sts h) : DSs X (st :: sts) (seqS g h) := by
  obtain ⟨t, pt, stt⟩ := h1.ex
  obtain ⟨u, pu, su⟩ := h2.ex
  exact ⟨_, pss_cons pt pu, fun B0 H0 B H ρ σ S P D s hg k1 k2 k3 k4 => stt B0 H0 B H ρ σ S _ _ s hg (fun B' H' ρ' σ' S' s' p => su B0 H0 B' H' ρ' σ' S' P D s' p k1 k2 k3 k4) k2 k3 k4⟩
theorem SttF.grow {B0 B B1 : Kn} {H0 H H1 : Hp} {ρ : Env} {σ : St} {S : List Addr} (s : SttF K B0 H0 B H ρ σ S) (g : Grow K B H B1 H1) : SttF K B0 H0 B1 H1 ρ σ S := ⟨s.st.grow g, s.gr.trans g, s.fr⟩
/-- a name gets an owned tree that stands apart -/
theorem SttF.putA {B0 B : Kn} {H0 H : Hp} {ρ : Env} {σ : St} {S T1 : List Addr} {i : Nat} {t : OT} {v : V} (s : SttF K B0 H0 B H ρ σ S) (hi : i < ρ.length) (r : RepO K B.b H t v T1) (nd1 : T1.Nodup) (dis : ∀ p ∈ T1, p ∉ S) (o : ∀ p ∈ T1, (B.b p = none ∧ B.m p = none) ∧ H0 p = none) :
    ∃ S', SttF K B0 H0 B H (ρ.set i (some t)) (σ.set i (some v)) S' ∧ ∀ p ∈ S', p ∈ S ∨ p ∈ T1 := by
  have s1 := s.st
  obtain ⟨A, T, C, hS, h2, h3, h4, h5⟩ := s1.sim.split (List.getElem?_eq_getElem hi)
  have nd := s1.nd
  rw [hS] at nd
  have sub : ∀ p ∈ A ++ C, p ∈ S := fun p hp => by
    rw [hS]
    rcases List.mem_append.mp hp with z | z
    · exact List.mem_append_left _ z
    · exact List.mem_append_right _ (List.mem_append_right _ z)
  have ndAC : (A ++ C).Nodup := nd.sublist (List.Sublist.append_left (List.sublist_append_right T C) A)
  have mem : ∀ p ∈ A ++ (T1 ++ C), p ∈ S ∨ p ∈ T1 := fun p hp => by
    rcases List.mem_append.mp hp with z | z
    · exact .inl (sub p (List.mem_append_left _ z))
    · rcases List.mem_append.mp z with z | z
      · exact .inr z
      · exact .inl (sub p (List.mem_append_right _ z))
  refine ⟨A ++ (T1 ++ C), ⟨⟨s1.base, h3 B.b H t v T1 Ext.rfl (fun _ _ => rfl) r, ?_, fun p hp => (mem p hp).elim (s1.out p) fun z => (o p z).1⟩, s.gr, fun p hp => (mem p hp).elim (s.fr p) fun z => (o p z).2⟩, mem⟩
  rw [List.nodup_append] at ndAC
  rw [List.nodup_append, List.nodup_append]
  refine ⟨ndAC.1, ⟨nd1, ndAC.2.1, fun a ha b hb e => dis a ha (sub a (by rw [e]; exact List.mem_append_right _ hb))⟩, fun a ha b hb e => ?_⟩
  rcases List.mem_append.mp hb with z | z
  · exact dis b z (sub b (by rw [← e]; exact List.mem_append_left _ ha))
  · exact ndAC.2.2 a ha b z e
theorem SttF.apart {B0 B B1 : Kn} {H0 H : Hp} {ρ : Env} {σ : St} {S T1 : List Addr} (s : SttF K B0 H0 B H ρ σ S) (o : Own B H B1 T1) : (∀ p ∈ T1, p ∉ S) ∧ ∀ p ∈ T1, (B1.b p = none ∧ B1.m p = none) ∧ H0 p = none :=
  ⟨fun p hp hq => (by
    have := s.st.sim.some_of p hq
    rw [o.fr p hp] at this; cases this), fun p hp => ⟨⟨o.nb p hp, o.nw p hp⟩, s.gr.free (o.fr p hp)⟩⟩
theorem SttF.put {B0 B B1 : Kn} {H0 H H1 : Hp} {ρ : Env} {σ : St} {S T1 : List Addr} {i : Nat} {t : OT} {v : V} (s : SttF K B0 H0 B H ρ σ S) (hi : i < ρ.length) (g : Grow K B H B1 H1) (r : RepO K B1.b H1 t v T1) (o : Own B H B1 T1) :
    ∃ S', SttF K B0 H0 B1 H1 (ρ.set i (some t)) (σ.set i (some v)) S' := by
  obtain ⟨S', s', _⟩ := (s.grow g).putA hi r o.nd (s.apart o).1 (s.apart o).2
  exact ⟨S', s'⟩
/-- x = e, x gets the tree as it is -/
theorem snd_setO {i : Nat} {te : TE} {fo : RO} (h : SndO K te fo) : SndS K (tAsg te (gName i)) (fun P ρ M => fo ρ M fun t M => i < ρ.length ∧ P.nx (ρ.set i (some t)) M) := by
  intro B0 H0 B H ρ σ S P D s hg k1 k2 k3 k4
  refine h B H ρ σ S _ _ s.st hg fun t v B1 H1 T1 g r o p => ?_
  obtain ⟨S', s'⟩ := s.put p.1 g r o
  exact k1 _ _ _ _ S' s' p.2
theorem ds_setO (i : Nat) {x : Str} {pos' : Pos} {fo : RO} (hN : X.N.Nodup) (he : EO X e fo) (hi : X.N[i]? = some x := by rfl) (hx : Loc X.env.scope x := by first | exact Or.inl rfl | exact Or.inr rfl) (hs : swapsWith e (some (.Name x pos')) pos.line X.env = pure false := by rfl)
    (hf : X.fn x = true ∨ X.env.scope.names.lookup x = some .local := by first | exact .inl rfl | exact .inr rfl | assumption) : DS X (.Assign [.Name x pos'] e pos) (fun P ρ M => fo ρ M fun t M => i < ρ.length ∧ P.nx (ρ.set i (some t)) M) := by
  obtain ⟨te, hp, hs'⟩ := he.ex
  exact ⟨_, ps_set hN hi hx hp hs hf, snd_setO hs'⟩
theorem ds_set (i : Nat) {x : Str} {pos' : Pos} {f : RD} (hN : X.N.Nodup) (he : ED X e f) (hi : X.N[i]? = some x := by rfl) (hx : Loc X.env.scope x := by first | exact Or.inl rfl | exact Or.inr rfl) (hs : swapsWith e (some (.Name x pos')) pos.line X.env = pure false := by rfl)
    (hf : X.fn x = true ∨ X.env.scope.names.lookup x = some .local := by first | exact .inl rfl | exact .inr rfl | assumption) : DS X (.Assign [.Name x pos'] e pos) (fun P ρ M => f ρ M fun d M => i < ρ.length ∧ P.nx (ρ.set i (some (.fz d))) M) :=
  ds_setO i hN he.o hi hx hs hf
/-- x = [..] (a comprehension) -/
theorem ds_setLcO (i : Nat) {x : Str} {py spos : Pos} {scope : Scope} {own : List (Str × Nat)} {fi : RI} {is : List Nat} {g : RG} {f : RT} {t : RO} (hc : X.calm = true) (hN : X.N.Nodup) (hi : EI X tg iter fi) (ok : BlkOk X.N X.env.scope scope own) (his : ∀ i ∈ is, i ∈ own.map (·.2))
    (hg : ∀ (s : Shared) (H : Hp) (C : Addr) (cl : List (Str × Addr)) (fp : List Addr), EG (X.blk s H scope (compEnvC scope cl C X.env) fp) tg is g)
    (ht : ∀ (s : Shared) (H : Hp) (C : Addr) (cl : List (Str × Addr)) (fp : List Addr), ETs (X.blk s H scope (compEnvC scope cl C X.env) fp) ifs f)
    (he : ∀ (s : Shared) (H : Hp) (C : Addr) (cl : List (Str × Addr)) (fp : List Addr), EO (X.blk s H scope (compEnvC scope cl C X.env) fp) elt t)
    (hsw : swapsWith (.ListComp elt [⟨tg, iter, ifs, 0⟩] scope pos) (some (.Name x py)) spos.line X.env = pure true) (hy : X.N[i]? = some x := by rfl) (hyl : X.env.scope.names.lookup x = some .local := by rfl) (hs : ∀ x, foldedSetIterable iter X.env x = pure x := by intro _; rfl) :
    DS X (.Assign [.Name x py] (.ListComp elt [⟨tg, iter, ifs, 0⟩] scope pos) spos) (fun P ρ M => fi ρ M fun items M => compD g f t (wipeE ρ (own.map (·.2))) (fun l M => i < ρ.length ∧ P.nx (ρ.set i (some (.ow l))) M) items [] M) := by
  obtain ⟨wi, pi, si⟩ := hi.ex
  exact ⟨_, ps_setLc hc hN hy hyl hsw pi ok (fun s H C cl fp => (hg s H C cl fp).run) (fun s H C cl fp => (ht s H C cl fp).run) (fun s H C cl fp => (he s H C cl fp).run) hs, snd_setO (snd_lc si his)⟩
theorem ds_setLc2O (i : Nat) {tg1 iter1 : Expr} {ifs1 : List Expr} {x : Str} {py spos : Pos} {scope : Scope} {own : List (Str × Nat)} {fi fi1 : RI} {is is1 : List Nat} {g g1 : RG} {f f1 : RT} {t : RO} (vs1 : List Nat) (hc : X.calm = true) (hN : X.N.Nodup) (hi : EI X tg iter fi) (ok : BlkOk X.N X.env.scope scope own) (his : ∀ i ∈ is, i ∈ own.map (·.2)) (his1 : ∀ i ∈ is1, i ∈ vs1) (hvs : ∀ i ∈ vs1, i ∈ own.map (·.2))
    (hg : ∀ (s : Shared) (H : Hp) (C : Addr) (cl : List (Str × Addr)) (fp : List Addr), EG (X.blk s H scope (compEnvC scope cl C X.env) fp) tg is g)
    (ht : ∀ (s : Shared) (H : Hp) (C : Addr) (cl : List (Str × Addr)) (fp : List Addr), ETs (X.blk s H scope (compEnvC scope cl C X.env) fp) ifs f)
    (hi1 : ∀ (s : Shared) (H : Hp) (C : Addr) (cl : List (Str × Addr)) (fp : List Addr), EI (X.blk s H scope (compEnvC scope cl C X.env) fp) tg1 iter1 fi1)
    (hg1 : ∀ (s : Shared) (H : Hp) (C : Addr) (cl : List (Str × Addr)) (fp : List Addr), EG (X.blk s H scope (compEnvC scope cl C X.env) fp) tg1 is1 g1)
    (ht1 : ∀ (s : Shared) (H : Hp) (C : Addr) (cl : List (Str × Addr)) (fp : List Addr), ETs (X.blk s H scope (compEnvC scope cl C X.env) fp) ifs1 f1)
    (he : ∀ (s : Shared) (H : Hp) (C : Addr) (cl : List (Str × Addr)) (fp : List Addr), EO (X.blk s H scope (compEnvC scope cl C X.env) fp) elt t)
    (hsw : swapsWith (.ListComp elt [⟨tg, iter, ifs, 0⟩, ⟨tg1, iter1, ifs1, 0⟩] scope pos) (some (.Name x py)) spos.line X.env = pure true) (hy : X.N[i]? = some x := by rfl) (hyl : X.env.scope.names.lookup x = some .local := by rfl) (hs : ∀ x, foldedSetIterable iter X.env x = pure x := by intro _; rfl) (hs1 : ∀ env x, foldedSetIterable iter1 env x = pure x := by intro _ _; rfl) :
    DS X (.Assign [.Name x py] (.ListComp elt [⟨tg, iter, ifs, 0⟩, ⟨tg1, iter1, ifs1, 0⟩] scope pos) spos) (fun P ρ M => fi ρ M fun items M => comp2D g f fi1 vs1 g1 f1 t (wipeE ρ (own.map (·.2))) (fun l M => l.length ≤ sizeLine ∧ i < ρ.length ∧ P.nx (ρ.set i (some (.ow l))) M) items [] M) := by
  obtain ⟨wi, pi, si⟩ := hi.ex
  exact ⟨_, ps_setLc2 hc hN hy hyl hsw pi ok (fun i hi => hvs i hi) (fun s H C cl fp => (hg s H C cl fp).run) (fun s H C cl fp => (ht s H C cl fp).run) (fun s H C cl fp => (hi1 s H C cl fp).run) (fun s H C cl fp => (hg1 s H C cl fp).run) (fun s H C cl fp => (ht1 s H C cl fp).run) (fun s H C cl fp => (he s H C cl fp).run) hs hs1, snd_setO (snd_lc2 si his his1)⟩
/-- a name's tree is given away: from here on it's plain data -/
theorem SndS.frz {tS : TS} {g : RS} (i : Nat) (h : SndS K tS g) : SndS K tS (fun P ρ M => ∃ t, ρ[i]? = some (some t) ∧ g P (ρ.set i (some (.fz t.toD))) M) := by
  intro B0 H0 B H ρ σ S P D s hg k1 k2 k3 k4
  obtain ⟨t, e, hg⟩ := hg
  obtain ⟨A, T, C, hS, h2, h3, h4, h5⟩ := s.st.sim.split e
  obtain ⟨v, hv, r⟩ := h2 t rfl
  have inS : ∀ p ∈ T, p ∈ S := fun p hp => by rw [hS]; exact List.mem_append_right _ (List.mem_append_left _ hp)
  have g1 : Grow K B0 H0 (B.add H T) H := s.gr.frz (fun p hp => s.fr p (inS p hp)) (fun p hp => (s.st.out p (inS p hp)).2)
  have nd := s.st.nd
  rw [hS] at nd
  have sub : ∀ p ∈ A ++ C, p ∈ S ∧ p ∉ T := fun p hp => by
    rw [List.nodup_append] at nd
    rcases List.mem_append.mp hp with z | z
    · exact ⟨by rw [hS]; exact List.mem_append_left _ z, fun q => nd.2.2 p z p (List.mem_append_left _ q) rfl⟩
    · refine ⟨by rw [hS]; exact List.mem_append_right _ (List.mem_append_right _ z), fun q => ?_⟩
      have := nd.2.1
      rw [List.nodup_append] at this
      exact this.2.2 p q p z rfl
  have rd : Rep K (B.add H T).b t.toD v := r.data s.st.base.ext_add _ _ _ (fun p hp => addB_in hp)
  refine h B0 H0 (B.add H T) H _ σ (A ++ ([] ++ C)) P D ⟨⟨g1.base, h5 (B.add H T).b H (.fz t.toD) v [] s.st.base.ext_add (fun _ _ => rfl) hv (.fz rd), ?_, fun p hp => ?_⟩, g1, fun p hp => s.fr p (sub p hp).1⟩ hg k1 k2 k3 k4
  · exact nd.sublist (List.Sublist.append_left (List.sublist_append_right T C) A)
  · obtain ⟨q1, q2⟩ := sub p hp
    exact ⟨(addB_out q2).trans (s.st.out p q1).1, (s.st.out p q1).2⟩
theorem DS.frz {g : RS} (i : Nat) (h : DS X st g) : DS X st (fun P ρ M => ∃ t, ρ[i]? = some (some t) ∧ g P (ρ.set i (some (.fz t.toD))) M) := by
  obtain ⟨t, p, s⟩ := h.ex
  exact ⟨t, p, s.frz i⟩
theorem DSs.frz {g : RS} (i : Nat) (h : DSs X sts g) : DSs X sts (fun P ρ M => ∃ t, ρ[i]? = some (some t) ∧ g P (ρ.set i (some (.fz t.toD))) M) := by
  obtain ⟨t, p, s⟩ := h.ex
  exact ⟨t, p, s.frz i⟩
theorem ds_ret {fo : RO} (h : EO X e fo) : DS X (.Return (some e) pos) (fun P ρ M => fo ρ M P.rt) := by
  obtain ⟨te, hp, hs⟩ := h.ex
  exact ⟨_, ps_ret hp, fun B0 H0 B H ρ σ S P D s hg k1 k2 k3 k4 => hs B H ρ σ S _ _ s.st hg fun t v B1 H1 T g r o p => k4 t v B1 H1 T (s.gr.trans g) r (o.back s.gr) p⟩
theorem ds_retN : DS X (.Return none pos) (fun P _ M => P.rt (.fz .non) M) :=
  ⟨_, ps_retN, fun B0 H0 B H ρ σ S P D s hg k1 k2 k3 k4 => k4 (.fz .non) .non B H [] s.gr (.fz .non) .nil hg⟩
theorem ds_expr (h : ED X e fa) (hs : swapsWith e none pos.line X.env = pure false := by rfl) : DS X (.Expr e pos) (fun P ρ M => fa ρ M fun _ M => P.nx ρ M) := by
  obtain ⟨te, hp, hs'⟩ := h.ex
  exact ⟨_, ps_expr hp hs, fun B0 H0 B H ρ σ S P D s hg k1 k2 k3 k4 => hs' B H ρ σ S _ _ s.st hg fun d v B1 H1 g r p => k1 B1 H1 ρ σ S (s.grow g) p⟩
theorem ds_pass : DS X (.Pass pos) (fun P ρ M => P.nx ρ M) := ⟨_, ps_pass, fun B0 H0 B H ρ σ S P D s hg k1 k2 k3 k4 => k1 B H ρ σ S s hg⟩
theorem ds_break : DS X (.Break pos) (fun P ρ M => P.bk ρ M) := ⟨_, ps_break, fun B0 H0 B H ρ σ S P D s hg k1 k2 k3 k4 => k2 B H ρ σ S s hg⟩
theorem ds_continue : DS X (.Continue pos) (fun P ρ M => P.ct ρ M) := ⟨_, ps_continue, fun B0 H0 B H ρ σ S P D s hg k1 k2 k3 k4 => k3 B H ρ σ S s hg⟩
/-- what the proof never comes to -/
theorem ds_never : DS X st (fun _ _ _ => False) := ⟨_, ps_never, fun B0 H0 B H ρ σ S P D s hg k1 k2 k3 k4 => hg.elim⟩
theorem dss_never : DSs X sts (fun _ _ _ => False) := ⟨_, pss_never, fun B0 H0 B H ρ σ S P D s hg k1 k2 k3 k4 => hg.elim⟩
theorem ds_if {f : RT} {g h : RS} {sa sb : List Stmt} (hc : ET X c f) (ha : DSs X sa g) (hb : DSs X sb h) : DS X (.If c sa sb pos) (fun P ρ M => f ρ M fun d M => if d = true then g P ρ M else h P ρ M) := by
  obtain ⟨tc, pc, sc⟩ := hc.ex
  obtain ⟨ta, pa, qa⟩ := ha.ex
  obtain ⟨tb, pb, qb⟩ := hb.ex
  refine ⟨_, ps_if pc pa pb, fun B0 H0 B H ρ σ S P D s hg k1 k2 k3 k4 => sc B H ρ σ S _ _ s.st hg fun d B1 H1 g1 p => ?_⟩
  cases d with
  | true => exact qa B0 H0 B1 H1 ρ σ S P D (s.grow g1) p k1 k2 k3 k4
  | false => exact qb B0 H0 B1 H1 ρ σ S P D (s.grow g1) p k1 k2 k3 k4
/-- for: item by item -/
def forD (g : RG) (b : RS) (P : DEnds) : List D → Env → Mem → Prop
  | [], ρ, M => P.nx ρ M
  | d :: ds, ρ, M => g d ρ M fun ρ' M => b { nx := forD g b P ds, ct := forD g b P ds, bk := P.nx, rt := P.rt } ρ' M
theorem SttF.rebase {B0 B B1 : Kn} {H0 H : Hp} {ρ : Env} {σ : L2.St} {S : List Addr} (s : SttF K B0 H0 B H ρ σ S) (e0 : Ext B0.b B1.b) (e1 : Ext B1.b B.b) : SttF K ⟨B1.b, B0.m⟩ H0 B H ρ σ S :=
  ⟨s.st, ⟨e1, s.gr.h, s.gr.d, s.gr.n, fun a o e => (s.gr.f a o e).imp (e0 a o) id, s.st.base⟩, s.fr⟩
theorem Grow.unbase {B0 B1 B : Kn} {H0 H1 H : Hp} (g1 : Grow K B0 H0 B1 H1) (g : Grow K ⟨B1.b, B0.m⟩ H0 B H) : Grow K B0 H0 B H :=
  ⟨g1.b.trans g.b, g.h, g.d, g.n, fun a o e => by
    rcases g.f a o e with z | z
    · exact g1.f a o z
    · exact .inr z, g.base⟩
theorem SttF.unbase {B0 B1 B : Kn} {H0 H1 H : Hp} {ρ : Env} {σ : L2.St} {S : List Addr} (g1 : Grow K B0 H0 B1 H1) (s : SttF K ⟨B1.b, B0.m⟩ H0 B H ρ σ S) : SttF K B0 H0 B H ρ σ S := ⟨s.st, g1.unbase s.gr, s.fr⟩
theorem ds_for {fi : RI} {is : List Nat} {g : RG} {b : RS} {body : List Stmt} (hp : PassesOwn (model X.prog X.w) X.A X.env X.xe) (hc : X.calm = true) (hi : EI X tg iter fi) (hg : EG X tg is g) (hb : DSs X body b)
    (hs : ∀ x, foldedSetIterable iter X.env x = pure x := by intro _; rfl) : DS X (.For tg iter body [] pos) (fun P ρ M => fi ρ M fun items M => forD g b P items ρ M) := by
  obtain ⟨wi, pi, si⟩ := hi.ex
  obtain ⟨tG, pG, sG⟩ := hg.ex
  obtain ⟨tb, pb, sb⟩ := hb.ex
  refine ⟨_, ps_for hp hc pi pG pb hs, fun B0 H0 B H ρ σ S P D s hg k1 k2 k3 k4 => si B H ρ σ S _ _ s.st hg fun ds J B1 H1 g1 wk hsz hf => ?_⟩
  have g01 := s.gr.trans g1
  have s1 : SttF X.K ⟨B1.b, B0.m⟩ H0 B1 H1 ρ σ S := (s.grow g1).rebase g01.b Ext.rfl
  refine ⟨fun i m σ' H' => m = ds.length - i ∧ i ≤ ds.length ∧ ∃ B' ρ' S', SttF X.K ⟨B1.b, B0.m⟩ H0 B' H' ρ' σ' S' ∧ forD g b P (ds.drop i) ρ' B'.m, ⟨ds.length, by simp, Nat.zero_le _, B1, ρ, S, s1, hf⟩, ?_⟩
  rintro i m σ2 H2 ⟨rfl, hle, B2, ρ2, S2, s2, f2⟩
  by_cases hlt : i < ds.length
  · refine .inr ?_
    have hd : ds[i]? = some ds[i] := List.getElem?_eq_getElem hlt
    obtain ⟨go, yl⟩ := wk.go B2 H2 i ds[i] s2.gr.b s2.st.base hd
    refine ⟨go, fun σ' H' => i + 1 ≤ ds.length ∧ ∃ B' ρ' S', SttF X.K ⟨B1.b, B0.m⟩ H0 B' H' ρ' σ' S' ∧ forD g b P (ds.drop (i + 1)) ρ' B'.m, fun σ' H' hN => ⟨ds.length - (i + 1), by omega, rfl, hN⟩, fun x H3 y3 => ?_⟩
    obtain ⟨B3, g3, em, rx⟩ := yl x H3 y3
    rw [List.drop_eq_getElem_cons hlt, ← em] at f2
    have f2 : g ds[i] ρ2 B3.m fun ρ' M => b { nx := forD g b P (ds.drop (i + 1)), ct := forD g b P (ds.drop (i + 1)), bk := P.nx, rt := P.rt } ρ' M := f2
    have s3 := s2.grow g3
    refine sG B3 H3 ρ2 σ2 S2 ds[i] x _ _ s3.st rx f2 fun ρ4 σ4 S4 Bg Hg gg st4 sub4 _ p4 => ?_
    have s4 : SttF X.K ⟨B1.b, B0.m⟩ H0 Bg Hg ρ4 σ4 S4 := ⟨st4, s3.gr.trans gg, fun p hp => s3.fr p (sub4 p hp)⟩
    refine sb ⟨B1.b, B0.m⟩ H0 Bg Hg ρ4 σ4 S4 _ _ s4 p4 (fun B' H' ρ' σ' S' s' p => ⟨hlt, B', ρ', S', s', p⟩) (fun B' H' ρ' σ' S' s' p => k1 B' H' ρ' σ' S' (s'.unbase g01) p) (fun B' H' ρ' σ' S' s' p => ⟨hlt, B', ρ', S', s', p⟩)
      fun t v B' H' T g r o p => k4 t v B' H' T (g01.unbase g) r ⟨o.nd, o.fr, o.nb, o.nw⟩ p
  · have e : i = ds.length := by omega
    subst e
    refine .inl ⟨wk.stop B2 H2 _ s2.gr.b s2.st.base (Nat.le_refl _), ?_⟩
    rw [List.drop_length] at f2
    exact k1 B2 H2 ρ2 σ2 S2 (s2.unbase g01) f2
/-- while: an invariant of the names and a measure -/
theorem ds_while {f : RT} {b : RS} {body : List Stmt} (hp : PassesOwn (model X.prog X.w) X.A X.env X.xe) (hc : ET X c f) (hb : DSs X body b) :
    DS X (.While c body [] pos) (fun P ρ M => ∃ Inv : Nat → Env → Mem → Prop, (∃ m, Inv m ρ M) ∧ ∀ m ρ M, Inv m ρ M → f ρ M fun d M => if d = true then b { nx := fun ρ' M => ∃ m', m' < m ∧ Inv m' ρ' M, ct := fun ρ' M => ∃ m', m' < m ∧ Inv m' ρ' M, bk := P.nx, rt := P.rt } ρ M else P.nx ρ M) := by
  obtain ⟨tc, pc, sc⟩ := hc.ex
  obtain ⟨tb, pb, sb⟩ := hb.ex
  refine ⟨_, ps_while hp pc pb, fun B0 H0 B H ρ σ S P D s hg k1 k2 k3 k4 => ?_⟩
  obtain ⟨Iv, ⟨m0, i0⟩, turn⟩ := hg
  refine ⟨fun m σ' H' => ∃ B' ρ' S', SttF X.K B0 H0 B' H' ρ' σ' S' ∧ Iv m ρ' B'.m, ⟨m0, B, ρ, S, s, i0⟩, ?_⟩
  rintro m σ1 H1 ⟨B1, ρ1, S1, s1, i1⟩
  refine sc B1 H1 ρ1 σ1 S1 _ _ s1.st (turn m ρ1 B1.m i1) fun d B2 H2 g2 p2 => ?_
  have s2 := s1.grow g2
  cases d with
  | true =>
    refine ⟨fun σ' H' => ∃ m', m' < m ∧ ∃ B' ρ' S', SttF X.K B0 H0 B' H' ρ' σ' S' ∧ Iv m' ρ' B'.m, fun σ' H' ⟨m', h1, h2⟩ => ⟨m', h1, h2⟩, ?_⟩
    exact sb B0 H0 B2 H2 ρ1 σ1 S1 _ _ s2 p2 (fun B' H' ρ' σ' S' s' ⟨m', h1, h2⟩ => ⟨m', h1, B', ρ', S', s', h2⟩) (fun B' H' ρ' σ' S' s' p => k1 B' H' ρ' σ' S' s' p) (fun B' H' ρ' σ' S' s' ⟨m', h1, h2⟩ => ⟨m', h1, B', ρ', S', s', h2⟩) k4
  | false => exact k1 B2 H2 ρ1 σ1 S1 s2 p2

/-! ### a def by its body -/
/-- the names' data at the entry -/
def startE (N : List Str) (ds : List D) : Env := ds.map (fun d => some (.fz d)) ++ List.replicate (N.length - ds.length) none
theorem sim_none {B H : Hp} : ∀ n : Nat, SimE K B H (List.replicate n none) (List.replicate n none) []
  | 0 => .nil
  | n + 1 => .none (sim_none n)
theorem sim_start {B H : Hp} {n : Nat} : ∀ {ds : List D} {vs : List V}, Reps K B ds vs → SimE K B H (ds.map (fun d => some (.fz d)) ++ List.replicate n none) (vs.map some ++ List.replicate n none) []
  | _, _, .nil => sim_none n
  | _, _, .cons r t => SimE.some (T := []) (S := []) (.fz r) (sim_start t)
variable {P : Program} {w : World} {mg : Str → Option Value} {base : Heap}
theorem fn_dl {x qual : Str} {st : Stmt} {f : Addr} {fd : FuncData} {N ps : List Str} {k : Nat} {s : DSpec} (F : Fun K x qual st f fd) (S : FnScope N ps (defScope st))
    (hbody : ∀ (X : Cx) (M : Mem) (ds : List D) (i : s.ι), (∃ (cdv : Value) (A : Around) (outer : List PySem.Env) (s0 : Shared) (H0 : Hp) (E : XK), X = (cxOf CX0 P w K mg base N qual (defScope st) f cdv A outer s0 H0 E).nox) → RG0 k X → ds.length = ps.length → s.pre i M ds →
      ∃ g, DSs X (defBody st) g ∧ g { nx := fun _ M' => s.post i M (.fz .non) M', rt := s.post i M } (startE N ds) M) :
    FnG P w K mg base CX0 (k + 1) f fd ps (spOf K ps.length s) := by
  refine funG F S (fun vs H Q E h => ?_) (fun cdv A outer s0 H vs Q E hr hgd h => ?_)
  · obtain ⟨i, B, ds, _, r, hl, _⟩ := h
    rw [← r.length, hl]
  · obtain ⟨i, B, ds, bs, r, hl, hp, kk⟩ := h
    obtain ⟨g, hD, hg⟩ := hbody _ B.m ds i ⟨cdv, A, outer, s0, H, E, rfl⟩ ⟨hr, hgd⟩ hl hp
    obtain ⟨t, pt, stt⟩ := hD.ex
    refine ⟨t, pt, ?_⟩
    have s1 : SttF K B H B H (startE N ds) (L2.start N vs) [] := by
      refine ⟨⟨bs, ?_, .nil, fun _ h => (nomatch h)⟩, bs.grow, fun _ h => (nomatch h)⟩
      unfold startE L2.start
      rw [r.length]
      exact sim_start r
    refine stt B H B H _ _ [] _ _ s1 hg (fun B' H' ρ' σ' S' s' p => ?_) (fun _ _ _ _ _ _ p => p.elim) (fun _ _ _ _ _ _ p => p.elim) fun t v B' H' T g r o p => kk t v B' H' T g r o p
    exact kk (.fz .non) .non B' H' [] s'.gr (.fz .non) .nil p
end
end DL

/-! DL6: unpacking, one's own lists changed, several stores. -/
namespace DL
open PySem L2 PySem.Spec
open PyProof.Rows hiding St
open PySem.PyData (strOk)
set_option autoImplicit false
section
variable {X : Cx} {tg e a b c o iter elt : Expr} {es rest ifs : List Expr} {pos : Pos} {fa fb fc : RD} {K : PySem.W.Frag}

/-! ### (a, *b) = e -/
/-- a sequence taken apart: n places ahead, a list of what's left -/
def gTupS (K : PySem.W.Frag) (n : Nat) (t : TGs) : TG := fun v σ H Q => ∃ a xs, v = .ref a ∧ (SqT K H a xs ∨ SqL K H a xs) ∧ n ≤ xs.length ∧ ∀ p, H p = none → t (xs.take n ++ [.ref p]) σ (upd H p (.lst (xs.drop n))) Q
theorem unpack_star {pins : List (Addr × Obj)} {σ : L2.St} {H : Hp} {s : Shared} {l : Addr} {xs : List V} {n : Nat} {E : Value → Shared → Prop} {Q : List Value → Shared → Prop} (hc : X.calm = true) (I : Inv X pins σ H s) (hq : SqT X.K H l xs ∨ SqL X.K H l xs) (hn : n ≤ xs.length)
    (h : ∀ s' p us, H p = none → Inv X pins σ (upd H p (.lst (xs.drop n))) s' → Vals (xs.take n ++ [.ref p]) us → Q us s') : wpAny (model X.prog X.w) X.A (unpackItems (.ref l) (n + 1) (some n)) Q E s := by
  have hh := I.ok.hd hc
  -- behind the walk: a new list
  have fin : ∀ {items : List Value} {h₂ : Heap} {tk : Nat}, Vals xs items → xs.length ≤ sizeLine → (∀ b o, s.heap.get? b = some o → h₂.get? b = some o) →
      wpAny (model X.prog X.w) X.A (newList ((items.drop n).take ((items.drop n).length - 0)) >>= fun d => pure (items.take n ++ [d] ++ (items.drop n).drop ((items.drop n).length - 0))) Q E { s with heap := h₂, toks := tk } := by
    intro items h₂ tk rv hz keep
    have I2 : Inv X pins σ H { s with heap := h₂, toks := tk } := I.kept keep
    have e1 : (items.drop n).take ((items.drop n).length - 0) = items.drop n := by rw [Nat.sub_zero, List.take_length]
    have e2 : (items.drop n).drop ((items.drop n).length - 0) = [] := by rw [Nat.sub_zero, List.drop_length]
    rw [e1, e2]
    simp only [List.append_nil]
    have hlen := rv.length
    refine wpAny_bind (wpAny_newObj_type (wpAny_pure ?_) (by show (List.drop n items).length ≤ sizeLine; rw [List.length_drop]; omega))
    have hf : H h₂.objs.size = none := I2.hok.fresh (Nat.le_refl _)
    refine h _ h₂.objs.size _ hf (I2.laid (a := h₂.objs.size) (t' := tk) (fun b u e => Heap.get?_push_of_some _ e) (Nat.le_refl _) ?_) ((rv.take n).append (.cons rfl .nil))
    exact ⟨by rw [List.length_drop]; omega, items.drop n, 0, rv.drop n, Heap.get?_push_size _ rfl⟩
  unfold unpackItems
  refine wpAny_bind ?_
  unfold notIterableAtAll
  rcases hq with hq | hq
  · obtain ⟨items, rv, ht, hz⟩ := I.tuple hq
    have hlen := rv.length
    have hlt : l ≠ s.heap.objs.size := Nat.ne_of_lt ht.lt
    refine wpAny_bind (wpAny_specialOf ht.typeIs slot_tuple_iter.lookup (wpAny_pure ?_))
    simp only [Bool.false_eq_true, if_false]
    refine wpAny_bind (wpAny_holding (iter_tuple ht (wpAny_bind (wpAny_holding (draw_tuple hlt n 0 _ _ ⟨_, Heap.get?_push_size _ rfl, rfl, rfl⟩ (ht.push _) (by simp; omega) fun h₁ hit₁ hs₁ => ?_)))))
    have ht₁ : IsTup h₁ l items.toArray := (ht.push _).extBut hs₁.extBut hlt
    rw [Nat.zero_add] at hit₁
    obtain ⟨oi, hoi, _⟩ := id hit₁
    rw [List.drop_zero, List.toList_toArray]
    have hfl : (items.take n).length = n := by rw [List.length_take]; omega
    rw [if_neg (show ¬ ((items.take n).length < n) by rw [hfl]; omega)]
    refine wpAny_bind (wpAny_holding (PySem.W.kun_collect (s := { s with heap := h₁ }) (items := items.toArray) (T := "tuple_iterator") (.inr (.inr (.inr rfl))) (Walks.tuple (A := X.A.in1) hh s.heap.objs.size l hlt items.toArray) (fun j u st => st.1.typeIs) (k := n) (by simp; omega) ⟨hit₁, ht₁⟩ (Heap.lt_size hoi) ht₁.lt (fun h₂ tk hk => ?_) (by simp; omega)))
    rw [List.toList_toArray]
    have ez : n + 1 - 1 - n = 0 := by omega
    show wpAny _ _ (if (items.drop n).length < n + 1 - 1 - n then _ else _) _ _ _
    rw [ez, if_neg (Nat.not_lt_zero _)]
    exact fin rv hz fun b o e => hk b o (Nat.ne_of_lt (Heap.lt_size e)) (hs₁.extBut b o (Nat.ne_of_lt (Heap.lt_size e)) (Heap.get?_push_of_some _ e))
  · obtain ⟨items, rv, hl0, hz⟩ := I.list hq
    have hl := hl0.isList
    have hlen := rv.length
    have hlt : l ≠ s.heap.objs.size := Nat.ne_of_lt hl0.lt
    refine wpAny_bind (wpAny_specialOf hl.typeIs slot_list_iter.lookup (wpAny_pure ?_))
    simp only [Bool.false_eq_true, if_false]
    refine wpAny_bind (wpAny_holding (wpAny_pyIter_list hl (wpAny_bind (wpAny_holding (PySem.W.kun_draw hlt n 0 _ _ ⟨_, Heap.get?_push_size _ rfl, rfl, rfl⟩ (hl.push _) (by simp; omega) fun h₁ hit₁ hs₁ => ?_)))))
    have hl₁ : h₁.IsList l items.toArray := (hl.push _).extBut hs₁.extBut hlt
    rw [Nat.zero_add] at hit₁
    obtain ⟨oi, hoi, _⟩ := id hit₁
    obtain ⟨ol, hol, _⟩ := id hl₁
    rw [List.drop_zero, List.toList_toArray]
    have hfl : (items.take n).length = n := by rw [List.length_take]; omega
    rw [if_neg (show ¬ ((items.take n).length < n) by rw [hfl]; omega)]
    refine wpAny_bind (wpAny_holding (PySem.W.kun_collect (s := { s with heap := h₁ }) (items := items.toArray) (T := "list_iterator") (.inr (.inr (.inl rfl))) (Walks.list (A := X.A.in1) hh s.heap.objs.size l hlt items.toArray) (fun j u st => st.1.typeIs) (k := n) (by simp; omega) ⟨hit₁, hl₁⟩ (Heap.lt_size hoi) (Heap.lt_size hol) (fun h₂ tk hk => ?_) (by simp; omega)))
    rw [List.toList_toArray]
    have ez : n + 1 - 1 - n = 0 := by omega
    show wpAny _ _ (if (items.drop n).length < n + 1 - 1 - n then _ else _) _ _ _
    rw [ez, if_neg (Nat.not_lt_zero _)]
    exact fin rv hz fun b o e => hk b o (Nat.ne_of_lt (Heap.lt_size e)) (hs₁.extBut b o (Nat.ne_of_lt (Heap.lt_size e)) (Heap.get?_push_of_some _ e))
theorem pg_tupS {k n : Nat} {t : TGs} (hc : X.calm = true) (h : PGs X es t) (hn : (assignEach es X.env).length = n + 1 := by rfl) (hst : (assignEach es X.env).findIdx? (·.1) = some n := by rfl) : PG X (.Tuple es k pos) (gTupS X.K n t) := by
  refine ⟨fun pins s σ H v u Q I r hw => ?_⟩
  obtain ⟨a, xs, rfl, hq, hle, hw⟩ := hw
  cases r
  rw [assign_Tuple]
  refine wpAny_bind (wpAny_standAt ?_)
  unfold unpack
  rw [hn, hst]
  refine wpAny_bind (wpAny_holding (unpack_star hc I hq hle fun s' p us hp I' rv => ?_))
  exact h.run pins s' σ _ _ us Q I' rv (hw p hp)
theorem pgs_starred {t : Expr} {p : Pos} {g : TG} (h : PG X t g) (hs : (assignEach [.Starred t p] X.env).map (·.2) = [assign t X.env] := by rfl) : PGs X [.Starred t p] (gCons g gNil) := by
  refine ⟨fun pins s σ H vs us Q I r hw => ?_⟩
  obtain ⟨v, vr, rfl, hw⟩ := hw
  cases r with
  | cons r rr =>
    rw [hs]
    refine assignInOrder_cons (thn (h.run pins s σ H _ _ _ I r hw) fun _ s1 ⟨σ1, H1, I1, q1⟩ => ?_)
    obtain ⟨e, q1⟩ := q1
    subst e
    cases rr
    exact assignInOrder_nil ⟨σ1, H1, I1, q1⟩
theorem egs_starred {t : Expr} {p : Pos} {is : List Nat} {g : RG} (h : EG X t is g) (hs : (assignEach [.Starred t p] X.env).map (·.2) = [assign t X.env] := by rfl) : EGs X [.Starred t p] is (fun ds ρ M P => ∃ d, ds = [d] ∧ g d ρ M P) := by
  obtain ⟨tg, pg, sg⟩ := h.ex
  refine ⟨_, pgs_starred pg hs, fun B H ρ σ S d v P Q st r hg k => ?_⟩
  obtain ⟨d1, rfl, hg⟩ := hg
  cases r with
  | cons r1 r2 =>
    cases r2
    exact ⟨_, _, rfl, sg B H ρ σ S _ _ _ _ st r1 hg fun ρ1 σ1 S1 B1 H1 g1 st1 sub1 w1 p1 => ⟨rfl, k ρ1 σ1 S1 B1 H1 g1 st1 sub1 w1 p1⟩⟩
theorem eg_tupS {k n : Nat} {is : List Nat} {gs : RGs} (hc : X.calm = true) (h : EGs X es is gs) (hn : (assignEach es X.env).length = n + 1 := by rfl) (hst : (assignEach es X.env).findIdx? (·.1) = some n := by rfl) :
    EG X (.Tuple es k pos) is (fun d ρ M P => ∃ ds, d.items = some ds ∧ n ≤ ds.length ∧ ds.length ≤ sizeLine ∧ gs (ds.take n ++ [.lst (ds.drop n)]) ρ M P) := by
  obtain ⟨t, pgs, sgs⟩ := h.ex
  refine ⟨_, pg_tupS hc pgs hn hst, fun B H ρ σ S d v P Q st r hg kk => ?_⟩
  obtain ⟨ds, e, hl, hz, hg⟩ := hg
  have go : ∀ {vs : List V}, Reps X.K B.b ds vs → ds.length ≤ sizeLine → ∀ p, H p = none → t (vs.take n ++ [.ref p]) σ (upd H p (.lst (vs.drop n))) Q := by
    intro vs r hz p hp
    have g1 := st.base.new (o := .lst (vs.drop n)) hp
    refine sgs _ _ ρ σ S _ _ P Q (st.grow g1) ?_ hg fun ρ' σ' S' B' H' g' st' sub w pp => kk ρ' σ' S' B' H' (g1.trans g') st' sub w pp
    exact ((r.take n).up g1.b).append (.cons (.lst upd_same (by rw [List.length_drop]; omega) ((r.drop n).up g1.b)) .nil)
  cases r with
  | tup h1 h2 h3 => cases e; exact ⟨_, _, rfl, .inl (Evl.ex_t st.base.bh h1), by rw [← h3.length]; exact hl, go h3 h2⟩
  | lst h1 h2 h3 => cases e; exact ⟨_, _, rfl, .inr (Evl.sq_of (st.base.bh _ _ h1)), by rw [← h3.length]; exact hl, go h3 h2⟩
  | @scr a' ns h =>
    cases e
    exact ⟨_, _, rfl, .inr (Evl.ex_l st.base.bh h), by rw [List.length_map] at hl ⊢; exact hl, go (reps_ints ns) hz⟩
  | _ => cases e
/-- target = e, any target of names -/
theorem ds_asg {is : List Nat} {g : RG} (he : ED X e fa) (hg : EG X tg is g) (hs : swapsWithSole [tg] e pos.line X.env = pure false := by rfl) (hw : swappedStores [tg] e X.env = pure none := by rfl)
    (h1 : (assignEach [tg] X.env).map (·.2) = [assign tg X.env] := by rfl) : DS X (.Assign [tg] e pos) (fun P ρ M => fa ρ M fun d M => g d ρ M P.nx) := by
  obtain ⟨te, pe, se⟩ := he.ex
  obtain ⟨tG, pG, sG⟩ := hg.ex
  refine ⟨_, ps_asg pe pG hs hw h1, fun B0 H0 B H ρ σ S P D s hg k1 k2 k3 k4 => se B H ρ σ S _ _ s.st hg fun d v B1 H1 g1 r1 p1 => ?_⟩
  have s1 := s.grow g1
  exact sG B1 H1 ρ σ S d v _ _ s1.st r1 p1 fun ρ' σ' S' B' H' g' st' sub _ p => k1 B' H' ρ' σ' S' ⟨st', s1.gr.trans g', fun p hp => s1.fr p (sub p hp)⟩ p
/-- a, b = x, y: plain local names, stored at once -/
theorem ds_par {i j : Nat} {x y : Str} {fo : RAO} {px py pt : Pos} {kt k2 pt2} (hc : X.calm = true) (hN : X.N.Nodup) (ha : AO X [a, b] fo) (hi : X.N[i]? = some x := by rfl) (hj : X.N[j]? = some y := by rfl) (hij : i ≠ j := by decide)
    (hx : X.env.scope.names.lookup x = some .local := by rfl) (hy : X.env.scope.names.lookup y = some .local := by rfl)
    (hw : swappedStores [.Tuple [.Name x px, .Name y py] kt pt] (.Tuple [a, b] k2 pt2) X.env = pure (some [x, y]) := by rfl)
    (hs : swapsWithSole [.Tuple [.Name x px, .Name y py] kt pt] (.Tuple [a, b] k2 pt2) pos.line X.env = pure false := by rfl) :
    DS X (.Assign [.Tuple [.Name x px, .Name y py] kt pt] (.Tuple [a, b] k2 pt2) pos) (fun P ρ M => fo ρ M fun ts M => ∃ t u, ts = [t, u] ∧ i < ρ.length ∧ j < ρ.length ∧ P.nx ((ρ.set i (some t)).set j (some u)) M) := by
  obtain ⟨ta, pa, sa⟩ := ha.ex
  refine ⟨_, ps_par hc hN hi hj hij hx hy pa hw hs, fun B0 H0 B H ρ σ S P D s hg k1 k2 k3 k4 => sa B H ρ σ S _ _ s.st hg fun ts vs B1 H1 T1 g1 r1 o1 p => ?_⟩
  obtain ⟨t, u, rfl, hi', hj', p⟩ := p
  cases r1 with
  | @cons _ v1 _ _ TA TR rA rR =>
    cases rR with
    | @cons _ v2 _ _ TB TC rB rC =>
      cases rC
      rw [List.append_nil] at o1
      refine ⟨_, _, rfl, ?_⟩
      have nd := List.nodup_append.mp o1.nd
      obtain ⟨a1, a2⟩ := s.apart o1
      obtain ⟨S1, s1, m1⟩ := (s.grow g1).putA hi' rA nd.1 (fun p hp => a1 p (List.mem_append_left _ hp)) (fun p hp => a2 p (List.mem_append_left _ hp))
      obtain ⟨S2, s2, m2⟩ := s1.putA (i := j) (by rw [List.length_set]; exact hj') rB nd.2.1 (fun p hp hq => (m1 p hq).elim (a1 p (List.mem_append_right _ hp)) fun z => nd.2.2 p z p hp rfl) (fun p hp => a2 p (List.mem_append_right _ hp))
      exact k1 _ _ _ _ S2 s2 p
theorem ds_par3 {i j l : Nat} {x y z : Str} {fo : RAO} {px py pz pt : Pos} {kt k2 pt2} (hc : X.calm = true) (hN : X.N.Nodup) (ha : AO X [a, b, c] fo) (hi : X.N[i]? = some x := by rfl) (hj : X.N[j]? = some y := by rfl) (hl : X.N[l]? = some z := by rfl) (hij : i ≠ j := by decide) (hil : i ≠ l := by decide) (hjl : j ≠ l := by decide)
    (hx : X.env.scope.names.lookup x = some .local := by rfl) (hy : X.env.scope.names.lookup y = some .local := by rfl) (hz : X.env.scope.names.lookup z = some .local := by rfl)
    (hw : swappedStores [.Tuple [.Name x px, .Name y py, .Name z pz] kt pt] (.Tuple [a, b, c] k2 pt2) X.env = pure (some [x, y, z]) := by rfl)
    (hs : swapsWithSole [.Tuple [.Name x px, .Name y py, .Name z pz] kt pt] (.Tuple [a, b, c] k2 pt2) pos.line X.env = pure false := by rfl) :
    DS X (.Assign [.Tuple [.Name x px, .Name y py, .Name z pz] kt pt] (.Tuple [a, b, c] k2 pt2) pos) (fun P ρ M => fo ρ M fun ts M => ∃ t u v, ts = [t, u, v] ∧ i < ρ.length ∧ j < ρ.length ∧ l < ρ.length ∧ P.nx (((ρ.set i (some t)).set j (some u)).set l (some v)) M) := by
  obtain ⟨ta, pa, sa⟩ := ha.ex
  refine ⟨_, ps_par3 hc hN hi hj hl hij hil hjl hx hy hz pa hw hs, fun B0 H0 B H ρ σ S P D s hg k1 k2 k3 k4 => sa B H ρ σ S _ _ s.st hg fun ts vs B1 H1 T1 g1 r1 o1 p => ?_⟩
  obtain ⟨t, u, v, rfl, hi', hj', hl', p⟩ := p
  cases r1 with
  | @cons _ v1 _ _ TA TR rA rR =>
    cases rR with
    | @cons _ v2 _ _ TB TC rB rC =>
      cases rC with
      | @cons _ v3 _ _ TD TE rD rE =>
        cases rE
        rw [List.append_nil] at o1
        refine ⟨_, _, _, rfl, ?_⟩
        have nd := List.nodup_append.mp o1.nd
        have nd2 := List.nodup_append.mp nd.2.1
        obtain ⟨a1, a2⟩ := s.apart o1
        obtain ⟨S1, s1, m1⟩ := (s.grow g1).putA hi' rA nd.1 (fun p hp => a1 p (List.mem_append_left _ hp)) (fun p hp => a2 p (List.mem_append_left _ hp))
        obtain ⟨S2, s2, m2⟩ := s1.putA (i := j) (by rw [List.length_set]; exact hj') rB nd2.1 (fun p hp hq => (m1 p hq).elim (a1 p (List.mem_append_right _ (List.mem_append_left _ hp))) fun z => nd.2.2 p z p (List.mem_append_left _ hp) rfl)
          (fun p hp => a2 p (List.mem_append_right _ (List.mem_append_left _ hp)))
        obtain ⟨S3, s3, m3⟩ := s2.putA (i := l) (by rw [List.length_set, List.length_set]; exact hl') rD nd2.2.1 (fun p hp hq => (m2 p hq).elim (fun z => (m1 p z).elim (a1 p (List.mem_append_right _ (List.mem_append_right _ hp))) fun z => nd.2.2 p z p (List.mem_append_right _ hp) rfl) fun z => nd2.2.2 p z p hp rfl)
          (fun p hp => a2 p (List.mem_append_right _ (List.mem_append_right _ hp)))
        exact k1 _ _ _ _ S3 s3 p

/-! ### one's own list changed -/
/-- a name's own list, and what may be put in its place -/
theorem SttF.mutate {B0 B : Kn} {H0 H : Hp} {ρ : Env} {σ : L2.St} {S : List Addr} {i : Nat} {l : List OT} (s : SttF K B0 H0 B H ρ σ S) (e : ρ[i]? = some (some (.ow l))) :
    ∃ p xs T, σ[i]? = some (some (.ref p)) ∧ H p = some (.lst xs) ∧ RepOs K B.b H l xs T ∧ B.m p = none ∧ l.length ≤ sizeLine ∧ (T.Nodup ∧ ∀ q ∈ T, B.m q = none) ∧
      ∀ (B1 : Kn) (H1 : Hp) (l' : List OT) (xs' : List V) (T' : List Addr), Grow K B H B1 H1 → RepOs K B1.b H1 l' xs' T' → l'.length ≤ sizeLine → T'.Nodup → (∀ q ∈ T', q ∈ T ∨ (H q = none ∧ B1.b q = none ∧ B1.m q = none)) →
        ∃ S', SttF K B0 H0 B1 (upd H1 p (.lst xs')) (ρ.set i (some (.ow l'))) σ S' := by
  obtain ⟨A, T0, C, hS, h2, h3, h4, h5⟩ := s.st.sim.split e
  obtain ⟨v, hv, r⟩ := h2 _ rfl
  cases r with
  | @ow p xs _ T hp hl hr =>
    have inS : ∀ q ∈ p :: T, q ∈ S := fun q hq => by rw [hS]; exact List.mem_append_right _ (List.mem_append_left _ hq)
    have pS := inS p List.mem_cons_self
    obtain ⟨pB, pW⟩ := s.st.out p pS
    have nd := s.st.nd
    rw [hS, List.nodup_append, List.nodup_append, List.nodup_cons] at nd
    obtain ⟨ndA, ⟨⟨pT, ndT⟩, ndC, dTC⟩, dA⟩ := nd
    refine ⟨p, xs, T, hv, hp, hr, pW, hl, ⟨ndT, fun q hq => (s.st.out q (inS q (List.mem_cons_of_mem _ hq))).2⟩, fun B1 H1 l' xs' T' g r' hl' nd' out => ?_⟩
    have pT' : p ∉ T' := fun q => by
      rcases out p q with z | z
      · exact pT z
      · rw [hp] at z; cases z.1
    have pB1 : B1.b p = none := by
      cases q : B1.b p with
      | none => rfl
      | some o =>
        rcases g.f p o q with z | z
        · rw [pB] at z; cases z
        · rw [hp] at z; cases z
    have pM1 : B1.m p = none := g.nm pW (by rw [hp]; exact fun z => nomatch z)
    have same : ∀ q ∈ S, H1 q = H q := fun q hq => g.same (s.st.sim.some_of q hq) (s.st.out q hq).2
    have acS : ∀ q ∈ A ++ C, q ∈ S := fun q hq => by
      rw [hS]
      rcases List.mem_append.mp hq with z | z
      · exact List.mem_append_left _ z
      · exact List.mem_append_right _ (List.mem_append_right _ z)
    have acP : ∀ q ∈ A ++ C, q ≠ p ∧ q ∉ T := fun q hq => by
      rcases List.mem_append.mp hq with z | z
      · exact ⟨fun z' => dA q z p (List.mem_append_left _ List.mem_cons_self) z', fun z' => dA q z q (List.mem_append_left _ (List.mem_cons_of_mem _ z')) rfl⟩
      · exact ⟨fun z' => dTC p List.mem_cons_self q z z'.symm, fun z' => dTC q (List.mem_cons_of_mem _ z') q z rfl⟩
    have h0p : H0 p = none := s.fr p pS
    have g1 : Grow K B0 H0 B1 (upd H1 p (.lst xs')) := (s.gr.trans g).mut h0p pB1 pM1
    have r2 : RepO K B1.b (upd H1 p (.lst xs')) (.ow l') (.ref p) (p :: T') := .ow upd_same hl' (r'.mono Ext.rfl _ _ _ fun q hq => upd_ne fun z => pT' (by rw [← z]; exact hq))
    have sim := h5 B1.b (upd H1 p (.lst xs')) (.ow l') (.ref p) (p :: T') g.b (fun q hq => by rw [upd_ne (acP q hq).1]; exact same q (acS q hq)) hv r2
    have ndac : (A ++ C).Nodup := List.nodup_append.mpr ⟨ndA, ndC, fun a ha b hb z => dA a ha b (List.mem_append_right _ hb) z⟩
    have dis : ∀ q ∈ p :: T', q ∉ A ++ C := fun q hq hac => by
      rcases List.mem_cons.mp hq with rfl | hq
      · exact (acP q hac).1 rfl
      · rcases out q hq with z | z
        · exact (acP q hac).2 z
        · have := s.st.sim.some_of q (acS q hac); rw [z.1] at this; cases this
    have mem : ∀ q ∈ A ++ ((p :: T') ++ C), q ∈ A ++ C ∨ q ∈ p :: T' := fun q hq => by
      rcases List.mem_append.mp hq with z | z
      · exact .inl (List.mem_append_left _ z)
      · rcases List.mem_append.mp z with z | z
        · exact .inr z
        · exact .inl (List.mem_append_right _ z)
    have at_ : ∀ q ∈ p :: T', (B1.b q = none ∧ B1.m q = none) ∧ H0 q = none := fun q hq => by
      rcases List.mem_cons.mp hq with rfl | hq
      · exact ⟨⟨pB1, pM1⟩, h0p⟩
      · rcases out q hq with z | z
        · have qS := inS q (List.mem_cons_of_mem _ z)
          exact ⟨((s.st.grow g).out q qS), s.fr q qS⟩
        · exact ⟨⟨z.2.1, z.2.2⟩, s.gr.free z.1⟩
    refine ⟨A ++ ((p :: T') ++ C), ⟨g1.base, sim, ?_, fun q hq => (mem q hq).elim (fun z => (s.st.grow g).out q (acS q z)) fun z => (at_ q z).1⟩, g1, fun q hq => (mem q hq).elim (fun z => s.fr q (acS q z)) fun z => (at_ q z).2⟩
    rw [List.nodup_append] at ndac ⊢
    rw [List.nodup_append]
    refine ⟨ndac.1, ⟨List.nodup_cons.mpr ⟨pT', nd'⟩, ndac.2.1, fun a ha b hb z => dis a ha (by rw [z]; exact List.mem_append_right _ hb)⟩, fun a ha b hb z => ?_⟩
    rcases List.mem_append.mp hb with q | q
    · exact dis b q (by rw [← z]; exact List.mem_append_left _ ha)
    · exact ndac.2.2 a ha b q z
theorem Own.after {B B1 : Kn} {H : Hp} {T T1 : List Addr} (o : Own B H B1 T1) (nd : T.Nodup) (hs : ∀ q ∈ T, (H q).isSome = true) : (T ++ T1).Nodup :=
  List.nodup_append.mpr ⟨nd, o.nd, fun a ha b hb e => by
    subst e
    have := hs a ha
    rw [o.fr a hb] at this; cases this⟩
/-- a slot's own tree: its parts -/
theorem SttF.slot {B0 B : Kn} {H0 H : Hp} {ρ : Env} {σ : L2.St} {S : List Addr} {i : Nat} {t : OT} (s : SttF K B0 H0 B H ρ σ S) (e : ρ[i]? = some (some t)) : ∃ v T, σ[i]? = some (some v) ∧ RepO K B.b H t v T ∧ Own B0 H0 B T := by
  obtain ⟨A, T, C, hS, h2, _⟩ := s.st.sim.split e
  obtain ⟨v, hv, r⟩ := h2 _ rfl
  have sub : ∀ p ∈ T, p ∈ S := fun p hp => by rw [hS]; exact List.mem_append_right _ (List.mem_append_left _ hp)
  have nd := s.st.nd
  rw [hS, List.nodup_append, List.nodup_append] at nd
  exact ⟨v, T, hv, r, nd.2.1.1, fun p hp => s.fr p (sub p hp), fun p hp => (s.st.out p (sub p hp)).1, fun p hp => (s.st.out p (sub p hp)).2⟩
end
section
variable {X : Cx} {e : Expr} {pos cpos apos : Pos} {fo : RO} {fa : RD} {x : Str} {K : PySem.W.Frag}
/-- x.append(e) -/
theorem ds_append (i : Nat) {px : Pos} (he : EO X e fo) (hN : X.N[i]? = some x := by rfl) (hv : Vis X.env.scope x := by first | exact Or.inl rfl | exact Or.inr (Or.inl rfl) | exact Or.inr (Or.inr rfl)) (hd : (x == ("__debug__" : Str)) = false := by decide) (hcd : (x == ("__classdict__" : Str)) = false := by decide)
    (hs : swapsWith (.Call (.Attribute (.Name x px) "append" apos) [e] [] cpos) none pos.line X.env = pure false := by rfl)
    (hbase : attributeBase (.Name x px) "append" X.env (eval (.Name x px) X.env) = eval (.Name x px) X.env := by rfl)
    (hfew : ((backTo cpos (starEach [e] X.env)).all (fun x => !x.1) && (backToKw cpos (keywordEach [] X.env)).all (fun x => x.1.isSome) && decide ([e].length + ([] : List Keyword).length + (if ([] : List Keyword).isEmpty then 0 else 1) < 30)) = true := by rfl)
    (hline : (apos.endLine == cpos.line) = true := by rfl) (hst : starEach [e] X.env = (false, eval e X.env) :: starEach [] X.env := by rfl) (hplain : (backTo cpos (starEach [] X.env)).any (·.1) = false := by rfl) :
    DS X (.Expr (.Call (.Attribute (.Name x px) "append" apos) [e] [] cpos) pos) (fun P ρ M => ∃ l, ρ[i]? = some (some (.ow l)) ∧ fo ρ M fun t M => l.length < sizeLine ∧ P.nx (ρ.set i (some (.ow (l ++ [t])))) M) := by
  obtain ⟨te, pe, se⟩ := he.ex
  refine ⟨_, ps_expr (pe_bm PySem.F.plainAttrs_list PySem.F.slot_list_append PySem.F.type_list_append mt_append (pe_var hN hv hd hcd) (pa_cons pe pa_nil hst) hbase hfew hline hst hplain) hs, fun B0 H0 B H ρ σ S P D s hg k1 k2 k3 k4 => ?_⟩
  obtain ⟨l, el, hg⟩ := hg
  obtain ⟨p, xs, T, hσ, hp, hr, nW, hl, hT, k⟩ := s.mutate el
  refine ⟨_, hσ, .inl ⟨rfl, _, Evl.sq_of hp⟩, se B H ρ σ S _ _ s.st hg fun t v B1 H1 T1 g1 r1 o1 p1 => ?_⟩
  have hp1 : H1 p = some (.lst xs) := g1.h p _ nW hp
  refine ⟨p, xs, v, rfl, rfl, hp1, by rw [← hr.length]; exact p1.1, ?_⟩
  have r2 : RepOs X.K B1.b H1 (l ++ [t]) (xs ++ [v]) (T ++ T1) := by
    have := (hr.mono g1.b _ _ _ fun q hq => g1.same (hr.some q hq) (hT.2 q hq)).append (.cons r1 .nil)
    rwa [List.append_nil] at this
  obtain ⟨S', s'⟩ := k B1 H1 (l ++ [t]) (xs ++ [v]) (T ++ T1) g1 r2 (by rw [List.length_append]; exact p1.1) (o1.after hT.1 fun q hq => hr.some q hq) fun q hq => (List.mem_append.mp hq).imp id fun z => ⟨o1.fr q z, o1.nb q z, o1.nw q z⟩
  exact k1 _ _ _ _ S' s' p1.2
/-- .. of a list that changes behind one's back -/
theorem ds_appendM (i : Nat) {px : Pos} (he : ED X e fa) (hN : X.N[i]? = some x := by rfl) (hv : Vis X.env.scope x := by first | exact Or.inl rfl | exact Or.inr (Or.inl rfl) | exact Or.inr (Or.inr rfl)) (hd : (x == ("__debug__" : Str)) = false := by decide) (hcd : (x == ("__classdict__" : Str)) = false := by decide)
    (hs : swapsWith (.Call (.Attribute (.Name x px) "append" apos) [e] [] cpos) none pos.line X.env = pure false := by rfl)
    (hbase : attributeBase (.Name x px) "append" X.env (eval (.Name x px) X.env) = eval (.Name x px) X.env := by rfl)
    (hfew : ((backTo cpos (starEach [e] X.env)).all (fun x => !x.1) && (backToKw cpos (keywordEach [] X.env)).all (fun x => x.1.isSome) && decide ([e].length + ([] : List Keyword).length + (if ([] : List Keyword).isEmpty then 0 else 1) < 30)) = true := by rfl)
    (hline : (apos.endLine == cpos.line) = true := by rfl) (hst : starEach [e] X.env = (false, eval e X.env) :: starEach [] X.env := by rfl) (hplain : (backTo cpos (starEach [] X.env)).any (·.1) = false := by rfl) :
    DS X (.Expr (.Call (.Attribute (.Name x px) "append" apos) [e] [] cpos) pos) (fun P ρ M => ∃ p, ρ[i]? = some (some (.fz (.mob p))) ∧ (∃ l, M p = some (.lst l)) ∧ fa ρ M fun d M => ∃ l, M p = some (.lst l) ∧ l.length < sizeLine ∧ P.nx ρ (M.put p (.lst (l ++ [d])))) := by
  obtain ⟨te, pe, se⟩ := he.ex
  refine ⟨_, ps_expr (pe_bm PySem.F.plainAttrs_list PySem.F.slot_list_append PySem.F.type_list_append mt_append (pe_var hN hv hd hcd) (pa_cons pe pa_nil hst) hbase hfew hline hst hplain) hs, fun B0 H0 B H ρ σ S P D s hg k1 k2 k3 k4 => ?_⟩
  obtain ⟨p, el, ⟨l0, em0⟩, hg⟩ := hg
  obtain ⟨v, T, hσ, r, _⟩ := s.slot el
  cases r with
  | fz r =>
    cases r
    obtain ⟨_, xs0, hx0, _⟩ := s.st.base.wd p _ em0
    refine ⟨_, hσ, .inl ⟨rfl, _, Evl.sq_of hx0⟩, se B H ρ σ S _ _ s.st hg fun d v B1 H1 g1 r1 p1 => ?_⟩
    obtain ⟨l, em, hl, p1⟩ := p1
    obtain ⟨hb, xs, hx, hlen, rx⟩ := g1.base.wd p _ em
    refine ⟨p, xs, v, rfl, rfl, hx, by rw [← rx.length]; exact hl, ?_⟩
    have g2 := g1.base.chg (p := p) (o := .lst (l ++ [d])) (u := .lst (xs ++ [v])) (by rw [em]; exact fun z => nomatch z) ⟨_, upd_same, by rw [List.length_append]; exact hl, rx.append (.cons r1 .nil)⟩
    exact k1 _ _ _ _ S ((s.grow g1).grow g2) p1
/-- a name's own tree is handed on -/
theorem ds_retOwn (i : Nat) {px : Pos} (hN : X.N[i]? = some x := by rfl) (hv : Vis X.env.scope x := by first | exact Or.inl rfl | exact Or.inr (Or.inl rfl) | exact Or.inr (Or.inr rfl)) (hd : (x == ("__debug__" : Str)) = false := by decide) (hcd : (x == ("__classdict__" : Str)) = false := by decide) :
    DS X (.Return (some (.Name x px)) pos) (fun P ρ M => ∃ t, ρ[i]? = some (some t) ∧ P.rt t M) := by
  refine ⟨_, ps_ret (pe_var hN hv hd hcd), fun B0 H0 B H ρ σ S P D s hg k1 k2 k3 k4 => ?_⟩
  obtain ⟨t, e, p⟩ := hg
  obtain ⟨v, T, hσ, r, o⟩ := s.slot e
  exact ⟨v, hσ, k4 t v B H T s.gr r o p⟩
/-- a name's own list of known data becomes one that may change behind one's back -/
theorem SndS.mob {tS : TS} {g : RS} (i : Nat) (h : SndS K tS g) : SndS K tS (fun P ρ M => ∃ l, ρ[i]? = some (some (.ow (l.map .fz))) ∧ ∀ p, M p = none → g P (ρ.set i (some (.fz (.mob p)))) (M.put p (.lst l))) := by
  intro B0 H0 B H ρ σ S P D s hg k1 k2 k3 k4
  obtain ⟨l, e, hg⟩ := hg
  obtain ⟨A, T, C, hS, h2, h3, h4, h5⟩ := s.st.sim.split e
  obtain ⟨v, hv, r⟩ := h2 _ rfl
  cases r with
  | @ow p xs _ T hp hl hr =>
    obtain ⟨hr', e2⟩ := RepOs.unfz hr
    subst e2
    have nd := s.st.nd
    rw [hS] at nd
    have pS : p ∈ S := by rw [hS]; exact List.mem_append_right _ (List.mem_append_left _ List.mem_cons_self)
    have sub : ∀ q ∈ A ++ C, q ∈ S ∧ q ≠ p := fun q hq => by
      rw [List.nodup_append] at nd
      rcases List.mem_append.mp hq with z | z
      · exact ⟨by rw [hS]; exact List.mem_append_left _ z, nd.2.2 q z p (List.mem_append_left _ List.mem_cons_self)⟩
      · refine ⟨by rw [hS]; exact List.mem_append_right _ (List.mem_append_right _ z), fun w => ?_⟩
        have := nd.2.1
        rw [List.nodup_append] at this
        exact this.2.2 p List.mem_cons_self q z w.symm
    obtain ⟨pB, pM⟩ := s.st.out p pS
    have g1 : Grow K B0 H0 (B.put p (.lst l)) H := s.gr.mob (s.fr p pS) pB pM ⟨xs, hp, by rw [List.length_map] at hl; exact hl, hr'⟩
    refine h B0 H0 (B.put p (.lst l)) H _ σ (A ++ ([] ++ C)) P D ⟨⟨g1.base, h5 B.b H (.fz (.mob p)) (.ref p) [] Ext.rfl (fun _ _ => rfl) hv (.fz (.mob p)), ?_, fun q hq => ?_⟩, g1, fun q hq => s.fr q (sub q hq).1⟩ (hg p pM) k1 k2 k3 k4
    · exact nd.sublist (List.Sublist.append_left (List.sublist_append_right _ C) A)
    · exact ⟨(s.st.out q (sub q hq).1).1, (Mem.put_ne (sub q hq).2).trans (s.st.out q (sub q hq).1).2⟩
theorem DS.mob {st : Stmt} {g : RS} (i : Nat) (h : DS X st g) : DS X st (fun P ρ M => ∃ l, ρ[i]? = some (some (.ow (l.map .fz))) ∧ ∀ p, M p = none → g P (ρ.set i (some (.fz (.mob p)))) (M.put p (.lst l))) := by
  obtain ⟨t, p, s⟩ := h.ex
  exact ⟨t, p, s.mob i⟩
theorem DSs.mob {st : List Stmt} {g : RS} (i : Nat) (h : DSs X st g) : DSs X st (fun P ρ M => ∃ l, ρ[i]? = some (some (.ow (l.map .fz))) ∧ ∀ p, M p = none → g P (ρ.set i (some (.fz (.mob p)))) (M.put p (.lst l))) := by
  obtain ⟨t, p, s⟩ := h.ex
  exact ⟨t, p, s.mob i⟩
end
end DL

/-! DL7: more changes of one's own lists; calls of built-in names. -/
namespace DL
open PySem L2 PySem.Spec
open PyProof.Rows hiding St
open PySem.PyData (strOk)
set_option autoImplicit false
section
variable {X : Cx} {e ei : Expr} {es : List Expr} {pos cpos apos : Pos} {fo : RO} {fa fb : RD} {f : RA} {x y : Str} {K : PySem.W.Frag}
theorem RepOs.rev {B H : Hp} : ∀ {l : List OT} {xs : List V} {T : List Addr}, RepOs K B H l xs T → T.Nodup → ∃ T', RepOs K B H l.reverse xs.reverse T' ∧ T'.Perm T
  | _, _, _, .nil, _ => ⟨[], .nil, .refl _⟩
  | _, _, _, .cons (T := T1) (T' := T2) r t, nd => by
    obtain ⟨T', r', p'⟩ := RepOs.rev t (List.nodup_append.mp nd).2.1
    refine ⟨T' ++ (T1 ++ []), ?_, ?_⟩
    · rw [List.reverse_cons, List.reverse_cons]
      exact r'.append (.cons r .nil)
    · rw [List.append_nil]
      exact List.perm_append_comm.trans (p'.append_left T1)
/-- x.extend(e), e a known list -/
theorem ds_extend (i : Nat) {px : Pos} (he : ED X e fa) (hN : X.N[i]? = some x := by rfl) (hv : Vis X.env.scope x := by first | exact Or.inl rfl | exact Or.inr (Or.inl rfl) | exact Or.inr (Or.inr rfl)) (hd : (x == ("__debug__" : Str)) = false := by decide) (hcd : (x == ("__classdict__" : Str)) = false := by decide)
    (hs : swapsWith (.Call (.Attribute (.Name x px) "extend" apos) [e] [] cpos) none pos.line X.env = pure false := by rfl)
    (hbase : attributeBase (.Name x px) "extend" X.env (eval (.Name x px) X.env) = eval (.Name x px) X.env := by rfl)
    (hfew : ((backTo cpos (starEach [e] X.env)).all (fun x => !x.1) && (backToKw cpos (keywordEach [] X.env)).all (fun x => x.1.isSome) && decide ([e].length + ([] : List Keyword).length + (if ([] : List Keyword).isEmpty then 0 else 1) < 30)) = true := by rfl)
    (hline : (apos.endLine == cpos.line) = true := by rfl) (hst : starEach [e] X.env = (false, eval e X.env) :: starEach [] X.env := by rfl) (hplain : (backTo cpos (starEach [] X.env)).any (·.1) = false := by rfl) :
    DS X (.Expr (.Call (.Attribute (.Name x px) "extend" apos) [e] [] cpos) pos) (fun P ρ M => ∃ l, ρ[i]? = some (some (.ow l)) ∧ fa ρ M fun d M => ∃ m, d = .lst m ∧ l.length + m.length ≤ sizeLine ∧ P.nx (ρ.set i (some (.ow (l ++ m.map .fz)))) M) := by
  obtain ⟨te, pe, se⟩ := he.ex
  refine ⟨_, ps_expr (pe_bm PySem.F.plainAttrs_list PySem.F.slot_list_extend PySem.F.type_list_extend mt_extend (pe_var hN hv hd hcd) (pa_cons pe pa_nil hst) hbase hfew hline hst hplain) hs, fun B0 H0 B H ρ σ S P D s hg k1 k2 k3 k4 => ?_⟩
  obtain ⟨l, el, hg⟩ := hg
  obtain ⟨p, xs, T, hσ, hp, hr, nW, hl, hT, k⟩ := s.mutate el
  refine ⟨_, hσ, .inl ⟨rfl, _, Evl.sq_of hp⟩, se B H ρ σ S _ _ s.st hg fun d v B1 H1 g1 r1 p1 => ?_⟩
  obtain ⟨m, rfl, hz, p1⟩ := p1
  have hp1 : H1 p = some (.lst xs) := g1.h p _ nW hp
  cases r1 with
  | @lst b zs _ hb hlb rb =>
    refine ⟨p, b, xs, zs, rfl, rfl, hp1, g1.base.bh _ _ hb, by rw [← hr.length, ← rb.length]; exact hz, ?_⟩
    have r2 : RepOs X.K B1.b H1 (l ++ m.map .fz) (xs ++ zs) (T ++ []) := (hr.mono g1.b _ _ _ fun q hq => g1.same (hr.some q hq) (hT.2 q hq)).append (RepOs.fzs rb)
    rw [List.append_nil] at r2
    obtain ⟨S', s'⟩ := k B1 H1 _ _ T g1 r2 (by rw [List.length_append, List.length_map]; exact hz) hT.1 fun q hq => .inl hq
    exact k1 _ _ _ _ S' s' p1
/-- x.reverse(), x.clear() -/
theorem ds_reverse (i : Nat) {px : Pos} (hN : X.N[i]? = some x := by rfl) (hv : Vis X.env.scope x := by first | exact Or.inl rfl | exact Or.inr (Or.inl rfl) | exact Or.inr (Or.inr rfl)) (hd : (x == ("__debug__" : Str)) = false := by decide) (hcd : (x == ("__classdict__" : Str)) = false := by decide)
    (hs : swapsWith (.Call (.Attribute (.Name x px) "reverse" apos) [] [] cpos) none pos.line X.env = pure false := by rfl)
    (hbase : attributeBase (.Name x px) "reverse" X.env (eval (.Name x px) X.env) = eval (.Name x px) X.env := by rfl) (hline : (apos.endLine == cpos.line) = true := by rfl) :
    DS X (.Expr (.Call (.Attribute (.Name x px) "reverse" apos) [] [] cpos) pos) (fun P ρ M => ∃ l, ρ[i]? = some (some (.ow l)) ∧ P.nx (ρ.set i (some (.ow l.reverse))) M) := by
  refine ⟨_, ps_expr (pe_bm0 PySem.F.plainAttrs_list PySem.F.slot_list_reverse PySem.F.type_list_reverse mt_reverse (pe_var hN hv hd hcd) hbase hline) hs, fun B0 H0 B H ρ σ S P D s hg k1 k2 k3 k4 => ?_⟩
  obtain ⟨l, el, hg⟩ := hg
  obtain ⟨p, xs, T, hσ, hp, hr, nW, hl, hT, k⟩ := s.mutate el
  obtain ⟨T', r', pm⟩ := hr.rev hT.1
  refine ⟨_, hσ, .inl ⟨rfl, _, Evl.sq_of hp⟩, p, xs, rfl, rfl, hp, ?_⟩
  obtain ⟨S', s'⟩ := k B H _ _ T' s.st.base.grow r' (by rw [List.length_reverse]; exact hl) (pm.nodup_iff.mpr hT.1) fun q hq => .inl (pm.mem_iff.mp hq)
  exact k1 _ _ _ _ S' s' hg
theorem ds_clear (i : Nat) {px : Pos} (hN : X.N[i]? = some x := by rfl) (hv : Vis X.env.scope x := by first | exact Or.inl rfl | exact Or.inr (Or.inl rfl) | exact Or.inr (Or.inr rfl)) (hd : (x == ("__debug__" : Str)) = false := by decide) (hcd : (x == ("__classdict__" : Str)) = false := by decide)
    (hs : swapsWith (.Call (.Attribute (.Name x px) "clear" apos) [] [] cpos) none pos.line X.env = pure false := by rfl)
    (hbase : attributeBase (.Name x px) "clear" X.env (eval (.Name x px) X.env) = eval (.Name x px) X.env := by rfl) (hline : (apos.endLine == cpos.line) = true := by rfl) :
    DS X (.Expr (.Call (.Attribute (.Name x px) "clear" apos) [] [] cpos) pos) (fun P ρ M => ∃ l, ρ[i]? = some (some (.ow l)) ∧ P.nx (ρ.set i (some (.ow []))) M) := by
  refine ⟨_, ps_expr (pe_bm0 PySem.F.plainAttrs_list PySem.F.slot_list_clear PySem.F.type_list_clear mt_clear (pe_var hN hv hd hcd) hbase hline) hs, fun B0 H0 B H ρ σ S P D s hg k1 k2 k3 k4 => ?_⟩
  obtain ⟨l, el, hg⟩ := hg
  obtain ⟨p, xs, T, hσ, hp, hr, nW, hl, hT, k⟩ := s.mutate el
  refine ⟨_, hσ, .inl ⟨rfl, _, Evl.sq_of hp⟩, p, xs, rfl, rfl, hp, ?_⟩
  obtain ⟨S', s'⟩ := k B H [] [] [] s.st.base.grow .nil (Nat.zero_le _) .nil fun q hq => nomatch hq
  exact k1 _ _ _ _ S' s' hg
/-- all items of one's own list are known data -/
def fzs (l : List OT) : Option (List D) := match l with
  | [] => some []
  | .fz d :: r => (fzs r).map (d :: ·)
  | .ow _ :: _ => none
  | .od _ _ :: _ => none
  | .on _ _ _ :: _ => none
theorem fzs_map : ∀ l : List D, fzs (l.map .fz) = some l
  | [] => rfl
  | d :: l => by simp [fzs, fzs_map l]
theorem fzs_eq : ∀ {l : List OT} {ds : List D}, fzs l = some ds → l = ds.map .fz
  | [], ds, h => by cases h; rfl
  | .fz d :: r, ds, h => by
    simp only [fzs, Option.map_eq_some_iff] at h
    obtain ⟨a, ha, rfl⟩ := h
    rw [fzs_eq ha]; rfl
  | .ow _ :: _, _, h => by simp [fzs] at h
  | .od _ _ :: _, _, h => by simp [fzs] at h
  | .on _ _ _ :: _, _, h => by simp [fzs] at h
/-- x[k] = e -/
theorem ds_setIx (i : Nat) {px spos : Pos} (he : ED X e fa) (hk : EV X ei fb) (hN : X.N[i]? = some x := by rfl) (hv : Vis X.env.scope x := by first | exact Or.inl rfl | exact Or.inr (Or.inl rfl) | exact Or.inr (Or.inr rfl)) (hd : (x == ("__debug__" : Str)) = false := by decide) (hcd : (x == ("__classdict__" : Str)) = false := by decide)
    (ha : ∀ v, assign (.Subscript (.Name x px) ei spos) X.env v = (do
      let ov ← holding [v] (eval (.Name x px) X.env)
      let iv ← holding [v, ov] (eval ei X.env)
      standAt spos
      holding [v, ov, iv] (setItem ov iv v)
      release [v, ov, iv] []) := by intro _; rfl)
    (hs : swapsWithSole [.Subscript (.Name x px) ei spos] e pos.line X.env = pure false := by rfl) (hw : swappedStores [.Subscript (.Name x px) ei spos] e X.env = pure none := by rfl)
    (h1 : (assignEach [.Subscript (.Name x px) ei spos] X.env).map (·.2) = [assign (.Subscript (.Name x px) ei spos) X.env] := by rfl) :
    DS X (.Assign [.Subscript (.Name x px) ei spos] e pos) (fun P ρ M => fa ρ M fun d M => ∃ l m, ρ[i]? = some (some (.ow l)) ∧ fzs l = some m ∧ fb ρ M fun n M => ∃ k j, n = .int k ∧ ixN m.length k = some j ∧ P.nx (ρ.set i (some (.ow ((m.set j d).map .fz)))) M) := by
  obtain ⟨te, pe, se⟩ := he.ex
  obtain ⟨tk, pk, sk⟩ := hk.ex
  refine ⟨_, ps_asg pe (pg_sub (pe_var hN hv hd hcd) pk set_list ha) hs hw h1, fun B0 H0 B H ρ σ S P D s hg k1 k2 k3 k4 => se B H ρ σ S _ _ s.st hg fun d v B1 H1 g1 r1 hk1 => ?_⟩
  have s1 := s.grow g1
  obtain ⟨l, m, el, em, hk1⟩ := hk1
  obtain rfl := fzs_eq em
  obtain ⟨p, xs, T, hσ, hp, hr, nW, hl, hT, k⟩ := s1.mutate el
  refine ⟨_, hσ, sk B1 H1 ρ σ S _ _ s1.st hk1 fun n vn B2 H2 g2 r2 p2 => ?_⟩
  obtain ⟨kk, j, rfl, hj, p2⟩ := p2
  cases r2
  obtain ⟨hr', rfl⟩ := RepOs.unfz hr
  refine ⟨p, xs, kk, j, rfl, rfl, g2.h p _ nW hp, by rw [← hr'.length]; exact hj, ?_⟩
  obtain ⟨S', s'⟩ := k B2 H2 ((m.set j d).map .fz) (xs.set j v) [] g2 (RepOs.fzs ((hr'.up g2.b).set j (r1.up g2.b))) (by rw [List.length_map, List.length_set]; rw [List.length_map] at hl; exact hl) .nil fun q hq => nomatch hq
  exact k1 _ _ _ _ S' s' p2
/-- y = x.pop() : the last one, known data -/
theorem ds_pop (i j : Nat) {px py : Pos} (hNd : X.N.Nodup) (hN : X.N[i]? = some x := by rfl) (hv : Vis X.env.scope x := by first | exact Or.inl rfl | exact Or.inr (Or.inl rfl) | exact Or.inr (Or.inr rfl)) (hd : (x == ("__debug__" : Str)) = false := by decide) (hcd : (x == ("__classdict__" : Str)) = false := by decide)
    (hj : X.N[j]? = some y := by rfl) (hy : Loc X.env.scope y := by first | exact Or.inl rfl | exact Or.inr rfl) (hs : swapsWith (.Call (.Attribute (.Name x px) "pop" apos) [] [] cpos) (some (.Name y py)) pos.line X.env = pure false := by rfl)
    (hf : X.fn y = true ∨ X.env.scope.names.lookup y = some .local := by first | exact .inl rfl | exact .inr rfl | assumption) (hij : j ≠ i := by decide)
    (hbase : attributeBase (.Name x px) "pop" X.env (eval (.Name x px) X.env) = eval (.Name x px) X.env := by rfl) (hline : (apos.endLine == cpos.line) = true := by rfl) :
    DS X (.Assign [.Name y py] (.Call (.Attribute (.Name x px) "pop" apos) [] [] cpos) pos) (fun P ρ M => ∃ l m d, ρ[i]? = some (some (.ow l)) ∧ fzs l = some (m ++ [d]) ∧ j < ρ.length ∧ P.nx ((ρ.set i (some (.ow (m.map .fz)))).set j (some (.fz d))) M) := by
  refine ⟨_, ps_set hNd hj hy (pe_bm0 PySem.F.plainAttrs_list PySem.F.slot_list_pop PySem.F.type_list_pop mt_pop (pe_var hN hv hd hcd) hbase hline) hs hf, fun B0 H0 B H ρ σ S P D s hg k1 k2 k3 k4 => ?_⟩
  obtain ⟨l, m, d, el, em, hjl, hg⟩ := hg
  obtain rfl := fzs_eq em
  obtain ⟨p, xs, T, hσ, hp, hr, nW, hl, hT, k⟩ := s.mutate el
  obtain ⟨hr', rfl⟩ := RepOs.unfz hr
  have hlen := hr'.length
  rw [List.length_append, List.length_singleton] at hlen
  have hd' : (m ++ [d])[xs.length - 1]? = some d := by
    rw [← hlen, Nat.add_sub_cancel, List.getElem?_append_right (Nat.le_refl _), Nat.sub_self]; rfl
  obtain ⟨v, hv', rd⟩ := hr'.getD hd'
  have hm : Reps X.K B m xs.dropLast := by
    have h1 := hr'.take m.length
    rw [List.take_left] at h1
    rw [List.dropLast_eq_take, ← hlen, Nat.add_sub_cancel]
    exact h1
  refine ⟨_, hσ, .inl ⟨rfl, _, Evl.sq_of hp⟩, p, xs, v, rfl, rfl, hp, hv', ?_⟩
  obtain ⟨S', s'⟩ := k B H (m.map .fz) xs.dropLast [] s.st.base.grow (RepOs.fzs hm) (by rw [List.length_map]; rw [List.length_map, List.length_append] at hl; omega) .nil fun q hq => nomatch hq
  obtain ⟨S2, s2, _⟩ := s'.putA (i := j) (t := .fz d) (v := v) (T1 := []) (by rw [List.length_set]; exact hjl) (.fz rd) .nil (fun _ h => nomatch h) (fun _ h => nomatch h)
  exact k1 _ _ _ _ S2 s2 hg
/-- a place of one's own list of known data -/
theorem ed_ixO (i : Nat) {px : Pos} (hk : EV X ei fb) (hN : X.N[i]? = some x := by rfl) (hv : Vis X.env.scope x := by first | exact Or.inl rfl | exact Or.inr (Or.inl rfl) | exact Or.inr (Or.inr rfl)) (hd : (x == ("__debug__" : Str)) = false := by decide) (hcd : (x == ("__classdict__" : Str)) = false := by decide)
    (hp : PlainIx ei := by exact fun _ _ => rfl) : ED X (.Subscript (.Name x px) ei pos) (fun ρ M P => ∃ l m, ρ[i]? = some (some (.ow l)) ∧ fzs l = some m ∧ fb ρ M fun n M => ∃ k d, n = .int k ∧ atI m k = some d ∧ P d M) := by
  obtain ⟨tk, pk, sk⟩ := hk.ex
  refine ⟨_, pe_ix ix_list (pe_var hN hv hd hcd) pk hp, fun B H ρ σ S P Q st hf k => ?_⟩
  obtain ⟨l, m, el, em, hf⟩ := hf
  obtain rfl := fzs_eq em
  obtain ⟨A, T, C, hS, h2, _⟩ := st.sim.split el
  obtain ⟨v, hσ, r⟩ := h2 _ rfl
  cases r with
  | @ow p xs _ T hp hl hr =>
    obtain ⟨hr', rfl⟩ := RepOs.unfz hr
    have nW := (st.out p (by rw [hS]; exact List.mem_append_right _ (List.mem_append_left _ List.mem_cons_self))).2
    refine ⟨_, hσ, sk B H ρ σ S _ _ st hf fun n vn B1 H1 g1 r1 p1 => ?_⟩
    obtain ⟨kk, d, rfl, hd, p1⟩ := p1
    cases r1
    obtain ⟨v, e, rd⟩ := hr'.atI hd
    exact ⟨p, xs, kk, v, rfl, rfl, Evl.sq_of (g1.h p _ nW hp), e, k d v B1 H1 g1 (rd.up g1.b) p1⟩

/-! ### built-in names called -/
/-- a call of values, the operands as they stand -/
def SCV (K : PySem.W.Frag) (r : List V → Hp → VK → Prop) (h : List D → Mem → (D → Mem → Prop) → Prop) : Prop :=
  ∀ (B : Kn) (H : Hp) (ds : List D) (vs : List V) (P : D → Mem → Prop) (Q : VK), Base K B H → Reps K (Hm B.m H) ds vs → h ds B.m P → (∀ d v B' H', Grow K B H B' H' → Rep K B' d v → P d B'.m → Q v H') → r vs H Q
def SCO (K : PySem.W.Frag) (r : List V → Hp → VK → Prop) (h : List D → Mem → (OT → Mem → Prop) → Prop) : Prop :=
  ∀ (B : Kn) (H : Hp) (ds : List D) (vs : List V) (P : OT → Mem → Prop) (Q : VK), Base K B H → Reps K B ds vs → h ds B.m P → (∀ t v B' H' T, Grow K B H B' H' → RepO K B' H' t v T → Own B H B' T → P t B'.m → Q v H') → r vs H Q
variable {T bid : String} {r : List V → Hp → VK → Prop} {p : Pos}
theorem ed_callB {h : List D → Mem → (D → Mem → Prop) → Prop} (hc : CallR X (.builtin bid) r) (sr : SCV X.K r h) (ha : AV X (e :: es) f) (hm : X.mg x = none) (hv : bootBuiltins x = some (.builtin bid)) (hg : Gl X x := by rfl) (hn : x ≠ "__name__" := by decide) (hdb : (x == ("__debug__" : Str)) = false := by decide)
    (he : starEach (e :: es) X.env = (false, eval e X.env) :: starEach es X.env := by rfl) (hpl : (backTo pos (starEach es X.env)).any (·.1) = false := by rfl) : ED X (.Call (.Name x p) (e :: es) [] pos) (fun ρ M P => f ρ M fun ds M => h ds M P) := by
  obtain ⟨ta, pa, sa⟩ := ha.ex
  exact ⟨_, pe_callB hc hg hm hv pa hn hdb he hpl, fun B H ρ σ S P Q st hf k => sa B H ρ σ S _ _ st hf fun ds vs B1 H1 g1 r1 p1 => sr B1 H1 ds vs P Q g1.base r1 p1 fun d v B' H' g r2 p2 => k d v B' H' (g1.trans g) r2 p2⟩
theorem ed_callT {h : List D → Mem → (D → Mem → Prop) → Prop} (hc : CallR X (.type T) r) (sr : SCV X.K r h) (ha : AV X (e :: es) f) (hm : X.mg x = none) (hv : bootBuiltins x = some (.type T)) (hg : Gl X x := by rfl) (hn : x ≠ "__name__" := by decide) (hdb : (x == ("__debug__" : Str)) = false := by decide)
    (he : starEach (e :: es) X.env = (false, eval e X.env) :: starEach es X.env := by rfl) (hpl : (backTo pos (starEach es X.env)).any (·.1) = false := by rfl) : ED X (.Call (.Name x p) (e :: es) [] pos) (fun ρ M P => f ρ M fun ds M => h ds M P) := by
  obtain ⟨ta, pa, sa⟩ := ha.ex
  exact ⟨_, pe_callTy hc hg hm hv pa hn hdb he hpl, fun B H ρ σ S P Q st hf k => sa B H ρ σ S _ _ st hf fun ds vs B1 H1 g1 r1 p1 => sr B1 H1 ds vs P Q g1.base r1 p1 fun d v B' H' g r2 p2 => k d v B' H' (g1.trans g) r2 p2⟩
theorem eo_callB {h : List D → Mem → (OT → Mem → Prop) → Prop} (hc : CallR X (.builtin bid) r) (sr : SCO X.K r h) (ha : AD X (e :: es) f) (hm : X.mg x = none) (hv : bootBuiltins x = some (.builtin bid)) (hg : Gl X x := by rfl) (hn : x ≠ "__name__" := by decide) (hdb : (x == ("__debug__" : Str)) = false := by decide)
    (he : starEach (e :: es) X.env = (false, eval e X.env) :: starEach es X.env := by rfl) (hpl : (backTo pos (starEach es X.env)).any (·.1) = false := by rfl) : EO X (.Call (.Name x p) (e :: es) [] pos) (fun ρ M P => f ρ M fun ds M => h ds M P) := by
  obtain ⟨ta, pa, sa⟩ := ha.ex
  exact ⟨_, pe_callB hc hg hm hv pa hn hdb he hpl, fun B H ρ σ S P Q st hf k => sa B H ρ σ S _ _ st hf fun ds vs B1 H1 g1 r1 p1 => sr B1 H1 ds vs P Q g1.base r1 p1 fun t v B' H' T g r2 o p2 => k t v B' H' T (g1.trans g) r2 (o.back g1) p2⟩
theorem eo_callT {h : List D → Mem → (OT → Mem → Prop) → Prop} (hc : CallR X (.type T) r) (sr : SCO X.K r h) (ha : AD X (e :: es) f) (hm : X.mg x = none) (hv : bootBuiltins x = some (.type T)) (hg : Gl X x := by rfl) (hn : x ≠ "__name__" := by decide) (hdb : (x == ("__debug__" : Str)) = false := by decide)
    (he : starEach (e :: es) X.env = (false, eval e X.env) :: starEach es X.env := by rfl) (hpl : (backTo pos (starEach es X.env)).any (·.1) = false := by rfl) : EO X (.Call (.Name x p) (e :: es) [] pos) (fun ρ M P => f ρ M fun ds M => h ds M P) := by
  obtain ⟨ta, pa, sa⟩ := ha.ex
  exact ⟨_, pe_callTy hc hg hm hv pa hn hdb he hpl, fun B H ρ σ S P Q st hf k => sa B H ρ σ S _ _ st hf fun ds vs B1 H1 g1 r1 p1 => sr B1 H1 ds vs P Q g1.base r1 p1 fun t v B' H' T g r2 o p2 => k t v B' H' T (g1.trans g) r2 (o.back g1) p2⟩
theorem Reps.one {B : Hp} {d : D} {vs : List V} (h : Reps K B [d] vs) : ∃ v, vs = [v] ∧ Rep K B d v := by
  cases h with
  | cons r t => cases t; exact ⟨_, rfl, r⟩
theorem Reps.two {B : Hp} {d e : D} {vs : List V} (h : Reps K B [d, e] vs) : ∃ v u, vs = [v, u] ∧ Rep K B d v ∧ Rep K B e u := by
  cases h with
  | cons r t =>
    cases t with
    | cons r' t' => cases t'; exact ⟨_, _, rfl, r, r'⟩
/-- len -/
def hLen (ds : List D) (M : Mem) (P : D → Mem → Prop) : Prop := match ds with
  | [.lst l] => P (.int l.length) M
  | [.tup l] => P (.int l.length) M
  | [.scr l] => P (.int l.length) M
  | [.str z] => z.length ≤ sizeLine ∧ P (.int z.length) M
  | [.mob p] => ∃ l, M p = some (.lst l) ∧ P (.int l.length) M
  | _ => False
theorem sc_len : SCV K (fun xs H Q => ∃ x n, xs = [x] ∧ LenV K x H n ∧ Q (.int n) H) hLen := by
  intro B H ds vs P Q bs r h k
  match ds, h with
  | [.lst l], h =>
    obtain ⟨v, rfl, q⟩ := r.one
    cases q with
    | lst h1 h2 h3 => exact ⟨_, _, rfl, .inl ⟨_, Evl.sq_of (Hm_ext _ _ h1), rfl⟩, by rw [← h3.length]; exact k _ _ B H bs.grow (.int _) h⟩
  | [.tup l], h =>
    obtain ⟨v, rfl, q⟩ := r.one
    cases q with
    | tup h1 h2 h3 => exact ⟨_, _, rfl, .inr ⟨_, Evl.ex_t Hm_ext h1, rfl⟩, by rw [← h3.length]; exact k _ _ B H bs.grow (.int _) h⟩
  | [.scr l], h =>
    obtain ⟨v, rfl, q⟩ := r.one
    cases q with
    | scr h1 => exact ⟨_, _, rfl, .inl ⟨_, Evl.ex_l Hm_ext h1, rfl⟩, by rw [List.length_map]; exact k _ _ B H bs.grow (.int _) h⟩
  | [.mob p], h =>
    obtain ⟨v, rfl, q⟩ := r.one
    obtain ⟨l, em, h⟩ := h
    cases q
    obtain ⟨_, xs, hx, hl, hrx⟩ := bs.wd p _ em
    exact ⟨_, _, rfl, .inl ⟨_, Evl.sq_of hx, rfl⟩, by rw [← hrx.length]; exact k _ _ B H bs.grow (.int _) h⟩
  | [.str z], h =>
    obtain ⟨v, rfl, q⟩ := r.one
    cases q with
    | str h1 => exact ⟨_, _, rfl, ⟨h.1, rfl⟩, k _ _ B H bs.grow (.int _) h.2⟩
theorem ed_len (hm : X.mg "len" = none) (ha : AV X [e] f) (hg : Gl X "len" := by rfl) (he : starEach [e] X.env = (false, eval e X.env) :: starEach [] X.env := by rfl) : ED X (.Call (.Name "len" p) [e] [] pos) (fun ρ M P => f ρ M fun ds M => hLen ds M P) := ed_callB call_len sc_len ha hm PySem.boot_len hg (by decide) (by decide) he rfl
def hAbs (ds : List D) (M : Mem) (P : D → Mem → Prop) : Prop := ∃ i, ds = [.int i] ∧ P (.int (if i < 0 then -i else i)) M
theorem ed_abs (hm : X.mg "abs" = none) (ha : AV X [e] f) (hg : Gl X "abs" := by rfl) (he : starEach [e] X.env = (false, eval e X.env) :: starEach [] X.env := by rfl) : ED X (.Call (.Name "abs" p) [e] [] pos) (fun ρ M P => f ρ M fun ds M => hAbs ds M P) := ed_callB call_abs (fun B H ds vs P Q bs r h k => by
  obtain ⟨i, rfl, h⟩ := h
  obtain ⟨v, rfl, q⟩ := r.one
  cases q
  exact ⟨i, rfl, k _ _ B H bs.grow (.int _) h⟩) ha hm (by decide +kernel) hg (by decide) (by decide) he rfl
def hInt1 (ds : List D) (M : Mem) (P : D → Mem → Prop) : Prop := match ds with
  | [.int i] => P (.int i) M
  | [.bl b] => P (.int (if b then 1 else 0)) M
  | _ => False
theorem ed_int1 (hm : X.mg "int" = none) (ha : AV X [e] f) (hg : Gl X "int" := by rfl) (he : starEach [e] X.env = (false, eval e X.env) :: starEach [] X.env := by rfl) : ED X (.Call (.Name "int" p) [e] [] pos) (fun ρ M P => f ρ M fun ds M => hInt1 ds M P) := ed_callT call_int1 (fun B H ds vs P Q bs r h k => by
  match ds, h with
  | [.int i], h =>
    obtain ⟨v, rfl, q⟩ := r.one
    cases q
    exact .inl ⟨i, rfl, k _ _ B H bs.grow (.int _) h⟩
  | [.bl b], h =>
    obtain ⟨v, rfl, q⟩ := r.one
    cases q
    exact .inr ⟨b, rfl, k _ _ B H bs.grow (.int _) h⟩) ha hm (by decide +kernel) hg (by decide) (by decide) he rfl
theorem ed_max2 (hc : X.calm = true) (hm : X.mg "max" = none) {e' : Expr} (ha : AV X [e, e'] f) (hg : Gl X "max" := by rfl) (he : starEach [e, e'] X.env = (false, eval e X.env) :: starEach [e'] X.env := by rfl) (hpl : (backTo pos (starEach [e'] X.env)).any (·.1) = false := by rfl) :
    ED X (.Call (.Name "max" p) [e, e'] [] pos) (fun ρ M P => f ρ M fun ds M => ∃ i j, ds = [.int i, .int j] ∧ P (.int (if j > i then j else i)) M) := ed_callB (h := fun ds M P => ∃ i j, ds = [.int i, .int j] ∧ P (.int (if j > i then j else i)) M) (call_max2 hc) (fun B H ds vs P Q bs r h k => by
  obtain ⟨i, j, rfl, h⟩ := h
  obtain ⟨v, u, rfl, q, q'⟩ := r.two
  cases q; cases q'
  exact ⟨i, j, rfl, k _ _ B H bs.grow (.int _) h⟩) ha hm (by decide +kernel) hg (by decide) (by decide) he hpl
theorem ed_min2 (hc : X.calm = true) (hm : X.mg "min" = none) {e' : Expr} (ha : AV X [e, e'] f) (hg : Gl X "min" := by rfl) (he : starEach [e, e'] X.env = (false, eval e X.env) :: starEach [e'] X.env := by rfl) (hpl : (backTo pos (starEach [e'] X.env)).any (·.1) = false := by rfl) :
    ED X (.Call (.Name "min" p) [e, e'] [] pos) (fun ρ M P => f ρ M fun ds M => ∃ i j, ds = [.int i, .int j] ∧ P (.int (if j < i then j else i)) M) := ed_callB (h := fun ds M P => ∃ i j, ds = [.int i, .int j] ∧ P (.int (if j < i then j else i)) M) (call_min2 hc) (fun B H ds vs P Q bs r h k => by
  obtain ⟨i, j, rfl, h⟩ := h
  obtain ⟨v, u, rfl, q, q'⟩ := r.two
  cases q; cases q'
  exact ⟨i, j, rfl, k _ _ B H bs.grow (.int _) h⟩) ha hm (by decide +kernel) hg (by decide) (by decide) he hpl
/-- all, any of a list of truths -/
theorem bools_of {B : Hp} : ∀ {bs : List Bool} {vs : List V}, Reps K B (bs.map D.bl) vs → vs = bs.map V.bl
  | [], _, h => by cases h; rfl
  | b :: bs, _, h => by
    cases h with
    | cons r t => cases r; rw [bools_of t]; rfl
def hAll (q : List Bool → Bool) (ds : List D) (M : Mem) (P : D → Mem → Prop) : Prop := ∃ bs, ds = [.lst (bs.map D.bl)] ∧ P (.bl (q bs)) M
theorem ed_all (hc : X.calm = true) (hm : X.mg "all" = none) (ha : AV X [e] f) (hg : Gl X "all" := by rfl) (he : starEach [e] X.env = (false, eval e X.env) :: starEach [] X.env := by rfl) : ED X (.Call (.Name "all" p) [e] [] pos) (fun ρ M P => f ρ M fun ds M => hAll (·.all id) ds M P) := ed_callB (cr_all hc) (fun B H ds vs P Q bs r h k => by
  obtain ⟨l, rfl, h⟩ := h
  obtain ⟨v, rfl, q⟩ := r.one
  cases q with
  | lst h1 h2 h3 =>
    have := bools_of h3
    subst this
    exact ⟨_, l, rfl, Evl.sq_of (Hm_ext _ _ h1), k _ _ B H bs.grow (.bl _) h⟩) ha hm (by decide +kernel) hg (by decide) (by decide) he rfl
theorem ed_any (hc : X.calm = true) (hm : X.mg "any" = none) (ha : AV X [e] f) (hg : Gl X "any" := by rfl) (he : starEach [e] X.env = (false, eval e X.env) :: starEach [] X.env := by rfl) : ED X (.Call (.Name "any" p) [e] [] pos) (fun ρ M P => f ρ M fun ds M => hAll (·.any id) ds M P) := ed_callB (cr_any hc) (fun B H ds vs P Q bs r h k => by
  obtain ⟨l, rfl, h⟩ := h
  obtain ⟨v, rfl, q⟩ := r.one
  cases q with
  | lst h1 h2 h3 =>
    have := bools_of h3
    subst this
    exact ⟨_, l, rfl, Evl.sq_of (Hm_ext _ _ h1), k _ _ B H bs.grow (.bl _) h⟩) ha hm (by decide +kernel) hg (by decide) (by decide) he rfl
/-- list(x), tuple(x) of a list, a tuple -/
def hSeq (mk : List D → OT) (ds : List D) (M : Mem) (P : OT → Mem → Prop) : Prop := match ds with
  | [.lst l] => P (mk l) M
  | [.tup l] => P (mk l) M
  | _ => False
theorem eo_list (hm : X.mg "list" = none) (ha : AD X [e] f) (hg : Gl X "list" := by rfl) (he : starEach [e] X.env = (false, eval e X.env) :: starEach [] X.env := by rfl) : EO X (.Call (.Name "list" p) [e] [] pos) (fun ρ M P => f ρ M fun ds M => hSeq (fun l => .ow (l.map .fz)) ds M P) := eo_callT call_list_of (fun B H ds vs P Q bs r h k => by
  match ds, h with
  | [.lst l], h =>
    obtain ⟨v, rfl, q⟩ := r.one
    cases q with
    | lst h1 h2 h3 => exact ⟨_, _, rfl, .inl (Evl.sq_of (bs.bh _ _ h1)), new_list bs h3 h2 h k⟩
  | [.tup l], h =>
    obtain ⟨v, rfl, q⟩ := r.one
    cases q with
    | tup h1 h2 h3 => exact ⟨_, _, rfl, .inr (Evl.ex_t bs.bh h1), new_list bs h3 h2 h k⟩) ha hm (by decide +kernel) hg (by decide) (by decide) he rfl
theorem eo_tuple (hm : X.mg "tuple" = none) (ha : AD X [e] f) (hg : Gl X "tuple" := by rfl) (he : starEach [e] X.env = (false, eval e X.env) :: starEach [] X.env := by rfl) : EO X (.Call (.Name "tuple" p) [e] [] pos) (fun ρ M P => f ρ M fun ds M => hSeq (fun l => .fz (.tup l)) ds M P) := eo_callT call_tuple_of (fun B H ds vs P Q bs r h k => by
  match ds, h with
  | [.lst l], h =>
    obtain ⟨v, rfl, q⟩ := r.one
    cases q with
    | lst h1 h2 h3 => exact ⟨_, _, rfl, .inl ⟨Evl.sq_of (bs.bh _ _ h1), new_tuple bs h3 h2 h (kD k)⟩⟩
  | [.tup l], h =>
    obtain ⟨v, rfl, q⟩ := r.one
    cases q with
    | tup h1 h2 h3 => exact ⟨_, _, rfl, .inr ⟨Evl.ex_t bs.bh h1, kD k _ _ B H bs.grow (.tup h1 h2 h3) h⟩⟩) ha hm (by decide +kernel) hg (by decide) (by decide) he rfl
/-- sorted of texts -/
theorem strs_of {B : Hp} : ∀ {bs : List Str} {vs : List V}, Reps K B (bs.map D.str) vs → vs = bs.map V.str ∧ ∀ x ∈ bs, strOk x = true
  | [], _, h => by cases h; exact ⟨rfl, fun _ h => nomatch h⟩
  | b :: bs, _, h => by
    cases h with
    | cons r t =>
      cases r with
      | str hb =>
        obtain ⟨h1, h2⟩ := strs_of t
        exact ⟨by rw [h1]; rfl, fun x hx => by
          rcases List.mem_cons.mp hx with rfl | hx
          · exact hb
          · exact h2 x hx⟩
theorem reps_strs {B : Hp} : ∀ {bs : List Str}, (∀ x ∈ bs, strOk x = true) → Reps K B (bs.map D.str) (bs.map V.str)
  | [], _ => .nil
  | b :: bs, h => .cons (.str (h b List.mem_cons_self)) (reps_strs fun x hx => h x (List.mem_cons_of_mem _ hx))
def hSortS (ds : List D) (M : Mem) (P : OT → Mem → Prop) : Prop := ∃ xs, ds = [.lst (xs.map D.str)] ∧ xs.length < 64 ∧ ∀ ys, ys.Perm xs → sortedS ys = true → P (.ow ((ys.map D.str).map .fz)) M
theorem eo_sortedS (hm : X.mg "sorted" = none) (ha : AD X [e] f) (hg : Gl X "sorted" := by rfl) (he : starEach [e] X.env = (false, eval e X.env) :: starEach [] X.env := by rfl) : EO X (.Call (.Name "sorted" p) [e] [] pos) (fun ρ M P => f ρ M fun ds M => hSortS ds M P) := eo_callB cr_sortedS (fun B H ds vs P Q bs r h k => by
  obtain ⟨xs, rfl, hl, h⟩ := h
  obtain ⟨v, rfl, q⟩ := r.one
  cases q with
  | lst h1 h2 h3 =>
    obtain ⟨e, ok⟩ := strs_of h3
    subst e
    refine ⟨_, xs, rfl, Evl.sq_of (bs.bh _ _ h1), hl, fun ys p hp hs hpn => ?_⟩
    exact new_list bs (reps_strs fun x hx => ok x (hp.mem_iff.mp hx)) (by rw [List.length_map, hp.length_eq]; exact small64 hl) (h ys hp hs) k p hpn) ha hm (by decide +kernel) hg (by decide) (by decide) he rfl
theorem strOk_join {sep : Str} (hs : strOk sep = true) : ∀ {ys : List Str}, (∀ x ∈ ys, strOk x = true) → strOk (PySem.Txt.join sep ys) = true := by
  intro ys h
  rw [TL.join_eq]
  induction ys with
  | nil =>
    show strOk Str.empty = true
    decide +kernel
  | cons x r ih =>
    cases r with
    | nil => exact h x List.mem_cons_self
    | cons y r => exact strOk_app (strOk_app (h x List.mem_cons_self) hs) (ih fun z hz => h z (List.mem_cons_of_mem _ hz))
/-- sep.join(a list of texts) -/
theorem ed_join {o : Expr} (ho : EV X o fa) (he : AV X [e] f) (hbase : attributeBase o "join" X.env (eval o X.env) = eval o X.env := by rfl)
    (hfew : ((backTo cpos (starEach [e] X.env)).all (fun x => !x.1) && (backToKw cpos (keywordEach [] X.env)).all (fun x => x.1.isSome) && decide ([e].length + ([] : List Keyword).length + (if ([] : List Keyword).isEmpty then 0 else 1) < 30)) = true := by rfl)
    (hline : (apos.endLine == cpos.line) = true := by rfl) (hst : starEach [e] X.env = (false, eval e X.env) :: starEach [] X.env := by rfl) (hplain : (backTo cpos (starEach [] X.env)).any (·.1) = false := by rfl) :
    ED X (.Call (.Attribute o "join" apos) [e] [] cpos) (fun ρ M P => fa ρ M fun s M => ∃ sep, s = .str sep ∧ f ρ M fun ds M => ∃ ys, (ds = [.lst (ys.map D.str)] ∨ ds = [.tup (ys.map D.str)]) ∧ (ys.map (·.length)).sum + ys.length * sep.length ≤ 16777216 ∧ P (.str (PySem.Txt.join sep ys)) M) := by
  obtain ⟨to, po, so⟩ := ho.ex
  obtain ⟨te, pe, se⟩ := he.ex
  refine ⟨_, pe_bm PySem.F.plainAttrs_str PySem.F.slot_str_join PySem.F.type_str_join mt_join po pe hbase hfew hline hst hplain, fun B H ρ σ S P Q st hf k => so B H ρ σ S _ _ st hf fun s v B1 H1 g1 r1 p1 => ?_⟩
  obtain ⟨sep, rfl, p1⟩ := p1
  cases r1 with
  | str hsep =>
    refine ⟨?_, se B1 H1 ρ σ S _ _ (st.grow g1) p1 fun ds vs B2 H2 g2 r2 p2 => ?_⟩
    · exact rfl
    · obtain ⟨ys, hds, hz, p2⟩ := p2
      rcases hds with rfl | rfl
      · obtain ⟨v, rfl, q⟩ := r2.one
        cases q with
        | lst h1 h2 h3 =>
          obtain ⟨e, ok⟩ := strs_of h3
          subst e
          exact ⟨sep, _, ys, rfl, rfl, .inl (Evl.sq_of (Hm_ext _ _ h1)), hz, k _ _ B2 H2 (g1.trans g2) (.str (strOk_join hsep ok)) p2⟩
      · obtain ⟨v, rfl, q⟩ := r2.one
        cases q with
        | tup h1 h2 h3 =>
          obtain ⟨e, ok⟩ := strs_of h3
          subst e
          exact ⟨sep, _, ys, rfl, rfl, .inr (Evl.ex_t Hm_ext h1), hz, k _ _ B2 H2 (g1.trans g2) (.str (strOk_join hsep ok)) p2⟩
end
end DL

/-! DL8: isinstance, repr, dict displays, places of lists that change, signs, names' own operators. -/
namespace DL
open PySem L2 PySem.Spec
open PyProof.Rows hiding St
open PySem.PyData (strOk)
set_option autoImplicit false

/-! ### kinds -/
inductive Kd | non | bl | int | str | lst | tup | dk
  deriving DecidableEq
def Kd.nm : Kd → String
  | .non => "NoneType" | .bl => "bool" | .int => "int" | .str => "str" | .lst => "list" | .tup => "tuple" | .dk => "dict"
def Kd.isa (a b : Kd) : Bool := decide (a = b) || (decide (a = .bl) && decide (b = .int))
theorem Kd.kit (a b : Kd) : kitB a.nm b.nm = some (a.isa b) ∨ b = .non := by
  cases b with
  | non => exact .inr rfl
  | _ => left; cases a <;> decide +kernel
def D.kind (M : Mem) : D → Option Kd
  | .non => some .non | .bl _ => some .bl | .int _ => some .int | .str _ => some .str | .txt _ => some .str | .tup _ => some .tup | .lst _ => some .lst | .scr _ => some .lst | .dk _ _ => some .dk
  | .mob p => match M p with
    | some (.lst _) => some .lst
    | some (.dk _ _) => some .dk
    | _ => none
  | .ob _ _ _ => none
  | .dn _ _ _ => none
section
variable {X : Cx} {e a b c ei : Expr} {es : List Expr} {pos cpos apos p : Pos} {fo : RO} {fa fb fc : RD} {f : RA} {x y : Str} {K : PySem.W.Frag}
theorem sqT_ty {H : Hp} {a : Addr} {xs : List V} (h : SqT K H a xs) : TyX K H (.ref a) (.type "tuple") := by
  rcases h with h | ⟨o, its, n, h1, h2, h3, h4, h5⟩
  · rcases h with h | ⟨o, h⟩
    · exact .base (.tup h)
    · exact .fTuple h
  · exact .kTuple h1 h2
theorem sqL_ty {H : Hp} {a : Addr} {xs : List V} (h : SqL K H a xs) : TyX K H (.ref a) (.type "list") := by
  rcases h with h | ⟨o, its, n, h1, h2, h3, h4, h5⟩
  · rcases h with h | ⟨o, h⟩
    · exact .base (.lst h)
    · exact .base (.frz h)
  · exact .kList h1 h2
theorem Rep.ty {B : Kn} {H : Hp} {d : D} {v : V} {k : Kd} (bs : Base K B H) (r : Rep K (Hm B.m H) d v) (h : d.kind B.m = some k) : TyX K H v (.type k.nm) := by
  cases r with
  | non => cases h; exact .base .non
  | bl b => cases h; exact .base (.bl b)
  | int i => cases h; exact .base (.int i)
  | str _ => cases h; exact .base (.str _)
  | txt _ => cases h; exact .base (.str _)
  | tup h1 h2 h3 => cases h; exact sqT_ty (Evl.ex_t Hm_ext h1)
  | lst h1 h2 h3 => cases h; exact .base (.lst (Hm_ext _ _ h1))
  | scr h1 => cases h; exact sqL_ty (Evl.ex_l Hm_ext h1)
  | dk h1 h2 h3 h4 => cases h; exact .base (.dK (Hm_ext _ _ h1))
  | ob h1 h2 h3 => cases h
  | dn _ _ _ _ _ _ => cases h
  | mob p =>
    unfold D.kind at h
    split at h
    all_goals try (rename_i q; cases q)
    all_goals try cases h
    rename_i q
    cases q' : B.m p with
    | none => rw [q'] at h; cases h
    | some o =>
      rw [q'] at h
      cases o with
      | lst l => cases h; obtain ⟨_, xs, hx, _⟩ := bs.wd p _ q'; exact .base (.lst hx)
      | dk ks l => cases h; obtain ⟨_, vs, hx, _⟩ := bs.wd p _ q'; exact .base (.dK hx)
      | ins C ns l => cases h
/-- isinstance(e, T) -/
theorem ed_isi (k : Kd) {T : Str} {pT : Pos} (ha : EV X e fa) (hm : X.mg "isinstance" = none) (hmT : X.mg T = none) (hv : bootBuiltins T = some (.type k.nm) := by decide +kernel) (hk : k ≠ .non := by decide) (hg : Gl X "isinstance" := by rfl) (hgT : Gl X T := by rfl) (hn : T ≠ "__name__" := by decide) (hdb : (T == ("__debug__" : Str)) = false := by decide)
    (he : starEach [e, .Name T pT] X.env = (false, eval e X.env) :: starEach [.Name T pT] X.env := by rfl) (he2 : starEach [.Name T pT] X.env = (false, eval (.Name T pT) X.env) :: starEach [] X.env := by rfl) (hpl : (backTo pos (starEach [.Name T pT] X.env)).any (·.1) = false := by rfl) :
    ED X (.Call (.Name "isinstance" p) [e, .Name T pT] [] pos) (fun ρ M P => fa ρ M fun x M => ∃ c, x.kind M = some c ∧ P (.bl (c.isa k)) M) := by
  obtain ⟨te, pe, se⟩ := ha.ex
  refine ⟨_, pe_callB call_isi hg hm (by decide +kernel) (pa_cons pe (pa_cons (pe_bltn (v := .ty k.nm) hgT hmT hv rfl hn hdb) pa_nil he2) he) (by decide) (by decide) he hpl, fun B H ρ σ S P Q st hf kk => se B H ρ σ S _ _ st hf fun d v B1 H1 g1 r1 p1 => ?_⟩
  obtain ⟨c, hc, p1⟩ := p1
  refine ⟨v, .ty k.nm, _, _, c.isa k, rfl, .ty _, r1.ty g1.base hc, ?_, kk _ _ B1 H1 g1 (.bl _) p1⟩
  rcases Kd.kit c k with z | z
  · exact kit_ty z
  · exact absurd z hk
theorem kitAny2 {K : PySem.W.Frag} {c k1 k2 : Kd} (h1 : k1 ≠ .non) (h2 : k2 ≠ .non) : PySem.W.kitAny K (.type c.nm) [.type k1.nm, .type k2.nm] = some (c.isa k1 || c.isa k2) := by
  have e1 : PySem.W.kitOne K (.type c.nm) (.type k1.nm) = some (c.isa k1) := (Kd.kit c k1).elim (fun z => kit_ty z) fun z => absurd z h1
  have e2 : PySem.W.kitOne K (.type c.nm) (.type k2.nm) = some (c.isa k2) := (Kd.kit c k2).elim (fun z => kit_ty z) fun z => absurd z h2
  refine kitAny_cons e1 (fun h => ?_) fun h => by rw [h]; rfl
  rw [h, Bool.false_or]
  exact kitAny_cons e2 (fun h => by rw [h]; exact kitAny_nil) fun h => h
/-- isinstance(e, (T, U)) -/
theorem ed_isi2 (k1 k2 : Kd) {T U : Str} {pT pU pt : Pos} {kk0} (ha : EV X e fa) (hm : X.mg "isinstance" = none) (hmT : X.mg T = none) (hmU : X.mg U = none) (hv : bootBuiltins T = some (.type k1.nm) := by decide +kernel) (hvU : bootBuiltins U = some (.type k2.nm) := by decide +kernel) (hk : k1 ≠ .non := by decide) (hk2 : k2 ≠ .non := by decide)
    (hg : Gl X "isinstance" := by rfl) (hgT : Gl X T := by rfl) (hgU : Gl X U := by rfl) (hn : T ≠ "__name__" := by decide) (hn2 : U ≠ "__name__" := by decide) (hdb : (T == ("__debug__" : Str)) = false := by decide) (hdb2 : (U == ("__debug__" : Str)) = false := by decide)
    (hs1 : starEach [.Name T pT, .Name U pU] X.env = (false, eval (.Name T pT) X.env) :: starEach [.Name U pU] X.env := by rfl) (hs2 : starEach [.Name U pU] X.env = (false, eval (.Name U pU) X.env) :: starEach [] X.env := by rfl)
    (he : starEach [e, .Tuple [.Name T pT, .Name U pU] kk0 pt] X.env = (false, eval e X.env) :: starEach [.Tuple [.Name T pT, .Name U pU] kk0 pt] X.env := by rfl) (he2 : starEach [.Tuple [.Name T pT, .Name U pU] kk0 pt] X.env = (false, eval (.Tuple [.Name T pT, .Name U pU] kk0 pt) X.env) :: starEach [] X.env := by rfl) (hpl : (backTo pos (starEach [.Tuple [.Name T pT, .Name U pU] kk0 pt] X.env)).any (·.1) = false := by rfl) :
    ED X (.Call (.Name "isinstance" p) [e, .Tuple [.Name T pT, .Name U pU] kk0 pt] [] pos) (fun ρ M P => fa ρ M fun x M => ∃ c, x.kind M = some c ∧ P (.bl (c.isa k1 || c.isa k2)) M) := by
  obtain ⟨te, pe, se⟩ := ha.ex
  refine ⟨_, pe_callB call_isiT hg hm (by decide +kernel) (pa_cons pe (pa_cons (pe_tup (pa_cons (pe_bltn (v := .ty k1.nm) hgT hmT hv rfl hn hdb) (pa_cons (pe_bltn (v := .ty k2.nm) hgU hmU hvU rfl hn2 hdb2) pa_nil hs2) hs1)) pa_nil he2) he) (by decide) (by decide) he hpl, fun B H ρ σ S P Q st hf kk => se B H ρ σ S _ _ st hf fun d v B1 H1 g1 r1 p1 => ?_⟩
  obtain ⟨c, hc, p1⟩ := p1
  refine ⟨by show 2 ≤ sizeLine; decide, fun tp htp => ?_⟩
  have g2 := g1.base.new (o := .tup [.ty k1.nm, .ty k2.nm]) htp
  exact ⟨v, tp, _, _, _, _, rfl, upd_same, .cons (.ty _) (.cons (.ty _) .nil), (r1.up g2.hm).ty g2.base hc, kitAny2 hk hk2, kk _ _ _ _ (g1.trans g2) (.bl _) p1⟩

/-! ### repr -/
mutual
/-- its ints are short -/
def D.shortI : D → Bool
  | .int i => decide (i.natAbs < 10 ^ 12)
  | .tup l => D.shortIs l
  | .lst l => D.shortIs l
  | _ => true
def D.shortIs : List D → Bool
  | [] => true
  | d :: ds => D.shortI d && D.shortIs ds
end
mutual
/-- how much text -/
def D.blk : D → Nat
  | .str x => x.length
  | .txt x => x.length
  | .tup l => D.blks l
  | .lst l => D.blks l
  | _ => 0
def D.blks : List D → Nat
  | [] => 0
  | d :: ds => D.blk d + 1 + D.blks ds
end
mutual
theorem D.blk_toP : ∀ d : D, (D.toP d).bulk ≤ D.blk d
  | .non | .bl _ | .int _ | .str _ | .scr _ | .mob _ | .dk _ _ | .dn _ _ _ | .ob _ _ _ | .txt _ => by simp [D.toP, PyData.bulk, PyData.bulkKv, D.blk, Str.length]
  | .tup l => by have := D.blks_toP l; simp only [D.toP, PyData.bulk, D.blk]; omega
  | .lst l => by have := D.blks_toP l; simp only [D.toP, PyData.bulk, D.blk]; omega
theorem D.blks_toP : ∀ l : List D, PyData.bulkAll (D.toPs l) ≤ D.blks l
  | [] => by simp [D.toPs, PyData.bulkAll, D.blks]
  | d :: ds => by have := D.blk_toP d; have := D.blks_toP ds; simp only [D.toPs, PyData.bulkAll, D.blks]; omega
end
theorem log_small {i : Int} (h : i.natAbs < 10 ^ 12) : i.natAbs.log2 < 1920 := by
  by_cases z : i.natAbs = 0
  · rw [z]; decide
  · rw [Nat.log2_lt z]
    exact Nat.lt_of_lt_of_le h (by decide +kernel)
section
variable {B : Hp}
mutual
theorem Rep.show : ∀ (d : D) (v : V), d.plain = true → d.shortI = true → Rep K B d v → d.toP.showable = true ∧ d.toP.hasDict = false ∧ d.toP.leavesShort 13 = true
  | .non, _, _, _, _ => by simp [D.toP, PyData.showable, PyData.hasDict, PyData.leavesShort]
  | .bl b, _, _, _, _ => by simp [D.toP, PyData.showable, PyData.hasDict, PyData.leavesShort]
  | .int i, _, _, hi, _ => by
    have hi : i.natAbs < 10 ^ 12 := by simpa [D.shortI] using hi
    have h1 := log_small hi
    have h2 := PyData.shown_int_le hi
    simp only [D.toP, PyData.showable, PyData.hasDict, PyData.leavesShort]
    exact ⟨decide_eq_true h1, trivial, decide_eq_true h2⟩
  | .str x, _, _, _, h => by
    cases h with
    | str h =>
      simp only [D.toP, PyData.showable, PyData.hasDict, PyData.leavesShort]
      refine ⟨trivial, trivial, ?_⟩
      unfold strOk at h
      rw [Array.all_eq_true'] at h
      rw [List.all_eq_true]
      intro c hc
      have := h c (by simpa using hc)
      simp only [decide_eq_true_eq] at this ⊢
      omega
  | .tup l, _, p, hi, h => by
    cases h with
    | tup hs hl hr =>
      have := Reps.show l _ (by simpa only [D.plain] using p) (by simpa only [D.shortI] using hi) hr
      simpa only [D.toP, PyData.showable, PyData.hasDict, PyData.leavesShort] using this
  | .lst l, _, p, hi, h => by
    cases h with
    | lst hs hl hr =>
      have := Reps.show l _ (by simpa only [D.plain] using p) (by simpa only [D.shortI] using hi) hr
      simpa only [D.toP, PyData.showable, PyData.hasDict, PyData.leavesShort] using this
  | .dk _ _, _, p, _, _ => by simp [D.plain] at p
  | .dn _ _ _, _, p, _, _ => by simp [D.plain] at p
  | .ob _ _ _, _, p, _, _ => by simp [D.plain] at p
  | .scr _, _, p, _, _ => by simp [D.plain] at p
  | .mob _, _, p, _, _ => by simp [D.plain] at p
  | .txt _, _, p, _, _ => by simp [D.plain] at p
theorem Reps.show : ∀ (ds : List D) (vs : List V), D.plains ds = true → D.shortIs ds = true → Reps K B ds vs → PyData.showableAll (D.toPs ds) = true ∧ PyData.hasDictAll (D.toPs ds) = false ∧ PyData.leavesShortAll 13 (D.toPs ds) = true
  | [], _, _, _, _ => by simp [D.toPs, PyData.showableAll, PyData.hasDictAll, PyData.leavesShortAll]
  | d :: ds, _, p, hi, h => by
    cases h with
    | cons h1 h2 =>
      simp only [D.plains, Bool.and_eq_true] at p
      simp only [D.shortIs, Bool.and_eq_true] at hi
      have a := Rep.show d _ p.1 hi.1 h1
      have b := Reps.show ds _ p.2 hi.2 h2
      simp only [D.toPs, PyData.showableAll, PyData.hasDictAll, PyData.leavesShortAll, Bool.and_eq_true, Bool.or_eq_false_iff]
      exact ⟨⟨a.1, b.1⟩, ⟨a.2.1, b.2.1⟩, a.2.2, b.2.2⟩
end
end
/-- the text of plain data -/
def D.show (d : D) : Str := d.toP.shown
def isSeq : D → Bool
  | .tup _ => true
  | .lst _ => true
  | _ => false
def rReprD (K : PySem.W.Frag) : List V → Hp → VK → Prop := fun xs H Q => ∃ a d, xs = [.ref a] ∧ Dp K H (.ref a) d ∧ d.showable = true ∧ d.hasDict = false ∧ d.depth ≤ 100 ∧ d.shown.length ≤ sizeLine ∧ Q (.str d.shown) H
theorem call_reprD (hg : X.A.guards = some []) (hu : X.A.units + 200 < cLine) : CallR X (.builtin "repr") (rReprD X.K) := by
  intro pins s σ H xs us Q I r h
  obtain ⟨a, d, rfl, hd, h1, h2, h3, h4, q⟩ := h
  cases r with
  | cons r t =>
    cases t
    obtain ⟨as, rd⟩ := Dp.reads I d _ _ hd r
    cases r
    exact repr_of_reads' rd h1 (PyData.noDict_hsm h2) hg (by omega) (fun _ _ e => e) (fun h' u tk hk => ⟨.str _, H, I.kept hk, ⟨u, rfl⟩, q⟩) h4
def hRepr (ds : List D) (M : Mem) (P : D → Mem → Prop) : Prop := ∃ d, ds = [d] ∧ isSeq d = true ∧ d.plain = true ∧ d.shortI = true ∧ d.dep ≤ 100 ∧ d.blk ≤ 2 ^ 20 ∧ P (.txt d.show) M
theorem ed_repr (hr : X.A.guards = some []) (hu : X.A.units + 200 < cLine) (hm : X.mg "repr" = none) (ha : AV X [e] f) (hg : Gl X "repr" := by rfl) (he : starEach [e] X.env = (false, eval e X.env) :: starEach [] X.env := by rfl) :
    ED X (.Call (.Name "repr" p) [e] [] pos) (fun ρ M P => f ρ M fun ds M => hRepr ds M P) := ed_callB (call_reprD hr hu) (fun B H ds vs P Q bs r h k => by
  obtain ⟨d, rfl, hs, hp, hi, hd, hb, h⟩ := h
  obtain ⟨v, rfl, q⟩ := r.one
  have q' := q.up Hm_ext
  obtain ⟨z1, z2, z3⟩ := Rep.show d v hp hi q'
  have hdp := q'.dp _ _ hp
  have hd2 : d.toP.depth ≤ 100 := Nat.le_trans (D.dep_toP d) hd
  have hsz : d.toP.shown.length ≤ sizeLine := PyData.shown_fits_bulk (by decide) (by decide) z3 (Nat.le_trans (D.blk_toP d) hb)
  have hv : ∃ a, v = .ref a := by
    cases q with
    | tup _ _ _ => exact ⟨_, rfl⟩
    | lst _ _ _ => exact ⟨_, rfl⟩
    | _ => cases hs
  obtain ⟨a, rfl⟩ := hv
  exact ⟨a, _, rfl, hdp, z1, z2, hd2, hsz, k _ _ B H bs.grow (.txt _) h⟩) ha hm (by decide +kernel) hg (by decide) (by decide) he rfl

/-! ### dict displays: keys ints and texts -/
abbrev RDP := Env → Mem → (List Key → List D → Mem → Prop) → Prop
def SndPs (K : PySem.W.Frag) (trs : List (TE × TE)) (f : RDP) : Prop :=
  ∀ (B : Kn) (H : Hp) (ρ : Env) (σ : L2.St) (S : List Addr) (P : List Key → List D → Mem → Prop) (Q : List (V × V) → Hp → Prop), Stt K B H ρ σ S → f ρ B.m P → (∀ ks ds vs B' H', Grow K B H B' H' → Reps K B' ds vs → ks.length = ds.length → P ks ds B'.m → Q ((ks.zip vs).map fun kv => (kV kv.1, kv.2)) H') → tPairs trs σ H Q
structure DPs (X : Cx) (pos : Pos) (keys : List (Option Expr)) (values : List Expr) (f : RDP) : Prop where
  ex : ∃ t, PPs X pos keys values t ∧ SndPs X.K t f
theorem dps_nil : DPs X pos [] [] (fun _ M P => P [] [] M) := ⟨_, pps_nil, fun B H ρ σ S P Q st hf k => k [] [] [] B H st.base.grow .nil rfl hf⟩
theorem dps_cons {ks : List (Option Expr)} {vs : List Expr} {g : RDP} (ha : ED X a fa) (hb : ED X b fb) (h : DPs X pos ks vs g) : DPs X pos (some a :: ks) (b :: vs) (fun ρ M P => fa ρ M fun x M => ∃ k, keyOf x = some k ∧ fb ρ M fun y M => g ρ M fun ks ds M => P (k :: ks) (y :: ds) M) := by
  obtain ⟨ta, pa, sa⟩ := ha.ex
  obtain ⟨tb, pb, sb⟩ := hb.ex
  obtain ⟨t, pt, s⟩ := h.ex
  refine ⟨_, pps_cons pa pb pt, fun B H ρ σ S P Q st hf kk => sa B H ρ σ S _ _ st hf fun x vx B1 H1 g1 r1 p1 => ?_⟩
  obtain ⟨k, hk, p1⟩ := p1
  refine sb B1 H1 ρ σ S _ _ (st.grow g1) p1 fun y vy B2 H2 g2 r2 p2 => s B2 H2 ρ σ S _ _ ((st.grow g1).grow g2) p2 fun ks ds vs B3 H3 g3 r3 hl p3 => ?_
  have := kk (k :: ks) (y :: ds) (vy :: vs) B3 H3 ((g1.trans g2).trans g3) (.cons (r2.up g3.b) r3) (by simp [hl]) p3
  rw [keyOf_rep hk r1]
  exact this
theorem merge_new : ∀ (more acc : List (Key × V)), ((acc ++ more).map (·.1)).Nodup → mergeK acc more = acc ++ more
  | [], acc, _ => by rw [List.append_nil]; rfl
  | q :: r, acc, h => by
    have hn : (acc.any fun kv => decide (kv.1 = q.1)) = false := by
      rw [List.any_eq_false]
      intro z hz e
      rw [List.map_append, List.nodup_append] at h
      exact h.2.2 z.1 (List.mem_map_of_mem hz) q.1 (by simp) (of_decide_eq_true e)
    show mergeK (putK acc q.1 q.2) r = _
    unfold putK
    rw [if_neg (by rw [hn]; exact Bool.false_ne_true), merge_new r (acc ++ [(q.1, q.2)]) (by simpa using h)]
    simp
/-- one's own object at p, made ahead of all that was added since, becomes known -/
theorem Grow.known {B0 B : Kn} {H0 H : Hp} {q : Addr} {o u : HO} (g : Grow K B0 (L2.upd H0 q u) B H) (b0 : Base K B0 H0) (h0 : H0 q = none) (hq : B.b q = none) (nm : B.m q = none) : Grow K B0 H0 (B.upd q o) (L2.upd H q o) := by
  have eb : Ext B.b (L2.upd B.b q o) := Evl.Ex.new hq
  have no : ∀ a, L2.upd H0 q u a = none → H0 a = none := fun a z => by
    by_cases k : a = q
    · rw [k]; exact h0
    · rwa [upd_ne k] at z
  refine ⟨g.b.trans eb, fun a z m e => ?_, g.d, fun a z => (g.n a z).imp id (no a), fun a z e => ?_, ⟨fun a z e => ?_, fun a z e => ?_⟩⟩
  · have k : a ≠ q := ne_of_none e h0
    rw [upd_ne k]
    exact g.h a z m (by rw [upd_ne k]; exact e)
  · by_cases k : a = q
    · rw [k]; exact .inr h0
    · have e : L2.upd B.b q o a = some z := e
      rw [upd_ne k] at e
      exact (g.f a z e).imp id (no a)
  · by_cases k : a = q
    · have e : L2.upd B.b q o a = some z := e
      rw [k, upd_same] at e ⊢; exact e
    · have e : L2.upd B.b q o a = some z := e
      rw [upd_ne k] at e ⊢; exact g.base.bh a z e
  · have e : B.m a = some z := e
    have k : a ≠ q := fun w => by rw [w, nm] at e; cases e
    exact ⟨(upd_ne k).trans (g.base.wd a z e).1, (g.base.wd a z e).2.mono eb (upd_ne k)⟩
theorem ed_dict {keys : List (Option Expr)} {values : List Expr} {g : RDP} (h : DPs X pos keys values g) (hall : keys.all (·.isSome) = true := by rfl) (hl : keys.length = values.length := by rfl) (h0 : keys ≠ [] := by exact fun z => nomatch z) (h15 : keys.length ≤ 15 := by decide) :
    ED X (.Dict keys values pos) (fun ρ M P => g ρ M fun ks ds M => ks.Nodup ∧ ks.length ≤ 15 ∧ P (.dk ks ds) M) := by
  obtain ⟨t, pt, s⟩ := h.ex
  refine ⟨_, pe_disp pt hall hl h0 h15, fun B H ρ σ S P Q st hf k => ?_⟩
  intro q hq
  obtain ⟨g1, nb, nm⟩ := st.base.newO (o := .dK []) hq
  refine s B _ ρ σ S _ _ (st.grow g1) hf fun ks ds vs B2 H2 g2 r2 hl2 p2 => ?_
  have hq1 : L2.upd H q (.dK []) q = some (.dK []) := upd_same
  have h2 : H2 q = some (.dK []) := g2.h q _ nm hq1
  have nb2 : B2.b q = none := by
    cases z : B2.b q with
    | none => rfl
    | some o =>
      rcases g2.f q o z with w | w
      · rw [nb] at w; cases w
      · rw [hq1] at w; cases w
  have nm2 : B2.m q = none := g2.nm nm (by rw [hq1]; exact fun w => nomatch w)
  have lv := r2.length
  have hz : (ks.zip vs).map (·.1) = ks := by rw [List.map_fst_zip]; omega
  refine ⟨h2, ks.zip vs, rfl, by rw [List.length_zip]; have := p2.2.1; omega, ?_⟩
  rw [merge_new (ks.zip vs) [] (by rw [List.nil_append, hz]; exact p2.1), List.nil_append]
  have gk := Grow.known (o := .dK (ks.zip vs)) g2 st.base hq nb2 nm2
  refine k (.dk ks ds) (.ref q) _ _ gk (.dk (vs := vs) ?_ hl2 (by rw [← hl2]; have := p2.2.1; rw [sizeLine_eq]; omega) (r2.up (Evl.Ex.new nb2))) p2.2.2
  exact upd_same

/-! ### places -/
theorem RepOs.getO {B H : Hp} : ∀ {l : List OT} {xs : List V} {T : List Addr} {j : Nat} {t : OT}, RepOs K B H l xs T → l[j]? = Option.some t → ∃ v T', xs[j]? = Option.some v ∧ RepO K B H t v T'
  | [], _, _, _, _, _, e => by simp at e
  | t :: l, _, _, 0, _, .cons r _, e => by
    simp only [List.getElem?_cons_zero, Option.some.injEq] at e
    subst e
    exact ⟨_, _, rfl, r⟩
  | t :: l, _, _, j + 1, _, .cons _ q, e => by
    obtain ⟨v, T', h1, h2⟩ := RepOs.getO (j := j) q (by simpa using e)
    exact ⟨v, T', by simpa using h1, h2⟩
theorem RepOs.atO {B H : Hp} {l : List OT} {xs : List V} {T : List Addr} {i : Int} {d : D} (h : RepOs K B H l xs T) (e : L2.atI l i = Option.some (OT.fz d)) : ∃ v, L2.atI xs i = Option.some v ∧ Rep K B d v := by
  unfold L2.atI at e ⊢
  rw [← h.length]
  cases q : ixN l.length i with
  | none => rw [q] at e; cases e
  | some j =>
    rw [q] at e
    obtain ⟨v, T', h1, h2⟩ := h.getO (show l[j]? = Option.some (OT.fz d) from e)
    cases h2 with
    | fz h2 => exact ⟨v, h1, h2⟩
/-- a place of what a name holds -/
def hIxT (t : OT) (n : D) (M : Mem) (P : D → Mem → Prop) : Prop := match t with
  | .fz d => hIx d n M P
  | .ow l => ∃ k d, n = .int k ∧ atI l k = some (.fz d) ∧ P d M
  | .od _ _ => False
  | .on _ _ _ => False
theorem ed_ixN (i : Nat) {px : Pos} (hk : ED X ei fb) (hN : X.N[i]? = some x := by rfl) (hv : Vis X.env.scope x := by first | exact Or.inl rfl | exact Or.inr (Or.inl rfl) | exact Or.inr (Or.inr rfl)) (hd : (x == ("__debug__" : Str)) = false := by decide) (hcd : (x == ("__classdict__" : Str)) = false := by decide)
    (hp : PlainIx ei := by exact fun _ _ => rfl) : ED X (.Subscript (.Name x px) ei pos) (fun ρ M P => ∃ t, ρ[i]? = some (some t) ∧ fb ρ M fun n M => hIxT t n M P) := by
  obtain ⟨tk, pk, sk⟩ := hk.ex
  refine ⟨_, pe_ix ix_seq (pe_var hN hv hd hcd) pk hp, fun B H ρ σ S P Q st hf k => ?_⟩
  obtain ⟨t, el, hf⟩ := hf
  obtain ⟨A, T, C, hS, h2, _⟩ := st.sim.split el
  obtain ⟨v, hσ, r⟩ := h2 _ rfl
  refine ⟨v, hσ, sk B H ρ σ S _ _ st hf fun n vn B1 H1 g1 r1 p1 => ?_⟩
  cases r with
  | od _ _ _ _ => exact p1.elim
  | on _ _ _ _ _ _ => exact p1.elim
  | fz r => exact sr_ix B1 H1 _ n v vn P Q g1.base (r.up g1.b) r1 p1 fun d v' B' H' g r p => k d v' B' H' (g1.trans g) r p
  | @ow q xs l T hq hl hr =>
    obtain ⟨kk, d, rfl, hd, p1⟩ := p1
    cases r1
    have nW := (st.out q (by rw [hS]; exact List.mem_append_right _ (List.mem_append_left _ List.mem_cons_self))).2
    obtain ⟨v, e, rd⟩ := hr.atO hd
    exact .inl ⟨q, xs, kk, v, rfl, rfl, Evl.sq_of (g1.h q _ nW hq), e, k d v B1 H1 g1 (rd.up g1.b) p1⟩
theorem RepOs.setD {B H : Hp} {d : D} {v : V} (r : Rep K B d v) : ∀ {l : List OT} {xs : List V} {T : List Addr} (j : Nat), RepOs K B H l xs T → ∃ T', RepOs K B H (l.set j (.fz d)) (xs.set j v) T' ∧ T'.Sublist T
  | [], _, _, _, .nil => ⟨[], .nil, .slnil⟩
  | t :: l, _, _, 0, .cons (T := T1) (T' := T2) _ q => ⟨[] ++ T2, .cons (.fz r) q, List.sublist_append_right _ _⟩
  | t :: l, _, _, j + 1, .cons (T := T1) (T' := T2) h q => by
    obtain ⟨T', h1, h2⟩ := RepOs.setD r j q
    exact ⟨T1 ++ T', .cons h h1, List.Sublist.append_left h2 T1⟩
/-- x[k] = e, x one's own list -/
theorem ds_setIxO (i : Nat) {px : Pos} (he : ED X e fa) (hk : EV X ei fb) (hN : X.N[i]? = some x := by rfl) (hv : Vis X.env.scope x := by first | exact Or.inl rfl | exact Or.inr (Or.inl rfl) | exact Or.inr (Or.inr rfl)) (hd : (x == ("__debug__" : Str)) = false := by decide) (hcd : (x == ("__classdict__" : Str)) = false := by decide)
    (ha : ∀ v, assign (.Subscript (.Name x px) ei cpos) X.env v = (do
      let ov ← holding [v] (eval (.Name x px) X.env)
      let iv ← holding [v, ov] (eval ei X.env)
      standAt cpos
      holding [v, ov, iv] (setItem ov iv v)
      release [v, ov, iv] []) := by intro _; rfl)
    (hs : swapsWithSole [.Subscript (.Name x px) ei cpos] e pos.line X.env = pure false := by rfl) (hw : swappedStores [.Subscript (.Name x px) ei cpos] e X.env = pure none := by rfl)
    (h1 : (assignEach [.Subscript (.Name x px) ei cpos] X.env).map (·.2) = [assign (.Subscript (.Name x px) ei cpos) X.env] := by rfl) :
    DS X (.Assign [.Subscript (.Name x px) ei cpos] e pos) (fun P ρ M => fa ρ M fun d M => ∃ l, ρ[i]? = some (some (.ow l)) ∧ fb ρ M fun n M => ∃ k j, n = .int k ∧ ixN l.length k = some j ∧ P.nx (ρ.set i (some (.ow (l.set j (.fz d))))) M) := by
  obtain ⟨te, pe, se⟩ := he.ex
  obtain ⟨tk, pk, sk⟩ := hk.ex
  refine ⟨_, ps_asg pe (pg_sub (pe_var hN hv hd hcd) pk set_list ha) hs hw h1, fun B0 H0 B H ρ σ S P D s hg k1 k2 k3 k4 => se B H ρ σ S _ _ s.st hg fun d v B1 H1 g1 r1 hk1 => ?_⟩
  have s1 := s.grow g1
  obtain ⟨l, el, hk1⟩ := hk1
  obtain ⟨q, xs, T, hσ, hp, hr, nW, hl, hT, k⟩ := s1.mutate el
  refine ⟨_, hσ, sk B1 H1 ρ σ S _ _ s1.st hk1 fun n vn B2 H2 g2 r2 p2 => ?_⟩
  obtain ⟨kk, j, rfl, hj, p2⟩ := p2
  cases r2
  obtain ⟨T', r', sl⟩ := (hr.mono g2.b _ _ _ fun z hz => g2.same (hr.some z hz) (hT.2 z hz)).setD (r1.up g2.b) j
  refine ⟨q, xs, kk, j, rfl, rfl, g2.h q _ nW hp, by rw [← hr.length]; exact hj, ?_⟩
  obtain ⟨S', s'⟩ := k B2 H2 _ _ T' g2 r' (by rw [List.length_set]; exact hl) (hT.1.sublist sl) fun z hz => .inl (sl.subset hz)
  exact k1 _ _ _ _ S' s' p2
/-- x[k] = e, x a list that changes behind one's back -/
theorem ds_setIxM (i : Nat) {px spos : Pos} (he : ED X e fa) (hk : ED X ei fb) (hN : X.N[i]? = some x := by rfl) (hv : Vis X.env.scope x := by first | exact Or.inl rfl | exact Or.inr (Or.inl rfl) | exact Or.inr (Or.inr rfl)) (hd : (x == ("__debug__" : Str)) = false := by decide) (hcd : (x == ("__classdict__" : Str)) = false := by decide)
    (ha : ∀ v, assign (.Subscript (.Name x px) ei spos) X.env v = (do
      let ov ← holding [v] (eval (.Name x px) X.env)
      let iv ← holding [v, ov] (eval ei X.env)
      standAt spos
      holding [v, ov, iv] (setItem ov iv v)
      release [v, ov, iv] []) := by intro _; rfl)
    (hs : swapsWithSole [.Subscript (.Name x px) ei spos] e pos.line X.env = pure false := by rfl) (hw : swappedStores [.Subscript (.Name x px) ei spos] e X.env = pure none := by rfl)
    (h1 : (assignEach [.Subscript (.Name x px) ei spos] X.env).map (·.2) = [assign (.Subscript (.Name x px) ei spos) X.env] := by rfl) :
    DS X (.Assign [.Subscript (.Name x px) ei spos] e pos) (fun P ρ M => fa ρ M fun d M => ∃ q, ρ[i]? = some (some (.fz (.mob q))) ∧ fb ρ M fun n M => ∃ l k j, M q = some (.lst l) ∧ n = .int k ∧ ixN l.length k = some j ∧ P.nx ρ (M.put q (.lst (l.set j d)))) := by
  obtain ⟨te, pe, se⟩ := he.ex
  obtain ⟨tk, pk, sk⟩ := hk.ex
  refine ⟨_, ps_asg pe (pg_sub (pe_var hN hv hd hcd) pk set_list ha) hs hw h1, fun B0 H0 B H ρ σ S P D s hg k1 k2 k3 k4 => se B H ρ σ S _ _ s.st hg fun d v B1 H1 g1 r1 hk1 => ?_⟩
  have s1 := s.grow g1
  obtain ⟨q, el, hk1⟩ := hk1
  obtain ⟨vq, T, hσ, rq, _⟩ := s1.slot el
  cases rq with
  | fz rq =>
    cases rq
    refine ⟨_, hσ, sk B1 H1 ρ σ S _ _ s1.st hk1 fun n vn B2 H2 g2 r2 p2 => ?_⟩
    obtain ⟨l, kk, j, em, rfl, hj, p2⟩ := p2
    cases r2
    obtain ⟨hb, xs, hx, hlen, rx⟩ := g2.base.wd q _ em
    refine ⟨q, xs, kk, j, rfl, rfl, hx, by rw [← rx.length]; exact hj, ?_⟩
    have g3 := g2.base.chg (p := q) (o := .lst (l.set j d)) (u := .lst (xs.set j v)) (by rw [em]; exact fun z => nomatch z) ⟨_, upd_same, by rw [List.length_set]; exact hlen, rx.set j (r1.up g2.b)⟩
    exact k1 _ _ _ _ S ((s1.grow g2).grow g3) p2

/-! ### signs, chains -/
theorem ed_neg (ha : EV X a fa) : ED X (.UnaryOp .USub a pos) (fun ρ M P => fa ρ M fun x M => ∃ i, x = .int i ∧ P (.int (-i)) M) := by
  obtain ⟨ta, pa, sa⟩ := ha.ex
  refine ⟨_, pe_un un_neg pa, fun B H ρ σ S P Q st hf k => sa B H ρ σ S _ _ st hf fun d v B1 H1 g1 r1 p1 => ?_⟩
  obtain ⟨i, rfl, p1⟩ := p1
  cases r1
  exact ⟨i, rfl, k _ _ B1 H1 g1 (.int _) p1⟩
theorem ec_chain {op op' : CmpOp} {r r' : R2} {h h' : D → D → Mem → (D → Mem → Prop) → Prop} (ho : OpR X (compareOp op) r) (ho' : OpR X (compareOp op') r') (hs : SR2 X.K r h) (hs' : SR2 X.K r' h') (ha : EV X a fa) (hb : EV X b fb) (hc : EV X c fc)
    (hm : lastMarks [op, op'] [b, c] = false := by with_unfolding_all rfl) : EC X (.Compare a [op, op'] [b, c] pos) (fun ρ M P => fa ρ M fun x M => fb ρ M fun y M => h x y M fun z M => ∃ t, z = .bl t ∧ if t = true then fc ρ M fun w M => h' y w M P else P (.bl false) M) := by
  obtain ⟨ta, pa, sa⟩ := ha.ex
  obtain ⟨tb, pb, sb⟩ := hb.ex
  obtain ⟨tc, pc, sc⟩ := hc.ex
  have snd : SndD X.K (tChain r r' ta tb tc) (fun ρ M P => fa ρ M fun x M => fb ρ M fun y M => h x y M fun z M => ∃ t, z = .bl t ∧ if t = true then fc ρ M fun w M => h' y w M P else P (.bl false) M) := fun B H ρ σ S P Q st hf k =>
    sa B H ρ σ S _ _ st hf fun x vx B1 H1 g1 r1 hf1 => sb B1 H1 ρ σ S _ _ (st.grow g1) hf1 fun y vy B2 H2 g2 r2 hf2 => hs B2 H2 x y vx vy _ _ g2.base (r1.up g2.hm) r2 hf2 fun z vz B3 H3 g3 r3 p3 => by
      obtain ⟨t, rfl, p3⟩ := p3
      cases r3
      refine ⟨t, rfl, ?_⟩
      have g := (g1.trans g2).trans g3
      cases t with
      | true => exact sc B3 H3 ρ σ S _ _ (st.grow g) p3 fun w vw B4 H4 g4 r4 p4 => hs' B4 H4 y w vy vw P Q g4.base ((r2.up g3.hm).up g4.hm) r4 p4 fun d v B5 H5 g5 r5 p5 => k d v B5 H5 ((g.trans g4).trans g5) r5 p5
      | false => exact k _ _ B3 H3 g (.bl false) p3
  exact ⟨⟨_, pe_chain ho ho' pa pb pc hm, snd⟩, ⟨_, pt_chain ho ho' pa pb pc hm, snd_test snd⟩⟩
end
end DL

/-! DL9: a module's constants, what a law's def promises, the law's end. -/
namespace DL
open PySem L2 PySem.Spec
open PyProof.Rows hiding St
open PySem.PyData (strOk)
set_option autoImplicit false

theorem RG0.hu {k : Nat} {X : Cx} (h : RG0 k X) : X.A.units + 200 < cLine := by have := h.1.un; omega
/-- a module's name holds this, for good -/
def GC (K : PySem.W.Frag) (mg : Str → Option Value) (x : Str) (d : D) : Prop := ∃ (v : V) (u : Value), mg x = some u ∧ RelV v u ∧ ∀ B : Hp, Rep K B d v
theorem ed_gc {X : Cx} {x : Str} {d : D} {pos : Pos} (h : GC X.K X.mg x d) (hg : Gl X x := by rfl) (hd : (x == ("__debug__" : Str)) = false := by decide) : ED X (.Name x pos) (fun _ M P => P d M) := by
  obtain ⟨v, u, hm, r, hr⟩ := h
  exact ed_glob hg hm r hr hd
theorem gc_str {K : PySem.W.Frag} {mg : Str → Option Value} {x y : Str} {t : Tok} (h : mg x = some (.str y t)) (hy : strOk y = true := by decide +kernel) : GC K mg x (.str y) := ⟨.str y, _, h, ⟨t, rfl⟩, fun _ => .str hy⟩
theorem gc_int {K : PySem.W.Frag} {mg : Str → Option Value} {x : Str} {i : Int} {t : Tok} (h : mg x = some (.int i t)) : GC K mg x (.int i) := ⟨.int i, _, h, ⟨t, rfl⟩, fun _ => .int i⟩
theorem gc_tupS {K : PySem.W.Frag} {mg : Str → Option Value} {x : Str} {a : Addr} {dd : Option Addr} {its : Array Value} {n : Nat} {sl : Array (Option Value)} {ys : List Str} (h : mg x = some (.ref a)) (hk : K.lookup a = some ⟨.type "tuple", dd, .seq its n, sl⟩) (hv : Vals (ys.map V.str) its.toList)
    (hl : ys.length ≤ 1000 := by decide) (hy : ∀ y ∈ ys, strOk y = true := by decide +kernel) : GC K mg x (.tup (ys.map .str)) := by
  have h1 : its.size ≤ sizeLine := by
    have := hv.length
    rw [List.length_map] at this
    rw [sizeLine_eq]
    have e : its.toList.length = its.size := Array.length_toList
    omega
  refine ⟨.ref a, _, h, rfl, fun B => .tup (.inr ⟨_, its, n, hk, rfl, rfl, h1, hv⟩) (by rw [List.length_map, sizeLine_eq]; omega) (reps_strs hy)⟩
/-- a law: of every short script it tells True -/
def spLaw : DSpec := DSpec.pure (ι := List Int) (fun ns ds => ds = [.scr ns] ∧ ns.length ≤ 63) (fun _ t => t = .fz (.bl true))
section
variable {P : Program} {w : World} {K : PySem.W.Frag} {mg mb : Str → Option Value} {s : Shared} {a : Addr} {vs : List Value} {ns : List Int}
abbrev listO (vs : List Value) : Obj := { cls := .type "list", data := .seq vs.toArray }
/-- what a law's call tracks: the script, known to its object; nothing, where the module itself holds that list -/
def scriptH (K : PySem.W.Frag) (a : Addr) (vs : List Value) (ns : List Int) : Hp := fun b => if b = a ∧ K.lookup a = none then some (.frz (listO vs) (.lst (ns.map V.int))) else none
theorem scriptH_some {b : Addr} {u : HO} (h : scriptH K a vs ns b = some u) : b = a ∧ K.lookup a = none ∧ u = .frz (listO vs) (.lst (ns.map V.int)) := by
  unfold scriptH at h
  split at h
  · next q => cases h; exact ⟨q.1, q.2, rfl⟩
  · cases h
theorem scriptH_sq (KX : K.In s.heap) (ha : s.heap.get? a = some (listO vs)) (hi : IntsAre vs ns) (hl : ns.length ≤ sizeLine) : SqL K (scriptH K a vs ns) a (ns.map V.int) := by
  cases e : K.lookup a with
  | none => exact .inl (.inr ⟨_, if_pos ⟨rfl, e⟩⟩)
  | some o =>
    have z := KX a o e
    rw [ha] at z
    cases z
    exact .inr ⟨_, vs.toArray, _, e, rfl, rfl, rfl, by rw [List.size_toArray, hi.length]; exact hl, by simpa using vals_ints hi⟩
/-- the base that a law's call leaves alone, and what it wants of it -/
theorem script_env (KX : K.In s.heap) (g : s.heap.Ns mainGlobals mg) (b : s.heap.Ns builtinsNs mb) (bb : ∀ x : Str, x ≠ "__name__" → mb x = bootBuiltins x) (nl : s.heap.NoLimit) (ng : s.gens = #[]) (ha : s.heap.get? a = some (listO vs)) (hi : IntsAre vs ns) (hl : ns.length ≤ sizeLine) :
    Env0 P w K mg (hidT s.heap (scriptH K a vs ns)) callerA [] s (scriptH K a vs ns) := by
  have stands : ∀ {m : Str → Option Value} {n : Addr}, s.heap.Ns n m → (hidT s.heap (scriptH K a vs ns)).Ns n m := by
    rintro m n ⟨o, es, ep, e, d, r⟩
    refine ⟨o, es, ep, hidT_get e ?_, d, r⟩
    cases z : scriptH K a vs ns n with
    | none => rfl
    | some u =>
      obtain ⟨rfl, _⟩ := scriptH_some z
      rw [ha] at e
      cases e
      cases d
  obtain ⟨mc, n1, n2⟩ := nl
  refine ⟨rfl, ⟨fun x o e => hidT_get (KX x o e) ?_, stands g, ⟨mb, stands b, bb⟩, ⟨mc, stands n1, n2⟩⟩, fun _ _ e => of_hidT e, Nat.le_of_eq (hidT_size _ _), trivial, nofun, fun x u z => ?_, .of_eq ng⟩
  · cases z : scriptH K a vs ns x with
    | none => rfl
    | some u =>
      obtain ⟨rfl, n, _⟩ := scriptH_some z
      rw [n] at e
      cases e
  · obtain ⟨rfl, _, rfl⟩ := scriptH_some z
    exact ⟨ha, by simpa using hl, vs, _, vals_ints hi, ha⟩
end
theorem lawD {l : PySem.W.OpenLaw} {q : Program} {loose : List Str} {XP : (Str → Option Value) → Heap → Prop} {YP : World → Heap → Prop} {d : DefRec} {K : Params → PySem.W.Frag} {k : Nat} {x : Str} (hn : l.most = some 63) (hdf : d.params.defaults = []) (hr : Room k callerA)
    (hY : ∀ (w : World) (h : Heap), YP w h → (K w.params).In h)
    (F : ∀ (w : World) (mg : Str → Option Value) (fa : Addr) (h : Heap), (K w.params).In h → h.Ns mainGlobals mg → mg d.name = some (.ref fa) →
      ∃ fd : FuncData, (∀ (s : Shared) (u : Value), BindsTo s fd ⟨[u], []⟩ [(x, u)]) ∧ ∀ base : Heap, (K w.params).In base → base.Ns mainGlobals mg → FnG l.prog w (K w.params) mg base CX0 k fa fd [x] (spOf (K w.params) 1 spLaw)) :
    PySem.W.WalkO q loose XP YP l.row.toRowW d [] (fun f vs => PySem.call f vs) := by
  refine Att.attach_call hn hdf fun w s₀ s mg mb fa o pm cd doc a vs ns G Y ho hd hcd hmg ha hi hlen ng => ?_
  have KX := hY w _ Y
  have hl : ns.length ≤ sizeLine := by rw [sizeLine_eq]; omega
  have sq := scriptH_sq KX ha hi hl
  have env := script_env (P := l.prog) (w := w) KX G.T.g G.T.b G.T.builtins G.T.nolimit ng ha hi hl
  obtain ⟨fd, hb, hF⟩ := F w mg fa _ KX G.T.g hmg
  refine codeAny_mono ((hF _ env.mod.kin env.mod.glob).run callerA [] s _ ⟨[.ref a], []⟩ [.ref a] [.ref a] (fun v _ => v = .bl true) (fun _ _ _ => False) ⟨hr, rfl⟩ env (hb s (.ref a)) (.cons rfl .nil)
    ⟨ns, ⟨_, Mem.no⟩, [.scr ns], ⟨Ext.rfl, nofun⟩, .cons (.scr sq) .nil, rfl, ⟨rfl, hlen⟩, fun t v B' H' T _ r _ p => ?_⟩) ?_
  · obtain rfl : t = .fz (.bl true) := p
    cases r with
    | fz r => cases r; rfl
  · rintro (e | _ | _ | _ | u) s' h
    · exact h.elim
    · exact h.elim
    · exact h.elim
    · exact h.elim
    · obtain ⟨_, H', os, bare, un, hok, r, rfl⟩ := h
      cases (show u = Value.bool true from r)
      refine ⟨rfl, .of_keep fun b o e => ?_, os, bare⟩
      cases z : scriptH (K w.params) a vs ns b with
      | none => exact un.keep b o e z nofun nofun
      | some v =>
        obtain ⟨rfl, _, rfl⟩ := scriptH_some z
        rw [ha] at e
        cases e
        exact (hok _ _ (un.frzs _ _ _ z)).1
/-- what is never asked -/
theorem DF.never {P : Program} {w : World} {K : PySem.W.Frag} {mg : Str → Option Value} {base : Heap} {st : Stmt} {x : Str} {ps : List Str} {k : Nat} {s : DSpec} (h : ∃ (f : Addr) (fd : FuncData), mg x = some (.ref f) ∧ Fun K x x st f fd ∧ Binds K fd ps []) (n : ∀ i M ds, ¬ s.pre i M ds) : DF P w K mg base st x ps k s := by
  obtain ⟨f, fd, h1, h2, h3⟩ := h
  exact ⟨f, fd, h1, h2, h3, ⟨fun vs H Q E ⟨i, B, ds, _, _, _, p, _⟩ => absurd p (n _ _ _), fun A fr s0 H args us vs Q E _ _ _ _ ⟨i, B, ds, _, _, _, p, _⟩ => absurd p (n _ _ _)⟩⟩
end DL

/-! DLS: plain readings, case by case: what simp is given. -/
namespace DL
open PySem L2 PySem.Spec
open PyProof.Rows hiding St
open PySem.PyData (strOk)
set_option autoImplicit false
section
variable {M : Mem} {P : D → Mem → Prop} {PO : OT → Mem → Prop} {l m : List D} {i j k : Int} {x y : Str} {p : Addr} {b : Bool} {ks : List Key} {ns : List Int}
theorem hIx_tup : hIx (.tup l) (.int i) M P = ∃ d, atI l i = some d ∧ P d M := rfl
theorem hIx_lst : hIx (.lst l) (.int i) M P = ∃ d, atI l i = some d ∧ P d M := rfl
theorem hIx_scr : hIx (.scr ns) (.int i) M P = ∃ n, atI ns i = some n ∧ P (.int n) M := rfl
theorem hIx_mob : hIx (.mob p) (.int i) M P = ∃ l d, M p = some (.lst l) ∧ atI l i = some d ∧ P d M := rfl
theorem hIx_str : hIx (.str x) (.int i) M P = (x.length ≤ sizeLine ∧ ∃ c, atI x.cps.toList i = some c ∧ P (.str ⟨#[c]⟩) M) := rfl
theorem hIxT_fz {d n : D} : hIxT (.fz d) n M P = hIx d n M P := rfl
theorem hIxT_ow {t : List OT} {n : D} : hIxT (.ow t) n M P = ∃ k d, n = .int k ∧ atI t k = some (.fz d) ∧ P d M := rfl
theorem hAdd_int : hAdd (.int i) (.int j) M PO = PO (.fz (.int (i + j))) M := rfl
theorem hAdd_str : hAdd (.str x) (.str y) M PO = (x.length + y.length ≤ sizeLine ∧ PO (.fz (.str (x ++ y))) M) := rfl
theorem hAdd_tup : hAdd (.tup l) (.tup m) M PO = (l.length + m.length ≤ sizeLine ∧ PO (.fz (.tup (l ++ m))) M) := rfl
theorem hAdd_lst : hAdd (.lst l) (.lst m) M PO = (l.length + m.length ≤ sizeLine ∧ PO (.ow ((l ++ m).map .fz)) M) := rfl
theorem hMul_int : hMul (.int i) (.int j) M PO = (CMul i j ∧ PO (.fz (.int (i * j))) M) := rfl
theorem hMul_lst : hMul (.lst l) (.int k) M PO = (-(2 ^ 63) ≤ k ∧ k < 2 ^ 63 ∧ l.length * k.toNat ≤ sizeLine ∧ PO (.ow ((repD l k).map .fz)) M) := rfl
theorem hSl_tup {lo hi : Option Int} : hSl (.tup l) lo hi M PO = PO (.fz (.tup (cutL l lo hi))) M := rfl
theorem hSl_lst {lo hi : Option Int} : hSl (.lst l) lo hi M PO = PO (.ow ((cutL l lo hi).map .fz)) M := rfl
theorem hSl_str {lo hi : Option Int} : hSl (.str x) lo hi M PO = (x.length ≤ sizeLine ∧ PO (.fz (.str (cutS x lo hi))) M) := rfl
theorem hLen_lst : hLen [.lst l] M P = P (.int l.length) M := rfl
theorem hLen_tup : hLen [.tup l] M P = P (.int l.length) M := rfl
theorem hLen_scr : hLen [.scr ns] M P = P (.int ns.length) M := rfl
theorem hLen_str : hLen [.str x] M P = (x.length ≤ sizeLine ∧ P (.int x.length) M) := rfl
theorem hLen_mob : hLen [.mob p] M P = ∃ l, M p = some (.lst l) ∧ P (.int l.length) M := rfl
theorem hInt_int : hInt1 [.int i] M P = P (.int i) M := rfl
theorem hInt_bl : hInt1 [.bl b] M P = P (.int (if b then 1 else 0)) M := rfl
theorem hAbs_int : hAbs [.int i] M P ↔ P (.int (if i < 0 then -i else i)) M := by simp [hAbs]
theorem hSeq_lst {mk : List D → OT} : hSeq mk [.lst l] M PO = PO (mk l) M := rfl
theorem hSeq_tup {mk : List D → OT} : hSeq mk [.tup l] M PO = PO (mk l) M := rfl
theorem hIn_lst {neg : Bool} {d : D} : hIn neg d (.lst l) M P = (d.plain = true ∧ D.plains l = true ∧ min (D.deps l) d.dep ≤ 100 ∧ P (.bl (if neg then !d.isIn l else d.isIn l)) M) := rfl
theorem hIn_tup {neg : Bool} {d : D} : hIn neg d (.tup l) M P = (d.plain = true ∧ D.plains l = true ∧ min (D.deps l) d.dep ≤ 100 ∧ P (.bl (if neg then !d.isIn l else d.isIn l)) M) := rfl
theorem hIn_str {neg : Bool} {d : D} : hIn neg d (.str x) M P = ∃ i, d = .str i ∧ P (.bl (if neg then !subStr i x else subStr i x)) M := rfl
theorem hEq_eq {neg : Bool} {d e : D} : hEq neg d e M P = (D.eqOk d e = true ∧ P (.bl (ng neg (D.eqv d e))) M) := rfl
theorem hI0_int {g : Int → Int → D} : hI0 g (.int i) (.int j) M P ↔ P (g i j) M := by simp [hI0]
theorem hI_int {C : Int → Int → Prop} {g : Int → Int → D} : hI C g (.int i) (.int j) M P ↔ (C i j ∧ P (g i j) M) := by simp [hI]
theorem ng_f : ng false b = b := rfl
theorem ng_t : ng true b = !b := rfl
theorem atI_0 {α : Type} {a : α} {l : List α} : atI (a :: l) 0 = some a := by simp [atI, ixN]
theorem atI_1 {α : Type} {a b : α} {l : List α} : atI (a :: b :: l) 1 = some b := atI_nat (j := 1) rfl
theorem atI_2 {α : Type} {a b c : α} {l : List α} : atI (a :: b :: c :: l) 2 = some c := atI_nat (j := 2) rfl
theorem atI_m {α : Type} {l : List α} {a : α} (h : l.getLast? = some a) : atI l (-1) = some a := by
  obtain ⟨ys, rfl⟩ := List.getLast?_eq_some_iff.mp h
  exact atI_last _ _
theorem atI_hd {α : Type} {l : List α} {a : α} (h : l.head? = some a) : atI l 0 = some a := by
  cases l with
  | nil => cases h
  | cons b r => cases h; exact atI_0
end
/-! ### loops by what holds ahead of each turn -/
theorem compD_rec {g : RG} {f : RT} {t : RO} {ρ : Env} {P : List OT → Mem → Prop} (I : List D → List OT → Mem → Prop) : ∀ (items : List D) (acc : List OT) (M : Mem), I items acc M → (∀ acc M, I [] acc M → P acc M) →
    (∀ d ds acc M, I (d :: ds) acc M → ∀ C : List OT → Mem → Prop, (∀ acc M, I ds acc M → C acc M) → g d ρ M fun ρ' M => f ρ' M fun b M => if b = true then t ρ' M fun y M => C (acc ++ [y]) M else C acc M) → compD g f t ρ P items acc M
  | [], acc, M, h0, hn, _ => hn acc M h0
  | d :: ds, acc, M, h0, hn, hs => hs d ds acc M h0 (compD g f t ρ P ds) fun acc M h => compD_rec I ds acc M h hn hs
theorem compS_rec {g : RG} {f : RT} {t : RO} {ρ : Env} {P : List OT → Mem → Prop} (I : List D → List OT → Mem → Prop) : ∀ (items : List D) (acc : List OT) (M : Mem), I items acc M → (∀ acc M, I [] acc M → P acc M) →
    (∀ d ds acc M, I (d :: ds) acc M → ∀ C : List OT → Mem → Prop, (∀ acc M, I ds acc M → C acc M) → g d ρ M fun ρ' M => f ρ' M fun b M => if b = true then t ρ' M fun y M => acc.length < sizeLine ∧ C (acc ++ [y]) M else C acc M) → compS g f t ρ P items acc M
  | [], acc, M, h0, hn, _ => hn acc M h0
  | d :: ds, acc, M, h0, hn, hs => hs d ds acc M h0 (compS g f t ρ P ds) fun acc M h => compS_rec I ds acc M h hn hs
theorem comp2D_rec {g g1 : RG} {f f1 : RT} {fi1 : RI} {vs1 : List Nat} {t : RO} {ρ : Env} {P : List OT → Mem → Prop} (I : List D → List OT → Mem → Prop) : ∀ (items : List D) (acc : List OT) (M : Mem), I items acc M → (∀ acc M, I [] acc M → P acc M) →
    (∀ d ds acc M, I (d :: ds) acc M → ∀ C : List OT → Mem → Prop, (∀ acc M, I ds acc M → C acc M) → g d ρ M fun ρ' M => f ρ' M fun b M => if b = true then fi1 ρ' M fun items M => compS g1 f1 t (wipeE ρ' vs1) C items acc M else C acc M) → comp2D g f fi1 vs1 g1 f1 t ρ P items acc M
  | [], acc, M, h0, hn, _ => hn acc M h0
  | d :: ds, acc, M, h0, hn, hs => hs d ds acc M h0 (comp2D g f fi1 vs1 g1 f1 t ρ P ds) fun acc M h => comp2D_rec I ds acc M h hn hs
theorem forD_rec {g : RG} {b : RS} {P : DEnds} (I : List D → Env → Mem → Prop) : ∀ (items : List D) (ρ : Env) (M : Mem), I items ρ M → (∀ ρ M, I [] ρ M → P.nx ρ M) →
    (∀ d ds ρ M, I (d :: ds) ρ M → ∀ C : Env → Mem → Prop, (∀ ρ M, I ds ρ M → C ρ M) → g d ρ M fun ρ' M => b { nx := C, ct := C, bk := P.nx, rt := P.rt } ρ' M) → forD g b P items ρ M
  | [], ρ, M, h0, hn, _ => hn ρ M h0
  | d :: ds, ρ, M, h0, hn, hs => hs d ds ρ M h0 (forD g b P ds) fun ρ M h => forD_rec I ds ρ M h hn hs
theorem trues_all {l : List OT} (h : ∀ t ∈ l, t = .fz (.bl true)) : ∃ bs : List Bool, l.map OT.toD = bs.map D.bl ∧ bs.all id = true := by
  refine ⟨List.replicate l.length true, ?_, by simp⟩
  induction l with
  | nil => rfl
  | cons t l ih =>
    rw [h t List.mem_cons_self, List.length_cons, List.replicate_succ, List.map_cons, List.map_cons, ih fun t ht => h t (List.mem_cons_of_mem _ ht)]
    rfl
theorem deps_mem {l : List D} {d : D} (h : d ∈ l) : d.dep ≤ D.deps l := by
  induction l with
  | nil => cases h
  | cons e l ih =>
    simp only [D.deps]
    rcases List.mem_cons.mp h with rfl | h
    · omega
    · have := ih h; omega
theorem plains_mem {l : List D} {d : D} (hl : D.plains l = true) (h : d ∈ l) : d.plain = true := by
  rw [D.plains_all, List.all_eq_true] at hl
  exact hl d h
theorem dep_tup {l : List D} : (D.tup l).dep = D.deps l + 1 := by simp [D.dep]
theorem dep_lst {l : List D} : (D.lst l).dep = D.deps l + 1 := by simp [D.dep]
theorem plain_tup {l : List D} : (D.tup l).plain = D.plains l := by simp [D.plain]
theorem plain_lst {l : List D} : (D.lst l).plain = D.plains l := by simp [D.plain]
theorem mem_zip_self {l : List D} {x : D} (h : x ∈ zipD l l) : ∃ y ∈ l, x = .tup [y, y] := by
  induction l with
  | nil => cases h
  | cons d l ih =>
    have e : zipD (d :: l) (d :: l) = .tup [d, d] :: zipD l l := rfl
    rw [e] at h
    rcases List.mem_cons.mp h with rfl | h
    · exact ⟨d, List.mem_cons_self, rfl⟩
    · obtain ⟨y, hy, rfl⟩ := ih h
      exact ⟨y, List.mem_cons_of_mem _ hy, rfl⟩
instance : Nonempty Mem := ⟨Mem.no⟩
theorem cutL_1 {α : Type} {a : α} {l : List α} : cutL (a :: l) (some 1) none = l := by
  have e1 : HT.sIx (a :: l).length 0 (some 1) = 1 := by
    show min (1 : Int).toNat (a :: l).length = 1
    rw [List.length_cons]
    show min 1 (l.length + 1) = 1
    omega
  have e2 : HT.sIx (a :: l).length (a :: l).length none = l.length + 1 := rfl
  unfold cutL
  rw [e1, e2]
  show l.take (l.length + 1 - 1) = l
  simp
theorem items_tup {l : List D} : D.items (.tup l) = some l := rfl
theorem items_lst {l : List D} : D.items (.lst l) = some l := rfl
theorem items_scr {ns : List Int} : D.items (.scr ns) = some (ns.map D.int) := rfl
theorem fz_app {l m : List D} : l.map OT.fz ++ m.map OT.fz = (l ++ m).map OT.fz := by rw [List.map_append]
theorem fz_inj {l m : List D} : (l.map OT.fz = m.map OT.fz) ↔ l = m := ⟨fun h => (List.map_inj_right fun x y e => OT.fz.inj e).mp h, fun h => by rw [h]⟩
theorem fz_nil : ([] : List OT) = ([] : List D).map OT.fz := rfl
theorem fz_snoc {l : List D} {d : D} : l.map OT.fz ++ [.fz d] = (l ++ [d]).map OT.fz := by rw [List.map_append]; rfl
/-- all items as they are -/
theorem compS_id {i : Nat} {ρ : Env} {P : List OT → Mem → Prop} (hi : i < ρ.length) : ∀ {items : List D} {acc : List OT} {M : Mem}, acc.length + items.length ≤ 16777216 → P (acc ++ items.map .fz) M →
    compS (fun d ρ M P => i < List.length ρ ∧ P (List.set ρ i (some (OT.fz d))) M) (fun x M P => P true M) (fun ρ M P => ∃ d, ρ[i]? = some (some (OT.fz d)) ∧ P (OT.fz d) M) ρ P items acc M
  | [], acc, M, _, h => by simpa [compS] using h
  | d :: ds, acc, M, hl, h => by
    rw [List.length_cons] at hl
    refine ⟨hi, ?_⟩
    show ∃ d', (ρ.set i (some (OT.fz d)))[i]? = some (some (OT.fz d')) ∧ acc.length < sizeLine ∧ _
    refine ⟨d, List.getElem?_set_self hi, by rw [sizeLine_eq]; omega, ?_⟩
    exact compS_id hi (by rw [List.length_append, List.length_singleton]; omega) (by simpa using h)
theorem kind_non {M : Mem} : D.kind M .non = some .non := rfl
theorem kind_bl {M : Mem} {b : Bool} : D.kind M (.bl b) = some .bl := rfl
theorem kind_int {M : Mem} {i : Int} : D.kind M (.int i) = some .int := rfl
theorem kind_str {M : Mem} {x : Str} : D.kind M (.str x) = some .str := rfl
theorem kind_lst {M : Mem} {l : List D} : D.kind M (.lst l) = some .lst := rfl
theorem kind_tup {M : Mem} {l : List D} : D.kind M (.tup l) = some .tup := rfl
theorem kind_dk {M : Mem} {ks : List Key} {l : List D} : D.kind M (.dk ks l) = some .dk := rfl
theorem ixN_30 : ixN 3 0 = some 0 := rfl
theorem ixN_31 : ixN 3 1 = some 1 := rfl
theorem ixN_32 : ixN 3 2 = some 2 := rfl
theorem ixN_10 : ixN 1 0 = some 0 := rfl
theorem atI_map {α β : Type} {f : α → β} {l : List α} {i : Int} : atI (l.map f) i = (atI l i).map f := by
  unfold atI
  rw [List.length_map]
  cases ixN l.length i with
  | none => rfl
  | some j => show (l.map f)[j]? = _; rw [List.getElem?_map]; rfl
theorem ofString_inj {a b : String} : (Str.ofString a = Str.ofString b) ↔ a = b := by
  constructor
  · intro h
    rw [Str.ofString_eq_toList, Str.ofString_eq_toList] at h
    have h : a.toList.map Char.toNat = b.toList.map Char.toNat := by simpa using h
    have inj : Function.Injective Char.toNat := fun x y e => Char.ext (UInt32.toNat_inj.mp e)
    exact String.toList_inj.mp ((List.map_inj_right fun x y e => inj e).mp h)
  · rintro rfl; rfl
/-- == of data, part by part -/
def D.eqvs : List D → List D → Bool
  | [], [] => true
  | x :: xs, y :: ys => D.eqv x y && D.eqvs xs ys
  | _, _ => false
theorem eqvAll_eq : ∀ xs ys : List D, PyData.eqvAll (D.toPs xs) (D.toPs ys) = D.eqvs xs ys
  | [], [] => by simp [D.toPs, PyData.eqvAll, D.eqvs]
  | x :: xs, [] => by simp [D.toPs, PyData.eqvAll, D.eqvs]
  | [], y :: ys => by simp [D.toPs, PyData.eqvAll, D.eqvs]
  | x :: xs, y :: ys => by simp only [D.toPs, PyData.eqvAll, D.eqvs, eqvAll_eq xs ys]; rfl
theorem eqv_tup {xs ys : List D} : D.eqv (.tup xs) (.tup ys) = D.eqvs xs ys := by rw [← eqvAll_eq]; simp [D.eqv, D.toP, PyData.eqv]
theorem eqv_lst {xs ys : List D} : D.eqv (.lst xs) (.lst ys) = D.eqvs xs ys := by rw [← eqvAll_eq]; simp [D.eqv, D.toP, PyData.eqv]
theorem str_beq {x y : Str} : (x == y) = decide (x = y) := by
  by_cases h : x = y
  · subst h; simp
  · simp [h]
theorem eqv_str {x y : Str} : D.eqv (.str x) (.str y) = decide (x = y) := by rw [← str_beq]; simp [D.eqv, D.toP, PyData.eqv]
theorem eqv_txt {x y : Str} : D.eqv (.txt x) (.txt y) = decide (x = y) := by rw [← str_beq]; simp [D.eqv, D.toP, PyData.eqv]
theorem eqv_int {x y : Int} : D.eqv (.int x) (.int y) = decide (x = y) := by simp [D.eqv, D.toP, PyData.eqv]; rfl
theorem eqv_bl {x y : Bool} : D.eqv (.bl x) (.bl y) = decide (x = y) := by simp [D.eqv, D.toP, PyData.eqv]; cases x <;> cases y <;> rfl
theorem eqv_non : D.eqv .non .non = true := by simp [D.eqv, D.toP, PyData.eqv]
section
variable {x y : Str} {l m : List D} {b : Bool} {i : Int}
theorem eqv_tup_lst : D.eqv (.tup l) (.lst m) = false := by simp [D.eqv, D.toP, PyData.eqv]
theorem eqv_lst_tup : D.eqv (.lst l) (.tup m) = false := by simp [D.eqv, D.toP, PyData.eqv]
theorem eqv_tup_str : D.eqv (.tup l) (.str y) = false := by simp [D.eqv, D.toP, PyData.eqv]
theorem eqv_str_tup : D.eqv (.str x) (.tup m) = false := by simp [D.eqv, D.toP, PyData.eqv]
theorem eqv_str_lst : D.eqv (.str x) (.lst m) = false := by simp [D.eqv, D.toP, PyData.eqv]
theorem eqv_lst_str : D.eqv (.lst l) (.str y) = false := by simp [D.eqv, D.toP, PyData.eqv]
theorem eqv_str_non : D.eqv (.str x) .non = false := by simp [D.eqv, D.toP, PyData.eqv]
theorem eqv_non_str : D.eqv .non (.str x) = false := by simp [D.eqv, D.toP, PyData.eqv]
theorem eqv_tup_non : D.eqv (.tup l) .non = false := by simp [D.eqv, D.toP, PyData.eqv]
theorem eqv_non_tup : D.eqv .non (.tup l) = false := by simp [D.eqv, D.toP, PyData.eqv]
theorem eqv_str_int : D.eqv (.str x) (.int i) = false := by simp [D.eqv, D.toP, PyData.eqv]
theorem eqv_int_str : D.eqv (.int i) (.str x) = false := by simp [D.eqv, D.toP, PyData.eqv]
theorem eqv_str_bl : D.eqv (.str x) (.bl b) = false := by simp [D.eqv, D.toP, PyData.eqv]
theorem eqv_bl_str : D.eqv (.bl b) (.str x) = false := by simp [D.eqv, D.toP, PyData.eqv]
end
/-- of texts in a row -/
theorem isIn_strs {x : Str} {ys : List Str} : D.isIn (.str x) (ys.map .str) = decide (x ∈ ys) := by
  unfold D.isIn
  rw [List.any_map]
  induction ys with
  | nil => rfl
  | cons y ys ih =>
    rw [List.any_cons, ih]
    show (D.eqv (.str y) (.str x) || _) = _
    rw [eqv_str]
    by_cases h : x = y
    · subst h; simp
    · have h' : ¬ y = x := fun e => h e.symm
      simp [h, h']
theorem eqOk_str {x y : Str} : D.eqOk (.str x) (.str y) = true := by simp [D.eqOk, D.plain, D.dep]
theorem eqOk_int {x y : Int} : D.eqOk (.int x) (.int y) = true := by simp [D.eqOk, D.plain, D.dep]
theorem eqOk_bl {x y : Bool} : D.eqOk (.bl x) (.bl y) = true := by simp [D.eqOk, D.plain, D.dep]
theorem eqOk_txt {x y : Str} : D.eqOk (.txt x) (.txt y) = true := rfl
mutual
theorem eqv_self : ∀ d : D, d.plain = true → D.eqv d d = true
  | .non, _ => eqv_non
  | .bl b, _ => by rw [eqv_bl]; simp
  | .int i, _ => by rw [eqv_int]; simp
  | .str x, _ => by rw [eqv_str]; simp
  | .tup l, h => by rw [eqv_tup]; exact eqvs_self l (by simpa only [D.plain] using h)
  | .lst l, h => by rw [eqv_lst]; exact eqvs_self l (by simpa only [D.plain] using h)
  | .dk _ _, h => by simp [D.plain] at h
  | .dn _ _ _, h => by simp [D.plain] at h
  | .ob _ _ _, h => by simp [D.plain] at h
  | .scr _, h => by simp [D.plain] at h
  | .mob _, h => by simp [D.plain] at h
  | .txt _, h => by simp [D.plain] at h
theorem eqvs_self : ∀ l : List D, D.plains l = true → D.eqvs l l = true
  | [], _ => by simp [D.eqvs]
  | d :: l, h => by
    simp only [D.plains, Bool.and_eq_true] at h
    simp only [D.eqvs, eqv_self d h.1, eqvs_self l h.2, Bool.and_self]
end
theorem eqOk_of {x y : D} (h1 : x.plain = true) (h2 : y.plain = true) (h3 : x.dep ≤ 100 ∨ y.dep ≤ 100) : D.eqOk x y = true := by
  have h4 : min x.dep y.dep ≤ 100 := by omega
  unfold D.eqOk
  split
  · rfl
  · simp [h1, h2, h4]
theorem plains_strs {ys : List Str} : D.plains (ys.map .str) = true := by rw [D.plains_all]; simp [D.plain]
theorem deps_strs {ys : List Str} : D.deps (ys.map .str) = 0 := by
  induction ys with
  | nil => rfl
  | cons y ys ih => rw [List.map_cons, D.deps, ih]; rfl
theorem toD_map_fz {l : List D} : (OT.ow (l.map .fz)).toD = .lst l := by rw [OT.toD_ow, OT.map_fz]
/-- the names' data at the entry -/
theorem startE_cons {a : Str} {N : List Str} {d : D} {ds : List D} : startE (a :: N) (d :: ds) = some (.fz d) :: startE N ds := by simp [startE]
theorem startE_nil {N : List Str} : startE N [] = List.replicate N.length none := by simp [startE]
/-! ### the box of draws: its numbers; how often it was drawn from -/
def boxL (a b c : Int) : Mo := .lst [.int a, .int b, .int c]
def BoxOk (n : Nat) (a b c : Int) : Prop := 0 ≤ a ∧ 17 ≤ b ∧ b < 2 ^ 62 ∧ 0 ≤ c ∧ c ≤ n
def IsBox (n : Nat) (M : Mem) (p : Addr) : Prop := ∃ a b c : Int, M p = some (boxL a b c) ∧ BoxOk n a b c
/-- only the box at p changes; it's been drawn from at most n times then -/
def BoxTo (p : Addr) (n : Nat) (M M' : Mem) : Prop := ∃ a b c : Int, M' = M.put p (boxL a b c) ∧ BoxOk n a b c
theorem BoxOk.mono {n m : Nat} {a b c : Int} (h : BoxOk n a b c) (e : n ≤ m) : BoxOk m a b c := ⟨h.1, h.2.1, h.2.2.1, h.2.2.2.1, by have := h.2.2.2.2; omega⟩
theorem IsBox.mono {n m : Nat} {M : Mem} {p : Addr} (h : IsBox n M p) (e : n ≤ m) : IsBox m M p := by
  obtain ⟨a, b, c, h1, h2⟩ := h
  exact ⟨a, b, c, h1, h2.mono e⟩
theorem BoxTo.mono {n m : Nat} {M M' : Mem} {p : Addr} (h : BoxTo p n M M') (e : n ≤ m) : BoxTo p m M M' := by
  obtain ⟨a, b, c, h1, h2⟩ := h
  exact ⟨a, b, c, h1, h2.mono e⟩
theorem BoxTo.is {n : Nat} {M M' : Mem} {p : Addr} (h : BoxTo p n M M') : IsBox n M' p := by
  obtain ⟨a, b, c, rfl, h2⟩ := h
  exact ⟨a, b, c, Mem.put_same, h2⟩
theorem BoxTo.trans {n m : Nat} {M M1 M2 : Mem} {p : Addr} (h : BoxTo p n M M1) (g : BoxTo p m M1 M2) : BoxTo p m M M2 := by
  obtain ⟨a, b, c, rfl, h2⟩ := h
  obtain ⟨a', b', c', rfl, h3⟩ := g
  exact ⟨a', b', c', Mem.put_put, h3⟩
theorem IsBox.to {n : Nat} {M : Mem} {p : Addr} (h : IsBox n M p) : BoxTo p n M M := by
  obtain ⟨a, b, c, h1, h2⟩ := h
  refine ⟨a, b, c, ?_, h2⟩
  funext q
  by_cases e : q = p
  · subst e; rw [Mem.put_same, h1]
  · rw [Mem.put_ne e]
theorem BoxTo.at {n : Nat} {M M' : Mem} {p q : Addr} (h : BoxTo p n M M') (e : q ≠ p) : M' q = M q := by
  obtain ⟨a, b, c, rfl, h2⟩ := h
  exact Mem.put_ne e
theorem IsBox.put {n : Nat} {M : Mem} {p q : Addr} {o : Mo} (h : IsBox n M p) (e : p ≠ q) : IsBox n (M.put q o) p := by
  obtain ⟨a, b, c, h1, h2⟩ := h
  exact ⟨a, b, c, (Mem.put_ne e).trans h1, h2⟩
theorem cmul_l {i j : Int} (h0 : -(2 ^ 64) < i) (h1 : i < 2 ^ 64) : CMul i j := .inl ⟨h0, h1⟩
theorem cmul_r {i j : Int} (h0 : -(2 ^ 64) < j) (h1 : j < 2 ^ 64) : CMul i j := .inr ⟨h0, h1⟩
end DL

/-! DLZ: tuple(zip(a, b)), list(zip(a, b)) of two lists. -/
namespace DL
open PySem L2 PySem.Spec
open PyProof.Rows hiding St
set_option autoImplicit false
theorem zip_len0 : typeLookup (.type "zip") "__len__" = pure none := am_miss_of_fast (by decide +kernel)
theorem zip_hint0 : typeLookup (.type "zip") "__length_hint__" = pure none := am_miss_of_fast (by decide +kernel)
/-- a zip of two lists, i turns done: its pair still free, or one that is out -/
def ZSt (z TI TO i1 i2 l1 l2 : Addr) (xs ys : Array Value) (N i : Nat) (h : Heap) : Prop :=
  ((IsZip h z TI TO .none ∧ i = 0 ∧ ∃ a b, IsPair h TO a b) ∨ ∃ T f oT, IsZipHeld h z TI TO T f ∧ h.get? T = some oT ∧ N ≤ T) ∧ IsPair h TI (.ref i1) (.ref i2) ∧ h.IsListIter i1 l1 i ∧ h.IsListIter i2 l2 i ∧ h.IsList l1 xs ∧ h.IsList l2 ys
/-- new pairs so far -/
def ZPr (xs ys : Array Value) (N : Nat) (h : Heap) (acc : Array Value) : Prop :=
  (∀ j : Nat, j < acc.size → ∃ T x y, acc[j]? = some (.ref T) ∧ xs[j]? = some x ∧ ys[j]? = some y ∧ IsPair h T x y ∧ N ≤ T) ∧ acc.toList.Nodup
theorem ZPr.keep {xs ys : Array Value} {N : Nat} {h h' : Heap} {acc : Array Value} (p : ZPr xs ys N h acc) (k : ∀ T o, N ≤ T → h.get? T = some o → h'.get? T = some o) : ZPr xs ys N h' acc :=
  ⟨fun j hj => by
    obtain ⟨T, x, y, e1, e2, e3, e4, e5⟩ := p.1 j hj
    exact ⟨T, x, y, e1, e2, e3, k T _ e5 e4, e5⟩, p.2⟩
theorem ZPr.push {xs ys : Array Value} {N : Nat} {h h' : Heap} {acc : Array Value} {x y : Value} (p : ZPr xs ys N h acc) (hN : N ≤ h.objs.size) (k : ∀ T o, N ≤ T → h.get? T = some o → h'.get? T = some o) (hx : xs[acc.size]? = some x) (hy : ys[acc.size]? = some y)
    (hT : IsPair h' h.objs.size x y) : ZPr xs ys N h' (acc.push (.ref h.objs.size)) := by
  refine ⟨fun j hj => ?_, ?_⟩
  · rw [Array.size_push] at hj
    rcases Nat.lt_or_ge j acc.size with q | q
    · obtain ⟨T, x, y, e1, e2, e3, e4, e5⟩ := p.1 j q
      exact ⟨T, x, y, by rw [Array.getElem?_push, if_neg (by omega)]; exact e1, e2, e3, k T _ e5 e4, e5⟩
    · have e : j = acc.size := by omega
      subst e
      exact ⟨h.objs.size, x, y, by rw [Array.getElem?_push, if_pos rfl], hx, hy, hT, hN⟩
  · rw [Array.toList_push]
    refine List.nodup_append.mpr ⟨p.2, by simp, fun a ha b hb e => ?_⟩
    rw [List.mem_singleton] at hb
    subst hb
    subst e
    obtain ⟨j, hj, ej⟩ := List.getElem_of_mem ha
    have hj' : j < acc.size := by simpa using hj
    obtain ⟨T, x, y, e1, e2, e3, e4, e5⟩ := p.1 j hj'
    have : acc[j]? = some (.ref h.objs.size) := by rw [← Array.getElem?_toList, List.getElem?_eq_getElem hj, ej]
    rw [this] at e1
    cases e1
    exact absurd (Heap.lt_size e4) (Nat.lt_irrefl _)
/-- all below N but these five stays -/
def ZKp (z TI TO i1 i2 S N : Nat) (h h' : Heap) : Prop := ∀ b o, b < N → b ≠ z → b ≠ TO → b ≠ i1 → b ≠ i2 → b ≠ S → h.get? b = some o → h'.get? b = some o
section
variable {prog : Program} {w : World} {A : Around} {R : Result → Shared → Prop} {z TI TO i1 i2 l1 l2 S N : Addr} {xs ys : Array Value} {res : Value}
theorem zip_loop (hh : A.in1.handled = none) (D : ZipApart z TI TO i1 i2 l1 l2) (hz : z < N) (hTI : TI < N) (hTO : TO < N) (h1 : i1 < N) (h2 : i2 < N) (hS : S < N) (hl1 : l1 < N) (hl2 : l2 < N)
    (s1 : S ≠ z) (s2 : S ≠ TI) (s3 : S ≠ TO) (s4 : S ≠ i1) (s5 : S ≠ i2) (s6 : S ≠ l1) (s7 : S ≠ l2) (hn : min xs.size ys.size ≤ sizeLine) (h0 : Heap) (s : Shared) :
    ∀ (k i : Nat) (h : Heap) (acc : Array Value) (c : Nat), min xs.size ys.size - i = k → i ≤ min xs.size ys.size → N ≤ h.objs.size → ZSt z TI TO i1 i2 l1 l2 xs ys N i h → h.get? S = some { cls := .type "list", dict := none, data := .seq acc c, slots := #[] } → acc.size = i → ZPr xs ys N h acc → ZKp z TI TO i1 i2 S N h0 h →
      (∀ h' acc' c', h'.get? S = some { cls := .type "list", dict := none, data := .seq acc' c', slots := #[] } → acc'.size = min xs.size ys.size → ZPr xs ys N h' acc' → ZKp z TI TO i1 i2 S N h0 h' → R (.ok (.ret res)) { s with heap := h' }) →
      codeAny (model prog w) A (.builtin "list.extend.loop" ⟨[.ref S, .ref z, res], []⟩) R { s with heap := h } := by
  have up : ∀ {a T : Addr}, a < N → N ≤ T → T ≠ a := fun q r => Nat.ne_of_gt (Nat.lt_of_lt_of_le q r)
  intro k
  induction k with
  | zero =>
    intro i h acc c hk hi hNh hst hSl hacc hpr hkp hR
    have hend : xs[i]? = none ∨ ys[i]? = none := by
      rcases Nat.lt_or_ge i xs.size with q | q
      · right; rw [Array.getElem?_eq_none]; omega
      · left; rw [Array.getElem?_eq_none]; omega
    obtain ⟨hzz, hp, hi1, hi2, hx, hy⟩ := hst
    have fin : ∀ h' : Heap, (∀ c o, c ≠ z → c ≠ TO → c ≠ i1 → c ≠ i2 → h.get? c = some o → h'.get? c = some o) → R (.ok (.ret res)) { s with heap := h' } := fun h' hk' => by
      exact hR h' acc c (hk' S _ s1 s3 s4 s5 hSl) (by omega) (hpr.keep fun T o r e => hk' T o (up hz r) (up hTO r) (up h1 r) (up h2 r) e) (fun b o b0 b1 b2 b3 b4 b5 e => hk' b o b1 b2 b3 b4 (hkp b o b0 b1 b2 b3 b4 b5 e))
    refine codeAny_builtin (F.entry_extend_loop) ?_
    rw [Around.under_plainId (F.plain_extend_loop) _]
    show wpAny _ A.in1 (pyNext (.ref z) >>= _) _ _ ({ s with heap := h } : Shared)
    refine wpAny_bind ?_
    rcases hzz with ⟨hzz, _, a, b, hT⟩ | ⟨T, f, oT, hzz, hT, hNT⟩
    · exact wpAny_pyNext_zip_end (s := { s with heap := h }) hh D hzz hp hT hi1 hi2 hx hy hend fun h' hk' => wpAny_pure (fin h' hk')
    · exact wpAny_pyNext_zip_end_held (s := { s with heap := h }) hh D hzz hT hp hi1 hi2 hx hy hend fun h' hk' => wpAny_pure (fin h' fun c o c1 _ c3 c4 e => hk' c o c1 c3 c4 e)
  | succ k ih =>
    intro i h acc c hk hi hNh hst hSl hacc hpr hkp hR
    have hlt1 : i < xs.size := by omega
    have hlt2 : i < ys.size := by omega
    obtain ⟨hzz, hp, hi1, hi2, hx, hy⟩ := hst
    refine codeAny_builtin (F.entry_extend_loop) ?_
    rw [Around.under_plainId (F.plain_extend_loop) _]
    show wpAny _ A.in1 (pyNext (.ref z) >>= _) _ _ ({ s with heap := h } : Shared)
    refine wpAny_bind ?_
    rcases hzz with ⟨hzz, _, a, b, hT⟩ | ⟨T, f, oT, hzz, hT, hNT⟩
    · refine wpAny_pyNext_zip_item (s := { s with heap := h }) D hzz hp hT hi1 hi2 hx hy (Array.getElem?_eq_getElem hlt1) (Array.getElem?_eq_getElem hlt2) fun h' q1 q2 q3 q4 q5 q6 q7 => ?_
      have K : ∀ c o, c ≠ z → c ≠ TO → c ≠ i1 → c ≠ i2 → h.get? c = some o → h'.get? c = some o := q7
      have hS' := K S _ s1 s3 s4 s5 hSl
      have hT' : (h'.update S (Obj.mapSeq (·.push (.ref h.objs.size)))).get? h.objs.size = _ := (Heap.get?_update_other _ _ (Ne.symm (up hS hNh))).trans q5
      have oth : ∀ b o, b ≠ S → h'.get? b = some o → (h'.update S (Obj.mapSeq (·.push (.ref h.objs.size)))).get? b = some o := fun b o hb e => (Heap.get?_update_other _ _ (Ne.symm hb)).trans e
      show wpAny _ A.in1 (updateSeq S (·.push (.ref h.objs.size)) >>= _) _ _ ({ s with heap := h' } : Shared)
      refine wpAny_bind ?_
      refine wpAny_updateSeq hS' rfl (wpAny_pure ⟨plainId_quiet (F.plain_extend_loop) _, ih (i + 1) _ (acc.push (.ref h.objs.size)) _ (by omega) (by omega) ?_ ⟨.inr ⟨h.objs.size, false, _, oth z _ (Ne.symm s1) q1, hT', hNh⟩, oth TI _ (Ne.symm s2) (K TI _ D.TIz D.TITO D.TIi1 D.TIi2 hp), q3.at fun o e => oth _ o (Ne.symm s4) e, q4.at fun o e => oth _ o (Ne.symm s5) e, ?_, ?_⟩ (Heap.get?_update_self _ hS' rfl) (by rw [Array.size_push, hacc]) (hpr.push hNh (fun T o r e => oth T o (up hS r) (K T o (up hz r) (up hTO r) (up h1 r) (up h2 r) e)) (by rw [hacc]; exact Array.getElem?_eq_getElem hlt1) (by rw [hacc]; exact Array.getElem?_eq_getElem hlt2) hT') (fun b o b0 b1 b2 b3 b4 b5 e => oth b o b5 (K b o b1 b2 b3 b4 (hkp b o b0 b1 b2 b3 b4 b5 e))) hR⟩)
        (by rw [hacc]; omega) (by show (acc.push _).size ≤ sizeLine + 1; rw [Array.size_push, hacc]; omega)
      · show N ≤ (h'.update S _).objs.size
        rw [Heap.size_update, q6]
        exact Nat.le_succ_of_le hNh
      · exact hx.at fun o e => oth l1 o (Ne.symm s6) (K l1 o D.l1z D.l1TO D.l1i1 D.l1i2 e)
      · exact hy.at fun o e => oth l2 o (Ne.symm s7) (K l2 o D.l2z D.l2TO D.l2i1 D.l2i2 e)
    · refine wpAny_pyNext_zip_item_held (s := { s with heap := h }) D hzz hT hp hi1 hi2 hx hy (Array.getElem?_eq_getElem hlt1) (Array.getElem?_eq_getElem hlt2) fun h' q1 q3 q4 q5 q6 q7 => ?_
      have K : ∀ c o, c ≠ z → c ≠ TO → c ≠ i1 → c ≠ i2 → h.get? c = some o → h'.get? c = some o := fun c o c1 _ c3 c4 e => q7 c o c1 c3 c4 e
      have hS' := K S _ s1 s3 s4 s5 hSl
      have hT' : (h'.update S (Obj.mapSeq (·.push (.ref h.objs.size)))).get? h.objs.size = _ := (Heap.get?_update_other _ _ (Ne.symm (up hS hNh))).trans q5
      have oth : ∀ b o, b ≠ S → h'.get? b = some o → (h'.update S (Obj.mapSeq (·.push (.ref h.objs.size)))).get? b = some o := fun b o hb e => (Heap.get?_update_other _ _ (Ne.symm hb)).trans e
      show wpAny _ A.in1 (updateSeq S (·.push (.ref h.objs.size)) >>= _) _ _ ({ s with heap := h' } : Shared)
      refine wpAny_bind ?_
      refine wpAny_updateSeq hS' rfl (wpAny_pure ⟨plainId_quiet (F.plain_extend_loop) _, ih (i + 1) _ (acc.push (.ref h.objs.size)) _ (by omega) (by omega) ?_ ⟨.inr ⟨T, true, oT, oth z _ (Ne.symm s1) q1, oth T _ (up hS hNT) (K T _ (up hz hNT) (up hTO hNT) (up h1 hNT) (up h2 hNT) hT), hNT⟩, oth TI _ (Ne.symm s2) (K TI _ D.TIz D.TITO D.TIi1 D.TIi2 hp), q3.at fun o e => oth _ o (Ne.symm s4) e, q4.at fun o e => oth _ o (Ne.symm s5) e, ?_, ?_⟩ (Heap.get?_update_self _ hS' rfl) (by rw [Array.size_push, hacc]) (hpr.push hNh (fun T o r e => oth T o (up hS r) (K T o (up hz r) (up hTO r) (up h1 r) (up h2 r) e)) (by rw [hacc]; exact Array.getElem?_eq_getElem hlt1) (by rw [hacc]; exact Array.getElem?_eq_getElem hlt2) hT') (fun b o b0 b1 b2 b3 b4 b5 e => oth b o b5 (K b o b1 b2 b3 b4 (hkp b o b0 b1 b2 b3 b4 b5 e))) hR⟩)
        (by rw [hacc]; omega) (by show (acc.push _).size ≤ sizeLine + 1; rw [Array.size_push, hacc]; omega)
      · show N ≤ (h'.update S _).objs.size
        rw [Heap.size_update, q6]
        exact Nat.le_succ_of_le hNh
      · exact hx.at fun o e => oth l1 o (Ne.symm s6) (K l1 o D.l1z D.l1TO D.l1i1 D.l1i2 e)
      · exact hy.at fun o e => oth l2 o (Ne.symm s7) (K l2 o D.l2z D.l2TO D.l2i1 D.l2i2 e)
/-- collect(zip(a, b)) -/
theorem collect_zip {E : Value → Shared → Prop} {s : Shared} {I : Addr} {Q : List Value → Shared → Prop} (hh : A.in1.handled = none) (hl1 : s.heap.IsList l1 xs) (hl2 : s.heap.IsList l2 ys) (hI1 : l1 < I) (hI2 : l2 < I) (hsz : s.heap.objs.size = I + 5) (hz : IsZip s.heap (I + 4) (I + 2) (I + 3) .none) (hTI : IsPair s.heap (I + 2) (.ref I) (.ref (I + 1)))
    (hTO : IsPair s.heap (I + 3) .none .none) (hi1 : s.heap.IsListIter I l1 0) (hi2 : s.heap.IsListIter (I + 1) l2 0) (hn : min xs.size ys.size ≤ sizeLine)
    (hQ : ∀ h' acc, acc.size = min xs.size ys.size → ZPr xs ys (I + 6) h' acc → (∀ b o, b < I → s.heap.get? b = some o → h'.get? b = some o) → Q acc.toList { s with heap := h' }) : wpAny (model prog w) A (collect (.ref (I + 4))) Q E s := by
  have ap := PySem.W.ktu_apart I l1 l2 hI1 hI2
  have tz : ∀ h : Heap, IsZip h (I + 4) (I + 2) (I + 3) .none → ∀ g d tk os, Shared.TypeIs ⟨h, g, d, tk, os⟩ (.ref (I + 4)) "zip" := fun h e _ _ _ _ => ⟨_, e, rfl⟩
  unfold collect
  refine wpAny_bind (wpAny_runValue (codeAny_builtin (F.entry_proto_collect) ?_))
  rw [Around.under_plainId (F.plain_proto_collect) _]
  show wpAny _ A.in1 (newList [] >>= fun l => again (.builtin "list.__iadd__" ⟨[l, .ref (I + 4)], []⟩)) _ _ s
  refine wpAny_bind (wpAny_newObj_type ?_)
  refine wpAny_pure ⟨plainId_quiet (F.plain_list_iadd) _, codeAny_builtin (F.entry_list_iadd) ?_⟩
  rw [Around.under_plainId (F.plain_list_iadd) _]
  generalize hS : s.heap.objs.size = S
  generalize hh1 : s.heap.push { cls := .type "list", data := .seq ([] : List Value).toArray } = g1
  have k1 : ∀ b o, s.heap.get? b = some o → g1.get? b = some o := fun b o e => by rw [← hh1]; exact Heap.get?_push_of_some _ e
  have eS : g1.get? S = some { cls := .type "list", data := .seq ([] : List Value).toArray } := by rw [← hh1, ← hS]; exact Heap.get?_push_size _ rfl
  have sz1 : g1.objs.size = S + 1 := by rw [← hh1, Heap.size_push, hS]
  show wpAny _ A.in1 (Builtin.List.listExtendWith (.ref S) (.ref (I + 4)) (.ref S)) _ _ _
  unfold Builtin.List.listExtendWith
  refine wpAny_bind (wpAny_typeOf (tz g1 (k1 _ _ hz) _ _ _ _) ?_)
  have n1 : Builtin.List.listSameRef (.ref S) (.ref (I + 4)) = false := by
    have : S ≠ I + 4 := by omega
    simp [Builtin.List.listSameRef, this]
  have n2 : (Value.type "zip" == Value.type "list") = false := by decide
  have n3 : (Value.type "zip" == Value.type "tuple") = false := by decide
  simp only [n1, n2, n3, Bool.or_false, Bool.false_eq_true, if_false]
  refine wpAny_bind (wpAny_pyIter_zip (k1 _ _ hz) ?_)
  refine wpAny_bind (wpAny_holding ?_)
  unfold Builtin.List.listLengthHint
  refine wpAny_bind (wpAny_specialOf (tz g1 (k1 _ _ hz) _ _ _ _) zip_len0 ?_)
  show wpAny _ A.in1 (specialOf (Value.ref (I + 4)) (Str.ofString "__length_hint__") >>= _) _ _ _
  refine wpAny_bind (wpAny_specialOf (tz g1 (k1 _ _ hz) _ _ _ _) zip_hint0 ?_)
  refine wpAny_pure ?_
  show wpAny _ A.in1 (rule "list.extend.makes-room" >>= fun _ => Builtin.List.listTouch (.ref S) >>= fun _ => again (.builtin "list.extend.loop" ⟨[.ref S, .ref (I + 4), .ref S], []⟩)) _ _ _
  refine wpAny_bind (wpAny_rule ?_)
  refine wpAny_bind ?_
  show wpAny _ A.in1 (updateSeq S (·.push .none) >>= fun _ => updateSeq S (·.pop)) _ _ _
  refine wpAny_bind (wpAny_updateSeq eS rfl ?_)
  have eS2 := Heap.get?_update_self (Obj.mapSeq (·.push Value.none)) eS rfl
  refine wpAny_updateSeq eS2 rfl ?_
  have eS3 := Heap.get?_update_self (Obj.mapSeq (·.pop)) eS2 rfl
  have oth : ∀ b o, b ≠ S → g1.get? b = some o → ((g1.update S (Obj.mapSeq (·.push Value.none))).update S (Obj.mapSeq (·.pop))).get? b = some o := fun b o hb e => (Heap.get?_update_other _ _ (Ne.symm hb)).trans ((Heap.get?_update_other _ _ (Ne.symm hb)).trans e)
  have k2 : ∀ b o, b < I + 5 → s.heap.get? b = some o → ((g1.update S (Obj.mapSeq (·.push Value.none))).update S (Obj.mapSeq (·.pop))).get? b = some o := fun b o hb e => oth b o (fun q => by rw [q, ← hS, hsz] at hb; exact Nat.lt_irrefl _ hb) (k1 b o e)
  have sz2 : ((g1.update S (Obj.mapSeq (·.push Value.none))).update S (Obj.mapSeq (·.pop))).objs.size = S + 1 := by rw [Heap.size_update, Heap.size_update, sz1]
  generalize ((g1.update S (Obj.mapSeq (·.push Value.none))).update S (Obj.mapSeq (·.pop))) = g2 at eS3 oth k2 sz2 ⊢
  have eSI : S = I + 5 := hS.symm.trans hsz
  subst eSI
  have ne : ∀ j : Nat, j < 5 → I + 5 ≠ I + j := fun j hj e => absurd (Nat.add_left_cancel e) (Nat.ne_of_gt hj)
  have ltI : ∀ j : Nat, j < 6 → I + j < I + 6 := fun j hj => Nat.add_lt_add_left hj I
  have ltJ : ∀ j : Nat, j < 5 → I + j < I + 5 := fun j hj => Nat.add_lt_add_left hj I
  have l15 : l1 < I + 5 := Nat.lt_of_lt_of_le hI1 (Nat.le_add_right _ _)
  have l25 : l2 < I + 5 := Nat.lt_of_lt_of_le hI2 (Nat.le_add_right _ _)
  refine wpAny_pure ⟨plainId_quiet (F.plain_extend_loop) _, zip_loop (A := A) (N := I + 6) (S := I + 5) hh ap (ltI 4 (by decide)) (ltI 2 (by decide)) (ltI 3 (by decide)) (ltI 0 (by decide)) (ltI 1 (by decide)) (ltI 5 (by decide)) (Nat.lt_succ_of_lt l15) (Nat.lt_succ_of_lt l25)
    (ne 4 (by decide)) (ne 2 (by decide)) (ne 3 (by decide)) (ne 0 (by decide)) (ne 1 (by decide)) (Nat.ne_of_gt l15) (Nat.ne_of_gt l25) hn g2 s (min xs.size ys.size) 0 g2 _ _ rfl (Nat.zero_le _) (by rw [sz2]; exact Nat.le_refl _)
    ⟨.inl ⟨k2 _ _ (ltJ 4 (by decide)) hz, rfl, _, _, k2 _ _ (ltJ 3 (by decide)) hTO⟩, k2 _ _ (ltJ 2 (by decide)) hTI, hi1.at fun o e => k2 _ o (ltJ 0 (by decide)) e, hi2.at fun o e => k2 _ o (ltJ 1 (by decide)) e, hl1.at fun o e => k2 _ o l15 e, hl2.at fun o e => k2 _ o l25 e⟩ eS3 rfl ⟨fun j hj => absurd hj (Nat.not_lt_zero _), by simp⟩ (fun b o _ _ _ _ _ _ e => e) fun h' acc' c' e1 e2 e3 e4 => ?_⟩
  show wpAny _ A (load (I + 5) >>= _) _ _ ({ s with heap := h' } : Shared)
  refine wpAny_bind (wpAny_load e1 ?_)
  refine wpAny_pure (hQ h' acc' e2 e3 fun b o hb e => ?_)
  have nb : ∀ j : Nat, b ≠ I + j := fun j q => by rw [q] at hb; exact absurd hb (Nat.not_lt.mpr (Nat.le_add_right _ _))
  exact e4 b o (Nat.lt_of_lt_of_le hb (Nat.le_add_right _ _)) (nb 4) (nb 3) (nb 0) (nb 1) (nb 5) (k2 b o (Nat.lt_of_lt_of_le hb (Nat.le_add_right _ _)) e)

theorem code_tuple_new_zip {Q₁ : Value → Shared → Prop} {E : Value → Shared → Prop} {s : Shared} {I : Addr} (hh : A.in1.handled = none) (hl1 : s.heap.IsList l1 xs) (hl2 : s.heap.IsList l2 ys) (hI1 : l1 < I) (hI2 : l2 < I) (hsz : s.heap.objs.size = I + 5) (hz : IsZip s.heap (I + 4) (I + 2) (I + 3) .none)
    (hTI : IsPair s.heap (I + 2) (.ref I) (.ref (I + 1))) (hTO : IsPair s.heap (I + 3) .none .none) (hi1 : s.heap.IsListIter I l1 0) (hi2 : s.heap.IsListIter (I + 1) l2 0) (hn : min xs.size ys.size ≤ sizeLine)
    (h : ∀ h' acc, acc.size = min xs.size ys.size → ZPr xs ys (I + 6) h' acc → (∀ b o, b < I → s.heap.get? b = some o → h'.get? b = some o) → Q₁ (.ref h'.objs.size) { s with heap := h'.push { cls := .type "tuple", data := .seq acc } }) :
    codeAny (model prog w) A (.call (.builtin "tuple.__new__") ⟨[.type "tuple", .ref (I + 4)], []⟩) (wants Q₁ E) s := by
  refine codeAny_of_tree ?_
  show wpAny _ A.in1 (do checkBuiltinCall "tuple.__new__" ⟨[.type "tuple", .ref (I + 4)], []⟩; again (.builtin "tuple.__new__" ⟨[.type "tuple", .ref (I + 4)], []⟩)) _ _ s
  refine wpAny_bind (wpAny_of_eq (F.newCall_tuple_1 _) (wpAny_pure ⟨plainId_quiet (F.plain_tuple_new) _, codeAny_builtin (F.entry_tuple_new) ?_⟩))
  rw [Around.under_plainId (F.plain_tuple_new) _]
  have zsub := sub_tuple_self
  have zinit := init_tuple_lookup
  have zmade := madeHere_tuple
  have zty : s.TypeIs (.ref (I + 4)) "zip" := ⟨_, hz, rfl⟩
  have zh1 : A.in1.in1.handled = none := hh
  wp_walk using wpAny_typeOf zty, collect_zip (A := A.in1) zh1 hl1 hl2 hI1 hI2 hsz hz hTI hTO hi1 hi2 hn
  intro h' acc hacc hpr hk
  show wpAny _ _ (Builtin.Tuple.tupleExact acc.toList.toArray >>= fun v => ret v) _ _ _
  unfold Builtin.Tuple.tupleExact
  refine wpAny_bind (wpAny_newObj_type ?_ (by show acc.toList.toArray.size ≤ sizeLine; simp only [Array.toArray_toList]; omega))
  refine wpAny_pure ?_
  have same : acc.toList.toArray = acc := by simp
  rw [same]
  exact h h' acc hacc hpr hk
theorem call_tuple_zip {Q : Value → Shared → Prop} {E : Value → Shared → Prop} {s : Shared} {I : Addr} (hh : A.in1.handled = none) (hl1 : s.heap.IsList l1 xs) (hl2 : s.heap.IsList l2 ys) (hI1 : l1 < I) (hI2 : l2 < I) (hsz : s.heap.objs.size = I + 5) (hz : IsZip s.heap (I + 4) (I + 2) (I + 3) .none)
    (hTI : IsPair s.heap (I + 2) (.ref I) (.ref (I + 1))) (hTO : IsPair s.heap (I + 3) .none .none) (hi1 : s.heap.IsListIter I l1 0) (hi2 : s.heap.IsListIter (I + 1) l2 0) (hn : min xs.size ys.size ≤ sizeLine)
    (h : ∀ h' acc, acc.size = min xs.size ys.size → ZPr xs ys (I + 6) h' acc → (∀ b o, b < I → s.heap.get? b = some o → h'.get? b = some o) → Q (.ref h'.objs.size) { s with heap := h'.push { cls := .type "tuple", data := .seq acc } }) :
    wpAny (model prog w) A (call (.type "tuple") [.ref (I + 4)]) Q E s := by
  refine callType_codes (Q₁ := fun obj s₁ => s₁.TypeIs obj "tuple" ∧ Q obj s₁) (F.called_tuple) (F.typeCall_tuple_1 _) (F.entry_object_init)
    (code_tuple_new_zip (A := A.in1) hh hl1 hl2 hI1 hI2 hsz hz hTI hTO hi1 hi2 hn fun h' acc hacc hpr hk => ⟨⟨_, Heap.get?_push_size _ rfl, rfl⟩, h h' acc hacc hpr hk⟩) fun obj s₁ z => ?_
  exact ⟨z.1, F.args_object_init_2 obj _, object_init_meets (F.called_tuple.init.lookup) (F.called_tuple.made) (by decide) prog w A.in1 _ s₁ ⟨z.1, rfl, z.2⟩⟩
end
end DL

/-! DLY: tuple(zip(a, b)) as a rule. -/
namespace DL
open PySem L2 PySem.Spec
open PyProof.Rows hiding St
set_option autoImplicit false
/-- new pairs laid one by one -/
inductive Lay : Hp → List (V × V) → List Addr → Hp → Prop
  | nil (H : Hp) : Lay H [] [] H
  | cons {H H2 : Hp} {T : Addr} {Ts : List Addr} {p : V × V} {ps : List (V × V)} (e : H T = none) (t : Lay (upd H T (.tup [p.1, p.2])) ps Ts H2) : Lay H (p :: ps) (T :: Ts) H2
/-- pairs as the heap holds them -/
inductive LkP (h : Heap) : List (V × V) → List Addr → Prop
  | nil : LkP h [] []
  | cons {T : Addr} {Ts : List Addr} {x y : V} {ps : List (V × V)} {u v : Value} (e : IsPair h T u v) (r : RelV x u) (q : RelV y v) (t : LkP h ps Ts) : LkP h ((x, y) :: ps) (T :: Ts)
section
variable {X : Cx} {pins : List (Addr × Obj)} {σ : St}
theorem lay_all {h' : Heap} : ∀ {ps : List (V × V)} {Ts : List Addr} (_ : LkP h' ps Ts) (H : Hp) (s : Shared), Inv X pins σ H s → (∀ T ∈ Ts, H T = none ∧ s.heap.get? T = none) → Ts.Nodup → (∀ b o, s.heap.get? b = some o → h'.get? b = some o) →
    ∃ H2, Lay H ps Ts H2 ∧ (∀ q, H q = none → q ∉ Ts → H2 q = none) ∧ Inv X pins σ H2 { s with heap := h' }
  | _, _, .nil, H, s, I, _, _, k => ⟨H, .nil H, fun q e _ => e, I.kept (t' := s.toks) k⟩
  | _, _, .cons (T := T) (Ts := Ts) (x := x) (y := y) (u := u) (v := v) e r q t, H, s, I, fr, nd, k => by
    obtain ⟨G, g1, g2⟩ := restrict h' fun b => decide (b ∉ Ts)
    have nd' := List.nodup_cons.mp nd
    have frT := fr T (List.mem_cons_self ..)
    have kG : ∀ b o, s.heap.get? b = some o → G.get? b = some o := fun b o z => by
      rw [g1 b (decide_eq_true fun hb => by rw [(fr b (List.mem_cons_of_mem _ hb)).2] at z; cases z)]
      exact k b o z
    have eT : G.get? T = some { cls := .type "tuple", data := .seq #[u, v] } := (g1 T (decide_eq_true nd'.1)).trans e
    have I1 : Inv X pins σ (upd H T (.tup [x, y])) { s with heap := G } := I.laidN (t' := s.toks) kG frT.2 frT.1 (show ObjOk X.prog X.w _ _ _ (.tup [x, y]) from ⟨by show 2 ≤ sizeLine; decide, [u, v], .cons r (.cons q .nil), ⟨_, eT, rfl, _, rfl⟩⟩)
    obtain ⟨H2, l, z, I2⟩ := lay_all t (upd H T (.tup [x, y])) { s with heap := G } I1 (fun b hb => ⟨by rw [upd_ne (fun w => nd'.1 (by rw [← w]; exact hb))]; exact (fr b (List.mem_cons_of_mem _ hb)).1, g2 b (decide_eq_false fun w => w hb)⟩) nd'.2 fun b o w => by
      by_cases hb : b ∈ Ts
      · rw [g2 b (decide_eq_false fun w => w hb)] at w; cases w
      · rw [g1 b (decide_eq_true hb)] at w; exact w
    refine ⟨H2, .cons frT.1 l, fun a e1 e2 => z a ?_ fun w => e2 (List.mem_cons_of_mem _ w), I2⟩
    rw [upd_ne fun w => e2 (by rw [w]; exact List.mem_cons_self ..)]
    exact e1
theorem lkp_of {h : Heap} : ∀ {xs ys : List V} {us ws acc : List Value}, Vals xs us → Vals ys ws → acc.length = min us.length ws.length → (∀ j, j < acc.length → ∃ T u w, acc[j]? = some (.ref T) ∧ us[j]? = some u ∧ ws[j]? = some w ∧ IsPair h T u w) →
    ∃ Ts : List Addr, acc = Ts.map Value.ref ∧ LkP h (xs.zip ys) Ts
  | [], ys, us, ws, acc, r, q, hl, hp => by
    cases r
    have : acc = [] := List.eq_nil_of_length_eq_zero (by rw [hl]; simp)
    exact ⟨[], this, .nil⟩
  | x :: xs, [], us, ws, acc, r, q, hl, hp => by
    cases q
    have : acc = [] := List.eq_nil_of_length_eq_zero (by rw [hl]; simp)
    exact ⟨[], this, .nil⟩
  | x :: xs, y :: ys, _, _, acc, .cons r rs, .cons q qs, hl, hp => by
    match acc, hl, hp with
    | [], hl, hp => simp at hl
    | a :: acc, hl, hp =>
      obtain ⟨T, u, w, e1, e2, e3, e4⟩ := hp 0 (by simp)
      simp only [List.getElem?_cons_zero, Option.some.injEq] at e1 e2 e3
      subst e1 e2 e3
      obtain ⟨Ts, e, l⟩ := lkp_of rs qs (acc := acc) (by simp at hl; omega) fun j hj => by
        obtain ⟨T, u, w, f1, f2, f3, f4⟩ := hp (j + 1) (by simp; exact hj)
        simp only [List.getElem?_cons_succ] at f1 f2 f3
        exact ⟨T, u, w, f1, f2, f3, f4⟩
      exact ⟨T :: Ts, by rw [e]; rfl, .cons e4 r q l⟩
theorem vals_refs' : ∀ Ts : List Addr, Vals (Ts.map V.ref) (Ts.map Value.ref)
  | [] => .nil
  | T :: Ts => .cons rfl (vals_refs' Ts)
theorem nodup_refs {Ts : List Addr} (h : (Ts.map Value.ref).Nodup) : Ts.Nodup := by
  induction Ts with
  | nil => exact .nil
  | cons a l ih =>
    rw [List.map_cons, List.nodup_cons] at h
    exact List.nodup_cons.mpr ⟨fun z => h.1 (List.mem_map_of_mem z), ih h.2⟩
def tTupZip (K : PySem.W.Frag) (ta : TA) : TE := fun σ H Q => ta σ H fun vs H1 => ∃ a b xs ys, vs = [.ref a, .ref b] ∧ SqL K H1 a xs ∧ SqL K H1 b ys ∧ ∀ Ts H2 q, Lay H1 (xs.zip ys) Ts H2 → H2 q = none → Q (.ref q) (upd H2 q (.tup (Ts.map V.ref)))
variable {a b : Expr} {es : List Expr} {p p2 pos pos2 : Pos}
theorem pe_tupZip {ta : TA} (hc : X.calm = true) (hm : X.mg "tuple" = none) (hm2 : X.mg "zip" = none) (ha : PA X [a, b] ta) (hg : Gl X "tuple" := by rfl) (hg2 : Gl X "zip" := by rfl)
    (hs : starEach [a, b] X.env = (false, eval a X.env) :: starEach [b] X.env := by rfl) (hpl : (backTo pos2 (starEach [b] X.env)).any (·.1) = false := by rfl)
    (na : starEach [.Call (.Name "zip" p2) [a, b] [] pos2] X.env = (false, eval (.Call (.Name "zip" p2) [a, b] [] pos2) X.env) :: starEach [] X.env := by rfl) :
    PE X (.Call (.Name "tuple" p) [.Call (.Name "zip" p2) [a, b] [] pos2] [] pos) (tTupZip X.K ta) := by
  refine ⟨fun pins s σ H Q I h => ?_⟩
  refine Call_ (ld_blt I hg hm boot_tuple (PyProof.Rows.callWith_type1 (args_cons (thn (Q := fun v s1 => ∃ (N a b : Addr) (xs ys : List V) (its its2 : List Value) (H1 : Hp), v = .ref (N + 4) ∧ Vals xs its ∧ Vals ys its2 ∧ its.length ≤ sizeLine ∧ s1.heap.IsList a its.toArray ∧ s1.heap.IsList b its2.toArray ∧ a < N ∧ b < N ∧ s1.heap.objs.size = N + 5 ∧ IsZip s1.heap (N + 4) (N + 2) (N + 3) .none ∧
      IsPair s1.heap (N + 2) (.ref N) (.ref (N + 1)) ∧ IsPair s1.heap (N + 3) .none .none ∧ s1.heap.IsListIter N a 0 ∧ s1.heap.IsListIter (N + 1) b 0 ∧ (∃ s0 : Shared, Inv X pins σ H1 s0 ∧ N = s0.heap.objs.size ∧ s1 = { s0 with heap := s1.heap } ∧ ∀ c o, s0.heap.get? c = some o → s1.heap.get? c = some o) ∧
      ∀ Ts H2 q, Lay H1 (xs.zip ys) Ts H2 → H2 q = none → Q (.ref q) (upd H2 q (.tup (Ts.map V.ref)))) ?_ fun v s1 ⟨N, a, b, xs, ys, its, its2, H1, ev, rv, rv2, hz0, l1, l2, b1, b2, hsz, hz, hTI, hTO, hi1, hi2, ⟨s0, I0, eN, es, k0⟩, q⟩ => args_nil ?_) na) na))
  · refine Call_ (ld_blt I hg2 hm2 PyProof.Rows.boot_zip (PyProof.Rows.callWith_type1 (thn (ha.run pos2 pins s σ H _ I h) fun us s1 ⟨vs, H1, I1, r1, q1⟩ => ?_) hs hpl))
    obtain ⟨a, b, xs, ys, ex, hqx, hqy, q⟩ := q1
    subst ex
    cases r1 with
    | cons r rr =>
      cases rr with
      | cons r' rr =>
        cases rr
        cases r
        cases r'
        obtain ⟨its, rv, p1, hz1⟩ := I1.list hqx
        obtain ⟨its2, rv2, p2, _⟩ := I1.list hqy
        refine call_zip_2 p1.isList p2.isList fun h' hz hTI hTO h1 h2 hsz hk => ?_
        have I2 : Inv X pins σ H1 { s1 with heap := h' } := I1.kept (t' := s1.toks) hk
        refine ⟨s1.heap.objs.size, a, b, xs, ys, its, its2, H1, rfl, rv, rv2, by rw [← rv.length]; exact hz1, p1.isList.at fun o e => hk _ o e, p2.isList.at fun o e => hk _ o e, p1.lt, p2.lt, hsz, hz, hTI, hTO, h1, h2, ⟨s1, I1, rfl, rfl, hk⟩, q⟩
  · subst ev
    have hd : X.A.handled = none := I0.ok.hd hc
    refine call_tuple_zip hd l1 l2 b1 b2 hsz hz hTI hTO hi1 hi2 (by simp only [List.size_toArray]; omega) fun h' acc hacc hpr hk => ?_
    have kk : ∀ c o, s0.heap.get? c = some o → h'.get? c = some o := fun c o e => hk c o (by rw [eN]; exact Heap.lt_size e) (k0 c o e)
    obtain ⟨Ts, eT, lk⟩ := lkp_of (h := h') (acc := acc.toList) rv rv2 (by rw [Array.length_toList, hacc]; simp) fun j hj => by
      obtain ⟨T, u, w, e1, e2, e3, e4, _⟩ := hpr.1 j (by simpa using hj)
      exact ⟨T, u, w, by rw [Array.getElem?_toList]; exact e1, by simpa using e2, by simpa using e3, e4⟩
    have hin : ∀ T ∈ Ts, s0.heap.objs.size ≤ T ∧ T < h'.objs.size := fun T hT => by
      have hm : Value.ref T ∈ acc.toList := by rw [eT]; exact List.mem_map_of_mem hT
      obtain ⟨j, hj, ej⟩ := List.getElem_of_mem hm
      obtain ⟨T', u, w, e1, e2, e3, e4, e5⟩ := hpr.1 j (by simpa using hj)
      have : acc[j]? = some (.ref T) := by rw [← Array.getElem?_toList, List.getElem?_eq_getElem hj, ej]
      rw [this] at e1
      cases e1
      exact ⟨Nat.le_trans (Nat.le_of_eq eN.symm) (Nat.le_trans (Nat.le_add_right _ _) e5), Heap.lt_size e4⟩
    obtain ⟨H2, ly, fz, I2⟩ := lay_all lk H1 s0 I0 (fun T hT => ⟨I0.hok.fresh (hin T hT).1, by
      cases e : s0.heap.get? T with
      | none => rfl
      | some o => exact absurd (Heap.lt_size e) (Nat.not_lt.mpr (hin T hT).1)⟩) (nodup_refs (by rw [← eT]; exact hpr.2)) kk
    have le : Ts.length ≤ sizeLine := by
      have : acc.toList.length = (Ts.map Value.ref).length := by rw [eT]
      rw [List.length_map, Array.length_toList, hacc, List.size_toArray] at this
      omega
    have I3 : Inv X pins σ (upd H2 h'.objs.size (.tup (Ts.map V.ref))) { s0 with heap := h'.push { cls := .type "tuple", data := .seq acc } } :=
      I2.laid (t' := s0.toks) (fun c o e => Heap.get?_push_of_some _ e) (Nat.le_refl _) (show ObjOk X.prog X.w _ _ _ (.tup (Ts.map V.ref)) from ⟨by rw [List.length_map]; exact le, Ts.map Value.ref, vals_refs' Ts, by
        have : acc = (Ts.map Value.ref).toArray := by rw [← eT, Array.toArray_toList]
        rw [← this]; exact IsTup.new _ _⟩)
    refine ⟨.ref h'.objs.size, upd H2 h'.objs.size (.tup (Ts.map V.ref)), ?_, rfl, q Ts H2 _ ly (I2.hok.fresh (Nat.le_refl _))⟩
    rw [es]
    exact I3
theorem lay_rep {K : PySem.W.Frag} : ∀ {xs ys : List D} {vs us : List V} {Ts : List Addr} {B : Kn} {H H2 : Hp}, Base K B H → Reps K B.b xs vs → Reps K B.b ys us → Lay H (vs.zip us) Ts H2 →
    ∃ B', Grow K B H B' H2 ∧ B'.m = B.m ∧ Reps K B'.b (zipD xs ys) (Ts.map V.ref)
  | [], ys, _, us, _, B, H, _, bs, .nil, q, l => by
    cases l
    exact ⟨B, bs.grow, rfl, .nil⟩
  | x :: xs, [], _, _, _, B, H, _, bs, .cons r rs, .nil, l => by
    cases l
    exact ⟨B, bs.grow, rfl, .nil⟩
  | x :: xs, y :: ys, _, _, _, B, H, _, bs, .cons r rs, .cons q qs, l => by
    cases l with
    | cons e l =>
      obtain ⟨B1, g1, m1, r1⟩ := pair_new bs r q e
      obtain ⟨B2, g2, m2, r2⟩ := lay_rep g1.base (rs.up g1.b) (qs.up g1.b) l
      exact ⟨B2, g1.trans g2, m2.trans m1, .cons (r1.up g2.b) r2⟩
theorem ed_tupZip {f : RA} (hc : X.calm = true) (hm : X.mg "tuple" = none) (hm2 : X.mg "zip" = none) (ha : AD X [a, b] f) (hg : Gl X "tuple" := by rfl) (hg2 : Gl X "zip" := by rfl)
    (hs : starEach [a, b] X.env = (false, eval a X.env) :: starEach [b] X.env := by rfl) (hpl : (backTo pos2 (starEach [b] X.env)).any (·.1) = false := by rfl)
    (na : starEach [.Call (.Name "zip" p2) [a, b] [] pos2] X.env = (false, eval (.Call (.Name "zip" p2) [a, b] [] pos2) X.env) :: starEach [] X.env := by rfl) :
    ED X (.Call (.Name "tuple" p) [.Call (.Name "zip" p2) [a, b] [] pos2] [] pos) (fun ρ M P => f ρ M fun ds M => ∃ xs ys, ds = [.lst xs, .lst ys] ∧ P (.tup (zipD xs ys)) M) := by
  obtain ⟨ta, pa, sa⟩ := ha.ex
  refine ⟨_, pe_tupZip hc hm hm2 pa hg hg2 hs hpl na, fun B H ρ σ S P Q st hf k => sa B H ρ σ S _ _ st hf fun ds vs B1 H1 g r p => ?_⟩
  obtain ⟨xs, ys, rfl, p⟩ := p
  obtain ⟨v, u, rfl, r1, r2⟩ := r.two
  cases r1 with
  | @lst a1 vs1 _ h1 l1 r1 =>
    cases r2 with
    | @lst a2 vs2 _ h2 l2 r2 =>
      refine ⟨a1, a2, vs1, vs2, rfl, Evl.sq_of (g.base.bh _ _ h1), Evl.sq_of (g.base.bh _ _ h2), fun Ts H2 q ly hq => ?_⟩
      obtain ⟨B2, g2, m2, r3⟩ := lay_rep g.base r1 r2 ly
      exact new_tuple g2.base r3 (by rw [zipD_len]; omega) (show P (.tup (zipD xs ys)) B2.m by rw [m2]; exact p) (fun t v B3 H3 g3 r4 p4 => k t v B3 H3 ((g.trans g2).trans g3) r4 p4) q hq
end
end DL

/-! DLK: a set made of a list of texts, or of a list of tuples: what it holds. -/
namespace DL
open PySem L2 PySem.Spec
open PyProof.Rows hiding St
set_option autoImplicit false

abbrev NK := NestedKey
def rowsK (w : World) (L : List (NK × Value)) : List (Int × Value) := L.map fun p => (p.1.hash w, p.2)
/-- the set at a holds these keys, by these values; X: what its table is like -/
structure SetN (w : World) (X : SetTable → List NK → Prop) (h : Heap) (a : Addr) (L : List (NK × Value)) (es : Array (Int × Value)) (ep : Nat) (t : SetTable) : Prop where
  ob : ∃ o, h.get? a = some o ∧ o.ExactSet ∧ o.data = .set es ep t
  rows : es.toList = rowsK w L
  nd : (L.map (·.1)).Nodup
  is : ∀ p ∈ L, NestedIs h p.1 p.2
  fits : t.fits es.size = true
  ris : Ris t.place.toList
  led : w.params.followText "set-order" = true ∨ t.led = true
  few : L.length < 64
  ext : X t (L.map (·.1))
/-- a set of texts alone -/
def XS : SetTable → List NK → Prop := fun _ ks => ∀ k ∈ ks, ∃ x, k = .text x
/-- a set of tuples alone: its table finds them all -/
def XT (w : World) : SetTable → List NK → Prop := fun t ks => (∀ k ∈ ks, (∃ l, k = .tup l) ∧ k.depth ≤ 8) ∧ TabOk t (ks.map (NestedKey.hash w)) ∧ ks.length * 5 < t.mask * 3

section
variable {α β : Type}
/-- what's a row of images in another order, is images of another order -/
theorem perm_of_map {f : α → β} : ∀ {l : List β} {m : List α}, l.Perm (m.map f) → ∃ m' : List α, m'.Perm m ∧ l = m'.map f
  | [], m, h => by
    have e : m = [] := List.map_eq_nil_iff.mp (List.nil_perm.mp h)
    exact ⟨[], by rw [e], rfl⟩
  | b :: l, m, h => by
    obtain ⟨x, hx, e⟩ := List.mem_map.mp (h.mem_iff.mp List.mem_cons_self)
    obtain ⟨u, v, rfl⟩ := List.append_of_mem hx
    have h2 : l.Perm ((u ++ v).map f) := by
      have h3 : (b :: l).Perm (b :: (u ++ v).map f) := by
        refine h.trans ?_
        rw [← e, List.map_append, List.map_cons, List.map_append]
        exact List.perm_middle
      exact h3.cons_inv
    obtain ⟨m', p, rfl⟩ := perm_of_map h2
    exact ⟨x :: m', (p.cons x).trans List.perm_middle.symm, by rw [List.map_cons, e]⟩
theorem split_perm (L : List α) (p : Nat) (x : α) : (L.take p ++ x :: L.drop p).Perm (x :: L) :=
  List.perm_middle.trans (by rw [List.take_append_drop])
end
theorem nis_keep {h h' : Heap} {k : NK} {v : Value} (x : NestedIs h k v) (e : ∀ b o, h.get? b = some o → h'.get? b = some o) : NestedIs h' k v := NestedIs.at (fun b o _ _ q _ => e b o q) k v x
theorem nis_same {h h' : Heap} {a : Addr} {o : Obj} {es : Array (Int × Value)} {ep : Nat} {t : SetTable} {k : NK} {v : Value} (x : NestedIs h k v) (ho : h.get? a = some o) (hd : o.data = .set es ep t) (hs : Heap.SameBut a h h') : NestedIs h' k v :=
  NestedIs.at (fun b u vs n q z => (hs.2 b fun e => by subst e; rw [ho] at q; cases q; rw [hd] at z; cases z).trans q) k v x
theorem NestedAll.each {h : Heap} : ∀ (ks : List NK) (us : List Value), NestedAll h ks us → ∀ u ∈ us, ∃ k, NestedIs h k u
  | [], _, hh, u, hu => by cases hh; cases hu
  | k :: ks, _, hh, u, hu => by
    cases hh with
    | cons h1 h2 =>
      rcases List.mem_cons.mp hu with e | hu
      · exact ⟨k, by rw [e]; exact h1⟩
      · exact NestedAll.each ks _ h2 u hu
section
variable {P : Program} {w : World} {A : Around} {E : Value → Shared → Prop} {s : Shared} {a : Addr} {L : List (NK × Value)} {es : Array (Int × Value)} {ep : Nat} {t : SetTable} {X : SetTable → List NK → Prop}
theorem rows_len {L : List (NK × Value)} {es : Array (Int × Value)} (h : es.toList = rowsK w L) : es.size = L.length := by
  have := congrArg List.length h
  rwa [Array.length_toList, rowsK, List.length_map] at this
theorem rows_at {L : List (NK × Value)} {es : Array (Int × Value)} (h : es.toList = rowsK w L) {i : Nat} {p : NK × Value} (e : L[i]? = some p) : es[i]? = some (p.1.hash w, p.2) := by
  rw [← Array.getElem?_toList, h, rowsK, List.getElem?_map, e]; rfl
/-- whatever it answers -/
theorem hashBy_any : ∀ (n : Nat) (k : NK) (v : Value) (s : Shared) (Q : Bool → Shared → Prop), NestedIs s.heap k v → (∀ b, Q b s) → wpAny (model P w) A (hashByValue n v) Q E s := by
  intro n
  induction n with
  | zero =>
    intro k v s Q hk h
    cases hk with
    | tup _ _ _ _ => exact wpAny_pure (h _)
    | _ => exact wpAny_pure (h _)
  | succ n ih =>
    intro k v s Q hk h
    cases hk with
    | @tup b o vs m ks ho hc hd hi =>
      unfold hashByValue
      refine wpAny_bind (wpAny_specialOf (T := "tuple") ⟨o, ho, hc⟩ F.slot_tuple_hash.lookup ?_)
      show wpAny _ _ (seqItems? (.ref b) >>= _) _ _ s
      refine wpAny_bind (wpAny_seqItems ho hd ?_)
      refine wpAny_bind ?_
      show wpAny _ _ (forIn vs _ _) _ _ s
      rw [← Array.forIn_toList]
      refine wpAny_forIn_list _ (fun rest r s' => s' = s ∧ (r.1 = none ∨ ∃ b, r.1 = some b) ∧ ∀ u ∈ rest, ∃ k, NestedIs s.heap k u) _ ?_ ?_ _ _ ⟨rfl, .inl rfl, NestedAll.each _ _ hi⟩
      · rintro u rest r s' ⟨rfl, hr, hall⟩
        obtain ⟨k', hk'⟩ := hall u List.mem_cons_self
        refine wpAny_bind (ih k' u _ _ hk' fun b => ?_)
        cases b with
        | true =>
          simp only [Bool.not_true, Bool.false_eq_true, if_false]
          exact wpAny_pure ⟨rfl, .inl rfl, fun z hz => hall z (List.mem_cons_of_mem _ hz)⟩
        | false =>
          simp only [Bool.not_false, if_true]
          exact wpAny_pure (wpAny_pure (h _))
      · rintro ⟨r1, r2⟩ s' ⟨rfl, hr, _⟩
        rcases hr with hr | ⟨b, hr⟩ <;> simp only at hr <;> subst hr <;> exact wpAny_pure (h _)
    | _ => exact wpAny_pure (h _)
end
end DL

/-! DLK1: adding a text. -/
namespace DL
open PySem L2 PySem.Spec
open PyProof.Rows hiding St
set_option autoImplicit false
section
variable {P : Program} {w : World} {A : Around} {E : Value → Shared → Prop} {s : Shared} {a : Addr} {L : List (NK × Value)} {es : Array (Int × Value)} {ep : Nat} {t : SetTable} {X : SetTable → List NK → Prop}
theorem SetN.moved {h h' : Heap} {o : Obj} (R : SetN w X h a L es ep t) (hs : Heap.SameBut a h h') (ho : h'.get? a = some o) (hx : o.ExactSet) {es' : Array (Int × Value)} {ep' : Nat} {t' : SetTable} (hd : o.data = .set es' ep' t') {L' : List (NK × Value)} (rows : es'.toList = rowsK w L') (nd : (L'.map (·.1)).Nodup)
    (is : ∀ p ∈ L', NestedIs h p.1 p.2) (fits : t'.fits es'.size = true) (ris : Ris t'.place.toList) (led : t'.led = t.led) (few : L'.length < 64) (ext : X t' (L'.map (·.1))) : SetN w X h' a L' es' ep' t' := by
  obtain ⟨o0, ho0, _, hd0⟩ := R.ob
  exact ⟨⟨o, ho, hx, hd⟩, rows, nd, fun p hp => nis_same (is p hp) ho0 hd0 hs, fits, ris, by rw [led]; exact R.led, few, ext⟩
theorem SetN.strs (R : SetN w XS s.heap a L es ep t) : ElemsOf (strKind P w) es.toList := fun e he => by
  rw [R.rows] at he
  obtain ⟨p, hp, rfl⟩ := List.mem_map.mp he
  obtain ⟨x, hx⟩ := R.ext p.1 (List.mem_map_of_mem hp)
  have h := R.is p hp
  rw [hx] at h
  show (∃ k, (strKind P w).is k p.2 = true ∧ p.1.hash w = (strKind P w).hash k) ∧ p.2.scannable = true
  rw [hx]
  generalize p.2 = v at h
  cases h with
  | text x tk => exact ⟨⟨x, by show Value.isStrOf x (.str x tk) = true; simp [Value.isStrOf, Value.isStr], rfl⟩, rfl⟩
theorem SetN.has_str (R : SetN w XS s.heap a L es ep t) (x : Str) : (∃ e ∈ es.toList, (strKind P w).is x e.2 = true) ↔ NestedKey.text x ∈ L.map (·.1) := by
  constructor
  · rintro ⟨e, he, h⟩
    rw [R.rows] at he
    obtain ⟨p, hp, rfl⟩ := List.mem_map.mp he
    obtain ⟨y, hy⟩ := R.ext p.1 (List.mem_map_of_mem hp)
    have h2 := R.is p hp
    rw [hy] at h2
    obtain ⟨tk, e⟩ := Value.isStrOf_shape (show Value.isStrOf x p.2 = true from h)
    rw [e] at h2
    cases h2
    exact List.mem_map.mpr ⟨p, hp, hy⟩
  · intro h
    obtain ⟨p, hp, e⟩ := List.mem_map.mp h
    have h2 := R.is p hp
    rw [e] at h2
    refine ⟨_, by rw [R.rows]; exact List.mem_map_of_mem hp, ?_⟩
    show Value.isStrOf x p.2 = true
    generalize p.2 = v at h2
    cases h2 with
    | text x tk => simp [Value.isStrOf, Value.isStr]
/-- what the set is behind a store, and behind the table's growing -/
theorem text_tail {g : Bool → Sem Unit} (hg : ∀ (b : Bool) (s₁ : Shared) (Q' : Unit → Shared → Prop), Q' () s₁ → wpAny (model P w) A (g b) Q' E s₁) (R : SetN w XS s.heap a L es ep t) {es1 : Array (Int × Value)} {t2 : SetTable} {L1 : List (NK × Value)} (r1 : es1.toList = rowsK w L1) (nd1 : (L1.map (·.1)).Nodup)
    (is1 : ∀ p ∈ L1, NestedIs s.heap p.1 p.2) (f1 : t2.fits es1.size = true) (ris1 : Ris t2.place.toList) (led1 : t2.led = t.led) (few1 : L1.length < 64) (x1 : XS t2 (L1.map (·.1))) {wd : Bool} {Q : Option Bool → Shared → Prop}
    (h : ∀ h' L' es' ep' t', Heap.SameBut a s.heap h' → SetN w XS h' a L' es' ep' t' → L'.Perm L1 → Q (some true) { s with heap := h' }) :
    wpAny (model P w) A (do
      storeSet a es1 t2
      if (!wd && t2.tooFull) = true then do
          g (relayAll t2 es1 (SetTable.grown es1.size)).2.2
          storeSet a (relayAll t2 es1 (SetTable.grown es1.size)).1 (relayAll t2 es1 (SetTable.grown es1.size)).2.1
          pure (some true)
        else pure (some true)) Q E s := by
  obtain ⟨o, ho, hx, hd⟩ := R.ob
  have n1 := rows_len r1
  have small : ∀ n, n < 64 → n ≤ sizeLine := fun n hn => by rw [sizeLine_eq]; omega
  refine wpAny_bind (wpAny_storeSet_of ho hd ?_ (small _ (by omega)))
  have sb1 : Heap.SameBut a s.heap (s.heap.update a (Obj.putSet es1 t2)) := Heap.SameBut.update ..
  have ho1 := L2.store_at (es' := es1) (t' := t2) ho hd
  have hx1 : ({ o with data := .set es1 (ep + 1) t2 } : Obj).ExactSet := ⟨hx.1, hx.2.1, hx.2.2⟩
  have R1 := R.moved sb1 ho1 hx1 rfl r1 nd1 is1 f1 ris1 led1 few1 x1
  generalize s.heap.update a (Obj.putSet es1 t2) = h1 at sb1 ho1 R1 ⊢
  split
  · have hp := relayAll_perm t2 es1 (SetTable.grown es1.size)
    have hf := relayAll_fits t2 es1 (SetTable.grown es1.size)
    have hr := relayAll_ris t2 es1 (SetTable.grown es1.size)
    have hl := relayAll_led t2 es1 (SetTable.grown es1.size)
    generalize relayAll t2 es1 (SetTable.grown es1.size) = rl at hp hf hr hl ⊢
    obtain ⟨es2, t3, gv⟩ := rl
    dsimp only at hp hf hr hl ⊢
    rw [r1] at hp
    obtain ⟨La, p2, e2⟩ := perm_of_map hp
    have n2 := rows_len e2
    have l2 := p2.length_eq
    refine wpAny_bind (hg _ _ _ ?_)
    refine wpAny_bind (wpAny_storeSet_of (s := { s with heap := h1 }) ho1 rfl ?_ (small _ (by omega)))
    have sb2 : Heap.SameBut a h1 (h1.update a (Obj.putSet es2 t3)) := Heap.SameBut.update ..
    have ho2 := L2.store_at (es' := es2) (t' := t3) ho1 rfl
    refine wpAny_pure (h _ La es2 _ t3 (sb1.trans sb2) (R1.moved sb2 ho2 ⟨hx.1, hx.2.1, hx.2.2⟩ rfl e2 ((p2.map (·.1)).nodup_iff.mpr nd1) (fun p hp => R1.is p (p2.mem_iff.mp hp)) hf hr hl (by omega) (fun k hk => x1 k ((p2.map (·.1)).mem_iff.mp hk))) p2)
  · exact wpAny_pure (h h1 L1 es1 _ t2 sb1 R1 (List.Perm.refl _))
theorem add_text {x : Str} {v : Value} {Q : Bool → Shared → Prop} (R : SetN w XS s.heap a L es ep t) (hv : NestedIs s.heap (.text x) v) (hfew : L.length + 1 < 64)
    (hQ : ∀ b h' L' es' ep' t', Heap.SameBut a s.heap h' → SetN w XS h' a L' es' ep' t' → (NestedKey.text x ∈ L.map (·.1) → L' = L) → (NestedKey.text x ∉ L.map (·.1) → L'.Perm ((.text x, v) :: L)) → Q b { s with heap := h' }) :
    wpAny (model P w) A (setAddHashed a v (NestedKey.hash w (.text x))) Q E s := by
  obtain ⟨o, ho, hx, hd⟩ := R.ob
  have hel := R.strs (P := P)
  have hmem := R.has_str (P := P) x
  have n0 := rows_len R.rows
  have hfew0 := R.few
  have hkey : (strKind P w).is x v = true := by
    cases hv with
    | text x tk => show Value.isStrOf x (.str x tk) = true; simp [Value.isStrOf, Value.isStr]
  have hsc : v.scannable = true := by cases hv; rfl
  have hb : es.size < scanBound := by unfold scanBound; omega
  unfold setAddHashed setAddHashedIn
  refine wpAny_holding (wpAny_bind (wpAny_setState_of ho hd R.fits ?_))
  dsimp only
  rw [byScan_of hsc hb hel]
  simp only [↓reduceIte]
  unfold setAddByScan
  refine wpAny_bind ?_
  refine wpAny_bind (wpAny_rule ?_)
  refine wpAny_bind (wpAny_setScan_of (knd := strKind P w) (k := x) hkey ho hd R.fits hel ?_)
  cases hr : List.findIdx? (fun e => (strKind P w).is x e.2) es.toList with
  | some j =>
    dsimp only
    obtain ⟨hj, hpj, _⟩ := List.findIdx?_eq_some_iff_getElem.mp hr
    have hin := hmem.mp ⟨_, List.getElem_mem hj, hpj⟩
    exact wpAny_pure (wpAny_pure (hQ false s.heap L es ep t (Heap.SameBut.refl a s.heap) R (fun _ => rfl) fun z => absurd hin z))
  | none =>
    dsimp only
    have hnot : NestedKey.text x ∉ L.map (·.1) := fun z => by
      obtain ⟨e, he, hp⟩ := hmem.mpr z
      have := List.findIdx?_eq_none_iff.mp hr e he
      rw [hp] at this; cases this
    have hgw : ∀ (b : Bool) {s₁ : Shared} {Q' : Unit → Shared → Prop}, Q' () s₁ → wpAny (model P w) A (match b with | true => rule "set.scan.the-table-gave-way" | false => pure ()) Q' E s₁ :=
      fun b s₁ Q' hq => by cases b <;> first | exact wpAny_pure hq | exact wpAny_rule hq
    have hperm := layNew_perm t es (NestedKey.hash w (.text x)) v
    have hfits := layNew_fits t es (NestedKey.hash w (.text x)) v
    have hris := layNew_ris t es (NestedKey.hash w (.text x)) v R.ris
    have hled := layNew_led t es (NestedKey.hash w (.text x)) v
    generalize layNew t es (NestedKey.hash w (.text x)) v = ln at hperm hfits hris hled ⊢
    obtain ⟨es1, t1, wd, gv⟩ := ln
    dsimp only at hperm hfits hris hled ⊢
    rw [Array.toList_push, R.rows] at hperm
    have hperm2 : es1.toList.Perm (List.map (fun p : NK × Value => (p.1.hash w, p.2)) (L ++ [(.text x, v)])) := by rw [List.map_append]; exact hperm
    obtain ⟨L1, p1, e1⟩ := perm_of_map hperm2
    have p1' : L1.Perm ((.text x, v) :: L) := p1.trans (List.perm_append_singleton _ _)
    have l1 := p1'.length_eq
    rw [List.length_cons] at l1
    have nd1 : (L1.map (·.1)).Nodup := (p1'.map (·.1)).nodup_iff.mpr (List.nodup_cons.mpr ⟨hnot, R.nd⟩)
    have is1 : ∀ p ∈ L1, NestedIs s.heap p.1 p.2 := fun p hp => by
      rcases List.mem_cons.mp (p1'.mem_iff.mp hp) with rfl | hp
      · exact hv
      · exact R.is p hp
    have x1 : XS t1 (L1.map (·.1)) := fun k hk => by
      rcases List.mem_cons.mp ((p1'.map (·.1)).mem_iff.mp hk) with rfl | hk
      · exact ⟨x, rfl⟩
      · exact R.ext k hk
    have fin : ∀ h' L' es' ep' t', Heap.SameBut a s.heap h' → SetN w XS h' a L' es' ep' t' → L'.Perm L1 → Q true { s with heap := h' } := fun h' L' es' ep' t' hs hR hp =>
      hQ true h' L' es' ep' t' hs hR (fun z => absurd z hnot) fun _ => hp.trans p1'
    refine wpAny_bind (hgw _ ?_)
    split
    · refine wpAny_bind ?_
      rw [hashByValue_scannable 8 hsc]
      refine wpAny_pure ?_
      refine text_tail ?_ R e1 nd1 is1 ?_ ?_ ?_ (by omega) ?_ ?_
      · intro b s₁ Q' hq; cases b <;> first | exact wpAny_pure hq | exact wpAny_rule hq
      · split
        · exact hfits
        · exact SetTable.fits_plain_off hfits
      · split <;> exact hris
      · split <;> exact hled
      · exact x1
      · intro h' L' es' ep' t' hs hR hp; dsimp only; exact wpAny_pure (fin h' L' es' ep' t' hs hR hp)
    · refine wpAny_bind (wpAny_pure ?_)
      simp only [↓reduceIte]
      refine text_tail ?_ R e1 nd1 is1 hfits hris hled (by omega) x1 ?_
      · intro b s₁ Q' hq; cases b <;> first | exact wpAny_pure hq | exact wpAny_rule hq
      · intro h' L' es' ep' t' hs hR hp; dsimp only; exact wpAny_pure (fin h' L' es' ep' t' hs hR hp)
end
end DL

/-! DLK2: adding a tuple. -/
namespace DL
open PySem L2 PySem.Spec
open PyProof.Rows hiding St
set_option autoImplicit false
section
variable {P : Program} {w : World} {A : Around} {E : Value → Shared → Prop} {s : Shared} {a : Addr} {L : List (NK × Value)} {es : Array (Int × Value)} {ep : Nat} {t : SetTable}
/-- a key asks nothing of any class -/
theorem class_none : ∀ (n : Nat) (k : NK) (v : Value) (s : Shared) (Q : Bool → Shared → Prop), NestedIs s.heap k v → k.depth ≤ n → Q false s → wpAny (model P w) A (ofAClassStatement n v) Q E s := by
  intro n
  induction n with
  | zero =>
    intro k v s Q hk hn h
    cases hk with
    | tup _ _ _ _ => simp [NestedKey.depth] at hn
    | _ => exact wpAny_pure h
  | succ n ih =>
    intro k v s Q hk hn h
    cases hk with
    | @tup b o vs m ks ho hc hd hi =>
      have hT : s.TypeIs (.ref b) "tuple" := ⟨o, ho, hc⟩
      have each : ∀ (ks : List NK) (us : List Value), NestedKey.depthAll ks ≤ n → NestedAll s.heap ks us → ∀ u ∈ us, ∃ k, NestedIs s.heap k u ∧ k.depth ≤ n := by
        intro ks
        induction ks with
        | nil => intro us _ hh u hu; cases hh; cases hu
        | cons k ks ihk =>
          intro us hle hh u hu
          simp only [NestedKey.depthAll] at hle
          cases hh with
          | cons h1 h2 =>
            rcases List.mem_cons.mp hu with e | hu
            · exact ⟨k, by rw [e]; exact h1, by omega⟩
            · exact ihk _ (by omega) h2 u hu
      simp only [NestedKey.depth] at hn
      have all := each ks vs.toList (by omega) hi
      unfold ofAClassStatement
      refine wpAny_bind (wpAny_typeOf hT ?_)
      dsimp only
      have e : (("tuple" : String) == "tuple") = true := by decide
      simp only [e, if_true, Bool.not_true, Bool.false_eq_true, if_false]
      try refine wpAny_bind (wpAny_pure ?_)
      try simp only [Bool.not_true, Bool.false_eq_true, if_false]
      show wpAny _ _ (seqItems? (.ref b) >>= _) _ _ s
      refine wpAny_bind (wpAny_seqItems ho hd ?_)
      dsimp only
      refine wpAny_bind ?_
      show wpAny _ _ (forIn vs _ _) _ _ s
      rw [← Array.forIn_toList]
      refine wpAny_forIn_list _ (fun rest r s' => s' = s ∧ r.1 = none ∧ ∀ u ∈ rest, ∃ k, NestedIs s.heap k u ∧ k.depth ≤ n) _ ?_ ?_ _ _ ⟨rfl, rfl, all⟩
      · rintro u rest r s' ⟨rfl, hr, hall⟩
        obtain ⟨k', hk', hd'⟩ := hall u List.mem_cons_self
        refine wpAny_bind (ih k' u _ _ hk' hd' ?_)
        simp only [Bool.false_eq_true, if_false]
        exact wpAny_pure ⟨rfl, rfl, fun z hz => hall z (List.mem_cons_of_mem _ hz)⟩
      · rintro ⟨r1, r2⟩ s' ⟨rfl, hr, _⟩
        simp only at hr
        subst hr
        exact wpAny_pure h
    | _ => exact wpAny_pure h
theorem wp_either {α : Type} {c : Prop} [Decidable c] {x y : Sem α} {Q : α → Shared → Prop} (h1 : wpAny (model P w) A x Q E s) (h2 : wpAny (model P w) A y Q E s) : wpAny (model P w) A (if c then x else y) Q E s := by
  split
  · exact h1
  · exact h2
/-- a search among keys shows nothing -/
theorem seen_none {k : NK} {v : Value} {Q : Bool → Shared → Prop} (hk : NestedIs s.heap k v) (hd : k.depth ≤ 8) {ys : List Value} (hy : ∀ y ∈ ys, ∃ k', NestedIs s.heap k' y ∧ k'.depth ≤ 8) (h : Q false s) : wpAny (model P w) A (searchCouldBeSeen v ys) Q E s := by
  unfold searchCouldBeSeen
  refine wpAny_bind ?_
  refine wpAny_forIn_list _ (fun rest r s' => s' = s ∧ r.1 = none ∧ ∀ y ∈ rest, ∃ k', NestedIs s.heap k' y ∧ k'.depth ≤ 8) _ ?_ ?_ _ _ ⟨rfl, rfl, hy⟩
  · rintro y rest r s' ⟨rfl, hr, hall⟩
    obtain ⟨k', hk', hd'⟩ := hall y List.mem_cons_self
    have more : ∀ z ∈ rest, ∃ k', NestedIs s'.heap k' z ∧ k'.depth ≤ 8 := fun z hz => hall z (List.mem_cons_of_mem _ hz)
    dsimp only
    refine wp_either ?_ ?_
    · exact wpAny_pure ⟨rfl, rfl, more⟩
    ·
      refine wpAny_bind (quiet_key k v 8 _ hk hd A E _ ?_)
      simp only [Bool.not_true, Bool.false_eq_true, if_false]
      refine wpAny_bind (quiet_key k' y 8 _ hk' hd' A E _ ?_)
      simp only [Bool.not_true, Bool.false_eq_true, if_false]
      refine wpAny_bind (class_none 8 k v _ _ hk hd ?_)
      simp only [Bool.false_eq_true, if_false]
      refine wpAny_bind (class_none 8 k' y _ _ hk' hd' ?_)
      simp only [Bool.false_eq_true, if_false]
      exact wpAny_pure ⟨rfl, rfl, more⟩
  · rintro ⟨r1, r2⟩ s' ⟨rfl, hr, _⟩
    simp only at hr
    subst hr
    exact wpAny_pure h
end
end DL

/-! DLK3: the search for a tuple in a set. -/
namespace DL
open PySem L2 PySem.Spec
open PyProof.Rows hiding St
set_option autoImplicit false
section
variable {P : Program} {w : World} {A : Around} {E : Value → Shared → Prop} {s : Shared} {a : Addr} {L : List (NK × Value)} {es : Array (Int × Value)} {ep : Nat} {t : SetTable}
/-- where a key's way has come to behind c steps -/
abbrev proK (w : World) (t : SetTable) (k : NK) (c : Nat) : SetTable.Probe := nth t.mask (runAt t.mask (SetTable.bits (k.hash w) % (t.mask + 1)) (SetTable.bits (k.hash w))) c
abbrev wayK (w : World) (t : SetTable) (k : NK) (c : Nat) : Nat := way t.mask (k.hash w) c
theorem proK_add (k : NK) (c q : Nat) : nth t.mask (proK w t k c) q = proK w t k (c + q) := (nth_add t.mask c _ q).symm
theorem proK_dummy (k : NK) : ∀ c, (proK w t k c).dummy = none := by
  have go : ∀ (c : Nat) (p : SetTable.Probe), p.dummy = none → (nth t.mask p c).dummy = none := fun c => by
    induction c with
    | zero => exact fun p e => e
    | succ c ih => exact fun p e => ih _ (by unfold adv; split <;> exact e)
  exact fun c => go c _ rfl
/-- the keys' places are told by their number -/
theorem place_one {i j x : Nat} (r : Ris t.place.toList) (hi : t.place.toList[i]? = some x) (hj : t.place.toList[j]? = some x) : i = j := by
  have h1 := slot_live r hi
  rw [slot_live r hj] at h1
  injection h1 with h1
  exact h1.symm
theorem find_tup (R : SetN w (XT w) s.heap a L es ep t) {k : NK} {v : Value} (hv : NestedIs s.heap k v) (hkd : k.depth ≤ 8) (hu : A.units + 9 < cLine) {K : Nat} (hKf : K < 10 * SetTable.turns t.mask)
    (hK : wayK w t k K ∉ t.place.toList) (hKb : ∀ c, c < K → wayK w t k c ∈ t.place.toList) {Q : SetFound → Shared → Prop} (hin : k ∈ L.map (·.1) → Q (.there none) s) (hout : k ∉ L.map (·.1) → Q (.free (wayK w t k K) false) s) :
    ∀ (n c : Nat) (st : Option SetTable.Probe), st.getD (t.probeStart (k.hash w)) = proK w t k c → c ≤ K → K - c < n → (∀ (c' i : Nat) (p : NK × Value), c' < c → t.place.toList[i]? = some (wayK w t k c') → L[i]? = some p → p.1 ≠ k) →
      wpAny (model P w) A (setSearchFrom a v (k.hash w) true n st) Q E s := by
  obtain ⟨o, ho, hx, hd⟩ := R.ob
  obtain ⟨hall, T, hroom⟩ := R.ext
  rw [List.map_map] at T
  have hLl : t.place.toList.length = L.length := by rw [Array.length_toList, T.sz, List.length_map]
  intro n
  induction n with
  | zero => intro c st _ _ h; omega
  | succ n ih =>
    intro c st hst hc hn hno
    rw [setSearchFrom_succ]
    refine wpAny_bind (wpAny_setState_of ho hd R.fits ?_)
    dsimp only
    refine wp_if_neg (by unfold SetTable.gaveWay; rw [mask_odd T.mok]; decide) ?_
    try refine wpAny_bind (wpAny_pure ?_)
    have hat : ∀ (i : Nat) (p : NK × Value), L[i]? = some p → (es[i]?.map (·.1)).getD 0 = p.1.hash w := fun i p e => by rw [rows_at R.rows e]; rfl
    have ej : ∀ q, (nth t.mask (proK w t k c) q).j = wayK w t k (c + q) := fun q => by rw [proK_add]
    have spec := go_spec t R.ris T.dm (fun i => (es[i]?.map (·.1)).getD 0) (k.hash w) (10 * SetTable.turns t.mask) (K - c) (proK w t k c) (proK_dummy k c) (by omega)
      (fun q hq => by rw [ej]; exact hKb _ (by omega)) (by rw [ej, show c + (K - c) = K by omega]; exact hK)
    have hprobe : t.probe (fun i => (es[i]?.map (·.1)).getD 0) (k.hash w) (st.getD (t.probeStart (k.hash w))) = SetTable.probe.go t (fun i => (es[i]?.map (·.1)).getD 0) (k.hash w) (10 * SetTable.turns t.mask) (proK w t k c) := by rw [hst]; rfl
    rcases spec with ⟨q, i, hq, hi, hh, hb, hgo⟩ | ⟨hb, hgo⟩
    · rw [hprobe, hgo, ej, proK_add]
      dsimp only
      rw [ej] at hi
      have hil : i < L.length := by rw [← hLl]; exact (List.getElem?_eq_some_iff.mp hi).1
      obtain ⟨p, hp⟩ : ∃ p, L[i]? = some p := ⟨_, List.getElem?_eq_getElem hil⟩
      have hmem := List.mem_of_getElem? hp
      have hpv := R.is p hmem
      have hpd := (hall p.1 (List.mem_map_of_mem hmem)).2
      have behind : wpAny (model P w) A (searchRest a v (k.hash w) true n es t (wayK w t k (c + q)) i (proK w t k (c + (q + 1)))) Q E s := by
        unfold searchRest
        rw [rows_at R.rows hp]
        dsimp only
        refine wpAny_bind (wpAny_holding ?_)
        refine eqAt_key p.1 k A s p.2 v hpv hv (by omega) P w E _ ?_
        rw [← NestedKey.decide_eq]
        refine wpAny_bind (wpAny_setState_of ho hd R.fits ?_)
        dsimp only
        by_cases e : p.1 = k
        · refine wp_if_pos (by simp [e]) (wpAny_pure (hin ?_))
          rw [← e]; exact List.mem_map_of_mem hmem
        · refine wp_if_neg (by simp [e]) ?_
          try refine wpAny_bind (wpAny_pure ?_)
          rw [L2.sameMem]
          dsimp only
          simp only [if_true, slot_live R.ris hi, rows_at R.rows hp]
          obtain ⟨l, hl⟩ := (hall p.1 (List.mem_map_of_mem hmem)).1
          rw [hl] at hpv
          generalize p.2 = pv at hpv
          cases hpv with
          | tup _ _ _ _ =>
            refine wpAny_bind (wpAny_isSame_ref_self (wpAny_bind (wpAny_pure ?_)))
            simp only [if_true]
            refine wp_if_neg (by simp [e]) ?_
            refine ih (c + (q + 1)) _ rfl (by omega) (by omega) fun c' i' p' h1 h2 h3 => ?_
            by_cases hc1 : c' < c
            · exact hno c' i' p' hc1 h2 h3
            · by_cases hc2 : c' < c + q
              · intro e'
                refine hb (c' - c) i' (by omega) (by rw [ej, show c + (c' - c) = c' by omega]; exact h2) ?_
                rw [hat i' p' h3, e']
              · have : c' = c + q := by omega
                subst this
                have := place_one R.ris hi h2
                subst this
                rw [hp] at h3
                cases h3
                exact e
      by_cases hl : t.led = true
      · refine wp_if_neg (by simp [hl]) ?_
        try refine wpAny_bind (wpAny_pure ?_)
        exact behind
      · refine wp_if_pos (by simp [hl]) ?_
        refine wpAny_bind (seen_none hv hkd (fun y hy => ?_) ?_)
        · obtain ⟨e, he, ee⟩ := List.mem_map.mp hy
          have he1 : e ∈ es.toList := by
            have : e ∈ es ∧ e.1 = k.hash w := by simpa using he
            simpa using this.1
          rw [R.rows] at he1
          obtain ⟨p2, hp2, e2⟩ := List.mem_map.mp he1
          refine ⟨p2.1, ?_, (hall p2.1 (List.mem_map_of_mem hp2)).2⟩
          rw [← ee, ← e2]
          exact R.is p2 hp2
        · refine wp_if_neg (by decide) ?_
          try refine wpAny_bind (wpAny_pure ?_)
          exact behind
    · rw [hprobe, hgo, ej, show c + (K - c) = K by omega]
      dsimp only
      refine wpAny_pure (hout fun hm => ?_)
      obtain ⟨p0, h0, e0⟩ := List.mem_map.mp hm
      obtain ⟨i0, hi0, ei⟩ := List.getElem_of_mem h0
      have h00 : L[i0]? = some p0 := by rw [List.getElem?_eq_getElem hi0, ei]
      have hj : t.place.toList[i0]? = some t.place.toList[i0] := List.getElem?_eq_getElem (by rw [hLl]; exact hi0)
      obtain ⟨c', hc', ec⟩ := T.before hK (i := i0) (h := k.hash w) (by rw [List.getElem?_map, h00, ← e0]; rfl) hj
      rw [← ec] at hj
      by_cases hcc : c' < c
      · exact hno c' i0 p0 hcc hj h00 e0
      · refine hb (c' - c) i0 (by omega) (by rw [ej, show c + (c' - c) = c' by omega]; exact hj) ?_
        rw [hat i0 p0 h00, e0]
theorem find_at (R : SetN w (XT w) s.heap a L es ep t) {k : NK} {v : Value} (hv : NestedIs s.heap k v) (hkd : k.depth ≤ 8) (hu : A.units + 9 < cLine) {Q : SetFound → Shared → Prop} (hin : k ∈ L.map (·.1) → Q (.there none) s)
    (hout : ∀ K, k ∉ L.map (·.1) → wayK w t k K ∉ t.place.toList → (∀ c, c < K → wayK w t k c ∈ t.place.toList) → Q (.free (wayK w t k K) false) s) : wpAny (model P w) A (setSearch a v (k.hash w) true) Q E s := by
  obtain ⟨hall, T, hroom⟩ := R.ext
  obtain ⟨K, k1, k2, k3⟩ := T.first (by rw [List.length_map]; omega) (k.hash w)
  have small : K < 100000 := by
    have : 10 * SetTable.turns t.mask ≤ 1420 := by
      unfold SetTable.turns
      rcases T.mok with e | e | e <;> omega
    omega
  unfold setSearch
  exact find_tup R hv hkd hu k1 k2 k3 hin (fun z => hout K z k2 k3) 100000 0 none rfl (Nat.zero_le _) (by omega) fun c' _ _ h => absurd h (Nat.not_lt_zero _)
end
end DL

/-! DLK4: adding a tuple to a set. -/
namespace DL
open PySem L2 PySem.Spec
open PyProof.Rows hiding St
set_option autoImplicit false
theorem range_all {α : Type} : ∀ l : List α, (List.range l.length).filterMap (fun i => l[i]?) = l
  | [] => rfl
  | x :: l => by
    rw [List.length_cons, List.range_succ_eq_map, List.filterMap_cons_some (show (x :: l)[0]? = some x from rfl), List.filterMap_map]
    congr 1
    exact range_all l
section
variable {P : Program} {w : World} {A : Around} {E : Value → Shared → Prop} {s : Shared} {a : Addr} {L : List (NK × Value)} {es : Array (Int × Value)} {ep : Nat} {t : SetTable}
theorem turned (order : Array Nat) (hr : es.toList = rowsK w L) (hp : order.toList.Perm (List.range L.length)) :
    ∃ La : List (NK × Value), (order.filterMap (es[·]?)).toList = rowsK w La ∧ La.Perm L ∧ (La.map fun p => p.1.hash w) = order.toList.map fun i => (es.map (·.1)).getD i 0 := by
  refine ⟨order.toList.filterMap (fun i => L[i]?), ?_, ?_, ?_⟩
  · have e : (fun i : Nat => es[i]?) = fun i => (L[i]?).map fun p => (p.1.hash w, p.2) := funext fun i => by rw [← Array.getElem?_toList, hr, rowsK, List.getElem?_map]
    rw [Array.toList_filterMap, rowsK, List.map_filterMap, e]
  · have h := hp.filterMap (fun i => L[i]?)
    rwa [range_all] at h
  · have go : ∀ ns : List Nat, (∀ i ∈ ns, i < L.length) → ((ns.filterMap fun i => L[i]?).map fun p => p.1.hash w) = ns.map fun i => (es.map (·.1)).getD i 0 := by
      intro ns
      induction ns with
      | nil => intro _; rfl
      | cons i ns ih =>
        intro h
        have hi := h i List.mem_cons_self
        have e1 : L[i]? = some L[i] := List.getElem?_eq_getElem hi
        rw [List.filterMap_cons_some e1, List.map_cons, List.map_cons, ih fun j hj => h j (List.mem_cons_of_mem _ hj)]
        congr 1
        have e2 := rows_at hr e1
        rw [Array.getD_eq_getD_getElem?, Array.getElem?_map, e2]
        rfl
    exact go _ fun i hi => List.mem_range.mp (hp.mem_iff.mp hi)
theorem relay_tup {o : Obj} (ho : s.heap.get? a = some o) (hx : o.ExactSet) (hd : o.data = .set es ep t) (rows : es.toList = rowsK w L) (pl : t.place.size = es.size) (dm : t.dummies = #[]) (fl : es.size ≤ t.mask) (nd : (L.map (·.1)).Nodup) (is : ∀ p ∈ L, NestedIs s.heap p.1 p.2)
    (led : w.params.followText "set-order" = true ∨ t.led = true) (few : L.length < 64) (all : ∀ k ∈ L.map (·.1), (∃ l, k = .tup l) ∧ k.depth ≤ 8) {wanted M : Nat} (hw : SetTable.sizeAbove wanted - 1 = M) (hM : MaskOk M) (hw2 : SetTable.sizeAbove wanted ≤ 128) (hn : L.length * 5 < M * 3) {Q : Unit → Shared → Prop}
    (hQ : ∀ h' L' es' ep' t', Heap.SameBut a s.heap h' → SetN w (XT w) h' a L' es' ep' t' → L'.Perm L → Q () { s with heap := h' }) : wpAny (model P w) A (setRelay a wanted) Q E s := by
  have hl := rows_len rows
  have hf : t.fits es.size = true := by
    unfold SetTable.fits SetTable.fill
    rw [dm, Bool.and_eq_true, beq_iff_eq, decide_eq_true_eq]
    exact ⟨pl, by rw [pl]; exact fl⟩
  obtain ⟨t', order, e, hp, T, em, el, epl, edm⟩ := relaid_ok t (hs := es.map (·.1)) (wanted := wanted) hw hM (by rw [Array.size_map, hl]; omega)
  rw [Array.size_map, hl] at hp
  obtain ⟨La, r1, r2, r3⟩ := turned (w := w) order rows hp
  rw [← r3] at T
  have hla := r2.length_eq
  have n2 := rows_len r1
  rw [setRelay_eq]
  refine wpAny_bind (wpAny_setState_of ho hd hf ?_)
  dsimp only
  refine wp_if_neg (by rw [sizeLine_eq]; omega) ?_
  try refine wpAny_bind (wpAny_pure ?_)
  rw [e]
  dsimp only
  refine wpAny_bind ?_
  refine wp_if_neg (by simp; omega) ?_
  try refine wpAny_bind (wpAny_pure ?_)
  refine wpAny_pure ?_
  dsimp only
  refine wpAny_storeSet_of ho hd ?_ (by rw [sizeLine_eq]; omega)
  have sb : Heap.SameBut a s.heap (s.heap.update a (Obj.putSet (order.filterMap (es[·]?)) t')) := Heap.SameBut.update ..
  have h1 := T.sz
  rw [List.length_map] at h1
  refine hQ _ La (order.filterMap (es[·]?)) (ep + 1) t' sb ⟨⟨_, L2.store_at ho hd, ⟨hx.1, hx.2.1, hx.2.2⟩, rfl⟩, r1, (r2.map (·.1)).nodup_iff.mpr nd, fun p hpm => nis_same (is p (r2.mem_iff.mp hpm)) ho hd sb, ?_, T.ris, by rw [el]; exact led, by omega, fun k hk => all k ((r2.map (·.1)).mem_iff.mp hk), ?_, ?_⟩ r2
  · unfold SetTable.fits SetTable.fill
    rw [edm, Bool.and_eq_true, beq_iff_eq, decide_eq_true_eq]
    refine ⟨by omega, ?_⟩
    show t'.place.size + 0 ≤ t'.mask
    omega
  · rw [List.map_map]; exact T
  · rw [List.length_map, em]; omega
theorem add_tup {k : NK} {v : Value} (R : SetN w (XT w) s.heap a L es ep t) (hv : NestedIs s.heap k v) (hkt : (∃ l, k = .tup l) ∧ k.depth ≤ 8) (hu : A.units + 9 < cLine) (hfew : L.length + 1 < 64) {Q : Bool → Shared → Prop}
    (hQ : ∀ b h' L' es' ep' t', Heap.SameBut a s.heap h' → SetN w (XT w) h' a L' es' ep' t' → (k ∈ L.map (·.1) → L' = L) → (k ∉ L.map (·.1) → L'.Perm ((k, v) :: L)) → Q b { s with heap := h' }) :
    wpAny (model P w) A (setAddHashed a v (k.hash w)) Q E s := by
  obtain ⟨o, ho, hx, hd⟩ := R.ob
  obtain ⟨hall, T, hroom⟩ := R.ext
  rw [List.length_map] at hroom
  have hl := rows_len R.rows
  obtain ⟨lk, hlk⟩ := hkt.1
  have hsc : byScan v es = false := by
    rw [hlk] at hv
    cases hv
    simp [byScan, Value.scannable]
  unfold setAddHashed
  refine wpAny_holding ?_
  rw [show (100000 : Nat) = 99999 + 1 from rfl, setAddHashedIn_succ]
  refine wpAny_bind (wpAny_setState_of ho hd R.fits ?_)
  dsimp only
  refine wp_if_neg (by rw [hsc]; exact Bool.false_ne_true) ?_
  try refine wpAny_bind (wpAny_pure ?_)
  refine wpAny_bind (find_at R hv hkt.2 hu (fun hm => ?_) fun K hm hK hb => ?_)
  · dsimp only
    exact wpAny_pure (hQ false s.heap L es ep t (Heap.SameBut.refl a s.heap) R (fun _ => rfl) fun z => absurd hm z)
  · dsimp only
    refine wpAny_bind (wpAny_setState_of ho hd R.fits ?_)
    dsimp only
    obtain ⟨q1, q2, q3, q4, q5, q6, q7, q8, q9⟩ := T.put (h := k.hash w) hK hb
    rw [List.length_map, List.length_map] at q9
    rw [List.length_map, List.length_map] at q2
    rw [List.map_map] at q3
    generalize hpt : t.put (wayK w t k K) = pt at q1 q3 q4 q5 q6 q7 q8 q9 ⊢
    obtain ⟨t1, j⟩ := pt
    dsimp only at q1 q3 q4 q5 q6 q7 q8 q9 ⊢
    have q1' : j = SetTable.below t.place (wayK w t k K) := q1
    rw [← q1] at q2 q3
    clear q1
    -- the byte of plainness, whatever it is
    have cont : ∀ t2 : SetTable, t2.place = t1.place → t2.dummies = t1.dummies → t2.mask = t1.mask → t2.led = t1.led →
        wpAny (model P w) A (do
          storeSet a (SetTable.insertAt es j (k.hash w, v)) t2
          if (!false && t2.tooFull) = true then do
              setRelay a (SetTable.grown (es.size + 1))
              pure true
            else pure true) Q E s := by
      intro t2 e1 e2 e3 e4
      have T2 : TabOk t2 ((L.map (fun p => p.1.hash w)).take j ++ k.hash w :: (L.map (fun p => p.1.hash w)).drop j) := by
        obtain ⟨a1, a2, a3, a4, a5, a6⟩ := q3
        refine ⟨by rw [e1]; exact a1, by rw [e2]; exact a2, by rw [e1]; exact a3, by rw [e3]; exact a4, by rw [e1, e3]; exact a5, ?_⟩
        rw [e1, e3]
        exact a6
      have hin : (SetTable.insertAt es j (k.hash w, v)).toList = rowsK w (L.take j ++ (k, v) :: L.drop j) := by
        rw [SetTable.toList_insertAt, R.rows, rowsK, rowsK, List.map_append, List.map_cons, List.map_take, List.map_drop]
      have pm := split_perm L j (k, v)
      have hh : (L.take j ++ (k, v) :: L.drop j).map (fun p => p.1.hash w) = (L.map (fun p => p.1.hash w)).take j ++ k.hash w :: (L.map (fun p => p.1.hash w)).drop j := by
        rw [List.map_append, List.map_cons, List.map_take, List.map_drop]
      rw [← hh] at T2
      generalize L.take j ++ (k, v) :: L.drop j = L1 at hin pm hh T2
      generalize SetTable.insertAt es j (k.hash w, v) = es1 at hin ⊢
      have l1 := pm.length_eq
      rw [List.length_cons] at l1
      have n1 := rows_len hin
      have sz2 := T2.sz
      rw [List.length_map] at sz2
      refine wpAny_bind (wpAny_storeSet_of ho hd ?_ (by rw [sizeLine_eq]; omega))
      have sb : Heap.SameBut a s.heap (s.heap.update a (Obj.putSet es1 t2)) := Heap.SameBut.update ..
      have ho1 := L2.store_at (es' := es1) (t' := t2) ho hd
      generalize s.heap.update a (Obj.putSet es1 t2) = h1 at sb ho1 ⊢
      have nd1 : (L1.map (·.1)).Nodup := (pm.map (·.1)).nodup_iff.mpr (List.nodup_cons.mpr ⟨hm, R.nd⟩)
      have is1 : ∀ p ∈ L1, NestedIs h1 p.1 p.2 := fun p hp => by
        rcases List.mem_cons.mp (pm.mem_iff.mp hp) with rfl | hp
        · exact nis_same hv ho hd sb
        · exact nis_same (R.is p hp) ho hd sb
      have all1 : ∀ z ∈ L1.map (·.1), (∃ l, z = .tup l) ∧ z.depth ≤ 8 := fun z hz => by
        rcases List.mem_cons.mp ((pm.map (·.1)).mem_iff.mp hz) with rfl | hz
        · exact hkt
        · exact hall z hz
      have led1 : w.params.followText "set-order" = true ∨ t2.led = true := by rw [e4, q5]; exact R.led
      have m1 : t2.mask = t.mask := e3.trans q4
      have fill1 : t2.fill = L.length + 1 := by
        have : t2.fill = t1.fill := by unfold SetTable.fill; rw [e1, e2]
        rw [this]; exact q9
      have full : t2.tooFull = decide ((L.length + 1) * 5 ≥ t.mask * 3) := by
        unfold SetTable.tooFull
        rw [fill1, m1]
      by_cases hf : (L.length + 1) * 5 ≥ t.mask * 3
      · refine wp_if_pos (by rw [full]; simp [hf]) ?_
        have mid : (t.mask = 7 ∧ L.length = 4) ∨ (t.mask = 31 ∧ L.length = 18) := by
          rcases T.mok with e | e | e
          · left; rw [e] at hf hroom; exact ⟨e, by omega⟩
          · right; rw [e] at hf hroom; exact ⟨e, by omega⟩
          · rw [e] at hf; omega
        have go : ∀ M, SetTable.sizeAbove (SetTable.grown (es.size + 1)) - 1 = M → MaskOk M → SetTable.sizeAbove (SetTable.grown (es.size + 1)) ≤ 128 → (L.length + 1) * 5 < M * 3 →
            wpAny (model P w) A (setRelay a (SetTable.grown (es.size + 1))) (fun _ s' => wpAny (model P w) A (pure true) Q E s') E { s with heap := h1 } := fun M g1 g2 g3 g4 =>
          relay_tup (s := { s with heap := h1 }) ho1 ⟨hx.1, hx.2.1, hx.2.2⟩ rfl hin (by omega) T2.dm (by rcases mid with ⟨b1, b2⟩ | ⟨b1, b2⟩ <;> omega) nd1 is1 led1 (by omega) all1 g1 g2 g3 (by omega) fun h2 La es2 ep2 t3 sb2 R2 pm2 =>
            wpAny_pure (hQ true h2 La es2 ep2 t3 (sb.trans sb2) R2 (fun z => absurd z hm) fun _ => pm2.trans pm)
        refine wpAny_bind ?_
        rcases mid with ⟨b1, b2⟩ | ⟨b1, b2⟩
        · exact go 31 (by rw [hl, b2, size_20]) (.inr (.inl rfl)) (by rw [hl, b2, size_20]; decide) (by omega)
        · exact go 127 (by rw [hl, b2, size_76]) (.inr (.inr rfl)) (by rw [hl, b2, size_76]; decide) (by omega)
      · refine wp_if_neg (by rw [full]; simp; omega) ?_
        refine wpAny_pure (hQ true h1 L1 es1 (ep + 1) t2 sb ⟨⟨_, ho1, ⟨hx.1, hx.2.1, hx.2.2⟩, rfl⟩, hin, nd1, is1, ?_, T2.ris, led1, by omega, all1, by rw [List.map_map]; exact T2, by rw [List.length_map]; omega⟩ (fun z => absurd z hm) fun _ => pm)
        unfold SetTable.fits
        rw [Bool.and_eq_true, beq_iff_eq, decide_eq_true_eq, fill1]
        exact ⟨by omega, by omega⟩
    by_cases hpl : t1.plain = true
    · first
        | (refine wpAny_bind ?_; refine wp_if_pos hpl ?_; refine hashBy_any 8 k v _ _ hv fun b => ?_)
        | refine wp_if_pos hpl (wpAny_bind (hashBy_any 8 k v _ _ hv fun b => ?_))
      cases b with
      | true => simp only [if_true]; exact cont t1 rfl rfl rfl rfl
      | false => simp only [Bool.false_eq_true, if_false]; exact cont _ rfl rfl rfl rfl
    · first
        | (refine wpAny_bind ?_; refine wp_if_neg hpl ?_; refine wpAny_pure ?_)
        | refine wp_if_neg hpl (wpAny_bind (wpAny_pure ?_))
      simp only [if_true]
      exact cont t1 rfl rfl rfl rfl
end
end DL

/-! DLK5: set(xs), xs a list of texts or of tuples. -/
namespace DL
open PySem L2 PySem.Spec
open PyProof.Rows hiding St
set_option autoImplicit false
/-- how such a set takes one more -/
def Adds (P : Program) (w : World) (X : SetTable → List NK → Prop) (G : NK → Prop) : Prop :=
  ∀ (A : Around) (E : Value → Shared → Prop) (s : Shared) (a : Addr) (L : List (NK × Value)) (es : Array (Int × Value)) (ep : Nat) (t : SetTable) (k : NK) (v : Value) (Q : Bool → Shared → Prop), SetN w X s.heap a L es ep t → NestedIs s.heap k v → G k → A.units + 9 < cLine → L.length + 1 < 64 →
    (∀ b h' L' es' ep' t', Heap.SameBut a s.heap h' → SetN w X h' a L' es' ep' t' → (k ∈ L.map (·.1) → L' = L) → (k ∉ L.map (·.1) → L'.Perm ((k, v) :: L)) → Q b { s with heap := h' }) → wpAny (model P w) A (setAddHashed a v (k.hash w)) Q E s
theorem adds_text {P : Program} {w : World} : Adds P w XS (fun k => ∃ x, k = .text x) := fun A E s a L es ep t k v Q R hv hk hu hf hQ => by
  obtain ⟨x, rfl⟩ := hk
  exact add_text R hv hf hQ
theorem adds_tup {P : Program} {w : World} : Adds P w (XT w) (fun k => (∃ l, k = .tup l) ∧ k.depth ≤ 8) := fun A E s a L es ep t k v Q R hv hk hu hf hQ => add_tup R hv hk hu hf hQ
/-- what has come of the first i -/
structure Come (ks : List (NK × Value)) (i : Nat) (L : List (NK × Value)) : Prop where
  sub : ∀ p ∈ L, p ∈ ks.take i
  all : ∀ p ∈ ks.take i, p.1 ∈ L.map (·.1)
  len : L.length ≤ i
section
variable {ks L L' : List (NK × Value)} {i : Nat} {x : NK × Value}
theorem take_snoc {α : Type} {l : List α} {i : Nat} {x : α} (h : l[i]? = some x) : l.take (i + 1) = l.take i ++ [x] := by rw [List.take_succ, h]; rfl
theorem Come.stay (g : Come ks i L) (h : ks[i]? = some x) (hm : x.1 ∈ L.map (·.1)) : Come ks (i + 1) L := by
  refine ⟨fun p hp => ?_, fun p hp => ?_, Nat.le_succ_of_le g.len⟩
  · rw [take_snoc h]; exact List.mem_append_left _ (g.sub p hp)
  · rw [take_snoc h, List.mem_append, List.mem_singleton] at hp
    rcases hp with hp | rfl
    · exact g.all p hp
    · exact hm
theorem Come.next (g : Come ks i L) (h : ks[i]? = some x) (pm : L'.Perm (x :: L)) : Come ks (i + 1) L' := by
  refine ⟨fun p hp => ?_, fun p hp => ?_, ?_⟩
  · rw [take_snoc h, List.mem_append, List.mem_singleton]
    rcases List.mem_cons.mp (pm.mem_iff.mp hp) with e | z
    · exact .inr e
    · exact .inl (g.sub p z)
  · rw [(pm.map (·.1)).mem_iff, List.map_cons, List.mem_cons]
    rw [take_snoc h, List.mem_append, List.mem_singleton] at hp
    rcases hp with hp | rfl
    · exact .inr (g.all p hp)
    · exact .inl rfl
  · have := pm.length_eq
    rw [List.length_cons] at this
    have := g.len
    omega
end
section
variable {P : Program} {w : World} {A : Around} {E : Value → Shared → Prop} {s : Shared} {X : SetTable → List NK → Prop} {G : NK → Prop}
theorem SetN.keep {h h' : Heap} {a : Addr} {L : List (NK × Value)} {es : Array (Int × Value)} {ep : Nat} {t : SetTable} (R : SetN w X h a L es ep t) (ha : ∀ o, h.get? a = some o → h'.get? a = some o) (hi : ∀ p ∈ L, NestedIs h' p.1 p.2) : SetN w X h' a L es ep t := by
  obtain ⟨o, ho, r⟩ := R.ob
  exact ⟨⟨o, ha o ho, r⟩, R.rows, R.nd, hi, R.fits, R.ris, R.led, R.few, R.ext⟩
/-- where it stands: what was there is there, and the set holds what came so far -/
def Far (w : World) (X : SetTable → List NK → Prop) (ks : List (NK × Value)) (h0 : Heap) (S : Addr) (i : Nat) (h : Heap) : Prop :=
  (∀ b o, h0.get? b = some o → h.get? b = some o) ∧ ∃ L es ep t, SetN w X h S L es ep t ∧ Come ks i L
/-- what is put into a new set S, told one by one by I -/
structure Feed (P : Program) (w : World) (X : SetTable → List NK → Prop) (G : NK → Prop) (A : Around) (S I : Addr) (fp wr : List Addr) (GN : Array GenState → Array GenState → Prop) (Pv : Nat → Value → Prop) (St : Nat → Shared → Prop) (ks : List (NK × Value)) (h0 : Heap) : Prop where
  adds : Adds P w X G
  walk : WalksS P w A.in1 I fp wr GN ks.length Pv St
  apart : S ∉ fp
  few : ks.length < 64
  tells : ∀ (i : Nat) (v : Value), Pv i v → ∃ p, ks[i]? = some p ∧ v = p.2
  keys : ∀ p ∈ ks, NestedIs h0 p.1 p.2
  good : ∀ p ∈ ks, G p.1 ∧ p.1.depth ≤ 8
  new : h0.get? S = none
  newI : ∀ b ∈ wr, h0.get? b = none
  room : A.in1.units + 9 < cLine
variable {I S : Addr} {fp wr : List Addr} {GN : Array GenState → Array GenState → Prop} {Pv : Nat → Value → Prop} {St : Nat → Shared → Prop} {R : Result → Shared → Prop} {ks : List (NK × Value)} {h0 : Heap}
theorem Feed.S_wr (F : Feed P w X G A S I fp wr GN Pv St ks h0) : S ∉ wr := fun h => F.apart (F.walk.sub _ h)
/-- the walk's own steps don't touch it -/
theorem Feed.far_moved (F : Feed P w X G A S I fp wr GN Pv St ks h0) {i : Nat} {s s' : Shared} (f : Far w X ks h0 S i s.heap) (mv : Moved wr GN s s') : Far w X ks h0 S i s'.heap := by
  obtain ⟨up, L, es, ep, t, R, g⟩ := f
  have up' : ∀ b o, h0.get? b = some o → s'.heap.get? b = some o := fun b o e => mv.heap b o (fun hb => nomatch (F.newI b hb).symm.trans e) (up b o e)
  exact ⟨up', L, es, ep, t, R.keep (fun o => mv.heap S o F.S_wr) fun p hp => nis_keep (F.keys p (List.mem_of_mem_take (g.sub p hp))) up', g⟩
/-- one more -/
theorem Feed.put (F : Feed P w X G A S I fp wr GN Pv St ks h0) {i : Nat} {p : NK × Value} (f : Far w X ks h0 S i s.heap) (hp : ks[i]? = some p) :
    wpAny (model P w) A.in1 (setAdd S p.2) (fun _ s' => ∃ h' tk, s' = { s with heap := h', toks := tk } ∧ s.toks ≤ tk ∧ Heap.SameBut S s.heap h' ∧ Far w X ks h0 S (i + 1) h') E s := by
  obtain ⟨up, L, es, ep, t, R, g⟩ := f
  have m := List.mem_of_getElem? hp
  have is := nis_keep (F.keys p m) up
  have u := F.room
  have few := F.few
  have := g.len
  have := (F.good p m).2
  have : i < ks.length := (List.getElem?_eq_some_iff.mp hp).1
  unfold setAdd
  refine wpAny_holding (wpAny_bind (pyHash_key p.1 p.2 A.in1 s _ is (by omega) (F.adds A.in1 _ { s with toks := s.toks + p.1.draws } S L es ep t p.1 p.2 _ R is (F.good p m).1 F.room (by omega) ?_)))
  intro b h' L' es' ep' t' sb R' old new
  refine ⟨h', _, rfl, Nat.le_add_right _ _, sb, fun x o e => (sb.2 x fun z => ?_).trans (up x o e), L', es', ep', t', R', ?_⟩
  · rw [z, F.new] at e
    cases e
  · by_cases c : p.1 ∈ L.map (·.1)
    · exact old c ▸ g.stay hp c
    · exact g.next hp (new c)
/-- all of it -/
theorem Feed.all (fd : Feed P w X G A S I fp wr GN Pv St ks h0) : ∀ (m i : Nat) (s : Shared), i + m = ks.length → St i s → Far w X ks h0 S i s.heap → (∀ s', Moved (S :: wr) GN s s' → Far w X ks h0 S ks.length s'.heap → R (.ok (.ret .none)) s') →
    codeAny (model P w) A (.builtin "set.update.loop" ⟨[.ref S, .ref I], []⟩) R s := by
  intro m
  induction m with
  | zero =>
    intro i s hi st f done
    obtain rfl : i = ks.length := hi
    refine codeAny_builtin F.entry_set_update_loop ?_
    rw [Around.under_plainId F.plain_set_update_loop _]
    refine wpAny_bind (fd.walk.done s _ _ st fun s' mv => wpAny_pure (done s' (mv.mono fun _ h => List.mem_cons_of_mem _ h) (fd.far_moved f mv)))
  | succ m ih =>
    intro i s hi st f done
    refine codeAny_builtin F.entry_set_update_loop ?_
    rw [Around.under_plainId F.plain_set_update_loop _]
    refine wpAny_bind (fd.walk.item i s _ _ (by omega) st fun v s' hv st' mv => ?_)
    obtain ⟨p, hp, rfl⟩ := fd.tells i v hv
    refine wpAny_bind (wpAny_holding (wpAny_mono (fd.put (fd.far_moved f mv) hp) ?_ fun _ _ z => z))
    rintro b _ ⟨h', tk, rfl, le, sb, f'⟩
    refine wpAny_pure ⟨plainId_quiet F.plain_set_update_loop _, ih (i + 1) _ (by omega) (fd.walk.frame _ s' _ _ st' le fun b hb o e => (sb.2 b fun z => fd.apart (z ▸ hb)).trans e) f' fun s2 mv2 f2 => done s2 ?_ f2⟩
    exact Moved.trans fd.walk.gtrans ((mv.mono fun _ h => List.mem_cons_of_mem _ h).then_heap le fun b o hb e => (sb.2 b fun z => hb (by rw [z]; exact List.mem_cons_self)).trans e) mv2
end
end DL

/-! DLK6: the call of set on a list. -/
namespace DL
open PySem L2 PySem.Spec
open PyProof.Rows hiding St
set_option autoImplicit false
section
variable {P : Program} {w : World} {A : Around} {E : Value → Shared → Prop} {s : Shared} {X : SetTable → List NK → Prop} {G : NK → Prop}
abbrev newSetO (w : World) : Obj := { cls := .type "set", dict := none, data := .set #[] 0 (.fresh 0 0 (!w.params.followText "set-order")) }
theorem setN_new {h : Heap} {a : Addr} (ho : h.get? a = some (newSetO w)) (hx : X (.fresh 0 0 (!w.params.followText "set-order")) []) : SetN w X h a [] #[] 0 (.fresh 0 0 (!w.params.followText "set-order")) := by
  refine ⟨⟨_, ho, ⟨rfl, rfl, rfl⟩, rfl⟩, rfl, List.nodup_nil, fun p hp => (by cases hp), rfl, List.Pairwise.nil, ?_, by decide, hx⟩
  show _ ∨ (!w.params.followText "set-order") = true
  cases w.params.followText "set-order"
  · exact .inr rfl
  · exact .inl rfl
theorem xs_new {b : Bool} : XS (.fresh 0 0 b) [] := fun k hk => by cases hk
theorem xt_new {b : Bool} : XT w (.fresh 0 0 b) [] := ⟨fun k hk => (by cases hk), ⟨List.Pairwise.nil, rfl, rfl, .inl rfl, fun x hx => (by cases hx), fun i h j hi => (by simp at hi)⟩, by show 0 * 5 < 7 * 3; decide⟩
theorem none_of_new {h : Heap} {b : Addr} (hb : h.objs.size ≤ b) : h.get? b = none := by
  cases q : h.get? b with
  | none => rfl
  | some o => exact absurd (Heap.lt_size q) (Nat.not_lt.mpr hb)
/-- set.__init__ of a new set and a list -/
theorem set_filled (hG : Adds P w X G) (hX : ∀ b, X (.fresh 0 0 b) []) {l : Addr} {items : Array Value} {ks : List (NK × Value)} (hh : A.handled = none) (hl : s.heap.IsList l items) (hit : items.toList = ks.map (·.2))
    (hk : ∀ p ∈ ks, NestedIs s.heap p.1 p.2) (hg : ∀ p ∈ ks, G p.1 ∧ p.1.depth ≤ 8) (hfew : ks.length < 64) (hu : A.units + 13 < cLine) :
    codeAny (model P w) A (.call (.builtin "set.__init__") ⟨[.ref s.heap.objs.size, .ref l], []⟩)
      (wants (fun r s2 => r = .none ∧ ∃ h' tk, s2 = { s with heap := h', toks := tk } ∧ Far w X ks s.heap s.heap.objs.size ks.length h') E) { s with heap := s.heap.push (newSetO w) } := by
  obtain ⟨⟨_, dl, _, sl⟩, hol, rfl, nl, rfl⟩ := id hl
  let S := s.heap.objs.size
  let h1 := s.heap.push (newSetO w)
  have len : items.size = ks.length := by rw [← Array.length_toList, hit, List.length_map]
  have at_ : h1.get? S = some (newSetO w) := Heap.get?_push_size _ rfl
  have size : h1.objs.size = S + 1 := Heap.size_push ..
  have lS : l < S := Heap.lt_size hol
  have tells : ∀ (i : Nat) (v : Value), items[i]? = some v → ∃ p, ks[i]? = some p ∧ v = p.2 := by
    intro i v hv
    rw [← Array.getElem?_toList, hit, List.getElem?_map, Option.map_eq_some_iff] at hv
    obtain ⟨p, hp, rfl⟩ := hv
    exact ⟨p, hp, rfl⟩
  have T : Shared.TypeIs { s with heap := h1 } (.ref S) "set" := ⟨_, at_, rfl⟩
  have l1 : h1.IsList l items := hl.push _
  refine codeAny_call_builtin F.called_set.init.plain F.entry_set_init (check_set_init_1 T ?_)
  have f1 := F.sub_list_set
  have f2 := F.sub_list_frozenset
  have f3 : (Value.type "list" == Value.type "dict") = false := by decide
  have f4 : h1.get? l = some { cls := .type "list", dict := dl, data := .seq items nl, slots := sl } := Heap.get?_push_of_some _ hol
  unfold Builtin.«set.__init__» noKeywords Builtin.Frozenset.updateFrom
  generalize hp : pyIter = PI
  wp_walk
  subst hp
  refine wpAny_pyIter_list l1 (wpAny_bind (wpAny_runValue ?_))
  have feed : Feed P w X G A.in1 S h1.objs.size [h1.objs.size, l] [h1.objs.size] _ _ _ ks s.heap :=
    ⟨hG, len ▸ (Walks.list (by simp [hh]) _ l (by rw [size]; exact Nat.ne_of_lt (Nat.lt_succ_of_lt lS)) items).toS, by rw [size]; simp only [List.mem_cons, List.not_mem_nil, or_false, not_or]; exact ⟨Nat.ne_of_lt (Nat.lt_succ_self _), Nat.ne_of_gt lS⟩, hfew, tells, hk, hg, none_of_new (Nat.le_refl _), fun b hb => none_of_new (by rw [List.mem_singleton.mp hb, size]; exact Nat.le_succ _), by show A.units + 1 + 1 + 9 < cLine; omega⟩
  have far0 : ∀ ob, Far w X ks s.heap S 0 (h1.push ob) := fun ob => ⟨fun b o e => Heap.get?_push_of_some _ (Heap.get?_push_of_some _ e), [], #[], 0, _, setN_new (Heap.get?_push_of_some _ at_) (hX _), nofun, by simp, Nat.le_refl _⟩
  refine feed.all ks.length 0 { s with heap := h1.push { cls := .type "list_iterator", data := .fields #[.ref l, .int 0 0] } } (Nat.zero_add _) ⟨⟨_, Heap.get?_push_size _ rfl, rfl, rfl⟩, l1.push _⟩ (far0 _) ?_
  rintro ⟨h', g', d', tk, os'⟩ ⟨_, e1, e2, e3, _⟩ far
  cases (show g' = s.gens from e1)
  cases (show d' = s.drawn from e2)
  cases (show os' = s.os from e3)
  exact wpAny_pure (wpAny_pure ⟨rfl, h', tk, rfl, far⟩)
set_option maxHeartbeats 3200000 in
theorem call_set_of (hG : Adds P w X G) (hX : ∀ b, X (.fresh 0 0 b) []) {l : Addr} {items : Array Value} (ks : List (NK × Value)) {Q : Value → Shared → Prop} (hh : A.handled = none) (hl : s.heap.IsList l items) (hit : items.toList = ks.map (·.2))
    (hk : ∀ p ∈ ks, NestedIs s.heap p.1 p.2) (hg : ∀ p ∈ ks, G p.1 ∧ p.1.depth ≤ 8) (hfew : ks.length < 64) (hu : A.units + 14 < cLine)
    (h : ∀ (h' : Heap) (tk : Nat) L es ep t, SetN w X h' s.heap.objs.size L es ep t → Come ks ks.length L → (∀ b o, s.heap.get? b = some o → h'.get? b = some o) → Q (.ref s.heap.objs.size) { s with heap := h', toks := tk }) :
    wpAny (model P w) A (call (.type "set") [.ref l]) Q E s := by
  obtain ⟨c, tl, f1⟩ := F.called_set.mro
  have f2 := F.called_set.made
  have f3 := F.called_set.sub
  have f4 := F.called_set.notType
  have f5 := F.called_set.canCreate
  have f6 := F.typeCall_set_1 (.ref l)
  have f7 := F.called_set.init.lookup
  have f8 := F.called_set.init.bind (.ref s.heap.objs.size)
  have T : Shared.TypeIs { s with heap := s.heap.push (newSetO w) } (.ref s.heap.objs.size) "set" := ⟨_, Heap.get?_push_size _ rfl, rfl⟩
  -- type.__call__: a new one, then its __init__
  refine wpAny_call (codeAny_of_tree (wpAny_pure ⟨Code.quiet_builtin _ (by decide +kernel), codeAny_builtin F.entry_type_call ?_⟩))
  rw [Around.under_plain (weight_type_call_type "set" [.ref l] []) rfl]
  repeat (any_goals (first | assumption | wp_step))
  refine codeAny_mono (code_set_led1 (.ref l) (E := E) (Q₁ := fun v s1 => v = .ref s.heap.objs.size ∧ s1 = { s with heap := s.heap.push (newSetO w) }) ⟨rfl, rfl⟩) ?_
  rintro (e | _ | _ | _ | v) s1 z
  · exact z
  · exact z.elim
  · exact z.elim
  · exact z.elim
  obtain ⟨rfl, rfl⟩ := z
  repeat (any_goals (first | assumption | wp_step))
  refine codeAny_mono (set_filled (E := E) hG hX (by simp [hh]) hl hit hk hg hfew (by show A.units + 1 + 13 < cLine; omega)) ?_
  rintro (e | _ | _ | _ | v) s2 z
  · exact z
  · exact z.elim
  · exact z.elim
  · exact z.elim
  obtain ⟨rfl, h', tk, rfl, up, L, es, ep, t, R, g⟩ := z
  repeat (any_goals (first | assumption | wp_step))
  exact h _ _ _ _ _ _ R g up
end
end DL

/-! DLK7: data as keys; set(xs), sorted(set(xs)) by values. -/
namespace DL
open PySem L2 PySem.Spec
open PyProof.Rows hiding St
open PySem.PyData (strOk)
set_option autoImplicit false
mutual
theorem D.key_dep : ∀ d : D, d.key.depth ≤ d.dep
  | .non | .bl _ | .int _ | .str _ | .lst _ | .dk _ _ | .dn _ _ _ | .ob _ _ _ | .scr _ | .mob _ | .txt _ => by simp [D.key, NestedKey.depth]
  | .tup l => by have := D.keys_dep l; simp only [D.key, NestedKey.depth, D.dep]; omega
theorem D.keys_dep : ∀ l : List D, NestedKey.depthAll (D.keys l) ≤ D.deps l
  | [] => by simp [D.keys, NestedKey.depthAll]
  | d :: l => by have := D.key_dep d; have := D.keys_dep l; simp only [D.keys, NestedKey.depthAll, D.deps]; omega
end
section
variable {X : Cx} {pins : List (Addr × Obj)} {σ : L2.St} {H : Hp} {s : Shared}
mutual
/-- data as keys, as what is read -/
theorem Rep.nis (I : Inv X pins σ H s) : ∀ (d : D) (v : V) (u : Value), d.hk = true → Rep X.K H d v → RelV v u → NestedIs s.heap d.key u ∧ Reads s.heap u d.toP []
  | .non, _, _, _, h, r => by cases h; cases r; exact ⟨by simp only [D.key]; exact .none, by simp only [D.toP]; exact .none⟩
  | .bl b, _, _, _, h, r => by cases h; cases r; exact ⟨by simp only [D.key]; exact .bool rfl, by simp only [D.toP]; exact .bool b⟩
  | .int i, _, _, _, h, r => by cases h; obtain ⟨t, rfl⟩ := r; exact ⟨by simp only [D.key]; exact .int i t, by simp only [D.toP]; exact .int i t⟩
  | .str x, _, _, _, h, r => by cases h; obtain ⟨t, rfl⟩ := r; exact ⟨by simp only [D.key]; exact .text x t, by simp only [D.toP]; exact .str x t⟩
  | .tup l, _, _, hk, h, r => by
    cases h with
    | tup hs hl hr =>
      cases r
      obtain ⟨its, rv, ⟨o, ho, hc, n, hd⟩, _⟩ := I.tuple hs
      obtain ⟨a1, a2⟩ := Reps.nis I l _ _ (by simpa only [D.hk] using hk) hr rv
      refine ⟨by simp only [D.key]; exact .tup ho hc hd (by simpa using a1), by simp only [D.toP]; exact .tuple ho hc hd (by simpa using a2)⟩
  | .lst _, _, _, hk, _, _ => by simp [D.hk] at hk
  | .dk _ _, _, _, hk, _, _ => by simp [D.hk] at hk
  | .dn _ _ _, _, _, hk, _, _ => by simp [D.hk] at hk
  | .ob _ _ _, _, _, hk, _, _ => by simp [D.hk] at hk
  | .scr _, _, _, hk, _, _ => by simp [D.hk] at hk
  | .mob _, _, _, hk, _, _ => by simp [D.hk] at hk
  | .txt _, _, _, hk, _, _ => by simp [D.hk] at hk
theorem Reps.nis (I : Inv X pins σ H s) : ∀ (ds : List D) (vs : List V) (us : List Value), D.hks ds = true → Reps X.K H ds vs → Vals vs us → NestedAll s.heap (D.keys ds) us ∧ ReadsAll s.heap us (D.toPs ds) []
  | [], _, _, _, h, r => by cases h; cases r; exact ⟨by simp only [D.keys]; exact .nil, by simp only [D.toPs]; exact .nil⟩
  | d :: ds, _, _, hk, h, r => by
    simp only [D.hks, Bool.and_eq_true] at hk
    cases h with
    | cons h1 h2 =>
      cases r with
      | cons r1 r2 =>
        obtain ⟨a1, a2⟩ := Rep.nis I d _ _ hk.1 h1 r1
        obtain ⟨b1, b2⟩ := Reps.nis I ds _ _ hk.2 h2 r2
        exact ⟨by simp only [D.keys]; exact .cons a1 b1, by simp only [D.toPs]; exact .cons (as := []) (bs := []) a2 b2⟩
end
/-- texts alone, or tuples alone -/
def SetOk (ds : List D) : Prop := ((∀ d ∈ ds, ∃ x, d = .str x) ∨ (∀ d ∈ ds, (∃ l, d = .tup l) ∧ d.hk = true ∧ d.dep ≤ 8)) ∧ ds.length < 64
/-- a set whose members are these values -/
def SetZ (w : World) (h : Heap) (a : Addr) (vs : List V) : Prop := ∃ (us : List Value) (es : Array (Int × Value)) (ep : Nat) (t : SetTable), Vals vs us ∧ (∃ o, h.get? a = some o ∧ o.ExactSet ∧ o.data = .set es ep t) ∧ es.toList.map (·.2) = us ∧ t.fits es.size = true ∧ Ris t.place.toList ∧
  (w.params.followText "set-order" = true ∨ t.led = true) ∧ vs.length < 64
def SetZO (w : World) (a : Addr) (vs : List V) : HO := .ext fun h => SetZ w h a vs
theorem setZ_new {P : Program} {w : World} {h : Heap} {a : Addr} {vs : List V} (R : SetZ w h a vs) : ObjOk P w H h a (SetZO w a vs) := by
  obtain ⟨us, es, ep, t, h1, ⟨o, ho, r⟩, h3⟩ := id R
  refine ⟨R, ⟨o, ho⟩, fun g g' p k => ?_⟩
  obtain ⟨us', es', ep', t', q1, ⟨o', ho', r'⟩, q3⟩ := (show SetZ w g a vs from p)
  exact ⟨us', es', ep', t', q1, ⟨o', k o' ho', r'⟩, q3⟩
/-- what a set made of the data ds (the values vs) may hold -/
structure SetOf (ds : List D) (vs : List V) (L : List (D × V)) : Prop where
  sub : ∀ p ∈ L, p ∈ ds.zip vs
  all : ∀ d ∈ ds, d.key ∈ L.map fun p => p.1.key
  nd : (L.map fun p => p.1.key).Nodup
def rSetD (K : PySem.W.Frag) (w : World) : List V → Hp → VK → Prop := fun zs H Q => ∃ (l : Addr) (ds : List D) (vs : List V), zs = [V.ref l] ∧ SqL K H l vs ∧ Reps K H ds vs ∧ SetOk ds ∧ ∀ a L, H a = none → SetOf ds vs L → Q (.ref a) (upd H a (SetZO w a (L.map (·.2))))
theorem cr_setD (hc : X.calm = true) (hu : X.A.units + 200 < cLine) : CallR X (.type "set") (rSetD X.K X.w) := by
  intro pins s σ H zs us Q I r h
  obtain ⟨l, ds, vs, rfl, hl, hr, ⟨hds, hn⟩, q⟩ := h
  rw [Vals.ref1 r]
  obtain ⟨its, rv, pl, hz⟩ := I.list hl
  have hlen := hr.length
  have hhk : D.hks ds = true := by
    rw [D.hks_all, List.all_eq_true]
    intro d hd
    rcases hds with h | h
    · obtain ⟨x, rfl⟩ := h d hd; rfl
    · exact (h d hd).2.1
  have hdep : ∀ d ∈ ds, d.key.depth ≤ 8 := fun d hd => by
    rcases hds with h | h
    · obtain ⟨x, rfl⟩ := h d hd; simp [D.key, NestedKey.depth]
    · exact Nat.le_trans (D.key_dep d) (h d hd).2.2
  obtain ⟨nis, _⟩ := Reps.nis I ds vs its hhk hr rv
  have hil : its.length = ds.length := by rw [← rv.length, hlen]
  -- the keys beside the values
  have pairs : ∀ (ds : List D) (us : List Value), NestedAll s.heap (D.keys ds) us → ∀ p ∈ (ds.map D.key).zip us, NestedIs s.heap p.1 p.2 := by
    intro ds
    induction ds with
    | nil => intro us _ p hp; simp at hp
    | cons d ds ih =>
      intro us h p hp
      simp only [D.keys] at h
      cases h with
      | cons h1 h2 =>
        rw [List.map_cons, List.zip_cons_cons] at hp
        rcases List.mem_cons.mp hp with rfl | hp
        · exact h1
        · exact ih _ h2 p hp
  have hsnd : ((ds.map D.key).zip its).map (·.2) = its := List.map_snd_zip (by rw [List.length_map]; omega)
  have hzl : ((ds.map D.key).zip its).length = ds.length := by rw [List.length_zip, List.length_map]; omega
  have hfst : ∀ p ∈ (ds.map D.key).zip its, ∃ d ∈ ds, p.1 = d.key := fun p hp => by
    obtain ⟨d, hd, e⟩ := List.mem_map.mp (List.of_mem_zip hp).1
    exact ⟨d, hd, e.symm⟩
  have fin : ∀ (X' : SetTable → List NK → Prop) (h' : Heap) (tk : Nat) (L : List (NK × Value)) es ep t, SetN X.w X' h' s.heap.objs.size L es ep t → Come ((ds.map D.key).zip its) ((ds.map D.key).zip its).length L → (∀ b o, s.heap.get? b = some o → h'.get? b = some o) →
      L2.EP X pins σ Q (.ref s.heap.objs.size) { s with heap := h', toks := tk } := by
    intro X' h' tk L es ep t R g k
    have hfr : H s.heap.objs.size = none := I.hok.fresh (Nat.le_refl _)
    -- each member's datum and value
    have each : ∀ p ∈ L, ∃ q ∈ ds.zip vs, q.1.key = p.1 ∧ RelV q.2 p.2 := fun p hp => by
      have hm := List.mem_of_mem_take (g.sub p hp)
      obtain ⟨i, hi, e⟩ := List.getElem_of_mem hm
      have hi' : i < ds.length := by rw [hzl] at hi; exact hi
      rw [List.getElem_zip] at e
      refine ⟨(ds[i], vs[i]'(by omega)), ?_, ?_, ?_⟩
      · rw [← List.getElem_zip (h := by rw [List.length_zip]; omega)]
        exact List.getElem_mem _
      · rw [← e]; simp
      · rw [← e]
        obtain ⟨u, hu, ru⟩ := rv.get (show vs[i]? = some (vs[i]'(by omega)) from List.getElem?_eq_getElem _)
        rw [List.getElem?_eq_getElem (by omega)] at hu
        cases hu
        exact ru
    have list : ∀ L : List (NK × Value), (∀ p ∈ L, ∃ q ∈ ds.zip vs, q.1.key = p.1 ∧ RelV q.2 p.2) → ∃ M : List (D × V), (∀ q ∈ M, q ∈ ds.zip vs) ∧ M.map (fun q => q.1.key) = L.map (·.1) ∧ Vals (M.map (·.2)) (L.map (·.2)) := by
      intro L
      induction L with
      | nil => intro _; exact ⟨[], fun q hq => (by cases hq), rfl, .nil⟩
      | cons p L ih =>
        intro h
        obtain ⟨q, hq, e1, e2⟩ := h p List.mem_cons_self
        obtain ⟨M, m1, m2, m3⟩ := ih fun x hx => h x (List.mem_cons_of_mem _ hx)
        refine ⟨q :: M, fun x hx => ?_, by rw [List.map_cons, List.map_cons, e1, m2], .cons e2 m3⟩
        rcases List.mem_cons.mp hx with rfl | hx
        · exact hq
        · exact m1 x hx
    obtain ⟨M, m1, m2, m3⟩ := list L each
    have hML : M.length = L.length := by have := congrArg List.length m2; simpa using this
    refine ⟨.ref s.heap.objs.size, upd H s.heap.objs.size (SetZO X.w s.heap.objs.size (M.map (·.2))), I.laid (t' := tk) k (Nat.le_refl _) (setZ_new ⟨L.map (·.2), es, ep, t, m3, R.ob, ?_, R.fits, R.ris, R.led, by rw [List.length_map, hML]; exact R.few⟩), rfl, q _ M hfr ⟨m1, fun d hd => ?_, by rw [m2]; exact R.nd⟩⟩
    · rw [R.rows, rowsK, List.map_map]; rfl
    · rw [m2]
      obtain ⟨i, hi, e⟩ := List.getElem_of_mem hd
      have hz : ((ds.map D.key).zip its)[i]? = some (d.key, its[i]'(by omega)) := by
        rw [List.getElem?_eq_getElem (by rw [hzl]; exact hi), List.getElem_zip]
        simp [e]
      have := g.all (d.key, its[i]'(by omega)) (by rw [List.take_length]; exact List.mem_of_getElem? hz)
      exact this
  rcases hds with hd | hd
  · refine call_set_of (P := X.prog) (w := X.w) (X := XS) (G := fun k => ∃ x, k = .text x) adds_text (fun b => xs_new) ((ds.map D.key).zip its) (I.ok.hd hc) pl.isList (by rw [hsnd]) (pairs ds its nis) (fun p hp => ?_) (by rw [hzl]; exact hn) (by omega) (fin XS)
    obtain ⟨d, hdm, e⟩ := hfst p hp
    rw [e]
    obtain ⟨x, rfl⟩ := hd d hdm
    exact ⟨⟨x, by simp [D.key]⟩, hdep _ hdm⟩
  · refine call_set_of (P := X.prog) (w := X.w) (X := XT X.w) (G := fun k => (∃ l, k = .tup l) ∧ k.depth ≤ 8) adds_tup (fun b => xt_new) ((ds.map D.key).zip its) (I.ok.hd hc) pl.isList (by rw [hsnd]) (pairs ds its nis) (fun p hp => ?_) (by rw [hzl]; exact hn) (by omega) (fin (XT X.w))
    obtain ⟨d, hdm, e⟩ := hfst p hp
    rw [e]
    obtain ⟨⟨l, rfl⟩, _⟩ := hd d hdm
    exact ⟨⟨⟨D.keys l, by simp [D.key]⟩, hdep _ hdm⟩, hdep _ hdm⟩
end
end DL

/-! DLK8: sorted(set(xs)), sorted(xs), x < y of plain data. -/
namespace DL
open PySem L2 PySem.Spec
open PyProof.Rows hiding St
open PySem.PyData (strOk)
set_option autoImplicit false
/-- x stands before y -/
def D.lt (x y : D) : Bool := PySem.W.dataLt x.toP y.toP
def D.alk (x y : D) : Bool := PySem.W.alike x.toP y.toP
/-- may stand in one sorted row -/
def RowOk (l : List D) : Prop := (∀ x ∈ l, ∀ y ∈ l, D.alk x y = true) ∧ ((∀ x ∈ l, ∃ d r, x = .tup (d :: r)) ∨ (∀ x ∈ l, ∃ z, x = .str z) ∨ (∀ x ∈ l, ∃ z, x = .int z))
/-- rises, equal ones side by side -/
def Up (l : List D) : Prop := l.Pairwise fun x y => D.lt y x = false
theorem RowOk.alike {l : List D} (h : RowOk l) : PySem.W.AllAlike (l.map D.toP) := fun d hd e he => by
  obtain ⟨x, hx, rfl⟩ := List.mem_map.mp hd
  obtain ⟨y, hy, rfl⟩ := List.mem_map.mp he
  exact h.1 x hx y hy
theorem RowOk.sortable {l : List D} (h : RowOk l) : PySem.W.Sortable (l.map D.toP) := by
  rcases h.2 with h | h | h
  · left
    intro d hd
    obtain ⟨x, hx, rfl⟩ := List.mem_map.mp hd
    obtain ⟨y, r, rfl⟩ := h x hx
    exact ⟨y.toP, D.toPs r, by simp [D.toP, D.toPs]⟩
  · right
    intro d hd
    obtain ⟨x, hx, rfl⟩ := List.mem_map.mp hd
    obtain ⟨z, rfl⟩ := h x hx
    exact ⟨by simp [D.toP], fun xs => by simp [D.toP]⟩
  · right
    intro d hd
    obtain ⟨x, hx, rfl⟩ := List.mem_map.mp hd
    obtain ⟨z, rfl⟩ := h x hx
    exact ⟨by simp [D.toP], fun xs => by simp [D.toP]⟩
theorem each_self {α β : Type} {R : α → β → Prop} {f : β → α} : ∀ l : List β, (∀ b ∈ l, R (f b) b) → PySem.W.EachIs R (l.map f) l
  | [], _ => .nil
  | b :: l, h => .cons (h b List.mem_cons_self) (each_self l fun x hx => h x (List.mem_cons_of_mem _ hx))
theorem each_eq {α β : Type} {f : β → α} : ∀ {out : List α} {l : List β}, PySem.W.EachIs (fun u b => u = f b) out l → out = l.map f
  | _, _, .nil => rfl
  | _, _, .cons h t => by rw [List.map_cons, h, each_eq t]
theorem up_sort {β : Type} (k : β → D) (l : List β) : (l.mergeSort (PySem.W.dataLe false fun b => (k b).toP)).Pairwise fun x y => D.lt (k y) (k x) = false := by
  have h := PySem.W.sort_pairwise (PySem.W.sortLe_total (PyProof.Rows.listOrd PyProof.Rows.itemOrd) false fun b => PySem.W.keyToks (k b).toP) l
  refine List.Pairwise.imp (fun {x y} q => ?_) h
  have q : (!D.lt (k y) (k x)) = true := q
  simpa using q
section
variable {X : Cx}
def rSortZ (K : PySem.W.Frag) (w : World) : List V → Hp → VK → Prop := fun zs H Q => ∃ (a : Addr) (L : List (D × V)), zs = [V.ref a] ∧ H a = some (SetZO w a (L.map (·.2))) ∧ (∀ p ∈ L, Rep K H p.1 p.2 ∧ p.1.hk = true ∧ p.1.dep ≤ 8) ∧ RowOk (L.map (·.1)) ∧
  ∀ (p : Addr) (L' : List (D × V)), L'.Perm L → Up (L'.map (·.1)) → H p = none → Q (.ref p) (upd H p (.lst (L'.map (·.2))))
theorem cr_sortedZ (hc : X.calm = true) (hu : X.A.units + 200 < cLine) : CallR X (.builtin "sorted") (rSortZ X.K X.w) := by
  intro pins s σ H zs us Q I r h
  obtain ⟨a, L, rfl, ha, hL, hrow, q⟩ := h
  rw [Vals.ref1 r]
  obtain ⟨ms, es, ep, t, rv, ⟨o, ho, hx, hd⟩, hms, hf, hris, hled, hfew⟩ := (show SetZ X.w s.heap a (L.map (·.2)) from (I.hok a _ ha).1)
  rw [List.length_map] at hfew
  have hml : ms.length = L.length := by rw [← rv.length, List.length_map]
  have hes : es.size = L.length := by have := congrArg List.length hms; rw [List.length_map, Array.length_toList] at this; omega
  refine Calls.call_function_entry kind_sorted plain_sorted entry_sorted (args_sorted1 _) ?_
  unfold Builtin.«sorted»
  refine wpAny_bind (m := checkCount "sorted" 1 1 _) (wpAny_pure ?_)
  refine wpAny_bind (collect_set (A := X.A.in1) (I.ok.hd hc) ⟨o, ho, hx.1, hd⟩ hf (by unfold scanBound; omega) hris hled fun s1 vs k1 hz g1 o1 pm => ?_)
  rw [hms] at pm
  have hsnd : (L.zip ms).map (·.2) = ms := List.map_snd_zip (by omega)
  rw [← hsnd] at pm
  obtain ⟨bs, pb, rfl⟩ := perm_of_map pm
  have hbl : bs.length = L.length := by rw [pb.length_eq, List.length_zip]; omega
  have hrd : ∀ b ∈ L.zip ms, Reads s.heap b.2 b.1.1.toP [] ∧ RelV b.1.2 b.2 := fun b hb => by
    obtain ⟨i, hi, e⟩ := List.getElem_of_mem hb
    rw [List.length_zip] at hi
    rw [List.getElem_zip] at e
    have hp := hL L[i] (List.getElem_mem _)
    obtain ⟨u, hu', ru⟩ := rv.get (show (L.map (·.2))[i]? = some (L[i]).2 by rw [List.getElem?_map, List.getElem?_eq_getElem (by omega)]; rfl)
    rw [List.getElem?_eq_getElem (by omega)] at hu'
    cases hu'
    rw [← e]
    exact ⟨(Rep.nis I _ _ _ hp.2.1 hp.1 ru).2, ru⟩
  refine wpAny_bind (wpAny_newList ?_ (by rw [List.length_map, sizeLine_eq]; omega))
  have hoL : (s1.heap.push (seqObj "list" (bs.map (·.2)).toArray 0)).get? s1.heap.objs.size = some (seqObj "list" (bs.map (·.2)).toArray 0) := Heap.get?_push_size _ rfl
  have hmem : ∀ b ∈ bs, b ∈ L.zip ms := fun b hb => pb.mem_iff.mp hb
  have hfst : (bs.map fun b => b.1.1.toP) = (bs.map (fun b => b.1.1)).map D.toP := by rw [List.map_map]; rfl
  have hsub : ∀ x ∈ bs.map (fun b => b.1.1), x ∈ L.map (·.1) := fun x hx => by
    obtain ⟨b, hb, rfl⟩ := List.mem_map.mp hx
    exact List.mem_map_of_mem (List.of_mem_zip (hmem b hb)).1
  have hrow2 : RowOk (bs.map (fun b => b.1.1)) := ⟨fun x hx y hy => hrow.1 x (hsub x hx) y (hsub y hy), hrow.2.imp (fun h x hx => h x (hsub x hx)) (Or.imp (fun h x hx => h x (hsub x hx)) fun h x hx => h x (hsub x hx))⟩
  refine wpAny_bind (wpAny_holding (PySem.W.list_sort_data (s := { s1 with heap := s1.heap.push (seqObj "list" (bs.map (·.2)).toArray 0) }) (vs := bs.map (·.2)) (bs := bs) (enc := fun b => b.1.1.toP) (R := fun u b => u = b.2) hoL
    (each_self bs fun _ _ => rfl) (each_self bs fun b hb => ⟨[], PyProof.Rows.Reads.keeps (fun c u e => Heap.get?_push_of_some _ (k1 c u e)) (hrd b (hmem b hb)).1, List.not_mem_nil⟩) (by rw [hfst]; exact hrow2.alike) (by rw [hfst]; exact hrow2.sortable) (by rw [sizeLine_eq]; omega)
    (fun b hb => ?_) fun out hout he => ?_))
  · have h1 := (hL b.1 (List.of_mem_zip (hmem b hb)).1).2.2
    have h2 := D.dep_toP b.1.1
    show X.A.units + 1 + 1 + b.1.1.toP.depth < cLine
    omega
  · rw [each_eq he] at hout ⊢
    have psort : (bs.mergeSort (PySem.W.dataLe false fun b => b.1.1.toP)).Perm bs := List.mergeSort_perm _ _
    have hup := up_sort (fun b : (D × V) × Value => b.1.1) bs
    generalize bs.mergeSort (PySem.W.dataLe false fun b => b.1.1.toP) = cs at psort hup hout ⊢
    obtain ⟨c, hc'⟩ := sortedHeap_at (vs := bs.map (·.2)) (out := (cs.map (·.2)).toArray) hoL
    have hpz : H s1.heap.objs.size = none := I.hok.fresh hz
    have k2 : ∀ b u, s.heap.get? b = some u → (sortedHeap (s1.heap.push (seqObj "list" (bs.map (·.2)).toArray 0)) s1.heap.objs.size (bs.map (·.2)) (cs.map (·.2)).toArray).get? b = some u := fun b u e => by
      have e1 := k1 b u e
      have hlt := Heap.lt_size e1
      rw [sortedHeap_old (Nat.ne_of_lt hlt) (by rw [size_push']; exact Nat.lt_succ_of_lt hlt)]
      exact Heap.get?_push_of_some _ e1
    have hv : Vals ((cs.map (·.1)).map (·.2)) (cs.map (·.2)) := by
      have : ∀ l : List ((D × V) × Value), (∀ b ∈ l, RelV b.1.2 b.2) → Vals ((l.map (·.1)).map (·.2)) (l.map (·.2)) := by
        intro l
        induction l with
        | nil => intro _; exact .nil
        | cons b l ih => intro h; exact .cons (h b List.mem_cons_self) (ih fun x hx => h x (List.mem_cons_of_mem _ hx))
      exact this cs fun b hb => (hrd b (hmem b (psort.mem_iff.mp hb))).2
    have hlen : ((cs.map (·.1)).map (·.2)).length ≤ sizeLine := by rw [List.length_map, List.length_map, psort.length_eq, sizeLine_eq]; omega
    have J : Inv X pins σ (upd H s1.heap.objs.size (.lst ((cs.map (·.1)).map (·.2)))) { s with heap := sortedHeap (s1.heap.push (seqObj "list" (bs.map (·.2)).toArray 0)) s1.heap.objs.size (bs.map (·.2)) (cs.map (·.2)).toArray, gens := s1.gens, drawn := s1.drawn, toks := s1.toks } :=
      I.call (ch := []) (Un.laid k2 hz hpz) (I.hok.laid k2 hz ⟨hlen, cs.map (·.2), c, hv, hc'⟩) (by rw [g1]; exact I.bare) (fun _ z => nomatch z)
    have eos : ({ s1 with heap := sortedHeap (s1.heap.push (seqObj "list" (bs.map (·.2)).toArray 0)) s1.heap.objs.size (bs.map (·.2)) (cs.map (·.2)).toArray } : Shared) = { s with heap := sortedHeap (s1.heap.push (seqObj "list" (bs.map (·.2)).toArray 0)) s1.heap.objs.size (bs.map (·.2)) (cs.map (·.2)).toArray, gens := s1.gens, drawn := s1.drawn, toks := s1.toks } := by
      cases s1; cases s; cases o1; rfl
    have pz : (cs.map (·.1)).Perm L := by
      have := (psort.trans pb).map (·.1)
      rwa [List.map_fst_zip (by omega)] at this
    have up2 : Up ((cs.map (·.1)).map (·.1)) := by
      unfold Up
      rw [List.map_map, List.pairwise_map]
      exact hup
    refine wpAny_pure ⟨_, rfl, ?_⟩
    show L2.EP X pins σ Q (.ref s1.heap.objs.size) _
    rw [eos]
    exact ⟨.ref s1.heap.objs.size, _, J, rfl, q s1.heap.objs.size (cs.map (·.1)) pz up2 hpz⟩
end
end DL

/-! DLK9: the readings: sorted(xs), sorted(set(xs)), x < y of any plain data. -/
namespace DL
open PySem L2 PySem.Spec
open PyProof.Rows hiding St
open PySem.PyData (strOk)
set_option autoImplicit false
theorem nodup_len {α : Type} : ∀ {l m : List α}, l.Nodup → (∀ x ∈ l, x ∈ m) → l.length ≤ m.length
  | [], _, _, _ => Nat.zero_le _
  | x :: l, m, hn, hs => by
    obtain ⟨u, v, rfl⟩ := List.append_of_mem (hs x List.mem_cons_self)
    obtain ⟨h1, h2⟩ := List.nodup_cons.mp hn
    have := nodup_len (m := u ++ v) h2 fun y hy => by
      have := hs y (List.mem_cons_of_mem _ hy)
      rw [List.mem_append, List.mem_cons] at this
      rw [List.mem_append]
      rcases this with z | rfl | z
      · exact .inl z
      · exact absurd hy h1
      · exact .inr z
    rw [List.length_append] at this
    rw [List.length_cons, List.length_append, List.length_cons]
    omega
section
variable {X : Cx} {e a b : Expr} {es : List Expr} {pos p p2 q2 : Pos} {fa fb : RD} {f : RA} {K : PySem.W.Frag}
def rSortD (K : PySem.W.Frag) : List V → Hp → VK → Prop := fun zs H Q => ∃ (l : Addr) (L : List (D × V)), zs = [V.ref l] ∧ SqL K H l (L.map (·.2)) ∧ (∀ p ∈ L, Rep K H p.1 p.2 ∧ p.1.hk = true ∧ p.1.dep ≤ 50) ∧ RowOk (L.map (·.1)) ∧ L.length ≤ 4000 ∧
  ∀ (p : Addr) (L' : List (D × V)), L'.Perm L → Up (L'.map (·.1)) → H p = none → Q (.ref p) (upd H p (.lst (L'.map (·.2))))
theorem cr_sortedD (hu : X.A.units + 200 < cLine) : CallR X (.builtin "sorted") (rSortD X.K) := by
  intro pins s σ H zs us Q I r h
  obtain ⟨l, L, rfl, hl, hL, hrow, hn, q⟩ := h
  rw [Vals.ref1 r]
  obtain ⟨its, rv, pl, hz⟩ := I.list hl
  have hil : its.length = L.length := by rw [← rv.length, List.length_map]
  have hrd : ∀ b ∈ L.zip its, Reads s.heap b.2 b.1.1.toP [] ∧ RelV b.1.2 b.2 := fun b hb => by
    obtain ⟨i, hi, e⟩ := List.getElem_of_mem hb
    rw [List.length_zip] at hi
    rw [List.getElem_zip] at e
    have hp := hL L[i] (List.getElem_mem _)
    obtain ⟨u, hu', ru⟩ := rv.get (show (L.map (·.2))[i]? = some (L[i]).2 by rw [List.getElem?_map, List.getElem?_eq_getElem (by omega)]; rfl)
    rw [List.getElem?_eq_getElem (by omega)] at hu'
    cases hu'
    rw [← e]
    exact ⟨(Rep.nis I _ _ _ hp.2.1 hp.1 ru).2, ru⟩
  have hsnd : (L.zip its).map (·.2) = its := List.map_snd_zip (by omega)
  have hfst1 : (L.zip its).map (·.1) = L := List.map_fst_zip (by omega)
  have hfst : ((L.zip its).map fun b => b.1.1.toP) = (L.map (·.1)).map D.toP := by
    rw [show (fun b : (D × V) × Value => b.1.1.toP) = D.toP ∘ Prod.fst ∘ Prod.fst from rfl, ← List.map_map, ← List.map_map, hfst1]
  have hzl : (L.zip its).length = L.length := by rw [List.length_zip]; omega
  refine PySem.W.sorted_data (vs := its) (bs := L.zip its) (enc := fun b => b.1.1.toP) (R := fun u b => u = b.2) pl.isList (by have := each_self (R := fun u b => u = b.2) (f := fun b : (D × V) × Value => b.2) (L.zip its) (fun _ _ => rfl); rwa [hsnd] at this)
    (by have := each_self (R := fun v b => ∃ as, Reads s.heap v b.1.1.toP as) (f := fun b : (D × V) × Value => b.2) (L.zip its) (fun b hb => ⟨[], (hrd b hb).1⟩); rwa [hsnd] at this) (by rw [hfst]; exact hrow.alike) (by rw [hfst]; exact hrow.sortable) (by rw [hzl, sizeLine_eq]; omega)
    (fun b hb => ?_) fun out hout he => ?_
  · have h1 := (hL b.1 (List.of_mem_zip hb).1).2.2
    have h2 := D.dep_toP b.1.1
    omega
  · rw [each_eq he] at hout ⊢
    have psort : ((L.zip its).mergeSort (PySem.W.dataLe false fun b => b.1.1.toP)).Perm (L.zip its) := List.mergeSort_perm _ _
    have hup := up_sort (fun b : (D × V) × Value => b.1.1) (L.zip its)
    generalize (L.zip its).mergeSort (PySem.W.dataLe false fun b => b.1.1.toP) = cs at psort hup hout ⊢
    obtain ⟨ep, he'⟩ := PyProof.Rows.sortedAll_at s.heap its (cs.map (·.2)).toArray
    have hv : Vals ((cs.map (·.1)).map (·.2)) (cs.map (·.2)) := by
      have : ∀ l : List ((D × V) × Value), (∀ b ∈ l, RelV b.1.2 b.2) → Vals ((l.map (·.1)).map (·.2)) (l.map (·.2)) := by
        intro l
        induction l with
        | nil => intro _; exact .nil
        | cons b l ih => intro h; exact .cons (h b List.mem_cons_self) (ih fun x hx => h x (List.mem_cons_of_mem _ hx))
      exact this cs fun b hb => (hrd b (psort.mem_iff.mp hb)).2
    have hlen : ((cs.map (·.1)).map (·.2)).length ≤ sizeLine := by rw [List.length_map, List.length_map, psort.length_eq, sizeLine_eq]; omega
    have pz : (cs.map (·.1)).Perm L := by
      have := psort.map (·.1)
      rwa [hfst1] at this
    have up2 : Up ((cs.map (·.1)).map (·.1)) := by
      unfold Up
      rw [List.map_map, List.pairwise_map]
      exact hup
    exact ⟨.ref _, upd H (s.heap.objs.size + 1) (.lst ((cs.map (·.1)).map (·.2))), I.laid (t' := s.toks) (fun _ _ => PyProof.Rows.sortedAll_old) (Nat.le_succ _) ⟨hlen, cs.map (·.2), ep, hv, he'⟩, rfl, q _ (cs.map (·.1)) pz up2 (I.hok.fresh (Nat.le_succ _))⟩
theorem Reps.pairs {B : Hp} : ∀ {ds : List D} {vs : List V}, Reps K B ds vs → ∀ p ∈ ds.zip vs, Rep K B p.1 p.2
  | _, _, .nil, p, hp => by simp at hp
  | _, _, .cons h t, p, hp => by
    rw [List.zip_cons_cons] at hp
    rcases List.mem_cons.mp hp with rfl | hp
    · exact h
    · exact Reps.pairs t p hp
theorem reps_of {B : Hp} : ∀ L : List (D × V), (∀ p ∈ L, Rep K B p.1 p.2) → Reps K B (L.map (·.1)) (L.map (·.2))
  | [], _ => .nil
  | p :: L, h => .cons (h p List.mem_cons_self) (reps_of L fun x hx => h x (List.mem_cons_of_mem _ hx))
/-- sorted(xs), xs of any data that stand in a row -/
def hSortD (ds : List D) (M : Mem) (P : OT → Mem → Prop) : Prop := ∃ l, ds = [.lst l] ∧ D.hks l = true ∧ D.deps l ≤ 50 ∧ RowOk l ∧ l.length ≤ 4000 ∧ ∀ zs, zs.Perm l → Up zs → P (.ow (zs.map .fz)) M
theorem eo_sortedD (hu : X.A.units + 200 < cLine) (hm : X.mg "sorted" = none) (ha : AD X [e] f) (hg : Gl X "sorted" := by rfl) (he : starEach [e] X.env = (false, eval e X.env) :: starEach [] X.env := by rfl) : EO X (.Call (.Name "sorted" p) [e] [] pos) (fun ρ M P => f ρ M fun ds M => hSortD ds M P) := eo_callB (cr_sortedD hu) (fun B H ds vs P Q bs r h k => by
  obtain ⟨l, rfl, hk, hd, hrow, hl, h⟩ := h
  obtain ⟨v, rfl, q⟩ := r.one
  cases q with
  | @lst _ xs _ h1 h2 h3 =>
    have hlen := h3.length
    have e1 : (l.zip xs).map (·.1) = l := List.map_fst_zip (by omega)
    have e2 : (l.zip xs).map (·.2) = xs := List.map_snd_zip (by omega)
    rw [D.hks_all, List.all_eq_true] at hk
    refine ⟨_, l.zip xs, rfl, by rw [e2]; exact Evl.sq_of (bs.bh _ _ h1), fun p hp => ⟨(h3.pairs p hp).up bs.bh, hk _ (List.of_mem_zip hp).1, ?_⟩, by rw [e1]; exact hrow, by rw [List.length_zip]; omega, fun pn L' hp hup hpn => ?_⟩
    · have := deps_mem (List.of_mem_zip hp).1
      omega
    · have hz : (L'.map (·.1)).Perm l := by have := hp.map (·.1); rwa [e1] at this
      exact new_list bs (reps_of L' fun x hx => h3.pairs x (hp.mem_iff.mp hx)) (by rw [hz.length_eq, sizeLine_eq]; omega) (h _ hz hup) k pn hpn) ha hm (by decide +kernel) hg (by decide) (by decide) he rfl
/-- sorted(set(xs)) -/
def hSortSet (d : D) (M : Mem) (P : OT → Mem → Prop) : Prop := ∃ l, d = .lst l ∧ SetOk l ∧ RowOk l ∧ ∀ zs : List D, (∀ z ∈ zs, z ∈ l) → (∀ x ∈ l, x.key ∈ zs.map D.key) → (zs.map D.key).Nodup → Up zs → P (.ow (zs.map .fz)) M
theorem SetOk.all {l : List D} (h : SetOk l) : ∀ d ∈ l, d.hk = true ∧ d.dep ≤ 8 := fun d hd => by
  rcases h.1 with h | h
  · obtain ⟨x, rfl⟩ := h d hd; exact ⟨rfl, Nat.zero_le _⟩
  · exact (h d hd).2
theorem eo_sortedSet (hc : X.calm = true) (hu : X.A.units + 200 < cLine) (hm : X.mg "sorted" = none) (hm2 : X.mg "set" = none) (ha : ED X e fa) (hg : Gl X "sorted" := by rfl) (hg2 : Gl X "set" := by rfl) (he : starEach [e] X.env = (false, eval e X.env) :: starEach [] X.env := by rfl)
    (he2 : starEach [.Call (.Name "set" p2) [e] [] q2] X.env = (false, eval (.Call (.Name "set" p2) [e] [] q2) X.env) :: starEach [] X.env := by rfl) :
    EO X (.Call (.Name "sorted" p) [.Call (.Name "set" p2) [e] [] q2] [] pos) (fun ρ M P => fa ρ M fun d M => hSortSet d M P) := by
  obtain ⟨te, pe, se⟩ := ha.ex
  refine ⟨_, pe_callB (cr_sortedZ hc hu) hg hm (by decide +kernel) (pa_cons (pe_callTy (cr_setD hc hu) hg2 hm2 (by decide +kernel) (pa_cons pe pa_nil he) (by decide) (by decide) he rfl) pa_nil he2) (by decide) (by decide) he2 rfl, fun B H ρ σ S P Q st hf k => se B H ρ σ S _ _ st hf fun d v B1 H1 g1 r1 p1 => ?_⟩
  obtain ⟨l, rfl, hset, hrow, p1⟩ := p1
  have bs := g1.base
  cases r1 with
  | @lst _ xs _ h1 h2 h3 =>
    refine ⟨_, l, xs, rfl, Evl.sq_of (bs.bh _ _ h1), h3.up bs.bh, hset, fun a L hfr hL => ?_⟩
    obtain ⟨g2, nb, nm⟩ := bs.newO (o := SetZO X.w a (L.map (·.2))) hfr
    have hin : ∀ z ∈ L.map (·.1), z ∈ l := fun z hz => by
      obtain ⟨p, hp, rfl⟩ := List.mem_map.mp hz
      exact (List.of_mem_zip (hL.sub p hp)).1
    refine ⟨a, L, rfl, upd_same, fun p hp => ⟨(h3.pairs p (hL.sub p hp)).up g2.base.bh, hset.all _ (List.of_mem_zip (hL.sub p hp)).1⟩, ⟨fun x hx y hy => hrow.1 x (hin x hx) y (hin y hy), hrow.2.imp (fun h x hx => h x (hin x hx)) (Or.imp (fun h x hx => h x (hin x hx)) fun h x hx => h x (hin x hx))⟩, fun pn L' hp hup hpn => ?_⟩
    have hm1 : ∀ x ∈ L', x ∈ L := fun x hx => hp.mem_iff.mp hx
    have hmk : (L'.map (·.1)).map D.key = L'.map fun p => p.1.key := by rw [List.map_map]; rfl
    have p2 := p1 (L'.map (·.1)) (fun z hz => by
      obtain ⟨q, hq, rfl⟩ := List.mem_map.mp hz
      exact hin _ (List.mem_map_of_mem (hm1 q hq))) (fun x hx => by
      rw [hmk]
      exact (hp.map (fun p : D × V => p.1.key)).mem_iff.mpr (hL.all x hx)) (by rw [hmk]; exact (hp.map (fun p : D × V => p.1.key)).nodup_iff.mpr hL.nd) hup
    have hlen : L'.length ≤ 64 := by
      have hnd := (hp.map (fun p : D × V => p.1.key)).nodup_iff.mpr hL.nd
      have hsub : (L'.map fun p => p.1.key) ⊆ l.map D.key := fun z hz => by
        obtain ⟨q, hq, rfl⟩ := List.mem_map.mp hz
        exact List.mem_map_of_mem (hin _ (List.mem_map_of_mem (hm1 q hq)))
      have h4 := nodup_len hnd fun z hz => hsub hz
      rw [List.length_map, List.length_map] at h4
      have := hset.2
      omega
    exact new_list g2.base (reps_of L' fun x hx => h3.pairs x (hL.sub x (hm1 x hx))) (by rw [List.length_map, sizeLine_eq]; omega) p2 (fun t v B' H' T g r o q => k t v B' H' T ((g1.trans g2).trans g) r (o.back (g1.trans g2)) q) pn hpn
  | _ => cases hset
end
end DL

/-! DLM: dicts of one's own: displays, stores, updates within. -/
namespace DL
open PySem L2 PySem.Spec
open PyProof.Rows hiding St
open PySem.PyData (strOk)
set_option autoImplicit false
section
variable {K : PySem.W.Frag} {B B' B1 : Kn} {H H' H1 : Hp}
/-- a part of owned trees, and what may stand in its place -/
theorem RepOs.split {B H : Hp} : ∀ {l : List OT} {xs : List V} {T : List Addr} {j : Nat} {t : OT}, RepOs K B H l xs T → l[j]? = Option.some t → ∃ A T1 C v, T = A ++ (T1 ++ C) ∧ xs[j]? = Option.some v ∧ RepO K B H t v T1 ∧
    ∀ B' H' t' T1', Ext B B' → (∀ p ∈ A ++ C, H' p = H p) → RepO K B' H' t' v T1' → RepOs K B' H' (l.set j t') xs (A ++ (T1' ++ C))
  | [], _, _, _, _, _, e => by simp at e
  | t :: l, _, _, 0, _, .cons (v := v) (T := Ta) (T' := Tb) r q, e => by
    simp only [List.getElem?_cons_zero, Option.some.injEq] at e
    subst e
    exact ⟨[], Ta, Tb, v, rfl, rfl, r, fun B' H' t' T1' he hk hr => (show RepOs K B' H' (t' :: l) _ (T1' ++ Tb) from .cons hr (RepOs.mono he l _ _ (fun p hp => hk p (by simpa using hp)) q))⟩
  | t :: l, _, _, j + 1, _, .cons (T := Ta) (T' := Tb) r q, e => by
    obtain ⟨A, T1, C, v, e1, e2, e3, e4⟩ := RepOs.split (j := j) q (by simpa using e)
    refine ⟨Ta ++ A, T1, C, v, by rw [e1, List.append_assoc], by simpa using e2, e3, fun B' H' t' T1' he hk hr => ?_⟩
    rw [List.append_assoc]
    refine .cons (RepO.mono he t _ _ (fun p hp => hk p (by simp [hp])) r) (e4 B' H' t' T1' he (fun p hp => hk p ?_) hr)
    rcases List.mem_append.mp hp with z | z
    · simp [z]
    · simp [z]
/-- a slot's own tree, of which one object changes -/
theorem SttF.edit {B0 : Kn} {H0 : Hp} {ρ : Env} {σ : L2.St} {S : List Addr} {i : Nat} {t : OT} (s : SttF K B0 H0 B H ρ σ S) (e : ρ[i]? = some (some t)) :
    ∃ v T, σ[i]? = some (some v) ∧ RepO K B.b H t v T ∧ T.Nodup ∧ (∀ q ∈ T, B.b q = none ∧ B.m q = none ∧ H0 q = none) ∧
      ∀ (B1 : Kn) (H1 : Hp) (q : Addr) (o : HO) (t' : OT) (T' : List Addr), Grow K B H B1 H1 → q ∈ T → RepO K B1.b (upd H1 q o) t' v T' → T'.Nodup → (∀ p ∈ T', p ∈ T ∨ (H p = none ∧ B1.b p = none ∧ B1.m p = none)) →
        ∃ S', SttF K B0 H0 B1 (upd H1 q o) (ρ.set i (some t')) σ S' := by
  obtain ⟨A, T, C, hS, h2, h3, h4, h5⟩ := s.st.sim.split e
  obtain ⟨v, hv, r⟩ := h2 _ rfl
  have inS : ∀ q ∈ T, q ∈ S := fun q hq => by rw [hS]; exact List.mem_append_right _ (List.mem_append_left _ hq)
  have nd := s.st.nd
  rw [hS, List.nodup_append, List.nodup_append] at nd
  obtain ⟨ndA, ⟨ndT, ndC, dTC⟩, dA⟩ := nd
  refine ⟨v, T, hv, r, ndT, fun q hq => ⟨(s.st.out q (inS q hq)).1, (s.st.out q (inS q hq)).2, s.fr q (inS q hq)⟩, fun B1 H1 q o t' T' g hq r' nd' out => ?_⟩
  have qS := inS q hq
  obtain ⟨qB, qM⟩ := s.st.out q qS
  have hqs : H q ≠ none := s.st.some_of qS
  have qB1 : B1.b q = none := by
    cases z : B1.b q with
    | none => rfl
    | some u =>
      rcases g.f q u z with w | w
      · rw [qB] at w; cases w
      · exact absurd w hqs
  have qM1 : B1.m q = none := g.nm qM hqs
  have same : ∀ p ∈ S, H1 p = H p := fun p hp => g.same (s.st.sim.some_of p hp) (s.st.out p hp).2
  have acS : ∀ p ∈ A ++ C, p ∈ S := fun p hp => by
    rw [hS]
    rcases List.mem_append.mp hp with z | z
    · exact List.mem_append_left _ z
    · exact List.mem_append_right _ (List.mem_append_right _ z)
  have acT : ∀ p ∈ A ++ C, p ∉ T := fun p hp z => by
    rcases List.mem_append.mp hp with w | w
    · exact dA p w p (List.mem_append_left _ z) rfl
    · exact dTC p z p w rfl
  have acq : ∀ p ∈ A ++ C, p ≠ q := fun p hp z => acT p hp (by rw [z]; exact hq)
  have g1 : Grow K B0 H0 B1 (upd H1 q o) := (s.gr.trans g).mut (s.fr q qS) qB1 qM1
  have sim := h5 B1.b (upd H1 q o) t' v T' g.b (fun p hp => by rw [upd_ne (acq p hp)]; exact same p (acS p hp)) hv r'
  have ndac : (A ++ C).Nodup := List.nodup_append.mpr ⟨ndA, ndC, fun a ha b hb z => dA a ha b (List.mem_append_right _ hb) z⟩
  have dis : ∀ p ∈ T', p ∉ A ++ C := fun p hp hac => by
    rcases out p hp with z | z
    · exact acT p hac z
    · exact s.st.some_of (acS p hac) z.1
  have at_ : ∀ p ∈ T', (B1.b p = none ∧ B1.m p = none) ∧ H0 p = none := fun p hp => by
    rcases out p hp with z | z
    · exact ⟨(s.st.grow g).out p (inS p z), s.fr p (inS p z)⟩
    · exact ⟨⟨z.2.1, z.2.2⟩, s.gr.free z.1⟩
  have mem : ∀ p ∈ A ++ (T' ++ C), p ∈ A ++ C ∨ p ∈ T' := fun p hp => by
    rcases List.mem_append.mp hp with z | z
    · exact .inl (List.mem_append_left _ z)
    · rcases List.mem_append.mp z with z | z
      · exact .inr z
      · exact .inl (List.mem_append_right _ z)
  refine ⟨A ++ (T' ++ C), ⟨g1.base, sim, ?_, fun p hp => (mem p hp).elim (fun z => (s.st.grow g).out p (acS p z)) fun z => (at_ p z).1⟩, g1, fun p hp => (mem p hp).elim (fun z => s.fr p (acS p z)) fun z => (at_ p z).2⟩
  rw [List.nodup_append] at ndac ⊢
  rw [List.nodup_append]
  refine ⟨ndac.1, ⟨nd', ndac.2.1, fun a ha b hb z => dis a ha (by rw [z]; exact List.mem_append_right _ hb)⟩, fun a ha b hb z => ?_⟩
  rcases List.mem_append.mp hb with w | w
  · exact dis b w (by rw [← z]; exact List.mem_append_left _ ha)
  · exact ndac.2.2 a ha b w z
end
/-! ### what stands at a key -/
def putTs : List Key → List OT → Key → OT → List OT
  | a :: ks, x :: l, k, t => (if a = k then t else x) :: putTs ks l k t
  | _, _, _, _ => []
def hasK (ks : List Key) (k : Key) : Bool := ks.any fun a => decide (a = k)
def odKs (ks : List Key) (k : Key) : List Key := if hasK ks k = true then ks else ks ++ [k]
def odTs (ks : List Key) (l : List OT) (k : Key) (t : OT) : List OT := if hasK ks k = true then putTs ks l k t else l ++ [t]
section
variable {K : PySem.W.Frag}
theorem putTs_rep {B H : Hp} {d : D} {v : V} (r : Rep K B d v) (k : Key) : ∀ {ks : List Key} {l : List OT} {xs : List V} {T : List Addr}, ks.length = l.length → RepOs K B H l xs T → ∃ xs' T', RepOs K B H (putTs ks l k (.fz d)) xs' T' ∧ T'.Sublist T ∧ (putTs ks l k (.fz d)).length = l.length ∧ (ks.zip xs).map (fun kv => if kv.1 = k then (kv.1, v) else kv) = ks.zip xs'
  | [], [], _, _, _, .nil => ⟨[], [], .nil, .slnil, rfl, rfl⟩
  | a :: ks, t :: l, _, _, hl, .cons (v := u) (vs := us) (T := Ta) (T' := Tb) h q => by
    obtain ⟨xs', T', h1, h2, h3, h4⟩ := putTs_rep r k (ks := ks) (by simpa using hl) q
    by_cases e : a = k
    · refine ⟨v :: xs', [] ++ T', ?_, ?_, ?_, ?_⟩
      · rw [putTs, if_pos e]; exact .cons (.fz r) h1
      · exact h2.trans (List.sublist_append_right _ _)
      · rw [putTs, List.length_cons, h3, List.length_cons]
      · rw [List.zip_cons_cons, List.map_cons, h4, List.zip_cons_cons, if_pos e]
    · refine ⟨u :: xs', Ta ++ T', ?_, ?_, ?_, ?_⟩
      · rw [putTs, if_neg e]; exact .cons h h1
      · exact List.Sublist.append_left h2 Ta
      · rw [putTs, List.length_cons, h3, List.length_cons]
      · rw [List.zip_cons_cons, List.map_cons, h4, List.zip_cons_cons, if_neg e]
theorem od_put {B H : Hp} {d : D} {v : V} (r : Rep K B d v) (k : Key) {ks : List Key} {l : List OT} {xs : List V} {T : List Addr} (hl : ks.length = l.length) (h : RepOs K B H l xs T) :
    ∃ xs' T', RepOs K B H (odTs ks l k (.fz d)) xs' T' ∧ T'.Sublist T ∧ (odKs ks k).length = (odTs ks l k (.fz d)).length ∧ (odTs ks l k (.fz d)).length ≤ l.length + 1 ∧ putK (ks.zip xs) k v = (odKs ks k).zip xs' := by
  have hx := h.length
  have hany : ((ks.zip xs).any fun kv => decide (kv.1 = k)) = hasK ks k := by
    have go : ∀ (ks : List Key) (xs : List V), ks.length = xs.length → ((ks.zip xs).any fun kv => decide (kv.1 = k)) = hasK ks k := by
      intro ks
      induction ks with
      | nil => intro xs _; rfl
      | cons a ks ih =>
        intro xs h
        cases xs with
        | nil => cases h
        | cons x xs => rw [List.zip_cons_cons, List.any_cons, ih xs (by simpa using h)]; rfl
    exact go ks xs (by omega)
  unfold odTs odKs putK
  rw [hany]
  cases hk : hasK ks k with
  | true =>
    rw [if_pos rfl, if_pos rfl, if_pos rfl]
    obtain ⟨xs', T', h1, h2, h3, h4⟩ := putTs_rep r k hl h
    exact ⟨xs', T', h1, h2, by rw [h3, hl], by rw [h3]; omega, h4⟩
  | false =>
    rw [if_neg (by decide), if_neg (by decide), if_neg (by decide)]
    have ap := RepOs.append h (RepOs.cons (RepO.fz (H := H) r) .nil)
    rw [List.append_nil, List.append_nil] at ap
    refine ⟨xs ++ [v], T, ap, List.Sublist.refl _, by simp [hl], by simp, ?_⟩
    rw [List.zip_append (by omega)]; rfl
/-- the place of a key -/
def keyIx : List Key → Key → Option Nat
  | a :: ks, k => if a = k then some 0 else (keyIx ks k).map (· + 1)
  | [], _ => none
theorem keyIx_val : ∀ {ks : List Key} {xs : List V} {k : Key} {j : Nat} {v : V}, keyIx ks k = some j → xs[j]? = some v → valV (ks.zip xs) k = some v
  | [], _, _, _, _, h, _ => by simp [keyIx] at h
  | a :: ks, [], _, _, _, _, h => by simp at h
  | a :: ks, x :: xs, k, j, v, h, hx => by
    unfold keyIx at h
    rw [List.zip_cons_cons]
    by_cases e : a = k
    · rw [if_pos e] at h
      cases h
      simp only [List.getElem?_cons_zero, Option.some.injEq] at hx
      subst hx
      exact valV_pos e
    · rw [if_neg e] at h
      cases q : keyIx ks k with
      | none => rw [q] at h; cases h
      | some m =>
        rw [q] at h
        cases h
        rw [valV_neg e]
        exact keyIx_val q (by simpa using hx)
end
section
variable {X : Cx} {e ei a b c : Expr} {es : List Expr} {pos cpos apos p : Pos} {fo : RO} {fa fb fc : RD} {f : RA} {x y : Str}
/-! ### displays -/
abbrev RDPO := Env → Mem → (List Key → List OT → Mem → Prop) → Prop
def SndPsO (K : PySem.W.Frag) (trs : List (TE × TE)) (f : RDPO) : Prop :=
  ∀ (B : Kn) (H : Hp) (ρ : Env) (σ : L2.St) (S : List Addr) (P : List Key → List OT → Mem → Prop) (Q : List (V × V) → Hp → Prop), Stt K B H ρ σ S → f ρ B.m P → (∀ ks ts vs B' H' T, Grow K B H B' H' → RepOs K B' H' ts vs T → Own B H B' T → ks.length = ts.length → P ks ts B'.m → Q ((ks.zip vs).map fun kv => (kV kv.1, kv.2)) H') → tPairs trs σ H Q
structure DPsO (X : Cx) (pos : Pos) (keys : List (Option Expr)) (values : List Expr) (f : RDPO) : Prop where
  ex : ∃ t, PPs X pos keys values t ∧ SndPsO X.K t f
theorem dpo_nil : DPsO X pos [] [] (fun _ M P => P [] [] M) := ⟨_, pps_nil, fun B H ρ σ S P Q st hf k => k [] [] [] B H [] st.base.grow .nil .nil rfl hf⟩
theorem dpo_cons {ks : List (Option Expr)} {vs : List Expr} {g : RDPO} (ha : ED X a fa) (hb : EO X b fo) (h : DPsO X pos ks vs g) : DPsO X pos (some a :: ks) (b :: vs) (fun ρ M P => fa ρ M fun x M => ∃ k, keyOf x = some k ∧ fo ρ M fun y M => g ρ M fun ks ts M => P (k :: ks) (y :: ts) M) := by
  obtain ⟨ta, pa, sa⟩ := ha.ex
  obtain ⟨tb, pb, sb⟩ := hb.ex
  obtain ⟨t, pt, s⟩ := h.ex
  refine ⟨_, pps_cons pa pb pt, fun B H ρ σ S P Q st hf kk => sa B H ρ σ S _ _ st hf fun x vx B1 H1 g1 r1 p1 => ?_⟩
  obtain ⟨k, hk, p1⟩ := p1
  refine sb B1 H1 ρ σ S _ _ (st.grow g1) p1 fun y vy B2 H2 T2 g2 r2 o2 p2 => s B2 H2 ρ σ S _ _ ((st.grow g1).grow g2) p2 fun ks ts vs B3 H3 T3 g3 r3 o3 hl p3 => ?_
  have := kk (k :: ks) (y :: ts) (vy :: vs) B3 H3 (T2 ++ T3) ((g1.trans g2).trans g3) (.cons (r2.mono g3.b _ _ _ fun q hq => g3.same (r2.some q hq) (o2.nw q hq)) r3) ((o2.back g1).join r2.some g3 (o3.back (g1.trans g2)) o3.fr) (by simp [hl]) p3
  rw [keyOf_rep hk r1]
  exact this
theorem eo_dnew : EO X (.Dict [] [] pos) (fun _ M P => P (.od [] []) M) := by
  refine ⟨_, pe_dnewK, fun B H ρ σ S P Q st hf k => fun q hq => ?_⟩
  obtain ⟨g, hb, nm⟩ := st.base.newO (o := .dK []) hq
  refine k (.od [] []) (.ref q) B _ [q] g (RepO.od (xs := []) (T := []) upd_same rfl (Nat.zero_le _) .nil) ⟨by simp, fun p hp => ?_, fun p hp => ?_, fun p hp => ?_⟩ hf
  all_goals (rw [List.mem_singleton] at hp; subst hp; assumption)
theorem eo_dictO {keys : List (Option Expr)} {values : List Expr} {g : RDPO} (h : DPsO X pos keys values g) (hall : keys.all (·.isSome) = true := by rfl) (hl : keys.length = values.length := by rfl) (h0 : keys ≠ [] := by exact fun z => nomatch z) (h15 : keys.length ≤ 15 := by decide) :
    EO X (.Dict keys values pos) (fun ρ M P => g ρ M fun ks ts M => ks.Nodup ∧ ks.length ≤ 15 ∧ P (.od ks ts) M) := by
  obtain ⟨t, pt, s⟩ := h.ex
  refine ⟨_, pe_disp pt hall hl h0 h15, fun B H ρ σ S P Q st hf k => ?_⟩
  intro q hq
  obtain ⟨g1, nb, nm⟩ := st.base.newO (o := .dK []) hq
  refine s B _ ρ σ S _ _ (st.grow g1) hf fun ks ts vs B2 H2 T2 g2 r2 o2 hl2 p2 => ?_
  have hq1 : L2.upd H q (.dK []) q = some (.dK []) := upd_same
  have h2 : H2 q = some (.dK []) := g2.h q _ nm hq1
  have nb2 : B2.b q = none := by
    cases z : B2.b q with
    | none => rfl
    | some o =>
      rcases g2.f q o z with w | w
      · rw [nb] at w; cases w
      · rw [hq1] at w; cases w
  have nm2 : B2.m q = none := g2.nm nm (by rw [hq1]; exact fun w => nomatch w)
  have lv := r2.length
  have hz : (ks.zip vs).map (·.1) = ks := by rw [List.map_fst_zip]; omega
  have qT : q ∉ T2 := fun z => by have := o2.fr q z; rw [hq1] at this; cases this
  refine ⟨h2, ks.zip vs, rfl, by rw [List.length_zip]; have := p2.2.1; omega, ?_⟩
  rw [merge_new (ks.zip vs) [] (by rw [List.nil_append, hz]; exact p2.1), List.nil_append]
  have gk : Grow X.K B H B2 (L2.upd H2 q (.dK (ks.zip vs))) := (g1.trans g2).mut hq nb2 nm2
  refine k (.od ks ts) (.ref q) _ _ (q :: T2) gk (.od upd_same hl2 (by rw [← hl2]; have := p2.2.1; rw [sizeLine_eq]; omega) (r2.mono Ext.rfl _ _ _ fun z hz => upd_ne fun w => qT (by rw [← w]; exact hz))) ⟨List.nodup_cons.mpr ⟨qT, o2.nd⟩, fun z hz => ?_, fun z hz => ?_, fun z hz => ?_⟩ p2.2.2
  all_goals rcases List.mem_cons.mp hz with rfl | hz
  · exact hq
  · exact g1.free (o2.fr z hz)
  · exact nb2
  · exact o2.nb z hz
  · exact nm2
  · exact o2.nw z hz
end
end DL

/-! DLM2: x[k] = e, x[k].update({a: b}), x[k], x a dict of one's own. -/
namespace DL
open PySem L2 PySem.Spec
open PyProof.Rows hiding St
open PySem.PyData (strOk)
set_option autoImplicit false
section
variable {X : Cx}
def rUpd : V → List V → Hp → VK → Prop := fun x xs H Q => ∃ (a b : Addr) (kvs more : List (Key × V)), x = .ref a ∧ xs = [.ref b] ∧ a ≠ b ∧ H a = some (.dK kvs) ∧ H b = some (.dK more) ∧ kvs.length + more.length ≤ sizeLine ∧ Q .non (upd H a (.dK (mergeK kvs more)))
theorem mt_update : MtR X "dict.update" rUpd := by
  intro pins s σ H x xs v us Q I rx rxs h
  obtain ⟨a, b, kvs, more, rfl, rfl, hne, ha, hb, hl, q⟩ := h
  cases rx
  cases rxs with
  | cons r t =>
    cases t
    cases r
    obtain ⟨z, hd, vs, rel, dd⟩ := dk_of I.hok ha
    obtain ⟨z2, hd2, ws, rel2, dd2⟩ := dk_of I.hok hb
    refine call_meetsIn PySem.F.slot_dict_update dd.typeIs PySem.F.entry_dict_update (PySem.F.args_dict_update_2 _ _) (meets_dict_update (mixKind X.prog X.w) a b hne hd2) ⟨vs, ws, dd, dd2, by rw [← rel.length, ← rel2.length]; exact hl, fun h' d' _ hs => ?_⟩
    have he : ∃ u, h'.get? a = some u := let ⟨u, _, _, hu, _⟩ := d'; ⟨u, hu⟩
    exact ⟨.non, _, d_write (t' := s.toks) I (by rw [ha]; exact True.intro) hs he (dk_new (Nat.le_trans (length_mergeK more kvs) hl) hd (KV.merge rel2 rel) d'), rfl, q⟩
variable {e ei ek ev a b c : Expr} {es : List Expr} {pos cpos apos p dp : Pos} {fo : RO} {fa fb fc fk : RD} {f : RA} {x y : Str}
/-- x[k], x one's own dict -/
theorem ed_dixN (i : Nat) {px : Pos} (hu : X.A.units + 200 < cLine) (hk : ED X ei fb) (hN : X.N[i]? = some x := by rfl) (hv : Vis X.env.scope x := by first | exact Or.inl rfl | exact Or.inr (Or.inl rfl) | exact Or.inr (Or.inr rfl)) (hd : (x == ("__debug__" : Str)) = false := by decide) (hcd : (x == ("__classdict__" : Str)) = false := by decide)
    (hp : NoSl ei := by exact fun _ _ => rfl) : ED X (.Subscript (.Name x px) ei pos) (fun ρ M P => ∃ ks l, ρ[i]? = some (some (.od ks l)) ∧ fb ρ M fun n M => ∃ k j d, keyOf n = some k ∧ keyIx ks k = some j ∧ l[j]? = some (.fz d) ∧ P d M) := by
  obtain ⟨tk, pk, sk⟩ := hk.ex
  refine ⟨_, pe_dget (by omega) (pe_var hN hv hd hcd) pk hp, fun B H ρ σ S P Q st hf k => ?_⟩
  obtain ⟨ks, l, el, hf⟩ := hf
  obtain ⟨A, T, C, hS, h2, _⟩ := st.sim.split el
  obtain ⟨v, hσ, r⟩ := h2 _ rfl
  refine ⟨v, hσ, sk B H ρ σ S _ _ st hf fun n vn B1 H1 g1 r1 p1 => ?_⟩
  obtain ⟨kk, j, d, hkk, hj, hl, p1⟩ := p1
  cases r with
  | @od q _ xs _ T hq hkl hln hr =>
    have nW := (st.out q (by rw [hS]; exact List.mem_append_right _ (List.mem_append_left _ List.mem_cons_self))).2
    obtain ⟨v, T', e1, r2⟩ := hr.getO hl
    cases r2 with
    | fz r2 =>
      rw [keyOf_rep hkk r1]
      refine ⟨q, v, rfl, ?_, k d v B1 H1 g1 (r2.up g1.b) p1⟩
      rw [← keyIx_val hj e1]
      exact DGet.k (g1.h q _ nW hq)
/-- x[k] = e, x one's own dict -/
theorem ds_setKeyO (i : Nat) {px spos : Pos} (hu : X.A.units + 200 < cLine) (he : ED X e fa) (hk : ED X ei fb) (hN : X.N[i]? = some x := by rfl) (hv : Vis X.env.scope x := by first | exact Or.inl rfl | exact Or.inr (Or.inl rfl) | exact Or.inr (Or.inr rfl)) (hd : (x == ("__debug__" : Str)) = false := by decide) (hcd : (x == ("__classdict__" : Str)) = false := by decide)
    (hs : swapsWith e (some (.Subscript (.Name x px) ei spos)) pos.line X.env = pure false := by rfl) :
    DS X (.Assign [.Subscript (.Name x px) ei spos] e pos) (fun P ρ M => fa ρ M fun d M => ∃ ks l, ρ[i]? = some (some (.od ks l)) ∧ fb ρ M fun n M => ∃ k, keyOf n = some k ∧ l.length < sizeLine ∧ P.nx (ρ.set i (some (.od (odKs ks k) (odTs ks l k (.fz d))))) M) := by
  obtain ⟨te, pe, se⟩ := he.ex
  obtain ⟨tk, pk, sk⟩ := hk.ex
  refine ⟨_, ps_dput (by omega) (pe_var hN hv hd hcd) pk pe hs, fun B0 H0 B H ρ σ S P D s hg k1 k2 k3 k4 => se B H ρ σ S _ _ s.st hg fun d v B1 H1 g1 r1 hk1 => ?_⟩
  have s1 := s.grow g1
  obtain ⟨ks, l, el, hk1⟩ := hk1
  obtain ⟨A, T0, C, hS, h2, _⟩ := s1.st.sim.split el
  obtain ⟨v0, hσ0, _⟩ := h2 _ rfl
  refine ⟨v0, hσ0, sk B1 H1 ρ σ S _ _ s1.st hk1 fun n vn B2 H2 g2 r2 p2 => ?_⟩
  obtain ⟨kk, hkk, hll, p2⟩ := p2
  have s2 := s1.grow g2
  obtain ⟨v2, T, hσ, r, ndT, outT, edit⟩ := s2.edit el
  rw [hσ0] at hσ
  cases hσ
  cases r with
  | @od q _ xs _ T hq hkl hln hr =>
    obtain ⟨xs', T', q1, q2, q3, q4, q5⟩ := od_put (r1.up g2.b) kk hkl hr
    have ndq := List.nodup_cons.mp ndT
    obtain ⟨S', s'⟩ := edit B2 H2 q (.dK ((odKs ks kk).zip xs')) (.od (odKs ks kk) (odTs ks l kk (.fz d))) (q :: T') s2.st.base.grow List.mem_cons_self
      (.od upd_same q3 (by omega) (q1.mono Ext.rfl _ _ _ fun z hz => upd_ne fun w => ndq.1 (by rw [← w]; exact q2.subset hz))) (List.nodup_cons.mpr ⟨fun z => ndq.1 (q2.subset z), ndq.2.sublist q2⟩)
      (fun z hz => by
        rcases List.mem_cons.mp hz with rfl | hz
        · exact .inl List.mem_cons_self
        · exact .inl (List.mem_cons_of_mem _ (q2.subset hz)))
    rw [keyOf_rep hkk r2]
    refine ⟨q, _, rfl, DPut.k (k := kk) hq (by rw [List.length_zip]; omega), ?_⟩
    rw [q5]
    exact k1 _ _ _ _ S' s' p2
/-- x[k].update({a: b}), x one's own dict, a dict of one's own in it -/
theorem ds_updKey (i : Nat) {px sp : Pos} (hu : X.A.units + 200 < cLine) (hk : ED X ei fb) (ha : ED X ek fk) (he : ED X ev fa) (hN : X.N[i]? = some x := by rfl) (hv : Vis X.env.scope x := by first | exact Or.inl rfl | exact Or.inr (Or.inl rfl) | exact Or.inr (Or.inr rfl)) (hd : (x == ("__debug__" : Str)) = false := by decide) (hcd : (x == ("__classdict__" : Str)) = false := by decide)
    (hp : NoSl ei := by exact fun _ _ => rfl)
    (hs : swapsWith (.Call (.Attribute (.Subscript (.Name x px) ei sp) "update" apos) [.Dict [some ek] [ev] dp] [] cpos) none pos.line X.env = pure false := by rfl)
    (hbase : attributeBase (.Subscript (.Name x px) ei sp) "update" X.env (eval (.Subscript (.Name x px) ei sp) X.env) = eval (.Subscript (.Name x px) ei sp) X.env := by rfl)
    (hfew : ((backTo cpos (starEach [.Dict [some ek] [ev] dp] X.env)).all (fun x => !x.1) && (backToKw cpos (keywordEach [] X.env)).all (fun x => x.1.isSome) && decide ([Expr.Dict [some ek] [ev] dp].length + ([] : List Keyword).length + (if ([] : List Keyword).isEmpty then 0 else 1) < 30)) = true := by rfl)
    (hline : (apos.endLine == cpos.line) = true := by rfl) (hst : starEach [.Dict [some ek] [ev] dp] X.env = (false, eval (.Dict [some ek] [ev] dp) X.env) :: starEach [] X.env := by rfl) (hplain : (backTo cpos (starEach [] X.env)).any (·.1) = false := by rfl) :
    DS X (.Expr (.Call (.Attribute (.Subscript (.Name x px) ei sp) "update" apos) [.Dict [some ek] [ev] dp] [] cpos) pos) (fun P ρ M => ∃ ks l, ρ[i]? = some (some (.od ks l)) ∧ fb ρ M fun n M => ∃ k j ks1 l1, keyOf n = some k ∧ keyIx ks k = some j ∧ l[j]? = some (.od ks1 l1) ∧
      fk ρ M fun m M => ∃ k1, keyOf m = some k1 ∧ fa ρ M fun d M => l1.length < sizeLine ∧ P.nx (ρ.set i (some (.od ks (l.set j (.od (odKs ks1 k1) (odTs ks1 l1 k1 (.fz d))))))) M) := by
  obtain ⟨tb, pb, sb⟩ := hk.ex
  obtain ⟨tk, pk, sk⟩ := ha.ex
  obtain ⟨te, pe, se⟩ := he.ex
  refine ⟨_, ps_expr (pe_bm PySem.F.plainAttrs_dict PySem.F.slot_dict_update PySem.F.type_dict_update mt_update (pe_dget (by omega) (pe_var hN hv hd hcd) pb hp) (pa_cons (pe_disp (pps_cons pk pe pps_nil) rfl rfl (fun z => nomatch z) (by show 1 ≤ 15; decide)) pa_nil hst) hbase hfew hline hst hplain) hs, fun B0 H0 B H ρ σ S P D s hg k1 k2 k3 k4 => ?_⟩
  obtain ⟨ks, l, el, hg⟩ := hg
  obtain ⟨A, T0, C, hS, h2, _⟩ := s.st.sim.split el
  obtain ⟨v0, hσ0, _⟩ := h2 _ rfl
  refine ⟨v0, hσ0, sb B H ρ σ S _ _ s.st hg fun n vn B1 H1 g1 r1 p1 => ?_⟩
  obtain ⟨kk, j, ks1, l1, hkk, hj, hlj, p1⟩ := p1
  have s1 := s.grow g1
  obtain ⟨v1, T, hσ, r, ndT, outT, edit⟩ := s1.edit el
  rw [hσ0] at hσ
  cases hσ
  cases r with
  | @od q _ xs _ T hq hkl hln hr =>
    obtain ⟨Aa, T1, Cc, vj, hT, hxj, rj, putj⟩ := hr.split hlj
    cases rj with
    | @od q1 _ xs1 _ T1' hq1 hkl1 hln1 hr1 =>
      have q1T : q1 ∈ q :: T := by rw [hT]; simp
      rw [keyOf_rep hkk r1]
      refine ⟨q, .ref q1, rfl, by rw [← keyIx_val hj hxj]; exact DGet.k hq, .inr (.inr (.inl ⟨rfl, .inl ⟨_, hq1⟩⟩)), ?_⟩
      intro u hu0
      obtain ⟨g2, nbu, nmu⟩ := s1.st.base.newO (o := .dK []) hu0
      have s2 := s1.grow g2
      refine sk _ _ ρ σ S _ _ s2.st p1 fun m vm B3 H3 g3 r3 p3 => ?_
      obtain ⟨kn, hkn, p3⟩ := p3
      have s3 := s2.grow g3
      refine se B3 H3 ρ σ S _ _ s3.st p3 fun d v B4 H4 g4 r4 p4 => ?_
      have s4 := s3.grow g4
      have hu1 : L2.upd H1 u (.dK []) u = some (.dK []) := upd_same
      have hu4 : H4 u = some (.dK []) := (g3.trans g4).h u _ nmu hu1
      refine ⟨hu4, [(kn, v)], by rw [keyOf_rep hkn r3]; rfl, by show 1 ≤ 15; decide, ?_⟩
      have nm4 : B4.m u = none := (g3.trans g4).nm nmu (by rw [hu1]; exact fun w => nomatch w)
      have nb4 : B4.b u = none := by
        cases z : B4.b u with
        | none => rfl
        | some o =>
          rcases (g3.trans g4).f u o z with w | w
          · rw [nbu] at w; cases w
          · rw [hu1] at w; cases w
      have g5 : Grow X.K B1 H1 B4 (L2.upd H4 u (.dK [(kn, v)])) := (g2.trans (g3.trans g4)).mut hu0 nb4 nm4
      have hu5 : L2.upd H4 u (.dK [(kn, v)]) u = some (.dK [(kn, v)]) := upd_same
      have em : mergeK [] [(kn, v)] = [(kn, v)] := rfl
      rw [em]
      generalize L2.upd H4 u (.dK [(kn, v)]) = H5 at g5 hu5 ⊢
      have some1 : ∀ z ∈ q :: T, (H1 z).isSome = true := fun z hz => by
        rcases List.mem_cons.mp hz with rfl | hz
        · rw [hq]; rfl
        · exact hr.some z hz
      have same5 : ∀ z ∈ q :: T, H5 z = H1 z := fun z hz => g5.same (some1 z hz) (outT z hz).2.1
      have nu : ∀ z ∈ q :: T, z ≠ u := fun z hz e => by have := some1 z hz; rw [e, hu0] at this; cases this
      have ndq := List.nodup_cons.mp ndT
      have hTn := ndq.2
      rw [hT] at hTn
      have q1q : q ≠ q1 := fun e => ndq.1 (by rw [e, hT]; simp)
      refine ⟨q1, u, ks1.zip xs1, [(kn, v)], rfl, rfl, nu q1 q1T, by rw [same5 q1 q1T]; exact hq1, hu5, by rw [List.length_zip, List.length_singleton]; omega, ?_⟩
      have inT : ∀ z ∈ T1', z ∈ q :: T := fun z hz => by rw [hT]; simp [hz]
      have n1 : ∀ z ∈ T1', z ≠ q1 := fun z hz e => by
        have h1 := (List.nodup_append.mp hTn).2.1
        have h2 := (List.nodup_append.mp h1).1
        exact (List.nodup_cons.mp h2).1 (by rw [← e]; exact hz)
      have acq : ∀ z ∈ Aa ++ Cc, z ∈ q :: T ∧ z ≠ q1 := fun z hz => by
        refine ⟨by rw [hT]; rcases List.mem_append.mp hz with w | w <;> simp [w], fun e => ?_⟩
        have h1 := List.nodup_append.mp hTn
        rcases List.mem_append.mp hz with w | w
        · exact h1.2.2 z w q1 (by simp) e
        · exact (List.nodup_append.mp h1.2.1).2.2 q1 (by simp) z w e.symm
      obtain ⟨xs', T2, b1, b2, b3, b4, b5⟩ := od_put (H := H5) r4 kn hkl1 (hr1.mono g5.b _ _ _ fun z hz => same5 z (inT z hz))
      have hm : mergeK (ks1.zip xs1) [(kn, v)] = (odKs ks1 kn).zip xs' := b5
      rw [hm]
      have inner : RepO X.K B4.b (L2.upd H5 q1 (.dK ((odKs ks1 kn).zip xs'))) (.od (odKs ks1 kn) (odTs ks1 l1 kn (.fz d))) (.ref q1) (q1 :: T2) :=
        .od upd_same b3 (by omega) (b1.mono Ext.rfl _ _ _ fun z hz => upd_ne (n1 z (b2.subset hz)))
      have outer := putj B4.b (L2.upd H5 q1 (.dK ((odKs ks1 kn).zip xs'))) _ _ g5.b (fun z hz => by rw [upd_ne (acq z hz).2]; exact same5 z (acq z hz).1) inner
      have sub2 : (q :: (Aa ++ ((q1 :: T2) ++ Cc))).Sublist (q :: T) := by
        rw [hT]
        exact (List.Sublist.append_left (List.Sublist.append_right (b2.cons₂ q1) Cc) Aa).cons₂ q
      obtain ⟨S', s'⟩ := edit B4 H5 q1 (.dK ((odKs ks1 kn).zip xs')) (.od ks (l.set j (.od (odKs ks1 kn) (odTs ks1 l1 kn (.fz d))))) (q :: (Aa ++ ((q1 :: T2) ++ Cc))) g5 q1T
        (.od (by rw [upd_ne q1q, same5 q List.mem_cons_self]; exact hq) (by rw [List.length_set]; exact hkl) (by rw [List.length_set]; exact hln) outer) (ndT.sublist sub2) (fun z hz => .inl (sub2.subset hz))
      exact k1 _ _ _ _ S' s' p4.2
end
end DL

/-! DLC: own classes: calls of methods, instances made; attributes as targets. -/
namespace DL
open PySem L2 PySem.Spec
open PyProof.Rows hiding St
open PySem.PyData (strOk)
set_option autoImplicit false
section
variable {X : Cx} {CX : CXT} {k n : Nat} {f C : Addr} {fd : FuncData} {ps ks : List Str} {ix : List Nat} {sp : Sp} {dvs : List V} {ds : List Value} {E : XK} {x m : Str} {p pos apos : Pos} {e o : Expr} {es : List Expr} {kws : List Keyword} {ta : TE} {t tk : TA}
theorem RG0.make (hr : RG0 (k + 1) X) (C : Addr) (us : List Value) (kw : List (Str × Value)) : Room k (X.A.under (.builtin "type.__call__" ⟨.ref C :: us, kw⟩)) ∧ (X.A.under (.builtin "type.__call__" ⟨.ref C :: us, kw⟩)).guards = some [] := by
  refine ⟨hr.1.make C us kw, ?_⟩
  have h := hr.2
  have e : Code.isGuard (.builtin "type.__call__" ⟨.ref C :: us, kw⟩) = false := by
    show guardIds.contains "type.__call__" = false
    decide +kernel
  unfold Around.under
  simp only [e]
  exact h
/-- a method is looked up, then called -/
abbrev lookThen (X : Cx) (o : Expr) (m : Str) (apos : Pos) (pl : Sem Bool) (go : Value → List Value → Sem Value) : Sem Value := eval o X.env >>= fun ov => standAt apos.atName >>= fun _ => holding [ov] (getMethod ov m pl) >>= fun r => go r.1 r.2
/-- .. of an instance that is tracked -/
theorem lookThen_run {pl : Sem Bool} {go : Value → List Value → Sem Value} {pins : List (Addr × Obj)} {σ : L2.St} {H : Hp} {s : Shared} {Q : Value → Shared → Prop} {R : V → Hp → Prop} (he : PE X o ta) (c : Cls X.K C) (hm : Meth X.K C m f) (I : L2.Inv X pins σ H s)
    (h : ta σ H fun x H1 => ∃ a dx fs, x = .ref a ∧ H1 a = some (.ins C dx fs) ∧ fs.lookup m = none ∧ R x H1)
    (k : ∀ a H1 s1, L2.Inv X pins σ H1 s1 → R (.ref a) H1 → wpAny (model X.prog X.w) X.A (go (.ref f) [.ref a]) Q X.xe s1) : wpAny (model X.prog X.w) X.A (lookThen X o m apos pl go) Q X.xe s := by
  refine wpAny_bind (thn (he.run pins s σ H _ I h) ?_)
  rintro _ s1 ⟨_, H1, I1, rx, a, dx, fs, rfl, ea, l, r⟩
  cases rx
  exact wpAny_bind (wpAny_standAt (wpAny_bind (wpAny_holding (getmeth_ok I1 ea c hm l (k a H1 s1 I1 r)))))
/-- o.m(e, ..) -/
theorem pe_methG {pl : Sem Bool} (he : PE X o ta) (c : Cls X.K C) (hm : Meth X.K C m f) (F : FnG X.prog X.w X.K X.mg X.base CX k f fd ps sp) (hr : RG0 k X) (hb : Binds X.K fd ps ds) (hd : Vals dvs ds) (hx : Passes CX X E) (ha : PA X (e :: es) t)
    (first : starEach (e :: es) X.env = (false, eval e X.env) :: starEach es X.env := by rfl) (plain : (backTo pos (starEach es X.env)).any (·.1) = false := by rfl)
    (ht : eval (.Call (.Attribute o m apos) (e :: es) [] pos) X.env = lookThen X o m apos pl (fun g fs => callWith pos g fs (backTo pos (starEach (e :: es) X.env)) (backToKw pos (keywordEach [] X.env))) := by rfl) :
    PE X (.Call (.Attribute o m apos) (e :: es) [] pos) (tMeth C m sp dvs E ta t) := by
  constructor
  intro pins s σ H Q I h
  rw [ht]
  refine lookThen_run he c hm I h fun a H1 s1 I1 q => PySem.W.callWith_K (first := [.ref a]) (h₀ := X.base) I1.ok.mod.kin hm.kp (thn (ha.run pos pins s1 σ H1 _ I1 q) ?_) first plain
  rintro us s2 ⟨vs, H2, I2, r, q2⟩
  exact ⟨I2.kIn, runG (us := .ref a :: us) (vs := .ref a :: vs) F hr hb hd hx I2 (.cons rfl r) q2⟩
/-- o.m() -/
theorem pe_methG0 {pl : Sem Bool} (he : PE X o ta) (c : Cls X.K C) (hm : Meth X.K C m f) (F : FnG X.prog X.w X.K X.mg X.base CX k f fd ps sp) (hr : RG0 k X) (hb : Binds X.K fd ps ds) (hd : Vals dvs ds) (hx : Passes CX X E)
    (ht : eval (.Call (.Attribute o m apos) [] [] pos) X.env = lookThen X o m apos pl (fun g fs => callWith pos g fs (backTo pos (starEach [] X.env)) (backToKw pos (keywordEach [] X.env))) := by rfl) :
    PE X (.Call (.Attribute o m apos) [] [] pos) (tMeth C m sp dvs E ta tNil) := by
  constructor
  intro pins s σ H Q I h
  rw [ht]
  exact lookThen_run he c hm I h fun a H1 s1 I1 q => PySem.W.callWith_K0 (first := [.ref a]) I1.kIn hm.kp (runG (us := [.ref a]) (vs := [.ref a]) F hr hb hd hx I1 (.cons rfl .nil) q)
/-- a new instance: what its __init__ is asked -/
def tMakeG (C : Addr) (n m : Nat) (sp : Sp) (ix : List Nat) (E : XK) (t tk : TA) : TE := fun σ H Q => t σ H fun vs H1 => tk σ H1 fun zs H2 => vs.length = n ∧ zs.length = m ∧ ∀ x dx, H2 x = none → H2 dx = none → dx ≠ x →
  sp (pick ix (.ref x :: (vs ++ zs))) (upd (upd H2 dx (.own x)) x (.ins C dx [])) (fun v H3 => v = .non ∧ Q (.ref x) H3) E
theorem run_makeG {pins : List (Addr × Obj)} {σ : L2.St} {H : Hp} {s : Shared} {Q : VK} {us ws : List Value} {vs zs : List V} (M : Mk X.K C f) (F : FnG X.prog X.w X.K X.mg X.base CX k f fd ps sp) (hr : RG0 (k + 1) X) (hb : KB X.K fd ps (n + 1) ks ix) (hx : Passes CX X E)
    (I : L2.Inv X pins σ H s) (r : Vals vs us) (rz : Vals zs ws) (l1 : vs.length = n) (l2 : zs.length = ks.length)
    (h : ∀ x dx, H x = none → H dx = none → dx ≠ x → sp (pick ix (.ref x :: (vs ++ zs))) (upd (upd H dx (.own x)) x (.ins C dx [])) (fun v H2 => v = .non ∧ Q (.ref x) H2) E) :
    wpAny (model X.prog X.w) X.A (call (.ref C) us (ks.zip ws)) (L2.EP X pins σ Q) X.xe s := by
  have n1 : s.heap.objs.size ≤ s.heap.objs.size + 1 := Nat.le_succ _
  have I2 := Inv.made (C := C) I
  have all : Vals (V.ref (s.heap.objs.size + 1) :: (vs ++ zs)) (Value.ref (s.heap.objs.size + 1) :: (us ++ ws)) := .cons rfl (r.append rz)
  have bind := hb _ (Value.ref (s.heap.objs.size + 1) :: us) ws I2.kIn (by rw [List.length_cons, ← r.length, l1]) (rz.length.symm.trans l2)
  have asked := h _ _ (I.hok.fresh n1) (I.hok.fresh (Nat.le_refl _)) (Nat.ne_of_lt (Nat.lt_succ_self _))
  refine wpAny_call (make_map (f := f) I.kIn M.makes M.init (beq_iff_eq.mp M.fn) (codeAny_mono (F.run _ X.stack _ _ _ _ _ _ E (hr.make C us (ks.zip ws)) (I2.env0.make C us (ks.zip ws)) bind (Vals.pick all ix) asked) ?_))
  rintro (e | _ | _ | _ | u) s' z
  · exact hx pins σ _ _ e s' I2 z
  · exact z.elim
  · exact z.elim
  · exact z.elim
  · obtain ⟨_, H', I3, rv, rfl, q⟩ := I2.after z
    exact ⟨rv, ⟨V.ref (s.heap.objs.size + 1), H', I3, rfl, q⟩⟩
theorem pe_makeG (M : Mk X.K C f) (F : FnG X.prog X.w X.K X.mg X.base CX k f fd ps sp) (hr : RG0 (k + 1) X) (hg : Gl X x) (hm : X.mg x = some (.ref C)) (hb : KB X.K fd ps (n + 1) ks ix) (hx : Passes CX X E) (ha : PA X (e :: es) t) (hkw : PK X kws tk)
    (hall : (backToKw pos (keywordEach kws X.env)).all (·.1.isSome) = true := by rfl) (hks : (backToKw pos (keywordEach kws X.env)).filterMap (·.1) = ks := by rfl) (hdb : (x == ("__debug__" : Str)) = false := by decide)
    (he : starEach (e :: es) X.env = (false, eval e X.env) :: starEach es X.env := by rfl) (hpl : ((backTo pos (starEach (e :: es) X.env)).any (·.1) || (backToKw pos (keywordEach kws X.env)).any (·.1.isNone)) = false := by rfl) :
    PE X (.Call (.Name x p) (e :: es) kws pos) (tMakeG C n ks.length sp ix E t tk) := by
  refine ⟨fun pins s σ H Q I h => wpAny_Call_Name_kw (ld_glob I hg hm ?_ hdb)⟩
  refine PySem.W.callWith_KW (h₀ := X.base) I.ok.mod.kin M.kp hall (thn (ha.run pos pins s σ H _ I h) fun us s1 ⟨vs, H1, I1, r, q⟩ => thn (hkw.run pos pins s1 σ H1 _ I1 q) fun ws s2 ⟨zs, H2, I2, rz, l1, l2, q2⟩ => ⟨I2.kIn, ?_⟩) hpl he
  rw [hks]
  exact run_makeG M F hr hb hx I2 r rz l1 l2 q2
theorem pe_makeG0 (M : Mk X.K C f) (F : FnG X.prog X.w X.K X.mg X.base CX k f fd ps sp) (hr : RG0 (k + 1) X) (hg : Gl X x) (hm : X.mg x = some (.ref C)) (hb : KB X.K fd ps 1 ks ix) (hx : Passes CX X E) (hkw : PK X kws tk)
    (hall : (backToKw pos (keywordEach kws X.env)).all (·.1.isSome) = true := by rfl) (hks : (backToKw pos (keywordEach kws X.env)).filterMap (·.1) = ks := by rfl) (hdb : (x == ("__debug__" : Str)) = false := by decide)
    (hpl : ((backTo pos (starEach [] X.env)).any (·.1) || (backToKw pos (keywordEach kws X.env)).any (·.1.isNone)) = false := by rfl) :
    PE X (.Call (.Name x p) [] kws pos) (tMakeG C 0 ks.length sp ix E tNil tk) := by
  refine ⟨fun pins s σ H Q I h => wpAny_Call_Name_kw (ld_glob I hg hm ?_ hdb)⟩
  refine PySem.W.callWith_KW0 (h₀ := X.base) I.ok.mod.kin M.kp hall (thn (hkw.run pos pins s σ H _ I h) fun ws s2 ⟨zs, H2, I2, rz, l1, l2, q2⟩ => ⟨I2.kIn, ?_⟩) hpl
  rw [hks]
  exact run_makeG (us := []) (vs := []) M F hr hb hx I2 .nil rz rfl l2 q2
/-- o.f as a target -/
def gFld (K : PySem.W.Frag) (ta : TE) (f : Str) : TG := fun v σ H Q => ta σ H fun x H2 => ∃ a C dx fs, x = .ref a ∧ H2 a = some (.ins C dx fs) ∧ Cls K C ∧ NoAttr K C f ∧ fs.length < 1000 ∧ Q σ (upd H2 a (.ins C dx (putF f v fs)))
theorem pg_fld {f : Str} {pos' : Pos} (ho : PE X o ta) : PG X (.Attribute o f pos') (gFld X.K ta f) := by
  refine ⟨fun pins s σ H v u Q I r hw => ?_⟩
  rw [assign_Attribute]
  refine wpAny_bind (wpAny_holding (thn (ho.run pins s σ H _ I hw) fun ov s2 ⟨x, H2, I2, rx, a, C, dx, fs, ex, ea, c, n, l, q2⟩ => ?_))
  subst ex
  obtain rfl : ov = Value.ref a := rx
  refine wpAny_bind (wpAny_standAt ?_)
  refine wpAny_bind (wpAny_holding (setattr_ok I2 ea c n l r fun s3 I3 => ?_))
  exact wpAny_release ⟨σ, _, I3, q2⟩
end
end DL

/-! DLC2: fields read and stored, methods called, instances made: the readings. -/
namespace DL
open PySem L2 PySem.Spec
open PyProof.Rows hiding St
open PySem.PyData (strOk)
set_option autoImplicit false
/-! ### fields by name -/
def getF {α : Type} : List Str → List α → Str → Option α
  | n :: ns, d :: ds, f => if n = f then some d else getF ns ds f
  | _, _, _ => none
def putN : List Str → Str → List Str
  | [], f => [f]
  | g :: r, f => if g = f then g :: r else g :: putN r f
def putL {α : Type} : List Str → List α → Str → α → List α
  | [], _, _, y => [y]
  | g :: r, x :: xs, f, y => if g = f then y :: xs else x :: putL r xs f y
  | _ :: _, [], _, y => [y]
section
variable {K : PySem.W.Frag} {B : Hp}
theorem getF_rep {f : Str} : ∀ {ns : List Str} {ds : List D} {vs : List V} {d : D}, Reps K B ds vs → getF ns ds f = some d → ∃ v, (ns.zip vs).lookup f = some v ∧ Rep K B d v
  | [], _, _, _, _, e => by simp [getF] at e
  | n :: ns, _, _, _, .nil, e => by simp [getF] at e
  | n :: ns, _, _, d, .cons (v := v) h t, e => by
    unfold getF at e
    rw [List.zip_cons_cons, List.lookup_cons]
    by_cases q : n = f
    · rw [if_pos q] at e
      cases e
      subst q
      exact ⟨v, by simp, h⟩
    · rw [if_neg q] at e
      obtain ⟨v', h1, h2⟩ := getF_rep t e
      have : (f == n) = false := by simp; exact fun z => q z.symm
      exact ⟨v', by rw [this]; exact h1, h2⟩
theorem noF : ∀ {ns : List Str} {f : Str} (vs : List V), f ∉ ns → (ns.zip vs).lookup f = none
  | [], _, _, _ => by simp
  | n :: ns, f, [], _ => by simp
  | n :: ns, f, v :: vs, h => by
    rw [List.mem_cons, not_or] at h
    rw [List.zip_cons_cons, List.lookup_cons]
    have : (f == n) = false := by simp; exact h.1
    rw [this]
    exact noF vs h.2
theorem putF_zip {f : Str} {y : V} : ∀ {ns : List Str} {vs : List V}, ns.length = vs.length → putF f y (ns.zip vs) = (putN ns f).zip (putL ns vs f y)
  | [], [], _ => rfl
  | n :: ns, v :: vs, h => by
    rw [List.zip_cons_cons, putF, putN, putL]
    by_cases q : n = f
    · rw [if_pos q, if_pos q, if_pos q, List.zip_cons_cons]
    · rw [if_neg q, if_neg q, if_neg q, List.zip_cons_cons, putF_zip (by simpa using h)]
theorem putL_len {α : Type} {f : Str} {y : α} : ∀ {ns : List Str} {l : List α}, ns.length = l.length → (putN ns f).length = (putL ns l f y).length ∧ (putN ns f).length ≤ ns.length + 1
  | [], [], _ => ⟨rfl, Nat.le_refl _⟩
  | n :: ns, v :: vs, h => by
    rw [putN, putL]
    by_cases q : n = f
    · rw [if_pos q, if_pos q]; exact ⟨by simpa using h, by simp⟩
    · rw [if_neg q, if_neg q]
      have := putL_len (f := f) (y := y) (ns := ns) (l := vs) (by simpa using h)
      simp only [List.length_cons]
      omega
theorem putL_rep {f : Str} {d : D} {v : V} (r : Rep K B d v) : ∀ {ns : List Str} {ds : List D} {vs : List V}, ns.length = ds.length → Reps K B ds vs → Reps K B (putL ns ds f d) (putL ns vs f v)
  | [], [], _, _, .nil => .cons r .nil
  | n :: ns, _, _, hl, .cons h t => by
    rw [putL, putL]
    by_cases q : n = f
    · rw [if_pos q, if_pos q]; exact .cons r t
    · rw [if_neg q, if_neg q]; exact .cons h (putL_rep r (by simpa using hl) t)
end
/-- x.f -/
def hFld (C : Addr) (f : Str) (d : D) (M : Mem) (P : D → Mem → Prop) : Prop := match d with
  | .ob C' ns l => C' = C ∧ ∃ v, getF ns l f = some v ∧ P v M
  | .mob p => ∃ ns l v, M p = some (.ins C ns l) ∧ getF ns l f = some v ∧ P v M
  | _ => False
/-- an instance of C without a field of this name -/
def isOb (C : Addr) (m : Str) (d : D) (M : Mem) : Prop := match d with
  | .ob C' ns _ => C' = C ∧ m ∉ ns
  | .mob p => ∃ ns l, M p = some (.ins C ns l) ∧ m ∉ ns
  | _ => False
/-- a method that may be called -/
structure DM (P : Program) (w : World) (K : PySem.W.Frag) (mg : Str → Option Value) (base : Heap) (C : Addr) (m qual : Str) (st : Stmt) (ps : List Str) (k : Nat) (s : DSpec) : Prop where
  ex : ∃ (f : Addr) (fd : FuncData), Meth K C m f ∧ Fun K m qual st f fd ∧ Binds K fd ps [] ∧ FnG P w K mg base CX0 k f fd ps (spOf K ps.length s)
  cl : Cls K C
theorem DM.mono {P : Program} {w : World} {K : PySem.W.Frag} {mg : Str → Option Value} {base : Heap} {C : Addr} {m qual : Str} {st : Stmt} {ps : List Str} {k j : Nat} {s : DSpec} (h : DM P w K mg base C m qual st ps k s) (hk : k ≤ j) : DM P w K mg base C m qual st ps j s := by
  obtain ⟨f, fd, h1, h2, h3, h4⟩ := h.ex
  exact ⟨⟨f, fd, h1, h2, h3, h4.mono hk⟩, h.cl⟩
/-- a class whose instances may be made -/
structure DI (P : Program) (w : World) (K : PySem.W.Frag) (mg : Str → Option Value) (base : Heap) (C : Addr) (x qual : Str) (st : Stmt) (ps : List Str) (k : Nat) (s : DSpec) : Prop where
  ex : ∃ (f : Addr) (fd : FuncData), Mk K C f ∧ Fun K "__init__" qual st f fd ∧ FnG P w K mg base CX0 k f fd ps (spOf K ps.length s)
  gl : mg x = some (.ref C)
theorem DI.mono {P : Program} {w : World} {K : PySem.W.Frag} {mg : Str → Option Value} {base : Heap} {C : Addr} {x qual : Str} {st : Stmt} {ps : List Str} {k j : Nat} {s : DSpec} (h : DI P w K mg base C x qual st ps k s) (hk : k ≤ j) : DI P w K mg base C x qual st ps j s := by
  obtain ⟨f, fd, h1, h2, h4⟩ := h.ex
  exact ⟨⟨f, fd, h1, h2, h4.mono hk⟩, h.gl⟩
section
variable {X : Cx} {e o a b : Expr} {es : List Expr} {pos apos p pos' : Pos} {fa fb fo : RD} {f : RA} {x m qual : Str} {C : Addr} {st : Stmt} {ps ks : List Str} {k : Nat} {s : DSpec} {kws : List Keyword} {fk : RA}
theorem ob_at {K : PySem.W.Frag} {B : Kn} {H : Hp} (bs : Base K B H) {d : D} {v : V} (r : Rep K B d v) (h : isOb C m d B.m) : ∃ a dx fs, v = .ref a ∧ H a = some (.ins C dx fs) ∧ fs.lookup m = none := by
  cases r with
  | ob h1 h2 h3 => obtain ⟨rfl, hn⟩ := h; exact ⟨_, _, _, rfl, bs.bh _ _ h1, noF _ hn⟩
  | mob p =>
    obtain ⟨ns, l, hM, hn⟩ := h
    obtain ⟨_, dx, vs, e, _⟩ := bs.wd p _ hM
    exact ⟨p, dx, _, rfl, e, noF _ hn⟩
  | _ => exact h.elim
theorem ed_fld {fn : Str} (c : Cls X.K C) (n : NoAttr X.K C fn) (ha : ED X e fa) (hb : attributeBase e fn X.env (eval e X.env) = eval e X.env := by rfl) : ED X (.Attribute e fn pos) (fun ρ M P => fa ρ M fun d M => hFld C fn d M P) := by
  obtain ⟨te, pe, se⟩ := ha.ex
  refine ⟨_, pe_fld pe hb, fun B H ρ σ S P Q st hf k => se B H ρ σ S _ _ st hf fun d v B1 H1 g1 r1 p1 => ?_⟩
  cases r1 with
  | ob h1 h2 h3 =>
    obtain ⟨rfl, u, hu, p1⟩ := p1
    obtain ⟨w, hw, rw'⟩ := getF_rep h3 hu
    exact ⟨_, _, _, _, w, rfl, g1.base.bh _ _ h1, c, n, hw, k u w B1 H1 g1 rw' p1⟩
  | mob p =>
    obtain ⟨ns, l, u, hM, hu, p1⟩ := p1
    obtain ⟨_, dx, vs, e, hl, r⟩ := g1.base.wd p _ hM
    obtain ⟨w, hw, rw'⟩ := getF_rep r hu
    exact ⟨p, _, dx, _, w, rfl, e, c, n, hw, k u w B1 H1 g1 rw' p1⟩
  | _ => exact p1.elim
/-- o.m(e, ..): a method that may change what is told to change -/
theorem eo_meth {pl : Sem Bool} (F : DM X.prog X.w X.K X.mg X.base C m qual st ps k s) (hr : RG0 k X) (ho : ED X o fo) (ha : AD X (e :: es) f)
    (hst : starEach (e :: es) X.env = (false, eval e X.env) :: starEach es X.env := by rfl) (hpl : (backTo pos (starEach es X.env)).any (·.1) = false := by rfl)
    (ht : eval (.Call (.Attribute o m apos) (e :: es) [] pos) X.env = (do
      let ov ← eval o X.env
      standAt apos.atName
      let (f, first) ← holding [ov] (getMethod ov m pl)
      callWith pos f first (backTo pos (starEach (e :: es) X.env)) (backToKw pos (keywordEach [] X.env))) := by rfl) :
    EO X (.Call (.Attribute o m apos) (e :: es) [] pos) (fun ρ M P => fo ρ M fun d M => isOb C m d M ∧ f ρ M fun ds M => ds.length + 1 = ps.length ∧ ∃ i, s.pre i M (d :: ds) ∧ ∀ t M', s.post i M t M' → P t M') := by
  obtain ⟨fa, fd, hm, hF, hb, F'⟩ := F.ex
  obtain ⟨to, po, so⟩ := ho.ex
  obtain ⟨ta, pa, sa⟩ := ha.ex
  refine ⟨_, pe_methG po F.cl hm F' hr hb .nil pass0 pa hst hpl ht, fun B H ρ σ S P Q st hf kk => so B H ρ σ S _ _ st hf fun d v B1 H1 g1 r1 p1 => ?_⟩
  obtain ⟨hob, p1⟩ := p1
  obtain ⟨a, dx, fs, rfl, ea, hl⟩ := ob_at g1.base r1 hob
  refine ⟨a, dx, fs, rfl, ea, hl, sa B1 H1 ρ σ S _ _ (st.grow g1) p1 fun ds vs B2 H2 g2 r2 p2 => ?_⟩
  obtain ⟨hl2, i, p2, p3⟩ := p2
  refine ⟨i, B2, d :: ds, g2.base, by rw [List.append_nil]; exact .cons (r1.up g2.b) r2, hl2, p2, fun t v B' H' T g r o q => ?_⟩
  exact kk t v B' H' T ((g1.trans g2).trans g) r (o.back (g1.trans g2)) (p3 t _ q)
/-- .. that looks at nothing that changes -/
theorem eo_methP {pl : Sem Bool} (F : DM X.prog X.w X.K X.mg X.base C m qual st ps k s) (hr : RG0 k X) (ho : ED X o fo) (ha : AD X (e :: es) f)
    (hst : starEach (e :: es) X.env = (false, eval e X.env) :: starEach es X.env := by rfl) (hpl : (backTo pos (starEach es X.env)).any (·.1) = false := by rfl)
    (ht : eval (.Call (.Attribute o m apos) (e :: es) [] pos) X.env = (do
      let ov ← eval o X.env
      standAt apos.atName
      let (f, first) ← holding [ov] (getMethod ov m pl)
      callWith pos f first (backTo pos (starEach (e :: es) X.env)) (backToKw pos (keywordEach [] X.env))) := by rfl) :
    EO X (.Call (.Attribute o m apos) (e :: es) [] pos) (fun ρ M P => fo ρ M fun d M => isOb C m d M ∧ f ρ M fun ds M => ds.length + 1 = ps.length ∧ ∃ i, s.pre i Mem.no (d :: ds) ∧ ∀ t, (∃ M', s.post i Mem.no t M') → P t M) := by
  obtain ⟨fa, fd, hm, hF, hb, F'⟩ := F.ex
  obtain ⟨to, po, so⟩ := ho.ex
  obtain ⟨ta, pa, sa⟩ := ha.ex
  refine ⟨_, pe_methG po F.cl hm F' hr hb .nil pass0 pa hst hpl ht, fun B H ρ σ S P Q st hf kk => so B H ρ σ S _ _ st hf fun d v B1 H1 g1 r1 p1 => ?_⟩
  obtain ⟨hob, p1⟩ := p1
  obtain ⟨a, dx, fs, rfl, ea, hl⟩ := ob_at g1.base r1 hob
  refine ⟨a, dx, fs, rfl, ea, hl, sa B1 H1 ρ σ S _ _ (st.grow g1) p1 fun ds vs B2 H2 g2 r2 p2 => ?_⟩
  obtain ⟨hl2, i, p2, p3⟩ := p2
  refine ⟨i, B2.still, d :: ds, g2.base.still, by rw [List.append_nil]; exact .cons (r1.up g2.b) r2, hl2, p2, fun t v B' H' T g r o q => ?_⟩
  exact kk t v ⟨B'.b, B2.m⟩ H' T ((g1.trans g2).trans (Grow.unstill g2.base g)) r ((o.unstill g2.base).back (g1.trans g2)) (p3 t ⟨_, q⟩)
end
end DL

/-! DLC3: self.f = e; self.f, self.g = a, b; C(..). -/
namespace DL
open PySem L2 PySem.Spec
open PyProof.Rows hiding St
open PySem.PyData (strOk)
set_option autoImplicit false
section
variable {X : Cx} {e o a b : Expr} {es : List Expr} {pos apos p pos' pos2 : Pos} {fa fb fo : RD} {f : RA} {x m qual : Str} {C : Addr} {st : Stmt} {ps ks : List Str} {k : Nat} {s : DSpec} {kws : List Keyword} {fk : RA} {K : PySem.W.Frag}
/-- a field of an object that changes is stored -/
theorem fld_chg {B : Kn} {H : Hp} {q : Addr} {ns : List Str} {l : List D} {fn : Str} {d : D} {v : V} (bs : Base K B H) (hM : B.m q = some (.ins C ns l)) (hn : ns.length < 900) (r : Rep K B d v) :
    ∃ dx fs, H q = some (.ins C dx fs) ∧ fs.length < 1000 ∧ Grow K B H (B.put q (.ins C (putN ns fn) (putL ns l fn d))) (upd H q (.ins C dx (putF fn v fs))) := by
  obtain ⟨hb, dx, vs, e, hl, rv⟩ := bs.wd q _ hM
  have hlv := rv.length
  refine ⟨dx, ns.zip vs, e, by rw [List.length_zip]; omega, bs.chg (by rw [hM]; exact fun z => nomatch z) ⟨dx, putL ns vs fn v, ?_, (putL_len (f := fn) (y := d) hl).1, putL_rep r hl rv⟩⟩
  rw [upd_same, putF_zip (by omega)]
/-- x.f = e, x an object that changes -/
theorem ds_fld (i : Nat) {px : Pos} {fn : Str} (c : Cls X.K C) (n : NoAttr X.K C fn) (he : ED X e fa) (hN : X.N[i]? = some x := by rfl) (hv : Vis X.env.scope x := by first | exact Or.inl rfl | exact Or.inr (Or.inl rfl) | exact Or.inr (Or.inr rfl)) (hd : (x == ("__debug__" : Str)) = false := by decide) (hcd : (x == ("__classdict__" : Str)) = false := by decide)
    (hs : swapsWith e (some (.Attribute (.Name x px) fn pos')) pos.line X.env = pure false := by rfl) :
    DS X (.Assign [.Attribute (.Name x px) fn pos'] e pos) (fun P ρ M => fa ρ M fun d M => ∃ q ns l, ρ[i]? = some (some (.fz (.mob q))) ∧ M q = some (.ins C ns l) ∧ ns.length < 900 ∧ P.nx ρ (M.put q (.ins C (putN ns fn) (putL ns l fn d)))) := by
  obtain ⟨te, pe, se⟩ := he.ex
  refine ⟨_, ps_fld (pe_var hN hv hd hcd) pe hs, fun B0 H0 B H ρ σ S P D s hg k1 k2 k3 k4 => se B H ρ σ S _ _ s.st hg fun d v B1 H1 g1 r1 hk1 => ?_⟩
  have s1 := s.grow g1
  obtain ⟨q, ns, l, el, hM, hn, hk1⟩ := hk1
  obtain ⟨vq, T, hσ, rq, _⟩ := s1.slot el
  cases rq with
  | fz rq =>
    cases rq
    obtain ⟨dx, fs, e1, e2, g2⟩ := fld_chg (fn := fn) g1.base hM hn r1
    exact ⟨_, hσ, q, C, dx, fs, rfl, e1, c, n, e2, k1 _ _ _ _ S (s1.grow g2) hk1⟩
/-- x.f = [], a list that changes behind one's back -/
theorem ds_fldNew (i : Nat) {px lp : Pos} {fn : Str} (c : Cls X.K C) (n : NoAttr X.K C fn) (hN : X.N[i]? = some x := by rfl) (hv : Vis X.env.scope x := by first | exact Or.inl rfl | exact Or.inr (Or.inl rfl) | exact Or.inr (Or.inr rfl)) (hd : (x == ("__debug__" : Str)) = false := by decide) (hcd : (x == ("__classdict__" : Str)) = false := by decide)
    (hs : swapsWith (.List [] lp) (some (.Attribute (.Name x px) fn pos')) pos.line X.env = pure false := by rfl) :
    DS X (.Assign [.Attribute (.Name x px) fn pos'] (.List [] lp) pos) (fun P ρ M => ∃ q ns l, ρ[i]? = some (some (.fz (.mob q))) ∧ M q = some (.ins C ns l) ∧ ns.length < 900 ∧ ∀ z, M z = none → P.nx ρ ((M.put z (.lst [])).put q (.ins C (putN ns fn) (putL ns l fn (.mob z))))) := by
  refine ⟨_, ps_fld (pe_var hN hv hd hcd) (pe_lst pa_nil) hs, fun B0 H0 B H ρ σ S P D s hg k1 k2 k3 k4 => ⟨Nat.zero_le _, fun z hz => ?_⟩⟩
  obtain ⟨q, ns, l, el, hM, hn, hk1⟩ := hg
  obtain ⟨g1, nb, nm⟩ := s.st.base.newO (o := .lst []) hz
  have g2 : Grow X.K B H (B.put z (.lst [])) (L2.upd H z (.lst [])) := g1.mob hz nb nm ⟨[], upd_same, Nat.zero_le _, .nil⟩
  have s1 := s.grow g2
  obtain ⟨vq, T, hσ, rq, _⟩ := s1.slot el
  have hqz : q ≠ z := fun e => by rw [e, nm] at hM; cases hM
  cases rq with
  | fz rq =>
    cases rq
    obtain ⟨dx, fs, e1, e2, g3⟩ := fld_chg (fn := fn) (d := .mob z) (v := .ref z) g2.base (show (B.put z (.lst [])).m q = some (.ins C ns l) from (Mem.put_ne hqz).trans hM) hn (.mob z)
    exact ⟨_, hσ, q, C, dx, fs, rfl, e1, c, n, e2, k1 _ _ _ _ S (s1.grow g3) (hk1 z nm)⟩
/-- x.f, x.g = (a, b) -/
theorem ds_fld2 (i : Nat) {px px2 tp : Pos} {f1 f2 : Str} {kt k2 : _} (hc : X.calm = true) (c : Cls X.K C) (n1 : NoAttr X.K C f1) (n2 : NoAttr X.K C f2) (ha : AD X [a, b] f) (hN : X.N[i]? = some x := by rfl) (hv : Vis X.env.scope x := by first | exact Or.inl rfl | exact Or.inr (Or.inl rfl) | exact Or.inr (Or.inr rfl)) (hd : (x == ("__debug__" : Str)) = false := by decide) (hcd : (x == ("__classdict__" : Str)) = false := by decide)
    (hs : swapsWithSole [.Tuple [.Attribute (.Name x px) f1 pos', .Attribute (.Name x px2) f2 pos2] kt tp] (.Tuple [a, b] k2 p) pos.line X.env = pure false := by rfl)
    (hw : swappedStores [.Tuple [.Attribute (.Name x px) f1 pos', .Attribute (.Name x px2) f2 pos2] kt tp] (.Tuple [a, b] k2 p) X.env = pure none := by rfl)
    (h1 : (assignEach [.Tuple [.Attribute (.Name x px) f1 pos', .Attribute (.Name x px2) f2 pos2] kt tp] X.env).map (·.2) = [assign (.Tuple [.Attribute (.Name x px) f1 pos', .Attribute (.Name x px2) f2 pos2] kt tp) X.env] := by rfl)
    (hn1 : (assignEach [.Attribute (.Name x px) f1 pos', .Attribute (.Name x px2) f2 pos2] X.env).length = 2 := by rfl) (hst1 : (assignEach [.Attribute (.Name x px) f1 pos', .Attribute (.Name x px2) f2 pos2] X.env).findIdx? (·.1) = none := by rfl)
    (hp1 : (assignEach [.Attribute (.Name x px) f1 pos', .Attribute (.Name x px2) f2 pos2] X.env).map (·.2) = assign (.Attribute (.Name x px) f1 pos') X.env :: (assignEach [.Attribute (.Name x px2) f2 pos2] X.env).map (·.2) := by rfl)
    (hp2 : (assignEach [.Attribute (.Name x px2) f2 pos2] X.env).map (·.2) = assign (.Attribute (.Name x px2) f2 pos2) X.env :: (assignEach [] X.env).map (·.2) := by rfl) :
    DS X (.Assign [.Tuple [.Attribute (.Name x px) f1 pos', .Attribute (.Name x px2) f2 pos2] kt tp] (.Tuple [a, b] k2 p) pos) (fun P ρ M => f ρ M fun ds M => ∃ d1 d2 q ns l, ds = [d1, d2] ∧ ρ[i]? = some (some (.fz (.mob q))) ∧ M q = some (.ins C ns l) ∧ ns.length < 800 ∧
      P.nx ρ (M.put q (.ins C (putN (putN ns f1) f2) (putL (putN ns f1) (putL ns l f1 d1) f2 d2)))) := by
  obtain ⟨ta, pa, sa⟩ := ha.ex
  refine ⟨_, ps_asg (pe_tup pa) (pg_tup hc (pgs_cons (pg_fld (pe_var hN hv hd hcd)) (pgs_cons (pg_fld (pe_var hN hv hd hcd)) pgs_nil hp2) hp1) hn1 hst1) hs hw h1, fun B0 H0 B H ρ σ S P D s hg k1 k2 k3 k4 => sa B H ρ σ S _ _ s.st hg fun ds vs B1 H1 g1 r1 hk1 => ?_⟩
  obtain ⟨d1, d2, q, ns, l, rfl, el, hM, hn, hk1⟩ := hk1
  cases r1 with
  | @cons _ v1 _ _ r1 r2 =>
    cases r2 with
    | @cons _ v2 _ _ r2 r3 =>
      cases r3
      refine ⟨by show 2 ≤ sizeLine; decide, fun tz htz => ?_⟩
      have g2 := g1.base.new (o := .tup [v1, v2]) htz
      have s2 := (s.grow g1).grow g2
      obtain ⟨vq, T, hσ, rq, _⟩ := s2.slot el
      cases rq with
      | fz rq =>
        cases rq
        refine ⟨tz, [v1, v2], rfl, Evl.st_of upd_same, rfl, v1, [v2], rfl, _, hσ, ?_⟩
        obtain ⟨dx, fs, e1, e2, g3⟩ := fld_chg (fn := f1) (d := d1) (v := v1) g2.base hM (by omega) (r1.up g2.b)
        refine ⟨q, C, dx, fs, rfl, e1, c, n1, e2, v2, [], rfl, ?_⟩
        have s3 := s2.grow g3
        have hlen := (g2.base.wd q _ hM).2
        obtain ⟨_, _, _, hl, _⟩ := hlen
        have pl := putL_len (f := f1) (y := d1) hl
        obtain ⟨dx', fs', e1', e2', g4⟩ := fld_chg (C := C) (q := q) (ns := putN ns f1) (l := putL ns l f1 d1) (fn := f2) (d := d2) (v := v2) g3.base Mem.put_same (by omega) ((r2.up g2.b).up g3.b)
        refine ⟨_, hσ, q, C, dx', fs', rfl, e1', c, n2, e2', rfl, ?_⟩
        refine k1 _ _ _ _ S (s3.grow g4) ?_
        show P.nx ρ ((B1.m.put q _).put q _)
        rw [Mem.put_put]
        exact hk1
/-- what a new instance was made into becomes known -/
theorem made_known {B B' : Kn} {H H' : Hp} {q dx : Addr} {ns : List Str} {l : List D} (bs : Base K B H) (hq : H q = none) (hdx : H dx = none) (hne : dx ≠ q) (g : Grow K ⟨B.b, Mem.no.put q (.ins C [] [])⟩ (upd (upd H dx (.own q)) q (.ins C dx [])) B' H') (hM : B'.m q = some (.ins C ns l)) :
    ∃ v B2, Grow K B H B2 H' ∧ B2.m = B.m ∧ Rep K B2 (.ob C ns l) v ∧ v = .ref q := by
  obtain ⟨hb, dx', vs, e, hl, rv⟩ := g.base.wd q _ hM
  have hup : ∀ z o, H z = some o → upd (upd H dx (.own q)) q (.ins C dx []) z = some o := fun z o h => by
    have n1 : z ≠ q := fun w => by rw [w, hq] at h; cases h
    have n2 : z ≠ dx := fun w => by rw [w, hdx] at h; cases h
    rw [upd_ne n1, upd_ne n2]; exact h
  have hk : ∀ z o, H z = some o → H' z = some o := fun z o h => g.h z o (by
    have n1 : z ≠ q := fun w => by rw [w, hq] at h; cases h
    exact Mem.put_ne n1) (hup z o h)
  have hfree : ∀ z, upd (upd H dx (.own q)) q (.ins C dx []) z = none → H z = none := fun z h => by
    cases w : H z with
    | none => rfl
    | some o => rw [hup z o w] at h; cases h
  have eb : Ext B'.b (L2.upd B'.b q (.ins C dx' (ns.zip vs))) := Evl.Ex.new hb
  refine ⟨.ref q, ⟨L2.upd B'.b q (.ins C dx' (ns.zip vs)), B.m⟩, ⟨g.b.trans eb, fun z o _ h => hk z o h, fun z h => h, fun z h => .inl h, fun z o h => ?_, ⟨fun z o h => ?_, fun z o h => ?_⟩⟩, rfl, .ob (vs := vs) upd_same hl (rv.up eb), rfl⟩
  · by_cases w : z = q
    · rw [w]; exact .inr hq
    · have h : L2.upd B'.b q (.ins C dx' (ns.zip vs)) z = some o := h
      rw [upd_ne w] at h
      exact (g.f z o h).imp id (hfree z)
  · by_cases w : z = q
    · have h : L2.upd B'.b q (.ins C dx' (ns.zip vs)) z = some o := h
      rw [w, upd_same] at h
      rw [w]; cases h; exact e
    · have h : L2.upd B'.b q (.ins C dx' (ns.zip vs)) z = some o := h
      rw [upd_ne w] at h
      exact g.base.bh z o h
  · obtain ⟨h1, h2⟩ := bs.wd z o h
    have w : z ≠ q := fun w => h2.some (by rw [w]; exact hq)
    refine ⟨?_, (h2.mono (g.b.trans eb) ?_)⟩
    · show L2.upd B'.b q (.ins C dx' (ns.zip vs)) z = none
      rw [upd_ne w]
      cases y : B'.b z with
      | none => rfl
      | some u =>
        rcases g.f z u y with t | t
        · have t : B.b z = some u := t
          rw [h1] at t; cases t
        · exact absurd (hfree z t) h2.some
    · cases y : H z with
      | none => exact absurd y h2.some
      | some u => exact hk z u y
theorem new_base {B : Kn} {H : Hp} {q dx : Addr} (bs : Base K B H) (hq : H q = none) (hdx : H dx = none) (hne : dx ≠ q) : Base K ⟨B.b, Mem.no.put q (.ins C [] [])⟩ (upd (upd H dx (.own q)) q (.ins C dx [])) := by
  refine ⟨fun z o h => ?_, fun z o h => ?_⟩
  · have h1 := bs.bh z o h
    have n1 : z ≠ q := fun w => by rw [w, hq] at h1; cases h1
    have n2 : z ≠ dx := fun w => by rw [w, hdx] at h1; cases h1
    rw [upd_ne n1, upd_ne n2]; exact h1
  · by_cases w : z = q
    · subst w
      have h : Mem.no.put z (.ins C [] []) z = some o := h
      rw [Mem.put_same] at h
      cases h
      exact ⟨(bs.fresh hq).1, dx, [], upd_same, rfl, .nil⟩
    · have h : Mem.no.put q (.ins C [] []) z = some o := h
      rw [Mem.put_ne w] at h
      cases h
/-- C(e, .., k = v, ..): n positional ones, ix: which each parameter gets (the instance itself first); an instance that never changes again -/
theorem ed_makeP (F : DI X.prog X.w X.K X.mg X.base C x qual st ps k s) (hr : RG0 (k + 1) X) (n : Nat) (ks : List Str) (ix : List Nat) (hb : ∀ (kV doc pm : Value) (an : Option Addr) (cdv ct : Value) (us ws : List Value), us.length = n + 1 → ws.length = ks.length →
      bindArgs (PySem.W.fnOf "__init__" qual (defArgs st) (defBody st) (defScope st) .none kV doc pm an cdv ct) ⟨us, ks.zip ws⟩ = pure (ps.zip (pick ix (us ++ ws))))
    (ha : AD X (e :: es) f) (hkw : KD X kws fk) (hg : Gl X x := by rfl) (hall : (backToKw pos (keywordEach kws X.env)).all (·.1.isSome) = true := by rfl) (hks : (backToKw pos (keywordEach kws X.env)).filterMap (·.1) = ks := by rfl) (hdb : (x == ("__debug__" : Str)) = false := by decide)
    (he : starEach (e :: es) X.env = (false, eval e X.env) :: starEach es X.env := by rfl) (hpl : ((backTo pos (starEach (e :: es) X.env)).any (·.1) || (backToKw pos (keywordEach kws X.env)).any (·.1.isNone)) = false := by rfl) :
    ED X (.Call (.Name x p) (e :: es) kws pos) (fun ρ M P => f ρ M fun ds M => fk ρ M fun zs M => ds.length = n ∧ zs.length = ks.length ∧ (∀ q : Addr, (pick ix (D.mob q :: (ds ++ zs))).length = ps.length) ∧ ∀ q, ∃ i, s.pre i (Mem.no.put q (.ins C [] [])) (pick ix (.mob q :: (ds ++ zs))) ∧
      ∀ t M', s.post i (Mem.no.put q (.ins C [] [])) t M' → t = .fz .non ∧ ∃ ns l, M' q = some (.ins C ns l) ∧ P (.ob C ns l) M) := by
  obtain ⟨fi, fd, hM, hF, F'⟩ := F.ex
  obtain ⟨ta, pa, sa⟩ := ha.ex
  obtain ⟨tk, pk, sk⟩ := hkw.ex
  refine ⟨_, pe_makeG hM F' hr hg F.gl (Fun.kb hF (n + 1) ks ix hb) pass0 pa pk hall hks hdb he hpl, fun B H ρ σ S P Q st hf kk => sa B H ρ σ S _ _ st hf fun ds vs B1 H1 g1 r1 p1 => sk B1 H1 ρ σ S _ _ (st.grow g1) p1 fun zs ws B2 H2 g2 r2 p2 => ?_⟩
  obtain ⟨l1, l2, l3, p2⟩ := p2
  have r := (r1.up g2.b).append r2
  refine ⟨r1.length.symm.trans l1, r2.length.symm.trans l2, fun q dx hq hdx hne => ?_⟩
  obtain ⟨i, p3, p4⟩ := p2 q
  refine ⟨i, ⟨B2.b, Mem.no.put q (.ins C [] [])⟩, _, new_base g2.base hq hdx hne, Reps.pick (.cons (.mob q) r) ix, l3 q, p3, fun t v B' H' T g rt o z => ?_⟩
  obtain ⟨rfl, ns, l, hM', pp⟩ := p4 t _ z
  cases rt with
  | fz rt =>
    cases rt
    obtain ⟨v, B3, g3, em, rv, rfl⟩ := made_known g2.base hq hdx hne g hM'
    exact ⟨rfl, kk _ _ B3 H' ((g1.trans g2).trans g3) rv (by rw [em]; exact pp)⟩
end
end DL

/-! DLO: x < y of any data; a text sign by sign; what is never reached; x[k].append(e) .. . -/
namespace DL
open PySem L2 PySem.Spec
open PyProof.Rows hiding St
open PySem.PyData (strOk)
set_option autoImplicit false
section
variable {X : Cx} {tg e ei a b c : Expr} {es : List Expr} {pos cpos apos p : Pos} {fo : RO} {fa fb fc : RD} {f : RA} {x : Str} {K : PySem.W.Frag} {st : Stmt}
/-! ### order -/
def rCmpD (K : PySem.W.Frag) (g : PyData → PyData → Bool) : R2 := fun x y H Q => ∃ d e, Dp K H x d ∧ Dp K H y e ∧ PySem.W.alike d e = true ∧ d ≠ .none ∧ min d.depth e.depth ≤ 100 ∧ Q (.bl (g d e)) H
theorem op_ltD (hu : X.A.units + 200 < cLine) : OpR X (compareOp .Lt) (rCmpD X.K PySem.W.dataLt) := by
  intro pins s σ H x y v u Q I rx ry h
  obtain ⟨d, e, hd, he, ha, hn, hm, q⟩ := h
  obtain ⟨as, r1⟩ := Dp.reads I d x v hd rx
  obtain ⟨bs, r2⟩ := Dp.reads I e y u he ry
  exact PySem.W.lt_data r1 r2 ha hn (by omega) ⟨.bl _, H, I, rfl, q⟩
theorem op_gtD (hu : X.A.units + 200 < cLine) : OpR X (compareOp .Gt) (rCmpD X.K fun d e => PySem.W.dataLt e d) := by
  intro pins s σ H x y v u Q I rx ry h
  obtain ⟨d, e, hd, he, ha, hn, hm, q⟩ := h
  obtain ⟨as, r1⟩ := Dp.reads I d x v hd rx
  obtain ⟨bs, r2⟩ := Dp.reads I e y u he ry
  exact PySem.W.gt_data r1 r2 ha hn (by omega) ⟨.bl _, H, I, rfl, q⟩
theorem op_leD (hu : X.A.units + 200 < cLine) : OpR X (compareOp .LtE) (rCmpD X.K fun d e => !PySem.W.dataLt e d) := by
  intro pins s σ H x y v u Q I rx ry h
  obtain ⟨d, e, hd, he, ha, hn, hm, q⟩ := h
  obtain ⟨as, r1⟩ := Dp.reads I d x v hd rx
  obtain ⟨bs, r2⟩ := Dp.reads I e y u he ry
  exact PySem.W.le_data r1 r2 ha hn (by omega) ⟨.bl _, H, I, rfl, q⟩
theorem op_geD (hu : X.A.units + 200 < cLine) : OpR X (compareOp .GtE) (rCmpD X.K fun d e => !PySem.W.dataLt d e) := by
  intro pins s σ H x y v u Q I rx ry h
  obtain ⟨d, e, hd, he, ha, hn, hm, q⟩ := h
  obtain ⟨as, r1⟩ := Dp.reads I d x v hd rx
  obtain ⟨bs, r2⟩ := Dp.reads I e y u he ry
  exact PySem.W.ge_data r1 r2 ha hn (by omega) ⟨.bl _, H, I, rfl, q⟩
/-- two that may be told apart by < -/
def D.ltOk (x y : D) : Bool := x.plain && y.plain && D.alk x y && !(match x with | .non => true | _ => false) && decide (min x.dep y.dep ≤ 100)
def hLt (g : D → D → Bool) (x y : D) (M : Mem) (P : D → Mem → Prop) : Prop := D.ltOk x y = true ∧ P (.bl (g x y)) M
theorem sr_cmpD {g : PyData → PyData → Bool} {h : D → D → Bool} (e : ∀ x y, h x y = g x.toP y.toP) : SR2 K (rCmpD K g) (hLt h) := by
  intro B H x y vx vy P Q bs rx ry hh k
  obtain ⟨hok, p⟩ := hh
  unfold D.ltOk at hok
  simp only [Bool.and_eq_true, decide_eq_true_eq, Bool.not_eq_true'] at hok
  obtain ⟨⟨⟨⟨h1, h2⟩, h3⟩, h4⟩, h5⟩ := hok
  refine ⟨x.toP, y.toP, (rx.up Hm_ext).dp _ _ h1, (ry.up Hm_ext).dp _ _ h2, h3, ?_, ?_, ?_⟩
  · cases x <;> simp [D.toP] at h4 ⊢
  · have := D.dep_toP x; have := D.dep_toP y; omega
  · have := k (.bl (h x y)) (.bl (h x y)) B H bs.grow (.bl _) p
    rwa [e x y] at this
def gtD (x y : D) : Bool := D.lt y x
def leD (x y : D) : Bool := !D.lt y x
def geD (x y : D) : Bool := !D.lt x y
theorem sr_ltD : SR2 K (rCmpD K PySem.W.dataLt) (hLt D.lt) := sr_cmpD fun _ _ => rfl
theorem sr_gtD : SR2 K (rCmpD K fun d e => PySem.W.dataLt e d) (hLt gtD) := sr_cmpD fun _ _ => rfl
theorem sr_leD : SR2 K (rCmpD K fun d e => !PySem.W.dataLt e d) (hLt leD) := sr_cmpD fun _ _ => rfl
theorem sr_geD : SR2 K (rCmpD K fun d e => !PySem.W.dataLt d e) (hLt geD) := sr_cmpD fun _ _ => rfl
theorem ec_ltD (hu : X.A.units + 200 < cLine) (ha : EV X a fa) (hb : EV X b fb) : EC X (.Compare a [.Lt] [b] pos) (fun ρ M P => fa ρ M fun x M => fb ρ M fun y M => hLt D.lt x y M P) := ec_cmp (op_ltD hu) sr_ltD ha hb
theorem ec_gtD (hu : X.A.units + 200 < cLine) (ha : EV X a fa) (hb : EV X b fb) : EC X (.Compare a [.Gt] [b] pos) (fun ρ M P => fa ρ M fun x M => fb ρ M fun y M => hLt gtD x y M P) := ec_cmp (op_gtD hu) sr_gtD ha hb
theorem ec_leD (hu : X.A.units + 200 < cLine) (ha : EV X a fa) (hb : EV X b fb) : EC X (.Compare a [.LtE] [b] pos) (fun ρ M P => fa ρ M fun x M => fb ρ M fun y M => hLt leD x y M P) := ec_cmp (op_leD hu) sr_leD ha hb
theorem ec_geD (hu : X.A.units + 200 < cLine) (ha : EV X a fa) (hb : EV X b fb) : EC X (.Compare a [.GtE] [b] pos) (fun ρ M P => fa ρ M fun x M => fb ρ M fun y M => hLt geD x y M P) := ec_cmp (op_geD hu) sr_geD ha hb
/-! ### signs of a text -/
def signs (x : Str) : List D := x.cps.toList.map fun c => .str ⟨#[c]⟩
theorem strOk_sign {x : Str} (h : strOk x = true) {c : Nat} (hc : c ∈ x.cps.toList) : strOk ⟨#[c]⟩ = true := by
  unfold strOk at h ⊢
  rw [Array.all_eq_true'] at h ⊢
  intro z hz
  have : z = c := by simpa using hz
  rw [this]
  exact h c (by simpa using hc)
theorem walks_str {B0 : Hp} {x : Str} (h : strOk x = true) : Walks K (Its x) (signs x) B0 where
  go := fun B H i d e bs hd => by
    unfold signs at hd
    rw [List.getElem?_map] at hd
    cases hc : x.cps.toList[i]? with
    | none => rw [hc] at hd; cases hd
    | some c =>
      rw [hc] at hd
      cases hd
      refine ⟨?_, fun z H' y => ?_⟩
      · have := (List.getElem?_eq_some_iff.mp hc).1
        show i < x.cps.size
        simpa using this
      · obtain ⟨rfl, c', hc', rfl⟩ := y
        rw [Array.getElem?_toList] at hc
        rw [hc] at hc'
        cases hc'
        exact ⟨B, bs.grow, rfl, .str (strOk_sign h (by rw [← Array.getElem?_toList] at hc; exact List.mem_of_getElem? hc))⟩
  stop := fun B H i e bs hi => by
    unfold signs at hi
    rw [List.length_map, Array.length_toList] at hi
    exact hi
theorem ei_str (ha : ED X e fa) : EI X tg e (fun ρ M P => fa ρ M fun d M => ∃ x, d = .str x ∧ x.length ≤ sizeLine ∧ P (signs x) M) := by
  obtain ⟨te, hp, hs⟩ := ha.ex
  refine ⟨_, pi_str hp, fun B H ρ σ S P R st hf k => hs B H ρ σ S _ _ st hf fun d v B' H' g r p => ?_⟩
  obtain ⟨x, rfl, hz, p⟩ := p
  cases r with
  | str h => exact ⟨x, rfl, k _ _ B' H' g (walks_str h) (by unfold signs; rw [List.length_map, Array.length_toList]; exact hz) p⟩
/-! ### a list of one's own within a list of one's own -/
theorem SttF.inner {B0 B : Kn} {H0 H : Hp} {ρ : Env} {σ : L2.St} {S : List Addr} {i j : Nat} {l l1 : List OT} (s : SttF K B0 H0 B H ρ σ S) (e : ρ[i]? = some (some (.ow l))) (hj : l[j]? = some (.ow l1)) :
    ∃ p q xs xs1, σ[i]? = some (some (.ref p)) ∧ H p = some (.lst xs) ∧ xs.length = l.length ∧ xs[j]? = some (.ref q) ∧ H q = some (.lst xs1) ∧ xs1.length = l1.length ∧ B.m p = none ∧ B.m q = none ∧ l1.length ≤ sizeLine ∧
      ∀ (B1 : Kn) (H1 : Hp), Grow K B H B1 H1 → ∀ (l2 : List OT) (xs2 : List V), l2.length ≤ sizeLine → (∀ T, RepOs K B1.b H1 l1 xs1 T → ∃ T2, RepOs K B1.b H1 l2 xs2 T2 ∧ T2.Sublist T) → ∃ S', SttF K B0 H0 B1 (upd H1 q (.lst xs2)) (ρ.set i (some (.ow (l.set j (.ow l2))))) σ S' := by
  obtain ⟨v1, T, hσ, r, ndT, outT, edit⟩ := s.edit e
  cases r with
  | @ow p xs _ T hp hln hr =>
    obtain ⟨Aa, T1, Cc, vj, hT, hxj, rj, putj⟩ := hr.split hj
    cases rj with
    | @ow q xs1 _ T1' hq hln1 hr1 =>
      have qT : q ∈ p :: T := by rw [hT]; simp
      refine ⟨p, q, xs, xs1, hσ, hp, hr.length.symm, hxj, hq, hr1.length.symm, (outT p List.mem_cons_self).2.1, (outT q qT).2.1, hln1, fun B1 H1 g l2 xs2 hl2 mk => ?_⟩
      have some1 : ∀ z ∈ p :: T, (H z).isSome = true := fun z hz => by
        rcases List.mem_cons.mp hz with rfl | hz
        · rw [hp]; rfl
        · exact hr.some z hz
      have same5 : ∀ z ∈ p :: T, H1 z = H z := fun z hz => g.same (some1 z hz) (outT z hz).2.1
      have ndq := List.nodup_cons.mp ndT
      have hTn := ndq.2
      rw [hT] at hTn
      have pq : p ≠ q := fun e => ndq.1 (by rw [e, hT]; simp)
      have inT : ∀ z ∈ T1', z ∈ p :: T := fun z hz => by rw [hT]; simp [hz]
      have n1 : ∀ z ∈ T1', z ≠ q := fun z hz e => by
        have h1 := (List.nodup_append.mp hTn).2.1
        have h2 := (List.nodup_append.mp h1).1
        exact (List.nodup_cons.mp h2).1 (by rw [← e]; exact hz)
      have acq : ∀ z ∈ Aa ++ Cc, z ∈ p :: T ∧ z ≠ q := fun z hz => by
        refine ⟨by rw [hT]; rcases List.mem_append.mp hz with w | w <;> simp [w], fun e => ?_⟩
        have h1 := List.nodup_append.mp hTn
        rcases List.mem_append.mp hz with w | w
        · exact h1.2.2 z w q (by simp) e
        · exact (List.nodup_append.mp h1.2.1).2.2 q (by simp) z w e.symm
      obtain ⟨T2, b1, b2⟩ := mk T1' (hr1.mono g.b _ _ _ fun z hz => same5 z (inT z hz))
      have inner : RepO K B1.b (L2.upd H1 q (.lst xs2)) (.ow l2) (.ref q) (q :: T2) := .ow upd_same hl2 (b1.mono Ext.rfl _ _ _ fun z hz => upd_ne (n1 z (b2.subset hz)))
      have outer := putj B1.b (L2.upd H1 q (.lst xs2)) _ _ g.b (fun z hz => by rw [upd_ne (acq z hz).2]; exact same5 z (acq z hz).1) inner
      have sub2 : (p :: (Aa ++ ((q :: T2) ++ Cc))).Sublist (p :: T) := by
        rw [hT]
        exact (List.Sublist.append_left (List.Sublist.append_right (b2.cons₂ q) Cc) Aa).cons₂ p
      exact edit B1 H1 q (.lst xs2) (.ow (l.set j (.ow l2))) (p :: (Aa ++ ((q :: T2) ++ Cc))) g qT (.ow (by rw [upd_ne pq, same5 p List.mem_cons_self]; exact hp) (by rw [List.length_set]; exact hln) outer) (ndT.sublist sub2) (fun z hz => .inl (sub2.subset hz))
/-- x[k].append(e) -/
theorem ds_appendIx (i : Nat) {px sp : Pos} (hk : ED X ei fb) (he : ED X e fa) (hN : X.N[i]? = some x := by rfl) (hv : Vis X.env.scope x := by first | exact Or.inl rfl | exact Or.inr (Or.inl rfl) | exact Or.inr (Or.inr rfl)) (hd : (x == ("__debug__" : Str)) = false := by decide) (hcd : (x == ("__classdict__" : Str)) = false := by decide)
    (hp : PlainIx ei := by exact fun _ _ => rfl)
    (hs : swapsWith (.Call (.Attribute (.Subscript (.Name x px) ei sp) "append" apos) [e] [] cpos) none pos.line X.env = pure false := by rfl)
    (hbase : attributeBase (.Subscript (.Name x px) ei sp) "append" X.env (eval (.Subscript (.Name x px) ei sp) X.env) = eval (.Subscript (.Name x px) ei sp) X.env := by rfl)
    (hfew : ((backTo cpos (starEach [e] X.env)).all (fun x => !x.1) && (backToKw cpos (keywordEach [] X.env)).all (fun x => x.1.isSome) && decide ([e].length + ([] : List Keyword).length + (if ([] : List Keyword).isEmpty then 0 else 1) < 30)) = true := by rfl)
    (hline : (apos.endLine == cpos.line) = true := by rfl) (hst : starEach [e] X.env = (false, eval e X.env) :: starEach [] X.env := by rfl) (hplain : (backTo cpos (starEach [] X.env)).any (·.1) = false := by rfl) :
    DS X (.Expr (.Call (.Attribute (.Subscript (.Name x px) ei sp) "append" apos) [e] [] cpos) pos) (fun P ρ M => ∃ l, ρ[i]? = some (some (.ow l)) ∧ fb ρ M fun n M => ∃ k j l1, n = .int k ∧ ixN l.length k = some j ∧ l[j]? = some (.ow l1) ∧ fa ρ M fun d M => l1.length < sizeLine ∧ P.nx (ρ.set i (some (.ow (l.set j (.ow (l1 ++ [.fz d])))))) M) := by
  obtain ⟨tb, pb, sb⟩ := hk.ex
  obtain ⟨te, pe, se⟩ := he.ex
  refine ⟨_, ps_expr (pe_bm PySem.F.plainAttrs_list PySem.F.slot_list_append PySem.F.type_list_append mt_append (pe_ix ix_list (pe_var hN hv hd hcd) pb hp) (pa_cons pe pa_nil hst) hbase hfew hline hst hplain) hs, fun B0 H0 B H ρ σ S P D s hg k1 k2 k3 k4 => ?_⟩
  obtain ⟨l, el, hg⟩ := hg
  obtain ⟨A, T0, C, hS, h2, _⟩ := s.st.sim.split el
  obtain ⟨v0, hσ0, _⟩ := h2 _ rfl
  refine ⟨v0, hσ0, sb B H ρ σ S _ _ s.st hg fun n vn B1 H1 g1 r1 p1 => ?_⟩
  obtain ⟨kk, j, l1, rfl, hj, hlj, p1⟩ := p1
  cases r1
  have s1 := s.grow g1
  obtain ⟨p, q, xs, xs1, hσ, hp', hxl, hxj, hq, hxl1, nmp, nmq, hl1, go⟩ := s1.inner el hlj
  rw [hσ0] at hσ
  cases hσ
  refine ⟨p, xs, kk, .ref q, rfl, rfl, Evl.sq_of hp', ?_, .inl ⟨rfl, _, Evl.sq_of hq⟩, ?_⟩
  · unfold atI
    rw [hxl, hj]
    exact hxj
  · refine se B1 H1 ρ σ S _ _ s1.st p1 fun d v B2 H2 g2 r2 p2 => ?_
    obtain ⟨hll, p2⟩ := p2
    refine ⟨q, xs1, v, rfl, rfl, g2.h q _ nmq hq, by omega, ?_⟩
    obtain ⟨S', s'⟩ := go B2 H2 g2 (l1 ++ [.fz d]) (xs1 ++ [v]) (by rw [List.length_append, List.length_singleton]; omega) fun T r => ⟨T, by
      have := RepOs.append r (RepOs.cons (RepO.fz (H := H2) r2) .nil)
      rwa [List.append_nil, List.append_nil] at this, List.Sublist.refl _⟩
    exact k1 _ _ _ _ S' s' p2
theorem ds_clearIx (i : Nat) {px sp : Pos} (hk : ED X ei fb) (hN : X.N[i]? = some x := by rfl) (hv : Vis X.env.scope x := by first | exact Or.inl rfl | exact Or.inr (Or.inl rfl) | exact Or.inr (Or.inr rfl)) (hd : (x == ("__debug__" : Str)) = false := by decide) (hcd : (x == ("__classdict__" : Str)) = false := by decide)
    (hp : PlainIx ei := by exact fun _ _ => rfl) (hs : swapsWith (.Call (.Attribute (.Subscript (.Name x px) ei sp) "clear" apos) [] [] cpos) none pos.line X.env = pure false := by rfl)
    (hbase : attributeBase (.Subscript (.Name x px) ei sp) "clear" X.env (eval (.Subscript (.Name x px) ei sp) X.env) = eval (.Subscript (.Name x px) ei sp) X.env := by rfl) (hline : (apos.endLine == cpos.line) = true := by rfl) :
    DS X (.Expr (.Call (.Attribute (.Subscript (.Name x px) ei sp) "clear" apos) [] [] cpos) pos) (fun P ρ M => ∃ l, ρ[i]? = some (some (.ow l)) ∧ fb ρ M fun n M => ∃ k j l1, n = .int k ∧ ixN l.length k = some j ∧ l[j]? = some (.ow l1) ∧ P.nx (ρ.set i (some (.ow (l.set j (.ow []))))) M) := by
  obtain ⟨tb, pb, sb⟩ := hk.ex
  refine ⟨_, ps_expr (pe_bm0 PySem.F.plainAttrs_list PySem.F.slot_list_clear PySem.F.type_list_clear mt_clear (pe_ix ix_list (pe_var hN hv hd hcd) pb hp) hbase hline) hs, fun B0 H0 B H ρ σ S P D s hg k1 k2 k3 k4 => ?_⟩
  obtain ⟨l, el, hg⟩ := hg
  obtain ⟨A, T0, C, hS, h2, _⟩ := s.st.sim.split el
  obtain ⟨v0, hσ0, _⟩ := h2 _ rfl
  refine ⟨v0, hσ0, sb B H ρ σ S _ _ s.st hg fun n vn B1 H1 g1 r1 p1 => ?_⟩
  obtain ⟨kk, j, l1, rfl, hj, hlj, p1⟩ := p1
  cases r1
  have s1 := s.grow g1
  obtain ⟨p, q, xs, xs1, hσ, hp', hxl, hxj, hq, hxl1, nmp, nmq, hl1, go⟩ := s1.inner el hlj
  rw [hσ0] at hσ
  cases hσ
  refine ⟨p, xs, kk, .ref q, rfl, rfl, Evl.sq_of hp', ?_, .inl ⟨rfl, _, Evl.sq_of hq⟩, ?_⟩
  · unfold atI
    rw [hxl, hj]
    exact hxj
  · refine ⟨q, xs1, rfl, rfl, hq, ?_⟩
    obtain ⟨S', s'⟩ := go B1 H1 s1.st.base.grow [] [] (Nat.zero_le _) fun T r => ⟨[], .nil, List.nil_sublist _⟩
    exact k1 _ _ _ _ S' s' p1
theorem RepOs.revfz {B H : Hp} {ds : List D} {xs : List V} {T : List Addr} (r : RepOs K B H (ds.map .fz) xs T) : RepOs K B H ((ds.map .fz).reverse) xs.reverse [] := by
  obtain ⟨r', _⟩ := RepOs.unfz r
  rw [← List.map_reverse]
  exact RepOs.fzs r'.rev
theorem ds_reverseIx (i : Nat) {px sp : Pos} (hk : ED X ei fb) (hN : X.N[i]? = some x := by rfl) (hv : Vis X.env.scope x := by first | exact Or.inl rfl | exact Or.inr (Or.inl rfl) | exact Or.inr (Or.inr rfl)) (hd : (x == ("__debug__" : Str)) = false := by decide) (hcd : (x == ("__classdict__" : Str)) = false := by decide)
    (hp : PlainIx ei := by exact fun _ _ => rfl) (hs : swapsWith (.Call (.Attribute (.Subscript (.Name x px) ei sp) "reverse" apos) [] [] cpos) none pos.line X.env = pure false := by rfl)
    (hbase : attributeBase (.Subscript (.Name x px) ei sp) "reverse" X.env (eval (.Subscript (.Name x px) ei sp) X.env) = eval (.Subscript (.Name x px) ei sp) X.env := by rfl) (hline : (apos.endLine == cpos.line) = true := by rfl) :
    DS X (.Expr (.Call (.Attribute (.Subscript (.Name x px) ei sp) "reverse" apos) [] [] cpos) pos) (fun P ρ M => ∃ l, ρ[i]? = some (some (.ow l)) ∧ fb ρ M fun n M => ∃ k j, ∃ ds : List D, n = .int k ∧ ixN l.length k = some j ∧ l[j]? = some (.ow (ds.map .fz)) ∧ P.nx (ρ.set i (some (.ow (l.set j (.ow (ds.reverse.map .fz)))))) M) := by
  obtain ⟨tb, pb, sb⟩ := hk.ex
  refine ⟨_, ps_expr (pe_bm0 PySem.F.plainAttrs_list PySem.F.slot_list_reverse PySem.F.type_list_reverse mt_reverse (pe_ix ix_list (pe_var hN hv hd hcd) pb hp) hbase hline) hs, fun B0 H0 B H ρ σ S P D s hg k1 k2 k3 k4 => ?_⟩
  obtain ⟨l, el, hg⟩ := hg
  obtain ⟨A, T0, C, hS, h2, _⟩ := s.st.sim.split el
  obtain ⟨v0, hσ0, _⟩ := h2 _ rfl
  refine ⟨v0, hσ0, sb B H ρ σ S _ _ s.st hg fun n vn B1 H1 g1 r1 p1 => ?_⟩
  obtain ⟨kk, j, ds, rfl, hj, hlj, p1⟩ := p1
  cases r1
  have s1 := s.grow g1
  obtain ⟨p, q, xs, xs1, hσ, hp', hxl, hxj, hq, hxl1, nmp, nmq, hl1, go⟩ := s1.inner el hlj
  rw [hσ0] at hσ
  cases hσ
  refine ⟨p, xs, kk, .ref q, rfl, rfl, Evl.sq_of hp', ?_, .inl ⟨rfl, _, Evl.sq_of hq⟩, ?_⟩
  · unfold atI
    rw [hxl, hj]
    exact hxj
  · refine ⟨q, xs1, rfl, rfl, hq, ?_⟩
    obtain ⟨S', s'⟩ := go B1 H1 s1.st.base.grow (ds.reverse.map .fz) xs1.reverse (by rw [List.length_map] at hl1 ⊢; rw [List.length_reverse]; exact hl1) fun T r => ⟨[], by rw [List.map_reverse]; exact r.revfz, List.nil_sublist _⟩
    exact k1 _ _ _ _ S' s' p1
end
end DL

/-! DLS2: more plain readings for simp; rows of texts and of pairs. -/
namespace DL
open PySem L2 PySem.Spec
open PyProof.Rows hiding St
open PySem.PyData (strOk)
set_option autoImplicit false
section
variable {M : Mem} {P : D → Mem → Prop} {PO : OT → Mem → Prop} {l m : List D} {i j k : Int} {x y : Str} {p : Addr} {b : Bool} {C C' : Addr} {ns : List Str} {f : Str}
theorem hLt_eq {g : D → D → Bool} {d e : D} : hLt g d e M P = (D.ltOk d e = true ∧ P (.bl (g d e)) M) := rfl
theorem hFld_ob : hFld C f (.ob C' ns l) M P = (C' = C ∧ ∃ v, getF ns l f = some v ∧ P v M) := rfl
theorem hFld_mob : hFld C f (.mob p) M P = ∃ ns l v, M p = some (.ins C ns l) ∧ getF ns l f = some v ∧ P v M := rfl
theorem isOb_ob : isOb C f (.ob C' ns l) M = (C' = C ∧ f ∉ ns) := rfl
theorem isOb_mob : isOb C f (.mob p) M = ∃ ns l, M p = some (.ins C ns l) ∧ f ∉ ns := rfl
theorem keyOf_text : keyOf (.str x) = some (.inr x) := rfl
theorem hDix_dk {ks : List Key} {ds : List D} {y : D} {M : Mem} {PP : D → Mem → Prop} : hDix (.dk ks ds) y M PP = ∃ k d, keyOf y = some k ∧ getK ks ds k = some d ∧ PP d M := by
  refine propext ⟨fun ⟨_, _, k, d, e, h⟩ => by cases e; exact ⟨k, d, h⟩, fun ⟨k, d, h⟩ => ⟨_, _, k, d, rfl, h⟩⟩
theorem keyOf_num : keyOf (.int i) = some (.inl i) := rfl
theorem ltOk_int : D.ltOk (.int i) (.int j) = true := by simp [D.ltOk, D.plain, D.alk, D.toP, PySem.W.alike, D.dep]
theorem ltOk_str : D.ltOk (.str x) (.str y) = true := by simp [D.ltOk, D.plain, D.alk, D.toP, PySem.W.alike, D.dep]
end
theorem lt_int {i j : Int} : D.lt (.int i) (.int j) = decide (i < j) := by
  simp [D.lt, D.toP, PySem.W.dataLt, PySem.W.keyToks, PyProof.Rows.lexLt, PyProof.Rows.itemLt]
theorem dataLt_strs (x y : Str) : PySem.W.dataLt (.str x) (.str y) = decide (x.cps.toList < y.cps.toList) := by
  have h := congrFun (congrFun (PySem.W.dataLe_str (β := Str) id) y) x
  have h2 : (!PySem.W.dataLt (.str x) (.str y)) = decide (y.cps.toList ≤ x.cps.toList) := h
  rw [show PySem.W.dataLt (.str x) (.str y) = !(!PySem.W.dataLt (.str x) (.str y)) by simp, h2]
  by_cases q : x.cps.toList < y.cps.toList
  · have h3 : ¬ y.cps.toList ≤ x.cps.toList := List.not_le.mpr q
    rw [decide_eq_true q, decide_eq_false h3]; rfl
  · have h3 : y.cps.toList ≤ x.cps.toList := List.not_lt.mp q
    rw [decide_eq_false q, decide_eq_true h3]; rfl
/-- x stands before y -/
abbrev slt (x y : Str) : Prop := x.cps.toList < y.cps.toList
theorem lt_str {x y : Str} : D.lt (.str x) (.str y) = decide (slt x y) := dataLt_strs x y
theorem slt_tri {x y : Str} (h : ¬ slt y x) (ne : x ≠ y) : slt x y := by
  rcases List.le_iff_lt_or_eq.mp (List.not_lt.mp h) with z | z
  · exact z
  · exact absurd (by cases x; cases y; simpa using z) ne
/-- a row of texts that rises -/
def Asc (l : List Str) : Prop := l.Pairwise slt
theorem rowOk_strs (l : List Str) : RowOk (l.map .str) := by
  refine ⟨fun x hx y hy => ?_, .inr (.inl fun x hx => ?_)⟩
  · obtain ⟨a, _, rfl⟩ := List.mem_map.mp hx
    obtain ⟨b, _, rfl⟩ := List.mem_map.mp hy
    simp [D.alk, D.toP, PySem.W.alike]
  · obtain ⟨a, _, rfl⟩ := List.mem_map.mp hx
    exact ⟨a, rfl⟩
theorem all_strs {zs : List D} {l : List Str} (h : ∀ z ∈ zs, z ∈ l.map D.str) : ∃ ys : List Str, zs = ys.map D.str ∧ ∀ y ∈ ys, y ∈ l := by
  induction zs with
  | nil => exact ⟨[], rfl, fun y hy => (by cases hy)⟩
  | cons z zs ih =>
    obtain ⟨ys, e, hy⟩ := ih fun x hx => h x (List.mem_cons_of_mem _ hx)
    obtain ⟨y, hy1, rfl⟩ := List.mem_map.mp (h z List.mem_cons_self)
    exact ⟨y :: ys, by rw [e]; rfl, fun x hx => (List.mem_cons.mp hx).elim (fun e => by rw [e]; exact hy1) (hy x)⟩
/-- sorted(set(l)), l of texts -/
theorem sortset_strs {l : List Str} {M : Mem} {P : OT → Mem → Prop} (hl : l.length < 64) (k : ∀ ys : List Str, (∀ y, y ∈ ys ↔ y ∈ l) → Asc ys → P (.ow ((ys.map .str).map .fz)) M) : hSortSet (.lst (l.map .str)) M P := by
  refine ⟨_, rfl, ⟨.inl fun d hd => ?_, by rw [List.length_map]; exact hl⟩, rowOk_strs l, fun zs h1 h2 h3 h4 => ?_⟩
  · obtain ⟨a, _, rfl⟩ := List.mem_map.mp hd
    exact ⟨a, rfl⟩
  · obtain ⟨ys, rfl, hy⟩ := all_strs h1
    refine k ys (fun y => ⟨hy y, fun q => ?_⟩) ?_
    · have := h2 (.str y) (List.mem_map_of_mem q)
      rw [List.map_map] at this
      obtain ⟨z, hz, e⟩ := List.mem_map.mp this
      have e : NestedKey.text z = .text y := by simpa [D.key] using e
      cases e
      exact hz
    · rw [List.map_map] at h3
      have h3' := List.pairwise_map.mp h3
      have h4' := List.pairwise_map.mp h4
      refine (h3'.and h4').imp fun {a b} q => ?_
      refine slt_tri ?_ fun e => q.1 (by rw [e])
      have := q.2
      rw [lt_str] at this
      simpa using this
/-- a pair of texts -/
def prD (p : Str × Str) : D := .tup [.str p.1, .str p.2]
theorem prD_inj {p q : Str × Str} (h : prD p = prD q) : p = q := by
  unfold prD at h
  simp only [D.tup.injEq, List.cons.injEq, D.str.injEq, and_true] at h
  exact Prod.ext h.1 h.2
def plt (p q : Str × Str) : Prop := slt p.1 q.1 ∨ (p.1 = q.1 ∧ slt p.2 q.2)
theorem eqv_sstr {x y : Str} : PyData.eqv (.str x) (.str y) = decide (x = y) := by rw [← str_beq]; simp [PyData.eqv]
theorem slt_irr (x : Str) : ¬ slt x x := List.lt_irrefl _
theorem slt_ne {x y : Str} (h : slt x y) : x ≠ y := fun e => slt_irr x (by rw [← e] at h; exact h)
theorem lt_pr {p q : Str × Str} : D.lt (prD p) (prD q) = true ↔ plt p q := by
  have e : D.lt (prD p) (prD q) = PySem.W.dataLt (.tuple [.str p.1, .str p.2]) (.tuple [.str q.1, .str q.2]) := by simp [D.lt, prD, D.toP, D.toPs]
  rw [e, PySem.W.dataLt_pair (by simp [PySem.W.alike]) (by simp [PySem.W.alike]), eqv_sstr, eqv_sstr, dataLt_strs, dataLt_strs]
  unfold plt
  by_cases h1 : p.1 = q.1
  · by_cases h2 : p.2 = q.2
    · simp [h1, h2, slt_irr]
    · have n1 := slt_irr q.1
      simp [h1, h2, n1]
  · simp [h1]
theorem plt_tri {p q : Str × Str} (h : ¬ plt q p) (ne : p ≠ q) : plt p q := by
  unfold plt at h ⊢
  rw [not_or] at h
  by_cases e : p.1 = q.1
  · refine .inr ⟨e, slt_tri (fun z => h.2 ⟨e.symm, z⟩) fun z => ne (Prod.ext e z)⟩
  · exact .inl (slt_tri h.1 e)
def AscP (l : List (Str × Str)) : Prop := l.Pairwise plt
theorem prD_ok (p : Str × Str) : (prD p).hk = true ∧ (prD p).dep ≤ 8 ∧ (prD p).plain = true := ⟨by simp [prD, D.hk, D.hks], by simp [prD, D.dep, D.deps], by simp [prD, D.plain, D.plains]⟩
theorem alk_pr (p q : Str × Str) : D.alk (prD p) (prD q) = true := by simp [D.alk, prD, D.toP, D.toPs, PySem.W.alike, PySem.W.alikeAll]
theorem ltOk_pr {p q : Str × Str} : D.ltOk (prD p) (prD q) = true := by
  unfold D.ltOk
  rw [(prD_ok p).2.2, (prD_ok q).2.2, alk_pr]
  have := (prD_ok p).2.1
  simp [prD, D.dep, D.deps]
theorem all_prs {zs : List D} {l : List (Str × Str)} (h : ∀ z ∈ zs, z ∈ l.map prD) : ∃ ys : List (Str × Str), zs = ys.map prD ∧ ∀ y ∈ ys, y ∈ l := by
  induction zs with
  | nil => exact ⟨[], rfl, fun y hy => (by cases hy)⟩
  | cons z zs ih =>
    obtain ⟨ys, e, hy⟩ := ih fun x hx => h x (List.mem_cons_of_mem _ hx)
    obtain ⟨y, hy1, rfl⟩ := List.mem_map.mp (h z List.mem_cons_self)
    exact ⟨y :: ys, by rw [e]; rfl, fun x hx => (List.mem_cons.mp hx).elim (fun e => by rw [e]; exact hy1) (hy x)⟩
theorem key_pr {p q : Str × Str} (h : (prD p).key = (prD q).key) : p = q := by
  simp only [prD, D.key, D.keys, NestedKey.tup.injEq, List.cons.injEq, NestedKey.text.injEq, and_true] at h
  exact Prod.ext h.1 h.2
theorem sortset_prs {l : List (Str × Str)} {M : Mem} {P : OT → Mem → Prop} (hl : l.length < 64) (k : ∀ ys : List (Str × Str), (∀ y, y ∈ ys ↔ y ∈ l) → AscP ys → P (.ow ((ys.map prD).map .fz)) M) : hSortSet (.lst (l.map prD)) M P := by
  refine ⟨_, rfl, ⟨.inr fun d hd => ?_, by rw [List.length_map]; exact hl⟩, ⟨fun x hx y hy => ?_, .inl fun x hx => ?_⟩, fun zs h1 h2 h3 h4 => ?_⟩
  · obtain ⟨a, _, rfl⟩ := List.mem_map.mp hd
    exact ⟨⟨_, rfl⟩, (prD_ok a).1, (prD_ok a).2.1⟩
  · obtain ⟨a, _, rfl⟩ := List.mem_map.mp hx
    obtain ⟨b, _, rfl⟩ := List.mem_map.mp hy
    exact alk_pr a b
  · obtain ⟨a, _, rfl⟩ := List.mem_map.mp hx
    exact ⟨_, _, rfl⟩
  · obtain ⟨ys, rfl, hy⟩ := all_prs h1
    refine k ys (fun y => ⟨hy y, fun q => ?_⟩) ?_
    · have := h2 (prD y) (List.mem_map_of_mem q)
      rw [List.map_map] at this
      obtain ⟨z, hz, e⟩ := List.mem_map.mp this
      have := key_pr (p := z) (q := y) e
      rw [← this]; exact hz
    · rw [List.map_map] at h3
      have h3' := List.pairwise_map.mp h3
      have h4' := List.pairwise_map.mp h4
      refine (h3'.and h4').imp fun {a b} q => ?_
      refine plt_tri (fun z => ?_) fun e => q.1 (by rw [e])
      have := q.2
      rw [lt_pr.mpr z] at this
      cases this
/-- a sorted row of unlike texts rises -/
theorem asc_of {l ys : List Str} (hp : ys.Perm l) (hn : l.Nodup) (hs : PyProof.Rows.sortedS ys = true) : Asc ys := by
  have hn2 := hp.nodup_iff.mpr hn
  have trans : ∀ a b c : Str, ¬ slt b a → ¬ slt c b → ¬ slt c a := fun a b c h1 h2 h3 => by
    by_cases e : a = b
    · exact h2 (by rw [← e]; exact h3)
    · exact h2 (List.lt_trans h3 (slt_tri h1 e))
  have le : ∀ (ys : List Str) (x : Str), PyProof.Rows.risingS x ys = true → (x :: ys).Pairwise fun a b => ¬ slt b a := by
    intro ys
    induction ys with
    | nil => intro x _; exact List.pairwise_singleton _ _
    | cons y ys ih =>
      intro x h
      simp only [PyProof.Rows.risingS, Bool.and_eq_true, Bool.not_eq_true', ltCps_eq, decide_eq_false_iff_not] at h
      have h2 := ih y h.2
      refine List.pairwise_cons.mpr ⟨fun z hz => ?_, h2⟩
      rcases List.mem_cons.mp hz with rfl | hz
      · exact h.1
      · exact trans x y z h.1 ((List.pairwise_cons.mp h2).1 z hz)
  cases ys with
  | nil => exact .nil
  | cons y ys =>
    exact ((List.Pairwise.and hn2 (le ys y hs)).imp fun {a b} q => slt_tri q.2 q.1)
end DL

/-! DLNm: drawn names, as they come: unlike, small letters, one to eight. -/
namespace DL
open PySem L2 PySem.Spec
open PyProof.Rows hiding St
set_option autoImplicit false
abbrev abc : Str := "abcdefghijklmnopqrstuvwxyz"
theorem abc_len : abc.length = 26 := by decide +kernel
theorem abc_size : abc.cps.toList.length = 26 := by decide +kernel
theorem abc_nth : ∀ j : Nat, j < 26 → abc.cps.toList[j]? = some (97 + j) := by decide +kernel
/-- small letters alone -/
def Low (x : Str) : Prop := ∀ c ∈ x.cps.toList, 97 ≤ c ∧ c ≤ 122
def ltr (r : Int) : Str := ⟨#[97 + r.toNat]⟩
theorem abc_at {r : Int} (h0 : 0 ≤ r) (h1 : r < 26) : atI abc.cps.toList r = some (97 + r.toNat) := by
  obtain ⟨j, rfl⟩ := Int.eq_ofNat_of_zero_le h0
  exact atI_nat (abc_nth j (by omega))
theorem ltr_low {r : Int} (h0 : 0 ≤ r) (h1 : r < 26) : Low (ltr r) := fun c hc => by
  have : c = 97 + r.toNat := by simpa [ltr] using hc
  omega
theorem ltr_len (r : Int) : (ltr r).length = 1 := rfl
theorem low_app {x y : Str} (hx : Low x) (hy : Low y) : Low (x ++ y) := fun c hc => by
  have e : (x ++ y).cps = x.cps ++ y.cps := rfl
  rw [e, Array.toList_append, List.mem_append] at hc
  exact hc.elim (hx c) (hy c)
theorem len_app {x y : Str} : (x ++ y).length = x.length + y.length := strLen_append x y
theorem low_nil : Low (Str.ofString "") := fun c hc => by
  have e : (Str.ofString "").cps.toList = [] := by decide +kernel
  rw [e] at hc
  cases hc
theorem len_nil : (Str.ofString "").length = 0 := by decide +kernel
theorem low_join : ∀ {ys : List Str}, (∀ y ∈ ys, Low y ∧ y.length = 1) → Low (Str.join (Str.ofString "") ys) ∧ (Str.join (Str.ofString "") ys).length = ys.length
  | [], _ => ⟨low_nil, len_nil⟩
  | [x], h => ⟨(h x List.mem_cons_self).1, (h x List.mem_cons_self).2⟩
  | x :: y :: r, h => by
    obtain ⟨h1, h2⟩ := low_join (ys := y :: r) fun z hz => h z (List.mem_cons_of_mem _ hz)
    obtain ⟨x1, x2⟩ := h x List.mem_cons_self
    refine ⟨low_app (low_app x1 low_nil) h1, ?_⟩
    show ((x ++ Str.ofString "") ++ Str.join (Str.ofString "") (y :: r)).length = _
    rw [len_app, len_app, h2, x2, len_nil]
    simp only [List.length_cons]
    omega
theorem low_cut {x : Str} (h : Low x) (lo hi : Option Int) : Low (cutS x lo hi) := fun c hc => by
  have : c ∈ ((x.cps.toList.drop (HT.sIx x.length 0 lo)).take (HT.sIx x.length x.length hi - HT.sIx x.length 0 lo)) := by simpa [cutS] using hc
  exact h c (List.mem_of_mem_drop (List.mem_of_mem_take this))
theorem len_cut {x : Str} {s : Nat} : (cutS x none (some (s : Int))).length + (cutS x (some (s : Int)) none).length = x.length := by
  have e : ∀ lo hi, (cutS x lo hi).length = ((x.cps.toList.drop (HT.sIx x.length 0 lo)).take (HT.sIx x.length x.length hi - HT.sIx x.length 0 lo)).length := fun lo hi => by simp [cutS, Str.length]
  have n : x.cps.toList.length = x.length := by simp [Str.length]
  rw [e, e, HT.sIx_nat, HT.sIx_nat, HT.sIx_none, HT.sIx_none, List.length_take, List.length_take, List.length_drop, List.length_drop, n]
  omega
theorem rngD_cons {a : Int} {n : Nat} : rngD a (n + 1) = .int a :: rngD (a + 1) n := by
  unfold rngD
  rw [List.range_succ_eq_map, List.map_cons, List.map_map]
  congr 1
  · simp
  · refine List.map_congr_left fun i _ => ?_
    simp only [Function.comp]
    congr 1
    push_cast
    omega
theorem str_ext {x y : Str} (h : x.cps.toList = y.cps.toList) : x = y := by cases x; cases y; simpa using h
theorem app_list (x y : Str) : (x ++ y).cps.toList = x.cps.toList ++ y.cps.toList := by
  show (x.cps ++ y.cps).toList = _
  rw [Array.toList_append]
theorem len_list (x : Str) : x.cps.toList.length = x.length := by simp [Str.length]
/-- the i-th name's stem -/
def nmB (u v : Str) (shift : Int) (i : Nat) : Str := u ++ ltr ((shift + 3 * (i : Int)) % 26) ++ v
/-- the i-th name -/
def nm (u v : Str) (shift longer : Int) (i : Nat) : Str := if longer = 1 ∧ i % 2 = 1 then nmB u v shift (i - 1) ++ ltr ((shift + (i : Int)) % 26) else nmB u v shift i
section
variable {u v : Str} {shift longer : Int} {i j : Nat}
theorem nmB_len : (nmB u v shift i).length = u.length + 1 + v.length := by unfold nmB; rw [len_app, len_app, ltr_len]
theorem nmB_inj (hi : i < 26) (hj : j < 26) (h : nmB u v shift i = nmB u v shift j) : i = j := by
  have h1 := congrArg (fun z : Str => z.cps.toList) h
  simp only [nmB, app_list] at h1
  rw [List.append_assoc, List.append_assoc] at h1
  have h2 := List.append_cancel_left h1
  have h3 := List.append_cancel_right h2
  have h4 : 97 + ((shift + 3 * (i : Int)) % 26).toNat = 97 + ((shift + 3 * (j : Int)) % 26).toNat := by simpa [ltr] using h3
  omega
theorem nm_len : (nm u v shift longer i).length = u.length + 1 + v.length ∨ (nm u v shift longer i).length = u.length + 2 + v.length := by
  unfold nm
  split
  · right; rw [len_app, nmB_len, ltr_len]; omega
  · left; exact nmB_len
theorem nm_inj (hi : i < 26) (hj : j < 26) (h : nm u v shift longer i = nm u v shift longer j) : i = j := by
  unfold nm at h
  split at h
  · rename_i h1
    split at h
    · rename_i h2
      have h3 := congrArg (fun z : Str => z.cps.toList) h
      simp only [app_list] at h3
      have h4 := List.append_inj_left h3 (by rw [len_list, len_list, nmB_len, nmB_len])
      have := nmB_inj (by omega) (by omega) (str_ext h4)
      omega
    · have := congrArg Str.length h
      rw [len_app, nmB_len, nmB_len, ltr_len] at this
      omega
  · split at h
    · have := congrArg Str.length h
      rw [len_app, nmB_len, nmB_len, ltr_len] at this
      omega
    · exact nmB_inj hi hj h
theorem nm_low (hu : Low u) (hv : Low v) : Low (nm u v shift longer i) := by
  have b : ∀ i, Low (nmB u v shift i) := fun i => low_app (low_app hu (ltr_low (Int.emod_nonneg _ (by decide)) (Int.emod_lt_of_pos _ (by decide)))) hv
  unfold nm
  split
  · exact low_app (b _) (ltr_low (Int.emod_nonneg _ (by decide)) (Int.emod_lt_of_pos _ (by decide)))
  · exact b _
/-- so many of them -/
def nms (u v : Str) (shift longer : Int) (n : Nat) : List Str := (List.range n).map (nm u v shift longer)
theorem nms_len {n : Nat} : (nms u v shift longer n).length = n := by simp [nms]
theorem nms_snoc {n : Nat} : nms u v shift longer (n + 1) = nms u v shift longer n ++ [nm u v shift longer n] := by unfold nms; rw [List.range_succ, List.map_append]; rfl
theorem nms_nodup {n : Nat} (h : n ≤ 26) : (nms u v shift longer n).Nodup := by
  unfold nms
  refine List.pairwise_map.mpr (List.Pairwise.imp_of_mem (fun {a b} ha hb hne e => hne (nm_inj ?_ ?_ e)) List.nodup_range)
  · have := List.mem_range.mp ha; omega
  · have := List.mem_range.mp hb; omega
theorem nms_at {n i : Nat} (h : i < n) : (nms u v shift longer n)[i]? = some (nm u v shift longer i) := by
  unfold nms
  rw [List.getElem?_map, List.getElem?_range h]
  rfl
end
/-- a NAME: one to eight small letters -/
def IsNm (x : Str) : Prop := Low x ∧ 1 ≤ x.length ∧ x.length ≤ 8
theorem nms_ok {u v : Str} {shift longer : Int} {n : Nat} (hu : Low u) (hv : Low v) (hl : u.length + v.length ≤ 6) : ∀ x ∈ nms u v shift longer n, IsNm x := fun x hx => by
  obtain ⟨i, _, rfl⟩ := List.mem_map.mp hx
  have := nm_len (u := u) (v := v) (shift := shift) (longer := longer) (i := i)
  exact ⟨nm_low hu hv, by omega, by omega⟩
end DL

/-! DLT: loops that tell of each; what a table's parts are. -/
namespace DL
open PySem L2 PySem.Spec
open PyProof.Rows hiding St
set_option autoImplicit false
/-- all of some are so -/
theorem compD_all {g : RG} {f : RT} {t : RO} {ρ : Env} {P : List OT → Mem → Prop} {items : List D} {M : Mem} (Good : D → Prop) (h : ∀ d ∈ items, Good d)
    (k : ∀ (acc : List OT) (bs : List Bool), acc.map OT.toD = bs.map D.bl → bs.all id = true → P acc M)
    (s : ∀ d, Good d → ∀ (acc : List OT) (C : List OT → Mem → Prop), C (acc ++ [.fz (.bl true)]) M → g d ρ M fun ρ' M => f ρ' M fun b M => if b = true then t ρ' M fun y M => C (acc ++ [y]) M else C acc M) :
    compD g f t ρ P items [] M := by
  refine compD_rec (fun ds acc M' => M' = M ∧ (∀ x ∈ ds, Good x) ∧ ∀ t ∈ acc, t = .fz (.bl true)) _ _ _ ⟨rfl, h, fun t ht => nomatch ht⟩ (fun acc M' h => ?_) fun d ds acc M' h C hC => ?_
  · obtain ⟨rfl, _, h2⟩ := h
    obtain ⟨bs, e1, e2⟩ := trues_all h2
    exact k acc bs e1 e2
  · obtain ⟨rfl, h1, h2⟩ := h
    refine s d (h1 d List.mem_cons_self) acc C (hC _ _ ⟨rfl, fun x hx => h1 x (List.mem_cons_of_mem _ hx), fun t ht => ?_⟩)
    rcases List.mem_append.mp ht with ht | ht
    · exact h2 t ht
    · simpa using ht
/-- some of some, each turned -/
theorem compD_fm {α : Type} {F G : α → D} {keep : α → Bool} {g : RG} {f : RT} {t : RO} {ρ : Env} {P : List OT → Mem → Prop} {M : Mem} {l : List α}
    (s : ∀ a ∈ l, ∀ (acc : List OT) (C : List OT → Mem → Prop), (keep a = true → C (acc ++ [.fz (G a)]) M) → (keep a = false → C acc M) → g (F a) ρ M fun ρ' M => f ρ' M fun b M => if b = true then t ρ' M fun y M => C (acc ++ [y]) M else C acc M)
    (k : P (((l.filter keep).map G).map .fz) M) : compD g f t ρ P (l.map F) [] M := by
  have go : ∀ (l2 l1 : List α), l = l1 ++ l2 → compD g f t ρ P (l2.map F) (((l1.filter keep).map G).map .fz) M := by
    intro l2
    induction l2 with
    | nil => intro l1 e; rw [List.append_nil] at e; subst e; exact k
    | cons a l2 ih =>
      intro l1 e
      have e2 : l = (l1 ++ [a]) ++ l2 := by rw [e, List.append_assoc]; rfl
      have := ih (l1 ++ [a]) e2
      rw [List.map_cons]
      refine s a (by rw [e]; simp) _ (compD g f t ρ P (l2.map F)) (fun hk => ?_) fun hk => ?_
      · rw [List.filter_append, List.map_append, List.map_append] at this
        simpa [List.filter, hk] using this
      · rw [List.filter_append, List.map_append, List.map_append] at this
        simpa [List.filter, hk] using this
  exact go l [] rfl
theorem compD_map {α : Type} {F G : α → D} {g : RG} {f : RT} {t : RO} {ρ : Env} {P : List OT → Mem → Prop} {M : Mem} {l : List α}
    (s : ∀ a ∈ l, ∀ (acc : List OT) (C : List OT → Mem → Prop), C (acc ++ [.fz (G a)]) M → g (F a) ρ M fun ρ' M => f ρ' M fun b M => if b = true then t ρ' M fun y M => C (acc ++ [y]) M else C acc M)
    (k : P ((l.map G).map .fz) M) : compD g f t ρ P (l.map F) [] M :=
  compD_fm (keep := fun _ => true) (fun a ha acc C h1 _ => s a ha acc C (h1 rfl)) (by rw [List.filter_eq_self.mpr fun _ _ => rfl]; exact k)
theorem compS_fm {α : Type} {F G : α → D} {keep : α → Bool} {g : RG} {f : RT} {t : RO} {ρ : Env} {P : List OT → Mem → Prop} {M : Mem} {acc0 : List OT} {l : List α}
    (s : ∀ a ∈ l, ∀ (acc : List OT) (C : List OT → Mem → Prop), acc.length < acc0.length + l.length → (keep a = true → C (acc ++ [.fz (G a)]) M) → (keep a = false → C acc M) → g (F a) ρ M fun ρ' M => f ρ' M fun b M => if b = true then t ρ' M fun y M => acc.length < sizeLine ∧ C (acc ++ [y]) M else C acc M)
    (k : P (acc0 ++ ((l.filter keep).map G).map .fz) M) : compS g f t ρ P (l.map F) acc0 M := by
  have go : ∀ (l2 l1 : List α), l = l1 ++ l2 → compS g f t ρ P (l2.map F) (acc0 ++ ((l1.filter keep).map G).map .fz) M := by
    intro l2
    induction l2 with
    | nil => intro l1 e; rw [List.append_nil] at e; subst e; exact k
    | cons a l2 ih =>
      intro l1 e
      have e2 : l = (l1 ++ [a]) ++ l2 := by rw [e, List.append_assoc]; rfl
      have := ih (l1 ++ [a]) e2
      have hl : (l1.filter keep).length ≤ l1.length := List.length_filter_le _ _
      rw [List.map_cons]
      refine s a (by rw [e]; simp) _ (compS g f t ρ P (l2.map F)) (by rw [e]; simp; omega) (fun hk => ?_) fun hk => ?_
      · rw [List.filter_append, List.map_append, List.map_append] at this
        simpa [List.filter, hk] using this
      · rw [List.filter_append, List.map_append, List.map_append] at this
        simpa [List.filter, hk] using this
  have := go l [] rfl
  simpa using this
/-! ### what rises -/
def Chain (l : List D) : Prop := ∀ d ∈ zipD l (cutL l (some 1) none), ∃ x y, d = .tup [x, y] ∧ D.ltOk x y = true ∧ D.lt x y = true
theorem chain_of {α : Type} {f : α → D} {R : α → α → Prop} (hok : ∀ a b, D.ltOk (f a) (f b) = true) (hlt : ∀ a b, R a b → D.lt (f a) (f b) = true) {l : List α} (h : l.Pairwise R) : Chain (l.map f) := by
  induction l with
  | nil => intro d hd; simp [zipD] at hd
  | cons a l ih =>
    intro d hd
    rw [List.map_cons, cutL_1] at hd
    cases l with
    | nil => simp [zipD] at hd
    | cons b l =>
      rw [List.map_cons] at hd
      have hd' : d = .tup [f a, f b] ∨ d ∈ zipD (f b :: l.map f) (l.map f) := by simpa [zipD] using hd
      rcases hd' with rfl | hd'
      · exact ⟨_, _, rfl, hok _ _, hlt _ _ ((List.pairwise_cons.mp h).1 b List.mem_cons_self)⟩
      · refine ih (List.pairwise_cons.mp h).2 d ?_
        rw [List.map_cons, cutL_1]
        exact hd'
theorem chain_strs {l : List Str} (h : Asc l) : Chain (l.map .str) := chain_of (fun _ _ => ltOk_str) (fun a b h => by rw [lt_str]; exact decide_eq_true h) h
theorem chain_prs {l : List (Str × Str)} (h : AscP l) : Chain (l.map prD) := chain_of (fun _ _ => ltOk_pr) (fun a b h => lt_pr.mpr h) h
theorem abc_has : ∀ j : Nat, j < 26 → subStr ⟨#[97 + j]⟩ abc = true := by decide +kernel
theorem in_abc {c : Nat} (h1 : 97 ≤ c) (h2 : c ≤ 122) : subStr ⟨#[c]⟩ abc = true := by
  have := abc_has (c - 97) (by omega)
  rwa [show 97 + (c - 97) = c by omega] at this
theorem signs_low {x : Str} (h : Low x) : ∀ d ∈ signs x, ∃ c, d = .str ⟨#[c]⟩ ∧ subStr ⟨#[c]⟩ abc = true := fun d hd => by
  unfold signs at hd
  obtain ⟨c, hc, rfl⟩ := List.mem_map.mp hd
  exact ⟨c, rfl, in_abc (h c hc).1 (h c hc).2⟩
/-! ### a table's parts -/
def strsD (l : List Str) : D := .tup (l.map .str)
def shD (p : Str × List Str) : D := .tup [.str p.1, .tup (p.2.map .str)]
structure Tb where
  sts : List Str
  mvs : List (Str × Str)
  bgs : List Str
  shs : List (Str × List Str)
structure Tb.Ok (t : Tb) : Prop where
  st_len : 1 ≤ t.sts.length ∧ t.sts.length ≤ 8
  st_nm : ∀ x ∈ t.sts, IsNm x
  st_asc : Asc t.sts
  mv_len : t.mvs.length ≤ 24
  mv_in : ∀ p ∈ t.mvs, p.1 ∈ t.sts ∧ p.2 ∈ t.sts
  mv_asc : AscP t.mvs
  mv_all : ∀ x ∈ t.sts, ∃ y, (x, y) ∈ t.mvs
  bg_ne : t.bgs ≠ []
  bg_in : ∀ x ∈ t.bgs, x ∈ t.sts
  bg_asc : Asc t.bgs
  sh_in : ∀ p ∈ t.shs, p.1 ∈ t.sts ∧ 1 ≤ p.2.length ∧ p.2.length ≤ 4 ∧ Asc p.2 ∧ ∀ x ∈ p.2, IsNm x
  sh_asc : Asc (t.shs.map (·.1))
def Tb.parts (t : Tb) : List D := [strsD t.sts, .tup (t.mvs.map prD), strsD t.bgs, .tup (t.shs.map shD)]
def tbNs : List Str := ["states", "moves", "begins", "shows"]
def Tb.ob (t : Tb) (C : Addr) : D := .ob C tbNs t.parts
def marksOf : List (Str × List Str) → Str → List Str
  | [], _ => []
  | p :: l, x => if p.1 = x then p.2 else marksOf l x
end DL

/-! DLU: a, b = x, y by way of a tuple, where a comprehension sees one of the names. -/
namespace DL
open PySem L2 PySem.Spec
open PyProof.Rows hiding St
set_option autoImplicit false
section
variable {X : Cx} {a b c : Expr} {pos : Pos}
theorem ds_parT {i j : Nat} {x y : Str} {fo : RAO} {px py pt : Pos} {kt k2 pt2} (hc : X.calm = true) (hN : X.N.Nodup) (ha : AO X [a, b] fo) (hi : X.N[i]? = some x := by rfl) (hj : X.N[j]? = some y := by rfl)
    (hx : Loc X.env.scope x := by first | exact Or.inl rfl | exact Or.inr rfl) (hfx : X.fn x = true ∨ X.env.scope.names.lookup x = some .local := by first | exact .inl rfl | exact .inr rfl | assumption)
    (hy : Loc X.env.scope y := by first | exact Or.inl rfl | exact Or.inr rfl) (hfy : X.fn y = true ∨ X.env.scope.names.lookup y = some .local := by first | exact .inl rfl | exact .inr rfl | assumption)
    (hs : swapsWithSole [.Tuple [.Name x px, .Name y py] kt pt] (.Tuple [a, b] k2 pt2) pos.line X.env = pure false := by rfl)
    (hw : swappedStores [.Tuple [.Name x px, .Name y py] kt pt] (.Tuple [a, b] k2 pt2) X.env = pure none := by rfl)
    (h1 : (assignEach [.Tuple [.Name x px, .Name y py] kt pt] X.env).map (·.2) = [assign (.Tuple [.Name x px, .Name y py] kt pt) X.env] := by rfl)
    (hn1 : (assignEach [.Name x px, .Name y py] X.env).length = 2 := by rfl) (hst1 : (assignEach [.Name x px, .Name y py] X.env).findIdx? (·.1) = none := by rfl)
    (hp1 : (assignEach [.Name x px, .Name y py] X.env).map (·.2) = assign (.Name x px) X.env :: (assignEach [.Name y py] X.env).map (·.2) := by rfl)
    (hp2 : (assignEach [.Name y py] X.env).map (·.2) = assign (.Name y py) X.env :: (assignEach [] X.env).map (·.2) := by rfl) :
    DS X (.Assign [.Tuple [.Name x px, .Name y py] kt pt] (.Tuple [a, b] k2 pt2) pos) (fun P ρ M => fo ρ M fun ts M => ∃ t u, ts = [t, u] ∧ i < ρ.length ∧ j < ρ.length ∧ P.nx ((ρ.set i (some t)).set j (some u)) M) := by
  obtain ⟨ta, pa, sa⟩ := ha.ex
  refine ⟨_, ps_asg (pe_tup pa) (pg_tup hc (pgs_cons (pg_name hN hi hx hfx) (pgs_cons (pg_name hN hj hy hfy) pgs_nil hp2) hp1) hn1 hst1) hs hw h1, fun B0 H0 B H ρ σ S P D s hg k1 k2 k3 k4 => sa B H ρ σ S _ _ s.st hg fun ts vs B1 H1 T1 g1 r1 o1 p => ?_⟩
  obtain ⟨t, u, rfl, hi', hj', p⟩ := p
  cases r1 with
  | @cons _ v1 _ _ TA TR rA rR =>
    cases rR with
    | @cons _ v2 _ _ TB TC rB rC =>
      cases rC
      rw [List.append_nil] at o1
      refine ⟨by show 2 ≤ sizeLine; decide, fun tz htz => ?_⟩
      have g2 := g1.base.new (o := .tup [v1, v2]) htz
      have nt : ∀ p ∈ TA ++ TB, p ≠ tz := fun p hp e => by
        have h : (H1 p).isSome = true := (List.mem_append.mp hp).elim (rA.some p) (rB.some p)
        rw [e, htz] at h; cases h
      have nd := List.nodup_append.mp o1.nd
      obtain ⟨a1, a2⟩ := s.apart o1
      have a3 : ∀ p ∈ TA ++ TB, (L2.upd B1.b tz (.tup [v1, v2]) p = none ∧ B1.m p = none) ∧ H0 p = none := fun p hp => by
        rw [upd_ne (nt p hp)]; exact a2 p hp
      have rA2 := RepO.mono (H' := L2.upd H1 tz (.tup [v1, v2])) g2.b _ _ _ (fun p hp => upd_ne (nt p (List.mem_append_left _ hp))) rA
      have rB2 := RepO.mono (H' := L2.upd H1 tz (.tup [v1, v2])) g2.b _ _ _ (fun p hp => upd_ne (nt p (List.mem_append_right _ hp))) rB
      refine ⟨tz, [v1, v2], rfl, Evl.st_of upd_same, rfl, v1, [v2], rfl, v2, [], rfl, rfl, ?_⟩
      obtain ⟨S1, s1, m1⟩ := ((s.grow g1).grow g2).putA hi' rA2 nd.1 (fun p hp => a1 p (List.mem_append_left _ hp)) (fun p hp => a3 p (List.mem_append_left _ hp))
      obtain ⟨S2, s2, m2⟩ := s1.putA (i := j) (by rw [List.length_set]; exact hj') rB2 nd.2.1 (fun p hp hq => (m1 p hq).elim (a1 p (List.mem_append_right _ hp)) fun z => nd.2.2 p z p hp rfl) (fun p hp => a3 p (List.mem_append_right _ hp))
      exact k1 _ _ _ _ S2 s2 p
end
/-! ### loops that draw -/
theorem compD_box {α : Type} {G : α → D} (Good : α → Prop) {g : RG} {f : RT} {t : RO} {ρ : Env} {P : List OT → Mem → Prop} {items : List D} {M0 M1 : Mem} {p : Addr} {m : Nat} (c : Nat) (hB : BoxTo p m M0 M1)
    (s : ∀ d ∈ items, ∀ (acc : List OT) (M' : Mem) (j : Nat) (C : List OT → Mem → Prop), j + 1 ≤ items.length → BoxTo p (m + c * j) M0 M' → (∀ (a : α) (M2 : Mem), Good a → BoxTo p (m + c * (j + 1)) M0 M2 → C (acc ++ [.fz (G a)]) M2) →
      g d ρ M' fun ρ' M' => f ρ' M' fun b M' => if b = true then t ρ' M' fun y M' => C (acc ++ [y]) M' else C acc M')
    (k : ∀ (l : List α) (M' : Mem), l.length = items.length → (∀ a ∈ l, Good a) → BoxTo p (m + c * items.length) M0 M' → P ((l.map G).map .fz) M') : compD g f t ρ P items [] M1 := by
  refine compD_rec (fun ds acc M' => (∃ pre, items = pre ++ ds) ∧ ∃ l : List α, acc = (l.map G).map .fz ∧ l.length + ds.length = items.length ∧ (∀ a ∈ l, Good a) ∧ BoxTo p (m + c * l.length) M0 M') _ _ _ ⟨⟨[], rfl⟩, [], rfl, by simp, (fun _ h => nomatch h), hB.mono (by omega)⟩ (fun acc M' h => ?_) fun d ds acc M' h C hC => ?_
  · obtain ⟨_, l, rfl, h1, h2, h3⟩ := h
    have h1 : l.length = items.length := by simpa using h1
    exact k l M' h1 h2 (h1 ▸ h3)
  · obtain ⟨⟨pre, hp⟩, l, rfl, h1, h2, h3⟩ := h
    rw [List.length_cons] at h1
    refine s d (by rw [hp]; simp) _ M' l.length C (by omega) h3 fun a M2 ha hB2 => hC _ _ ⟨⟨pre ++ [d], by rw [hp]; simp⟩, l ++ [a], by simp, by simp; omega, fun b hb => ?_, by rw [List.length_append]; exact hB2⟩
    rcases List.mem_append.mp hb with hb | hb
    · exact h2 b hb
    · rw [List.mem_singleton] at hb; rw [hb]; exact ha
theorem compD_boxF {α : Type} {F : α → D} {g : RG} {f : RT} {t : RO} {ρ : Env} {P : List OT → Mem → Prop} {l : List α} {M0 M1 : Mem} {p : Addr} {m : Nat} (c : Nat) (hB : BoxTo p m M0 M1)
    (s : ∀ a ∈ l, ∀ (acc : List OT) (M' : Mem) (j : Nat) (C : List OT → Mem → Prop), j + 1 ≤ l.length → BoxTo p (m + c * j) M0 M' → (∀ M2 : Mem, BoxTo p (m + c * (j + 1)) M0 M2 → C (acc ++ [.fz (F a)]) M2 ∧ C acc M2) →
      g (F a) ρ M' fun ρ' M' => f ρ' M' fun b M' => if b = true then t ρ' M' fun y M' => C (acc ++ [y]) M' else C acc M')
    (k : ∀ (l' : List α) (M' : Mem), l'.Sublist l → BoxTo p (m + c * l.length) M0 M' → P ((l'.map F).map .fz) M') : compD g f t ρ P (l.map F) [] M1 := by
  have go : ∀ (l2 l1 l1' : List α) (M' : Mem), l = l1 ++ l2 → l1'.Sublist l1 → BoxTo p (m + c * l1.length) M0 M' → compD g f t ρ P (l2.map F) ((l1'.map F).map .fz) M' := by
    intro l2
    induction l2 with
    | nil => intro l1 l1' M' e h1 h2; rw [List.append_nil] at e; subst e; exact k l1' M' h1 h2
    | cons a l2 ih =>
      intro l1 l1' M' e h1 h2
      have e2 : l = (l1 ++ [a]) ++ l2 := by rw [e, List.append_assoc]; rfl
      rw [List.map_cons]
      refine s a (by rw [e]; simp) _ M' l1.length (compD g f t ρ P (l2.map F)) (by rw [e]; simp) h2 fun M2 hB2 => ⟨?_, ?_⟩
      · have := ih (l1 ++ [a]) (l1' ++ [a]) M2 e2 (h1.append (List.Sublist.refl _)) (by rw [List.length_append]; exact hB2)
        rw [List.map_append, List.map_append] at this
        exact this
      · exact ih (l1 ++ [a]) l1' M2 e2 (h1.trans (List.sublist_append_left _ _)) (by rw [List.length_append]; exact hB2)
  exact go l [] [] M1 rfl (List.Sublist.refl _) (hB.mono (by omega))
theorem cutL_take {α : Type} {l : List α} (k : Nat) : cutL l none (some (k : Int)) = l.take k := by
  unfold cutL
  rw [HT.sIx_nat, HT.sIx_none, List.drop_zero, Nat.sub_zero]
  rw [Nat.min_def]
  split
  · rfl
  · rw [List.take_of_length_le (Nat.le_refl _), List.take_of_length_le (by omega)]
theorem cut4 {l : List Str} : cutL (l.map D.str) none (some 4) = (l.take 4).map .str := by
  rw [show (4 : Int) = ((4 : Nat) : Int) from rfl, cutL_take, List.map_take]
end DL

/-! DLV: what is only looked at: a list display of views, a part of one's own list. -/
namespace DL
open PySem L2 PySem.Spec
open PyProof.Rows hiding St
set_option autoImplicit false
section
variable {X : Cx} {a b c ei : Expr} {es : List Expr} {pos : Pos} {fb : RD} {K : PySem.W.Frag} {x : Str}
theorem ev_lst {f : RA} (h : AV X es f) : EV X (.List es pos) (fun ρ M P => f ρ M fun ds M => ds.length ≤ sizeLine ∧ P (.lst ds) M) := by
  obtain ⟨te, hp, hs⟩ := h.ex
  refine ⟨_, pe_lst hp, fun B H ρ σ S P Q st hf k => hs B H ρ σ S _ _ st hf fun ds vs B1 H1 g1 r1 p => ?_⟩
  refine ⟨by rw [← r1.length]; exact p.1, fun l hl0 => ?_⟩
  obtain ⟨g, hb, nd⟩ := g1.base.newO (o := .lst vs) hl0
  exact k (.lst ds) (.ref l) B1 _ (g1.trans g) (.lst ((Hm_of nd).trans upd_same) p.1 (r1.up g.hm)) p.2
/-- a part of what a name holds, looked at -/
def hIxV (t : OT) (n : D) (M : Mem) (P : D → Mem → Prop) : Prop := match t with
  | .fz d => hIx d n M P
  | .ow l => ∃ k u, n = .int k ∧ atI l k = some u ∧ P u.toD M
  | .od _ _ => False
  | .on _ _ _ => False
theorem hIxV_ow {l : List OT} {n : D} {M : Mem} {P : D → Mem → Prop} : hIxV (.ow l) n M P = ∃ k u, n = .int k ∧ atI l k = some u ∧ P u.toD M := rfl
theorem hIxV_fz {d n : D} {M : Mem} {P : D → Mem → Prop} : hIxV (.fz d) n M P = hIx d n M P := rfl
theorem RepOs.atV {B H : Hp} {l : List OT} {xs : List V} {T : List Addr} {i : Int} {u : OT} (h : RepOs K B H l xs T) (e : L2.atI l i = Option.some u) : ∃ v T', L2.atI xs i = Option.some v ∧ RepO K B H u v T' ∧ ∀ p ∈ T', p ∈ T := by
  unfold L2.atI at e ⊢
  rw [← h.length]
  cases q : ixN l.length i with
  | none => rw [q] at e; cases e
  | some j =>
    rw [q] at e
    obtain ⟨A, T1, C, v, hT, hx, hr, _⟩ := h.split (show l[j]? = Option.some u from e)
    exact ⟨v, T1, hx, hr, fun p hp => by rw [hT]; exact List.mem_append_right _ (List.mem_append_left _ hp)⟩
theorem ev_ixN (i : Nat) {px : Pos} (hk : ED X ei fb) (hN : X.N[i]? = some x := by rfl) (hv : Vis X.env.scope x := by first | exact Or.inl rfl | exact Or.inr (Or.inl rfl) | exact Or.inr (Or.inr rfl)) (hd : (x == ("__debug__" : Str)) = false := by decide) (hcd : (x == ("__classdict__" : Str)) = false := by decide)
    (hp : PlainIx ei := by exact fun _ _ => rfl) : EV X (.Subscript (.Name x px) ei pos) (fun ρ M P => ∃ t, ρ[i]? = some (some t) ∧ fb ρ M fun n M => hIxV t n M P) := by
  obtain ⟨tk, pk, sk⟩ := hk.ex
  refine ⟨_, pe_ix ix_seq (pe_var hN hv hd hcd) pk hp, fun B H ρ σ S P Q st hf k => ?_⟩
  obtain ⟨t, el, hf⟩ := hf
  obtain ⟨A, T, C, hS, h2, _⟩ := st.sim.split el
  obtain ⟨v, hσ, r⟩ := h2 _ rfl
  have own : ∀ p ∈ T, B.m p = none := fun p hp => (st.out p (by rw [hS]; exact List.mem_append_right _ (List.mem_append_left _ hp))).2
  refine ⟨v, hσ, sk B H ρ σ S _ _ st hf fun n vn B1 H1 g1 r1 p1 => ?_⟩
  cases r with
  | od _ _ _ _ => exact p1.elim
  | on _ _ _ _ _ _ => exact p1.elim
  | fz r => exact sr_ix B1 H1 _ n v vn P Q g1.base (r.up g1.b) r1 p1 fun d v' B' H' g r p => k d v' B' H' (g1.trans g) (r.up g.base.hm) p
  | @ow q xs l T hq hl hr =>
    obtain ⟨kk, u, rfl, hu, p1⟩ := p1
    cases r1
    obtain ⟨v, T', e, rd, sub⟩ := hr.atV hu
    refine .inl ⟨q, xs, kk, v, rfl, rfl, Evl.sq_of (g1.h q _ (own q List.mem_cons_self) hq), e, k u.toD v B1 H1 g1 ?_ p1⟩
    have hsome := rd.some
    refine RepO.data (H := H) (B := B.b) (g1.b.trans g1.base.hm) _ _ _ (fun p hp => ?_) rd
    have hpn := own p (List.mem_cons_of_mem _ (sub p hp))
    obtain ⟨o, ho⟩ := Option.isSome_iff_exists.mp (hsome p hp)
    rw [Hm_of (g1.nm hpn (by rw [ho]; exact fun z => nomatch z)), ho]
    exact g1.h p _ hpn ho
end
end DL

/-! DLE: == by an own __eq__; repr of any plain data; enumerate; what is turned about. -/
namespace DL
open PySem L2 PySem.Spec
open PyProof.Rows hiding St
set_option autoImplicit false
section
variable {X : Cx} {CX : CXT} {a b c ei : Expr} {es : List Expr} {pos : Pos} {fa fb : RD} {f : RA} {K : PySem.W.Frag} {x m qual : Str} {C : Addr} {st : Stmt} {ps : List Str} {k : Nat} {s : DSpec} {fd : FuncData} {sp : Sp} {E : XK}
def rEqOb (C : Addr) (sp : Sp) (E : XK) : R2 := fun x y H Q => ∃ a b dx dy fs gs, x = .ref a ∧ y = .ref b ∧ H a = some (.ins C dx fs) ∧ H b = some (.ins C dy gs) ∧ sp [.ref a, .ref b] H (fun v H' => ∃ t, v = .bl t ∧ Q v H') E
theorem op_eqOb {g : Addr} (hm : Meth X.K C "__eq__" g) (F : FnG X.prog X.w X.K X.mg X.base CX k g fd ps sp) (hr : RG0 k X) (hb : Binds X.K fd ps []) (hx : Passes CX X E) : OpR X (compareOp .Eq) (rEqOb C sp E) := by
  intro pins s σ H x y v u Q I rx ry hq
  obtain ⟨a, b, dx, dy, fs, gs, rfl, rfl, ha, hb', hq⟩ := hq
  cases rx
  cases ry
  obtain ⟨mA, J, _⟩ := ins_get I.hok ha
  obtain ⟨mB, J', _⟩ := ins_get I.hok hb'
  obtain ⟨od, J, _⟩ := J.look
  obtain ⟨od', J', _⟩ := J'.look
  obtain ⟨m, hF⟩ := I.fr
  refine PySem.W.cmp_K (op := .Eq) (tb := .ref C) hr.1.units0 hF I.ok.mod.kin J J'.type (by simp [PySem.W.notFirst]) hm.at_ hm.fn ?_
  refine wpAny_mono (runG (us := [.ref a, .ref b]) (vs := [.ref a, .ref b]) F hr hb .nil hx I (.cons rfl (.cons rfl .nil)) (by rw [List.append_nil]; exact hq)) (fun w s' h => ?_) fun _ _ e => e
  obtain ⟨z, H', I', rz, t, rfl, q⟩ := h
  cases rz
  exact ⟨.bl t, H', I', rfl, q⟩
theorem ob_seen {B : Kn} {H : Hp} (bs : Base K B H) {d : D} {v : V} (r : Rep K (Hm B.m H) d v) (h : isOb C m d B.m) : ∃ a dx fs, v = .ref a ∧ H a = some (.ins C dx fs) := by
  cases r with
  | ob h1 h2 h3 => obtain ⟨rfl, hn⟩ := h; exact ⟨_, _, _, rfl, Hm_ext _ _ h1⟩
  | mob p =>
    obtain ⟨ns, l, hM, hn⟩ := h
    obtain ⟨_, dx, vs, e, _⟩ := bs.wd p _ hM
    exact ⟨p, dx, _, rfl, e⟩
  | _ => exact h.elim
theorem ec_eqOb (F : DM X.prog X.w X.K X.mg X.base C "__eq__" qual st ps k s) (hr : RG0 k X) (ha : EV X a fa) (hb : EV X b fb) (h1 : behindInMarks .Eq b = false := by first | exact nobehind _ (by decide) (by decide) | rfl) :
    EC X (.Compare a [.Eq] [b] pos) (fun ρ M P => fa ρ M fun x M => fb ρ M fun y M => isOb C "__eq__" x M ∧ isOb C "__eq__" y M ∧ ps.length = 2 ∧ ∃ i, s.pre i Mem.no [x, y] ∧ ∀ t, (∃ M', s.post i Mem.no t M') → ∃ b, t = .fz (.bl b) ∧ P (.bl b) M) := by
  obtain ⟨g, fd, hm, hF, hbn, F'⟩ := F.ex
  refine ec_cmp (op_eqOb (E := fun _ _ _ => False) hm F' hr hbn pass0) (fun B H x y vx vy P Q bs rx ry h kk => ?_) ha hb h1
  obtain ⟨o1, o2, hl, i, p1, p2⟩ := h
  obtain ⟨a1, dx, fs, rfl, e1⟩ := ob_seen bs rx o1
  obtain ⟨a2, dy, gs, rfl, e2⟩ := ob_seen bs ry o2
  refine ⟨a1, a2, dx, dy, fs, gs, rfl, rfl, e1, e2, ?_⟩
  refine ⟨i, B.view H, [x, y], bs.view, .cons rx (.cons ry .nil), hl.symm, p1, fun t v B' H' T g r o q => ?_⟩
  obtain ⟨bb, rfl, q2⟩ := p2 t ⟨_, q⟩
  cases r with
  | fz r =>
    cases r
    exact ⟨bb, rfl, kk (.bl bb) _ B H' (Grow.unview bs g) (.bl bb) q2⟩
/-! ### repr of any plain data -/
def rReprA (K : PySem.W.Frag) : List V → Hp → VK → Prop := fun xs H Q => (∃ x, xs = [.str x] ∧ (reprText x).length ≤ sizeLine ∧ Q (.str (reprText x)) H) ∨ (∃ i, xs = [.int i] ∧ i.natAbs.log2 < 1920 ∧ Q (.str (toString i)) H) ∨ (∃ b, xs = [.bl b] ∧ Q (.str (if b then "True" else "False")) H) ∨ (xs = [.non] ∧ Q (.str "None") H) ∨ rReprD K xs H Q
theorem call_reprA (hg : X.A.guards = some []) (hu : X.A.units + 200 < cLine) : CallR X (.builtin "repr") (rReprA X.K) := by
  intro pins s σ H xs us Q I r h
  rcases h with ⟨x, rfl, hz, q⟩ | ⟨i, rfl, hz, q⟩ | ⟨b, rfl, q⟩ | ⟨rfl, q⟩ | h
  · obtain ⟨u, rfl, t, rfl⟩ := vals1 r
    exact PySem.P.repr_of_str ⟨.str _, H, I.tok _, ⟨_, rfl⟩, q⟩ hz
  · obtain ⟨u, rfl, t, rfl⟩ := vals1 r
    exact PySem.P.repr_of_int hz ⟨.str _, H, I.tok _, ⟨_, rfl⟩, q⟩
  · obtain ⟨u, rfl, rfl⟩ := vals1 r
    exact PySem.P.repr_of_bool ⟨.str _, H, I.tok _, ⟨_, rfl⟩, q⟩
  · obtain ⟨u, rfl, rfl⟩ := vals1 r
    exact PySem.P.repr_of_none ⟨.str _, H, I.tok _, ⟨_, rfl⟩, q⟩
  · exact call_reprD hg hu pins s σ H xs us Q I r h
def hReprA (ds : List D) (M : Mem) (P : D → Mem → Prop) : Prop := ∃ d, ds = [d] ∧ d.plain = true ∧ d.shortI = true ∧ d.dep ≤ 100 ∧ d.blk ≤ 2 ^ 20 ∧ P (.txt d.show) M
theorem ed_reprA (hr : X.A.guards = some []) (hu : X.A.units + 200 < cLine) (hm : X.mg "repr" = none) (ha : AV X [a] f) {p : Pos} (hg : Gl X "repr" := by rfl) (he : starEach [a] X.env = (false, eval a X.env) :: starEach [] X.env := by rfl) :
    ED X (.Call (.Name "repr" p) [a] [] pos) (fun ρ M P => f ρ M fun ds M => hReprA ds M P) := ed_callB (call_reprA hr hu) (fun B H ds vs P Q bs r h k => by
  obtain ⟨d, rfl, hp, hi, hd, hb, h⟩ := h
  obtain ⟨v, rfl, q⟩ := r.one
  have q' := q.up Hm_ext
  obtain ⟨z1, z2, z3⟩ := Rep.show d v hp hi q'
  have hdp := q'.dp _ _ hp
  have hd2 : d.toP.depth ≤ 100 := Nat.le_trans (D.dep_toP d) hd
  have hsz : d.toP.shown.length ≤ sizeLine := PyData.shown_fits_bulk (by decide) (by decide) z3 (Nat.le_trans (D.blk_toP d) hb)
  have last := k (.txt d.show) (.str d.show) B H bs.grow (.txt _) h
  cases q with
  | tup _ _ _ => exact .inr (.inr (.inr (.inr ⟨_, _, rfl, hdp, z1, z2, hd2, hsz, last⟩)))
  | lst _ _ _ => exact .inr (.inr (.inr (.inr ⟨_, _, rfl, hdp, z1, z2, hd2, hsz, last⟩)))
  | str x => exact .inl ⟨_, rfl, hsz, last⟩
  | int i =>
    refine .inr (.inl ⟨_, rfl, log_small (by simpa [D.shortI] using hi), last⟩)
  | bl b => exact .inr (.inr (.inl ⟨_, rfl, last⟩))
  | non => exact .inr (.inr (.inr (.inl ⟨rfl, last⟩)))
  | _ => simp [D.plain] at hp) ha hm (by decide +kernel) hg (by decide) (by decide) he rfl
/-! ### enumerate -/
def enumD : Nat → List D → List D
  | _, [] => []
  | n, d :: l => .tup [.int n, d] :: enumD (n + 1) l
theorem enumD_len : ∀ (l : List D) (n : Nat), (enumD n l).length = l.length
  | [], _ => rfl
  | d :: l, n => by simp [enumD, enumD_len l]
theorem enumD_get : ∀ {l : List D} {n i : Nat} {d : D}, (enumD n l)[i]? = some d → ∃ x, l[i]? = some x ∧ d = .tup [.int ((n + i : Nat) : Int), x]
  | [], _, _, _, h => by simp [enumD] at h
  | x :: l, n, 0, d, h => by
    simp only [enumD, List.getElem?_cons_zero, Option.some.injEq] at h
    exact ⟨x, rfl, h.symm⟩
  | x :: l, n, i + 1, d, h => by
    obtain ⟨y, h1, h2⟩ := enumD_get (l := l) (n := n + 1) (i := i) (by simpa [enumD] using h)
    exact ⟨y, by simpa using h1, by rw [h2, show n + 1 + i = n + (i + 1) by omega]⟩
theorem ei_enum {p tpos : Pos} {elts : List Expr} {kk : Nat} (hm : X.mg "enumerate" = none) (ha : AD X [a] f) (hg : Gl X "enumerate" := by rfl) (hs : starEach [a] X.env = [(false, eval a X.env)] := by rfl) :
    EI X (.Tuple elts kk tpos) (.Call (.Name "enumerate" p) [a] [] pos) (fun ρ M P => f ρ M fun ds M => ∃ xs, ds = [.lst xs] ∧ P (enumD 0 xs) M) := by
  obtain ⟨ta, pa, sa⟩ := ha.ex
  refine ⟨_, pi_enum hg hm pa hs, fun B H ρ σ S P R st hf k => sa B H ρ σ S _ _ st hf fun ds vs B' H' g r p => ?_⟩
  obtain ⟨xs, rfl, p⟩ := p
  cases r with
  | cons r rr =>
    cases rr
    cases r with
    | @lst a1 vs1 _ h1 l1 r1 =>
      refine ⟨a1, vs1, rfl, Evl.sq_of (g.base.bh _ _ h1), k _ _ B' H' g ⟨fun B H i d e bs hd => ?_, fun B H i e bs hi => ?_⟩ (by rw [enumD_len]; exact l1) p⟩
      · obtain ⟨x, hx, rfl⟩ := enumD_get hd
        obtain ⟨vx, ex, rx⟩ := r1.getD hx
        have q1 := Evl.sq_of (K := X.K) (bs.bh _ _ (e _ _ h1))
        refine ⟨⟨_, vx, q1, ex⟩, fun x' H' y' => ?_⟩
        obtain ⟨T, u1, rfl, hT, rfl, z1⟩ := y'
        have := z1 _ q1
        rw [ex] at this
        cases this
        rw [Nat.zero_add]
        exact pair_new bs (.int _) (rx.up e) hT
      · refine ⟨_, Evl.sq_of (bs.bh _ _ (e _ _ h1)), ?_⟩
        rw [enumD_len] at hi
        rw [← r1.length]
        exact hi
/-! ### is True, is False -/
def hIsB (g : Bool → Bool → Bool) (x y : D) (M : Mem) (P : D → Mem → Prop) : Prop := ∃ a b, x = .bl a ∧ y = .bl b ∧ P (.bl (g a b)) M
theorem sr_isB {g : Bool → Bool → Bool} : SR2 K (fun x y H Q => ∃ a b, x = .bl a ∧ y = .bl b ∧ Q (.bl (g a b)) H) (hIsB g) := by
  intro B H x y vx vy P Q bs rx ry h k
  obtain ⟨a, b, rfl, rfl, p⟩ := h
  cases rx
  cases ry
  exact ⟨a, b, rfl, rfl, k (.bl (g a b)) _ B H bs.grow (.bl _) p⟩
def isG (a b : Bool) : Bool := decide (a = b)
def notG (a b : Bool) : Bool := !decide (a = b)
theorem ec_isB (ha : EV X a fa) (hb : EV X b fb) (h1 : behindInMarks .Is b = false := by first | exact nobehind _ (by decide) (by decide) | rfl) : EC X (.Compare a [.Is] [b] pos) (fun ρ M P => fa ρ M fun x M => fb ρ M fun y M => hIsB isG x y M P) := ec_cmp op_is_bl sr_isB ha hb h1
theorem ec_notB (ha : EV X a fa) (hb : EV X b fb) (h1 : behindInMarks .IsNot b = false := by first | exact nobehind _ (by decide) (by decide) | rfl) : EC X (.Compare a [.IsNot] [b] pos) (fun ρ M P => fa ρ M fun x M => fb ρ M fun y M => hIsB notG x y M P) := ec_cmp op_isnot_bl sr_isB ha hb h1
theorem hIsB_bl {g : Bool → Bool → Bool} {a b : Bool} {M : Mem} {P : D → Mem → Prop} : hIsB g (.bl a) (.bl b) M P = P (.bl (g a b)) M := by simp [hIsB]
/-! ### isinstance(x, C), an instance of it -/
def isIns (C : Addr) (d : D) (M : Mem) : Prop := match d with
  | .ob C' _ _ => C' = C
  | .mob p => ∃ ns l, M p = some (.ins C ns l)
  | _ => False
theorem isIns_ob {C C' : Addr} {ns : List Str} {l : List D} {M : Mem} : isIns C (.ob C' ns l) M = (C' = C) := rfl
theorem ed_isC {cn : Str} {p pT : Pos} (c : C8.InsC X.K C) (gC : X.mg cn = some (.ref C)) (ha : EV X a fa) (hm : X.mg "isinstance" = none) (hg : Gl X "isinstance" := by rfl) (hgC : Gl X cn := by rfl) (hdb : (cn == ("__debug__" : Str)) = false := by decide)
    (he : starEach [a, .Name cn pT] X.env = (false, eval a X.env) :: starEach [.Name cn pT] X.env := by rfl) (he2 : starEach [.Name cn pT] X.env = (false, eval (.Name cn pT) X.env) :: starEach [] X.env := by rfl) (hpl : (backTo pos (starEach [.Name cn pT] X.env)).any (·.1) = false := by rfl) :
    ED X (.Call (.Name "isinstance" p) [a, .Name cn pT] [] pos) (fun ρ M P => fa ρ M fun x M => isIns C x M ∧ P (.bl true) M) := by
  obtain ⟨te, pe, se⟩ := ha.ex
  refine ⟨_, pe_callB (C8.call_isC c) hg hm (by decide +kernel) (pa_cons pe (pa_cons (pe_glob (v := .ref C) hgC gC rfl hdb) pa_nil he2) he) (by decide) (by decide) he hpl, fun B H ρ σ S P Q st hf kk => se B H ρ σ S _ _ st hf fun d v B1 H1 g1 r1 p1 => ?_⟩
  obtain ⟨hi, p1⟩ := p1
  have last := kk (.bl true) (.bl true) B1 H1 g1 (.bl _) p1
  cases r1 with
  | ob h1 h2 h3 => obtain rfl := hi; exact ⟨_, _, _, rfl, Hm_ext _ _ h1, last⟩
  | mob p =>
    obtain ⟨ns, l, hM⟩ := hi
    obtain ⟨_, dx, vs, e, _⟩ := g1.base.wd p _ hM
    exact ⟨p, dx, _, rfl, e, last⟩
  | _ => exact hi.elim
end
end DL

/-! DLR: x[::-1] of lists and tuples. -/
namespace BK
open PySem PySem.SeqAt PyProof.Rows
section
theorem range_pick {α : Type} (l : List α) : ((List.range l.length).filterMap fun k => l[k]?) = l := by
  induction l with
  | nil => rfl
  | cons a l ih =>
    rw [List.length_cons, List.range_succ_eq_map, List.filterMap_cons]
    simp [List.filterMap_map, Function.comp_def, ih]
theorem fm_congr {α β : Type} {f g : α → Option β} : ∀ {l : List α}, (∀ x ∈ l, f x = g x) → l.filterMap f = l.filterMap g
  | [], _ => rfl
  | a :: l, h => by rw [List.filterMap_cons, List.filterMap_cons, h a List.mem_cons_self, fm_congr fun x hx => h x (List.mem_cons_of_mem _ hx)]
theorem pick_rev (xs : Array Value) : ((List.range xs.size).filterMap fun (k : Nat) => xs[(((xs.size : Int) - 1) + (k : Int) * (-1)).toNat]?) = xs.toList.reverse := by
  have h := range_pick xs.toList.reverse
  rw [List.length_reverse, Array.length_toList] at h
  rw [← h]
  have e : ∀ k ∈ List.range xs.size, xs[(((xs.size : Int) - 1) + (k : Int) * (-1)).toNat]? = xs.toList.reverse[k]? := fun k hk => by
    have hk : k < xs.size := List.mem_range.mp hk
    rw [List.getElem?_reverse (by simpa using hk), show (((xs.size : Int) - 1) + (k : Int) * (-1)).toNat = xs.size - 1 - k by omega]
    simp
  have e2 : List.filterMap (fun k => (xs.toList.reverse)[k]?) (List.range xs.size) = List.filterMap (fun (k : Nat) => xs[(((xs.size : Int) - 1) + (k : Int) * (-1)).toNat]?) (List.range xs.size) := fm_congr fun k hk => (e k hk).symm
  rw [h] at e2
  rw [h]
  exact e2.symm

variable {M : Program} {w : World} {A : Around} {E : Value → Shared → Prop} {s : Shared}
/-- where the slice [::-1] of n things begins, how it goes on, how many places it has -/
theorem places {c : Addr} {m : Value} {n : Nat} {Q : Int × Int × Nat → Shared → Prop} (hc : s.heap.IsSliceOf c .none .none m) (hm : IsPart m (some (-1))) (q : Q (n - 1, -1, n) s) :
    wpAny (model M w) A (Builtin.Slice.sliceApplied (.ref c) (pure (n : Int))) Q E s := by
  obtain ⟨o, e, _, d⟩ := hc
  have count : Builtin.Slice.slicePlaces ((n : Int) - 1) (-1) (-1) = n := by
    simp [Builtin.Slice.slicePlaces]
    omega
  have ask := fun {P : Option Int → Shared → Prop} (h : P (some (-1)) s) => HT.slicePart_ (prog := M) (w := w) (A := A) (E := E) hm h
  have fld : ∀ (k : Nat) (x : Value) {P : Value → Shared → Prop}, (#[.none, .none, m] : Array Value)[k]? = some x → P x s → wpAny (model M w) A (field (.ref c) k) P E s := fun k x P h1 h2 => wpAny_field e d h1 h2
  have three : wpAny (model M w) A (Builtin.Slice.sliceFields (.ref c)) (fun r s' => r = (.none, .none, m) ∧ s' = s) E s :=
    wpAny_bind (fld 0 .none rfl (wpAny_bind (fld 1 .none rfl (wpAny_bind (fld 2 m rfl (wpAny_pure ⟨rfl, rfl⟩))))))
  refine wpAny_bind (wpAny_mono three ?_ fun _ _ h => h)
  rintro _ _ ⟨rfl, rfl⟩
  refine wpAny_bind (ask (wpAny_bind ?_))
  refine wpAny_pure (wpAny_bind (wpAny_pure (wpAny_bind (wpAny_pure (wpAny_bind (wpAny_pure (wpAny_pure ?_)))))))
  exact (congrArg (fun k => Q (n - 1, -1, k) _) count).mpr q
/-- t[::-1] of a tuple: a new one -/
theorem of_tuple {t c : Addr} {xs : Array Value} {m : Value} {Q : Value → Shared → Prop} (ht : IsTup s.heap t xs) (hc : s.heap.IsSliceOf c .none .none m) (hm : IsPart m (some (-1))) (fits : xs.size ≤ sizeLine)
    (q : Q (.ref s.heap.objs.size) { s with heap := s.heap.push { cls := .type "tuple", data := .seq xs.toList.reverse.toArray } }) : wpAny (model M w) A (getItem (.ref t) (.ref c)) Q E s := by
  have room : sizeOk (.seq xs.toList.reverse.toArray) := by simpa [sizeOk] using fits
  have T : s.TypeIs (.ref c) "slice" := let ⟨o, e, k, _⟩ := hc; ⟨o, e, k⟩
  have body : wpAny (model M w) A.in1 (Builtin.«tuple.__getitem__» ⟨[.ref t, .ref c], []⟩) (fun r s' => ∃ v, r = .done (.ret v) ∧ Q v s') E s := by
    refine wpAny_bind (wpAny_pure (wpAny_bind (tupleItemsOf_ ht (wpAny_bind (wpAny_typeOf T ?_)))))
    refine wpAny_bind (places hc hm ?_)
    have other : ((((xs.size : Int) - 1) == 0 && (-1 : Int) == 1 && xs.size == xs.size)) = false := by simp
    simp only [other, Bool.false_eq_true, if_false]
    rw [pick_rev]
    exact wpAny_bind (wpAny_newObj_type (wpAny_pure ⟨_, rfl, q⟩) room)
  unfold getItem
  refine wpAny_holding (wpAny_bind (wpAny_sequenceKey ht.typeIs (by decide) ?_))
  exact wpAny_bind ((wpAny_callSpecial?_slot (name := Str.ofString "__getitem__") ht.typeIs PyProof.Rows.slot_tuple_getitem
    (wpAny_call_entry PyProof.Rows.slot_tuple_getitem ht.typeIs entry_tuple_getitem (wpAny_mono body (fun _ _ h => let ⟨v, e, h⟩ := h; ⟨v, e, wpAny_pure h⟩) fun _ _ h => h) (args_tuple_getitem _ _))))
end
end BK
namespace DL
open PySem L2 PySem.Spec
open PyProof.Rows hiding St
set_option autoImplicit false
section
variable {X : Cx} {e : Expr} {pos : Pos} {fa : RD}
/-- ::-1 as it's written -/
abbrev backE (k : Nat) (p1 p2 p3 : Pos) : Expr := .Slice none none (some (.UnaryOp .USub (.Constant (.int 1) k p1) p2)) p3
theorem back_made {k : Nat} {p1 p2 p3 : Pos} {pins : List (Addr × Obj)} {s : Shared} {σ : L2.St} {H : Hp} (I : L2.Inv X pins σ H s) :
    wpAny (model X.prog X.w) X.A (eval (backE k p1 p2 p3) X.env) (fun v s' => ∃ c m, v = .ref c ∧ s'.heap.IsSliceOf c .none .none m ∧ IsPart m (some (-1)) ∧ L2.Inv X pins σ H s') X.xe s := by
  have step : PO X (some (.UnaryOp .USub (.Constant (.int 1) k p1) p2)) (tPart (tUn (rU fun i => .int (-i)) (tC (.int 1)))) := po_some (pe_un un_neg pe_int)
  refine wpAny_Slice (wpAny_pure (wpAny_pure (thn (step.run pins s σ H (fun o H' => o = some (-1) ∧ H' = H) I ⟨1, rfl, -1, rfl, rfl, rfl⟩) ?_)))
  rintro m s' ⟨_, _, I', hm, rfl, rfl⟩
  exact ⟨_, m, rfl, Heap.IsSliceOf.new _ .none .none m, hm, I'.kept (t' := s'.toks) fun _ _ q => Heap.get?_push_of_some _ q⟩
/-- x[::-1] -/
def tBack (K : PySem.W.Frag) (te : TE) : TE := fun σ H Q => te σ H fun x H1 => ∃ a xs, x = .ref a ∧ ((SqL K H1 a xs ∧ ∀ p, H1 p = none → Q (.ref p) (upd H1 p (.lst xs.reverse))) ∨ (SqT K H1 a xs ∧ ∀ p, H1 p = none → Q (.ref p) (upd H1 p (.tup xs.reverse))))
theorem pe_back {te : TE} {k : Nat} {p1 p2 p3 : Pos} (he : PE X e te) : PE X (.Subscript e (backE k p1 p2 p3) pos) (tBack X.K te) := by
  constructor
  intro pins s σ H Q I h
  refine Subscript_ (thn (he.run pins s σ H _ I h) ?_)
  rintro _ s1 ⟨_, H1, I1, r1, a, xs, rfl, hx⟩
  cases r1
  refine thn (back_made I1) ?_
  rintro _ s2 ⟨c, m, rfl, hc, hm, I2⟩
  -- the new thing, wherever it comes to lie
  have fin : ∀ {o : HO} {ob : Obj}, (∀ p, H1 p = none → Q (.ref p) (upd H1 p o)) → ObjOk X.prog X.w (upd H1 s2.heap.objs.size o) (s2.heap.push ob) s2.heap.objs.size o → L2.EP X pins σ Q (.ref s2.heap.objs.size) { s2 with heap := s2.heap.push ob } :=
    fun q n => ⟨.ref _, _, I2.laid (t' := s2.toks) (fun _ _ e => Heap.get?_push_of_some _ e) (Nat.le_refl _) n, rfl, q _ (I2.hok.fresh (Nat.le_refl _))⟩
  rcases hx with ⟨hx, q⟩ | ⟨hx, q⟩
  · obtain ⟨us, r, hl, fits⟩ := I2.list hx
    refine tail_any (ops := [.ref a, .ref c]) hl.isList.typeIs PySem.slot_list_getitem.lookup (wpAny_getItem_list_slice hl.isList hc .none .none hm (by decide) ?_ (by simpa [← r.length] using fits)) (by with_unfolding_all rfl)
    rw [PySem.W.krv_pick]
    exact fin q ⟨by simpa using fits, _, 0, r.reverse, Heap.get?_push_size _ rfl⟩
  · obtain ⟨us, r, ht, fits⟩ := I2.tuple hx
    refine tail_any (ops := [.ref a, .ref c]) ht.typeIs PyProof.Rows.slot_tuple_getitem.lookup (BK.of_tuple ht hc hm (by simpa [← r.length] using fits) ?_) (by with_unfolding_all rfl)
    exact fin q ⟨by simpa using fits, _, r.reverse, IsTup.new _ _⟩
def hRev (d : D) (M : Mem) (P : OT → Mem → Prop) : Prop := match d with
  | .tup l => P (.fz (.tup l.reverse)) M
  | .lst l => P (.ow (l.reverse.map .fz)) M
  | _ => False
theorem Reps.reverse {K : PySem.W.Frag} {B : Hp} : ∀ {ds : List D} {vs : List V}, Reps K B ds vs → Reps K B ds.reverse vs.reverse
  | [], _, .nil => .nil
  | d :: ds, _, .cons h t => by rw [List.reverse_cons, List.reverse_cons]; exact (Reps.reverse t).append (.cons h .nil)
theorem eo_rev {k : Nat} {p1 p2 p3 : Pos} (ha : ED X e fa) : EO X (.Subscript e (.Slice none none (some (.UnaryOp .USub (.Constant (.int 1) k p1) p2)) p3) pos) (fun ρ M P => fa ρ M fun d M => hRev d M P) := by
  obtain ⟨te, pe, se⟩ := ha.ex
  refine ⟨_, pe_back pe, fun B H ρ σ S P Q st hf kk => se B H ρ σ S _ _ st hf fun d v B1 H1 g1 r1 p1 => ?_⟩
  cases r1 with
  | @tup a vs l h1 h2 h3 =>
    refine ⟨a, vs, rfl, .inr ⟨Evl.ex_t g1.base.bh h1, fun p hp => ?_⟩⟩
    have g2 := g1.base.new (o := .tup vs.reverse) hp
    have p1 : P (.fz (.tup l.reverse)) B1.m := p1
    exact kk (.fz (.tup l.reverse)) _ _ _ [] (g1.trans g2) (.fz (.tup (Evl.st_of upd_same) (by rw [List.length_reverse]; exact h2) ((Reps.reverse h3).up g2.b))) Own.nil p1
  | @lst a vs l h1 h2 h3 =>
    refine ⟨a, vs, rfl, .inl ⟨Evl.sq_of (g1.base.bh _ _ h1), fun p hp => ?_⟩⟩
    have p1 : P (.ow (l.reverse.map .fz)) B1.m := p1
    obtain ⟨g2, hb, nd⟩ := g1.base.newO (o := .lst vs.reverse) hp
    refine kk (.ow (l.reverse.map .fz)) (.ref p) B1 _ [p] (g1.trans g2) (.ow upd_same (by rw [List.length_map, List.length_reverse]; exact h2) (RepOs.fzs (Reps.reverse h3))) ⟨List.nodup_cons.mpr ⟨List.not_mem_nil, .nil⟩, fun q hq => ?_, fun q hq => ?_, fun q hq => ?_⟩ p1
    all_goals
      rw [List.mem_singleton] at hq
      subst hq
    · exact g1.free hp
    · exact hb
    · exact nd
  | _ => exact p1.elim
end
end DL

set_option maxHeartbeats 1000000
/-! DLQ: for x in zip(t, u), two tuples, the pair told as one. The zip may still know the pair that it handed out last, alive or not. -/
namespace ZN
open PySem
open PySem.Sem (wp)
/-- all cells but some stand -/
def Stay (cs : List Addr) (h h' : Heap) : Prop := ∀ c o, c ∉ cs → h.get? c = some o → h'.get? c = some o
theorem Stay.seq {cs : List Addr} {h1 h2 h3 : Heap} (a : Stay cs h1 h2) (b : Stay cs h2 h3) : Stay cs h1 h3 := fun c o n e => b c o n (a c o n e)
theorem Stay.same {cs : List Addr} {x : Addr} {h h' : Heap} (m : x ∈ cs) (a : Heap.SameBut x h h') : Stay cs h h' := fun c o n e => (a.2 c fun q => n (q ▸ m)).trans e
theorem Stay.ext {cs : List Addr} {x : Addr} {h h' : Heap} (m : x ∈ cs) (a : Heap.ExtBut x h h') : Stay cs h h' := fun c o n e => a c o (fun q => n (q ▸ m)) e
abbrev zipO (l : Value) (f : Bool) (TI TO : Addr) : Obj := { cls := .type "zip", data := .fields #[l, .bool f, .bool false, .ref TI, .ref TO] }
def Told (l : Value) : Prop := l = .none ∨ ∃ T : Nat, l = rawInt T
/-- the cells of a zip -/
structure Zc where
  (z TI TO i1 i2 a b : Addr)
  D : ZipApart z TI TO i1 i2 a b
abbrev Zc.own (c : Zc) : List Addr := [c.z, c.TO, c.i1, c.i2]
/-- where a zip of the tuples xs, ys stands: what it knows, its own pair, how far both are -/
structure R (c : Zc) (xs ys : Array Value) (h0 : Heap) (l : Value) (f : Bool) (u v : Value) (k1 k2 : Nat) (h : Heap) : Prop where
  z : h.get? c.z = some (zipO l f c.TI c.TO)
  ti : IsPair h c.TI (.ref c.i1) (.ref c.i2)
  to : IsPair h c.TO u v
  one : h.IsTupleIter c.i1 c.a k1
  two : h.IsTupleIter c.i2 c.b k2
  ta : h.IsTuple c.a xs
  tb : h.IsTuple c.b ys
  size : h.objs.size = h0.objs.size
  stay : Stay c.own h0 h
section
variable {c : Zc} {xs ys : Array Value} {h0 h h' : Heap} {l l' u v u' v' : Value} {f f' : Bool} {k1 k2 : Nat}
theorem R.toZ (r : R c xs ys h0 l f u v k1 k2 h) (q : Heap.SameBut c.z h h') (e : h'.get? c.z = some (zipO l' f' c.TI c.TO)) : R c xs ys h0 l' f' u v k1 k2 h' :=
  ⟨e, (q.2 _ c.D.TIz).trans r.ti, (q.2 _ c.D.TOz).trans r.to, r.one.at fun o w => (q.2 _ c.D.i1z).trans w, r.two.at fun o w => (q.2 _ c.D.i2z).trans w,
    r.ta.at fun o w => (q.2 _ c.D.l1z).trans w, r.tb.at fun o w => (q.2 _ c.D.l2z).trans w, q.1.trans r.size, r.stay.seq (.same (by simp) q)⟩
theorem R.toO (r : R c xs ys h0 l f u v k1 k2 h) (q : Heap.SameBut c.TO h h') (e : IsPair h' c.TO u' v') : R c xs ys h0 l f u' v' k1 k2 h' :=
  ⟨(q.2 _ c.D.TOz.symm).trans r.z, (q.2 _ c.D.TITO).trans r.ti, e, r.one.at fun o w => (q.2 _ c.D.TOi1.symm).trans w, r.two.at fun o w => (q.2 _ c.D.TOi2.symm).trans w,
    r.ta.at fun o w => (q.2 _ c.D.l1TO).trans w, r.tb.at fun o w => (q.2 _ c.D.l2TO).trans w, q.1.trans r.size, r.stay.seq (.same (by simp) q)⟩
theorem R.to1 (r : R c xs ys h0 l f u v k1 k2 h) (q : Heap.SameBut c.i1 h h') (e : h'.IsTupleIter c.i1 c.a (k1 + 1)) : R c xs ys h0 l f u v (k1 + 1) k2 h' :=
  ⟨(q.2 _ c.D.i1z.symm).trans r.z, (q.2 _ c.D.TIi1).trans r.ti, (q.2 _ c.D.TOi1).trans r.to, e, r.two.at fun o w => (q.2 _ c.D.i12.symm).trans w,
    r.ta.at fun o w => (q.2 _ c.D.l1i1).trans w, r.tb.at fun o w => (q.2 _ c.D.l2i1).trans w, q.1.trans r.size, r.stay.seq (.same (by simp) q)⟩
theorem R.to2 (r : R c xs ys h0 l f u v k1 k2 h) (q : Heap.SameBut c.i2 h h') (e : h'.IsTupleIter c.i2 c.b (k2 + 1)) : R c xs ys h0 l f u v k1 (k2 + 1) h' :=
  ⟨(q.2 _ c.D.i2z.symm).trans r.z, (q.2 _ c.D.TIi2).trans r.ti, (q.2 _ c.D.TOi2).trans r.to, r.one.at fun o w => (q.2 _ c.D.i12).trans w, e,
    r.ta.at fun o w => (q.2 _ c.D.l1i2).trans w, r.tb.at fun o w => (q.2 _ c.D.l2i2).trans w, q.1.trans r.size, r.stay.seq (.same (by simp) q)⟩
end
section
variable {prog : Program} {w : World} {A : Around} {E : Value → Shared → Prop} {s : Shared}
/-- the next item of a tuple, or its end -/
theorem draw (hh : A.handled = none) {it t : Addr} {i : Nat} {xs : Array Value} (a : s.heap.IsTupleIter it t i) (b : s.heap.IsTuple t xs) :
    wpAny (model prog w) A (Builtin.SmallTypes.nextOf (.ref it))
      (fun v s' => ∃ h', s' = { s with heap := h' } ∧ xs[i]? = some v ∧ Heap.SameBut it s.heap h' ∧ h'.IsTupleIter it t (i + 1))
      (fun e s' => ∃ h' c, s' = { s with heap := h' } ∧ e = .ref c ∧ xs[i]? = none ∧ Heap.ExtBut it s.heap h' ∧ ∃ o, h'.get? c = some o ∧ o.cls = .type "StopIteration") s := by
  cases e : xs[i]? with
  | some v => exact RZ.nextOf_tuple_item a b e fun h' p q => ⟨h', rfl, rfl, q, p⟩
  | none => exact RZ.nextOf_tuple_end hh a b e fun h' c p q => ⟨h', c, rfl, rfl, rfl, p, q⟩
/-- is the pair free? if not, the zip notes that it's out -/
theorem free {c : Zc} {xs ys : Array Value} {h0 : Heap} {l u v : Value} {f : Bool} {k1 k2 : Nat} {Q : Bool → Shared → Prop} (r : R c xs ys h0 l f u v k1 k2 s.heap) (hl : Told l) (h1 : Q true s)
    (h2 : ∀ h' f', R c xs ys h0 l f' u v k1 k2 h' → Q false { s with heap := h' }) : wpAny (model prog w) A (Builtin.SmallTypes.ownedTupleIsFree (.ref c.z)) Q E s := by
  unfold Builtin.SmallTypes.ownedTupleIsFree
  refine wpAny_bind (wpAny_field r.z rfl rfl ?_)
  rcases hl with rfl | ⟨T, rfl⟩
  · exact wpAny_pure h1
  · have look : wpAny (model prog w) A (loadIfAlive (T : Int).toNat) (fun _ s' => s' = s) E s := fun _ _ _ => rfl
    refine wpAny_bind (wpAny_mono look ?_ fun _ _ q => q)
    rintro o s' rfl
    cases o with
    | none => exact wpAny_pure h1
    | some o =>
      refine wpAny_bind (wpAny_field r.z rfl rfl ?_)
      cases f with
      | true => exact wpAny_pure (h2 _ _ r)
      | false => exact wpAny_bind (wpAny_setField_rec r.z (by simp) fun h' e q => wpAny_pure (h2 h' true (r.toZ q e)))
/-- the end of a tuple: a StopIteration stands at e -/
def Over (c : Zc) (h0 : Heap) (e : Value) (h : Heap) : Prop := Stay c.own h0 h ∧ ∃ x, e = .ref x ∧ ∃ o, h.get? x = some o ∧ o.cls = .type "StopIteration"
theorem raw {c : Zc} {xs ys : Array Value} {l u v : Value} {f : Bool} {i : Nat} (hh : A.handled = none) (r : R c xs ys s.heap l f u v i i s.heap) (hl : Told l) :
    wpAny (model prog w) A (Builtin.«zip.__next__» ⟨[.ref c.z], []⟩)
      (fun fin s' => ∃ h' x y, fin = .done (.ret (.ref s.heap.objs.size)) ∧ s' = { s with heap := h' } ∧ xs[i]? = some x ∧ ys[i]? = some y ∧ IsPair h' s.heap.objs.size x y ∧ Stay c.own s.heap h' ∧ h'.IsTupleIter c.i1 c.a (i + 1) ∧ h'.IsTupleIter c.i2 c.b (i + 1) ∧
        (∃ l' f', Told l' ∧ h'.get? c.z = some (zipO l' f' c.TI c.TO)) ∧ ∃ u' v', IsPair h' c.TO u' v')
      (fun e s' => ∃ h', s' = { s with heap := h' } ∧ (xs[i]? = none ∨ ys[i]? = none) ∧ Over c s.heap e h') s := by
  have lt : ∀ {a o} {h : Heap}, h.get? a = some o → a < h.objs.size := fun e => Heap.lt_size e
  unfold Builtin.«zip.__next__»
  refine wpAny_bind (wpAny_pure ?_)
  refine wpAny_bind (wpAny_field r.z rfl rfl (wpAny_bind (wpAny_field r.z rfl rfl (wpAny_bind (wpAny_seqItems r.ti rfl ?_)))))
  refine wpAny_bind (free r hl ?A fun g f' rg => ?B)
  case A =>
    refine wpAny_bind (wpAny_rule (wpAny_bind (wpAny_field r.z rfl rfl (wpAny_bind (wpAny_setField_rec r.z (by simp) fun g1 e1 q1 => wpAny_bind ?_)))))
    have r1 := r.toZ (l' := .ellipsis) (f' := f) q1 e1
    have bad : ∀ {k1 k2 : Nat} {u v : Value} {g : Heap} {x : Addr} {e : Value} {s2 : Shared}, R c xs ys s.heap .ellipsis f u v k1 k2 g → x ∈ c.own → x ≠ c.z → (xs[i]? = none ∨ ys[i]? = none) →
        (∃ h' y, s2 = { s with heap := h' } ∧ e = .ref y ∧ Heap.ExtBut x g h' ∧ ∃ o, h'.get? y = some o ∧ o.cls = .type "StopIteration") →
        wpAny (model prog w) A (setField (.ref c.z) 0 .none) (fun _ s3 => ∃ h', s3 = { s with heap := h' } ∧ (xs[i]? = none ∨ ys[i]? = none) ∧ Over c s.heap e h') (fun e' s3 => ∃ h', s3 = { s with heap := h' } ∧ (xs[i]? = none ∨ ys[i]? = none) ∧ Over c s.heap e' h') s2 := by
      rintro k1 k2 u v g x e _ rg hx hz hn ⟨g', y, rfl, rfl, q, o, ho, ho2⟩
      refine wpAny_setField_rec (q _ _ hz.symm rg.z) (by simp) fun g2 _ q2 => ⟨g2, rfl, hn, (rg.stay.seq (.ext hx q)).seq (.same (by simp) q2), y, rfl, o, (q2.2 _ fun w => ?_).trans ho, ho2⟩
      rw [w, q _ _ hz.symm rg.z] at ho
      cases ho
      exact absurd (show Value.type "zip" = .type "StopIteration" from ho2) (by decide)
    simp only [List.zipIdx_cons, List.zipIdx_nil, List.forIn_cons, List.forIn_nil]
    refine wpAny_bind (wpAny_bind (wpAny_onRaise (wpAny_bind (wpAny_mono (draw (s := { s with heap := g1 }) hh r1.one r1.ta) ?_ ?_))))
    case _ =>
      rintro x s2 ⟨g2, rfl, hx, q2, e2⟩
      have r2 := r1.to1 q2 e2
      refine wpAny_pure (wpAny_bind (wpAny_seqItems r2.to rfl (wpAny_bind (wpAny_updateSeq_pair r2.to fun g3 e3 q3 => wpAny_bind (wpAny_letGo (wpAny_pure ?_))))))
      have r3 := r2.toO q3 (u' := x) (v' := v) e3
      refine wpAny_bind (wpAny_bind (wpAny_onRaise (wpAny_bind (wpAny_mono (draw (s := { s with heap := g3 }) hh r3.two r3.tb) ?_ ?_))))
      case _ =>
        rintro y s4 ⟨g4, rfl, hy, q4, e4⟩
        have r4 := r3.to2 q4 e4
        refine wpAny_pure (wpAny_bind (wpAny_seqItems r4.to rfl (wpAny_bind (wpAny_updateSeq_pair r4.to fun g5 e5 q5 => wpAny_bind (wpAny_letGo (wpAny_pure (wpAny_pure ?_)))))))
        have r5 := r4.toO q5 (u' := x) (v' := y) e5
        refine wpAny_bind (wpAny_seqItems r5.to rfl (wpAny_bind (wpAny_newTuple (wpAny_bind ?_))))
        unfold Builtin.SmallTypes.ownedTupleHandOut
        have p1 : ∀ {a o}, g5.get? a = some o → (g5.push { cls := .type "tuple", data := .seq #[x, y] }).get? a = some o := fun e => Heap.get?_push_of_some _ e
        have nz : g5.objs.size ≠ c.z := fun w => absurd (Heap.lt_size r5.z) (by rw [w]; exact Nat.lt_irrefl _)
        refine wpAny_bind (wpAny_setField_rec (p1 r5.z) (by simp) fun g7 e7 q7 => wpAny_setField_rec e7 (by simp) fun g8 e8 q8 => wpAny_pure ?_)
        have up : ∀ {a o}, a ≠ c.z → g5.get? a = some o → g8.get? a = some o := fun n e => (q8.2 _ n).trans ((q7.2 _ n).trans (p1 e))
        refine ⟨g8, x, y, by rw [show g5.objs.size = s.heap.objs.size from r5.size], rfl, hx, hy, ?_, ?_, r5.one.at fun o w => up c.D.i1z w, r5.two.at fun o w => up c.D.i2z w, ⟨_, false, .inr ⟨_, rfl⟩, e8⟩, _, _, up c.D.TOz r5.to⟩
        · rw [← r5.size]
          exact (q8.2 _ nz).trans ((q7.2 _ nz).trans (Heap.get?_push_size _ rfl))
        · exact ((r5.stay.seq fun a o _ w => p1 w).seq (.same (by simp) q7)).seq (.same (by simp) q8)
      case _ =>
        rintro e s4 ⟨g4, y, rfl, rfl, hy, q⟩
        exact bad r3 (by simp) c.D.i2z (.inr hy) ⟨g4, y, rfl, rfl, q⟩
    case _ =>
      rintro e s2 ⟨g2, y, rfl, rfl, hx, q⟩
      exact bad r1 (by simp) c.D.i1z (.inl hx) ⟨g2, y, rfl, rfl, q⟩
  case B =>
    refine wpAny_bind ?_
    rw [← Array.forIn_toList]
    simp only [List.forIn_cons, List.forIn_nil]
    refine wpAny_bind (wpAny_bind (wpAny_holding (wpAny_bind (wpAny_mono (draw (s := { s with heap := g }) hh rg.one rg.ta) ?_ ?_))))
    case _ =>
      rintro x s2 ⟨g2, rfl, hx, q2, e2⟩
      have r2 := rg.to1 q2 e2
      refine wpAny_pure (wpAny_pure (wpAny_bind (wpAny_bind (wpAny_holding (wpAny_bind (wpAny_mono (draw (s := { s with heap := g2 }) hh r2.two r2.tb) ?_ ?_))))))
      case _ =>
        rintro y s4 ⟨g4, rfl, hy, q4, e4⟩
        have r4 := r2.to2 q4 e4
        refine wpAny_pure (wpAny_pure (wpAny_pure (wpAny_bind (wpAny_newTuple (wpAny_pure ?_) (show 2 ≤ sizeLine by decide)))))
        have up : ∀ {a o}, g4.get? a = some o → (g4.push { cls := .type "tuple", data := .seq #[x, y] }).get? a = some o := fun e => Heap.get?_push_of_some _ e
        refine ⟨_, x, y, by rw [show g4.objs.size = s.heap.objs.size from r4.size], rfl, hx, hy, ?_, r4.stay.seq fun a o _ w => up w, r4.one.at fun o w => up w, r4.two.at fun o w => up w, ⟨l, f', hl, up r4.z⟩, _, _, up r4.to⟩
        rw [← r4.size]
        exact Heap.get?_push_size _ rfl
      case _ =>
        rintro e s4 ⟨g4, y, rfl, rfl, hy, q, ho⟩
        exact ⟨g4, rfl, .inr hy, r2.stay.seq (.ext (by simp) q), y, rfl, ho⟩
    case _ =>
      rintro e s2 ⟨g2, y, rfl, rfl, hx, q, ho⟩
      exact ⟨g2, rfl, .inl hx, rg.stay.seq (.ext (by simp) q), y, rfl, ho⟩
/-- next(z): the pair, or none where a tuple has ended -/
theorem nxt {c : Zc} {xs ys : Array Value} {l u v : Value} {f : Bool} {i : Nat} (hh : A.handled = none) (r : R c xs ys s.heap l f u v i i s.heap) (hl : Told l) :
    wpAny (model prog w) A (pyNext (.ref c.z)) (fun o s' => ∃ h', s' = { s with heap := h' } ∧ Stay c.own s.heap h' ∧
      ((o = none ∧ (xs[i]? = none ∨ ys[i]? = none)) ∨ (o = some (.ref s.heap.objs.size) ∧ ∃ x y, xs[i]? = some x ∧ ys[i]? = some y ∧ IsPair h' s.heap.objs.size x y ∧ h'.IsTupleIter c.i1 c.a (i + 1) ∧ h'.IsTupleIter c.i2 c.b (i + 1) ∧
        (∃ l' f', Told l' ∧ h'.get? c.z = some (zipO l' f' c.TI c.TO)) ∧ ∃ u' v', IsPair h' c.TO u' v'))) E s := by
  have T : s.TypeIs (.ref c.z) "zip" := ⟨_, r.z, rfl⟩
  unfold pyNext
  refine wpAny_bind (wpAny_attempt (wpAny_callSpecial?_slot (name := Str.ofString "__next__") T F.slot_zip_next (wpAny_call_entry F.slot_zip_next T F.entry_zip_next (wpAny_mono (raw (A := A.in1) hh r hl) ?_ ?_) (F.args_zip_next_1 _))))
  · rintro fin s' ⟨h', x, y, rfl, rfl, hx, hy, p, st, a, b, z, o⟩
    exact ⟨_, rfl, wpAny_pure ⟨h', rfl, st, .inr ⟨rfl, x, y, hx, hy, p, a, b, z, o⟩⟩⟩
  · rintro e s' ⟨h', rfl, hn, st, y, rfl, o, ho, hc⟩
    exact wpAny_bind (wpAny_isInstance (T := "StopIteration") (b := true) ⟨o, ho, hc⟩ isSubtype_stop (wpAny_pure ⟨h', rfl, st, .inl ⟨rfl, hn⟩⟩))
end
end ZN
namespace ZN
open PySem PySem.Spec PyProof.Rows L2
variable {P : Program} {w : World} {K : PySem.W.Frag}
/-- how far the zip of c is -/
def Stands (c : Zc) (i : Nat) (h : Heap) : Prop := (∃ l f, Told l ∧ h.get? c.z = some (zipO l f c.TI c.TO)) ∧ IsPair h c.TI (.ref c.i1) (.ref c.i2) ∧ (∃ x y, IsPair h c.TO x y) ∧ h.IsTupleIter c.i1 c.a i ∧ h.IsTupleIter c.i2 c.b i
abbrev Zc.cells (c : Zc) : List Addr := [c.z, c.TI, c.TO, c.i1, c.i2]
theorem Stands.moved {c : Zc} {i : Nat} {h h' : Heap} (S : Stands c i h) (k : ∀ b ∈ c.cells, ∀ o, h.get? b = some o → h'.get? b = some o) : Stands c i h' := by
  obtain ⟨⟨l, f, hl, z⟩, ti, ⟨x, y, to⟩, one, two⟩ := S
  exact ⟨⟨l, f, hl, k _ (by simp) _ z⟩, k _ (by simp) _ ti, ⟨x, y, k _ (by simp) _ to⟩, one.at fun o e => k _ (by simp) _ e, two.at fun o e => k _ (by simp) _ e⟩
theorem Stands.seen {c : Zc} {i : Nat} {h : Heap} (S : Stands c i h) {b : Addr} (m : b ∈ c.cells) : ∃ o, h.get? b = some o ∧ ∀ v, o.data ≠ .cell v := by
  obtain ⟨⟨l, f, hl, z⟩, ti, ⟨x, y, to⟩, ⟨o1, e1, _, d1⟩, ⟨o2, e2, _, d2⟩⟩ := S
  simp only [List.mem_cons, List.not_mem_nil, or_false] at m
  rcases m with rfl | rfl | rfl | rfl | rfl
  · exact ⟨_, z, nofun⟩
  · exact ⟨_, ti, nofun⟩
  · exact ⟨_, to, nofun⟩
  · exact ⟨_, e1, by rw [d1]; nofun⟩
  · exact ⟨_, e2, by rw [d2]; nofun⟩
/-- one turn, whichever way it goes -/
theorem turned {c : Zc} {X : Cx} {i : Nat} {pins : List (Addr × Obj)} {s : Shared} {σ : L2.St} {H : Hp} {E : Value → Shared → Prop} {xs ys : List V} (hc : X.calm = true) (I : L2.Inv X pins σ H s) (hf : ∀ b ∈ c.cells, FpOk X pins H b) (S : Stands c i s.heap) (ha : SqT X.K H c.a xs) (hb : SqT X.K H c.b ys) :
    wpAny (model X.prog X.w) X.A (pyNext (.ref c.z)) (fun o s1 => (o = none ∧ (xs.length ≤ i ∨ ys.length ≤ i) ∧ L2.Inv X pins σ H s1) ∨
      ∃ x y, o = some (.ref s.heap.objs.size) ∧ xs[i]? = some x ∧ ys[i]? = some y ∧ H s.heap.objs.size = none ∧ L2.Inv X pins σ (upd H s.heap.objs.size (.tup [x, y])) s1 ∧ Stands c (i + 1) s1.heap ∧ ∀ b ∈ c.cells, upd H s.heap.objs.size (.tup [x, y]) b = none) E s := by
  obtain ⟨us, ru, pa, _⟩ := I.tuple ha
  obtain ⟨ws, rw', pb, _⟩ := I.tuple hb
  have seen := fun b m => Stands.seen S (b := b) m
  obtain ⟨⟨l, f, hl, z⟩, ti, ⟨u, v, to⟩, one, two⟩ := S
  have same : ∀ {h'}, Stay c.own s.heap h' → ∀ b o, b ∉ c.cells → s.heap.get? b = some o → h'.get? b = some o := fun st b o n e => st b o (fun m => n (by
    simp only [List.mem_cons, List.not_mem_nil, or_false] at m ⊢
    rcases m with h | h | h | h <;> simp [h])) e
  refine wpAny_mono (nxt (I.ok.hd hc) ⟨z, ti, to, one, two, pa, pb, rfl, fun _ _ _ e => e⟩ hl) ?_ fun _ _ q => q
  rintro o _ ⟨h', rfl, st, ⟨rfl, hn⟩ | ⟨rfl, x, y, hx, hy, p, a, b, z', o'⟩⟩
  · refine .inl ⟨rfl, ?_, I.turnedL (t' := s.toks) (same st) hf⟩
    rw [ru.length, rw'.length]
    simpa using hn
  · have get : ∀ {vs : List V} {us : List Value} {x : Value}, Vals vs us → us.toArray[i]? = some x → ∃ d, vs[i]? = some d ∧ RelV d x := fun {vs us x} r e => by
      have e' : us[i]? = some x := by simpa using e
      cases q : vs[i]? with
      | none => rw [r.none_of q] at e'; cases e'
      | some d =>
        obtain ⟨x', hx', rx⟩ := r.get q
        rw [hx'] at e'
        cases e'
        exact ⟨d, rfl, rx⟩
    obtain ⟨d1, h1, r1⟩ := get ru hx
    obtain ⟨d2, h2, r2⟩ := get rw' hy
    refine .inr ⟨d1, d2, rfl, h1, h2, I.hok.fresh (Nat.le_refl _), I.turnedNew (t' := s.toks) (same st) hf (Nat.le_refl _) ⟨show 2 ≤ sizeLine by decide, [x, y], .cons r1 (.cons r2 .nil), _, p, rfl, _, rfl⟩, ⟨z', ?_, o', a, b⟩, fun b m => ?_⟩
    · exact st _ _ (by simp [c.D.TIz, c.D.TITO, c.D.TIi1, c.D.TIi2]) ti
    · obtain ⟨ob, e, _⟩ := seen b m
      rw [upd_ne (Nat.ne_of_lt (Heap.lt_size e))]
      exact (hf b m).1
/-- a zip of two tuples, walked with one name -/
theorem turn {nm : Str} {npos : Pos} (c : Zc) : Turn P w K (.Name nm npos) (RZ.ItzT K c.a c.b) c.cells c.z (Stands c) where
  mem := by simp
  obj i h S b m := S.seen m
  keep i h h' S k := S.moved k
  item := by
    rintro X rfl rfl rfl hc i pins s σ H E I hf S ⟨xs, ys, x, y, ha, hb, hx, hy⟩
    refine wpAny_mono (turned hc I hf S ha hb) ?_ fun _ _ q => q
    rintro o s1 (⟨_, h, _⟩ | ⟨x', y', rfl, hx', hy', hn, I1, S1, out⟩)
    · have := (List.getElem?_eq_some_iff.mp hx).1
      have := (List.getElem?_eq_some_iff.mp hy).1
      omega
    · rw [hx] at hx'
      rw [hy] at hy'
      cases hx'
      cases hy'
      exact ⟨_, rfl, wpAny_pure ⟨.ref s.heap.objs.size, _, I1, rfl, ⟨_, x, y, rfl, hn, rfl, fun l hl => by rw [I.tuple_inj hl ha]; exact hx, fun l hl => by rw [I.tuple_inj hl hb]; exact hy⟩, S1, out⟩⟩
  done := by
    rintro X rfl rfl rfl hc i pins s σ H E I hf S ⟨xs, ys, ha, hb, hend⟩
    refine wpAny_mono (turned hc I hf S ha hb) ?_ fun _ _ q => q
    rintro o s1 (⟨rfl, _, I1⟩ | ⟨x', y', _, hx', hy', _⟩)
    · exact ⟨rfl, I1⟩
    · have := (List.getElem?_eq_some_iff.mp hx').1
      have := (List.getElem?_eq_some_iff.mp hy').1
      omega
  self A i s Q E S q := by
    obtain ⟨⟨l, f, hl, z⟩, _⟩ := S
    have T : s.TypeIs (.ref c.z) "zip" := ⟨_, z, rfl⟩
    exact wpAny_pyIter_slot T F.slot_zip_iter (wpAny_call_entry F.slot_zip_iter T F.entry_zip_iter (wpAny_pure ⟨_, rfl, "zip", _, T, F.slot_zip_next.lookup, q⟩) (F.args_zip_iter_1 _))
/-- zip(e, e2) of two tuples -/
theorem pi_tup2 {X : Cx} {e e2 : Expr} {ta : TA} {p pos npos : Pos} {nm : Str} (hg : Gl X "zip") (hm : X.mg "zip" = none) (ha : PA X [e, e2] ta)
    (hs : starEach [e, e2] X.env = (false, eval e X.env) :: starEach [e2] X.env := by rfl) (hpl : (backTo pos (starEach [e2] X.env)).any (·.1) = false := by rfl) :
    PI X (.Name nm npos) (.Call (.Name "zip" p) [e, e2] [] pos) (fun σ H R => ta σ H fun vs H1 => ∃ a b xs ys, vs = [.ref a, .ref b] ∧ SqT X.K H1 a xs ∧ SqT X.K H1 b ys ∧ R (RZ.ItzT X.K a b) H1) := by
  constructor
  intro pins s σ H R I h
  refine Call_ (ld_blt I hg hm PyProof.Rows.boot_zip (PyProof.Rows.callWith_type1 (thn (ha.run pos pins s σ H _ I h) ?_) hs hpl))
  rintro _ s1 ⟨_, H1, I1, r1, a, b, xs, ys, rfl, ha, hb, q⟩
  cases r1 with | cons r rr => ?_
  cases rr with | cons r' rr => ?_
  cases rr
  cases r
  cases r'
  obtain ⟨us, ru, pa, _⟩ := I1.tuple ha
  obtain ⟨ws, rw', pb, _⟩ := I1.tuple hb
  obtain ⟨o1, ea, _⟩ := id pa
  obtain ⟨o2, eb, _⟩ := id pb
  let n := s1.heap.objs.size
  let c : Zc := ⟨n + 4, n + 2, n + 3, n, n + 1, a, b, PySem.W.ktu_apart n a b (Heap.lt_size ea) (Heap.lt_size eb)⟩
  refine RZ.call_zipT pa pb fun h' z ti to one two _ hk => wpAny_pyIter_zip z ⟨c.z, c.cells, Stands c, _, H1, rfl, I1.kept (t' := s1.toks) hk, turn c, ⟨⟨_, _, .inl rfl, z⟩, ti, ⟨_, _, to⟩, one, two⟩, fun x m => ?_, q⟩
  have hx : s1.heap.objs.size ≤ x := by
    replace m : x ∈ [n + 4, n + 2, n + 3, n, n + 1] := m
    simp only [List.mem_cons, List.not_mem_nil, or_false] at m
    show n ≤ x
    rcases m with h | h | h | h | h <;> rw [h] <;> omega
  exact I1.fpOk hx (I1.hok.fresh hx)
end ZN
namespace DL
open PySem L2 PySem.Spec
open PyProof.Rows hiding St
set_option autoImplicit false
section
variable {X : Cx} {a b : Expr} {pos : Pos}
/-- for x in zip(t, u), two tuples -/
theorem ei_zipN {p npos : Pos} {nm : Str} {f : RA} (hm : X.mg "zip" = none) (ha : AD X [a, b] f) (hg : Gl X "zip" := by rfl)
    (hs : starEach [a, b] X.env = (false, eval a X.env) :: starEach [b] X.env := by rfl) (hpl : (backTo pos (starEach [b] X.env)).any (·.1) = false := by rfl) :
    EI X (.Name nm npos) (.Call (.Name "zip" p) [a, b] [] pos) (fun ρ M P => f ρ M fun ds M => ∃ xs ys, ds = [.tup xs, .tup ys] ∧ P (zipD xs ys) M) := by
  obtain ⟨ta, pa, sa⟩ := ha.ex
  refine ⟨_, ZN.pi_tup2 hg hm pa hs hpl, fun B H ρ σ S P R st hf k => sa B H ρ σ S _ _ st hf fun ds vs B' H' g r p => ?_⟩
  obtain ⟨xs, ys, rfl, p⟩ := p
  have zl : ∀ {n : Nat}, xs.length ≤ n → (zipD xs ys).length ≤ n := fun {n} h => by rw [zipD_len]; omega
  cases r with
  | cons r rr =>
    cases rr with
    | cons r' rr =>
      cases rr
      cases r with
      | @tup a1 vs1 _ h1 l1 r1 =>
        cases r' with
        | @tup a2 vs2 _ h2 l2 r2 =>
          refine ⟨a1, a2, vs1, vs2, rfl, Evl.ex_t g.base.bh h1, Evl.ex_t g.base.bh h2, k _ _ B' H' g ⟨fun B H i d e bs hd => ?_, fun B H i e bs hi => ?_⟩ (zl l1) p⟩
          · obtain ⟨x, y, hx, hy, rfl⟩ := zipD_get hd
            obtain ⟨vx, ex, rx⟩ := r1.getD hx
            obtain ⟨vy, ey, ry⟩ := r2.getD hy
            have q1 := Evl.ex_t (K := X.K) bs.bh (Evl.ex_t e h1)
            have q2 := Evl.ex_t (K := X.K) bs.bh (Evl.ex_t e h2)
            refine ⟨⟨_, _, vx, vy, q1, q2, ex, ey⟩, fun x' H' y' => ?_⟩
            obtain ⟨T, u1, u2, rfl, hT, rfl, z1, z2⟩ := y'
            have := z1 _ q1
            rw [ex] at this
            cases this
            have := z2 _ q2
            rw [ey] at this
            cases this
            exact pair_new bs (rx.up e) (ry.up e) hT
          · refine ⟨_, _, Evl.ex_t bs.bh (Evl.ex_t e h1), Evl.ex_t bs.bh (Evl.ex_t e h2), ?_⟩
            rw [zipD_len] at hi
            rw [← r1.length, ← r2.length]
            omega
end
end DL

/-! DLW: what fits (short, plain, not deep); what a walk is, of any data. -/
namespace DL
open PySem L2 PySem.Spec
open PyProof.Rows hiding St
set_option autoImplicit false
/-! ### what fits -/
structure FitL (k n : Nat) (l : List D) : Prop where
  pl : D.plains l = true
  sh : D.shortIs l = true
  dp : D.deps l ≤ k
  bk : D.blks l ≤ n
structure Fit (k n : Nat) (d : D) : Prop where
  pl : d.plain = true
  sh : d.shortI = true
  dp : d.dep ≤ k
  bk : d.blk ≤ n
section
variable {k n m : Nat} {l r : List D} {d : D}
theorem FitL.nil : FitL k n [] := ⟨rfl, rfl, by simp [D.deps], by simp [D.blks]⟩
theorem fitL_cons : FitL k n (d :: l) ↔ d.plain = true ∧ d.shortI = true ∧ d.dep ≤ k ∧ FitL k n l ∧ d.blk + 1 + D.blks l ≤ n := by
  constructor
  · rintro ⟨h1, h2, h3, h4⟩
    simp only [D.plains, Bool.and_eq_true] at h1
    simp only [D.shortIs, Bool.and_eq_true] at h2
    simp only [D.deps] at h3
    simp only [D.blks] at h4
    exact ⟨h1.1, h2.1, by omega, ⟨h1.2, h2.2, by omega, by omega⟩, h4⟩
  · rintro ⟨h1, h2, h3, ⟨h4, h5, h6, h7⟩, h8⟩
    exact ⟨by simp [D.plains, h1, h4], by simp [D.shortIs, h2, h5], by simp only [D.deps]; omega, by simp only [D.blks]; omega⟩
theorem FitL.mono {k' n' : Nat} (h : FitL k n l) (h1 : k ≤ k') (h2 : n ≤ n') : FitL k' n' l := ⟨h.pl, h.sh, Nat.le_trans h.dp h1, Nat.le_trans h.bk h2⟩
theorem Fit.mono {k' n' : Nat} (h : Fit k n d) (h1 : k ≤ k') (h2 : n ≤ n') : Fit k' n' d := ⟨h.pl, h.sh, Nat.le_trans h.dp h1, Nat.le_trans h.bk h2⟩
theorem FitL.append (h : FitL k n l) (h' : FitL k m r) : FitL k (n + m) (l ++ r) := by
  induction l generalizing n with
  | nil => exact h'.mono (Nat.le_refl _) (by omega)
  | cons d l ih =>
    obtain ⟨h1, h2, h3, h4, h5⟩ := fitL_cons.mp h
    have h6 : FitL k (D.blks l) l := ⟨h4.pl, h4.sh, h4.dp, Nat.le_refl _⟩
    have h7 := ih h6
    rw [List.cons_append]
    have h8 := h7.bk
    exact fitL_cons.mpr ⟨h1, h2, h3, h7.mono (Nat.le_refl _) (by omega), by omega⟩
theorem FitL.sub {l' : List D} (hs : l'.Sublist l) : FitL k n l → FitL k n l' := by
  induction hs generalizing n with
  | slnil => exact id
  | cons a hs ih =>
    intro h
    exact ih (fitL_cons.mp h).2.2.2.1
  | cons_cons a hs ih =>
    intro h
    obtain ⟨h1, h2, h3, h4, h5⟩ := fitL_cons.mp h
    have h6 := ih (n := D.blks _) ⟨h4.pl, h4.sh, h4.dp, Nat.le_refl _⟩
    have h7 := h6.bk
    exact fitL_cons.mpr ⟨h1, h2, h3, h6.mono (Nat.le_refl _) (by omega), by omega⟩
theorem FitL.cut (h : FitL k n l) (a b : Option Int) : FitL k n (cutL l a b) := FitL.sub ((List.take_sublist _ _).trans (List.drop_sublist _ _)) h
theorem FitL.one (h : Fit k n d) : FitL k (n + 1) [d] := fitL_cons.mpr ⟨h.pl, h.sh, h.dp, FitL.nil, by have := h.bk; simp [D.blks]; omega⟩
theorem FitL.rev (h : FitL k n l) : FitL k n l.reverse := by
  induction l generalizing n with
  | nil => exact h
  | cons d l ih =>
    obtain ⟨h1, h2, h3, h4, h5⟩ := fitL_cons.mp h
    rw [List.reverse_cons]
    have := (ih (n := D.blks l) ⟨h4.pl, h4.sh, h4.dp, Nat.le_refl _⟩).append (FitL.one (d := d) (n := d.blk) ⟨h1, h2, h3, Nat.le_refl _⟩)
    exact this.mono (Nat.le_refl _) (by omega)
theorem FitL.mem (h : FitL k n l) (hd : d ∈ l) : Fit k n d := by
  induction l with
  | nil => exact nomatch hd
  | cons e l ih =>
    obtain ⟨h1, h2, h3, h4, h5⟩ := fitL_cons.mp h
    rcases List.mem_cons.mp hd with rfl | hd
    · exact ⟨h1, h2, h3, by omega⟩
    · exact ih h4 hd
theorem FitL.len (h : FitL k n l) : l.length ≤ n := by
  induction l generalizing n with
  | nil => exact Nat.zero_le _
  | cons e l ih =>
    obtain ⟨h1, h2, h3, h4, h5⟩ := fitL_cons.mp h
    have := ih (n := D.blks l) ⟨h4.pl, h4.sh, h4.dp, Nat.le_refl _⟩
    rw [List.length_cons]
    omega
theorem FitL.tup (h : FitL k n l) : Fit (k + 1) n (.tup l) := ⟨by rw [plain_tup]; exact h.pl, h.sh, by rw [dep_tup]; have := h.dp; omega, h.bk⟩
theorem FitL.lst (h : FitL k n l) : Fit (k + 1) n (.lst l) := ⟨by rw [plain_lst]; exact h.pl, h.sh, by rw [dep_lst]; have := h.dp; omega, h.bk⟩
theorem Fit.untup (h : Fit k n (.tup l)) : FitL k n l := ⟨by have := h.pl; rwa [plain_tup] at this, h.sh, by have := h.dp; rw [dep_tup] at this; omega, h.bk⟩
theorem Fit.unlst (h : Fit k n (.lst l)) : FitL k n l := ⟨by have := h.pl; rwa [plain_lst] at this, h.sh, by have := h.dp; rw [dep_lst] at this; omega, h.bk⟩
theorem fit_str {x : Str} (h : x.length ≤ n) : Fit k n (.str x) := ⟨rfl, rfl, by simp [D.dep], h⟩
theorem fit_non : Fit k n .non := ⟨rfl, rfl, by simp [D.dep], by simp [D.blk]⟩
theorem fit_bl {b : Bool} : Fit k n (.bl b) := ⟨rfl, rfl, by simp [D.dep], by simp [D.blk]⟩
theorem fit_0 : Fit k n (.int 0) := ⟨rfl, by decide, by simp [D.dep], by simp [D.blk]⟩
end
/-! ### walks -/
def inS (l : List Str) (d : D) : Bool := d.isIn (l.map .str)
def stepB (sts : List Str) (n : Int) (d : D) : Bool := match d with
  | .tup l => decide ((l.length : Int) = n) && l.all (inS sts)
  | _ => false
def begB (bgs : List Str) (d : D) : Bool := match d with
  | .tup l => l.all (inS bgs)
  | _ => false
def moveB (mvs : List (Str × Str)) (d : D) : Bool := d.isIn (mvs.map prD)
def leadB (mvs : List (Str × Str)) (d e : D) : Bool := match d, e with
  | .tup l, .tup m => (zipD l m).all (moveB mvs)
  | _, _ => false
def pairB (mvs : List (Str × Str)) (d : D) : Bool := match d with
  | .tup [x, y] => leadB mvs x y
  | _ => false
def goB (mvs : List (Str × Str)) : List D → Bool
  | a :: b :: l => leadB mvs a b && goB mvs (b :: l)
  | _ => true
def walkB (sts bgs : List Str) (mvs : List (Str × Str)) (n : Int) (d : D) : Bool := match d with
  | .lst (a :: l) => (a :: l).all (stepB sts n) && begB bgs a && goB mvs (a :: l)
  | _ => false
theorem go_zip {mvs : List (Str × Str)} : ∀ {l : List D}, (zipD l (cutL l (some 1) none)).all (pairB mvs) = goB mvs l
  | [] => by simp [zipD, goB]
  | [a] => by rw [cutL_1]; simp [zipD, goB]
  | a :: b :: l => by
    have ih := go_zip (mvs := mvs) (l := b :: l)
    rw [cutL_1] at ih ⊢
    have e : zipD (a :: b :: l) (b :: l) = .tup [a, b] :: zipD (b :: l) l := rfl
    rw [e, List.all_cons, ih]
    rfl
/-- what is left to be looked at behind prev -/
def tailB (sts bgs : List Str) (mvs : List (Str × Str)) (n : Int) : Option D → List D → Bool
  | _, [] => true
  | none, x :: r => stepB sts n x && begB bgs x && tailB sts bgs mvs n (some x) r
  | some p, x :: r => stepB sts n x && leadB mvs p x && tailB sts bgs mvs n (some x) r
theorem tail_some {sts bgs : List Str} {mvs : List (Str × Str)} {n : Int} : ∀ {l : List D} {p : D}, tailB sts bgs mvs n (some p) l = (l.all (stepB sts n) && goB mvs (p :: l))
  | [], p => by simp [tailB, goB]
  | x :: l, p => by
    rw [tailB, tail_some, List.all_cons, goB]
    cases stepB sts n x <;> cases leadB mvs p x <;> simp
theorem walk_tail {sts bgs : List Str} {mvs : List (Str × Str)} {n : Int} {a : D} {l : List D} : walkB sts bgs mvs n (.lst (a :: l)) = tailB sts bgs mvs n none (a :: l) := by
  rw [tailB, tail_some, walkB, List.all_cons]
  cases stepB sts n a <;> cases begB bgs a <;> simp
theorem compD_test {p : D → Bool} {g : RG} {f : RT} {t : RO} {ρ : Env} {P : List OT → Mem → Prop} {M : Mem} {items : List D}
    (s : ∀ d ∈ items, ∀ (acc : List OT) (C : List OT → Mem → Prop), C (acc ++ [.fz (.bl (p d))]) M → g d ρ M fun ρ' M => f ρ' M fun b M => if b = true then t ρ' M fun y M => C (acc ++ [y]) M else C acc M)
    (k : P ((items.map fun d => .bl (p d)).map .fz) M) : compD g f t ρ P items [] M := by
  have := compD_map (F := id) (G := fun d => .bl (p d)) (l := items) (g := g) (f := f) (t := t) (ρ := ρ) (P := P) (M := M) s k
  rwa [List.map_id] at this
theorem hAll_test {p : D → Bool} {items : List D} {M : Mem} {P : D → Mem → Prop} (h : P (.bl (items.all p)) M) : hAll (fun x => x.all id) [.lst (items.map fun d => .bl (p d))] M P :=
  ⟨items.map p, by rw [List.map_map]; rfl, by show P (.bl ((items.map p).all id)) M; rw [List.all_map]; exact h⟩
theorem eqv_str_any {x : Str} {d : D} (hp : d.plain = true) (h : ∀ y, d ≠ .str y) : D.eqv (.str x) d = false := by
  cases d with
  | str y => exact absurd rfl (h y)
  | non => simp [D.eqv, D.toP, PyData.eqv]
  | bl b => simp [D.eqv, D.toP, PyData.eqv]
  | int i => simp [D.eqv, D.toP, PyData.eqv]
  | tup l => simp [D.eqv, D.toP, PyData.eqv]
  | lst l => simp [D.eqv, D.toP, PyData.eqv]
  | _ => simp [D.plain] at hp
theorem inS_not {l : List Str} {d : D} (hp : d.plain = true) (h : ∀ y, d ≠ .str y) : inS l d = false := by
  unfold inS D.isIn
  rw [List.any_eq_false]
  intro z hz
  obtain ⟨x, _, rfl⟩ := List.mem_map.mp hz
  simp [eqv_str_any hp h]
theorem compD_boxR {α β : Type} {F : α → D} {G : β → D} (R : α → β → Prop) {g : RG} {f : RT} {t : RO} {ρ : Env} {P : List OT → Mem → Prop} {l : List α} {M0 M1 : Mem} {p : Addr} {m : Nat} (c : Nat) (hB : BoxTo p m M0 M1)
    (s : ∀ a ∈ l, ∀ (acc : List OT) (M' : Mem) (j : Nat) (C : List OT → Mem → Prop), j + 1 ≤ l.length → BoxTo p (m + c * j) M0 M' → (∀ (b : β) (M2 : Mem), R a b → BoxTo p (m + c * (j + 1)) M0 M2 → C (acc ++ [.fz (G b)]) M2) →
      g (F a) ρ M' fun ρ' M' => f ρ' M' fun b M' => if b = true then t ρ' M' fun y M' => C (acc ++ [y]) M' else C acc M')
    (k : ∀ (l' : List β) (M' : Mem), l'.length = l.length → (∀ q ∈ l.zip l', R q.1 q.2) → BoxTo p (m + c * l.length) M0 M' → P ((l'.map G).map .fz) M') : compD g f t ρ P (l.map F) [] M1 := by
  have go : ∀ (l2 l1 : List α) (l1' : List β) (M' : Mem), l = l1 ++ l2 → l1'.length = l1.length → (∀ q ∈ l1.zip l1', R q.1 q.2) → BoxTo p (m + c * l1.length) M0 M' → compD g f t ρ P (l2.map F) ((l1'.map G).map .fz) M' := by
    intro l2
    induction l2 with
    | nil => intro l1 l1' M' e h1 h2 h3; rw [List.append_nil] at e; subst e; exact k l1' M' h1 h2 h3
    | cons a l2 ih =>
      intro l1 l1' M' e h1 h2 h3
      have e2 : l = (l1 ++ [a]) ++ l2 := by rw [e, List.append_assoc]; rfl
      rw [List.map_cons]
      refine s a (by rw [e]; simp) _ M' l1.length (compD g f t ρ P (l2.map F)) (by rw [e]; simp) h3 fun b M2 hb hB2 => ?_
      have := ih (l1 ++ [a]) (l1' ++ [b]) M2 e2 (by simp [h1]) (fun q hq => ?_) (by rw [List.length_append]; exact hB2)
      · rw [List.map_append, List.map_append] at this
        exact this
      · rw [List.zip_append h1.symm] at hq
        rcases List.mem_append.mp hq with hq | hq
        · exact h2 q hq
        · simp only [List.zip_cons_cons, List.zip_nil_right, List.mem_singleton] at hq
          subst hq; exact hb
  exact go l [] [] M1 rfl rfl (fun _ h => nomatch h) (hB.mono (by omega))
def stD (l : List Str) : D := .tup (l.map .str)
theorem isIn_self {α : Type} {f : α → D} {l : List α} {a : α} (hp : (f a).plain = true) (h : a ∈ l) : (f a).isIn (l.map f) = true := by
  unfold D.isIn
  exact List.any_eq_true.mpr ⟨f a, List.mem_map.mpr ⟨a, h, rfl⟩, eqv_self _ hp⟩
theorem inS_str {l : List Str} {x : Str} : inS l (.str x) = decide (x ∈ l) := isIn_strs
theorem lead_st {mvs : List (Str × Str)} {s s' : List Str} (h : ∀ q ∈ s.zip s', q ∈ mvs) : leadB mvs (stD s) (stD s') = true := by
  show (zipD (s.map .str) (s'.map .str)).all (moveB mvs) = true
  rw [List.all_eq_true]
  intro d hd
  unfold zipD at hd
  rw [List.zipWith_map] at hd
  have e : List.zipWith (fun a b => D.tup [D.str a, D.str b]) s s' = (s.zip s').map prD := by
    rw [List.zip, List.map_zipWith]; rfl
  rw [e] at hd
  obtain ⟨q, hq, rfl⟩ := List.mem_map.mp hd
  exact isIn_self (prD_ok q).2.2 (h q hq)
theorem go_snoc {mvs : List (Str × Str)} {a b : D} : ∀ {l : List D}, goB mvs (l ++ [a, b]) = (goB mvs (l ++ [a]) && leadB mvs a b)
  | [] => by simp [goB]
  | [x] => by simp [goB, Bool.and_assoc]
  | x :: y :: l => by
    have ih := go_snoc (mvs := mvs) (a := a) (b := b) (l := y :: l)
    simp only [List.cons_append] at ih ⊢
    rw [goB, goB, ih, Bool.and_assoc]
theorem step_st {sts : List Str} {n : Nat} {s : List Str} (h1 : s.length = n) (h2 : ∀ x ∈ s, x ∈ sts) : stepB sts n (stD s) = true := by
  show (decide (((s.map D.str).length : Int) = n) && (s.map D.str).all (inS sts)) = true
  rw [List.length_map, h1, Bool.and_eq_true]
  refine ⟨decide_eq_true rfl, List.all_eq_true.mpr fun d hd => ?_⟩
  obtain ⟨x, hx, rfl⟩ := List.mem_map.mp hd
  rw [inS_str]
  exact decide_eq_true (h2 x hx)
theorem beg_st {bgs s : List Str} (h2 : ∀ x ∈ s, x ∈ bgs) : begB bgs (stD s) = true := List.all_eq_true.mpr fun d hd => by
  obtain ⟨x, hx, rfl⟩ := List.mem_map.mp hd
  rw [inS_str]
  exact decide_eq_true (h2 x hx)
end DL

/-! DLH: instances that go on changing: made, their lists appended to; calls as statements. -/
namespace DL
open PySem L2 PySem.Spec
open PyProof.Rows hiding St
set_option autoImplicit false
section
variable {X : Cx} {e o a b eb : Expr} {es : List Expr} {pos cpos apos p : Pos} {fa fb fo : RD} {fe : RO} {f : RA} {x m qual : Str} {C : Addr} {st : Stmt} {ps : List Str} {k : Nat} {s : DSpec} {kws : List Keyword} {fk : RA} {K : PySem.W.Frag}
/-- x.append(e), x any expression that tells a list that changes -/
theorem ds_appendE (hb : ED X eb fb) (he : ED X e fa)
    (hs : swapsWith (.Call (.Attribute eb "append" apos) [e] [] cpos) none pos.line X.env = pure false := by rfl)
    (hbase : attributeBase eb "append" X.env (eval eb X.env) = eval eb X.env := by rfl)
    (hfew : ((backTo cpos (starEach [e] X.env)).all (fun x => !x.1) && (backToKw cpos (keywordEach [] X.env)).all (fun x => x.1.isSome) && decide ([e].length + ([] : List Keyword).length + (if ([] : List Keyword).isEmpty then 0 else 1) < 30)) = true := by rfl)
    (hline : (apos.endLine == cpos.line) = true := by rfl) (hst : starEach [e] X.env = (false, eval e X.env) :: starEach [] X.env := by rfl) (hplain : (backTo cpos (starEach [] X.env)).any (·.1) = false := by rfl) :
    DS X (.Expr (.Call (.Attribute eb "append" apos) [e] [] cpos) pos) (fun P ρ M => fb ρ M fun y M => ∃ z, y = .mob z ∧ (∃ l, M z = some (.lst l)) ∧ fa ρ M fun d M => ∃ l, M z = some (.lst l) ∧ l.length < sizeLine ∧ P.nx ρ (M.put z (.lst (l ++ [d])))) := by
  obtain ⟨tb, pb, sb⟩ := hb.ex
  obtain ⟨te, pe, se⟩ := he.ex
  refine ⟨_, ps_expr (pe_bm PySem.F.plainAttrs_list PySem.F.slot_list_append PySem.F.type_list_append mt_append pb (pa_cons pe pa_nil hst) hbase hfew hline hst hplain) hs, fun B0 H0 B H ρ σ S P D s hg k1 k2 k3 k4 => sb B H ρ σ S _ _ s.st hg fun y vy B1 H1 g1 r1 q1 => ?_⟩
  obtain ⟨z, rfl, ⟨l0, em0⟩, q1⟩ := q1
  cases r1
  have s1 := s.grow g1
  obtain ⟨_, xs0, hx0, _⟩ := g1.base.wd z _ em0
  refine ⟨.inl ⟨rfl, _, Evl.sq_of hx0⟩, se B1 H1 ρ σ S _ _ s1.st q1 fun d v B2 H2 g2 r2 p2 => ?_⟩
  obtain ⟨l, em, hl, p2⟩ := p2
  obtain ⟨hb, xs, hx, hlen, rx⟩ := g2.base.wd z _ em
  refine ⟨z, xs, v, rfl, rfl, hx, by rw [← rx.length]; exact hl, ?_⟩
  have g3 := g2.base.chg (p := z) (o := .lst (l ++ [d])) (u := .lst (xs ++ [v])) (by rw [em]; exact fun z => nomatch z) ⟨_, upd_same, by rw [List.length_append]; exact hl, rx.append (.cons r2 .nil)⟩
  exact k1 _ _ _ _ S ((s1.grow g2).grow g3) p2
/-- C(e, ..), an instance that goes on changing -/
theorem ed_makeM (F : DI X.prog X.w X.K X.mg X.base C x qual st ps k s) (hr : RG0 (k + 1) X) (n : Nat) (ks : List Str) (ix : List Nat) (hb : ∀ (kV doc pm : Value) (an : Option Addr) (cdv ct : Value) (us ws : List Value), us.length = n + 1 → ws.length = ks.length →
      bindArgs (PySem.W.fnOf "__init__" qual (defArgs st) (defBody st) (defScope st) .none kV doc pm an cdv ct) ⟨us, ks.zip ws⟩ = pure (ps.zip (pick ix (us ++ ws))))
    (ha : AD X (e :: es) f) (hkw : KD X kws fk) (hg : Gl X x := by rfl) (hall : (backToKw pos (keywordEach kws X.env)).all (·.1.isSome) = true := by rfl) (hks : (backToKw pos (keywordEach kws X.env)).filterMap (·.1) = ks := by rfl) (hdb : (x == ("__debug__" : Str)) = false := by decide)
    (he : starEach (e :: es) X.env = (false, eval e X.env) :: starEach es X.env := by rfl) (hpl : ((backTo pos (starEach (e :: es) X.env)).any (·.1) || (backToKw pos (keywordEach kws X.env)).any (·.1.isNone)) = false := by rfl) :
    ED X (.Call (.Name x p) (e :: es) kws pos) (fun ρ M P => f ρ M fun ds M => fk ρ M fun zs M => ds.length = n ∧ zs.length = ks.length ∧ (∀ q : Addr, (pick ix (D.mob q :: (ds ++ zs))).length = ps.length) ∧ ∀ q, M q = none → ∃ i, s.pre i (M.put q (.ins C [] [])) (pick ix (.mob q :: (ds ++ zs))) ∧
      ∀ t M', s.post i (M.put q (.ins C [] [])) t M' → t = .fz .non ∧ P (.mob q) M') := by
  obtain ⟨fi, fd, hM, hF, F'⟩ := F.ex
  obtain ⟨ta, pa, sa⟩ := ha.ex
  obtain ⟨tk, pk, sk⟩ := hkw.ex
  refine ⟨_, pe_makeG hM F' hr hg F.gl (Fun.kb hF (n + 1) ks ix hb) pass0 pa pk hall hks hdb he hpl, fun B H ρ σ S P Q st hf kk => sa B H ρ σ S _ _ st hf fun ds vs B1 H1 g1 r1 p1 => sk B1 H1 ρ σ S _ _ (st.grow g1) p1 fun zs ws B2 H2 g2 r2 p2 => ?_⟩
  obtain ⟨l1, l2, l3, p2⟩ := p2
  have r := (r1.up g2.b).append r2
  refine ⟨r1.length.symm.trans l1, r2.length.symm.trans l2, fun q dx hq hdx hne => ?_⟩
  obtain ⟨gA, _, _⟩ := g2.base.newO (o := .own q) hdx
  obtain ⟨gB, nb, nm⟩ := gA.base.newO (p := q) (o := .ins C dx []) (by rw [upd_ne (Ne.symm hne)]; exact hq)
  have gC := (gA.trans gB).mob (p := q) (o := .ins C [] []) hq nb nm ⟨dx, [], upd_same, rfl, .nil⟩
  obtain ⟨i, p3, p4⟩ := p2 q nm
  refine ⟨i, B2.put q (.ins C [] []), _, gC.base, Reps.pick (.cons (.mob q) (r.up gC.b)) ix, l3 q, p3, fun t v B' H' T g rt o z => ?_⟩
  obtain ⟨rfl, pp⟩ := p4 t _ z
  cases rt with
  | fz rt =>
    cases rt
    exact ⟨rfl, kk _ _ B' H' (((g1.trans g2).trans gC).trans g) (.mob q) pp⟩
end
end DL

/-! DLI: {k: v for .. in ..}, keys texts or ints, frozen values. -/
namespace DL
open PySem L2 PySem.Spec
open PyProof.Rows hiding St
set_option autoImplicit false
section
variable {K : PySem.W.Frag}
/-- a dict under way at D -/
structure DcA (K : PySem.W.Frag) (Bz : Kn) (Hz : Hp) (D : Addr) (B : Kn) (H : Hp) (ks : List Key) (l : List OT) : Prop where
  gr : Grow K Bz Hz B H
  nb : B.b D = none
  nm : B.m D = none
  ex : ∃ xs, H D = some (.dK (ks.zip xs)) ∧ RepOs K B.b H l xs [] ∧ ks.length = l.length
theorem DcA.grow {Bz B B' : Kn} {Hz H H' : Hp} {D : Addr} {ks : List Key} {l : List OT} (a : DcA K Bz Hz D B H ks l) (g : Grow K B H B' H') : DcA K Bz Hz D B' H' ks l := by
  obtain ⟨xs, h1, h2, h3⟩ := a.ex
  have hDn : H D ≠ none := by rw [h1]; exact fun z => nomatch z
  refine ⟨a.gr.trans g, ?_, g.nm a.nm hDn, xs, g.h D _ a.nm h1, h2.mono g.b _ _ _ (fun q hq => nomatch hq), h3⟩
  cases q : B'.b D with
  | none => rfl
  | some o =>
    rcases g.f D o q with z | z
    · rw [a.nb] at z; cases z
    · exact absurd z hDn
theorem DcA.put {Bz B : Kn} {Hz H : Hp} {D : Addr} {ks : List Key} {l : List OT} (a : DcA K Bz Hz D B H ks l) (hD : Hz D = none) {d : DL.D} {v : V} (r : Rep K B.b d v) (k : Key) :
    ∃ kvs, H D = some (.dK kvs) ∧ kvs.length = l.length ∧ DcA K Bz Hz D B (upd H D (.dK (putK kvs k v))) (odKs ks k) (odTs ks l k (.fz d)) := by
  obtain ⟨xs, h1, h2, h3⟩ := a.ex
  obtain ⟨xs', T', q1, q2, q3, q4, q5⟩ := od_put r k h3 h2
  have hT : T' = [] := List.eq_nil_of_sublist_nil q2
  subst hT
  refine ⟨ks.zip xs, h1, by rw [List.length_zip, ← h2.length, h3]; omega, a.gr.mut hD a.nb a.nm, a.nb, a.nm, xs', by rw [upd_same, q5], q1.mono Ext.rfl _ _ _ (fun q hq => nomatch hq), q3⟩
/-- what a dict comprehension makes, item by item -/
def compDc (g : RG) (f : RT) (tk tv : RD) (ρ : Env) (P : List Key → List OT → Mem → Prop) : List D → List Key → List OT → Mem → Prop
  | [], ks, l, M => P ks l M
  | d :: ds, ks, l, M => g d ρ M fun ρ' M => f ρ' M fun b M => if b = true then tk ρ' M fun y M => tv ρ' M fun z M => ∃ k, keyOf y = some k ∧ l.length < sizeLine ∧ compDc g f tk tv ρ P ds (odKs ks k) (odTs ks l k (.fz z)) M else compDc g f tk tv ρ P ds ks l M
theorem dc_loop {Bz B1 : Kn} {Hz H1 : Hp} {D : Addr} (hD : Hz D = none) {ρ : Env} {σ : L2.St} {S : List Addr} (st : Stt K B1 H1 ρ σ S) (hDS : D ∉ S) {J : It} {ds : List DL.D} (wk : Walks K J ds B1.b) {is vs : List Nat} (his : ∀ i ∈ is, i ∈ vs) {g : RG} {f : RT} {tk tv : RD} {P : List Key → List OT → Mem → Prop}
    (a0 : DcA K Bz Hz D B1 H1 [] []) (hc : compDc g f tk tv (wipeE ρ vs) P ds [] [] B1.m) {Fin : Hp → Prop} (hfin : ∀ B' H' ks l, DcA K Bz Hz D B' H' ks l → P ks l B'.m → Fin H') :
    ∃ W : Nat → Nat → Hp → Prop, (∃ m, W 0 m H1) ∧ ∀ i m H, W i m H → (J.stop i H ∧ Fin H) ∨ (J.go i H ∧ ∃ Nx : Hp → Prop, (∀ H', Nx H' → ∃ m', m' < m ∧ W (i + 1) m' H') ∧ ∀ x H', J.yld i H x H' →
      cG K is g x (wipe σ vs) H' fun σ2 H2 => wipe σ2 vs = wipe σ vs ∧ cT K f σ2 H2 fun b H3 => if b = true then cO K (fun ρ M P => tk ρ M fun d M => P (.fz d) M) σ2 H3 fun y H4 => cO K (fun ρ M P => tv ρ M fun d M => P (.fz d) M) σ2 H4 fun z H5 => ∃ kvs k, y = kV k ∧ H5 D = some (.dK kvs) ∧ kvs.length < sizeLine ∧ Nx (upd H5 D (.dK (putK kvs k z))) else Nx H3) := by
  refine ⟨fun i m H' => m = ds.length - i ∧ i ≤ ds.length ∧ ∃ B' ks l, GrD K D B1 H1 B' H' ∧ DcA K Bz Hz D B' H' ks l ∧ compDc g f tk tv (wipeE ρ vs) P (ds.drop i) ks l B'.m, ⟨ds.length, by simp, Nat.zero_le _, B1, [], [], st.base.grD, a0, hc⟩, ?_⟩
  rintro i m H2 ⟨rfl, hle, B2, ks, l, g2, a2, c2⟩
  by_cases hlt : i < ds.length
  · refine .inr ?_
    obtain ⟨go, yl⟩ := wk.go B2 H2 i ds[i] g2.b g2.base (List.getElem?_eq_getElem hlt)
    refine ⟨go, fun H' => i + 1 ≤ ds.length ∧ ∃ B' ks l, GrD K D B1 H1 B' H' ∧ DcA K Bz Hz D B' H' ks l ∧ compDc g f tk tv (wipeE ρ vs) P (ds.drop (i + 1)) ks l B'.m, fun H' hN => ⟨ds.length - (i + 1), by omega, rfl, hN⟩, fun x H3 y3 => ?_⟩
    obtain ⟨B3, g3, em, rx⟩ := yl x H3 y3
    rw [List.drop_eq_getElem_cons hlt, ← em] at c2
    replace c2 : g ds[i] (wipeE ρ vs) B3.m fun ρ' M => f ρ' M fun b M => if b = true then tk ρ' M fun y M => tv ρ' M fun z M => ∃ k, keyOf y = some k ∧ l.length < sizeLine ∧ compDc g f tk tv (wipeE ρ vs) P (ds.drop (i + 1)) (odKs ks k) (odTs ks l k (.fz z)) M else compDc g f tk tv (wipeE ρ vs) P (ds.drop (i + 1)) ks l M := c2
    obtain ⟨S3, st3, _⟩ := (st.growD hDS (g2.step g3)).wipe vs
    refine ⟨B3, _, S3, ds[i], _, st3, rx, c2, fun ρ4 σ4 S4 Bg Hg gg st4 _ hw p4 => ?_⟩
    replace g3 := g3.trans gg
    refine ⟨(hw vs his).trans (wipe_wipe σ vs vs fun _ h => h), Bg, ρ4, S4, _, st4, p4, fun b B5 H5 g5 p5 => ?_⟩
    have a5 := a2.grow (g3.trans g5)
    cases b with
    | false => exact ⟨hlt, B5, ks, l, (g2.step g3).step g5, a5, p5⟩
    | true =>
      have e1 : ∀ (R : DL.D → Mem → Prop), (fun (d : DL.D) (M : Mem) => (fun (t : OT) (M : Mem) => ∃ y, t = OT.fz y ∧ R y M) (.fz d) M) = R := fun R => funext fun d => funext fun M => propext ⟨fun ⟨y, e, h⟩ => by cases e; exact h, fun h => ⟨d, rfl, h⟩⟩
      replace p5 : tk ρ4 B5.m fun y M => tv ρ4 M fun z M => ∃ k, keyOf y = some k ∧ l.length < sizeLine ∧ compDc g f tk tv (wipeE ρ vs) P (ds.drop (i + 1)) (odKs ks k) (odTs ks l k (.fz z)) M := p5
      refine ⟨B5, ρ4, S4, fun t M => ∃ y, t = OT.fz y ∧ tv ρ4 M fun z M => ∃ k, keyOf y = some k ∧ l.length < sizeLine ∧ compDc g f tk tv (wipeE ρ vs) P (ds.drop (i + 1)) (odKs ks k) (odTs ks l k (.fz z)) M, st4.grow g5, ?_, fun ty vy B6 H6 T6 g6 r6 o6 p6 => ?_⟩
      · show tk ρ4 B5.m _
        rw [e1]
        exact p5
      · obtain ⟨y, rfl, p6⟩ := p6
        cases r6 with
        | fz r6 =>
          refine ⟨B6, ρ4, S4, fun t M => ∃ z, t = OT.fz z ∧ ∃ k, keyOf y = some k ∧ l.length < sizeLine ∧ compDc g f tk tv (wipeE ρ vs) P (ds.drop (i + 1)) (odKs ks k) (odTs ks l k (.fz z)) M, (st4.grow g5).grow g6, ?_, fun tz vz B7 H7 T7 g7 r7 o7 p7 => ?_⟩
          · show tv ρ4 B6.m _
            rw [e1]
            exact p6
          · obtain ⟨z, rfl, k, hk, hlz, p7⟩ := p7
            cases r7 with
            | fz r7 =>
              obtain ⟨kvs, q1, q2, q3⟩ := (a5.grow (g6.trans g7)).put hD r7 k
              refine ⟨kvs, k, (keyOf_rep hk r6), q1, by rw [q2]; exact hlz, hlt, B7, _, _, ((((g2.step g3).step g5).step g6).step g7).at q3.nb q3.nm, q3, p7⟩
  · have e : i = ds.length := by omega
    subst e
    refine .inl ⟨wk.stop B2 H2 _ g2.b g2.base (Nat.le_refl _), ?_⟩
    rw [List.drop_length] at c2
    exact hfin B2 H2 ks l a2 c2
theorem DcA.start {B1 : Kn} {H1 : Hp} {D : Addr} (b : Base K B1 H1) (hD : H1 D = none) : DcA K B1 H1 D B1 (upd H1 D (.dK [])) [] [] := by
  obtain ⟨gD, bD, nD⟩ := b.newO (o := .dK []) hD
  exact ⟨gD, bD, nD, [], upd_same, .nil, rfl⟩
theorem DcA.fin {Bz B : Kn} {Hz H : Hp} {D : Addr} {ks : List Key} {l : List OT} (a : DcA K Bz Hz D B H ks l) (hD : Hz D = none) (hl : l.length ≤ sizeLine) : RepO K B.b H (.od ks l) (.ref D) [D] ∧ Own Bz Hz B [D] := by
  obtain ⟨xs, h1, h2, h3⟩ := a.ex
  refine ⟨.od h1 h3 hl h2, ⟨List.nodup_cons.mpr ⟨List.not_mem_nil, .nil⟩, fun p hp => ?_, fun p hp => ?_, fun p hp => ?_⟩⟩
  all_goals
    rw [List.mem_singleton] at hp
    subst hp
  · exact hD
  · exact a.nb
  · exact a.nm
theorem snd_dc {wi : TI} {fi : RI} {is vs : List Nat} {g : RG} {f : RT} {tk tv : RD} (hi : SndI K wi fi) (his : ∀ i ∈ is, i ∈ vs) :
    SndO K (tDc wi (cG K is g) (cT K f) (cO K (fun ρ M P => tk ρ M fun d M => P (.fz d) M)) (cO K (fun ρ M P => tv ρ M fun d M => P (.fz d) M)) vs) (fun ρ M P => fi ρ M fun items M => compDc g f tk tv (wipeE ρ vs) (fun ks l M => l.length ≤ sizeLine ∧ P (.od ks l) M) items [] [] M) := by
  intro B H ρ σ S P Q st hf k
  refine hi B H ρ σ S _ _ st hf fun ds J B1 H1 g1 wk hsz hc => ?_
  intro D hD
  have a0 := DcA.start g1.base hD
  obtain ⟨gD, _⟩ := g1.base.newO (o := .dK []) hD
  exact dc_loop hD ((st.grow g1).grow gD) (fun z => (st.grow g1).some_of z hD) wk his a0 hc fun B' H' ks l a p => by
    obtain ⟨r, o⟩ := a.fin hD p.1
    exact k _ _ B' H' [D] (g1.trans a.gr) r (o.back g1) p.2
section
variable {X : Cx} {tg iter kx vx : Expr} {ifs : List Expr} {pos : Pos}
/-- {k: v for .. in ..} -/
theorem eo_dc {scope : Scope} {own : List (Str × Nat)} {fi : RI} {is : List Nat} {g : RG} {f : RT} {tk tv : RD} (hc : X.calm = true) (hN : X.N.Nodup) (hi : EI X tg iter fi) (ok : BlkOk X.N X.env.scope scope own) (his : ∀ i ∈ is, i ∈ own.map (·.2))
    (hg : ∀ (s : Shared) (H : Hp) (C : Addr) (cl : List (Str × Addr)) (fp : List Addr), EG (X.blk s H scope (compEnvC scope cl C X.env) fp) tg is g)
    (ht : ∀ (s : Shared) (H : Hp) (C : Addr) (cl : List (Str × Addr)) (fp : List Addr), ETs (X.blk s H scope (compEnvC scope cl C X.env) fp) ifs f)
    (hk : ∀ (s : Shared) (H : Hp) (C : Addr) (cl : List (Str × Addr)) (fp : List Addr), ED (X.blk s H scope (compEnvC scope cl C X.env) fp) kx tk)
    (he : ∀ (s : Shared) (H : Hp) (C : Addr) (cl : List (Str × Addr)) (fp : List Addr), ED (X.blk s H scope (compEnvC scope cl C X.env) fp) vx tv) (hs : ∀ x, foldedSetIterable iter X.env x = pure x := by intro _; rfl) :
    EO X (.DictComp kx vx [⟨tg, iter, ifs, 0⟩] scope pos) (fun ρ M P => fi ρ M fun items M => compDc g f tk tv (wipeE ρ (own.map (·.2))) (fun ks l M => l.length ≤ sizeLine ∧ P (.od ks l) M) items [] [] M) := by
  obtain ⟨wi, pi, si⟩ := hi.ex
  exact ⟨_, pe_dc hc hN pi ok (fun s H C cl fp => (hg s H C cl fp).run) (fun s H C cl fp => (ht s H C cl fp).run) (fun s H C cl fp => (hk s H C cl fp).o.run) (fun s H C cl fp => (he s H C cl fp).o.run) hs, snd_dc si his⟩
end
end
end DL

/-! DLJ: a call that leaves out a last parameter whose default is None; tuple(a list that changes). -/
namespace DL
open PySem L2 PySem.Spec
open PyProof.Rows hiding St
set_option autoImplicit false
/-- a def whose last parameter is None where it is left out -/
def DfN (K : PySem.W.Frag) (mg : Str → Option Value) (x : Str) (st : Stmt) (ps : List Str) : Prop := ∃ (f : Addr) (fd : FuncData), mg x = some (.ref f) ∧ Fun K x x st f fd ∧ Binds K fd ps [.none]
theorem fun_same {K : PySem.W.Frag} {x q x' q' : Str} {st st' : Stmt} {f : Addr} {fd fd' : FuncData} (F : Fun K x q st f fd) (F' : Fun K x' q' st' f fd') : fd = fd' := by
  obtain ⟨_, _, _, _, _, _, _, _, _, _, h1, _⟩ := F.ex
  obtain ⟨_, _, _, _, _, _, _, _, _, _, h2, _⟩ := F'.ex
  rw [h1] at h2
  cases h2
  rfl
theorem binds_none {K : PySem.W.Frag} {D : Addr} {kw : Str} {fd : FuncData} {ps : List Str} {n : Nat} (hn : ps.length = n + 1) (hq : PySem.W.nsIn K D kw = some (some .none))
    (h : ∀ us : List Value, us.length = n → KwChain D [(kw, .none)] (bindArgs fd ⟨us, []⟩) (ps.zip (us ++ [.none]))) : Binds K fd ps [.none] := fun s us X hl => by
  have l2 : us.length = n := by rw [List.length_append, List.length_singleton] at hl; omega
  exact BindsTo.of_looks fun M => KwChain.looks X (l := [(kw, .none)]) (fun q hq' => by rw [List.mem_singleton] at hq'; subst hq'; exact hq) (h us l2)
section
variable {X : Cx} {e : Expr} {es : List Expr} {pos p : Pos} {f : RA} {x : Str} {st : Stmt} {ps : List Str} {k : Nat} {s : DSpec}
theorem eo_callPd (F : DF X.prog X.w X.K X.mg X.base st x ps k s) (D : DfN X.K X.mg x st ps) (hr : RG0 k X) (ha : AD X (e :: es) f) (hg : Gl X x := by rfl) (hdb : (x == ("__debug__" : Str)) = false := by decide)
    (he : starEach (e :: es) X.env = (false, eval e X.env) :: starEach es X.env := by rfl) (hpl : (backTo pos (starEach es X.env)).any (·.1) = false := by rfl) :
    EO X (.Call (.Name x p) (e :: es) [] pos) (fun ρ M P => f ρ M fun ds M => ds.length + 1 = ps.length ∧ ∃ i, s.pre i Mem.no (ds ++ [.non]) ∧ ∀ t, (∃ M', s.post i Mem.no t M') → P t M) := by
  obtain ⟨f, fd, hm, hF, _, F⟩ := F.ex
  obtain ⟨f2, fd2, hm2, hF2, hb⟩ := D
  rw [hm] at hm2
  cases hm2
  obtain rfl := fun_same hF hF2
  obtain ⟨ta, pa, sa⟩ := ha.ex
  refine ⟨_, pe_callG F hr hg hm hF.kp hb (.cons (show RelV .non .none from rfl) .nil) pass0 pa hdb he hpl, fun B H ρ σ S P Q st hf kk => sa B H ρ σ S _ _ st hf fun ds vs B1 H1 g1 r1 p1 => ?_⟩
  obtain ⟨hl, i, p1, p2⟩ := p1
  refine ⟨i, B1.still, ds ++ [D.non], g1.base.still, Reps.append r1 (.cons .non .nil), by rw [List.length_append]; exact hl, p1, fun t v B' H' T g r o q => ?_⟩
  exact kk t v ⟨B'.b, B1.m⟩ H' T (g1.trans (Grow.unstill g1.base g)) r ((o.unstill g1.base).back g1) (p2 t ⟨_, q⟩)
/-- tuple(x), x a list that changes -/
theorem eo_tupleM (hm : X.mg "tuple" = none) (ha : AD X [e] f) (hg : Gl X "tuple" := by rfl) (he : starEach [e] X.env = (false, eval e X.env) :: starEach [] X.env := by rfl) : EO X (.Call (.Name "tuple" p) [e] [] pos) (fun ρ M P => f ρ M fun ds M => ∃ z l, ds = [.mob z] ∧ M z = some (.lst l) ∧ P (.fz (.tup l)) M) := eo_callT call_tuple_of (fun B H ds vs P Q bs r h k => by
  obtain ⟨z, l, rfl, hM, h⟩ := h
  obtain ⟨v, rfl, q⟩ := r.one
  cases q with
  | mob _ =>
    obtain ⟨_, xs, hx, hl, rx⟩ := bs.wd z _ hM
    exact ⟨_, _, rfl, .inl ⟨Evl.sq_of hx, new_tuple bs rx hl h (kD k)⟩⟩) ha hm (by decide +kernel) hg (by decide) (by decide) he rfl
end
end DL

/-! DLB: bodies of sayings; the truths of their parts. -/
namespace DL
open PySem L2 PySem.Spec
open PyProof.Rows hiding St
set_option autoImplicit false
/-! ### bodies -/
inductive Bd where
  | has (r m : Str) | alike (a b : Str) (ms : List Str)
  | nt (b : Bd) | an (b c : Bd) | or (b c : Bd) | ah (b : Bd) | ev (b : Bd) | si (b c : Bd)
def Bd.toD : Bd → D
  | .has r m => .tup [.str "has", .str r, .str m]
  | .alike a b ms => .tup [.str "alike", .str a, .str b, .tup (ms.map .str)]
  | .nt b => .tup [.str "not", b.toD]
  | .an b c => .tup [.str "and", b.toD, c.toD]
  | .or b c => .tup [.str "or", b.toD, c.toD]
  | .ah b => .tup [.str "ahead", b.toD]
  | .ev b => .tup [.str "ever", b.toD]
  | .si b c => .tup [.str "since", b.toD, c.toD]
/-- all bodies of it, each behind those it's made of -/
def Bd.parts : Bd → List Bd
  | .has r m => [.has r m]
  | .alike a b ms => [.alike a b ms]
  | .nt b => b.parts ++ [.nt b]
  | .an b c => b.parts ++ c.parts ++ [.an b c]
  | .or b c => b.parts ++ c.parts ++ [.or b c]
  | .ah b => b.parts ++ [.ah b]
  | .ev b => b.parts ++ [.ev b]
  | .si b c => b.parts ++ c.parts ++ [.si b c]
def Bd.hgt : Bd → Nat
  | .has _ _ => 0
  | .alike _ _ _ => 0
  | .nt b => b.hgt + 1
  | .an b c => max b.hgt c.hgt + 1
  | .or b c => max b.hgt c.hgt + 1
  | .ah b => b.hgt + 1
  | .ev b => b.hgt + 1
  | .si b c => max b.hgt c.hgt + 1
def Bd.backs : Bd → Bool
  | .ah _ => true
  | .ev _ => true
  | .si _ _ => true
  | _ => false
theorem strs_inj {a b : List Str} : (a.map D.str = b.map D.str) ↔ a = b := ⟨fun h => (List.map_inj_right fun x y e => D.str.inj e).mp h, fun h => by rw [h]⟩
theorem Bd.inj : ∀ {b c : Bd}, b.toD = c.toD → b = c := by
  intro b
  induction b with
  | has r m => intro c h; cases c <;> simp [Bd.toD, ofString_inj] at h ⊢; exact h
  | alike a b ms => intro c h; cases c <;> simp [Bd.toD, ofString_inj, strs_inj] at h ⊢; exact h
  | nt b ih => intro c h; cases c <;> simp [Bd.toD, ofString_inj] at h ⊢; exact ih h
  | ah b ih => intro c h; cases c <;> simp [Bd.toD, ofString_inj] at h ⊢; exact ih h
  | ev b ih => intro c h; cases c <;> simp [Bd.toD, ofString_inj] at h ⊢; exact ih h
  | an b c ih ih2 => intro d h; cases d <;> simp [Bd.toD, ofString_inj] at h ⊢; exact ⟨ih h.1, ih2 h.2⟩
  | or b c ih ih2 => intro d h; cases d <;> simp [Bd.toD, ofString_inj] at h ⊢; exact ⟨ih h.1, ih2 h.2⟩
  | si b c ih ih2 => intro d h; cases d <;> simp [Bd.toD, ofString_inj] at h ⊢; exact ⟨ih h.1, ih2 h.2⟩
theorem bd_inj {b c : Bd} : (b.toD = c.toD) ↔ b = c := ⟨Bd.inj, fun h => by rw [h]⟩
theorem kind_bd {M : Mem} {b : Bd} : D.kind M b.toD = some .tup := by cases b <;> rfl
theorem parts_pow : ∀ b : Bd, b.parts.length + 1 ≤ 2 ^ (b.hgt + 1) := by
  have two : ∀ (x y z : Nat), z ≤ 2 ^ (x + 1) → 2 ^ (x + 1) ≤ 2 ^ (max x y + 1) := fun x y z _ => Nat.pow_le_pow_right (by decide) (by omega)
  have up : ∀ h : Nat, 2 ^ (h + 1 + 1) = 2 * 2 ^ (h + 1) := fun h => by rw [Nat.pow_succ 2 (h + 1), Nat.mul_comm]
  have mx : ∀ x y : Nat, 2 ^ (x + 1) ≤ 2 ^ (max x y + 1) ∧ 2 ^ (y + 1) ≤ 2 ^ (max x y + 1) := fun x y => ⟨Nat.pow_le_pow_right (by decide) (by omega), Nat.pow_le_pow_right (by decide) (by omega)⟩
  intro b
  induction b with
  | has r m => simp [Bd.parts, Bd.hgt]
  | alike a b ms => simp [Bd.parts, Bd.hgt]
  | nt b ih => simp only [Bd.parts, Bd.hgt, List.length_append, List.length_singleton, up]; omega
  | ah b ih => simp only [Bd.parts, Bd.hgt, List.length_append, List.length_singleton, up]; omega
  | ev b ih => simp only [Bd.parts, Bd.hgt, List.length_append, List.length_singleton, up]; omega
  | an b c ih ih2 => simp only [Bd.parts, Bd.hgt, List.length_append, List.length_singleton, up]; have := mx b.hgt c.hgt; omega
  | or b c ih ih2 => simp only [Bd.parts, Bd.hgt, List.length_append, List.length_singleton, up]; have := mx b.hgt c.hgt; omega
  | si b c ih ih2 => simp only [Bd.parts, Bd.hgt, List.length_append, List.length_singleton, up]; have := mx b.hgt c.hgt; omega
theorem parts_small {b : Bd} (h : b.hgt ≤ 20) : b.parts.length ≤ 2097152 := by
  have h1 := parts_pow b
  have h2 : 2 ^ (b.hgt + 1) ≤ 2 ^ 21 := Nat.pow_le_pow_right (by decide) (by omega)
  have h3 : 2 ^ 21 = 2097152 := by decide
  omega
def Bd.partsD (b : Bd) : List D := b.parts.map Bd.toD
section
variable {b c : Bd} {r m : Str} {ms : List Str}
theorem pD_has : (Bd.has r m).partsD = [.tup [.str "has", .str r, .str m]] := rfl
theorem pD_alike : (Bd.alike r m ms).partsD = [.tup [.str "alike", .str r, .str m, .tup (ms.map .str)]] := rfl
theorem pD_nt : (Bd.nt b).partsD = b.partsD ++ [.tup [.str "not", b.toD]] := by simp [Bd.partsD, Bd.parts, Bd.toD]
theorem pD_an : (Bd.an b c).partsD = b.partsD ++ c.partsD ++ [.tup [.str "and", b.toD, c.toD]] := by simp [Bd.partsD, Bd.parts, Bd.toD]
theorem pD_or : (Bd.or b c).partsD = b.partsD ++ c.partsD ++ [.tup [.str "or", b.toD, c.toD]] := by simp [Bd.partsD, Bd.parts, Bd.toD]
theorem pD_ah : (Bd.ah b).partsD = b.partsD ++ [.tup [.str "ahead", b.toD]] := by simp [Bd.partsD, Bd.parts, Bd.toD]
theorem pD_ev : (Bd.ev b).partsD = b.partsD ++ [.tup [.str "ever", b.toD]] := by simp [Bd.partsD, Bd.parts, Bd.toD]
theorem pD_si : (Bd.si b c).partsD = b.partsD ++ c.partsD ++ [.tup [.str "since", b.toD, c.toD]] := by simp [Bd.partsD, Bd.parts, Bd.toD]
theorem pD_len : b.partsD.length = b.parts.length := by simp [Bd.partsD]
end
/-! ### the truths of a body's parts -/
def wasB (bf : Option (List Bool)) (i : Nat) : Bool := match bf with
  | none => false
  | some l => l.getD i false
def lastB (l : List Bool) : Bool := l.getLastD false
/-- what stands behind the truths that were there -/
def Bd.put (tg : Str → List Str) (bf : Option (List Bool)) : Bd → List Bool → List Bool
  | .has r m, acc => acc ++ [decide (m ∈ tg r)]
  | .alike a b ms, acc => acc ++ [ms.all fun m => decide (m ∈ tg a) == decide (m ∈ tg b)]
  | .nt b, acc => b.put tg bf acc ++ [!lastB (b.put tg bf acc)]
  | .an b c, acc => c.put tg bf (b.put tg bf acc) ++ [lastB (b.put tg bf acc) && lastB (c.put tg bf (b.put tg bf acc))]
  | .or b c, acc => c.put tg bf (b.put tg bf acc) ++ [lastB (b.put tg bf acc) || lastB (c.put tg bf (b.put tg bf acc))]
  | .ah b, acc => b.put tg bf acc ++ [wasB bf ((b.put tg bf acc).length - 1)]
  | .ev b, acc => b.put tg bf acc ++ [lastB (b.put tg bf acc) || wasB bf (b.put tg bf acc).length]
  | .si b c, acc => c.put tg bf (b.put tg bf acc) ++ [lastB (c.put tg bf (b.put tg bf acc)) || (lastB (b.put tg bf acc) && wasB bf (c.put tg bf (b.put tg bf acc)).length)]
theorem put_len {tg : Str → List Str} {bf : Option (List Bool)} : ∀ {b : Bd} {acc : List Bool}, (b.put tg bf acc).length = acc.length + b.parts.length := by
  intro b
  induction b with
  | has r m => intro acc; simp [Bd.put, Bd.parts]
  | alike a b ms => intro acc; simp [Bd.put, Bd.parts]
  | nt b ih => intro acc; simp only [Bd.put, Bd.parts, List.length_append, List.length_singleton, ih]; omega
  | ah b ih => intro acc; simp only [Bd.put, Bd.parts, List.length_append, List.length_singleton, ih]; omega
  | ev b ih => intro acc; simp only [Bd.put, Bd.parts, List.length_append, List.length_singleton, ih]; omega
  | an b c ih ih2 => intro acc; simp only [Bd.put, Bd.parts, List.length_append, List.length_singleton, ih, ih2]; omega
  | or b c ih ih2 => intro acc; simp only [Bd.put, Bd.parts, List.length_append, List.length_singleton, ih, ih2]; omega
  | si b c ih ih2 => intro acc; simp only [Bd.put, Bd.parts, List.length_append, List.length_singleton, ih, ih2]; omega
/-- what was there stays ahead -/
theorem put_pre {tg : Str → List Str} {bf : Option (List Bool)} : ∀ {b : Bd} {acc : List Bool}, ∃ new, b.put tg bf acc = acc ++ new ∧ new ≠ [] := by
  intro b
  induction b with
  | has r m => intro acc; exact ⟨_, rfl, by simp⟩
  | alike a b ms => intro acc; exact ⟨_, rfl, by simp⟩
  | nt b ih => intro acc; obtain ⟨n, e, _⟩ := ih (acc := acc); exact ⟨n ++ [!lastB (b.put tg bf acc)], by rw [Bd.put, ← List.append_assoc, ← e], by simp⟩
  | ah b ih => intro acc; obtain ⟨n, e, _⟩ := ih (acc := acc); exact ⟨n ++ [wasB bf ((b.put tg bf acc).length - 1)], by rw [Bd.put, ← List.append_assoc, ← e], by simp⟩
  | ev b ih => intro acc; obtain ⟨n, e, _⟩ := ih (acc := acc); exact ⟨n ++ [lastB (b.put tg bf acc) || wasB bf (b.put tg bf acc).length], by rw [Bd.put, ← List.append_assoc, ← e], by simp⟩
  | an b c ih ih2 =>
    intro acc
    obtain ⟨n, e, _⟩ := ih (acc := acc)
    obtain ⟨n2, e2, _⟩ := ih2 (acc := b.put tg bf acc)
    obtain ⟨v, h⟩ : ∃ v, (Bd.an b c).put tg bf acc = c.put tg bf (b.put tg bf acc) ++ [v] := ⟨_, rfl⟩
    exact ⟨n ++ n2 ++ [v], by rw [h, e2, e]; simp only [List.append_assoc], by simp⟩
  | or b c ih ih2 =>
    intro acc
    obtain ⟨n, e, _⟩ := ih (acc := acc)
    obtain ⟨n2, e2, _⟩ := ih2 (acc := b.put tg bf acc)
    obtain ⟨v, h⟩ : ∃ v, (Bd.or b c).put tg bf acc = c.put tg bf (b.put tg bf acc) ++ [v] := ⟨_, rfl⟩
    exact ⟨n ++ n2 ++ [v], by rw [h, e2, e]; simp only [List.append_assoc], by simp⟩
  | si b c ih ih2 =>
    intro acc
    obtain ⟨n, e, _⟩ := ih (acc := acc)
    obtain ⟨n2, e2, _⟩ := ih2 (acc := b.put tg bf acc)
    obtain ⟨v, h⟩ : ∃ v, (Bd.si b c).put tg bf acc = c.put tg bf (b.put tg bf acc) ++ [v] := ⟨_, rfl⟩
    exact ⟨n ++ n2 ++ [v], by rw [h, e2, e]; simp only [List.append_assoc], by simp⟩
end DL

/-! DLX: the truths of the parts of a body, step by step, are what is read back to the first step. -/
namespace DL
open PySem L2 PySem.Spec
open PyProof.Rows hiding St
set_option autoImplicit false
/-- t: what is true at a step; W: what was true a step ahead -/
structure StepB (tg : Str → List Str) (t W : Bd → Bool) : Prop where
  has : ∀ r m, t (.has r m) = decide (m ∈ tg r)
  alike : ∀ a b ms, t (.alike a b ms) = ms.all fun m => decide (m ∈ tg a) == decide (m ∈ tg b)
  nt : ∀ b, t (.nt b) = !t b
  an : ∀ b c, t (.an b c) = (t b && t c)
  or : ∀ b c, t (.or b c) = (t b || t c)
  ah : ∀ b, t (.ah b) = W b
  ev : ∀ b, t (.ev b) = (t b || W (.ev b))
  si : ∀ b c, t (.si b c) = (t c || (t b && W (.si b c)))
theorem parts_end : ∀ b : Bd, ∃ l, b.parts = l ++ [b] := by
  intro b
  cases b <;> first | exact ⟨[], rfl⟩ | exact ⟨_, rfl⟩
theorem parts_lastB {t : Bd → Bool} {b : Bd} {acc : List Bool} : lastB (acc ++ b.parts.map t) = t b := by
  obtain ⟨l, e⟩ := parts_end b
  rw [e, List.map_append, ← List.append_assoc]
  simp [lastB]
theorem parts_at {b : Bd} : b.parts[b.parts.length - 1]? = some b ∧ 1 ≤ b.parts.length := by
  obtain ⟨l, e⟩ := parts_end b
  rw [e]
  simp
def WasAt (bf : Option (List Bool)) (W : Bd → Bool) (k : Nat) (ps : List Bd) : Prop := ∀ i p, ps[i]? = some p → wasB bf (k + i) = W p
theorem WasAt.left {bf : Option (List Bool)} {W : Bd → Bool} {k : Nat} {ps qs : List Bd} (h : WasAt bf W k (ps ++ qs)) : WasAt bf W k ps := fun i p e => h i p (by
  have : i < ps.length := (List.getElem?_eq_some_iff.mp e).1
  rw [List.getElem?_append_left this]; exact e)
theorem WasAt.right {bf : Option (List Bool)} {W : Bd → Bool} {k : Nat} {ps qs : List Bd} (h : WasAt bf W k (ps ++ qs)) : WasAt bf W (k + ps.length) qs := fun i p e => by
  have := h (ps.length + i) p (by rw [List.getElem?_append_right (by omega), Nat.add_sub_cancel_left]; exact e)
  rw [← Nat.add_assoc] at this
  exact this
theorem WasAt.one {bf : Option (List Bool)} {W : Bd → Bool} {k : Nat} {p : Bd} (h : WasAt bf W k [p]) : wasB bf k = W p := h 0 p rfl
theorem put_is {tg : Str → List Str} {t W : Bd → Bool} {bf : Option (List Bool)} (S : StepB tg t W) : ∀ {b : Bd} {acc : List Bool}, WasAt bf W acc.length b.parts → b.put tg bf acc = acc ++ b.parts.map t := by
  intro b
  induction b with
  | has r m => intro acc h; simp [Bd.put, Bd.parts, S.has]
  | alike a b ms => intro acc h; simp [Bd.put, Bd.parts, S.alike]
  | nt b ih => intro acc h; simp only [Bd.put, Bd.parts] at h ⊢; rw [ih h.left, parts_lastB, List.map_append, ← List.append_assoc, List.map_singleton, S.nt]
  | ah b ih =>
    intro acc h
    simp only [Bd.put, Bd.parts] at h ⊢
    have w := h.left _ _ (parts_at (b := b)).1
    have l := (parts_at (b := b)).2
    rw [ih h.left, List.map_append, ← List.append_assoc, List.map_singleton, S.ah, ← w, List.length_append, List.length_map, Nat.add_sub_assoc l]
  | ev b ih =>
    intro acc h
    simp only [Bd.put, Bd.parts] at h ⊢
    have w := h.right.one
    rw [ih h.left, parts_lastB, List.map_append, ← List.append_assoc, List.map_singleton, S.ev, ← w, List.length_append, List.length_map]
  | an b c ih ih2 =>
    intro acc h
    simp only [Bd.put, Bd.parts] at h ⊢
    have h2 := h.left.right
    rw [ih h.left.left]
    rw [ih2 (by rw [List.length_append, List.length_map]; exact h2), parts_lastB, parts_lastB, List.map_append, List.map_append, List.map_singleton, S.an]
    simp only [List.append_assoc]
  | or b c ih ih2 =>
    intro acc h
    simp only [Bd.put, Bd.parts] at h ⊢
    have h2 := h.left.right
    rw [ih h.left.left]
    rw [ih2 (by rw [List.length_append, List.length_map]; exact h2), parts_lastB, parts_lastB, List.map_append, List.map_append, List.map_singleton, S.or]
    simp only [List.append_assoc]
  | si b c ih ih2 =>
    intro acc h
    simp only [Bd.put, Bd.parts] at h ⊢
    have h2 := h.left.right
    have w := h.right.one
    rw [List.length_append, ← Nat.add_assoc] at w
    rw [ih h.left.left]
    rw [ih2 (by rw [List.length_append, List.length_map]; exact h2), parts_lastB, parts_lastB, List.map_append, List.map_append, List.map_singleton, S.si, ← w, List.length_append, List.length_append, List.length_map, List.length_map]
    simp only [List.append_assoc]
/-- what is true at a step, read back to the first -/
def trueB (tg : Nat → Str → List Str) : Bd → Nat → Bool
  | .has r m, at_ => decide (m ∈ tg at_ r)
  | .alike a b ms, at_ => ms.all fun m => decide (m ∈ tg at_ a) == decide (m ∈ tg at_ b)
  | .nt b, at_ => !trueB tg b at_
  | .an b c, at_ => trueB tg b at_ && trueB tg c at_
  | .or b c, at_ => trueB tg b at_ || trueB tg c at_
  | .ah b, at_ => match at_ with | 0 => false | n + 1 => trueB tg b n
  | .ev b, at_ => (List.range (at_ + 1)).any fun n => trueB tg b n
  | .si b c, at_ => at_.rec (trueB tg c 0) fun n r => trueB tg c (n + 1) || (trueB tg b (n + 1) && r)
def waB (tg : Nat → Str → List Str) (n : Nat) (b : Bd) : Bool := match n with
  | 0 => false
  | n + 1 => trueB tg b n
theorem trueB_step {tg : Nat → Str → List Str} {n : Nat} : StepB (tg n) (fun b => trueB tg b n) (waB tg n) := by
  refine ⟨fun _ _ => rfl, fun _ _ _ => rfl, fun _ => rfl, fun _ _ => rfl, fun _ _ => rfl, fun b => ?_, fun b => ?_, fun b c => ?_⟩
  · cases n <;> rfl
  · cases n with
    | zero => simp [trueB, waB]
    | succ n => simp only [trueB, waB]; rw [List.range_succ, List.any_append, Bool.or_comm]; simp
  · cases n with
    | zero => simp only [waB, Bool.and_false, Bool.or_false]; rfl
    | succ n => rfl
/-- the truths told step by step -/
def toldB (tg : Nat → Str → List Str) (b : Bd) : Nat → Option (List Bool)
  | 0 => none
  | n + 1 => some (b.put (tg n) (toldB tg b n) [])
theorem told_is {tg : Nat → Str → List Str} {b : Bd} : ∀ n, b.put (tg n) (toldB tg b n) [] = b.parts.map fun p => trueB tg p n := by
  intro n
  induction n with
  | zero => exact put_is trueB_step fun i p e => rfl
  | succ n ih =>
    refine put_is trueB_step fun i p e => ?_
    show (b.put (tg n) (toldB tg b n) []).getD (0 + i) false = trueB tg p n
    rw [ih, Nat.zero_add, List.getD_eq_getElem?_getD, List.getElem?_map, e]
    rfl
end DL

/-! DLA: range(i, j, -1); dict(pairs). -/
namespace DL
open PySem L2 PySem.Spec
open PyProof.Rows hiding St
open PySem.PyData (strOk)
set_option autoImplicit false
/-- hi, hi - 1, .. (n of them) -/
def rngU (hi : Int) (n : Nat) : List D := (List.range n).map fun (i : Nat) => D.int (hi - (i : Int))
theorem rngU_get {hi : Int} {n i : Nat} : (rngU hi n)[i]? = if i < n then some (.int (hi - i)) else none := by
  unfold rngU
  rw [List.getElem?_map]
  by_cases h : i < n
  · simp [h]
  · simp [h]
theorem rngU_len (hi : Int) (n : Nat) : (rngU hi n).length = n := by simp [rngU]
theorem rngU_succ (hi : Int) (n : Nat) : rngU hi (n + 1) = .int hi :: rngU (hi - 1) n := by
  unfold rngU
  rw [List.range_succ_eq_map, List.map_cons, List.map_map]
  congr 1
  · simp
  · exact List.map_congr_left fun i _ => by show D.int (hi - ((i + 1 : Nat) : Int)) = _; congr 1; omega
section
variable {X : Cx} {tg e a b c : Expr} {pos p : Pos} {f : RA}
theorem walks_dwn {K : PySem.W.Frag} {B0 : Hp} (hi : Int) (n : Nat) : Walks K (Itc hi (-1) n) (rngU hi n) B0 where
  go := fun B H i d e bs hd => by
    rw [rngU_get] at hd
    split at hd
    · next h =>
      cases hd
      refine ⟨h, fun x H' y => ?_⟩
      obtain ⟨rfl, rfl⟩ := y
      exact ⟨B, bs.grow, rfl, by rw [show hi + (i : Int) * -1 = hi - i by omega]; exact .int _⟩
    · cases hd
  stop := fun B H i e bs hi => by
    rw [rngU_len] at hi
    exact hi
theorem ei_range3 (hm : X.mg "range" = none) (ha : AV X [a, b, c] f) (hg : Gl X "range" := by rfl) (hs : starEach [a, b, c] X.env = (false, eval a X.env) :: starEach [b, c] X.env := by rfl) (hpl : (backTo pos (starEach [b, c] X.env)).any (·.1) = false := by rfl) :
    EI X tg (.Call (.Name "range" p) [a, b, c] [] pos) (fun ρ M P => f ρ M fun ds M => ∃ i j, ds = [.int i, .int j, .int (-1)] ∧ -1000000 ≤ i ∧ i ≤ 1000000 ∧ -1000000 ≤ j ∧ j ≤ 1000000 ∧ P (rngU i (i - j).toNat) M) := by
  obtain ⟨ta, pa, sa⟩ := ha.ex
  refine ⟨_, pi_range3 hg hm pa hs hpl, fun B H ρ σ S P R st hf k => sa B H ρ σ S _ _ st hf fun ds vs B' H' g r p => ?_⟩
  obtain ⟨i, j, rfl, h1, h2, h3, h4, p⟩ := p
  cases r with | cons r rr => ?_
  cases rr with | cons r' rr => ?_
  cases rr with | cons r'' rr => ?_
  cases rr
  cases r
  cases r'
  cases r''
  refine ⟨i, j, -1, _, rfl, RgC.neg (by omega) (by omega) (by omega) (by omega), k _ _ B' H' g (walks_dwn i _) ?_ p⟩
  have hs : sizeLine = 16777216 := sizeLine_eq
  rw [rngU_len]
  omega
/-- a key as data -/
def keyD : Key → D
  | .inl i => .int i
  | .inr x => .str x
theorem keyOf_keyD (k : Key) : keyOf (keyD k) = some k := by cases k <;> rfl
def hPairs (ds : List D) (M : Mem) (P : OT → Mem → Prop) : Prop := ∃ l : List (Key × D), ds = [.lst (l.map fun q => .tup [keyD q.1, q.2])] ∧ (l.map (·.1)).Nodup ∧ P (.od (l.map (·.1)) (l.map fun q => .fz q.2)) M
theorem pairs_rep {K : PySem.W.Frag} {B : Hp} : ∀ {l : List (Key × D)} {vs : List V}, Reps K B (l.map fun q => .tup [keyD q.1, q.2]) vs → ∃ (as : List Addr) (ws : List V), vs = as.map V.ref ∧ Paired (fun p kv => SqT K B p [kV kv.1, kv.2]) as ((l.map (·.1)).zip ws) ∧ Reps K B (l.map (·.2)) ws
  | [], _, .nil => ⟨[], [], rfl, .nil, .nil⟩
  | q :: l, _, .cons h t => by
    obtain ⟨as, ws, rfl, h1, h2⟩ := pairs_rep t
    cases h with
    | @tup a _ _ hs hl hr =>
      cases hr with | @cons _ v1 _ _ r1 t1 => ?_
      cases t1 with | @cons _ v2 _ _ r2 t2 => ?_
      cases t2
      rw [keyOf_rep (keyOf_keyD q.1) r1] at hs
      exact ⟨a :: as, v2 :: ws, rfl, .cons hs h1, .cons r2 h2⟩
theorem Paired.up {α β : Type} {F G : α → β → Prop} (h : ∀ a b, F a b → G a b) : ∀ {l : List α} {m : List β}, Paired F l m → Paired G l m
  | _, _, .nil => .nil
  | _, _, .cons r t => .cons (h _ _ r) (Paired.up h t)
/-- dict(pairs) -/
theorem eo_dictP (hc : X.calm = true) (hm : X.mg "dict" = none) (ha : AD X [e] f) (hg : Gl X "dict" := by rfl) (he : starEach [e] X.env = (false, eval e X.env) :: starEach [] X.env := by rfl) :
    EO X (.Call (.Name "dict" p) [e] [] pos) (fun ρ M P => f ρ M fun ds M => hPairs ds M P) := eo_callT (call_dictP hc) (fun B H ds vs P Q bs r h k => by
  obtain ⟨l, rfl, nd, h⟩ := h
  obtain ⟨v, rfl, q⟩ := r.one
  cases q with
  | @lst a xs _ h1 h2 h3 =>
    obtain ⟨as, ws, rfl, h4, h5⟩ := pairs_rep h3
    refine ⟨a, as, (l.map (·.1)).zip ws, rfl, Evl.sq_of (bs.bh _ _ h1), Paired.up (fun p kv z => Evl.ex_t bs.bh z) h4, fun p hp => ?_⟩
    have hlen := h5.length
    rw [List.length_map] at hlen h2
    have hz : ((l.map (·.1)).zip ws).map (·.1) = l.map (·.1) := by rw [List.map_fst_zip]; simp; omega
    rw [merge_new _ [] (by rw [List.nil_append, hz]; exact nd), List.nil_append]
    obtain ⟨g2, hb, hn⟩ := bs.newO (o := .dK ((l.map (·.1)).zip ws)) hp
    refine k (.od (l.map (·.1)) (l.map fun q => .fz q.2)) (.ref p) B _ [p] g2 (.od (T := []) upd_same (by simp) (by rw [List.length_map]; exact h2) ?_) ⟨by simp, fun q hq => ?_, fun q hq => ?_, fun q hq => ?_⟩ h
    · have := RepOs.fzs (B := B.b) (H := upd H p (.dK ((l.map (·.1)).zip ws))) h5
      rw [List.map_map] at this
      exact this
    all_goals (rw [List.mem_singleton] at hq; subst hq; assumption)) ha hm (by decide +kernel) hg (by decide) (by decide) he rfl
end
end DL
/-! ### enumerate(t) of a tuple -/
namespace EN
open PySem PySem.Spec PyProof.Rows L2
variable {P : Program} {w : World} {K : PySem.W.Frag}
/-- the tuple at a, its items counted, each in a new pair -/
def ItE (K : PySem.W.Frag) (a : Addr) : It :=
  ⟨fun i H => ∃ xs : List V, SqT K H a xs ∧ i < xs.length, fun i H v H' => ∃ T x, v = .ref T ∧ H T = none ∧ H' = upd H T (.tup [.int (i : Nat), x]) ∧ ∀ xs, SqT K H a xs → xs[i]? = some x, fun i H => ∃ xs : List V, SqT K H a xs ∧ xs.length ≤ i⟩
/-- how far it is -/
def Stands (e it a : Addr) (i : Nat) (h : Heap) : Prop := ((∃ old, IsEnum h e it ((0 : Int) + (i : Nat)) old) ∧ h.IsTupleIter it a i) ∧ e ≠ it ∧ a ≠ it ∧ a ≠ e
/-- only the end is left -/
theorem spent {A : Around} (hh : A.handled = none) {it a : Addr} {items : Array Value} {i : Nat} (h : items[i]? = none) : Draws P w A it [it, a] i (fun _ _ => False) (fun j h => j = i ∧ h.IsTupleIter it a i ∧ h.IsTuple a items) where
  live j h S := let ⟨_, ⟨o, ho, _⟩, _⟩ := S; ⟨o, ho⟩
  frame j h h' S k := ⟨S.1, S.2.1.at fun o e => k it (by simp) o e, S.2.2.at fun o e => k a (by simp) o e⟩
  item j s Q E hj S _ := absurd S.1 (Nat.ne_of_lt hj)
  done s Q E S q := RZ.nextOf_tuple_end hh S.2.1 S.2.2 h fun h' e x y => q h' e x y
theorem turn {elts : List Expr} {kk : Nat} {tpos : Pos} (e it a : Addr) : Turn P w K (.Tuple elts kk tpos) (ItE K a) [e, it] e (Stands e it a) where
  mem := by simp
  obj i h S b m := by
    obtain ⟨⟨⟨old, he⟩, o, ho, hc, hd⟩, _⟩ := S
    simp only [List.mem_cons, List.not_mem_nil, or_false] at m
    rcases m with rfl | rfl
    · exact ⟨_, he, nofun⟩
    · exact ⟨o, ho, by rw [hd]; nofun⟩
  keep i h h' S k := by
    obtain ⟨⟨⟨old, he⟩, hi⟩, ne⟩ := S
    exact ⟨⟨⟨old, k e (by simp) _ he⟩, hi.at fun o q => k it (by simp) o q⟩, ne⟩
  item := by
    rintro X rfl rfl rfl hc i pins s σ H E I hf ⟨⟨he, hi⟩, n1, n2, n3⟩ ⟨xs, hx, hl⟩
    obtain ⟨us, r, p, _⟩ := I.tuple hx
    have W := WalksT.enumFrom 0 (Draws.tuple (prog := X.prog) (w := X.w) (A := X.A.in1) (by simpa using I.ok.hd hc) it a n2 us.toArray) e n1 (by simp [n1, n3.symm]) (by simp)
    have hl2 : i < us.toArray.size := by rw [List.size_toArray, ← r.length]; exact hl
    refine W.item i s _ _ hl2 ⟨he, hi, p⟩ ?_
    rintro T vals h' tk ⟨t, x, hx', rfl⟩ new hT mid keep
    refine ⟨_, rfl, W.go _ _ _ i T _ _ _ mid fun h2 S2 keep2 => ?_⟩
    obtain ⟨d, hd⟩ : ∃ d, xs[i]? = some d := ⟨_, List.getElem?_eq_getElem hl⟩
    obtain ⟨u, hu, ru⟩ := r.get hd
    have e1 : x = u := by
      have z : us[i]? = some x := by simpa using hx'
      rw [hu] at z
      exact (Option.some.inj z).symm
    subst e1
    have ap := W.apart i T h' mid
    have lt : ∀ b ∈ [e, it], b < s.heap.objs.size := by
      intro b m
      simp only [List.mem_cons, List.not_mem_nil, or_false] at m
      obtain ⟨old, he⟩ := he
      obtain ⟨o, ho, _⟩ := hi
      rcases m with rfl | rfl
      · exact Heap.lt_size he
      · exact Heap.lt_size ho
    have at_ : h2.IsTuple T #[.int ((0 : Int) + (i : Nat)) t, x] := hT.at fun o q => keep2 T o ap q
    rw [Int.zero_add] at at_
    refine ⟨.ref T, upd H T (.tup [.int (i : Nat), d]), I.turnedNew (t' := tk) (ch := [e, it]) (fun b o n q => keep2 b o n (keep b o n q)) hf new ⟨show 2 ≤ sizeLine by decide, [.int i t, x], .cons ⟨_, rfl⟩ (.cons ru .nil), at_⟩, rfl,
      ⟨T, d, rfl, I.hok.fresh new, rfl, fun ys hy => by rw [I.tuple_inj hy hx]; exact hd⟩, ⟨⟨S2.1, S2.2.1⟩, n1, n2, n3⟩, fun b m => ?_⟩
    rw [upd_ne (Nat.ne_of_lt (Nat.lt_of_lt_of_le (lt b m) new))]
    exact (hf b m).1
  done := by
    rintro X rfl rfl rfl hc i pins s σ H E I hf ⟨⟨he, hi⟩, n1, n2, n3⟩ ⟨xs, hx, hl⟩
    obtain ⟨us, r, p, _⟩ := I.tuple hx
    have none : us.toArray[i]? = none := by simpa [← r.length] using hl
    have W := WalksT.enumFrom 0 (spent (P := X.prog) (w := X.w) (A := X.A.in1) (by simpa using I.ok.hd hc) (it := it) (a := a) none) e n1 (by simp [n1, n3.symm]) (by simp)
    exact W.done s _ _ ⟨he, rfl, hi, p⟩ fun h' tk keep => ⟨rfl, I.turnedL (t' := tk) (ch := [e, it]) keep hf⟩
  self A i s Q E S q := by
    obtain ⟨⟨⟨old, he⟩, _⟩, _⟩ := S
    exact wpAny_pyIter_enum he q
theorem made (a : Addr) (xs : Array Value) : Meets (Builtin.«enumerate.__new__» ⟨[.type "enumerate", .ref a], []⟩) (fun _ R s => s.heap.IsTuple a xs ∧ R (.ok (.ret (.ref (s.heap.objs.size + 1))))
    { s with heap := (s.heap.push { cls := .type "tuple_iterator", data := .fields #[.ref a, .int 0 0] }).push { cls := .type "enumerate", data := .fields #[.none, .bool false, .ref s.heap.objs.size, rawInt 0, .none, .none] } }) :=
  .of_wp fun prog w A R s h => by
    obtain ⟨hp, g, d, tk, os⟩ := s
    obtain ⟨hx, h⟩ := h
    have sub := sub_enumerate
    have n1 : (hp.push { cls := .type "tuple_iterator", data := .fields #[.ref a, .int 0 0] }).objs.size = hp.objs.size + 1 := Heap.size_push ..
    replace hx : (Shared.heap ⟨hp, g, d, tk, os⟩).IsTuple a xs := hx
    rw [← n1] at h
    wp_walk using wpAny_pyIter_tuple hx
    refine wpAny_stack_any fun st => wpAny_pure ?_
    refine DL.wp_either ?_ ?_ <;> (wp_walk using wpAny_pyIter_tuple hx; exact ⟨_, rfl, h⟩)
theorem called {prog : Program} {w : World} {A : Around} {E : Value → Shared → Prop} {s : Shared} {a : Addr} {xs : Array Value} {Q : Value → Shared → Prop} (hx : s.heap.IsTuple a xs)
    (h : ∀ h', IsEnum h' (s.heap.objs.size + 1) s.heap.objs.size 0 .none → h'.IsTupleIter s.heap.objs.size a 0 → (∀ b o, s.heap.get? b = some o → h'.get? b = some o) → Q (.ref (s.heap.objs.size + 1)) { s with heap := h' }) :
    wpAny (model prog w) A (call (.type "enumerate") [.ref a]) Q E s := by
  have n1 : (s.heap.push { cls := .type "tuple_iterator", data := .fields #[.ref a, .int 0 0] }).objs.size = s.heap.objs.size + 1 := Heap.size_push ..
  have at_ := fun o (ho : o.isFreed = false) => Heap.get?_push_size (s.heap.push { cls := .type "tuple_iterator", data := .fields #[.ref a, .int 0 0] }) (o := o) ho
  rw [n1] at at_
  have up : ∀ {o1 o2 b o}, s.heap.get? b = some o → ((s.heap.push o1).push o2).get? b = some o := fun e => Heap.get?_push_of_some _ (Heap.get?_push_of_some _ e)
  exact callType_new F.called_enumerate (by decide) (F.typeCall_enumerate_1 _) (F.newCall_enumerate_1 _) (fun obj => F.args_object_init_2 obj _) F.entry_enumerate_new (made a xs)
    ⟨hx, ⟨_, at_ _ rfl, rfl⟩, h _ (at_ _ rfl) ⟨_, Heap.get?_push_of_some _ (Heap.get?_push_size _ rfl), rfl, rfl⟩ fun b o e => up e⟩
/-- enumerate(e), a tuple -/
theorem pi_tup {X : Cx} {e : Expr} {ta : TA} {p pos tpos : Pos} {elts : List Expr} {kk : Nat} (hg : Gl X "enumerate") (hm : X.mg "enumerate" = none) (ha : PA X [e] ta) (hs : starEach [e] X.env = [(false, eval e X.env)] := by rfl) :
    PI X (.Tuple elts kk tpos) (.Call (.Name "enumerate" p) [e] [] pos) (fun σ H R => ta σ H fun vs H1 => ∃ a xs, vs = [.ref a] ∧ SqT X.K H1 a xs ∧ R (ItE X.K a) H1) := by
  constructor
  intro pins s σ H R I h
  refine Call_ (ld_blt I hg hm boot_enumerate (PyProof.Rows.callWith_type1 (thn (ha.run pos pins s σ H _ I h) ?_) hs rfl))
  rintro _ s1 ⟨_, H1, I1, r1, a, xs, rfl, hx, q⟩
  cases r1 with | cons r rr => ?_
  cases rr
  cases r
  obtain ⟨us, r, p, _⟩ := I1.tuple hx
  obtain ⟨o, ea, _⟩ := id p
  have lt : a < s1.heap.objs.size := Heap.lt_size ea
  refine called (show s1.heap.IsTuple a us.toArray from p) fun h' he hi hk => wpAny_pyIter_enum he ⟨s1.heap.objs.size + 1, [s1.heap.objs.size + 1, s1.heap.objs.size], Stands _ _ a, _, H1, rfl, I1.kept (t' := s1.toks) hk, turn _ _ a, ⟨⟨⟨_, he⟩, hi⟩, Nat.succ_ne_self _, Nat.ne_of_lt lt, Nat.ne_of_lt (Nat.lt_succ_of_lt lt)⟩, fun b m => ?_, q⟩
  have hb : s1.heap.objs.size ≤ b := by
    simp only [List.mem_cons, List.not_mem_nil, or_false] at m
    rcases m with rfl | rfl
    · exact Nat.le_succ _
    · exact Nat.le_refl _
  exact I1.fpOk hb (I1.hok.fresh hb)
end EN
namespace DL
open PySem L2 PySem.Spec
open PyProof.Rows hiding St
set_option autoImplicit false
section
variable {X : Cx} {a : Expr} {pos : Pos} {f : RA}
/-- for i, x in enumerate(t), a tuple -/
theorem ei_enumT {p tpos : Pos} {elts : List Expr} {kk : Nat} (hm : X.mg "enumerate" = none) (ha : AD X [a] f) (hg : Gl X "enumerate" := by rfl) (hs : starEach [a] X.env = [(false, eval a X.env)] := by rfl) :
    EI X (.Tuple elts kk tpos) (.Call (.Name "enumerate" p) [a] [] pos) (fun ρ M P => f ρ M fun ds M => ∃ xs, ds = [.tup xs] ∧ P (enumD 0 xs) M) := by
  obtain ⟨ta, pa, sa⟩ := ha.ex
  refine ⟨_, EN.pi_tup hg hm pa hs, fun B H ρ σ S P R st hf k => sa B H ρ σ S _ _ st hf fun ds vs B' H' g r p => ?_⟩
  obtain ⟨xs, rfl, p⟩ := p
  obtain ⟨v, rfl, q⟩ := r.one
  cases q with
  | @tup a1 vs1 _ h1 l1 r1 =>
    refine ⟨a1, vs1, rfl, Evl.ex_t g.base.bh h1, k _ _ B' H' g ⟨fun B H i d e bs hd => ?_, fun B H i e bs hi => ?_⟩ (by rw [enumD_len]; exact l1) p⟩
    · obtain ⟨x, hx, rfl⟩ := enumD_get hd
      obtain ⟨vx, ex, rx⟩ := r1.getD hx
      have q1 := Evl.ex_t (K := X.K) bs.bh (Evl.ex_t e h1)
      refine ⟨⟨_, q1, (List.getElem?_eq_some_iff.mp ex).1⟩, ?_⟩
      rintro _ _ ⟨T, u1, rfl, hT, rfl, z1⟩
      have := z1 _ q1
      rw [ex] at this
      cases this
      rw [Nat.zero_add]
      exact pair_new bs (.int _) (rx.up e) hT
    · refine ⟨_, Evl.ex_t bs.bh (Evl.ex_t e h1), ?_⟩
      rw [enumD_len] at hi
      rw [← r1.length]
      exact hi
end
end DL

/-! DLN: dicts whose keys are tuples, of any depth: d[k], k in d, d[k] = v, {}. -/
namespace DL
open PySem L2 PySem.Spec
open PyProof.Rows hiding St
open PySem.PyData (strOk)
set_option autoImplicit false
/-! ### by keys -/
/-- what stands at a key -/
def getQ {α : Type} : List D → List α → D → Option α
  | a :: ks, x :: l, k => if a.key = k.key then some x else getQ ks l k
  | _, _, _ => none
def hasQ (ks : List D) (k : D) : Bool := ks.any fun a => decide (a.key = k.key)
def putQ {α : Type} : List D → List α → D → α → List α
  | a :: ks, x :: l, k, y => (if a.key = k.key then y else x) :: putQ ks l k y
  | _, _, _, _ => []
/-- the keys behind a store, the values -/
def ksN (ks : List D) (k : D) : List D := if hasQ ks k = true then ks else ks ++ [k]
def vsN {α : Type} (ks : List D) (l : List α) (k : D) (y : α) : List α := if hasQ ks k = true then putQ ks l k y else l ++ [y]
structure KeyOk (k : D) : Prop where
  tup : ∃ l, k = .tup l
  hk : k.hk = true
  dep : k.key.depth ≤ 8
theorem hasN_iff {ks : List D} {k : D} : hasQ ks k = true ↔ k.key ∈ ks.map D.key := by
  unfold hasQ
  rw [List.any_eq_true]
  constructor
  · rintro ⟨a, h1, h2⟩
    exact List.mem_map.mpr ⟨a, h1, of_decide_eq_true h2⟩
  · intro h
    obtain ⟨a, h1, h2⟩ := List.mem_map.mp h
    exact ⟨a, h1, decide_eq_true h2⟩
theorem putN_len {α : Type} : ∀ {ks : List D} {l : List α} {k : D} {y : α}, ks.length = l.length → (putQ ks l k y).length = l.length
  | [], [], _, _, _ => rfl
  | a :: ks, x :: l, k, y, h => by rw [putQ, List.length_cons, putN_len (by simpa using h), List.length_cons]
theorem ksN_ok {ks : List D} {k : D} (h : KeysOk ks) (hk : KeyOk k) : KeysOk (ksN ks k) := by
  unfold ksN
  split
  · exact h
  · next n =>
    refine ⟨fun a ha => ?_, ?_⟩
    · rcases List.mem_append.mp ha with ha | ha
      · exact h.tup a ha
      · rw [List.mem_singleton] at ha
        subst ha
        exact ⟨hk.tup, hk.hk, hk.dep⟩
    · rw [List.map_append, List.map_singleton]
      refine List.nodup_append.mpr ⟨h.nd, by simp, fun a ha b hb e => n (hasN_iff.mpr ?_)⟩
      rw [List.mem_singleton] at hb
      rw [← hb, ← e]
      exact ha
theorem vsN_len {α : Type} {ks : List D} {l : List α} {k : D} {y : α} (h : ks.length = l.length) : (ksN ks k).length = (vsN ks l k y).length ∧ (vsN ks l k y).length ≤ l.length + 1 := by
  unfold ksN vsN
  split
  · rw [putN_len h]
    exact ⟨h, Nat.le_succ _⟩
  · simp [h]
/-! ### tracked -/
structure DnH (K : PySem.W.Frag) (w : World) (H : Hp) (a : Addr) (ks : List D) (as : List Addr) (vs : List V) : Prop where
  at_ : ∃ ep, H a = some (dnO w a (ks.map D.key) as vs ep)
  ok : KeysOk ks
  len : ks.length = vs.length
  fit : vs.length ≤ sizeLine
  keys : Reps K H ks (as.map V.ref)
section
variable {X : Cx} {pins : List (Addr × Obj)} {σ : L2.St} {H : Hp} {s : Shared}
theorem ents_is (I : L2.Inv X pins σ H s) : ∀ {ks : List D} {as : List Addr} {us : List Value}, KeysOk ks → Reps X.K H ks (as.map V.ref) → ∀ x ∈ entsN (ks.map D.key) as us, NestedIs s.heap x.1 (.ref x.2.1) ∧ x.1.depth ≤ 8
  | [], _, _, _, _, x, hx => by simp [entsN] at hx
  | k :: ks, [], _, _, h, _, _ => by cases h
  | k :: ks, a :: as, [], _, _, x, hx => by simp [entsN] at hx
  | k :: ks, a :: as, u :: us, ok, h, x, hx => by
    cases h with
    | cons r t =>
      rcases List.mem_cons.mp (show x ∈ (k.key, a, u) :: entsN (ks.map D.key) as us from hx) with rfl | hx
      · obtain ⟨_, h1, h2⟩ := ok.tup k List.mem_cons_self
        exact ⟨(Rep.nis I k _ (.ref a) h1 r rfl).1, h2⟩
      · exact ents_is I ⟨fun a ha => ok.tup a (List.mem_cons_of_mem _ ha), (List.nodup_cons.mp ok.nd).2⟩ t x hx
theorem ents_fst {nks : List NestedKey} {as : List Addr} {us : List Value} (h1 : as.length = nks.length) (h2 : us.length = nks.length) : (entsN nks as us).map (·.1) = nks := by
  unfold entsN
  rw [List.map_fst_zip]
  rw [List.length_zip]
  omega
theorem DnH.of (I : L2.Inv X pins σ H s) {a : Addr} {ks : List D} {as : List Addr} {vs : List V} (h : DnH X.K X.w H a ks as vs) :
    (a == sysModules) = false ∧ ∃ us, Vals vs us ∧ as.length = ks.length ∧ us.length = ks.length ∧ s.heap.DictOfH (nestedKind X.prog X.w) a (entsN (ks.map D.key) as us) := by
  obtain ⟨ep, hat⟩ := h.at_
  obtain ⟨⟨hs, us, hv, o, es, e, c, d, en⟩, _⟩ := I.hok a _ hat
  have l1 : as.length = ks.length := by have := h.keys.length; rw [List.length_map] at this; exact this.symm
  have l2 : us.length = ks.length := by rw [h.len]; exact hv.length.symm
  refine ⟨hs, us, hv, l1, l2, o, es, ep, e, c, d, en, ents_is I h.ok h.keys, ?_⟩
  rw [ents_fst (by rw [List.length_map]; exact l1) (by rw [List.length_map]; exact l2)]
  exact h.ok.nd
theorem at_getN {k : D} {v : V} : ∀ {ks : List D} {as : List Addr} {vs : List V} {us : List Value}, as.length = ks.length → Vals vs us → getQ ks vs k = some v → ∃ p, atKey (entsN (ks.map D.key) as us) k.key = some p ∧ RelV v p.2
  | [], _, _, _, _, _, h => by simp [getQ] at h
  | a :: ks, _, [], _, _, _, h => by simp [getQ] at h
  | a :: ks, [], _, _, h, _, _ => by simp at h
  | a :: ks, b :: as, x :: vs, _, hl, .cons (b := u) (l₂ := us) r t, h => by
    rw [getQ] at h
    by_cases e : a.key = k.key
    · rw [if_pos e] at h
      cases h
      exact ⟨(b, u), by simp [entsN, atKey, e], r⟩
    · rw [if_neg e] at h
      obtain ⟨p, h1, h2⟩ := at_getN (as := as) (by simpa using hl) t h
      refine ⟨p, ?_, h2⟩
      rw [← h1]
      simp [entsN, atKey, e]
theorem at_hasN {k : D} : ∀ {ks : List D} {as : List Addr} {us : List Value}, as.length = ks.length → us.length = ks.length → (atKey (entsN (ks.map D.key) as us) k.key).isSome = hasQ ks k
  | [], _, _, _, _ => by simp [entsN, atKey, hasQ]
  | a :: ks, [], _, h, _ => by simp at h
  | a :: ks, b :: as, [], _, h => by simp at h
  | a :: ks, b :: as, u :: us, h1, h2 => by
    have ih := at_hasN (k := k) (ks := ks) (as := as) (us := us) (by simpa using h1) (by simpa using h2)
    unfold hasQ at ih ⊢
    rw [List.any_cons, ← ih]
    by_cases e : a.key = k.key
    · simp [entsN, atKey, e]
    · simp [entsN, atKey, e]
theorem ents_put {k : D} {u : Value} : ∀ {ks : List D} {as : List Addr} {us : List Value}, as.length = ks.length → us.length = ks.length → (entsN (ks.map D.key) as us).map (putAt k.key u) = entsN (ks.map D.key) as (putQ ks us k u)
  | [], _, _, _, _ => by simp [entsN]
  | a :: ks, [], _, h, _ => by simp at h
  | a :: ks, b :: as, [], _, h => by simp at h
  | a :: ks, b :: as, x :: us, h1, h2 => by
    have ih := ents_put (k := k) (u := u) (ks := ks) (as := as) (us := us) (by simpa using h1) (by simpa using h2)
    simp only [entsN, List.map_cons, List.zip_cons_cons, putQ] at ih ⊢
    rw [ih]
    congr 1
    unfold putAt
    by_cases e : a.key = k.key
    · simp [e]
    · simp [e]
theorem ents_snoc {nks : List NestedKey} {as : List Addr} {us : List Value} {k : NestedKey} {b : Addr} {u : Value} (h1 : as.length = nks.length) (h2 : us.length = nks.length) : entsN nks as us ++ [(k, b, u)] = entsN (nks ++ [k]) (as ++ [b]) (us ++ [u]) := by
  unfold entsN
  rw [List.zip_append (by omega), List.zip_append (by rw [List.length_zip]; omega)]
  rfl
theorem vals_put {k : D} {v : V} {u : Value} (r : RelV v u) : ∀ {ks : List D} {vs : List V} {us : List Value}, Vals vs us → ks.length = vs.length → Vals (putQ ks vs k v) (putQ ks us k u)
  | [], _, _, .nil, _ => .nil
  | [], _, _, .cons _ _, h => by simp at h
  | a :: ks, _, _, .nil, h => by simp at h
  | a :: ks, _, _, .cons q t, h => by
    rw [putQ, putQ]
    refine .cons ?_ (vals_put r t (by simpa using h))
    by_cases e : a.key = k.key
    · rw [if_pos e, if_pos e]; exact r
    · rw [if_neg e, if_neg e]; exact q
/-- a key as the machine has it -/
theorem KeyOk.is (I : L2.Inv X pins σ H s) {k : D} {b : Addr} (h : KeyOk k) (r : Rep X.K H k (.ref b)) : (nestedKind X.prog X.w).is s.heap k.key b := ⟨(Rep.nis I k _ (.ref b) h.hk r rfl).1, h.dep⟩
/-- d[k] -/
theorem ix_dn (hu : X.A.units + 200 < cLine) : IxR X (fun x y H Q => ∃ a b ks as vs k v, x = .ref a ∧ y = .ref b ∧ DnH X.K X.w H a ks as vs ∧ KeyOk k ∧ Rep X.K H k (.ref b) ∧ getQ ks vs k = some v ∧ Q v H) := by
  rintro value slice pins s σ H x y v u Q I rx ry ⟨a, b, ks, as, vs, k, w, rfl, rfl, hd, hk, rk, hg, q⟩ hs
  cases rx
  cases ry
  obtain ⟨_, us, hv, l1, l2, hm⟩ := hd.of I
  obtain ⟨p, hp, rp⟩ := at_getN l1 hv hg
  exact tail_any hm.typeIs slot_dict_getitem.lookup (wpAny_getItem_heap (by show X.A.units + 1 + 8 < cLine; omega) (hk.is I rk) hm hp ⟨w, H, I.tok _, rp, q⟩) hs
/-- k in d -/
theorem op_inN (hu : X.A.units + 200 < cLine) : OpR X (compareOp .In) (fun y x H Q => ∃ a b ks as vs k, x = .ref a ∧ y = .ref b ∧ DnH X.K X.w H a ks as vs ∧ KeyOk k ∧ Rep X.K H k (.ref b) ∧ Q (.bl (hasQ ks k)) H) := by
  rintro pins s σ H y x u v Q I ry rx ⟨a, b, ks, as, vs, k, rfl, rfl, hd, hk, rk, q⟩
  cases rx
  cases ry
  obtain ⟨hs, us, hv, l1, l2, hm⟩ := hd.of I
  refine wpAny_in_heap (by show X.A.units + 1 + 8 < cLine; omega) (hk.is I rk) hs hm ?_
  rw [at_hasN l1 l2]
  exact ⟨.bl (hasQ ks k), H, I.tok _, rfl, q⟩
theorem op_notInN (hu : X.A.units + 200 < cLine) : OpR X (compareOp .NotIn) (fun y x H Q => ∃ a b ks as vs k, x = .ref a ∧ y = .ref b ∧ DnH X.K X.w H a ks as vs ∧ KeyOk k ∧ Rep X.K H k (.ref b) ∧ Q (.bl (!hasQ ks k)) H) := by
  rintro pins s σ H y x u v Q I ry rx ⟨a, b, ks, as, vs, k, rfl, rfl, hd, hk, rk, q⟩
  cases rx
  cases ry
  obtain ⟨hs, us, hv, l1, l2, hm⟩ := hd.of I
  refine notIn_keyed (by show X.A.units + 1 + 8 < cLine; omega) (hk.is I rk) hs ⟨_, hm, rfl⟩ ?_
  rw [valueAt_pairsH, Option.isSome_map, at_hasN l1 l2]
  exact ⟨.bl (!hasQ ks k), H, I.tok _, rfl, q⟩
/-- d[k] = v -/
theorem set_dn (hu : X.A.units + 200 < cLine) : PSet X (fun x y v H Q => ∃ a b ks as vs k, x = .ref a ∧ y = .ref b ∧ DnH X.K X.w H a ks as vs ∧ KeyOk k ∧ Rep X.K H k (.ref b) ∧ ∀ ep', Q (upd H a (dnO X.w a ((ksN ks k).map D.key) (if hasQ ks k = true then as else as ++ [b]) (vsN ks vs k v) ep'))) := by
  rintro pins s σ H x y v xv yv u Q I rx ry rv ⟨a, b, ks, as, vs, k, rfl, rfl, hd, hk, rk, q⟩
  cases rx
  cases ry
  obtain ⟨hs, us, hv, l1, l2, hm⟩ := hd.of I
  refine wpAny_setItem_heap (by show X.A.units + 1 + 8 < cLine; omega) (hk.is I rk) hm ?_ (by unfold entsN; simp only [List.length_zip, List.length_map]; have := hd.fit; have := hd.len; omega)
  rintro h' ⟨o, es, ep, e, c, d, en, _, _⟩ sb
  have new : (storedH (entsN (ks.map D.key) as us) k.key b u) = entsN ((ksN ks k).map D.key) (if hasQ ks k = true then as else as ++ [b]) (vsN ks us k u) := by
    unfold storedH ksN vsN
    rw [at_hasN l1 l2]
    split
    · exact ents_put l1 l2
    · rw [List.map_append, List.map_singleton]
      exact ents_snoc (by rw [List.length_map]; exact l1) (by rw [List.length_map]; exact l2)
  have vals : Vals (vsN ks vs k v) (vsN ks us k u) := by
    unfold vsN
    split
    · exact vals_put rv hv hd.len
    · exact hv.append (.cons rv .nil)
  rw [new] at en
  have he : ∃ u, h'.get? a = some u := ⟨o, e⟩
  have fresh : ObjOk X.prog X.w (upd H a (dnO X.w a ((ksN ks k).map D.key) (if hasQ ks k = true then as else as ++ [b]) (vsN ks vs k v) ep)) h' a (dnO X.w a ((ksN ks k).map D.key) (if hasQ ks k = true then as else as ++ [b]) (vsN ks vs k v) ep) :=
    ⟨⟨hs, _, vals, o, es, e, c, d, en⟩, he, fun h1 h2 ⟨z, us', hv', o', es', e', c', d', en'⟩ keep => ⟨z, us', hv', o', es', keep o' e', c', d', en'⟩⟩
  obtain ⟨ep0, hat⟩ := hd.at_
  exact ⟨_, d_write (t' := s.toks + k.key.draws) I (by rw [hat]; exact True.intro) sb he fresh, q ep⟩
/-- {}, to be such a dict -/
theorem pe_dnewN {pos : Pos} : PE X (.Dict [] [] pos) (fun _ H Q => ∀ p, H p = none → Q (.ref p) (upd H p (dnO X.w p [] [] [] 0))) := by
  constructor
  intro pins s σ H Q I h
  have fresh : ObjOk X.prog X.w (upd H s.heap.objs.size (dnO X.w s.heap.objs.size [] [] [] 0)) (s.heap.push { cls := .type "dict", data := .dict #[] }) s.heap.objs.size (dnO X.w s.heap.objs.size [] [] [] 0) :=
    ⟨⟨beq_eq_false_iff_ne.mpr (Ne.symm (Nat.ne_of_lt I.big)), [], .nil, _, #[], Heap.get?_push_size _ rfl, ⟨rfl, rfl, rfl⟩, rfl, rfl⟩, ⟨_, Heap.get?_push_size _ rfl⟩, fun h1 h2 ⟨z, us', hv', o', es', e', c', d', en'⟩ keep => ⟨z, us', hv', o', es', keep o' e', c', d', en'⟩⟩
  exact wpAny_Dict_empty ⟨.ref s.heap.objs.size, _, I.laid (a := s.heap.objs.size) (t' := s.toks) (fun _ _ q => Heap.get?_push_of_some _ q) (Nat.le_refl _) fresh, rfl, h _ (I.hok.fresh (Nat.le_refl _))⟩
end
end DL

/-! DLP: dict(zip(names, things)) as a rule. -/
namespace DL
open PySem L2 PySem.Spec
open PyProof.Rows hiding St
set_option autoImplicit false
section
variable {X : Cx} {pins : List (Addr × Obj)} {σ : St} {a b : Expr} {p p2 pos pos2 : Pos}
/-- keys as the heap holds them, with what stands beside them -/
theorem zip_have : ∀ {ks : List Key} {ys : List V} {us ws : List Value}, Vals (ks.map kV) us → Vals ys ws → ∃ prs : List (Key × Value), KV (ks.zip ys) prs ∧ prs.length = min us.length ws.length ∧ ∀ (i : Nat) (k v : Value), us[i]? = some k → ws[i]? = some v → ∃ q : Key, prs[i]? = some (q, v) ∧ keyIs q k = true
  | [], ys, us, ws, r, _ => by
    cases us with
    | nil => exact ⟨[], by rw [List.zip_nil_left]; exact .nil, by simp, fun i k v e => by simp at e⟩
    | cons _ _ => cases r
  | q :: ks, [], us, ws, _, r => by
    cases ws with
    | nil => exact ⟨[], by rw [List.zip_nil_right]; exact .nil, by simp, fun i k v _ e => by simp at e⟩
    | cons _ _ => cases r
  | q :: ks, y :: ys, us, ws, r, r2 => by
    cases us with
    | nil => cases r
    | cons u us => ?_
    cases ws with
    | nil => cases r2
    | cons x ws => ?_
    cases r with | cons h t => ?_
    cases r2 with | cons h2 t2 => ?_
    obtain ⟨prs, g1, g2, g3⟩ := zip_have t t2
    refine ⟨(q, x) :: prs, .cons ⟨rfl, h2⟩ g1, by simp [g2], fun i k v e1 e2 => ?_⟩
    cases i with
    | zero =>
      simp only [List.getElem?_cons_zero, Option.some.injEq] at e1 e2
      subst e1 e2
      refine ⟨q, rfl, ?_⟩
      cases q with
      | inl i => obtain ⟨t, rfl⟩ := h; exact keyIs_int i _
      | inr s => obtain ⟨t, rfl⟩ := h; exact keyIs_str s _
    | succ i => exact g3 i k v (by simpa using e1) (by simpa using e2)
def tDctZip (K : PySem.W.Frag) (ta : TA) : TE := fun σ H Q => ta σ H fun vs H1 => ∃ (l1 l2 : Addr) (ks : List Key) (ys : List V), vs = [.ref l1, .ref l2] ∧ SqL K H1 l1 (ks.map kV) ∧ SqL K H1 l2 ys ∧ ∀ q, H1 q = none → Q (.ref q) (upd H1 q (.dK (mergeK [] (ks.zip ys))))
theorem pe_dctZip {ta : TA} (hc : X.calm = true) (hm : X.mg "dict" = none) (hm2 : X.mg "zip" = none) (ha : PA X [a, b] ta) (hg : Gl X "dict" := by rfl) (hg2 : Gl X "zip" := by rfl)
    (hs : starEach [a, b] X.env = (false, eval a X.env) :: starEach [b] X.env := by rfl) (hpl : (backTo pos2 (starEach [b] X.env)).any (·.1) = false := by rfl)
    (na : starEach [.Call (.Name "zip" p2) [a, b] [] pos2] X.env = (false, eval (.Call (.Name "zip" p2) [a, b] [] pos2) X.env) :: starEach [] X.env := by rfl) :
    PE X (.Call (.Name "dict" p) [.Call (.Name "zip" p2) [a, b] [] pos2] [] pos) (tDctZip X.K ta) := by
  refine ⟨fun pins s σ H Q I h => ?_⟩
  refine Call_ (ld_blt I hg hm (u := .type "dict") (by decide +kernel) (PyProof.Rows.callWith_type1 (args_cons (thn (Q := fun v s1 => ∃ (s0 : Shared) (l1 l2 : Addr) (ks : List Key) (ys : List V) (us ws : List Value) (H1 : Hp), v = .ref (s0.heap.objs.size + 4) ∧ Inv X pins σ H1 s0 ∧ Vals (ks.map kV) us ∧ Vals ys ws ∧ us.length ≤ sizeLine ∧ l1 < s0.heap.objs.size ∧ l2 < s0.heap.objs.size ∧ s1 = { s0 with heap := s1.heap } ∧
      (∀ c o, s0.heap.get? c = some o → s1.heap.get? c = some o) ∧ s0.heap.objs.size ≤ s1.heap.objs.size ∧ (IsZip s1.heap (s0.heap.objs.size + 4) (s0.heap.objs.size + 2) (s0.heap.objs.size + 3) .none ∧ IsPair s1.heap (s0.heap.objs.size + 2) (.ref s0.heap.objs.size) (.ref (s0.heap.objs.size + 1)) ∧ (∃ a b, IsPair s1.heap (s0.heap.objs.size + 3) a b) ∧
        s1.heap.IsListIter s0.heap.objs.size l1 0 ∧ s1.heap.IsListIter (s0.heap.objs.size + 1) l2 0 ∧ s1.heap.IsList l1 us.toArray ∧ s1.heap.IsList l2 ws.toArray) ∧
      ∀ q, H1 q = none → Q (.ref q) (upd H1 q (.dK (mergeK [] (ks.zip ys))))) ?_ fun v s1 ⟨s0, l1, l2, ks, ys, us, ws, H1, ev, I0, rv, rv2, hz, b1, b2, es, k0, hsz, ok, q⟩ => args_nil ?_) na) na))
  · refine Call_ (ld_blt I hg2 hm2 PyProof.Rows.boot_zip (PyProof.Rows.callWith_type1 (thn (ha.run pos2 pins s σ H _ I h) fun us s1 ⟨vs, H1, I1, r1, q1⟩ => ?_) hs hpl))
    obtain ⟨l1, l2, ks, ys, ex, hqx, hqy, q⟩ := q1
    subst ex
    obtain ⟨u1, u2, eu, ra, rb⟩ := vals2 r1
    subst eu
    cases ra
    cases rb
    obtain ⟨its, rv, p1, hz1⟩ := I1.list hqx
    obtain ⟨its2, rv2, p2, _⟩ := I1.list hqy
    refine call_zip_2 p1.isList p2.isList fun h' hz hTI hTO h1 h2 hsz hk => ?_
    exact ⟨s1, l1, l2, ks, ys, its, its2, H1, rfl, I1, rv, rv2, by rw [← rv.length]; exact hz1, p1.lt, p2.lt, rfl, hk, by rw [hsz]; omega, ⟨hz, hTI, ⟨_, _, hTO⟩, h1, h2, p1.isList.at fun o e => hk _ o e, p2.isList.at fun o e => hk _ o e⟩, q⟩
  · subst ev
    have hd : X.A.handled = none := I0.ok.hd hc
    obtain ⟨prs, g1, g2, g3⟩ := zip_have rv rv2
    have D : ZipApart (s0.heap.objs.size + 4) (s0.heap.objs.size + 2) (s0.heap.objs.size + 3) s0.heap.objs.size (s0.heap.objs.size + 1) l1 l2 := PySem.W.ktu_apart _ _ _ b1 b2
    refine PySem.call_dict_pairs (knd := mixKind X.prog X.w) (kvs := prs) (PairArg.zip _ _ _ _ _ l1 l2 D us.toArray ws.toArray) hd ok ⟨by simpa using g2, fun i k v hr => ?_⟩ (by simp only [List.size_toArray]; omega) fun h' tk hdo hk => ?_
    · obtain ⟨q, e1, e2⟩ := g3 i k v (by simpa using hr.1) (by simpa using hr.2)
      exact ⟨q, e1, e2⟩
    · have hN : s0.heap.objs.size ≤ s1.heap.objs.size := hsz
      have hm : (s1.heap.objs.size == sysModules) = false := beq_eq_false_iff_ne.mpr (Nat.ne_of_gt (Nat.lt_of_lt_of_le I0.big hN))
      have hlen : (mergeK [] (ks.zip ys)).length ≤ sizeLine := by
        refine Nat.le_trans (length_mergeK (ks.zip ys) []) ?_
        rw [List.length_nil, Nat.zero_add, g1.length, g2]
        omega
      have kept : ∀ c o, s0.heap.get? c = some o → h'.get? c = some o := fun c o e => hk c o (fun hw => by
        have := Heap.lt_size e
        simp only [List.mem_cons, List.not_mem_nil, or_false] at hw
        rcases hw with rfl | rfl | rfl | rfl <;> exact absurd this (Nat.not_lt.mpr (by first | exact Nat.le_refl _ | exact Nat.le_add_right _ _))) (k0 c o e)
      have I2 := I0.laid (a := s1.heap.objs.size) (o := .dK (mergeK [] (ks.zip ys))) (t' := tk) kept hN (show ObjOk X.prog X.w _ _ _ (.dK (mergeK [] (ks.zip ys))) from ⟨hlen, hm, merged [] prs, KV.merge g1 .nil, hdo⟩)
      refine ⟨.ref s1.heap.objs.size, upd H1 s1.heap.objs.size (.dK (mergeK [] (ks.zip ys))), ?_, rfl, q _ (I0.hok.fresh hN)⟩
      rw [es]
      exact I2
/-- the places of names, and what stands beside them, told as data -/
def hDZ (ds : List D) (M : Mem) (P : OT → Mem → Prop) : Prop := ∃ (ks : List Key) (ys : List D), ds = [.lst (ks.map keyD), .lst ys] ∧ ks.Nodup ∧ ks.length ≤ ys.length ∧ P (.od ks ((ys.take ks.length).map .fz)) M
theorem zip_cut {α β : Type} : ∀ {l : List α} {m : List β}, l.zip m = l.zip (m.take l.length)
  | [], _ => rfl
  | a :: l, [] => rfl
  | a :: l, b :: m => by rw [List.zip_cons_cons, List.length_cons, List.take_succ_cons, List.zip_cons_cons, ← zip_cut]
theorem keys_rep {K : PySem.W.Frag} {B : Hp} : ∀ {ks : List Key} {vs : List V}, Reps K B (ks.map keyD) vs → vs = ks.map kV
  | [], _, .nil => rfl
  | q :: ks, _, .cons h t => by rw [List.map_cons, ← keys_rep t, keyOf_rep (keyOf_keyD q) h]
theorem eo_dctZip {f : RA} (hc : X.calm = true) (hm : X.mg "dict" = none) (hm2 : X.mg "zip" = none) (ha : AD X [a, b] f) (hg : Gl X "dict" := by rfl) (hg2 : Gl X "zip" := by rfl)
    (hs : starEach [a, b] X.env = (false, eval a X.env) :: starEach [b] X.env := by rfl) (hpl : (backTo pos2 (starEach [b] X.env)).any (·.1) = false := by rfl)
    (na : starEach [.Call (.Name "zip" p2) [a, b] [] pos2] X.env = (false, eval (.Call (.Name "zip" p2) [a, b] [] pos2) X.env) :: starEach [] X.env := by rfl) :
    EO X (.Call (.Name "dict" p) [.Call (.Name "zip" p2) [a, b] [] pos2] [] pos) (fun ρ M P => f ρ M fun ds M => hDZ ds M P) := by
  obtain ⟨ta, pa, sa⟩ := ha.ex
  refine ⟨_, pe_dctZip hc hm hm2 pa hg hg2 hs hpl na, fun B H ρ σ S P Q st hf k => sa B H ρ σ S _ _ st hf fun ds vs B1 H1 g r p => ?_⟩
  obtain ⟨ks, ys, rfl, nd, hl, p⟩ := p
  obtain ⟨v, u, rfl, r1, r2⟩ := r.two
  cases r1 with
  | @lst a1 vs1 _ h1 l1 r1 => ?_
  cases r2 with
  | @lst a2 vs2 _ h2 l2 r2 => ?_
  have e1 := keys_rep r1
  subst e1
  refine ⟨a1, a2, ks, vs2, rfl, Evl.sq_of (g.base.bh _ _ h1), Evl.sq_of (g.base.bh _ _ h2), fun q hq => ?_⟩
  have r3 := r2.take ks.length
  have hv : ks.length = (vs2.take ks.length).length := by rw [← r3.length, List.length_take]; omega
  have hz : ((ks.zip (vs2.take ks.length)).map (·.1)) = ks := by rw [List.map_fst_zip]; omega
  rw [zip_cut]
  generalize vs2.take ks.length = vs3 at r3 hv hz ⊢
  have e2 : mergeK [] (ks.zip vs3) = ks.zip vs3 := by rw [merge_new _ [] (by rw [List.nil_append, hz]; exact nd), List.nil_append]
  rw [e2]
  obtain ⟨g2, hb, hn⟩ := g.base.newO (o := .dK (ks.zip vs3)) hq
  refine k (.od ks ((ys.take ks.length).map .fz)) (.ref q) B1 _ [q] (g.trans g2) (.od (T := []) upd_same (by simp; omega) (by rw [List.length_map] at l1; rw [List.length_map, List.length_take]; omega) (RepOs.fzs r3)) ⟨by simp, fun z hz => ?_, fun z hz => ?_, fun z hz => ?_⟩ p
  all_goals (rw [List.mem_singleton] at hz; subst hz; first | assumption | exact g.free hq)
end
end DL

/-! DLN2: such dicts, at the level of the heap: a display of one pair, d.update of it. -/
namespace DL
open PySem L2 PySem.Spec
open PyProof.Rows hiding St
set_option autoImplicit false
section
variable {X : Cx} {pins : List (Addr × Obj)} {σ : L2.St} {H : Hp} {s : Shared}
theorem DnH.none {a : Addr} {ep : Nat} (e : H a = some (dnO X.w a [] [] [] ep)) : DnH X.K X.w H a [] [] [] := ⟨⟨ep, e⟩, ⟨fun _ h => (nomatch h), .nil⟩, rfl, Nat.zero_le _, .nil⟩
/-- what it holds behind a store -/
theorem DnH.store {a : Addr} {ks : List D} {as : List Addr} {vs : List V} {us : List Value} {k : D} {b : Addr} {v : V} {u : Value} {h' : Heap} (hs : (a == sysModules) = false) (hv : Vals vs us) (l1 : as.length = ks.length) (l2 : us.length = ks.length) (hl : ks.length = vs.length) (rv : RelV v u)
    (dd : h'.DictOfH (nestedKind X.prog X.w) a (storedH (entsN (ks.map D.key) as us) k.key b u)) : (∃ o, h'.get? a = some o) ∧ ∃ ep, ∀ H' : Hp, ObjOk X.prog X.w H' h' a (dnO X.w a ((ksN ks k).map D.key) (if hasQ ks k = true then as else as ++ [b]) (vsN ks vs k v) ep) := by
  obtain ⟨o, es, ep, e, c, d, en, _, _⟩ := dd
  have new : (storedH (entsN (ks.map D.key) as us) k.key b u) = entsN ((ksN ks k).map D.key) (if hasQ ks k = true then as else as ++ [b]) (vsN ks us k u) := by
    unfold storedH ksN vsN
    rw [at_hasN l1 l2]
    split
    · exact ents_put l1 l2
    · rw [List.map_append, List.map_singleton]
      exact ents_snoc (by rw [List.length_map]; exact l1) (by rw [List.length_map]; exact l2)
  have vals : Vals (vsN ks vs k v) (vsN ks us k u) := by
    unfold vsN
    split
    · exact vals_put rv hv hl
    · exact hv.append (.cons rv .nil)
  rw [new] at en
  exact ⟨⟨o, e⟩, ep, fun H' => ⟨⟨hs, _, vals, o, es, e, c, d, en⟩, ⟨o, e⟩, fun h1 h2 ⟨z, us', hv', o', es', e', c', d', en'⟩ keep => ⟨z, us', hv', o', es', keep o' e', c', d', en'⟩⟩⟩
/-- {k: v}: the new one stands empty while both are made -/
def tOneN (K : PySem.W.Frag) (w : World) (tk tv : TE) : TE := fun σ H Q => ∀ p, H p = none → tk σ (upd H p (dnO w p [] [] [] 0)) fun xk H1 => tv σ H1 fun xv H2 => H2 p = some (dnO w p [] [] [] 0) ∧ ∃ b k, xk = .ref b ∧ KeyOk k ∧ Rep K H2 k (.ref b) ∧ ∀ ep, Q (.ref p) (upd H2 p (dnO w p [k.key] [b] [xv] ep))
variable {ek ev o : Expr} {dp apos cpos : Pos} {to : TE} {t : TA} {name : Str} {e : Expr} {es : List Expr} {id : String} {r : V → List V → Hp → VK → Prop}
theorem pe_oneN {tk tv : TE} (hu : X.A.units + 200 < cLine) (hk : PE X ek tk) (hv : PE X ev tv) : PE X (.Dict [some ek] [ev] dp) (tOneN X.K X.w tk tv) := by
  refine ⟨fun pins s σ H Q I q => ?_⟩
  have fr := I.hok.fresh (Nat.le_refl s.heap.objs.size)
  have new : ObjOk X.prog X.w (upd H s.heap.objs.size (dnO X.w s.heap.objs.size [] [] [] 0)) (s.heap.push { cls := .type "dict", data := .dict #[] }) s.heap.objs.size (dnO X.w s.heap.objs.size [] [] [] 0) :=
    ⟨⟨beq_eq_false_iff_ne.mpr (Ne.symm (Nat.ne_of_lt I.big)), [], .nil, _, #[], Heap.get?_push_size _ rfl, ⟨rfl, rfl, rfl⟩, rfl, rfl⟩, ⟨_, Heap.get?_push_size _ rfl⟩, fun h1 h2 ⟨z, us', hv', o', es', e', c', d', en'⟩ keep => ⟨z, us', hv', o', es', keep o' e', c', d', en'⟩⟩
  have I1 := I.laid (a := s.heap.objs.size) (t' := s.toks) (fun _ _ q => Heap.get?_push_of_some _ q) (Nat.le_refl _) new
  rw [arm_eval_Dict, zip_pairTrees [some ek] [ev] X.env dp rfl rfl, dictDisplay_pairs (pairTrees [some ek] [ev] X.env dp) (by simp [pairTrees]) (by simp [pairTrees])]
  have run := (pps_cons hk hv (pps_nil (pos := dp))).run pins _ σ _ (fun ps H2 => match ps with
    | [(xk, xv)] => H2 s.heap.objs.size = some (dnO X.w s.heap.objs.size [] [] [] 0) ∧ ∃ b k, xk = .ref b ∧ KeyOk k ∧ Rep X.K H2 k (.ref b) ∧ ∀ ep, Q (.ref s.heap.objs.size) (upd H2 s.heap.objs.size (dnO X.w s.heap.objs.size [k.key] [b] [xv] ep))
    | _ => False) I1 (q _ fr)
  refine wpAny_bind (wpAny_standAt (wpAny_bind (wpAny_subDictH (knd := nestedKind X.prog X.w) (by show X.A.units + 8 < cLine; omega) (by show 1 ≤ 15; decide) (thn run fun ws s2 ⟨ps, H2, I2, rel, q2⟩ => ?_))))
  match ps, rel, q2 with
  | [(xk, xv)], rel, q2 =>
    obtain ⟨e, b, k, rfl, hk, rk, q2⟩ := q2
    cases rel with | @cons _ pr _ _ r t => ?_
    obtain ⟨w1, w2⟩ := pr
    cases t
    obtain ⟨r1, r2⟩ := r
    cases r1
    obtain ⟨hs, us, hv, _, _, dd⟩ := (DnH.none e).of I2
    cases hv
    refine ⟨[(k.key, b, w2)], ⟨rfl, rfl, hk.is I2 rk, trivial⟩, dd, fun h' tk dd' sb => ?_⟩
    obtain ⟨he, ep, ok⟩ := DnH.store (X := X) (ks := []) (as := []) (k := k) (b := b) hs .nil rfl rfl rfl r2 dd'
    exact wpAny_pure ⟨.ref s.heap.objs.size, _, d_write (t' := tk) I2 (by rw [e]; exact True.intro) sb he (ok _), rfl, q2 ep⟩
def rUpdN (K : PySem.W.Frag) (w : World) : V → List V → Hp → VK → Prop := fun x xs H Q => ∃ a u ks as vs k b v, x = .ref a ∧ xs = [.ref u] ∧ a ≠ u ∧ DnH K w H a ks as vs ∧ (∃ eu, H u = some (dnO w u [k.key] [b] [v] eu)) ∧ KeyOk k ∧ Rep K H k (.ref b) ∧ vs.length < sizeLine ∧
  ∀ ep, Q .non (upd H a (dnO w a ((ksN ks k).map D.key) (if hasQ ks k = true then as else as ++ [b]) (vsN ks vs k v) ep))
theorem mt_updN (hu : X.A.units + 200 < cLine) : MtR X "dict.update" (rUpdN X.K X.w) := by
  rintro pins s σ H x xs v us Q I rx rxs ⟨a, u, ks, as, vs, k, b, w, rfl, rfl, hne, hd, hub, hk, rk, hl, q⟩
  cases rx
  cases rxs with | cons r t => ?_
  cases t
  cases r
  obtain ⟨hs, xs, hv, l1, l2, dd⟩ := hd.of I
  have one : DnH X.K X.w H u [k] [b] [w] := ⟨hub, ⟨fun z hz => by rw [List.mem_singleton] at hz; subst hz; exact ⟨hk.tup, hk.hk, hk.dep⟩, by simp⟩, rfl, by show 1 ≤ sizeLine; decide, .cons rk .nil⟩
  obtain ⟨hs2, ys, hv2, _, _, dd2⟩ := one.of I
  cases hv2 with | cons rw_ t => ?_
  cases t
  have ty : s.TypeIs (.ref b) "tuple" := by
    obtain ⟨l, e⟩ := hk.tup
    subst e
    cases rk with | tup h1 h2 h3 => ?_
    obtain ⟨its, _, ht, _⟩ := I.tuple h1
    obtain ⟨o, ho, hc, _⟩ := ht
    exact ⟨o, ho, hc⟩
  refine call_update_dictH (knd := nestedKind X.prog X.w) (by show X.A.units + 1 + 8 < cLine; omega) hne hs2 dd dd2 (.inr ⟨fun x hx => ?_, by simp [entsN]⟩) ?_ fun h' dd' _ sb => ?_
  · simp only [entsN, List.map_cons, List.map_nil, List.zip_cons_cons, List.zip_nil_left, List.mem_singleton] at hx
    subst hx
    exact ty
  · unfold entsN
    simp only [List.length_zip, List.length_map, List.length_cons, List.length_nil]
    have := hd.len
    omega
  · obtain ⟨he, ep, ok⟩ := DnH.store (X := X) hs hv l1 l2 hd.len rw_ dd'
    obtain ⟨ea, hat⟩ := hd.at_
    exact ⟨.non, _, d_write (t' := s.toks) I (by rw [hat]; exact True.intro) sb he (ok _), rfl, q ep⟩
/-- d.m(e), d such a dict -/
theorem pe_bmN (pa : PlainAttrs "dict") (slot : Slot "dict" name id) (hty : typeOf (.builtin id) = pure (.type "method_descriptor")) (hm : MtR X id r) (ho : PE X o to) (ha : PA X (e :: es) t)
    (hbase : attributeBase o name X.env (eval o X.env) = eval o X.env := by rfl)
    (hfew : ((backTo cpos (starEach (e :: es) X.env)).all (fun x => !x.1) && (backToKw cpos (keywordEach [] X.env)).all (fun x => x.1.isSome)
      && decide ((e :: es).length + ([] : List Keyword).length + (if ([] : List Keyword).isEmpty then 0 else 1) < 30)) = true := by rfl)
    (hline : (apos.endLine == cpos.line) = true := by rfl) (hs : starEach (e :: es) X.env = (false, eval e X.env) :: starEach es X.env := by rfl) (hplain : (backTo cpos (starEach es X.env)).any (·.1) = false := by rfl) :
    PE X (.Call (.Attribute o name apos) (e :: es) [] cpos) (fun σ H Q => to σ H fun x H1 => (∃ a ks as vs, x = .ref a ∧ DnH X.K X.w H1 a ks as vs) ∧ t σ H1 fun xs H2 => r x xs H2 Q) := by
  constructor
  intro pins s σ H Q I h
  refine wpAny_Call_method_late hbase hfew hline rfl (thn (ho.run pins s σ H _ I h) fun v s1 ⟨x, H1, I1, r1, dn, q1⟩ => ?_)
  have look : s1.TypeIs v "dict" ∧ ∀ a, v = .ref a → ∃ ob, s1.heap.get? a = some ob ∧ ob.dict = none := by
    obtain ⟨a, ks, as, vs, rfl, hd⟩ := dn
    cases r1
    obtain ⟨_, _, _, _, _, dd⟩ := hd.of I1
    refine ⟨dd.typeIs, fun c hc => ?_⟩
    cases hc
    obtain ⟨ob, _, _, h0, h1, _⟩ := dd
    exact ⟨ob, h0, h1.2.1⟩
  refine ⟨"dict", id, pa, slot, hty, look.1, look.2, ?_⟩
  have hA := ha.run cpos pins s1 σ H1 _ I1 q1
  rw [hs] at hA ⊢
  refine Calls.callWith_builtin (by show (false || (backTo cpos (starEach es X.env)).any (·.1)) = false; rw [hplain]; rfl) (Calls.evalArgs_plain ?_)
  exact thn hA fun us s2 ⟨vs, H2, I2, r2, q2⟩ => hm pins s2 σ H2 x vs v us Q I2 r1 r2 q2
end
end DL

/-! DLN3: dicts whose keys are tuples, on data: d[k], {}, x[k].update({a: b}). -/
namespace DL
open PySem L2 PySem.Spec
open PyProof.Rows hiding St
set_option autoImplicit false
theorem putQ_rep {K : PySem.W.Frag} {B H : Hp} {d : D} {v : V} (r : Rep K B d v) (k : D) : ∀ {ks : List D} {l : List OT} {xs : List V} {T : List Addr}, ks.length = l.length → RepOs K B H l xs T → ∃ T', RepOs K B H (putQ ks l k (.fz d)) (putQ ks xs k v) T' ∧ T'.Sublist T
  | [], [], _, _, _, .nil => ⟨[], .nil, .slnil⟩
  | a :: ks, t :: l, _, _, hl, .cons (v := u) (vs := us) (T := Ta) (T' := Tb) h q => by
    obtain ⟨T', h1, h2⟩ := putQ_rep r k (ks := ks) (by simpa using hl) q
    rw [putQ, putQ]
    split
    · exact ⟨[] ++ T', .cons (.fz r) h1, h2.trans (List.sublist_append_right _ _)⟩
    · exact ⟨Ta ++ T', .cons h h1, List.Sublist.append_left h2 Ta⟩
theorem on_put {K : PySem.W.Frag} {B H : Hp} {d : D} {v : V} (r : Rep K B d v) (k : D) {ks : List D} {l : List OT} {xs : List V} {T : List Addr} (hl : ks.length = l.length) (h : RepOs K B H l xs T) : ∃ T', RepOs K B H (vsN ks l k (.fz d)) (vsN ks xs k v) T' ∧ T'.Sublist T := by
  unfold vsN
  split
  · exact putQ_rep r k hl h
  · have ap := RepOs.append h (RepOs.cons (RepO.fz (H := H) r) .nil)
    rw [List.append_nil, List.append_nil] at ap
    exact ⟨T, ap, List.Sublist.refl _⟩
theorem ks_put {K : PySem.W.Frag} {B : Hp} {k : D} {b : Addr} {ks : List D} {as : List Addr} (r : Rep K B k (.ref b)) (h : Reps K B ks (as.map V.ref)) : Reps K B (ksN ks k) ((if hasQ ks k = true then as else as ++ [b]).map V.ref) := by
  unfold ksN
  split
  · exact h
  · rw [List.map_append]
    exact h.append (.cons r .nil)
theorem getQ_rep {K : PySem.W.Frag} {B : Hp} {k d : D} : ∀ {ks ds : List D} {vs : List V}, Reps K B ds vs → getQ ks ds k = some d → ∃ v, getQ ks vs k = some v ∧ Rep K B d v
  | [], _, _, _, h => by simp [getQ] at h
  | a :: ks, [], _, _, h => by simp [getQ] at h
  | a :: ks, e :: ds, _, .cons r t, h => by
    rw [getQ] at h ⊢
    split at h
    · rename_i q
      rw [if_pos q]
      cases h
      exact ⟨_, rfl, r⟩
    · rename_i q
      rw [if_neg q]
      exact getQ_rep t h
section
variable {X : Cx} {e ei ek ev a b c : Expr} {es : List Expr} {pos cpos apos p dp : Pos} {fo : RO} {fa fb fc fk : RD} {f : RA} {x y : Str}
/-- d[k], d known -/
def hDnx (w : World) (x y : D) (M : Mem) (P : D → Mem → Prop) : Prop := ∃ ks ds d, x = .dn w ks ds ∧ KeyOk y ∧ getQ ks ds y = some d ∧ P d M
theorem ed_dnx {w : World} (hu : X.A.units + 200 < cLine) (ha : ED X a fa) (hb : ED X b fb) (hp : PlainIx b := by exact fun _ _ => rfl) (hw : X.w = w := by rfl) : ED X (.Subscript a b pos) (fun ρ M P => fa ρ M fun x M => fb ρ M fun y M => hDnx w x y M P) := by
  subst hw
  obtain ⟨ta, pa, sa⟩ := ha.ex
  obtain ⟨tb, pb, sb⟩ := hb.ex
  refine ⟨_, pe_ix (ix_dn hu) pa pb hp, fun B H ρ σ S P Q st hf k => ?_⟩
  refine sa B H ρ σ S _ _ st hf fun x vx B1 H1 g1 r1 hf1 => sb B1 H1 ρ σ S _ _ (st.grow g1) hf1 fun y vy B2 H2 g2 r2 hf2 => ?_
  obtain ⟨ks, ds, d, rfl, hk, hg, p⟩ := hf2
  have r1 := r1.up g2.b
  cases r1 with
  | dn hs h0 h1 hl hk2 hr =>
    obtain ⟨v, e1, rd⟩ := getQ_rep hr hg
    obtain ⟨l, rfl⟩ := hk.tup
    have r3 := r2.up g2.base.bh
    cases r2
    exact ⟨_, _, ks, _, _, _, v, rfl, rfl, ⟨⟨_, g2.base.bh _ _ hs⟩, h0, by rw [h1, hr.length], by rw [← hr.length]; exact hl, hk2.up g2.base.bh⟩, hk, r3, e1, k d v B2 H2 (g1.trans g2) rd p⟩
theorem eo_dnewN {w : World} (hw : X.w = w := by rfl) : EO X (.Dict [] [] pos) (fun _ M P => P (.on w [] []) M) := by
  subst hw
  refine ⟨_, pe_dnewN, fun B H ρ σ S P Q st hf k => fun q hq => ?_⟩
  obtain ⟨g, hb, nm⟩ := st.base.newO (o := dnO X.w q [] [] [] 0) hq
  refine k (.on X.w [] []) (.ref q) B _ [q] g (RepO.on (xs := []) (T := []) (as := []) upd_same ⟨fun _ h => (nomatch h), .nil⟩ rfl (Nat.zero_le _) .nil .nil) ⟨by simp, fun p hp => ?_, fun p hp => ?_, fun p hp => ?_⟩ hf
  all_goals (rw [List.mem_singleton] at hp; subst hp; assumption)
/-- x[k].update({a: b}), x one's own dict, such a dict of one's own in it -/
theorem ds_updKeyN {w : World} (i : Nat) {px sp : Pos} (hu : X.A.units + 200 < cLine) (hk : ED X ei fb) (ha : ED X ek fk) (he : ED X ev fa) (hN : X.N[i]? = some x := by rfl) (hv : Vis X.env.scope x := by first | exact Or.inl rfl | exact Or.inr (Or.inl rfl) | exact Or.inr (Or.inr rfl)) (hd : (x == ("__debug__" : Str)) = false := by decide) (hcd : (x == ("__classdict__" : Str)) = false := by decide)
    (hp : NoSl ei := by exact fun _ _ => rfl)
    (hs : swapsWith (.Call (.Attribute (.Subscript (.Name x px) ei sp) "update" apos) [.Dict [some ek] [ev] dp] [] cpos) none pos.line X.env = pure false := by rfl)
    (hbase : attributeBase (.Subscript (.Name x px) ei sp) "update" X.env (eval (.Subscript (.Name x px) ei sp) X.env) = eval (.Subscript (.Name x px) ei sp) X.env := by rfl)
    (hfew : ((backTo cpos (starEach [.Dict [some ek] [ev] dp] X.env)).all (fun x => !x.1) && (backToKw cpos (keywordEach [] X.env)).all (fun x => x.1.isSome) && decide ([Expr.Dict [some ek] [ev] dp].length + ([] : List Keyword).length + (if ([] : List Keyword).isEmpty then 0 else 1) < 30)) = true := by rfl)
    (hline : (apos.endLine == cpos.line) = true := by rfl) (hst : starEach [.Dict [some ek] [ev] dp] X.env = (false, eval (.Dict [some ek] [ev] dp) X.env) :: starEach [] X.env := by rfl) (hplain : (backTo cpos (starEach [] X.env)).any (·.1) = false := by rfl) (hw : X.w = w := by rfl) :
    DS X (.Expr (.Call (.Attribute (.Subscript (.Name x px) ei sp) "update" apos) [.Dict [some ek] [ev] dp] [] cpos) pos) (fun P ρ M => ∃ ks l, ρ[i]? = some (some (.od ks l)) ∧ fb ρ M fun n M => ∃ k j ks1 l1, keyOf n = some k ∧ keyIx ks k = some j ∧ l[j]? = some (.on w ks1 l1) ∧
      fk ρ M fun m M => KeyOk m ∧ fa ρ M fun d M => l1.length < sizeLine ∧ P.nx (ρ.set i (some (.od ks (l.set j (.on w (ksN ks1 m) (vsN ks1 l1 m (.fz d))))))) M) := by
  subst hw
  obtain ⟨tb, pb, sb⟩ := hk.ex
  obtain ⟨tk, pk, sk⟩ := ha.ex
  obtain ⟨te, pe, se⟩ := he.ex
  refine ⟨_, ps_expr (pe_bmN PySem.F.plainAttrs_dict PySem.F.slot_dict_update PySem.F.type_dict_update (mt_updN hu) (pe_dget (by omega) (pe_var hN hv hd hcd) pb hp) (pa_cons (pe_oneN hu pk pe) pa_nil hst) hbase hfew hline hst hplain) hs, fun B0 H0 B H ρ σ S P D s hg k1 k2 k3 k4 => ?_⟩
  obtain ⟨ks, l, el, hg⟩ := hg
  obtain ⟨A, T0, C, hS, h2, _⟩ := s.st.sim.split el
  obtain ⟨v0, hσ0, _⟩ := h2 _ rfl
  refine ⟨v0, hσ0, sb B H ρ σ S _ _ s.st hg fun n vn B1 H1 g1 r1 p1 => ?_⟩
  obtain ⟨kk, j, ks1, l1, hkk, hj, hlj, p1⟩ := p1
  have s1 := s.grow g1
  obtain ⟨v1, T, hσ, r, ndT, outT, edit⟩ := s1.edit el
  rw [hσ0] at hσ
  cases hσ
  cases r with
  | @od q _ xs _ T hq hkl hln hr => ?_
  obtain ⟨Aa, T1, Cc, vj, hT, hxj, rj, putj⟩ := hr.split hlj
  cases rj with
  | @on q1 _ _ as1 xs1 _ T1' eq1 hq1 hks1 hkl1 hln1 hrk1 hr1 => ?_
  have q1T : q1 ∈ q :: T := by rw [hT]; simp
  have lx1 : l1.length = xs1.length := hr1.length
  rw [keyOf_rep hkk r1]
  refine ⟨q, .ref q1, rfl, by rw [← keyIx_val hj hxj]; exact DGet.k hq, ⟨q1, ks1, as1, xs1, rfl, ⟨_, hq1⟩, hks1, by rw [hkl1, lx1], by rw [← lx1]; exact hln1, hrk1.up g1.base.bh⟩, ?_⟩
  intro u hu0
  obtain ⟨g2, nbu, nmu⟩ := s1.st.base.newO (o := dnO X.w u [] [] [] 0) hu0
  have s2 := s1.grow g2
  refine sk _ _ ρ σ S _ _ s2.st p1 fun m vm B3 H3 g3 r3 p3 => ?_
  obtain ⟨hkm, p3⟩ := p3
  have s3 := s2.grow g3
  refine se B3 H3 ρ σ S _ _ s3.st p3 fun d v B4 H4 g4 r4 p4 => ?_
  have s4 := s3.grow g4
  have hu1 : L2.upd H1 u (dnO X.w u [] [] [] 0) u = some (dnO X.w u [] [] [] 0) := upd_same
  have hu4 : H4 u = some (dnO X.w u [] [] [] 0) := (g3.trans g4).h u _ nmu hu1
  have r5 := r3.up g4.b
  obtain ⟨bb, rfl⟩ : ∃ bb, vm = .ref bb := by
    obtain ⟨lm, rfl⟩ := hkm.tup
    cases r3
    exact ⟨_, rfl⟩
  refine ⟨hu4, bb, m, rfl, hkm, r5.up g4.base.bh, fun eu => ?_⟩
  have nm4 : B4.m u = none := (g3.trans g4).nm nmu (by rw [hu1]; exact fun w => nomatch w)
  have nb4 : B4.b u = none := by
    cases z : B4.b u with
    | none => rfl
    | some o =>
      rcases (g3.trans g4).f u o z with w | w
      · rw [nbu] at w; cases w
      · rw [hu1] at w; cases w
  have g5 : Grow X.K B1 H1 B4 (L2.upd H4 u (dnO X.w u [m.key] [bb] [v] eu)) := (g2.trans (g3.trans g4)).mut hu0 nb4 nm4
  have hu5 : L2.upd H4 u (dnO X.w u [m.key] [bb] [v] eu) u = some (dnO X.w u [m.key] [bb] [v] eu) := upd_same
  generalize L2.upd H4 u (dnO X.w u [m.key] [bb] [v] eu) = H5 at g5 hu5 ⊢
  have some1 : ∀ z ∈ q :: T, (H1 z).isSome = true := fun z hz => by
    rcases List.mem_cons.mp hz with rfl | hz
    · rw [hq]; rfl
    · exact hr.some z hz
  have same5 : ∀ z ∈ q :: T, H5 z = H1 z := fun z hz => g5.same (some1 z hz) (outT z hz).2.1
  have nu : ∀ z ∈ q :: T, z ≠ u := fun z hz e => by have := some1 z hz; rw [e, hu0] at this; cases this
  have ndq := List.nodup_cons.mp ndT
  have hTn := ndq.2
  rw [hT] at hTn
  have q1q : q ≠ q1 := fun e => ndq.1 (by rw [e, hT]; simp)
  refine ⟨q1, u, ks1, as1, xs1, m, bb, v, rfl, rfl, nu q1 q1T, ⟨⟨_, by rw [same5 q1 q1T]; exact hq1⟩, hks1, by rw [hkl1, lx1], by rw [← lx1]; exact hln1, (hrk1.up g5.b).up g5.base.bh⟩, ⟨_, hu5⟩, hkm, r5.up g5.base.bh, by rw [← lx1]; exact p4.1, fun ep => ?_⟩
  have inT : ∀ z ∈ T1', z ∈ q :: T := fun z hz => by rw [hT]; simp [hz]
  have n1 : ∀ z ∈ T1', z ≠ q1 := fun z hz e => by
    have h1 := (List.nodup_append.mp hTn).2.1
    have h2 := (List.nodup_append.mp h1).1
    exact (List.nodup_cons.mp h2).1 (by rw [← e]; exact hz)
  have acq : ∀ z ∈ Aa ++ Cc, z ∈ q :: T ∧ z ≠ q1 := fun z hz => by
    refine ⟨by rw [hT]; rcases List.mem_append.mp hz with w | w <;> simp [w], fun e => ?_⟩
    have h1 := List.nodup_append.mp hTn
    rcases List.mem_append.mp hz with w | w
    · exact h1.2.2 z w q1 (by simp) e
    · exact (List.nodup_append.mp h1.2.1).2.2 q1 (by simp) z w e.symm
  obtain ⟨T2, b1, b2⟩ := on_put (H := H5) r4 m hkl1 (hr1.mono g5.b _ _ _ fun z hz => same5 z (inT z hz))
  have lv := vsN_len (l := l1) (k := m) (y := OT.fz d) hkl1
  have inner : RepO X.K B4.b (L2.upd H5 q1 (dnO X.w q1 ((ksN ks1 m).map DL.D.key) (if hasQ ks1 m = true then as1 else as1 ++ [bb]) (vsN ks1 xs1 m v) ep)) (.on X.w (ksN ks1 m) (vsN ks1 l1 m (.fz d))) (.ref q1) (q1 :: T2) :=
    .on upd_same (ksN_ok hks1 hkm) lv.1 (by have := p4.1; omega) (ks_put r5 (hrk1.up g5.b)) (b1.mono Ext.rfl _ _ _ fun z hz => upd_ne (n1 z (b2.subset hz)))
  generalize dnO X.w q1 ((ksN ks1 m).map DL.D.key) (if hasQ ks1 m = true then as1 else as1 ++ [bb]) (vsN ks1 xs1 m v) ep = ob at inner ⊢
  have outer := putj B4.b (L2.upd H5 q1 ob) _ _ g5.b (fun z hz => by rw [upd_ne (acq z hz).2]; exact same5 z (acq z hz).1) inner
  have sub2 : (q :: (Aa ++ ((q1 :: T2) ++ Cc))).Sublist (q :: T) := by
    rw [hT]
    exact (List.Sublist.append_left (List.Sublist.append_right (b2.cons₂ q1) Cc) Aa).cons₂ q
  obtain ⟨S', s'⟩ := edit B4 H5 q1 ob (.od ks (l.set j (.on X.w (ksN ks1 m) (vsN ks1 l1 m (.fz d))))) (q :: (Aa ++ ((q1 :: T2) ++ Cc))) g5 q1T
    (.od (by rw [upd_ne q1q, same5 q List.mem_cons_self]; exact hq) (by rw [List.length_set]; exact hkl) (by rw [List.length_set]; exact hln) outer) (ndT.sublist sub2) (fun z hz => .inl (sub2.subset hz))
  exact k1 _ _ _ _ S' s' p4.2
end
end DL

/-! DLN4: a call that leaves out a last parameter by name alone, None where it is left out. -/
namespace DL
open PySem L2 PySem.Spec
open PyProof.Rows hiding St
set_option autoImplicit false
section
variable {X : Cx} {e : Expr} {es : List Expr} {pos p : Pos} {f : RA} {x : Str} {st : Stmt} {ps : List Str} {k : Nat} {s : DSpec}
theorem eo_callPdK (F : DFK X.prog X.w X.K X.mg X.base st x ps k s) (D : DfN X.K X.mg x st ps) (hr : RG0 k X) (ha : AD X (e :: es) f) (hg : Gl X x := by rfl) (hdb : (x == ("__debug__" : Str)) = false := by decide)
    (he : starEach (e :: es) X.env = (false, eval e X.env) :: starEach es X.env := by rfl) (hpl : (backTo pos (starEach es X.env)).any (·.1) = false := by rfl) :
    EO X (.Call (.Name x p) (e :: es) [] pos) (fun ρ M P => f ρ M fun ds M => ds.length + 1 = ps.length ∧ ∃ i, s.pre i Mem.no (ds ++ [.non]) ∧ ∀ t, (∃ M', s.post i Mem.no t M') → P t M) := by
  obtain ⟨f1, fd1, hm1, hF1, F1⟩ := F.ex
  obtain ⟨f2, fd2, hm2, hF2, hb⟩ := D
  have e0 : f1 = f2 := Value.ref.inj (Option.some.inj (hm1.symm.trans hm2))
  subst e0
  obtain rfl := fun_same hF1 hF2
  obtain ⟨ta, pa, sa⟩ := ha.ex
  refine ⟨_, pe_callG F1 hr hg hm1 hF1.kp hb (.cons (show RelV .non .none from rfl) .nil) pass0 pa hdb he hpl, fun B H ρ σ S P Q st hf kk => sa B H ρ σ S _ _ st hf fun ds vs B1 H1 g1 r1 p1 => ?_⟩
  obtain ⟨hl, i, p1, p2⟩ := p1
  refine ⟨i, B1.still, ds ++ [D.non], g1.base.still, Reps.append r1 (.cons .non .nil), by rw [List.length_append]; exact hl, p1, fun t v B' H' T g r o q => ?_⟩
  exact kk t v ⟨B'.b, B1.m⟩ H' T (g1.trans (Grow.unstill g1.base g)) r ((o.unstill g1.base).back g1) (p2 t ⟨_, q⟩)
end
end DL

/-! DLN5: k in d, k not in d, d a dict whose keys are tuples. -/
namespace DL
open PySem L2 PySem.Spec
open PyProof.Rows hiding St
set_option autoImplicit false
section
variable {X : Cx} {a b : Expr} {pos : Pos} {fa fb : RD}
def hInN (w : World) (g : Bool → Bool) (y x : D) (M : Mem) (P : D → Mem → Prop) : Prop := ∃ ks ds, x = .dn w ks ds ∧ KeyOk y ∧ P (.bl (g (hasQ ks y))) M
theorem sr_inN {w : World} {K : PySem.W.Frag} (g : Bool → Bool) : SR2 K (fun y x H Q => ∃ a b ks as vs k, x = .ref a ∧ y = .ref b ∧ DnH K w H a ks as vs ∧ KeyOk k ∧ Rep K H k (.ref b) ∧ Q (.bl (g (hasQ ks k))) H) (hInN w g) := by
  rintro B H y x vy vx P Q bs ry rx ⟨ks, ds, rfl, hk, p⟩ k
  have e : Ext (Hm B.m H) H := Hm_ext
  cases rx with
  | dn hs h0 h1 hl hk2 hr => ?_
  obtain ⟨l, rfl⟩ := hk.tup
  have r3 := ry.up e
  cases ry
  exact ⟨_, _, ks, _, _, _, rfl, rfl, ⟨⟨_, e _ _ hs⟩, h0, by rw [h1, hr.length], by rw [← hr.length]; exact hl, hk2.up e⟩, hk, r3, k _ _ B H bs.grow (.bl _) p⟩
theorem ec_inN {w : World} (hu : X.A.units + 200 < cLine) (ha : EV X a fa) (hb : EV X b fb) (h1 : behindInMarks .In b = false := by rfl) (hw : X.w = w := by rfl) : EC X (.Compare a [.In] [b] pos) (fun ρ M P => fa ρ M fun x M => fb ρ M fun y M => hInN w (fun z => z) x y M P) := by
  subst hw
  exact ec_cmp (op_inN hu) (sr_inN fun z => z) ha hb h1
theorem ec_notInN {w : World} (hu : X.A.units + 200 < cLine) (ha : EV X a fa) (hb : EV X b fb) (h1 : behindInMarks .NotIn b = false := by rfl) (hw : X.w = w := by rfl) : EC X (.Compare a [.NotIn] [b] pos) (fun ρ M P => fa ρ M fun x M => fb ρ M fun y M => hInN w (fun z => !z) x y M P) := by
  subst hw
  exact ec_cmp (op_notInN hu) (sr_inN fun z => !z) ha hb h1
end
end DL

/-! DLF: comprehensions of any number of clauses, into any new object: the walk of their blocks. -/
namespace DL
open PySem L2 PySem.Spec
open PyProof.Rows hiding St
set_option autoImplicit false
/-! ### one turn of a clause -/
/-- what stands behind a clause's tests is told by deep, k comes behind it -/
def turnC (tg src : Expr) (ifs : List Expr) (env : PySem.Env) (it : Value) (deep : Sem Fin → Sem Fin) (k : Sem Fin) : Sem Fin :=
  standAt src.pos >>= fun _ => pyNext it >>= fun r => match r with
    | none => pure (.done .next)
    | some v => letOwnedTupleGo tg it v >>= fun _ => assign tg env v >>= fun _ => forIn ifs true (fun c r => if r = true then isTrue c env (eval c env) >>= fun ok => pure (ForInStep.yield ok) else pure (ForInStep.yield r)) >>= fun ok => if ok = true then deep k else k
/-- the end of a dict comprehension's turn -/
def putC (kx vx : Expr) (D : Addr) (env : PySem.Env) (k : Sem Fin) : Sem Fin :=
  (eval kx env >>= fun kv => holding [kv] (eval vx env) >>= fun vv => standAt { kx.pos with endLine := vx.pos.endLine, endCol := vx.pos.endCol } >>= fun _ => holding [kv, vv] (dictSet D kv vv)) >>= fun _ => k
/-- the next clause: its loop is run through -/
def nextC (e : Expr) (d : Nat) (src : Expr) (acc : Value) (env : PySem.Env) (k : Sem Fin) : Sem Fin :=
  eval src env >>= fun x => standAt src.pos >>= fun _ => foldedSetIterable src env x >>= fun x => holding [x] (pyIter x) >>= fun it => runOwn (.compStart e d it acc env) env >>= fun _ => k
section
variable {kx vx : Expr} {t0 i0 t1 i1 : Expr} {f0 f1 : List Expr} {scope : Scope} {pos : Pos} {it : Value} {D : Addr} {env : PySem.Env}
theorem dict_turn : compTurn (.DictComp kx vx [⟨t0, i0, f0, 0⟩] scope pos) 0 it (.ref D) env = turnC t0 i0 f0 env it (putC kx vx D env) (again (.compLoop (.DictComp kx vx [⟨t0, i0, f0, 0⟩] scope pos) 0 it (.ref D) env)) := by rfl
theorem dict_turn0 : compTurn (.DictComp kx vx [⟨t0, i0, f0, 0⟩, ⟨t1, i1, f1, 0⟩] scope pos) 0 it (.ref D) env = turnC t0 i0 f0 env it (nextC (.DictComp kx vx [⟨t0, i0, f0, 0⟩, ⟨t1, i1, f1, 0⟩] scope pos) 1 i1 (.ref D) env) (again (.compLoop (.DictComp kx vx [⟨t0, i0, f0, 0⟩, ⟨t1, i1, f1, 0⟩] scope pos) 0 it (.ref D) env)) := by rfl
theorem dict_turn1 : compTurn (.DictComp kx vx [⟨t0, i0, f0, 0⟩, ⟨t1, i1, f1, 0⟩] scope pos) 1 it (.ref D) env = turnC t1 i1 f1 env it (putC kx vx D env) (again (.compLoop (.DictComp kx vx [⟨t0, i0, f0, 0⟩, ⟨t1, i1, f1, 0⟩] scope pos) 1 it (.ref D) env)) := by rfl
end
/-! ### a clause's loop -/
abbrev Bar : Value → Shared → Prop := fun _ _ => False
/-- what a clause's loop asks: rest is what its tests lead to, Fin its end -/
def loopW (J : It) (g : TG) (tt : TT) (vs : List Nat) (rest : L2.St → Hp → (Hp → Prop) → Prop) (σ : L2.St) (H : Hp) (Fin : Hp → Prop) : Prop :=
  ∃ W : Nat → Nat → Hp → Prop, (∃ m, W 0 m H) ∧ ∀ i m H, W i m H → (J.stop i H ∧ Fin H) ∨ (J.go i H ∧ ∃ Nx : Hp → Prop, (∀ H', Nx H' → ∃ m', m' < m ∧ W (i + 1) m' H') ∧
    ∀ x H', J.yld i H x H' → g x (wipe σ vs) H' fun σ2 H2 => wipe σ2 vs = wipe σ vs ∧ tt σ2 H2 fun b H3 => if b = true then rest σ2 H3 Nx else Nx H3)
/-- what stands behind the tests keeps what is known, but of the names us -/
def DeepOk (Y : Cx) (deep : Sem Fin → Sem Fin) (rest : L2.St → Hp → (Hp → Prop) → Prop) (us : List Nat) : Prop :=
  ∀ (pins : List (Addr × Obj)) (s : Shared) (σ : L2.St) (H : Hp) (Nx : Hp → Prop) (R : Fin → Shared → Prop) (k : Sem Fin), L2.Inv Y pins σ H s → rest σ H Nx →
    (∀ s' H', L2.Inv Y pins (wipe σ us) H' s' → Nx H' → wpAny (model Y.prog Y.w) Y.A k R Bar s') → wpAny (model Y.prog Y.w) Y.A (deep k) R Bar s
theorem wipe_sub {σ : L2.St} {us vs : List Nat} (h : ∀ i ∈ us, i ∈ vs) {τ : L2.St} (e : wipe τ vs = wipe σ vs) {j : Nat} {v : V} (q : (wipe σ vs)[j]? = some (some v)) : (wipe τ us)[j]? = some (some v) := by
  rw [← e] at q
  obtain ⟨q1, q2⟩ := wipe_some q
  rw [wipe_out fun z => q2 (h j z)]
  exact q1
section
variable {Y : Cx} {tg src : Expr} {ifs : List Expr} {g : TG} {tt : TT} {vs us : List Nat} {rest : L2.St → Hp → (Hp → Prop) → Prop} {deep : Sem Fin → Sem Fin} {e : Expr} {acc : Value} {d : Nat} {it : Addr} {fp : List Addr} {tn : Nat → Heap → Prop} {J : It}
theorem loop_runs (hx : Y.xe = Bar) (hc : Y.calm = true) (ht : compTurn e d (.ref it) acc Y.env = turnC tg src ifs Y.env (.ref it) deep (again (.compLoop e d (.ref it) acc Y.env)))
    (hf : (Code.compLoop e d (.ref it) acc Y.env).isFrame = false) (hu : Y.A.under (.compLoop e d (.ref it) acc Y.env) = Y.A) (pg : PG Y tg g) (pt : PTs Y ifs tt) (T : Turn Y.prog Y.w Y.K tg J fp it tn) (hus : ∀ i ∈ us, i ∈ vs) (hd : DeepOk Y deep rest us)
    {pins : List (Addr × Obj)} {s : Shared} {σ : L2.St} {H : Hp} {Fin : Hp → Prop} (I : L2.Inv Y pins (wipe σ vs) H s) (ok : ∀ b ∈ fp, FpOk Y pins H b) (st : tn 0 s.heap) (h : loopW J g tt vs rest σ H Fin) :
    codeAny (model Y.prog Y.w) Y.A (.compLoop e d (.ref it) acc Y.env) (fun r s' => r = .ok .next ∧ ∃ H', L2.Inv Y pins (wipe σ vs) H' s' ∧ Fin H') s := by
  obtain ⟨W, ⟨m0, w0⟩, turn⟩ := h
  have pu : ∀ {H' : Hp}, (∀ b ∈ fp, H' b = none) → ∀ b ∈ fp, FpOk Y pins H' b := fun hn b hb => ⟨hn b hb, (ok b hb).2⟩
  refine codeAny_loop rfl (fun n s' => ∃ i H', (L2.Inv Y pins (wipe σ vs) H' s' ∧ tn i s'.heap) ∧ (∀ b ∈ fp, H' b = none) ∧ W i n H') (fun n s1 ⟨i, H1, ⟨I1, st1⟩, n1, w1⟩ => ?_) m0 ⟨0, H, ⟨I, st⟩, fun b hb => (ok b hb).1, w0⟩
  have den : (model Y.prog Y.w).den (.compLoop e d (.ref it) acc Y.env) = (compTurn e d (.ref it) acc Y.env).onRaise (fun x => noteFrame x Y.env >>= fun _ => theTreesLotGoes x) := by
    show (if (Code.compLoop e d (.ref it) acc Y.env).isFrame = true then _ else _) = _
    rw [hf]
    rfl
  rw [den, hu]
  refine wpAny_noted ?_
  rw [ht]
  unfold turnC
  refine wpAny_bind (wpAny_standAt (wpAny_bind ?_))
  rcases turn i n H1 w1 with ⟨stop, fin⟩ | ⟨go, Nx, next, step⟩
  · refine thnF (T.done Y rfl rfl rfl hc i pins s1 _ H1 Bar I1 (pu n1) st1 stop) fun r s2 ⟨hr, I2⟩ => ?_
    subst hr
    exact wpAny_pure ⟨rfl, H1, I2, fin⟩
  · refine thnF (T.item Y rfl rfl rfl hc i pins s1 _ H1 Bar I1 (pu n1) st1 go) fun r s2 ⟨u, hr, h2⟩ => ?_
    subst hr
    refine wpAny_bind (thnF h2 fun _ s3 ⟨x, H3, I3, r3, y3, st3, n3⟩ => ?_)
    have I3p := I3.pinned (pu n3) (T.obj _ _ st3)
    have pgr := pg.run _ s3 _ H3 x u _ I3p r3 (step x H3 y3)
    rw [hx] at pgr
    refine wpAny_bind (thnF pgr fun _ s4 ⟨σ4, H4, I4, hw, q4⟩ => ?_)
    have ptr := pt.run _ s4 σ4 H4 _ I4 q4
    rw [hx] at ptr
    refine wpAny_bind (thnF ptr fun b s5 ⟨H5, I5, q5⟩ => ?_)
    -- back at the loop's head
    have home : ∀ {τ : L2.St} {s' : Shared} {H' : Hp}, L2.Inv Y (pins ++ pinsAt fp s3.heap) τ H' s' → τ.length = σ4.length → (∀ (j : Nat) (v : V), (wipe σ vs)[j]? = some (some v) → τ[j]? = some (some v)) → Nx H' →
        ∃ m, m < n ∧ ∃ i H', (L2.Inv Y pins (wipe σ vs) H' s' ∧ tn i s'.heap) ∧ (∀ b ∈ fp, H' b = none) ∧ W i m H' := fun {τ s' H'} I' hl hk nx => by
      obtain ⟨m, hm, w'⟩ := next H' nx
      have at_ : ∀ b ∈ fp, ∀ o, s3.heap.get? b = some o → s'.heap.get? b = some o ∧ H' b = none := fun b hb o ho => by
        have z := I'.pin (b, o) (List.mem_append_right _ (List.mem_append_right _ (mem_pinsAt hb ho)))
        exact ⟨z.1, z.2.1⟩
      have hlen : (wipe σ vs).length = τ.length := by rw [hl, ← wipe_length σ4 vs, hw]
      refine ⟨m, hm, i + 1, H', ⟨I'.unpinned.weak hlen hk, T.keep _ _ _ st3 fun b hb o ho => (at_ b hb o ho).1⟩, fun b hb => ?_, w'⟩
      obtain ⟨o, ho, _⟩ := T.obj _ _ st3 b hb
      exact (at_ b hb o ho).2
    cases b with
    | false =>
      simp only [Bool.false_eq_true, if_false] at q5 ⊢
      exact wpAny_pure ⟨rfl, home I5 rfl (fun j v q => (wipe_some (by rw [hw]; exact q)).1) q5⟩
    | true =>
      simp only [if_true] at q5 ⊢
      exact wpAny_mono (hd _ s5 σ4 H5 Nx _ _ I5 q5 fun s6 H6 I6 nx => wpAny_pure ⟨rfl, home I6 (wipe_length _ _) (fun j v q => wipe_sub hus hw q) nx⟩) (fun _ _ z => z) fun _ _ z => z.elim
/-- a clause begins -/
theorem start_runs {R : Result → Shared → Prop} {s : Shared} {M : Model} {A : Around} {env : PySem.Env} {c : Comprehension} (hM : M = model Y.prog Y.w) (hf : (Code.compStart e d (.ref it) acc env).isFrame = false) (hu : A.under (.compStart e d (.ref it) acc env) = A) (hcl : (clausesOf e)[d]? = some c) (has : c.is_async = 0)
    (self : ∀ (Q : Value → Shared → Prop) (E : Value → Shared → Prop), Q (.ref it) s → wpAny M A (pyIter (.ref it)) Q E s) (h : codeAny M A (.compLoop e d (.ref it) acc env) R s) : codeAny M A (.compStart e d (.ref it) acc env) R s := by
  subst hM
  refine codeAny_of_tree ?_
  have den : (model Y.prog Y.w).den (.compStart e d (.ref it) acc env) = (compStart e d (.ref it) acc env).onRaise (fun x => noteFrame x env >>= fun _ => standAt theWindowsPlace) := by
    show (if (Code.compStart e d (.ref it) acc env).isFrame = true then _ else _) = _
    rw [hf]
    rfl
  rw [den, hu]
  refine wpAny_notedAt ?_
  unfold compStart
  have ha : (((clausesOf e)[d]?).elim false (·.is_async != 0)) = false := by
    rw [hcl]
    show (c.is_async != 0) = false
    rw [has]
    rfl
  rw [ha]
  simp only [Bool.false_eq_true, if_false]
  refine wpAny_bind (wpAny_askSetting (wpAny_ite ?_))
  have fin : wpAny (model Y.prog Y.w) A (again (.compLoop e d (.ref it) acc env)) (fun fin s' => match fin with
    | Fin.done f => R (Except.ok f) s'
    | Fin.again c' => c'.quiet = true ∧ codeAny (model Y.prog Y.w) A c' R s') (notedBy (model Y.prog Y.w) A env fun x s' => R (.error x) s') s := wpAny_pure ⟨rfl, h⟩
  split
  · exact fin
  · rw [hcl]
    exact wpAny_bind (wpAny_rule (wpAny_bind (wpAny_standAt (wpAny_bind (self _ _ fin)))))
end
/-! ### the whole -/
abbrev Rest := Addr → L2.St → Hp → (Hp → Prop) → Prop
def tCg (wi : TI) (g : TG) (tt : TT) (vs : List Nat) (ob : Addr → HO) (rest : Rest) : TE := fun σ H Q => wi σ H fun J H1 => ∀ D, H1 D = none → loopW J g tt vs (rest D) σ (upd H1 D (ob D)) fun H' => Q (.ref D) H'
/-- contexts of a block of X's -/
abbrev InBlk (X : Cx) (scope : Scope) (p : Cx → Prop) : Prop := ∀ (s : Shared) (H : Hp) (C : Addr) (cl : List (Str × Addr)) (fp : List Addr), p (X.blk s H scope (compEnvC scope cl C X.env) fp)
/-- how a comprehension begins: what its object is, what its turns are -/
structure Begin (X : Cx) (e : Expr) (tg src : Expr) (ifs : List Expr) (make : Sem Value) (o0 : Obj) (ob : Addr → HO) (deep : Addr → PySem.Env → Sem Fin → Sem Fin) : Prop where
  cl : ∃ gs, clausesOf e = ⟨tg, src, ifs, 0⟩ :: gs
  make : ∀ (A : Around) (E : Value → Shared → Prop) (Q : Value → Shared → Prop) (s : Shared), Q (.ref s.heap.objs.size) { s with heap := s.heap.push o0 } → wpAny (model X.prog X.w) A make Q E s
  free : o0.isFreed = false
  ob : ∀ {pins : List (Addr × Obj)} {σ : L2.St} {H : Hp} {s : Shared}, L2.Inv X pins σ H s → ObjOk X.prog X.w (upd H s.heap.objs.size (ob s.heap.objs.size)) (s.heap.push o0) s.heap.objs.size (ob s.heap.objs.size)
  quiet : ∀ (it acc : Value) (env : PySem.Env) (A : Around), (Code.compLoop e 0 it acc env).isFrame = false ∧ (Code.compStart e 0 it acc env).isFrame = false ∧ A.under (.compLoop e 0 it acc env) = A ∧ A.under (.compStart e 0 it acc env) = A
  turn : ∀ (it : Value) (D : Addr) (env : PySem.Env), compTurn e 0 it (.ref D) env = turnC tg src ifs env it (deep D env) (again (.compLoop e 0 it (.ref D) env))
section
variable {X : Cx} {tg src : Expr} {ifs : List Expr} {e : Expr} {make : Sem Value} {o0 : Obj} {ob : Addr → HO} {deep : Addr → PySem.Env → Sem Fin → Sem Fin} {rest : Rest} {wi : TI} {g : TG} {tt : TT} {us : List Nat} {scope : Scope} {own : List (Str × Nat)}
theorem cg_core {pins : List (Addr × Obj)} {s : Shared} {σ : L2.St} {H : Hp} {Q : VK} {at_ : Pos} {use : Option (Value → Sem Unit)} {Qf : Value → Shared → Prop} (b : Begin X e tg src ifs make o0 ob deep) (hc : X.calm = true) (hN : X.N.Nodup) (I : L2.Inv X pins σ H s) (hi : PI X tg src wi) (ok : BlkOk X.N X.env.scope scope own)
    (hg : InBlk X scope fun Y => PG Y tg g) (ht : InBlk X scope fun Y => PTs Y ifs tt) (hd : ∀ D, InBlk X scope fun Y => DeepOk Y (deep D Y.env) (rest D) us) (hus : ∀ i ∈ us, i ∈ own.map (·.2)) (hs : ∀ x, foldedSetIterable src X.env x = pure x)
    (h : tCg wi g tt (own.map (·.2)) ob rest σ H Q)
    (out : ∀ D C s' m H', L2.Inv X pins σ H' s' → Q (.ref D) H' → s'.heap.Ns C m → FpOk X pins H' C → compPost (model X.prog X.w) X.A X.xe use Qf (.ref D) C (.ok .next) s') :
    wpAny (model X.prog X.w) X.A (comprehension e scope X.env at_ make false (eval src X.env) use) Qf X.xe s := by
  have cells : ∀ y ∈ scope.names, y.2 = .free → ∃ c, X.env.cells.lookup y.1 = some c := fun y hy q => I.ok.has _ (ok.free y hy q)
  obtain ⟨gs, hcl⟩ := b.cl
  refine wpAny_comprehension_free (use := use) hcl hs (closure_ok cells) ok.kind (fun y hy q => by rw [ok.uniq y hy, q]) (thn (hi.run pins s σ H _ I h) fun _ s1 h1 => thn h1 fun itv s2 ⟨it, fp, tn, J, H2, ei, I2, T, st2, f2, q⟩ => ?_)
  subst ei
  refine b.make _ _ _ _ (newEnv_comp ?_)
  have fr : H2 s2.heap.objs.size = none := I2.hok.fresh (Nat.le_refl _)
  have I3 := I2.laid (a := s2.heap.objs.size) (t' := s2.toks) (fun b o z => Heap.get?_push_of_some o0 z) (Nat.le_refl _) (b.ob I2)
  have w3 := q _ fr
  have sz : ∀ b ∈ fp, b < s2.heap.objs.size := fun b hb => by
    obtain ⟨o, z, _⟩ := T.obj _ _ st2 b hb
    exact Heap.lt_size z
  have st3 : tn 0 ({ s2 with heap := s2.heap.push o0, toks := s2.toks } : Shared).heap := T.keep _ _ _ st2 fun b _ o z => Heap.get?_push_of_some _ z
  have f3 : ∀ b ∈ fp, FpOk X pins (upd H2 s2.heap.objs.size (ob s2.heap.objs.size)) b ∧ b < ({ s2 with heap := s2.heap.push o0, toks := s2.toks } : Shared).heap.objs.size := fun b hb => by
    refine ⟨⟨?_, (f2 b hb).2⟩, ?_⟩
    · rw [upd_ne (Nat.ne_of_lt (sz b hb))]
      exact (f2 b hb).1
    · show b < (s2.heap.push o0).objs.size
      rw [Heap.size_push]
      exact Nat.lt_succ_of_lt (sz b hb)
  generalize s2.heap.objs.size = D at fr I3 w3 f3 ⊢
  show codeAny _ _ (.compStart e 0 (.ref it) (.ref D) (compEnvC scope (cellsFrom (({ s2 with heap := s2.heap.push o0, toks := s2.toks } : Shared).heap.objs.size + 1) scope.names (cloFrom X.env.cells scope.names [])) ({ s2 with heap := s2.heap.push o0, toks := s2.toks } : Shared).heap.objs.size X.env)) (compPost _ _ _ _ _ _ ({ s2 with heap := s2.heap.push o0, toks := s2.toks } : Shared).heap.objs.size) { ({ s2 with heap := s2.heap.push o0, toks := s2.toks } : Shared) with heap := pushCells (({ s2 with heap := s2.heap.push o0, toks := s2.toks } : Shared).heap.push { cls := .type "dict", data := .dict #[] }) scope.names }
  generalize ({ s2 with heap := s2.heap.push o0, toks := s2.toks } : Shared) = s3 at I3 st3 f3 ⊢
  generalize upd H2 D (ob D) = H3 at I3 w3 f3
  have I4 := block_start I3 ok hN f3
  have st4 : tn 0 (pushCells (s3.heap.push { cls := .type "dict", data := .dict #[] }) scope.names) := T.keep _ _ _ st3 fun b _ o z => pushCells_keeps _ _ _ _ (Heap.get?_push_of_some _ z)
  have pg := hg s3 H3 s3.heap.objs.size (cellsFrom (s3.heap.objs.size + 1) scope.names (cloFrom X.env.cells scope.names [])) fp
  have pt := ht s3 H3 s3.heap.objs.size (cellsFrom (s3.heap.objs.size + 1) scope.names (cloFrom X.env.cells scope.names [])) fp
  have pd := hd D s3 H3 s3.heap.objs.size (cellsFrom (s3.heap.objs.size + 1) scope.names (cloFrom X.env.cells scope.names [])) fp
  have loc : (compEnvC scope (cellsFrom (s3.heap.objs.size + 1) scope.names (cloFrom X.env.cells scope.names [])) s3.heap.objs.size X.env).locals = s3.heap.objs.size := rfl
  generalize compEnvC scope (cellsFrom (s3.heap.objs.size + 1) scope.names (cloFrom X.env.cells scope.names [])) s3.heap.objs.size X.env = ce at I4 pg pt pd loc ⊢
  obtain ⟨q1, q2, q3, q4⟩ := b.quiet (.ref it) (.ref D) ce X.A
  have own_ : ∀ b ∈ fp, FpOk (X.blk s3 H3 scope ce fp) [] H3 b := fun b hb => ⟨(f3 b hb).1.1, (I4.ok.exf b hb).1, I4.ok.exfs b hb, .inl hb, fun x c z => (I4.ok.exf b hb).2 x c z, fun p hp => (nomatch (show p ∈ ([] : List (Addr × Obj)) from hp))⟩
  refine start_runs (Y := X) rfl q2 q4 (by rw [hcl]; rfl) rfl (fun _ _ z => T.self _ 0 _ _ _ st4 z) ?_
  have run := loop_runs (Y := X.blk s3 H3 scope ce fp) rfl hc (b.turn (.ref it) D ce) q1 q3 pg pt T hus pd I4 own_ st4 w3
  refine codeAny_mono run fun r s5 ⟨hr, H5, I5, fin⟩ => ?_
  subst hr
  have I6 : L2.Inv X pins σ H5 s5 := I3.call' (ch := fp) I5.os I5.base I5.hok I5.bare fun b hb => ⟨(f3 b hb).1.2.2.2.1, (f3 b hb).1.2.1, (f3 b hb).1.2.2.2.2.1, (f3 b hb).1.2.2.2.2.2⟩
  have nC : H5 s3.heap.objs.size = none := by
    rw [← loc]
    exact I5.free
  obtain ⟨m, hn, _⟩ := I5.loc
  have hn : s5.heap.Ns ce.locals m := hn
  rw [loc] at hn
  exact out D s3.heap.objs.size s5 m H5 I6 fin hn (I3.fpOk (Nat.le_refl _) nC)
theorem pe_cg {pos : Pos} {gens : List Comprehension} (b : Begin X e tg src ifs make o0 ob deep) (hev : ∀ env, eval e env = comprehension e scope env (firstIterPos gens pos) make false (eval src env)) (hc : X.calm = true) (hN : X.N.Nodup) (hi : PI X tg src wi) (ok : BlkOk X.N X.env.scope scope own)
    (hg : InBlk X scope fun Y => PG Y tg g) (ht : InBlk X scope fun Y => PTs Y ifs tt) (hd : ∀ D, InBlk X scope fun Y => DeepOk Y (deep D Y.env) (rest D) us) (hus : ∀ i ∈ us, i ∈ own.map (·.2)) (hs : ∀ x, foldedSetIterable src X.env x = pure x) :
    PE X e (tCg wi g tt (own.map (·.2)) ob rest) := by
  refine ⟨fun pins s σ H Q I h => ?_⟩
  rw [hev]
  refine cg_core b hc hN I hi ok hg ht hd hus hs h fun D C s' m H' I' q hn f => ⟨m, hn, fun h'' sb => ?_⟩
  exact ⟨.ref D, H', I'.turned (t' := s'.toks) (fun b o hb z => (sb.2 b hb).trans z) f.1 f.2.1 f.2.2.2.1 f.2.2.2.2.1 f.2.2.2.2.2, rfl, q⟩
/-- y = {..}: stored ahead of the block's end -/
theorem ps_setCg {i : Nat} {y : Str} {py pos spos : Pos} {gens : List Comprehension} (b : Begin X e tg src ifs make o0 ob deep) (hev : ∀ (env : PySem.Env) (u : Value → Sem Unit), evalThenUse e env u = (comprehension e scope env (firstIterPos gens pos) make false (eval src env) (some u) >>= fun _ => pure ())) (hc : X.calm = true) (hN : X.N.Nodup)
    (hy : X.N[i]? = some y) (hyl : X.env.scope.names.lookup y = some .local) (hsw : swapsWith e (some (.Name y py)) spos.line X.env = pure true) (hi : PI X tg src wi) (ok : BlkOk X.N X.env.scope scope own)
    (hg : InBlk X scope fun Y => PG Y tg g) (ht : InBlk X scope fun Y => PTs Y ifs tt) (hd : ∀ D, InBlk X scope fun Y => DeepOk Y (deep D Y.env) (rest D) us) (hus : ∀ i ∈ us, i ∈ own.map (·.2)) (hs : ∀ x, foldedSetIterable src X.env x = pure x) :
    PS X (.Assign [.Name y py] e spos) (tAsg (tCg wi g tt (own.map (·.2)) ob rest) (gName i)) := by
  refine ⟨fun pins s σ H D I h => ?_⟩
  rw [exec_Assign_Name_used _ _ _ _ hsw, hev]
  have h : tCg wi g tt (own.map (·.2)) ob rest σ H (fun x H1 => gName i x σ H1 D.nx) := h
  refine wpAny_bind (wpAny_standAt (wpAny_bind (wpAny_bind (thn (cg_core (Qf := fun _ s' => SP X pins D .next s') b hc hN I hi ok hg ht hd hus hs h fun L C s' m H' I' q hn f => ?_) fun _ s' hq => wpAny_pure (wpAny_pure hq)))))
  refine wpAny_assign_Name (store_ok2 (v := V.ref L) I' hN hy (.inl hyl) rfl (fun s2 I2 ⟨a, sb, ha⟩ => ⟨m, hn.sameBut sb ?_, fun h3 sb3 => ?_⟩) (.inr hyl))
  · rcases ha with z | z
    · rw [z]; exact f.2.1
    · exact fun w => f.2.2.2.2.1 y a z w.symm
  · exact ⟨_, H', I2.turned (t' := s2.toks) (fun b o hb z => (sb3.2 b hb).trans z) f.1 f.2.1 f.2.2.2.1 f.2.2.2.2.1 f.2.2.2.2.2, q⟩
end
/-! ### into a dict -/
section
variable {X Y : Cx} {kx vx : Expr} {t0 i0 t1 i1 : Expr} {f0 f1 : List Expr} {scope : Scope} {pos : Pos}
theorem begin_dict {ob : Addr → HO} (hob : ∀ {pins : List (Addr × Obj)} {σ : L2.St} {H : Hp} {s : Shared}, L2.Inv X pins σ H s → ObjOk X.prog X.w (upd H s.heap.objs.size (ob s.heap.objs.size)) (s.heap.push { cls := .type "dict", data := .dict #[] }) s.heap.objs.size (ob s.heap.objs.size)) :
    Begin X (.DictComp kx vx [⟨t0, i0, f0, 0⟩] scope pos) t0 i0 f0 newDict { cls := .type "dict", data := .dict #[] } ob (putC kx vx) where
  cl := ⟨[], rfl⟩
  make A E Q s h := wpAny_newObj_type h
  free := rfl
  ob := hob
  quiet it acc env A := ⟨rfl, rfl, rfl, rfl⟩
  turn it D env := dict_turn
theorem begin_dict2 {ob : Addr → HO} (hob : ∀ {pins : List (Addr × Obj)} {σ : L2.St} {H : Hp} {s : Shared}, L2.Inv X pins σ H s → ObjOk X.prog X.w (upd H s.heap.objs.size (ob s.heap.objs.size)) (s.heap.push { cls := .type "dict", data := .dict #[] }) s.heap.objs.size (ob s.heap.objs.size)) :
    Begin X (.DictComp kx vx [⟨t0, i0, f0, 0⟩, ⟨t1, i1, f1, 0⟩] scope pos) t0 i0 f0 newDict { cls := .type "dict", data := .dict #[] } ob (fun D => nextC (.DictComp kx vx [⟨t0, i0, f0, 0⟩, ⟨t1, i1, f1, 0⟩] scope pos) 1 i1 (.ref D)) where
  cl := ⟨_, rfl⟩
  make A E Q s h := wpAny_newObj_type h
  free := rfl
  ob := hob
  quiet it acc env A := ⟨rfl, rfl, rfl, rfl⟩
  turn it D env := dict_turn0
/-- a store, by values -/
abbrev TPut := Addr → V → V → Hp → (Hp → Prop) → Prop
def PutOk (Y : Cx) (put : TPut) : Prop := ∀ (pins : List (Addr × Obj)) (s : Shared) (σ : L2.St) (H : Hp) (D : Addr) (y z : V) (u r : Value) (Nx : Hp → Prop), L2.Inv Y pins σ H s → RelV y u → RelV z r → put D y z H Nx →
  wpAny (model Y.prog Y.w) Y.A (dictSet D u r) (fun _ s' => ∃ H', L2.Inv Y pins σ H' s' ∧ Nx H') Bar s
def putW (put : TPut) (tk tv : TE) : Rest := fun D σ H Nx => tk σ H fun y H4 => tv σ H4 fun z H5 => put D y z H5 Nx
theorem put_deep {put : TPut} {tk tv : TE} {D : Addr} (hx : Y.xe = Bar) (pk : PE Y kx tk) (pv : PE Y vx tv) (hp : PutOk Y put) : DeepOk Y (putC kx vx D Y.env) (putW put tk tv D) [] := by
  intro pins s σ H Nx R k I h end_
  have pkr := pk.run pins s σ H _ I h
  rw [hx] at pkr
  refine wpAny_bind (wpAny_bind (thnF pkr fun u s4 ⟨y, H4, I4, r4, q4⟩ => wpAny_bind (wpAny_holding ?_)))
  have pvr := pv.run pins s4 σ H4 _ I4 q4
  rw [hx] at pvr
  refine thnF pvr fun r s5 ⟨z, H5, I5, r5, q5⟩ => wpAny_bind (wpAny_standAt (wpAny_holding (thnF (hp pins s5 σ H5 D y z u r Nx I5 r4 r5 q5) fun _ s6 ⟨H6, I6, nx⟩ => end_ s6 H6 I6 nx)))
/-- the next clause's loop -/
def nextW (wi : TI) (g : TG) (tt : TT) (vs : List Nat) (rest : Rest) : Rest := fun D σ H Nx => wi σ H fun J H4 => loopW J g tt vs (rest D) σ H4 Nx
theorem next_deep {e : Expr} {D : Addr} {wi : TI} {g : TG} {tt : TT} {vs us : List Nat} {rest : Rest} {deep : PySem.Env → Sem Fin → Sem Fin} (hx : Y.xe = Bar) (hc : Y.calm = true) (hcl : (clausesOf e)[1]? = some ⟨t1, i1, f1, 0⟩)
    (hq : ∀ (it acc : Value) (env : PySem.Env) (A : Around), (Code.compLoop e 1 it acc env).isFrame = false ∧ (Code.compStart e 1 it acc env).isFrame = false ∧ A.under (.compLoop e 1 it acc env) = A ∧ A.under (.compStart e 1 it acc env) = A)
    (ht : ∀ (it : Value) (env : PySem.Env), compTurn e 1 it (.ref D) env = turnC t1 i1 f1 env it (deep env) (again (.compLoop e 1 it (.ref D) env)))
    (hi : PI Y t1 i1 wi) (hs : ∀ x, foldedSetIterable i1 Y.env x = pure x) (pg : PG Y t1 g) (pt : PTs Y f1 tt) (hus : ∀ i ∈ us, i ∈ vs) (hd : DeepOk Y (deep Y.env) (rest D) us) : DeepOk Y (nextC e 1 i1 (.ref D) Y.env) (nextW wi g tt vs rest D) vs := by
  intro pins s σ H Nx R k I h end_
  have hir := hi.run pins s σ H _ I h
  rw [hx] at hir
  refine wpAny_bind (thnF hir fun x s1 h1 => wpAny_bind (wpAny_standAt (wpAny_bind (wpAny_of_eq (hs x) (wpAny_bind (wpAny_holding (thnF h1 fun itv s2 ⟨it, fp, tn, J, H2, ei, I2, T, st2, f2, q2⟩ => ?_)))))))
  subst ei
  obtain ⟨q1, q2', q3, q4⟩ := hq (.ref it) (.ref D) Y.env Y.A
  refine wpAny_bind (wpAny_runOwn ?_)
  rw [Around.mark_none]
  refine start_runs (Y := Y) rfl q2' q4 hcl rfl (fun _ _ z => T.self _ 0 _ _ _ st2 z) ?_
  have run := loop_runs hx hc (ht (.ref it) Y.env) q1 q3 pg pt T hus hd (I2.weak (wipe_length σ vs) fun j v z => (wipe_some z).1) f2 st2 q2
  refine codeAny_mono run fun r s3 ⟨hr, H3, I3, nx⟩ => ?_
  subst hr
  exact end_ s3 H3 I3 nx
end
end DL

/-! DLF2: the same on plain data: what is gathered, thing by thing. -/
namespace DL
open PySem L2 PySem.Spec
open PyProof.Rows hiding St
set_option autoImplicit false
/-- what one thing adds to what was gathered -/
abbrev RK (α : Type) := α → Env → Mem → (α → Mem → Prop) → Prop
def gath {α : Type} (g : RG) (f : RT) (t : RK α) (ρ : Env) (P : α → Mem → Prop) : List D → α → Mem → Prop
  | [], a, M => P a M
  | d :: ds, a, M => g d ρ M fun ρ' M => f ρ' M fun b M => if b = true then t a ρ' M fun a' M => gath g f t ρ P ds a' M else gath g f t ρ P ds a M
/-- rest does what t tells, to the object at D -/
def SndK {α : Type} (K : PySem.W.Frag) (D : Addr) (A : Kn → Hp → α → Prop) (rest : L2.St → Hp → (Hp → Prop) → Prop) (t : RK α) : Prop :=
  ∀ (B : Kn) (H : Hp) (ρ : Env) (σ : L2.St) (S : List Addr) (a : α) (P : α → Mem → Prop) (Nx : Hp → Prop), Stt K B H ρ σ S → D ∉ S → A B H a → t a ρ B.m P →
    (∀ B' H' a', GrD K D B H B' H' → A B' H' a' → P a' B'.m → Nx H') → rest σ H Nx
/-- what was gathered stands while all else grows -/
def Steady {α : Type} (K : PySem.W.Frag) (A : Kn → Hp → α → Prop) : Prop := ∀ (B B' : Kn) (H H' : Hp) (a : α), A B H a → Grow K B H B' H' → A B' H' a
theorem GrD.trans {K : PySem.W.Frag} {D : Addr} {B B1 B2 : Kn} {H H1 H2 : Hp} (g : GrD K D B H B1 H1) (k : GrD K D B1 H1 B2 H2) (nm : B.m D = none) (st : H D ≠ none) : GrD K D B H B2 H2 := by
  have h1 : H1 D ≠ none := g.s D st
  refine ⟨g.b.trans k.b, fun a o ne z e => ?_, fun a z => ?_, fun a o e => ?_, fun a z => k.s a (g.s a z), k.base⟩
  · have e1 := g.h a o ne z e
    refine k.h a o ne ?_ e1
    by_cases q : B1.m a = none
    · exact q
    · rcases g.n a q with y | y
      · exact absurd z y
      · rw [e] at y; cases y
  · rcases k.n a z with q | q
    · exact g.n a q
    · refine .inr ?_
      cases y : H a with
      | none => rfl
      | some o => exact absurd q (g.s a (by rw [y]; exact nofun))
  · rcases k.f a o e with q | q
    · exact g.f a o q
    · refine .inr ?_
      cases y : H a with
      | none => rfl
      | some o => exact absurd q (g.s a (by rw [y]; exact nofun))
theorem Stt.throughD {K : PySem.W.Frag} {D : Addr} {B B1 : Kn} {H H1 : Hp} {ρ : Env} {σ : L2.St} {S : List Addr} (s : Stt K B H ρ σ S) (hD : D ∉ S) (g : GrD K D B H B1 H1) : Stt K B1 H1 ρ σ S := s.growD hD g
section
variable {α : Type} {K : PySem.W.Frag} {A : Kn → Hp → α → Prop} {D : Addr} {rest : L2.St → Hp → (Hp → Prop) → Prop} {t : RK α} {g : RG} {f : RT} {is vs : List Nat}
/-- a clause's loop, over known things -/
theorem loop_data (stA : Steady K A) (hA : ∀ B H a, A B H a → B.m D = none ∧ H D ≠ none) (his : ∀ i ∈ is, i ∈ vs) (hr : SndK K D A rest t) {J : It} {ds : List DL.D} {B1 : Kn} {H1 : Hp} {ρ : Env} {σ : L2.St} {S : List Addr} {a0 : α} {P : α → Mem → Prop} {Fin : Hp → Prop}
    (st : Stt K B1 H1 ρ σ S) (hD : D ∉ S) (wk : Walks K J ds B1.b) (h0 : A B1 H1 a0) (hc : gath g f t (wipeE ρ vs) P ds a0 B1.m) (fin : ∀ B' H' a', GrD K D B1 H1 B' H' → A B' H' a' → P a' B'.m → Fin H') :
    loopW J (cG K is g) (cT K f) vs rest σ H1 Fin := by
  obtain ⟨nm1, sm1⟩ := hA _ _ _ h0
  refine ⟨fun i m H => m = ds.length - i ∧ i ≤ ds.length ∧ ∃ B a, GrD K D B1 H1 B H ∧ A B H a ∧ gath g f t (wipeE ρ vs) P (ds.drop i) a B.m, ⟨ds.length, rfl, Nat.zero_le _, B1, a0, st.base.grD, h0, hc⟩, fun i m H2 ⟨hm, hi, B2, a2, g2, A2, c2⟩ => ?_⟩
  subst hm
  rcases Nat.lt_or_ge i ds.length with lt | ge
  · obtain ⟨go, yl⟩ := wk.go B2 H2 i ds[i] g2.b g2.base (List.getElem?_eq_getElem lt)
    refine .inr ⟨go, fun H => i + 1 ≤ ds.length ∧ ∃ B a, GrD K D B1 H1 B H ∧ A B H a ∧ gath g f t (wipeE ρ vs) P (ds.drop (i + 1)) a B.m, fun H h => ⟨_, by omega, rfl, h⟩, fun x H3 y3 => ?_⟩
    obtain ⟨B3, g3, em, rx⟩ := yl x H3 y3
    rw [List.drop_eq_getElem_cons lt, ← em] at c2
    obtain ⟨S3, st3, sub3⟩ := (st.throughD hD (g2.step g3)).wipe vs
    refine ⟨B3, _, S3, ds[i], _, st3, rx, c2, fun ρ4 σ4 S4 B4 H4 g4 st4 sub4 hw p4 => ⟨(hw vs his).trans (wipe_wipe σ vs vs fun _ h => h), B4, ρ4, S4, _, st4, p4, fun b B5 H5 g5 p5 => ?_⟩⟩
    have A5 := stA _ _ _ _ _ A2 ((g3.trans g4).trans g5)
    have g5D := ((g2.step g3).step g4).step g5
    cases b with
    | false => exact ⟨lt, B5, a2, g5D, A5, p5⟩
    | true =>
      refine hr B5 H5 ρ4 σ4 S4 a2 _ _ (st4.grow g5) (fun z => hD (sub3 _ (sub4 _ z))) A5 p5 fun B6 H6 a6 g6 A6 p6 => ⟨lt, B6, a6, g5D.trans g6 nm1 sm1, A6, p6⟩
  · have e : i = ds.length := by omega
    subst e
    rw [List.drop_length] at c2
    exact .inl ⟨wk.stop B2 H2 _ g2.b g2.base (Nat.le_refl _), fin B2 H2 a2 g2 A2 c2⟩
/-- a further clause -/
def gathIn (fi : RI) (vs : List Nat) (g : RG) (f : RT) (t : RK α) : RK α := fun a ρ M P => fi ρ M fun items M => gath g f t (wipeE ρ vs) P items a M
theorem next_data {wi : TI} {fi : RI} (stA : Steady K A) (hA : ∀ B H a, A B H a → B.m D = none ∧ H D ≠ none) (his : ∀ i ∈ is, i ∈ vs) (hr : SndK K D A rest t) (hi : SndI K wi fi) :
    SndK K D A (fun σ H Nx => wi σ H fun J H4 => loopW J (cG K is g) (cT K f) vs rest σ H4 Nx) (gathIn fi vs g f t) := by
  intro B H ρ σ S a P Nx st hD a0 h fin
  obtain ⟨nm, sm⟩ := hA _ _ _ a0
  refine hi B H ρ σ S _ _ st h fun ds J B1 H1 g1 wk hsz hc => ?_
  refine loop_data stA hA his hr (st.grow g1) hD wk (stA _ _ _ _ _ a0 g1) hc fun B' H' a' g2 A' p => fin B' H' a' ?_ A' p
  exact (st.base.grD.step g1).trans g2 nm sm
end
/-! ### dicts whose keys are tuples -/
section
variable {K : PySem.W.Frag} {w : World}
abbrev DnS := List DL.D × List OT
structure DnA (K : PySem.W.Frag) (w : World) (Bz : Kn) (Hz : Hp) (D : Addr) (B : Kn) (H : Hp) (a : DnS) : Prop where
  gr : Grow K Bz Hz B H
  nb : B.b D = none
  nm : B.m D = none
  ok : KeysOk a.1
  len : a.1.length = a.2.length
  fit : a.2.length ≤ sizeLine
  ex : ∃ as xs ep, H D = some (dnO w D (a.1.map DL.D.key) as xs ep) ∧ Reps K B.b a.1 (as.map V.ref) ∧ RepOs K B.b H a.2 xs []
theorem DnA.at {Bz : Kn} {Hz : Hp} {D : Addr} (B : Kn) (H : Hp) (a : DnS) (h : DnA K w Bz Hz D B H a) : B.m D = none ∧ H D ≠ none := by
  obtain ⟨as, xs, ep, e, _⟩ := h.ex
  exact ⟨h.nm, by rw [e]; exact nofun⟩
theorem DnA.steady {Bz : Kn} {Hz : Hp} {D : Addr} : Steady K (DnA K w Bz Hz D) := fun B B' H H' a h g => by
  obtain ⟨as, xs, ep, e, rk, rv⟩ := h.ex
  have hn : H D ≠ none := by rw [e]; exact nofun
  refine ⟨h.gr.trans g, ?_, g.nm h.nm hn, h.ok, h.len, h.fit, as, xs, ep, g.h D _ h.nm e, rk.up g.b, rv.mono g.b _ _ _ fun q hq => nomatch hq⟩
  cases z : B'.b D with
  | none => rfl
  | some o =>
    rcases g.f D o z with y | y
    · rw [h.nb] at y; cases y
    · exact absurd y hn
/-- d[y] = z, z frozen -/
def storeN (a : DnS) (y z : DL.D) : DnS := (ksN a.1 y, vsN a.1 a.2 y (.fz z))
def putDn (K : PySem.W.Frag) (w : World) : TPut := fun D y z H Nx => ∃ b ks as vs k, y = .ref b ∧ DnH K w H D ks as vs ∧ KeyOk k ∧ Rep K H k (.ref b) ∧ vs.length < sizeLine ∧
  ∀ ep, Nx (upd H D (dnO w D ((ksN ks k).map DL.D.key) (if hasQ ks k = true then as else as ++ [b]) (vsN ks vs k z) ep))
theorem put_dn {Y : Cx} (hu : Y.A.units + 200 < cLine) : PutOk Y (putDn Y.K Y.w) := by
  rintro pins s σ H D y z u r Nx I ry rz ⟨b, ks, as, vs, k, rfl, hd, hk, rk, lt, nx⟩
  cases ry
  obtain ⟨hs, us, hv, l1, l2, dd⟩ := hd.of I
  refine wpAny_dictSet_heap (by show Y.A.units + 8 < cLine; omega) (hk.is I rk) dd (fun h' dd' sb => ?_) (by unfold entsN; simp only [List.length_zip, List.length_map]; have := hd.len; omega)
  obtain ⟨he, ep, new⟩ := DnH.store (X := Y) hs hv l1 l2 hd.len rz dd'
  obtain ⟨ep0, hat⟩ := hd.at_
  exact ⟨_, d_write I (by rw [hat]; exact True.intro) sb he (new _), nx ep⟩
/-- a dict comprehension's end, on data -/
def gathN (tk tv : RD) : RK DnS := fun a ρ M P => tk ρ M fun y M => tv ρ M fun z M => KeyOk y ∧ a.2.length < sizeLine ∧ P (storeN a y z) M
theorem put_data {Bz : Kn} {Hz : Hp} {D : Addr} (hD : Hz D = none) {tk tv : RD} {te tz : TE} (hk : SndD K te tk) (hv : SndD K tz tv) :
    SndK K D (DnA K w Bz Hz D) (putW (putDn K w) te tz D) (gathN tk tv) := by
  intro B H ρ σ S a P Nx st hDS A h fin
  refine hk B H ρ σ S _ _ st h fun y vy B1 H1 g1 r1 h1 => hv B1 H1 ρ σ S _ _ (st.grow g1) h1 fun z vz B2 H2 g2 r2 h2 => ?_
  obtain ⟨ky, lt, p⟩ := h2
  have A2 := DnA.steady _ _ _ _ _ (DnA.steady _ _ _ _ _ A g1) g2
  obtain ⟨as, xs, ep, e, rk, rv⟩ := A2.ex
  have r1 := r1.up g2.b
  obtain ⟨l, ey⟩ := ky.tup
  have hb : ∃ b, vy = .ref b := by
    rw [ey] at r1
    cases r1 with
    | @tup b _ _ _ _ _ => exact ⟨b, rfl⟩
  obtain ⟨b, eb⟩ := hb
  rw [eb] at r1
  have lx : a.2.length = xs.length := rv.length
  refine ⟨b, a.1, as, xs, y, eb, ⟨⟨ep, e⟩, A2.ok, by rw [A2.len, lx], by rw [← lx]; exact A2.fit, rk.up g2.base.bh⟩, ky, r1.up g2.base.bh, by rw [← lx]; exact lt, fun ep' => ?_⟩
  obtain ⟨T', q1, q2⟩ := on_put r2 y A2.len rv
  have hT : T' = [] := List.eq_nil_of_sublist_nil q2
  subst hT
  refine fin B2 _ (storeN a y z) (((st.base.grD.step g1).step g2).at A2.nb A2.nm) ⟨A2.gr.mut hD A2.nb A2.nm, A2.nb, A2.nm, ksN_ok A2.ok ky, ?_, ?_, _, _, ep', upd_same, ks_put r1 rk, q1.mono Ext.rfl _ _ _ fun q hq => nomatch hq⟩ p
  · exact (vsN_len A2.len).1
  · exact Nat.le_trans (vsN_len A2.len).2 lt
theorem DnA.start {B1 : Kn} {H1 : Hp} {D : Addr} (b : Base K B1 H1) (hD : H1 D = none) : DnA K w B1 H1 D B1 (upd H1 D (dnO w D [] [] [] 0)) ([], []) := by
  obtain ⟨gD, bD, nD⟩ := b.newO (o := dnO w D [] [] [] 0) hD
  exact ⟨gD, bD, nD, ⟨fun _ h => (nomatch h), .nil⟩, rfl, Nat.zero_le _, [], [], 0, upd_same, .nil, .nil⟩
theorem DnA.fin {Bz B : Kn} {Hz H : Hp} {D : Addr} {a : DnS} (h : DnA K w Bz Hz D B H a) (hD : Hz D = none) : RepO K B.b H (.on w a.1 a.2) (.ref D) [D] ∧ Own Bz Hz B [D] := by
  obtain ⟨as, xs, ep, e, rk, rv⟩ := h.ex
  refine ⟨.on e h.ok h.len h.fit rk rv, ⟨by simp, ?_, ?_, ?_⟩⟩ <;> (intro p hp; rw [List.mem_singleton] at hp; subst hp)
  · exact hD
  · exact h.nb
  · exact h.nm
/-- what is gathered into a new such dict -/
theorem snd_dn {wi : TI} {fi : RI} {is vs : List Nat} {g : RG} {f : RT} {rest : Rest} {t : RK DnS} (hi : SndI K wi fi) (his : ∀ i ∈ is, i ∈ vs) (hr : ∀ (D : Addr) (Bz : Kn) (Hz : Hp), Hz D = none → SndK K D (DnA K w Bz Hz D) (rest D) t) :
    SndO K (tCg wi (cG K is g) (cT K f) vs (fun D => dnO w D [] [] [] 0) rest) (fun ρ M P => fi ρ M fun items M => gath g f t (wipeE ρ vs) (fun a M => P (.on w a.1 a.2) M) items ([], []) M) := by
  intro B H ρ σ S P Q st hf k
  refine hi B H ρ σ S _ _ st hf fun ds J B1 H1 g1 wk hsz hc D hD => ?_
  obtain ⟨gD, bD, nD⟩ := g1.base.newO (o := dnO w D [] [] [] 0) hD
  refine loop_data DnA.steady DnA.at his (hr D B1 H1 hD) ((st.grow g1).grow gD) (fun z => (st.grow g1).some_of z hD) wk (DnA.start g1.base hD) hc fun B' H' a' g' A' p => ?_
  obtain ⟨r, o⟩ := A'.fin hD
  exact k _ _ B' H' [D] (g1.trans A'.gr) r (o.back g1) p
end
end DL

/-! DLF3: dict comprehensions, keys tuples or texts and ints, one clause or two, as values and told to a name. -/
namespace DL
open PySem L2 PySem.Spec
open PyProof.Rows hiding St
set_option autoImplicit false
/-! ### by values, whatever context -/
def cD (K : PySem.W.Frag) (f : RD) : TE := fun σ H Q => ∃ B ρ S P, Stt K B H ρ σ S ∧ f ρ B.m P ∧ ∀ d v B' H', Grow K B H B' H' → Rep K B'.b d v → P d B'.m → Q v H'
theorem ED.run {X : Cx} {e : Expr} {f : RD} (h : ED X e f) : PE X e (cD X.K f) := by
  obtain ⟨te, hp, hs⟩ := h.ex
  exact ⟨fun pins s σ H Q I ⟨B, ρ, S, P, st, hf, k⟩ => hp.run pins s σ H Q I (hs B H ρ σ S P Q st hf k)⟩
theorem snd_cD {K : PySem.W.Frag} {f : RD} : SndD K (cD K f) f := fun B H ρ σ S P Q st hf k => ⟨B, ρ, S, P, st, hf, k⟩
theorem snd_cI {K : PySem.W.Frag} {f : RI} : SndI K (cI K f) f := fun B H ρ σ S P Q st hf k => ⟨B, ρ, S, P, st, hf, k⟩
/-! ### keys texts or ints -/
abbrev DkS := List Key × List OT
def gathK (tk tv : RD) : RK DkS := fun a ρ M P => tk ρ M fun y M => tv ρ M fun z M => ∃ k, keyOf y = some k ∧ a.2.length < sizeLine ∧ P (odKs a.1 k, odTs a.1 a.2 k (.fz z)) M
def putDk : TPut := fun D y z H Nx => ∃ kvs k, y = kV k ∧ H D = some (.dK kvs) ∧ kvs.length < sizeLine ∧ Nx (upd H D (.dK (putK kvs k z)))
theorem put_dk {Y : Cx} : PutOk Y putDk := by
  rintro pins s σ H D y z u r Nx I ry rz ⟨kvs, k, rfl, e, lt, nx⟩
  exact d_dictSet I e lt ry rz fun s' I' => ⟨_, I', nx⟩
section
variable {K : PySem.W.Frag}
abbrev DkA (K : PySem.W.Frag) (Bz : Kn) (Hz : Hp) (D : Addr) (B : Kn) (H : Hp) (a : DkS) : Prop := DcA K Bz Hz D B H a.1 a.2 ∧ a.2.length ≤ sizeLine
theorem DkA.at {Bz : Kn} {Hz : Hp} {D : Addr} (B : Kn) (H : Hp) (a : DkS) (h : DkA K Bz Hz D B H a) : B.m D = none ∧ H D ≠ none := by
  obtain ⟨xs, e, _⟩ := h.1.ex
  exact ⟨h.1.nm, by rw [e]; exact nofun⟩
theorem DkA.steady {Bz : Kn} {Hz : Hp} {D : Addr} : Steady K (DkA K Bz Hz D) := fun B B' H H' a h g => ⟨h.1.grow g, h.2⟩
theorem put_dataK {Bz : Kn} {Hz : Hp} {D : Addr} (hD : Hz D = none) {tk tv : RD} {te tz : TE} (hk : SndD K te tk) (hv : SndD K tz tv) : SndK K D (DkA K Bz Hz D) (putW putDk te tz D) (gathK tk tv) := by
  intro B H ρ σ S a P Nx st hDS A h fin
  refine hk B H ρ σ S _ _ st h fun y vy B1 H1 g1 r1 h1 => hv B1 H1 ρ σ S _ _ (st.grow g1) h1 fun z vz B2 H2 g2 r2 h2 => ?_
  obtain ⟨k, ek, lt, p⟩ := h2
  have A2 := (A.1.grow g1).grow g2
  obtain ⟨kvs, q1, q2, q3⟩ := A2.put hD r2 k
  refine ⟨kvs, k, keyOf_rep ek r1, q1, by rw [q2]; exact lt, fin B2 _ (odKs a.1 k, odTs a.1 a.2 k (.fz z)) (((st.base.grD.step g1).step g2).at A2.nb A2.nm) ⟨q3, ?_⟩ p⟩
  obtain ⟨ys, e4, e5, e6⟩ := A2.ex
  obtain ⟨_, _, _, _, _, e7, _⟩ := od_put r2 k e6 e5
  exact Nat.le_trans e7 lt
theorem snd_dk {wi : TI} {fi : RI} {is vs : List Nat} {g : RG} {f : RT} {rest : Rest} {t : RK DkS} (hi : SndI K wi fi) (his : ∀ i ∈ is, i ∈ vs) (hr : ∀ (D : Addr) (Bz : Kn) (Hz : Hp), Hz D = none → SndK K D (DkA K Bz Hz D) (rest D) t) :
    SndO K (tCg wi (cG K is g) (cT K f) vs (fun D => .dK []) rest) (fun ρ M P => fi ρ M fun items M => gath g f t (wipeE ρ vs) (fun a M => P (.od a.1 a.2) M) items ([], []) M) := by
  intro B H ρ σ S P Q st hf k
  refine hi B H ρ σ S _ _ st hf fun ds J B1 H1 g1 wk hsz hc D hD => ?_
  obtain ⟨gD, bD, nD⟩ := g1.base.newO (o := .dK []) hD
  refine loop_data DkA.steady DkA.at his (hr D B1 H1 hD) ((st.grow g1).grow gD) (fun z => (st.grow g1).some_of z hD) wk ⟨DcA.start g1.base hD, Nat.zero_le _⟩ hc fun B' H' a' g' A' p => ?_
  obtain ⟨r, o⟩ := A'.1.fin hD A'.2
  exact k _ _ B' H' [D] (g1.trans A'.1.gr) r (o.back g1) p
end
/-! ### the rules -/
section
variable {X : Cx} {tg iter tg1 iter1 kx vx : Expr} {ifs ifs1 : List Expr} {pos py spos : Pos} {scope : Scope} {own : List (Str × Nat)} {fi fi1 : RI} {is is1 vs1 : List Nat} {g g1 : RG} {f f1 : RT} {tk tv : RD}
theorem dk_new0 {pins : List (Addr × Obj)} {σ : L2.St} {H : Hp} {s : Shared} (I : L2.Inv X pins σ H s) : ObjOk X.prog X.w (upd H s.heap.objs.size (.dK [])) (s.heap.push { cls := .type "dict", data := .dict #[] }) s.heap.objs.size (.dK []) := dk_empty s.heap I.big
theorem dn_new0 {pins : List (Addr × Obj)} {σ : L2.St} {H : Hp} {s : Shared} (I : L2.Inv X pins σ H s) : ObjOk X.prog X.w (upd H s.heap.objs.size (dnO X.w s.heap.objs.size [] [] [] 0)) (s.heap.push { cls := .type "dict", data := .dict #[] }) s.heap.objs.size (dnO X.w s.heap.objs.size [] [] [] 0) := by
  have a := Heap.get?_push_size s.heap (o := { cls := .type "dict", data := .dict #[] }) rfl
  exact ⟨⟨beq_eq_false_iff_ne.mpr (Ne.symm (Nat.ne_of_lt I.big)), [], .nil, _, #[], a, ⟨rfl, rfl, rfl⟩, rfl, rfl⟩, ⟨_, a⟩, fun h1 h2 ⟨z, us, hv, o, es, e, c, d, en⟩ keep => ⟨z, us, hv, o, es, keep o e, c, d, en⟩⟩
/-- one clause: what its turns lead to, in its block -/
theorem one_deep {put : TPut} (hput : InBlk X scope fun Y => PutOk Y put) (hk : InBlk X scope fun Y => ED Y kx tk) (he : InBlk X scope fun Y => ED Y vx tv) (D : Addr) : InBlk X scope fun Y => DeepOk Y (putC kx vx D Y.env) (putW put (cD X.K tk) (cD X.K tv) D) [] :=
  fun s H C cl fp => put_deep (D := D) rfl (hk s H C cl fp).run (he s H C cl fp).run (hput s H C cl fp)
/-- two clauses -/
theorem two_deep {put : TPut} (hc : X.calm = true) (hput : InBlk X scope fun Y => PutOk Y put) (hi1 : InBlk X scope fun Y => EI Y tg1 iter1 fi1) (hg1 : InBlk X scope fun Y => EG Y tg1 is1 g1) (ht1 : InBlk X scope fun Y => ETs Y ifs1 f1) (hk : InBlk X scope fun Y => ED Y kx tk) (he : InBlk X scope fun Y => ED Y vx tv)
    (hs1 : ∀ env x, foldedSetIterable iter1 env x = pure x) (D : Addr) : InBlk X scope fun Y => DeepOk Y (nextC (.DictComp kx vx [⟨tg, iter, ifs, 0⟩, ⟨tg1, iter1, ifs1, 0⟩] scope pos) 1 iter1 (.ref D) Y.env) (nextW (cI X.K fi1) (cG X.K is1 g1) (cT X.K f1) vs1 (putW put (cD X.K tk) (cD X.K tv)) D) vs1 :=
  fun s H C cl fp => next_deep (deep := putC kx vx D) (us := []) rfl hc rfl (fun _ _ _ _ => ⟨rfl, rfl, rfl, rfl⟩) (fun _ _ => dict_turn1) (hi1 s H C cl fp).run (hs1 _) (hg1 s H C cl fp).run (ht1 s H C cl fp).run (fun _ h => nomatch h) (put_deep (D := D) rfl (hk s H C cl fp).run (he s H C cl fp).run (hput s H C cl fp))
theorem eo_dcN {w : World} (hu : X.A.units + 200 < cLine) (hc : X.calm = true) (hN : X.N.Nodup) (hi : EI X tg iter fi) (ok : BlkOk X.N X.env.scope scope own) (his : ∀ i ∈ is, i ∈ own.map (·.2)) (hg : InBlk X scope fun Y => EG Y tg is g) (ht : InBlk X scope fun Y => ETs Y ifs f)
    (hk : InBlk X scope fun Y => ED Y kx tk) (he : InBlk X scope fun Y => ED Y vx tv) (hs : ∀ x, foldedSetIterable iter X.env x = pure x := by intro _; rfl) (hw : X.w = w := by rfl) :
    EO X (.DictComp kx vx [⟨tg, iter, ifs, 0⟩] scope pos) (fun ρ M P => fi ρ M fun items M => gath g f (gathN tk tv) (wipeE ρ (own.map (·.2))) (fun a M => P (.on w a.1 a.2) M) items ([], []) M) := by
  subst hw
  obtain ⟨wi, pi, si⟩ := hi.ex
  exact ⟨_, pe_cg (rest := putW (putDn X.K X.w) (cD X.K tk) (cD X.K tv)) (begin_dict dn_new0) (fun _ => rfl) hc hN pi ok (fun s H C cl fp => (hg s H C cl fp).run) (fun s H C cl fp => (ht s H C cl fp).run) (one_deep (fun s H C cl fp => put_dn hu) hk he) (fun _ h => nomatch h) hs, snd_dn si his fun D Bz Hz hD => put_data hD snd_cD snd_cD⟩
theorem eo_dcN2 {w : World} (vs1 : List Nat) (hu : X.A.units + 200 < cLine) (hc : X.calm = true) (hN : X.N.Nodup) (hi : EI X tg iter fi) (ok : BlkOk X.N X.env.scope scope own) (his : ∀ i ∈ is, i ∈ own.map (·.2)) (his1 : ∀ i ∈ is1, i ∈ vs1) (hvs : ∀ i ∈ vs1, i ∈ own.map (·.2)) (hg : InBlk X scope fun Y => EG Y tg is g) (ht : InBlk X scope fun Y => ETs Y ifs f)
    (hi1 : InBlk X scope fun Y => EI Y tg1 iter1 fi1) (hg1 : InBlk X scope fun Y => EG Y tg1 is1 g1) (ht1 : InBlk X scope fun Y => ETs Y ifs1 f1) (hk : InBlk X scope fun Y => ED Y kx tk) (he : InBlk X scope fun Y => ED Y vx tv) (hs : ∀ x, foldedSetIterable iter X.env x = pure x := by intro _; rfl) (hs1 : ∀ env x, foldedSetIterable iter1 env x = pure x := by intro _ _; rfl) (hw : X.w = w := by rfl) :
    EO X (.DictComp kx vx [⟨tg, iter, ifs, 0⟩, ⟨tg1, iter1, ifs1, 0⟩] scope pos) (fun ρ M P => fi ρ M fun items M => gath g f (gathIn fi1 vs1 g1 f1 (gathN tk tv)) (wipeE ρ (own.map (·.2))) (fun a M => P (.on w a.1 a.2) M) items ([], []) M) := by
  subst hw
  obtain ⟨wi, pi, si⟩ := hi.ex
  exact ⟨_, pe_cg (rest := nextW (cI X.K fi1) (cG X.K is1 g1) (cT X.K f1) vs1 (putW (putDn X.K X.w) (cD X.K tk) (cD X.K tv))) (begin_dict2 dn_new0) (fun _ => rfl) hc hN pi ok (fun s H C cl fp => (hg s H C cl fp).run) (fun s H C cl fp => (ht s H C cl fp).run) (two_deep hc (fun s H C cl fp => put_dn hu) hi1 hg1 ht1 hk he hs1) hvs hs,
    snd_dn si his fun D Bz Hz hD => next_data DnA.steady DnA.at his1 (put_data hD snd_cD snd_cD) snd_cI⟩
theorem eo_dc2 (vs1 : List Nat) (hc : X.calm = true) (hN : X.N.Nodup) (hi : EI X tg iter fi) (ok : BlkOk X.N X.env.scope scope own) (his : ∀ i ∈ is, i ∈ own.map (·.2)) (his1 : ∀ i ∈ is1, i ∈ vs1) (hvs : ∀ i ∈ vs1, i ∈ own.map (·.2)) (hg : InBlk X scope fun Y => EG Y tg is g) (ht : InBlk X scope fun Y => ETs Y ifs f)
    (hi1 : InBlk X scope fun Y => EI Y tg1 iter1 fi1) (hg1 : InBlk X scope fun Y => EG Y tg1 is1 g1) (ht1 : InBlk X scope fun Y => ETs Y ifs1 f1) (hk : InBlk X scope fun Y => ED Y kx tk) (he : InBlk X scope fun Y => ED Y vx tv) (hs : ∀ x, foldedSetIterable iter X.env x = pure x := by intro _; rfl) (hs1 : ∀ env x, foldedSetIterable iter1 env x = pure x := by intro _ _; rfl) :
    EO X (.DictComp kx vx [⟨tg, iter, ifs, 0⟩, ⟨tg1, iter1, ifs1, 0⟩] scope pos) (fun ρ M P => fi ρ M fun items M => gath g f (gathIn fi1 vs1 g1 f1 (gathK tk tv)) (wipeE ρ (own.map (·.2))) (fun a M => P (.od a.1 a.2) M) items ([], []) M) := by
  obtain ⟨wi, pi, si⟩ := hi.ex
  exact ⟨_, pe_cg (rest := nextW (cI X.K fi1) (cG X.K is1 g1) (cT X.K f1) vs1 (putW putDk (cD X.K tk) (cD X.K tv))) (begin_dict2 dk_new0) (fun _ => rfl) hc hN pi ok (fun s H C cl fp => (hg s H C cl fp).run) (fun s H C cl fp => (ht s H C cl fp).run) (two_deep hc (fun s H C cl fp => put_dk) hi1 hg1 ht1 hk he hs1) hvs hs,
    snd_dk si his fun D Bz Hz hD => next_data DkA.steady DkA.at his1 (put_dataK hD snd_cD snd_cD) snd_cI⟩
/-! ### y = {..} -/
variable {x : Str}
theorem dc_used {gens : List Comprehension} {env : PySem.Env} {u : Value → Sem Unit} : evalThenUse (.DictComp kx vx gens scope pos) env u = (comprehension (.DictComp kx vx gens scope pos) scope env (firstIterPos gens pos) newDict (firstAsync gens) (firstIter gens env) (some u) >>= fun _ => pure ()) := rfl
theorem ds_setDc (i : Nat) (hc : X.calm = true) (hN : X.N.Nodup) (hi : EI X tg iter fi) (ok : BlkOk X.N X.env.scope scope own) (his : ∀ i ∈ is, i ∈ own.map (·.2)) (hg : InBlk X scope fun Y => EG Y tg is g) (ht : InBlk X scope fun Y => ETs Y ifs f)
    (hk : InBlk X scope fun Y => ED Y kx tk) (he : InBlk X scope fun Y => ED Y vx tv) (hsw : swapsWith (.DictComp kx vx [⟨tg, iter, ifs, 0⟩] scope pos) (some (.Name x py)) spos.line X.env = pure true) (hy : X.N[i]? = some x := by rfl) (hyl : X.env.scope.names.lookup x = some .local := by rfl) (hs : ∀ x, foldedSetIterable iter X.env x = pure x := by intro _; rfl) :
    DS X (.Assign [.Name x py] (.DictComp kx vx [⟨tg, iter, ifs, 0⟩] scope pos) spos) (fun P ρ M => fi ρ M fun items M => gath g f (gathK tk tv) (wipeE ρ (own.map (·.2))) (fun a M => i < ρ.length ∧ P.nx (ρ.set i (some (.od a.1 a.2))) M) items ([], []) M) := by
  obtain ⟨wi, pi, si⟩ := hi.ex
  exact ⟨_, ps_setCg (rest := putW putDk (cD X.K tk) (cD X.K tv)) (begin_dict dk_new0) (fun _ _ => rfl) hc hN hy hyl hsw pi ok (fun s H C cl fp => (hg s H C cl fp).run) (fun s H C cl fp => (ht s H C cl fp).run) (one_deep (fun s H C cl fp => put_dk) hk he) (fun _ h => nomatch h) hs, snd_setO (snd_dk si his fun D Bz Hz hD => put_dataK hD snd_cD snd_cD)⟩
theorem ds_setDc2 (i : Nat) (vs1 : List Nat) (hc : X.calm = true) (hN : X.N.Nodup) (hi : EI X tg iter fi) (ok : BlkOk X.N X.env.scope scope own) (his : ∀ i ∈ is, i ∈ own.map (·.2)) (his1 : ∀ i ∈ is1, i ∈ vs1) (hvs : ∀ i ∈ vs1, i ∈ own.map (·.2)) (hg : InBlk X scope fun Y => EG Y tg is g) (ht : InBlk X scope fun Y => ETs Y ifs f)
    (hi1 : InBlk X scope fun Y => EI Y tg1 iter1 fi1) (hg1 : InBlk X scope fun Y => EG Y tg1 is1 g1) (ht1 : InBlk X scope fun Y => ETs Y ifs1 f1) (hk : InBlk X scope fun Y => ED Y kx tk) (he : InBlk X scope fun Y => ED Y vx tv)
    (hsw : swapsWith (.DictComp kx vx [⟨tg, iter, ifs, 0⟩, ⟨tg1, iter1, ifs1, 0⟩] scope pos) (some (.Name x py)) spos.line X.env = pure true) (hy : X.N[i]? = some x := by rfl) (hyl : X.env.scope.names.lookup x = some .local := by rfl) (hs : ∀ x, foldedSetIterable iter X.env x = pure x := by intro _; rfl) (hs1 : ∀ env x, foldedSetIterable iter1 env x = pure x := by intro _ _; rfl) :
    DS X (.Assign [.Name x py] (.DictComp kx vx [⟨tg, iter, ifs, 0⟩, ⟨tg1, iter1, ifs1, 0⟩] scope pos) spos) (fun P ρ M => fi ρ M fun items M => gath g f (gathIn fi1 vs1 g1 f1 (gathK tk tv)) (wipeE ρ (own.map (·.2))) (fun a M => i < ρ.length ∧ P.nx (ρ.set i (some (.od a.1 a.2))) M) items ([], []) M) := by
  obtain ⟨wi, pi, si⟩ := hi.ex
  exact ⟨_, ps_setCg (rest := nextW (cI X.K fi1) (cG X.K is1 g1) (cT X.K f1) vs1 (putW putDk (cD X.K tk) (cD X.K tv))) (begin_dict2 dk_new0) (fun _ _ => rfl) hc hN hy hyl hsw pi ok (fun s H C cl fp => (hg s H C cl fp).run) (fun s H C cl fp => (ht s H C cl fp).run) (two_deep hc (fun s H C cl fp => put_dk) hi1 hg1 ht1 hk he hs1) hvs hs,
    snd_setO (snd_dk si his fun D Bz Hz hD => next_data DkA.steady DkA.at his1 (put_dataK hD snd_cD snd_cD) snd_cI)⟩
theorem ds_setDcN {w : World} (i : Nat) (hu : X.A.units + 200 < cLine) (hc : X.calm = true) (hN : X.N.Nodup) (hi : EI X tg iter fi) (ok : BlkOk X.N X.env.scope scope own) (his : ∀ i ∈ is, i ∈ own.map (·.2)) (hg : InBlk X scope fun Y => EG Y tg is g) (ht : InBlk X scope fun Y => ETs Y ifs f)
    (hk : InBlk X scope fun Y => ED Y kx tk) (he : InBlk X scope fun Y => ED Y vx tv) (hsw : swapsWith (.DictComp kx vx [⟨tg, iter, ifs, 0⟩] scope pos) (some (.Name x py)) spos.line X.env = pure true) (hy : X.N[i]? = some x := by rfl) (hyl : X.env.scope.names.lookup x = some .local := by rfl) (hs : ∀ x, foldedSetIterable iter X.env x = pure x := by intro _; rfl) (hw : X.w = w := by rfl) :
    DS X (.Assign [.Name x py] (.DictComp kx vx [⟨tg, iter, ifs, 0⟩] scope pos) spos) (fun P ρ M => fi ρ M fun items M => gath g f (gathN tk tv) (wipeE ρ (own.map (·.2))) (fun a M => i < ρ.length ∧ P.nx (ρ.set i (some (.on w a.1 a.2))) M) items ([], []) M) := by
  subst hw
  obtain ⟨wi, pi, si⟩ := hi.ex
  exact ⟨_, ps_setCg (rest := putW (putDn X.K X.w) (cD X.K tk) (cD X.K tv)) (begin_dict dn_new0) (fun _ _ => rfl) hc hN hy hyl hsw pi ok (fun s H C cl fp => (hg s H C cl fp).run) (fun s H C cl fp => (ht s H C cl fp).run) (one_deep (fun s H C cl fp => put_dn hu) hk he) (fun _ h => nomatch h) hs, snd_setO (snd_dn si his fun D Bz Hz hD => put_data hD snd_cD snd_cD)⟩
theorem ds_setDcN2 {w : World} (i : Nat) (vs1 : List Nat) (hu : X.A.units + 200 < cLine) (hc : X.calm = true) (hN : X.N.Nodup) (hi : EI X tg iter fi) (ok : BlkOk X.N X.env.scope scope own) (his : ∀ i ∈ is, i ∈ own.map (·.2)) (his1 : ∀ i ∈ is1, i ∈ vs1) (hvs : ∀ i ∈ vs1, i ∈ own.map (·.2)) (hg : InBlk X scope fun Y => EG Y tg is g) (ht : InBlk X scope fun Y => ETs Y ifs f)
    (hi1 : InBlk X scope fun Y => EI Y tg1 iter1 fi1) (hg1 : InBlk X scope fun Y => EG Y tg1 is1 g1) (ht1 : InBlk X scope fun Y => ETs Y ifs1 f1) (hk : InBlk X scope fun Y => ED Y kx tk) (he : InBlk X scope fun Y => ED Y vx tv)
    (hsw : swapsWith (.DictComp kx vx [⟨tg, iter, ifs, 0⟩, ⟨tg1, iter1, ifs1, 0⟩] scope pos) (some (.Name x py)) spos.line X.env = pure true) (hy : X.N[i]? = some x := by rfl) (hyl : X.env.scope.names.lookup x = some .local := by rfl) (hs : ∀ x, foldedSetIterable iter X.env x = pure x := by intro _; rfl) (hs1 : ∀ env x, foldedSetIterable iter1 env x = pure x := by intro _ _; rfl) (hw : X.w = w := by rfl) :
    DS X (.Assign [.Name x py] (.DictComp kx vx [⟨tg, iter, ifs, 0⟩, ⟨tg1, iter1, ifs1, 0⟩] scope pos) spos) (fun P ρ M => fi ρ M fun items M => gath g f (gathIn fi1 vs1 g1 f1 (gathN tk tv)) (wipeE ρ (own.map (·.2))) (fun a M => i < ρ.length ∧ P.nx (ρ.set i (some (.on w a.1 a.2))) M) items ([], []) M) := by
  subst hw
  obtain ⟨wi, pi, si⟩ := hi.ex
  exact ⟨_, ps_setCg (rest := nextW (cI X.K fi1) (cG X.K is1 g1) (cT X.K f1) vs1 (putW (putDn X.K X.w) (cD X.K tk) (cD X.K tv))) (begin_dict2 dn_new0) (fun _ _ => rfl) hc hN hy hyl hsw pi ok (fun s H C cl fp => (hg s H C cl fp).run) (fun s H C cl fp => (ht s H C cl fp).run) (two_deep hc (fun s H C cl fp => put_dn hu) hi1 hg1 ht1 hk he hs1) hvs hs,
    snd_setO (snd_dn si his fun D Bz Hz hD => next_data DnA.steady DnA.at his1 (put_data hD snd_cD snd_cD) snd_cI)⟩
end
end DL

/-! DLD: dicts whose keys are tuples: loops over them, len, list. -/
namespace DL
open PySem L2 PySem.Spec
open PyProof.Rows hiding St
set_option autoImplicit false
/-- its entries in the machine -/
structure RawN (w : World) (h : Heap) (d : Addr) (nks : List NestedKey) (as : List Addr) (vs : List V) (ep : Nat) (es : Array DictEntry) (us : List Value) : Prop where
  sys : (d == sysModules) = false
  vals : Vals vs us
  raw : h.DictRaw d es ep
  rows : es.toList = (entsN nks as us).map fun x => ⟨x.1.hash w, .ref x.2.1, x.2.2⟩
section
variable {X : Cx} {pins : List (Addr × Obj)} {σ : L2.St} {H : Hp} {s : Shared} {w : World}
theorem raw_of (I : L2.Inv X pins σ H s) {d : Addr} {nks : List NestedKey} {as : List Addr} {vs : List V} {ep : Nat} (e : H d = some (dnO w d nks as vs ep)) : ∃ es us, RawN w s.heap d nks as vs ep es us := by
  obtain ⟨⟨hs, us, hv, o, es, e, c, dd, en⟩, _⟩ := I.hok d _ e
  exact ⟨es, us, hs, hv, ⟨o, e, c, dd⟩, en⟩
variable {d : Addr} {nks : List NestedKey} {as : List Addr} {vs : List V} {ep : Nat} {es : Array DictEntry} {us : List Value} {h : Heap}
theorem RawN.size (r : RawN w h d nks as vs ep es us) (h1 : as.length = nks.length) (h2 : vs.length = nks.length) : es.size = nks.length := by
  have l : us.length = nks.length := by rw [← r.vals.length]; exact h2
  have z := congrArg List.length r.rows
  rw [List.length_map, Array.length_toList] at z
  unfold entsN at z
  rw [List.length_zip, List.length_zip] at z
  omega
theorem RawN.key (r : RawN w h d nks as vs ep es us) {i : Nat} (hi : i < es.size) : ∃ b, as[i]? = some b ∧ es[i].key = .ref b := by
  have z : es.toList[i]? = some es[i] := by rw [Array.getElem?_toList]; exact Array.getElem?_eq_getElem hi
  rw [r.rows, List.getElem?_map] at z
  obtain ⟨x, hx, ex⟩ := Option.map_eq_some_iff.mp z
  unfold entsN at hx
  obtain ⟨_, q⟩ := List.getElem?_zip_eq_some.mp hx
  obtain ⟨q, _⟩ := List.getElem?_zip_eq_some.mp q
  exact ⟨x.2.1, q, by rw [← ex]⟩
theorem raw_same {o : Obj} {es' : Array DictEntry} {ep' : Nat} (a : h.DictRaw d es ep) (b : h.DictRaw d es' ep') : es' = es := by
  obtain ⟨o1, h1, _, d1⟩ := a
  obtain ⟨o2, h2, _, d2⟩ := b
  rw [h1] at h2
  cases h2
  rw [d1] at d2
  cases d2
  rfl
end
/-! ### for k in d -/
structure DnFor (w : World) (d : Addr) (n ep : Nat) (H : Hp) (nks : List NestedKey) (as : List Addr) (vs : List V) : Prop where
  at_ : H d = some (dnO w d nks as vs ep)
  la : as.length = nks.length
  lv : vs.length = nks.length
  ln : nks.length = n
def ItN (w : World) (d : Addr) (n ep : Nat) : It :=
  ⟨fun i H => i < n ∧ ∃ nks as vs, DnFor w d n ep H nks as vs, fun i H x H' => H' = H ∧ ∀ nks as vs, DnFor w d n ep H nks as vs → ∃ b, as[i]? = some b ∧ x = .ref b, fun i H => n ≤ i ∧ ∃ nks as vs, DnFor w d n ep H nks as vs⟩
section
variable {P : Program} {w : World} {K : PySem.W.Frag} {tg : Expr} {d : Addr} {n ep : Nat}
theorem turn_keysN (it : Addr) : Turn P w K tg (ItN w d n ep) [it] it (fun i h => h.IsKeyIter it d i n ep) where
  mem := List.mem_singleton.mpr rfl
  obj i h S b hb := by
    rw [List.mem_singleton.mp hb]
    obtain ⟨o, q, _, dd⟩ := S
    exact ⟨o, q, fun v z => by rw [dd] at z; cases z⟩
  keep i h h' S k := S.at fun o q => k it (List.mem_singleton.mpr rfl) o q
  item := by
    rintro X rfl rfl rfl hc i pins s σ H E I hf S ⟨lt, nks, as, vs, F⟩
    obtain ⟨es, us, r⟩ := raw_of I F.at_
    have hsz : es.size = n := by rw [r.size F.la F.lv, F.ln]
    have hi : i < es.size := by rw [hsz]; exact lt
    have f := hf it (List.mem_singleton.mpr rfl)
    obtain ⟨o, ho, hx, hdt⟩ := r.raw
    refine next_key_item S ho hdt hsz (Array.getElem?_eq_getElem hi) fun h' S' sb => ⟨_, rfl, ?_⟩
    have I' : L2.Inv X pins σ H { s with heap := h' } := I.turned (t' := s.toks) (fun b o hb q => (sb.2 b hb).trans q) f.1 f.2.1 f.2.2.2.1 f.2.2.2.2.1 f.2.2.2.2.2
    obtain ⟨b, hb, eb⟩ := r.key hi
    rw [eb]
    obtain ⟨oi, q1, q2, q3⟩ := id S'
    refine go_of (s := { s with heap := h' }) q1 q2 q3 (by decide) ⟨.ref b, H, I', rfl, ⟨rfl, fun nks' as' vs' F' => ?_⟩, S', fun c hc => by rw [List.mem_singleton.mp hc]; exact f.1⟩
    obtain ⟨es', us', r'⟩ := raw_of I F'.at_
    have e' := raw_same (o := o) r.raw r'.raw
    subst e'
    obtain ⟨b', hb', eb'⟩ := r'.key hi
    exact ⟨b', hb', by rw [eb] at eb'; cases eb'; rfl⟩
  done := by
    rintro X rfl rfl rfl hc i pins s σ H E I hf S ⟨ge, nks, as, vs, F⟩
    obtain ⟨es, us, r⟩ := raw_of I F.at_
    have f := hf it (List.mem_singleton.mpr rfl)
    obtain ⟨o, ho, hx, hdt⟩ := r.raw
    exact next_key_end (I.ok.hd hc) S ho hdt (by rw [r.size F.la F.lv, F.ln]) ge fun h' sb => ⟨rfl, I.turned (t' := s.toks) (fun b o hb q => sb b o hb q) f.1 f.2.1 f.2.2.2.1 f.2.2.2.2.1 f.2.2.2.2.2⟩
  self A i s Q E S q := wpAny_pyIter_keyiter S q
theorem walks_dn {B0 : Hp} {ks : List D} {as : List Addr} {vs : List V} (h : B0 d = some (dnO w d (ks.map D.key) as vs ep)) (la : as.length = ks.length) (lv : vs.length = ks.length) (rk : Reps K B0 ks (as.map V.ref)) : Walks K (ItN w d ks.length ep) ks B0 where
  go B H i k e bs hk := by
    have F : DnFor w d ks.length ep H (ks.map D.key) as vs := ⟨bs.bh _ _ (e _ _ h), by rw [List.length_map]; exact la, by rw [List.length_map]; exact lv, List.length_map _⟩
    refine ⟨⟨?_, _, _, _, F⟩, fun x H' ⟨hH, y⟩ => ?_⟩
    · rcases Nat.lt_or_ge i ks.length with z | z
      · exact z
      · rw [List.getElem?_eq_none z] at hk; cases hk
    · subst hH
      obtain ⟨b, hb, rfl⟩ := y _ _ _ F
      refine ⟨B, bs.grow, rfl, ?_⟩
      obtain ⟨v, hv, rv⟩ := (rk.up e).getD hk
      rw [List.getElem?_map, hb] at hv
      cases hv
      exact rv
  stop B H i e bs hi := ⟨hi, _, _, _, ⟨bs.bh _ _ (e _ _ h), by rw [List.length_map]; exact la, by rw [List.length_map]; exact lv, List.length_map _⟩⟩
end
def iKeysN (w : World) (td : TE) : TI := fun σ H R => td σ H fun x H1 => ∃ d n ep nks as vs, x = .ref d ∧ DnFor w d n ep H1 nks as vs ∧ R (ItN w d n ep) H1
section
variable {X : Cx} {tg e : Expr} {fa : RD} {pos p : Pos}
theorem pi_keysN {td : TE} (he : PE X e td) : PI X tg e (iKeysN X.w td) := by
  refine ⟨fun pins s σ H R I h => thn (he.run pins s σ H _ I h) fun u s1 ⟨x, H1, I1, rx, d, n, ep, nks, as, vs, ex, F, q⟩ => ?_⟩
  subst ex
  cases rx
  obtain ⟨es, us, r⟩ := raw_of I1 F.at_
  obtain ⟨o, ho, hx, hdt⟩ := r.raw
  refine iter_keys r.sys ho hx hdt (pi_one (tk := s1.toks) I1 _ (turn_keysN _) ⟨_, Heap.get?_push_size _ rfl, rfl, ?_⟩ q)
  rw [r.size F.la F.lv, F.ln]
  rfl
/-- for k in d -/
theorem ei_dn {w : World} (ha : ED X e fa) (hw : X.w = w := by rfl) : EI X tg e (fun ρ M P => fa ρ M fun d M => ∃ ks l, d = .dn w ks l ∧ P ks M) := by
  subst hw
  obtain ⟨ta, pa, sa⟩ := ha.ex
  refine ⟨_, pi_keysN pa, fun B H ρ σ S P R st hf k => sa B H ρ σ S _ _ st hf fun d v B' H' g r p => ?_⟩
  obtain ⟨ks, l, rfl, p⟩ := p
  cases r with
  | @dn a _ _ _ as vs ep hb ok h1 h2 rk rv =>
    have la : as.length = ks.length := by have := rk.length; rw [List.length_map] at this; exact this.symm
    have lv : vs.length = ks.length := by rw [h1]; exact rv.length.symm
    exact ⟨a, ks.length, ep, ks.map D.key, as, vs, rfl, ⟨g.base.bh _ _ hb, by rw [List.length_map]; exact la, by rw [List.length_map]; exact lv, List.length_map _⟩, k ks _ B' H' g (walks_dn hb la lv rk) (by rw [h1]; exact h2) p⟩
/-! ### len(d) -/
def hLenN (w : World) (ds : List D) (M : Mem) (P : D → Mem → Prop) : Prop := ∃ ks l, ds = [.dn w ks l] ∧ P (.int ks.length) M
theorem call_lenN : CallR X (.builtin "len") (fun xs H Q => ∃ a ks as vs, xs = [V.ref a] ∧ DnH X.K X.w H a ks as vs ∧ Q (.int ks.length) H) := by
  rintro pins s σ H xs us Q I r ⟨a, ks, as, vs, rfl, hd, q⟩
  obtain ⟨u, rfl, ru⟩ := vals1 r
  cases ru
  obtain ⟨hs, us, hv, l1, l2, dd⟩ := hd.of I
  have ln : (entsN (ks.map D.key) as us).length = ks.length := by
    unfold entsN
    rw [List.length_zip, List.length_zip, List.length_map]
    omega
  have fit : (ks.length : Int) < 2 ^ 63 := by have := hd.fit; have := hd.len; have hz : sizeLine = 16777216 := sizeLine_eq; omega
  refine call_len_dictH hs dd (by rw [ln]; exact fit) ?_
  rw [ln]
  exact ⟨.int ((ks.length : Nat) : Int), H, I.tok _, ⟨_, rfl⟩, q⟩
theorem ed_lenN {w : World} {f : RA} (hm : X.mg "len" = none) (ha : AV X [e] f) (hg : Gl X "len" := by rfl) (he : starEach [e] X.env = (false, eval e X.env) :: starEach [] X.env := by rfl) (hw : X.w = w := by rfl) : ED X (.Call (.Name "len" p) [e] [] pos) (fun ρ M P => f ρ M fun ds M => hLenN w ds M P) := by
  subst hw
  refine ed_callB call_lenN (fun B H ds vs P Q bs r h k => ?_) ha hm PySem.boot_len hg (by decide) (by decide) he rfl
  obtain ⟨ks, l, rfl, h⟩ := h
  obtain ⟨v, rfl, q⟩ := r.one
  cases q with
  | @dn a _ _ _ as vs ep hb ok h1 h2 rk rv =>
    have lv := rv.length
    exact ⟨a, ks, as, vs, rfl, ⟨⟨ep, Hm_ext _ _ hb⟩, ok, by rw [h1, lv], by rw [← lv]; exact h2, rk.up Hm_ext⟩, k _ _ B H bs.grow (.int _) h⟩
/-! ### list(d) -/
theorem kdl_raw {P : Program} {w : World} {d : Addr} {es : Array DictEntry} {ep : Nat} (lo : (d == sysModules) = false) : PySem.W.KdlSrc P w "dict" d d es.size (fun i v => ∃ hi : i < es.size, v = es[i].key) (fun h => h.DictRaw d es ep) where
  type s r := r.typeIs
  there h r := by
    obtain ⟨o, q, _⟩ := r
    exact ⟨Heap.lt_size q, Heap.lt_size q⟩
  keep h h' r k := r.at fun o q => k d (.inl rfl) o q
  notList := by decide
  notTuple := by decide
  hint A E s Q r q := PySem.W.kdl_hint_dict r.typeIs q
  iter A s hh r := by
    obtain ⟨o, q, _⟩ := id r
    exact ⟨_, _, fun E Q z => wpAny_pyIter_dict_raw lo r z, Walks.rawKeys hh _ d (Nat.ne_of_lt (Heap.lt_size q)) es ep, ⟨_, Heap.get?_push_size _ rfl, rfl, rfl⟩, r.at fun o z => Heap.get?_push_of_some _ z⟩
theorem vals_refs : ∀ as : List Addr, Vals (as.map V.ref) (as.map Value.ref)
  | [] => .nil
  | _ :: as => .cons rfl (vals_refs as)
theorem call_listN (hc : X.calm = true) : CallR X (.type "list") (fun xs H Q => ∃ a nks as vs ep, xs = [V.ref a] ∧ DnFor X.w a nks.length ep H nks as vs ∧ nks.length ≤ sizeLine ∧ ∀ p, H p = none → Q (.ref p) (upd H p (.lst (as.map V.ref)))) := by
  rintro pins s σ H xs us Q I r ⟨a, nks, as, vs, ep, rfl, F, fit, q⟩
  obtain ⟨u, rfl, ru⟩ := vals1 r
  cases ru
  obtain ⟨es, us, raw⟩ := raw_of I F.at_
  have hsz := raw.size F.la F.lv
  refine PySem.W.kdl_call (kdl_raw raw.sys) (I.ok.hd hc) raw.raw (by rw [hsz]; exact fit) fun h' tk acc c keep new items => ?_
  have hp : H s.heap.objs.size = none := I.hok.fresh (Nat.le_refl _)
  have hacc : acc.toList = as.map Value.ref := by
    refine List.ext_getElem? fun i => ?_
    rw [Array.getElem?_toList, List.getElem?_map]
    rcases Nat.lt_or_ge i es.size with z | z
    · obtain ⟨b, hb, eb⟩ := raw.key z
      rw [hb]
      have za : i < acc.size := by rw [items.1]; exact z
      have y := Array.getElem?_eq_getElem za
      obtain ⟨_, e⟩ := items.2 i _ y
      rw [y, e, eb]
      rfl
    · rw [Array.getElem?_eq_none (by rw [items.1]; exact z), List.getElem?_eq_none (by rw [F.la, ← hsz]; exact z)]
      rfl
  have rel : Vals (as.map V.ref) acc.toList := by
    rw [hacc]
    exact vals_refs as
  exact ⟨.ref s.heap.objs.size, upd H s.heap.objs.size (.lst (as.map V.ref)), I.laid (t' := tk) (fun b o z => keep b o z) (Nat.le_refl _) ⟨by rw [List.length_map, F.la]; exact fit, acc.toList, c, rel, by rw [Array.toArray_toList]; exact new⟩, rfl, q _ hp⟩
def hListN (w : World) (ds : List D) (M : Mem) (P : OT → Mem → Prop) : Prop := ∃ ks l, ds = [.dn w ks l] ∧ P (.ow (ks.map .fz)) M
theorem eo_listN {w : World} {f : RA} (hc : X.calm = true) (hm : X.mg "list" = none) (ha : AD X [e] f) (hg : Gl X "list" := by rfl) (he : starEach [e] X.env = (false, eval e X.env) :: starEach [] X.env := by rfl) (hw : X.w = w := by rfl) : EO X (.Call (.Name "list" p) [e] [] pos) (fun ρ M P => f ρ M fun ds M => hListN w ds M P) := by
  subst hw
  refine eo_callT (call_listN hc) (fun B H ds vs P Q bs r h k => ?_) ha hm (by decide +kernel) hg (by decide) (by decide) he rfl
  obtain ⟨ks, l, rfl, h⟩ := h
  obtain ⟨v, rfl, q⟩ := r.one
  cases q with
  | @dn a _ _ _ as vs ep hb ok h1 h2 rk rv =>
    have la : as.length = ks.length := by have := rk.length; rw [List.length_map] at this; exact this.symm
    have lv : vs.length = ks.length := by rw [h1]; exact rv.length.symm
    exact ⟨a, ks.map D.key, as, vs, ep, rfl, ⟨bs.bh _ _ hb, by rw [List.length_map]; exact la, by rw [List.length_map]; exact lv, rfl⟩, by rw [List.length_map, h1]; exact h2, new_list bs rk (by rw [h1]; exact h2) h k⟩
end
end DL

/-! DLD2: what is gathered, computed; pairs as keys; sorted pairs; what sinks. -/
namespace DL
open PySem L2 PySem.Spec
open PyProof.Rows hiding St
set_option autoImplicit false
theorem gath_rec {α : Type} {g : RG} {f : RT} {t : RK α} {ρ : Env} {P : α → Mem → Prop} (I : List D → α → Mem → Prop) : ∀ (items : List D) (a : α) (M : Mem), I items a M → (∀ a M, I [] a M → P a M) →
    (∀ d ds a M, I (d :: ds) a M → ∀ C : α → Mem → Prop, (∀ a M, I ds a M → C a M) → g d ρ M fun ρ' M => f ρ' M fun b M => if b = true then t a ρ' M C else C a M) → gath g f t ρ P items a M
  | [], a, M, h0, hn, _ => hn a M h0
  | d :: ds, a, M, h0, hn, hs => hs d ds a M h0 (fun a M => gath g f t ρ P ds a M) fun a M h => gath_rec I ds a M h hn hs
/-! ### keys that are new -/
theorem hasQ_no {ks : List D} {k : D} (h : k.key ∉ ks.map D.key) : hasQ ks k = false := by
  cases e : hasQ ks k with
  | false => rfl
  | true => exact absurd (hasN_iff.mp e) h
theorem storeN_new {a : DnS} {y z : D} (h : y.key ∉ a.1.map D.key) : storeN a y z = (a.1 ++ [y], a.2 ++ [.fz z]) := by
  unfold storeN ksN vsN
  rw [hasQ_no h]
  rfl
/-- {K x: V x for x in l if keep x}, the keys unlike -/
theorem gathN_fm {α : Type} {F Kf Vf : α → D} {keep : α → Bool} {g : RG} {f : RT} {tk tv : RD} {ρ : Env} {P : DnS → Mem → Prop} {M : Mem} {l : List α}
    (ok : ∀ x ∈ l, keep x = true → KeyOk (Kf x)) : ∀ {a : DnS}, ((a.1 ++ (l.filter keep).map Kf).map D.key).Nodup → a.2.length + l.length ≤ sizeLine →
    (∀ x ∈ l, ∀ (a : DnS) (C : DnS → Mem → Prop), (keep x = true → KeyOk (Kf x) ∧ a.2.length < sizeLine ∧ C (storeN a (Kf x) (Vf x)) M) → (keep x = false → C a M) → a.2.length < sizeLine → g (F x) ρ M fun ρ' M => f ρ' M fun b M => if b = true then gathN tk tv a ρ' M C else C a M) →
    P (a.1 ++ (l.filter keep).map Kf, a.2 ++ (l.filter keep).map fun x => .fz (Vf x)) M → gath g f (gathN tk tv) ρ P (l.map F) a M := by
  induction l with
  | nil =>
    intro a _ _ _ k
    rw [List.map_nil]
    show P a M
    simpa using k
  | cons x l ih =>
    intro a nd hz s k
    rw [List.length_cons] at hz
    have lt : a.2.length < sizeLine := by omega
    refine s x List.mem_cons_self a _ (fun hk => ⟨ok x List.mem_cons_self hk, lt, ?_⟩) (fun hk => ?_) lt
    · rw [List.filter_cons_of_pos hk, List.map_cons] at nd k
      rw [List.map_cons] at k
      have nd2 := nd
      rw [List.map_append, List.map_cons] at nd
      have hn : (Kf x).key ∉ a.1.map D.key := fun z => (List.nodup_append.mp nd).2.2 _ z _ List.mem_cons_self rfl
      rw [storeN_new hn]
      refine ih (fun y hy => ok y (List.mem_cons_of_mem _ hy)) (by rw [List.append_assoc]; exact nd2) (by rw [List.length_append, List.length_singleton]; omega) (fun y hy => s y (List.mem_cons_of_mem _ hy)) ?_
      rw [List.append_assoc, List.append_assoc]
      exact k
    · rw [List.filter_cons_of_neg (by simp [hk])] at nd k
      exact ih (fun y hy => ok y (List.mem_cons_of_mem _ hy)) nd (by omega) (fun y hy => s y (List.mem_cons_of_mem _ hy)) k
/-- .. for x in l for y in L x if keep .. -/
theorem gathIn_all {α : Type} {F : α → D} {G : α → DnS} {g : RG} {f : RT} {t : RK DnS} {ρ : Env} {P : DnS → Mem → Prop} {M : Mem} {l : List α} : ∀ {a : DnS},
    (∀ x ∈ l, ∀ (done : List α) (C : DnS → Mem → Prop), (done ++ [x]) <+: l → C (a.1 ++ (done ++ [x]).flatMap fun y => (G y).1, a.2 ++ (done ++ [x]).flatMap fun y => (G y).2) M →
      g (F x) ρ M fun ρ' M => f ρ' M fun b M => if b = true then t (a.1 ++ done.flatMap fun y => (G y).1, a.2 ++ done.flatMap fun y => (G y).2) ρ' M C else C (a.1 ++ done.flatMap fun y => (G y).1, a.2 ++ done.flatMap fun y => (G y).2) M) →
    P (a.1 ++ l.flatMap fun y => (G y).1, a.2 ++ l.flatMap fun y => (G y).2) M → gath g f t ρ P (l.map F) a M := by
  intro a s k
  have go : ∀ (rest done : List α), done ++ rest = l → gath g f t ρ P (rest.map F) (a.1 ++ done.flatMap fun y => (G y).1, a.2 ++ done.flatMap fun y => (G y).2) M := by
    intro rest
    induction rest with
    | nil =>
      intro done e
      rw [List.append_nil] at e
      subst e
      exact k
    | cons x rest ih =>
      intro done e
      refine s x (by rw [← e]; simp) done _ ⟨rest, by rw [← e]; simp⟩ ?_
      exact ih (done ++ [x]) (by rw [← e]; simp)
  have := go l [] rfl
  simpa using this
/-- {k: v for x in l}, keys texts or ints, unlike -/
theorem gathK_map {α : Type} {F Vf : α → D} {Kf : α → Key} {g : RG} {f : RT} {tk tv : RD} {ρ : Env} {P : DkS → Mem → Prop} {M : Mem} {l : List α} : ∀ {a : DkS}, (a.1 ++ l.map Kf).Nodup → a.2.length + l.length ≤ sizeLine →
    (∀ x ∈ l, ∀ (a : DkS) (C : DkS → Mem → Prop), a.2.length < sizeLine → C (odKs a.1 (Kf x), odTs a.1 a.2 (Kf x) (.fz (Vf x))) M → g (F x) ρ M fun ρ' M => f ρ' M fun b M => if b = true then gathK tk tv a ρ' M C else C a M) →
    P (a.1 ++ l.map Kf, a.2 ++ l.map fun x => .fz (Vf x)) M → gath g f (gathK tk tv) ρ P (l.map F) a M := by
  induction l with
  | nil =>
    intro a _ _ _ k
    rw [List.map_nil]
    show P a M
    simpa using k
  | cons x l ih =>
    intro a nd hz s k
    rw [List.length_cons] at hz
    have hno : hasK a.1 (Kf x) = false := by
      unfold hasK
      rw [List.any_eq_false]
      intro z hz' e
      rw [List.map_cons] at nd
      exact (List.nodup_append.mp nd).2.2 z hz' (Kf x) List.mem_cons_self (of_decide_eq_true e)
    refine s x List.mem_cons_self a _ (by omega) ?_
    unfold odKs odTs
    rw [hno]
    simp only [Bool.false_eq_true, if_false]
    refine ih (by rw [List.append_assoc]; exact nd) (by rw [List.length_append, List.length_singleton]; omega) (fun y hy => s y (List.mem_cons_of_mem _ hy)) ?_
    rw [List.append_assoc, List.append_assoc]
    exact k
theorem compDc_gath {g : RG} {f : RT} {tk tv : RD} {ρ : Env} {P : List Key → List OT → Mem → Prop} : ∀ ds : List D, compDc g f tk tv ρ P ds = fun ks l M => gath g f (gathK tk tv) ρ (fun a M => P a.1 a.2 M) ds (ks, l) M
  | [] => rfl
  | d :: ds => by
    funext ks l M
    rw [compDc, compDc_gath ds]
    rfl
theorem hAll_any {α : Type} {p : α → Bool} {l : List α} {M : Mem} {P : D → Mem → Prop} (h : P (.bl (l.any p)) M) : hAll (fun x => x.any id) [.lst (l.map fun a => .bl (p a))] M P :=
  ⟨l.map p, by rw [List.map_map]; rfl, by show P (.bl ((l.map p).any id)) M; rw [List.any_map]; exact h⟩
theorem hAll_all {α : Type} {p : α → Bool} {l : List α} {M : Mem} {P : D → Mem → Prop} (h : P (.bl (l.all p)) M) : hAll (fun x => x.all id) [.lst (l.map fun a => .bl (p a))] M P :=
  ⟨l.map p, by rw [List.map_map]; rfl, by show P (.bl ((l.map p).all id)) M; rw [List.all_map]; exact h⟩
/-! ### pairs as keys -/
theorem keyOk_pr (p : Str × Str) : KeyOk (prD p) := ⟨⟨_, rfl⟩, (prD_ok p).1, by simp [prD, D.key, D.keys, NestedKey.depth, NestedKey.depthAll]⟩
theorem prs_keys {l : List (Str × Str)} (h : l.Nodup) : ((l.map prD).map D.key).Nodup := by
  rw [List.map_map]
  exact List.pairwise_map.mpr (h.imp fun {a b} ne e => ne (key_pr e))
theorem hasQ_prs {l : List (Str × Str)} {x y : Str} : hasQ (l.map prD) (.tup [.str x, .str y]) = decide ((x, y) ∈ l) := by
  refine Bool.eq_iff_iff.mpr ⟨fun h => decide_eq_true ?_, fun h => hasN_iff.mpr ?_⟩
  · have := hasN_iff.mp h
    rw [List.map_map] at this
    obtain ⟨q, hq, e⟩ := List.mem_map.mp this
    have := key_pr (p := q) (q := (x, y)) e
    rw [← this]
    exact hq
  · rw [List.map_map]
    exact List.mem_map.mpr ⟨(x, y), of_decide_eq_true h, rfl⟩
theorem hInN_prs {w : World} {gg : Bool → Bool} {l : List (Str × Str)} {ls : List D} {x y : Str} {M : Mem} {P : D → Mem → Prop} : hInN w gg (.tup [.str x, .str y]) (.dn w (l.map prD) ls) M P = P (.bl (gg (decide ((x, y) ∈ l)))) M := by
  refine propext ⟨fun ⟨ks, ds, e, _, h⟩ => ?_, fun h => ⟨_, _, rfl, keyOk_pr (x, y), ?_⟩⟩
  · cases e
    rw [hasQ_prs] at h
    exact h
  · rw [hasQ_prs]
    exact h
theorem hLenN_dn {w : World} {ks ls : List D} {M : Mem} {P : D → Mem → Prop} : hLenN w [.dn w ks ls] M P = P (.int ks.length) M :=
  propext ⟨fun ⟨_, _, e, h⟩ => by cases e; exact h, fun h => ⟨_, _, rfl, h⟩⟩
theorem hListN_dn {w : World} {ks ls : List D} {M : Mem} {P : OT → Mem → Prop} : hListN w [.dn w ks ls] M P = P (.ow (ks.map .fz)) M :=
  propext ⟨fun ⟨_, _, e, h⟩ => by cases e; exact h, fun h => ⟨_, _, rfl, h⟩⟩
theorem isIn_prs {x y : Str} {l : List (Str × Str)} : D.isIn (.tup [.str x, .str y]) (l.map prD) = decide ((x, y) ∈ l) := by
  unfold D.isIn
  rw [List.any_map]
  refine Bool.eq_iff_iff.mpr ⟨fun h => ?_, fun h => ?_⟩
  · obtain ⟨q, hq, e⟩ := List.any_eq_true.mp h
    have e : D.eqv (.tup [.str q.1, .str q.2]) (.tup [.str x, .str y]) = true := e
    rw [eqv_tup] at e
    simp only [D.eqvs, eqv_str, Bool.and_true, Bool.and_eq_true, decide_eq_true_eq] at e
    exact decide_eq_true (by rw [← e.1, ← e.2]; exact hq)
  · refine List.any_eq_true.mpr ⟨(x, y), of_decide_eq_true h, ?_⟩
    exact eqv_self _ (prD_ok (x, y)).2.2
theorem prs_plain {l : List (Str × Str)} : D.plains (l.map prD) = true := by
  rw [D.plains_all, List.all_map]
  exact List.all_eq_true.mpr fun p _ => (prD_ok p).2.2
theorem prs_deps {l : List (Str × Str)} : D.deps (l.map prD) ≤ 8 := by
  induction l with
  | nil => exact Nat.zero_le _
  | cons p l ih => rw [List.map_cons, D.deps]; have := (prD_ok p).2.1; omega
theorem eqvs_strs : ∀ {a b : List Str}, D.eqvs (a.map .str) (b.map .str) = decide (a = b)
  | [], [] => rfl
  | [], y :: b => by simp [D.eqvs]
  | x :: a, [] => by simp [D.eqvs]
  | x :: a, y :: b => by
    rw [List.map_cons, List.map_cons, D.eqvs, eqv_str, eqvs_strs]
    refine Bool.eq_iff_iff.mpr ?_
    simp
theorem eqv_strsD {a b : List Str} : D.eqv (strsD a) (strsD b) = decide (a = b) := by
  unfold strsD
  rw [eqv_tup, eqvs_strs]
theorem eqOk_strsD {a b : List Str} : D.eqOk (strsD a) (strsD b) = true := eqOk_of (by unfold strsD; rw [plain_tup]; exact plains_strs) (by unfold strsD; rw [plain_tup]; exact plains_strs) (.inl (by unfold strsD; rw [dep_tup, deps_strs]; decide))
theorem plt_irr (p : Str × Str) : ¬ plt p p := fun h => h.elim (slt_irr _) fun h => slt_irr _ h.2
theorem sort_prs {l : List (Str × Str)} {M : Mem} {P : OT → Mem → Prop} (nd : l.Nodup) (hl : l.length ≤ 4000) (k : ∀ ys : List (Str × Str), ys.Perm l → AscP ys → P (.ow ((ys.map prD).map .fz)) M) : hSortD [.lst (l.map prD)] M P := by
  refine ⟨_, rfl, ?_, Nat.le_trans prs_deps (by decide), ⟨fun x hx y hy => ?_, .inl fun x hx => ?_⟩, by rw [List.length_map]; exact hl, fun zs hp hup => ?_⟩
  · rw [D.hks_all, List.all_map]
    exact List.all_eq_true.mpr fun p _ => (prD_ok p).1
  · obtain ⟨a, _, rfl⟩ := List.mem_map.mp hx
    obtain ⟨b, _, rfl⟩ := List.mem_map.mp hy
    exact alk_pr a b
  · obtain ⟨a, _, rfl⟩ := List.mem_map.mp hx
    exact ⟨_, _, rfl⟩
  · obtain ⟨ys, hy, rfl⟩ := perm_of_map hp
    refine k ys hy ?_
    refine ((hy.nodup_iff.mpr nd).and (List.pairwise_map.mp hup)).imp fun {a b} q => plt_tri (fun z => ?_) fun e => q.1 (by rw [e])
    have := q.2
    rw [lt_pr.mpr z] at this
    cases this
theorem plt_asymm {p q : Str × Str} (h : plt p q) (h' : plt q p) : False := by
  rcases h with h | ⟨e, h⟩ <;> rcases h' with h' | ⟨e', h'⟩
  · exact slt_irr _ (List.lt_trans h h')
  · exact slt_irr p.1 (by rw [e'] at h; exact h)
  · exact slt_irr q.1 (by rw [e] at h'; exact h')
  · exact slt_irr _ (List.lt_trans h h')
theorem ascP_uniq {l m : List (Str × Str)} (hl : AscP l) (hm : AscP m) (hp : l.Perm m) : l = m := hp.eq_of_pairwise (fun _ _ _ _ h h' => (plt_asymm h h').elim) hl hm
theorem ascP_nodup {l : List (Str × Str)} (h : AscP l) : l.Nodup := List.Pairwise.imp (fun {a b} (h : plt a b) (e : a = b) => plt_irr b (by rw [e] at h; exact h)) h
/-! ### sinking -/
section
variable {α : Type}
/-- what stays, as long as it gets less -/
def sinkF (step : List α → List α) : Nat → List α → List α
  | 0, l => l
  | n + 1, l => if (step l).length < l.length then sinkF step n (step l) else l
def sink (step : List α → List α) (l : List α) : List α := sinkF step l.length l
/-- a step takes some out -/
def Takes (step : List α → List α) : Prop := ∀ l, (step l).Sublist l
theorem sinkF_enough {step : List α → List α} : ∀ (n m : Nat) (l : List α), l.length ≤ n → l.length ≤ m → sinkF step n l = sinkF step m l
  | 0, 0, _, _, _ => rfl
  | 0, m + 1, l, h, _ => by
    rw [sinkF, sinkF, if_neg (by omega)]
  | n + 1, 0, l, _, h => by
    rw [sinkF, sinkF, if_neg (by omega)]
  | n + 1, m + 1, l, h1, h2 => by
    rw [sinkF, sinkF]
    split
    · exact sinkF_enough n m _ (by omega) (by omega)
    · rfl
theorem sink_less {step : List α → List α} {l : List α} (h : (step l).length < l.length) : sink step l = sink step (step l) := by
  unfold sink
  obtain ⟨n, hn⟩ : ∃ n, l.length = n + 1 := ⟨l.length - 1, by omega⟩
  rw [hn, sinkF, if_pos h]
  exact sinkF_enough _ _ _ (by omega) (Nat.le_refl _)
theorem sink_same {step : List α → List α} {l : List α} (h : ¬ (step l).length < l.length) : sink step l = l := by
  unfold sink
  cases l.length with
  | zero => rfl
  | succ n => rw [sinkF, if_neg h]
theorem Takes.same {step : List α → List α} (t : Takes step) {l : List α} (h : ¬ (step l).length < l.length) : step l = l := (t l).eq_of_length (by have := (t l).length_le; omega)
theorem sink_sub {step : List α → List α} (t : Takes step) : ∀ (n : Nat) (l : List α), l.length ≤ n → (sink step l).Sublist l
  | 0, l, h => by
    rw [sink_same (by omega)]
    exact List.Sublist.refl l
  | n + 1, l, h => by
    by_cases q : (step l).length < l.length
    · rw [sink_less q]
      exact (sink_sub t n _ (by omega)).trans (t l)
    · rw [sink_same q]
      exact List.Sublist.refl l
theorem sink_fix {step : List α → List α} (t : Takes step) : ∀ (n : Nat) (l : List α), l.length ≤ n → step (sink step l) = sink step l
  | 0, l, h => by
    rw [sink_same (by omega)]
    exact t.same (by omega)
  | n + 1, l, h => by
    by_cases q : (step l).length < l.length
    · rw [sink_less q]
      exact sink_fix t n _ (by omega)
    · rw [sink_same q]
      exact t.same q
/-- what stays by itself stays -/
theorem sink_keeps {step : List α → List α} {S : α → Prop} (hs : ∀ l, (∀ x, S x → x ∈ l) → ∀ x, S x → x ∈ step l) : ∀ (n : Nat) (l : List α), l.length ≤ n → (∀ x, S x → x ∈ l) → ∀ x, S x → x ∈ sink step l
  | 0, l, h, hl => by
    rw [sink_same (by omega)]
    exact hl
  | n + 1, l, h, hl => by
    by_cases q : (step l).length < l.length
    · rw [sink_less q]
      exact sink_keeps hs n _ (by omega) (hs l hl)
    · rw [sink_same q]
      exact hl
end
end DL

set_option hygiene false in
local macro_rules
  | `(tactic| wp_walk using True) => `(tactic| simp only [seqS_M, startE_cons, startE_nil, List.length_cons, List.length_nil, List.length_replicate, List.length_set, List.replicate_succ, List.replicate_zero, List.getElem?_cons_zero, List.getElem?_cons_succ, List.set_cons_zero, List.set_cons_succ, Option.some.injEq, OT.fz.injEq, OT.ow.injEq, D.int.injEq, D.str.injEq, D.bl.injEq, D.tup.injEq, D.lst.injEq, List.cons.injEq, exists_eq_left', exists_eq_left, exists_eq_right, and_true, true_and, OT.toD_fz, toD_map_fz, hIx_tup, hIx_lst, hIx_scr, hIx_mob, hIx_str, hIxT_fz, hIxT_ow, hAdd_int, hAdd_str, hAdd_tup, hAdd_lst, hMul_int, hMul_lst, hSl_tup, hSl_lst, hSl_str, hLen_lst, hLen_tup, hLen_scr, hLen_str, hLen_mob, hInt_int, hInt_bl, hAbs_int, hSeq_lst, hSeq_tup, hIn_lst, hIn_tup, hEq_eq, hI0_int, hI_int, ng_f, ng_t, atI_0, atI_1, atI_2, ofString_inj, eqv_str, eqv_txt, eqv_int, eqv_bl, eqv_tup, eqv_lst, eqOk_str, eqOk_int, eqOk_bl, eqOk_txt, decide_eq_true_eq, Nat.zero_lt_succ, exists_and_left, List.take_succ_cons, List.take_zero, List.drop_succ_cons, List.drop_zero, List.cons_append, List.nil_append, and_assoc, atI_map, Option.map_some, Nat.reduceAdd, Nat.reduceLT, Nat.reduceLeDiff, OT.toD_ow, List.map_cons, List.map_nil, D.mob.injEq, Mo.lst.injEq, Mem.put_same, Mem.put_put, ixN_30, ixN_32, ixN_10, exists_prop, fz_app, fz_inj, fz_snoc, OT.map_fz, List.length_map, List.length_append, List.append_nil, Nat.zero_add, cutL_1, items_tup, items_lst, items_scr, forD, compD, compS, comp2D, wipeE, D.isIn, List.any_cons, List.any_nil, String.reduceEq, D.plain, D.plains, D.dep, D.deps, Nat.max_self, Nat.min_self, Nat.zero_le, Nat.zero_min, Nat.min_zero, sizeLine_eq, forall_eq, exists_const, forall_const, kind_non, kind_bl, kind_int, kind_str, kind_lst, kind_tup, kind_dk, Kd.isa, reduceCtorEq, decide_false, decide_true, Bool.or_false, Bool.false_or, Bool.or_true, Bool.true_or, Bool.or_self, Bool.and_false, Bool.false_and, Bool.true_and, Bool.and_true, Bool.and_self, and_self, false_or, or_false, false_and, and_false, reduceIte, Bool.false_eq_true, Bool.not_eq_true, Bool.not_true, Bool.not_false, Mo.ins.injEq, hLt_eq, hFld_ob, hFld_mob, isOb_ob, isOb_mob, keyOf_text, keyOf_num, ltOk_int, ltOk_str, lt_int, lt_str, getF, putN, putL, keyIx, hasK, odKs, odTs, putTs, Sum.inr.injEq, Sum.inl.injEq, List.nodup_cons, List.nodup_nil, List.mem_cons, List.not_mem_nil, not_false_eq_true, not_true_eq_false, OT.toD_od, OT.od.injEq, D.dk.injEq, D.ob.injEq, hDix_dk, getK, Option.map_none, or_self, List.map_nil, pick, List.filterMap_cons, List.filterMap_nil, D.mob.injEq, ite_true, ite_false])
  | `(tactic| wp_walk using True, $rs,*) => `(tactic| simp only [seqS_M, startE_cons, startE_nil, List.length_cons, List.length_nil, List.length_replicate, List.length_set, List.replicate_succ, List.replicate_zero, List.getElem?_cons_zero, List.getElem?_cons_succ, List.set_cons_zero, List.set_cons_succ, Option.some.injEq, OT.fz.injEq, OT.ow.injEq, D.int.injEq, D.str.injEq, D.bl.injEq, D.tup.injEq, D.lst.injEq, List.cons.injEq, exists_eq_left', exists_eq_left, exists_eq_right, and_true, true_and, OT.toD_fz, toD_map_fz, hIx_tup, hIx_lst, hIx_scr, hIx_mob, hIx_str, hIxT_fz, hIxT_ow, hAdd_int, hAdd_str, hAdd_tup, hAdd_lst, hMul_int, hMul_lst, hSl_tup, hSl_lst, hSl_str, hLen_lst, hLen_tup, hLen_scr, hLen_str, hLen_mob, hInt_int, hInt_bl, hAbs_int, hSeq_lst, hSeq_tup, hIn_lst, hIn_tup, hEq_eq, hI0_int, hI_int, ng_f, ng_t, atI_0, atI_1, atI_2, ofString_inj, eqv_str, eqv_txt, eqv_int, eqv_bl, eqv_tup, eqv_lst, eqOk_str, eqOk_int, eqOk_bl, eqOk_txt, decide_eq_true_eq, Nat.zero_lt_succ, exists_and_left, List.take_succ_cons, List.take_zero, List.drop_succ_cons, List.drop_zero, List.cons_append, List.nil_append, and_assoc, atI_map, Option.map_some, Nat.reduceAdd, Nat.reduceLT, Nat.reduceLeDiff, OT.toD_ow, List.map_cons, List.map_nil, D.mob.injEq, Mo.lst.injEq, Mem.put_same, Mem.put_put, ixN_30, ixN_32, ixN_10, exists_prop, fz_app, fz_inj, fz_snoc, OT.map_fz, List.length_map, List.length_append, List.append_nil, Nat.zero_add, cutL_1, items_tup, items_lst, items_scr, forD, compD, compS, comp2D, wipeE, D.isIn, List.any_cons, List.any_nil, String.reduceEq, D.plain, D.plains, D.dep, D.deps, Nat.max_self, Nat.min_self, Nat.zero_le, Nat.zero_min, Nat.min_zero, sizeLine_eq, forall_eq, exists_const, forall_const, kind_non, kind_bl, kind_int, kind_str, kind_lst, kind_tup, kind_dk, Kd.isa, reduceCtorEq, decide_false, decide_true, Bool.or_false, Bool.false_or, Bool.or_true, Bool.true_or, Bool.or_self, Bool.and_false, Bool.false_and, Bool.true_and, Bool.and_true, Bool.and_self, and_self, false_or, or_false, false_and, and_false, reduceIte, Bool.false_eq_true, Bool.not_eq_true, Bool.not_true, Bool.not_false, Mo.ins.injEq, hLt_eq, hFld_ob, hFld_mob, isOb_ob, isOb_mob, keyOf_text, keyOf_num, ltOk_int, ltOk_str, lt_int, lt_str, getF, putN, putL, keyIx, hasK, odKs, odTs, putTs, Sum.inr.injEq, Sum.inl.injEq, List.nodup_cons, List.nodup_nil, List.mem_cons, List.not_mem_nil, not_false_eq_true, not_true_eq_false, OT.toD_od, OT.od.injEq, D.dk.injEq, D.ob.injEq, hDix_dk, getK, Option.map_none, or_self, List.map_nil, pick, List.filterMap_cons, List.filterMap_nil, D.mob.injEq, ite_true, ite_false, $[$rs:term],*])
  | `(tactic| wp_walk using False) => `(tactic| (repeat (first | simp only [seqS_M, startE_cons, startE_nil, List.length_cons, List.length_nil, List.length_replicate, List.length_set, List.replicate_succ, List.replicate_zero, List.getElem?_cons_zero, List.getElem?_cons_succ, List.set_cons_zero, List.set_cons_succ, Option.some.injEq, OT.fz.injEq, OT.ow.injEq, D.int.injEq, D.str.injEq, D.bl.injEq, D.tup.injEq, D.lst.injEq, List.cons.injEq, exists_eq_left', exists_eq_left, exists_eq_right, and_true, true_and, OT.toD_fz, toD_map_fz, hIx_tup, hIx_lst, hIx_scr, hIx_mob, hIx_str, hIxT_fz, hIxT_ow, hAdd_int, hAdd_str, hAdd_tup, hAdd_lst, hMul_int, hMul_lst, hSl_tup, hSl_lst, hSl_str, hLen_lst, hLen_tup, hLen_scr, hLen_str, hLen_mob, hInt_int, hInt_bl, hAbs_int, hSeq_lst, hSeq_tup, hIn_lst, hIn_tup, hEq_eq, hI0_int, hI_int, ng_f, ng_t, atI_0, atI_1, atI_2, ofString_inj, eqv_str, eqv_txt, eqv_int, eqv_bl, eqv_tup, eqv_lst, eqOk_str, eqOk_int, eqOk_bl, eqOk_txt, decide_eq_true_eq, Nat.zero_lt_succ, exists_and_left, List.take_succ_cons, List.take_zero, List.drop_succ_cons, List.drop_zero, List.cons_append, List.nil_append, and_assoc, atI_map, Option.map_some, Nat.reduceAdd, Nat.reduceLT, Nat.reduceLeDiff, OT.toD_ow, List.map_cons, List.map_nil, D.mob.injEq, Mo.lst.injEq, Mem.put_same, Mem.put_put, ixN_30, ixN_32, ixN_10, exists_prop, fz_app, fz_inj, fz_snoc, OT.map_fz, List.length_map, List.length_append, List.append_nil, Nat.zero_add, cutL_1, items_tup, items_lst, items_scr, forD, compD, compS, comp2D, wipeE, D.isIn, List.any_cons, List.any_nil, String.reduceEq, D.plain, D.plains, D.dep, D.deps, Nat.max_self, Nat.min_self, Nat.zero_le, Nat.zero_min, Nat.min_zero, sizeLine_eq, forall_eq, exists_const, forall_const, kind_non, kind_bl, kind_int, kind_str, kind_lst, kind_tup, kind_dk, Kd.isa, reduceCtorEq, decide_false, decide_true, Bool.or_false, Bool.false_or, Bool.or_true, Bool.true_or, Bool.or_self, Bool.and_false, Bool.false_and, Bool.true_and, Bool.and_true, Bool.and_self, and_self, false_or, or_false, false_and, and_false, reduceIte, Bool.false_eq_true, Bool.not_eq_true, Bool.not_true, Bool.not_false, Mo.ins.injEq, hLt_eq, hFld_ob, hFld_mob, isOb_ob, isOb_mob, keyOf_text, keyOf_num, ltOk_int, ltOk_str, lt_int, lt_str, getF, putN, putL, keyIx, hasK, odKs, odTs, putTs, Sum.inr.injEq, Sum.inl.injEq, List.nodup_cons, List.nodup_nil, List.mem_cons, List.not_mem_nil, not_false_eq_true, not_true_eq_false, OT.toD_od, OT.od.injEq, D.dk.injEq, D.ob.injEq, hDix_dk, getK, Option.map_none, or_self, List.map_nil, pick, List.filterMap_cons, List.filterMap_nil, D.mob.injEq, ite_true, ite_false] | refine seq_in ?_ | refine And.intro (by first | assumption | omega | decide) ?_ | omega | assumption)))
  | `(tactic| wp_walk using False, $rs,*) => `(tactic| (repeat (first | simp only [seqS_M, startE_cons, startE_nil, List.length_cons, List.length_nil, List.length_replicate, List.length_set, List.replicate_succ, List.replicate_zero, List.getElem?_cons_zero, List.getElem?_cons_succ, List.set_cons_zero, List.set_cons_succ, Option.some.injEq, OT.fz.injEq, OT.ow.injEq, D.int.injEq, D.str.injEq, D.bl.injEq, D.tup.injEq, D.lst.injEq, List.cons.injEq, exists_eq_left', exists_eq_left, exists_eq_right, and_true, true_and, OT.toD_fz, toD_map_fz, hIx_tup, hIx_lst, hIx_scr, hIx_mob, hIx_str, hIxT_fz, hIxT_ow, hAdd_int, hAdd_str, hAdd_tup, hAdd_lst, hMul_int, hMul_lst, hSl_tup, hSl_lst, hSl_str, hLen_lst, hLen_tup, hLen_scr, hLen_str, hLen_mob, hInt_int, hInt_bl, hAbs_int, hSeq_lst, hSeq_tup, hIn_lst, hIn_tup, hEq_eq, hI0_int, hI_int, ng_f, ng_t, atI_0, atI_1, atI_2, ofString_inj, eqv_str, eqv_txt, eqv_int, eqv_bl, eqv_tup, eqv_lst, eqOk_str, eqOk_int, eqOk_bl, eqOk_txt, decide_eq_true_eq, Nat.zero_lt_succ, exists_and_left, List.take_succ_cons, List.take_zero, List.drop_succ_cons, List.drop_zero, List.cons_append, List.nil_append, and_assoc, atI_map, Option.map_some, Nat.reduceAdd, Nat.reduceLT, Nat.reduceLeDiff, OT.toD_ow, List.map_cons, List.map_nil, D.mob.injEq, Mo.lst.injEq, Mem.put_same, Mem.put_put, ixN_30, ixN_32, ixN_10, exists_prop, fz_app, fz_inj, fz_snoc, OT.map_fz, List.length_map, List.length_append, List.append_nil, Nat.zero_add, cutL_1, items_tup, items_lst, items_scr, forD, compD, compS, comp2D, wipeE, D.isIn, List.any_cons, List.any_nil, String.reduceEq, D.plain, D.plains, D.dep, D.deps, Nat.max_self, Nat.min_self, Nat.zero_le, Nat.zero_min, Nat.min_zero, sizeLine_eq, forall_eq, exists_const, forall_const, kind_non, kind_bl, kind_int, kind_str, kind_lst, kind_tup, kind_dk, Kd.isa, reduceCtorEq, decide_false, decide_true, Bool.or_false, Bool.false_or, Bool.or_true, Bool.true_or, Bool.or_self, Bool.and_false, Bool.false_and, Bool.true_and, Bool.and_true, Bool.and_self, and_self, false_or, or_false, false_and, and_false, reduceIte, Bool.false_eq_true, Bool.not_eq_true, Bool.not_true, Bool.not_false, Mo.ins.injEq, hLt_eq, hFld_ob, hFld_mob, isOb_ob, isOb_mob, keyOf_text, keyOf_num, ltOk_int, ltOk_str, lt_int, lt_str, getF, putN, putL, keyIx, hasK, odKs, odTs, putTs, Sum.inr.injEq, Sum.inl.injEq, List.nodup_cons, List.nodup_nil, List.mem_cons, List.not_mem_nil, not_false_eq_true, not_true_eq_false, OT.toD_od, OT.od.injEq, D.dk.injEq, D.ob.injEq, hDix_dk, getK, Option.map_none, or_self, List.map_nil, pick, List.filterMap_cons, List.filterMap_nil, D.mob.injEq, ite_true, ite_false, $[$rs:term],*] | refine seq_in ?_ | refine And.intro (by first | assumption | omega | decide) ?_ | omega | assumption)))
namespace DL
open PySem L2 PySem.Spec
open PyProof.Rows hiding St
set_option autoImplicit false
def top (i : Nat) : Stmt := PySem.Challenge.pw_manyruns_k55_states_that_follow.main.body.getD i (.Pass ⟨0, 0, 0, 0⟩)
abbrev s_is_name : Stmt := top 6
abbrev N_is_name : List Str := ["thing", "sign"]
theorem sc_is_name : FnScope N_is_name ["thing"] (defScope s_is_name) := ⟨rfl, rfl, rfl, by decide +kernel, rfl, by decide +kernel, by decide +kernel⟩
abbrev s_is_tuple_of : Stmt := top 7
abbrev N_is_tuple_of : List Str := ["thing", "many"]
theorem sc_is_tuple_of : FnScope N_is_tuple_of ["thing", "many"] (defScope s_is_tuple_of) := ⟨rfl, rfl, rfl, by decide +kernel, rfl, by decide +kernel, by decide +kernel⟩
abbrev s_rises : Stmt := top 8
abbrev N_rises : List Str := ["some", "one", "other"]
theorem sc_rises : FnScope N_rises ["some"] (defScope s_rises) := ⟨rfl, rfl, rfl, by decide +kernel, rfl, by decide +kernel, by decide +kernel⟩
abbrev s_are_names : Stmt := top 9
abbrev N_are_names : List Str := ["thing", "least", "most", "one"]
theorem sc_are_names : FnScope N_are_names ["thing", "least", "most"] (defScope s_are_names) := ⟨rfl, rfl, rfl, by decide +kernel, rfl, by decide +kernel, by decide +kernel⟩
abbrev s_are_moves : Stmt := top 14
abbrev N_are_moves : List Str := ["thing", "states", "one", "state"]
theorem sc_are_moves : FnScope N_are_moves ["thing", "states"] (defScope s_are_moves) := ⟨rfl, rfl, rfl, by decide +kernel, rfl, by decide +kernel, by decide +kernel⟩
abbrev s_are_begins : Stmt := top 15
abbrev N_are_begins : List Str := ["thing", "states", "one"]
theorem sc_are_begins : FnScope N_are_begins ["thing", "states"] (defScope s_are_begins) := ⟨rfl, rfl, rfl, by decide +kernel, rfl, by decide +kernel, by decide +kernel⟩
abbrev s_is_show : Stmt := top 16
abbrev N_is_show : List Str := ["thing", "states"]
theorem sc_is_show : FnScope N_is_show ["thing", "states"] (defScope s_is_show) := ⟨rfl, rfl, rfl, by decide +kernel, rfl, by decide +kernel, by decide +kernel⟩
abbrev s_are_shows : Stmt := top 17
abbrev N_are_shows : List Str := ["thing", "states", "one", "state", "marks"]
theorem sc_are_shows : FnScope N_are_shows ["thing", "states"] (defScope s_are_shows) := ⟨rfl, rfl, rfl, by decide +kernel, rfl, by decide +kernel, by decide +kernel⟩
abbrev s_Table_init : Stmt := inClass (top 18) 0
abbrev N_Table_init : List Str := ["self", "states", "moves", "begins", "shows"]
theorem sc_Table_init : FnScope N_Table_init ["self", "states", "moves", "begins", "shows"] (defScope s_Table_init) := ⟨rfl, rfl, rfl, by decide +kernel, rfl, by decide +kernel, by decide +kernel⟩
abbrev s_Table_marks_of : Stmt := inClass (top 18) 4
abbrev N_Table_marks_of : List Str := ["self", "state", "one", "marks"]
theorem sc_Table_marks_of : FnScope N_Table_marks_of ["self", "state"] (defScope s_Table_marks_of) := ⟨rfl, rfl, rfl, by decide +kernel, rfl, by decide +kernel, by decide +kernel⟩
abbrev s_Table_next_of : Stmt := inClass (top 18) 5
abbrev N_Table_next_of : List Str := ["self", "state", "one", "to"]
theorem sc_Table_next_of : FnScope N_Table_next_of ["self", "state"] (defScope s_Table_next_of) := ⟨rfl, rfl, rfl, by decide +kernel, rfl, by decide +kernel, by decide +kernel⟩
abbrev s_seen_of : Stmt := top 20
abbrev N_seen_of : List Str := ["table", "state", "marks", "mark"]
theorem sc_seen_of : FnScope N_seen_of ["table", "state", "marks"] (defScope s_seen_of) := ⟨rfl, rfl, rfl, by decide +kernel, rfl, by decide +kernel, by decide +kernel⟩
abbrev s_are_led : Stmt := top 21
abbrev N_are_led : List Str := ["table", "pair", "pairs", "one", "other", "behind", "here", "there"]
theorem sc_are_led : FnScope N_are_led ["table", "pair", "pairs"] (defScope s_are_led) := ⟨rfl, rfl, rfl, by decide +kernel, rfl, by decide +kernel, by decide +kernel⟩
abbrev s_alike_pairs : Stmt := top 22
abbrev N_alike_pairs : List Str := ["table", "marks", "shown", "state", "one", "other"]
theorem sc_alike_pairs : FnScope N_alike_pairs ["table", "marks"] (defScope s_alike_pairs) := ⟨rfl, rfl, rfl, by decide +kernel, rfl, by decide +kernel, by decide +kernel⟩
abbrev s_follows : Stmt := top 23
abbrev N_follows : List Str := ["table", "marks", "found", "many", "pair"]
theorem sc_follows : FnScope N_follows ["table", "marks"] (defScope s_follows) := ⟨rfl, rfl, rfl, by decide +kernel, rfl, by decide +kernel, by decide +kernel⟩
abbrev s_law_cell_at : Stmt := top 25
abbrev N_law_cell_at : List Str := ["script", "k"]
theorem sc_law_cell_at : FnScope N_law_cell_at ["script", "k"] (defScope s_law_cell_at) := ⟨rfl, rfl, rfl, by decide +kernel, rfl, by decide +kernel, by decide +kernel⟩
abbrev s_law_box : Stmt := top 26
abbrev N_law_box : List Str := ["script", "k", "cell"]
theorem sc_law_box : FnScope N_law_box ["script", "k"] (defScope s_law_box) := ⟨rfl, rfl, rfl, by decide +kernel, rfl, by decide +kernel, by decide +kernel⟩
abbrev s_law_take : Stmt := top 27
abbrev N_law_take : List Str := ["box", "size", "found", "once", "twice"]
theorem sc_law_take : FnScope N_law_take ["box", "size"] (defScope s_law_take) := ⟨rfl, rfl, rfl, by decide +kernel, rfl, by decide +kernel, by decide +kernel⟩
abbrev s_law_same : Stmt := top 28
abbrev N_law_same : List Str := ["found", "due", "one", "two"]
theorem sc_law_same : FnScope N_law_same ["found", "due"] (defScope s_law_same) := ⟨rfl, rfl, rfl, by decide +kernel, rfl, by decide +kernel, by decide +kernel⟩
abbrev s_law_of : Stmt := top 29
abbrev N_law_of : List Str := ["box", "some"]
theorem sc_law_of : FnScope N_law_of ["box", "some"] (defScope s_law_of) := ⟨rfl, rfl, rfl, by decide +kernel, rfl, by decide +kernel, by decide +kernel⟩
abbrev s_law_names : Stmt := top 30
abbrev N_law_names : List Str := ["box", "size", "letters", "shift", "stem", "spot", "longer", "found", "k", "turn"]
theorem sc_law_names : FnScope N_law_names ["box", "size"] (defScope s_law_names) := ⟨rfl, rfl, rfl, by decide +kernel, rfl, by decide +kernel, by decide +kernel⟩
abbrev s_law_table : Stmt := top 31
abbrev N_law_table : List Str := ["box", "nodes", "labels", "found", "wide", "node", "arcs", "tags", "turn", "mark"]
theorem sc_law_table : FnScope N_law_table ["box", "nodes", "labels"] (defScope s_law_table) := ⟨rfl, rfl, rfl, by decide +kernel, rfl, by decide +kernel, by decide +kernel⟩
abbrev s_law_made : Stmt := top 32
abbrev N_law_made : List Str := ["t", "seen", "node"]
theorem sc_law_made : FnScope N_law_made ["t"] (defScope s_law_made) := ⟨rfl, rfl, rfl, by decide +kernel, rfl, by decide +kernel, by decide +kernel⟩
abbrev s_law_nexts : Stmt := top 33
abbrev N_law_nexts : List Str := ["t", "node", "arc"]
theorem sc_law_nexts : FnScope N_law_nexts ["t", "node"] (defScope s_law_nexts) := ⟨rfl, rfl, rfl, by decide +kernel, rfl, by decide +kernel, by decide +kernel⟩
abbrev s_law_seen : Stmt := top 34
abbrev N_law_seen : List Str := ["t", "node", "some", "mark"]
theorem sc_law_seen : FnScope N_law_seen ["t", "node", "some"] (defScope s_law_seen) := ⟨rfl, rfl, rfl, by decide +kernel, rfl, by decide +kernel, by decide +kernel⟩
abbrev s_law_pairs : Stmt := top 35
abbrev N_law_pairs : List Str := ["t", "some", "both", "found", "one", "turn", "kept", "other", "pair"]
theorem sc_law_pairs : FnScope N_law_pairs ["t", "some", "both"] (defScope s_law_pairs) := ⟨rfl, rfl, rfl, by decide +kernel, rfl, by decide +kernel, by decide +kernel⟩
abbrev s_law_led : Stmt := top 36
abbrev N_law_led : List Str := ["t", "pairs", "one", "other", "here", "there"]
theorem sc_law_led : FnScope N_law_led ["t", "pairs", "one", "other"] (defScope s_law_led) := ⟨rfl, rfl, rfl, by decide +kernel, rfl, by decide +kernel, by decide +kernel⟩
abbrev s_law_some : Stmt := top 37
abbrev N_law_some : List Str := ["box", "labels", "mark"]
theorem sc_law_some : FnScope N_law_some ["box", "labels"] (defScope s_law_some) := ⟨rfl, rfl, rfl, by decide +kernel, rfl, by decide +kernel, by decide +kernel⟩
abbrev s_law_right : Stmt := top 38
abbrev N_law_right : List Str := ["box", "turn", "nodes", "labels", "t", "made", "some", "due", "told", "node", "pair"]
theorem sc_law_right : FnScope N_law_right ["box"] (defScope s_law_right) := ⟨rfl, rfl, rfl, by decide +kernel, rfl, by decide +kernel, by decide +kernel⟩
abbrev s_law : Stmt := top 39
abbrev N_law : List Str := ["script", "k"]
theorem sc_law : FnScope N_law ["script"] (defScope s_law) := ⟨rfl, rfl, rfl, by decide +kernel, rfl, by decide +kernel, by decide +kernel⟩
/-- what stands in the module: its defs, its constants, built-in names -/
structure Tx (K : PySem.W.Frag) (mg : Str → Option Value) (C_Table : Addr) : Prop where
  cls_Table : Cls K C_Table
  g_Table : mg "Table" = some (.ref C_Table)
  n_Table_states : NoAttr K C_Table "states"
  n_Table_moves : NoAttr K C_Table "moves"
  n_Table_begins : NoAttr K C_Table "begins"
  n_Table_shows : NoAttr K C_Table "shows"
  d_is_name : ∃ (f : Addr) (fd : FuncData), mg "is_name" = some (.ref f) ∧ Fun K "is_name" "is_name" s_is_name f fd ∧ Binds K fd ["thing"] []
  d_is_tuple_of : ∃ (f : Addr) (fd : FuncData), mg "is_tuple_of" = some (.ref f) ∧ Fun K "is_tuple_of" "is_tuple_of" s_is_tuple_of f fd ∧ Binds K fd ["thing", "many"] []
  d_rises : ∃ (f : Addr) (fd : FuncData), mg "rises" = some (.ref f) ∧ Fun K "rises" "rises" s_rises f fd ∧ Binds K fd ["some"] []
  d_are_names : ∃ (f : Addr) (fd : FuncData), mg "are_names" = some (.ref f) ∧ Fun K "are_names" "are_names" s_are_names f fd ∧ Binds K fd ["thing", "least", "most"] []
  d_are_moves : ∃ (f : Addr) (fd : FuncData), mg "are_moves" = some (.ref f) ∧ Fun K "are_moves" "are_moves" s_are_moves f fd ∧ Binds K fd ["thing", "states"] []
  d_are_begins : ∃ (f : Addr) (fd : FuncData), mg "are_begins" = some (.ref f) ∧ Fun K "are_begins" "are_begins" s_are_begins f fd ∧ Binds K fd ["thing", "states"] []
  d_is_show : ∃ (f : Addr) (fd : FuncData), mg "is_show" = some (.ref f) ∧ Fun K "is_show" "is_show" s_is_show f fd ∧ Binds K fd ["thing", "states"] []
  d_are_shows : ∃ (f : Addr) (fd : FuncData), mg "are_shows" = some (.ref f) ∧ Fun K "are_shows" "are_shows" s_are_shows f fd ∧ Binds K fd ["thing", "states"] []
  d_Table_init : ∃ (f : Addr) (fd : FuncData), Mk K C_Table f ∧ Fun K "__init__" "Table.__init__" s_Table_init f fd
  d_Table_marks_of : ∃ (f : Addr) (fd : FuncData), Meth K C_Table "marks_of" f ∧ Fun K "marks_of" "Table.marks_of" s_Table_marks_of f fd ∧ Binds K fd ["self", "state"] []
  d_Table_next_of : ∃ (f : Addr) (fd : FuncData), Meth K C_Table "next_of" f ∧ Fun K "next_of" "Table.next_of" s_Table_next_of f fd ∧ Binds K fd ["self", "state"] []
  d_seen_of : ∃ (f : Addr) (fd : FuncData), mg "seen_of" = some (.ref f) ∧ Fun K "seen_of" "seen_of" s_seen_of f fd ∧ Binds K fd ["table", "state", "marks"] []
  d_are_led : ∃ (f : Addr) (fd : FuncData), mg "are_led" = some (.ref f) ∧ Fun K "are_led" "are_led" s_are_led f fd ∧ Binds K fd ["table", "pair", "pairs"] []
  d_alike_pairs : ∃ (f : Addr) (fd : FuncData), mg "alike_pairs" = some (.ref f) ∧ Fun K "alike_pairs" "alike_pairs" s_alike_pairs f fd ∧ Binds K fd ["table", "marks"] []
  d_follows : ∃ (f : Addr) (fd : FuncData), mg "follows" = some (.ref f) ∧ Fun K "follows" "follows" s_follows f fd ∧ Binds K fd ["table", "marks"] []
  d_law_cell_at : ∃ (f : Addr) (fd : FuncData), mg "_law_cell_at" = some (.ref f) ∧ Fun K "_law_cell_at" "_law_cell_at" s_law_cell_at f fd ∧ Binds K fd ["script", "k"] []
  d_law_box : ∃ (f : Addr) (fd : FuncData), mg "_law_box" = some (.ref f) ∧ Fun K "_law_box" "_law_box" s_law_box f fd ∧ Binds K fd ["script", "k"] []
  d_law_take : ∃ (f : Addr) (fd : FuncData), mg "_law_take" = some (.ref f) ∧ Fun K "_law_take" "_law_take" s_law_take f fd ∧ Binds K fd ["box", "size"] []
  d_law_same : ∃ (f : Addr) (fd : FuncData), mg "_law_same" = some (.ref f) ∧ Fun K "_law_same" "_law_same" s_law_same f fd ∧ Binds K fd ["found", "due"] []
  d_law_of : ∃ (f : Addr) (fd : FuncData), mg "_law_of" = some (.ref f) ∧ Fun K "_law_of" "_law_of" s_law_of f fd ∧ Binds K fd ["box", "some"] []
  d_law_names : ∃ (f : Addr) (fd : FuncData), mg "_law_names" = some (.ref f) ∧ Fun K "_law_names" "_law_names" s_law_names f fd ∧ Binds K fd ["box", "size"] []
  d_law_table : ∃ (f : Addr) (fd : FuncData), mg "_law_table" = some (.ref f) ∧ Fun K "_law_table" "_law_table" s_law_table f fd ∧ Binds K fd ["box", "nodes", "labels"] []
  d_law_made : ∃ (f : Addr) (fd : FuncData), mg "_law_made" = some (.ref f) ∧ Fun K "_law_made" "_law_made" s_law_made f fd ∧ Binds K fd ["t"] []
  d_law_nexts : ∃ (f : Addr) (fd : FuncData), mg "_law_nexts" = some (.ref f) ∧ Fun K "_law_nexts" "_law_nexts" s_law_nexts f fd ∧ Binds K fd ["t", "node"] []
  d_law_seen : ∃ (f : Addr) (fd : FuncData), mg "_law_seen" = some (.ref f) ∧ Fun K "_law_seen" "_law_seen" s_law_seen f fd ∧ Binds K fd ["t", "node", "some"] []
  d_law_pairs : ∃ (f : Addr) (fd : FuncData), mg "_law_pairs" = some (.ref f) ∧ Fun K "_law_pairs" "_law_pairs" s_law_pairs f fd ∧ Binds K fd ["t", "some", "both"] []
  d_law_led : ∃ (f : Addr) (fd : FuncData), mg "_law_led" = some (.ref f) ∧ Fun K "_law_led" "_law_led" s_law_led f fd ∧ Binds K fd ["t", "pairs", "one", "other"] []
  d_law_some : ∃ (f : Addr) (fd : FuncData), mg "_law_some" = some (.ref f) ∧ Fun K "_law_some" "_law_some" s_law_some f fd ∧ Binds K fd ["box", "labels"] []
  d_law_right : ∃ (f : Addr) (fd : FuncData), mg "_law_right" = some (.ref f) ∧ Fun K "_law_right" "_law_right" s_law_right f fd ∧ Binds K fd ["box"] []
  d_law : ∃ (f : Addr) (fd : FuncData), mg "law" = some (.ref f) ∧ Fun K "law" "law" s_law f fd ∧ Binds K fd ["script"] []
  c_LETTERS : GC K mg "LETTERS" (.str "abcdefghijklmnopqrstuvwxyz")
  c_MOST_LETTERS : GC K mg "MOST_LETTERS" (.int 8)
  c_MOST_STATES : GC K mg "MOST_STATES" (.int 8)
  c_MOST_MOVES : GC K mg "MOST_MOVES" (.int 24)
  c_MOST_MARKS : GC K mg "MOST_MARKS" (.int 4)
  z_abs : mg "abs" = none
  z_all : mg "all" = none
  z_any : mg "any" = none
  z_bool : mg "bool" = none
  z_int : mg "int" = none
  z_isinstance : mg "isinstance" = none
  z_len : mg "len" = none
  z_list : mg "list" = none
  z_max : mg "max" = none
  z_min : mg "min" = none
  z_range : mg "range" = none
  z_set : mg "set" = none
  z_sorted : mg "sorted" = none
  z_str : mg "str" = none
  z_tuple : mg "tuple" = none
  z_zip : mg "zip" = none
end DL

namespace DL
open PySem L2 PySem.Spec
open PyProof.Rows hiding St
set_option autoImplicit false
section
variable {P : Program} {w : World} {K : PySem.W.Frag} {mg : Str → Option Value} {base : Heap} {C_Table : Addr}
/-! ### the cell, the box -/
def spCell : DSpec := DSpec.pure (ι := List Int × Int) (fun i ds => ds = [.scr i.1, .int i.2] ∧ 0 ≤ i.2) (fun _ t => ∃ v, t = .fz (.int v))
theorem ok_cell_at (T : Tx K mg C_Table) : DF P w K mg base s_law_cell_at "_law_cell_at" ["script", "k"] 1 spCell := by
  obtain ⟨f, fd, hm, F, hb⟩ := T.d_law_cell_at
  refine ⟨f, fd, hm, F, hb, fn_dl F sc_law_cell_at ?_⟩
  rintro X M ds ⟨ns, k⟩ ⟨cdv, A, outer, s0, H0, E, rfl⟩ hr hl ⟨rfl, hk⟩
  refine ⟨_, (dss_cons (ds_if (EC.t (ec_lt (ev_var 1) (ED.v (ed_len T.z_len (av_cons (ev_var 0) av_nil))))) (dss_cons (ds_ret (ED.o (ed_ixN 0 (ed_var 1)))) dss_nil) dss_nil) (dss_cons (ds_ret (ED.o ed_int)) dss_nil)), ?_⟩
  wp_walk using False, spCell, DSpec.pure
  split
  · rename_i h
    obtain ⟨j, rfl⟩ := Int.eq_ofNat_of_zero_le hk
    wp_walk using False, spCell, DSpec.pure
    exact ⟨ns[j]'(by omega), atI_nat (List.getElem?_eq_getElem _), _, rfl⟩
  · wp_walk using False, spCell, DSpec.pure
    exact ⟨0, rfl⟩
def spBox : DSpec := DSpec.pure (ι := List Int × Int) (fun i ds => ds = [.scr i.1, .int i.2] ∧ 0 ≤ i.2 ∧ i.2 ≤ 100) (fun _ t => ∃ a b, t = .ow ([.int a, .int b, .int 0].map .fz) ∧ 0 ≤ a ∧ 17 ≤ b ∧ b < 2 ^ 62)
theorem ok_box (T : Tx K mg C_Table) : DF P w K mg base s_law_box "_law_box" ["script", "k"] 2 spBox := by
  have F_law_cell_at := ok_cell_at (P := P) (w := w) (base := base) T
  obtain ⟨f, fd, hm, F, hb⟩ := T.d_law_box
  refine ⟨f, fd, hm, F, hb, fn_dl F sc_law_box ?_⟩
  rintro X M ds ⟨ns, k⟩ ⟨cdv, A, outer, s0, H0, E, rfl⟩ hr hl ⟨rfl, hk⟩
  refine ⟨_, (dss_cons (ds_set 2 sc_law_box.nd (EO.d (eo_callP (DF.mono F_law_cell_at (by first | omega | decide)) hr (ad_cons (ed_var 0) (ad_cons (ed_var 1) ad_nil))))) (dss_cons (ds_ret (eo_lst (ao_cons (eo_mul (ed_abs T.z_abs (av_cons (ev_var 2) av_nil)) (ed_int1 T.z_int (av_cons (ED.v (EC.d (ec_ge (ED.v (ed_abs T.z_abs (av_cons (ev_var 2) av_nil))) (ED.v (ed_pow (ED.v ed_int) (ED.v ed_int)))))) av_nil))) (ao_cons (eo_add (EO.d (eo_add (ed_mod (ev_var 2) (ED.v ed_int)) (EO.d (eo_mul ed_int (ed_var 1))))) ed_int) (ao_cons (ED.o ed_int) ao_nil))))) dss_nil)), ?_⟩
  wp_walk using False, spCell, spBox, DSpec.pure
  refine ⟨⟨ns, k⟩, rfl, rfl, hk.1, ?_⟩
  rintro t ⟨v, rfl⟩
  have hk1 : 0 ≤ k := hk.1
  have hk2 : k ≤ 100 := hk.2
  wp_walk using False
  have ha : 0 ≤ (if v < 0 then -v else v) := by split <;> omega
  generalize (if v < 0 then -v else v) = y at ha ⊢
  have hu : 0 ≤ (if y ≥ 10 ^ Int.toNat 18 then (1 : Int) else 0) ∧ (if y ≥ 10 ^ Int.toNat 18 then (1 : Int) else 0) ≤ 1 := by split <;> decide
  generalize (if y ≥ 10 ^ Int.toNat 18 then (1 : Int) else 0) = u at hu ⊢
  have hm : 0 ≤ v % 2305843009213693951 ∧ v % 2305843009213693951 < 2305843009213693951 := ⟨Int.emod_nonneg _ (by decide), Int.emod_lt_of_pos _ (by decide)⟩
  refine ⟨⟨by decide, by decide, by decide⟩, cmul_r (by omega) (by omega), by decide, cmul_l (by decide) (by decide), Int.mul_nonneg ha hu.1, ?_, ?_⟩
  · omega
  · omega
def spTake : DSpec := ⟨Addr × Int × Nat, fun i M ds => ds = [.mob i.1, .int i.2.1] ∧ 1 ≤ i.2.1 ∧ i.2.1 ≤ 2 ^ 20 ∧ i.2.2 ≤ 2 ^ 50 ∧ IsBox i.2.2 M i.1,
  fun i M t M' => ∃ r : Int, t = .fz (.int r) ∧ 0 ≤ r ∧ r < i.2.1 ∧ BoxTo i.1 (i.2.2 + 1) M M'⟩
theorem ok_take (T : Tx K mg C_Table) : DF P w K mg base s_law_take "_law_take" ["box", "size"] 1 spTake := by
  obtain ⟨f, fd, hm, F, hb⟩ := T.d_law_take
  refine ⟨f, fd, hm, F, hb, fn_dl F sc_law_take ?_⟩
  rintro X M ds ⟨p, size, n⟩ ⟨cdv, A, outer, s0, H0, E, rfl⟩ hr hl ⟨rfl, hs1, hs2, hn, a, b, c, hM, h1, h2, h3, h4, h5⟩
  refine ⟨_, (dss_cons (ds_if (EC.t (ec_gt (ED.v (ed_ixN 0 ed_int)) (ED.v ed_int))) (dss_cons (ds_set 2 sc_law_take.nd (ed_mod (ED.v (ed_ixN 0 ed_int)) (ev_var 1))) (dss_cons (ds_setIxM 0 (ed_fdiv (ED.v (ed_ixN 0 ed_int)) (ev_var 1)) ed_int) (dss_cons (ds_ret (ED.o (ed_var 2))) dss_nil))) dss_nil) (dss_cons (ds_setIxM 0 (EO.d (eo_add (ed_ixN 0 ed_int) ed_int)) ed_int) (dss_cons (ds_set 3 sc_law_take.nd (ed_mod (ED.v (EO.d (eo_mul (EO.d (eo_add (ed_ixN 0 ed_int) (EO.d (eo_mul ed_int (ed_ixN 0 ed_int))))) (EO.d (eo_add ed_int (ed_ixN 0 ed_int)))))) (ED.v ed_int))) (dss_cons (ds_set 4 sc_law_take.nd (ed_mod (ED.v (EO.d (eo_mul (EO.d (eo_add (EO.d (eo_add (ed_var 3) (ed_ixN 0 ed_int))) (ed_fdiv (ED.v (ed_ixN 0 ed_int)) (ED.v ed_int)))) (EO.d (eo_add (ed_mod (ev_var 3) (ED.v ed_int)) ed_int))))) (ED.v ed_int))) (dss_cons (ds_ret (ED.o (ed_mod (ED.v (ed_fdiv (ED.v (ed_mod (ED.v (EO.d (eo_add (EO.d (eo_mul (ed_var 4) ed_int)) (ed_var 3)))) (ED.v ed_int))) (ED.v ed_int))) (ev_var 1)))) dss_nil))))), ?_⟩
  replace hs1 : 1 ≤ size := hs1
  replace hs2 : size ≤ 2 ^ 20 := hs2
  replace hn : n ≤ 2 ^ 50 := hn
  replace h5 : c ≤ n := h5
  replace hM : M p = some (.lst [.int a, .int b, .int c]) := hM
  wp_walk using False, spTake, hM
  split
  · rename_i h
    wp_walk using False, spTake, hM
    refine ⟨⟨by omega, by omega⟩, ?_⟩
    wp_walk using False, spTake, hM
    exact ⟨Int.emod_nonneg _ (by omega), Int.emod_lt_of_pos _ (by omega), _, _, _, rfl, Int.ediv_nonneg h1 (by omega), h2, h3, h4, by omega⟩
  · wp_walk using False, spTake, hM
    refine ⟨cmul_l (by decide) (by decide), cmul_r (by omega) (by omega), by decide, ?_⟩
    have o1 : 0 ≤ (b + 48271 * (c + 1)) * (39373 + (c + 1)) % 2147483647 ∧ (b + 48271 * (c + 1)) * (39373 + (c + 1)) % 2147483647 < 2147483647 := ⟨Int.emod_nonneg _ (by decide), Int.emod_lt_of_pos _ (by decide)⟩
    generalize (b + 48271 * (c + 1)) * (39373 + (c + 1)) % 2147483647 = once at o1 ⊢
    wp_walk using False, spTake, hM
    refine ⟨⟨by decide, by decide⟩, by decide, ?_⟩
    have o2 : 0 ≤ once % 40009 ∧ once % 40009 < 40009 := ⟨Int.emod_nonneg _ (by decide), Int.emod_lt_of_pos _ (by decide)⟩
    generalize once % 40009 = small at o2 ⊢
    have o3 : 0 ≤ (once + (c + 1) + b / 1000003) * (small + 7) % 2147483629 ∧ (once + (c + 1) + b / 1000003) * (small + 7) % 2147483629 < 2147483629 := ⟨Int.emod_nonneg _ (by decide), Int.emod_lt_of_pos _ (by decide)⟩
    refine ⟨cmul_r (by omega) (by omega), by decide, ?_⟩
    generalize (once + (c + 1) + b / 1000003) * (small + 7) % 2147483629 = twice at o3 ⊢
    wp_walk using False, spTake, hM
    refine ⟨cmul_r (by decide) (by decide), by decide, ⟨by decide, by decide⟩, by omega, Int.emod_nonneg _ (by omega), Int.emod_lt_of_pos _ (by omega), _, _, _, rfl, h1, h2, h3, by omega, by omega⟩
def spOf1 : DSpec := ⟨Addr × List D × Nat, fun i M ds => (ds = [.mob i.1, .lst i.2.1] ∨ ds = [.mob i.1, .tup i.2.1]) ∧ i.2.1 ≠ [] ∧ i.2.1.length ≤ 2 ^ 20 ∧ i.2.2 ≤ 2 ^ 50 ∧ IsBox i.2.2 M i.1,
  fun i M t M' => ∃ d ∈ i.2.1, t = .fz d ∧ BoxTo i.1 (i.2.2 + 1) M M'⟩
theorem ok_of (T : Tx K mg C_Table) : DF P w K mg base s_law_of "_law_of" ["box", "some"] 2 spOf1 := by
  have F_law_take := ok_take (P := P) (w := w) (base := base) T
  obtain ⟨f, fd, hm, F, hb⟩ := T.d_law_of
  refine ⟨f, fd, hm, F, hb, fn_dl F sc_law_of ?_⟩
  rintro X M ds ⟨p, l, n⟩ ⟨cdv, A, outer, s0, H0, E, rfl⟩ hr hl ⟨hds, hl0, hl1, hn, hB⟩
  refine ⟨_, (dss_cons (ds_ret (ED.o (ed_ixN 1 (EO.d (eo_call (DF.mono F_law_take (by first | omega | decide)) hr (ad_cons (ed_var 0) (ad_cons (ed_len T.z_len (av_cons (ev_var 1) av_nil)) ad_nil))))))) dss_nil), ?_⟩
  replace hl0 : l ≠ [] := hl0
  replace hl1 : l.length ≤ 2 ^ 20 := hl1
  have hlen := List.length_pos_iff.mpr hl0
  rcases hds with rfl | rfl
  all_goals
    wp_walk using False, spTake
    refine ⟨⟨p, (l.length : Nat), n⟩, rfl, rfl, by show (1 : Int) ≤ (l.length : Nat); omega, by show ((l.length : Nat) : Int) ≤ 2 ^ 20; omega, hn, hB, ?_⟩
    rintro t M' ⟨r, rfl, hr0, hr1, hB'⟩
    replace hr1 : r < (l.length : Nat) := hr1
    obtain ⟨j, rfl⟩ := Int.eq_ofNat_of_zero_le hr0
    wp_walk using True
    have hj : j < l.length := by omega
    exact ⟨l[j], atI_nat (List.getElem?_eq_getElem hj), l[j], List.getElem_mem hj, rfl, hB'⟩
/-- one thing beside itself -/
def spSame (n : Nat) : DSpec := DSpec.pure (ι := D) (fun d ds => ds = [d, d] ∧ d.plain = true ∧ d.dep < n ∧ d.dep ≤ 100) (fun _ t => t = .fz (.bl true))
theorem ok_same (T : Tx K mg C_Table) : ∀ n, DF P w K mg base s_law_same "_law_same" ["found", "due"] n (spSame n) := by
  intro n
  induction n with
  | zero => exact DF.never T.d_law_same fun i M ds h => by have := h.2.2.1; omega
  | succ n ih =>
    have F_law_same := ih
    obtain ⟨f, fd, hm, F, hb⟩ := T.d_law_same
    refine ⟨f, fd, hm, F, hb, fn_dl F sc_law_same ?_⟩
    rintro X M ds (d : D) ⟨cdv, A, outer, s0, H0, E, rfl⟩ hr hl ⟨rfl, hp, hd, hd2⟩
    refine ⟨_, (dss_cons (ds_if (et_val (ed_isi2 .lst .tup (ev_var 1) T.z_isinstance T.z_list T.z_tuple)) (dss_cons (ds_if (EW.t (ew_or (EC.t (ec_ne hr.hu (ED.v (ed_isi .lst (ev_var 0) T.z_isinstance T.z_list)) (ED.v (ed_isi .lst (ev_var 1) T.z_isinstance T.z_list)))) (ew_or1 (EC.t (ec_ne hr.hu (ED.v (ed_isi .tup (ev_var 0) T.z_isinstance T.z_tuple)) (ED.v (ed_isi .tup (ev_var 1) T.z_isinstance T.z_tuple))))))) (dss_cons (ds_ret (ED.o ed_bl)) dss_nil) dss_nil) (dss_cons (ds_ret (ED.o (ed_and (EC.d (ec_eq hr.hu (ED.v (ed_len T.z_len (av_cons (ev_var 0) av_nil))) (ED.v (ed_len T.z_len (av_cons (ev_var 1) av_nil))))) (ed_one (ed_all rfl T.z_all (av_cons (ED.v (EO.d (eo_lc (own := [("one", 2), ("two", 3)]) rfl sc_law_same.nd (ei_zip T.z_zip (ad_cons (ed_var 0) (ad_cons (ed_var 1) ad_nil))) (blkOk_by (N := N_law_same) (sc := (defScope s_law_same)) (by first | decide +kernel | exact rfl)) (by decide) (fun _ _ _ _ _ => (eg_tup (n := 2) rfl (egs_cons (eg_name 2 sc_law_same.nd) (egs_cons (eg_name 3 sc_law_same.nd) egs_nil)))) (fun _ _ _ _ _ => ets_nil) (fun _ _ _ _ _ => (ED.o (ed_callV (DF.mono F_law_same (by first | omega | decide)) hr (av_cons (ev_var 2) (av_cons (ev_var 3) av_nil)))))))) av_nil)))))) dss_nil)) dss_nil) (dss_cons (ds_if (EW.t (ew_or (EC.t (ec_ne hr.hu (ED.v (ed_isi .bl (ev_var 0) T.z_isinstance T.z_bool)) (ED.v (ed_isi .bl (ev_var 1) T.z_isinstance T.z_bool)))) (ew_or1 (EC.t (ec_ne hr.hu (ED.v (ed_isi .int (ev_var 0) T.z_isinstance T.z_int)) (ED.v (ed_isi .int (ev_var 1) T.z_isinstance T.z_int))))))) (dss_cons (ds_ret (ED.o ed_bl)) dss_nil) dss_nil) (dss_cons (ds_ret (ED.o (EC.d (ec_eq hr.hu (ev_var 0) (ev_var 1))))) dss_nil))), ?_⟩
    have hself : D.eqOk d d = true := eqOk_of hp hp (.inl hd2)
    cases d with
    | tup l =>
      wp_walk using False, spSame, DSpec.pure
      replace hd : D.deps l < n := by rw [dep_tup] at hd; omega
      replace hd2 : D.deps l ≤ 100 := by rw [dep_tup] at hd2; omega
      replace hp : D.plains l = true := by rw [plain_tup] at hp; exact hp
      refine compD_rec (fun ds acc M => (∀ x ∈ ds, ∃ y ∈ l, x = .tup [y, y]) ∧ ∀ t ∈ acc, t = .fz (.bl true)) _ _ _ ⟨fun x hx => mem_zip_self hx, fun t ht => nomatch ht⟩ (fun acc M h => ?_) fun d ds acc M h C hC => ?_
      · obtain ⟨bs, e1, e2⟩ := trues_all h.2
        exact ⟨bs, by rw [e1], congrArg D.bl e2⟩
      · obtain ⟨y, hy, rfl⟩ := h.1 d List.mem_cons_self
        wp_walk using True, wipeE, List.length_cons
        refine ⟨plains_mem hp hy, by have := deps_mem hy; omega, by have := deps_mem hy; omega, rfl, hC _ _ ⟨fun x hx => h.1 x (List.mem_cons_of_mem _ hx), fun t ht => ?_⟩⟩
        rcases List.mem_append.mp ht with ht | ht
        · exact h.2 t ht
        · simpa using ht
    | lst l =>
      wp_walk using False, spSame, DSpec.pure
      replace hd : D.deps l < n := by rw [dep_lst] at hd; omega
      replace hd2 : D.deps l ≤ 100 := by rw [dep_lst] at hd2; omega
      replace hp : D.plains l = true := by rw [plain_lst] at hp; exact hp
      refine compD_rec (fun ds acc M => (∀ x ∈ ds, ∃ y ∈ l, x = .tup [y, y]) ∧ ∀ t ∈ acc, t = .fz (.bl true)) _ _ _ ⟨fun x hx => mem_zip_self hx, fun t ht => nomatch ht⟩ (fun acc M h => ?_) fun d ds acc M h C hC => ?_
      · obtain ⟨bs, e1, e2⟩ := trues_all h.2
        exact ⟨bs, by rw [e1], congrArg D.bl e2⟩
      · obtain ⟨y, hy, rfl⟩ := h.1 d List.mem_cons_self
        wp_walk using True, wipeE, List.length_cons
        refine ⟨plains_mem hp hy, by have := deps_mem hy; omega, by have := deps_mem hy; omega, rfl, hC _ _ ⟨fun x hx => h.1 x (List.mem_cons_of_mem _ hx), fun t ht => ?_⟩⟩
        rcases List.mem_append.mp ht with ht | ht
        · exact h.2 t ht
        · simpa using ht
    | non =>
      wp_walk using False, spSame, DSpec.pure
    | bl b =>
      wp_walk using False, spSame, DSpec.pure
    | int i =>
      wp_walk using False, spSame, DSpec.pure
    | str x =>
      wp_walk using False, spSame, DSpec.pure
    | _ => simp [D.plain] at hp
end
end DL

namespace DL
open PySem L2 PySem.Spec
open PyProof.Rows hiding St
set_option autoImplicit false
section
variable {P : Program} {w : World} {K : PySem.W.Frag} {mg : Str → Option Value} {base : Heap} {C_Table : Addr}
theorem take_at {M : Mem} {p : Addr} {size : Int} {n : Nat} {Q : OT → Mem → Prop} (h1 : 1 ≤ size) (h2 : size ≤ 2 ^ 20) (hn : n ≤ 2 ^ 50) (hB : IsBox n M p) (k : ∀ r M', 0 ≤ r → r < size → BoxTo p (n + 1) M M' → Q (.fz (.int r)) M') :
    ∃ i : Addr × Int × Nat, p = i.fst ∧ size = i.snd.fst ∧ 1 ≤ i.snd.fst ∧ i.snd.fst ≤ 2 ^ 20 ∧ i.snd.snd ≤ 2 ^ 50 ∧ IsBox i.snd.snd M i.fst ∧ ∀ (t : OT) (M' : Mem), (∃ r, t = OT.fz (D.int r) ∧ 0 ≤ r ∧ r < i.snd.fst ∧ BoxTo i.fst (i.snd.snd + 1) M M') → Q t M' :=
  ⟨⟨p, size, n⟩, rfl, rfl, h1, h2, hn, hB, fun t M' ⟨r, e, h0, h1, hB'⟩ => by subst e; exact k r M' h0 h1 hB'⟩
def spNames : DSpec := ⟨Addr × Int × Nat, fun i M ds => ds = [.mob i.1, .int i.2.1] ∧ 0 ≤ i.2.1 ∧ i.2.1 ≤ 26 ∧ i.2.2 + 20 ≤ 2 ^ 50 ∧ IsBox i.2.2 M i.1,
  fun i M t M' => ∃ xs : List Str, t = .ow ((xs.map .str).map .fz) ∧ (xs.length : Int) = i.2.1 ∧ xs.Nodup ∧ (∀ x ∈ xs, IsNm x) ∧ BoxTo i.1 (i.2.2 + 20) M M'⟩
theorem ok_names (T : Tx K mg C_Table) : DF P w K mg base s_law_names "_law_names" ["box", "size"] 2 spNames := by
  have F_law_take := ok_take (P := P) (w := w) (base := base) T
  obtain ⟨f, fd, hm, F, hb⟩ := T.d_law_names
  refine ⟨f, fd, hm, F, hb, fn_dl F sc_law_names ?_⟩
  rintro X M ds ⟨p, size, n⟩ ⟨cdv, A, outer, s0, H0, E, rfl⟩ hr hl ⟨rfl, hs1, hs2, hn, hB⟩
  refine ⟨_, (dss_cons (ds_asg (ed_tup (ad_cons ed_str (ad_cons (EO.d (eo_call (DF.mono F_law_take (by first | omega | decide)) hr (ad_cons (ed_var 0) (ad_cons ed_int ad_nil)))) ad_nil))) (eg_tup (n := 2) rfl (egs_cons (eg_name 2 sc_law_names.nd) (egs_cons (eg_name 3 sc_law_names.nd) egs_nil)))) (dss_cons (ds_set 4 sc_law_names.nd (ed_join (ED.v ed_str) (av_cons (ED.v (EO.d (eo_lc (own := [("turn", 9)]) rfl sc_law_names.nd (ei_range1 T.z_range (av_cons (ED.v (EO.d (eo_call (DF.mono F_law_take (by first | omega | decide)) hr (ad_cons (ed_var 0) (ad_cons ed_int ad_nil))))) av_nil)) (blkOk_by (N := N_law_names) (sc := (defScope s_law_names)) (by first | decide +kernel | exact rfl)) (by decide) (fun _ _ _ _ _ => (eg_name 9 sc_law_names.nd)) (fun _ _ _ _ _ => ets_nil) (fun _ _ _ _ _ => (ED.o (ed_ixN 2 (EO.d (eo_call (DF.mono F_law_take (by first | omega | decide)) hr (ad_cons (ed_var 0) (ad_cons ed_int ad_nil)))))))))) av_nil))) (dss_cons (ds_par3 (i := 5) (j := 6) (l := 7) rfl sc_law_names.nd (ao_cons (ED.o (EO.d (eo_call (DF.mono F_law_take (by first | omega | decide)) hr (ad_cons (ed_var 0) (ad_cons (EO.d (eo_add (ed_len T.z_len (av_cons (ev_var 4) av_nil)) ed_int)) ad_nil))))) (ao_cons (ED.o (EO.d (eo_call (DF.mono F_law_take (by first | omega | decide)) hr (ad_cons (ed_var 0) (ad_cons ed_int ad_nil))))) (ao_cons (eo_lst ao_nil) ao_nil)))) (dss_cons (ds_for PassesOwn.never rfl (ei_range1 T.z_range (av_cons (ev_var 1) av_nil)) (eg_name 8 sc_law_names.nd) (dss_cons (ds_append 7 (eo_add (EO.d (eo_add (EO.d (eo_sl (ed_var 4) ep_none (ep_some (ev_var 5)))) (ed_ixN 2 (ed_mod (ED.v (EO.d (eo_add (ed_var 3) (EO.d (eo_mul ed_int (ed_var 8)))))) (ED.v ed_int))))) (EO.d (eo_sl (ed_var 4) (ep_some (ev_var 5)) ep_none)))) (dss_cons (ds_if (EW.t (ew_and (EC.t (ec_eq hr.hu (ev_var 6) (ED.v ed_int))) (ew_and1 (EC.t (ec_eq hr.hu (ED.v (ed_mod (ev_var 8) (ED.v ed_int))) (ED.v ed_int)))))) (dss_cons (ds_setIxO 7 (EO.d (eo_add (ed_ixN 7 (ed_sub (ev_var 8) (ED.v ed_int))) (ed_ixN 2 (ed_mod (ED.v (EO.d (eo_add (ed_var 3) (ed_var 8)))) (ED.v ed_int))))) (ev_var 8)) dss_nil) dss_nil) dss_nil))) (dss_cons (ds_retOwn 7) dss_nil))))), ?_⟩
  replace hs1 : 0 ≤ size := hs1
  replace hs2 : size ≤ 26 := hs2
  replace hn : n + 20 ≤ 2 ^ 50 := hn
  replace hB : IsBox n M p := hB
  wp_walk using False, spTake
  refine take_at (by decide) (by decide) (by omega : n ≤ _) hB fun shift M1 h0 h1 hB1 => ?_
  wp_walk using False, spTake
  refine take_at (by decide) (by decide) (by omega : n + 1 ≤ _) hB1.is fun len M2 h2 h3 hB2 => ?_
  wp_walk using False, spTake
  obtain ⟨len, rfl⟩ := Int.eq_ofNat_of_zero_le h2
  refine compD_rec (fun ds acc M' => acc.length + ds.length = len ∧ BoxTo p (n + 2 + acc.length) M M' ∧ ∃ ys : List Str, acc = (ys.map .str).map .fz ∧ ∀ y ∈ ys, Low y ∧ y.length = 1) _ _ _ ⟨by simp [rngD_len], hB1.trans hB2, [], rfl, fun _ h => nomatch h⟩ (fun acc M3 h => ?_) fun d ds acc M3 h C hC => ?_
  · obtain ⟨hl3, hB3, ys, rfl, hy⟩ := h
    obtain ⟨e1, e2⟩ := low_join hy
    rw [← TL.join_eq] at e1 e2
    have hl4 : ys.length = len := by simpa using hl3
    have hsum : (ys.map (·.length)).sum = ys.length := by
      clear hl3 hB3 e1 e2 hl4
      induction ys with
      | nil => rfl
      | cons y ys ih => rw [List.map_cons, List.sum_cons, ih fun z hz => hy z (List.mem_cons_of_mem _ hz), (hy y List.mem_cons_self).2, List.length_cons]; omega
    have e0 : (Str.ofString "").length = 0 := by decide +kernel
    refine ⟨ys, by rw [OT.map_fz], by rw [hsum, e0]; omega, ?_⟩
    generalize Txt.join (Str.ofString "") ys = stem at e1 e2 ⊢
    simp only [List.length_map] at hB3 hl3
    wp_walk using False, spTake
    refine take_at (by omega) (by omega) (by omega : n + 2 + ys.length ≤ _) hB3.is fun spot M4 h4 h5 hB4 => ?_
    wp_walk using False, spTake
    refine take_at (by decide) (by decide) (by omega : n + 2 + ys.length + 1 ≤ _) hB4.is fun longer M5 h6 h7 hB5 => ?_
    wp_walk using False, spTake
    obtain ⟨spot, rfl⟩ := Int.eq_ofNat_of_zero_le h4
    obtain ⟨size, rfl⟩ := Int.eq_ofNat_of_zero_le hs1
    have hB6 : BoxTo p (n + 20) M M5 := ((hB3.trans hB4).trans hB5).mono (by omega)
    have l2 := len_cut (x := stem) (s := spot)
    generalize hU : cutS stem none (some (spot : Int)) = U at l2 ⊢
    generalize hV : cutS stem (some (spot : Int)) none = V at l2 ⊢
    have lowU : Low U := by rw [← hU]; exact low_cut e1 _ _
    have lowV : Low V := by rw [← hV]; exact low_cut e1 _ _
    refine forD_rec (fun ds ρ M' => M' = M5 ∧ ∃ (a : Nat) (u : Option OT), ds = rngD a (size - a) ∧ a ≤ size ∧ ρ = [some (.fz (.mob p)), some (.fz (.int size)), some (.fz (.str abc)), some (.fz (.int shift)), some (.fz (.str stem)), some (.fz (.int spot)), some (.fz (.int longer)), some (.ow (((nms U V shift longer a).map .str).map .fz)), u, none]) _ _ _ ⟨rfl, 0, none, rfl, by omega, rfl⟩ (fun ρ M' h => ?_) fun d ds ρ M' h C hC => ?_
    · obtain ⟨rfl, a, u, hds, ha, rfl⟩ := h
      have : a = size := by
        have := congrArg List.length hds
        rw [rngD_len] at this
        simp at this
        omega
      subst this
      wp_walk using False, spNames
      exact ⟨nms U V shift longer a, rfl, by rw [nms_len], nms_nodup (by omega), nms_ok lowU lowV (by omega), hB6⟩
    · obtain ⟨rfl, a, u, hds, ha, rfl⟩ := h
      have hlt : a < size := by
        have := congrArg List.length hds
        rw [rngD_len] at this
        simp at this
        omega
      obtain ⟨m, hm⟩ : ∃ m, size - a = m + 1 := ⟨size - a - 1, by omega⟩
      rw [hm, rngD_cons] at hds
      obtain ⟨rfl, rfl⟩ := List.cons.inj hds
      have hm2 : rngD ((a : Int) + 1) m = rngD ((a + 1 : Nat) : Int) (size - (a + 1)) := by rw [show m = size - (a + 1) by omega]; rfl
      have hc := abc_at (r := (shift + 3 * a) % 26) (Int.emod_nonneg _ (by decide)) (Int.emod_lt_of_pos _ (by decide))
      have l1 : (ltr ((shift + 3 * a) % 26)).length = 1 := rfl
      have l3 : (U ++ ltr ((shift + 3 * a) % 26)).length = U.length + 1 := len_app
      have nlen : (U ++ ltr ((shift + 3 * a) % 26) ++ V).length ≤ 7 := by rw [len_app, l3]; omega
      have l5 := cmul_l (i := 3) (j := (a : Int)) (by decide) (by decide)
      have l6 : (U ++ ltr ((shift + 3 * a) % 26)).length + V.length ≤ 16777216 := by rw [l3]; omega
      have el : ∀ r : Int, (⟨#[97 + r.toNat]⟩ : Str) = ltr r := fun _ => rfl
      have hx : (nms U V shift longer a).length = a := nms_len
      wp_walk using False, hc, abc_len, hU, hV, el, nms_len
      have done : C [some (.fz (.mob p)), some (.fz (.int size)), some (.fz (.str abc)), some (.fz (.int shift)), some (.fz (.str stem)), some (.fz (.int spot)), some (.fz (.int longer)), some (.ow (((nms U V shift longer (a + 1)).map .str).map .fz)), some (.fz (.int a)), none] M' :=
        hC _ _ ⟨rfl, a + 1, some (.fz (.int a)), hm2, by omega, rfl⟩
      have plain : ¬ (longer = 1 ∧ a % 2 = 1) → C [some (.fz (.mob p)), some (.fz (.int size)), some (.fz (.str abc)), some (.fz (.int shift)), some (.fz (.str stem)), some (.fz (.int spot)), some (.fz (.int longer)), some (.ow (((nms U V shift longer a).map D.str ++ [D.str (U ++ ltr ((shift + 3 * a) % 26) ++ V)]).map .fz)), some (.fz (.int a)), none] M' := fun hno => by
        have := done
        rw [nms_snoc, List.map_append] at this
        unfold nm at this
        rw [if_neg hno] at this
        exact this
      split
      · rename_i hl1
        replace hl1 : longer = 1 := by simpa using hl1
        refine ⟨by decide, ?_⟩
        split
        · rename_i hodd
          have hodd' : a % 2 = 1 := by omega
          obtain ⟨b, rfl⟩ : ∃ b, a = b + 1 := ⟨a - 1, by omega⟩
          have e3 : atI ((nms U V shift longer (b + 1)).map D.str ++ [D.str (U ++ ltr ((shift + 3 * ((b + 1 : Nat) : Int)) % 26) ++ V)]) (((b + 1 : Nat) : Int) - 1) = some (.str (nmB U V shift b)) := by
            rw [show (((b + 1 : Nat) : Int) - 1) = (b : Int) by omega]
            refine atI_nat ?_
            rw [List.getElem?_append_left (by rw [List.length_map, nms_len]; omega), List.getElem?_map, nms_at (by omega)]
            unfold nm
            rw [if_neg (by omega)]
            rfl
          have hc2 := abc_at (r := (shift + ((b + 1 : Nat) : Int)) % 26) (Int.emod_nonneg _ (by decide)) (Int.emod_lt_of_pos _ (by decide))
          have o7 : (nmB U V shift b).length ≤ 7 := by rw [nmB_len]; omega
          have l4 : ∀ r : Int, (ltr r).length = 1 := fun _ => rfl
          have e6 : ixN (b + 1 + 1) (((b + 1 : Nat) : Int)) = some (b + 1) := by
            unfold ixN
            rw [if_pos (by omega), if_pos (by omega)]
            rfl
          wp_walk using False, hc2, e3, e6, abc_len, el, l4, nms_len
          have e5 : (((nms U V shift longer (b + 1)).map D.str ++ [D.str (U ++ ltr ((shift + 3 * ((b + 1 : Nat) : Int)) % 26) ++ V)]).map OT.fz).set (b + 1) (OT.fz (D.str (nmB U V shift b ++ ltr ((shift + ((b + 1 : Nat) : Int)) % 26)))) = ((nms U V shift longer (b + 1 + 1)).map D.str).map OT.fz := by
            rw [nms_snoc (n := b + 1), List.map_append, List.map_append, List.map_append, List.set_append_right _ _ (by simp [nms_len])]
            unfold nm
            rw [if_pos ⟨hl1, by omega⟩]
            simp [nms_len]
          rw [e5]
          exact done
        · exact plain (by omega)
      · rename_i hl1
        exact plain (fun z => hl1 (by simpa using z.1))
  · obtain ⟨hl3, hB3, ys, rfl, hy⟩ := h
    wp_walk using False, spTake
    refine take_at (by decide) (by decide) (by simp at hl3 ⊢; omega : n + 2 + _ ≤ _) hB3.is fun r M4 h4 h5 hB4 => ?_
    have hc := abc_at h4 h5
    wp_walk using True, hc, abc_len
    refine hC _ _ ⟨by simp at hl3 ⊢; omega, (hB3.trans hB4).mono (by simp; omega), ys ++ [ltr r], by simp; rfl, fun y hy' => ?_⟩
    rcases List.mem_append.mp hy' with z | z
    · exact hy y z
    · rw [List.mem_singleton] at z
      subst z
      exact ⟨ltr_low h4 h5, rfl⟩
end
end DL

namespace DL
open PySem L2 PySem.Spec
open PyProof.Rows hiding St
set_option autoImplicit false
section
variable {P : Program} {w : World} {K : PySem.W.Frag} {mg : Str → Option Value} {base : Heap} {C_Table : Addr}
def spName : DSpec := DSpec.pure (ι := Str) (fun x ds => ds = [.str x] ∧ IsNm x) (fun _ t => t = .fz (.bl true))
theorem ok_is_name (T : Tx K mg C_Table) : DF P w K mg base s_is_name "is_name" ["thing"] 1 spName := by
  obtain ⟨f, fd, hm, F, hb⟩ := T.d_is_name
  refine ⟨f, fd, hm, F, hb, fn_dl F sc_is_name ?_⟩
  rintro X M ds (x : Str) ⟨cdv, A, outer, s0, H0, E, rfl⟩ hr hl ⟨rfl, hx, hx1, hx2⟩
  refine ⟨_, (dss_cons (ds_ret (ED.o (ed_and (ed_isi .str (ev_var 0) T.z_isinstance T.z_str) (ed_and (EC.d (ec_chain op_lt op_le (sr_I0 fun i j B => .bl _) (sr_I0 fun i j B => .bl _) (ED.v ed_int) (ED.v (ed_len T.z_len (av_cons (ev_var 0) av_nil))) (ED.v (ed_gc T.c_MOST_LETTERS)))) (ed_one (ed_all rfl T.z_all (av_cons (ED.v (EO.d (eo_lc (own := [("sign", 1)]) rfl sc_is_name.nd (ei_str (ed_var 0)) (blkOk_by (N := N_is_name) (sc := (defScope s_is_name)) (by first | decide +kernel | exact rfl)) (by decide) (fun _ _ _ _ _ => (eg_name 1 sc_is_name.nd)) (fun _ _ _ _ _ => ets_nil) (fun _ _ _ _ _ => (ED.o (EC.d (ec_in hr.hu (ev_var 1) (ED.v (ed_gc T.c_LETTERS))))))))) av_nil))))))) dss_nil), ?_⟩
  have q1 : (0 : Int) < (x.length : Int) := by omega
  have q2 : (x.length : Int) ≤ 8 := by omega
  have q3 : x.length ≤ 16777216 := by omega
  wp_walk using False, spName, DSpec.pure, q1, q2, q3
  refine compD_all (fun d => ∃ c, d = .str ⟨#[c]⟩ ∧ subStr ⟨#[c]⟩ abc = true) (signs_low hx) (fun acc bs e1 e2 => ?_) ?_
  · exact ⟨bs, by rw [e1], congrArg D.bl e2⟩
  · rintro d ⟨c, rfl, hc⟩ acc C hC
    wp_walk using True, hIn_str, hc
    exact hC
def spTup : DSpec := DSpec.pure (ι := List D × Int) (fun i ds => ds = [.tup i.1, .int i.2]) (fun i t => t = .fz (.bl (decide ((i.1.length : Int) = i.2))))
theorem ok_is_tuple_of (T : Tx K mg C_Table) : DF P w K mg base s_is_tuple_of "is_tuple_of" ["thing", "many"] 1 spTup := by
  obtain ⟨f, fd, hm, F, hb⟩ := T.d_is_tuple_of
  refine ⟨f, fd, hm, F, hb, fn_dl F sc_is_tuple_of ?_⟩
  rintro X M ds ⟨l, n⟩ ⟨cdv, A, outer, s0, H0, E, rfl⟩ hr hl rfl
  refine ⟨_, (dss_cons (ds_ret (ED.o (ed_and (ed_isi .tup (ev_var 0) T.z_isinstance T.z_tuple) (ed_one (EC.d (ec_eq hr.hu (ED.v (ed_len T.z_len (av_cons (ev_var 0) av_nil))) (ev_var 1))))))) dss_nil), ?_⟩
  wp_walk using False, spTup, DSpec.pure
def spRises : DSpec := DSpec.pure (ι := List D) (fun l ds => (ds = [.tup l] ∨ ds = [.lst l]) ∧ Chain l) (fun _ t => t = .fz (.bl true))
theorem ok_rises (T : Tx K mg C_Table) : DF P w K mg base s_rises "rises" ["some"] 1 spRises := by
  obtain ⟨f, fd, hm, F, hb⟩ := T.d_rises
  refine ⟨f, fd, hm, F, hb, fn_dl F sc_rises ?_⟩
  rintro X M ds (l : List D) ⟨cdv, A, outer, s0, H0, E, rfl⟩ hr hl ⟨hds, hc⟩
  refine ⟨_, (dss_cons (ds_ret (ED.o (ed_all rfl T.z_all (av_cons (ED.v (EO.d (eo_lc (own := [("one", 1), ("other", 2)]) rfl sc_rises.nd (ei_zip T.z_zip (ad_cons (ed_var 0) (ad_cons (EO.d (eo_sl (ed_var 0) (ep_some (ED.v ed_int)) ep_none)) ad_nil))) (blkOk_by (N := N_rises) (sc := (defScope s_rises)) (by first | decide +kernel | exact rfl)) (by decide) (fun _ _ _ _ _ => (eg_tup (n := 2) rfl (egs_cons (eg_name 1 sc_rises.nd) (egs_cons (eg_name 2 sc_rises.nd) egs_nil)))) (fun _ _ _ _ _ => ets_nil) (fun _ _ _ _ _ => (ED.o (EC.d (ec_ltD hr.hu (ev_var 1) (ev_var 2)))))))) av_nil)))) dss_nil), ?_⟩
  rcases hds with rfl | rfl
  all_goals
    wp_walk using False, spRises, DSpec.pure
    refine compD_all _ hc (fun acc bs e1 e2 => ?_) ?_
    · exact ⟨bs, by rw [e1], congrArg D.bl e2⟩
    · rintro d ⟨x, y, rfl, h1, h2⟩ acc C hC
      wp_walk using True, h1, h2
      exact hC
def spAreNames : DSpec := DSpec.pure (ι := List Str × Int × Int) (fun i ds => ds = [strsD i.1, .int i.2.1, .int i.2.2] ∧ i.2.1 ≤ i.1.length ∧ i.1.length ≤ i.2.2 ∧ i.1.length ≤ 100 ∧ Asc i.1 ∧ ∀ x ∈ i.1, IsNm x) (fun _ t => t = .fz (.bl true))
theorem ok_are_names (T : Tx K mg C_Table) : DF P w K mg base s_are_names "are_names" ["thing", "least", "most"] 2 spAreNames := by
  have F_is_name := ok_is_name (P := P) (w := w) (base := base) T
  have F_rises := ok_rises (P := P) (w := w) (base := base) T
  obtain ⟨f, fd, hm, F, hb⟩ := T.d_are_names
  refine ⟨f, fd, hm, F, hb, fn_dl F sc_are_names ?_⟩
  rintro X M ds ⟨l, a, b⟩ ⟨cdv, A, outer, s0, H0, E, rfl⟩ hr hl ⟨rfl, h1, h2, h0, h3, h4⟩
  refine ⟨_, (dss_cons (ds_if (EW.t (ew_or (et_not (et_val (ed_isi .tup (ev_var 0) T.z_isinstance T.z_tuple))) (ew_or1 (et_not (EC.t (ec_chain op_le op_le (sr_I0 fun i j B => .bl _) (sr_I0 fun i j B => .bl _) (ev_var 1) (ED.v (ed_len T.z_len (av_cons (ev_var 0) av_nil))) (ev_var 2))))))) (dss_cons (ds_ret (ED.o ed_bl)) dss_nil) dss_nil) (dss_cons (ds_ret (ED.o (ed_and (ed_all rfl T.z_all (av_cons (ED.v (EO.d (eo_lc (own := [("one", 3)]) rfl sc_are_names.nd (ei_seq (ed_var 0)) (blkOk_by (N := N_are_names) (sc := (defScope s_are_names)) (by first | decide +kernel | exact rfl)) (by decide) (fun _ _ _ _ _ => (eg_name 3 sc_are_names.nd)) (fun _ _ _ _ _ => ets_nil) (fun _ _ _ _ _ => (eo_callP (DF.mono F_is_name (by first | omega | decide)) hr (ad_cons (ed_var 3) ad_nil)))))) av_nil)) (ed_one (EO.d (eo_callP (DF.mono F_rises (by first | omega | decide)) hr (ad_cons (ed_var 0) ad_nil))))))) dss_nil)), ?_⟩
  replace h1 : a ≤ (l.length : Int) := h1
  replace h2 : (l.length : Int) ≤ b := h2
  wp_walk using False, strsD, h1, h2
  replace h0 : l.length ≤ 100 := h0
  refine ⟨by omega, ?_⟩
  refine compD_all (fun d => ∃ x, d = .str x ∧ IsNm x) (fun d hd => ?_) (fun acc bs e1 e2 => ?_) ?_
  · obtain ⟨x, hx, rfl⟩ := List.mem_map.mp hd
    exact ⟨x, rfl, h4 x hx⟩
  · refine ⟨bs, by rw [e1], ?_⟩
    wp_walk using False, e2, spAreNames, DSpec.pure, spRises
    exact chain_strs h3
  · rintro d ⟨x, rfl, hx⟩ acc C hC
    wp_walk using True, spName, DSpec.pure
    exact ⟨hx, hC⟩
theorem any_strs {x : Str} {l : List Str} (h : x ∈ l) : ((l.map D.str).any fun z => D.eqv z (.str x)) = true := by
  have := isIn_strs (x := x) (ys := l)
  unfold D.isIn at this
  rw [this]
  exact decide_eq_true h
def spMoves : DSpec := DSpec.pure (ι := Tb) (fun t ds => ds = [.tup (t.mvs.map prD), strsD t.sts] ∧ t.Ok) (fun _ t => t = .fz (.bl true))
theorem ok_are_moves (T : Tx K mg C_Table) : DF P w K mg base s_are_moves "are_moves" ["thing", "states"] 2 spMoves := by
  have F_is_tuple_of := ok_is_tuple_of (P := P) (w := w) (base := base) T
  have F_rises := ok_rises (P := P) (w := w) (base := base) T
  obtain ⟨f, fd, hm, F, hb⟩ := T.d_are_moves
  refine ⟨f, fd, hm, F, hb, fn_dl F sc_are_moves ?_⟩
  rintro X M ds (t : Tb) ⟨cdv, A, outer, s0, H0, E, rfl⟩ hr hl ⟨rfl, ht⟩
  refine ⟨_, (dss_cons (ds_if (EW.t (ew_or (et_not (et_val (ed_isi .tup (ev_var 0) T.z_isinstance T.z_tuple))) (ew_or1 (EC.t (ec_gt (ED.v (ed_len T.z_len (av_cons (ev_var 0) av_nil))) (ED.v (ed_gc T.c_MOST_MOVES))))))) (dss_cons (ds_ret (ED.o ed_bl)) dss_nil) dss_nil) (dss_cons (ds_if (et_not (et_val (ed_all rfl T.z_all (av_cons (ED.v (EO.d (eo_lc (own := [("one", 2)]) rfl sc_are_moves.nd (ei_seq (ed_var 0)) (blkOk_by (N := N_are_moves) (sc := (defScope s_are_moves)) (by first | decide +kernel | exact rfl)) (by decide) (fun _ _ _ _ _ => (eg_name 2 sc_are_moves.nd)) (fun _ _ _ _ _ => ets_nil) (fun _ _ _ _ _ => (ED.o (ed_and (EO.d (eo_callP (DF.mono F_is_tuple_of (by first | omega | decide)) hr (ad_cons (ed_var 2) (ad_cons ed_int ad_nil)))) (ed_and (EC.d (ec_in hr.hu (ED.v (ed_ixN 2 ed_int)) (ev_var 1))) (ed_one (EC.d (ec_in hr.hu (ED.v (ed_ixN 2 ed_int)) (ev_var 1))))))))))) av_nil)))) (dss_cons (ds_ret (ED.o ed_bl)) dss_nil) dss_nil) (dss_cons (ds_ret (ED.o (ed_and (EO.d (eo_callP (DF.mono F_rises (by first | omega | decide)) hr (ad_cons (ed_var 0) ad_nil))) (ed_one (ed_all rfl T.z_all (av_cons (ED.v (EO.d (eo_lc (own := [("state", 3)]) rfl sc_are_moves.nd (ei_seq (ed_var 1)) (blkOk_by (N := N_are_moves) (sc := (defScope s_are_moves)) (by first | decide +kernel | exact rfl)) (by decide) (fun _ _ _ _ _ => (eg_name 3 sc_are_moves.nd)) (fun _ _ _ _ _ => ets_nil) (fun _ _ _ _ _ => (ED.o (EC.d (ec_in hr.hu (ev_var 3) (ED.v (EO.d (eo_lc (own := [("one", 2)]) rfl sc_are_moves.nd (ei_seq (ed_var 0)) (blkOk_by (by first | exact rfl | decide +kernel)) (by decide) (fun _ _ _ _ _ => (eg_name 2 sc_are_moves.nd)) (fun _ _ _ _ _ => ets_nil) (fun _ _ _ _ _ => (ED.o (ed_ixN 2 ed_int))))))))))))) av_nil)))))) dss_nil))), ?_⟩
  have q1 : ¬ ((t.mvs.length : Int) > 24) := by have := ht.mv_len; omega
  have q2 := ht.mv_len
  have q3 := ht.st_len
  wp_walk using False, strsD, q1
  refine compD_all (fun d => ∃ p : Str × Str, d = prD p ∧ p.1 ∈ t.sts ∧ p.2 ∈ t.sts) (fun d hd => ?_) (fun acc bs e1 e2 => ?_) ?_
  · obtain ⟨p, hp, rfl⟩ := List.mem_map.mp hd
    exact ⟨p, rfl, ht.mv_in p hp⟩
  · refine ⟨bs, by rw [e1], ?_⟩
    wp_walk using False, e2, spMoves, DSpec.pure, spRises
    refine ⟨chain_prs ht.mv_asc, by omega, ?_⟩
    refine compD_all (fun d => ∃ x, d = .str x ∧ x ∈ t.sts) (fun d hd => ?_) (fun acc bs e1 e2 => ?_) ?_
    · obtain ⟨x, hx, rfl⟩ := List.mem_map.mp hd
      exact ⟨x, rfl, hx⟩
    · exact ⟨bs, by rw [e1], congrArg D.bl e2⟩
    · rintro d ⟨x, rfl, hx⟩ acc C hC
      obtain ⟨y, hy⟩ := ht.mv_all x hx
      have hin : x ∈ t.mvs.map (·.1) := List.mem_map.mpr ⟨_, hy, rfl⟩
      wp_walk using True
      refine ⟨by omega, ?_⟩
      refine compD_map (F := prD) (G := fun p => .str p.1) (fun p hp acc C hC => ?_) ?_
      · wp_walk using True, prD
        exact hC
      · have e3 : ((t.mvs.map fun p => D.str p.1).any fun z => D.eqv z (.str x)) = true := by
          have := any_strs hin
          rwa [List.map_map] at this
        have e4 : D.plains (t.mvs.map fun p => D.str p.1) = true := by
          have := plains_strs (ys := t.mvs.map (·.1))
          rwa [List.map_map] at this
        wp_walk using True, e3, e4
        exact hC
  · rintro d ⟨p, rfl, hp1, hp2⟩ acc C hC
    wp_walk using True, spTup, DSpec.pure, prD
    refine ⟨([.str p.1, .str p.2], 2), rfl, rfl, ?_⟩
    wp_walk using True, any_strs hp1, any_strs hp2, plains_strs, deps_strs
    exact hC
def spBegins : DSpec := DSpec.pure (ι := Tb) (fun t ds => ds = [strsD t.bgs, strsD t.sts] ∧ t.Ok) (fun _ t => t = .fz (.bl true))
theorem bg_len {t : Tb} (h : t.Ok) : t.bgs.length ≤ 8 := by
  have hn : t.bgs.Nodup := h.bg_asc.imp fun h => slt_ne h
  have := nodup_len hn h.bg_in
  have := h.st_len
  omega
theorem ok_are_begins (T : Tx K mg C_Table) : DF P w K mg base s_are_begins "are_begins" ["thing", "states"] 2 spBegins := by
  have F_rises := ok_rises (P := P) (w := w) (base := base) T
  obtain ⟨f, fd, hm, F, hb⟩ := T.d_are_begins
  refine ⟨f, fd, hm, F, hb, fn_dl F sc_are_begins ?_⟩
  rintro X M ds (t : Tb) ⟨cdv, A, outer, s0, H0, E, rfl⟩ hr hl ⟨rfl, ht⟩
  refine ⟨_, (dss_cons (ds_if (EW.t (ew_or (et_not (et_val (ed_isi .tup (ev_var 0) T.z_isinstance T.z_tuple))) (ew_or1 (EC.t (ec_eq hr.hu (ED.v (ed_len T.z_len (av_cons (ev_var 0) av_nil))) (ED.v ed_int)))))) (dss_cons (ds_ret (ED.o ed_bl)) dss_nil) dss_nil) (dss_cons (ds_ret (ED.o (ed_and (ed_all rfl T.z_all (av_cons (ED.v (EO.d (eo_lc (own := [("one", 2)]) rfl sc_are_begins.nd (ei_seq (ed_var 0)) (blkOk_by (N := N_are_begins) (sc := (defScope s_are_begins)) (by first | decide +kernel | exact rfl)) (by decide) (fun _ _ _ _ _ => (eg_name 2 sc_are_begins.nd)) (fun _ _ _ _ _ => ets_nil) (fun _ _ _ _ _ => (ED.o (EC.d (ec_in hr.hu (ev_var 2) (ev_var 1)))))))) av_nil)) (ed_one (EO.d (eo_callP (DF.mono F_rises (by first | omega | decide)) hr (ad_cons (ed_var 0) ad_nil))))))) dss_nil)), ?_⟩
  have q1 : ¬ ((t.bgs.length : Int) = 0) := by have := List.length_pos_iff.mpr ht.bg_ne; omega
  have q2 := bg_len ht
  wp_walk using False, strsD, q1
  refine compD_all (fun d => ∃ x, d = .str x ∧ x ∈ t.sts) (fun d hd => ?_) (fun acc bs e1 e2 => ?_) ?_
  · obtain ⟨x, hx, rfl⟩ := List.mem_map.mp hd
    exact ⟨x, rfl, ht.bg_in x hx⟩
  · refine ⟨bs, by rw [e1], ?_⟩
    wp_walk using False, e2, spBegins, DSpec.pure, spRises
    exact chain_strs ht.bg_asc
  · rintro d ⟨x, rfl, hx⟩ acc C hC
    wp_walk using True, any_strs hx, plains_strs, deps_strs
    exact hC
def spShow : DSpec := DSpec.pure (ι := (Str × List Str) × Tb) (fun i ds => ds = [shD i.1, strsD i.2.sts] ∧ i.1 ∈ i.2.shs ∧ i.2.Ok) (fun _ t => t = .fz (.bl true))
theorem ok_is_show (T : Tx K mg C_Table) : DF P w K mg base s_is_show "is_show" ["thing", "states"] 3 spShow := by
  have F_is_tuple_of := ok_is_tuple_of (P := P) (w := w) (base := base) T
  have F_are_names := ok_are_names (P := P) (w := w) (base := base) T
  obtain ⟨f, fd, hm, F, hb⟩ := T.d_is_show
  refine ⟨f, fd, hm, F, hb, fn_dl F sc_is_show ?_⟩
  rintro X M ds ⟨⟨x, ms⟩, t⟩ ⟨cdv, A, outer, s0, H0, E, rfl⟩ hr hl ⟨rfl, hin, ht⟩
  refine ⟨_, (dss_cons (ds_ret (ED.o (ed_and (EO.d (eo_callP (DF.mono F_is_tuple_of (by first | omega | decide)) hr (ad_cons (ed_var 0) (ad_cons ed_int ad_nil)))) (ed_and (EC.d (ec_in hr.hu (ED.v (ed_ixN 0 ed_int)) (ev_var 1))) (ed_one (EO.d (eo_callP (DF.mono F_are_names (by first | omega | decide)) hr (ad_cons (ed_ixN 0 ed_int) (ad_cons ed_int (ad_cons (ed_gc T.c_MOST_MARKS) ad_nil)))))))))) dss_nil), ?_⟩
  obtain ⟨h1, h2, h3, h4, h5⟩ := ht.sh_in _ hin
  replace h1 : x ∈ t.sts := h1
  replace h2 : 1 ≤ ms.length := h2
  replace h3 : ms.length ≤ 4 := h3
  wp_walk using False, shD, strsD, spTup, DSpec.pure
  refine ⟨([.str x, .tup (ms.map .str)], 2), rfl, rfl, ?_⟩
  wp_walk using False, any_strs h1, plains_strs, deps_strs, spAreNames, DSpec.pure, spShow, strsD
  refine ⟨⟨ms, 1, 4⟩, ?_⟩
  · exact ⟨rfl, rfl, rfl, by show (1 : Int) ≤ (ms.length : Int); omega, by show (ms.length : Int) ≤ 4; omega, by show ms.length ≤ 100; omega, h4, h5⟩
theorem sh_len {t : Tb} (h : t.Ok) : t.shs.length ≤ 8 := by
  have hn : (t.shs.map (·.1)).Nodup := h.sh_asc.imp fun h => slt_ne h
  have := nodup_len hn (fun x hx => by obtain ⟨p, hp, rfl⟩ := List.mem_map.mp hx; exact (h.sh_in p hp).1)
  have := h.st_len
  rw [List.length_map] at *
  omega
def spShows : DSpec := DSpec.pure (ι := Tb) (fun t ds => ds = [.tup (t.shs.map shD), strsD t.sts] ∧ t.Ok) (fun _ t => t = .fz (.bl true))
theorem ok_are_shows (T : Tx K mg C_Table) : DF P w K mg base s_are_shows "are_shows" ["thing", "states"] 4 spShows := by
  have F_is_show := ok_is_show (P := P) (w := w) (base := base) T
  have F_rises := ok_rises (P := P) (w := w) (base := base) T
  obtain ⟨f, fd, hm, F, hb⟩ := T.d_are_shows
  refine ⟨f, fd, hm, F, hb, fn_dl F sc_are_shows ?_⟩
  rintro X M ds (t : Tb) ⟨cdv, A, outer, s0, H0, E, rfl⟩ hr hl ⟨rfl, ht⟩
  refine ⟨_, (dss_cons (ds_if (EW.t (ew_or (et_not (et_val (ed_isi .tup (ev_var 0) T.z_isinstance T.z_tuple))) (ew_or1 (et_not (et_val (ed_all rfl T.z_all (av_cons (ED.v (EO.d (eo_lc (own := [("one", 2)]) rfl sc_are_shows.nd (ei_seq (ed_var 0)) (blkOk_by (N := N_are_shows) (sc := (defScope s_are_shows)) (by first | decide +kernel | exact rfl)) (by decide) (fun _ _ _ _ _ => (eg_name 2 sc_are_shows.nd)) (fun _ _ _ _ _ => ets_nil) (fun _ _ _ _ _ => (eo_callP (DF.mono F_is_show (by first | omega | decide)) hr (ad_cons (ed_var 2) (ad_cons (ed_var 1) ad_nil))))))) av_nil))))))) (dss_cons (ds_ret (ED.o ed_bl)) dss_nil) dss_nil) (dss_cons (ds_ret (eo_callP (DF.mono F_rises (by first | omega | decide)) hr (ad_cons (EO.d (eo_lc (own := [("state", 3), ("marks", 4)]) rfl sc_are_shows.nd (ei_seq (ed_var 0)) (blkOk_by (N := N_are_shows) (sc := (defScope s_are_shows)) (by first | decide +kernel | exact rfl)) (by decide) (fun _ _ _ _ _ => (eg_tup (n := 2) rfl (egs_cons (eg_name 3 sc_are_shows.nd) (egs_cons (eg_name 4 sc_are_shows.nd) egs_nil)))) (fun _ _ _ _ _ => ets_nil) (fun _ _ _ _ _ => (ED.o (ed_var 3))))) ad_nil))) dss_nil)), ?_⟩
  have q2 := sh_len ht
  wp_walk using False
  refine compD_all (fun d => ∃ p, d = shD p ∧ p ∈ t.shs) (fun d hd => ?_) (fun acc bs e1 e2 => ?_) ?_
  · obtain ⟨p, hp, rfl⟩ := List.mem_map.mp hd
    exact ⟨p, rfl, hp⟩
  · refine ⟨bs, by rw [e1], ?_⟩
    wp_walk using False, e2
    refine compD_map (F := shD) (G := fun p => .str p.1) (fun p hp acc C hC => ?_) ?_
    · wp_walk using True, shD
      exact hC
    · wp_walk using True, spShows, DSpec.pure, spRises
      have := chain_strs ht.sh_asc
      rwa [List.map_map] at this
  · rintro d ⟨p, rfl, hp⟩ acc C hC
    wp_walk using True, spShow, DSpec.pure
    exact ⟨⟨p, t⟩, rfl, rfl, hp, ht, hC⟩
end
end DL

namespace DL
open PySem L2 PySem.Spec
open PyProof.Rows hiding St
set_option autoImplicit false
section
variable {P : Program} {w : World} {K : PySem.W.Frag} {mg : Str → Option Value} {base : Heap} {C_Table : Addr}
def spInit (C : Addr) : DSpec := ⟨Addr × Tb, fun i M ds => ds = .mob i.1 :: i.2.parts ∧ M i.1 = some (.ins C [] []) ∧ i.2.Ok, fun i M t M' => t = .fz .non ∧ M' = M.put i.1 (.ins C tbNs i.2.parts)⟩
theorem ok_Table (T : Tx K mg C_Table) : DI P w K mg base C_Table "Table" "Table.__init__" s_Table_init ["self", "states", "moves", "begins", "shows"] 5 (spInit C_Table) := by
  have F_are_names := ok_are_names (P := P) (w := w) (base := base) T
  have F_are_moves := ok_are_moves (P := P) (w := w) (base := base) T
  have F_are_begins := ok_are_begins (P := P) (w := w) (base := base) T
  have F_are_shows := ok_are_shows (P := P) (w := w) (base := base) T
  obtain ⟨f, fd, hm, F⟩ := T.d_Table_init
  refine ⟨⟨f, fd, hm, F, fn_dl F sc_Table_init ?_⟩, T.g_Table⟩
  rintro X M ds ⟨q, t⟩ ⟨cdv, A, outer, s0, H0, E, rfl⟩ hr hl ⟨rfl, hM, ht⟩
  refine ⟨_, (dss_cons (ds_if (et_not (et_val (EO.d (eo_callP (DF.mono F_are_names (by first | omega | decide)) hr (ad_cons (ed_var 1) (ad_cons ed_int (ad_cons (ed_gc T.c_MOST_STATES) ad_nil))))))) (dss_cons ds_never dss_nil) dss_nil) (dss_cons (ds_if (et_not (et_val (EO.d (eo_callP (DF.mono F_are_moves (by first | omega | decide)) hr (ad_cons (ed_var 2) (ad_cons (ed_var 1) ad_nil)))))) (dss_cons ds_never dss_nil) dss_nil) (dss_cons (ds_if (et_not (et_val (EO.d (eo_callP (DF.mono F_are_begins (by first | omega | decide)) hr (ad_cons (ed_var 3) (ad_cons (ed_var 1) ad_nil)))))) (dss_cons ds_never dss_nil) dss_nil) (dss_cons (ds_if (et_not (et_val (EO.d (eo_callP (DF.mono F_are_shows (by first | omega | decide)) hr (ad_cons (ed_var 4) (ad_cons (ed_var 1) ad_nil)))))) (dss_cons ds_never dss_nil) dss_nil) (dss_cons (ds_fld2 0 rfl T.cls_Table T.n_Table_states T.n_Table_moves (ad_cons (ed_var 1) (ad_cons (ed_var 2) ad_nil))) (dss_cons (ds_fld2 0 rfl T.cls_Table T.n_Table_begins T.n_Table_shows (ad_cons (ed_var 3) (ad_cons (ed_var 4) ad_nil))) dss_nil)))))), ?_⟩
  replace ht : t.Ok := ht
  have hs := ht.st_len
  replace hM : M q = some (.ins C_Table [] []) := hM
  wp_walk using False, Tb.parts
  refine ⟨(t.sts, 1, 8), ⟨rfl, by show (1 : Int) ≤ (t.sts.length : Int); omega, by show (t.sts.length : Int) ≤ 8; omega, by show t.sts.length ≤ 100; omega, ht.st_asc, ht.st_nm⟩, ?_⟩
  rintro _ ⟨_, rfl⟩
  wp_walk using False
  refine ⟨t, ⟨rfl, ht⟩, ?_⟩
  rintro _ ⟨_, rfl⟩
  wp_walk using False
  refine ⟨t, ⟨rfl, ht⟩, ?_⟩
  rintro _ ⟨_, rfl⟩
  wp_walk using False
  refine ⟨t, ⟨rfl, ht⟩, ?_⟩
  rintro _ ⟨_, rfl⟩
  wp_walk using False, hM
  exact ⟨rfl, rfl⟩
def spMarks (C : Addr) : DSpec := DSpec.pure (ι := Tb × Str) (fun i ds => ds = [i.1.ob C, .str i.2] ∧ i.1.Ok) (fun i t => t = .fz (strsD (marksOf i.1.shs i.2)))
theorem ok_marks_of (T : Tx K mg C_Table) : DM P w K mg base C_Table "marks_of" "Table.marks_of" s_Table_marks_of ["self", "state"] 1 (spMarks C_Table) := by
  obtain ⟨f, fd, hm, F, hb⟩ := T.d_Table_marks_of
  refine ⟨⟨f, fd, hm, F, hb, fn_dl F sc_Table_marks_of ?_⟩, T.cls_Table⟩
  rintro X M ds ⟨t, x⟩ ⟨cdv, A, outer, s0, H0, E, rfl⟩ hr hl ⟨rfl, ht⟩
  replace ht : t.Ok := ht
  refine ⟨_, (dss_cons (ds_for PassesOwn.never rfl (ei_seq (ed_fld T.cls_Table T.n_Table_shows (ed_var 0))) (eg_tup (n := 2) rfl (egs_cons (eg_name 2 sc_Table_marks_of.nd) (egs_cons (eg_name 3 sc_Table_marks_of.nd) egs_nil))) (dss_cons (ds_if (EC.t (ec_eq hr.hu (ev_var 2) (ev_var 1))) (dss_cons (ds_ret (ED.o (ed_var 3))) dss_nil) dss_nil) dss_nil)) (dss_cons (ds_ret (ED.o (ed_tup ad_nil))) dss_nil)), ?_⟩
  have hlen := sh_len ht
  wp_walk using False, Tb.ob, Tb.parts, tbNs
  refine forD_rec (fun ds ρ M' => M' = M ∧ ∃ (rest : List (Str × List Str)) (o u v : Option OT), ds = rest.map shD ∧ marksOf rest x = marksOf t.shs x ∧ ρ = [o, some (.fz (.str x)), u, v]) _ _ _ ⟨rfl, t.shs, _, _, _, rfl, rfl, rfl⟩ (fun ρ M' h => ?_) fun d ds ρ M' h C hC => ?_
  · obtain ⟨rfl, rest, o, u, v, e1, e2, rfl⟩ := h
    have : rest = [] := by simpa using e1.symm
    subst this
    wp_walk using False, spMarks, DSpec.pure
    rw [← e2]
    rfl
  · obtain ⟨rfl, rest, o, u, v, e1, e2, rfl⟩ := h
    cases rest with
    | nil => cases e1
    | cons p rest =>
      rw [List.map_cons] at e1
      obtain ⟨rfl, rfl⟩ := List.cons.inj e1
      wp_walk using False, shD
      split
      · rename_i hp
        wp_walk using False, spMarks, DSpec.pure
        rw [← e2]
        unfold marksOf
        rw [if_pos hp]
        rfl
      · rename_i hp
        wp_walk using False
        refine hC _ _ ⟨rfl, rest, _, _, _, rfl, ?_, rfl⟩
        rw [← e2, marksOf, if_neg hp]
end
end DL

namespace DL
open PySem L2 PySem.Spec
open PyProof.Rows hiding St
set_option autoImplicit false
section
variable {P : Program} {w : World} {K : PySem.W.Frag} {mg : Str → Option Value} {base : Heap} {C_Table : Addr}
theorem sort_strs {l : List Str} {M : Mem} {P : OT → Mem → Prop} (hn : l.Nodup) (hl : l.length < 64) (k : ∀ ys : List Str, ys.Perm l → Asc ys → P (.ow ((ys.map .str).map .fz)) M) : hSortS [.lst (l.map .str)] M P :=
  ⟨l, rfl, hl, fun ys hp hs => k ys hp (asc_of hp hn hs)⟩
structure Ow where
  nodes : List Str
  arcs : List (Str × Str)
  firsts : List Str
  tags : List (Str × List Str)
structure Ow.Ok (o : Ow) : Prop where
  len : 1 ≤ o.nodes.length ∧ o.nodes.length ≤ 8
  nm : ∀ x ∈ o.nodes, IsNm x
  asc : Asc o.nodes
  a_len : o.arcs.length ≤ 24
  a_in : ∀ p ∈ o.arcs, p.1 ∈ o.nodes ∧ p.2 ∈ o.nodes
  a_asc : AscP o.arcs
  a_all : ∀ x ∈ o.nodes, ∃ y, (x, y) ∈ o.arcs
  f_ne : o.firsts ≠ []
  f_in : ∀ x ∈ o.firsts, x ∈ o.nodes
  f_asc : Asc o.firsts
  t_fst : o.tags.map (·.1) = o.nodes
  t_in : ∀ p ∈ o.tags, p.2.length ≤ 4 ∧ Asc p.2 ∧ ∀ x ∈ p.2, IsNm x
def owKs : List Key := [.inr "nodes", .inr "arcs", .inr "firsts", .inr "tags"]
def tagsD (l : List (Str × List Str)) : D := .dk (l.map fun p => .inr p.1) (l.map fun p => strsD p.2)
def Ow.D (o : Ow) : D := .dk owKs [.lst (o.nodes.map .str), .lst (o.arcs.map prD), .lst (o.firsts.map .str), tagsD o.tags]
theorem of_atL {M : Mem} {p : Addr} {l : List D} {n : Nat} {Q : OT → Mem → Prop} (h0 : l ≠ []) (hl : l.length ≤ 2 ^ 20) (hn : n ≤ 2 ^ 50) (hB : IsBox n M p) (k : ∀ d M', d ∈ l → BoxTo p (n + 1) M M' → Q (.fz d) M') :
    ∃ i : spOf1.ι, spOf1.pre i M [.mob p, .lst l] ∧ ∀ t M', spOf1.post i M t M' → Q t M' :=
  ⟨(p, l, n), ⟨by first | exact .inr rfl | exact .inl rfl, h0, hl, hn, hB⟩, fun t M' ⟨d, hd, e, hB'⟩ => by subst e; exact k d M' hd hB'⟩
def spTable : DSpec := ⟨Addr × List Str × List Str × Nat, fun i M ds => ds = [.mob i.1, .lst (i.2.1.map .str), .lst (i.2.2.1.map .str)] ∧ (1 ≤ i.2.1.length ∧ i.2.1.length ≤ 8 ∧ i.2.1.Nodup ∧ ∀ x ∈ i.2.1, IsNm x) ∧ (i.2.2.1.length ≤ 26 ∧ i.2.2.1.Nodup ∧ ∀ x ∈ i.2.2.1, IsNm x) ∧ i.2.2.2 + 300 ≤ 2 ^ 50 ∧ IsBox i.2.2.2 M i.1,
  fun i M t M' => ∃ o : Ow, t.toD = o.D ∧ o.Ok ∧ BoxTo i.1 (i.2.2.2 + 300) M M' ∧ o.nodes.Perm i.2.1⟩
theorem ok_table (T : Tx K mg C_Table) : DF P w K mg base s_law_table "_law_table" ["box", "nodes", "labels"] 3 spTable := by
  have F_law_take := ok_take (P := P) (w := w) (base := base) T
  have F_law_of := ok_of (P := P) (w := w) (base := base) T
  obtain ⟨f, fd, hm, F, hb⟩ := T.d_law_table
  refine ⟨f, fd, hm, F, hb, fn_dl F sc_law_table ?_⟩
  rintro X M ds ⟨p, nodes, marks, n⟩ ⟨cdv, A, outer, s0, H0, E, rfl⟩ hr hl ⟨rfl, ⟨hn1, hn2, hn3, hn4⟩, ⟨hm1, hm2, hm3⟩, hn, hB⟩
  refine ⟨_, (dss_cons (ds_parT (i := 3) (j := 4) rfl sc_law_table.nd (ao_cons (eo_dictO (dpo_cons ed_str (ED.o (EO.d (eo_sortedS T.z_sorted (ad_cons (ed_var 1) ad_nil)))) (dpo_cons ed_str (ED.o (EO.d (eo_lst ao_nil))) (dpo_cons ed_str (ED.o (EO.d (eo_lst ao_nil))) (dpo_cons ed_str eo_dnew dpo_nil))))) (ao_cons (ED.o (EO.d (eo_add ed_int (EO.d (eo_call (DF.mono F_law_take (by first | omega | decide)) hr (ad_cons (ed_var 0) (ad_cons ed_int ad_nil))))))) ao_nil))) (dss_cons (ds_for PassesOwn.never rfl (ei_seq (ed_dixN 3 hr.hu ed_str)) (eg_name 5 sc_law_table.nd) (dss_cons (ds_setLcO (own := [("turn", 8)]) 6 rfl sc_law_table.nd (ei_range1 T.z_range (av_cons (ED.v (EO.d (eo_add ed_int (EO.d (eo_call (DF.mono F_law_take (by first | omega | decide)) hr (ad_cons (ed_var 0) (ad_cons (ed_var 4) ad_nil))))))) av_nil)) (blkOk_by (N := N_law_table) (sc := (defScope s_law_table)) (by first | decide +kernel | exact rfl)) (by decide) (fun _ _ _ _ _ => (eg_name 8 sc_law_table.nd)) (fun _ _ _ _ _ => ets_nil) (fun _ _ _ _ _ => (ED.o (ed_tup (ad_cons (ed_var 5) (ad_cons (EO.d (eo_call (DF.mono F_law_of (by first | omega | decide)) hr (ad_cons (ed_var 0) (ad_cons (ed_dixN 3 hr.hu ed_str) ad_nil)))) ad_nil))))) (by rfl)) (DSs.frz 6 (dss_cons (ds_setKeyO 3 hr.hu (EO.d (eo_sortedSet rfl hr.hu T.z_sorted T.z_set (EO.d (eo_add (ed_dixN 3 hr.hu ed_str) (ed_var 6))))) ed_str) (dss_cons (ds_set 7 sc_law_table.nd (EO.d (eo_tuple T.z_tuple (ad_cons (EO.d (eo_sortedS T.z_sorted (ad_cons (EO.d (eo_lc (own := [("mark", 9)]) rfl sc_law_table.nd (ei_seq (ed_var 2)) (blkOk_by (N := N_law_table) (sc := (defScope s_law_table)) (by first | decide +kernel | exact rfl)) (by decide) (fun _ _ _ _ _ => (eg_name 9 sc_law_table.nd)) (fun _ _ _ _ _ => (ets_one (EC.t (ec_eq hr.hu (ED.v (EO.d (eo_call (DF.mono F_law_take (by first | omega | decide)) hr (ad_cons (ed_var 0) (ad_cons ed_int ad_nil))))) (ED.v ed_int))))) (fun _ _ _ _ _ => (ED.o (ed_var 9))))) ad_nil))) ad_nil)))) (dss_cons (ds_updKey 3 hr.hu ed_str (ed_var 5) (EO.d (eo_sl (ed_var 7) ep_none (ep_some (ED.v ed_int))))) dss_nil)))))) (dss_cons (ds_setKeyO 3 hr.hu (EO.d (eo_sortedSet rfl hr.hu T.z_sorted T.z_set (EO.d (eo_lc (own := [("turn", 8)]) rfl sc_law_table.nd (ei_range1 T.z_range (av_cons (ED.v (EO.d (eo_add ed_int (EO.d (eo_call (DF.mono F_law_take (by first | omega | decide)) hr (ad_cons (ed_var 0) (ad_cons ed_int ad_nil))))))) av_nil)) (blkOk_by (N := N_law_table) (sc := (defScope s_law_table)) (by first | decide +kernel | exact rfl)) (by decide) (fun _ _ _ _ _ => (eg_name 8 sc_law_table.nd)) (fun _ _ _ _ _ => ets_nil) (fun _ _ _ _ _ => (eo_call (DF.mono F_law_of (by first | omega | decide)) hr (ad_cons (ed_var 0) (ad_cons (ed_dixN 3 hr.hu ed_str) ad_nil)))))))) ed_str) (dss_cons (ds_retOwn 3) dss_nil)))), ?_⟩
  replace hn1 : 1 ≤ nodes.length := hn1
  replace hn2 : nodes.length ≤ 8 := hn2
  replace hn3 : nodes.Nodup := hn3
  replace hn4 : ∀ x ∈ nodes, IsNm x := hn4
  replace hm1 : marks.length ≤ 26 := hm1
  replace hm2 : marks.Nodup := hm2
  replace hm3 : ∀ x ∈ marks, IsNm x := hm3
  replace hn : n + 300 ≤ 2 ^ 50 := hn
  replace hB : IsBox n M p := hB
  wp_walk using False, spTake
  refine sort_strs hn3 (by omega) fun ns hp hasc => ?_
  wp_walk using False, spTake
  refine take_at (by decide) (by decide) (by omega : n ≤ _) hB fun wide M1 h0 h1 hB1 => ?_
  wp_walk using False, spTake
  have hlen := hp.length_eq
  have hmem : ∀ x, x ∈ ns ↔ x ∈ nodes := fun x => hp.mem_iff
  have hns : ns ≠ [] := fun e => by rw [e] at hlen; simp at hlen; omega
  refine ⟨by omega, ?_⟩
  refine forD_rec (fun ds ρ M' => ∃ (done rest : List Str) (arcs : List (Str × Str)) (tags : List (Str × List Str)) (o1 o2 u5 u6 u7 u8 u9 : Option OT), ns = done ++ rest ∧ ds = rest.map .str ∧ ρ = [some (.fz (.mob p)), o1, some (.fz (.lst (marks.map .str))), some (.od owKs [.fz (.lst (ns.map .str)), .fz (.lst (arcs.map prD)), .fz (.lst []), .od (tags.map fun q => .inr q.1) (tags.map fun q => .fz (strsD q.2))]), some (.fz (.int (1 + wide))), u5, u6, u7, u8, u9] ∧
      BoxTo p (n + 1 + 30 * done.length) M M' ∧ arcs.length ≤ 3 * done.length ∧ (∀ q ∈ arcs, q.1 ∈ ns ∧ q.2 ∈ ns) ∧ AscP arcs ∧ (∀ x ∈ done, ∃ y, (x, y) ∈ arcs) ∧ tags.map (·.1) = done ∧ ∀ q ∈ tags, q.2.length ≤ 4 ∧ Asc q.2 ∧ ∀ x ∈ q.2, IsNm x) _ _ _ ⟨[], ns, [], [], _, none, _, _, _, _, _, rfl, rfl, rfl, hB1, Nat.zero_le _, (fun _ h => nomatch h), .nil, (fun _ h => nomatch h), rfl, fun _ h => nomatch h⟩ (fun ρ M' h => ?_) fun d ds ρ M' h C hC => ?_
  · obtain ⟨done, rest, arcs, tags, o1, o2, u5, u6, u7, u8, u9, e1, e2, rfl, hB2, h2, h3, h4, h5, h6, h7⟩ := h
    have : rest = [] := by simpa using e2.symm
    subst this
    rw [List.append_nil] at e1
    subst e1
    wp_walk using False, spTake, owKs
    refine take_at (by decide) (by decide) (by omega : n + 1 + 30 * ns.length ≤ _) hB2.is fun r M2 h8 h9 hB3 => ?_
    obtain ⟨r, rfl⟩ := Int.eq_ofNat_of_zero_le h8
    wp_walk using False, spTake, owKs
    refine compD_box (Good := fun y : Str => y ∈ ns) (G := .str) 1 (hB2.trans hB3) (fun d hd acc M3 j C hj hB4 hC => ?_) (fun new M3 hl hnew hB4 => ?_)
    · rw [rngD_len] at hj
      wp_walk using True, owKs
      refine of_atL (by simpa using hns) (by simp; omega) (by omega) hB4.is fun d2 M4 hd2 hB5 => ?_
      obtain ⟨y, hy, rfl⟩ := List.mem_map.mp hd2
      exact hC y M4 hy ((hB4.trans hB5).mono (by omega))
    · simp only [rngD_len] at hl hB4
      wp_walk using False, spTake, owKs
      refine sortset_strs (by omega) fun fs hfs hasc2 => ?_
      wp_walk using False, owKs, spTable, hasK, putTs
      refine ⟨⟨ns, arcs, fs, tags⟩, by simp [Ow.D, owKs, tagsD, Function.comp_def], ⟨by show 1 ≤ ns.length ∧ ns.length ≤ 8; omega, fun y hy => hn4 y ((hmem y).mp hy), hasc, by show arcs.length ≤ 24; omega, h3, h4, h5, ?_, fun y hy => ?_, hasc2, h6, h7⟩, hB4.mono (by omega), hp⟩
      · show fs ≠ []
        rintro rfl
        cases new with
        | nil => simp at hl; omega
        | cons y new => exact nomatch (hfs y).mpr List.mem_cons_self
      · exact hnew y ((hfs y).mp hy)
  · obtain ⟨done, rest, arcs, tags, o1, o2, u5, u6, u7, u8, u9, e1, e2, rfl, hB2, h2, h3, h4, h5, h6, h7⟩ := h
    cases rest with
    | nil => cases e2
    | cons x rest =>
      rw [List.map_cons] at e2
      obtain ⟨rfl, rfl⟩ := List.cons.inj e2
      have hd : done.length + rest.length + 1 = ns.length := by rw [e1]; simp; omega
      wp_walk using False, spTake, owKs
      refine take_at (by omega) (by omega) (by omega : n + 1 + 30 * done.length ≤ _) hB2.is fun r M2 h8 h9 hB3 => ?_
      obtain ⟨r, rfl⟩ := Int.eq_ofNat_of_zero_le h8
      wp_walk using False, spTake, owKs
      refine compD_box (Good := fun q : Str × Str => q.1 = x ∧ q.2 ∈ ns) (G := prD) 1 (hB2.trans hB3) (fun d hd acc M3 j C hj hB4 hC => ?_) (fun new M3 hl hnew hB4 => ?_)
      · rw [rngD_len] at hj
        wp_walk using True, owKs
        refine of_atL (by simpa using hns) (by simp; omega) (by omega) hB4.is fun d2 M4 hd2 hB5 => ?_
        obtain ⟨y, hy, rfl⟩ := List.mem_map.mp hd2
        exact hC (x, y) M4 ⟨rfl, hy⟩ ((hB4.trans hB5).mono (by omega))
      · simp only [rngD_len] at hl hB4
        wp_walk using False, spTake, owKs
        rw [← List.map_append]
        refine sortset_prs (by rw [List.length_append]; omega) fun as has hasc2 => ?_
        wp_walk using False, spTake, owKs
        refine compD_boxF 1 hB4 (fun m hm acc M4 j C2 hj hB5 hC2 => ?_) (fun ms M4 hsub hB5 => ?_)
        · wp_walk using True, spTake
          refine take_at (by decide) (by decide) (by omega : n + 1 + 30 * done.length + 1 + 1 * (1 + (r : Int)).toNat + 1 * j ≤ _) hB5.is fun r2 M5 h10 h11 hB6 => ?_
          wp_walk using True
          obtain ⟨c1, c2⟩ := hC2 M5 ((hB5.trans hB6).mono (by omega))
          split <;> assumption
        · wp_walk using False
          refine sort_strs (hsub.nodup hm2) (by have := hsub.length_le; omega) fun ms2 hp2 hasc3 => ?_
          have hxd : x ∉ done := fun hx => by
            have : (done ++ x :: rest).Nodup := e1 ▸ hp.nodup_iff.mpr hn3
            exact (List.nodup_append.mp this).2.2 x hx x List.mem_cons_self rfl
          have hnk : ((tags.map fun q => (Sum.inr q.1 : Key)).any fun a => decide (a = Sum.inr x)) = false := by
            rw [List.any_eq_false]
            intro k hk
            obtain ⟨q, hq, rfl⟩ := List.mem_map.mp hk
            simp only [Sum.inr.injEq, decide_eq_true_eq]
            exact fun e => hxd (h6 ▸ List.mem_map.mpr ⟨q, hq, e⟩)
          have htl : tags.length = done.length := by rw [← h6, List.length_map]
          wp_walk using False, owKs, hnk, cut4
          refine hC _ _ ⟨done ++ [x], rest, as, tags ++ [(x, ms2.take 4)], o1, none, some (.fz (.str x)), some (.fz (.lst (new.map prD))), some (.fz (.tup (ms2.map .str))), u8, u9, by rw [e1, List.append_assoc]; rfl, rfl, by simp only [List.map_append, List.map_cons, List.map_nil, owKs, strsD], hB5.mono (by simp; omega), ?_, ?_, hasc2, ?_, by rw [List.map_append, h6]; rfl, ?_⟩
          · have q1 : as.length ≤ (arcs ++ new).length := nodup_len (hasc2.imp fun h e => by subst e; exact (h.elim (slt_irr _) fun z => slt_irr _ z.2)) fun y hy => (has y).mp hy
            rw [List.length_append] at q1
            rw [List.length_append, List.length_singleton]
            omega
          · intro q hq
            rcases List.mem_append.mp ((has q).mp hq) with hq | hq
            · exact h3 q hq
            · exact ⟨by rw [(hnew q hq).1, e1]; simp, (hnew q hq).2⟩
          · intro y hy
            rcases List.mem_append.mp hy with hy | hy
            · obtain ⟨z, hz⟩ := h5 y hy
              exact ⟨z, (has _).mpr (List.mem_append_left _ hz)⟩
            · rw [List.mem_singleton] at hy
              subst hy
              cases new with
              | nil => simp at hl; omega
              | cons q new => exact ⟨q.2, (has _).mpr (List.mem_append_right _ (by rw [← (hnew q List.mem_cons_self).1]; exact List.mem_cons_self))⟩
          · intro q hq
            rcases List.mem_append.mp hq with hq | hq
            · exact h7 q hq
            · rw [List.mem_singleton] at hq
              subst hq
              refine ⟨by rw [List.length_take]; omega, hasc3.sublist (List.take_sublist _ _), fun y hy => hm3 y (hsub.mem (hp2.mem_iff.mp (List.mem_of_mem_take hy)))⟩
end
end DL

namespace DL
open PySem L2 PySem.Spec
open PyProof.Rows hiding St
set_option autoImplicit false
section
variable {P : Program} {w : World} {K : PySem.W.Frag} {mg : Str → Option Value} {base : Heap} {C_Table : Addr}
def Ow.tb (o : Ow) : Tb := ⟨o.nodes, o.arcs, o.firsts, o.tags.filter fun q => !q.2.isEmpty⟩
theorem Ow.tb_ok {o : Ow} (h : o.Ok) : o.tb.Ok where
  st_len := h.len
  st_nm := h.nm
  st_asc := h.asc
  mv_len := h.a_len
  mv_in := h.a_in
  mv_asc := h.a_asc
  mv_all := h.a_all
  bg_ne := h.f_ne
  bg_in := h.f_in
  bg_asc := h.f_asc
  sh_in := fun p hp => by
    obtain ⟨h1, h2⟩ := List.mem_filter.mp hp
    obtain ⟨h3, h4, h5⟩ := h.t_in p h1
    refine ⟨?_, ?_, h3, h4, h5⟩
    · show p.1 ∈ o.nodes
      rw [← h.t_fst]; exact List.mem_map.mpr ⟨p, h1, rfl⟩
    · cases e : p.2 with
      | nil => simp [e] at h2
      | cons a l => simp
  sh_asc := by
    show Asc ((o.tags.filter _).map (·.1))
    have : Asc (o.tags.map (·.1)) := by rw [h.t_fst]; exact h.asc
    exact this.sublist (List.filter_sublist.map _)
theorem ow_at {o : Ow} {x : Str} {v : D} {M : Mem} {P : D → Mem → Prop} (h : getK owKs [.lst (o.nodes.map .str), .lst (o.arcs.map prD), .lst (o.firsts.map .str), tagsD o.tags] (.inr x) = some v) : hDix o.D (.str x) M P = P v M :=
  propext ⟨fun ⟨ks, ds, k, d, e, h1, h2, h3⟩ => by
    cases h1
    unfold Ow.D at e
    cases e
    rw [h] at h2
    cases h2
    exact h3, fun q => ⟨_, _, _, v, rfl, rfl, h, q⟩⟩
theorem ow_nodes {o : Ow} {M : Mem} {P : D → Mem → Prop} : hDix o.D (.str "nodes") M P = P (.lst (o.nodes.map .str)) M := ow_at rfl
theorem ow_arcs {o : Ow} {M : Mem} {P : D → Mem → Prop} : hDix o.D (.str "arcs") M P = P (.lst (o.arcs.map prD)) M := ow_at rfl
theorem ow_firsts {o : Ow} {M : Mem} {P : D → Mem → Prop} : hDix o.D (.str "firsts") M P = P (.lst (o.firsts.map .str)) M := ow_at rfl
theorem ow_tags {o : Ow} {M : Mem} {P : D → Mem → Prop} : hDix o.D (.str "tags") M P = P (tagsD o.tags) M := ow_at rfl
def tagOf (o : Ow) (x : Str) : List Str := marksOf o.tags x
theorem getK_tags {x : Str} : ∀ {l : List (Str × List Str)}, x ∈ l.map (·.1) → getK (l.map fun q => (.inr q.1 : Key)) (l.map fun q => strsD q.2) (.inr x) = some (strsD (marksOf l x))
  | [], h => nomatch h
  | q :: l, h => by
    simp only [List.map_cons, getK, marksOf]
    by_cases e : q.1 = x
    · simp [e]
    · have : x ∈ l.map (·.1) := by
        rw [List.map_cons] at h
        exact (List.mem_cons.mp h).resolve_left fun z => e z.symm
      simp [e, getK_tags this]
theorem marks_filter {x : Str} : ∀ {l : List (Str × List Str)}, (l.map (·.1)).Nodup → marksOf (l.filter fun q => !q.2.isEmpty) x = marksOf l x
  | [], _ => rfl
  | q :: l, h => by
    obtain ⟨h1, h2⟩ := List.nodup_cons.mp h
    have ih := marks_filter (x := x) h2
    by_cases e : q.1 = x
    · have none : ∀ m : List (Str × List Str), x ∉ m.map (·.1) → marksOf m x = [] := fun m => by
        induction m with
        | nil => intro _; rfl
        | cons p m ih =>
          intro hm
          rw [List.map_cons, List.mem_cons, not_or] at hm
          rw [marksOf, if_neg fun z => hm.1 z.symm, ih hm.2]
      cases hq : q.2 with
      | nil =>
        rw [List.filter_cons_of_neg (by simp [hq]), ih, marksOf, if_pos e, hq]
        exact none l (e ▸ h1)
      | cons a m =>
        rw [List.filter_cons_of_pos (by simp [hq]), marksOf, marksOf, if_pos e, if_pos e]
    · cases hq : q.2 with
      | nil => rw [List.filter_cons_of_neg (by simp [hq]), ih, marksOf, if_neg e]
      | cons a m => rw [List.filter_cons_of_pos (by simp [hq]), marksOf, marksOf, if_neg e, if_neg e, ih]
theorem made_marks {o : Ow} (h : o.Ok) (x : Str) : marksOf o.tb.shs x = tagOf o x := marks_filter (by rw [h.t_fst]; exact h.asc.imp fun h => slt_ne h)
theorem marks_at {q : Str × List Str} : ∀ {l : List (Str × List Str)}, (l.map (·.1)).Nodup → q ∈ l → marksOf l q.1 = q.2
  | p :: l, h, hq => by
    obtain ⟨h1, h2⟩ := List.nodup_cons.mp h
    rcases List.mem_cons.mp hq with rfl | hq
    · rw [marksOf, if_pos rfl]
    · rw [marksOf, if_neg fun z => h1 (by show p.1 ∈ _; rw [z]; exact List.mem_map.mpr ⟨q, hq, rfl⟩), marks_at h2 hq]
theorem made_rows {o : Ow} (h : o.Ok) : (o.nodes.filter fun x => !(tagOf o x).isEmpty).map (fun x => shD (x, tagOf o x)) = o.tb.shs.map shD := by
  have hn : (o.tags.map (·.1)).Nodup := by rw [h.t_fst]; exact h.asc.imp fun h => slt_ne h
  rw [← h.t_fst, List.filter_map, List.map_map]
  have e : o.tags.filter ((fun x => !(tagOf o x).isEmpty) ∘ (·.1)) = o.tb.shs := List.filter_congr fun q hq => by
    show (!(marksOf o.tags q.1).isEmpty) = _
    rw [marks_at hn hq]
  rw [e]
  exact List.map_congr_left fun q hq => by
    show shD (q.1, marksOf o.tags q.1) = _
    rw [marks_at hn (List.mem_filter.mp hq).1]
def spMade (C : Addr) : DSpec := DSpec.pure (ι := Ow) (fun o ds => ds = [o.D] ∧ o.Ok) (fun o t => t = .fz (o.tb.ob C))
theorem ok_made (T : Tx K mg C_Table) : DF P w K mg base s_law_made "_law_made" ["t"] 7 (spMade C_Table) := by
  have F_Table := ok_Table (P := P) (w := w) (base := base) T
  obtain ⟨f, fd, hm, F, hb⟩ := T.d_law_made
  refine ⟨f, fd, hm, F, hb, fn_dl F sc_law_made ?_⟩
  rintro X M ds (o : Ow) ⟨cdv, A, outer, s0, H0, E, rfl⟩ hr hl ⟨rfl, ho⟩
  replace ho : o.Ok := ho
  refine ⟨_, (dss_cons (ds_set 1 sc_law_made.nd (EO.d (eo_tuple T.z_tuple (ad_cons (EO.d (eo_lc (own := [("node", 2)]) rfl sc_law_made.nd (ei_seq (ed_dix hr.hu (ed_var 0) ed_str)) (blkOk_by (N := N_law_made) (sc := (defScope s_law_made)) (by first | decide +kernel | exact rfl)) (by decide) (fun _ _ _ _ _ => (eg_name 2 sc_law_made.nd)) (fun _ _ _ _ _ => (ets_one (EC.t (ec_ne hr.hu (ED.v (ed_dix hr.hu (ed_dix hr.hu (ed_var 0) ed_str) (ed_var 2))) (ED.v (ed_tup ad_nil)))))) (fun _ _ _ _ _ => (ED.o (ed_tup (ad_cons (ed_var 2) (ad_cons (ed_dix hr.hu (ed_dix hr.hu (ed_var 0) ed_str) (ed_var 2)) ad_nil))))))) ad_nil)))) (dss_cons (ds_ret (ED.o (ed_makeP (DI.mono F_Table (by first | omega | decide)) (k := _) hr 2 ["shows", "begins"] [0, 1, 2, 4, 3] (fun _ _ _ _ _ _ us ws h1 h2 => match us, ws, h1, h2 with | [_, _, _], [_, _], _, _ => rfl) (ad_cons (EO.d (eo_tuple T.z_tuple (ad_cons (ed_dix hr.hu (ed_var 0) ed_str) ad_nil))) (ad_cons (EO.d (eo_tuple T.z_tuple (ad_cons (ed_dix hr.hu (ed_var 0) ed_str) ad_nil))) ad_nil)) (kd_cons (ed_var 1) (kd_cons (EO.d (eo_tuple T.z_tuple (ad_cons (ed_dix hr.hu (ed_var 0) ed_str) ad_nil))) kd_nil))))) dss_nil)), ?_⟩
  have hlen := ho.len
  wp_walk using False, Ow.D, owKs
  refine compD_fm (F := .str) (keep := fun x => !(tagOf o x).isEmpty) (G := fun x => shD (x, tagOf o x)) (fun x hx acc C h1 h2 => ?_) ?_
  · have hk := getK_tags (x := x) (l := o.tags) (by rw [ho.t_fst]; exact hx)
    simp only [strsD] at hk
    wp_walk using True, tagsD, strsD, hk
    have h1 : (!(marksOf o.tags x).isEmpty) = true → C (acc ++ [.fz (.tup [.str x, .tup ((marksOf o.tags x).map .str)])]) M := h1
    have h2 : (!(marksOf o.tags x).isEmpty) = false → C acc M := h2
    generalize marksOf o.tags x = ms at h1 h2 ⊢
    have ok : (D.tup (ms.map .str)).eqOk (.tup []) = true := eqOk_of (by rw [plain_tup]; exact plains_strs) rfl (.inr (by decide))
    refine ⟨ok, ?_⟩
    cases ms with
    | nil => simpa [eqv_tup, D.eqvs] using h2
    | cons a m => simpa [eqv_tup, D.eqvs] using h1
  · rw [made_rows ho]
    wp_walk using False, Ow.D, owKs
    refine fun q => ⟨(q, o.tb), ⟨rfl, Mem.put_same, Ow.tb_ok ho⟩, ?_⟩
    rintro t M' ⟨rfl, rfl⟩
    exact ⟨rfl, tbNs, o.tb.parts, Mem.put_same, rfl⟩
def nextsOf (o : Ow) (x : Str) : List Str := (o.arcs.filter fun q => decide (q.1 = x)).map (·.2)
def spNexts : DSpec := DSpec.pure (ι := Ow × Str) (fun i ds => ds = [i.1.D, .str i.2] ∧ i.1.Ok) (fun i t => t = .ow (((nextsOf i.1 i.2).map .str).map .fz))
theorem ok_nexts (T : Tx K mg C_Table) : DF P w K mg base s_law_nexts "_law_nexts" ["t", "node"] 1 spNexts := by
  obtain ⟨f, fd, hm, F, hb⟩ := T.d_law_nexts
  refine ⟨f, fd, hm, F, hb, fn_dl F sc_law_nexts ?_⟩
  rintro X M ds ⟨o, x⟩ ⟨cdv, A, outer, s0, H0, E, rfl⟩ hr hl ⟨rfl, ho⟩
  replace ho : o.Ok := ho
  refine ⟨_, (dss_cons (ds_ret (eo_lc (own := [("arc", 2)]) rfl sc_law_nexts.nd (ei_seq (ed_dix hr.hu (ed_var 0) ed_str)) (blkOk_by (N := N_law_nexts) (sc := (defScope s_law_nexts)) (by first | decide +kernel | exact rfl)) (by decide) (fun _ _ _ _ _ => (eg_name 2 sc_law_nexts.nd)) (fun _ _ _ _ _ => (ets_one (EC.t (ec_eq hr.hu (ED.v (ed_ixN 2 ed_int)) (ev_var 1))))) (fun _ _ _ _ _ => (ED.o (ed_ixN 2 ed_int))))) dss_nil), ?_⟩
  have hlen := ho.a_len
  wp_walk using False, Ow.D, owKs
  refine compD_fm (F := prD) (keep := fun q => decide (q.1 = x)) (G := fun q => .str q.2) (fun q hq acc C h1 h2 => ?_) ?_
  · wp_walk using True, prD
    split
    · rename_i e; exact h1 (decide_eq_true e)
    · rename_i e; exact h2 (decide_eq_false e)
  · simp [spNexts, DSpec.pure, nextsOf]
end
end DL

namespace DL
open PySem L2 PySem.Spec
open PyProof.Rows hiding St
set_option autoImplicit false
def nextT (t : Tb) (x : Str) : List Str := (t.mvs.filter fun q => decide (q.1 = x)).map (·.2)
section
variable {P : Program} {w : World} {K : PySem.W.Frag} {mg : Str → Option Value} {base : Heap} {C_Table : Addr}
def spNext (C : Addr) : DSpec := DSpec.pure (ι := Tb × Str) (fun i ds => ds = [i.1.ob C, .str i.2] ∧ i.1.Ok) (fun i t => t = .ow (((nextT i.1 i.2).map .str).map .fz))
theorem ok_next_of (T : Tx K mg C_Table) : DM P w K mg base C_Table "next_of" "Table.next_of" s_Table_next_of ["self", "state"] 1 (spNext C_Table) := by
  obtain ⟨f, fd, hm, F, hb⟩ := T.d_Table_next_of
  refine ⟨⟨f, fd, hm, F, hb, fn_dl F sc_Table_next_of ?_⟩, T.cls_Table⟩
  rintro X M ds ⟨t, x⟩ ⟨cdv, A, outer, s0, H0, E, rfl⟩ hr hl ⟨rfl, ht⟩
  replace ht : t.Ok := ht
  refine ⟨_, (dss_cons (ds_ret (eo_lc (own := [("one", 2), ("to", 3)]) rfl sc_Table_next_of.nd (ei_seq (ed_fld T.cls_Table T.n_Table_moves (ed_var 0))) (blkOk_by (N := N_Table_next_of) (sc := (defScope s_Table_next_of)) (by first | decide +kernel | exact rfl)) (by decide) (fun _ _ _ _ _ => (eg_tup (n := 2) rfl (egs_cons (eg_name 2 sc_Table_next_of.nd) (egs_cons (eg_name 3 sc_Table_next_of.nd) egs_nil)))) (fun _ _ _ _ _ => (ets_one (EC.t (ec_eq hr.hu (ev_var 2) (ev_var 1))))) (fun _ _ _ _ _ => (ED.o (ed_var 3))))) dss_nil), ?_⟩
  have hlen := ht.mv_len
  wp_walk using False, Tb.ob, Tb.parts, tbNs
  refine compD_fm (F := prD) (keep := fun q => decide (q.1 = x)) (G := fun q => .str q.2) (fun q hq acc C h1 h2 => ?_) ?_
  · wp_walk using True, prD
    by_cases e : q.1 = x
    · rw [if_pos e]; exact h1 (by simpa using e)
    · rw [if_neg e]; exact h2 (by simpa using e)
  · show OT.ow _ = OT.ow _
    simp only [nextT, List.map_map]
    rfl
end
end DL

namespace DL
open PySem L2 PySem.Spec
open PyProof.Rows hiding St
set_option autoImplicit false
/-! ### what a table's states show, which pairs lead on -/
def seenT (t : Tb) (ms : List Str) (x : Str) : List Str := ms.filter fun m => decide (m ∈ marksOf t.shs x)
def ledT (t : Tb) (ks : List (Str × Str)) (p : Str × Str) : Bool := (nextT t p.1).all fun a => (nextT t p.2).any fun b => decide ((a, b) ∈ ks)
def alikeT (t : Tb) (ms : List Str) : List (Str × Str) := t.sts.flatMap fun x => (t.sts.filter fun y => decide (seenT t ms x = seenT t ms y)).map fun y => (x, y)
def stepT (t : Tb) (l : List (Str × Str)) : List (Str × Str) := l.filter (ledT t l)
theorem stepT_takes (t : Tb) : Takes (stepT t) := fun l => List.filter_sublist
def followsT (t : Tb) (ms : List Str) : List (Str × Str) := sink (stepT t) (alikeT t ms)
theorem marks_few {t : Tb} (h : t.Ok) (x : Str) : (marksOf t.shs x).length ≤ 4 := by
  have : ∀ l : List (Str × List Str), (∀ p ∈ l, p.2.length ≤ 4) → (marksOf l x).length ≤ 4 := fun l => by
    induction l with
    | nil => intro _; exact Nat.zero_le _
    | cons p l ih =>
      intro hl
      rw [marksOf]
      split
      · exact hl p List.mem_cons_self
      · exact ih fun q hq => hl q (List.mem_cons_of_mem _ hq)
  exact this t.shs fun p hp => (h.sh_in p hp).2.2.1
theorem next_few {t : Tb} (h : t.Ok) (x : Str) : (nextT t x).length ≤ 24 := by
  unfold nextT
  rw [List.length_map]
  exact Nat.le_trans (List.length_filter_le _ _) h.mv_len
/-- rows of one first, firsts rising -/
theorem rows_asc {l : List Str} (h : Asc l) {g : Str → List Str} (hg : ∀ x, Asc (g x)) : AscP (l.flatMap fun x => (g x).map fun y => (x, y)) := by
  induction l with
  | nil => exact .nil
  | cons x l ih =>
    obtain ⟨h1, h2⟩ := List.pairwise_cons.mp h
    rw [List.flatMap_cons]
    refine List.pairwise_append.mpr ⟨List.pairwise_map.mpr ((hg x).imp fun q => .inr ⟨rfl, q⟩), ih h2, fun a ha b hb => ?_⟩
    obtain ⟨y, _, rfl⟩ := List.mem_map.mp ha
    obtain ⟨z, hz, hb⟩ := List.mem_flatMap.mp hb
    obtain ⟨u, _, rfl⟩ := List.mem_map.mp hb
    exact .inl (h1 z hz)
theorem alikeT_asc {t : Tb} (h : t.Ok) (ms : List Str) : AscP (alikeT t ms) := rows_asc h.st_asc fun x => h.st_asc.sublist List.filter_sublist
theorem alikeT_len {t : Tb} (h : t.Ok) (ms : List Str) : (alikeT t ms).length ≤ 64 := by
  unfold alikeT
  rw [List.length_flatMap]
  have : ∀ l : List Str, (l.map fun x => ((t.sts.filter fun y => decide (seenT t ms x = seenT t ms y)).map fun y => (x, y)).length).sum ≤ l.length * 8 := fun l => by
    induction l with
    | nil => exact Nat.zero_le _
    | cons x l ih =>
      rw [List.map_cons, List.sum_cons, List.length_cons, List.length_map]
      have := List.length_filter_le (fun y => decide (seenT t ms x = seenT t ms y)) t.sts
      have := h.st_len
      omega
  have h1 := this t.sts
  have h2 := h.st_len
  omega
theorem any_strs_eq {x : Str} {l : List Str} : ((l.map D.str).any fun z => D.eqv z (.str x)) = decide (x ∈ l) := isIn_strs (x := x) (ys := l)
theorem any_prs_eq {x y : Str} {l : List (Str × Str)} : ((l.map prD).any fun z => D.eqv z (.tup [.str x, .str y])) = decide ((x, y) ∈ l) := isIn_prs
theorem dn_ex {w : World} {a b : List D} {Q : List D → Prop} : (∃ ks l, D.dn w a b = .dn w ks l ∧ Q ks) = Q a := propext ⟨fun ⟨_, _, e, h⟩ => by cases e; exact h, fun h => ⟨_, _, rfl, h⟩⟩
theorem getK_map {α : Type} {x : Str} {g : Str → α} : ∀ {l : List Str}, x ∈ l → getK (l.map fun y => (.inr y : Key)) (l.map g) (.inr x) = some (g x)
  | [], h => nomatch h
  | y :: l, h => by
    simp only [List.map_cons, getK]
    by_cases e : y = x
    · subst e
      simp
    · simp [e, getK_map ((List.mem_cons.mp h).resolve_left fun z => e z.symm)]
section
variable {P : Program} {w : World} {K : PySem.W.Frag} {mg : Str → Option Value} {base : Heap} {C_Table : Addr}
def spSeen (C : Addr) : DSpec := DSpec.pure (ι := Tb × Str × List Str) (fun i ds => ds = [i.1.ob C, .str i.2.1, strsD i.2.2] ∧ i.1.Ok ∧ i.2.2.length ≤ 100) (fun i t => t = .fz (strsD (seenT i.1 i.2.2 i.2.1)))
theorem ok_seen_of (T : Tx K mg C_Table) : DF P w K mg base s_seen_of "seen_of" ["table", "state", "marks"] 2 (spSeen C_Table) := by
  have F_Table_marks_of := ok_marks_of (P := P) (w := w) (base := base) T
  obtain ⟨f, fd, hm, F, hb⟩ := T.d_seen_of
  refine ⟨f, fd, hm, F, hb, fn_dl F sc_seen_of ?_⟩
  rintro X M ds ⟨t, x, ms⟩ ⟨cdv, A, outer, s0, H0, E, rfl⟩ hr hl ⟨rfl, ht, hz⟩
  replace ht : t.Ok := ht
  replace hz : ms.length ≤ 100 := hz
  refine ⟨_, (dss_cons (ds_ret (eo_tuple T.z_tuple (ad_cons (EO.d (eo_lc (own := [("mark", 3)]) rfl sc_seen_of.nd (ei_seq (ed_var 2)) (blkOk_by (N := N_seen_of) (sc := (defScope s_seen_of)) (by first | decide +kernel | exact rfl)) (by decide) (fun _ _ _ _ _ => (eg_name 3 sc_seen_of.nd)) (fun _ _ _ _ _ => (ets_one (EC.t (ec_in hr.hu (ev_var 3) (ED.v (EO.d (eo_methP (DM.mono F_Table_marks_of (by first | omega | decide)) hr (ed_var 0) (ad_cons (ed_var 1) ad_nil)))))))) (fun _ _ _ _ _ => (ED.o (ed_var 3))))) ad_nil))) dss_nil), ?_⟩
  wp_walk using False, strsD
  refine compD_fm (F := .str) (keep := fun m => decide (m ∈ marksOf t.shs x)) (G := .str) (fun m hm acc C h1 h2 => ?_) ?_
  · wp_walk using True
    refine ⟨⟨rfl, by decide⟩, (t, x), ⟨rfl, ht⟩, ?_⟩
    rintro _ ⟨_, rfl⟩
    wp_walk using True, strsD, any_strs_eq, plains_strs, deps_strs
    split
    · rename_i e; exact h1 (decide_eq_true e)
    · rename_i e; exact h2 (decide_eq_false e)
  · wp_walk using False, spSeen, DSpec.pure, seenT, strsD
def spLed (w : World) (C : Addr) : DSpec := DSpec.pure (ι := Tb × (Str × Str) × List (Str × Str) × List D) (fun i ds => ds = [i.1.ob C, prD i.2.1, .dn w (i.2.2.1.map prD) i.2.2.2] ∧ i.1.Ok) (fun i t => t = .fz (.bl (ledT i.1 i.2.2.1 i.2.1)))
theorem ok_are_led (T : Tx K mg C_Table) : DF P w K mg base s_are_led "are_led" ["table", "pair", "pairs"] 2 (spLed w C_Table) := by
  have F_Table_next_of := ok_next_of (P := P) (w := w) (base := base) T
  obtain ⟨f, fd, hm, F, hb⟩ := T.d_are_led
  refine ⟨f, fd, hm, F, hb, fn_dl F sc_are_led ?_⟩
  rintro X M ds ⟨t, ⟨x, y⟩, ks, ls⟩ ⟨cdv, A, outer, s0, H0, E, rfl⟩ hr hl ⟨rfl, ht⟩
  replace ht : t.Ok := ht
  have nx := next_few ht
  refine ⟨_, (dss_cons (ds_asg (ed_var 1) (eg_tup (n := 2) rfl (egs_cons (eg_name 3 sc_are_led.nd) (egs_cons (eg_name 4 sc_are_led.nd) egs_nil)))) (dss_cons (ds_set 5 sc_are_led.nd (EO.d (eo_methP (DM.mono F_Table_next_of (by first | omega | decide)) hr (ed_var 0) (ad_cons (ed_var 4) ad_nil)))) (dss_cons (ds_ret (ED.o (ed_all rfl T.z_all (av_cons (ED.v (EO.d (eo_lc (own := [("here", 6)]) rfl sc_are_led.nd (ei_seq (EO.d (eo_methP (DM.mono F_Table_next_of (by first | omega | decide)) hr (ed_var 0) (ad_cons (ed_var 3) ad_nil)))) (blkOk_by (N := N_are_led) (sc := (defScope s_are_led)) (by first | decide +kernel | exact rfl)) (by decide) (fun _ _ _ _ _ => (eg_name 6 sc_are_led.nd)) (fun _ _ _ _ _ => ets_nil) (fun _ _ _ _ _ => (ED.o (ed_any rfl T.z_any (av_cons (ED.v (EO.d (eo_lc (own := [("there", 7)]) rfl sc_are_led.nd (ei_seq (ed_var 5)) (blkOk_by (by first | exact rfl | decide +kernel)) (by decide) (fun _ _ _ _ _ => (eg_name 7 sc_are_led.nd)) (fun _ _ _ _ _ => ets_nil) (fun _ _ _ _ _ => (ED.o (EC.d (ec_inN (w := w) hr.hu (ED.v (ed_tup (ad_cons (ed_var 6) (ad_cons (ed_var 7) ad_nil)))) (ev_var 2)))))))) av_nil))))))) av_nil)))) dss_nil))), ?_⟩
  wp_walk using False, prD
  refine ⟨⟨rfl, by decide⟩, (t, y), ⟨rfl, ht⟩, ?_⟩
  rintro _ ⟨_, rfl⟩
  wp_walk using False
  refine ⟨⟨rfl, by decide⟩, (t, x), ⟨rfl, ht⟩, ?_⟩
  rintro _ ⟨_, rfl⟩
  have n1 := nx x
  have n2 := nx y
  wp_walk using False
  refine compD_map (F := .str) (G := fun a => .bl ((nextT t y).any fun b => decide ((a, b) ∈ ks))) (fun a ha acc C hC => ?_) ?_
  · wp_walk using True
    refine ⟨by omega, ?_⟩
    refine compD_map (F := .str) (G := fun b => .bl (decide ((a, b) ∈ ks))) (fun b hb acc C hC => ?_) ?_
    · wp_walk using True, hInN_prs
      exact hC
    · wp_walk using True
      exact hAll_any hC
  · wp_walk using True
    exact hAll_all rfl
/-- such a dict: each of some pairs, True -/
def dnP (w : World) (l : List (Str × Str)) : OT := .on w (l.map prD) (l.map fun _ => .fz (.bl true))
theorem dnP_d {l : List (Str × Str)} : (dnP w l).toD = .dn w (l.map prD) (l.map fun _ => .bl true) := by
  show OT.toD (.on w _ _) = _
  rw [OT.toD_on, List.map_map]
  rfl
def spAlike (w : World) (C : Addr) : DSpec := DSpec.pure (ι := Tb × List Str) (fun i ds => ds = [i.1.ob C, strsD i.2] ∧ i.1.Ok ∧ i.2.length ≤ 100) (fun i t => t = dnP w (alikeT i.1 i.2))
theorem ok_alike (T : Tx K mg C_Table) : DF P w K mg base s_alike_pairs "alike_pairs" ["table", "marks"] 3 (spAlike w C_Table) := by
  have F_seen_of := ok_seen_of (P := P) (w := w) (base := base) T
  obtain ⟨f, fd, hm, F, hb⟩ := T.d_alike_pairs
  refine ⟨f, fd, hm, F, hb, fn_dl F sc_alike_pairs ?_⟩
  rintro X M ds ⟨t, ms⟩ ⟨cdv, A, outer, s0, H0, E, rfl⟩ hr hl ⟨rfl, ht, hz⟩
  replace ht : t.Ok := ht
  replace hz : ms.length ≤ 100 := hz
  have hst := ht.st_len
  have hsn : t.sts.Nodup := ht.st_asc.imp fun h => slt_ne h
  refine ⟨_, (dss_cons (ds_set 2 sc_alike_pairs.nd (EO.d (eo_dc (own := [("state", 3)]) rfl sc_alike_pairs.nd (ei_seq (ed_fld T.cls_Table T.n_Table_states (ed_var 0))) (blkOk_by (N := N_alike_pairs) (sc := (defScope s_alike_pairs)) (by first | decide +kernel | exact rfl)) (by decide) (fun _ _ _ _ _ => (eg_name 3 sc_alike_pairs.nd)) (fun _ _ _ _ _ => ets_nil) (fun _ _ _ _ _ => (ed_var 3)) (fun _ _ _ _ _ => (EO.d (eo_callP (DF.mono F_seen_of (by first | omega | decide)) hr (ad_cons (ed_var 0) (ad_cons (ed_var 3) (ad_cons (ed_var 1) ad_nil))))))))) (dss_cons (ds_ret (eo_dcN2 (w := w) (own := [("one", 4), ("other", 5)]) [5] hr.hu rfl sc_alike_pairs.nd (ei_seq (ed_fld T.cls_Table T.n_Table_states (ed_var 0))) (blkOk_by (N := N_alike_pairs) (sc := (defScope s_alike_pairs)) (by first | decide +kernel | exact rfl)) (by decide) (by decide) (by decide) (fun _ _ _ _ _ => (eg_name 4 sc_alike_pairs.nd)) (fun _ _ _ _ _ => ets_nil) (fun _ _ _ _ _ => (ei_seq (ed_fld T.cls_Table T.n_Table_states (ed_var 0)))) (fun _ _ _ _ _ => (eg_name 5 sc_alike_pairs.nd)) (fun _ _ _ _ _ => (ets_one (EC.t (ec_eq hr.hu (ED.v (ed_dix hr.hu (ed_var 2) (ed_var 4))) (ED.v (ed_dix hr.hu (ed_var 2) (ed_var 5))))))) (fun _ _ _ _ _ => (ed_tup (ad_cons (ed_var 4) (ad_cons (ed_var 5) ad_nil)))) (fun _ _ _ _ _ => ed_bl))) dss_nil)), ?_⟩
  wp_walk using False, Tb.ob, Tb.parts, tbNs, strsD
  rw [compDc_gath]
  refine gathK_map (F := .str) (Kf := .inr) (Vf := fun x => strsD (seenT t ms x)) (List.pairwise_map.mpr (hsn.imp fun h e => h (Sum.inr.inj e))) (by show 0 + t.sts.length ≤ sizeLine; rw [sizeLine_eq]; omega) (fun x hx a C hz2 hC => ?_) ?_
  · wp_walk using True, gathK
    refine ⟨(t, x, ms), ⟨rfl, ht, hz⟩, ?_⟩
    rintro _ ⟨_, rfl⟩
    exact ⟨hz2, hC⟩
  · have hds : ∀ x ∈ t.sts, getK (t.sts.map fun y => (.inr y : Key)) (t.sts.map fun y => strsD (seenT t ms y)) (.inr x) = some (strsD (seenT t ms x)) := fun x hx => getK_map hx
    wp_walk using False, List.map_map, Function.comp_def
    have bound : ∀ done : List Str, done.Sublist t.sts → (done.flatMap fun y => ((t.sts.filter fun z => decide (seenT t ms y = seenT t ms z)).map fun z => prD (y, z))).length ≤ 64 := fun done hd => by
      rw [List.length_flatMap]
      have b : ∀ l : List Str, (l.map fun y => ((t.sts.filter fun z => decide (seenT t ms y = seenT t ms z)).map fun z => prD (y, z)).length).sum ≤ l.length * 8 := fun l => by
        induction l with
        | nil => exact Nat.zero_le _
        | cons y l ih =>
          rw [List.map_cons, List.sum_cons, List.length_cons, List.length_map]
          have := List.length_filter_le (fun z => decide (seenT t ms y = seenT t ms z)) t.sts
          omega
      have h1 := b done
      have h2 := hd.length_le
      omega
    refine gathIn_all (F := .str) (G := fun y => ((t.sts.filter fun z => decide (seenT t ms y = seenT t ms z)).map fun z => prD (y, z), (t.sts.filter fun z => decide (seenT t ms y = seenT t ms z)).map fun z => .fz (.bl true))) (a := ([], [])) (fun x hx done C hpre hC => ?_) ?_
    · have b1 := bound done ((List.prefix_append done [x]).sublist.trans hpre.sublist)
      wp_walk using True, gathIn, wipeE, Tb.ob, Tb.parts, tbNs, strsD
      refine ⟨by omega, ?_⟩
      refine gathN_fm (F := .str) (Kf := fun z => prD (x, z)) (Vf := fun _ => .bl true) (keep := fun z => decide (seenT t ms x = seenT t ms z)) (fun z _ _ => keyOk_pr (x, z)) ?_ ?_ (fun z hz2 a C2 h1 h2 lt => ?_) ?_
      · show ((((done.flatMap fun y => (t.sts.filter fun z => decide (seenT t ms y = seenT t ms z)).map fun z => prD (y, z)) ++ (t.sts.filter fun z => decide (seenT t ms x = seenT t ms z)).map fun z => prD (x, z))).map D.key).Nodup
        have e : (done.flatMap fun y => (t.sts.filter fun z => decide (seenT t ms y = seenT t ms z)).map fun z => prD (y, z)) ++ (t.sts.filter fun z => decide (seenT t ms x = seenT t ms z)).map (fun z => prD (x, z)) = ((done ++ [x]).flatMap fun y => (t.sts.filter fun z => decide (seenT t ms y = seenT t ms z)).map fun z => (y, z)).map prD := by
          rw [List.map_flatMap, List.flatMap_append, List.flatMap_singleton]
          simp only [List.map_map, Function.comp_def]
        rw [e]
        exact prs_keys (ascP_nodup (rows_asc (ht.st_asc.sublist hpre.sublist) fun y => ht.st_asc.sublist List.filter_sublist))
      · have e2 : (done.flatMap fun y => (t.sts.filter fun z => decide (seenT t ms y = seenT t ms z)).map fun z => (OT.fz (.bl true))).length ≤ 64 := by
          rw [List.length_flatMap] at b1 ⊢
          simpa only [List.length_map] using b1
        show (done.flatMap fun y => (t.sts.filter fun z => decide (seenT t ms y = seenT t ms z)).map fun z => (OT.fz (.bl true))).length + t.sts.length ≤ sizeLine
        rw [sizeLine_eq]
        omega
      · wp_walk using True, gathN
        refine ⟨_, hds x hx, _, hds z hz2, eqOk_strsD, ?_⟩
        rw [eqv_strsD]
        by_cases e : seenT t ms x = seenT t ms z
        · rw [if_pos (decide_eq_true e)]
          exact h1 (decide_eq_true e)
        · rw [if_neg (by rw [decide_eq_true_eq]; exact e)]
          exact h2 (decide_eq_false e)
      · simpa only [List.nil_append, List.flatMap_append, List.flatMap_singleton] using hC
    · show OT.on w _ _ = dnP w _
      unfold dnP alikeT
      congr 1
      · rw [List.map_flatMap]
        simp only [List.map_map, Function.comp_def, List.nil_append]
      · rw [List.map_flatMap]
        simp only [List.map_map, Function.comp_def, List.nil_append]
theorem followsT_sub {t : Tb} {ms : List Str} : (followsT t ms).Sublist (alikeT t ms) := sink_sub (stepT_takes t) _ _ (Nat.le_refl _)
theorem followsT_asc {t : Tb} (h : t.Ok) (ms : List Str) : AscP (followsT t ms) := (alikeT_asc h ms).sublist followsT_sub
def spFollows (C : Addr) : DSpec := DSpec.pure (ι := Tb × List Str) (fun i ds => ds = [i.1.ob C, strsD i.2] ∧ i.1.Ok ∧ i.2.length ≤ 100) (fun i t => t = .ow (((followsT i.1 i.2).map prD).map .fz))
theorem ok_follows (T : Tx K mg C_Table) : DF P w K mg base s_follows "follows" ["table", "marks"] 4 (spFollows C_Table) := by
  have F_alike_pairs := ok_alike (P := P) (w := w) (base := base) T
  have F_are_led := ok_are_led (P := P) (w := w) (base := base) T
  obtain ⟨f, fd, hm, F, hb⟩ := T.d_follows
  refine ⟨f, fd, hm, F, hb, fn_dl F sc_follows ?_⟩
  rintro X M ds ⟨t, ms⟩ ⟨cdv, A, outer, s0, H0, E, rfl⟩ hr hl ⟨rfl, ht, hz⟩
  replace ht : t.Ok := ht
  replace hz : ms.length ≤ 100 := hz
  have len64 := alikeT_len ht ms
  refine ⟨_, (dss_cons (ds_asg (ed_tup (ad_cons (EO.d (eo_callP (DF.mono F_alike_pairs (by first | omega | decide)) hr (ad_cons (ed_var 0) (ad_cons (ed_var 1) ad_nil)))) (ad_cons (ed_neg (ED.v ed_int)) ad_nil))) (eg_tup (n := 2) rfl (egs_cons (eg_name 2 sc_follows.nd) (egs_cons (eg_name 3 sc_follows.nd) egs_nil)))) (dss_cons (ds_while PassesOwn.never (EC.t (ec_ne hr.hu (ED.v (ed_lenN (w := w) T.z_len (av_cons (ev_var 2) av_nil))) (ev_var 3))) (dss_cons (ds_set 3 sc_follows.nd (ed_lenN (w := w) T.z_len (av_cons (ev_var 2) av_nil))) (dss_cons (ds_set 2 sc_follows.nd (EO.d (eo_dcN (w := w) (own := [("pair", 4)]) hr.hu rfl sc_follows.nd (ei_dn (w := w) (ed_var 2)) (blkOk_by (N := N_follows) (sc := (defScope s_follows)) (by first | decide +kernel | exact rfl)) (by decide) (fun _ _ _ _ _ => (eg_name 4 sc_follows.nd)) (fun _ _ _ _ _ => (ets_one (et_val (EO.d (eo_callP (DF.mono F_are_led (by first | omega | decide)) hr (ad_cons (ed_var 0) (ad_cons (ed_var 4) (ad_cons (ed_var 2) ad_nil)))))))) (fun _ _ _ _ _ => (ed_var 4)) (fun _ _ _ _ _ => ed_bl)))) dss_nil))) (dss_cons (ds_ret (eo_sortedD hr.hu T.z_sorted (ad_cons (EO.d (eo_listN (w := w) rfl T.z_list (ad_cons (ed_var 2) ad_nil))) ad_nil))) dss_nil))), ?_⟩
  wp_walk using False
  refine ⟨(t, ms), ⟨rfl, ht, hz⟩, ?_⟩
  rintro _ ⟨_, rfl⟩
  wp_walk using False, dnP_d
  refine ⟨fun m ρ M' => M' = M ∧ ∃ (l : List (Str × Str)) (many : Int) (u : Option OT), ρ = [some (.fz (t.ob C_Table)), some (.fz (strsD ms)), some (.fz (.dn w (l.map prD) (l.map fun _ => .bl true))), some (.fz (.int many)), u] ∧ l.Sublist (alikeT t ms) ∧ sink (stepT t) l = followsT t ms ∧ (many = (l.length : Int) → stepT t l = l) ∧ m = if many = (l.length : Int) then 0 else l.length + 1,
    ⟨_, rfl, alikeT t ms, -1, none, rfl, List.Sublist.refl _, rfl, fun e => by omega, rfl⟩, ?_⟩
  rintro m _ _ ⟨rfl, l, many, u, rfl, sub, hs, hst, rfl⟩
  have hl := sub.length_le
  have asc := (alikeT_asc ht ms).sublist sub
  wp_walk using False, hLenN_dn, hListN_dn, dn_ex
  by_cases e : many = (l.length : Int)
  · have hk := hst e
    have he : followsT t ms = l := by rw [← hs, sink_same (by rw [hk]; exact Nat.lt_irrefl _)]
    simp only [e, decide_true, Bool.not_true, Bool.false_eq_true, if_false]
    wp_walk using False, hLenN_dn, hListN_dn, dn_ex
    refine sort_prs (ascP_nodup asc) (by omega) fun ys hp hasc => ?_
    rw [ascP_uniq hasc asc hp, ← he]
    rfl
  · have e1 : (!decide ((l.length : Int) = many)) = true := by simpa using fun z : (l.length : Int) = many => e z.symm
    simp only [e1, if_true]
    wp_walk using False, hLenN_dn, hListN_dn, dn_ex
    refine gathN_fm (F := prD) (Kf := prD) (Vf := fun _ => .bl true) (keep := ledT t l) (fun p _ _ => keyOk_pr p) ?_ ?_ (fun p hp a C h1 h2 lt => ?_) ?_
    · exact prs_keys ((ascP_nodup asc).sublist List.filter_sublist)
    · show 0 + l.length ≤ sizeLine
      rw [sizeLine_eq]
      omega
    · wp_walk using True, gathN
      refine ⟨(t, p, l, _), ⟨rfl, ht⟩, ?_⟩
      rintro _ ⟨_, rfl⟩
      wp_walk using True
      split
      · rename_i q
        exact h1 q
      · rename_i q
        exact h2 (by simpa using q)
    · wp_walk using False
      rw [if_neg e]
      refine ⟨_, ?_, stepT t l, dnP_d, (stepT_takes t l).trans sub, ?_, fun q => ?_, rfl⟩
      · by_cases q : (l.length : Int) = ((stepT t l).length : Int)
        · rw [if_pos q]
          omega
        · rw [if_neg q]
          have := (stepT_takes t l).length_le
          omega
      · rw [← hs]
        by_cases q : (stepT t l).length < l.length
        · rw [sink_less q]
        · rw [(stepT_takes t).same q]
      · have := (stepT_takes t).same (l := l) (by omega)
        rw [this, this]
end
end DL

namespace DL
open PySem L2 PySem.Spec
open PyProof.Rows hiding St
set_option autoImplicit false
/-- a step of the law's own sinking -/
def stepP (t : Tb) (both : Bool) (l : List (Str × Str)) : List (Str × Str) := if both = true then (stepT t l).filter fun p => decide ((p.2, p.1) ∈ stepT t l) else stepT t l
theorem stepP_takes (t : Tb) (b : Bool) : Takes (stepP t b) := fun l => by
  unfold stepP
  split
  · exact List.filter_sublist.trans (stepT_takes t l)
  · exact stepT_takes t l
def pairsT (t : Tb) (ms : List Str) (b : Bool) : List (Str × Str) := sink (stepP t b) (alikeT t ms)
theorem pairsT_sub {t : Tb} {ms : List Str} {b : Bool} : (pairsT t ms b).Sublist (alikeT t ms) := sink_sub (stepP_takes t b) _ _ (Nat.le_refl _)
theorem pairsT_asc {t : Tb} (h : t.Ok) (ms : List Str) (b : Bool) : AscP (pairsT t ms b) := (alikeT_asc h ms).sublist pairsT_sub
theorem seen_is {o : Ow} (h : o.Ok) {ms : List Str} {x : Str} : seenT o.tb ms x = ms.filter fun m => decide (m ∈ tagOf o x) := by
  unfold seenT
  rw [made_marks h]
/-- the pairs of some firsts -/
def rowsT (t : Tb) (ms : List Str) (l : List Str) : List (Str × Str) := l.flatMap fun x => (t.sts.filter fun y => decide (seenT t ms x = seenT t ms y)).map fun y => (x, y)
theorem rowsT_len {t : Tb} {ms l : List Str} (h : t.sts.length ≤ 8) (hl : l.length ≤ 8) : (rowsT t ms l).length ≤ 64 := by
  have b : ∀ l : List Str, (rowsT t ms l).length ≤ l.length * 8 := fun l => by
    induction l with
    | nil => exact Nat.zero_le _
    | cons x l ih =>
      unfold rowsT at ih ⊢
      rw [List.flatMap_cons, List.length_append, List.length_map, List.length_cons]
      have := List.length_filter_le (fun y => decide (seenT t ms x = seenT t ms y)) t.sts
      omega
  have := b l
  omega
theorem eqvs_prs : ∀ {a b : List (Str × Str)}, D.eqvs (a.map prD) (b.map prD) = decide (a = b)
  | [], [] => rfl
  | [], y :: b => by simp [D.eqvs]
  | x :: a, [] => by simp [D.eqvs]
  | x :: a, y :: b => by
    rw [List.map_cons, List.map_cons, D.eqvs, eqvs_prs]
    have : D.eqv (prD x) (prD y) = decide (x = y) := by
      unfold prD
      rw [eqv_tup]
      simp only [D.eqvs, eqv_str, Bool.and_true]
      refine Bool.eq_iff_iff.mpr ?_
      simp [Prod.ext_iff]
    rw [this]
    refine Bool.eq_iff_iff.mpr ?_
    simp
section
variable {P : Program} {w : World} {K : PySem.W.Frag} {mg : Str → Option Value} {base : Heap} {C_Table : Addr}
def spSeenO : DSpec := DSpec.pure (ι := Ow × Str × List Str) (fun i ds => ds = [i.1.D, .str i.2.1, strsD i.2.2] ∧ i.1.Ok ∧ i.2.1 ∈ i.1.nodes ∧ i.2.2.length ≤ 100) (fun i t => t = .ow (((seenT i.1.tb i.2.2 i.2.1).map .str).map .fz))
theorem ok_law_seen (T : Tx K mg C_Table) : DF P w K mg base s_law_seen "_law_seen" ["t", "node", "some"] 2 spSeenO := by
  obtain ⟨f, fd, hm, F, hb⟩ := T.d_law_seen
  refine ⟨f, fd, hm, F, hb, fn_dl F sc_law_seen ?_⟩
  rintro X M ds ⟨o, x, ms⟩ ⟨cdv, A, outer, s0, H0, E, rfl⟩ hr hl ⟨rfl, ho, hx, hz⟩
  replace ho : o.Ok := ho
  replace hx : x ∈ o.nodes := hx
  replace hz : ms.length ≤ 100 := hz
  refine ⟨_, (dss_cons (ds_ret (eo_lc (own := [("mark", 3)]) rfl sc_law_seen.nd (ei_seq (ed_var 2)) (blkOk_by (N := N_law_seen) (sc := (defScope s_law_seen)) (by first | decide +kernel | exact rfl)) (by decide) (fun _ _ _ _ _ => (eg_name 3 sc_law_seen.nd)) (fun _ _ _ _ _ => (ets_one (EC.t (ec_in hr.hu (ev_var 3) (ED.v (ed_dix hr.hu (ed_dix hr.hu (ed_var 0) ed_str) (ed_var 1))))))) (fun _ _ _ _ _ => (ED.o (ed_var 3))))) dss_nil), ?_⟩
  have hk := getK_tags (x := x) (l := o.tags) (by rw [ho.t_fst]; exact hx)
  simp only [strsD] at hk
  wp_walk using False, Ow.D, owKs, strsD
  refine compD_fm (F := .str) (keep := fun m => decide (m ∈ tagOf o x)) (G := .str) (fun m hm acc C h1 h2 => ?_) ?_
  · wp_walk using True, tagsD, strsD, hk, any_strs_eq, plains_strs, deps_strs
    split
    · rename_i e; exact h1 (decide_eq_true e)
    · rename_i e; exact h2 (decide_eq_false e)
  · show OT.ow _ = OT.ow _
    rw [seen_is ho]
def spLedO : DSpec := DSpec.pure (ι := Ow × List (Str × Str) × Str × Str) (fun i ds => ds = [i.1.D, .lst (i.2.1.map prD), .str i.2.2.1, .str i.2.2.2] ∧ i.1.Ok) (fun i t => t = .fz (.bl (ledT i.1.tb i.2.1 (i.2.2.1, i.2.2.2))))
theorem ok_law_led (T : Tx K mg C_Table) : DF P w K mg base s_law_led "_law_led" ["t", "pairs", "one", "other"] 2 spLedO := by
  have F_law_nexts := ok_nexts (P := P) (w := w) (base := base) T
  obtain ⟨f, fd, hm, F, hb⟩ := T.d_law_led
  refine ⟨f, fd, hm, F, hb, fn_dl F sc_law_led ?_⟩
  rintro X M ds ⟨o, l, x, y⟩ ⟨cdv, A, outer, s0, H0, E, rfl⟩ hr hl ⟨rfl, ho⟩
  replace ho : o.Ok := ho
  have nx := next_few (Ow.tb_ok ho)
  refine ⟨_, (dss_cons (ds_for PassesOwn.never rfl (ei_seq (EO.d (eo_callP (DF.mono F_law_nexts (by first | omega | decide)) hr (ad_cons (ed_var 0) (ad_cons (ed_var 2) ad_nil))))) (eg_name 4 sc_law_led.nd) (dss_cons (ds_if (et_not (et_val (ed_any rfl T.z_any (av_cons (ED.v (EO.d (eo_lc (own := [("there", 5)]) rfl sc_law_led.nd (ei_seq (EO.d (eo_callP (DF.mono F_law_nexts (by first | omega | decide)) hr (ad_cons (ed_var 0) (ad_cons (ed_var 3) ad_nil))))) (blkOk_by (N := N_law_led) (sc := (defScope s_law_led)) (by first | decide +kernel | exact rfl)) (by decide) (fun _ _ _ _ _ => (eg_name 5 sc_law_led.nd)) (fun _ _ _ _ _ => ets_nil) (fun _ _ _ _ _ => (ED.o (EC.d (ec_in hr.hu (ED.v (ed_tup (ad_cons (ed_var 4) (ad_cons (ed_var 5) ad_nil)))) (ev_var 1)))))))) av_nil)))) (dss_cons (ds_ret (ED.o ed_bl)) dss_nil) dss_nil) dss_nil)) (dss_cons (ds_ret (ED.o ed_bl)) dss_nil)), ?_⟩
  (repeat (first | simp only [seqS_M, startE_cons, startE_nil, List.length_cons, List.length_nil, List.length_replicate, List.length_set, List.replicate_succ, List.replicate_zero, List.getElem?_cons_zero, List.getElem?_cons_succ, List.set_cons_zero, List.set_cons_succ, Option.some.injEq, OT.fz.injEq, OT.ow.injEq, D.int.injEq, D.str.injEq, D.bl.injEq, D.tup.injEq, D.lst.injEq, List.cons.injEq, exists_eq_left', exists_eq_left, exists_eq_right, and_true, true_and, OT.toD_fz, toD_map_fz, hIx_tup, hIx_lst, hIx_scr, hIx_mob, hIx_str, hIxT_fz, hIxT_ow, hAdd_int, hAdd_str, hAdd_tup, hAdd_lst, hMul_int, hMul_lst, hSl_tup, hSl_lst, hSl_str, hLen_lst, hLen_tup, hLen_scr, hLen_str, hLen_mob, hInt_int, hInt_bl, hAbs_int, hSeq_lst, hSeq_tup, hIn_lst, hIn_tup, hEq_eq, hI0_int, hI_int, ng_f, ng_t, atI_0, atI_1, atI_2, ofString_inj, eqv_str, eqv_txt, eqv_int, eqv_bl, eqv_tup, eqv_lst, eqOk_str, eqOk_int, eqOk_bl, eqOk_txt, decide_eq_true_eq, Nat.zero_lt_succ, exists_and_left, List.take_succ_cons, List.take_zero, List.drop_succ_cons, List.drop_zero, List.cons_append, List.nil_append, and_assoc, atI_map, Option.map_some, Nat.reduceAdd, Nat.reduceLT, Nat.reduceLeDiff, OT.toD_ow, List.map_cons, List.map_nil, D.mob.injEq, Mo.lst.injEq, Mem.put_same, Mem.put_put, ixN_30, ixN_32, ixN_10, exists_prop, fz_app, fz_inj, fz_snoc, OT.map_fz, List.length_map, List.length_append, List.append_nil, Nat.zero_add, cutL_1, items_tup, items_lst, items_scr, compD, compS, comp2D, wipeE, D.isIn, List.any_cons, List.any_nil, String.reduceEq, D.plain, D.plains, D.dep, D.deps, Nat.max_self, Nat.min_self, Nat.zero_le, Nat.zero_min, Nat.min_zero, sizeLine_eq, forall_eq, exists_const, forall_const, kind_non, kind_bl, kind_int, kind_str, kind_lst, kind_tup, kind_dk, Kd.isa, reduceCtorEq, decide_false, decide_true, Bool.or_false, Bool.false_or, Bool.or_true, Bool.true_or, Bool.or_self, Bool.and_false, Bool.false_and, Bool.true_and, Bool.and_true, Bool.and_self, and_self, false_or, or_false, false_and, and_false, reduceIte, Bool.false_eq_true, Bool.not_eq_true, Bool.not_true, Bool.not_false, Mo.ins.injEq, hLt_eq, hFld_ob, hFld_mob, isOb_ob, isOb_mob, keyOf_text, keyOf_num, ltOk_int, ltOk_str, lt_int, lt_str, getF, putN, putL, keyIx, hasK, odKs, odTs, putTs, Sum.inr.injEq, Sum.inl.injEq, List.nodup_cons, List.nodup_nil, List.mem_cons, List.not_mem_nil, not_false_eq_true, not_true_eq_false, OT.toD_od, OT.od.injEq, D.dk.injEq, D.ob.injEq, hDix_dk, getK, Option.map_none, or_self, List.map_nil, pick, List.filterMap_cons, List.filterMap_nil, D.mob.injEq, ite_true, ite_false] | refine seq_in ?_ | refine And.intro (by first | assumption | omega | decide) ?_ | omega | assumption))
  refine ⟨(o, x), ⟨rfl, ho⟩, ?_⟩
  rintro _ ⟨_, rfl⟩
  have n1 : (nextsOf o x).length ≤ 24 := nx x
  (repeat (first | simp only [seqS_M, startE_cons, startE_nil, List.length_cons, List.length_nil, List.length_replicate, List.length_set, List.replicate_succ, List.replicate_zero, List.getElem?_cons_zero, List.getElem?_cons_succ, List.set_cons_zero, List.set_cons_succ, Option.some.injEq, OT.fz.injEq, OT.ow.injEq, D.int.injEq, D.str.injEq, D.bl.injEq, D.tup.injEq, D.lst.injEq, List.cons.injEq, exists_eq_left', exists_eq_left, exists_eq_right, and_true, true_and, OT.toD_fz, toD_map_fz, hIx_tup, hIx_lst, hIx_scr, hIx_mob, hIx_str, hIxT_fz, hIxT_ow, hAdd_int, hAdd_str, hAdd_tup, hAdd_lst, hMul_int, hMul_lst, hSl_tup, hSl_lst, hSl_str, hLen_lst, hLen_tup, hLen_scr, hLen_str, hLen_mob, hInt_int, hInt_bl, hAbs_int, hSeq_lst, hSeq_tup, hIn_lst, hIn_tup, hEq_eq, hI0_int, hI_int, ng_f, ng_t, atI_0, atI_1, atI_2, ofString_inj, eqv_str, eqv_txt, eqv_int, eqv_bl, eqv_tup, eqv_lst, eqOk_str, eqOk_int, eqOk_bl, eqOk_txt, decide_eq_true_eq, Nat.zero_lt_succ, exists_and_left, List.take_succ_cons, List.take_zero, List.drop_succ_cons, List.drop_zero, List.cons_append, List.nil_append, and_assoc, atI_map, Option.map_some, Nat.reduceAdd, Nat.reduceLT, Nat.reduceLeDiff, OT.toD_ow, List.map_cons, List.map_nil, D.mob.injEq, Mo.lst.injEq, Mem.put_same, Mem.put_put, ixN_30, ixN_32, ixN_10, exists_prop, fz_app, fz_inj, fz_snoc, OT.map_fz, List.length_map, List.length_append, List.append_nil, Nat.zero_add, cutL_1, items_tup, items_lst, items_scr, compD, compS, comp2D, wipeE, D.isIn, List.any_cons, List.any_nil, String.reduceEq, D.plain, D.plains, D.dep, D.deps, Nat.max_self, Nat.min_self, Nat.zero_le, Nat.zero_min, Nat.min_zero, sizeLine_eq, forall_eq, exists_const, forall_const, kind_non, kind_bl, kind_int, kind_str, kind_lst, kind_tup, kind_dk, Kd.isa, reduceCtorEq, decide_false, decide_true, Bool.or_false, Bool.false_or, Bool.or_true, Bool.true_or, Bool.or_self, Bool.and_false, Bool.false_and, Bool.true_and, Bool.and_true, Bool.and_self, and_self, false_or, or_false, false_and, and_false, reduceIte, Bool.false_eq_true, Bool.not_eq_true, Bool.not_true, Bool.not_false, Mo.ins.injEq, hLt_eq, hFld_ob, hFld_mob, isOb_ob, isOb_mob, keyOf_text, keyOf_num, ltOk_int, ltOk_str, lt_int, lt_str, getF, putN, putL, keyIx, hasK, odKs, odTs, putTs, Sum.inr.injEq, Sum.inl.injEq, List.nodup_cons, List.nodup_nil, List.mem_cons, List.not_mem_nil, not_false_eq_true, not_true_eq_false, OT.toD_od, OT.od.injEq, D.dk.injEq, D.ob.injEq, hDix_dk, getK, Option.map_none, or_self, List.map_nil, pick, List.filterMap_cons, List.filterMap_nil, D.mob.injEq, ite_true, ite_false] | refine seq_in ?_ | refine And.intro (by first | assumption | omega | decide) ?_ | omega | assumption))
  refine forD_rec (fun ds ρ M' => M' = M ∧ ∃ (rest : List Str) (u v : Option OT), ds = rest.map .str ∧ (rest.all fun a => (nextT o.tb y).any fun b => decide ((a, b) ∈ l)) = ledT o.tb l (x, y) ∧ ρ = [some (.fz o.D), some (.fz (.lst (l.map prD))), some (.fz (.str x)), some (.fz (.str y)), u, v]) _ _ _ ⟨rfl, nextsOf o x, none, none, rfl, rfl, rfl⟩ ?_ ?_
  · rintro _ _ ⟨rfl, rest, u, v, e, h, rfl⟩
    have : rest = [] := by simpa using e.symm
    subst this
    wp_walk using False, spLedO, DSpec.pure
  · rintro d ds ρ M' ⟨rfl, rest, u, v, e, h, rfl⟩ C hC
    cases rest with
    | nil => cases e
    | cons a rest => ?_
    rw [List.map_cons] at e
    obtain ⟨rfl, rfl⟩ := List.cons.inj e
    rw [List.all_cons] at h
    wp_walk using False
    refine ⟨(o, y), ⟨rfl, ho⟩, ?_⟩
    rintro _ ⟨_, rfl⟩
    have n2 : (nextsOf o y).length ≤ 24 := nx y
    wp_walk using False
    refine compD_map (F := .str) (G := fun b => .bl (decide ((a, b) ∈ l))) (fun b hb acc C hC => ?_) ?_
    · wp_walk using True, any_prs_eq, prs_plain
      refine ⟨?_, hC⟩
      have := prs_deps (l := l)
      omega
    · wp_walk using False, fz_app
      refine hAll_any ⟨_, rfl, ?_⟩
      cases q : (nextsOf o y).any fun b => decide ((a, b) ∈ l) with
      | false =>
        have q2 : ((nextT o.tb y).any fun b => decide ((a, b) ∈ l)) = false := q
        rw [q2, Bool.false_and] at h
        wp_walk using False, spLedO, DSpec.pure
      | true =>
        have q2 : ((nextT o.tb y).any fun b => decide ((a, b) ∈ l)) = true := q
        rw [q2, Bool.true_and] at h
        simp only [Bool.not_true, Bool.false_eq_true, if_false]
        exact hC _ _ ⟨rfl, rest, _, _, rfl, h, rfl⟩
def spPairs : DSpec := DSpec.pure (ι := Ow × List Str × Bool) (fun i ds => ds = [i.1.D, strsD i.2.1, .bl i.2.2] ∧ i.1.Ok ∧ i.2.1.length ≤ 100) (fun i t => t.toD = .lst ((pairsT i.1.tb i.2.1 i.2.2).map prD))
theorem ok_pairs (T : Tx K mg C_Table) : DF P w K mg base s_law_pairs "_law_pairs" ["t", "some", "both"] 3 spPairs := by
  have F_law_seen := ok_law_seen (P := P) (w := w) (base := base) T
  have F_law_led := ok_law_led (P := P) (w := w) (base := base) T
  obtain ⟨f, fd, hm, F, hb⟩ := T.d_law_pairs
  refine ⟨f, fd, hm, F, hb, fn_dl F sc_law_pairs ?_⟩
  rintro X M ds ⟨o, ms, both⟩ ⟨cdv, A, outer, s0, H0, E, rfl⟩ hr hl ⟨rfl, ho, hz⟩
  replace ho : o.Ok := ho
  replace hz : ms.length ≤ 100 := hz
  have ht := Ow.tb_ok ho
  have hst := ho.len
  have len64 := alikeT_len ht ms
  refine ⟨_, (dss_cons (ds_setO 3 sc_law_pairs.nd (eo_lst ao_nil)) (dss_cons (ds_for PassesOwn.never rfl (ei_seq (ed_dix hr.hu (ed_var 0) ed_str)) (eg_name 4 sc_law_pairs.nd) (dss_cons (ds_extend 3 (EO.d (eo_lc (own := [("other", 7)]) rfl sc_law_pairs.nd (ei_seq (ed_dix hr.hu (ed_var 0) ed_str)) (blkOk_by (N := N_law_pairs) (sc := (defScope s_law_pairs)) (by first | decide +kernel | exact rfl)) (by decide) (fun _ _ _ _ _ => (eg_name 7 sc_law_pairs.nd)) (fun _ _ _ _ _ => (ets_one (EC.t (ec_eq hr.hu (ED.v (EO.d (eo_callP (DF.mono F_law_seen (by first | omega | decide)) hr (ad_cons (ed_var 0) (ad_cons (ed_var 4) (ad_cons (ed_var 1) ad_nil)))))) (ED.v (EO.d (eo_callP (DF.mono F_law_seen (by first | omega | decide)) hr (ad_cons (ed_var 0) (ad_cons (ed_var 7) (ad_cons (ed_var 1) ad_nil)))))))))) (fun _ _ _ _ _ => (ED.o (ed_tup (ad_cons (ed_var 4) (ad_cons (ed_var 7) ad_nil)))))))) dss_nil)) (dss_cons (ds_for PassesOwn.never rfl (ei_range1 T.z_range (av_cons (ED.v ed_int) av_nil)) (eg_name 5 sc_law_pairs.nd) (dss_cons (DS.frz 3 (ds_set 6 sc_law_pairs.nd (EO.d (eo_lc (own := [("pair", 8)]) rfl sc_law_pairs.nd (ei_seq (ed_var 3)) (blkOk_by (N := N_law_pairs) (sc := (defScope s_law_pairs)) (by first | decide +kernel | exact rfl)) (by decide) (fun _ _ _ _ _ => (eg_name 8 sc_law_pairs.nd)) (fun _ _ _ _ _ => (ets_one (et_val (EO.d (eo_callP (DF.mono F_law_led (by first | omega | decide)) hr (ad_cons (ed_var 0) (ad_cons (ed_var 3) (ad_cons (ed_ixN 8 ed_int) (ad_cons (ed_ixN 8 ed_int) ad_nil))))))))) (fun _ _ _ _ _ => (ED.o (ed_var 8))))))) (dss_cons (ds_if (et_val (ed_var 2)) (dss_cons (ds_set 6 sc_law_pairs.nd (EO.d (eo_lc (own := [("pair", 8)]) rfl sc_law_pairs.nd (ei_seq (ed_var 6)) (blkOk_by (N := N_law_pairs) (sc := (defScope s_law_pairs)) (by first | decide +kernel | exact rfl)) (by decide) (fun _ _ _ _ _ => (eg_name 8 sc_law_pairs.nd)) (fun _ _ _ _ _ => (ets_one (EC.t (ec_in hr.hu (ED.v (ed_tup (ad_cons (ed_ixN 8 ed_int) (ad_cons (ed_ixN 8 ed_int) ad_nil)))) (ev_var 6))))) (fun _ _ _ _ _ => (ED.o (ed_var 8)))))) dss_nil) dss_nil) (dss_cons (ds_if (EC.t (ec_eq hr.hu (ev_var 6) (ev_var 3))) (dss_cons (ds_retOwn 3) dss_nil) dss_nil) (dss_cons (ds_setO 3 sc_law_pairs.nd (ED.o (ed_var 6))) dss_nil))))) (dss_cons (ds_retOwn 3) dss_nil)))), ?_⟩
  (repeat (first | simp only [seqS_M, startE_cons, startE_nil, List.length_cons, List.length_nil, List.length_replicate, List.length_set, List.replicate_succ, List.replicate_zero, List.getElem?_cons_zero, List.getElem?_cons_succ, List.set_cons_zero, List.set_cons_succ, Option.some.injEq, OT.fz.injEq, OT.ow.injEq, D.int.injEq, D.str.injEq, D.bl.injEq, D.tup.injEq, D.lst.injEq, List.cons.injEq, exists_eq_left', exists_eq_left, exists_eq_right, and_true, true_and, OT.toD_fz, toD_map_fz, hIx_tup, hIx_lst, hIx_scr, hIx_mob, hIx_str, hIxT_fz, hIxT_ow, hAdd_int, hAdd_str, hAdd_tup, hAdd_lst, hMul_int, hMul_lst, hSl_tup, hSl_lst, hSl_str, hLen_lst, hLen_tup, hLen_scr, hLen_str, hLen_mob, hInt_int, hInt_bl, hAbs_int, hSeq_lst, hSeq_tup, hIn_lst, hIn_tup, hEq_eq, hI0_int, hI_int, ng_f, ng_t, atI_0, atI_1, atI_2, ofString_inj, eqv_str, eqv_txt, eqv_int, eqv_bl, eqv_tup, eqv_lst, eqOk_str, eqOk_int, eqOk_bl, eqOk_txt, decide_eq_true_eq, Nat.zero_lt_succ, exists_and_left, List.take_succ_cons, List.take_zero, List.drop_succ_cons, List.drop_zero, List.cons_append, List.nil_append, and_assoc, atI_map, Option.map_some, Nat.reduceAdd, Nat.reduceLT, Nat.reduceLeDiff, OT.toD_ow, List.map_cons, List.map_nil, D.mob.injEq, Mo.lst.injEq, Mem.put_same, Mem.put_put, ixN_30, ixN_32, ixN_10, exists_prop, fz_app, fz_inj, fz_snoc, OT.map_fz, List.length_map, List.length_append, List.append_nil, Nat.zero_add, cutL_1, items_tup, items_lst, items_scr, compD, compS, comp2D, wipeE, D.isIn, List.any_cons, List.any_nil, String.reduceEq, D.plain, D.plains, D.dep, D.deps, Nat.max_self, Nat.min_self, Nat.zero_le, Nat.zero_min, Nat.min_zero, sizeLine_eq, forall_eq, exists_const, forall_const, kind_non, kind_bl, kind_int, kind_str, kind_lst, kind_tup, kind_dk, Kd.isa, reduceCtorEq, decide_false, decide_true, Bool.or_false, Bool.false_or, Bool.or_true, Bool.true_or, Bool.or_self, Bool.and_false, Bool.false_and, Bool.true_and, Bool.and_true, Bool.and_self, and_self, false_or, or_false, false_and, and_false, reduceIte, Bool.false_eq_true, Bool.not_eq_true, Bool.not_true, Bool.not_false, Mo.ins.injEq, hLt_eq, hFld_ob, hFld_mob, isOb_ob, isOb_mob, keyOf_text, keyOf_num, ltOk_int, ltOk_str, lt_int, lt_str, getF, putN, putL, keyIx, hasK, odKs, odTs, putTs, Sum.inr.injEq, Sum.inl.injEq, List.nodup_cons, List.nodup_nil, List.mem_cons, List.not_mem_nil, not_false_eq_true, not_true_eq_false, OT.toD_od, OT.od.injEq, D.dk.injEq, D.ob.injEq, hDix_dk, getK, Option.map_none, or_self, List.map_nil, pick, List.filterMap_cons, List.filterMap_nil, D.mob.injEq, ite_true, ite_false, ow_nodes] | refine seq_in ?_ | refine And.intro (by first | assumption | omega | decide) ?_ | omega | assumption))
  refine forD_rec (fun ds ρ M' => M' = M ∧ ∃ (done rest : List Str) (u : Option OT), o.nodes = done ++ rest ∧ ds = rest.map .str ∧ ρ = [some (.fz o.D), some (.fz (strsD ms)), some (.fz (.bl both)), some (.ow (((rowsT o.tb ms done).map prD).map .fz)), u, none, none, none, none]) _ _ _ ⟨rfl, [], o.nodes, none, rfl, rfl, rfl⟩ ?_ ?_
  · rintro _ M' ⟨rfl, done, rest, u, e1, e2, rfl⟩
    have : rest = [] := by simpa using e2.symm
    subst this
    rw [List.append_nil] at e1
    have ea : rowsT o.tb ms done = alikeT o.tb ms := by rw [← e1]; rfl
    rw [ea]
    (repeat (first | simp only [seqS_M, startE_cons, startE_nil, List.length_cons, List.length_nil, List.length_replicate, List.length_set, List.replicate_succ, List.replicate_zero, List.getElem?_cons_zero, List.getElem?_cons_succ, List.set_cons_zero, List.set_cons_succ, Option.some.injEq, OT.fz.injEq, OT.ow.injEq, D.int.injEq, D.str.injEq, D.bl.injEq, D.tup.injEq, D.lst.injEq, List.cons.injEq, exists_eq_left', exists_eq_left, exists_eq_right, and_true, true_and, OT.toD_fz, toD_map_fz, hIx_tup, hIx_lst, hIx_scr, hIx_mob, hIx_str, hIxT_fz, hIxT_ow, hAdd_int, hAdd_str, hAdd_tup, hAdd_lst, hMul_int, hMul_lst, hSl_tup, hSl_lst, hSl_str, hLen_lst, hLen_tup, hLen_scr, hLen_str, hLen_mob, hInt_int, hInt_bl, hAbs_int, hSeq_lst, hSeq_tup, hIn_lst, hIn_tup, hEq_eq, hI0_int, hI_int, ng_f, ng_t, atI_0, atI_1, atI_2, ofString_inj, eqv_str, eqv_txt, eqv_int, eqv_bl, eqv_tup, eqv_lst, eqOk_str, eqOk_int, eqOk_bl, eqOk_txt, decide_eq_true_eq, Nat.zero_lt_succ, exists_and_left, List.take_succ_cons, List.take_zero, List.drop_succ_cons, List.drop_zero, List.cons_append, List.nil_append, and_assoc, atI_map, Option.map_some, Nat.reduceAdd, Nat.reduceLT, Nat.reduceLeDiff, OT.toD_ow, List.map_cons, List.map_nil, D.mob.injEq, Mo.lst.injEq, Mem.put_same, Mem.put_put, ixN_30, ixN_32, ixN_10, exists_prop, fz_app, fz_inj, fz_snoc, OT.map_fz, List.length_map, List.length_append, List.append_nil, Nat.zero_add, cutL_1, items_tup, items_lst, items_scr, compD, compS, comp2D, wipeE, D.isIn, List.any_cons, List.any_nil, String.reduceEq, D.plain, D.plains, D.dep, D.deps, Nat.max_self, Nat.min_self, Nat.zero_le, Nat.zero_min, Nat.min_zero, sizeLine_eq, forall_eq, exists_const, forall_const, kind_non, kind_bl, kind_int, kind_str, kind_lst, kind_tup, kind_dk, Kd.isa, reduceCtorEq, decide_false, decide_true, Bool.or_false, Bool.false_or, Bool.or_true, Bool.true_or, Bool.or_self, Bool.and_false, Bool.false_and, Bool.true_and, Bool.and_true, Bool.and_self, and_self, false_or, or_false, false_and, and_false, reduceIte, Bool.false_eq_true, Bool.not_eq_true, Bool.not_true, Bool.not_false, Mo.ins.injEq, hLt_eq, hFld_ob, hFld_mob, isOb_ob, isOb_mob, keyOf_text, keyOf_num, ltOk_int, ltOk_str, lt_int, lt_str, getF, putN, putL, keyIx, hasK, odKs, odTs, putTs, Sum.inr.injEq, Sum.inl.injEq, List.nodup_cons, List.nodup_nil, List.mem_cons, List.not_mem_nil, not_false_eq_true, not_true_eq_false, OT.toD_od, OT.od.injEq, D.dk.injEq, D.ob.injEq, hDix_dk, getK, Option.map_none, or_self, List.map_nil, pick, List.filterMap_cons, List.filterMap_nil, D.mob.injEq, ite_true, ite_false] | refine seq_in ?_ | refine And.intro (by first | assumption | omega | decide) ?_ | omega | assumption))
    refine forD_rec (fun ds ρ M2 => M2 = M' ∧ ∃ (i : Nat) (l : List (Str × Str)) (t3 : OT) (u4 u5 u6 : Option OT), ds = rngD i (65 - i) ∧ t3.toD = .lst (l.map prD) ∧ l.Sublist (alikeT o.tb ms) ∧ sink (stepP o.tb both) l = pairsT o.tb ms both ∧ l.length + i ≤ 64 ∧ ρ = [some (.fz o.D), some (.fz (strsD ms)), some (.fz (.bl both)), some t3, u4, u5, u6, none, none]) _ _ _
      ⟨rfl, 0, alikeT o.tb ms, _, _, _, _, rfl, toD_map_fz, List.Sublist.refl _, rfl, len64, rfl⟩ ?_ ?_
    · rintro _ _ ⟨rfl, i, l, t3, u4, u5, u6, e, _, _, _, h, rfl⟩
      have := congrArg List.length e
      rw [rngD_len] at this
      simp at this
      omega
    · rintro d ds ρ M2 ⟨rfl, i, l, t3, u4, u5, u6, e, h3, sub, hs, hi, rfl⟩ C hC
      have hl := sub.length_le
      rw [show 65 - i = (64 - i) + 1 by omega, rngD_cons] at e
      obtain ⟨rfl, rfl⟩ := List.cons.inj e
      wp_walk using False, h3
      refine compD_fm (F := prD) (keep := ledT o.tb l) (G := prD) (fun p hp acc C h1 h2 => ?_) ?_
      · wp_walk using True, prD
        refine ⟨(o, l, p.1, p.2), ⟨rfl, ho⟩, ?_⟩
        rintro _ ⟨_, rfl⟩
        wp_walk using True
        split
        · rename_i q
          exact h1 q
        · rename_i q
          exact h2 (by simpa using q)
      · have hst2 : l.filter (ledT o.tb l) = stepT o.tb l := rfl
        have hl2 := (stepT_takes o.tb l).length_le
        rw [hst2]
        cases both with
        | false =>
          wp_walk using False
          have ek : stepT o.tb l = stepP o.tb false l := rfl
          have hsub : (stepT o.tb l).Sublist l := by rw [ek]; exact stepP_takes o.tb false l
          have hle := hsub.length_le
          refine ⟨eqOk_of (by rw [plain_lst]; exact prs_plain) (by rw [plain_lst]; exact prs_plain) (.inl (by rw [dep_lst]; have := prs_deps (l := (stepT o.tb l)); omega)), ?_⟩
          rw [eqvs_prs]
          by_cases q : (stepT o.tb l) = l
          · rw [if_pos (decide_eq_true q)]
            wp_walk using False
            show D.lst _ = D.lst _
            rw [← hs, sink_same (by rw [← ek, q]; exact Nat.lt_irrefl _)]
          · have lt : (stepT o.tb l).length < l.length := Nat.lt_of_le_of_ne hle fun z => q (hsub.eq_of_length z)
            rw [if_neg (by rw [decide_eq_true_eq]; exact q)]
            wp_walk using False
            exact hC _ _ ⟨rfl, i + 1, (stepT o.tb l), _, _, _, _, by rw [show 65 - (i + 1) = 64 - i by omega]; rfl, rfl, hsub.trans sub, by have h9 := sink_less (step := stepP o.tb false) (l := l) (by rw [← ek]; exact lt); rw [← ek] at h9; rw [← h9]; exact hs, by omega, rfl⟩
        | true =>
          wp_walk using False
          refine compD_fm (F := prD) (keep := fun p => decide ((p.2, p.1) ∈ stepT o.tb l)) (G := prD) (fun p hp acc C h1 h2 => ?_) ?_
          · wp_walk using True, prD, any_prs_eq, prs_plain
            refine ⟨by have := prs_deps (l := stepT o.tb l); omega, ?_⟩
            split
            · rename_i q
              exact h1 (decide_eq_true q)
            · rename_i q
              exact h2 (decide_eq_false q)
          have ek : ((stepT o.tb l).filter fun p => decide ((p.2, p.1) ∈ stepT o.tb l)) = stepP o.tb true l := rfl
          rw [ek]
          wp_walk using False
          replace ek : stepP o.tb true l = stepP o.tb true l := rfl
          have hsub : (stepP o.tb true l).Sublist l := by rw [ek]; exact stepP_takes o.tb true l
          have hle := hsub.length_le
          refine ⟨eqOk_of (by rw [plain_lst]; exact prs_plain) (by rw [plain_lst]; exact prs_plain) (.inl (by rw [dep_lst]; have := prs_deps (l := (stepP o.tb true l)); omega)), ?_⟩
          rw [eqvs_prs]
          by_cases q : (stepP o.tb true l) = l
          · rw [if_pos (decide_eq_true q)]
            wp_walk using False
            show D.lst _ = D.lst _
            rw [← hs, sink_same (by rw [← ek, q]; exact Nat.lt_irrefl _)]
          · have lt : (stepP o.tb true l).length < l.length := Nat.lt_of_le_of_ne hle fun z => q (hsub.eq_of_length z)
            rw [if_neg (by rw [decide_eq_true_eq]; exact q)]
            wp_walk using False
            exact hC _ _ ⟨rfl, i + 1, (stepP o.tb true l), _, _, _, _, by rw [show 65 - (i + 1) = 64 - i by omega]; rfl, rfl, hsub.trans sub, by have h9 := sink_less (step := stepP o.tb true) (l := l) (by rw [← ek]; exact lt); rw [← ek] at h9; rw [← h9]; exact hs, by omega, rfl⟩
  · rintro d ds ρ M' ⟨rfl, done, rest, u, e1, e2, rfl⟩ C hC
    cases rest with
    | nil => cases e2
    | cons x rest => ?_
    rw [List.map_cons] at e2
    obtain ⟨rfl, rfl⟩ := List.cons.inj e2
    have hx : x ∈ o.nodes := by rw [e1]; simp
    have b1 := rowsT_len (t := o.tb) (ms := ms) (show o.tb.sts.length ≤ 8 from hst.2) (show (done ++ [x]).length ≤ 8 by have := hst.2; rw [e1] at this; simp at this ⊢; omega)
    wp_walk using False, ow_nodes
    refine compD_fm (F := .str) (keep := fun y => decide (seenT o.tb ms x = seenT o.tb ms y)) (G := fun y => prD (x, y)) (fun y hy acc C h1 h2 => ?_) ?_
    · wp_walk using True
      refine ⟨(o, x, ms), ⟨rfl, ho, hx, hz⟩, ?_⟩
      rintro _ ⟨_, rfl⟩
      refine ⟨(o, y, ms), ⟨rfl, ho, hy, hz⟩, ?_⟩
      rintro _ ⟨_, rfl⟩
      simp only [toD_map_fz, eqv_lst, eqvs_strs]
      refine ⟨eqOk_of (by rw [plain_lst]; exact plains_strs) (by rw [plain_lst]; exact plains_strs) (.inl (by rw [dep_lst, deps_strs]; decide)), ?_⟩
      by_cases e : seenT o.tb ms x = seenT o.tb ms y
      · rw [if_pos (decide_eq_true e)]
        exact h1 (decide_eq_true e)
      · rw [if_neg (by rw [decide_eq_true_eq]; exact e)]
        exact h2 (decide_eq_false e)
    · have e5 : rowsT o.tb ms (done ++ [x]) = rowsT o.tb ms done ++ (o.nodes.filter fun y => decide (seenT o.tb ms x = seenT o.tb ms y)).map fun y => (x, y) := by
        unfold rowsT
        rw [List.flatMap_append, List.flatMap_singleton]
        rfl
      have := hC _ M' ⟨rfl, done ++ [x], rest, some (.fz (.str x)), by rw [e1, List.append_assoc]; rfl, rfl, rfl⟩
      rw [e5] at this b1
      rw [List.length_append, List.length_map] at b1
      wp_walk using False
      try simp only [List.nil_append, List.length_map, OT.map_fz]
      try refine ⟨by omega, ?_⟩
      simpa only [List.map_append, List.map_map, Function.comp_def, OT.toD_fz] using this
def spSomeM : DSpec := ⟨Addr × List Str × Nat, fun i M ds => ds = [.mob i.1, .lst (i.2.1.map .str)] ∧ i.2.1.length ≤ 26 ∧ i.2.1.Nodup ∧ i.2.2 + 30 ≤ 2 ^ 50 ∧ IsBox i.2.2 M i.1,
  fun i M t M' => ∃ ms : List Str, t.toD = strsD ms ∧ ms.length ≤ 4 ∧ BoxTo i.1 (i.2.2 + 30) M M'⟩
theorem ok_some_marks (T : Tx K mg C_Table) : DF P w K mg base s_law_some "_law_some" ["box", "labels"] 2 spSomeM := by
  have F_law_take := ok_take (P := P) (w := w) (base := base) T
  obtain ⟨f, fd, hm, F, hb⟩ := T.d_law_some
  refine ⟨f, fd, hm, F, hb, fn_dl F sc_law_some ?_⟩
  rintro X M ds ⟨p, ls, n⟩ ⟨cdv, A, outer, s0, H0, E, rfl⟩ hr hl ⟨rfl, hl1, hl2, hn, hB⟩
  replace hl1 : ls.length ≤ 26 := hl1
  replace hl2 : ls.Nodup := hl2
  replace hn : n + 30 ≤ 2 ^ 50 := hn
  replace hB : IsBox n M p := hB
  refine ⟨_, (dss_cons (ds_ret (eo_tuple T.z_tuple (ad_cons (EO.d (eo_sl (EO.d (eo_sortedS T.z_sorted (ad_cons (EO.d (eo_lc (own := [("mark", 2)]) rfl sc_law_some.nd (ei_seq (ed_var 1)) (blkOk_by (N := N_law_some) (sc := (defScope s_law_some)) (by first | decide +kernel | exact rfl)) (by decide) (fun _ _ _ _ _ => (eg_name 2 sc_law_some.nd)) (fun _ _ _ _ _ => (ets_one (EC.t (ec_gt (ED.v (EO.d (eo_call (DF.mono F_law_take (by first | omega | decide)) hr (ad_cons (ed_var 0) (ad_cons ed_int ad_nil))))) (ED.v ed_int))))) (fun _ _ _ _ _ => (ED.o (ed_var 2))))) ad_nil))) ep_none (ep_some (ED.v ed_int)))) ad_nil))) dss_nil), ?_⟩
  wp_walk using False
  refine compD_boxF 1 hB.to (fun m hm acc M4 j C2 hj hB5 hC2 => ?_) (fun ms M4 hsub hB5 => ?_)
  · wp_walk using True, spTake
    refine take_at (by decide) (by decide) (by omega : n + 1 * j ≤ _) hB5.is fun r2 M5 h10 h11 hB6 => ?_
    wp_walk using True
    obtain ⟨c1, c2⟩ := hC2 M5 ((hB5.trans hB6).mono (by omega))
    split <;> assumption
  · wp_walk using False
    refine sort_strs (hsub.nodup hl2) (by have := hsub.length_le; omega) fun ms2 hp2 hasc3 => ?_
    wp_walk using False, cut4
    exact ⟨ms2.take 4, rfl, by rw [List.length_take]; omega, hB5.mono (by show n + 1 * ls.length ≤ n + 30; omega)⟩
end
end DL

namespace DL
open PySem L2 PySem.Spec
open PyProof.Rows hiding St
set_option autoImplicit false
/-! ### what the law asks of the sunk pairs -/
theorem pairs_follow (t : Tb) (ms : List Str) : pairsT t ms false = followsT t ms := rfl
theorem alike_mem {t : Tb} {ms : List Str} {p : Str × Str} : p ∈ alikeT t ms ↔ p.1 ∈ t.sts ∧ p.2 ∈ t.sts ∧ seenT t ms p.1 = seenT t ms p.2 := by
  unfold alikeT
  rw [List.mem_flatMap]
  constructor
  · rintro ⟨x, hx, h⟩
    obtain ⟨y, hy, rfl⟩ := List.mem_map.mp h
    obtain ⟨h1, h2⟩ := List.mem_filter.mp hy
    exact ⟨hx, h1, of_decide_eq_true h2⟩
  · rintro ⟨h1, h2, h3⟩
    exact ⟨p.1, h1, List.mem_map.mpr ⟨p.2, List.mem_filter.mpr ⟨h2, decide_eq_true h3⟩, rfl⟩⟩
theorem next_in {t : Tb} (h : t.Ok) {x a : Str} (ha : a ∈ nextT t x) : a ∈ t.sts := by
  obtain ⟨q, hq, rfl⟩ := List.mem_map.mp ha
  exact (h.mv_in q (List.mem_filter.mp hq).1).2
/-- what leads within a set, leads within a greater one -/
theorem led_mono {t : Tb} {S l : List (Str × Str)} {p : Str × Str} (h : ∀ q ∈ S, q ∈ l) (hp : ledT t S p = true) : ledT t l p = true := by
  unfold ledT at hp ⊢
  rw [List.all_eq_true] at hp ⊢
  intro a ha
  have := hp a ha
  rw [List.any_eq_true] at this ⊢
  obtain ⟨b, hb, q⟩ := this
  exact ⟨b, hb, decide_eq_true (h _ (of_decide_eq_true q))⟩
theorem follows_self {t : Tb} (h : t.Ok) (ms : List Str) {x : Str} (hx : x ∈ t.sts) : (x, x) ∈ followsT t ms := by
  refine sink_keeps (S := fun p => p.1 ∈ t.sts ∧ p.1 = p.2) (fun l hl p hp => List.mem_filter.mpr ⟨hl p hp, ?_⟩) _ _ (Nat.le_refl _) (fun p hp => ?_) (x, x) ⟨hx, rfl⟩
  · unfold ledT
    rw [List.all_eq_true]
    intro a ha
    rw [List.any_eq_true]
    exact ⟨a, by rw [← hp.2]; exact ha, decide_eq_true (hl (a, a) ⟨next_in h ha, rfl⟩)⟩
  · exact alike_mem.mpr ⟨hp.1, by rw [← hp.2]; exact hp.1, by rw [hp.2]⟩
theorem seen_drop {t : Tb} {ms : List Str} {k : Nat} {x y : Str} (h : seenT t ms x = seenT t ms y) : seenT t (ms.drop k) x = seenT t (ms.drop k) y := by
  have key : ∀ m ∈ ms, (m ∈ marksOf t.shs x ↔ m ∈ marksOf t.shs y) := fun m hm => by
    have e : m ∈ seenT t ms x ↔ m ∈ seenT t ms y := by rw [h]
    unfold seenT at e
    simp only [List.mem_filter, decide_eq_true_eq] at e
    exact ⟨fun q => (e.mp ⟨hm, q⟩).2, fun q => (e.mpr ⟨hm, q⟩).2⟩
  unfold seenT
  exact List.filter_congr fun m hm => decide_eq_decide.mpr (key m (List.mem_of_mem_drop hm))
theorem follows_fewer {t : Tb} {ms : List Str} {k : Nat} {p : Str × Str} (hp : p ∈ followsT t ms) : p ∈ followsT t (ms.drop k) := by
  have fix : stepT t (followsT t ms) = followsT t ms := sink_fix (stepT_takes t) _ _ (Nat.le_refl _)
  refine sink_keeps (S := fun p => p ∈ followsT t ms) (fun l hl p hp => List.mem_filter.mpr ⟨hl p hp, ?_⟩) _ _ (Nat.le_refl _) (fun p hp => ?_) p hp
  · rw [← fix] at hp
    exact led_mono hl (List.mem_filter.mp hp).2
  · have h := alike_mem.mp (followsT_sub.mem hp)
    exact alike_mem.mpr ⟨h.1, h.2.1, seen_drop h.2.2⟩
theorem cutL_tail {α : Type} {l : List α} : cutL l (some 1) none = l.drop 1 := by
  cases l with
  | nil => rfl
  | cons a l => exact cutL_1
section
variable {P : Program} {w : World} {K : PySem.W.Frag} {mg : Str → Option Value} {base : Heap} {C_Table : Addr}
def spRi : DSpec := ⟨Addr × Nat, fun i M ds => ds = [.mob i.1] ∧ IsBox i.2 M i.1 ∧ i.2 + 8000000 ≤ 2 ^ 50, fun i M t M' => t = .fz (.bl true) ∧ IsBox (i.2 + 8000000) M' i.1⟩
theorem ok_right (T : Tx K mg C_Table) : DF P w K mg base s_law_right "_law_right" ["box"] 45 spRi := by
  have F_law_take := ok_take (P := P) (w := w) (base := base) T
  have F_law_names := ok_names (P := P) (w := w) (base := base) T
  have F_law_table := ok_table (P := P) (w := w) (base := base) T
  have F_law_made := ok_made (P := P) (w := w) (base := base) T
  have F_law_some := ok_some_marks (P := P) (w := w) (base := base) T
  have F_law_pairs := ok_pairs (P := P) (w := w) (base := base) T
  have F_law_same := ok_same (P := P) (w := w) (base := base) T 12
  have F_follows := ok_follows (P := P) (w := w) (base := base) T
  obtain ⟨f, fd, hm, F, hb⟩ := T.d_law_right
  refine ⟨f, fd, hm, F, hb, fn_dl F sc_law_right ?_⟩
  rintro X M ds ⟨p, n⟩ ⟨cdv, A, outer, s0, H0, E, rfl⟩ hr hl ⟨rfl, hB, hn⟩
  replace hB : IsBox n M p := hB
  replace hn : n + 8000000 ≤ 2 ^ 50 := hn
  refine ⟨_, (dss_cons (ds_for PassesOwn.never rfl (ei_range1 T.z_range (av_cons (ED.v ed_int) av_nil)) (eg_name 1 sc_law_right.nd) (dss_cons (ds_par (i := 2) (j := 3) rfl sc_law_right.nd (ao_cons (ED.o (EO.d (eo_call (DF.mono F_law_names (by first | omega | decide)) hr (ad_cons (ed_var 0) (ad_cons (EO.d (eo_add ed_int (EO.d (eo_call (DF.mono F_law_take (by first | omega | decide)) hr (ad_cons (ed_var 0) (ad_cons ed_int ad_nil)))))) ad_nil))))) (ao_cons (ED.o (EO.d (eo_call (DF.mono F_law_names (by first | omega | decide)) hr (ad_cons (ed_var 0) (ad_cons ed_int ad_nil))))) ao_nil))) (dss_cons (ds_set 4 sc_law_right.nd (EO.d (eo_call (DF.mono F_law_table (by first | omega | decide)) hr (ad_cons (ed_var 0) (ad_cons (ed_var 2) (ad_cons (EO.d (eo_sl (ed_var 3) ep_none (ep_some (ED.v (EO.d (eo_add ed_int (EO.d (eo_call (DF.mono F_law_take (by first | omega | decide)) hr (ad_cons (ed_var 0) (ad_cons ed_int ad_nil)))))))))) ad_nil)))))) (dss_cons (ds_asg (ed_tup (ad_cons (EO.d (eo_callP (DF.mono F_law_made (by first | omega | decide)) hr (ad_cons (ed_var 4) ad_nil))) (ad_cons (EO.d (eo_call (DF.mono F_law_some (by first | omega | decide)) hr (ad_cons (ed_var 0) (ad_cons (ed_var 3) ad_nil)))) ad_nil))) (eg_tup (n := 2) rfl (egs_cons (eg_name 5 sc_law_right.nd) (egs_cons (eg_name 6 sc_law_right.nd) egs_nil)))) (dss_cons (ds_set 7 sc_law_right.nd (EO.d (eo_callP (DF.mono F_law_pairs (by first | omega | decide)) hr (ad_cons (ed_var 4) (ad_cons (ed_var 6) (ad_cons ed_bl ad_nil)))))) (dss_cons (ds_setO 8 sc_law_right.nd (eo_lst (ao_cons (eo_callP (DF.mono F_follows (by first | omega | decide)) hr (ad_cons (ed_var 5) (ad_cons (ed_var 6) ad_nil))) (ao_cons (eo_callK0 (DF.mono F_follows (by first | omega | decide)).kw hr ["marks", "table"] [1, 0] (fun _ _ _ _ _ _ us ws h1 h2 => match us, ws, h1, h2 with | [], [_, _], _, _ => rfl) (kd_cons (ed_var 6) (kd_cons (ed_var 5) kd_nil))) (ao_cons (eo_callP (DF.mono F_follows (by first | omega | decide)) hr (ad_cons (ed_var 5) (ad_cons (ed_var 6) ad_nil))) ao_nil))))) (dss_cons (ds_if (EW.t (ew_or (et_not (et_val (ed_callV (DF.mono F_law_same (by first | omega | decide)) hr (av_cons (ev_var 8) (av_cons (ED.v (EO.d (eo_mul (EO.d (eo_lst (ao_cons (ED.o (ed_var 7)) ao_nil))) ed_int))) av_nil))))) (ew_or1 (EC.t (ec_ne hr.hu (ev_var 7) (ED.v (EO.d (eo_sortedD hr.hu T.z_sorted (ad_cons (ed_var 7) ad_nil))))))))) (dss_cons (ds_ret (ED.o ed_bl)) dss_nil) dss_nil) (dss_cons (ds_clearIx 8 ed_int) (dss_cons (ds_appendIx 8 ed_int ed_str) (dss_cons (ds_if (EW.t (ew_or (et_not (et_val (ed_callV (DF.mono F_law_same (by first | omega | decide)) hr (av_cons (ED.v (EO.d (eo_callP (DF.mono F_follows (by first | omega | decide)) hr (ad_cons (ed_var 5) (ad_cons (ed_var 6) ad_nil))))) (av_cons (ev_var 7) av_nil))))) (ew_or1 (et_not (et_val (ed_all rfl T.z_all (av_cons (ED.v (EO.d (eo_lc (own := [("node", 9)]) rfl sc_law_right.nd (ei_seq (ed_var 2)) (blkOk_by (N := N_law_right) (sc := (defScope s_law_right)) (by first | decide +kernel | exact rfl)) (by decide) (fun _ _ _ _ _ => (eg_name 9 sc_law_right.nd)) (fun _ _ _ _ _ => ets_nil) (fun _ _ _ _ _ => (ED.o (EC.d (ec_in hr.hu (ED.v (ed_tup (ad_cons (ed_var 9) (ad_cons (ed_var 9) ad_nil)))) (ev_var 7)))))))) av_nil))))))) (dss_cons (ds_ret (ED.o ed_bl)) dss_nil) dss_nil) (dss_cons (ds_if (et_not (et_val (ed_all rfl T.z_all (av_cons (ED.v (EO.d (eo_lc (own := [("pair", 10)]) rfl sc_law_right.nd (ei_seq (ed_var 7)) (blkOk_by (N := N_law_right) (sc := (defScope s_law_right)) (by first | decide +kernel | exact rfl)) (by decide) (fun _ _ _ _ _ => (eg_name 10 sc_law_right.nd)) (fun _ _ _ _ _ => ets_nil) (fun _ _ _ _ _ => (ED.o (EC.d (ec_in hr.hu (ev_var 10) (ED.v (EO.d (eo_callP (DF.mono F_follows (by first | omega | decide)) hr (ad_cons (ed_var 5) (ad_cons (EO.d (eo_sl (ed_var 6) (ep_some (ED.v ed_int)) ep_none)) ad_nil)))))))))))) av_nil)))) (dss_cons (ds_ret (ED.o ed_bl)) dss_nil) dss_nil) dss_nil))))))))))) (dss_cons (ds_ret (ED.o ed_bl)) dss_nil)), ?_⟩
  (repeat (first | simp only [seqS_M, startE_cons, startE_nil, List.length_cons, List.length_nil, List.length_replicate, List.length_set, List.replicate_succ, List.replicate_zero, List.getElem?_cons_zero, List.getElem?_cons_succ, List.set_cons_zero, List.set_cons_succ, Option.some.injEq, OT.fz.injEq, OT.ow.injEq, D.int.injEq, D.str.injEq, D.bl.injEq, D.tup.injEq, D.lst.injEq, List.cons.injEq, exists_eq_left', exists_eq_left, exists_eq_right, and_true, true_and, OT.toD_fz, toD_map_fz, hIx_tup, hIx_lst, hIx_scr, hIx_mob, hIx_str, hIxT_fz, hIxT_ow, hAdd_int, hAdd_str, hAdd_tup, hAdd_lst, hMul_int, hMul_lst, hSl_tup, hSl_lst, hSl_str, hLen_lst, hLen_tup, hLen_scr, hLen_str, hLen_mob, hInt_int, hInt_bl, hAbs_int, hSeq_lst, hSeq_tup, hIn_lst, hIn_tup, hEq_eq, hI0_int, hI_int, ng_f, ng_t, atI_0, atI_1, atI_2, ofString_inj, eqv_str, eqv_txt, eqv_int, eqv_bl, eqv_tup, eqv_lst, eqOk_str, eqOk_int, eqOk_bl, eqOk_txt, decide_eq_true_eq, Nat.zero_lt_succ, exists_and_left, List.take_succ_cons, List.take_zero, List.drop_succ_cons, List.drop_zero, List.cons_append, List.nil_append, and_assoc, atI_map, Option.map_some, Nat.reduceAdd, Nat.reduceLT, Nat.reduceLeDiff, OT.toD_ow, List.map_cons, List.map_nil, D.mob.injEq, Mo.lst.injEq, Mem.put_same, Mem.put_put, ixN_30, ixN_32, ixN_10, exists_prop, fz_app, fz_inj, fz_snoc, OT.map_fz, List.length_map, List.length_append, List.append_nil, Nat.zero_add, cutL_1, items_tup, items_lst, items_scr, compD, compS, comp2D, wipeE, D.isIn, List.any_cons, List.any_nil, String.reduceEq, D.plain, D.plains, D.dep, D.deps, Nat.max_self, Nat.min_self, Nat.zero_le, Nat.zero_min, Nat.min_zero, sizeLine_eq, forall_eq, exists_const, forall_const, kind_non, kind_bl, kind_int, kind_str, kind_lst, kind_tup, kind_dk, Kd.isa, reduceCtorEq, decide_false, decide_true, Bool.or_false, Bool.false_or, Bool.or_true, Bool.true_or, Bool.or_self, Bool.and_false, Bool.false_and, Bool.true_and, Bool.and_true, Bool.and_self, and_self, false_or, or_false, false_and, and_false, reduceIte, Bool.false_eq_true, Bool.not_eq_true, Bool.not_true, Bool.not_false, Mo.ins.injEq, hLt_eq, hFld_ob, hFld_mob, isOb_ob, isOb_mob, keyOf_text, keyOf_num, ltOk_int, ltOk_str, lt_int, lt_str, getF, putN, putL, keyIx, hasK, odKs, odTs, putTs, Sum.inr.injEq, Sum.inl.injEq, List.nodup_cons, List.nodup_nil, List.mem_cons, List.not_mem_nil, not_false_eq_true, not_true_eq_false, OT.toD_od, OT.od.injEq, D.dk.injEq, D.ob.injEq, hDix_dk, getK, Option.map_none, or_self, List.map_nil, pick, List.filterMap_cons, List.filterMap_nil, D.mob.injEq, ite_true, ite_false] | refine seq_in ?_ | refine And.intro (by first | assumption | omega | decide) ?_ | omega | assumption))
  refine forD_rec (fun ds ρ M' => ∃ (j : Nat) (u1 u2 u3 u4 u5 u6 u7 u8 : Option OT), ds.length + j = 3 ∧ IsBox (n + j * 2000000) M' p ∧ ρ = [some (.fz (.mob p)), u1, u2, u3, u4, u5, u6, u7, u8, none, none]) _ _ _ ⟨0, none, none, none, none, none, none, none, none, rfl, hB, rfl⟩ ?_ ?_
  · rintro _ M' ⟨j, u1, u2, u3, u4, u5, u6, u7, u8, hj, hB', rfl⟩
    wp_walk using False
    exact ⟨rfl, hB'.mono (by simp at hj; show n + j * 2000000 ≤ n + 8000000; omega)⟩
  · rintro d ds ρ M0 ⟨j, u1, u2, u3, u4, u5, u6, u7, u8, hj, hB', rfl⟩ C hC
    rw [List.length_cons] at hj
    have hN : n + j * 2000000 + 2000000 ≤ 2 ^ 50 := by omega
    obtain ⟨N, hNe⟩ : ∃ N, N = n + j * 2000000 := ⟨_, rfl⟩
    rw [← hNe] at hB' hN
    wp_walk using False, spTake
    refine take_at (by decide) (by decide) (by omega : N ≤ _) hB' fun r M1 h0 h1 hB1 => ?_
    wp_walk using False
    refine ⟨(p, 1 + r, N + 1), ⟨rfl, by show 0 ≤ 1 + r; omega, by show 1 + r ≤ 26; omega, by show N + 1 + 20 ≤ 2 ^ 50; omega, hB1.is⟩, ?_⟩
    rintro _ M2 ⟨xs, rfl, hx1, hx2, hx3, hB2⟩
    replace hx1 : (xs.length : Int) = 1 + r := hx1
    replace hB2 : BoxTo p (N + 1 + 20) M1 M2 := hB2
    refine ⟨(p, 4, N + 21), ⟨rfl, by show (0 : Int) ≤ 4; decide, by show (4 : Int) ≤ 26; decide, by show N + 21 + 20 ≤ 2 ^ 50; omega, hB2.is⟩, ?_⟩
    rintro _ M3 ⟨ls, rfl, hl1, hl2, hl3, hB3⟩
    replace hl1 : (ls.length : Int) = 4 := hl1
    replace hB3 : BoxTo p (N + 21 + 20) M2 M3 := hB3
    wp_walk using False, spTake
    refine take_at (by decide) (by decide) (by omega : N + 41 ≤ _) hB3.is fun r2 M4 h2 h3 hB4 => ?_
    obtain ⟨r2, rfl⟩ := Int.eq_ofNat_of_zero_le h2
    have ecut : ∀ l : List D, cutL l none (some (1 + (r2 : Int))) = l.take (1 + r2) := fun l => by
      rw [show (1 + (r2 : Int)) = ((1 + r2 : Nat) : Int) by omega]
      exact cutL_take _
    (repeat (first | simp only [seqS_M, startE_cons, startE_nil, List.length_cons, List.length_nil, List.length_replicate, List.length_set, List.replicate_succ, List.replicate_zero, List.getElem?_cons_zero, List.getElem?_cons_succ, List.set_cons_zero, List.set_cons_succ, Option.some.injEq, OT.fz.injEq, OT.ow.injEq, D.int.injEq, D.str.injEq, D.bl.injEq, D.tup.injEq, D.lst.injEq, List.cons.injEq, exists_eq_left', exists_eq_left, exists_eq_right, and_true, true_and, OT.toD_fz, toD_map_fz, hIx_tup, hIx_lst, hIx_scr, hIx_mob, hIx_str, hIxT_fz, hIxT_ow, hAdd_int, hAdd_str, hAdd_tup, hAdd_lst, hMul_int, hMul_lst, hSl_tup, hSl_lst, hSl_str, hLen_lst, hLen_tup, hLen_scr, hLen_str, hLen_mob, hInt_int, hInt_bl, hAbs_int, hSeq_lst, hSeq_tup, hIn_lst, hIn_tup, hEq_eq, hI0_int, hI_int, ng_f, ng_t, atI_0, atI_1, atI_2, ofString_inj, eqv_str, eqv_txt, eqv_int, eqv_bl, eqv_tup, eqv_lst, eqOk_str, eqOk_int, eqOk_bl, eqOk_txt, decide_eq_true_eq, Nat.zero_lt_succ, exists_and_left, List.take_succ_cons, List.take_zero, List.drop_succ_cons, List.drop_zero, List.cons_append, List.nil_append, and_assoc, atI_map, Option.map_some, Nat.reduceAdd, Nat.reduceLT, Nat.reduceLeDiff, OT.toD_ow, List.map_cons, List.map_nil, D.mob.injEq, Mo.lst.injEq, Mem.put_same, Mem.put_put, ixN_30, ixN_32, ixN_10, exists_prop, fz_app, fz_inj, fz_snoc, OT.map_fz, List.length_map, List.length_append, List.append_nil, Nat.zero_add, cutL_1, items_tup, items_lst, items_scr, forD, compD, compS, comp2D, wipeE, D.isIn, List.any_cons, List.any_nil, String.reduceEq, D.plain, D.plains, D.dep, D.deps, Nat.max_self, Nat.min_self, Nat.zero_le, Nat.zero_min, Nat.min_zero, sizeLine_eq, forall_eq, exists_const, forall_const, kind_non, kind_bl, kind_int, kind_str, kind_lst, kind_tup, kind_dk, Kd.isa, reduceCtorEq, decide_false, decide_true, Bool.or_false, Bool.false_or, Bool.or_true, Bool.true_or, Bool.or_self, Bool.and_false, Bool.false_and, Bool.true_and, Bool.and_true, Bool.and_self, and_self, false_or, or_false, false_and, and_false, reduceIte, Bool.false_eq_true, Bool.not_eq_true, Bool.not_true, Bool.not_false, Mo.ins.injEq, hLt_eq, hFld_ob, hFld_mob, isOb_ob, isOb_mob, keyOf_text, keyOf_num, ltOk_int, ltOk_str, lt_int, lt_str, getF, putN, putL, keyIx, hasK, odKs, odTs, putTs, Sum.inr.injEq, Sum.inl.injEq, List.nodup_cons, List.nodup_nil, List.mem_cons, List.not_mem_nil, not_false_eq_true, not_true_eq_false, OT.toD_od, OT.od.injEq, D.dk.injEq, D.ob.injEq, hDix_dk, getK, Option.map_none, or_self, List.map_nil, pick, List.filterMap_cons, List.filterMap_nil, D.mob.injEq, ite_true, ite_false, ecut, ← List.map_take] | refine seq_in ?_ | refine And.intro (by first | assumption | omega | decide) ?_ | omega | assumption))
    refine ⟨(p, xs, ls.take (1 + r2), N + 42), ⟨rfl, ⟨by show 1 ≤ xs.length; omega, by show xs.length ≤ 8; omega, hx2, hx3⟩, ⟨by show (ls.take (1 + r2)).length ≤ 26; rw [List.length_take]; omega, hl2.sublist (List.take_sublist _ _), fun y hy => hl3 y (List.mem_of_mem_take hy)⟩, by show N + 42 + 300 ≤ 2 ^ 50; omega, hB4.is⟩, ?_⟩
    rintro t M5 ⟨o, ht, ho, hB5, hperm⟩
    replace hperm : o.nodes.Perm xs := hperm
    replace hB5 : BoxTo p (N + 42 + 300) M4 M5 := hB5
    have ok := Ow.tb_ok ho
    wp_walk using False, ht
    refine ⟨o, ⟨rfl, ho⟩, ?_⟩
    rintro _ ⟨_, rfl⟩
    refine ⟨(p, ls, N + 342), ⟨rfl, by show ls.length ≤ 26; omega, hl2, by show N + 342 + 30 ≤ 2 ^ 50; omega, hB5.is⟩, ?_⟩
    rintro t6 M6 ⟨ms, hms, hml, hB6⟩
    replace hB6 : BoxTo p (N + 342 + 30) M5 M6 := hB6
    have hB7 : IsBox (N + 2000000) M6 p := hB6.is.mono (by omega)
    wp_walk using False, hms
    refine ⟨(o, ms, false), ⟨rfl, ho, by show ms.length ≤ 100; omega⟩, ?_⟩
    rintro t7 ⟨_, ed⟩
    replace ed : t7.toD = .lst ((followsT o.tb ms).map prD) := ed
    wp_walk using False, ed
    have ask : ∀ (k : Nat), ∃ i, (spFollows C_Table).pre i Mem.no [o.tb.ob C_Table, strsD (ms.drop k)] ∧ ∀ t, (∃ M', (spFollows C_Table).post i Mem.no t M') → t = .ow (((followsT o.tb (ms.drop k)).map prD).map .fz) := fun k =>
      ⟨(o.tb, ms.drop k), ⟨rfl, ok, by show (ms.drop k).length ≤ 100; rw [List.length_drop]; omega⟩, fun t ⟨_, e⟩ => e⟩
    refine ⟨(o.tb, ms), ⟨rfl, ok, by show ms.length ≤ 100; omega⟩, ?_⟩
    rintro _ ⟨_, rfl⟩
    refine ⟨(o.tb, ms), ⟨rfl, ok, by show ms.length ≤ 100; omega⟩, ?_⟩
    rintro _ ⟨_, rfl⟩
    refine ⟨(o.tb, ms), ⟨rfl, ok, by show ms.length ≤ 100; omega⟩, ?_⟩
    rintro _ ⟨_, rfl⟩
    have rep3 : ∀ d : D, repD [d] 3 = [d, d, d] := fun d => rfl
    wp_walk using False, rep3
    have fpl : (D.lst ((followsT o.tb ms).map prD)).plain = true := by rw [plain_lst]; exact prs_plain
    have fdp : (D.lst ((followsT o.tb ms).map prD)).dep ≤ 9 := by rw [dep_lst]; have := prs_deps (l := followsT o.tb ms); omega
    refine ⟨.lst [.lst ((followsT o.tb ms).map prD), .lst ((followsT o.tb ms).map prD), .lst ((followsT o.tb ms).map prD)], ⟨rfl, by simp only [D.plain, D.plains, Bool.and_true, Bool.and_self] at fpl ⊢; exact fpl, by simp only [D.dep, D.deps] at fdp ⊢; omega, by simp only [D.dep, D.deps] at fdp ⊢; omega⟩, ?_⟩
    rintro _ ⟨_, rfl⟩
    wp_walk using False
    have fnd := ascP_nodup (followsT_asc ok ms)
    have flen : (followsT o.tb ms).length ≤ 64 := Nat.le_trans followsT_sub.length_le (alikeT_len ok ms)
    refine sort_prs fnd (by omega) fun ys hys hasc => ?_
    rw [ascP_uniq hasc (followsT_asc ok ms) hys]
    have es : (D.lst ((followsT o.tb ms).map prD)).eqv (.lst ((followsT o.tb ms).map prD)) = true := eqv_self _ fpl
    have eo : (D.lst ((followsT o.tb ms).map prD)).eqOk (.lst ((followsT o.tb ms).map prD)) = true := eqOk_of fpl fpl (.inl (by omega))
    wp_walk using False, es, eo
    have es2 : D.eqvs ((followsT o.tb ms).map prD) ((followsT o.tb ms).map prD) = true := by rw [← eqv_lst]; exact es
    wp_walk using False, es2, ixN_31
    refine ⟨(o.tb, ms), ⟨rfl, ok, by show ms.length ≤ 100; omega⟩, ?_⟩
    rintro _ ⟨_, rfl⟩
    refine ⟨.lst ((followsT o.tb ms).map prD), ⟨by rw [toD_map_fz], fpl, by omega, by omega⟩, ?_⟩
    rintro _ ⟨_, rfl⟩
    have hxl : xs.length ≤ 8 := by omega
    wp_walk using False, rep3
    refine compD_map (F := .str) (G := fun x => .bl (decide ((x, x) ∈ followsT o.tb ms))) (fun x hx acc C hC => ?_) ?_
    · wp_walk using True, any_prs_eq, prs_plain
      exact ⟨by have := prs_deps (l := followsT o.tb ms); omega, hC⟩
    have all1 : (xs.all fun x => decide ((x, x) ∈ followsT o.tb ms)) = true := List.all_eq_true.mpr fun x hx => decide_eq_true (follows_self ok ms (hperm.mem_iff.mpr hx))
    wp_walk using False
    refine hAll_all ⟨_, rfl, ?_⟩
    rw [all1]
    wp_walk using False
    refine compD_map (F := prD) (G := fun q => .bl (decide (q ∈ followsT o.tb (ms.drop 1)))) (fun q hq acc C hC => ?_) ?_
    · wp_walk using True, strsD, cutL_tail
      rw [← List.map_drop]
      obtain ⟨i, h1, h2⟩ := ask 1
      refine ⟨i, h1, fun t ht => ?_⟩
      rw [h2 t ht]
      wp_walk using True, prD, any_prs_eq, prs_plain
      exact ⟨by have := prs_deps (l := followsT o.tb (ms.drop 1)); omega, hC⟩
    have all2 : ((followsT o.tb ms).all fun q => decide (q ∈ followsT o.tb (ms.drop 1))) = true := List.all_eq_true.mpr fun q hq => decide_eq_true (follows_fewer hq)
    wp_walk using False
    refine hAll_all ⟨_, rfl, ?_⟩
    rw [all2]
    wp_walk using False
    exact hC _ _ ⟨j + 1, _, _, _, _, _, _, _, _, by omega, hB7.mono (by omega), rfl⟩
end
end DL

namespace DL
open PySem L2 PySem.Spec
open PyProof.Rows hiding St
set_option autoImplicit false
section
variable {P : Program} {w : World} {K : PySem.W.Frag} {mg : Str → Option Value} {base : Heap} {C_Table : Addr}
def spBoxes : Nat := 100
theorem ok_law (T : Tx K mg C_Table) : DF P w K mg base s_law "law" ["script"] 60 spLaw := by
  have F_law_right := ok_right (P := P) (w := w) (base := base) T
  have F_law_box := ok_box (P := P) (w := w) (base := base) T
  obtain ⟨f, fd, hm, F, hb⟩ := T.d_law
  refine ⟨f, fd, hm, F, hb, fn_dl F sc_law ?_⟩
  rintro X M ds (ns : List Int) ⟨cdv, A, outer, s0, H0, E, rfl⟩ hr hl ⟨rfl, hn⟩
  refine ⟨_, (dss_cons (ds_ret (ED.o (ed_all rfl T.z_all (av_cons (ED.v (EO.d (eo_lc (own := [("k", 1)]) rfl sc_law.nd (ei_range1 T.z_range (av_cons (ED.v (ed_max2 rfl T.z_max (av_cons (ED.v ed_int) (av_cons (ED.v (ed_min2 rfl T.z_min (av_cons (ED.v (ed_len T.z_len (av_cons (ev_var 0) av_nil))) (av_cons (ED.v ed_int) av_nil)))) av_nil)))) av_nil)) (blkOk_by (N := N_law) (sc := (defScope s_law)) (by first | decide +kernel | exact rfl)) (by decide) (fun _ _ _ _ _ => (eg_name 1 sc_law.nd)) (fun _ _ _ _ _ => ets_nil) (fun _ _ _ _ _ => (eo_callM (DF.mono F_law_right (by first | omega | decide)) hr (ao_cons (eo_callP (DF.mono F_law_box (by first | omega | decide)) hr (ad_cons (ed_var 0) (ad_cons (ed_var 1) ad_nil))) ao_nil)))))) av_nil)))) dss_nil), ?_⟩
  wp_walk using False
  have hN : (if (if (4 : Int) < (ns.length : Int) then 4 else (ns.length : Int)) > 2 then if (4 : Int) < (ns.length : Int) then 4 else (ns.length : Int) else 2).toNat ≤ 4 := by split <;> split <;> omega
  generalize (if (if (4 : Int) < (ns.length : Int) then 4 else (ns.length : Int)) > 2 then if (4 : Int) < (ns.length : Int) then 4 else (ns.length : Int) else 2).toNat = N at hN ⊢
  refine compD_rec (fun ds acc M' => (∃ (a : Int) (m : Nat), ds = rngD a m ∧ 0 ≤ a ∧ a + m ≤ 4) ∧ ∀ t ∈ acc, t = .fz (.bl true)) _ _ _ ⟨⟨0, N, rfl, Int.le_refl _, by omega⟩, fun t ht => nomatch ht⟩ (fun acc M' h => ?_) fun d ds acc M' h C hC => ?_
  · obtain ⟨bs, e1, e2⟩ := trues_all h.2
    exact ⟨bs, by rw [e1], congrArg (fun z => OT.fz (D.bl z)) e2⟩
  · obtain ⟨⟨a, m, e, ha, hm⟩, ht⟩ := h
    cases m with
    | zero => cases e
    | succ m =>
      rw [rngD_cons] at e
      obtain ⟨rfl, rfl⟩ := List.cons.inj e
      wp_walk using True
      refine ⟨⟨ns, a⟩, ⟨rfl, ha, by show a ≤ 100; omega⟩, ?_⟩
      rintro t ⟨_, x, y, rfl, hx, hy, hy2⟩
      refine ⟨[], [.int x, .int y, .int 0], rfl, rfl, fun q hq => ⟨⟨q, 0⟩, ⟨rfl, ⟨x, y, 0, Mem.put_same, ?_⟩, by show 0 + 8000000 ≤ 2 ^ 50; decide⟩, ?_⟩⟩
      · exact ⟨hx, hy, hy2, Int.le_refl 0, Int.le_refl 0⟩
      · rintro t M2 ⟨rfl, _⟩
        refine hC _ _ ⟨⟨a + 1, m, rfl, by omega, by omega⟩, fun t hm => ?_⟩
        rcases List.mem_append.mp hm with hm | hm
        · exact ht t hm
        · simpa using hm
end
set_option maxHeartbeats 0 in
theorem all_mk {K : PySem.W.Frag} {h : Heap} {mg : Str → Option Value} (X : K.In h) (G : h.Ns mainGlobals mg)
    {C_Table : Addr}
    {f0 : Addr} {od0 an0 : Option Addr} {sl0 : Array (Option Value)} {oc0 kV0 dc0 pm0 cd0 ct0 : Value}
    {f1 : Addr} {od1 an1 : Option Addr} {sl1 : Array (Option Value)} {oc1 kV1 dc1 pm1 cd1 ct1 : Value}
    {f2 : Addr} {od2 an2 : Option Addr} {sl2 : Array (Option Value)} {oc2 kV2 dc2 pm2 cd2 ct2 : Value}
    {f3 : Addr} {od3 an3 : Option Addr} {sl3 : Array (Option Value)} {oc3 kV3 dc3 pm3 cd3 ct3 : Value}
    {f4 : Addr} {od4 an4 : Option Addr} {sl4 : Array (Option Value)} {oc4 kV4 dc4 pm4 cd4 ct4 : Value}
    {f5 : Addr} {od5 an5 : Option Addr} {sl5 : Array (Option Value)} {oc5 kV5 dc5 pm5 cd5 ct5 : Value}
    {f6 : Addr} {od6 an6 : Option Addr} {sl6 : Array (Option Value)} {oc6 kV6 dc6 pm6 cd6 ct6 : Value}
    {f7 : Addr} {od7 an7 : Option Addr} {sl7 : Array (Option Value)} {oc7 kV7 dc7 pm7 cd7 ct7 : Value}
    {f8 : Addr} {od8 an8 : Option Addr} {sl8 : Array (Option Value)} {oc8 kV8 dc8 pm8 cd8 ct8 : Value}
    {f9 : Addr} {od9 an9 : Option Addr} {sl9 : Array (Option Value)} {oc9 kV9 dc9 pm9 cd9 ct9 : Value}
    {f10 : Addr} {od10 an10 : Option Addr} {sl10 : Array (Option Value)} {oc10 kV10 dc10 pm10 cd10 ct10 : Value}
    {f11 : Addr} {od11 an11 : Option Addr} {sl11 : Array (Option Value)} {oc11 kV11 dc11 pm11 cd11 ct11 : Value}
    {f12 : Addr} {od12 an12 : Option Addr} {sl12 : Array (Option Value)} {oc12 kV12 dc12 pm12 cd12 ct12 : Value}
    {f13 : Addr} {od13 an13 : Option Addr} {sl13 : Array (Option Value)} {oc13 kV13 dc13 pm13 cd13 ct13 : Value}
    {f14 : Addr} {od14 an14 : Option Addr} {sl14 : Array (Option Value)} {oc14 kV14 dc14 pm14 cd14 ct14 : Value}
    {f15 : Addr} {od15 an15 : Option Addr} {sl15 : Array (Option Value)} {oc15 kV15 dc15 pm15 cd15 ct15 : Value}
    {f16 : Addr} {od16 an16 : Option Addr} {sl16 : Array (Option Value)} {oc16 kV16 dc16 pm16 cd16 ct16 : Value}
    {f17 : Addr} {od17 an17 : Option Addr} {sl17 : Array (Option Value)} {oc17 kV17 dc17 pm17 cd17 ct17 : Value}
    {f18 : Addr} {od18 an18 : Option Addr} {sl18 : Array (Option Value)} {oc18 kV18 dc18 pm18 cd18 ct18 : Value}
    {f19 : Addr} {od19 an19 : Option Addr} {sl19 : Array (Option Value)} {oc19 kV19 dc19 pm19 cd19 ct19 : Value}
    {f20 : Addr} {od20 an20 : Option Addr} {sl20 : Array (Option Value)} {oc20 kV20 dc20 pm20 cd20 ct20 : Value}
    {f21 : Addr} {od21 an21 : Option Addr} {sl21 : Array (Option Value)} {oc21 kV21 dc21 pm21 cd21 ct21 : Value}
    {f22 : Addr} {od22 an22 : Option Addr} {sl22 : Array (Option Value)} {oc22 kV22 dc22 pm22 cd22 ct22 : Value}
    {f23 : Addr} {od23 an23 : Option Addr} {sl23 : Array (Option Value)} {oc23 kV23 dc23 pm23 cd23 ct23 : Value}
    {f24 : Addr} {od24 an24 : Option Addr} {sl24 : Array (Option Value)} {oc24 kV24 dc24 pm24 cd24 ct24 : Value}
    {f25 : Addr} {od25 an25 : Option Addr} {sl25 : Array (Option Value)} {oc25 kV25 dc25 pm25 cd25 ct25 : Value}
    {f26 : Addr} {od26 an26 : Option Addr} {sl26 : Array (Option Value)} {oc26 kV26 dc26 pm26 cd26 ct26 : Value}
    {f27 : Addr} {od27 an27 : Option Addr} {sl27 : Array (Option Value)} {oc27 kV27 dc27 pm27 cd27 ct27 : Value}
    {f28 : Addr} {od28 an28 : Option Addr} {sl28 : Array (Option Value)} {oc28 kV28 dc28 pm28 cd28 ct28 : Value}
    {f29 : Addr} {od29 an29 : Option Addr} {sl29 : Array (Option Value)} {oc29 kV29 dc29 pm29 cd29 ct29 : Value}
    {t0 : Tok}
    {t1 : Tok}
    {t2 : Tok}
    {t3 : Tok}
    {t4 : Tok}
    (aC_Table : PySem.W.nsIn K mainGlobals "Table" = some (some (.ref C_Table)))
    (pg_Table : PySem.W.plainGet K C_Table Str.empty = true)
    (hd_Table : PySem.W.hasDictIn K C_Table = true)
    (po_Table : PySem.W.plainOver K C_Table = true)
    (sa_Table : PySem.W.findIn K (.ref C_Table) "__setattr__" = some (some (.builtin "object.__setattr__")))
    (n_Table_states : PySem.W.findIn K (.ref C_Table) "states" = some none)
    (n_Table_moves : PySem.W.findIn K (.ref C_Table) "moves" = some none)
    (n_Table_begins : PySem.W.findIn K (.ref C_Table) "begins" = some none)
    (n_Table_shows : PySem.W.findIn K (.ref C_Table) "shows" = some none)
    (mk_Table : PySem.W.makesIn K C_Table = true)
    (kc_Table : PySem.W.keepIn K (.ref C_Table) = true)
    (a0 : PySem.W.nsIn K mainGlobals "is_name" = some (some (.ref f0)))
    (l0 : K.lookup f0 = some ⟨oc0, od0, .func (PySem.W.fnOf "is_name" "is_name" (defArgs s_is_name) (defBody s_is_name) (defScope s_is_name) .none kV0 dc0 pm0 an0 cd0 ct0), sl0⟩)
    (c0 : PySem.W.codeIn K cd0 "is_name" = true)
    (k0 : PySem.W.keepIn K (.ref f0) = true)
    (a1 : PySem.W.nsIn K mainGlobals "is_tuple_of" = some (some (.ref f1)))
    (l1 : K.lookup f1 = some ⟨oc1, od1, .func (PySem.W.fnOf "is_tuple_of" "is_tuple_of" (defArgs s_is_tuple_of) (defBody s_is_tuple_of) (defScope s_is_tuple_of) .none kV1 dc1 pm1 an1 cd1 ct1), sl1⟩)
    (c1 : PySem.W.codeIn K cd1 "is_tuple_of" = true)
    (k1 : PySem.W.keepIn K (.ref f1) = true)
    (a2 : PySem.W.nsIn K mainGlobals "rises" = some (some (.ref f2)))
    (l2 : K.lookup f2 = some ⟨oc2, od2, .func (PySem.W.fnOf "rises" "rises" (defArgs s_rises) (defBody s_rises) (defScope s_rises) .none kV2 dc2 pm2 an2 cd2 ct2), sl2⟩)
    (c2 : PySem.W.codeIn K cd2 "rises" = true)
    (k2 : PySem.W.keepIn K (.ref f2) = true)
    (a3 : PySem.W.nsIn K mainGlobals "are_names" = some (some (.ref f3)))
    (l3 : K.lookup f3 = some ⟨oc3, od3, .func (PySem.W.fnOf "are_names" "are_names" (defArgs s_are_names) (defBody s_are_names) (defScope s_are_names) .none kV3 dc3 pm3 an3 cd3 ct3), sl3⟩)
    (c3 : PySem.W.codeIn K cd3 "are_names" = true)
    (k3 : PySem.W.keepIn K (.ref f3) = true)
    (a4 : PySem.W.nsIn K mainGlobals "are_moves" = some (some (.ref f4)))
    (l4 : K.lookup f4 = some ⟨oc4, od4, .func (PySem.W.fnOf "are_moves" "are_moves" (defArgs s_are_moves) (defBody s_are_moves) (defScope s_are_moves) .none kV4 dc4 pm4 an4 cd4 ct4), sl4⟩)
    (c4 : PySem.W.codeIn K cd4 "are_moves" = true)
    (k4 : PySem.W.keepIn K (.ref f4) = true)
    (a5 : PySem.W.nsIn K mainGlobals "are_begins" = some (some (.ref f5)))
    (l5 : K.lookup f5 = some ⟨oc5, od5, .func (PySem.W.fnOf "are_begins" "are_begins" (defArgs s_are_begins) (defBody s_are_begins) (defScope s_are_begins) .none kV5 dc5 pm5 an5 cd5 ct5), sl5⟩)
    (c5 : PySem.W.codeIn K cd5 "are_begins" = true)
    (k5 : PySem.W.keepIn K (.ref f5) = true)
    (a6 : PySem.W.nsIn K mainGlobals "is_show" = some (some (.ref f6)))
    (l6 : K.lookup f6 = some ⟨oc6, od6, .func (PySem.W.fnOf "is_show" "is_show" (defArgs s_is_show) (defBody s_is_show) (defScope s_is_show) .none kV6 dc6 pm6 an6 cd6 ct6), sl6⟩)
    (c6 : PySem.W.codeIn K cd6 "is_show" = true)
    (k6 : PySem.W.keepIn K (.ref f6) = true)
    (a7 : PySem.W.nsIn K mainGlobals "are_shows" = some (some (.ref f7)))
    (l7 : K.lookup f7 = some ⟨oc7, od7, .func (PySem.W.fnOf "are_shows" "are_shows" (defArgs s_are_shows) (defBody s_are_shows) (defScope s_are_shows) .none kV7 dc7 pm7 an7 cd7 ct7), sl7⟩)
    (c7 : PySem.W.codeIn K cd7 "are_shows" = true)
    (k7 : PySem.W.keepIn K (.ref f7) = true)
    (a8 : PySem.W.findIn K (.ref C_Table) "__init__" = some (some (.ref f8)))
    (i8 : PySem.W.isFn K (.ref f8) = true)
    (l8 : K.lookup f8 = some ⟨oc8, od8, .func (PySem.W.fnOf "__init__" "Table.__init__" (defArgs s_Table_init) (defBody s_Table_init) (defScope s_Table_init) .none kV8 dc8 pm8 an8 cd8 ct8), sl8⟩)
    (c8 : PySem.W.codeIn K cd8 "Table.__init__" = true)
    (k8 : PySem.W.keepIn K (.ref f8) = true)
    (a9 : PySem.W.findIn K (.ref C_Table) "marks_of" = some (some (.ref f9)))
    (i9 : PySem.W.isFn K (.ref f9) = true)
    (l9 : K.lookup f9 = some ⟨oc9, od9, .func (PySem.W.fnOf "marks_of" "Table.marks_of" (defArgs s_Table_marks_of) (defBody s_Table_marks_of) (defScope s_Table_marks_of) .none kV9 dc9 pm9 an9 cd9 ct9), sl9⟩)
    (c9 : PySem.W.codeIn K cd9 "Table.marks_of" = true)
    (k9 : PySem.W.keepIn K (.ref f9) = true)
    (a10 : PySem.W.findIn K (.ref C_Table) "next_of" = some (some (.ref f10)))
    (i10 : PySem.W.isFn K (.ref f10) = true)
    (l10 : K.lookup f10 = some ⟨oc10, od10, .func (PySem.W.fnOf "next_of" "Table.next_of" (defArgs s_Table_next_of) (defBody s_Table_next_of) (defScope s_Table_next_of) .none kV10 dc10 pm10 an10 cd10 ct10), sl10⟩)
    (c10 : PySem.W.codeIn K cd10 "Table.next_of" = true)
    (k10 : PySem.W.keepIn K (.ref f10) = true)
    (a11 : PySem.W.nsIn K mainGlobals "seen_of" = some (some (.ref f11)))
    (l11 : K.lookup f11 = some ⟨oc11, od11, .func (PySem.W.fnOf "seen_of" "seen_of" (defArgs s_seen_of) (defBody s_seen_of) (defScope s_seen_of) .none kV11 dc11 pm11 an11 cd11 ct11), sl11⟩)
    (c11 : PySem.W.codeIn K cd11 "seen_of" = true)
    (k11 : PySem.W.keepIn K (.ref f11) = true)
    (a12 : PySem.W.nsIn K mainGlobals "are_led" = some (some (.ref f12)))
    (l12 : K.lookup f12 = some ⟨oc12, od12, .func (PySem.W.fnOf "are_led" "are_led" (defArgs s_are_led) (defBody s_are_led) (defScope s_are_led) .none kV12 dc12 pm12 an12 cd12 ct12), sl12⟩)
    (c12 : PySem.W.codeIn K cd12 "are_led" = true)
    (k12 : PySem.W.keepIn K (.ref f12) = true)
    (a13 : PySem.W.nsIn K mainGlobals "alike_pairs" = some (some (.ref f13)))
    (l13 : K.lookup f13 = some ⟨oc13, od13, .func (PySem.W.fnOf "alike_pairs" "alike_pairs" (defArgs s_alike_pairs) (defBody s_alike_pairs) (defScope s_alike_pairs) .none kV13 dc13 pm13 an13 cd13 ct13), sl13⟩)
    (c13 : PySem.W.codeIn K cd13 "alike_pairs" = true)
    (k13 : PySem.W.keepIn K (.ref f13) = true)
    (a14 : PySem.W.nsIn K mainGlobals "follows" = some (some (.ref f14)))
    (l14 : K.lookup f14 = some ⟨oc14, od14, .func (PySem.W.fnOf "follows" "follows" (defArgs s_follows) (defBody s_follows) (defScope s_follows) .none kV14 dc14 pm14 an14 cd14 ct14), sl14⟩)
    (c14 : PySem.W.codeIn K cd14 "follows" = true)
    (k14 : PySem.W.keepIn K (.ref f14) = true)
    (a15 : PySem.W.nsIn K mainGlobals "_law_cell_at" = some (some (.ref f15)))
    (l15 : K.lookup f15 = some ⟨oc15, od15, .func (PySem.W.fnOf "_law_cell_at" "_law_cell_at" (defArgs s_law_cell_at) (defBody s_law_cell_at) (defScope s_law_cell_at) .none kV15 dc15 pm15 an15 cd15 ct15), sl15⟩)
    (c15 : PySem.W.codeIn K cd15 "_law_cell_at" = true)
    (k15 : PySem.W.keepIn K (.ref f15) = true)
    (a16 : PySem.W.nsIn K mainGlobals "_law_box" = some (some (.ref f16)))
    (l16 : K.lookup f16 = some ⟨oc16, od16, .func (PySem.W.fnOf "_law_box" "_law_box" (defArgs s_law_box) (defBody s_law_box) (defScope s_law_box) .none kV16 dc16 pm16 an16 cd16 ct16), sl16⟩)
    (c16 : PySem.W.codeIn K cd16 "_law_box" = true)
    (k16 : PySem.W.keepIn K (.ref f16) = true)
    (a17 : PySem.W.nsIn K mainGlobals "_law_take" = some (some (.ref f17)))
    (l17 : K.lookup f17 = some ⟨oc17, od17, .func (PySem.W.fnOf "_law_take" "_law_take" (defArgs s_law_take) (defBody s_law_take) (defScope s_law_take) .none kV17 dc17 pm17 an17 cd17 ct17), sl17⟩)
    (c17 : PySem.W.codeIn K cd17 "_law_take" = true)
    (k17 : PySem.W.keepIn K (.ref f17) = true)
    (a18 : PySem.W.nsIn K mainGlobals "_law_same" = some (some (.ref f18)))
    (l18 : K.lookup f18 = some ⟨oc18, od18, .func (PySem.W.fnOf "_law_same" "_law_same" (defArgs s_law_same) (defBody s_law_same) (defScope s_law_same) .none kV18 dc18 pm18 an18 cd18 ct18), sl18⟩)
    (c18 : PySem.W.codeIn K cd18 "_law_same" = true)
    (k18 : PySem.W.keepIn K (.ref f18) = true)
    (a19 : PySem.W.nsIn K mainGlobals "_law_of" = some (some (.ref f19)))
    (l19 : K.lookup f19 = some ⟨oc19, od19, .func (PySem.W.fnOf "_law_of" "_law_of" (defArgs s_law_of) (defBody s_law_of) (defScope s_law_of) .none kV19 dc19 pm19 an19 cd19 ct19), sl19⟩)
    (c19 : PySem.W.codeIn K cd19 "_law_of" = true)
    (k19 : PySem.W.keepIn K (.ref f19) = true)
    (a20 : PySem.W.nsIn K mainGlobals "_law_names" = some (some (.ref f20)))
    (l20 : K.lookup f20 = some ⟨oc20, od20, .func (PySem.W.fnOf "_law_names" "_law_names" (defArgs s_law_names) (defBody s_law_names) (defScope s_law_names) .none kV20 dc20 pm20 an20 cd20 ct20), sl20⟩)
    (c20 : PySem.W.codeIn K cd20 "_law_names" = true)
    (k20 : PySem.W.keepIn K (.ref f20) = true)
    (a21 : PySem.W.nsIn K mainGlobals "_law_table" = some (some (.ref f21)))
    (l21 : K.lookup f21 = some ⟨oc21, od21, .func (PySem.W.fnOf "_law_table" "_law_table" (defArgs s_law_table) (defBody s_law_table) (defScope s_law_table) .none kV21 dc21 pm21 an21 cd21 ct21), sl21⟩)
    (c21 : PySem.W.codeIn K cd21 "_law_table" = true)
    (k21 : PySem.W.keepIn K (.ref f21) = true)
    (a22 : PySem.W.nsIn K mainGlobals "_law_made" = some (some (.ref f22)))
    (l22 : K.lookup f22 = some ⟨oc22, od22, .func (PySem.W.fnOf "_law_made" "_law_made" (defArgs s_law_made) (defBody s_law_made) (defScope s_law_made) .none kV22 dc22 pm22 an22 cd22 ct22), sl22⟩)
    (c22 : PySem.W.codeIn K cd22 "_law_made" = true)
    (k22 : PySem.W.keepIn K (.ref f22) = true)
    (a23 : PySem.W.nsIn K mainGlobals "_law_nexts" = some (some (.ref f23)))
    (l23 : K.lookup f23 = some ⟨oc23, od23, .func (PySem.W.fnOf "_law_nexts" "_law_nexts" (defArgs s_law_nexts) (defBody s_law_nexts) (defScope s_law_nexts) .none kV23 dc23 pm23 an23 cd23 ct23), sl23⟩)
    (c23 : PySem.W.codeIn K cd23 "_law_nexts" = true)
    (k23 : PySem.W.keepIn K (.ref f23) = true)
    (a24 : PySem.W.nsIn K mainGlobals "_law_seen" = some (some (.ref f24)))
    (l24 : K.lookup f24 = some ⟨oc24, od24, .func (PySem.W.fnOf "_law_seen" "_law_seen" (defArgs s_law_seen) (defBody s_law_seen) (defScope s_law_seen) .none kV24 dc24 pm24 an24 cd24 ct24), sl24⟩)
    (c24 : PySem.W.codeIn K cd24 "_law_seen" = true)
    (k24 : PySem.W.keepIn K (.ref f24) = true)
    (a25 : PySem.W.nsIn K mainGlobals "_law_pairs" = some (some (.ref f25)))
    (l25 : K.lookup f25 = some ⟨oc25, od25, .func (PySem.W.fnOf "_law_pairs" "_law_pairs" (defArgs s_law_pairs) (defBody s_law_pairs) (defScope s_law_pairs) .none kV25 dc25 pm25 an25 cd25 ct25), sl25⟩)
    (c25 : PySem.W.codeIn K cd25 "_law_pairs" = true)
    (k25 : PySem.W.keepIn K (.ref f25) = true)
    (a26 : PySem.W.nsIn K mainGlobals "_law_led" = some (some (.ref f26)))
    (l26 : K.lookup f26 = some ⟨oc26, od26, .func (PySem.W.fnOf "_law_led" "_law_led" (defArgs s_law_led) (defBody s_law_led) (defScope s_law_led) .none kV26 dc26 pm26 an26 cd26 ct26), sl26⟩)
    (c26 : PySem.W.codeIn K cd26 "_law_led" = true)
    (k26 : PySem.W.keepIn K (.ref f26) = true)
    (a27 : PySem.W.nsIn K mainGlobals "_law_some" = some (some (.ref f27)))
    (l27 : K.lookup f27 = some ⟨oc27, od27, .func (PySem.W.fnOf "_law_some" "_law_some" (defArgs s_law_some) (defBody s_law_some) (defScope s_law_some) .none kV27 dc27 pm27 an27 cd27 ct27), sl27⟩)
    (c27 : PySem.W.codeIn K cd27 "_law_some" = true)
    (k27 : PySem.W.keepIn K (.ref f27) = true)
    (a28 : PySem.W.nsIn K mainGlobals "_law_right" = some (some (.ref f28)))
    (l28 : K.lookup f28 = some ⟨oc28, od28, .func (PySem.W.fnOf "_law_right" "_law_right" (defArgs s_law_right) (defBody s_law_right) (defScope s_law_right) .none kV28 dc28 pm28 an28 cd28 ct28), sl28⟩)
    (c28 : PySem.W.codeIn K cd28 "_law_right" = true)
    (k28 : PySem.W.keepIn K (.ref f28) = true)
    (a29 : PySem.W.nsIn K mainGlobals "law" = some (some (.ref f29)))
    (l29 : K.lookup f29 = some ⟨oc29, od29, .func (PySem.W.fnOf "law" "law" (defArgs s_law) (defBody s_law) (defScope s_law) .none kV29 dc29 pm29 an29 cd29 ct29), sl29⟩)
    (c29 : PySem.W.codeIn K cd29 "law" = true)
    (k29 : PySem.W.keepIn K (.ref f29) = true)
    (v0 : PySem.W.nsIn K mainGlobals "LETTERS" = some (some (.str "abcdefghijklmnopqrstuvwxyz" t0)))
    (v1 : PySem.W.nsIn K mainGlobals "MOST_LETTERS" = some (some (.int 8 t1)))
    (v2 : PySem.W.nsIn K mainGlobals "MOST_STATES" = some (some (.int 8 t2)))
    (v3 : PySem.W.nsIn K mainGlobals "MOST_MOVES" = some (some (.int 24 t3)))
    (v4 : PySem.W.nsIn K mainGlobals "MOST_MARKS" = some (some (.int 4 t4)))
    (z_abs : PySem.W.nsIn K mainGlobals "abs" = some none)
    (z_all : PySem.W.nsIn K mainGlobals "all" = some none)
    (z_any : PySem.W.nsIn K mainGlobals "any" = some none)
    (z_bool : PySem.W.nsIn K mainGlobals "bool" = some none)
    (z_int : PySem.W.nsIn K mainGlobals "int" = some none)
    (z_isinstance : PySem.W.nsIn K mainGlobals "isinstance" = some none)
    (z_len : PySem.W.nsIn K mainGlobals "len" = some none)
    (z_list : PySem.W.nsIn K mainGlobals "list" = some none)
    (z_max : PySem.W.nsIn K mainGlobals "max" = some none)
    (z_min : PySem.W.nsIn K mainGlobals "min" = some none)
    (z_range : PySem.W.nsIn K mainGlobals "range" = some none)
    (z_set : PySem.W.nsIn K mainGlobals "set" = some none)
    (z_sorted : PySem.W.nsIn K mainGlobals "sorted" = some none)
    (z_str : PySem.W.nsIn K mainGlobals "str" = some none)
    (z_tuple : PySem.W.nsIn K mainGlobals "tuple" = some none)
    (z_zip : PySem.W.nsIn K mainGlobals "zip" = some none) : Tx K mg C_Table where
  cls_Table := ⟨pg_Table, hd_Table, po_Table, sa_Table⟩
  g_Table := PySem.W.mg_of X G aC_Table
  n_Table_states := n_Table_states
  n_Table_moves := n_Table_moves
  n_Table_begins := n_Table_begins
  n_Table_shows := n_Table_shows
  d_is_name := ⟨f0, _, PySem.W.mg_of X G a0, fun_mk (st := s_is_name) l0 c0 k0, (fun_mk (st := s_is_name) l0 c0 k0).binds fun _ _ _ _ _ _ us hl => match us, hl with | [_], _ => rfl⟩
  d_is_tuple_of := ⟨f1, _, PySem.W.mg_of X G a1, fun_mk (st := s_is_tuple_of) l1 c1 k1, (fun_mk (st := s_is_tuple_of) l1 c1 k1).binds fun _ _ _ _ _ _ us hl => match us, hl with | [_, _], _ => rfl⟩
  d_rises := ⟨f2, _, PySem.W.mg_of X G a2, fun_mk (st := s_rises) l2 c2 k2, (fun_mk (st := s_rises) l2 c2 k2).binds fun _ _ _ _ _ _ us hl => match us, hl with | [_], _ => rfl⟩
  d_are_names := ⟨f3, _, PySem.W.mg_of X G a3, fun_mk (st := s_are_names) l3 c3 k3, (fun_mk (st := s_are_names) l3 c3 k3).binds fun _ _ _ _ _ _ us hl => match us, hl with | [_, _, _], _ => rfl⟩
  d_are_moves := ⟨f4, _, PySem.W.mg_of X G a4, fun_mk (st := s_are_moves) l4 c4 k4, (fun_mk (st := s_are_moves) l4 c4 k4).binds fun _ _ _ _ _ _ us hl => match us, hl with | [_, _], _ => rfl⟩
  d_are_begins := ⟨f5, _, PySem.W.mg_of X G a5, fun_mk (st := s_are_begins) l5 c5 k5, (fun_mk (st := s_are_begins) l5 c5 k5).binds fun _ _ _ _ _ _ us hl => match us, hl with | [_, _], _ => rfl⟩
  d_is_show := ⟨f6, _, PySem.W.mg_of X G a6, fun_mk (st := s_is_show) l6 c6 k6, (fun_mk (st := s_is_show) l6 c6 k6).binds fun _ _ _ _ _ _ us hl => match us, hl with | [_, _], _ => rfl⟩
  d_are_shows := ⟨f7, _, PySem.W.mg_of X G a7, fun_mk (st := s_are_shows) l7 c7 k7, (fun_mk (st := s_are_shows) l7 c7 k7).binds fun _ _ _ _ _ _ us hl => match us, hl with | [_, _], _ => rfl⟩
  d_Table_init := ⟨f8, _, ⟨mk_Table, a8, i8, kc_Table⟩, fun_mk (st := s_Table_init) l8 c8 k8⟩
  d_Table_marks_of := ⟨f9, _, ⟨a9, i9, k9⟩, fun_mk (st := s_Table_marks_of) l9 c9 k9, (fun_mk (st := s_Table_marks_of) l9 c9 k9).binds fun _ _ _ _ _ _ us hl => match us, hl with | [_, _], _ => rfl⟩
  d_Table_next_of := ⟨f10, _, ⟨a10, i10, k10⟩, fun_mk (st := s_Table_next_of) l10 c10 k10, (fun_mk (st := s_Table_next_of) l10 c10 k10).binds fun _ _ _ _ _ _ us hl => match us, hl with | [_, _], _ => rfl⟩
  d_seen_of := ⟨f11, _, PySem.W.mg_of X G a11, fun_mk (st := s_seen_of) l11 c11 k11, (fun_mk (st := s_seen_of) l11 c11 k11).binds fun _ _ _ _ _ _ us hl => match us, hl with | [_, _, _], _ => rfl⟩
  d_are_led := ⟨f12, _, PySem.W.mg_of X G a12, fun_mk (st := s_are_led) l12 c12 k12, (fun_mk (st := s_are_led) l12 c12 k12).binds fun _ _ _ _ _ _ us hl => match us, hl with | [_, _, _], _ => rfl⟩
  d_alike_pairs := ⟨f13, _, PySem.W.mg_of X G a13, fun_mk (st := s_alike_pairs) l13 c13 k13, (fun_mk (st := s_alike_pairs) l13 c13 k13).binds fun _ _ _ _ _ _ us hl => match us, hl with | [_, _], _ => rfl⟩
  d_follows := ⟨f14, _, PySem.W.mg_of X G a14, fun_mk (st := s_follows) l14 c14 k14, (fun_mk (st := s_follows) l14 c14 k14).binds fun _ _ _ _ _ _ us hl => match us, hl with | [_, _], _ => rfl⟩
  d_law_cell_at := ⟨f15, _, PySem.W.mg_of X G a15, fun_mk (st := s_law_cell_at) l15 c15 k15, (fun_mk (st := s_law_cell_at) l15 c15 k15).binds fun _ _ _ _ _ _ us hl => match us, hl with | [_, _], _ => rfl⟩
  d_law_box := ⟨f16, _, PySem.W.mg_of X G a16, fun_mk (st := s_law_box) l16 c16 k16, (fun_mk (st := s_law_box) l16 c16 k16).binds fun _ _ _ _ _ _ us hl => match us, hl with | [_, _], _ => rfl⟩
  d_law_take := ⟨f17, _, PySem.W.mg_of X G a17, fun_mk (st := s_law_take) l17 c17 k17, (fun_mk (st := s_law_take) l17 c17 k17).binds fun _ _ _ _ _ _ us hl => match us, hl with | [_, _], _ => rfl⟩
  d_law_same := ⟨f18, _, PySem.W.mg_of X G a18, fun_mk (st := s_law_same) l18 c18 k18, (fun_mk (st := s_law_same) l18 c18 k18).binds fun _ _ _ _ _ _ us hl => match us, hl with | [_, _], _ => rfl⟩
  d_law_of := ⟨f19, _, PySem.W.mg_of X G a19, fun_mk (st := s_law_of) l19 c19 k19, (fun_mk (st := s_law_of) l19 c19 k19).binds fun _ _ _ _ _ _ us hl => match us, hl with | [_, _], _ => rfl⟩
  d_law_names := ⟨f20, _, PySem.W.mg_of X G a20, fun_mk (st := s_law_names) l20 c20 k20, (fun_mk (st := s_law_names) l20 c20 k20).binds fun _ _ _ _ _ _ us hl => match us, hl with | [_, _], _ => rfl⟩
  d_law_table := ⟨f21, _, PySem.W.mg_of X G a21, fun_mk (st := s_law_table) l21 c21 k21, (fun_mk (st := s_law_table) l21 c21 k21).binds fun _ _ _ _ _ _ us hl => match us, hl with | [_, _, _], _ => rfl⟩
  d_law_made := ⟨f22, _, PySem.W.mg_of X G a22, fun_mk (st := s_law_made) l22 c22 k22, (fun_mk (st := s_law_made) l22 c22 k22).binds fun _ _ _ _ _ _ us hl => match us, hl with | [_], _ => rfl⟩
  d_law_nexts := ⟨f23, _, PySem.W.mg_of X G a23, fun_mk (st := s_law_nexts) l23 c23 k23, (fun_mk (st := s_law_nexts) l23 c23 k23).binds fun _ _ _ _ _ _ us hl => match us, hl with | [_, _], _ => rfl⟩
  d_law_seen := ⟨f24, _, PySem.W.mg_of X G a24, fun_mk (st := s_law_seen) l24 c24 k24, (fun_mk (st := s_law_seen) l24 c24 k24).binds fun _ _ _ _ _ _ us hl => match us, hl with | [_, _, _], _ => rfl⟩
  d_law_pairs := ⟨f25, _, PySem.W.mg_of X G a25, fun_mk (st := s_law_pairs) l25 c25 k25, (fun_mk (st := s_law_pairs) l25 c25 k25).binds fun _ _ _ _ _ _ us hl => match us, hl with | [_, _, _], _ => rfl⟩
  d_law_led := ⟨f26, _, PySem.W.mg_of X G a26, fun_mk (st := s_law_led) l26 c26 k26, (fun_mk (st := s_law_led) l26 c26 k26).binds fun _ _ _ _ _ _ us hl => match us, hl with | [_, _, _, _], _ => rfl⟩
  d_law_some := ⟨f27, _, PySem.W.mg_of X G a27, fun_mk (st := s_law_some) l27 c27 k27, (fun_mk (st := s_law_some) l27 c27 k27).binds fun _ _ _ _ _ _ us hl => match us, hl with | [_, _], _ => rfl⟩
  d_law_right := ⟨f28, _, PySem.W.mg_of X G a28, fun_mk (st := s_law_right) l28 c28 k28, (fun_mk (st := s_law_right) l28 c28 k28).binds fun _ _ _ _ _ _ us hl => match us, hl with | [_], _ => rfl⟩
  d_law := ⟨f29, _, PySem.W.mg_of X G a29, fun_mk (st := s_law) l29 c29 k29, (fun_mk (st := s_law) l29 c29 k29).binds fun _ _ _ _ _ _ us hl => match us, hl with | [_], _ => rfl⟩
  c_LETTERS := gc_str (PySem.W.mg_of X G v0)
  c_MOST_LETTERS := gc_int (PySem.W.mg_of X G v1)
  c_MOST_STATES := gc_int (PySem.W.mg_of X G v2)
  c_MOST_MOVES := gc_int (PySem.W.mg_of X G v3)
  c_MOST_MARKS := gc_int (PySem.W.mg_of X G v4)
  z_abs := PySem.W.mg_none_of X G z_abs
  z_all := PySem.W.mg_none_of X G z_all
  z_any := PySem.W.mg_none_of X G z_any
  z_bool := PySem.W.mg_none_of X G z_bool
  z_int := PySem.W.mg_none_of X G z_int
  z_isinstance := PySem.W.mg_none_of X G z_isinstance
  z_len := PySem.W.mg_none_of X G z_len
  z_list := PySem.W.mg_none_of X G z_list
  z_max := PySem.W.mg_none_of X G z_max
  z_min := PySem.W.mg_none_of X G z_min
  z_range := PySem.W.mg_none_of X G z_range
  z_set := PySem.W.mg_none_of X G z_set
  z_sorted := PySem.W.mg_none_of X G z_sorted
  z_str := PySem.W.mg_none_of X G z_str
  z_tuple := PySem.W.mg_none_of X G z_tuple
  z_zip := PySem.W.mg_none_of X G z_zip
theorem law_end {P : Program} {w : World} {K : PySem.W.Frag} {mg : Str → Option Value} {fa : Addr} {C_Table : Addr} (T : Tx K mg C_Table) (h : mg "law" = some (.ref fa)) :
    ∃ fd : FuncData, (∀ (s : Shared) (u : Value), BindsTo s fd ⟨[u], []⟩ [("script", u)]) ∧ ∀ base : Heap, K.In base → base.Ns mainGlobals mg → FnG P w K mg base CX0 60 fa fd ["script"] (spOf K 1 spLaw) := by
  obtain ⟨f, fd, hm, F, hb⟩ := T.d_law
  rw [h] at hm
  cases hm
  refine ⟨fd, fun s u => ?_, fun base hK hN => ?_⟩
  · obtain ⟨oc, od, kV, doc, pm, an, cdv, ct, osl, rfl, _, _⟩ := F.ex
    exact .of_eq rfl
  · obtain ⟨f2, fd2, e, F2, hb2, g⟩ := (ok_law (P := P) (w := w) (base := base) T).ex
    rw [h] at e
    cases e
    obtain ⟨_, _, _, _, _, _, _, _, _, _, q1, _⟩ := F.ex
    obtain ⟨_, _, _, _, _, _, _, _, _, _, q2, _⟩ := F2.ex
    rw [q1] at q2
    cases q2
    exact g
end DL

open PySem PySem.W PyProof.Rows in
set_option maxRecDepth 100000 in
set_option maxHeartbeats 0 in
theorem PySem.Challenge.cw_manyruns_k55_states_that_follow_holds : PySem.Challenge.rw_manyruns_k55_states_that_follow.Holds := by
  w_on; o_law; k_head; (case hw => w_witness2)
  k_fill
  refine DL.lawD (l := PySem.Challenge.rw_manyruns_k55_states_that_follow) (k := 60) (x := "script") rfl rfl ⟨rfl, by decide, by decide⟩ (fun w h Y => PySem.W.kIn_of Y) ?F
  case F =>
    intro w mg fa h KX G hmg
    refine' DL.law_end (DL.all_mk KX G ?aC_Table ?pg_Table ?hd_Table ?po_Table ?sa_Table ?n_Table_states ?n_Table_moves ?n_Table_begins ?n_Table_shows ?mk_Table ?kc_Table ?a0 ?l0 ?c0 ?k0 ?a1 ?l1 ?c1 ?k1 ?a2 ?l2 ?c2 ?k2 ?a3 ?l3 ?c3 ?k3 ?a4 ?l4 ?c4 ?k4 ?a5 ?l5 ?c5 ?k5 ?a6 ?l6 ?c6 ?k6 ?a7 ?l7 ?c7 ?k7 ?a8 ?i8 ?l8 ?c8 ?k8 ?a9 ?i9 ?l9 ?c9 ?k9 ?a10 ?i10 ?l10 ?c10 ?k10 ?a11 ?l11 ?c11 ?k11 ?a12 ?l12 ?c12 ?k12 ?a13 ?l13 ?c13 ?k13 ?a14 ?l14 ?c14 ?k14 ?a15 ?l15 ?c15 ?k15 ?a16 ?l16 ?c16 ?k16 ?a17 ?l17 ?c17 ?k17 ?a18 ?l18 ?c18 ?k18 ?a19 ?l19 ?c19 ?k19 ?a20 ?l20 ?c20 ?k20 ?a21 ?l21 ?c21 ?k21 ?a22 ?l22 ?c22 ?k22 ?a23 ?l23 ?c23 ?k23 ?a24 ?l24 ?c24 ?k24 ?a25 ?l25 ?c25 ?k25 ?a26 ?l26 ?c26 ?k26 ?a27 ?l27 ?c27 ?k27 ?a28 ?l28 ?c28 ?k28 ?a29 ?l29 ?c29 ?k29 ?v0 ?v1 ?v2 ?v3 ?v4 ?z_abs ?z_all ?z_any ?z_bool ?z_int ?z_isinstance ?z_len ?z_list ?z_max ?z_min ?z_range ?z_set ?z_sorted ?z_str ?z_tuple ?z_zip) hmg
    (case aC_Table => k_is)
    (case pg_Table => k_is)
    (case hd_Table => k_is)
    (case po_Table => k_is)
    (case sa_Table => k_is)
    (case n_Table_states => k_is)
    (case n_Table_moves => k_is)
    (case n_Table_begins => k_is)
    (case n_Table_shows => k_is)
    (case mk_Table => k_is)
    (case kc_Table => k_is)
    (case a0 => k_is)
    (case l0 => k_is)
    (case c0 => k_is)
    (case k0 => k_is)
    (case a1 => k_is)
    (case l1 => k_is)
    (case c1 => k_is)
    (case k1 => k_is)
    (case a2 => k_is)
    (case l2 => k_is)
    (case c2 => k_is)
    (case k2 => k_is)
    (case a3 => k_is)
    (case l3 => k_is)
    (case c3 => k_is)
    (case k3 => k_is)
    (case a4 => k_is)
    (case l4 => k_is)
    (case c4 => k_is)
    (case k4 => k_is)
    (case a5 => k_is)
    (case l5 => k_is)
    (case c5 => k_is)
    (case k5 => k_is)
    (case a6 => k_is)
    (case l6 => k_is)
    (case c6 => k_is)
    (case k6 => k_is)
    (case a7 => k_is)
    (case l7 => k_is)
    (case c7 => k_is)
    (case k7 => k_is)
    (case a8 => k_is)
    (case i8 => k_is)
    (case l8 => k_is)
    (case c8 => k_is)
    (case k8 => k_is)
    (case a9 => k_is)
    (case i9 => k_is)
    (case l9 => k_is)
    (case c9 => k_is)
    (case k9 => k_is)
    (case a10 => k_is)
    (case i10 => k_is)
    (case l10 => k_is)
    (case c10 => k_is)
    (case k10 => k_is)
    (case a11 => k_is)
    (case l11 => k_is)
    (case c11 => k_is)
    (case k11 => k_is)
    (case a12 => k_is)
    (case l12 => k_is)
    (case c12 => k_is)
    (case k12 => k_is)
    (case a13 => k_is)
    (case l13 => k_is)
    (case c13 => k_is)
    (case k13 => k_is)
    (case a14 => k_is)
    (case l14 => k_is)
    (case c14 => k_is)
    (case k14 => k_is)
    (case a15 => k_is)
    (case l15 => k_is)
    (case c15 => k_is)
    (case k15 => k_is)
    (case a16 => k_is)
    (case l16 => k_is)
    (case c16 => k_is)
    (case k16 => k_is)
    (case a17 => k_is)
    (case l17 => k_is)
    (case c17 => k_is)
    (case k17 => k_is)
    (case a18 => k_is)
    (case l18 => k_is)
    (case c18 => k_is)
    (case k18 => k_is)
    (case a19 => k_is)
    (case l19 => k_is)
    (case c19 => k_is)
    (case k19 => k_is)
    (case a20 => k_is)
    (case l20 => k_is)
    (case c20 => k_is)
    (case k20 => k_is)
    (case a21 => k_is)
    (case l21 => k_is)
    (case c21 => k_is)
    (case k21 => k_is)
    (case a22 => k_is)
    (case l22 => k_is)
    (case c22 => k_is)
    (case k22 => k_is)
    (case a23 => k_is)
    (case l23 => k_is)
    (case c23 => k_is)
    (case k23 => k_is)
    (case a24 => k_is)
    (case l24 => k_is)
    (case c24 => k_is)
    (case k24 => k_is)
    (case a25 => k_is)
    (case l25 => k_is)
    (case c25 => k_is)
    (case k25 => k_is)
    (case a26 => k_is)
    (case l26 => k_is)
    (case c26 => k_is)
    (case k26 => k_is)
    (case a27 => k_is)
    (case l27 => k_is)
    (case c27 => k_is)
    (case k27 => k_is)
    (case a28 => k_is)
    (case l28 => k_is)
    (case c28 => k_is)
    (case k28 => k_is)
    (case a29 => k_is)
    (case l29 => k_is)
    (case c29 => k_is)
    (case k29 => k_is)
    (case v0 => k_is)
    (case v1 => k_is)
    (case v2 => k_is)
    (case v3 => k_is)
    (case v4 => k_is)
    (case z_abs => k_is)
    (case z_all => k_is)
    (case z_any => k_is)
    (case z_bool => k_is)
    (case z_int => k_is)
    (case z_isinstance => k_is)
    (case z_len => k_is)
    (case z_list => k_is)
    (case z_max => k_is)
    (case z_min => k_is)
    (case z_range => k_is)
    (case z_set => k_is)
    (case z_sorted => k_is)
    (case z_str => k_is)
    (case z_tuple => k_is)
    (case z_zip => k_is)

