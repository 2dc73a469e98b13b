import PyProof.Rows.All
import Wide.All
import OpenK.AllK
import Wide.FinOn
import HandS.ForMost
import HandS.Lambda
import HandS.Walk
import HandS.Flow
import HandS.Zip
import HandS.IsInst
import HandS.Style
import HandS.TupAny
import HandS.Wide
import HandS.SortInts
import KE.SortData
import KE.SortKeyHeap
import HandS.SortKw
import HandS.SetFor
import HandS.Set
import HandS.Strs
import HandS.More
import PySem.Challenge.RW_mashrunnings_k43_whole_eight_vessels
import Lean
import KE.KStateDown
import HandS.Base
import HandS.Call
import HandS.Ends
import HandS.Words
import HandS.Defaults
import HandS.Head0
import HandS.Head1
import HandS.Head2
import HandS.HeadEnd
import HandS.HeadHook1
import HandS.HeadHook2
import HandS.HeadHook3
import HandS.HeadHook4
import HandS.HeadWalk
set_option Elab.async false
set_option linter.all false
set_option maxRecDepth 100000
set_option maxHeartbeats 4000000
/-! K1: data, memory, the state's assertion, the judgements. -/
namespace K43
open PySem PySem.Spec PyProof.Rows L2
abbrev St := L2.St
theorem set_same {α : Type} : ∀ {l : List α} {j : Nat} {x : α}, l[j]? = some x → l.set j x = l
  | [], j, x, h => rfl
  | y :: l, 0, x, h => by simp at h; subst h; rfl
  | y :: l, j + 1, x, h => by rw [List.set_cons_succ, set_same (l := l) (j := j) (by simpa using h)]

/-- what a value is worth: data, without the heap -/
inductive D where
  | non | bl (b : Bool) | int (i : Int) | str (x : Str) | lst (ds : List D) | tup (ds : List D) | dic (ks : List Str) (ds : List D) | scr (ns : List Int)

mutual
inductive R (K : PySem.W.Frag) (G : Hp) : D → V → Prop
  | non : R K G .non .non
  | bl (b : Bool) : R K G (.bl b) (.bl b)
  | int (i : Int) : R K G (.int i) (.int i)
  | str (x : Str) : R K G (.str x) (.str x)
  | lst {a : Addr} {vs : List V} {ds : List D} : G a = some (.lst vs) → RAll K G ds vs → R K G (.lst ds) (.ref a)
  | scr {a : Addr} {ns : List Int} : SqL K G a (ns.map V.int) → R K G (.scr ns) (.ref a)
  | tup {a : Addr} {vs : List V} {ds : List D} : G a = some (.tup vs) → RAll K G ds vs → R K G (.tup ds) (.ref a)
  | dic {a : Addr} {ps : List (Key × V)} {ks : List Str} {ds : List D} : G a = some (.dK ps) → ps.map Prod.fst = ks.map Sum.inr → RAll K G ds (ps.map Prod.snd) → R K G (.dic ks ds) (.ref a)
inductive RAll (K : PySem.W.Frag) (G : Hp) : List D → List V → Prop
  | nil : RAll K G [] []
  | cons {d : D} {ds : List D} {v : V} {vs : List V} : R K G d v → RAll K G ds vs → RAll K G (d :: ds) (v :: vs)
end

def Ex (H H' : Hp) : Prop := ∀ a o, H a = some o → H' a = some o
theorem Ex.refl (H : Hp) : Ex H H := fun _ _ h => h
theorem Ex.trans {H H1 H2 : Hp} (a : Ex H H1) (b : Ex H1 H2) : Ex H H2 := fun x o h => b x o (a x o h)
theorem Ex.new {H : Hp} {p : Addr} {o : HO} (h : H p = none) : Ex H (upd H p o) := fun a u e => by
  rw [upd_ne (ne_of_none e h)]
  exact e
theorem Ex.rd {H H' : Hp} {a : Addr} {u : HO} (e : Ex H H') (h : Rd H a u) : Rd H' a u := by
  rcases h with h | ⟨o, h⟩
  · exact Or.inl (e a _ h)
  · exact Or.inr ⟨o, e a _ h⟩
theorem Ex.l {K : PySem.W.Frag} {H H' : Hp} {a : Addr} {xs : List V} (e : Ex H H') (h : SqL K H a xs) : SqL K H' a xs := by
  rcases h with h | h
  · exact Or.inl (e.rd h)
  · exact Or.inr h
theorem Ex.t {K : PySem.W.Frag} {H H' : Hp} {a : Addr} {xs : List V} (e : Ex H H') (h : SqT K H a xs) : SqT K H' a xs := by
  rcases h with h | h
  · exact Or.inl (e.rd h)
  · exact Or.inr h
mutual
theorem R.ex {K : PySem.W.Frag} {G G' : Hp} (e : Ex G G') : ∀ (d : D) (v : V), R K G d v → R K G' d v
  | .non, _, h => by cases h; exact .non
  | .bl b, _, h => by cases h; exact .bl b
  | .int i, _, h => by cases h; exact .int i
  | .str x, _, h => by cases h; exact .str x
  | .lst ds, _, h => by
    cases h with
    | lst h1 h2 => exact .lst (e _ _ h1) (RAll.ex e ds _ h2)
  | .scr ns, _, h => by
    cases h with
    | scr h1 => exact .scr (e.l h1)
  | .tup ds, _, h => by
    cases h with
    | tup h1 h2 => exact .tup (e _ _ h1) (RAll.ex e ds _ h2)
  | .dic ks ds, _, h => by
    cases h with
    | dic h1 h2 h3 => exact .dic (e _ _ h1) h2 (RAll.ex e ds _ h3)
theorem RAll.ex {K : PySem.W.Frag} {G G' : Hp} (e : Ex G G') : ∀ (ds : List D) (vs : List V), RAll K G ds vs → RAll K G' ds vs
  | [], _, h => by cases h; exact .nil
  | d :: ds, _, h => by
    cases h with
    | cons h1 h2 => exact .cons (R.ex e d _ h1) (RAll.ex e ds _ h2)
end
section
variable {K : PySem.W.Frag} {G : Hp}
theorem RAll.length : ∀ {ds : List D} {vs : List V}, RAll K G ds vs → ds.length = vs.length
  | [], _, h => by cases h; rfl
  | d :: ds, _, h => by
    cases h with
    | cons h1 h2 => rw [List.length_cons, List.length_cons, h2.length]
theorem RAll.get : ∀ {ds : List D} {vs : List V} {i : Nat} {d : D}, RAll K G ds vs → ds[i]? = some d → ∃ v, vs[i]? = some v ∧ R K G d v
  | [], _, i, d, h, e => by simp at e
  | d0 :: ds, _, 0, d, h, e => by
    cases h with
    | cons h1 h2 => simp at e; subst e; exact ⟨_, rfl, h1⟩
  | d0 :: ds, _, i + 1, d, h, e => by
    cases h with
    | cons h1 h2 =>
      obtain ⟨v, e1, r⟩ := RAll.get (i := i) (d := d) h2 (by simpa using e)
      exact ⟨v, by simpa using e1, r⟩
theorem RAll.getV : ∀ {ds : List D} {vs : List V} {i : Nat} {v : V}, RAll K G ds vs → vs[i]? = some v → ∃ d, ds[i]? = some d ∧ R K G d v
  | [], _, i, d, h, e => by cases h; simp at e
  | d0 :: ds, _, 0, d, h, e => by
    cases h with
    | cons h1 h2 => simp at e; subst e; exact ⟨_, rfl, h1⟩
  | d0 :: ds, _, i + 1, d, h, e => by
    cases h with
    | cons h1 h2 =>
      obtain ⟨v, e1, r⟩ := RAll.getV (i := i) (v := d) h2 (by simpa using e)
      exact ⟨v, by simpa using e1, r⟩
theorem RAll.append : ∀ {ds es : List D} {vs us : List V}, RAll K G ds vs → RAll K G es us → RAll K G (ds ++ es) (vs ++ us)
  | [], _, _, _, h, q => by cases h; exact q
  | d :: ds, _, _, _, h, q => by
    cases h with
    | cons h1 h2 => exact .cons h1 (RAll.append h2 q)
theorem RAll.take : ∀ {ds : List D} {vs : List V} (n : Nat), RAll K G ds vs → RAll K G (ds.take n) (vs.take n)
  | _, _, 0, _ => by simp; exact .nil
  | [], _, _ + 1, h => by cases h; exact .nil
  | d :: ds, _, n + 1, h => by
    cases h with
    | cons h1 h2 => exact .cons h1 (RAll.take n h2)
theorem RAll.drop : ∀ {ds : List D} {vs : List V} (n : Nat), RAll K G ds vs → RAll K G (ds.drop n) (vs.drop n)
  | _, _, 0, h => by simpa using h
  | [], _, _ + 1, h => by cases h; exact .nil
  | d :: ds, _, n + 1, h => by
    cases h with
    | cons h1 h2 => exact RAll.drop n h2
theorem RAll.set : ∀ {ds : List D} {vs : List V} {d : D} {v : V} (n : Nat), R K G d v → RAll K G ds vs → RAll K G (ds.set n d) (vs.set n v)
  | [], _, _, _, _, _, h => by cases h; exact .nil
  | d :: ds, _, _, _, 0, q, h => by
    cases h with
    | cons h1 h2 => exact .cons q h2
  | d :: ds, _, _, _, n + 1, q, h => by
    cases h with
    | cons h1 h2 => exact .cons h1 (RAll.set n q h2)
theorem RAll.reverse : ∀ {ds : List D} {vs : List V}, RAll K G ds vs → RAll K G ds.reverse vs.reverse
  | [], _, h => by cases h; exact .nil
  | d :: ds, _, h => by
    cases h with
    | cons h1 h2 =>
      rw [List.reverse_cons, List.reverse_cons]
      exact RAll.append (RAll.reverse h2) (.cons h1 .nil)
theorem RAll.ints : ∀ {ns : List Int} {vs : List V}, RAll K G (ns.map D.int) vs → vs = ns.map V.int
  | [], _, h => by cases h; rfl
  | n :: ns, _, h => by
    cases h with
    | cons h1 h2 => cases h1; rw [RAll.ints h2]; rfl
theorem RAll.of_ints : ∀ (ns : List Int), RAll K G (ns.map D.int) (ns.map V.int)
  | [] => .nil
  | n :: ns => .cons (.int n) (RAll.of_ints ns)
theorem RAll.strs : ∀ {ns : List Str} {vs : List V}, RAll K G (ns.map D.str) vs → vs = ns.map V.str
  | [], _, h => by cases h; rfl
  | n :: ns, _, h => by
    cases h with
    | cons h1 h2 => cases h1; rw [RAll.strs h2]; rfl
theorem RAll.of_strs : ∀ (ns : List Str), RAll K G (ns.map D.str) (ns.map V.str)
  | [] => .nil
  | n :: ns => .cons (.str n) (RAll.of_strs ns)
theorem RAll.bls : ∀ {ns : List Bool} {vs : List V}, RAll K G (ns.map D.bl) vs → vs = ns.map V.bl
  | [], _, h => by cases h; rfl
  | n :: ns, _, h => by
    cases h with
    | cons h1 h2 => cases h1; rw [RAll.bls h2]; rfl
end

/-! ### abstract values, memory -/
inductive AV where
  | un | dat (d : D) | val (v : V)
def RV (K : PySem.W.Frag) (G : Hp) : AV → V → Prop
  | .un, _ => True
  | .dat d, v => R K G d v
  | .val u, v => v = u
def RO (K : PySem.W.Frag) (G : Hp) : AV → Option V → Prop
  | .un, _ => True
  | .dat d, o => ∃ v, o = some v ∧ R K G d v
  | .val u, o => o = some u
def RVs (K : PySem.W.Frag) (G : Hp) : List AV → List V → Prop
  | [], [] => True
  | a :: as, v :: vs => RV K G a v ∧ RVs K G as vs
  | _, _ => False
def ROs (K : PySem.W.Frag) (G : Hp) : List AV → St → Prop
  | [], [] => True
  | a :: as, v :: vs => RO K G a v ∧ ROs K G as vs
  | _, _ => False
abbrev Mem := List (Addr × D)
def RM (K : PySem.W.Frag) (G : Hp) : D → HO → Prop
  | .lst ds, .lst vs => RAll K G ds vs
  | .dic ks ds, .dK ps => ps.map Prod.fst = ks.map Sum.inr ∧ RAll K G ds (ps.map Prod.snd)
  | _, _ => False
section
variable {K : PySem.W.Frag} {G G' : Hp}
theorem RV.ex (e : Ex G G') : ∀ {a : AV} {v : V}, RV K G a v → RV K G' a v
  | .un, _, _ => True.intro
  | .dat d, v, h => R.ex e d v h
  | .val u, _, h => h
theorem RO.ex (e : Ex G G') : ∀ {a : AV} {v : Option V}, RO K G a v → RO K G' a v
  | .un, _, _ => True.intro
  | .dat d, _, ⟨v, h1, h2⟩ => ⟨v, h1, R.ex e d v h2⟩
  | .val u, _, h => h
theorem RVs.ex (e : Ex G G') : ∀ {as : List AV} {vs : List V}, RVs K G as vs → RVs K G' as vs
  | [], [], _ => True.intro
  | _ :: _, _ :: _, ⟨h1, h2⟩ => ⟨h1.ex e, RVs.ex e h2⟩
  | [], _ :: _, h => h.elim
  | _ :: _, [], h => h.elim
theorem ROs.ex (e : Ex G G') : ∀ {as : List AV} {vs : St}, ROs K G as vs → ROs K G' as vs
  | [], [], _ => True.intro
  | _ :: _, _ :: _, ⟨h1, h2⟩ => ⟨h1.ex e, ROs.ex e h2⟩
  | [], _ :: _, h => h.elim
  | _ :: _, [], h => h.elim
theorem RM.ex (e : Ex G G') : ∀ {d : D} {o : HO}, RM K G d o → RM K G' d o := by
  intro d o h
  cases d <;> cases o <;> first
    | exact h.elim
    | exact RAll.ex e _ _ h
    | exact ⟨h.1, RAll.ex e _ _ h.2⟩
theorem RV.ro {a : AV} {v : V} (h : RV K G a v) : RO K G a (some v) := by
  cases a with
  | un => trivial
  | dat d => exact ⟨v, rfl, h⟩
  | val u => exact congrArg some h
theorem ROs.get : ∀ {as : List AV} {vs : St} {i : Nat} {a : AV}, ROs K G as vs → as[i]? = some a → ∃ o, vs[i]? = some o ∧ RO K G a o
  | [], [], i, a, _, e => by simp at e
  | b :: _, o :: _, 0, a, ⟨h1, h2⟩, e => by simp at e; subst e; exact ⟨_, rfl, h1⟩
  | _ :: _, _ :: _, i + 1, a, ⟨h1, h2⟩, e => by
    obtain ⟨o, e1, r⟩ := ROs.get (i := i) (a := a) h2 (by simpa using e)
    exact ⟨o, by simpa using e1, r⟩
  | [], _ :: _, _, _, h, _ => h.elim
  | _ :: _, [], _, _, h, _ => h.elim
theorem ROs.set : ∀ {as : List AV} {vs : St} (i : Nat) {a : AV} {v : Option V}, RO K G a v → ROs K G as vs → ROs K G (as.set i a) (vs.set i v)
  | [], [], i, a, _, _, _ => True.intro
  | _ :: _, _ :: _, 0, a, _, r, ⟨h1, h2⟩ => ⟨r, h2⟩
  | _ :: _, _ :: _, i + 1, a, _, r, ⟨h1, h2⟩ => ⟨h1, ROs.set i r h2⟩
  | [], _ :: _, _, _, _, _, h => h.elim
  | _ :: _, [], _, _, _, _, h => h.elim
theorem ROs.setA : ∀ {as : List AV} {vs : St} (i : Nat) {a : AV} , (∀ o, vs[i]? = some o → RO K G a o) → ROs K G as vs → ROs K G (as.set i a) vs
  | [], [], i, a, _, _ => True.intro
  | _ :: _, _ :: _, 0, a, r, ⟨h1, h2⟩ => ⟨r _ rfl, h2⟩
  | _ :: _, _ :: _, i + 1, a, r, ⟨h1, h2⟩ => ⟨h1, ROs.setA i (fun o e => r o (by simpa using e)) h2⟩
  | [], _ :: _, _, _, _, h => h.elim
  | _ :: _, [], _, _, _, h => h.elim
theorem ROs.un : ∀ {as : List AV} {vs : St}, ROs K G as vs → ∀ (i : Nat) (v : Option V), ROs K G (as.set i .un) (vs.set i v)
  | _, _, h, i, v => h.set i (v := v) (a := .un) True.intro
theorem RVs.length : ∀ {as : List AV} {vs : List V}, RVs K G as vs → as.length = vs.length
  | [], [], _ => rfl
  | _ :: _, _ :: _, ⟨h1, h2⟩ => by rw [List.length_cons, List.length_cons, h2.length]
  | [], _ :: _, h => h.elim
  | _ :: _, [], h => h.elim
theorem ROs.length : ∀ {as : List AV} {vs : St}, ROs K G as vs → as.length = vs.length
  | [], [], _ => rfl
  | _ :: _, _ :: _, ⟨h1, h2⟩ => by rw [List.length_cons, List.length_cons, h2.length]
  | [], _ :: _, h => h.elim
  | _ :: _, [], h => h.elim
theorem RVs.app : ∀ {as bs : List AV} {vs us : List V}, RVs K G as vs → RVs K G bs us → RVs K G (as ++ bs) (vs ++ us)
  | [], _, [], _, _, h => h
  | _ :: _, _, _ :: _, _, ⟨h1, h2⟩, h => ⟨h1, h2.app h⟩
  | [], _, _ :: _, _, h, _ => h.elim
  | _ :: _, _, [], _, h, _ => h.elim
theorem RVs.split : ∀ {as bs : List AV} {vs us : List V}, as.length = vs.length → RVs K G (as ++ bs) (vs ++ us) → RVs K G as vs ∧ RVs K G bs us
  | [], _, [], _, _, h => ⟨True.intro, h⟩
  | _ :: _, _, _ :: _, _, e, ⟨h1, h2⟩ => by
    obtain ⟨a, b⟩ := RVs.split (by simpa using e) h2
    exact ⟨⟨h1, a⟩, b⟩
  | [], _, _ :: _, _, e, _ => by simp at e
  | _ :: _, _, [], _, e, _ => by simp at e
theorem ROs.start : ∀ {as : List AV} {vs : List V} (n : Nat), RVs K G as vs → ROs K G (as ++ List.replicate n .un) (vs.map some ++ List.replicate n none)
  | [], [], 0, _ => True.intro
  | [], [], n + 1, h => ⟨True.intro, ROs.start (as := []) (vs := []) n True.intro⟩
  | _ :: _, _ :: _, n, ⟨h1, h2⟩ => ⟨h1.ro, ROs.start n h2⟩
  | [], _ :: _, _, h => h.elim
  | _ :: _, [], _, h => h.elim
end

/-! ### the world: data G (it only grows), the frame F and the tables T, the memory -/
abbrev Tb := List (Addr × Str)
structure Wd (K : PySem.W.Frag) (T : Tb) (F : Hp) (μ : Mem) (G H : Hp) : Prop where
  sub : ∀ a o, G a = some o → H a = some o
  fr : ∀ a o, F a = some o → H a = some o ∧ G a = none
  mem : ∀ (j : Nat) a d, μ[j]? = some (a, d) → G a = none ∧ F a = none ∧ ∃ o, H a = some o ∧ RM K G d o
  nd : (μ.map Prod.fst).Nodup
  tab : LamX.Tabs T H
  tabG : ∀ p ∈ T, G p.1 = none ∧ F p.1 = none
  nt : ∀ a ps, G a ≠ some (.tbl ps) ∧ F a ≠ some (.tbl ps)

/-- the frame (what nobody here may touch), the data at the entry -/
structure Zs where
  F : Hp
  G0 : Hp

def SA (K : PySem.W.Frag) (B : Tb) (Z : Zs) (Γ τ : List AV) (μ : Mem) (σ : St) (xs : List V) (H : Hp) : Prop :=
  ∃ G, Ex Z.G0 G ∧ Wd K B Z.F μ G H ∧ ROs K G Γ σ ∧ RVs K G τ xs

section
variable {K : PySem.W.Frag} {T : Tb} {F G G' H H' : Hp} {μ : Mem} {p a : Addr} {o : HO} {d : D}
theorem tabs_upd {H : Hp} {a : Addr} {o : HO} (h : LamX.Tabs T H) (ht : ∀ ps, H a ≠ some (.tbl ps)) (hc : ∀ c q, H a ≠ some (LamX.CodeO c q)) : LamX.Tabs T (upd H a o) := fun p hp => by
  obtain ⟨ps, h1, h2, h3⟩ := h p hp
  refine ⟨ps, ?_, h2, fun pos cv e => ?_⟩
  · rw [upd_ne]
    · exact h1
    · intro z
      rw [z] at h1
      exact ht _ h1
  · obtain ⟨c, e1, e2⟩ := h3 pos cv e
    refine ⟨c, e1, ?_⟩
    rw [upd_ne]
    · exact e2
    · intro z
      rw [← z] at hc
      exact hc _ _ e2
theorem tabs_new {H : Hp} {a : Addr} {o : HO} (h : LamX.Tabs T H) (hn : H a = none) : LamX.Tabs T (upd H a o) :=
  tabs_upd h (fun ps e => by rw [hn] at e; cases e) (fun c q e => by rw [hn] at e; cases e)
theorem Wd.nog (w : Wd K T F μ G H) (hp : H p = none) : G p = none := by
  cases e : G p with
  | none => rfl
  | some o => rw [w.sub _ _ e] at hp; cases hp
theorem Wd.nof (w : Wd K T F μ G H) (hp : H p = none) : F p = none := by
  cases e : F p with
  | none => rfl
  | some o => rw [(w.fr _ _ e).1] at hp; cases hp
theorem Wd.notin (w : Wd K T F μ G H) (hp : H p = none) : p ∉ μ.map Prod.fst := fun hm => by
  obtain ⟨⟨a, d⟩, h1, h2⟩ := List.mem_map.mp hm
  obtain ⟨j, hj⟩ := List.mem_iff_getElem?.mp h1
  obtain ⟨_, _, o, ho, _⟩ := w.mem j a d hj
  cases h2
  rw [hp] at ho
  cases ho
theorem Wd.not_tab (w : Wd K T F μ G H) (hp : H p = none) : ∀ q ∈ T, q.1 ≠ p := fun q hq z => by
  obtain ⟨ps, h1, _⟩ := w.tab q hq
  rw [z, hp] at h1
  cases h1
/-- a new object that is data from now on -/
theorem Wd.newG (w : Wd K T F μ G H) (hp : H p = none) (ho : ∀ ps, o ≠ .tbl ps := by intro ps z; cases z) : Wd K T F μ (upd G p o) (upd H p o) where
  sub := fun a u e => by
    by_cases h : a = p
    · subst h
      rw [upd_same] at e ⊢
      exact e
    · rw [upd_ne h] at e ⊢
      exact w.sub _ _ e
  fr := fun a u e => by
    have h := w.fr a u e
    have n : a ≠ p := ne_of_none h.1 hp
    rw [upd_ne n, upd_ne n]
    exact h
  mem := fun j a d e => by
    obtain ⟨h1, h2, u, h3, h4⟩ := w.mem j a d e
    have n : a ≠ p := ne_of_none h3 hp
    refine ⟨by rw [upd_ne n]; exact h1, h2, u, by rw [upd_ne n]; exact h3, h4.ex (Ex.new (w.nog hp))⟩
  nd := w.nd
  tab := tabs_new w.tab hp
  tabG := fun q hq => by
    have n := w.not_tab hp q hq
    rw [upd_ne n]
    exact w.tabG q hq
  nt := fun a ps => by
    refine ⟨?_, (w.nt a ps).2⟩
    by_cases h : a = p
    · rw [h, upd_same]
      exact fun z => ho ps (Option.some.inj z)
    · rw [upd_ne h]
      exact (w.nt a ps).1
/-- a new object that may be changed -/
theorem Wd.newM (w : Wd K T F μ G H) (hp : H p = none) (r : RM K G d o) : Wd K T F (μ ++ [(p, d)]) G (upd H p o) where
  sub := fun a u e => by
    rw [upd_ne (ne_of_none (w.sub _ _ e) hp)]
    exact w.sub _ _ e
  fr := fun a u e => by
    have h := w.fr a u e
    rw [upd_ne (ne_of_none h.1 hp)]
    exact h
  mem := fun j a d' e => by
    by_cases hj : j < μ.length
    · rw [List.getElem?_append_left hj] at e
      obtain ⟨h1, h2, u, h3, h4⟩ := w.mem j a d' e
      exact ⟨h1, h2, u, by rw [upd_ne (ne_of_none h3 hp)]; exact h3, h4⟩
    · rw [List.getElem?_append_right (by omega)] at e
      have e' : (p, d) = (a, d') := by
        cases q : j - μ.length with
        | zero => rw [q] at e; exact Option.some.inj e
        | succ n => rw [q] at e; simp at e
      cases e'
      exact ⟨w.nog hp, w.nof hp, o, upd_same, r⟩
  nd := by
    rw [List.map_append, List.nodup_append]
    refine ⟨w.nd, by simp, fun a ha b hb => ?_⟩
    simp at hb
    subst hb
    intro z
    subst z
    exact w.notin hp ha
  tab := tabs_new w.tab hp
  tabG := w.tabG
  nt := w.nt
theorem RM.shape (r : RM K G d o) : (∃ vs, o = .lst vs) ∨ ∃ ps, o = .dK ps := by
  cases d <;> cases o <;> first
    | exact r.elim
    | exact .inl ⟨_, rfl⟩
    | exact .inr ⟨_, rfl⟩
/-- a changed one -/
theorem Wd.write {j : Nat} {d' : D} (w : Wd K T F μ G H) (hj : μ[j]? = some (a, d)) (r : RM K G d' o) : Wd K T F (μ.set j (a, d')) G (upd H a o) := by
  obtain ⟨g1, g2, u, g3, g4⟩ := w.mem j a d hj
  have hlt : j < μ.length := (List.getElem?_eq_some_iff.mp hj).1
  have hmap : (μ.set j (a, d')).map Prod.fst = μ.map Prod.fst := by
    rw [List.map_set]
    have : (μ.map Prod.fst)[j]? = some a := by rw [List.getElem?_map, hj]; rfl
    exact set_same this
  have hshape := g4.shape
  refine ⟨fun b v e => ?_, fun b v e => ?_, fun i b e h => ?_, ?_, ?_, w.tabG, w.nt⟩
  · have n : b ≠ a := fun z => by rw [z, g1] at e; cases e
    rw [upd_ne n]; exact w.sub _ _ e
  · have n : b ≠ a := fun z => by rw [z, g2] at e; cases e
    rw [upd_ne n]; exact w.fr _ _ e
  · by_cases hi : i = j
    · subst hi
      rw [List.getElem?_set_self hlt] at h
      cases h
      exact ⟨g1, g2, o, upd_same, r⟩
    · rw [List.getElem?_set_ne (Ne.symm hi)] at h
      obtain ⟨h1, h2, v, h3, h4⟩ := w.mem i b e h
      have n : b ≠ a := fun z => by
        subst z
        have e1 : (μ.map Prod.fst)[i]? = some b := by rw [List.getElem?_map, h]; rfl
        have e2 : (μ.map Prod.fst)[j]? = some b := by rw [List.getElem?_map, hj]; rfl
        exact hi (nd_ix w.nd e1 e2)
      exact ⟨h1, h2, v, by rw [upd_ne n]; exact h3, h4⟩
  · rw [hmap]; exact w.nd
  · refine tabs_upd w.tab (fun ps e => ?_) (fun c q e => ?_)
    · rw [g3] at e
      rcases hshape with ⟨vs, z⟩ | ⟨vs, z⟩ <;> (rw [z] at e; cases e)
    · rw [g3] at e
      rcases hshape with ⟨vs, z⟩ | ⟨vs, z⟩ <;> (rw [z] at e; unfold LamX.CodeO at e; cases e)
/-- what may be changed is data from now on: the last one -/
theorem Wd.freeze (w : Wd K T F (μ ++ [(a, d)]) G H) : ∃ G', Ex G G' ∧ Wd K T F μ G' H ∧ R K G' d (.ref a) := by
  have hj : (μ ++ [(a, d)])[μ.length]? = some (a, d) := by simp
  obtain ⟨g1, g2, o, g3, g4⟩ := w.mem _ _ _ hj
  have nd := w.nd
  rw [List.map_append, List.nodup_append] at nd
  obtain ⟨n1, _, n3⟩ := nd
  have hshape := g4.shape
  have hex : Ex G (upd G a o) := Ex.new g1
  refine ⟨upd G a o, hex, ⟨fun b v e => ?_, fun b v e => ?_, fun i b e h => ?_, n1, w.tab, fun q hq => ?_, fun b ps => ⟨fun z => ?_, (w.nt b ps).2⟩⟩, ?_⟩
  · by_cases hb : b = a
    · subst hb; rw [upd_same] at e; cases e; exact g3
    · rw [upd_ne hb] at e; exact w.sub _ _ e
  · have n : b ≠ a := fun z => by rw [z, g2] at e; cases e
    rw [upd_ne n]; exact w.fr _ _ e
  · have hlt : i < μ.length := (List.getElem?_eq_some_iff.mp h).1
    obtain ⟨h1, h2, v, h3, h4⟩ := w.mem i b e (by rw [List.getElem?_append_left hlt]; exact h)
    have hm : b ∈ μ.map Prod.fst := List.mem_map.mpr ⟨_, List.mem_of_getElem? h, rfl⟩
    have n : b ≠ a := n3 b hm a (by simp)
    exact ⟨by rw [upd_ne n]; exact h1, h2, v, h3, h4.ex hex⟩
  · have n : q.1 ≠ a := fun z => by
      obtain ⟨ps, t1, _⟩ := w.tab q hq
      rw [z, g3] at t1
      rcases hshape with ⟨vs, z⟩ | ⟨vs, z⟩ <;> (rw [z] at t1; cases t1)
    rw [upd_ne n]
    exact w.tabG q hq
  · by_cases hb : b = a
    · rw [hb, upd_same] at z
      rcases hshape with ⟨vs, e⟩ | ⟨vs, e⟩ <;> (rw [e] at z; cases z)
    · rw [upd_ne hb] at z
      exact (w.nt b ps).1 z
  · cases d <;> cases o <;> first
      | exact g4.elim
      | exact .lst upd_same (RAll.ex hex _ _ g4)
      | exact .dic upd_same g4.1 (RAll.ex hex _ _ g4.2)
end
end K43

set_option maxHeartbeats 4000000
/-! K2: what must hold ahead of an expression, a test, a statement; the abstract judgements and the rules. -/
namespace K43
open PySem PySem.Spec PyProof.Rows L2

/-! ### weakest judgements over the hand layer -/
def WE (X : Cx) (e : Expr) : TE := fun σ H Q => ∀ (pins : List (Addr × Obj)) (s : Shared), L2.Inv X pins σ H s → wpAny (model X.prog X.w) X.A (eval e X.env) (EP X pins σ Q) X.xe s
def WT (X : Cx) (e : Expr) : TT := fun σ H Q => ∀ (pins : List (Addr × Obj)) (s : Shared), L2.Inv X pins σ H s → wpAny (model X.prog X.w) X.A (isTrue e X.env (eval e X.env)) (TP X pins σ Q) X.xe s
def WW (X : Cx) (e : Expr) : TT := fun σ H Q => ∀ (whole : Sem Value) (pins : List (Addr × Obj)) (s : Shared), L2.Inv X pins σ H s → wpAny (model X.prog X.w) X.A (isTrue e X.env whole) (TP X pins σ Q) X.xe s
def WTs (X : Cx) (ifs : List Expr) : TT := fun σ H Q => ∃ t, PTs X ifs t ∧ t σ H Q
def WA (X : Cx) (es : List Expr) : TA := fun σ H Q => ∃ t, PA X es t ∧ t σ H Q
def WS (X : Cx) (st : Stmt) : TS := fun D σ H => ∃ t, PS X st t ∧ t D σ H
def WSs (X : Cx) (st : List Stmt) : TS := fun D σ H => ∃ t, PSs X st t ∧ t D σ H
def WG (X : Cx) (tg : Expr) : TG := fun v σ H Q => ∃ t, PG X tg t ∧ t v σ H Q
def WGs (X : Cx) (tg : List Expr) : TGs := fun vs σ H Q => ∃ t, PGs X tg t ∧ t vs σ H Q
def WI (X : Cx) (tg iter : Expr) : TI := fun σ H R => ∃ t, PI X tg iter t ∧ t σ H R
section
variable {X : Cx}
theorem we {e : Expr} : PE X e (WE X e) := ⟨fun pins s σ H Q I h => h pins s I⟩
theorem wt {e : Expr} : PT X e (WT X e) := ⟨fun pins s σ H Q I h => h pins s I⟩
theorem ww {e : Expr} : PW X e (WW X e) := ⟨fun wh pins s σ H Q I h => h wh pins s I⟩
theorem wts {ifs : List Expr} : PTs X ifs (WTs X ifs) := ⟨fun pins s σ H Q I ⟨t, h1, h2⟩ => h1.run pins s σ H Q I h2⟩
theorem wa {es : List Expr} : PA X es (WA X es) := ⟨fun pos pins s σ H Q I ⟨t, h1, h2⟩ => h1.run pos pins s σ H Q I h2⟩
theorem ws {st : Stmt} : PS X st (WS X st) := ⟨fun pins s σ H D I ⟨t, h1, h2⟩ => h1.run pins s σ H D I h2⟩
theorem wss {st : List Stmt} : PSs X st (WSs X st) := ⟨fun pins s σ H D I ⟨t, h1, h2⟩ => h1.run pins s σ H D I h2⟩
theorem wg {tg : Expr} : PG X tg (WG X tg) := ⟨fun pins s σ H v u Q I r ⟨t, h1, h2⟩ => h1.run pins s σ H v u Q I r h2⟩
theorem wgs {tg : List Expr} : PGs X tg (WGs X tg) := ⟨fun pins s σ H v u Q I r ⟨t, h1, h2⟩ => h1.run pins s σ H v u Q I r h2⟩
theorem wi {tg iter : Expr} : PI X tg iter (WI X tg iter) := ⟨fun pins s σ H R I ⟨t, h1, h2⟩ => h1.run pins s σ H R I h2⟩
theorem PE.w {e : Expr} {t : TE} {σ : St} {H : Hp} {Q : VK} (h : PE X e t) (q : t σ H Q) : WE X e σ H Q := fun pins s I => h.run pins s σ H Q I q
theorem PT.w {e : Expr} {t : TT} {σ : St} {H : Hp} {Q : Bool → Hp → Prop} (h : PT X e t) (q : t σ H Q) : WT X e σ H Q := fun pins s I => h.run pins s σ H Q I q
theorem PW.w {e : Expr} {t : TT} {σ : St} {H : Hp} {Q : Bool → Hp → Prop} (h : PW X e t) (q : t σ H Q) : WW X e σ H Q := fun wh pins s I => h.run wh pins s σ H Q I q
end

/-! ### the abstract judgements -/
def EJ (X : Cx) (B : Tb) (e : Expr) (Γ : List AV) (μ : Mem) (P : AV → Mem → Prop) : Prop :=
  ∀ (Z : Zs) (τ : List AV) (σ : St) (xs : List V) (H : Hp) (Q : VK), SA X.K B Z Γ τ μ σ xs H → (∀ r μ' v H', P r μ' → SA X.K B Z Γ (r :: τ) μ' σ (v :: xs) H' → Q v H') → WE X e σ H Q
def TJ (X : Cx) (B : Tb) (e : Expr) (Γ : List AV) (μ : Mem) (P : Bool → Mem → Prop) : Prop :=
  ∀ (Z : Zs) (τ : List AV) (σ : St) (xs : List V) (H : Hp) (Q : Bool → Hp → Prop), SA X.K B Z Γ τ μ σ xs H → (∀ b μ' H', P b μ' → SA X.K B Z Γ τ μ' σ xs H' → Q b H') → WT X e σ H Q
def WJ (X : Cx) (B : Tb) (e : Expr) (Γ : List AV) (μ : Mem) (P : Bool → Mem → Prop) : Prop :=
  ∀ (Z : Zs) (τ : List AV) (σ : St) (xs : List V) (H : Hp) (Q : Bool → Hp → Prop), SA X.K B Z Γ τ μ σ xs H → (∀ b μ' H', P b μ' → SA X.K B Z Γ τ μ' σ xs H' → Q b H') → WW X e σ H Q
def TsJ (X : Cx) (B : Tb) (ifs : List Expr) (Γ : List AV) (μ : Mem) (P : Bool → Mem → Prop) : Prop :=
  ∀ (Z : Zs) (τ : List AV) (σ : St) (xs : List V) (H : Hp) (Q : Bool → Hp → Prop), SA X.K B Z Γ τ μ σ xs H → (∀ b μ' H', P b μ' → SA X.K B Z Γ τ μ' σ xs H' → Q b H') → WTs X ifs σ H Q
def AJ (X : Cx) (B : Tb) (es : List Expr) (Γ : List AV) (μ : Mem) (P : List AV → Mem → Prop) : Prop :=
  ∀ (Z : Zs) (τ : List AV) (σ : St) (xs : List V) (H : Hp) (Q : List V → Hp → Prop), SA X.K B Z Γ τ μ σ xs H → (∀ rs μ' vs H', P rs μ' → rs.length = vs.length → SA X.K B Z Γ (rs ++ τ) μ' σ (vs ++ xs) H' → Q vs H') → WA X es σ H Q
structure AE where
  nx : List AV → Mem → Prop
  rt : AV → Mem → Prop
  bk : List AV → Mem → Prop := fun _ _ => False
  ct : List AV → Mem → Prop := fun _ _ => False
structure Gv (K : PySem.W.Frag) (B : Tb) (Z : Zs) (A : AE) (τ : List AV) (xs : List V) (D : Ends) : Prop where
  nx : ∀ Γ μ σ H, A.nx Γ μ → SA K B Z Γ τ μ σ xs H → D.nx σ H
  rt : ∀ r Γ μ σ v H, A.rt r μ → SA K B Z Γ (r :: τ) μ σ (v :: xs) H → D.rt v H
  bk : ∀ Γ μ σ H, A.bk Γ μ → SA K B Z Γ τ μ σ xs H → D.bk σ H
  ct : ∀ Γ μ σ H, A.ct Γ μ → SA K B Z Γ τ μ σ xs H → D.ct σ H
def SJ (X : Cx) (B : Tb) (st : Stmt) (Γ : List AV) (μ : Mem) (A : AE) : Prop :=
  ∀ (Z : Zs) (τ : List AV) (σ : St) (xs : List V) (H : Hp) (D : Ends), SA X.K B Z Γ τ μ σ xs H → Gv X.K B Z A τ xs D → WS X st D σ H
def SsJ (X : Cx) (B : Tb) (st : List Stmt) (Γ : List AV) (μ : Mem) (A : AE) : Prop :=
  ∀ (Z : Zs) (τ : List AV) (σ : St) (xs : List V) (H : Hp) (D : Ends), SA X.K B Z Γ τ μ σ xs H → Gv X.K B Z A τ xs D → WSs X st D σ H
def GJ (X : Cx) (B : Tb) (tg : Expr) (r : AV) (Γ : List AV) (μ : Mem) (P : List AV → Mem → Prop) : Prop :=
  ∀ (Z : Zs) (τ : List AV) (σ : St) (v : V) (xs : List V) (H : Hp) (Q : St → Hp → Prop), SA X.K B Z Γ (r :: τ) μ σ (v :: xs) H → (∀ Γ' μ' σ' H', P Γ' μ' → SA X.K B Z Γ' τ μ' σ' xs H' → Q σ' H') → WG X tg v σ H Q
def GsJ (X : Cx) (B : Tb) (tg : List Expr) (rs : List AV) (Γ : List AV) (μ : Mem) (P : List AV → Mem → Prop) : Prop :=
  ∀ (Z : Zs) (τ : List AV) (σ : St) (vs xs : List V) (H : Hp) (Q : St → Hp → Prop), rs.length = vs.length → SA X.K B Z Γ (rs ++ τ) μ σ (vs ++ xs) H → (∀ Γ' μ' σ' H', P Γ' μ' → SA X.K B Z Γ' τ μ' σ' xs H' → Q σ' H') → WGs X tg vs σ H Q

/-! ### the state's assertion -/
section
variable {K : PySem.W.Frag} {B : Tb} {Z : Zs} {Γ τ ρ : List AV} {μ : Mem} {σ : St} {x y v : V} {xs vs us : List V} {H H' : Hp} {a : Addr} {d : D} {r q : AV} {o : HO} {p : Addr}
theorem SA.drop (h : SA K B Z Γ (r :: τ) μ σ (x :: xs) H) : SA K B Z Γ τ μ σ xs H := by
  obtain ⟨G, e, w, g, t⟩ := h
  exact ⟨G, e, w, g, t.2⟩
theorem SA.dropN {rs : List AV} (l : rs.length = vs.length) (h : SA K B Z Γ (rs ++ τ) μ σ (vs ++ xs) H) : SA K B Z Γ τ μ σ xs H := by
  obtain ⟨G, e, w, g, t⟩ := h
  exact ⟨G, e, w, g, (RVs.split l t).2⟩
theorem SA.swap (h : SA K B Z Γ (r :: q :: τ) μ σ (x :: y :: xs) H) : SA K B Z Γ (q :: r :: τ) μ σ (y :: x :: xs) H := by
  obtain ⟨G, e, w, g, t⟩ := h
  exact ⟨G, e, w, g, t.2.1, t.1, t.2.2⟩
/-- pushing a temporary under a list of them -/
theorem SA.under {rs : List AV} (l : rs.length = vs.length) (h : SA K B Z Γ (rs ++ r :: τ) μ σ (vs ++ x :: xs) H) : SA K B Z Γ ((r :: rs) ++ τ) μ σ ((x :: vs) ++ xs) H := by
  obtain ⟨G, e, w, g, t⟩ := h
  obtain ⟨t1, t2⟩ := RVs.split l t
  exact ⟨G, e, w, g, t2.1, t1.app t2.2⟩
theorem SA.lenx (h : SA K B Z Γ τ μ σ xs H) : τ.length = xs.length := by
  obtain ⟨G, e, w, g, t⟩ := h
  exact t.length
theorem SA.lens (h : SA K B Z Γ τ μ σ xs H) : Γ.length = σ.length := by
  obtain ⟨G, e, w, g, t⟩ := h
  exact g.length
/-- the slot's value as a temporary -/
theorem SA.getd {i : Nat} (h : SA K B Z Γ τ μ σ xs H) (e : Γ[i]? = some (.dat d)) : ∃ v, σ[i]? = some (some v) ∧ SA K B Z Γ (.dat d :: τ) μ σ (v :: xs) H := by
  obtain ⟨G, e0, w, g, t⟩ := h
  obtain ⟨o, e1, v, rfl, r⟩ := g.get e
  exact ⟨v, e1, G, e0, w, g, r, t⟩
theorem SA.getv {i : Nat} {u : V} (h : SA K B Z Γ τ μ σ xs H) (e : Γ[i]? = some (.val u)) : σ[i]? = some (some u) ∧ SA K B Z Γ (.val u :: τ) μ σ (u :: xs) H := by
  obtain ⟨G, e0, w, g, t⟩ := h
  obtain ⟨o, e1, rfl⟩ := g.get e
  exact ⟨e1, G, e0, w, g, rfl, t⟩
/-- a flat value -/
theorem SA.push (h : SA K B Z Γ τ μ σ xs H) (r : ∀ G, R K G d v) : SA K B Z Γ (.dat d :: τ) μ σ (v :: xs) H := by
  obtain ⟨G, e, w, g, t⟩ := h
  exact ⟨G, e, w, g, r G, t⟩
theorem SA.pushU (h : SA K B Z Γ τ μ σ xs H) : SA K B Z Γ (.un :: τ) μ σ (v :: xs) H := by
  obtain ⟨G, e, w, g, t⟩ := h
  exact ⟨G, e, w, g, True.intro, t⟩
/-- stored to a slot -/
theorem SA.store {i : Nat} (h : SA K B Z Γ (r :: τ) μ σ (v :: xs) H) : SA K B Z (Γ.set i r) τ μ (σ.set i (some v)) xs H := by
  obtain ⟨G, e, w, g, t⟩ := h
  exact ⟨G, e, w, g.set i t.1.ro, t.2⟩
/-- a new tuple, a new list: data -/
theorem SA.newTup {ds : List D} (h : SA K B Z Γ τ μ σ xs H) (hp : H p = none) (r : ∀ G, (∀ {as : List AV} {us : List V}, RVs K G τ xs → True) → True) (l : ∃ G, Ex Z.G0 G ∧ Wd K B Z.F μ G H ∧ ROs K G Γ σ ∧ RVs K G τ xs ∧ RAll K G ds vs) :
    SA K B Z Γ (.dat (.tup ds) :: τ) μ σ (.ref p :: xs) (upd H p (.tup vs)) := by
  obtain ⟨G, e, w, g, t, q⟩ := l
  have ex : Ex G (upd G p (.tup vs)) := Ex.new (w.nog hp)
  exact ⟨_, e.trans ex, w.newG hp, g.ex ex, .tup upd_same (RAll.ex ex _ _ q), t.ex ex⟩
theorem SA.newLst {ds : List D} (hp : H p = none) (l : ∃ G, Ex Z.G0 G ∧ Wd K B Z.F μ G H ∧ ROs K G Γ σ ∧ RVs K G τ xs ∧ RAll K G ds vs) :
    SA K B Z Γ (.dat (.lst ds) :: τ) μ σ (.ref p :: xs) (upd H p (.lst vs)) := by
  obtain ⟨G, e, w, g, t, q⟩ := l
  have ex : Ex G (upd G p (.lst vs)) := Ex.new (w.nog hp)
  exact ⟨_, e.trans ex, w.newG hp, g.ex ex, .lst upd_same (RAll.ex ex _ _ q), t.ex ex⟩
theorem SA.newLstM {ds : List D} (hp : H p = none) (l : ∃ G, Ex Z.G0 G ∧ Wd K B Z.F μ G H ∧ ROs K G Γ σ ∧ RVs K G τ xs ∧ RAll K G ds vs) :
    SA K B Z Γ (.val (.ref p) :: τ) (μ ++ [(p, .lst ds)]) σ (.ref p :: xs) (upd H p (.lst vs)) := by
  obtain ⟨G, e, w, g, t, q⟩ := l
  exact ⟨G, e, w.newM hp q, g, rfl, t⟩
theorem SA.freeze {i : Nat} (h : SA K B Z Γ τ (μ ++ [(a, d)]) σ xs H) (e : Γ[i]? = some (.val (.ref a))) : SA K B Z (Γ.set i (.dat d)) τ μ σ xs H := by
  obtain ⟨G, e0, w, g, t⟩ := h
  obtain ⟨G', ex, w', r⟩ := w.freeze
  refine ⟨G', e0.trans ex, w', (g.ex ex).setA i fun o ho => ?_, t.ex ex⟩
  obtain ⟨o', h1, rfl⟩ := g.get e
  rw [ho] at h1
  cases h1
  exact ⟨_, rfl, r⟩
theorem SA.freezeT (h : SA K B Z Γ (.val (.ref a) :: τ) (μ ++ [(a, d)]) σ (x :: xs) H) : SA K B Z Γ (.dat d :: τ) μ σ (x :: xs) H := by
  obtain ⟨G, e0, w, g, t⟩ := h
  obtain ⟨G', ex, w', r⟩ := w.freeze
  obtain ⟨rfl, t2⟩ := t
  exact ⟨G', e0.trans ex, w', g.ex ex, r, t2.ex ex⟩
/-- data, or what may be changed -/
inductive Den (μ : Mem) : AV → D → Prop
  | dat (d : D) : Den μ (.dat d) d
  | mem {j : Nat} {a : Addr} {d : D} : μ[j]? = some (a, d) → Den μ (.val (.ref a)) d
theorem den_lst {T : Tb} {F G : Hp} {ds : List D} (w : Wd K T F μ G H) (h : Den μ r (.lst ds)) (q : RV K G r x) : ∃ a vs, x = .ref a ∧ H a = some (.lst vs) ∧ RAll K G ds vs := by
  cases h with
  | dat =>
    cases q with
    | lst h1 h2 => exact ⟨_, _, rfl, w.sub _ _ h1, h2⟩
  | mem h =>
    obtain ⟨_, _, o, h1, h2⟩ := w.mem _ _ _ h
    cases o <;> first
      | exact h2.elim
      | exact ⟨_, _, q, h1, h2⟩
theorem den_dic {T : Tb} {F G : Hp} {ks : List Str} {ds : List D} (w : Wd K T F μ G H) (h : Den μ r (.dic ks ds)) (q : RV K G r x) : ∃ a ps, x = .ref a ∧ H a = some (.dK ps) ∧ ps.map Prod.fst = ks.map Sum.inr ∧ RAll K G ds (ps.map Prod.snd) := by
  cases h with
  | dat =>
    cases q with
    | dic h1 h2 h3 => exact ⟨_, _, rfl, w.sub _ _ h1, h2, h3⟩
  | mem h =>
    obtain ⟨_, _, o, h1, h2⟩ := w.mem _ _ _ h
    cases o <;> first
      | exact h2.elim
      | exact ⟨_, _, q, h1, h2.1, h2.2⟩
end

/-! ### expressions -/
section
variable {X : Cx} {B : Tb} {Z : Zs} {Γ : List AV} {μ : Mem} {P : AV → Mem → Prop} {e a b c : Expr} {pos : Pos} {d : D}
theorem EJ.mono {P' : AV → Mem → Prop} (h : EJ X B e Γ μ P) (q : ∀ r μ', P r μ' → P' r μ') : EJ X B e Γ μ P' := fun Z τ σ xs H Q s k => h Z τ σ xs H Q s fun r μ' v H' p s' => k r μ' v H' (q r μ' p) s'
theorem ej_dat {x : Str} (i : Nat) (h : Γ[i]? = some (.dat d)) (q : P (.dat d) μ) (hN : X.N[i]? = some x := by rfl) (hv : Vis X.env.scope x := by first | exact Or.inl rfl | exact Or.inr (Or.inl rfl) | exact Or.inr (Or.inr rfl)) (hd : (x == ("__debug__" : Str)) = false := by decide)
    (hcd : (x == ("__classdict__" : Str)) = false := by decide) : EJ X B (.Name x pos) Γ μ P := fun Z τ σ xs H Q s k => by
  obtain ⟨v, e1, s1⟩ := s.getd h
  exact PE.w (pe_var hN hv hd hcd) ⟨v, e1, k _ _ _ _ q s1⟩
theorem ej_val {x : Str} {u : V} (i : Nat) (h : Γ[i]? = some (.val u)) (q : P (.val u) μ) (hN : X.N[i]? = some x := by rfl) (hv : Vis X.env.scope x := by first | exact Or.inl rfl | exact Or.inr (Or.inl rfl) | exact Or.inr (Or.inr rfl)) (hd : (x == ("__debug__" : Str)) = false := by decide)
    (hcd : (x == ("__classdict__" : Str)) = false := by decide) : EJ X B (.Name x pos) Γ μ P := fun Z τ σ xs H Q s k => by
  obtain ⟨e1, s1⟩ := s.getv h
  exact PE.w (pe_var hN hv hd hcd) ⟨u, e1, k _ _ _ _ q s1⟩
theorem ej_int {i : Int} {j : Nat} (q : P (.dat (.int i)) μ) : EJ X B (.Constant (.int i) j pos) Γ μ P := fun Z τ σ xs H Q s k => PE.w pe_int (k _ _ _ _ q (s.push fun _ => .int i))
theorem ej_bl {i : Bool} {j : Nat} (q : P (.dat (.bl i)) μ) : EJ X B (.Constant (.bool i) j pos) Γ μ P := fun Z τ σ xs H Q s k => PE.w pe_bl (k _ _ _ _ q (s.push fun _ => .bl i))
theorem ej_non {j : Nat} (q : P (.dat .non) μ) : EJ X B (.Constant .none j pos) Γ μ P := fun Z τ σ xs H Q s k => PE.w pe_non (k _ _ _ _ q (s.push fun _ => .non))
theorem ej_str {i : Str} {j : Nat} (q : P (.dat (.str i)) μ) : EJ X B (.Constant (.str i) j pos) Γ μ P := fun Z τ σ xs H Q s k => PE.w pe_str (k _ _ _ _ q (s.push fun _ => .str i))

/-- an operation on two values -/
def OJ (K : PySem.W.Frag) (r : R2) (r1 r2 : AV) (μ : Mem) (P : AV → Mem → Prop) : Prop :=
  ∀ (B : Tb) (Z : Zs) (Γ τ : List AV) (σ : St) (x y : V) (xs : List V) (H : Hp) (Q : VK), SA K B Z Γ (r2 :: r1 :: τ) μ σ (y :: x :: xs) H → (∀ q μ' v H', P q μ' → SA K B Z Γ (q :: τ) μ' σ (v :: xs) H' → Q v H') → r x y H Q
theorem ej_tOp {r : R2} (h : PE X e (tOp r (WE X a) (WE X b))) (ha : EJ X B a Γ μ fun r1 μ1 => EJ X B b Γ μ1 fun r2 μ2 => OJ X.K r r1 r2 μ2 P) : EJ X B e Γ μ P := fun Z τ σ xs H Q s k =>
  PE.w h (ha Z τ σ xs H _ s fun r1 μ1 x H1 p1 s1 => p1 Z (r1 :: τ) σ (x :: xs) H1 _ s1 fun r2 μ2 y H2 p2 s2 => p2 B Z Γ τ σ x y xs H2 Q s2 k)
theorem ej_bin {op : Operator} {r : R2} (ho : OpR X (binaryOp op) r) (ha : EJ X B a Γ μ fun r1 μ1 => EJ X B b Γ μ1 fun r2 μ2 => OJ X.K r r1 r2 μ2 P) : EJ X B (.BinOp a op b pos) Γ μ P := ej_tOp (pe_op ho we we) ha
theorem ej_cmp {op : CmpOp} {r : R2} (ho : OpR X (compareOp op) r) (hm : behindInMarks op b = false) (ha : EJ X B a Γ μ fun r1 μ1 => EJ X B b Γ μ1 fun r2 μ2 => OJ X.K r r1 r2 μ2 P) : EJ X B (.Compare a [op] [b] pos) Γ μ P := ej_tOp (pe_cmpR ho we we hm) ha
theorem tj_cmp {Pb : Bool → Mem → Prop} {op : CmpOp} {r : R2} (ho : OpR X (compareOp op) r) (hm : behindInMarks op b = false) (ha : EJ X B a Γ μ fun r1 μ1 => EJ X B b Γ μ1 fun r2 μ2 => OJ X.K r r1 r2 μ2 fun q μ3 => ∃ k, q = .dat (.bl k) ∧ Pb k μ3) : TJ X B (.Compare a [op] [b] pos) Γ μ Pb := fun Z τ σ xs H Q s k =>
  PT.w (pt_cmpR ho we we hm) (ha Z τ σ xs H _ s fun r1 μ1 x H1 p1 s1 => p1 Z (r1 :: τ) σ (x :: xs) H1 _ s1 fun r2 μ2 y H2 p2 s2 => p2 B Z Γ τ σ x y xs H2 _ s2 fun q μ3 v H3 ⟨b, e1, p3⟩ s3 => by
    subst e1
    obtain ⟨G, e0, w, g, t⟩ := s3
    obtain ⟨t1, t2⟩ := t
    cases t1
    exact ⟨b, rfl, k b μ3 H3 p3 ⟨G, e0, w, g, t2⟩⟩)
theorem tj_of {Pb : Bool → Mem → Prop} (he : ∀ whole, isTrue e X.env whole = (do let v ← whole; standAt e.pos; holding [v] (truthy v))) (h : EJ X B e Γ μ fun q μ3 => ∃ k, q = .dat (.bl k) ∧ Pb k μ3) : TJ X B e Γ μ Pb := fun Z τ σ xs H Q s k =>
  PT.w (pt_val we he) (h Z τ σ xs H _ s fun q μ3 v H3 ⟨b, e1, p3⟩ s3 => by
    subst e1
    obtain ⟨G, e0, w, g, t⟩ := s3
    obtain ⟨t1, t2⟩ := t
    cases t1
    exact ⟨b, rfl, k b μ3 H3 p3 ⟨G, e0, w, g, t2⟩⟩)
theorem tj_not {Pb : Bool → Mem → Prop} (h : TJ X B a Γ μ fun b μ1 => Pb (!b) μ1) : TJ X B (.UnaryOp .Not a pos) Γ μ Pb := fun Z τ σ xs H Q s k =>
  PT.w (pt_not wt) (h Z τ σ xs H _ s fun b μ1 H1 p s1 => k _ _ _ p s1)
theorem tj_w {Pb : Bool → Mem → Prop} (h : WJ X B a Γ μ Pb) : TJ X B a Γ μ Pb := fun Z τ σ xs H Q s k => PT.w (PW.pt ww) (h Z τ σ xs H Q s k)
theorem wj_and1 {Pb : Bool → Mem → Prop} (h : TJ X B a Γ μ Pb) : WJ X B (.BoolOp .And [a] pos) Γ μ Pb := fun Z τ σ xs H Q s k => PW.w (pw_and1 wt) (h Z τ σ xs H Q s k)
theorem wj_or1 {Pb : Bool → Mem → Prop} (h : TJ X B a Γ μ Pb) : WJ X B (.BoolOp .Or [a] pos) Γ μ Pb := fun Z τ σ xs H Q s k => PW.w (pw_or1 wt) (h Z τ σ xs H Q s k)
theorem wj_and {rest : List Expr} {Pb : Bool → Mem → Prop} (h : TJ X B a Γ μ fun k μ1 => cond k (WJ X B (.BoolOp .And (b :: rest) pos) Γ μ1 Pb) (Pb false μ1)) : WJ X B (.BoolOp .And (a :: b :: rest) pos) Γ μ Pb := fun Z τ σ xs H Q s k =>
  PW.w (pw_and wt ww) (h Z τ σ xs H _ s fun c μ1 H1 p s1 => by
    cases c with
    | true => exact p Z τ σ xs H1 Q s1 k
    | false => exact k false μ1 H1 p s1)
theorem wj_or {rest : List Expr} {Pb : Bool → Mem → Prop} (h : TJ X B a Γ μ fun k μ1 => cond k (Pb true μ1) (WJ X B (.BoolOp .Or (b :: rest) pos) Γ μ1 Pb)) : WJ X B (.BoolOp .Or (a :: b :: rest) pos) Γ μ Pb := fun Z τ σ xs H Q s k =>
  PW.w (pw_or wt ww) (h Z τ σ xs H _ s fun c μ1 H1 p s1 => by
    cases c with
    | true => exact k true μ1 H1 p s1
    | false => exact p Z τ σ xs H1 Q s1 k)
/-- and, or, not as values (bools) -/
theorem SA.bl_inv {K : PySem.W.Frag} {τ : List AV} {σ : St} {v : V} {xs : List V} {H : Hp} {k : Bool} (s : SA K B Z Γ (.dat (.bl k) :: τ) μ σ (v :: xs) H) : v = .bl k ∧ SA K B Z Γ τ μ σ xs H := by
  obtain ⟨G, e0, w, g, t⟩ := s
  obtain ⟨t1, t2⟩ := t
  cases t1
  exact ⟨rfl, G, e0, w, g, t2⟩
theorem ej_one {op : BoolOp} (h : EJ X B a Γ μ P) : EJ X B (.BoolOp op [a] pos) Γ μ P := fun Z τ σ xs H Q s k => PE.w (pe_one we) (h Z τ σ xs H Q s k)
theorem ej_and {rest : List Expr} (h : EJ X B a Γ μ fun r μ1 => ∃ k, r = .dat (.bl k) ∧ cond k (EJ X B (.BoolOp .And (b :: rest) pos) Γ μ1 P) (P (.dat (.bl false)) μ1)) : EJ X B (.BoolOp .And (a :: b :: rest) pos) Γ μ P := fun Z τ σ xs H Q s k =>
  PE.w (pe_and we we) (h Z τ σ xs H _ s fun r μ1 v H1 ⟨c, e1, p⟩ s1 => by
    subst e1
    obtain ⟨rfl, s2⟩ := s1.bl_inv
    refine ⟨c, rfl, ?_⟩
    cases c with
    | true => exact p Z τ σ xs H1 Q s2 k
    | false => exact k _ μ1 _ H1 p s1)
theorem ej_or {rest : List Expr} (h : EJ X B a Γ μ fun r μ1 => ∃ k, r = .dat (.bl k) ∧ cond k (P (.dat (.bl true)) μ1) (EJ X B (.BoolOp .Or (b :: rest) pos) Γ μ1 P)) : EJ X B (.BoolOp .Or (a :: b :: rest) pos) Γ μ P := fun Z τ σ xs H Q s k =>
  PE.w (pe_or we we) (h Z τ σ xs H _ s fun r μ1 v H1 ⟨c, e1, p⟩ s1 => by
    subst e1
    obtain ⟨rfl, s2⟩ := s1.bl_inv
    refine ⟨c, rfl, ?_⟩
    cases c with
    | true => exact k _ μ1 _ H1 p s1
    | false => exact p Z τ σ xs H1 Q s2 k)
theorem ej_not (h : EJ X B a Γ μ fun r μ1 => ∃ k, r = .dat (.bl k) ∧ P (.dat (.bl (!k))) μ1) : EJ X B (.UnaryOp .Not a pos) Γ μ P := fun Z τ σ xs H Q s k =>
  PE.w (pe_not we) (h Z τ σ xs H _ s fun r μ1 v H1 ⟨c, e1, p⟩ s1 => by
    subst e1
    obtain ⟨rfl, s2⟩ := s1.bl_inv
    exact ⟨c, rfl, k _ μ1 _ H1 p (s2.push fun _ => .bl _)⟩)
theorem ej_neg (h : EJ X B a Γ μ fun r μ1 => ∃ i, r = .dat (.int i) ∧ P (.dat (.int (-i))) μ1) : EJ X B (.UnaryOp .USub a pos) Γ μ P := fun Z τ σ xs H Q s k =>
  PE.w (pe_un un_neg we) (h Z τ σ xs H _ s fun r μ1 v H1 ⟨c, e1, p⟩ s1 => by
    subst e1
    obtain ⟨G, e0, w, g, t1, t2⟩ := s1
    cases t1
    exact ⟨c, rfl, k _ μ1 _ H1 p ⟨G, e0, w, g, .int _, t2⟩⟩)
theorem ej_if (h : TJ X B c Γ μ fun k μ1 => cond k (EJ X B a Γ μ1 P) (EJ X B b Γ μ1 P)) : EJ X B (.IfExp c a b pos) Γ μ P := fun Z τ σ xs H Q s k =>
  PE.w (pe_ifExp wt we we) (h Z τ σ xs H _ s fun d μ1 H1 p s1 => by
    cases d with
    | true => exact p Z τ σ xs H1 Q s1 k
    | false => exact p Z τ σ xs H1 Q s1 k)

/-- pure: the value's worth, the memory as it was -/
abbrev EP (X : Cx) (B : Tb) (e : Expr) (Γ : List AV) (μ : Mem) (d : D) : Prop := EJ X B e Γ μ fun r μ' => r = .dat d ∧ μ' = μ
abbrev TP (X : Cx) (B : Tb) (e : Expr) (Γ : List AV) (μ : Mem) (k : Bool) : Prop := TJ X B e Γ μ fun r μ' => r = k ∧ μ' = μ
abbrev WP (X : Cx) (B : Tb) (e : Expr) (Γ : List AV) (μ : Mem) (k : Bool) : Prop := WJ X B e Γ μ fun r μ' => r = k ∧ μ' = μ
theorem EP.j (h : EP X B e Γ μ d) (q : P (.dat d) μ) : EJ X B e Γ μ P := h.mono fun r μ' ⟨e1, e2⟩ => by rw [e1, e2]; exact q
theorem TJ.mono {P P' : Bool → Mem → Prop} (h : TJ X B e Γ μ P) (q : ∀ r μ', P r μ' → P' r μ') : TJ X B e Γ μ P' := fun Z τ σ xs H Q s k => h Z τ σ xs H Q s fun r μ' H' p s' => k r μ' H' (q r μ' p) s'
theorem WJ.mono {P P' : Bool → Mem → Prop} (h : WJ X B e Γ μ P) (q : ∀ r μ', P r μ' → P' r μ') : WJ X B e Γ μ P' := fun Z τ σ xs H Q s k => h Z τ σ xs H Q s fun r μ' H' p s' => k r μ' H' (q r μ' p) s'
theorem TP.j {P : Bool → Mem → Prop} {k : Bool} (h : TP X B e Γ μ k) (q : P k μ) : TJ X B e Γ μ P := h.mono fun r μ' ⟨e1, e2⟩ => by rw [e1, e2]; exact q
theorem tp_w {k : Bool} (h : WP X B a Γ μ k) : TP X B a Γ μ k := tj_w h
theorem wp_and1 {k : Bool} (h : TP X B a Γ μ k) : WP X B (.BoolOp .And [a] pos) Γ μ k := wj_and1 h
theorem wp_or1 {k : Bool} (h : TP X B a Γ μ k) : WP X B (.BoolOp .Or [a] pos) Γ μ k := wj_or1 h
theorem wp_and {rest : List Expr} {k l : Bool} (h : TP X B a Γ μ k) (h2 : k = true → WP X B (.BoolOp .And (b :: rest) pos) Γ μ l) : WP X B (.BoolOp .And (a :: b :: rest) pos) Γ μ (k && l) :=
  wj_and (TP.j h (by
    cases k with
    | true => exact h2 rfl
    | false => exact ⟨rfl, rfl⟩))
theorem wp_or {rest : List Expr} {k l : Bool} (h : TP X B a Γ μ k) (h2 : k = false → WP X B (.BoolOp .Or (b :: rest) pos) Γ μ l) : WP X B (.BoolOp .Or (a :: b :: rest) pos) Γ μ (k || l) :=
  wj_or (TP.j h (by
    cases k with
    | false => exact h2 rfl
    | true => exact ⟨rfl, rfl⟩))
theorem tp_not {k : Bool} (h : TP X B a Γ μ k) : TP X B (.UnaryOp .Not a pos) Γ μ (!k) := tj_not (h.mono fun r μ' ⟨e1, e2⟩ => ⟨by rw [e1], e2⟩)
theorem ep_and {rest : List Expr} {k l : Bool} (h : EP X B a Γ μ (.bl k)) (h2 : k = true → EP X B (.BoolOp .And (b :: rest) pos) Γ μ (.bl l)) : EP X B (.BoolOp .And (a :: b :: rest) pos) Γ μ (.bl (k && l)) :=
  ej_and (EP.j h ⟨k, rfl, by
    cases k with
    | true => exact h2 rfl
    | false => exact ⟨rfl, rfl⟩⟩)
theorem ep_or {rest : List Expr} {k l : Bool} (h : EP X B a Γ μ (.bl k)) (h2 : k = false → EP X B (.BoolOp .Or (b :: rest) pos) Γ μ (.bl l)) : EP X B (.BoolOp .Or (a :: b :: rest) pos) Γ μ (.bl (k || l)) :=
  ej_or (EP.j h ⟨k, rfl, by
    cases k with
    | false => exact h2 rfl
    | true => exact ⟨rfl, rfl⟩⟩)
/-- a chain of two comparisons of ints -/
theorem ej_chain {op op' : CmpOp} {p p' : Int → Int → Bool} (ho : OpR X (compareOp op) (rI0 fun i j => .bl (p i j))) (ho' : OpR X (compareOp op') (rI0 fun i j => .bl (p' i j))) (hm : lastMarks [op, op'] [b, c] = false)
    (ha : EJ X B a Γ μ fun r1 μ1 => ∃ i, r1 = .dat (.int i) ∧ EJ X B b Γ μ1 fun r2 μ2 => ∃ j, r2 = .dat (.int j) ∧ ∃ l, EP X B c Γ μ2 (.int l) ∧ P (.dat (.bl (p i j && p' j l))) μ2) : EJ X B (.Compare a [op, op'] [b, c] pos) Γ μ P := fun Z τ σ xs H Q s k =>
  PE.w (pe_chain ho ho' we we we hm) (ha Z τ σ xs H _ s fun r1 μ1 x H1 ⟨i, e1, p1⟩ s1 => p1 Z (r1 :: τ) σ (x :: xs) H1 _ s1 fun r2 μ2 y H2 ⟨j, e2, l, p2, p3⟩ s2 => by
    subst e1
    subst e2
    obtain ⟨G, e0, w, g, t1, t2, t3⟩ := s2
    cases t1
    cases t2
    refine ⟨i, j, rfl, rfl, p i j, rfl, ?_⟩
    have s3 : SA X.K B Z Γ τ μ2 σ xs H2 := ⟨G, e0, w, g, t3⟩
    cases hb : p i j with
    | false =>
      rw [hb] at p3
      rw [if_neg Bool.false_ne_true]
      exact k _ μ2 _ H2 p3 (s3.push fun _ => .bl false)
    | true =>
      rw [hb] at p3
      rw [if_pos rfl]
      refine p2 Z τ σ xs H2 _ s3 fun r3 μ3 z H3 ⟨e3, e4⟩ s4 => ?_
      subst e3
      subst e4
      obtain ⟨G, e0, w, g, t1, t2⟩ := s4
      cases t1
      exact ⟨j, l, rfl, rfl, k _ _ _ H3 p3 ⟨G, e0, w, g, .bl _, t2⟩⟩)

/-! ### arguments, displays, items -/
theorem aj_nil {P : List AV → Mem → Prop} (q : P [] μ) : AJ X B [] Γ μ P := fun Z τ σ xs H Q s k => ⟨_, pa_nil, k [] μ [] H q rfl s⟩
theorem aj_cons {es : List Expr} {P : List AV → Mem → Prop} (h : EJ X B e Γ μ fun r μ1 => AJ X B es Γ μ1 fun rs μ2 => P (r :: rs) μ2) (hs : starEach (e :: es) X.env = (false, eval e X.env) :: starEach es X.env := by rfl) : AJ X B (e :: es) Γ μ P := fun Z τ σ xs H Q s k =>
  ⟨_, pa_cons we wa hs, h Z τ σ xs H _ s fun r μ1 v H1 p s1 => p Z (r :: τ) σ (v :: xs) H1 _ s1 fun rs μ2 vs H2 q l s2 => k (r :: rs) μ2 (v :: vs) H2 q (by simp [l]) (s2.under l)⟩
def dats : List AV → Option (List D)
  | [] => some []
  | .dat d :: r => (dats r).map (d :: ·)
  | _ :: _ => none
theorem rall_of {K : PySem.W.Frag} {G : Hp} : ∀ {rs : List AV} {ds : List D} {vs : List V}, dats rs = some ds → RVs K G rs vs → RAll K G ds vs
  | [], ds, [], e, _ => by
    simp [dats] at e
    subst e
    exact .nil
  | [], _, _ :: _, _, h => h.elim
  | .dat d :: r, ds, [], _, h => h.elim
  | .dat d :: r, ds, v :: vs, e, h => by
    unfold dats at e
    cases q : dats r with
    | none => rw [q] at e; simp at e
    | some ds' =>
      rw [q] at e
      simp at e
      subst e
      exact .cons h.1 (rall_of q h.2)
  | .un :: r, ds, _, e, _ => by simp [dats] at e
  | .val _ :: r, ds, _, e, _ => by simp [dats] at e
theorem SA.args {K : PySem.W.Frag} {rs τ : List AV} {ds : List D} {σ : St} {vs xs : List V} {H : Hp} (s : SA K B Z Γ (rs ++ τ) μ σ (vs ++ xs) H) (l : rs.length = vs.length) (e : dats rs = some ds) : ∃ G, Ex Z.G0 G ∧ Wd K B Z.F μ G H ∧ ROs K G Γ σ ∧ RVs K G τ xs ∧ RAll K G ds vs := by
  obtain ⟨G, e0, w, g, t⟩ := s
  obtain ⟨t1, t2⟩ := RVs.split l t
  exact ⟨G, e0, w, g, t2, rall_of e t1⟩
theorem ej_tup {es : List Expr} {x1 : Nat} (hz : es.length ≤ sizeLine) (h : AJ X B es Γ μ fun rs μ1 => ∃ ds, dats rs = some ds ∧ ds.length ≤ sizeLine ∧ P (.dat (.tup ds)) μ1) : EJ X B (.Tuple es x1 pos) Γ μ P := fun Z τ σ xs H Q s k =>
  PE.w (pe_tup wa) (h Z τ σ xs H _ s fun rs μ1 vs H1 ⟨ds, e1, hl, p⟩ l s1 => by
    have q := s1.args l e1
    refine ⟨?_, fun p0 hp => k _ _ _ _ p (SA.newTup (s1.dropN l) hp (fun _ _ => True.intro) q)⟩
    obtain ⟨_, _, _, _, _, qa⟩ := q
    rw [← qa.length]
    exact hl)
theorem ej_lst {es : List Expr} (h : AJ X B es Γ μ fun rs μ1 => ∃ ds, dats rs = some ds ∧ ds.length ≤ sizeLine ∧ P (.dat (.lst ds)) μ1) : EJ X B (.List es pos) Γ μ P := fun Z τ σ xs H Q s k =>
  PE.w (pe_lst wa) (h Z τ σ xs H _ s fun rs μ1 vs H1 ⟨ds, e1, hl, p⟩ l s1 => by
    have q := s1.args l e1
    refine ⟨?_, fun p0 hp => k _ _ _ _ p (SA.newLst hp q)⟩
    obtain ⟨_, _, _, _, _, qa⟩ := q
    rw [← qa.length]
    exact hl)
/-- .. that may be changed -/
theorem ej_lstM {es : List Expr} (h : AJ X B es Γ μ fun rs μ1 => ∃ ds, dats rs = some ds ∧ ds.length ≤ sizeLine ∧ ∀ p, P (.val (.ref p)) (μ1 ++ [(p, .lst ds)])) : EJ X B (.List es pos) Γ μ P := fun Z τ σ xs H Q s k =>
  PE.w (pe_lst wa) (h Z τ σ xs H _ s fun rs μ1 vs H1 ⟨ds, e1, hl, p⟩ l s1 => by
    have q := s1.args l e1
    refine ⟨?_, fun p0 hp => k _ _ _ _ (p p0) (SA.newLstM hp q)⟩
    obtain ⟨_, _, _, _, _, qa⟩ := q
    rw [← qa.length]
    exact hl)
theorem ej_ix {r : R2} (hr : IxR X r) (hs : PlainIx b) (ha : EJ X B a Γ μ fun r1 μ1 => EJ X B b Γ μ1 fun r2 μ2 => OJ X.K r r1 r2 μ2 P) : EJ X B (.Subscript a b pos) Γ μ P := ej_tOp (pe_ix hr we we hs) ha
/-- the call of a built-in: what is asked of the values -/
def CJ (K : PySem.W.Frag) (r : List V → Hp → VK → Prop) (rs : List AV) (μ : Mem) (P : AV → Mem → Prop) : Prop :=
  ∀ (B : Tb) (Z : Zs) (Γ τ : List AV) (σ : St) (vs xs : List V) (H : Hp) (Q : VK), rs.length = vs.length → SA K B Z Γ (rs ++ τ) μ σ (vs ++ xs) H → (∀ q μ' v H', P q μ' → SA K B Z Γ (q :: τ) μ' σ (v :: xs) H' → Q v H') → r vs H Q
theorem ej_tCB {es : List Expr} {r : List V → Hp → VK → Prop} (h : PE X e (tCB r (WA X es))) (ha : AJ X B es Γ μ fun rs μ1 => CJ X.K r rs μ1 P) : EJ X B e Γ μ P := fun Z τ σ xs H Q s k =>
  PE.w h (ha Z τ σ xs H _ s fun rs μ1 vs H1 p l s1 => p B Z Γ τ σ vs xs H1 Q l s1 k)
theorem ej_callB {id : String} {x : Str} {p : Pos} {es : List Expr} {r : List V → Hp → VK → Prop} (hc : CallR X (.builtin id) r) (hg : Gl X x) (hm : X.mg x = none) (hv : bootBuiltins x = some (.builtin id)) (ha : AJ X B (e :: es) Γ μ fun rs μ1 => CJ X.K r rs μ1 P) (hn : x ≠ "__name__" := by decide) (hdb : (x == ("__debug__" : Str)) = false := by decide)
    (he : starEach (e :: es) X.env = (false, eval e X.env) :: starEach es X.env := by rfl) (hpl : (backTo pos (starEach es X.env)).any (·.1) = false := by rfl) : EJ X B (.Call (.Name x p) (e :: es) [] pos) Γ μ P :=
  ej_tCB (pe_callB hc hg hm hv wa hn hdb he hpl) ha
theorem ej_callTy {T : String} {x : Str} {p : Pos} {es : List Expr} {r : List V → Hp → VK → Prop} (hc : CallR X (.type T) r) (hg : Gl X x) (hm : X.mg x = none) (hv : bootBuiltins x = some (.type T)) (ha : AJ X B (e :: es) Γ μ fun rs μ1 => CJ X.K r rs μ1 P) (hn : x ≠ "__name__" := by decide) (hdb : (x == ("__debug__" : Str)) = false := by decide)
    (he : starEach (e :: es) X.env = (false, eval e X.env) :: starEach es X.env := by rfl) (hpl : (backTo pos (starEach es X.env)).any (·.1) = false := by rfl) : EJ X B (.Call (.Name x p) (e :: es) [] pos) Γ μ P :=
  ej_tCB (pe_callTy hc hg hm hv wa hn hdb he hpl) ha

/-! ### targets -/
theorem gj_name {r : AV} {Pg : List AV → Mem → Prop} {x : Str} (i : Nat) (h : Pg (Γ.set i r) μ) (hN : X.N.Nodup) (hi : X.N[i]? = some x := by rfl) (hx : Loc X.env.scope x := by first | exact Or.inl rfl | exact Or.inr rfl) (hf : X.fn x = true ∨ X.env.scope.names.lookup x = some .local := by first | exact .inl rfl | exact .inr rfl) :
    GJ X B (.Name x pos) r Γ μ Pg := fun Z τ σ v xs H Q s k => ⟨_, pg_name hN hi hx hf, k _ _ _ _ h s.store⟩
theorem gsj_nil {Pg : List AV → Mem → Prop} (h : Pg Γ μ) : GsJ X B [] [] Γ μ Pg := fun Z τ σ vs xs H Q l s k => by
  cases vs with
  | cons v vs => simp at l
  | nil => exact ⟨_, pgs_nil, rfl, k _ _ _ _ h s⟩
theorem gsj_cons {r : AV} {rs : List AV} {es : List Expr} {Pg : List AV → Mem → Prop} (h : GJ X B e r Γ μ fun Γ1 μ1 => GsJ X B es rs Γ1 μ1 Pg) (hs : (assignEach (e :: es) X.env).map (·.2) = assign e X.env :: (assignEach es X.env).map (·.2) := by rfl) : GsJ X B (e :: es) (r :: rs) Γ μ Pg := fun Z τ σ vs xs H Q l s k => by
  cases vs with
  | nil => simp at l
  | cons v vs => exact ⟨_, pgs_cons wg wgs hs, v, vs, rfl, h Z (rs ++ τ) σ v (vs ++ xs) H _ s fun Γ1 μ1 σ1 H1 p1 s1 => p1 Z τ σ1 vs xs H1 Q (by simpa using l) s1 k⟩
theorem gj_tup {r : AV} {ds : List D} {n k0 : Nat} {es : List Expr} {Pg : List AV → Mem → Prop} (hr : r = .dat (.tup ds)) (hl : ds.length = n) (h : GsJ X B es (ds.map .dat) Γ μ Pg) (hc : X.calm = true := by rfl) (hn : (assignEach es X.env).length = n := by rfl) (hst : (assignEach es X.env).findIdx? (·.1) = none := by rfl) :
    GJ X B (.Tuple es k0 pos) r Γ μ Pg := fun Z τ σ v xs H Q s k => by
  subst hr
  obtain ⟨G, e0, w, g, t1, t2⟩ := s
  cases t1 with
  | tup h1 h2 =>
    rename_i a vs
    have hv : ∀ {ds : List D} {vs : List V}, RAll X.K G ds vs → RVs X.K G (ds.map .dat) vs := by
      intro ds
      induction ds with
      | nil => intro vs h; cases h; trivial
      | cons d ds ih =>
        intro vs h
        cases h with
        | cons a b => exact ⟨a, ih b⟩
    exact ⟨_, pg_tup hc wgs hn hst, a, vs, rfl, SqT.of (w.sub _ _ h1), by rw [← h2.length]; exact hl, h Z τ σ vs xs H Q (by rw [List.length_map]; exact h2.length) ⟨G, e0, w, g, (hv h2).app t2⟩ k⟩

/-! ### statements -/
variable {A : AE} {st : Stmt} {sts : List Stmt}
theorem ssj_nil (h : A.nx Γ μ) : SsJ X B [] Γ μ A := fun Z τ σ xs H D s k => ⟨_, pss_nil, k.nx _ _ _ _ h s⟩
theorem ssj_cons (h : SJ X B st Γ μ { A with nx := fun Γ1 μ1 => SsJ X B sts Γ1 μ1 A }) : SsJ X B (st :: sts) Γ μ A := fun Z τ σ xs H D s k =>
  ⟨_, pss_cons ws wss, h Z τ σ xs H { D with nx := WSs X sts D } s ⟨fun Γ1 μ1 σ1 H1 p s1 => p Z τ σ1 xs H1 D s1 k, k.rt, k.bk, k.ct⟩⟩
theorem ssj_one (h : SJ X B st Γ μ A) : SsJ X B [st] Γ μ A := fun Z τ σ xs H D s k => ⟨_, pss_one ws, h Z τ σ xs H D s k⟩
theorem sj_set {x : Str} {pos' : Pos} (i : Nat) (h : EJ X B e Γ μ fun r μ1 => A.nx (Γ.set i r) μ1) (hN : X.N.Nodup) (hi : X.N[i]? = some x := by rfl) (hx : Loc X.env.scope x := by first | exact Or.inl rfl | exact Or.inr rfl) (hs : swapsWith e (some (.Name x pos')) pos.line X.env = pure false := by rfl) (hf : X.fn x = true ∨ X.env.scope.names.lookup x = some .local := by first | exact .inl rfl | exact .inr rfl) :
    SJ X B (.Assign [.Name x pos'] e pos) Γ μ A := fun Z τ σ xs H D s k => ⟨_, ps_set hN hi hx we hs hf, h Z τ σ xs H _ s fun r μ1 v H1 p s1 => k.nx _ _ _ _ p s1.store⟩
theorem sj_asg {tg : Expr} (h : EJ X B e Γ μ fun r μ1 => GJ X B tg r Γ μ1 A.nx) (hs : swapsWithSole [tg] e pos.line X.env = pure false := by rfl) (hw : swappedStores [tg] e X.env = pure none := by rfl)
    (h1 : (assignEach [tg] X.env).map (·.2) = [assign tg X.env] := by rfl) : SJ X B (.Assign [tg] e pos) Γ μ A := fun Z τ σ xs H D s k =>
  ⟨_, ps_asg we wg hs hw h1, h Z τ σ xs H _ s fun r μ1 v H1 p s1 => p Z τ σ v xs H1 _ s1 fun Γ1 μ2 σ1 H2 q s2 => k.nx _ _ _ _ q s2⟩
theorem sj_expr (h : EJ X B e Γ μ fun _ μ1 => A.nx Γ μ1) (hs : swapsWith e none pos.line X.env = pure false := by rfl) : SJ X B (.Expr e pos) Γ μ A := fun Z τ σ xs H D s k =>
  ⟨_, ps_expr we hs, h Z τ σ xs H _ s fun r μ1 v H1 p s1 => k.nx _ _ _ _ p s1.drop⟩
theorem sj_ret (h : EJ X B e Γ μ A.rt) : SJ X B (.Return (some e) pos) Γ μ A := fun Z τ σ xs H D s k =>
  ⟨_, ps_ret we, h Z τ σ xs H _ s fun r μ1 v H1 p s1 => k.rt _ _ _ _ _ _ p s1⟩
theorem sj_if {c : Expr} {u : List Stmt} (h : TJ X B c Γ μ fun b μ1 => cond b (SsJ X B sts Γ μ1 A) (SsJ X B u Γ μ1 A)) : SJ X B (.If c sts u pos) Γ μ A := fun Z τ σ xs H D s k =>
  ⟨_, ps_if wt wss wss, h Z τ σ xs H _ s fun b μ1 H1 p s1 => by
    cases b with
    | true => exact p Z τ σ xs H1 D s1 k
    | false => exact p Z τ σ xs H1 D s1 k⟩
theorem sj_par {i j : Nat} {x y : Str} {a b : Expr} {px py pt : Pos} {kt k2 pt2} (hN : X.N.Nodup) (hij : i ≠ j) (h : AJ X B [a, b] Γ μ fun rs μ1 => ∃ r q, rs = [r, q] ∧ A.nx ((Γ.set i r).set j q) μ1)
    (hi : X.N[i]? = some x := by rfl) (hj : X.N[j]? = some y := by rfl) (hx : X.env.scope.names.lookup x = some .local := by rfl) (hy : X.env.scope.names.lookup y = some .local := by rfl) (hc : X.calm = true := by rfl)
    (hw : swappedStores [.Tuple [.Name x px, .Name y py] kt pt] (.Tuple [a, b] k2 pt2) X.env = pure (some [x, y]) := by rfl)
    (hs : swapsWithSole [.Tuple [.Name x px, .Name y py] kt pt] (.Tuple [a, b] k2 pt2) pos.line X.env = pure false := by rfl) :
    SJ X B (.Assign [.Tuple [.Name x px, .Name y py] kt pt] (.Tuple [a, b] k2 pt2) pos) Γ μ A := fun Z τ σ xs H D s k =>
  ⟨_, ps_par hc hN hi hj hij hx hy wa hw hs, h Z τ σ xs H _ s fun rs μ1 vs H1 ⟨r, q, e1, p⟩ l s1 => by
    subst e1
    match vs, l with
    | [v, w'], _ =>
      obtain ⟨G, e0, w, g, t1, t2, t3⟩ := s1
      exact ⟨v, w', rfl, k.nx _ _ _ _ p ⟨G, e0, w, (g.set i t1.ro).set j t2.ro, t3⟩⟩⟩
theorem ssj_freeze {a : Addr} {d : D} (i : Nat) (e : Γ[i]? = some (.val (.ref a))) (h : SsJ X B sts (Γ.set i (.dat d)) μ A) : SsJ X B sts Γ (μ ++ [(a, d)]) A := fun Z τ σ xs H D s k => h Z τ σ xs H D (s.freeze e) k
theorem SJ.mono {A' : AE} (h : SJ X B st Γ μ A) (h1 : ∀ Γ μ, A.nx Γ μ → A'.nx Γ μ) (h2 : ∀ r μ, A.rt r μ → A'.rt r μ) (h3 : ∀ Γ μ, A.bk Γ μ → A'.bk Γ μ) (h4 : ∀ Γ μ, A.ct Γ μ → A'.ct Γ μ) : SJ X B st Γ μ A' := fun Z τ σ xs H D s k =>
  h Z τ σ xs H D s ⟨fun _ _ _ _ p => k.nx _ _ _ _ (h1 _ _ p), fun _ _ _ _ _ _ p => k.rt _ _ _ _ _ _ (h2 _ _ p), fun _ _ _ _ p => k.bk _ _ _ _ (h3 _ _ p), fun _ _ _ _ p => k.ct _ _ _ _ (h4 _ _ p)⟩
end
end K43

set_option maxHeartbeats 4000000
/-! K3: what is walked, loops, comprehensions, defs. -/
namespace K43
open PySem PySem.Spec PyProof.Rows L2

/-- J walks data: ρ are the temporaries that hold what is walked -/
def WalkD (K : PySem.W.Frag) (J : It) (ds : List D) (ρ : List AV) (us : List V) : Prop :=
  ∀ (B : Tb) (Z : Zs) (Γ τ : List AV) (μ : Mem) (σ : St) (xs : List V) (H : Hp), SA K B Z Γ (ρ ++ τ) μ σ (us ++ xs) H →
    (∀ i, i < ds.length → J.go i H) ∧ J.stop ds.length H ∧ ∀ i x H', i < ds.length → J.yld i H x H' → ∃ d, ds[i]? = some d ∧ SA K B Z Γ (.dat d :: (ρ ++ τ)) μ σ (x :: (us ++ xs)) H'
def IJ (X : Cx) (B : Tb) (tg iter : Expr) (Γ : List AV) (μ : Mem) (P : List D → Mem → Prop) : Prop :=
  ∀ (Z : Zs) (τ : List AV) (σ : St) (xs : List V) (H : Hp) (R : It → Hp → Prop), SA X.K B Z Γ τ μ σ xs H →
    (∀ ds μ' ρ us J H', P ds μ' → ρ.length = us.length → WalkD X.K J ds ρ us → SA X.K B Z Γ (ρ ++ τ) μ' σ (us ++ xs) H' → R J H') → WI X tg iter σ H R

section
variable {K : PySem.W.Frag} {B : Tb} {Z : Zs} {Γ τ : List AV} {μ : Mem} {σ : St} {v x y : V} {xs : List V} {H H' : Hp} {p : Addr} {d e : D}
theorem SA.lst_inv {ds : List D} (s : SA K B Z Γ (.dat (.lst ds) :: τ) μ σ (v :: xs) H) : ∃ a vs, v = .ref a ∧ SqL K H a vs ∧ vs.length = ds.length ∧
    (∀ (i : Nat) (x : V), vs[i]? = some x → ∃ d, ds[i]? = some d ∧ SA K B Z Γ (.dat d :: .dat (.lst ds) :: τ) μ σ (x :: v :: xs) H) := by
  obtain ⟨G, e0, w, g, t1, t2⟩ := s
  obtain ⟨a, vs, rfl, h1, h2⟩ := den_lst w (.dat _) t1
  refine ⟨a, vs, rfl, SqL.of h1, h2.length.symm, fun i x hx => ?_⟩
  obtain ⟨d, hd, r⟩ := h2.getV hx
  exact ⟨d, hd, G, e0, w, g, r, t1, t2⟩
theorem SA.tup_inv {ds : List D} (s : SA K B Z Γ (.dat (.tup ds) :: τ) μ σ (v :: xs) H) : ∃ a vs, v = .ref a ∧ SqT K H a vs ∧ vs.length = ds.length ∧
    (∀ (i : Nat) (x : V), vs[i]? = some x → ∃ d, ds[i]? = some d ∧ SA K B Z Γ (.dat d :: .dat (.tup ds) :: τ) μ σ (x :: v :: xs) H) := by
  obtain ⟨G, e0, w, g, t1, t2⟩ := s
  cases t1 with
  | tup h1 h2 =>
    refine ⟨_, _, rfl, SqT.of (w.sub _ _ h1), h2.length.symm, fun i x hx => ?_⟩
    obtain ⟨d, hd, r⟩ := h2.getV hx
    exact ⟨d, hd, G, e0, w, g, r, .tup h1 h2, t2⟩
/-- a new pair of two temporaries -/
theorem SA.pair (s : SA K B Z Γ (.dat d :: .dat e :: τ) μ σ (x :: y :: xs) H) (hp : H p = none) : SA K B Z Γ (.dat (.tup [d, e]) :: τ) μ σ (.ref p :: xs) (upd H p (.tup [x, y])) := by
  obtain ⟨G, e0, w, g, t1, t2, t3⟩ := s
  exact SA.newTup ⟨G, e0, w, g, t3⟩ hp (fun _ _ => True.intro) ⟨G, e0, w, g, t3, .cons t1 (.cons t2 .nil)⟩
end
/-- a range's ints, enumerate's pairs, zip's pairs -/
def rangeD (lo : Int) (n : Nat) : List D := (List.range n).map fun (i : Nat) => .int (lo + (i : Int))
def enumD (ds : List D) : List D := (List.range ds.length).zipWith (fun (i : Nat) d => .tup [.int (i : Int), d]) ds
def zipD (ds es : List D) : List D := ds.zipWith (fun d e => .tup [d, e]) es
theorem rangeD_len (lo : Int) (n : Nat) : (rangeD lo n).length = n := by simp [rangeD]
theorem rangeD_get {lo : Int} {n i : Nat} (h : i < n) : (rangeD lo n)[i]? = some (.int (lo + (i : Int))) := by simp [rangeD, h]
theorem enumD_len (ds : List D) : (enumD ds).length = ds.length := by simp [enumD]
theorem enumD_get {ds : List D} {i : Nat} {d : D} (h : ds[i]? = some d) : (enumD ds)[i]? = some (.tup [.int (i : Int), d]) := by
  have hi : i < ds.length := (List.getElem?_eq_some_iff.mp h).1
  have e : ds[i] = d := (List.getElem?_eq_some_iff.mp h).2
  simp [enumD, List.getElem?_zipWith, hi, e]
theorem zipD_len (ds es : List D) : (zipD ds es).length = min ds.length es.length := by simp [zipD]
theorem zipD_get {ds es : List D} {i : Nat} {d e : D} (h : ds[i]? = some d) (h2 : es[i]? = some e) : (zipD ds es)[i]? = some (.tup [d, e]) := by simp [zipD, List.getElem?_zipWith, h, h2]

section
variable {X : Cx} {B : Tb} {Z : Zs} {Γ : List AV} {μ : Mem} {P : List D → Mem → Prop} {e e2 tg iter elt : Expr} {pos p : Pos}
theorem ij_list (h : EJ X B iter Γ μ fun r μ1 => ∃ ds, r = .dat (.lst ds) ∧ P ds μ1) : IJ X B tg iter Γ μ P := fun Z τ σ xs H R s k => by
  refine ⟨_, pi_list we, h Z τ σ xs H _ s fun r μ1 v H1 ⟨ds, e1, q⟩ s1 => ?_⟩
  subst e1
  obtain ⟨a, vs, rfl, hq, hl, hget⟩ := s1.lst_inv
  refine ⟨a, rfl, ⟨vs, hq⟩, k ds μ1 [.dat (.lst ds)] [.ref a] (Itl X.K a) H1 q rfl ?_ s1⟩
  intro B Z Γ τ μ σ xs H s
  obtain ⟨a', vs, ea, hq, hl, hget⟩ := SA.lst_inv s
  cases ea
  have W := walk_list (K := X.K) (a := a) (xs := vs)
  rw [← hl]
  refine ⟨fun i hi => W.goes i H hi hq, W.stops H hq, fun i x H' hi hy => ?_⟩
  obtain ⟨rfl, hx⟩ := W.yields i H x H' hi hq hy
  exact hget i x hx
theorem ij_range1 {a : Expr} (hm : X.mg "range" = none) (h : EJ X B a Γ μ fun r μ1 => ∃ n : Int, r = .dat (.int n) ∧ -(2 ^ 62) ≤ n ∧ n < 2 ^ 62 ∧ P (rangeD 0 n.toNat) μ1) (hg : Gl X "range" := by rfl) (hs : starEach [a] X.env = [(false, eval a X.env)] := by rfl) : IJ X B tg (.Call (.Name "range" p) [a] [] pos) Γ μ P := fun Z τ σ xs H R s k => by
  have h' : AJ X B [a] Γ μ fun rs μ1 => ∃ n : Int, rs = [.dat (.int n)] ∧ -(2 ^ 62) ≤ n ∧ n < 2 ^ 62 ∧ P (rangeD 0 n.toNat) μ1 := aj_cons (h.mono fun r μ1 ⟨n, e1, q⟩ => aj_nil ⟨n, by rw [e1], q⟩) hs
  refine ⟨_, pi_range1 hg hm wa hs, h' Z τ σ xs H _ s fun rs μ1 vs H1 ⟨n, e1, q1, q2, q3⟩ l s1 => ?_⟩
  subst e1
  match vs, l with
  | [v], _ =>
    obtain ⟨G, e0, w, g, t1, t2⟩ := s1
    cases t1
    refine ⟨n, rfl, q1, q2, k _ μ1 [] [] (Itr 0 n.toNat) H1 q3 rfl ?_ ⟨G, e0, w, g, t2⟩⟩
    intro B Z Γ τ μ σ xs H s
    have W := walk_range (lo := 0) (n := n.toNat)
    rw [rangeD_len]
    refine ⟨fun i hi => W.goes i H hi True.intro, W.stops H True.intro, fun i x H' hi hy => ?_⟩
    obtain ⟨rfl, rfl⟩ := W.yields i H x H' hi True.intro hy
    exact ⟨_, rangeD_get hi, s.push fun _ => .int _⟩
theorem ij_enum {elts : List Expr} {kk : Nat} {tpos : Pos} (hm : X.mg "enumerate" = none) (h : EJ X B e Γ μ fun r μ1 => ∃ ds, r = .dat (.lst ds) ∧ P (enumD ds) μ1) (hg : Gl X "enumerate" := by rfl) (hs : starEach [e] X.env = [(false, eval e X.env)] := by rfl) :
    IJ X B (.Tuple elts kk tpos) (.Call (.Name "enumerate" p) [e] [] pos) Γ μ P := fun Z τ σ xs H R s k => by
  have h' : AJ X B [e] Γ μ fun rs μ1 => ∃ ds, rs = [.dat (.lst ds)] ∧ P (enumD ds) μ1 := aj_cons (h.mono fun r μ1 ⟨n, e1, q⟩ => aj_nil ⟨n, by rw [e1], q⟩) hs
  refine ⟨_, pi_enum hg hm wa hs, h' Z τ σ xs H _ s fun rs μ1 vs H1 ⟨ds, e1, q⟩ l s1 => ?_⟩
  subst e1
  match vs, l with
  | [v], _ =>
    obtain ⟨a, vs, rfl, hq, hl, hget⟩ := SA.lst_inv (τ := τ) (xs := xs) s1
    refine ⟨a, vs, rfl, hq, k _ μ1 [.dat (.lst ds)] [.ref a] (Ite X.K a) H1 q rfl ?_ s1⟩
    intro B Z Γ τ μ σ xs H s
    obtain ⟨a', vs, ea, hq, hl, hget⟩ := SA.lst_inv s
    cases ea
    have W := walk_enum (K := X.K) (a := a) (xs := vs)
    rw [enumD_len, ← hl]
    refine ⟨fun i hi => W.goes i H hi hq, W.stops H hq, fun i x H' hi hy => ?_⟩
    obtain ⟨T, x', y', rfl, hT, rfl, ex, ey⟩ := W.yields i H x H' hi hq hy
    cases ex
    obtain ⟨d, hd, s2⟩ := hget i y' ey
    exact ⟨_, enumD_get hd, SA.pair (s2.push fun _ => .int (i : Int)) hT⟩
theorem ij_zip {elts : List Expr} {kk : Nat} {tpos : Pos} (hm : X.mg "zip" = none) (h : EJ X B e Γ μ fun r μ1 => EJ X B e2 Γ μ1 fun r2 μ2 => ∃ ds es, ((r = .dat (.lst ds) ∧ r2 = .dat (.lst es)) ∨ (r = .dat (.tup ds) ∧ r2 = .dat (.tup es))) ∧ P (zipD ds es) μ2) (hg : Gl X "zip" := by rfl) (hs : starEach [e, e2] X.env = (false, eval e X.env) :: starEach [e2] X.env := by rfl) (hs2 : starEach [e2] X.env = (false, eval e2 X.env) :: starEach [] X.env := by rfl)
    (hpl : (backTo pos (starEach [e2] X.env)).any (·.1) = false := by rfl) : IJ X B (.Tuple elts kk tpos) (.Call (.Name "zip" p) [e, e2] [] pos) Γ μ P := fun Z τ σ xs H R s k => by
  have h' : AJ X B [e, e2] Γ μ fun rs μ1 => ∃ r r2 ds es, rs = [r, r2] ∧ ((r = .dat (.lst ds) ∧ r2 = .dat (.lst es)) ∨ (r = .dat (.tup ds) ∧ r2 = .dat (.tup es))) ∧ P (zipD ds es) μ1 :=
    aj_cons (h.mono fun r μ1 q => aj_cons (q.mono fun r2 μ2 ⟨ds, es, q1, q2⟩ => aj_nil ⟨r, r2, ds, es, rfl, q1, q2⟩) hs2) hs
  refine ⟨_, RZ.pi_zipA hg hm wa hs hpl, h' Z τ σ xs H _ s fun rs μ1 vs H1 ⟨r, r2, ds, es, e1, e2, q⟩ l s1 => ?_⟩
  subst e1
  match vs, l with
  | [v1, v2], _ =>
    rcases e2 with ⟨rfl, rfl⟩ | ⟨rfl, rfl⟩
    · obtain ⟨a, vs, rfl, hq, hl, hget⟩ := SA.lst_inv (τ := .dat (.lst es) :: τ) (xs := v2 :: xs) s1
      obtain ⟨b, us, rfl, hq2, hl2, hget2⟩ := SA.lst_inv (τ := τ) (xs := xs) (SA.drop (x := .ref a) s1)
      refine ⟨a, b, vs, us, rfl, .inl ⟨hq, hq2, k _ μ1 [.dat (.lst ds), .dat (.lst es)] [.ref a, .ref b] (Itz X.K a b) H1 q rfl ?_ s1⟩⟩
      intro B Z Γ τ μ σ xs H s
      obtain ⟨G, e0, w, g, t1, t2, t3⟩ := s
      obtain ⟨_, vs, ea, hqa, c2⟩ := den_lst w (.dat _) t1
      cases ea
      obtain ⟨_, us, eb, hqb, c4⟩ := den_lst w (.dat _) t2
      cases eb
      have hq : SqL X.K H a vs := SqL.of hqa
      have hq2 : SqL X.K H b us := SqL.of hqb
      rw [zipD_len, c2.length, c4.length]
      refine ⟨fun i hi => ⟨vs, us, vs[i]'(by omega), us[i]'(by omega), hq, hq2, by simp [show i < vs.length by omega], by simp [show i < us.length by omega]⟩, ⟨vs, us, hq, hq2, by omega⟩, fun i x H' hi hy => ?_⟩
      obtain ⟨T, x', y', rfl, hT, rfl, ex, ey⟩ := hy
      obtain ⟨d, hd, r1⟩ := c2.getV (ex vs hq)
      obtain ⟨d2, hd2, r2⟩ := c4.getV (ey us hq2)
      exact ⟨_, zipD_get hd hd2, SA.pair ⟨G, e0, w, g, r1, r2, t1, t2, t3⟩ hT⟩
    · obtain ⟨a, vs, rfl, hq, hl, hget⟩ := SA.tup_inv (τ := .dat (.tup es) :: τ) (xs := v2 :: xs) s1
      obtain ⟨b, us, rfl, hq2, hl2, hget2⟩ := SA.tup_inv (τ := τ) (xs := xs) (SA.drop (x := .ref a) s1)
      refine ⟨a, b, vs, us, rfl, .inr ⟨hq, hq2, k _ μ1 [.dat (.tup ds), .dat (.tup es)] [.ref a, .ref b] (RZ.ItzT X.K a b) H1 q rfl ?_ s1⟩⟩
      intro B Z Γ τ μ σ xs H s
      obtain ⟨G, e0, w, g, t1, t2, t3⟩ := s
      cases t1 with
      | tup c1 c2 =>
        cases t2 with
        | tup c3 c4 =>
          rename_i vs us
          have hq : SqT X.K H a vs := SqT.of (w.sub _ _ c1)
          have hq2 : SqT X.K H b us := SqT.of (w.sub _ _ c3)
          rw [zipD_len, c2.length, c4.length]
          refine ⟨fun i hi => ⟨vs, us, vs[i]'(by omega), us[i]'(by omega), hq, hq2, by simp [show i < vs.length by omega], by simp [show i < us.length by omega]⟩, ⟨vs, us, hq, hq2, by omega⟩, fun i x H' hi hy => ?_⟩
          obtain ⟨T, x', y', rfl, hT, rfl, ex, ey⟩ := hy
          obtain ⟨d, hd, r1⟩ := c2.getV (ex vs hq)
          obtain ⟨d2, hd2, r2⟩ := c4.getV (ey us hq2)
          exact ⟨_, zipD_get hd hd2, SA.pair ⟨G, e0, w, g, r1, r2, .tup c1 c2, .tup c3 c4, t3⟩ hT⟩

/-! ### loops -/
theorem sj_for {A : AE} {body : List Stmt} (hp : PassesOwn (model X.prog X.w) X.A X.env X.xe) (Inv : List D → Nat → List AV → Mem → Prop)
    (h : IJ X B tg iter Γ μ fun ds μ1 => Inv ds 0 Γ μ1 ∧ (∀ i d Γ2 μ2, ds[i]? = some d → Inv ds i Γ2 μ2 → GJ X B tg (.dat d) Γ2 μ2 fun Γ3 μ3 => SsJ X B body Γ3 μ3 { nx := Inv ds (i + 1), rt := A.rt, ct := Inv ds (i + 1), bk := A.nx }) ∧ ∀ Γ2 μ2, Inv ds ds.length Γ2 μ2 → A.nx Γ2 μ2)
    (hc : X.calm = true := by rfl) (hs : ∀ x, foldedSetIterable iter X.env x = pure x := by intro _; rfl) : SJ X B (.For tg iter body [] pos) Γ μ A := fun Z τ σ xs H D s k => by
  refine ⟨_, ps_for hp hc wi wg wss hs, h Z τ σ xs H _ s fun ds μ1 ρ us J H1 ⟨i0, step, done⟩ l hw s1 => ?_⟩
  refine ⟨fun i m σ H => m = ds.length - i ∧ i ≤ ds.length ∧ ∃ Γ2 μ2, Inv ds i Γ2 μ2 ∧ SA X.K B Z Γ2 (ρ ++ τ) μ2 σ (us ++ xs) H, ⟨ds.length, by simp, Nat.zero_le _, _, _, i0, s1⟩, ?_⟩
  rintro i m σ2 H2 ⟨rfl, hi, Γ2, μ2, inv, s2⟩
  obtain ⟨w1, w2, w3⟩ := hw B Z Γ2 τ μ2 σ2 xs H2 s2
  by_cases hlt : i < ds.length
  · refine .inr ⟨w1 i hlt, fun σ' H' => ∃ Γ3 μ3, Inv ds (i + 1) Γ3 μ3 ∧ SA X.K B Z Γ3 (ρ ++ τ) μ3 σ' (us ++ xs) H', fun σ' H' ⟨Γ3, μ3, p, q⟩ => ⟨ds.length - (i + 1), by omega, rfl, hlt, Γ3, μ3, p, q⟩, fun x H' hy => ?_⟩
    obtain ⟨d, hd, s3⟩ := w3 i x H' hlt hy
    refine step i d Γ2 μ2 hd inv Z _ σ2 x _ H' _ s3 fun Γ3 μ3 σ3 H3 p s4 => ?_
    refine p Z _ σ3 _ H3 _ s4 ⟨fun Γ4 μ4 σ4 H4 q s5 => ⟨Γ4, μ4, q, s5⟩, fun r Γ4 μ4 σ4 v H4 q s5 => ?_, fun Γ4 μ4 σ4 H4 q s5 => ?_, fun Γ4 μ4 σ4 H4 q s5 => ⟨Γ4, μ4, q, s5⟩⟩
    · obtain ⟨G, e0, w, g, t1, t2⟩ := s5
      exact k.rt r Γ4 μ4 σ4 v H4 q ⟨G, e0, w, g, t1, (RVs.split l t2).2⟩
    · exact k.nx _ _ _ _ q (s5.dropN l)
  · have e : i = ds.length := by omega
    subst e
    exact .inl ⟨w2, k.nx _ _ _ _ (done Γ2 μ2 inv) (s2.dropN l)⟩

/-! ### comprehensions -/
theorem tsj_nil {Pb : Bool → Mem → Prop} (q : Pb true μ) : TsJ X B [] Γ μ Pb := fun Z τ σ xs H Q s k => ⟨_, pts_nil, k true μ H q s⟩
theorem tsj_one {c : Expr} {Pb : Bool → Mem → Prop} (h : TJ X B c Γ μ Pb) : TsJ X B [c] Γ μ Pb := fun Z τ σ xs H Q s k => ⟨_, pts_one wt, h Z τ σ xs H Q s k⟩
/-- the block's own names forgotten -/
def wipeA (Γ : List AV) : List Nat → List AV
  | [] => Γ
  | v :: vs => (wipeA Γ vs).set v .un
theorem ros_wipe {K : PySem.W.Frag} {G : Hp} {Γ : List AV} {σ : St} (h : ROs K G Γ σ) : ∀ vs : List Nat, ROs K G (wipeA Γ vs) (wipe σ vs)
  | [] => h
  | v :: vs => (ros_wipe h vs).set v (a := .un) True.intro
end
end K43

set_option maxHeartbeats 4000000
/-! K4: the frame rule, comprehensions, defs and their calls. -/
namespace K43
open PySem PySem.Spec PyProof.Rows L2

section
variable {K : PySem.W.Frag} {B : Tb} {Z : Zs} {Γ τ : List AV} {μ ν : Mem} {σ : St} {xs vs : List V} {H : Hp}
theorem Wd.split {F G H : Hp} (w : Wd K B F (μ ++ ν) G H) : ∃ F' : Hp, Wd K B F' μ G H ∧ ∀ (μ' : Mem) (G' H' : Hp), Ex G G' → Wd K B F' μ' G' H' → Wd K B F (μ' ++ ν) G' H' := by
  have nd := w.nd
  rw [List.map_append, List.nodup_append] at nd
  obtain ⟨n1, n2, n3⟩ := nd
  have memN : ∀ a, a ∈ ν.map Prod.fst → G a = none ∧ F a = none ∧ ∃ d o, (a, d) ∈ ν ∧ H a = some o ∧ RM K G d o := fun a ha => by
    obtain ⟨⟨a', d⟩, h1, rfl⟩ := List.mem_map.mp ha
    obtain ⟨j, hj⟩ := List.mem_iff_getElem?.mp h1
    obtain ⟨g1, g2, o, g3, g4⟩ := w.mem (μ.length + j) a' d (by rw [List.getElem?_append_right (by omega)]; simpa using hj)
    exact ⟨g1, g2, d, o, h1, g3, g4⟩
  refine ⟨fun a => if a ∈ ν.map Prod.fst then H a else F a, ⟨w.sub, fun a o e => ?_, fun j a d e => ?_, n1, w.tab, fun p hp => ?_, fun a ps => ⟨(w.nt a ps).1, fun z => ?_⟩⟩, fun μ' G' H' ex w' => ⟨w'.sub, fun a o e => ?_, fun j a d e => ?_, ?_, w'.tab, fun p hp => ?_, fun a ps => ⟨(w'.nt a ps).1, (w.nt a ps).2⟩⟩⟩
  · by_cases h : a ∈ ν.map Prod.fst
    · rw [if_pos h] at e
      exact ⟨e, (memN a h).1⟩
    · rw [if_neg h] at e
      exact w.fr a o e
  · have hlt : j < μ.length := (List.getElem?_eq_some_iff.mp e).1
    obtain ⟨g1, g2, r⟩ := w.mem j a d (by rw [List.getElem?_append_left hlt]; exact e)
    have hm : a ∈ μ.map Prod.fst := List.mem_map.mpr ⟨_, List.mem_of_getElem? e, rfl⟩
    have n : a ∉ ν.map Prod.fst := fun z => n3 a hm a z rfl
    exact ⟨g1, by rw [if_neg n]; exact g2, r⟩
  · refine ⟨(w.tabG p hp).1, ?_⟩
    have n : p.1 ∉ ν.map Prod.fst := fun z => by
      obtain ⟨_, _, d, o, _, h1, h2⟩ := memN _ z
      obtain ⟨ps, t1, _⟩ := w.tab p hp
      rw [h1] at t1
      cases t1
      rcases h2.shape with ⟨vs, z⟩ | ⟨vs, z⟩ <;> cases z
    rw [if_neg n]
    exact (w.tabG p hp).2
  · have z : (if a ∈ ν.map Prod.fst then H a else F a) = some (.tbl ps) := z
    by_cases n : a ∈ ν.map Prod.fst
    · rw [if_pos n] at z
      obtain ⟨_, _, d, o, _, h1, h2⟩ := memN _ n
      rw [h1] at z
      rcases h2.shape with ⟨vs, e⟩ | ⟨vs, e⟩ <;> (rw [e] at z; cases z)
    · rw [if_neg n] at z
      exact (w.nt a ps).2 z
  · have n : a ∉ ν.map Prod.fst := fun z => by rw [(memN a z).2.1] at e; cases e
    exact w'.fr a o (by rw [if_neg n]; exact e)
  · by_cases hlt : j < μ'.length
    · rw [List.getElem?_append_left hlt] at e
      obtain ⟨g1, g2, r⟩ := w'.mem j a d e
      refine ⟨g1, ?_, r⟩
      have n : a ∉ ν.map Prod.fst := fun z => by
        obtain ⟨_, _, d, o, _, h1, h2⟩ := memN _ z
        rw [if_pos z, h1] at g2
        cases g2
      rw [if_neg n] at g2
      exact g2
    · rw [List.getElem?_append_right (by omega)] at e
      have ha : a ∈ ν.map Prod.fst := List.mem_map.mpr ⟨_, List.mem_of_getElem? e, rfl⟩
      obtain ⟨q1, q2, _⟩ := memN a ha
      obtain ⟨g1, g2, o, g3, g4⟩ := w.mem (μ.length + (j - μ'.length)) a d (by rw [List.getElem?_append_right (by omega)]; simpa using e)
      obtain ⟨h1, h2⟩ := w'.fr a o (by rw [if_pos ha]; exact g3)
      exact ⟨h2, q2, o, h1, g4.ex ex⟩
  · rw [List.map_append, List.nodup_append]
    refine ⟨w'.nd, n2, fun a ha b hb z => ?_⟩
    subst z
    obtain ⟨⟨a', d⟩, h1, rfl⟩ := List.mem_map.mp ha
    obtain ⟨j, hj⟩ := List.mem_iff_getElem?.mp h1
    obtain ⟨g1, g2, r⟩ := w'.mem j a' d hj
    obtain ⟨_, _, d', o, _, h2, _⟩ := memN _ hb
    rw [if_pos hb, h2] at g2
    cases g2
  · refine ⟨(w'.tabG p hp).1, ?_⟩
    have h := (w'.tabG p hp).2
    by_cases n : p.1 ∈ ν.map Prod.fst
    · rw [(memN _ n).2.1]
    · rw [if_neg n] at h
      exact h
theorem SA.frame (s : SA K B Z Γ τ (μ ++ ν) σ xs H) : ∃ Z', SA K B Z' Γ τ μ σ xs H ∧ ∀ Γ' τ' μ' σ' xs' H', SA K B Z' Γ' τ' μ' σ' xs' H' → SA K B Z Γ' τ' (μ' ++ ν) σ' xs' H' := by
  obtain ⟨G, e0, w, g, t⟩ := s
  obtain ⟨F', w1, back⟩ := w.split
  refine ⟨⟨F', G⟩, ⟨G, Ex.refl G, w1, g, t⟩, fun Γ' τ' μ' σ' xs' H' ⟨G', e1, w2, g2, t2⟩ => ⟨G', e0.trans e1, back _ _ _ e1 w2, g2, t2⟩⟩
theorem SA.forget (s : SA K B Z Γ τ μ σ xs H) : SA K B Z [] τ μ [] xs H := by
  obtain ⟨G, e0, w, g, t⟩ := s
  exact ⟨G, e0, w, True.intro, t⟩
/-- a call: the arguments go, all else is held -/
theorem SA.call {rs : List AV} (l : rs.length = vs.length) (s : SA K B Z Γ (rs ++ τ) (μ ++ ν) σ (vs ++ xs) H) : ∃ Z', SA K B Z' [] rs μ [] vs H ∧ ∀ r μ' v H', SA K B Z' [] [r] μ' [] [v] H' → SA K B Z Γ (r :: τ) (μ' ++ ν) σ (v :: xs) H' := by
  obtain ⟨G, e0, w, g, t⟩ := s
  obtain ⟨t1, t2⟩ := RVs.split l t
  obtain ⟨F', w1, back⟩ := w.split
  exact ⟨⟨F', G⟩, ⟨G, Ex.refl G, w1, True.intro, t1⟩, fun r μ' v H' ⟨G', e1, w2, _, t3⟩ => ⟨G', e0.trans e1, back _ _ _ e1 w2, g.ex e1, t3.1, t2.ex e1⟩⟩
/-- the slots as temporaries -/
theorem ros_hold {G : Hp} : ∀ {Γ : List AV} {σ : St}, ROs K G Γ σ → RVs K G Γ (σ.map fun o => o.getD .non) ∧ ∀ G', RVs K G' Γ (σ.map fun o => o.getD .non) → ROs K G' Γ σ
  | [], [], _ => ⟨True.intro, fun _ _ => True.intro⟩
  | a :: Γ, o :: σ, ⟨h1, h2⟩ => by
    obtain ⟨i1, i2⟩ := ros_hold h2
    cases a with
    | un => exact ⟨⟨True.intro, i1⟩, fun G' h => ⟨True.intro, i2 G' h.2⟩⟩
    | dat d =>
      obtain ⟨v, rfl, r⟩ := h1
      exact ⟨⟨r, i1⟩, fun G' h => ⟨⟨v, rfl, h.1⟩, i2 G' h.2⟩⟩
    | val u =>
      have h1 : o = some u := h1
      subst h1
      exact ⟨⟨rfl, i1⟩, fun G' h => ⟨rfl, i2 G' h.2⟩⟩
  | [], _ :: _, h => h.elim
  | _ :: _, [], h => h.elim
end

section
variable {X : Cx} {B : Tb} {Γ : List AV} {μ ν : Mem} {P : AV → Mem → Prop} {e tg iter elt : Expr} {pos p : Pos}
theorem EJ.frame (h : EJ X B e Γ μ P) : EJ X B e Γ (μ ++ ν) fun r μ' => ∃ μ1, μ' = μ1 ++ ν ∧ P r μ1 := fun Z τ σ xs H Q s k => by
  obtain ⟨Z', s1, back⟩ := s.frame
  exact h Z' τ σ xs H Q s1 fun r μ' v H' q s2 => k r _ v H' ⟨μ', rfl, q⟩ (back _ _ _ _ _ _ s2)
theorem TsJ.frame {ifs : List Expr} {Pb : Bool → Mem → Prop} (h : TsJ X B ifs Γ μ Pb) : TsJ X B ifs Γ (μ ++ ν) fun r μ' => ∃ μ1, μ' = μ1 ++ ν ∧ Pb r μ1 := fun Z τ σ xs H Q s k => by
  obtain ⟨Z', s1, back⟩ := s.frame
  exact h Z' τ σ xs H Q s1 fun r μ' H' q s2 => k r _ H' ⟨μ', rfl, q⟩ (back _ _ _ _ _ _ s2)

/-! ### a comprehension's targets: only the slots vs -/
def CT (X : Cx) (B : Tb) (tg : Expr) (r : AV) (Γ Γ' : List AV) (vs : List Nat) : Prop :=
  ∀ (Z : Zs) (τ : List AV) (μ : Mem) (σ : St) (v : V) (xs : List V) (H : Hp) (Q : St → Hp → Prop), SA X.K B Z Γ (r :: τ) μ σ (v :: xs) H →
    (∀ σ' : St, (∀ j, j ∉ vs → σ'[j]? = σ[j]?) → σ'.length = σ.length → SA X.K B Z Γ' τ μ σ' xs H → Q σ' H) → WG X tg v σ H Q
def CTs (X : Cx) (B : Tb) (tg : List Expr) (rs : List AV) (Γ Γ' : List AV) (vs : List Nat) : Prop :=
  ∀ (Z : Zs) (τ : List AV) (μ : Mem) (σ : St) (us xs : List V) (H : Hp) (Q : St → Hp → Prop), rs.length = us.length → SA X.K B Z Γ (rs ++ τ) μ σ (us ++ xs) H →
    (∀ σ' : St, (∀ j, j ∉ vs → σ'[j]? = σ[j]?) → σ'.length = σ.length → SA X.K B Z Γ' τ μ σ' xs H → Q σ' H) → WGs X tg us σ H Q
theorem ct_name {r : AV} {x : Str} {vs : List Nat} (i : Nat) (hm : i ∈ vs) (hN : X.N.Nodup) (hi : X.N[i]? = some x := by rfl) (hx : Loc X.env.scope x := by first | exact Or.inl rfl | exact Or.inr rfl) (hf : X.fn x = true ∨ X.env.scope.names.lookup x = some .local := by first | exact .inl rfl | exact .inr rfl) :
    CT X B (.Name x pos) r Γ (Γ.set i r) vs := fun Z τ μ σ v xs H Q s k => ⟨_, pg_name hN hi hx hf, k _ (fun j hj => by rw [List.getElem?_set_ne (fun z => hj (by rw [← z]; exact hm))]) (by simp) s.store⟩
theorem cts_nil {vs : List Nat} : CTs X B [] [] Γ Γ vs := fun Z τ μ σ us xs H Q l s k => by
  cases us with
  | cons v us => simp at l
  | nil => exact ⟨_, pgs_nil, rfl, k σ (fun _ _ => rfl) rfl s⟩
theorem cts_cons {r : AV} {rs : List AV} {es : List Expr} {Γ1 Γ2 : List AV} {vs : List Nat} (h : CT X B e r Γ Γ1 vs) (h2 : CTs X B es rs Γ1 Γ2 vs) (hs : (assignEach (e :: es) X.env).map (·.2) = assign e X.env :: (assignEach es X.env).map (·.2) := by rfl) : CTs X B (e :: es) (r :: rs) Γ Γ2 vs := fun Z τ μ σ us xs H Q l s k => by
  cases us with
  | nil => simp at l
  | cons v us => exact ⟨_, pgs_cons wg wgs hs, v, us, rfl, h Z (rs ++ τ) μ σ v (us ++ xs) H _ s fun σ1 a1 b1 s1 => h2 Z τ μ σ1 us xs H Q (by simpa using l) s1 fun σ2 a2 b2 s2 => k σ2 (fun j hj => (a2 j hj).trans (a1 j hj)) (b2.trans b1) s2⟩
theorem ct_tup {ds : List D} {n k0 : Nat} {es : List Expr} {Γ' : List AV} {vs : List Nat} (hl : ds.length = n) (h : CTs X B es (ds.map .dat) Γ Γ' vs) (hc : X.calm = true := by rfl) (hn : (assignEach es X.env).length = n := by rfl) (hst : (assignEach es X.env).findIdx? (·.1) = none := by rfl) :
    CT X B (.Tuple es k0 pos) (.dat (.tup ds)) Γ Γ' vs := fun Z τ μ σ v xs H Q s k => by
  obtain ⟨G, e0, w, g, t1, t2⟩ := s
  cases t1 with
  | tup h1 h2 =>
    rename_i a vs
    have hv : ∀ {ds : List D} {vs : List V}, RAll X.K G ds vs → RVs X.K G (ds.map .dat) vs := by
      intro ds
      induction ds with
      | nil => intro vs h; cases h; trivial
      | cons d ds ih =>
        intro vs h
        cases h with
        | cons a b => exact ⟨a, ih b⟩
    exact ⟨_, pg_tup hc wgs hn hst, a, vs, rfl, SqT.of (w.sub _ _ h1), by rw [← h2.length]; exact hl, h Z τ μ σ vs xs H Q (by rw [List.length_map]; exact h2.length) ⟨G, e0, w, g, (hv h2).app t2⟩ k⟩
theorem wipe_get (σ : St) : ∀ (vs : List Nat) (i : Nat), (wipe σ vs)[i]? = if i ∈ vs then (σ[i]?).map (fun _ => none) else σ[i]?
  | [], i => by simp [wipe]
  | v :: vs, i => by
    unfold wipe
    by_cases h : v = i
    · subst h
      rw [if_pos (by simp)]
      by_cases hl : v < σ.length
      · rw [List.getElem?_set_self (by rw [wipe_length]; exact hl), List.getElem?_eq_getElem hl] <;> rfl
      · rw [List.getElem?_eq_none (by rw [List.length_set, wipe_length]; omega), List.getElem?_eq_none (by omega)]
        rfl
    · rw [List.getElem?_set_ne h, wipe_get σ vs i]
      have e : (i ∈ v :: vs) ↔ i ∈ vs := by simp [Ne.symm h]
      by_cases hm : i ∈ vs
      · rw [if_pos hm, if_pos (e.mpr hm)]
      · rw [if_neg hm, if_neg fun z => hm (e.mp z)]
theorem wipe_eq {σ σ' : St} {vs : List Nat} (h : ∀ j, j ∉ vs → σ'[j]? = (wipe σ vs)[j]?) (l : σ'.length = (wipe σ vs).length) : wipe σ' vs = wipe σ vs := by
  apply List.ext_getElem?
  intro i
  rw [wipe_get, wipe_get]
  by_cases hm : i ∈ vs
  · rw [if_pos hm, if_pos hm]
    rw [wipe_length] at l
    by_cases hi : i < σ.length
    · rw [List.getElem?_eq_getElem hi, List.getElem?_eq_getElem (by omega)] <;> rfl
    · rw [List.getElem?_eq_none (by omega), List.getElem?_eq_none (by omega)]
  · rw [if_neg hm, if_neg hm, h i hm, wipe_get, if_neg hm]

/-- the block of a comprehension -/
abbrev bk (X : Cx) (scope : Scope) (s : Shared) (H : Hp) (C : Addr) (cl : List (Str × Addr)) (fp : List Addr) : Cx := X.blk s H scope (compEnvC scope cl C X.env) fp
def gB (X : Cx) (scope : Scope) (tg : Expr) : TG := fun v σ H Q => ∀ (s : Shared) (H0 : Hp) (C : Addr) (cl : List (Str × Addr)) (fp : List Addr), WG (bk X scope s H0 C cl fp) tg v σ H Q
def tB' (X : Cx) (scope : Scope) (ifs : List Expr) : TT := fun σ H Q => ∀ (s : Shared) (H0 : Hp) (C : Addr) (cl : List (Str × Addr)) (fp : List Addr), WTs (bk X scope s H0 C cl fp) ifs σ H Q
def eB (X : Cx) (scope : Scope) (elt : Expr) : TE := fun σ H Q => ∀ (s : Shared) (H0 : Hp) (C : Addr) (cl : List (Str × Addr)) (fp : List Addr), WE (bk X scope s H0 C cl fp) elt σ H Q
/-- one turn, from the i-th item -/
structure LcTurn (X : Cx) (B : Tb) (tg elt : Expr) (ifs : List Expr) (scope : Scope) (vs : List Nat) (Γ : List AV) (d : D) (μ : Mem) (R : Option D → Mem → Prop) : Prop where
  ex : ∃ Γ3, (∀ s H C cl fp, CT (bk X scope s H C cl fp) B tg (.dat d) (wipeA Γ vs) Γ3 vs) ∧ (∀ s H C cl fp, TsJ (bk X scope s H C cl fp) B ifs Γ3 μ fun b μ4 => cond b (∀ s H C cl fp, EJ (bk X scope s H C cl fp) B elt Γ3 μ4 fun r μ5 => ∃ d', r = .dat d' ∧ R (some d') μ5) (R none μ4))
theorem lc_read {ifs : List Expr} {scope : Scope} {vs : List Nat} (Inv : List D → Nat → List D → Mem → Prop)
    (h : IJ X B tg iter Γ μ fun ds μ1 => ds.length ≤ 1000000 ∧ Inv ds 0 [] μ1 ∧ (∀ i d acc μ2, ds[i]? = some d → acc.length ≤ i → Inv ds i acc μ2 → LcTurn X B tg elt ifs scope vs Γ d μ2 fun o μ3 => Inv ds (i + 1) (acc ++ o.toList) μ3) ∧ ∀ acc μ2, Inv ds ds.length acc μ2 → P (.dat (.lst acc)) μ2)
    (Z : Zs) (τ : List AV) (σ : St) (xs : List V) (H : Hp) (Q : VK) (s : SA X.K B Z Γ τ μ σ xs H) (k : ∀ r μ' v H', P r μ' → SA X.K B Z Γ (r :: τ) μ' σ (v :: xs) H' → Q v H') :
    tLc (WI X tg iter) (gB X scope tg) (tB' X scope ifs) (eB X scope elt) vs σ H Q := by
  refine h Z τ σ xs H _ s fun ds μ1 ρ us J H1 ⟨hz, i0, step, done⟩ l hw s1 Dl hD => ?_
  have hlen : Γ.length = (σ.map fun o => o.getD .non).length := by rw [List.length_map]; exact s.lens
  have s2 : SA X.K B Z Γ (ρ ++ (Γ ++ τ)) (μ1 ++ [(Dl, .lst [])]) σ (us ++ ((σ.map fun o => o.getD .non) ++ xs)) (upd H1 Dl (.lst [])) := by
    obtain ⟨G, e0, w, g, t⟩ := s1
    obtain ⟨t1, t2⟩ := RVs.split l t
    exact ⟨G, e0, w.newM hD .nil, g, t1.app ((ros_hold g).1.app t2)⟩
  have hback : ∀ {σ' : St} {Γ' : List AV} {μ' : Mem} {H' : Hp}, SA X.K B Z Γ' (ρ ++ (Γ ++ τ)) μ' σ' (us ++ ((σ.map fun o => o.getD .non) ++ xs)) H' → SA X.K B Z Γ (ρ ++ (Γ ++ τ)) μ' σ (us ++ ((σ.map fun o => o.getD .non) ++ xs)) H' := fun {σ' Γ' μ' H'} ⟨G, e0, w, g, t⟩ => by
    obtain ⟨t1, t2⟩ := RVs.split l t
    obtain ⟨t3, t4⟩ := RVs.split hlen t2
    obtain ⟨G1, _, _, g1, _⟩ := s
    exact ⟨G, e0, w, (ros_hold g1).2 G t3, t⟩
  refine ⟨fun i m H => m = ds.length - i ∧ i ≤ ds.length ∧ ∃ acc μ2, acc.length ≤ i ∧ Inv ds i acc μ2 ∧ SA X.K B Z Γ (ρ ++ (Γ ++ τ)) (μ2 ++ [(Dl, .lst acc)]) σ (us ++ ((σ.map fun o => o.getD .non) ++ xs)) H, ⟨ds.length, by simp, Nat.zero_le _, [], μ1, Nat.le_refl _, i0, s2⟩, ?_⟩
  rintro i m H2 ⟨rfl, hi, acc, μ2, hacc, inv, s3⟩
  obtain ⟨w1, w2, w3⟩ := hw B Z (wipeA Γ vs) (Γ ++ τ) (μ2 ++ [(Dl, .lst acc)]) (wipe σ vs) ((σ.map fun o => o.getD .non) ++ xs) H2 (by
    obtain ⟨G, e0, w, g, t⟩ := s3
    exact ⟨G, e0, w, ros_wipe g vs, t⟩)
  by_cases hlt : i < ds.length
  · refine .inr ⟨w1 i hlt, fun H' => ∃ acc μ2, acc.length ≤ i + 1 ∧ Inv ds (i + 1) acc μ2 ∧ SA X.K B Z Γ (ρ ++ (Γ ++ τ)) (μ2 ++ [(Dl, .lst acc)]) σ (us ++ ((σ.map fun o => o.getD .non) ++ xs)) H', fun H' q => ⟨ds.length - (i + 1), by omega, rfl, hlt, q⟩, fun x H' hy => ?_⟩
    obtain ⟨d, hd, s4⟩ := w3 i x H' hlt hy
    obtain ⟨Γ3, ht, hts⟩ := (step i d acc μ2 hd hacc inv).ex
    intro ss HH C cl fp
    refine ht ss HH C cl fp Z _ _ _ _ _ _ _ s4 fun σ2 a1 a2 s5 => ⟨wipe_eq a1 a2, ?_⟩
    intro ss HH C cl fp
    refine (hts ss HH C cl fp).frame Z _ _ _ _ _ s5 fun b μ4 H3 ⟨μ4', e4, q4⟩ s6 => ?_
    subst e4
    cases b with
    | false =>
      rw [if_neg Bool.false_ne_true]
      have q4' : Inv ds (i + 1) (acc ++ []) μ4' := q4
      rw [List.append_nil] at q4'
      exact ⟨acc, μ4', by omega, q4', hback s6⟩
    | true =>
      rw [if_pos rfl]
      intro ss HH C cl fp
      have q4' : ∀ s H C cl fp, EJ (bk X scope s H C cl fp) B elt Γ3 μ4' fun r μ5 => ∃ d', r = .dat d' ∧ Inv ds (i + 1) (acc ++ [d']) μ5 := q4
      refine (q4' ss HH C cl fp).frame Z _ _ _ _ _ s6 fun r μ5 y H4 ⟨μ5', e5, d', er, q5⟩ s7 => ?_
      subst e5
      subst er
      obtain ⟨G, e0, w, g, t1, t2⟩ := s7
      have hj : (μ5' ++ [(Dl, D.lst acc)])[μ5'.length]? = some (Dl, D.lst acc) := by simp
      obtain ⟨g1, g2, o, g3, g4⟩ := w.mem _ _ _ hj
      cases o <;> first
        | exact g4.elim
        | skip
      rename_i accV
      have g4' : RAll X.K G acc accV := g4
      have w' := w.write (d' := .lst (acc ++ [d'])) (o := .lst (accV ++ [y])) hj (g4'.append (.cons t1 .nil))
      have es : (μ5' ++ [(Dl, D.lst acc)]).set μ5'.length (Dl, D.lst (acc ++ [d'])) = μ5' ++ [(Dl, D.lst (acc ++ [d']))] := by simp
      rw [es] at w'
      refine ⟨accV, g3, ?_, acc ++ [d'], μ5', by simp; omega, q5, hback ⟨G, e0, w', g, t2⟩⟩
      rw [← g4'.length]
      exact Nat.lt_of_le_of_lt (Nat.le_trans hacc (Nat.le_trans hi hz)) (by decide)
  · have e : i = ds.length := by omega
    subst e
    refine .inl ⟨w2, k _ μ2 _ _ (done acc μ2 inv) ?_⟩
    obtain ⟨G, e0, w, g, t⟩ := s3
    obtain ⟨t1, t2⟩ := RVs.split l t
    obtain ⟨t3, t4⟩ := RVs.split hlen t2
    exact SA.freezeT ⟨G, e0, w, g, rfl, t4⟩
theorem ej_lc {ifs : List Expr} {scope : Scope} {own : List (Str × Nat)} (Inv : List D → Nat → List D → Mem → Prop) (hN : X.N.Nodup) (ok : BlkOk X.N X.env.scope scope own)
    (h : IJ X B tg iter Γ μ fun ds μ1 => ds.length ≤ 1000000 ∧ Inv ds 0 [] μ1 ∧ (∀ i d acc μ2, ds[i]? = some d → acc.length ≤ i → Inv ds i acc μ2 → LcTurn X B tg elt ifs scope (own.map (·.2)) Γ d μ2 fun o μ3 => Inv ds (i + 1) (acc ++ o.toList) μ3) ∧ ∀ acc μ2, Inv ds ds.length acc μ2 → P (.dat (.lst acc)) μ2)
    (hc : X.calm = true := by rfl) (hs : ∀ x, foldedSetIterable iter X.env x = pure x := by intro _; rfl) : EJ X B (.ListComp elt [⟨tg, iter, ifs, 0⟩] scope pos) Γ μ P := fun Z τ σ xs H Q s k =>
  PE.w (pe_lc (wi := WI X tg iter) (g := gB X scope tg) (tt := tB' X scope ifs) (te := eB X scope elt) hc hN wi ok (fun s H C cl fp => ⟨fun pins s' σ H' v u Q I r h => (wg (X := bk X scope s H C cl fp)).run pins s' σ H' v u Q I r (h s H C cl fp)⟩)
    (fun s H C cl fp => ⟨fun pins s' σ H' Q I h => (wts (X := bk X scope s H C cl fp)).run pins s' σ H' Q I (h s H C cl fp)⟩) (fun s H C cl fp => ⟨fun pins s' σ H' Q I h => (we (X := bk X scope s H C cl fp)).run pins s' σ H' Q I (h s H C cl fp)⟩) hs) (lc_read Inv h Z τ σ xs H Q s k)
theorem sj_setLc {A : AE} {i : Nat} {y : Str} {py spos : Pos} {ifs : List Expr} {scope : Scope} {own : List (Str × Nat)} (Inv : List D → Nat → List D → Mem → Prop) (hN : X.N.Nodup) (ok : BlkOk X.N X.env.scope scope own)
    (h : IJ X B tg iter Γ μ fun ds μ1 => ds.length ≤ 1000000 ∧ Inv ds 0 [] μ1 ∧ (∀ i d acc μ2, ds[i]? = some d → acc.length ≤ i → Inv ds i acc μ2 → LcTurn X B tg elt ifs scope (own.map (·.2)) Γ d μ2 fun o μ3 => Inv ds (i + 1) (acc ++ o.toList) μ3) ∧ ∀ acc μ2, Inv ds ds.length acc μ2 → A.nx (Γ.set i (.dat (.lst acc))) μ2)
    (hsw : swapsWith (.ListComp elt [⟨tg, iter, ifs, 0⟩] scope pos) (some (.Name y py)) spos.line X.env = pure true) (hy : X.N[i]? = some y := by rfl) (hyl : X.env.scope.names.lookup y = some .local := by rfl) (hc : X.calm = true := by rfl) (hs : ∀ x, foldedSetIterable iter X.env x = pure x := by intro _; rfl) :
    SJ X B (.Assign [.Name y py] (.ListComp elt [⟨tg, iter, ifs, 0⟩] scope pos) spos) Γ μ A := fun Z τ σ xs H D s k =>
  ⟨_, ps_setLc (wi := WI X tg iter) (g := gB X scope tg) (tt := tB' X scope ifs) (te := eB X scope elt) hc hN hy hyl hsw wi ok (fun s H C cl fp => ⟨fun pins s' σ H' v u Q I r h => (wg (X := bk X scope s H C cl fp)).run pins s' σ H' v u Q I r (h s H C cl fp)⟩)
    (fun s H C cl fp => ⟨fun pins s' σ H' Q I h => (wts (X := bk X scope s H C cl fp)).run pins s' σ H' Q I (h s H C cl fp)⟩) (fun s H C cl fp => ⟨fun pins s' σ H' Q I h => (we (X := bk X scope s H C cl fp)).run pins s' σ H' Q I (h s H C cl fp)⟩) hs,
    lc_read (P := fun r μ' => A.nx (Γ.set i r) μ') Inv h Z τ σ xs H _ s fun r μ' v H' q s1 => k.nx _ _ _ _ q s1.store⟩

/-! ### defs -/
/-- what a def does, told of abstract values: the arguments, the memory it touches, what is wanted -/
abbrev Ab := List AV → Mem → (AV → Mem → Prop) → Prop
def spOf (K : PySem.W.Frag) (B : Tb) (a : Ab) : Sp := fun vs H Q _ => ∃ (Z : Zs) (μ : Mem) (as : List AV), SA K B Z [] as μ [] vs H ∧ a as μ fun r μ' => ∀ v H', SA K B Z [] [r] μ' [] [v] H' → Q v H'
def Mono (a : Ab) : Prop := ∀ (as : List AV) (μ : Mem) (P P' : AV → Mem → Prop), (∀ r μ', P r μ' → P' r μ') → a as μ P → a as μ P'
/-- a def as it stands: its object, its promise -/
structure Df (P : Program) (w : World) (K : PySem.W.Frag) (mg : Str → Option Value) (base : Heap) (B : Tb) (x : Str) (k : Nat) (ps : List Str) (a : Ab) : Prop where
  ex : ∃ (f : Addr) (fd : FuncData), FnOk P w K mg base CX0 k f fd ps (spOf K B a) ∧ mg x = some (.ref f) ∧ PySem.W.keepIn K (.ref f) = true ∧ Binds K fd ps []
  mono : Mono a
theorem ej_call {a : Ab} {k : Nat} {ps : List Str} {x : Str} {es : List Expr} (F : Df X.prog X.w X.K X.mg X.base B x k ps a) (hr : Room k X.A)
    (h : AJ X B (e :: es) Γ μ fun rs μ1 => ∃ μa μb, μ1 = μa ++ μb ∧ a rs μa fun r μ' => P r (μ' ++ μb)) (hg : Gl X x := by rfl) (hdb : (x == ("__debug__" : Str)) = false := by decide) (he : starEach (e :: es) X.env = (false, eval e X.env) :: starEach es X.env := by rfl) (hpl : (backTo pos (starEach es X.env)).any (·.1) = false := by rfl) :
    EJ X B (.Call (.Name x p) (e :: es) [] pos) Γ μ P := fun Z τ σ xs H Q s q => by
  obtain ⟨f, fd, G, hm, hk, hb⟩ := F.ex
  exact PE.w (pe_call G hr hg hm hk hb .nil pass0 wa hdb he hpl) (h Z τ σ xs H _ s fun rs μ1 vs H1 ⟨μa, μb, e1, q1⟩ l s1 => by
    subst e1
    obtain ⟨Z', s2, back⟩ := s1.call l
    rw [List.append_nil]
    exact ⟨Z', μa, rs, s2, F.mono _ _ _ _ (fun r μ' p v H' s3 => q r _ v H' p (back r μ' v H' s3)) q1⟩)
end
/-- THE RULE of a def: its body, told abstractly -/
theorem df_mk {P : Program} {w : World} {K : PySem.W.Frag} {mg : Str → Option Value} {base : Heap} {B : Tb} {x : Str} {st : Stmt} {f : Addr} {fd : FuncData} {N ps : List Str} {k : Nat} {a : Ab} (F : Fun K x x st f fd) (S : FnScope N ps (defScope st)) (mono : Mono a)
    (hm : mg x = some (.ref f)) (hb : Binds K fd ps []) (len : ∀ as μ P, a as μ P → as.length = ps.length)
    (body : ∀ (cdv : Value) (A : Around) (outer : List Env) (s : Shared) (H : Hp) (E : XK) (as : List AV) (μ : Mem) (Pp : AV → Mem → Prop), (∃ (oc : Value) (od : Option Addr) (kV doc pm : Value) (an : Option Addr) (ct : Value) (osl : Array (Option Value)), K.lookup f = some ⟨oc, od, .func (PySem.W.fnOf x x (defArgs st) (defBody st) (defScope st) .none kV doc pm an cdv ct), osl⟩) →
      Room k (A.deeper (envOfC x (defScope st) s.heap.objs.size f cdv)) → a as μ Pp →
      SsJ (cxOf CX0 P w K mg base N x (defScope st) f cdv A outer s H E).nox B (defBody st) (as ++ List.replicate (N.length - ps.length) .un) μ { nx := fun _ μ' => Pp (.dat .non) μ', rt := Pp }) :
    Df P w K mg base B x (k + 1) ps a := by
  refine ⟨⟨f, fd, ?_, hm, F.kp, hb⟩, mono⟩
  obtain ⟨oc, od, kV, doc, pm, an, cdv, ct, osl, rfl, lk, hcd⟩ := F.ex
  have hlen : ∀ vs H Q E, spOf K B a vs H Q E → vs.length = ps.length := fun vs H Q E ⟨Z, μ, as, s, h⟩ => by
    rw [← len as μ _ h]
    exact s.lenx.symm
  refine fn_of lk hcd S hlen fun A outer s H vs Q E hr hsp => ?_
  have hl := hlen _ _ _ _ hsp
  obtain ⟨Z, μ, as, s1, h⟩ := hsp
  have hb := body cdv A outer s H E as μ _ ⟨oc, od, kV, doc, pm, an, ct, osl, lk⟩ hr h
  refine ⟨_, (wss (X := (cxOf CX0 P w K mg base N x (defScope st) f cdv A outer s H E).nox)).nox, ?_⟩
  have e1 : as.length = vs.length := s1.lenx
  refine hb Z [] _ [] H _ ?_ ⟨fun Γ μ' σ' H' p s2 => ?_, fun r Γ μ' σ' v H' p s2 => p v H' s2.forget, fun _ _ _ _ p _ => p.elim, fun _ _ _ _ p _ => p.elim⟩
  · obtain ⟨G, e0, w0, g, t⟩ := s1
    refine ⟨G, e0, w0, ?_, True.intro⟩
    unfold L2.start
    rw [hl]
    exact ROs.start _ t
  · obtain ⟨G, e0, w0, g, t⟩ := s2
    exact p .non H' ⟨G, e0, w0, True.intro, .non, True.intro⟩
end K43

set_option maxHeartbeats 4000000
/-! K5: operators and built-ins on data. -/
namespace K43
open PySem PySem.Spec PyProof.Rows L2

section
variable {K : PySem.W.Frag} {μ : Mem} {P : AV → Mem → Prop} {r1 r2 : AV}
/-! ### ints -/
theorem oj_i0 {f : Int → Int → Int} (h : ∃ i j, r1 = .dat (.int i) ∧ r2 = .dat (.int j) ∧ P (.dat (.int (f i j))) μ) : OJ K (rI0 fun i j => .int (f i j)) r1 r2 μ P := fun B Z Γ τ σ x y xs H Q s k => by
  obtain ⟨i, j, rfl, rfl, p⟩ := h
  obtain ⟨G, e0, w, g, t1, t2, t3⟩ := s
  cases t1
  cases t2
  exact ⟨i, j, rfl, rfl, k _ _ _ _ p ⟨G, e0, w, g, .int _, t3⟩⟩
theorem oj_iC {C : Int → Int → Prop} {f : Int → Int → Int} (h : ∃ i j, r1 = .dat (.int i) ∧ r2 = .dat (.int j) ∧ C i j ∧ P (.dat (.int (f i j))) μ) : OJ K (rI C fun i j => .int (f i j)) r1 r2 μ P := fun B Z Γ τ σ x y xs H Q s k => by
  obtain ⟨i, j, rfl, rfl, hc, p⟩ := h
  obtain ⟨G, e0, w, g, t1, t2, t3⟩ := s
  cases t1
  cases t2
  exact ⟨i, j, rfl, rfl, hc, k _ _ _ _ p ⟨G, e0, w, g, .int _, t3⟩⟩
theorem oj_b0 {f : Int → Int → Bool} (h : ∃ i j, r1 = .dat (.int i) ∧ r2 = .dat (.int j) ∧ P (.dat (.bl (f i j))) μ) : OJ K (rI0 fun i j => .bl (f i j)) r1 r2 μ P := fun B Z Γ τ σ x y xs H Q s k => by
  obtain ⟨i, j, rfl, rfl, p⟩ := h
  obtain ⟨G, e0, w, g, t1, t2, t3⟩ := s
  cases t1
  cases t2
  exact ⟨i, j, rfl, rfl, k _ _ _ _ p ⟨G, e0, w, g, .bl _, t3⟩⟩
/-- flat data, as a value -/
def D.flat : D → Option V
  | .non => some .non
  | .bl b => some (.bl b)
  | .int i => some (.int i)
  | .str x => some (.str x)
  | _ => none
theorem R.flat {G : Hp} {d : D} {v u : V} (h : R K G d v) (e : d.flat = some u) : v = u := by
  cases h <;> first
    | (cases e; rfl)
    | cases e
/-- == and != of flat values -/
theorem oj_eq (h : ∃ d e u v, r1 = .dat d ∧ r2 = .dat e ∧ d.flat = some u ∧ e.flat = some v ∧ scal u v = true ∧ P (.dat (.bl (decide (u = v)))) μ) : OJ K rEq r1 r2 μ P := fun B Z Γ τ σ x y xs H Q s k => by
  obtain ⟨d, e, u, v, rfl, rfl, e1, e2, hs, p⟩ := h
  obtain ⟨G, e0, w, g, t1, t2, t3⟩ := s
  have h1 := R.flat t1 e2
  have h2 := R.flat t2 e1
  subst h1
  subst h2
  exact ⟨hs, k _ _ _ _ p ⟨G, e0, w, g, .bl _, t3⟩⟩
theorem oj_ne (h : ∃ d e u v, r1 = .dat d ∧ r2 = .dat e ∧ d.flat = some u ∧ e.flat = some v ∧ scal u v = true ∧ P (.dat (.bl (!decide (u = v)))) μ) : OJ K rNe r1 r2 μ P := fun B Z Γ τ σ x y xs H Q s k => by
  obtain ⟨d, e, u, v, rfl, rfl, e1, e2, hs, p⟩ := h
  obtain ⟨G, e0, w, g, t1, t2, t3⟩ := s
  have h1 := R.flat t1 e2
  have h2 := R.flat t2 e1
  subst h1
  subst h2
  exact ⟨hs, k _ _ _ _ p ⟨G, e0, w, g, .bl _, t3⟩⟩
/-- is, is not, of bools -/
theorem oj_isB (h : ∃ a b, r1 = .dat (.bl a) ∧ r2 = .dat (.bl b) ∧ P (.dat (.bl (decide (a = b)))) μ) : OJ K rIsB r1 r2 μ P := fun B Z Γ τ σ x y xs H Q s k => by
  obtain ⟨a, b, rfl, rfl, p⟩ := h
  obtain ⟨G, e0, w, g, t1, t2, t3⟩ := s
  cases t1
  cases t2
  exact ⟨a, b, rfl, rfl, k _ _ _ _ p ⟨G, e0, w, g, .bl _, t3⟩⟩
theorem oj_notB (h : ∃ a b, r1 = .dat (.bl a) ∧ r2 = .dat (.bl b) ∧ P (.dat (.bl (!decide (a = b)))) μ) : OJ K rNotB r1 r2 μ P := fun B Z Γ τ σ x y xs H Q s k => by
  obtain ⟨a, b, rfl, rfl, p⟩ := h
  obtain ⟨G, e0, w, g, t1, t2, t3⟩ := s
  cases t1
  cases t2
  exact ⟨a, b, rfl, rfl, k _ _ _ _ p ⟨G, e0, w, g, .bl _, t3⟩⟩
/-- is None, is not None -/
def D.isN : D → Bool
  | .non => true
  | _ => false
theorem R.isN {G : Hp} {d : D} {v : V} (h : R K G d v) : decide (v = .non) = d.isN := by
  cases h <;> rfl
theorem oj_isN (h : ∃ d, r1 = .dat d ∧ r2 = .dat .non ∧ P (.dat (.bl d.isN)) μ) : OJ K (fun x y H Q => y = .non ∧ Q (.bl (decide (x = .non))) H) r1 r2 μ P := fun B Z Γ τ σ x y xs H Q s k => by
  obtain ⟨d, rfl, rfl, p⟩ := h
  obtain ⟨G, e0, w, g, t1, t2, t3⟩ := s
  cases t1
  refine ⟨rfl, ?_⟩
  rw [R.isN t2]
  exact k _ _ _ _ p ⟨G, e0, w, g, .bl _, t3⟩
theorem oj_notN (h : ∃ d, r1 = .dat d ∧ r2 = .dat .non ∧ P (.dat (.bl (!d.isN))) μ) : OJ K (fun x y H Q => y = .non ∧ Q (.bl (!decide (x = .non))) H) r1 r2 μ P := fun B Z Γ τ σ x y xs H Q s k => by
  obtain ⟨d, rfl, rfl, p⟩ := h
  obtain ⟨G, e0, w, g, t1, t2, t3⟩ := s
  cases t1
  refine ⟨rfl, ?_⟩
  rw [R.isN t2]
  exact k _ _ _ _ p ⟨G, e0, w, g, .bl _, t3⟩

/-! ### == of data at any depth -/
mutual
def D.py : D → PyData
  | .non => .none
  | .bl b => .bool b
  | .int i => .int i
  | .str x => .str x
  | .lst ds => .list (D.pys ds)
  | .tup ds => .tuple (D.pys ds)
  | .dic _ _ => .none
  | .scr _ => .none
def D.pys : List D → List PyData
  | [] => []
  | d :: ds => D.py d :: D.pys ds
end
mutual
def D.plain : D → Bool
  | .lst ds => D.plains ds
  | .tup ds => D.plains ds
  | .dic _ _ => false
  | .scr _ => false
  | _ => true
def D.plains : List D → Bool
  | [] => true
  | d :: ds => D.plain d && D.plains ds
end
mutual
theorem R.dp {G H : Hp} (e : Ex G H) : ∀ (d : D) (v : V), d.plain = true → R K G d v → Dp K H v d.py
  | .non, _, _, h => by cases h; exact .non
  | .bl b, _, _, h => by cases h; exact .bl b
  | .int i, _, _, h => by cases h; exact .int i
  | .str x, _, _, h => by cases h; exact .str x
  | .lst ds, _, p, h => by
    cases h with
    | lst h1 h2 => exact .lst (SqL.of (e _ _ h1)) (RAll.dp e ds _ p h2)
  | .tup ds, _, p, h => by
    cases h with
    | tup h1 h2 => exact .tup (SqT.of (e _ _ h1)) (RAll.dp e ds _ p h2)
  | .dic _ _, _, p, _ => by cases p
  | .scr _, _, p, _ => by cases p
theorem RAll.dp {G H : Hp} (e : Ex G H) : ∀ (ds : List D) (vs : List V), D.plains ds = true → RAll K G ds vs → DpAll K H vs (D.pys ds)
  | [], _, _, h => by cases h; exact .nil
  | d :: ds, _, p, h => by
    cases h with
    | cons h1 h2 =>
      have p' : (D.plain d && D.plains ds) = true := p
      rw [Bool.and_eq_true] at p'
      exact .cons (R.dp e d _ p'.1 h1) (RAll.dp e ds _ p'.2 h2)
end
/-- data, or a list that may be changed -/
theorem den_dp {T : Tb} {F G H : Hp} {d : D} {r : AV} {x : V} (w : Wd K T F μ G H) (h : Den μ r d) (q : RV K G r x) (p : d.plain = true) : Dp K H x d.py := by
  cases h with
  | dat => exact R.dp w.sub d x p q
  | mem h =>
    obtain ⟨_, _, o, h1, h2⟩ := w.mem _ _ _ h
    have q : x = _ := q
    subst q
    cases d <;> cases o <;> first
      | exact h2.elim
      | exact .lst (SqL.of h1) (RAll.dp w.sub _ _ p h2)
      | cases p
theorem oj_eqD (h : ∃ d e, Den μ r1 d ∧ Den μ r2 e ∧ d.plain = true ∧ e.plain = true ∧ SeqAt.shaped d.py = true ∧ SeqAt.shaped e.py = true ∧ P (.dat (.bl (PyData.eqv d.py e.py))) μ) : OJ K (rEqD K) r1 r2 μ P := fun B Z Γ τ σ x y xs H Q s k => by
  obtain ⟨d, e, h1, h2, p1, p2, s1, s2, p⟩ := h
  obtain ⟨G, e0, w, g, t1, t2, t3⟩ := s
  exact ⟨d.py, e.py, den_dp w h1 t2 p1, den_dp w h2 t1 p2, s1, s2, k _ _ _ _ p ⟨G, e0, w, g, .bl _, t3⟩⟩
theorem oj_neD (h : ∃ d e, Den μ r1 d ∧ Den μ r2 e ∧ d.plain = true ∧ e.plain = true ∧ SeqAt.shaped d.py = true ∧ SeqAt.shaped e.py = true ∧ P (.dat (.bl (!PyData.eqv d.py e.py))) μ) : OJ K (rNeD K) r1 r2 μ P := fun B Z Γ τ σ x y xs H Q s k => by
  obtain ⟨d, e, h1, h2, p1, p2, s1, s2, p⟩ := h
  obtain ⟨G, e0, w, g, t1, t2, t3⟩ := s
  exact ⟨d.py, e.py, den_dp w h1 t2 p1, den_dp w h2 t1 p2, s1, s2, k _ _ _ _ p ⟨G, e0, w, g, .bl _, t3⟩⟩

/-! ### texts, lists, tuples -/
theorem oj_addS (h : ∃ a b, r1 = .dat (.str a) ∧ r2 = .dat (.str b) ∧ a.length + b.length ≤ sizeLine ∧ P (.dat (.str (a ++ b))) μ) : OJ K (fun x y H Q => ∃ i j, x = .str i ∧ y = .str j ∧ i.length + j.length ≤ sizeLine ∧ Q (.str (i ++ j)) H) r1 r2 μ P := fun B Z Γ τ σ x y xs H Q s k => by
  obtain ⟨a, b, rfl, rfl, hl, p⟩ := h
  obtain ⟨G, e0, w, g, t1, t2, t3⟩ := s
  cases t1
  cases t2
  exact ⟨a, b, rfl, rfl, hl, k _ _ _ _ p ⟨G, e0, w, g, .str _, t3⟩⟩
theorem oj_cat (h : ∃ ds es, Den μ r1 (.lst ds) ∧ Den μ r2 (.lst es) ∧ ds.length + es.length ≤ sizeLine ∧ P (.dat (.lst (ds ++ es))) μ) : OJ K rCat r1 r2 μ P := fun B Z Γ τ σ x y xs H Q s k => by
  obtain ⟨ds, es, h1, h2, hl, p⟩ := h
  obtain ⟨G, e0, w, g, t1, t2, t3⟩ := s
  obtain ⟨a, vs, rfl, a1, a2⟩ := den_lst w h1 t2
  obtain ⟨b, us, rfl, b1, b2⟩ := den_lst w h2 t1
  refine ⟨a, b, vs, us, rfl, rfl, a1, b1, ?_, fun q hq => k _ _ _ _ p (SA.newLst hq ⟨G, e0, w, g, t3, a2.append b2⟩)⟩
  rw [← a2.length, ← b2.length]
  exact hl
theorem oj_catT (h : ∃ ds es, r1 = .dat (.tup ds) ∧ r2 = .dat (.tup es) ∧ ds.length + es.length ≤ sizeLine ∧ P (.dat (.tup (ds ++ es))) μ) : OJ K (rCatA K) r1 r2 μ P := fun B Z Γ τ σ x y xs H Q s k => by
  obtain ⟨ds, es, rfl, rfl, hl, p⟩ := h
  obtain ⟨G, e0, w, g, t1, t2, t3⟩ := s
  cases t1 with
  | tup b1 b2 =>
    cases t2 with
    | tup a1 a2 =>
      rename_i b us a vs
      refine ⟨a, b, vs, us, rfl, rfl, SqT.of (w.sub _ _ a1), SqT.of (w.sub _ _ b1), ?_, fun e => ?_, fun _ e => ?_, fun _ _ q hq => ?_⟩
      · rw [← a2.length, ← b2.length]
        exact hl
      · subst e
        cases a2
        exact k _ _ _ _ p ⟨G, e0, w, g, .tup b1 b2, t3⟩
      · subst e
        cases b2
        rw [List.append_nil] at p
        exact k _ _ _ _ p ⟨G, e0, w, g, .tup a1 a2, t3⟩
      · exact k _ _ _ _ p (SA.newTup ⟨G, e0, w, g, t3⟩ hq (fun _ _ => True.intro) ⟨G, e0, w, g, t3, a2.append b2⟩)
theorem atI_rall {G : Hp} {ds : List D} {vs : List V} {i : Int} {d : D} (h : RAll K G ds vs) (e : atI ds i = some d) : ∃ v, atI vs i = some v ∧ R K G d v := by
  unfold atI at e ⊢
  rw [h.length] at e
  cases q : ixN vs.length i with
  | none => rw [q] at e; cases e
  | some j =>
    rw [q] at e
    exact h.get e
theorem oj_ixL (h : ∃ ds i d, Den μ r1 (.lst ds) ∧ r2 = .dat (.int i) ∧ atI ds i = some d ∧ P (.dat d) μ) : OJ K (rIxL K) r1 r2 μ P := fun B Z Γ τ σ x y xs H Q s k => by
  obtain ⟨ds, i, d, h1, rfl, he, p⟩ := h
  obtain ⟨G, e0, w, g, t1, t2, t3⟩ := s
  cases t1
  obtain ⟨a, vs, rfl, a1, a2⟩ := den_lst w h1 t2
  obtain ⟨v, e1, r⟩ := atI_rall a2 he
  exact ⟨a, vs, i, v, rfl, rfl, SqL.of a1, e1, k _ _ _ _ p ⟨G, e0, w, g, r, t3⟩⟩
theorem oj_ixT (h : ∃ ds i d, r1 = .dat (.tup ds) ∧ r2 = .dat (.int i) ∧ atI ds i = some d ∧ P (.dat d) μ) : OJ K (rIxT K) r1 r2 μ P := fun B Z Γ τ σ x y xs H Q s k => by
  obtain ⟨ds, i, d, rfl, rfl, he, p⟩ := h
  obtain ⟨G, e0, w, g, t1, t2, t3⟩ := s
  cases t1
  cases t2 with
  | tup a1 a2 =>
    obtain ⟨v, e1, r⟩ := atI_rall a2 he
    exact ⟨_, _, i, v, rfl, rfl, SqT.of (w.sub _ _ a1), e1, k _ _ _ _ p ⟨G, e0, w, g, r, t3⟩⟩
theorem oj_ixS (h : ∃ z i c, r1 = .dat (.str z) ∧ r2 = .dat (.int i) ∧ z.length ≤ sizeLine ∧ atI z.cps.toList i = some c ∧ P (.dat (.str ⟨#[c]⟩)) μ) : OJ K rIxS r1 r2 μ P := fun B Z Γ τ σ x y xs H Q s k => by
  obtain ⟨z, i, c, rfl, rfl, hz, he, p⟩ := h
  obtain ⟨G, e0, w, g, t1, t2, t3⟩ := s
  cases t1
  cases t2
  exact ⟨z, i, c, rfl, rfl, hz, he, k _ _ _ _ p ⟨G, e0, w, g, .str _, t3⟩⟩
/-- a text in a list of texts -/
theorem flat_strsV : ∀ ns : List Str, (ns.map V.str).all flatV = true
  | [] => rfl
  | n :: ns => by rw [List.map_cons, List.all_cons, flat_strsV ns]; rfl
theorem inV_strs (x : Str) : ∀ ns : List Str, inV (.str x) (ns.map V.str) = decide (x ∈ ns)
  | [] => by simp [inV]
  | n :: ns => by
    have ih := inV_strs x ns
    unfold inV at ih ⊢
    rw [List.map_cons, List.any_cons, ih]
    show ((n == x) || decide (x ∈ ns)) = decide (x ∈ n :: ns)
    by_cases h : n = x
    · subst h
      simp
    · have h2 : ¬ x = n := fun z => h z.symm
      simp [h, h2]
theorem oj_inL (h : ∃ (x : Str) (ns : List Str), r1 = .dat (.str x) ∧ Den μ r2 (.lst (ns.map D.str)) ∧ P (.dat (.bl (decide (x ∈ ns)))) μ) : OJ K (rIn K false) r1 r2 μ P := fun B Z Γ τ σ x y xs H Q s k => by
  obtain ⟨z, ns, rfl, h2, p⟩ := h
  obtain ⟨G, e0, w, g, t1, t2, t3⟩ := s
  cases t2
  obtain ⟨b, us, rfl, b1, b2⟩ := den_lst w h2 t1
  have e := b2.strs
  subst e
  refine ⟨b, _, rfl, .inl (SqL.of b1), rfl, flat_strsV ns, ?_⟩
  rw [if_neg Bool.false_ne_true, inV_strs]
  exact k _ _ _ _ p ⟨G, e0, w, g, .bl _, t3⟩
/-! ### built-ins by their names -/
theorem one_inv {A : Type} {r : A} {us : List V} (l : [r].length = us.length) : ∃ u, us = [u] := by
  match us, l with
  | [u], _ => exact ⟨u, rfl⟩
theorem two_inv {A : Type} {r q : A} {us : List V} (l : [r, q].length = us.length) : ∃ u v, us = [u, v] := by
  match us, l with
  | [u, v], _ => exact ⟨u, v, rfl⟩
variable {rs : List AV}
theorem cj_abs (h : ∃ i, rs = [.dat (.int i)] ∧ P (.dat (.int (if i < 0 then -i else i))) μ) : CJ K (fun xs H Q => ∃ i, xs = [.int i] ∧ Q (.int (if i < 0 then -i else i)) H) rs μ P := fun B Z Γ τ σ vs xs H Q l s k => by
  obtain ⟨i, rfl, p⟩ := h
  obtain ⟨u, rfl⟩ := one_inv l
  obtain ⟨G, e0, w, g, t1, t3⟩ := s
  cases t1
  exact ⟨i, rfl, k _ _ _ _ p ⟨G, e0, w, g, .int _, t3⟩⟩
theorem cj_int (h : ∃ b, rs = [.dat (.bl b)] ∧ P (.dat (.int (if b then 1 else 0))) μ) : CJ K (fun xs H Q => (∃ i, xs = [.int i] ∧ Q (.int i) H) ∨ ∃ k, xs = [.bl k] ∧ Q (.int (if k then 1 else 0)) H) rs μ P := fun B Z Γ τ σ vs xs H Q l s k => by
  obtain ⟨i, rfl, p⟩ := h
  obtain ⟨u, rfl⟩ := one_inv l
  obtain ⟨G, e0, w, g, t1, t3⟩ := s
  cases t1
  exact .inr ⟨i, rfl, k _ _ _ _ p ⟨G, e0, w, g, .int _, t3⟩⟩
theorem cj_max2 (h : ∃ i j, rs = [.dat (.int i), .dat (.int j)] ∧ P (.dat (.int (if j > i then j else i))) μ) : CJ K (fun xs H Q => ∃ i j, xs = [.int i, .int j] ∧ Q (.int (if j > i then j else i)) H) rs μ P := fun B Z Γ τ σ vs xs H Q l s k => by
  obtain ⟨i, j, rfl, p⟩ := h
  obtain ⟨u, v, rfl⟩ := two_inv l
  obtain ⟨G, e0, w, g, t1, t2, t3⟩ := s
  cases t1
  cases t2
  exact ⟨i, j, rfl, k _ _ _ _ p ⟨G, e0, w, g, .int _, t3⟩⟩
theorem cj_min2 (h : ∃ i j, rs = [.dat (.int i), .dat (.int j)] ∧ P (.dat (.int (if j < i then j else i))) μ) : CJ K (fun xs H Q => ∃ i j, xs = [.int i, .int j] ∧ Q (.int (if j < i then j else i)) H) rs μ P := fun B Z Γ τ σ vs xs H Q l s k => by
  obtain ⟨i, j, rfl, p⟩ := h
  obtain ⟨u, v, rfl⟩ := two_inv l
  obtain ⟨G, e0, w, g, t1, t2, t3⟩ := s
  cases t1
  cases t2
  exact ⟨i, j, rfl, k _ _ _ _ p ⟨G, e0, w, g, .int _, t3⟩⟩
theorem cj_divmod (h : ∃ i j, rs = [.dat (.int i), .dat (.int j)] ∧ CDiv i j ∧ P (.dat (.tup [.int (i / j), .int (i % j)])) μ) : CJ K (fun xs H Q => ∃ i j, xs = [.int i, .int j] ∧ CDiv i j ∧ ∀ p, H p = none → Q (.ref p) (upd H p (.tup [.int (i / j), .int (i % j)]))) rs μ P := fun B Z Γ τ σ vs xs H Q l s k => by
  obtain ⟨i, j, rfl, hc, p⟩ := h
  obtain ⟨u, v, rfl⟩ := two_inv l
  obtain ⟨G, e0, w, g, t1, t2, t3⟩ := s
  cases t1
  cases t2
  exact ⟨i, j, rfl, hc, fun q hq => k _ _ _ _ p (SA.newTup ⟨G, e0, w, g, t3⟩ hq (fun _ _ => True.intro) ⟨G, e0, w, g, t3, .cons (.int _) (.cons (.int _) .nil)⟩)⟩
theorem cj_str (h : ∃ i, rs = [.dat (.int i)] ∧ i.natAbs.log2 < 1920 ∧ P (.dat (.str (toString i))) μ) : CJ K (fun xs H Q => ∃ i, xs = [.int i] ∧ i.natAbs.log2 < 1920 ∧ Q (.str (toString i)) H) rs μ P := fun B Z Γ τ σ vs xs H Q l s k => by
  obtain ⟨i, rfl, hb, p⟩ := h
  obtain ⟨u, rfl⟩ := one_inv l
  obtain ⟨G, e0, w, g, t1, t3⟩ := s
  cases t1
  exact ⟨i, rfl, hb, k _ _ _ _ p ⟨G, e0, w, g, .str _, t3⟩⟩
theorem cj_lenL (h : ∃ r ds, rs = [r] ∧ Den μ r (.lst ds) ∧ P (.dat (.int (ds.length : Int))) μ) : CJ K (fun xs H Q => ∃ p ys, xs = [.ref p] ∧ (SqL K H p ys ∨ SqT K H p ys) ∧ Q (.int ys.length) H) rs μ P := fun B Z Γ τ σ vs xs H Q l s k => by
  obtain ⟨r, ds, rfl, hd, p⟩ := h
  obtain ⟨u, rfl⟩ := one_inv l
  obtain ⟨G, e0, w, g, t1, t3⟩ := s
  obtain ⟨a, vs, rfl, a1, a2⟩ := den_lst w hd t1
  refine ⟨a, vs, rfl, .inl (SqL.of a1), ?_⟩
  rw [← a2.length]
  exact k _ _ _ _ p ⟨G, e0, w, g, .int _, t3⟩
theorem cj_lenT (h : ∃ ds, rs = [.dat (.tup ds)] ∧ P (.dat (.int (ds.length : Int))) μ) : CJ K (fun xs H Q => ∃ p ys, xs = [.ref p] ∧ (SqL K H p ys ∨ SqT K H p ys) ∧ Q (.int ys.length) H) rs μ P := fun B Z Γ τ σ vs xs H Q l s k => by
  obtain ⟨ds, rfl, p⟩ := h
  obtain ⟨u, rfl⟩ := one_inv l
  obtain ⟨G, e0, w, g, t1, t3⟩ := s
  cases t1 with
  | tup a1 a2 =>
    refine ⟨_, _, rfl, .inr (SqT.of (w.sub _ _ a1)), ?_⟩
    rw [← a2.length]
    exact k _ _ _ _ p ⟨G, e0, w, g, .int _, t3⟩
theorem cj_all (h : ∃ bs : List Bool, rs = [.dat (.lst (bs.map D.bl))] ∧ P (.dat (.bl (bs.all id))) μ) : CJ K (rAll K) rs μ P := fun B Z Γ τ σ vs xs H Q l s k => by
  obtain ⟨bs, rfl, p⟩ := h
  obtain ⟨u, rfl⟩ := one_inv l
  obtain ⟨G, e0, w, g, t1, t3⟩ := s
  obtain ⟨a, vs, rfl, a1, a2⟩ := den_lst w (.dat _) t1
  have e := a2.bls
  subst e
  exact ⟨a, bs, rfl, SqL.of a1, k _ _ _ _ p ⟨G, e0, w, g, .bl _, t3⟩⟩
theorem cj_any (h : ∃ bs : List Bool, rs = [.dat (.lst (bs.map D.bl))] ∧ P (.dat (.bl (bs.any id))) μ) : CJ K (rAny K) rs μ P := fun B Z Γ τ σ vs xs H Q l s k => by
  obtain ⟨bs, rfl, p⟩ := h
  obtain ⟨u, rfl⟩ := one_inv l
  obtain ⟨G, e0, w, g, t1, t3⟩ := s
  obtain ⟨a, vs, rfl, a1, a2⟩ := den_lst w (.dat _) t1
  have e := a2.bls
  subst e
  exact ⟨a, bs, rfl, SqL.of a1, k _ _ _ _ p ⟨G, e0, w, g, .bl _, t3⟩⟩
theorem cj_max (h : ∃ ns : List Int, rs = [.dat (.lst (ns.map D.int))] ∧ 0 < ns.length ∧ ∀ m, m ∈ ns → (∀ n ∈ ns, n ≤ m) → P (.dat (.int m)) μ) : CJ K (rMax K) rs μ P := fun B Z Γ τ σ vs xs H Q l s k => by
  obtain ⟨bs, rfl, hl, p⟩ := h
  obtain ⟨u, rfl⟩ := one_inv l
  obtain ⟨G, e0, w, g, t1, t3⟩ := s
  obtain ⟨a, vs, rfl, a1, a2⟩ := den_lst w (.dat _) t1
  have e := a2.ints
  subst e
  exact ⟨a, bs, rfl, SqL.of a1, hl, fun m h1 h2 => k _ _ _ _ (p m h1 h2) ⟨G, e0, w, g, .int _, t3⟩⟩
theorem cj_min (h : ∃ ns : List Int, rs = [.dat (.lst (ns.map D.int))] ∧ 0 < ns.length ∧ ∀ m, m ∈ ns → (∀ n ∈ ns, m ≤ n) → P (.dat (.int m)) μ) : CJ K (rMin K) rs μ P := fun B Z Γ τ σ vs xs H Q l s k => by
  obtain ⟨bs, rfl, hl, p⟩ := h
  obtain ⟨u, rfl⟩ := one_inv l
  obtain ⟨G, e0, w, g, t1, t3⟩ := s
  obtain ⟨a, vs, rfl, a1, a2⟩ := den_lst w (.dat _) t1
  have e := a2.ints
  subst e
  exact ⟨a, bs, rfl, SqL.of a1, hl, fun m h1 h2 => k _ _ _ _ (p m h1 h2) ⟨G, e0, w, g, .int _, t3⟩⟩
/-- list(xs): a new one, to be changed -/
theorem cj_listM (h : ∃ r ds, rs = [r] ∧ Den μ r (.lst ds) ∧ ∀ p, P (.val (.ref p)) (μ ++ [(p, .lst ds)])) : CJ K (fun xs H Q => ∃ p ys, xs = [.ref p] ∧ (SqL K H p ys ∨ SqT K H p ys) ∧ ∀ l, H l = none → Q (.ref l) (upd H l (.lst ys))) rs μ P := fun B Z Γ τ σ vs xs H Q l s k => by
  obtain ⟨r, ds, rfl, hd, p⟩ := h
  obtain ⟨u, rfl⟩ := one_inv l
  obtain ⟨G, e0, w, g, t1, t3⟩ := s
  obtain ⟨a, vs, rfl, a1, a2⟩ := den_lst w hd t1
  exact ⟨a, vs, rfl, .inl (SqL.of a1), fun q hq => k _ _ _ _ (p q) (SA.newLstM hq ⟨G, e0, w, g, t3, a2⟩)⟩
theorem cj_list (h : ∃ r ds, rs = [r] ∧ (Den μ r (.lst ds) ∨ r = .dat (.tup ds)) ∧ P (.dat (.lst ds)) μ) : CJ K (fun xs H Q => ∃ p ys, xs = [.ref p] ∧ (SqL K H p ys ∨ SqT K H p ys) ∧ ∀ l, H l = none → Q (.ref l) (upd H l (.lst ys))) rs μ P := fun B Z Γ τ σ vs xs H Q l s k => by
  obtain ⟨r, ds, rfl, hd, p⟩ := h
  obtain ⟨u, rfl⟩ := one_inv l
  obtain ⟨G, e0, w, g, t1, t3⟩ := s
  rcases hd with hd | rfl
  · obtain ⟨a, vs, rfl, a1, a2⟩ := den_lst w hd t1
    exact ⟨a, vs, rfl, .inl (SqL.of a1), fun q hq => k _ _ _ _ p (SA.newLst hq ⟨G, e0, w, g, t3, a2⟩)⟩
  · cases t1 with
    | tup a1 a2 => exact ⟨_, _, rfl, .inr (SqT.of (w.sub _ _ a1)), fun q hq => k _ _ _ _ p (SA.newLst hq ⟨G, e0, w, g, t3, a2⟩)⟩
theorem cj_tupT (h : ∃ ds, rs = [.dat (.tup ds)] ∧ P (.dat (.tup ds)) μ) : CJ K (fun xs H Q => ∃ a ys, xs = [.ref a] ∧ SqT K H a ys ∧ Q (.ref a) H) rs μ P := fun B Z Γ τ σ vs xs H Q l s k => by
  obtain ⟨ds, rfl, p⟩ := h
  obtain ⟨u, rfl⟩ := one_inv l
  obtain ⟨G, e0, w, g, t1, t3⟩ := s
  cases t1 with
  | tup a1 a2 => exact ⟨_, _, rfl, SqT.of (w.sub _ _ a1), k _ _ _ _ p ⟨G, e0, w, g, .tup a1 a2, t3⟩⟩
end
end K43

set_option maxHeartbeats 4000000
/-! K6: dicts, slices, isinstance, methods, stores. -/
namespace K43
open PySem PySem.Spec PyProof.Rows L2

/-! ### dicts whose keys are texts -/
abbrev AL := List (Str × D)
def dicD (l : AL) : D := .dic (l.map Prod.fst) (l.map Prod.snd)
def alook : AL → Str → Option D
  | [], _ => none
  | p :: r, x => if p.1 = x then some p.2 else alook r x
def aput (l : AL) (x : Str) (d : D) : AL := if (l.any fun p => decide (p.1 = x)) = true then l.map (fun p => if p.1 = x then (p.1, d) else p) else l ++ [(x, d)]
def amerge (l m : AL) : AL := m.foldl (fun acc p => aput acc p.1 p.2) l
/-- l against the pairs of a heap's dict -/
def RL (K : PySem.W.Frag) (G : Hp) : AL → List (Key × V) → Prop
  | [], [] => True
  | p :: l, q :: m => q.1 = .inr p.1 ∧ R K G p.2 q.2 ∧ RL K G l m
  | _, _ => False
section
variable {K : PySem.W.Frag} {G : Hp}
theorem rl_of : ∀ {l : AL} {ps : List (Key × V)}, ps.map Prod.fst = (l.map Prod.fst).map Sum.inr → RAll K G (l.map Prod.snd) (ps.map Prod.snd) → RL K G l ps
  | [], [], _, _ => True.intro
  | [], _ :: _, e, _ => by simp at e
  | _ :: _, [], e, _ => by simp at e
  | p :: l, q :: m, e, h => by
    simp only [List.map_cons, List.cons.injEq] at e
    cases h with
    | cons h1 h2 => exact ⟨e.1, h1, rl_of e.2 h2⟩
theorem of_rl : ∀ {l : AL} {ps : List (Key × V)}, RL K G l ps → ps.map Prod.fst = (l.map Prod.fst).map Sum.inr ∧ RAll K G (l.map Prod.snd) (ps.map Prod.snd)
  | [], [], _ => ⟨rfl, .nil⟩
  | [], _ :: _, h => h.elim
  | _ :: _, [], h => h.elim
  | p :: l, q :: m, ⟨h1, h2, h3⟩ => by
    obtain ⟨a, b⟩ := of_rl h3
    refine ⟨?_, .cons h2 b⟩
    simp only [List.map_cons]
    rw [h1, a]
theorem RL.length : ∀ {l : AL} {ps : List (Key × V)}, RL K G l ps → l.length = ps.length
  | [], [], _ => rfl
  | [], _ :: _, h => h.elim
  | _ :: _, [], h => h.elim
  | p :: l, q :: m, ⟨h1, h2, h3⟩ => by rw [List.length_cons, List.length_cons, h3.length]
theorem rl_none {x : Str} : ∀ {l : AL} {ps : List (Key × V)}, RL K G l ps → alook l x = none → valV ps (.inr x) = none
  | [], [], _, _ => rfl
  | [], _ :: _, h, _ => h.elim
  | _ :: _, [], h, _ => h.elim
  | p :: l, q :: m, ⟨h1, h2, h3⟩, e => by
    unfold alook at e
    by_cases hx : p.1 = x
    · rw [if_pos hx] at e; cases e
    · rw [if_neg hx] at e
      rw [valV_neg (by rw [h1]; intro z; exact hx (Sum.inr.inj z))]
      exact rl_none h3 e
theorem rl_some {x : Str} {d : D} : ∀ {l : AL} {ps : List (Key × V)}, RL K G l ps → alook l x = some d → ∃ v, valV ps (.inr x) = some v ∧ R K G d v
  | [], [], _, e => by cases e
  | [], _ :: _, h, _ => h.elim
  | _ :: _, [], h, _ => h.elim
  | p :: l, q :: m, ⟨h1, h2, h3⟩, e => by
    unfold alook at e
    by_cases hx : p.1 = x
    · rw [if_pos hx] at e
      cases e
      exact ⟨q.2, valV_pos (by rw [h1, hx]), h2⟩
    · rw [if_neg hx] at e
      rw [valV_neg (by rw [h1]; intro z; exact hx (Sum.inr.inj z))]
      exact rl_some h3 e
theorem rl_any {x : Str} : ∀ {l : AL} {ps : List (Key × V)}, RL K G l ps → (ps.any fun kv => decide (kv.1 = .inr x)) = (l.any fun p => decide (p.1 = x))
  | [], [], _ => rfl
  | [], _ :: _, h => h.elim
  | _ :: _, [], h => h.elim
  | p :: l, q :: m, ⟨h1, h2, h3⟩ => by
    rw [List.any_cons, List.any_cons, rl_any h3, h1]
    congr 1
    by_cases hx : p.1 = x
    · simp [hx]
    · have n : ¬ (Sum.inr p.1 : Key) = Sum.inr x := fun z => hx (Sum.inr.inj z)
      rw [decide_eq_false hx, decide_eq_false n]
theorem rl_map {x : Str} {d : D} {v : V} (r : R K G d v) : ∀ {l : AL} {ps : List (Key × V)}, RL K G l ps → RL K G (l.map fun p => if p.1 = x then (p.1, d) else p) (ps.map fun kv => if kv.1 = .inr x then (kv.1, v) else kv)
  | [], [], _ => True.intro
  | [], _ :: _, h => h.elim
  | _ :: _, [], h => h.elim
  | p :: l, q :: m, ⟨h1, h2, h3⟩ => by
    rw [List.map_cons, List.map_cons]
    by_cases hx : p.1 = x
    · rw [if_pos hx, if_pos (by rw [h1, hx])]
      exact ⟨h1, r, rl_map r h3⟩
    · have n : ¬ q.1 = Sum.inr x := fun z => hx (Sum.inr.inj (h1.symm.trans z))
      rw [if_neg hx, if_neg n]
      exact ⟨h1, h2, rl_map r h3⟩
theorem rl_app : ∀ {l l' : AL} {ps ps' : List (Key × V)}, RL K G l ps → RL K G l' ps' → RL K G (l ++ l') (ps ++ ps')
  | [], _, [], _, _, h => h
  | [], _, _ :: _, _, h, _ => h.elim
  | _ :: _, _, [], _, h, _ => h.elim
  | p :: l, _, q :: m, _, ⟨h1, h2, h3⟩, h => ⟨h1, h2, rl_app h3 h⟩
theorem rl_put {x : Str} {d : D} {v : V} {l : AL} {ps : List (Key × V)} (h : RL K G l ps) (r : R K G d v) : RL K G (aput l x d) (putK ps (.inr x) v) := by
  unfold aput putK
  rw [rl_any h]
  by_cases ha : (l.any fun p => decide (p.1 = x)) = true
  · rw [if_pos ha, if_pos ha]
    exact rl_map r h
  · rw [if_neg ha, if_neg ha]
    exact rl_app h ⟨rfl, r, True.intro⟩
theorem rl_merge : ∀ {m : AL} {qs : List (Key × V)} {l : AL} {ps : List (Key × V)}, RL K G l ps → RL K G m qs → RL K G (amerge l m) (mergeK ps qs)
  | [], [], _, _, h, _ => h
  | [], _ :: _, _, _, _, h => h.elim
  | _ :: _, [], _, _, _, h => h.elim
  | p :: m, q :: qs, l, ps, h, ⟨h1, h2, h3⟩ => by
    show RL K G (amerge (aput l p.1 p.2) m) (mergeK (putK ps q.1 q.2) qs)
    rw [h1]
    exact rl_merge (rl_put h h2) h3
theorem RM.rl {l : AL} {o : HO} (h : RM K G (dicD l) o) : ∃ ps, o = .dK ps ∧ RL K G l ps := by
  cases o <;> first
    | exact h.elim
    | exact ⟨_, rfl, rl_of h.1 h.2⟩
theorem rl_rm {l : AL} {ps : List (Key × V)} (h : RL K G l ps) : RM K G (dicD l) (.dK ps) := of_rl h
theorem den_rl {T : Tb} {F H : Hp} {μ : Mem} {r : AV} {x : V} {l : AL} (w : Wd K T F μ G H) (h : Den μ r (dicD l)) (q : RV K G r x) : ∃ a ps, x = .ref a ∧ H a = some (.dK ps) ∧ RL K G l ps := by
  obtain ⟨a, ps, e, h1, h2, h3⟩ := den_dic w h q
  exact ⟨a, ps, e, h1, rl_of h2 h3⟩
end

section
variable {X : Cx} {B : Tb} {Γ : List AV} {μ : Mem} {P : AV → Mem → Prop} {e a b c : Expr} {pos apos cpos : Pos}
/-- {} -/
theorem ej_dic0 (q : P (.dat (dicD [])) μ) : EJ X B (.Dict [] [] pos) Γ μ P := fun Z τ σ xs H Q s k =>
  PE.w pe_dnewK (fun p hp => k _ _ _ _ q (by
    obtain ⟨G, e0, w, g, t⟩ := s
    have ex : Ex G (upd G p (.dK [])) := Ex.new (w.nog hp)
    exact ⟨_, e0.trans ex, w.newG hp, g.ex ex, .dic upd_same rfl .nil, t.ex ex⟩))
theorem ej_dic0M (q : ∀ p, P (.val (.ref p)) (μ ++ [(p, dicD [])])) : EJ X B (.Dict [] [] pos) Γ μ P := fun Z τ σ xs H Q s k =>
  PE.w pe_dnewK (fun p hp => k _ _ _ _ (q p) (by
    obtain ⟨G, e0, w, g, t⟩ := s
    exact ⟨G, e0, w.newM hp (rl_rm (K := X.K) (G := G) (l := []) (ps := []) True.intro), g, rfl, t⟩))
/-- d[k] -/
theorem ej_dget (hu : X.A.units + 1 < cLine) (hs : NoSl b) (h : EJ X B a Γ μ fun r1 μ1 => EJ X B b Γ μ1 fun r2 μ2 => ∃ l x d, Den μ2 r1 (dicD l) ∧ r2 = .dat (.str x) ∧ alook l x = some d ∧ P (.dat d) μ2) : EJ X B (.Subscript a b pos) Γ μ P := fun Z τ σ xs H Q s k =>
  PE.w (pe_dget hu we we hs) (h Z τ σ xs H _ s fun r1 μ1 x H1 p1 s1 => p1 Z (r1 :: τ) σ (x :: xs) H1 _ s1 fun r2 μ2 y H2 ⟨l, z, d, hd, e2, hl, p2⟩ s2 => by
    subst e2
    obtain ⟨G, e0, w, g, t1, t2, t3⟩ := s2
    cases t1
    obtain ⟨a', ps, rfl, h1, h2⟩ := den_rl w hd t2
    obtain ⟨v, hv, r⟩ := rl_some h2 hl
    exact ⟨a', v, rfl, .inl ⟨ps, .inr z, .inl h1, rfl, hv.symm⟩, k _ _ _ _ p2 ⟨G, e0, w, g, r, t3⟩⟩)
theorem sa_look {K : PySem.W.Frag} {Z : Zs} {τ : List AV} {σ : St} {xs : List V} {H : Hp} {l : AL} {r1 : AV} {x : Str} {v1 : V} (s : SA K B Z Γ (.dat (.str x) :: r1 :: τ) μ σ (.str x :: v1 :: xs) H) (hd : Den μ r1 (dicD l)) : ∃ a' ps, v1 = .ref a' ∧ H a' = some (.dK ps) ∧ (valV ps (.inr x)).isSome = (alook l x).isSome := by
  obtain ⟨G, e0, w, g, t1, t2, t3⟩ := s
  obtain ⟨a', ps, rfl, h1, h2⟩ := den_rl w hd t2
  refine ⟨a', ps, rfl, h1, ?_⟩
  cases q : alook l x with
  | none => rw [rl_none h2 q] <;> rfl
  | some d =>
    obtain ⟨v, hv, _⟩ := rl_some h2 q
    rw [hv] <;> rfl
/-- k in d, k not in d, as tests and as values -/
theorem tj_din {Pb : Bool → Mem → Prop} (hu : X.A.units + 1 < cLine) (h : EJ X B a Γ μ fun r1 μ1 => EJ X B b Γ μ1 fun r2 μ2 => ∃ l x, Den μ2 r2 (dicD l) ∧ r1 = .dat (.str x) ∧ Pb (alook l x).isSome μ2) (hm : behindInMarks .In b = false := by rfl) : TJ X B (.Compare a [.In] [b] pos) Γ μ Pb := fun Z τ σ xs H Q s k =>
  PT.w (pt_cmp (pc_din hu we we) hm) (h Z τ σ xs H _ s fun r1 μ1 x H1 p1 s1 => p1 Z (r1 :: τ) σ (x :: xs) H1 _ s1 fun r2 μ2 y H2 ⟨l, z, hd, e2, p2⟩ s2 => by
    subst e2
    have hx : x = .str z := by
      obtain ⟨G, e0, w, g, t1, t2, t3⟩ := s2
      cases t2
      rfl
    subst hx
    obtain ⟨a', ps, rfl, h1, h2⟩ := sa_look s2.swap hd
    refine ⟨a', valV ps (.inr z), rfl, .inl ⟨ps, .inr z, .inl h1, rfl, rfl⟩, _, rfl, ?_⟩
    rw [h2]
    exact k _ _ _ p2 s2.drop.drop)
theorem tj_dnotin {Pb : Bool → Mem → Prop} (hu : X.A.units + 1 < cLine) (h : EJ X B a Γ μ fun r1 μ1 => EJ X B b Γ μ1 fun r2 μ2 => ∃ l x, Den μ2 r2 (dicD l) ∧ r1 = .dat (.str x) ∧ Pb (!(alook l x).isSome) μ2) (hm : behindInMarks .NotIn b = false := by rfl) : TJ X B (.Compare a [.NotIn] [b] pos) Γ μ Pb := fun Z τ σ xs H Q s k =>
  PT.w (pt_cmp (pc_dnotin hu we we) hm) (h Z τ σ xs H _ s fun r1 μ1 x H1 p1 s1 => p1 Z (r1 :: τ) σ (x :: xs) H1 _ s1 fun r2 μ2 y H2 ⟨l, z, hd, e2, p2⟩ s2 => by
    subst e2
    have hx : x = .str z := by
      obtain ⟨G, e0, w, g, t1, t2, t3⟩ := s2
      cases t2
      rfl
    subst hx
    obtain ⟨a', ps, rfl, h1, h2⟩ := sa_look s2.swap hd
    refine ⟨a', valV ps (.inr z), rfl, .inl ⟨ps, .inr z, .inl h1, rfl, rfl⟩, _, rfl, ?_⟩
    rw [h2]
    exact k _ _ _ p2 s2.drop.drop)
/-- d.get(k), d.get(k, x) -/
theorem sa_get {K : PySem.W.Frag} {Z : Zs} {τ : List AV} {σ : St} {xs : List V} {H : Hp} {l : AL} {r1 : AV} {x : Str} {v1 v2 : V} {d0 : D} {z0 : V} (s : SA K B Z Γ (.dat (.str x) :: r1 :: τ) μ σ (v2 :: v1 :: xs) H) (hd : Den μ r1 (dicD l)) (r0 : ∀ G, R K G d0 z0) : ∃ a' o, v1 = .ref a' ∧ DGet H a' v2 o ∧ SA K B Z Γ (.dat ((alook l x).getD d0) :: τ) μ σ (o.getD z0 :: xs) H := by
  obtain ⟨G, e0, w, g, t1, t2, t3⟩ := s
  cases t1
  obtain ⟨a', ps, rfl, h1, h2⟩ := den_rl w hd t2
  refine ⟨a', valV ps (.inr x), rfl, .inl ⟨ps, .inr x, .inl h1, rfl, rfl⟩, G, e0, w, g, ?_, t3⟩
  cases q : alook l x with
  | none =>
    rw [rl_none h2 q]
    exact r0 G
  | some d =>
    obtain ⟨v, hv, r⟩ := rl_some h2 q
    rw [hv]
    exact r
theorem sa_isd {K : PySem.W.Frag} {Z : Zs} {τ : List AV} {σ : St} {xs : List V} {H : Hp} {l : AL} {r1 : AV} {v1 : V} (s : SA K B Z Γ (r1 :: τ) μ σ (v1 :: xs) H) (hd : Den μ r1 (dicD l)) : ∃ a', v1 = .ref a' ∧ IsD H a' := by
  obtain ⟨G, e0, w, g, t2, t3⟩ := s
  obtain ⟨a', ps, rfl, h1, h2⟩ := den_rl w hd t2
  exact ⟨a', rfl, .inl ⟨ps, .inl h1⟩⟩
theorem ej_get1 (hu : X.A.units + 1 < cLine) (h : EJ X B a Γ μ fun r1 μ1 => ∃ l, Den μ1 r1 (dicD l) ∧ EJ X B b Γ μ1 fun r2 μ2 => ∃ x, μ2 = μ1 ∧ r2 = .dat (.str x) ∧ P (.dat ((alook l x).getD .non)) μ1)
    (m : M1 X a "get" apos b cpos := by exact ⟨rfl, rfl, rfl, rfl⟩) : EJ X B (.Call (.Attribute a "get" apos) [b] [] cpos) Γ μ P := fun Z τ σ xs H Q s k =>
  PE.w (pe_dget1 hu we we m) (h Z τ σ xs H _ s fun r1 μ1 x H1 ⟨l, hd, p1⟩ s1 => by
    obtain ⟨a', rfl, hi⟩ := sa_isd s1 hd
    refine ⟨a', rfl, hi, p1 Z (r1 :: τ) σ _ H1 _ s1 fun r2 μ2 y H2 ⟨z, e1, e2, p2⟩ s2 => ?_⟩
    subst e1
    subst e2
    obtain ⟨a2, o, ea, hg, s3⟩ := sa_get (d0 := .non) (z0 := .non) s2 hd (fun G => .non)
    cases ea
    exact ⟨o, hg, k _ _ _ _ p2 s3⟩)
theorem ej_get2 (hu : X.A.units + 1 < cLine) {d0 : Str} {j : Nat} {pc : Pos} (h : EJ X B a Γ μ fun r1 μ1 => ∃ l, Den μ1 r1 (dicD l) ∧ EJ X B b Γ μ1 fun r2 μ2 => ∃ x, μ2 = μ1 ∧ r2 = .dat (.str x) ∧ P (.dat ((alook l x).getD (.str d0))) μ1)
    (m : M2 X a "get" apos b (.Constant (.str d0) j pc) cpos := by exact ⟨rfl, rfl, rfl, rfl⟩) : EJ X B (.Call (.Attribute a "get" apos) [b, .Constant (.str d0) j pc] [] cpos) Γ μ P := fun Z τ σ xs H Q s k =>
  PE.w (pe_dget2 hu we we pe_str m) (h Z τ σ xs H _ s fun r1 μ1 x H1 ⟨l, hd, p1⟩ s1 => by
    obtain ⟨a', rfl, hi⟩ := sa_isd s1 hd
    refine ⟨a', rfl, hi, p1 Z (r1 :: τ) σ _ H1 _ s1 fun r2 μ2 y H2 ⟨z, e1, e2, p2⟩ s2 => ?_⟩
    subst e1
    subst e2
    obtain ⟨a2, o, ea, hg, s3⟩ := sa_get (d0 := .str d0) (z0 := .str d0) s2 hd (fun G => .str d0)
    cases ea
    exact ⟨o, hg, k _ _ _ _ p2 s3⟩)
/-- d[k] = e -/
theorem sj_dput {A : AE} {value : Expr} {pos' : Pos} (hu : X.A.units + 1 < cLine) (h : EJ X B value Γ μ fun r0 μ0 => EJ X B a Γ μ0 fun r1 μ1 => EJ X B b Γ μ1 fun r2 μ2 => ∃ j a' l x d, r0 = .dat d ∧ r1 = .val (.ref a') ∧ r2 = .dat (.str x) ∧ μ2[j]? = some (a', dicD l) ∧ l.length < 1000000 ∧ A.nx Γ (μ2.set j (a', dicD (aput l x d))))
    (hs : swapsWith value (some (.Subscript a b pos')) pos.line X.env = pure false := by rfl) : SJ X B (.Assign [.Subscript a b pos'] value pos) Γ μ A := fun Z τ σ xs H D s k =>
  ⟨_, ps_dput hu we we we hs, h Z τ σ xs H _ s fun r0 μ0 v0 H0 p0 s0 => p0 Z (r0 :: τ) σ (v0 :: xs) H0 _ s0 fun r1 μ1 x H1 p1 s1 => p1 Z (r1 :: r0 :: τ) σ _ H1 _ s1 fun r2 μ2 y H2 ⟨j, a', l, z, d, e0, e1, e2, hj, hl, p2⟩ s2 => by
    subst e0
    subst e1
    subst e2
    obtain ⟨G, ex, w, g, t1, t2, t3, t4⟩ := s2
    cases t1
    obtain rfl : x = .ref a' := t2
    obtain ⟨_, _, o, h1, h2⟩ := w.mem j a' _ hj
    obtain ⟨ps, rfl, hr⟩ := h2.rl
    refine ⟨a', upd H2 a' (.dK (putK ps (.inr z) v0)), rfl, .inl ⟨ps, .inr z, h1, rfl, ?_, rfl⟩, k.nx _ _ _ _ p2 ⟨G, ex, w.write hj (rl_rm (rl_put hr t3)), g, t4⟩⟩
    rw [← hr.length]
    exact Nat.lt_trans hl (by decide)⟩
/-- dict([(k, v), ..]) -/
def prD (p : Str × D) : D := .tup [.str p.1, p.2]
theorem rl_pairs {K : PySem.W.Frag} {G H : Hp} (e : Ex G H) : ∀ {l : AL} {vs : List V}, RAll K G (l.map prD) vs → ∃ (ps : List Addr) (kvs : List (Key × V)), vs = ps.map V.ref ∧ Paired (fun p kv => SqT K H p [kV kv.1, kv.2]) ps kvs ∧ RL K G l kvs
  | [], _, h => by
    cases h
    exact ⟨[], [], rfl, .nil, True.intro⟩
  | p :: l, _, h => by
    cases h with
    | cons h1 h2 =>
      obtain ⟨ps, kvs, rfl, i1, i2⟩ := rl_pairs e h2
      cases h1 with
      | tup a1 a2 =>
        cases a2 with
        | cons b1 b2 =>
          cases b1
          cases b2 with
          | cons c1 c2 =>
            cases c2
            exact ⟨_ :: ps, (.inr p.1, _) :: kvs, rfl, .cons (SqT.of (e _ _ a1)) i1, rfl, c1, i2⟩
theorem cj_dict {K : PySem.W.Frag} {rs : List AV} (h : ∃ l : AL, rs = [.dat (.lst (l.map prD))] ∧ P (.dat (dicD (amerge [] l))) μ) : CJ K (fun xs H Q => ∃ (a : Addr) (ps : List Addr) (kvs : List (Key × V)), xs = [.ref a] ∧ SqL K H a (ps.map V.ref) ∧ Paired (fun p kv => SqT K H p [kV kv.1, kv.2]) ps kvs ∧
    ∀ p, H p = none → Q (.ref p) (upd H p (.dK (mergeK [] kvs)))) rs μ P := fun B Z Γ τ σ vs xs H Q l s k => by
  obtain ⟨l', rfl, p⟩ := h
  obtain ⟨u, rfl⟩ := one_inv l
  obtain ⟨G, e0, w, g, t1, t3⟩ := s
  obtain ⟨a, vs, rfl, a1, a2⟩ := den_lst w (.dat _) t1
  obtain ⟨ps, kvs, rfl, i1, i2⟩ := rl_pairs w.sub a2
  refine ⟨a, ps, kvs, rfl, SqL.of a1, i1, fun q hq => k _ _ _ _ p ?_⟩
  have i3 : RL K G (amerge [] l') (mergeK [] kvs) := rl_merge (ps := []) True.intro i2
  have ex : Ex G (upd G q (.dK (mergeK [] kvs))) := Ex.new (w.nog hq)
  obtain ⟨q1, q2⟩ := of_rl i3
  exact ⟨_, e0.trans ex, w.newG hq, g.ex ex, .dic upd_same q1 (RAll.ex ex _ _ q2), t3.ex ex⟩

/-! ### slices -/
def cutD {A : Type} (xs : List A) (lo hi : Option Int) : List A := (xs.drop (HT.sIx xs.length 0 lo)).take (HT.sIx xs.length xs.length hi - HT.sIx xs.length 0 lo)
theorem cut_rall {K : PySem.W.Frag} {G : Hp} {ds : List D} {vs : List V} (h : RAll K G ds vs) (lo hi : Option Int) : RAll K G (cutD ds lo hi) (cutV vs lo hi) := by
  unfold cutD cutV
  rw [h.length]
  exact (h.drop _).take _
/-- a part of a slice -/
def OpJ (X : Cx) (B : Tb) (e : Option Expr) (Γ : List AV) (μ : Mem) (P : Option Int → Mem → Prop) : Prop :=
  ∀ (Z : Zs) (τ : List AV) (σ : St) (xs : List V) (H : Hp) (Q : Option Int → Hp → Prop), SA X.K B Z Γ τ μ σ xs H → (∀ o μ' H', P o μ' → SA X.K B Z Γ τ μ' σ xs H' → Q o H') → ∃ t, PO X e t ∧ t σ H Q
theorem opj_none {Pq : Option Int → Mem → Prop} (q : Pq none μ) : OpJ X B none Γ μ Pq := fun Z τ σ xs H Q s k => ⟨_, po_none, k none μ H q s⟩
theorem opj_some {Pq : Option Int → Mem → Prop} (h : EJ X B e Γ μ fun r μ1 => ∃ i, r = .dat (.int i) ∧ Pq (some i) μ1) : OpJ X B (some e) Γ μ Pq := fun Z τ σ xs H Q s k =>
  ⟨_, po_some we, h Z τ σ xs H _ s fun r μ1 v H1 ⟨i, e1, p⟩ s1 => by
    subst e1
    obtain ⟨G, e0, w, g, t1, t3⟩ := s1
    cases t1
    exact ⟨i, rfl, k _ _ _ p ⟨G, e0, w, g, t3⟩⟩⟩
def WO (X : Cx) (e : Option Expr) : TO := fun σ H Q => ∃ t, PO X e t ∧ t σ H Q
theorem wo {o : Option Expr} : PO X o (WO X o) := ⟨fun pins s σ H Q I ⟨t, h1, h2⟩ => h1.run pins s σ H Q I h2⟩
def SlJ (K : PySem.W.Frag) (r : V → Option Int → Option Int → Hp → VK → Prop) (r1 : AV) (lo hi : Option Int) (μ : Mem) (P : AV → Mem → Prop) : Prop :=
  ∀ (B : Tb) (Z : Zs) (Γ τ : List AV) (σ : St) (x : V) (xs : List V) (H : Hp) (Q : VK), SA K B Z Γ (r1 :: τ) μ σ (x :: xs) H → (∀ q μ' v H', P q μ' → SA K B Z Γ (q :: τ) μ' σ (v :: xs) H' → Q v H') → r x lo hi H Q
theorem ej_slice {r : V → Option Int → Option Int → Hp → VK → Prop} {lo hi : Option Expr} {p2 : Pos} (hr : SlR X r) (h : EJ X B a Γ μ fun r1 μ1 => OpJ X B lo Γ μ1 fun o1 μ2 => OpJ X B hi Γ μ2 fun o2 μ3 => SlJ X.K r r1 o1 o2 μ3 P) : EJ X B (.Subscript a (.Slice lo hi none p2) pos) Γ μ P := fun Z τ σ xs H Q s k =>
  PE.w (pe_slice hr we wo wo) (h Z τ σ xs H _ s fun r1 μ1 x H1 p1 s1 => p1 Z (r1 :: τ) σ (x :: xs) H1 _ s1 fun o1 μ2 H2 p2 s2 => p2 Z (r1 :: τ) σ (x :: xs) H2 _ s2 fun o2 μ3 H3 p3 s3 => p3 B Z Γ τ σ x xs H3 Q s3 k)
theorem slj_list {K : PySem.W.Frag} {r1 : AV} {lo hi : Option Int} (h : ∃ ds, Den μ r1 (.lst ds) ∧ P (.dat (.lst (cutD ds lo hi))) μ) : SlJ K (rSlL K) r1 lo hi μ P := fun B Z Γ τ σ x xs H Q s k => by
  obtain ⟨ds, hd, p⟩ := h
  obtain ⟨G, e0, w, g, t1, t3⟩ := s
  obtain ⟨a, vs, rfl, a1, a2⟩ := den_lst w hd t1
  exact ⟨a, vs, rfl, SqL.of a1, fun q hq => k _ _ _ _ p (SA.newLst hq ⟨G, e0, w, g, t3, cut_rall a2 lo hi⟩)⟩
theorem cut_ints {lo hi : Option Int} (ns : List Int) : cutV (ns.map V.int) lo hi = (cutD ns lo hi).map V.int := by
  unfold cutV cutD
  rw [List.length_map, List.map_take, List.map_drop]
theorem slj_scr {K : PySem.W.Frag} {r1 : AV} {lo hi : Option Int} (h : ∃ ns, r1 = .dat (.scr ns) ∧ P (.dat (.lst ((cutD ns lo hi).map D.int))) μ) : SlJ K (rSlL K) r1 lo hi μ P := fun B Z Γ τ σ x xs H Q s k => by
  obtain ⟨ns, rfl, p⟩ := h
  obtain ⟨G, e0, w, g, t1, t3⟩ := s
  cases t1 with
  | scr h1 =>
    refine ⟨_, _, rfl, Ex.l w.sub h1, fun q hq => k _ _ _ _ p ?_⟩
    rw [cut_ints]
    exact SA.newLst hq ⟨G, e0, w, g, t3, RAll.of_ints _⟩
theorem slj_tup {K : PySem.W.Frag} {r1 : AV} {lo hi : Option Int} (h : ∃ ds, r1 = .dat (.tup ds) ∧ P (.dat (.tup (cutD ds lo hi))) μ) : SlJ K (rSlA K) r1 lo hi μ P := fun B Z Γ τ σ x xs H Q s k => by
  obtain ⟨ds, rfl, p⟩ := h
  obtain ⟨G, e0, w, g, t1, t3⟩ := s
  cases t1 with
  | tup a1 a2 =>
    refine ⟨_, _, rfl, SqT.of (w.sub _ _ a1), fun ⟨h1, h2⟩ => ?_, fun _ q hq => k _ _ _ _ p (SA.newTup ⟨G, e0, w, g, t3⟩ hq (fun _ _ => True.intro) ⟨G, e0, w, g, t3, cut_rall a2 lo hi⟩)⟩
    have e : cutD ds lo hi = ds := by
      unfold cutD
      rw [← a2.length] at h1 h2
      rw [h1, h2]
      simp
    rw [e] at p
    exact k _ _ _ _ p ⟨G, e0, w, g, .tup a1 a2, t3⟩
theorem ej_rev {j : Nat} {p1 p2 p3 : Pos} (h : EJ X B a Γ μ fun r μ1 => ∃ ds, Den μ1 r (.lst ds) ∧ P (.dat (.lst ds.reverse)) μ1) : EJ X B (.Subscript a (.Slice none none (some (.UnaryOp .USub (.Constant (.int 1) j p1) p2)) p3) pos) Γ μ P := fun Z τ σ xs H Q s k =>
  PE.w (pe_revL we) (h Z τ σ xs H _ s fun r1 μ1 x H1 ⟨ds, hd, p⟩ s1 => by
    obtain ⟨G, e0, w, g, t1, t3⟩ := s1
    obtain ⟨a, vs, rfl, a1, a2⟩ := den_lst w hd t1
    exact ⟨a, vs, rfl, SqL.of a1, fun q hq => k _ _ _ _ p (SA.newLst hq ⟨G, e0, w, g, t3, a2.reverse⟩)⟩)

/-! ### isinstance -/
def D.ty : D → String
  | .non => "NoneType"
  | .bl _ => "bool"
  | .int _ => "int"
  | .str _ => "str"
  | .lst _ => "list"
  | .tup _ => "tuple"
  | .dic _ _ => "dict"
  | .scr _ => "list"
theorem R.tyx {K : PySem.W.Frag} {G H : Hp} (e : Ex G H) {d : D} {v : V} (h : R K G d v) (hs : ∀ ns, d ≠ .scr ns) : TyX K H v (.type d.ty) := by
  cases h with
  | non => exact .base .non
  | bl b => exact .base (.bl b)
  | int i => exact .base (.int i)
  | str x => exact .base (.str x)
  | lst h1 h2 => exact .base (.lst (e _ _ h1))
  | tup h1 h2 => exact .base (.tup (e _ _ h1))
  | dic h1 h2 h3 => exact .base (.dK (e _ _ h1))
  | scr h1 => exact (hs _ rfl).elim
theorem cj_isi {K : PySem.W.Frag} {rs : List AV} (h : ∃ d n b, rs = [.dat d, .val (.ty n)] ∧ (∀ ns, d ≠ .scr ns) ∧ kitB d.ty n = some b ∧ P (.dat (.bl b)) μ) : CJ K (rIsi K) rs μ P := fun B Z Γ τ σ vs xs H Q l s k => by
  obtain ⟨d, n, b, rfl, hs, hb, p⟩ := h
  obtain ⟨u, v, rfl⟩ := two_inv l
  obtain ⟨G, e0, w, g, t1, t2, t3⟩ := s
  obtain rfl : v = .ty n := t2
  exact ⟨u, .ty n, .type d.ty, .type n, b, rfl, .ty n, R.tyx w.sub t1 hs, kit_ty hb, k _ _ _ _ p ⟨G, e0, w, g, .bl _, t3⟩⟩
theorem ej_ty {x : Str} {n : String} (q : P (.val (.ty n)) μ) (hm : X.mg x = none) (hv : bootBuiltins x = some (.type n)) (hg : Gl X x := by rfl) (hn : x ≠ "__name__" := by decide) (hd : (x == ("__debug__" : Str)) = false := by decide) : EJ X B (.Name x pos) Γ μ P := fun Z τ σ xs H Q s k =>
  PE.w (pe_bltn (v := .ty n) hg hm hv rfl hn hd) (k _ _ _ _ q (by
    obtain ⟨G, e0, w, g, t⟩ := s
    exact ⟨G, e0, w, g, rfl, t⟩))
end
end K43

set_option maxHeartbeats 4000000
/-! K7: methods, stores, sorted. -/
namespace K43
open PySem PySem.Spec PyProof.Rows L2

section
variable {K : PySem.W.Frag} {T : Tb} {F G H : Hp} {μ : Mem} {p : Addr} {o : HO}
/-- a new object that nobody speaks of -/
theorem Wd.junk (w : Wd K T F μ G H) (hp : H p = none) : Wd K T F μ G (upd H p o) where
  sub := fun a u e => by rw [upd_ne (ne_of_none (w.sub _ _ e) hp)]; exact w.sub _ _ e
  fr := fun a u e => by
    have h := w.fr a u e
    rw [upd_ne (ne_of_none h.1 hp)]
    exact h
  mem := fun j a d e => by
    obtain ⟨h1, h2, u, h3, h4⟩ := w.mem j a d e
    exact ⟨h1, h2, u, by rw [upd_ne (ne_of_none h3 hp)]; exact h3, h4⟩
  nd := w.nd
  tab := tabs_new w.tab hp
  tabG := w.tabG
  nt := w.nt
end

/-- dict.update(d) -/
theorem mt_update {X : Cx} : MtR X "dict.update" (fun x vs H Q => ∃ (a b : Addr) (kvs more : List (Key × V)), x = .ref a ∧ vs = [.ref b] ∧ H a = some (.dK kvs) ∧ H b = some (.dK more) ∧ a ≠ b ∧ kvs.length + more.length ≤ sizeLine ∧ Q .non (upd H a (.dK (mergeK kvs more)))) := by
  intro pins s σ H x vs v us Q I rx rv h
  obtain ⟨a, b, kvs, more, rfl, rfl, ha, hb, ne, hz, q⟩ := h
  cases rx
  obtain ⟨u, rfl, ru⟩ := vals1 rv
  cases ru
  obtain ⟨z1, hd1, vs1, rel1, dd1⟩ := dk_of I.hok ha
  obtain ⟨z2, hd2, vs2, rel2, dd2⟩ := dk_of I.hok hb
  refine call_meetsIn PySem.F.slot_dict_update dd1.typeIs PySem.F.entry_dict_update (PySem.F.args_dict_update_2 _ _) (meets_dict_update (mixKind X.prog X.w) a b ne hd2)
    ⟨vs1, vs2, dd1, dd2, by rw [← rel1.length, ← rel2.length]; exact hz, fun h' m1 _ hs => ?_⟩
  have he : ∃ q, h'.get? a = some q := let ⟨q, _, _, hq, _⟩ := m1; ⟨q, hq⟩
  exact ⟨.non, _, d_write (t' := s.toks) I (by rw [ha]; exact True.intro) hs he (dk_new (Nat.le_trans (length_mergeK more kvs) hz) hd1 (KV.merge rel2 rel1) m1), rfl, q⟩

section
variable {X : Cx} {B : Tb} {Γ : List AV} {μ : Mem} {P : AV → Mem → Prop} {e o a b c : Expr} {pos apos cpos : Pos} {A : AE}
/-- what a method is called of -/
inductive MTy (μ : Mem) : String → AV → Prop
  | lst {r : AV} {ds : List D} : Den μ r (.lst ds) → MTy μ "list" r
  | dic {r : AV} {l : AL} : Den μ r (dicD l) → MTy μ "dict" r
  | str (x : Str) : MTy μ "str" (.dat (.str x))
theorem MTy.ty {K : PySem.W.Frag} {Z : Zs} {τ : List AV} {σ : St} {x : V} {xs : List V} {H : Hp} {T : String} {r : AV} (m : MTy μ T r) (s : SA K B Z Γ (r :: τ) μ σ (x :: xs) H) : tyV K T x H := by
  obtain ⟨G, e0, w, g, t1, t2⟩ := s
  cases m with
  | lst h =>
    obtain ⟨a, vs, rfl, h1, h2⟩ := den_lst w h t1
    exact .inl ⟨rfl, vs, SqL.of h1⟩
  | dic h =>
    obtain ⟨a, ps, rfl, h1, h2⟩ := den_rl w h t1
    exact .inr (.inr (.inl ⟨rfl, .inl ⟨ps, h1⟩⟩))
  | str z =>
    cases t1
    rfl
def MJ (K : PySem.W.Frag) (r : V → List V → Hp → VK → Prop) (r1 : AV) (rs : List AV) (μ : Mem) (P : AV → Mem → Prop) : Prop :=
  ∀ (B : Tb) (Z : Zs) (Γ τ : List AV) (σ : St) (x : V) (vs xs : List V) (H : Hp) (Q : VK), rs.length = vs.length → SA K B Z Γ (rs ++ r1 :: τ) μ σ (vs ++ x :: xs) H → (∀ q μ' v H', P q μ' → SA K B Z Γ (q :: τ) μ' σ (v :: xs) H' → Q v H') → r x vs H Q
theorem ej_bm {T id : String} {name : Str} {es : List Expr} {r : V → List V → Hp → VK → Prop} (pa : PlainAttrs T) (slot : Slot T name id) (hty : typeOf (.builtin id) = pure (.type "method_descriptor")) (hm : MtR X id r)
    (h : EJ X B o Γ μ fun r1 μ1 => MTy μ1 T r1 ∧ AJ X B (e :: es) Γ μ1 fun rs μ2 => MJ X.K r r1 rs μ2 P)
    (hbase : attributeBase o name X.env (eval o X.env) = eval o X.env := by rfl)
    (hfew : ((backTo cpos (starEach (e :: es) X.env)).all (fun x => !x.1) && (backToKw cpos (keywordEach [] X.env)).all (fun x => x.1.isSome)
      && decide ((e :: es).length + ([] : List Keyword).length + (if ([] : List Keyword).isEmpty then 0 else 1) < 30)) = true := by rfl)
    (hline : (apos.endLine == cpos.line) = true := by rfl) (hs : starEach (e :: es) X.env = (false, eval e X.env) :: starEach es X.env := by rfl) (hplain : (backTo cpos (starEach es X.env)).any (·.1) = false := by rfl) :
    EJ X B (.Call (.Attribute o name apos) (e :: es) [] cpos) Γ μ P := fun Z τ σ xs H Q s k =>
  PE.w (pe_bm pa slot hty hm we wa hbase hfew hline hs hplain) (h Z τ σ xs H _ s fun r1 μ1 x H1 ⟨m, p1⟩ s1 => ⟨m.ty s1, p1 Z (r1 :: τ) σ (x :: xs) H1 _ s1 fun rs μ2 vs H2 p2 l s2 => p2 B Z Γ τ σ x vs xs H2 Q l s2 k⟩)
/-- append, insert, extend, pop of a list that may be changed -/
theorem mj_append {K : PySem.W.Frag} {r1 : AV} {rs : List AV} (h : ∃ j a ds d, r1 = .val (.ref a) ∧ rs = [.dat d] ∧ μ[j]? = some (a, .lst ds) ∧ ds.length < 1000000 ∧ P (.dat .non) (μ.set j (a, .lst (ds ++ [d])))) : MJ K rAppend r1 rs μ P := fun B Z Γ τ σ x vs xs H Q l s k => by
  obtain ⟨j, a, ds, d, rfl, rfl, hj, hl, p⟩ := h
  obtain ⟨u, rfl⟩ := one_inv l
  obtain ⟨G, e0, w, g, t1, t2, t3⟩ := s
  obtain rfl : x = .ref a := t2
  obtain ⟨a', vs, ea, h1, h2⟩ := den_lst w (.mem hj) (show RV K G (.val (.ref a)) (.ref a) from rfl)
  cases ea
  refine ⟨a, vs, u, rfl, rfl, h1, ?_, k _ _ _ _ p ⟨G, e0, w.write hj (h2.append (.cons t1 .nil)), g, .non, t3⟩⟩
  rw [← h2.length]
  exact Nat.lt_trans hl (by decide)
theorem mj_insert {K : PySem.W.Frag} {r1 : AV} {rs : List AV} (h : ∃ j a ds i d, r1 = .val (.ref a) ∧ rs = [.dat (.int i), .dat d] ∧ μ[j]? = some (a, .lst ds) ∧ ds.length < 1000000 ∧ 0 ≤ i ∧ i < 2 ^ 63 ∧ P (.dat .non) (μ.set j (a, .lst (ds.take i.toNat ++ [d] ++ ds.drop i.toNat)))) :
    MJ K (fun x vs H Q => ∃ (l : Addr) (xs : List V) (i : Int) (y : V), x = .ref l ∧ vs = [.int i, y] ∧ H l = some (.lst xs) ∧ xs.length < sizeLine ∧ 0 ≤ i ∧ i < 2 ^ 63 ∧ Q .non (upd H l (.lst (xs.take i.toNat ++ [y] ++ xs.drop i.toNat)))) r1 rs μ P := fun B Z Γ τ σ x vs xs H Q l s k => by
  obtain ⟨j, a, ds, i, d, rfl, rfl, hj, hl, hi, hi2, p⟩ := h
  obtain ⟨u, v, rfl⟩ := two_inv l
  obtain ⟨G, e0, w, g, t0, t1, t2, t3⟩ := s
  cases t0
  obtain rfl : x = .ref a := t2
  obtain ⟨a', vs, ea, h1, h2⟩ := den_lst w (.mem hj) (show RV K G (.val (.ref a)) (.ref a) from rfl)
  cases ea
  refine ⟨a, vs, i, v, rfl, rfl, h1, ?_, hi, hi2, k _ _ _ _ p ⟨G, e0, w.write hj (((h2.take _).append (.cons t1 .nil)).append (h2.drop _)), g, .non, t3⟩⟩
  rw [← h2.length]
  exact Nat.lt_trans hl (by decide)
theorem mj_extend {K : PySem.W.Frag} {r1 : AV} {rs : List AV} (h : ∃ j a ds es, r1 = .val (.ref a) ∧ rs = [.dat (.lst es)] ∧ μ[j]? = some (a, .lst ds) ∧ ds.length + es.length < 1000000 ∧ P (.dat .non) (μ.set j (a, .lst (ds ++ es)))) : MJ K rExtend r1 rs μ P := fun B Z Γ τ σ x vs xs H Q l s k => by
  obtain ⟨j, a, ds, es, rfl, rfl, hj, hl, p⟩ := h
  obtain ⟨u, rfl⟩ := one_inv l
  obtain ⟨G, e0, w, g, t1, t2, t3⟩ := s
  obtain rfl : x = .ref a := t2
  obtain ⟨a', vs, ea, h1, h2⟩ := den_lst w (.mem hj) (show RV K G (.val (.ref a)) (.ref a) from rfl)
  cases ea
  obtain ⟨b, us, rfl, h3, h4⟩ := den_lst w (.dat _) t1
  refine ⟨a, b, vs, us, rfl, rfl, h1, h3, ?_, k _ _ _ _ p ⟨G, e0, w.write hj (h2.append h4), g, .non, t3⟩⟩
  rw [← h2.length, ← h4.length]
  exact Nat.le_of_lt (Nat.lt_trans hl (by decide))
theorem mj_pop0 {K : PySem.W.Frag} {r1 : AV} {rs : List AV} (h : ∃ j a d ds, r1 = .val (.ref a) ∧ rs = [.dat (.int 0)] ∧ μ[j]? = some (a, .lst (d :: ds)) ∧ P (.dat d) (μ.set j (a, .lst ds))) : MJ K rPopAt r1 rs μ P := fun B Z Γ τ σ x vs xs H Q l s k => by
  obtain ⟨j, a, d, ds, rfl, rfl, hj, p⟩ := h
  obtain ⟨u, rfl⟩ := one_inv l
  obtain ⟨G, e0, w, g, t1, t2, t3⟩ := s
  cases t1
  obtain rfl : x = .ref a := t2
  obtain ⟨a', vs, ea, h1, h2⟩ := den_lst w (.mem hj) (show RV K G (.val (.ref a)) (.ref a) from rfl)
  cases ea
  cases h2 with
  | cons c1 c2 => exact ⟨a, _, 0, 0, _, rfl, rfl, h1, by decide, by decide, by simp [seqIndex?], rfl, k _ _ _ _ p ⟨G, e0, w.write hj c2, g, c1, t3⟩⟩
theorem mj_update {K : PySem.W.Frag} {r1 : AV} {rs : List AV} (h : ∃ j a l m, r1 = .val (.ref a) ∧ rs = [.dat (dicD m)] ∧ μ[j]? = some (a, dicD l) ∧ l.length + m.length < 1000000 ∧ P (.dat .non) (μ.set j (a, dicD (amerge l m)))) :
    MJ K (fun x vs H Q => ∃ (a b : Addr) (kvs more : List (Key × V)), x = .ref a ∧ vs = [.ref b] ∧ H a = some (.dK kvs) ∧ H b = some (.dK more) ∧ a ≠ b ∧ kvs.length + more.length ≤ sizeLine ∧ Q .non (upd H a (.dK (mergeK kvs more)))) r1 rs μ P := fun B Z Γ τ σ x vs xs H Q l s k => by
  obtain ⟨j, a, l1, m1, rfl, rfl, hj, hl, p⟩ := h
  obtain ⟨u, rfl⟩ := one_inv l
  obtain ⟨G, e0, w, g, t1, t2, t3⟩ := s
  obtain rfl : x = .ref a := t2
  obtain ⟨a', ps, ea, h1, h2⟩ := den_rl w (.mem hj) (show RV K G (.val (.ref a)) (.ref a) from rfl)
  cases ea
  obtain ⟨b, qs, rfl, h3, h4⟩ := den_rl w (.dat _) t1
  have hb : G b = some (.dK qs) := by
    cases t1 with
    | dic c1 c2 c3 =>
      have c4 := w.sub _ _ c1
      rw [h3] at c4
      cases c4
      exact c1
  have ne : a ≠ b := fun z => by
    have g1 := (w.mem j a _ hj).1
    rw [z, hb] at g1
    cases g1
  refine ⟨a, b, ps, qs, rfl, rfl, h1, h3, ne, ?_, k _ _ _ _ p ⟨G, e0, w.write hj (rl_rm (rl_merge h2 h4)), g, .non, t3⟩⟩
  rw [← h2.length, ← h4.length]
  exact Nat.le_of_lt (Nat.lt_trans hl (by decide))
/-- sep.join(xs) -/
theorem mj_join {K : PySem.W.Frag} {r1 : AV} {rs : List AV} (h : ∃ (x : Str) (ys : List Str), r1 = .dat (.str x) ∧ rs = [.dat (.lst (ys.map D.str))] ∧ (ys.map (·.length)).sum + ys.length * x.length ≤ 16777216 ∧ P (.dat (.str (Txt.join x ys))) μ) :
    MJ K (fun x xs H Q => ∃ a p, ∃ ys : List Str, x = .str a ∧ xs = [.ref p] ∧ (SqL K H p (ys.map V.str) ∨ SqT K H p (ys.map V.str)) ∧ (ys.map (·.length)).sum + ys.length * a.length ≤ 16777216 ∧ Q (.str (Txt.join a ys)) H) r1 rs μ P := fun B Z Γ τ σ x vs xs H Q l s k => by
  obtain ⟨z, ys, rfl, rfl, hl, p⟩ := h
  obtain ⟨u, rfl⟩ := one_inv l
  obtain ⟨G, e0, w, g, t1, t2, t3⟩ := s
  cases t2
  obtain ⟨b, us, rfl, h3, h4⟩ := den_lst w (.dat _) t1
  have e := h4.strs
  subst e
  exact ⟨z, b, ys, rfl, rfl, .inl (SqL.of h3), hl, k _ _ _ _ p ⟨G, e0, w, g, .str _, t3⟩⟩
/-- xs[i] = .. -/
theorem gj_set {r : AV} {Pg : List AV → Mem → Prop} (h : EJ X B a Γ μ fun r1 μ1 => EJ X B b Γ μ1 fun r2 μ2 => ∃ j a' ds i n d, r = .dat d ∧ r1 = .val (.ref a') ∧ r2 = .dat (.int i) ∧ μ2[j]? = some (a', .lst ds) ∧ ixN ds.length i = some n ∧ Pg Γ (μ2.set j (a', .lst (ds.set n d))))
    (ha : ∀ v, assign (.Subscript a b pos) X.env v = (do
      let ov ← holding [v] (eval a X.env)
      let iv ← holding [v, ov] (eval b X.env)
      standAt pos
      holding [v, ov, iv] (setItem ov iv v)
      release [v, ov, iv] []) := by intro _; rfl) : GJ X B (.Subscript a b pos) r Γ μ Pg := fun Z τ σ v xs H Q s k =>
  ⟨_, pg_sub we we set_list ha, h Z (r :: τ) σ (v :: xs) H _ s fun r1 μ1 x H1 p1 s1 => p1 Z (r1 :: r :: τ) σ _ H1 _ s1 fun r2 μ2 y H2 ⟨j, a', ds, i, n, d, e0, e1, e2, hj, hn, p2⟩ s2 => by
    subst e0
    subst e1
    subst e2
    obtain ⟨G, ex, w, g, t1, t2, t3, t4⟩ := s2
    cases t1
    obtain rfl : x = .ref a' := t2
    obtain ⟨a2, vs, ea, h1, h2⟩ := den_lst w (.mem hj) (show RV X.K G (.val (.ref a')) (.ref a') from rfl)
    cases ea
    refine ⟨a', vs, i, n, rfl, rfl, h1, by rw [← h2.length]; exact hn, k _ _ _ _ p2 ⟨G, ex, w.write hj (h2.set n t3), g, t4⟩⟩⟩
/-- isinstance(x, (T1, T2)) -/
theorem ej_isi2 {x y1 y2 : Str} {n1 n2 : String} {p p1 p2 p3 : Pos} {j : Nat} (hm : X.mg "isinstance" = none) (m1 : X.mg y1 = none) (m2 : X.mg y2 = none) (v1 : bootBuiltins y1 = some (.type n1)) (v2 : bootBuiltins y2 = some (.type n2))
    (h : EJ X B a Γ μ fun r μ1 => ∃ d k1 k2, r = .dat d ∧ (∀ ns, d ≠ .scr ns) ∧ kitB d.ty n1 = some k1 ∧ kitB d.ty n2 = some k2 ∧ P (.dat (.bl (k1 || k2))) μ1)
    (hg : Gl X "isinstance" := by rfl) (g1 : Gl X y1 := by rfl) (g2 : Gl X y2 := by rfl) (hn1 : y1 ≠ "__name__" := by decide) (hd1 : (y1 == ("__debug__" : Str)) = false := by decide) (hn2 : y2 ≠ "__name__" := by decide) (hd2 : (y2 == ("__debug__" : Str)) = false := by decide)
    (s0 : starEach [a, .Tuple [.Name y1 p1, .Name y2 p2] j p3] X.env = (false, eval a X.env) :: starEach [.Tuple [.Name y1 p1, .Name y2 p2] j p3] X.env := by rfl)
    (s1 : starEach [.Tuple [.Name y1 p1, .Name y2 p2] j p3] X.env = (false, eval (.Tuple [.Name y1 p1, .Name y2 p2] j p3) X.env) :: starEach [] X.env := by rfl)
    (s2 : starEach [.Name y1 p1, .Name y2 p2] X.env = (false, eval (.Name y1 p1) X.env) :: starEach [.Name y2 p2] X.env := by rfl) (s3 : starEach [.Name y2 p2] X.env = (false, eval (.Name y2 p2) X.env) :: starEach [] X.env := by rfl)
    (hpl : (backTo pos (starEach [.Tuple [.Name y1 p1, .Name y2 p2] j p3] X.env)).any (·.1) = false := by rfl) :
    EJ X B (.Call (.Name "isinstance" p) [a, .Tuple [.Name y1 p1, .Name y2 p2] j p3] [] pos) Γ μ P := fun Z τ σ xs H Q s k =>
  PE.w (pe_callB call_isiT hg hm (by rfl) (pa_cons we (pa_cons (pe_tup (pa_cons (pe_bltn (v := .ty n1) g1 m1 v1 rfl hn1 hd1) (pa_cons (pe_bltn (v := .ty n2) g2 m2 v2 rfl hn2 hd2) pa_nil s3) s2)) pa_nil s1) s0) (by decide) (by decide) s0 hpl)
    (h Z τ σ xs H _ s fun r μ1 v H1 ⟨d, k1, k2, e1, hs, b1, b2, p⟩ q1 => by
      subst e1
      refine ⟨by show 2 ≤ sizeLine; decide, fun q hq => ?_⟩
      obtain ⟨G, ex, w, g, t1, t2⟩ := q1
      refine ⟨v, q, [.ty n1, .ty n2], .type d.ty, [.type n1, .type n2], k1 || k2, rfl, upd_same, .cons (.ty n1) (.cons (.ty n2) .nil), R.tyx (G := G) (fun a u e => by rw [upd_ne (ne_of_none (w.sub _ _ e) hq)]; exact w.sub _ _ e) t1 hs, ?_, k _ _ _ _ p ⟨G, ex, w.junk hq, g, .bl _, t2⟩⟩
      refine kitAny_cons (kit_ty b1) (fun hk => ?_) (fun hk => by rw [hk]; rfl)
      rw [hk]
      refine kitAny_cons (kit_ty b2) (fun hk2 => ?_) (fun hk2 => by rw [hk2]; rfl)
      rw [hk2]
      exact kitAny_nil)
end
end K43

set_option maxHeartbeats 4000000
/-! K8: sorted(pairs, key=lambda pair: (-pair[1], pair[0])). -/
namespace K43
open PySem PySem.Spec PyProof.Rows L2

/-! ### the lambda's body -/
section
variable {prog : Program} {w : World} {A : Around} {E : Value → Shared → Prop} {s : Shared}
theorem lam_item {env : Env} {y : Str} {m : Str → Option Value} {q : Addr} {its : Array Value} {k : Int} {j jn : Nat} {u : Value} {p1 p2 p3 : Pos} {Q : Value → Shared → Prop} (hk : env.scope.kind = .function) (hl : env.kindOf y = some .local) (hn : s.heap.Ns env.locals m) (hv : m y = some (.ref q)) (hd : (y == ("__debug__" : Str)) = false)
    (ht : IsTup s.heap q its) (hlo : -(2 ^ 63) ≤ k) (hhi : k < 2 ^ 63) (hj : seqIndex? k its.size = some j) (hu : its[j]? = some u) (h : ∀ tk, Q u { s with toks := tk }) : wpAny (model prog w) A (eval (.Subscript (.Name y p1) (.Constant (.int k) jn p2) p3) env) Q E s := by
  refine Subscript_ (wpAny_Name (wpAny_loadName_local hk hl hn hv (wpAny_Constant_int ?_)) hd)
  exact subscriptTail_builtinR (x := u) ht.typeIs PyProof.Rows.slot_tuple_getitem.lookup (getItem_tuple (j := j) (Q := fun r s' => r = u ∧ Q r s') ht hlo hhi hj hu ⟨rfl, h _⟩)
theorem lam_body {env : Env} {y : Str} {m : Str → Option Value} {q : Addr} {x : Str} {i : Int} {t1 t2 : Tok} {p1 p2 p3 p4 p5 p6 p7 p8 : Pos} {j1 j2 jt : Nat} {Q : Value → Shared → Prop} (hk : env.scope.kind = .function) (hl : env.kindOf y = some .local) (hn : s.heap.Ns env.locals m) (hv : m y = some (.ref q)) (hd : (y == ("__debug__" : Str)) = false)
    (ht : IsTup s.heap q #[.str x t1, .int i t2]) (h : ∀ (tk u : Tok), Q (.ref s.heap.objs.size) { s with heap := s.heap.push { cls := .type "tuple", data := .seq #[.int (-i) u, .str x t1] }, toks := tk })
    (s1 : starEach [Expr.UnaryOp .USub (.Subscript (.Name y p1) (.Constant (.int 1) j1 p2) p3) p4, .Subscript (.Name y p5) (.Constant (.int 0) j2 p6) p7] env = [(false, eval (.UnaryOp .USub (.Subscript (.Name y p1) (.Constant (.int 1) j1 p2) p3) p4) env), (false, eval (.Subscript (.Name y p5) (.Constant (.int 0) j2 p6) p7) env)]) :
    wpAny (model prog w) A (eval (.Tuple [.UnaryOp .USub (.Subscript (.Name y p1) (.Constant (.int 1) j1 p2) p3) p4, .Subscript (.Name y p5) (.Constant (.int 0) j2 p6) p7] jt p8) env) Q E s := by
  refine wpAny_Tuple_spliced ?_
  rw [s1]
  refine Calls.spliced_cons (UnaryOp_ (lam_item (j := 1) hk hl hn hv hd ht (by decide) (by decide) rfl rfl fun tk => ?_))
  refine P.neg_int ?_
  refine Calls.spliced_cons (lam_item (s := { s with toks := tk + 1 }) (j := 0) hk hl hn hv hd ht (by decide) (by decide) rfl rfl fun tk2 => ?_)
  exact Calls.spliced_nil ⟨by show 2 ≤ sizeLine; decide, h _ _⟩
end

/-! ### the order -/
def strLe (a b : Str) : Bool := decide (a.cps.toList ≤ b.cps.toList)
/-- the greatest first, of like ones the lesser name -/
def gLe (p q : Str × Int) : Bool := decide (q.2 < p.2 ∨ (p.2 = q.2 ∧ p.1.cps.toList ≤ q.1.cps.toList))
def greatest (ps : List (Str × Int)) : List (Str × Int) := ps.mergeSort gLe
def keyD (p : Str × Int) : PyData := .tuple [.int (-p.2), .str p.1]
theorem dataLt_int (x y : Int) : PySem.W.dataLt (.int x) (.int y) = decide (x < y) := by
  have h := congrFun (congrFun (PySem.W.dataLe_int (β := Int) id) y) x
  have h2 : (!PySem.W.dataLt (.int x) (.int y)) = decide (y ≤ x) := h
  have h3 := PySem.W.not_lt_int y x
  rw [← h3] at h2
  rw [← Bool.not_not (PySem.W.dataLt (.int x) (.int y)), h2, Bool.not_not]
theorem dataLt_str (x y : Str) : PySem.W.dataLt (.str x) (.str y) = decide (x.cps.toList < y.cps.toList) := by
  have h := congrFun (congrFun (PySem.W.dataLe_str (β := Str) id) y) x
  have h2 : (!PySem.W.dataLt (.str x) (.str y)) = decide (y.cps.toList ≤ x.cps.toList) := h
  have h3 := PySem.W.not_lt_str y.cps.toList x.cps.toList
  rw [← h3] at h2
  rw [← Bool.not_not (PySem.W.dataLt (.str x) (.str y)), h2, Bool.not_not]
theorem str_ext {x y : Str} (h : x.cps.toList = y.cps.toList) : x = y := by
  cases x
  cases y
  have h2 := Array.toList_inj.mp h
  cases h2
  rfl
theorem key_le : PySem.W.dataLe false keyD = gLe := by
  funext p q
  show (!PySem.W.dataLt (keyD q) (keyD p)) = gLe p q
  unfold keyD gLe
  rw [PySem.W.dataLt_pair (by rfl) (by rfl)]
  have e1 : PyData.eqv (.int (-q.2)) (.int (-p.2)) = decide (q.2 = p.2) := by
    show ((-q.2 : Int) == -p.2) = _
    rw [Bool.eq_iff_iff]
    simp
  have e2 : PyData.eqv (.str q.1) (.str p.1) = decide (q.1 = p.1) := by
    show (q.1 == p.1) = _
    rw [Bool.eq_iff_iff]
    simp
  rw [e1, e2, dataLt_int, dataLt_str]
  by_cases h : q.2 = p.2
  · rw [decide_eq_true h, if_pos rfl]
    by_cases h2 : q.1 = p.1
    · rw [decide_eq_true h2, if_pos rfl, h, h2]
      have : p.1.cps.toList ≤ p.1.cps.toList := List.le_refl _
      simp [this]
    · rw [decide_eq_false h2, if_neg Bool.false_ne_true, h, PySem.W.not_lt_str]
      simp
  · rw [decide_eq_false h, if_neg Bool.false_ne_true]
    have h3 : ¬ p.2 = q.2 := fun z => h z.symm
    rw [Bool.eq_iff_iff]
    simp [h3]
    omega

/-! ### the rule -/
/-- the items are pairs of a text and an int -/
def PairAt (H : Hp) (v : V) (b : Str × Int) : Prop := ∃ q, v = V.ref q ∧ H q = some (.tup [.str b.1, .int b.2])
def tSortKey (K : PySem.W.Frag) (T : Tb) (te : TE) : TE := fun σ H Q => te σ H fun x H1 => LamX.Tabs T H1 ∧ ∃ (G : Hp) (a : Addr) (vs : List V) (bs : List (Str × Int)), (∀ a o, G a = some o → H1 a = some o) ∧ x = .ref a ∧ H1 a = some (.lst vs) ∧ Paired (PairAt G) vs bs ∧
  ∀ (H2 : Hp) (p : Addr) (out : List V), LamX.ExtN H1 H2 → LamX.Tabs T H2 → H2 p = none → Paired (PairAt G) out (greatest bs) → Q (.ref p) (upd H2 p (.lst out))
theorem eachIs_of {α β : Type} {R : α → β → Prop} : ∀ {as : List α} {bs : List β}, Paired R as bs → PySem.W.EachIs R as bs
  | _, _, .nil => .nil
  | _, _, .cons h t => .cons h (eachIs_of t)
theorem of_eachIs {α β : Type} {R : α → β → Prop} : ∀ {as : List α} {bs : List β}, PySem.W.EachIs R as bs → Paired R as bs
  | _, _, .nil => .nil
  | _, _, .cons h t => .cons h (of_eachIs t)
/-- values against pairs, in the raw heap's values -/
def PairV (H : Hp) (u : Value) (b : Str × Int) : Prop := ∃ q, u = Value.ref q ∧ H q = some (.tup [.str b.1, .int b.2])
theorem pairs_vals {H : Hp} : ∀ {vs : List V} {us : List Value} {bs : List (Str × Int)}, Paired (PairAt H) vs bs → Vals vs us → Paired (PairV H) us bs
  | _, _, _, .nil, .nil => .nil
  | _, _, _, .cons ⟨q, e, h⟩ t, .cons r rr => by
    subst e
    cases r
    exact .cons ⟨q, rfl, h⟩ (pairs_vals t rr)
theorem vals_pairs {H : Hp} : ∀ {us : List Value} {bs : List (Str × Int)}, Paired (PairV H) us bs → ∃ vs, Vals vs us ∧ Paired (PairAt H) vs bs
  | _, _, .nil => ⟨[], .nil, .nil⟩
  | _, _, .cons ⟨q, e, h⟩ t => by
    subst e
    obtain ⟨vs, h1, h2⟩ := vals_pairs t
    exact ⟨.ref q :: vs, .cons rfl h1, .cons ⟨q, rfl, h⟩ h2⟩
section
variable {X : Cx}
set_option maxHeartbeats 8000000 in
theorem pe_sortKey {T : Tb} {k : Nat} {c P : Addr} {e : Expr} {te : TE} {y : Str} {params : Arguments} {scope : Scope} {p pos kpos lpos p1 p2 p3 p4 p5 p6 p7 p8 : Pos} {j1 j2 jt : Nat}
    (hm : X.mg "sorted" = none) (he : PE X e te) (TB : LamX.TabB X.base X.mg c P) (hcode : X.env.code = .ref c) (hmT : (P, X.env.qual ++ "<lambda>") ∈ T) (huT : ∀ p ∈ T, p.1 = P → p.2 = X.env.qual ++ "<lambda>") (hr : Room (k + 2) X.A)
    (hdef : defaultsOf params X.env = ([], [])) (hsc : scope.names = [(y, .local)]) (hkd : scope.kind = .function) (hco : scope.isCoroutine = false) (hgen : scope.isGenerator = false) (hdb : (y == ("__debug__" : Str)) = false)
    (hbind : ∀ (q : Str) (cl : List (Str × Addr)) (pm cv ctv u : Value), bindArgs (PySem.W.kla_fn "<lambda>" q params (.Tuple [.UnaryOp .USub (.Subscript (.Name y p1) (.Constant (.int 1) j1 p2) p3) p4, .Subscript (.Name y p5) (.Constant (.int 0) j2 p6) p7] jt p8) scope cl pm cv ctv) ⟨[u], []⟩ = pure [(y, u)])
    (hstar : ∀ env : Env, starEach [Expr.UnaryOp .USub (.Subscript (.Name y p1) (.Constant (.int 1) j1 p2) p3) p4, .Subscript (.Name y p5) (.Constant (.int 0) j2 p6) p7] env = [(false, eval (.UnaryOp .USub (.Subscript (.Name y p1) (.Constant (.int 1) j1 p2) p3) p4) env), (false, eval (.Subscript (.Name y p5) (.Constant (.int 0) j2 p6) p7) env)] := by intro _; rfl)
    (hg : Gl X "sorted" := by rfl) (hs : starEach [e] X.env = (false, eval e X.env) :: starEach [] X.env := by rfl) :
    PE X (.Call (.Name "sorted" p) [e] [⟨some "key", .Lambda params (.Tuple [.UnaryOp .USub (.Subscript (.Name y p1) (.Constant (.int 1) j1 p2) p3) p4, .Subscript (.Name y p5) (.Constant (.int 0) j2 p6) p7] jt p8) scope lpos, kpos⟩] pos) (tSortKey X.K T te) := by
  refine ⟨fun pins s σ H Q I h => ?_⟩
  refine wpAny_Call_Name_kw (ld_blt I hg hm (by rfl) ?_ (by decide) (by decide))
  refine PyProof.Rows.callWith_kw ?_ (by rw [hs]; rfl) (by rw [hs]; rfl) (by rfl) (by rfl)
  rw [hs]
  refine Calls.spliced_cons (thn (he.run pins s σ H _ I h) fun v s1 ⟨x, H1, I1, r1, hT, G, a, vs, bs, hG, e1, ha, hp, q⟩ => Calls.spliced_nil ?_)
  subst e1
  cases r1
  have hfree : ∀ z ∈ scope.names, z.2 = .free → ∃ c, X.env.cells.lookup z.1 = some c := fun z hz hf => by
    rw [hsc] at hz
    have e := List.mem_singleton.mp hz
    rw [e] at hf
    cases hf
  show wpAny _ _ (evalAll [do let v ← eval (.Lambda params (.Tuple [.UnaryOp .USub (.Subscript (.Name y p1) (.Constant (.int 1) j1 p2) p3) p4, .Subscript (.Name y p5) (.Constant (.int 0) j2 p6) p7] jt p8) scope lpos) X.env; standAt pos; pure v]) _ _ s1
  refine wpAny_evalAll_cons (wpAny_bind (LamX.lam_make2 I1 TB hcode hmT huT hT hdef hfree fun f c' pm ctv H2 s2 I2 eN T2 hf hfn hfr hco' => wpAny_bind (wpAny_standAt (wpAny_pure (wpAny_evalAll_nil ?_)))))
  show wpAny _ _ (call (.builtin "sorted") [.ref a] [(Str.ofString "key", .ref f)]) _ _ s2
  have ha2 : H2 a = some (.lst vs) := eN _ _ ha fun ps z => by cases z
  obtain ⟨its, rv, hl, hz⟩ := I2.list (SqL.of ha2)
  have hpv := pairs_vals hp rv
  have hlen : bs.length = vs.length := hp.length.symm
  have tup2 : ∀ (u : Value) (b : Str × Int), PairV G u b → ∃ q t1 t2, u = .ref q ∧ IsTup s2.heap q #[.str b.1 t1, .int b.2 t2] := fun u b ⟨q, e, hq⟩ => by
    obtain ⟨z, its', r, ht⟩ := I2.hok q _ (eN _ _ (hG _ _ hq) fun ps z => by cases z)
    obtain ⟨w1, w2, e2, r1, r2⟩ := vals2 r
    obtain ⟨t1, rfl⟩ := r1
    obtain ⟨t2, rfl⟩ := r2
    subst e2
    exact ⟨q, t1, t2, e, ht⟩
  obtain ⟨⟨oc, ovs, ot, hoc, hdc, hvc⟩, _, _⟩ := I2.hok c' _ hco'
  refine PySem.W.sorted_key_data (R := PairV G) (bs := bs) (b := false) keyD hl.isList (eachIs_of hpv) (PySem.W.AllAlike.of fun b b' => by rfl) (PySem.W.Sortable.tuples fun b => ⟨_, _, rfl⟩) (by rw [hlen]; exact hz) (fun b _ => ?_) (PyProof.Rows.ksk_s1 _ _) (fun _ => PyProof.Rows.ksk_l1 _ _) (fun x => PyProof.Rows.ksk_t1 f x) (fun u b hR _ h tk kp => ?_) fun out n h' tk k1 k2 k3 k4 k5 => ?_
  · have hd : (keyD b).depth ≤ 1 := by
      unfold keyD
      simp [PyData.depth, PyData.depthAll]
    have := hr.un
    omega
  · obtain ⟨q', t1, t2, rfl, ht⟩ := tup2 u b hR
    have rc : codeAny (model X.prog X.w) X.A.in1.in1 (.call (.ref f) ⟨[.ref q'], []⟩) (fun r s' => match r with
        | .ok (.ret v) => PySem.W.KeyPure (keyD b) { s2 with heap := h, toks := tk } v s'
        | _ => False) { s2 with heap := h, toks := tk } := by
      refine PySem.W.kla_callFunE (hr.in1).in1.depth (kp _ _ hf) rfl hco hgen rfl ⟨c', oc, ovs, ot, rfl, kp _ _ hoc, hdc, hvc⟩ ?_
      rw [hbind]
      refine wpAny_pure (wpAny_newFunctionEnv (fun z hz => ?_) (fun z hz => ?_) (fun h₁ hns hsb => ⟨(I2.nolimit.keeps kp).fresh _ hsb, ?_⟩) hkd)
      · rw [hsc] at hz
        rw [List.mem_singleton.mp hz]
        exact fun z => by cases z
      · rw [List.mem_singleton.mp hz]
        show scope.names.lookup y = _
        rw [hsc]
        simp
      · have kp' : ∀ b o, h.get? b = some o → h₁.get? b = some o := fun b o e => hsb.extBut b o (Nat.ne_of_lt (Heap.lt_size e)) (Heap.get?_push_of_some _ e)
        refine PySem.W.kla_codeExpr (lam_body (x := b.1) (i := b.2) (q := q') (t1 := t1) (t2 := t2) (y := y) (m := fun x => [(y, Value.ref q')].reverse.lookup x) hkd ?_ hns (by simp) hdb (ht.keeps fun b o e => kp' b o (kp b o e)) (fun tk' u' => ?_) (hstar _))
        · show scope.names.lookup y = _
          rw [hsc]
          simp
        · refine ⟨_, _, rfl, fun b o e => Heap.get?_push_of_some _ (kp' b o e), ?_⟩
          exact Reads.tuple (Heap.get?_push_size _ rfl) rfl rfl (ReadsAll.cons (Reads.int _ _) (ReadsAll.cons (Reads.str _ _) ReadsAll.nil))
    refine wpAny_call (codeAny_mono rc fun r s' hq => ?_)
    cases r with
    | error e => exact hq.elim
    | ok fl =>
      cases fl with
      | ret v => exact hq
      | next => exact hq.elim
      | brk => exact hq.elim
      | cont => exact hq.elim
  · rw [key_le] at k5
    obtain ⟨ws, w1, w2⟩ := vals_pairs (of_eachIs k5)
    refine ⟨.ref _, upd H2 (s2.heap.objs.size + 1) (.lst ws), I2.laid k1 (Nat.le_succ _) ⟨?_, out, n, w1, k3⟩, rfl, q H2 _ ws eN T2 (I2.hok.fresh (Nat.le_succ _)) w2⟩
    rw [w1.length, k4, hlen]
    exact hz
end
end K43

set_option maxHeartbeats 4000000
/-! K9: sets made of lists, by the loop that fills them. -/
namespace K43
open PySem PySem.Spec PyProof.Rows L2

abbrev newSetO (w : World) : Obj := { cls := .type "set", dict := none, data := .set #[] 0 (.fresh 0 0 (!w.params.followText "set-order")) }
section
variable {P : Program} {w : World} {A : Around} {E : Value → Shared → Prop} {s : Shared}
/-- what the filling loop does, from the fresh set at S and the list's iterator at I -/
def Fills (P : Program) (w : World) (S l : Addr) (items : Array Value) (Φ : Heap → Prop) : Prop :=
  ∀ (A' : Around) (I : Addr) (s1 : Shared) (R : Result → Shared → Prop), A'.in1.handled = none → l ≠ I → S ∉ [I, l] → s1.heap.IsListIter I l 0 ∧ s1.heap.IsList l items → s1.heap.get? S = some (newSetO w) →
    (∀ s' : Shared, (∀ b o, b ≠ S → b ≠ I → s1.heap.get? b = some o → s'.heap.get? b = some o) → s'.gens = s1.gens → s'.drawn = s1.drawn → s'.os = s1.os → Φ s'.heap → R (.ok (.ret .none)) s') →
    codeAny (model P w) A' (.builtin "set.update.loop" ⟨[.ref S, .ref I], []⟩) R s1
set_option maxHeartbeats 8000000 in
theorem set_of_list {l : Addr} {items : Array Value} {Φ : Heap → Prop} {Q : Value → Shared → Prop} (hh : A.handled = none) (hl : s.heap.IsList l items) (fills : Fills P w s.heap.objs.size l items Φ)
    (h : ∀ (h' : Heap) (tk : Nat), Φ h' → (∀ b o, s.heap.get? b = some o → h'.get? b = some o) → Q (.ref s.heap.objs.size) { s with heap := h', toks := tk }) :
    wpAny (model P w) A (call (.type "set") [.ref l]) Q E s := by
  obtain ⟨cM, tM, mroM⟩ := PySem.F.called_set.mro
  have made := PySem.F.called_set.made
  have subO := PySem.F.called_set.sub
  refine wpAny_call (codeAny_of_tree ?_)
  show wpAny _ _ (callAny (.type "set") _) _ _ _
  refine wpAny_pure ⟨Code.quiet_builtin _ (by decide +kernel), codeAny_builtin PySem.F.entry_type_call ?_⟩
  rw [Around.under_plain (weight_type_call_type "set" [.ref l] []) rfl]
  have notT := PySem.F.called_set.notType
  have canC := PySem.F.called_set.canCreate
  have chk := PySem.F.typeCall_set_1 (.ref l)
  repeat (any_goals (first | assumption | wp_step))

  refine codeAny_mono (code_set_led1 (.ref l) (E := E) (Q₁ := fun ob st => ob = .ref s.heap.objs.size ∧ st = { s with heap := s.heap.push (newSetO w) }) ⟨rfl, rfl⟩) fun r st hr => ?_
  cases r with
  | error e => exact hr
  | ok fl =>
    cases fl with
    | ret ob =>
      obtain ⟨rfl, rfl⟩ := hr
      have at0 : (s.heap.push (newSetO w)).get? s.heap.objs.size = some (newSetO w) := Heap.get?_push_size _ rfl
      have ty0 : Shared.TypeIs { s with heap := s.heap.push (newSetO w) } (.ref s.heap.objs.size) "set" := ⟨_, at0, rfl⟩
      have lookI := PySem.F.called_set.init.lookup
      have bindI := PySem.F.called_set.init.bind (.ref s.heap.objs.size)
      repeat (any_goals (first | assumption | wp_step))

      refine codeAny_mono (codeAny_call_builtin (R := wants (fun r st2 => r = .none ∧ ∃ h' tk, st2 = { s with heap := h', toks := tk } ∧ Φ h' ∧ (∀ b o, s.heap.get? b = some o → h'.get? b = some o)) E)
        PySem.F.called_set.init.plain PySem.F.entry_set_init (check_set_init_1 ty0 ?_)) fun r2 st2 hr2 => ?_
      · obtain ⟨ol, hol, c1, n1, d1⟩ := hl
        obtain ⟨oc, od, odt, osl⟩ := ol
        simp only at c1 d1
        subst c1
        subst d1
        have hol' : (s.heap.push (newSetO w)).get? l = some { cls := .type "list", dict := od, data := .seq items n1, slots := osl } := Heap.get?_push_of_some _ hol
        have isT1 := PySem.F.sub_list_set
        have isT2 := PySem.F.sub_list_frozenset
        have noD : (Value.type "list" == Value.type "dict") = false := by decide
        have lst1 : (s.heap.push (newSetO w)).IsList l items := ⟨_, hol', rfl, n1, rfl⟩
        unfold Builtin.«set.__init__» noKeywords Builtin.Frozenset.updateFrom
        generalize hIt : pyIter = itF
        wp_walk
        subst hIt

        refine wpAny_pyIter_list lst1 ?_
        refine wpAny_bind (wpAny_runValue ?_)
        have hlS : l < s.heap.objs.size := Heap.lt_size hol
        have hI : (s.heap.push (newSetO w)).objs.size = s.heap.objs.size + 1 := Heap.size_push ..
        refine fills _ _ _ _ (by simp [hh]) (by rw [hI]; exact Nat.ne_of_lt (Nat.lt_succ_of_lt hlS)) ?_ ⟨⟨_, Heap.get?_push_size _ rfl, rfl, rfl⟩, lst1.push _⟩ (Heap.get?_push_of_some _ at0) ?_
        · rw [hI]
          simp only [List.mem_cons, List.not_mem_nil, or_false, not_or]
          exact ⟨Nat.ne_of_lt (Nat.lt_succ_self _), Nat.ne_of_gt hlS⟩
        · intro s' kp g1 d1 o1 hΦ
          obtain ⟨h', g2, d2, tk', os'⟩ := s'
          have eg : g2 = s.gens := g1
          have ed : d2 = s.drawn := d1
          have eo : os' = s.os := o1
          subst eg
          subst ed
          subst eo
          show wpAny _ _ _ _ _ _
          refine wpAny_pure ?_
          show wpAny _ _ (ret Value.none) _ _ _
          refine wpAny_pure ⟨rfl, h', tk', rfl, hΦ, fun b o e => ?_⟩
          have hb0 : b < s.heap.objs.size := Heap.lt_size e
          exact kp b o (Nat.ne_of_lt hb0) (by rw [hI]; exact Nat.ne_of_lt (Nat.lt_succ_of_lt hb0)) (Heap.get?_push_of_some _ (Heap.get?_push_of_some _ e))
      · cases r2 with
        | error e => exact hr2
        | ok fl2 =>
          cases fl2 with
          | ret r =>
            obtain ⟨rfl, h', tk, rfl, hΦ, hk'⟩ := hr2
            repeat (any_goals (first | assumption | wp_step))
            exact h _ _ hΦ hk'
          | _ => exact hr2.elim
    | _ => exact hr.elim
/-- ints: the set tells them and how it is walked -/
theorem fills_ints {S l : Addr} {items : Array Value} {ns : List Int} (hi : IntsAre items.toList ns) (hb : ns.length + 1 < scanBound) : Fills P w S l items fun h => ∃ c, SetR w h S (fun j => decide (j ∈ ns)) c ∧ c ≤ ns.length := by
  intro A' I s1 R hh hI hS hst h0 done
  have hz : items.size = ns.length := by
    have q := IntsAre.length hi
    rw [Array.length_toList] at q
    exact q
  refine set_update_ints ((Walks.list hh I l hI items).toS) S hS ns hz hb (fun i v hv => ?_) (items.size - 0) 0 s1 (by omega) (Nat.zero_le _) hst ⟨0, Nat.le_refl 0, setR_new_at h0⟩ fun s' c hm hc hR => ?_
  · have hlt : i < ns.length := by rw [← hz]; exact (Array.getElem?_eq_some_iff.mp hv).1
    obtain ⟨t, e⟩ := PyProof.Rows.IntsAre.int_at hi i v (by rw [Array.getElem?_toList]; exact hv)
    refine ⟨ns[i], t, List.getElem?_eq_getElem hlt, ?_⟩
    rw [e, List.getD_eq_getElem?_getD, List.getElem?_eq_getElem hlt]
    rfl
  · exact done s' (fun b o h1 h2 e => hm.heap b o (by simp [h1, h2]) e) hm.gens hm.drawn hm.os ⟨c, hR, by rw [← hz]; exact hc⟩
end
end K43

set_option maxHeartbeats 4000000
/-! K10: len(set(texts)), sorted(set(ints)), sorted of ints, texts and dicts. -/
namespace K43
open PySem PySem.Spec PyProof.Rows L2

section
variable {P : Program} {w : World} {A : Around} {E : Value → Shared → Prop} {s : Shared}
theorem nodup_snoc {xs : List Str} {z : Str} {i : Nat} (hz : xs[i]? = some z) : xs.take (i + 1) = xs.take i ++ [z] := by
  rw [List.take_add_one, hz]
  rfl
theorem set_update_strs {I : Addr} {fp wr : List Addr} {G : Array GenState → Array GenState → Prop} {n : Nat} {Pv : Nat → Value → Prop} {St : Nat → Shared → Prop} {R : Result → Shared → Prop}
    (W : WalksS P w A.in1 I fp wr G n Pv St) (S : Addr) (hSf : S ∉ fp) (xs : List Str) (hn : n = xs.length) (hb : xs.length + 1 < scanBound) (hval : ∀ i v, Pv i v → ∃ k t, xs[i]? = some k ∧ v = .str k t) :
    ∀ (k i : Nat) (s : Shared), n - i = k → i ≤ n → St i s → (∃ c, c ≤ i ∧ (c = i ↔ (xs.take i).Nodup) ∧ s.heap.SetOf (PySem.strKind P w) S (fun j => decide (j ∈ xs.take i)) c) →
      (∀ s' c, Moved (S :: wr) G s s' → c ≤ n → (c = n ↔ xs.Nodup) → s'.heap.SetOf (PySem.strKind P w) S (fun j => decide (j ∈ xs)) c → R (.ok (.ret .none)) s') →
      codeAny (model P w) A (.builtin "set.update.loop" ⟨[.ref S, .ref I], []⟩) R s := by
  have hSw : S ∉ wr := fun h => hSf (W.sub _ h)
  have hsub : ∀ b ∈ wr, b ∈ S :: wr := fun b hb => List.mem_cons_of_mem _ hb
  intro k
  induction k with
  | zero =>
    intro i s hk' hi hst ⟨c, hc, hnd, hS⟩ hR
    have hin : i = n := by omega
    subst hin
    refine codeAny_builtin PyProof.Rows.F.entry_set_update_loop ?_
    rw [Around.under_plainId PyProof.Rows.F.plain_set_update_loop _]
    show wpAny _ A.in1 (pyNext (.ref I) >>= _) _ _ s
    refine wpAny_bind (W.done s _ _ hst fun s' hm => ?_)
    show wpAny _ A.in1 (ret Value.none) _ _ s'
    have e : xs.take i = xs := List.take_of_length_le (by omega)
    rw [e] at hS hnd
    exact wpAny_pure (hR s' c (hm.mono hsub) hc hnd (by
      obtain ⟨o, es, ep, t, ho, rest⟩ := hS
      exact ⟨o, es, ep, t, hm.heap S o hSw ho, rest⟩))
  | succ k ih =>
    intro i s hk' hi hst ⟨c, hc, hnd, hS⟩ hR
    have hlt : i < n := by omega
    refine codeAny_builtin PyProof.Rows.F.entry_set_update_loop ?_
    rw [Around.under_plainId PyProof.Rows.F.plain_set_update_loop _]
    show wpAny _ A.in1 (pyNext (.ref I) >>= _) _ _ s
    refine wpAny_bind (W.item i s _ _ hlt hst fun v s' hP hst' hm => ?_)
    obtain ⟨z, t, hz, rfl⟩ := hval i v hP
    have hS' : s'.heap.SetOf (PySem.strKind P w) S (fun j => decide (j ∈ xs.take i)) c := by
      obtain ⟨o, es, ep, tb, ho, rest⟩ := hS
      exact ⟨o, es, ep, tb, hm.heap S o hSw ho, rest⟩
    show wpAny _ A.in1 (holding [Value.str z t] (setAdd S (.str z t)) >>= _) _ _ s'
    refine wpAny_bind (wpAny_holding ?_)
    unfold setAdd
    refine wpAny_holding ?_
    refine wpAny_bind ((PySem.strKind P w).pyHash (k := z) (strKind_is _ _ _ _) ?_)
    refine wpAny_setAddHashed_of (knd := PySem.strKind P w) (s := { s' with toks := s'.toks + 1 }) (strKind_is _ _ _ _) rfl hS' (by omega) fun h' hsb hS2 => ?_
    have e2 := nodup_snoc hz
    have hS3 : h'.SetOf (PySem.strKind P w) S (fun j => decide (j ∈ xs.take (i + 1))) (if decide (z ∈ xs.take i) = true then c else c + 1) := SetOf_congr hS2 (fun j => by
      rw [e2]
      simp [List.mem_append]) rfl
    have hc3 : (if decide (z ∈ xs.take i) = true then c else c + 1) ≤ i + 1 := by
      split <;> omega
    have hnd3 : (if decide (z ∈ xs.take i) = true then c else c + 1) = i + 1 ↔ (xs.take (i + 1)).Nodup := by
      rw [e2, List.nodup_append]
      by_cases hm : z ∈ xs.take i
      · rw [if_pos (by simpa using hm)]
        constructor
        · intro q
          omega
        · rintro ⟨_, _, q⟩
          exact absurd rfl (q z hm z (by simp))
      · rw [if_neg (by simpa using hm)]
        constructor
        · intro q
          refine ⟨hnd.mp (by omega), by simp, fun a ha b hb => ?_⟩
          simp at hb
          subst hb
          intro z'
          subst z'
          exact hm ha
        · rintro ⟨q, _, _⟩
          rw [hnd.mpr q]
    refine wpAny_pure ⟨plainId_quiet PyProof.Rows.F.plain_set_update_loop _, ih (i + 1) _ (by omega) hlt (W.frame _ s' _ _ hst' (Nat.le_succ _) fun b hb o e => ?_) ⟨_, hc3, hnd3, hS3⟩ fun s'' c2 hm'' hc'' hn'' hS'' => ?_⟩
    · rw [hsb.2 b (fun h : b = S => hSf (by rw [← h]; exact hb))]; exact e
    · refine hR s'' c2 (Moved.trans W.gtrans ((hm.mono hsub).then_heap (Nat.le_succ _) fun b o hb e => ?_) hm'') hc'' hn'' hS''
      rw [hsb.2 b (fun h : b = S => hb (by rw [h]; exact List.mem_cons_self))]; exact e
theorem fills_strs {S l : Addr} {items : Array Value} {xs : List Str} (hi : StrsAre items.toList xs) (hb : xs.length + 1 < scanBound) : Fills P w S l items fun h => ∃ c, h.SetOf (PySem.strKind P w) S (fun j => decide (j ∈ xs)) c ∧ c ≤ xs.length ∧ (c = xs.length ↔ xs.Nodup) := by
  intro A' I s1 R hh hI hS hst h0 done
  have hz : items.size = xs.length := by rw [← StrsAre.len_eq hi, Array.length_toList]
  refine set_update_strs ((Walks.list hh I l hI items).toS) S hS xs hz hb (fun i v hv => ?_) (items.size - 0) 0 s1 (by omega) (Nat.zero_le _) hst ⟨0, Nat.le_refl 0, by simp, SetOf_congr ((PyProof.Rows.setObjOf_fresh (knd := PySem.strKind P w) _).setOf h0 (by unfold scanBound; omega)) (fun _ => by simp) rfl⟩ fun s' c hm hc hn hR => ?_
  · have hlt : i < xs.length := by rw [← hz]; exact (Array.getElem?_eq_some_iff.mp hv).1
    obtain ⟨t, e⟩ := SS.strs_at hi i v (by rw [Array.getElem?_toList]; exact hv)
    refine ⟨xs[i], t, List.getElem?_eq_getElem hlt, ?_⟩
    rw [e, List.getD_eq_getElem?_getD, List.getElem?_eq_getElem hlt]
    rfl
  · exact done s' (fun b o h1 h2 e => hm.heap b o (by simp [h1, h2]) e) hm.gens hm.drawn hm.os ⟨c, hR, by rw [← hz]; exact hc, by rw [← hz]; exact hn⟩
/-- sorted(set), of any length -/
theorem sorted_setL {a : Addr} {S : Int → Bool} {n : Nat} {Q : Value → Shared → Prop} (R : SetR w s.heap a S n) (hh : A.handled = none)
    (hQ : ∀ s' p (out : Array Value) (c : Nat) (ns : List Int), (∀ b o, s.heap.get? b = some o → s'.heap.get? b = some o) → s'.gens = s.gens → s'.os = s.os → s.heap.objs.size ≤ p →
      s'.heap.get? p = some (seqObj "list" out c) → IntsAre out.toList ns → ns.Pairwise (· < ·) → (∀ k, k ∈ ns ↔ S k = true) → ns.length = n → n ≤ sizeLine → Q (.ref p) s') :
    wpAny (model P w) A (call (.builtin "sorted") [.ref a]) Q E s := by
  obtain ⟨o, es, ep, t, ho, hex, hd, g, nd, hm, hb, hf, hn, hr, hl⟩ := R
  refine Calls.call_function_entry PyProof.Rows.kind_sorted PyProof.Rows.plain_sorted PyProof.Rows.entry_sorted (PyProof.Rows.args_sorted1 _) ?_
  unfold Builtin.«sorted»
  refine wpAny_bind (m := checkCount "sorted" 1 1 _) (wpAny_pure ?_)
  refine wpAny_bind (collect_set (A := A.in1) hh ⟨o, ho, hex.1, hd⟩ hf hb hr hl fun s1 vs k1 hz g1 o1 pm => ?_)
  have hvl : vs.length = n := by rw [pm.length_eq, List.length_map, Array.length_toList]; exact hn
  have hI : IntsAre vs (vs.map Builtin.Re.reRawOf) := ints_of vs fun v hv => by
    obtain ⟨e, he, q⟩ := List.mem_map.mp (pm.mem_iff.mp hv)
    obtain ⟨k, tk, h1, _⟩ := g e he
    exact ⟨k, tk, by rw [← q]; exact h1⟩
  have pk : (vs.map Builtin.Re.reRawOf).Perm (es.toList.map keyOf) := by
    have q := pm.map Builtin.Re.reRawOf
    rw [List.map_map] at q
    exact q
  have hsz : vs.length ≤ sizeLine := by rw [hvl, ← hn]; exact fits_of_scanBound hb
  refine wpAny_bind (wpAny_newList ?_ hsz)
  have hoL : (s1.heap.push (seqObj "list" vs.toArray 0)).get? s1.heap.objs.size = some (seqObj "list" vs.toArray 0) := Heap.get?_push_size _ rfl
  refine wpAny_bind (wpAny_holding (wpAny_call_entry PyProof.Rows.slot_list_sort ⟨_, hoL, rfl⟩ PyProof.Rows.entry_list_sort (SrtO.list_sort_ord SrtO.swo_int hoL hsz (fun h2 => SrtO.ints_sortable hI h2) fun out h1 h2 => ⟨_, rfl, ?_⟩) (PyProof.Rows.args_list_sort _)))
  obtain ⟨a1, a2, a3⟩ := SrtO.ints_out hI h1 h2
  obtain ⟨c, hc⟩ := PyProof.Rows.sortedHeap_at (vs := vs) (out := out.toArray) hoL
  have pn : (out.map SrtO.iv).Perm (es.toList.map keyOf) := a2.trans pk
  refine wpAny_pure ⟨_, rfl, hQ _ s1.heap.objs.size out.toArray c (out.map SrtO.iv) (fun b u e => ?_) g1 o1 hz hc (by simpa using a1) (lt_of_le_nodup _ a3 (pn.nodup_iff.mpr nd)) (fun k => by rw [pn.mem_iff, ← hm k]) ?_ (by rw [← hvl]; exact hsz)⟩
  · have q := k1 b u e
    have hlt := Heap.lt_size q
    show (PyProof.Rows.sortedHeap (s1.heap.push (seqObj "list" vs.toArray 0)) s1.heap.objs.size vs out.toArray).get? b = some u
    rw [PyProof.Rows.sortedHeap_old (Nat.ne_of_lt hlt) (by rw [size_push']; exact Nat.lt_succ_of_lt hlt)]
    exact Heap.get?_push_of_some _ q
  · rw [pn.length_eq, List.length_map, Array.length_toList]
    exact hn
end
end K43

set_option maxHeartbeats 4000000
/-! K11: the sorts as plain functions, and their rules. -/
namespace K43
open PySem PySem.Spec PyProof.Rows L2

/-! ### plain sorts -/
def insI (x : Int) : List Int → List Int
  | [] => [x]
  | y :: l => if x < y then x :: y :: l else if x = y then y :: l else y :: insI x l
def usort : List Int → List Int
  | [] => []
  | x :: l => insI x (usort l)
def isort (ns : List Int) : List Int := ns.mergeSort fun a b => decide (a ≤ b)
def ssort (xs : List Str) : List Str := xs.mergeSort strLe
theorem mem_insI {x z : Int} : ∀ {l : List Int}, z ∈ insI x l ↔ z = x ∨ z ∈ l
  | [] => by simp [insI]
  | y :: l => by
    unfold insI
    by_cases h : x < y
    · rw [if_pos h]; simp
    · rw [if_neg h]
      by_cases h2 : x = y
      · rw [if_pos h2]; simp [h2]
      · rw [if_neg h2, List.mem_cons, mem_insI, List.mem_cons]
        constructor
        · rintro (a | a | a)
          · exact .inr (.inl a)
          · exact .inl a
          · exact .inr (.inr a)
        · rintro (a | a | a)
          · exact .inr (.inl a)
          · exact .inl a
          · exact .inr (.inr a)
theorem insI_sorted {x : Int} : ∀ {l : List Int}, l.Pairwise (· < ·) → (insI x l).Pairwise (· < ·)
  | [], _ => by simp [insI]
  | y :: l, h => by
    obtain ⟨h1, h2⟩ := List.pairwise_cons.mp h
    unfold insI
    by_cases c : x < y
    · rw [if_pos c]
      refine List.pairwise_cons.mpr ⟨fun z hz => ?_, h⟩
      rcases List.mem_cons.mp hz with rfl | hz
      · exact c
      · exact Int.lt_trans c (h1 z hz)
    · rw [if_neg c]
      by_cases c2 : x = y
      · rw [if_pos c2]; exact h
      · rw [if_neg c2]
        refine List.pairwise_cons.mpr ⟨fun z hz => ?_, insI_sorted h2⟩
        rcases mem_insI.mp hz with rfl | hz
        · omega
        · exact h1 z hz
theorem mem_usort {z : Int} : ∀ {l : List Int}, z ∈ usort l ↔ z ∈ l
  | [] => by simp [usort]
  | y :: l => by
    unfold usort
    rw [mem_insI, mem_usort, List.mem_cons]
theorem usort_sorted : ∀ (l : List Int), (usort l).Pairwise (· < ·)
  | [] => List.Pairwise.nil
  | y :: l => by
    unfold usort
    exact insI_sorted (usort_sorted l)
theorem lt_sorted_ext : ∀ {l m : List Int}, l.Pairwise (· < ·) → m.Pairwise (· < ·) → (∀ z, z ∈ l ↔ z ∈ m) → l = m
  | [], [], _, _, _ => rfl
  | [], y :: m, _, _, h => by have := (h y).mpr (by simp); simp at this
  | x :: l, [], _, _, h => by have := (h x).mp (by simp); simp at this
  | x :: l, y :: m, h1, h2, h => by
    obtain ⟨a1, a2⟩ := List.pairwise_cons.mp h1
    obtain ⟨b1, b2⟩ := List.pairwise_cons.mp h2
    have exy : x = y := by
      rcases List.mem_cons.mp ((h x).mp (by simp)) with e | e
      · exact e
      · rcases List.mem_cons.mp ((h y).mpr (by simp)) with e2 | e2
        · exact e2.symm
        · have q1 := b1 x e
          have q2 := a1 y e2
          omega
    subst exy
    congr 1
    refine lt_sorted_ext a2 b2 fun z => ?_
    constructor
    · intro hz
      rcases List.mem_cons.mp ((h z).mp (by simp [hz])) with e | e
      · have := a1 z hz
        omega
      · exact e
    · intro hz
      rcases List.mem_cons.mp ((h z).mpr (by simp [hz])) with e | e
      · have := b1 z hz
        omega
      · exact e
theorem insI_length (x : Int) : ∀ (l : List Int), (insI x l).length ≤ l.length + 1
  | [] => by simp [insI]
  | y :: l => by
    have := insI_length x l
    unfold insI
    split
    · simp
    · split
      · simp
      · simp; omega
theorem usort_length : ∀ (l : List Int), (usort l).length ≤ l.length
  | [] => by simp [usort]
  | y :: l => by
    have h1 := insI_length y (usort l)
    have h2 := usort_length l
    unfold usort
    simp
    omega
theorem isort_eq {ns ns' : List Int} (h : ns'.Perm ns) (s : ns'.Pairwise (· ≤ ·)) : ns' = isort ns := by
  refine List.Perm.eq_of_pairwise (le := (· ≤ ·)) (fun a b _ _ h1 h2 => Int.le_antisymm h1 h2) s ?_ (h.trans (List.mergeSort_perm _ _).symm)
  have := List.pairwise_mergeSort (le := fun (a b : Int) => decide (a ≤ b)) (fun a b c h1 h2 => by simp at *; omega) (fun a b => by simp; omega) ns
  exact this.imp fun h => by simpa using h
theorem strLe_total (a b : Str) : (strLe a b || strLe b a) = true := by
  unfold strLe
  rcases List.le_total a.cps.toList b.cps.toList with h | h
  · simp [h]
  · simp [h]
theorem strLe_trans (a b c : Str) (h1 : strLe a b = true) (h2 : strLe b c = true) : strLe a c = true := by
  unfold strLe at *
  simp at *
  exact List.le_trans h1 h2
theorem strLe_anti {a b : Str} (h1 : strLe a b = true) (h2 : strLe b a = true) : a = b := by
  unfold strLe at *
  simp at *
  exact str_ext (List.le_antisymm h1 h2)
theorem ssort_sorted (xs : List Str) : (ssort xs).Pairwise (fun a b => strLe a b = true) := List.pairwise_mergeSort strLe_trans strLe_total xs
theorem ssort_perm (xs : List Str) : (ssort xs).Perm xs := List.mergeSort_perm _ _
theorem rising_pw : ∀ (x : Str) (l : List Str), risingS x l = true → (x :: l).Pairwise (fun a b => strLe a b = true)
  | x, [], _ => by simp
  | x, y :: l, h => by
    have h' : (!ltCps y.cps.toList x.cps.toList && risingS y l) = true := h
    rw [Bool.and_eq_true] at h'
    have ih := rising_pw y l h'.2
    have xy : strLe x y = true := by
      have := h'.1
      rw [ltCps_eq] at this
      unfold strLe
      rw [← PySem.W.not_lt_str]
      exact this
    refine List.pairwise_cons.mpr ⟨fun z hz => ?_, ih⟩
    rcases List.mem_cons.mp hz with rfl | hz
    · exact xy
    · exact strLe_trans _ _ _ xy ((List.pairwise_cons.mp ih).1 z hz)
theorem ssort_eq {xs ys : List Str} (h : ys.Perm xs) (s : sortedS ys = true) : ys = ssort xs := by
  have pw : ys.Pairwise (fun a b => strLe a b = true) := by
    cases ys with
    | nil => exact List.Pairwise.nil
    | cons y l => exact rising_pw y l s
  exact List.Perm.eq_of_pairwise (fun a b _ _ h1 h2 => strLe_anti h1 h2) pw (ssort_sorted xs) (h.trans (ssort_perm xs).symm)

/-! ### the rules -/
section
variable {K : PySem.W.Frag} {μ : Mem} {P : AV → Mem → Prop} {rs : List AV}
theorem rall_strs {K : PySem.W.Frag} {G : Hp} (ns : List Str) : RAll K G (ns.map D.str) (ns.map V.str) := RAll.of_strs ns
theorem cj_sortI (h : ∃ r ns, rs = [r] ∧ Den μ r (.lst (ns.map D.int)) ∧ P (.dat (.lst ((isort ns).map D.int))) μ) : CJ K (rSortedI K) rs μ P := fun B Z Γ τ σ vs xs H Q l s k => by
  obtain ⟨r, ns, rfl, hd, p⟩ := h
  obtain ⟨u, rfl⟩ := one_inv l
  obtain ⟨G, e0, w, g, t1, t3⟩ := s
  obtain ⟨a, us, rfl, h1, h2⟩ := den_lst w hd t1
  have e := h2.ints
  subst e
  refine ⟨a, ns, rfl, SqL.of h1, fun ns' q hp hs hq => ?_⟩
  rw [isort_eq hp hs]
  exact k _ _ _ _ p (SA.newLst hq ⟨G, e0, w, g, t3, RAll.of_ints _⟩)
theorem cj_sortS (h : ∃ r ns, rs = [r] ∧ Den μ r (.lst (ns.map D.str)) ∧ ns.length < 64 ∧ P (.dat (.lst ((ssort ns).map D.str))) μ) : CJ K (rSortedS K) rs μ P := fun B Z Γ τ σ vs xs H Q l s k => by
  obtain ⟨r, ns, rfl, hd, h64, p⟩ := h
  obtain ⟨u, rfl⟩ := one_inv l
  obtain ⟨G, e0, w, g, t1, t3⟩ := s
  obtain ⟨a, us, rfl, h1, h2⟩ := den_lst w hd t1
  have e := h2.strs
  subst e
  refine ⟨a, ns, rfl, SqL.of h1, h64, fun ns' q hp hs hq => ?_⟩
  rw [ssort_eq hp hs]
  exact k _ _ _ _ p (SA.newLst hq ⟨G, e0, w, g, t3, RAll.of_strs _⟩)
theorem rl_keys {K : PySem.W.Frag} {G : Hp} : ∀ {l : AL} {ps : List (Key × V)}, RL K G l ps → ps.map (·.1) = (l.map (·.1)).map Sum.inr
  | [], [], _ => rfl
  | [], _ :: _, h => h.elim
  | _ :: _, [], h => h.elim
  | (x, d) :: l, (y, v) :: ps, h => by
    obtain ⟨h1, h2, h3⟩ := h
    rw [List.map_cons, List.map_cons, List.map_cons, rl_keys h3]
    congr 1
theorem cj_sortD (h : ∃ (r : AV) (l : AL), rs = [r] ∧ Den μ r (dicD l) ∧ l.length < 64 ∧ P (.dat (.lst ((ssort (l.map (·.1))).map D.str))) μ) : CJ K (fun xs H Q => ∃ (a : Addr) (kvs : List (Key × V)) (ks : List Str), xs = [.ref a] ∧ Rd H a (.dK kvs) ∧ kvs.map (·.1) = ks.map Sum.inr ∧ ks.length < 64 ∧
    ∀ ys p, ys.Perm ks → sortedS ys = true → H p = none → Q (.ref p) (upd H p (.lst (ys.map V.str)))) rs μ P := fun B Z Γ τ σ vs xs H Q l s k => by
  obtain ⟨r, ns, rfl, hd, h64, p⟩ := h
  obtain ⟨u, rfl⟩ := one_inv l
  obtain ⟨G, e0, w, g, t1, t3⟩ := s
  obtain ⟨a, ps, rfl, h1, h2⟩ := den_rl w hd t1
  refine ⟨a, ps, ns.map (·.1), rfl, .inl h1, rl_keys h2, by rw [List.length_map]; exact h64, fun ys q hp hs hq => ?_⟩
  rw [ssort_eq hp hs]
  exact k _ _ _ _ p (SA.newLst hq ⟨G, e0, w, g, t3, RAll.of_strs _⟩)
end

section
variable {X : Cx} {B : Tb} {Γ : List AV} {μ : Mem} {P : AV → Mem → Prop} {a : Expr} {ta : TE} {p p2 q pos : Pos}
/-- len(set(xs)) of texts -/
def tLenSetS (K : PySem.W.Frag) (ta : TE) : TE := fun σ H Q => ta σ H fun x H1 => ∃ (l : Addr) (xs : List Str), x = .ref l ∧ SqL K H1 l (xs.map V.str) ∧ xs.length ≤ 4000 ∧ ∀ c : Nat, c ≤ xs.length → (c = xs.length ↔ xs.Nodup) → Q (.int (c : Nat)) H1
theorem pe_lenSetS (hg : Gl X "len") (hm : X.mg "len" = none) (hg2 : Gl X "set") (hm2 : X.mg "set" = none) (ha : PE X a ta) (hc : X.calm = true := by rfl)
    (na : starEach [a] X.env = (false, eval a X.env) :: starEach [] X.env := by rfl) : PE X (.Call (.Name "len" p) [.Call (.Name "set" p2) [a] [] q] [] pos) (tLenSetS X.K ta) := by
  refine ⟨fun pins s σ H Q I h => ?_⟩
  refine Call_ (ld_blt I hg hm boot_len ?_)
  refine PyProof.Rows.callWith_builtin1 (PyProof.Rows.args_cons ?_ rfl) rfl rfl
  refine Call_ (ld_blt I hg2 hm2 boot_set ?_)
  refine PyProof.Rows.callWith_type1 (PyProof.Rows.args_cons (thn (ha.run pins s σ H _ I h) fun v s1 ⟨x, H1, I1, r1, q1⟩ => PyProof.Rows.args_nil ?_) na) na rfl
  obtain ⟨l, xs, rfl, hq, hl, q1⟩ := q1
  cases r1
  obtain ⟨its, r, pl, hz⟩ := I1.list hq
  refine set_of_list (I1.ok.hd hc) pl.isList (fills_strs (xs := xs) (by simpa using strsAre_of r) (by unfold scanBound; omega)) fun h' tk ⟨c, hS, hc1, hc2⟩ hk => ?_
  refine PyProof.Rows.args_nil ?_
  obtain ⟨o, es, ep, t, ho, hex, hd, _, _, _, hf, hn⟩ := hS
  have I2 : Inv X pins σ H1 { s1 with heap := h', toks := tk } := I1.kept hk
  exact call_len_set ho hex hd hf (by rw [hn] <;> omega) ⟨.int c, H1, I2.tok _, ⟨_, by rw [hn]⟩, q1 c hc1 hc2⟩
theorem ej_lenSetS (hm : X.mg "len" = none) (hm2 : X.mg "set" = none) (h : EJ X B a Γ μ fun r μ1 => ∃ xs : List Str, r = .dat (.lst (xs.map D.str)) ∧ xs.length ≤ 4000 ∧ ∀ c : Nat, c ≤ xs.length → (c = xs.length ↔ xs.Nodup) → P (.dat (.int (c : Nat))) μ1) (hg : Gl X "len" := by rfl) (hg2 : Gl X "set" := by rfl) (hc : X.calm = true := by rfl)
    (na : starEach [a] X.env = (false, eval a X.env) :: starEach [] X.env := by rfl) : EJ X B (.Call (.Name "len" p) [.Call (.Name "set" p2) [a] [] q] [] pos) Γ μ P := fun Z τ σ xs H Q s k =>
  PE.w (pe_lenSetS hg hm hg2 hm2 we hc na) (h Z τ σ xs H _ s fun r1 μ1 x H1 ⟨ns, e1, hl, p1⟩ s1 => by
    subst e1
    obtain ⟨G, e0, w, g, t1, t3⟩ := s1
    obtain ⟨b, us, rfl, h1, h2⟩ := den_lst w (.dat _) t1
    have e := h2.strs
    subst e
    exact ⟨b, ns, rfl, SqL.of h1, hl, fun c h1 h2 => k _ _ _ _ (p1 c h1 h2) ⟨G, e0, w, g, .int _, t3⟩⟩)
/-- sorted(set(xs)) of ints -/
def tSortSet (K : PySem.W.Frag) (ta : TE) : TE := fun σ H Q => ta σ H fun x H1 => ∃ (l : Addr) (xs : List Int), x = .ref l ∧ SqL K H1 l (xs.map V.int) ∧ xs.length ≤ 4000 ∧ ∀ p, H1 p = none → Q (.ref p) (upd H1 p (.lst ((usort xs).map V.int)))
theorem sorted_fin {pins : List (Addr × Obj)} {σ : St} {H : Hp} {s : Shared} {Q : VK} {b : Addr} {S : Int → Bool} {n : Nat} (I : Inv X pins σ H s) (hc : X.calm = true) (R : SetR X.w s.heap b S n)
    (q : ∀ (ns : List Int) (p : Addr), ns.Pairwise (· < ·) → (∀ k : Int, k ∈ ns ↔ S k = true) → H p = none → Q (.ref p) (upd H p (.lst (ns.map V.int)))) : wpAny (model X.prog X.w) X.A (call (.builtin "sorted") [.ref b]) (L2.EP X pins σ Q) X.xe s := by
  refine sorted_setL R (I.ok.hd hc) fun s' p out c ns k g o hp hg hi hs hm hl hz => ?_
  have hlen : (ns.map V.int).length ≤ sizeLine := by rw [List.length_map, hl]; exact hz
  have hn : H p = none := I.hok.fresh hp
  have J : Inv X pins σ (upd H p (.lst (ns.map V.int))) { s with heap := s'.heap, gens := s'.gens, drawn := s'.drawn, toks := s'.toks } :=
    I.call (ch := []) (Un.laid k hp hn) (I.hok.laid k hp ⟨hlen, out.toList, c, vals_of_ints hi, hg⟩) (by rw [g]; exact I.bare) (fun _ z => nomatch z)
  have e : s' = { s with heap := s'.heap, gens := s'.gens, drawn := s'.drawn, toks := s'.toks } := by
    cases s'
    cases s
    cases o
    rfl
  rw [e]
  exact ⟨.ref p, _, J, rfl, q ns p hs hm hn⟩
theorem pe_sortSet (hg : Gl X "sorted") (hm : X.mg "sorted" = none) (hg2 : Gl X "set") (hm2 : X.mg "set" = none) (ha : PE X a ta) (hc : X.calm = true := by rfl)
    (na : starEach [a] X.env = (false, eval a X.env) :: starEach [] X.env := by rfl) : PE X (.Call (.Name "sorted" p) [.Call (.Name "set" p2) [a] [] q] [] pos) (tSortSet X.K ta) := by
  refine ⟨fun pins s σ H Q I h => ?_⟩
  refine Call_ (ld_blt I hg hm (by rfl) ?_)
  refine PyProof.Rows.callWith_builtin1 (PyProof.Rows.args_cons ?_ rfl) rfl rfl
  refine Call_ (ld_blt I hg2 hm2 boot_set ?_)
  refine PyProof.Rows.callWith_type1 (PyProof.Rows.args_cons (thn (ha.run pins s σ H _ I h) fun v s1 ⟨x, H1, I1, r1, q1⟩ => PyProof.Rows.args_nil ?_) na) na rfl
  obtain ⟨l, xs, rfl, hq, hl, q1⟩ := q1
  cases r1
  obtain ⟨its, r, pl, hz⟩ := I1.list hq
  refine set_of_list (I1.ok.hd hc) pl.isList (fills_ints (ns := xs) (by simpa using r.ints) (by unfold scanBound; omega)) fun h' tk ⟨c, hS, hc1⟩ hk => ?_
  refine PyProof.Rows.args_nil ?_
  have I2 : Inv X pins σ H1 { s1 with heap := h', toks := tk } := I1.kept hk
  exact sorted_fin I2 hc hS fun ns pp hs hm hn => by
    have en : ns = usort xs := lt_sorted_ext hs (usort_sorted xs) fun z => by
      rw [hm z, mem_usort]
      simp
    subst en
    exact q1 pp hn
theorem ej_sortSet (hm : X.mg "sorted" = none) (hm2 : X.mg "set" = none) (h : EJ X B a Γ μ fun r μ1 => ∃ xs : List Int, r = .dat (.lst (xs.map D.int)) ∧ xs.length ≤ 4000 ∧ P (.dat (.lst ((usort xs).map D.int))) μ1) (hg : Gl X "sorted" := by rfl) (hg2 : Gl X "set" := by rfl) (hc : X.calm = true := by rfl)
    (na : starEach [a] X.env = (false, eval a X.env) :: starEach [] X.env := by rfl) : EJ X B (.Call (.Name "sorted" p) [.Call (.Name "set" p2) [a] [] q] [] pos) Γ μ P := fun Z τ σ xs H Q s k =>
  PE.w (pe_sortSet hg hm hg2 hm2 we hc na) (h Z τ σ xs H _ s fun r1 μ1 x H1 ⟨ns, e1, hl, p1⟩ s1 => by
    subst e1
    obtain ⟨G, e0, w, g, t1, t3⟩ := s1
    obtain ⟨b, us, rfl, h1, h2⟩ := den_lst w (.dat _) t1
    have e := h2.ints
    subst e
    exact ⟨b, ns, rfl, SqL.of h1, hl, fun q hq => k _ _ _ _ p1 (SA.newLst hq ⟨G, e0, w, g, t3, RAll.of_ints _⟩)⟩)

/-! ### sorted(pairs, key=lambda pair: (-pair[1], pair[0])) -/
def siD (p : Str × Int) : D := .tup [.str p.1, .int p.2]
theorem pairs_of {K : PySem.W.Frag} {G : Hp} : ∀ {bs : List (Str × Int)} {vs : List V}, RAll K G (bs.map siD) vs → Paired (PairAt G) vs bs
  | [], _, h => by cases h; exact .nil
  | b :: bs, _, h => by
    cases h with
    | cons h1 h2 =>
      cases h1 with
      | tup a1 a2 =>
        cases a2 with
        | cons b1 b2 =>
          cases b1
          cases b2 with
          | cons c1 c2 =>
            cases c1
            cases c2
            exact .cons ⟨_, rfl, a1⟩ (pairs_of h2)
theorem pairs_to {K : PySem.W.Frag} {G : Hp} : ∀ {bs : List (Str × Int)} {vs : List V}, Paired (PairAt G) vs bs → RAll K G (bs.map siD) vs
  | _, _, .nil => .nil
  | _, _, .cons ⟨q, e, h⟩ t => by
    subst e
    exact .cons (.tup h (.cons (.str _) (.cons (.int _) .nil))) (pairs_to t)
theorem Wd.extN {K : PySem.W.Frag} {T : Tb} {F G H H' : Hp} {μ : Mem} (w : Wd K T F μ G H) (e : LamX.ExtN H H') (t : LamX.Tabs T H') : Wd K T F μ G H' where
  sub := fun a o h => e a o (w.sub a o h) fun ps z => (w.nt a ps).1 (by rw [h, z])
  fr := fun a o h => ⟨e a o (w.fr a o h).1 fun ps z => (w.nt a ps).2 (by rw [h, z]), (w.fr a o h).2⟩
  mem := fun j a d h => by
    obtain ⟨h1, h2, o, h3, h4⟩ := w.mem j a d h
    refine ⟨h1, h2, o, e a o h3 fun ps z => ?_, h4⟩
    subst z
    rcases h4.shape with ⟨_, z⟩ | ⟨_, z⟩ <;> cases z
  nd := w.nd
  tab := t
  tabG := w.tabG
  nt := w.nt
theorem ej_sortKey {k : Nat} {c P0 : Addr} {e : Expr} {y : Str} {params : Arguments} {scope : Scope} {p pos kpos lpos p1 p2 p3 p4 p5 p6 p7 p8 : Pos} {j1 j2 jt : Nat}
    (hm : X.mg "sorted" = none) (TB : LamX.TabB X.base X.mg c P0) (hcode : X.env.code = .ref c) (hmT : (P0, X.env.qual ++ "<lambda>") ∈ B) (huT : ∀ p ∈ B, p.1 = P0 → p.2 = X.env.qual ++ "<lambda>") (hr : Room (k + 2) X.A)
    (h : EJ X B e Γ μ fun r μ1 => ∃ bs : List (Str × Int), Den μ1 r (.lst (bs.map siD)) ∧ P (.dat (.lst ((greatest bs).map siD))) μ1)
    (hdef : defaultsOf params X.env = ([], [])) (hsc : scope.names = [(y, .local)]) (hkd : scope.kind = .function) (hco : scope.isCoroutine = false) (hgen : scope.isGenerator = false) (hdb : (y == ("__debug__" : Str)) = false)
    (hbind : ∀ (q : Str) (cl : List (Str × Addr)) (pm cv ctv u : Value), bindArgs (PySem.W.kla_fn "<lambda>" q params (.Tuple [.UnaryOp .USub (.Subscript (.Name y p1) (.Constant (.int 1) j1 p2) p3) p4, .Subscript (.Name y p5) (.Constant (.int 0) j2 p6) p7] jt p8) scope cl pm cv ctv) ⟨[u], []⟩ = pure [(y, u)])
    (hstar : ∀ env : Env, starEach [Expr.UnaryOp .USub (.Subscript (.Name y p1) (.Constant (.int 1) j1 p2) p3) p4, .Subscript (.Name y p5) (.Constant (.int 0) j2 p6) p7] env = [(false, eval (.UnaryOp .USub (.Subscript (.Name y p1) (.Constant (.int 1) j1 p2) p3) p4) env), (false, eval (.Subscript (.Name y p5) (.Constant (.int 0) j2 p6) p7) env)] := by intro _; rfl)
    (hg : Gl X "sorted" := by rfl) (hs : starEach [e] X.env = (false, eval e X.env) :: starEach [] X.env := by rfl) :
    EJ X B (.Call (.Name "sorted" p) [e] [⟨some "key", .Lambda params (.Tuple [.UnaryOp .USub (.Subscript (.Name y p1) (.Constant (.int 1) j1 p2) p3) p4, .Subscript (.Name y p5) (.Constant (.int 0) j2 p6) p7] jt p8) scope lpos, kpos⟩] pos) Γ μ P := fun Z τ σ xs H Q s kk =>
  PE.w (pe_sortKey (T := B) hm we TB hcode hmT huT hr hdef hsc hkd hco hgen hdb hbind hstar hg hs) (h Z τ σ xs H _ s fun r1 μ1 x H1 ⟨bs, hd, p1⟩ s1 => by
    obtain ⟨G, e0, w, g, t1, t3⟩ := s1
    obtain ⟨b, us, rfl, h1, h2⟩ := den_lst w hd t1
    refine ⟨w.tab, G, b, us, bs, w.sub, rfl, h1, pairs_of h2, fun H2 q out eN T2 hq hp => ?_⟩
    exact kk _ _ _ _ p1 (SA.newLst hq ⟨G, e0, w.extN eN T2, g, t3, pairs_to hp⟩))
end
end K43

set_option maxHeartbeats 4000000
/-! K12: more rules: several targets of a tuple display, memory let go, calls. -/
namespace K43
open PySem PySem.Spec PyProof.Rows L2

section
variable {K : PySem.W.Frag} {B : Tb} {Z : Zs} {Γ τ : List AV} {μ ν : Mem} {σ : St} {xs vs : List V} {H F G : Hp}
/-- memory let go, or in another order -/
theorem Wd.less (w : Wd K B F μ G H) (hs : ∀ p ∈ ν, p ∈ μ) (nd : (ν.map Prod.fst).Nodup) : Wd K B F ν G H where
  sub := w.sub
  fr := w.fr
  mem := fun j a d e => by
    have h := hs _ (List.mem_of_getElem? e)
    obtain ⟨i, hi⟩ := List.mem_iff_getElem?.mp h
    exact w.mem i a d hi
  nd := nd
  tab := w.tab
  tabG := w.tabG
  nt := w.nt
theorem SA.perm (s : SA K B Z Γ τ μ σ xs H) (h : ν.Perm μ) : SA K B Z Γ τ ν σ xs H := by
  obtain ⟨G, e0, w, g, t⟩ := s
  exact ⟨G, e0, w.less (fun p hp => h.mem_iff.mp hp) ((h.map Prod.fst).nodup_iff.mpr w.nd), g, t⟩
theorem SA.sub (s : SA K B Z Γ τ μ σ xs H) (h : ν.Sublist μ) : SA K B Z Γ τ ν σ xs H := by
  obtain ⟨G, e0, w, g, t⟩ := s
  exact ⟨G, e0, w.less (fun p hp => h.subset hp) ((h.map Prod.fst).nodup w.nd), g, t⟩
end
section
variable {X : Cx} {B : Tb} {Γ : List AV} {μ ν : Mem} {P : AV → Mem → Prop} {A : AE} {e : Expr} {pos : Pos} {sts : List Stmt}
theorem ssj_sub (h : ν.Sublist μ) (q : SsJ X B sts Γ ν A) : SsJ X B sts Γ μ A := fun Z τ σ xs H D s k => q Z τ σ xs H D (s.sub h) k
theorem ssj_perm (h : ν.Perm μ) (q : SsJ X B sts Γ ν A) : SsJ X B sts Γ μ A := fun Z τ σ xs H D s k => q Z τ σ xs H D (s.perm h) k
theorem ej_sub (q : EJ X B e Γ μ fun r μ1 => ∃ ν1, ν1.Sublist μ1 ∧ P r ν1) : EJ X B e Γ μ P := fun Z τ σ xs H Q s k => q Z τ σ xs H Q s fun r μ' v H' ⟨ν1, h1, p⟩ s1 => k r ν1 v H' p (s1.sub h1)
theorem ej_perm (q : EJ X B e Γ μ fun r μ1 => ∃ ν1, ν1.Perm μ1 ∧ P r ν1) : EJ X B e Γ μ P := fun Z τ σ xs H Q s k => q Z τ σ xs H Q s fun r μ' v H' ⟨ν1, h1, p⟩ s1 => k r ν1 v H' p (s1.perm h1)
/-- x, y, .. = a, b, ..: a tuple made and taken apart -/
theorem sj_parT {tgs es : List Expr} {kt k2 n : Nat} {tpos epos : Pos} (h : AJ X B es Γ μ fun rs μ1 => rs.length = n ∧ GsJ X B tgs rs Γ μ1 A.nx) (hz : n ≤ sizeLine) (hc : X.calm = true := by rfl) (hn : (assignEach tgs X.env).length = n := by rfl) (hst : (assignEach tgs X.env).findIdx? (·.1) = none := by rfl)
    (hs : swapsWithSole [.Tuple tgs kt tpos] (.Tuple es k2 epos) pos.line X.env = pure false := by rfl) (hw : swappedStores [.Tuple tgs kt tpos] (.Tuple es k2 epos) X.env = pure none := by rfl)
    (h1 : (assignEach [.Tuple tgs kt tpos] X.env).map (·.2) = [assign (.Tuple tgs kt tpos) X.env] := by rfl) : SJ X B (.Assign [.Tuple tgs kt tpos] (.Tuple es k2 epos) pos) Γ μ A := fun Z τ σ xs H D s k =>
  ⟨_, ps_asg (pe_tup wa) (pg_tup hc wgs hn hst) hs hw h1, h Z τ σ xs H _ s fun rs μ1 vs H1 ⟨hl, p⟩ l s1 => ⟨by rw [← l, hl]; exact hz, fun q hq => ⟨q, vs, rfl, SqT.of upd_same, by rw [← l]; exact hl, p Z τ σ vs xs _ _ l (by
    obtain ⟨G, e0, w, g, t⟩ := s1
    exact ⟨G, e0, w.junk hq, g, t⟩) fun Γ1 μ2 σ1 H2 q s2 => k.nx _ _ _ _ q s2⟩⟩⟩
/-- a + b of lists: a new one, to be changed -/
theorem oj_catM {K : PySem.W.Frag} {r1 r2 : AV} (h : ∃ ds es, Den μ r1 (.lst ds) ∧ Den μ r2 (.lst es) ∧ ds.length + es.length ≤ sizeLine ∧ ∀ p, P (.val (.ref p)) (μ ++ [(p, .lst (ds ++ es))])) : OJ K rCat r1 r2 μ P := fun B Z Γ τ σ x y xs H Q s k => by
  obtain ⟨ds, es, h1, h2, hl, p⟩ := h
  obtain ⟨G, e0, w, g, t1, t2, t3⟩ := s
  obtain ⟨a, vs, rfl, a1, a2⟩ := den_lst w h1 t2
  obtain ⟨b, us, rfl, b1, b2⟩ := den_lst w h2 t1
  refine ⟨a, b, vs, us, rfl, rfl, a1, b1, ?_, fun q hq => k _ _ _ _ (p q) (SA.newLstM hq ⟨G, e0, w, g, t3, a2.append b2⟩)⟩
  rw [← a2.length, ← b2.length]
  exact hl
/-- a def that touches no memory -/
abbrev Pu := List AV → D → Prop
def pu (R : List AV → (D → Prop) → Prop) : Ab := fun as μ P => μ = [] ∧ R as fun d => P (.dat d) []
theorem mono_pu {R : List AV → (D → Prop) → Prop} (h : ∀ as (p q : D → Prop), (∀ d, p d → q d) → R as p → R as q) : Mono (pu R) := fun as μ P P' k ⟨h1, h2⟩ => ⟨h1, h _ _ _ (fun d q => k _ _ q) h2⟩
theorem ej_callP {R : List AV → (D → Prop) → Prop} {k : Nat} {ps : List Str} {x : Str} {es : List Expr} {p : Pos} (F : Df X.prog X.w X.K X.mg X.base B x k ps (pu R)) (hr : Room k X.A)
    (h : AJ X B (e :: es) Γ μ fun rs μ1 => R rs fun d => P (.dat d) μ1) (hg : Gl X x := by rfl) (hdb : (x == ("__debug__" : Str)) = false := by decide) (he : starEach (e :: es) X.env = (false, eval e X.env) :: starEach es X.env := by rfl) (hpl : (backTo pos (starEach es X.env)).any (·.1) = false := by rfl) :
    EJ X B (.Call (.Name x p) (e :: es) [] pos) Γ μ P :=
  ej_call F hr (fun Z τ σ xs H Q s k => h Z τ σ xs H Q s fun rs μ1 vs H1 q l s1 => k rs μ1 vs H1 ⟨[], μ1, rfl, rfl, q⟩ l s1) hg hdb he hpl
/-- isinstance(e, T) -/
theorem ej_isi {y : Str} {n : String} {p p1 : Pos} (hm : X.mg "isinstance" = none) (m1 : X.mg y = none) (v1 : bootBuiltins y = some (.type n))
    (h : EJ X B e Γ μ fun r μ1 => ∃ d b, r = .dat d ∧ (∀ ns, d ≠ .scr ns) ∧ kitB d.ty n = some b ∧ P (.dat (.bl b)) μ1)
    (hg : Gl X "isinstance" := by rfl) (g1 : Gl X y := by rfl) (hn1 : y ≠ "__name__" := by decide) (hd1 : (y == ("__debug__" : Str)) = false := by decide)
    (s0 : starEach [e, .Name y p1] X.env = (false, eval e X.env) :: starEach [.Name y p1] X.env := by rfl) (s1 : starEach [.Name y p1] X.env = (false, eval (.Name y p1) X.env) :: starEach [] X.env := by rfl)
    (hpl : (backTo pos (starEach [.Name y p1] X.env)).any (·.1) = false := by rfl) : EJ X B (.Call (.Name "isinstance" p) [e, .Name y p1] [] pos) Γ μ P :=
  ej_callB call_isi hg hm (by rfl) (aj_cons (h.mono fun r μ1 ⟨d, b, e1, hs, hb, p⟩ => aj_cons (ej_ty (aj_nil (cj_isi ⟨d, n, b, by rw [e1], hs, hb, p⟩)) m1 v1 g1 hn1 hd1) s1) s0) (by decide) (by decide) s0 hpl
/-- a chain of two comparisons of ints, as a test -/
theorem tj_chain {a b c : Expr} {Pb : Bool → Mem → Prop} {op op' : CmpOp} {p p' : Int → Int → Bool} (ho : OpR X (compareOp op) (rI0 fun i j => .bl (p i j))) (ho' : OpR X (compareOp op') (rI0 fun i j => .bl (p' i j))) (hm : lastMarks [op, op'] [b, c] = false)
    (ha : EJ X B a Γ μ fun r1 μ1 => ∃ i, r1 = .dat (.int i) ∧ EJ X B b Γ μ1 fun r2 μ2 => ∃ j, r2 = .dat (.int j) ∧ ∃ l, K43.EP X B c Γ μ2 (.int l) ∧ Pb (p i j && p' j l) μ2) : TJ X B (.Compare a [op, op'] [b, c] pos) Γ μ Pb := fun Z τ σ xs H Q s k =>
  PT.w (pt_chain ho ho' we we we hm) (ha Z τ σ xs H _ s fun r1 μ1 x H1 ⟨i, e1, p1⟩ s1 => p1 Z (r1 :: τ) σ (x :: xs) H1 _ s1 fun r2 μ2 y H2 ⟨j, e2, l, p2, p3⟩ s2 => by
    subst e1
    subst e2
    obtain ⟨G, e0, w, g, t1, t2, t3⟩ := s2
    cases t1
    cases t2
    refine ⟨i, j, rfl, rfl, p i j, rfl, ?_⟩
    have s3 : SA X.K B Z Γ τ μ2 σ xs H2 := ⟨G, e0, w, g, t3⟩
    cases hb : p i j with
    | false =>
      rw [hb] at p3
      rw [if_neg Bool.false_ne_true]
      exact ⟨_, rfl, k _ μ2 H2 p3 s3⟩
    | true =>
      rw [hb] at p3
      rw [if_pos rfl]
      refine p2 Z τ σ xs H2 _ s3 fun r3 μ3 z H3 ⟨e3, e4⟩ s4 => ?_
      subst e3
      subst e4
      obtain ⟨G, e0, w, g, t1, t2⟩ := s4
      cases t1
      exact ⟨j, l, rfl, rfl, _, rfl, k _ _ H3 p3 ⟨G, e0, w, g, t2⟩⟩)
/-- a comprehension that touches no memory, over data told by enc -/
abbrev InvF {α : Type} (X : Cx) (B : Tb) (enc : α → D) (tg elt : Expr) (ifs : List Expr) (scope : Scope) (vs : List Nat) (Γ : List AV) (Pf : D → Mem → Prop) : List D → Nat → List D → Mem → Prop := fun ds i acc μ2 =>
  ∃ (xs : List α) (g : α → Option D), ds = xs.map enc ∧ acc = (xs.take i).filterMap g ∧ (∀ d ∈ xs, LcTurn X B tg elt ifs scope vs Γ (enc d) μ2 fun o μ3 => o = g d ∧ μ3 = μ2) ∧ Pf (.lst (xs.filterMap g)) μ2
theorem lcF_inv {α : Type} (enc : α → D) {Pf : D → Mem → Prop} {elt tg iter : Expr} {ifs : List Expr} {scope : Scope} {vs : List Nat}
    (h : IJ X B tg iter Γ μ fun ds μ1 => ∃ xs : List α, ds = xs.map enc ∧ xs.length ≤ 1000000 ∧ ∃ g : α → Option D, (∀ x ∈ xs, LcTurn X B tg elt ifs scope vs Γ (enc x) μ1 fun o μ3 => o = g x ∧ μ3 = μ1) ∧ Pf (.lst (xs.filterMap g)) μ1) :
    IJ X B tg iter Γ μ fun ds μ1 => ds.length ≤ 1000000 ∧ InvF X B enc tg elt ifs scope vs Γ Pf ds 0 [] μ1 ∧ (∀ i d acc μ2, ds[i]? = some d → acc.length ≤ i → InvF X B enc tg elt ifs scope vs Γ Pf ds i acc μ2 → LcTurn X B tg elt ifs scope vs Γ d μ2 fun o μ3 => InvF X B enc tg elt ifs scope vs Γ Pf ds (i + 1) (acc ++ o.toList) μ3) ∧
      ∀ acc μ2, InvF X B enc tg elt ifs scope vs Γ Pf ds ds.length acc μ2 → Pf (.lst acc) μ2 := by
  intro Z τ σ us H R s k
  refine h Z τ σ us H R s fun ds μ' ρ vs' J H' ⟨xs, e0, hl, g, ht, p⟩ l hw s1 => k ds μ' ρ vs' J H' ⟨by rw [e0, List.length_map]; exact hl, ⟨xs, g, e0, by simp, ht, p⟩, fun i d acc μ2 hd hacc inv => ?_, fun acc μ2 inv => ?_⟩ l hw s1
  · obtain ⟨xs, g, e0, e1, ht, p⟩ := inv
    subst e1
    subst e0
    rw [List.getElem?_map] at hd
    cases hx : xs[i]? with
    | none => rw [hx] at hd; cases hd
    | some x =>
      rw [hx] at hd
      cases hd
      obtain ⟨Γ3, t1, t2⟩ := (ht x (List.mem_of_getElem? hx)).ex
      have e2 : xs.take (i + 1) = xs.take i ++ [x] := by rw [List.take_add_one, hx]; rfl
      have fin : ∀ o : Option D, o = g x → (xs.take i).filterMap g ++ o.toList = (xs.take (i + 1)).filterMap g := fun o ho => by
        rw [e2, List.filterMap_append, ho]
        cases q : g x <;> simp [q]
      refine ⟨Γ3, t1, fun s H0 C cl fp => fun Z τ σ xs' H Q s' k' => t2 s H0 C cl fp Z τ σ xs' H Q s' fun b μ4 H4 q s4 => k' b μ4 H4 ?_ s4⟩
      cases b with
      | true =>
        have q : ∀ s H C cl fp, EJ (bk X scope s H C cl fp) B elt Γ3 μ4 fun r μ5 => ∃ d', r = .dat d' ∧ (some d' = g x ∧ μ5 = μ2) := q
        show ∀ s H C cl fp, EJ (bk X scope s H C cl fp) B elt Γ3 μ4 fun r μ5 => ∃ d', r = .dat d' ∧ _
        intro s H C cl fp
        refine (q s H C cl fp).mono fun r μ5 ⟨d', e1, e2, e3⟩ => ⟨d', e1, xs, g, rfl, fin _ e2, ?_⟩
        rw [e3]
        exact ⟨ht, p⟩
      | false =>
        have q : (none = g x ∧ μ4 = μ2) := q
        show ∃ xs g, _
        refine ⟨xs, g, rfl, fin _ q.1, ?_⟩
        rw [q.2]
        exact ⟨ht, p⟩
  · obtain ⟨xs, g, e0, e1, ht, p⟩ := inv
    rw [e0, List.length_map, List.take_length] at e1
    rw [e1]
    exact p
theorem ej_lcF {α : Type} (enc : α → D) {elt tg iter : Expr} {ifs : List Expr} {scope : Scope} {own : List (Str × Nat)} (hN : X.N.Nodup) (ok : BlkOk X.N X.env.scope scope own)
    (h : IJ X B tg iter Γ μ fun ds μ1 => ∃ xs : List α, ds = xs.map enc ∧ xs.length ≤ 1000000 ∧ ∃ g : α → Option D, (∀ x ∈ xs, LcTurn X B tg elt ifs scope (own.map (·.2)) Γ (enc x) μ1 fun o μ3 => o = g x ∧ μ3 = μ1) ∧ P (.dat (.lst (xs.filterMap g))) μ1)
    (hc : X.calm = true := by rfl) (hs : ∀ x, foldedSetIterable iter X.env x = pure x := by intro _; rfl) : EJ X B (.ListComp elt [⟨tg, iter, ifs, 0⟩] scope pos) Γ μ P :=
  ej_lc (InvF X B enc tg elt ifs scope (own.map (·.2)) Γ fun d μ => P (.dat d) μ) hN ok (lcF_inv enc (Pf := fun d μ => P (.dat d) μ) h) hc hs
theorem sj_setLcF {α : Type} (enc : α → D) {i : Nat} {y : Str} {py spos : Pos} {elt tg iter : Expr} {ifs : List Expr} {scope : Scope} {own : List (Str × Nat)} (hN : X.N.Nodup) (ok : BlkOk X.N X.env.scope scope own)
    (h : IJ X B tg iter Γ μ fun ds μ1 => ∃ xs : List α, ds = xs.map enc ∧ xs.length ≤ 1000000 ∧ ∃ g : α → Option D, (∀ x ∈ xs, LcTurn X B tg elt ifs scope (own.map (·.2)) Γ (enc x) μ1 fun o μ3 => o = g x ∧ μ3 = μ1) ∧ A.nx (Γ.set i (.dat (.lst (xs.filterMap g)))) μ1)
    (hsw : swapsWith (.ListComp elt [⟨tg, iter, ifs, 0⟩] scope pos) (some (.Name y py)) spos.line X.env = pure true := by rfl) (hy : X.N[i]? = some y := by rfl) (hyl : X.env.scope.names.lookup y = some .local := by rfl) (hc : X.calm = true := by rfl) (hs : ∀ x, foldedSetIterable iter X.env x = pure x := by intro _; rfl) :
    SJ X B (.Assign [.Name y py] (.ListComp elt [⟨tg, iter, ifs, 0⟩] scope pos) spos) Γ μ A :=
  sj_setLc (InvF X B enc tg elt ifs scope (own.map (·.2)) Γ fun d μ => A.nx (Γ.set i (.dat d)) μ) hN ok (lcF_inv enc (Pf := fun d μ => A.nx (Γ.set i (.dat d)) μ) h) hsw hy hyl hc hs
theorem fm_map {α β : Type} (f : α → β) (xs : List α) : xs.filterMap (fun x => some (f x)) = xs.map f := by
  induction xs with
  | nil => rfl
  | cons x xs ih => rw [List.filterMap_cons, List.map_cons, ih]
theorem fm_if {α β : Type} (c : α → Bool) (f : α → β) (xs : List α) : xs.filterMap (fun x => cond (c x) (some (f x)) none) = (xs.filter c).map f := by
  induction xs with
  | nil => rfl
  | cons x xs ih =>
    rw [List.filterMap_cons, List.filter_cons]
    cases h : c x with
    | true => simp [ih]
    | false => simp [ih]
theorem lct {tg elt : Expr} {ifs : List Expr} {scope : Scope} {vs : List Nat} {d : D} {R : Option D → Mem → Prop} {Γ3 : List AV} (h1 : ∀ s H C cl fp, CT (bk X scope s H C cl fp) B tg (.dat d) (wipeA Γ vs) Γ3 vs)
    (h2 : ∀ s H C cl fp, TsJ (bk X scope s H C cl fp) B ifs Γ3 μ fun b μ4 => cond b (∀ s H C cl fp, EJ (bk X scope s H C cl fp) B elt Γ3 μ4 fun r μ5 => ∃ d', r = .dat d' ∧ R (some d') μ5) (R none μ4)) : LcTurn X B tg elt ifs scope vs Γ d μ R := ⟨Γ3, h1, h2⟩
theorem lctM {tg elt : Expr} {scope : Scope} {vs : List Nat} {d d' : D} {Γ3 : List AV} (h1 : ∀ s H C cl fp, CT (bk X scope s H C cl fp) B tg (.dat d) (wipeA Γ vs) Γ3 vs)
    (h2 : ∀ s H C cl fp, K43.EP (bk X scope s H C cl fp) B elt Γ3 μ d') : LcTurn X B tg elt [] scope vs Γ d μ fun o μ3 => o = some d' ∧ μ3 = μ :=
  lct h1 fun s H C cl fp => tsj_nil fun s H C cl fp => (h2 s H C cl fp).mono fun r μ5 ⟨e1, e2⟩ => ⟨d', e1, rfl, e2⟩
theorem lctF {tg elt t : Expr} {scope : Scope} {vs : List Nat} {d d' : D} {Γ3 : List AV} {c : Bool} (h1 : ∀ s H C cl fp, CT (bk X scope s H C cl fp) B tg (.dat d) (wipeA Γ vs) Γ3 vs)
    (h2 : ∀ s H C cl fp, K43.TP (bk X scope s H C cl fp) B t Γ3 μ c) (h3 : c = true → ∀ s H C cl fp, K43.EP (bk X scope s H C cl fp) B elt Γ3 μ d') : LcTurn X B tg elt [t] scope vs Γ d μ fun o μ3 => o = cond c (some d') none ∧ μ3 = μ :=
  lct h1 fun s H C cl fp => tsj_one ((h2 s H C cl fp).mono fun b μ4 ⟨e1, e2⟩ => by
    subst e1
    subst e2
    cases b with
    | true => exact fun s H C cl fp => (h3 rfl s H C cl fp).mono fun r μ5 ⟨e1, e2⟩ => ⟨d', e1, rfl, e2⟩
    | false => exact ⟨rfl, rfl⟩)
/-- a loop over data told by enc -/
theorem sj_forL {α : Type} (enc : α → D) (xs : List α) {tg iter : Expr} {body : List Stmt} (hp : PassesOwn (model X.prog X.w) X.A X.env X.xe) (Inv : Nat → List AV → Mem → Prop)
    (h : IJ X B tg iter Γ μ fun ds μ1 => ds = xs.map enc ∧ Inv 0 Γ μ1) (step : ∀ i x Γ2 μ2, xs[i]? = some x → Inv i Γ2 μ2 → GJ X B tg (.dat (enc x)) Γ2 μ2 fun Γ3 μ3 => SsJ X B body Γ3 μ3 { nx := Inv (i + 1), rt := A.rt, ct := Inv (i + 1), bk := A.nx })
    (done : ∀ Γ2 μ2, Inv xs.length Γ2 μ2 → A.nx Γ2 μ2)
    (hc : X.calm = true := by rfl) (hs : ∀ x, foldedSetIterable iter X.env x = pure x := by intro _; rfl) : SJ X B (.For tg iter body [] pos) Γ μ A :=
  sj_for hp (fun ds i Γ μ => ds = xs.map enc ∧ Inv i Γ μ) (fun Z τ σ us H R s k => h Z τ σ us H R s fun ds μ' ρ vs J H' ⟨e0, i0⟩ l hw s1 => k ds μ' ρ vs J H' ⟨⟨e0, i0⟩, fun i d Γ2 μ2 hd ⟨_, inv⟩ => by
    rw [e0, List.getElem?_map] at hd
    cases hx : xs[i]? with
    | none => rw [hx] at hd; cases hd
    | some x =>
      rw [hx] at hd
      cases hd
      refine fun Z τ σ v xs' H Q s k => step i x Γ2 μ2 hx inv Z τ σ v xs' H Q s fun Γ3 μ3 σ3 H3 q s3 => k Γ3 μ3 σ3 H3 ?_ s3
      exact fun Z τ σ xs H D s k => q Z τ σ xs H D s ⟨fun Γ μ σ H p s => k.nx Γ μ σ H ⟨e0, p⟩ s, k.rt, k.bk, fun Γ μ σ H p s => k.ct Γ μ σ H ⟨e0, p⟩ s⟩, fun Γ2 μ2 ⟨_, inv⟩ => by
    rw [e0, List.length_map] at inv
    exact done Γ2 μ2 inv⟩ l hw s1) hc hs
theorem z1 : 1 ≤ sizeLine := by decide
theorem z2 : 2 ≤ sizeLine := by decide
theorem z3 : 3 ≤ sizeLine := by decide
theorem z4 : 4 ≤ sizeLine := by decide
theorem z0 : 0 ≤ sizeLine := by decide
theorem zM {n : Nat} (h : n ≤ 1000000) : n ≤ sizeLine := Nat.le_trans h (by decide)
/-- an if, its test told ahead -/
theorem sj_ifP {c : Expr} {k : Bool} {sts u : List Stmt} (h : K43.TP X B c Γ μ k) (ht : k = true → SsJ X B sts Γ μ A) (hf : k = false → SsJ X B u Γ μ A) : SJ X B (.If c sts u pos) Γ μ A :=
  sj_if (h.mono fun b μ1 ⟨e1, e2⟩ => by
    subst e1
    subst e2
    cases b with
    | true => exact ht rfl
    | false => exact hf rfl)
/-- what stands between two statements -/
theorem sj_mid {st : Stmt} (Mid : List AV → Mem → Prop) (h1 : SJ X B st Γ μ { nx := Mid, rt := A.rt, bk := A.bk, ct := A.ct }) (h2 : ∀ Γ1 μ1, Mid Γ1 μ1 → A.nx Γ1 μ1) : SJ X B st Γ μ A :=
  h1.mono h2 (fun _ _ h => h) (fun _ _ h => h) (fun _ _ h => h)
/-- the names of built-ins are free -/
structure Bn (mg : Str → Option Value) : Prop where
  isinstance : mg "isinstance" = none
  int : mg "int" = none
  bool : mg "bool" = none
  str : mg "str" = none
  list : mg "list" = none
  tuple : mg "tuple" = none
  len : mg "len" = none
  sorted : mg "sorted" = none
  set : mg "set" = none
  dict : mg "dict" = none
  enumerate : mg "enumerate" = none
  range : mg "range" = none
  zip : mg "zip" = none
  all : mg "all" = none
  any : mg "any" = none
  abs : mg "abs" = none
  divmod : mg "divmod" = none
  max : mg "max" = none
  min : mg "min" = none
end
end K43

set_option maxHeartbeats 4000000
/-! K13: the text's defs by places; the first defs. -/
namespace K43
open PySem PySem.Spec PyProof.Rows L2
def top (i : Nat) : Stmt := PySem.Challenge.pw_mashrunnings_k43_whole_eight_vessels.main.body.getD i (.Pass ⟨0, 0, 0, 0⟩)
abbrev sIsNumber : Stmt := top 1
abbrev sGreatest : Stmt := top 3
abbrev sStanding : Stmt := top 4
abbrev sFirstLack : Stmt := top 5
abbrev sTurning : Stmt := top 6

/-! ### what they compute -/
def notScr (d : D) : Prop := ∀ ns, d ≠ .scr ns
def isNum : D → Bool
  | .int _ => true
  | _ => false
def isIntL : D → Bool
  | .int _ => true
  | .bl _ => true
  | _ => false
def isBl : D → Bool
  | .bl _ => true
  | _ => false
def isStr : D → Bool
  | .str _ => true
  | _ => false
def isLst : D → Bool
  | .lst _ => true
  | _ => false
def isTup : D → Bool
  | .tup _ => true
  | _ => false
theorem kt_int : kitB "NoneType" "int" = some false ∧ kitB "bool" "int" = some true ∧ kitB "int" "int" = some true ∧ kitB "str" "int" = some false ∧ kitB "list" "int" = some false ∧ kitB "tuple" "int" = some false ∧ kitB "dict" "int" = some false := by decide +kernel
theorem kit_int {d : D} (h : notScr d) : kitB d.ty "int" = some (isIntL d) := by
  obtain ⟨k1, k2, k3, k4, k5, k6, k7⟩ := kt_int
  cases d with
  | scr ns => exact absurd rfl (h ns)
  | non => exact k1
  | bl _ => exact k2
  | int _ => exact k3
  | str _ => exact k4
  | lst _ => exact k5
  | tup _ => exact k6
  | dic _ _ => exact k7
theorem kt_bool : kitB "NoneType" "bool" = some false ∧ kitB "bool" "bool" = some true ∧ kitB "int" "bool" = some false ∧ kitB "str" "bool" = some false ∧ kitB "list" "bool" = some false ∧ kitB "tuple" "bool" = some false ∧ kitB "dict" "bool" = some false := by decide +kernel
theorem kit_bool {d : D} (h : notScr d) : kitB d.ty "bool" = some (isBl d) := by
  obtain ⟨k1, k2, k3, k4, k5, k6, k7⟩ := kt_bool
  cases d with
  | scr ns => exact absurd rfl (h ns)
  | non => exact k1
  | bl _ => exact k2
  | int _ => exact k3
  | str _ => exact k4
  | lst _ => exact k5
  | tup _ => exact k6
  | dic _ _ => exact k7
theorem kt_str : kitB "NoneType" "str" = some false ∧ kitB "bool" "str" = some false ∧ kitB "int" "str" = some false ∧ kitB "str" "str" = some true ∧ kitB "list" "str" = some false ∧ kitB "tuple" "str" = some false ∧ kitB "dict" "str" = some false := by decide +kernel
theorem kit_str {d : D} (h : notScr d) : kitB d.ty "str" = some (isStr d) := by
  obtain ⟨k1, k2, k3, k4, k5, k6, k7⟩ := kt_str
  cases d with
  | scr ns => exact absurd rfl (h ns)
  | non => exact k1
  | bl _ => exact k2
  | int _ => exact k3
  | str _ => exact k4
  | lst _ => exact k5
  | tup _ => exact k6
  | dic _ _ => exact k7
theorem kt_list : kitB "NoneType" "list" = some false ∧ kitB "bool" "list" = some false ∧ kitB "int" "list" = some false ∧ kitB "str" "list" = some false ∧ kitB "list" "list" = some true ∧ kitB "tuple" "list" = some false ∧ kitB "dict" "list" = some false := by decide +kernel
theorem kit_list {d : D} (h : notScr d) : kitB d.ty "list" = some (isLst d) := by
  obtain ⟨k1, k2, k3, k4, k5, k6, k7⟩ := kt_list
  cases d with
  | scr ns => exact absurd rfl (h ns)
  | non => exact k1
  | bl _ => exact k2
  | int _ => exact k3
  | str _ => exact k4
  | lst _ => exact k5
  | tup _ => exact k6
  | dic _ _ => exact k7
theorem kt_tuple : kitB "NoneType" "tuple" = some false ∧ kitB "bool" "tuple" = some false ∧ kitB "int" "tuple" = some false ∧ kitB "str" "tuple" = some false ∧ kitB "list" "tuple" = some false ∧ kitB "tuple" "tuple" = some true ∧ kitB "dict" "tuple" = some false := by decide +kernel
theorem kit_tuple {d : D} (h : notScr d) : kitB d.ty "tuple" = some (isTup d) := by
  obtain ⟨k1, k2, k3, k4, k5, k6, k7⟩ := kt_tuple
  cases d with
  | scr ns => exact absurd rfl (h ns)
  | non => exact k1
  | bl _ => exact k2
  | int _ => exact k3
  | str _ => exact k4
  | lst _ => exact k5
  | tup _ => exact k6
  | dic _ _ => exact k7
abbrev Pr := Str × Int
abbrev Stay := Str × Int × Int × Int
def stD (s : Stay) : D := .tup [.str s.1, .int s.2.1, .int s.2.2.1, .int s.2.2.2]
def standing (ss : List Stay) (h : Int) : List Pr := (ss.filter fun s => decide (s.2.2.1 ≤ h) && decide (h < s.2.2.2)).map fun s => (s.1, s.2.1)
def standF (ss : List Stay) (h : Int) : List Pr := greatest (standing ss h)
def firstLackF : List Pr → List Pr → Option Int
  | [], _ => none
  | b :: _, [] => some b.2
  | b :: bs, r :: rs => if r.2 < b.2 then some b.2 else firstLackF bs rs
def hoursF (ss : List Stay) : List Int := usort (ss.map (·.2.2.1) ++ ss.map (·.2.2.2))
def optI : Option Int → D
  | none => .non
  | some i => .int i

section
variable {P : Program} {w : World} {K : PySem.W.Frag} {mg : Str → Option Value} {base : Heap} {B : Tb}
def aIsNumber : Ab := pu fun as p => ∃ d, as = [.dat d] ∧ notScr d ∧ p (.bl (isNum d))
theorem scIsNumber : FnScope ["thing"] ["thing"] (defScope sIsNumber) := ⟨rfl, rfl, rfl, by decide +kernel, rfl, by decide +kernel, by decide +kernel⟩
theorem df_isNumber {f : Addr} {fd : FuncData} (F : Fun K "is_number" "is_number" sIsNumber f fd) (hm : mg "is_number" = some (.ref f)) (M : Bn mg) : Df P w K mg base B "is_number" 1 ["thing"] aIsNumber := by
  refine df_mk F scIsNumber (mono_pu fun as p q h ⟨d, e, s, k⟩ => ⟨d, e, s, h _ k⟩) hm (F.binds fun _ _ _ _ _ _ us hl => match us, hl with | [_], _ => rfl) (fun as μ P ⟨_, d, e, _⟩ => by rw [e]; rfl) ?_
  rintro cdv A outer s H E as μ Pp _ hr ⟨rfl, d, rfl, hs, k⟩
  refine ssj_one (sj_ret (ej_and (ej_isi M.isinstance M.int rfl (ej_dat 0 rfl ⟨d, _, rfl, hs, kit_int hs, isIntL d, rfl, ?_⟩))))
  have e : isNum d = (isIntL d && !isBl d) := by cases d <;> rfl
  rw [e] at k
  cases q : isIntL d with
  | false => rw [q] at k; exact k
  | true =>
    rw [q] at k
    exact ej_one (ej_not (ej_isi M.isinstance M.bool rfl (ej_dat 0 rfl ⟨d, _, rfl, hs, kit_bool hs, isBl d, rfl, k⟩)))

/-! greatest_first -/
structure LamT (K : PySem.W.Frag) (mg : Str → Option Value) (base : Heap) (B : Tb) (f : Addr) : Prop where
  ex : ∃ c P0, LamX.TabB base mg c P0 ∧ B = [(P0, ("greatest_first.<locals>.<lambda>" : Str))] ∧ ∀ (oc : Value) (od : Option Addr) (kV doc pm cdv : Value) (an : Option Addr) (ct : Value) (osl : Array (Option Value)), K.lookup f = some ⟨oc, od, .func (PySem.W.fnOf "greatest_first" "greatest_first" (defArgs sGreatest) (defBody sGreatest) (defScope sGreatest) .none kV doc pm an cdv ct), osl⟩ → cdv = .ref c
def aGreatest : Ab := pu fun as p => ∃ bs : List Pr, as = [.dat (.lst (bs.map siD))] ∧ p (.lst ((greatest bs).map siD))
theorem scGreatest : FnScope ["pairs"] ["pairs"] (defScope sGreatest) := ⟨rfl, rfl, rfl, by decide +kernel, rfl, by decide +kernel, by decide +kernel⟩
theorem df_greatest {f : Addr} {fd : FuncData} (F : Fun K "greatest_first" "greatest_first" sGreatest f fd) (hm : mg "greatest_first" = some (.ref f)) (M : Bn mg) (L : LamT K mg base B f) : Df P w K mg base B "greatest_first" 3 ["pairs"] aGreatest := by
  refine df_mk F scGreatest (mono_pu fun as p q h ⟨d, e, k⟩ => ⟨d, e, h _ k⟩) hm (F.binds fun _ _ _ _ _ _ us hl => match us, hl with | [_], _ => rfl) (fun as μ P ⟨_, d, e, _⟩ => by rw [e]; rfl) ?_
  rintro cdv A outer s H E as μ Pp ⟨oc, od, kV, doc, pm, an, ct, osl, lk⟩ hr ⟨rfl, bs, rfl, k⟩
  obtain ⟨c, P0, TB, hB, hc⟩ := L.ex
  subst hB
  have ec := hc _ _ _ _ _ _ _ _ _ lk
  subst ec
  refine ssj_one (sj_ret (ej_sortKey (k := 0) (c := c) (P0 := P0) (y := "pair") M.sorted TB rfl List.mem_cons_self (fun p hp _ => ?_) hr (ej_dat 0 rfl ⟨bs, .dat _, k⟩) rfl rfl rfl rfl rfl (by decide) (fun q cl pm cv ctv u => by rfl)))
  rw [List.mem_singleton.mp hp]
  rfl

/-! standing_at -/
def aStanding : Ab := pu fun as p => ∃ (ss : List Stay) (h : Int), as = [.dat (.lst (ss.map stD)), .dat (.int h)] ∧ ss.length ≤ 1000 ∧ p (.lst ((standF ss h).map siD))
abbrev nStanding : List Str := ["stays", "hour", "beer", "gallons", "begin", "end"]
theorem scStanding : FnScope nStanding ["stays", "hour"] (defScope sStanding) := ⟨rfl, rfl, rfl, by decide +kernel, rfl, by decide +kernel, by decide +kernel⟩
theorem df_standing {f : Addr} {fd : FuncData} (F : Fun K "standing_at" "standing_at" sStanding f fd) (hm : mg "standing_at" = some (.ref f)) (M : Bn mg) (DG : Df P w K mg base B "greatest_first" 3 ["pairs"] aGreatest) : Df P w K mg base B "standing_at" 4 ["stays", "hour"] aStanding := by
  refine df_mk F scStanding (mono_pu fun as p q h ⟨d, e, k1, k2, k⟩ => ⟨d, e, k1, k2, h _ k⟩) hm (F.binds fun _ _ _ _ _ _ us hl => match us, hl with | [_, _], _ => rfl) (fun as μ P ⟨_, d, e, h, _⟩ => by rw [h]; rfl) ?_
  rintro cdv A outer s H E as μ Pp _ hr ⟨rfl, ss, h, rfl, hl, k⟩
  refine ssj_one (sj_ret (ej_callP DG hr (aj_cons (ej_lcF stD (own := [("beer", 2), ("gallons", 3), ("begin", 4), ("end", 5)]) scStanding.nd (blkOk_by (N := nStanding) (sc := defScope sStanding) (by decide +kernel)) (ij_list (ej_dat 0 rfl ⟨_, rfl, ?_⟩))))))
  refine ⟨ss, rfl, by omega, fun t => cond (decide (t.2.2.1 ≤ h) && decide (h < t.2.2.2)) (some (siD (t.1, t.2.1))) none, fun t hd => ?_, aj_nil ⟨standing ss h, ?_, k⟩⟩
  · exact lctF (fun s H C cl fp => ct_tup rfl (cts_cons (ct_name 2 (by decide) scStanding.nd) (cts_cons (ct_name 3 (by decide) scStanding.nd) (cts_cons (ct_name 4 (by decide) scStanding.nd) (cts_cons (ct_name 5 (by decide) scStanding.nd) cts_nil)))))
      (fun s H C cl fp => tj_chain op_le op_lt rfl (ej_dat 4 rfl ⟨_, rfl, ej_dat 1 rfl ⟨_, rfl, _, ej_dat 5 rfl ⟨rfl, rfl⟩, rfl, rfl⟩⟩))
      fun _ s H C cl fp => ej_tup z2 (aj_cons (ej_dat 2 rfl (aj_cons (ej_dat 3 rfl (aj_nil ⟨_, rfl, z2, rfl, rfl⟩)))))
  · rw [fm_if]
    unfold standing
    rw [List.map_map]
    rfl

/-! first_lack -/
def aFirstLack : Ab := pu fun as p => ∃ (bs rs : List Pr), as = [.dat (.lst (bs.map siD)), .dat (.lst (rs.map siD))] ∧ p (optI (firstLackF bs rs))
abbrev nFirstLack : List Str := ["beers", "rooms", "place", "beer", "gallons"]
theorem scFirstLack : FnScope nFirstLack ["beers", "rooms"] (defScope sFirstLack) := ⟨rfl, rfl, rfl, by decide +kernel, rfl, by decide +kernel, by decide +kernel⟩
theorem df_firstLack {f : Addr} {fd : FuncData} (F : Fun K "first_lack" "first_lack" sFirstLack f fd) (hm : mg "first_lack" = some (.ref f)) (M : Bn mg) : Df P w K mg base B "first_lack" 1 ["beers", "rooms"] aFirstLack := by
  refine df_mk F scFirstLack (mono_pu fun as p q h ⟨d, e, k1, k⟩ => ⟨d, e, k1, h _ k⟩) hm (F.binds fun _ _ _ _ _ _ us hl => match us, hl with | [_, _], _ => rfl) (fun as μ P ⟨_, d, e, h, _⟩ => by rw [h]; rfl) ?_
  rintro cdv A outer s H E as μ Pp _ hr ⟨rfl, bs, rs, rfl, k⟩
  refine ssj_cons (sj_for PassesOwn.never (fun ds i Γ μ => ds = enumD (bs.map siD) ∧ ∃ a b c, Γ = [.dat (.lst (bs.map siD)), .dat (.lst (rs.map siD)), a, b, c] ∧ μ = [] ∧ firstLackF (bs.drop i) (rs.drop i) = firstLackF bs rs) (ij_enum M.enumerate (ej_dat 0 rfl ⟨_, rfl, ⟨rfl, _, _, _, rfl, rfl, rfl⟩, ?_, ?_⟩)))
  · rintro i d Γ2 μ2 hd ⟨_, a, b, c, rfl, rfl, inv⟩
    have hi : i < bs.length := by
      have := (List.getElem?_eq_some_iff.mp hd).1
      rw [enumD_len, List.length_map] at this
      exact this
    have e1 : (bs.map siD)[i]? = some (siD bs[i]) := by rw [List.getElem?_map, List.getElem?_eq_getElem hi]; rfl
    have e2 : bs.drop i = bs[i] :: bs.drop (i + 1) := List.drop_eq_getElem_cons hi
    rw [enumD_get e1] at hd
    cases hd
    refine gj_tup rfl rfl (gsj_cons (gj_name 2 (gsj_cons (gj_tup rfl rfl (gsj_cons (gj_name 3 (gsj_cons (gj_name 4 (gsj_nil (gsj_nil ?_)) scFirstLack.nd) ) scFirstLack.nd))) ) scFirstLack.nd))
    have e3 : firstLackF bs rs = if (decide (rs.length ≤ i) || decide ((rs.getD i ("", 0)).2 < bs[i].2)) = true then some bs[i].2 else firstLackF (bs.drop (i + 1)) (rs.drop (i + 1)) := by
      rw [← inv, e2]
      by_cases hr : rs.length ≤ i
      · rw [List.drop_eq_nil_of_le hr]
        simp [hr, firstLackF]
      · have e4 : rs.drop i = rs[i]'(by omega) :: rs.drop (i + 1) := List.drop_eq_getElem_cons (by omega)
        rw [e4]
        have e5 : rs.getD i ("", 0) = rs[i]'(by omega) := by rw [List.getD_eq_getElem?_getD, List.getElem?_eq_getElem (by omega)]; rfl
        rw [e5]
        simp [hr, firstLackF]
    refine ssj_one (sj_ifP (tp_w (wp_or (k := decide (rs.length ≤ i)) (l := decide ((rs.getD i ("", 0)).2 < bs[i].2)) (tj_cmp op_ge rfl (ej_dat 2 rfl (ej_callB call_len_seq rfl M.len boot_len (aj_cons (ej_dat 1 rfl (aj_nil (cj_lenL ⟨_, _, rfl, .dat _, oj_b0 ⟨_, _, rfl, rfl, _, rfl, ?_, rfl⟩⟩))))))) fun h => wp_or1 (tj_cmp op_lt rfl (ej_ix ix_tup (fun _ _ => rfl) (ej_ix ix_list (fun _ _ => rfl) (ej_dat 1 rfl (ej_dat 2 rfl (oj_ixL ⟨_, _, siD (rs.getD i ("", 0)), .dat _, rfl, ?_, ej_int (oj_ixT ⟨_, _, _, rfl, rfl, rfl, ?_⟩)⟩))))) ))) ?_ ?_)
    · rw [List.length_map]
      simp
    · have hr : i < rs.length := by simpa using h
      refine atI_nat ?_
      rw [List.getElem?_map, List.getD_eq_getElem?_getD, List.getElem?_eq_getElem hr]
      rfl
    · exact ej_dat 4 rfl (oj_b0 ⟨_, _, rfl, rfl, _, rfl, rfl, rfl⟩)
    · intro h
      rw [if_pos h] at e3
      rw [e3] at k
      exact ssj_one (sj_ret (ej_dat 4 rfl k))
    · intro h
      rw [if_neg (by rw [h]; exact Bool.false_ne_true)] at e3
      exact ssj_nil ⟨rfl, _, _, _, rfl, rfl, e3.symm⟩
  · rintro Γ2 μ2 ⟨_, a, b, c, rfl, rfl, inv⟩
    have e1 : firstLackF bs rs = none := by
      rw [enumD_len, List.length_map, List.drop_length] at inv
      exact inv.symm
    rw [e1] at k
    exact ssj_one (sj_ret (ej_non k))

/-! turning_hours -/
def aTurning : Ab := pu fun as p => ∃ ss : List Stay, as = [.dat (.lst (ss.map stD))] ∧ ss.length ≤ 1000 ∧ p (.lst ((hoursF ss).map .int))
abbrev nTurning : List Str := ["stays", "beer", "gallons", "begin", "end"]
theorem scTurning : FnScope nTurning ["stays"] (defScope sTurning) := ⟨rfl, rfl, rfl, by decide +kernel, rfl, by decide +kernel, by decide +kernel⟩
theorem df_turning {f : Addr} {fd : FuncData} (F : Fun K "turning_hours" "turning_hours" sTurning f fd) (hm : mg "turning_hours" = some (.ref f)) (M : Bn mg) : Df P w K mg base B "turning_hours" 1 ["stays"] aTurning := by
  refine df_mk F scTurning (mono_pu fun as p q h ⟨d, e, k1, k⟩ => ⟨d, e, k1, h _ k⟩) hm (F.binds fun _ _ _ _ _ _ us hl => match us, hl with | [_], _ => rfl) (fun as μ P ⟨_, d, e, _⟩ => by rw [e]; rfl) ?_
  rintro cdv A outer s H E as μ Pp _ hr ⟨rfl, ss, rfl, hl, k⟩
  have tg : ∀ (X : Cx) (hN : X.N.Nodup) (t : Stay), True := fun _ _ _ => True.intro
  refine ssj_one (sj_ret (ej_sortSet M.sorted M.set (ej_bin op_cat
    (ej_lcF stD (own := [("beer", 1), ("gallons", 2), ("begin", 3), ("end", 4)]) scTurning.nd (blkOk_by (N := nTurning) (sc := defScope sTurning) (by decide +kernel)) (ij_list (ej_dat 0 rfl ⟨_, rfl, ss, rfl, by omega, fun t => some (.int t.2.2.1), fun t hd =>
      lctM (fun s H C cl fp => ct_tup rfl (cts_cons (ct_name 1 (by decide) scTurning.nd) (cts_cons (ct_name 2 (by decide) scTurning.nd) (cts_cons (ct_name 3 (by decide) scTurning.nd) (cts_cons (ct_name 4 (by decide) scTurning.nd) cts_nil))))) (fun s H C cl fp => ej_dat 3 rfl ⟨rfl, rfl⟩), ?_⟩))))))
  refine ej_lcF stD (own := [("beer", 1), ("gallons", 2), ("begin", 3), ("end", 4)]) scTurning.nd (blkOk_by (N := nTurning) (sc := defScope sTurning) (by decide +kernel)) (ij_list (ej_dat 0 rfl ⟨_, rfl, ss, rfl, by omega, fun t => some (.int t.2.2.2), fun t hd =>
      lctM (fun s H C cl fp => ct_tup rfl (cts_cons (ct_name 1 (by decide) scTurning.nd) (cts_cons (ct_name 2 (by decide) scTurning.nd) (cts_cons (ct_name 3 (by decide) scTurning.nd) (cts_cons (ct_name 4 (by decide) scTurning.nd) cts_nil))))) (fun s H C cl fp => ej_dat 4 rfl ⟨rfl, rfl⟩), ?_⟩))
  rw [fm_map, fm_map]
  refine oj_cat ⟨_, _, .dat _, .dat _, zM (by simp; omega), ss.map (·.2.2.1) ++ ss.map (·.2.2.2), ?_, by simp; omega, k⟩
  rw [List.map_append, List.map_map, List.map_map]
  rfl
end
end K43

set_option maxHeartbeats 4000000
/-! K14: housed. -/
namespace K43
open PySem PySem.Spec PyProof.Rows L2
abbrev sHoused : Stmt := top 7
abbrev SL := List (Str × Str)
abbrev Row := Int × Str × Str
def rwD (r : Row) : D := .tup [.int r.1, .str r.2.1, .str r.2.2]
def toAL (l : SL) : AL := l.map fun p => (p.1, .str p.2)
def slook : SL → Str → Option Str
  | [], _ => none
  | p :: r, x => if p.1 = x then some p.2 else slook r x
theorem alook_toAL (x : Str) : ∀ l : SL, alook (toAL l) x = (slook l x).map .str
  | [] => rfl
  | p :: r => by
    have ih := alook_toAL x r
    unfold toAL at ih ⊢
    rw [List.map_cons]
    unfold alook slook
    by_cases h : p.1 = x
    · rw [if_pos h, if_pos h]; rfl
    · rw [if_neg h, if_neg h]; exact ih
theorem aput_new {l : AL} {x : Str} {d : D} (h : x ∉ l.map Prod.fst) : aput l x d = l ++ [(x, d)] := by
  unfold aput
  rw [if_neg]
  intro z
  obtain ⟨p, hp, e⟩ := List.any_eq_true.mp z
  exact h (List.mem_map.mpr ⟨p, hp, by simpa using e⟩)
theorem amerge_new : ∀ {m l : AL}, ((l ++ m).map Prod.fst).Nodup → amerge l m = l ++ m
  | [], l, _ => by simp [amerge]
  | p :: m, l, h => by
    have h1 : p.1 ∉ l.map Prod.fst := by
      rw [List.map_append, List.nodup_append] at h
      intro z
      exact h.2.2 _ z _ (by simp) rfl
    show amerge (aput l p.1 p.2) m = _
    rw [aput_new h1]
    rw [amerge_new (l := l ++ [(p.1, p.2)]) (by simpa using h)]
    simp
theorem amerge_nodup {m : AL} (h : (m.map Prod.fst).Nodup) : amerge [] m = m := by
  have := amerge_new (l := []) (m := m) (by simpa using h)
  simpa using this
def nowF (bs rs : List Pr) : SL := (bs.zip rs).map fun q => (q.1.1, q.2.1)
def newRows (h : Int) (now lying : SL) : List Row := ((ssort (now.map (·.1))).filter fun b => !decide (slook lying b = slook now b)).map fun b => (h, b, (slook now b).getD "")
inductive Res where
  | lacks (h g : Int)
  | plan (rows : List Row)
def resD : Res → D
  | .lacks h g => .tup [.str "lacks", .int h, .int g]
  | .plan rows => .tup [.str "plan", .lst (rows.map rwD)]
def housedGo (rooms : List Pr) (ss : List Stay) : List Int → SL → List Row → Res
  | [], _, rows => .plan rows
  | h :: hs, lying, rows => match firstLackF (standF ss h) rooms with
    | some g => .lacks h g
    | none => housedGo rooms ss hs (nowF (standF ss h) rooms) (rows ++ newRows h (nowF (standF ss h) rooms) lying)
def housedF (vs : List Pr) (ss : List Stay) : Res := housedGo (greatest vs) ss (hoursF ss) [] []
theorem greatest_perm (ps : List Pr) : (greatest ps).Perm ps := List.mergeSort_perm _ _
theorem standF_sub (ss : List Stay) (h : Int) : (standF ss h).length ≤ ss.length := by
  unfold standF
  rw [(greatest_perm _).length_eq]
  unfold standing
  rw [List.length_map]
  exact List.length_filter_le _ _
theorem standF_nodup {ss : List Stay} (h : Int) (hn : (ss.map (·.1)).Nodup) : ((standF ss h).map (·.1)).Nodup := by
  unfold standF
  rw [((greatest_perm (standing ss h)).map (·.1)).nodup_iff]
  unfold standing
  rw [List.map_map]
  have e : ((fun x : Pr => x.1) ∘ fun s : Stay => (s.1, s.2.1)) = fun s : Stay => s.1 := rfl
  rw [e]
  exact List.Nodup.sublist (List.Sublist.map _ (List.filter_sublist)) hn
theorem nowF_keys (bs rs : List Pr) : (nowF bs rs).map (·.1) = (bs.map (·.1)).take rs.length := by
  unfold nowF
  induction bs generalizing rs with
  | nil => simp
  | cons b bs ih =>
    cases rs with
    | nil => simp
    | cons r rs =>
      have := ih rs
      simp at this ⊢
      exact this
theorem slook_mem {l : SL} {x : Str} (h : x ∈ l.map (·.1)) : ∃ v, slook l x = some v := by
  induction l with
  | nil => simp at h
  | cons p l ih =>
    unfold slook
    by_cases e : p.1 = x
    · exact ⟨p.2, by rw [if_pos e]⟩
    · rw [if_neg e]
      refine ih ?_
      simp at h
      rcases h with h | h
      · exact absurd h.symm e
      · simpa using h
theorem newRows_len (h : Int) (now lying : SL) : (newRows h now lying).length ≤ now.length := by
  unfold newRows
  rw [List.length_map]
  refine Nat.le_trans (List.length_filter_le _ _) ?_
  rw [(ssort_perm _).length_eq, List.length_map]
  exact Nat.le_refl _
def zpD (q : Pr × Pr) : D := .tup [siD q.1, siD q.2]
theorem zipD_map (bs rs : List Pr) : zipD (bs.map siD) (rs.map siD) = (bs.zip rs).map zpD := by
  unfold zipD
  induction bs generalizing rs with
  | nil => simp
  | cons b bs ih =>
    cases rs with
    | nil => simp
    | cons r rs =>
      have := ih rs
      simp at this ⊢
      exact ⟨rfl, this⟩

section
variable {P : Program} {w : World} {K : PySem.W.Frag} {mg : Str → Option Value} {base : Heap} {B : Tb}
def aHoused : Ab := pu fun as p => ∃ (vs : List Pr) (ss : List Stay), as = [.dat (.lst (vs.map siD)), .dat (.lst (ss.map stD))] ∧ ss.length ≤ 60 ∧ (ss.map (·.1)).Nodup ∧ p (resD (housedF vs ss))
abbrev nHoused : List Str := ["vessels", "stays", "rooms", "rows", "lying", "hour", "beers", "gallons", "beer", "room", "now"]
theorem scHoused : FnScope nHoused ["vessels", "stays"] (defScope sHoused) := ⟨rfl, rfl, rfl, by decide +kernel, rfl, by decide +kernel, by decide +kernel⟩
theorem df_housed {f : Addr} {fd : FuncData} (F : Fun K "housed" "housed" sHoused f fd) (hm : mg "housed" = some (.ref f)) (M : Bn mg) (DG : Df P w K mg base B "greatest_first" 3 ["pairs"] aGreatest) (DS : Df P w K mg base B "standing_at" 4 ["stays", "hour"] aStanding)
    (DL : Df P w K mg base B "first_lack" 1 ["beers", "rooms"] aFirstLack) (DT : Df P w K mg base B "turning_hours" 1 ["stays"] aTurning) : Df P w K mg base B "housed" 5 ["vessels", "stays"] aHoused := by
  refine df_mk F scHoused (mono_pu fun as p q h ⟨d, e, k1, k2, k3, k⟩ => ⟨d, e, k1, k2, k3, h _ k⟩) hm (F.binds fun _ _ _ _ _ _ us hl => match us, hl with | [_, _], _ => rfl) (fun as μ P ⟨_, d, e, h, _⟩ => by rw [h]; rfl) ?_
  rintro cdv A outer s H E as μ Pp _ hr ⟨rfl, vs, ss, rfl, hl, hnd, k⟩
  refine ssj_cons (sj_set 2 (ej_callP DG (hr.mono (by decide)) (aj_cons (ej_dat 0 rfl (aj_nil ⟨vs, rfl, ?_⟩)))) scHoused.nd)
  refine ssj_cons (sj_set 3 (ej_lstM (aj_nil ⟨[], rfl, z0, fun ra => ?_⟩)) scHoused.nd)
  refine ssj_cons (sj_set 4 (ej_dic0 ?_) scHoused.nd)
  refine ssj_cons (sj_forL D.int (hoursF ss) PassesOwn.never (fun i Γ μ => ∃ (lying : SL) (rows : List Row) (a b c d e g : AV), Γ = [.dat (.lst (vs.map siD)), .dat (.lst (ss.map stD)), .dat (.lst ((greatest vs).map siD)), .val (.ref ra), .dat (dicD (toAL lying)), a, b, c, d, e, g] ∧ μ = [(ra, .lst (rows.map rwD))] ∧ rows.length ≤ i * 60 ∧ housedGo (greatest vs) ss ((hoursF ss).drop i) lying rows = housedF vs ss)
    (ij_list (ej_callP DT (hr.mono (by decide)) (aj_cons (ej_dat 1 rfl (aj_nil ⟨ss, rfl, by omega, _, rfl, rfl, [], [], _, _, _, _, _, _, rfl, rfl, by simp, rfl⟩))))) ?_ ?_)
  · rintro i h Γ2 μ2 hi ⟨lying, rows, a, b, c, d, e, g, rfl, rfl, hrows, inv⟩
    have hilt : i < (hoursF ss).length := (List.getElem?_eq_some_iff.mp hi).1
    have hilen : (hoursF ss).length ≤ 120 := by
      unfold hoursF
      refine Nat.le_trans (usort_length _) ?_
      rw [List.length_append, List.length_map, List.length_map]
      omega
    have ed : (hoursF ss).drop i = h :: (hoursF ss).drop (i + 1) := by
      rw [List.drop_eq_getElem_cons hilt]
      congr 1
      exact (List.getElem?_eq_some_iff.mp hi).2
    rw [ed] at inv
    refine gj_name 5 ?_ scHoused.nd
    refine ssj_cons (sj_set 6 (ej_callP DS hr (aj_cons (ej_dat 1 rfl (aj_cons (ej_dat 5 rfl (aj_nil ⟨ss, h, rfl, by omega, ?_⟩)))))) scHoused.nd)
    refine ssj_cons (sj_set 7 (ej_callP DL (hr.mono (by decide)) (aj_cons (ej_dat 6 rfl (aj_cons (ej_dat 2 rfl (aj_nil ⟨standF ss h, greatest vs, rfl, ?_⟩)))))) scHoused.nd)
    refine ssj_cons (sj_ifP (k := (firstLackF (standF ss h) (greatest vs)).isSome) (tj_cmp op_notN rfl (ej_dat 7 rfl (ej_non (oj_notN ⟨_, rfl, rfl, _, rfl, ?_, rfl⟩)))) (fun hk => ?_) fun hk => ?_)
    · cases firstLackF (standF ss h) (greatest vs) <;> rfl
    · obtain ⟨x, hx⟩ := Option.isSome_iff_exists.mp hk
      have e1 : housedF vs ss = .lacks h x := by
        rw [← inv]
        unfold housedGo
        rw [hx]
      rw [e1] at k
      refine ssj_freeze (μ := []) 3 rfl (ssj_one (sj_ret (ej_tup z3 (aj_cons (ej_str (aj_cons (ej_dat 5 rfl (aj_cons (ej_dat (d := .int x) 7 ?_ (aj_nil ⟨_, rfl, z3, k⟩))))))))))
      rw [hx]
      rfl
    · have hx : firstLackF (standF ss h) (greatest vs) = none := by
        cases q : firstLackF (standF ss h) (greatest vs) with
        | none => rfl
        | some x => rw [q] at hk; cases hk
      have hnow : ((nowF (standF ss h) (greatest vs)).map (·.1)).Nodup := by
        rw [nowF_keys]
        exact List.Nodup.sublist (List.take_sublist _ _) (standF_nodup h hnd)
      have hnl : (nowF (standF ss h) (greatest vs)).length ≤ 60 := by
        have := congrArg List.length (nowF_keys (standF ss h) (greatest vs))
        rw [List.length_map, List.length_take, List.length_map] at this
        have := standF_sub ss h
        omega
      have hkey : (toAL (nowF (standF ss h) (greatest vs))).map Prod.fst = (nowF (standF ss h) (greatest vs)).map (·.1) := by
        unfold toAL
        rw [List.map_map]
        rfl
      refine ssj_nil ?_
      refine ssj_cons (sj_set 10 ?_ scHoused.nd)
      refine ej_callTy (call_dictP rfl) rfl M.dict rfl (aj_cons ?_)
      refine ej_lcF zpD (own := [("beer", 8), ("room", 9)]) scHoused.nd (blkOk_by (N := nHoused) (sc := defScope sHoused) (by decide +kernel)) (ij_zip M.zip (ej_dat 6 rfl (ej_dat 2 rfl ?_)))
      refine ⟨_, _, .inl ⟨rfl, rfl⟩, _, zipD_map _ _, ?_, fun q => some (prD (q.1.1, .str q.2.1)), fun q hq => lctM (fun s H C cl fp => ct_tup rfl (cts_cons (ct_name 8 (by decide) scHoused.nd) (cts_cons (ct_name 9 (by decide) scHoused.nd) cts_nil))) ?_, ?_⟩
      · rw [List.length_zip]
        have := standF_sub ss h
        omega
      · intro s H C cl fp
        refine ej_tup z2 (aj_cons (ej_ix ix_tup (fun _ _ => rfl) (ej_dat 8 rfl (ej_int (oj_ixT ⟨_, _, _, rfl, rfl, rfl, ?_⟩)))))
        refine aj_cons (ej_ix ix_tup (fun _ _ => rfl) (ej_dat 9 rfl (ej_int (oj_ixT ⟨_, _, _, rfl, rfl, rfl, ?_⟩))))
        exact aj_nil ⟨_, rfl, z2, rfl, rfl⟩
      refine aj_nil (cj_dict ⟨toAL (nowF (standF ss h) (greatest vs)), ?_, ?_⟩)
      · rw [fm_map]
        unfold toAL nowF
        rw [List.map_map, List.map_map]
        rfl
      rw [amerge_nodup (by rw [hkey]; exact hnow)]
      refine ssj_cons (sj_expr ?_)
      refine (ej_bm PySem.F.plainAttrs_list PySem.F.slot_list_extend PySem.F.type_list_extend mt_extend (ej_val 3 rfl ⟨.lst (.mem (j := 0) rfl), aj_cons ?_⟩))
      refine ej_lcF D.str (own := [("beer", 8)]) scHoused.nd (blkOk_by (N := nHoused) (sc := defScope sHoused) (by decide +kernel)) (ij_list (ej_callB (call_sortedD rfl) rfl M.sorted rfl (aj_cons (ej_dat 10 rfl (aj_nil (cj_sortD ⟨_, _, rfl, .dat _, ?_, _, rfl, ?_⟩))))))
      · unfold toAL
        rw [List.length_map]
        omega
      rw [hkey]
      refine ⟨_, rfl, ?_, fun b => cond (!decide (slook lying b = slook (nowF (standF ss h) (greatest vs)) b)) (some (rwD (h, b, (slook (nowF (standF ss h) (greatest vs)) b).getD ""))) none, fun b hb => ?_, ?_⟩
      · rw [(ssort_perm _).length_eq, List.length_map]
        omega
      · have hb' : b ∈ (nowF (standF ss h) (greatest vs)).map (·.1) := (ssort_perm _).mem_iff.mp hb
        obtain ⟨v, hv⟩ := slook_mem hb'
        have ha : alook (toAL (nowF (standF ss h) (greatest vs))) b = some (.str v) := by rw [alook_toAL, hv]; rfl
        refine lctF (fun s H C cl fp => ct_name 8 (by decide) scHoused.nd) ?_ ?_
        · intro s H C cl fp
          refine tj_cmp op_ne rfl (ej_get1 (hu_of hr) (ej_dat 4 rfl ⟨toAL lying, .dat _, ej_dat 8 rfl ⟨b, rfl, rfl, ?_⟩⟩))
          refine ej_dget (hu_of hr) (fun _ _ => rfl) (ej_dat 10 rfl (ej_dat 8 rfl ⟨_, b, _, .dat _, rfl, ha, ?_⟩))
          rw [alook_toAL, hv]
          cases q : slook lying b with
          | none => exact oj_ne ⟨_, _, _, _, rfl, rfl, rfl, rfl, rfl, _, rfl, by simp, rfl⟩
          | some u => exact oj_ne ⟨_, _, _, _, rfl, rfl, rfl, rfl, rfl, _, rfl, by simp, rfl⟩
        · intro _ s H C cl fp
          refine ej_tup z3 (aj_cons (ej_dat 5 rfl (aj_cons (ej_dat 8 rfl (aj_cons (ej_dget (hu_of hr) (fun _ _ => rfl) (ej_dat 10 rfl (ej_dat 8 rfl ⟨_, b, _, .dat _, rfl, ha, aj_nil ⟨_, rfl, z3, ?_, rfl⟩⟩))))))))
          rw [hv]
          rfl
      rw [fm_if]
      refine aj_nil (mj_extend ⟨0, ra, _, _, rfl, rfl, rfl, ?_, ?_⟩)
      · have := newRows_len h (nowF (standF ss h) (greatest vs)) lying
        unfold newRows at this
        rw [List.length_map] at this
        rw [List.length_map, List.length_map]
        omega
      refine ssj_one (sj_set 4 (ej_dat 10 rfl ?_) scHoused.nd)
      refine ⟨nowF (standF ss h) (greatest vs), rows ++ newRows h (nowF (standF ss h) (greatest vs)) lying, _, _, _, _, _, _, rfl, ?_, ?_, ?_⟩
      · rw [List.map_append]
        unfold newRows
        rw [List.map_map]
        rfl
      · rw [List.length_append]
        have := newRows_len h (nowF (standF ss h) (greatest vs)) lying
        omega
      · rw [← inv]
        conv => rhs; unfold housedGo
        rw [hx]
  · rintro Γ2 μ2 ⟨lying, rows, a, b, c, d, e, g, rfl, rfl, hrows, inv⟩
    rw [List.drop_length] at inv
    have e1 : housedF vs ss = .plan rows := inv.symm
    rw [e1] at k
    exact ssj_freeze (μ := []) 3 rfl (ssj_one (sj_ret (ej_tup z2 (aj_cons (ej_str (aj_cons (ej_dat 3 rfl (aj_nil ⟨_, rfl, z2, k⟩))))))))
end
end K43

set_option maxHeartbeats 4000000
/-! K15: shows_lack, is_plan_row. -/
namespace K43
open PySem PySem.Spec PyProof.Rows L2
abbrev sShowsLack : Stmt := top 8
abbrev sPlanRow : Stmt := top 9
def showsLackF (vs : List Pr) (ss : List Stay) (h g : Int) : Bool := decide ((((vs.filter fun v => decide (g ≤ v.2)).length : Nat) : Int) < (((standF ss h).filter fun b => decide (g ≤ b.2)).length : Nat))
def rget : List Pr → Str → Option Int
  | [], _ => none
  | p :: r, x => if p.1 = x then some p.2 else rget r x
def sget : List Stay → Str → Option Stay
  | [], _ => none
  | p :: r, x => if p.1 = x then some p else sget r x
def roomAL (vs : List Pr) : AL := vs.map fun v => (v.1, .int v.2)
def stayAL (ss : List Stay) : AL := ss.map fun s => (s.1, stD s)
theorem alook_room (x : Str) : ∀ vs : List Pr, alook (roomAL vs) x = (rget vs x).map .int
  | [] => rfl
  | p :: r => by
    have ih := alook_room x r
    unfold roomAL at ih ⊢
    rw [List.map_cons]
    unfold alook rget
    by_cases h : p.1 = x
    · rw [if_pos h, if_pos h]; rfl
    · rw [if_neg h, if_neg h]; exact ih
theorem alook_stay (x : Str) : ∀ vs : List Stay, alook (stayAL vs) x = (sget vs x).map stD
  | [] => rfl
  | p :: r => by
    have ih := alook_stay x r
    unfold stayAL at ih ⊢
    rw [List.map_cons]
    unfold alook sget
    by_cases h : p.1 = x
    · rw [if_pos h, if_pos h]; rfl
    · rw [if_neg h, if_neg h]; exact ih
def rowOk (vs : List Pr) (ss : List Stay) (h : Int) (b v : Str) : Bool := match sget ss b, rget vs v with
  | some s, some r => (decide (s.2.2.1 ≤ h) && decide (h < s.2.2.2)) && decide (s.2.1 ≤ r)
  | _, _ => false
def planRowF (vs : List Pr) (ss : List Stay) : D → Bool
  | .tup [.int h, .str b, .str v] => rowOk vs ss h b v
  | _ => false
/-- what a row may be -/
structure OkRow (d : D) : Prop where
  ns : notScr d
  el : ∀ ds, d = .tup ds → ∀ e ∈ ds, notScr e ∧ e.plain = true ∧ SeqAt.shaped e.py = true
theorem int_ge (i j : Int) : decide (i ≥ j) = decide (j ≤ i) := rfl

section
variable {P : Program} {w : World} {K : PySem.W.Frag} {mg : Str → Option Value} {base : Heap} {B : Tb}
def aShowsLack : Ab := pu fun as p => ∃ (vs : List Pr) (ss : List Stay) (h g : Int), as = [.dat (.lst (vs.map siD)), .dat (.lst (ss.map stD)), .dat (.tup [.int h, .int g])] ∧ ss.length ≤ 60 ∧ vs.length ≤ 60 ∧ p (.bl (showsLackF vs ss h g))
abbrev nShowsLack : List Str := ["vessels", "stays", "thing", "beer", "gallons", "many", "vessel", "room"]
theorem scShowsLack : FnScope nShowsLack ["vessels", "stays", "thing"] (defScope sShowsLack) := ⟨rfl, rfl, rfl, by decide +kernel, rfl, by decide +kernel, by decide +kernel⟩
theorem df_showsLack {f : Addr} {fd : FuncData} (F : Fun K "shows_lack" "shows_lack" sShowsLack f fd) (hm : mg "shows_lack" = some (.ref f)) (M : Bn mg) (DN : Df P w K mg base B "is_number" 1 ["thing"] aIsNumber) (DS : Df P w K mg base B "standing_at" 4 ["stays", "hour"] aStanding) :
    Df P w K mg base B "shows_lack" 5 ["vessels", "stays", "thing"] aShowsLack := by
  refine df_mk F scShowsLack (mono_pu fun as p q h ⟨d, e, k1, k2, k3, k4, k5, k⟩ => ⟨d, e, k1, k2, k3, k4, k5, h _ k⟩) hm (F.binds fun _ _ _ _ _ _ us hl => match us, hl with | [_, _, _], _ => rfl) (fun as μ P ⟨_, d, e, h, g, q, _⟩ => by rw [q]; rfl) ?_
  rintro cdv A outer s H E as μ Pp _ hr ⟨rfl, vs, ss, h, g, rfl, hl, hv, k⟩
  have hs : notScr (.tup [.int h, .int g]) := fun _ z => by cases z
  have hi : ∀ i, notScr (.int i) := fun _ _ z => by cases z
  refine ssj_cons (sj_ifP (k := false) (tp_w (wp_or (k := false) (l := false) (tp_not (k := true) (tj_of (by intro _; rfl) (ej_isi M.isinstance M.tuple rfl (ej_dat 2 rfl ⟨_, _, rfl, hs, kit_tuple hs, _, rfl, rfl, rfl⟩)))) fun _ => wp_or (k := false) (l := false) ?_ fun _ => wp_or (k := false) (l := false) (tp_not (k := true) (tj_of (by intro _; rfl) ?_)) fun _ => wp_or1 (tp_not (k := true) (tj_of (by intro _; rfl) ?_)))) (fun h => nomatch h) fun _ => ?_)
  · exact tj_cmp op_ne rfl (ej_callB call_len_seq rfl M.len boot_len (aj_cons (ej_dat 2 rfl (aj_nil (cj_lenT ⟨_, rfl, ej_int (oj_ne ⟨_, _, _, _, rfl, rfl, rfl, rfl, rfl, _, rfl, rfl, rfl⟩)⟩)))))
  · exact ej_callP DN (hr.mono (by decide)) (aj_cons (ej_ix ix_tup (fun _ _ => rfl) (ej_dat 2 rfl (ej_int (oj_ixT ⟨_, _, _, rfl, rfl, rfl, aj_nil ⟨_, rfl, hi _, _, rfl, rfl, rfl⟩⟩)))))
  · exact ej_callP DN (hr.mono (by decide)) (aj_cons (ej_ix ix_tup (fun _ _ => rfl) (ej_dat 2 rfl (ej_int (oj_ixT ⟨_, _, _, rfl, rfl, rfl, aj_nil ⟨_, rfl, hi _, _, rfl, rfl, rfl⟩⟩)))))
  refine ssj_nil (ssj_cons (sj_set 5 ?_ scShowsLack.nd))
  refine ej_callB call_len_seq rfl M.len boot_len (aj_cons ?_)
  refine ej_lcF siD (own := [("beer", 3), ("gallons", 4)]) scShowsLack.nd (blkOk_by (N := nShowsLack) (sc := defScope sShowsLack) (by decide +kernel)) (ij_list (ej_callP DS hr (aj_cons (ej_dat 1 rfl (aj_cons (ej_ix ix_tup (fun _ _ => rfl) (ej_dat 2 rfl (ej_int (oj_ixT ⟨_, _, _, rfl, rfl, rfl, aj_nil ⟨ss, h, rfl, by omega, ?_⟩⟩)))))))))
  refine ⟨_, rfl, standF ss h, rfl, ?_, fun b => cond (decide (g ≤ b.2)) (some (.str b.1)) none, fun b hb => lctF (fun s H C cl fp => ct_tup rfl (cts_cons (ct_name 3 (by decide) scShowsLack.nd) (cts_cons (ct_name 4 (by decide) scShowsLack.nd) cts_nil))) ?_ ?_, ?_⟩
  · have := standF_sub ss h
    omega
  · intro s H C cl fp
    exact tj_cmp op_ge rfl (ej_dat 4 rfl (ej_ix ix_tup (fun _ _ => rfl) (ej_dat 2 rfl (ej_int (oj_ixT ⟨_, _, _, rfl, rfl, rfl, oj_b0 ⟨_, _, rfl, rfl, _, rfl, rfl, rfl⟩⟩)))))
  · intro _ s H C cl fp
    exact ej_dat 3 rfl ⟨rfl, rfl⟩
  rw [fm_if]
  refine aj_nil (cj_lenL ⟨_, _, rfl, .dat _, ?_⟩)
  refine ssj_one (sj_ret (ej_cmp op_gt rfl (ej_dat 5 rfl ?_)))
  refine ej_callB call_len_seq rfl M.len boot_len (aj_cons ?_)
  refine ej_lcF siD (own := [("vessel", 6), ("room", 7)]) scShowsLack.nd (blkOk_by (N := nShowsLack) (sc := defScope sShowsLack) (by decide +kernel)) (ij_list (ej_dat 0 rfl ?_))
  refine ⟨_, rfl, vs, rfl, by omega, fun b => cond (decide (g ≤ b.2)) (some (.str b.1)) none, fun b hb => lctF (fun s H C cl fp => ct_tup rfl (cts_cons (ct_name 6 (by decide) scShowsLack.nd) (cts_cons (ct_name 7 (by decide) scShowsLack.nd) cts_nil))) ?_ ?_, ?_⟩
  · intro s H C cl fp
    exact tj_cmp op_ge rfl (ej_dat 7 rfl (ej_ix ix_tup (fun _ _ => rfl) (ej_dat 2 rfl (ej_int (oj_ixT ⟨_, _, _, rfl, rfl, rfl, oj_b0 ⟨_, _, rfl, rfl, _, rfl, rfl, rfl⟩⟩)))))
  · intro _ s H C cl fp
    exact ej_dat 6 rfl ⟨rfl, rfl⟩
  rw [fm_if]
  refine aj_nil (cj_lenL ⟨_, _, rfl, .dat _, oj_b0 ⟨_, _, rfl, rfl, ?_⟩⟩)
  unfold showsLackF at k
  rw [List.length_map, List.length_map]
  exact k

def aPlanRow : Ab := pu fun as p => ∃ (vs : List Pr) (ss : List Stay) (row : D), as = [.dat (dicD (roomAL vs)), .dat (dicD (stayAL ss)), .dat row] ∧ OkRow row ∧ p (.bl (planRowF vs ss row))
abbrev nPlanRow : List Str := ["room_by", "stay_by", "row", "beer", "gallons", "begin", "end"]
theorem scPlanRow : FnScope nPlanRow ["room_by", "stay_by", "row"] (defScope sPlanRow) := ⟨rfl, rfl, rfl, by decide +kernel, rfl, by decide +kernel, by decide +kernel⟩
theorem isTup_inv {d : D} (h : isTup d = true) : ∃ ds, d = .tup ds := by
  cases d <;> first
    | exact ⟨_, rfl⟩
    | cases h
theorem isStr_inv {d : D} (h : isStr d = true) : ∃ x, d = .str x := by
  cases d <;> first
    | exact ⟨_, rfl⟩
    | cases h
theorem isNum_inv {d : D} (h : isNum d = true) : ∃ x, d = .int x := by
  cases d <;> first
    | exact ⟨_, rfl⟩
    | cases h
theorem len3_inv {ds : List D} (h : ds.length = 3) : ∃ a b c, ds = [a, b, c] := by
  match ds, h with
  | [a, b, c], _ => exact ⟨a, b, c, rfl⟩
theorem df_planRow {f : Addr} {fd : FuncData} (F : Fun K "is_plan_row" "is_plan_row" sPlanRow f fd) (hm : mg "is_plan_row" = some (.ref f)) (M : Bn mg) (DN : Df P w K mg base B "is_number" 1 ["thing"] aIsNumber) :
    Df P w K mg base B "is_plan_row" 2 ["room_by", "stay_by", "row"] aPlanRow := by
  refine df_mk F scPlanRow (mono_pu fun as p q h ⟨d, e, k1, k2, k3, k⟩ => ⟨d, e, k1, k2, k3, h _ k⟩) hm (F.binds fun _ _ _ _ _ _ us hl => match us, hl with | [_, _, _], _ => rfl) (fun as μ P ⟨_, d, e, h, q, _⟩ => by rw [q]; rfl) ?_
  rintro cdv A outer s H E as μ Pp _ hr ⟨rfl, vs, ss, row, rfl, ok, k⟩
  cases hT : isTup row with
  | false =>
    have e : planRowF vs ss row = false := by
      cases row <;> first
        | rfl
        | cases hT
    rw [e] at k
    exact ssj_cons (sj_ifP (k := true) (tp_w (wp_or (k := true) (l := true) (tp_not (k := false) (tj_of (by intro _; rfl) (ej_isi M.isinstance M.tuple rfl (ej_dat 2 rfl ⟨_, _, rfl, ok.ns, kit_tuple ok.ns, _, rfl, hT, rfl⟩)))) fun h => nomatch h)) (fun _ => ssj_one (sj_ret (ej_bl k))) fun h => nomatch h)
  | true =>
    obtain ⟨ds, rfl⟩ := isTup_inv hT
    by_cases hl : ds.length = 3
    · obtain ⟨a, b, c, rfl⟩ := len3_inv hl
      obtain ⟨na, pa, sa⟩ := ok.el _ rfl a (by simp)
      obtain ⟨nb, pb, sb⟩ := ok.el _ rfl b (by simp)
      obtain ⟨nc, pc, sc⟩ := ok.el _ rfl c (by simp)
      refine ssj_cons (sj_ifP (k := !isNum a) (tp_w (wp_or (k := false) (l := !isNum a) (tp_not (k := true) (tj_of (by intro _; rfl) (ej_isi M.isinstance M.tuple rfl (ej_dat 2 rfl ⟨_, _, rfl, ok.ns, kit_tuple ok.ns, _, rfl, rfl, rfl⟩)))) fun _ => wp_or (k := false) (l := !isNum a) ?_ fun _ => wp_or1 (tp_not (k := isNum a) (tj_of (by intro _; rfl) ?_)))) (fun hk => ?_) fun hk => ?_)
      · exact tj_cmp op_ne rfl (ej_callB call_len_seq rfl M.len boot_len (aj_cons (ej_dat 2 rfl (aj_nil (cj_lenT ⟨_, rfl, ej_int (oj_ne ⟨_, _, _, _, rfl, rfl, rfl, rfl, rfl, _, rfl, rfl, rfl⟩)⟩)))))
      · exact ej_callP DN (hr.mono (by decide)) (aj_cons (ej_ix ix_tup (fun _ _ => rfl) (ej_dat 2 rfl (ej_int (oj_ixT ⟨_, _, _, rfl, rfl, rfl, aj_nil ⟨_, rfl, na, _, rfl, rfl, rfl⟩⟩)))))
      · have e : planRowF vs ss (.tup [a, b, c]) = false := by
          cases a <;> first
            | rfl
            | cases hk
        rw [e] at k
        exact ssj_one (sj_ret (ej_bl k))
      · have hn : isNum a = true := by
          cases q : isNum a with
          | true => rfl
          | false => rw [q] at hk; cases hk
        obtain ⟨h, rfl⟩ := isNum_inv hn
        refine ssj_nil ?_
        cases hb : isStr b with
        | false =>
          have e : planRowF vs ss (.tup [.int h, b, c]) = false := by
            cases b <;> first
              | rfl
              | cases hb
          rw [e] at k
          refine ssj_cons (sj_ifP (k := true) (tp_w (wp_or (k := true) (l := true) (tp_not (k := false) (tj_of (by intro _; rfl) ?_)) fun h => nomatch h)) (fun _ => ssj_one (sj_ret (ej_bl k))) fun h => nomatch h)
          exact ej_isi M.isinstance M.str rfl (ej_ix ix_tup (fun _ _ => rfl) (ej_dat 2 rfl (ej_int (oj_ixT ⟨_, _, _, rfl, rfl, rfl, _, _, rfl, nb, kit_str nb, _, rfl, hb, rfl⟩))))
        | true =>
          obtain ⟨x, rfl⟩ := isStr_inv hb
          cases hc : isStr c with
          | false =>
            have e : planRowF vs ss (.tup [.int h, .str x, c]) = false := by
              cases c <;> first
                | rfl
                | cases hc
            rw [e] at k
            refine ssj_cons (sj_ifP (k := true) (tp_w (wp_or (k := false) (l := true) (tp_not (k := true) (tj_of (by intro _; rfl) ?_)) fun _ => wp_or (k := true) (l := true) (tp_not (k := false) (tj_of (by intro _; rfl) ?_)) fun h => nomatch h)) (fun _ => ssj_one (sj_ret (ej_bl k))) fun h => nomatch h)
            · exact ej_isi M.isinstance M.str rfl (ej_ix ix_tup (fun _ _ => rfl) (ej_dat 2 rfl (ej_int (oj_ixT ⟨_, _, _, rfl, rfl, rfl, _, _, rfl, nb, kit_str nb, _, rfl, hb, rfl⟩))))
            · exact ej_isi M.isinstance M.str rfl (ej_ix ix_tup (fun _ _ => rfl) (ej_dat 2 rfl (ej_int (oj_ixT ⟨_, _, _, rfl, rfl, rfl, _, _, rfl, nc, kit_str nc, _, rfl, hc, rfl⟩))))
          | true =>
            obtain ⟨y, rfl⟩ := isStr_inv hc
            refine ssj_cons (sj_ifP (k := !(sget ss x).isSome || !(rget vs y).isSome) (tp_w (wp_or (k := false) (l := !(sget ss x).isSome || !(rget vs y).isSome) (tp_not (k := true) (tj_of (by intro _; rfl) ?_)) fun _ => wp_or (k := false) (l := !(sget ss x).isSome || !(rget vs y).isSome) (tp_not (k := true) (tj_of (by intro _; rfl) ?_)) fun _ => wp_or (k := !(sget ss x).isSome) (l := !(rget vs y).isSome) ?_ fun _ => wp_or1 ?_)) (fun hk => ?_) fun hk => ?_)
            · exact ej_isi M.isinstance M.str rfl (ej_ix ix_tup (fun _ _ => rfl) (ej_dat 2 rfl (ej_int (oj_ixT ⟨_, _, _, rfl, rfl, rfl, _, _, rfl, nb, kit_str nb, _, rfl, hb, rfl⟩))))
            · exact ej_isi M.isinstance M.str rfl (ej_ix ix_tup (fun _ _ => rfl) (ej_dat 2 rfl (ej_int (oj_ixT ⟨_, _, _, rfl, rfl, rfl, _, _, rfl, nc, kit_str nc, _, rfl, hc, rfl⟩))))
            · refine tj_dnotin (hu_of hr) (ej_ix ix_tup (fun _ _ => rfl) (ej_dat 2 rfl (ej_int (oj_ixT ⟨_, _, _, rfl, rfl, rfl, ej_dat 1 rfl ⟨stayAL ss, x, .dat _, rfl, ?_, rfl⟩⟩))))
              rw [alook_stay]
              cases sget ss x <;> rfl
            · refine tj_dnotin (hu_of hr) (ej_ix ix_tup (fun _ _ => rfl) (ej_dat 2 rfl (ej_int (oj_ixT ⟨_, _, _, rfl, rfl, rfl, ej_dat 0 rfl ⟨roomAL vs, y, .dat _, rfl, ?_, rfl⟩⟩))))
              rw [alook_room]
              cases rget vs y <;> rfl
            · have e : planRowF vs ss (.tup [.int h, .str x, .str y]) = false := by
                show rowOk vs ss h x y = false
                unfold rowOk
                cases q1 : sget ss x with
                | none => rfl
                | some st =>
                  cases q2 : rget vs y with
                  | none => rfl
                  | some r => rw [q1, q2] at hk; cases hk
              rw [e] at k
              exact ssj_one (sj_ret (ej_bl k))
            · cases q1 : sget ss x with
              | none => rw [q1] at hk; cases hk
              | some st =>
                cases q2 : rget vs y with
                | none => rw [q1, q2] at hk; cases hk
                | some r =>
                  have e : planRowF vs ss (.tup [.int h, .str x, .str y]) = ((decide (st.2.2.1 ≤ h) && decide (h < st.2.2.2)) && decide (st.2.1 ≤ r)) := by
                    show rowOk vs ss h x y = _
                    unfold rowOk
                    rw [q1, q2]
                  rw [e] at k
                  have a1 : alook (stayAL ss) x = some (stD st) := by rw [alook_stay, q1]; rfl
                  have a2 : alook (roomAL vs) y = some (.int r) := by rw [alook_room, q2]; rfl
                  refine ssj_nil (ssj_cons (sj_asg ?_))
                  refine ej_dget (hu_of hr) (fun _ _ => rfl) (ej_dat 1 rfl (ej_ix ix_tup (fun _ _ => rfl) (ej_dat 2 rfl (ej_int (oj_ixT ⟨_, _, _, rfl, rfl, rfl, stayAL ss, x, _, .dat _, rfl, a1, ?_⟩)))))
                  refine gj_tup rfl rfl (gsj_cons (gj_name 3 (gsj_cons (gj_name 4 (gsj_cons (gj_name 5 (gsj_cons (gj_name 6 (gsj_nil ?_) scPlanRow.nd)) scPlanRow.nd)) scPlanRow.nd)) scPlanRow.nd))
                  refine ssj_one (sj_ret (ej_and (ej_chain op_le op_lt rfl (ej_dat 5 rfl ⟨_, rfl, ej_ix ix_tup (fun _ _ => rfl) (ej_dat 2 rfl (ej_int (oj_ixT ⟨_, _, _, rfl, rfl, rfl, _, rfl, _, ej_dat 6 rfl ⟨rfl, rfl⟩, _, rfl, ?_⟩)))⟩))))
                  cases q3 : (decide (st.2.2.1 ≤ h) && decide (h < st.2.2.2)) with
                  | false => rw [q3] at k; exact k
                  | true =>
                    rw [q3] at k
                    exact ej_one (ej_cmp op_le rfl (ej_dat 4 rfl (ej_dget (hu_of hr) (fun _ _ => rfl) (ej_dat 0 rfl (ej_ix ix_tup (fun _ _ => rfl) (ej_dat 2 rfl (ej_int (oj_ixT ⟨_, _, _, rfl, rfl, rfl, roomAL vs, y, _, .dat _, rfl, a2, oj_b0 ⟨_, _, rfl, rfl, k⟩⟩))))))))
    · have e : planRowF vs ss (.tup ds) = false := by
        unfold planRowF
        split
        · next h b v heq =>
          injection heq with heq
          subst heq
          exact absurd rfl hl
        · rfl
      rw [e] at k
      refine ssj_cons (sj_ifP (k := true) (tp_w (wp_or (k := false) (l := true) (tp_not (k := true) (tj_of (by intro _; rfl) (ej_isi M.isinstance M.tuple rfl (ej_dat 2 rfl ⟨_, _, rfl, ok.ns, kit_tuple ok.ns, _, rfl, rfl, rfl⟩)))) fun _ => wp_or (k := true) (l := true) ?_ fun h => nomatch h)) (fun _ => ssj_one (sj_ret (ej_bl k))) fun h => nomatch h)
      refine tj_cmp op_ne rfl (ej_callB call_len_seq rfl M.len boot_len (aj_cons (ej_dat 2 rfl (aj_nil (cj_lenT ⟨_, rfl, ej_int (oj_ne ⟨_, _, _, _, rfl, rfl, rfl, rfl, rfl, _, rfl, ?_, rfl⟩)⟩)))))
      have : ¬ (V.int (ds.length : Nat) = V.int 3) := fun z => by
        injection z with z
        omega
      simp [this]
end
end K43

set_option maxHeartbeats 4000000
/-! K16: shows_plan. -/
namespace K43
open PySem PySem.Spec PyProof.Rows L2
abbrev sShowsPlan : Stmt := top 10
def sput (l : SL) (x : Str) (v : Str) : SL := if (l.any fun p => decide (p.1 = x)) = true then l.map (fun p => if p.1 = x then (p.1, v) else p) else l ++ [(x, v)]
def smerge (l m : SL) : SL := m.foldl (fun acc p => sput acc p.1 p.2) l
theorem toAL_put (l : SL) (x v : Str) : aput (toAL l) x (.str v) = toAL (sput l x v) := by
  unfold aput sput
  have e : ((toAL l).any fun p => decide (p.1 = x)) = (l.any fun p => decide (p.1 = x)) := by
    unfold toAL
    rw [List.any_map]
    rfl
  rw [e]
  by_cases h : (l.any fun p => decide (p.1 = x)) = true
  · rw [if_pos h, if_pos h]
    unfold toAL
    rw [List.map_map, List.map_map]
    apply List.map_congr_left
    intro p _
    by_cases hp : p.1 = x
    · simp [hp]
    · simp [hp]
  · rw [if_neg h, if_neg h]
    unfold toAL
    rw [List.map_append]
    rfl
theorem toAL_merge : ∀ (m l : SL), amerge (toAL l) (toAL m) = toAL (smerge l m)
  | [], l => rfl
  | p :: m, l => by
    show amerge (aput (toAL l) p.1 (.str p.2)) (toAL m) = toAL (smerge (sput l p.1 p.2) m)
    rw [toAL_put]
    exact toAL_merge m _
theorem sput_len (l : SL) (x v : Str) : (sput l x v).length ≤ l.length + 1 := by
  unfold sput
  split <;> simp
theorem smerge_len : ∀ (m l : SL), (smerge l m).length ≤ l.length + m.length
  | [], l => by simp [smerge]
  | p :: m, l => by
    have h1 := smerge_len m (sput l p.1 p.2)
    have h2 := sput_len l p.1 p.2
    show (smerge (sput l p.1 p.2) m).length ≤ _
    simp
    omega
def updF (rws : List Row) (h : Int) : SL := (rws.filter fun r => decide (r.1 = h)).map fun r => r.2
def okAt (ss : List Stay) (ly : SL) (h : Int) : Bool := !(decide ((((standF ss h).map (·.1)).filterMap (slook ly)).length < ((standF ss h).map (·.1)).length)) && decide (((standF ss h).map (·.1)).filterMap (slook ly)).Nodup
def showsGo (ss : List Stay) (rws : List Row) : List Int → SL → Bool
  | [], _ => true
  | h :: hs, ly => okAt ss (smerge ly (smerge [] (updF rws h))) h && showsGo ss rws hs (smerge ly (smerge [] (updF rws h)))
def anyDesc (rws : List Row) : Bool := ((rws.zip (rws.drop 1)).map fun q => decide (q.2.1 < q.1.1)).any id
def showsRows (ss : List Stay) (rws : List Row) : Bool := !anyDesc rws && showsGo ss rws (usort (hoursF ss ++ rws.map (·.1))) []
def rowOf : D → Row
  | .tup [.int h, .str b, .str v] => (h, b, v)
  | _ => (0, "", "")
def showsPlanF (vs : List Pr) (ss : List Stay) (ts : List D) : Bool := ts.all (planRowF vs ss) && showsRows ss (ts.map rowOf)
theorem planRow_inv {vs : List Pr} {ss : List Stay} {d : D} (h : planRowF vs ss d = true) : d = rwD (rowOf d) := by
  unfold planRowF at h
  split at h
  · rfl
  · cases h
theorem rowOf_rwD (r : Row) : rowOf (rwD r) = r := rfl
def zrD (q : Row × Row) : D := .tup [rwD q.1, rwD q.2]
theorem zipD_rows (bs rs : List Row) : zipD (bs.map rwD) (rs.map rwD) = (bs.zip rs).map zrD := by
  unfold zipD
  induction bs generalizing rs with
  | nil => simp
  | cons b bs ih =>
    cases rs with
    | nil => simp
    | cons r rs =>
      have := ih rs
      simp at this ⊢
      exact ⟨rfl, this⟩
theorem cutD_1 {α β : Type} (f : α → β) (xs : List α) : cutD (xs.map f) (some 1) none = (xs.drop 1).map f := by
  unfold cutD
  cases xs with
  | nil => simp
  | cons x xs =>
    have e1 : HT.sIx ((x :: xs).map f).length 0 (some 1) = 1 := by
      unfold HT.sIx
      simp
    have e2 : HT.sIx ((x :: xs).map f).length ((x :: xs).map f).length none = ((x :: xs).map f).length := rfl
    rw [e1, e2]
    simp
    exact List.take_of_length_le (by simp)
theorem here_map (ly : SL) (bs : List Str) : bs.filterMap (fun b => cond (slook ly b).isSome (some (D.str ((slook ly b).getD ""))) none) = (bs.filterMap (slook ly)).map D.str := by
  induction bs with
  | nil => rfl
  | cons b bs ih =>
    rw [List.filterMap_cons, List.filterMap_cons, ih]
    cases slook ly b <;> rfl
theorem dint_eq (i j : Int) : decide (V.int i = V.int j) = decide (i = j) := by
  by_cases h : i = j
  · subst h; simp
  · have : ¬ (V.int i = V.int j) := fun z => by injection z with z; exact h z
    simp [h, this]

theorem dup_iff {L : List Str} {c : Nat} (h1 : c ≤ L.length) (h2 : c = L.length ↔ L.Nodup) : decide ((c : Int) < (L.length : Nat)) = !decide L.Nodup := by
  by_cases hn : L.Nodup
  · have := h2.mpr hn
    rw [decide_eq_true hn, decide_eq_false (by omega)]
    rfl
  · have : c ≠ L.length := fun z => hn (h2.mp z)
    rw [decide_eq_false hn, decide_eq_true (by omega)]
    rfl

section
variable {P : Program} {w : World} {K : PySem.W.Frag} {mg : Str → Option Value} {base : Heap} {B : Tb}
def aShowsPlan : Ab := pu fun as p => ∃ (vs : List Pr) (ss : List Stay) (ts : List D), as = [.dat (.lst (vs.map siD)), .dat (.lst (ss.map stD)), .dat (.lst ts)] ∧ vs.length ≤ 60 ∧ ss.length ≤ 60 ∧ ts.length ≤ 900 ∧ (vs.map (·.1)).Nodup ∧ (ss.map (·.1)).Nodup ∧ (∀ t ∈ ts, OkRow t) ∧ p (.bl (showsPlanF vs ss ts))
abbrev nShowsPlan : List Str := ["vessels", "stays", "thing", "pair", "room_by", "stay", "stay_by", "row", "one", "other", "lying", "hour", "beer", "gallons", "beers", "here"]
theorem scShowsPlan : FnScope nShowsPlan ["vessels", "stays", "thing"] (defScope sShowsPlan) := ⟨rfl, rfl, rfl, by decide +kernel, rfl, by decide +kernel, by decide +kernel⟩
theorem df_showsPlan {f : Addr} {fd : FuncData} (F : Fun K "shows_plan" "shows_plan" sShowsPlan f fd) (hm : mg "shows_plan" = some (.ref f)) (M : Bn mg) (DR : Df P w K mg base B "is_plan_row" 2 ["room_by", "stay_by", "row"] aPlanRow) (DS : Df P w K mg base B "standing_at" 4 ["stays", "hour"] aStanding)
    (DT : Df P w K mg base B "turning_hours" 1 ["stays"] aTurning) : Df P w K mg base B "shows_plan" 5 ["vessels", "stays", "thing"] aShowsPlan := by
  refine df_mk F scShowsPlan (mono_pu fun as p q h ⟨d, e, k1, k2, k3, k4, k5, k6, k7, k8, k⟩ => ⟨d, e, k1, k2, k3, k4, k5, k6, k7, k8, h _ k⟩) hm (F.binds fun _ _ _ _ _ _ us hl => match us, hl with | [_, _, _], _ => rfl) (fun as μ P ⟨_, d, e, h, q, _⟩ => by rw [q]; rfl) ?_
  rintro cdv A outer s H E as μ Pp _ hr ⟨rfl, vs, ss, ts, rfl, hv, hl, ht, nv, nss, ok, k⟩
  -- room_by
  refine ssj_cons (sj_set 4 ?_ scShowsPlan.nd)
  refine ej_callTy (call_dictP rfl) rfl M.dict rfl (aj_cons ?_)
  refine ej_lcF siD (own := [("pair", 3)]) scShowsPlan.nd (blkOk_by (N := nShowsPlan) (sc := defScope sShowsPlan) (by decide +kernel)) (ij_list (ej_dat 0 rfl ?_))
  refine ⟨_, rfl, vs, rfl, by omega, fun v => some (siD v), fun v hv => lctM (fun s H C cl fp => ct_name 3 (by decide) scShowsPlan.nd) ?_, ?_⟩
  · intro s H C cl fp
    exact ej_callTy call_tupleT rfl M.tuple rfl (aj_cons (ej_dat 3 rfl (aj_nil (cj_tupT ⟨_, rfl, rfl, rfl⟩))))
  rw [fm_map]
  refine aj_nil (cj_dict ⟨roomAL vs, ?_, ?_⟩)
  · unfold roomAL
    rw [List.map_map]
    rfl
  rw [amerge_nodup (by unfold roomAL; rw [List.map_map]; exact nv)]
  -- stay_by
  refine ssj_cons (sj_set 6 ?_ scShowsPlan.nd)
  refine ej_callTy (call_dictP rfl) rfl M.dict rfl (aj_cons ?_)
  refine ej_lcF stD (own := [("stay", 5)]) scShowsPlan.nd (blkOk_by (N := nShowsPlan) (sc := defScope sShowsPlan) (by decide +kernel)) (ij_list (ej_dat 1 rfl ?_))
  refine ⟨_, rfl, ss, rfl, by omega, fun t => some (prD (t.1, stD t)), fun v hv => lctM (fun s H C cl fp => ct_name 5 (by decide) scShowsPlan.nd) ?_, ?_⟩
  · intro s H C cl fp
    exact ej_tup z2 (aj_cons (ej_ix ix_tup (fun _ _ => rfl) (ej_dat 5 rfl (ej_int (oj_ixT ⟨_, _, _, rfl, rfl, rfl, aj_cons (ej_dat 5 rfl (aj_nil ⟨_, rfl, z2, rfl, rfl⟩))⟩)))))
  rw [fm_map]
  refine aj_nil (cj_dict ⟨stayAL ss, ?_, ?_⟩)
  · unfold stayAL
    rw [List.map_map]
    rfl
  rw [amerge_nodup (by unfold stayAL; rw [List.map_map]; exact nss)]
  -- rows
  have nl : notScr (.lst ts) := fun _ z => by cases z
  refine ssj_cons (sj_ifP (k := !(ts.all (planRowF vs ss))) (tp_w (wp_or (k := false) (l := !(ts.all (planRowF vs ss))) (tp_not (k := true) (tj_of (by intro _; rfl) ?_)) fun _ => wp_or1 (tp_not (k := ts.all (planRowF vs ss)) (tj_of (by intro _; rfl) ?_)))) (fun hk => ?_) fun hk => ?_)
  · exact ej_isi2 (x := "") M.isinstance M.list M.tuple rfl rfl (ej_dat 2 rfl ⟨_, _, _, rfl, nl, kit_list nl, kit_tuple nl, _, rfl, rfl, rfl⟩)
  · refine ej_callB (cr_all rfl) rfl M.all rfl (aj_cons ?_)
    refine ej_lcF (fun d : D => d) (own := [("row", 7)]) scShowsPlan.nd (blkOk_by (N := nShowsPlan) (sc := defScope sShowsPlan) (by decide +kernel)) (ij_list (ej_dat 2 rfl ?_))
    refine ⟨_, rfl, ts, by simp, by omega, fun t => some (.bl (planRowF vs ss t)), fun t ht => lctM (fun s H C cl fp => ct_name 7 (by decide) scShowsPlan.nd) ?_, ?_⟩
    · intro s H C cl fp
      exact ej_callP DR (hr.mono (by decide)) (aj_cons (ej_dat 4 rfl (aj_cons (ej_dat 6 rfl (aj_cons (ej_dat 7 rfl (aj_nil ⟨vs, ss, t, rfl, ok t ht, rfl, rfl⟩)))))))
    rw [fm_map]
    refine aj_nil (cj_all ⟨ts.map (planRowF vs ss), ?_, _, rfl, ?_, rfl⟩)
    · rw [List.map_map]; rfl
    · rw [List.all_map]; rfl
  · have e : showsPlanF vs ss ts = false := by
      unfold showsPlanF
      cases q : ts.all (planRowF vs ss) with
      | true => rw [q] at hk; cases hk
      | false => rfl
    rw [e] at k
    exact ssj_one (sj_ret (ej_bl k))
  have hall : ts.all (planRowF vs ss) = true := by
    cases q : ts.all (planRowF vs ss) with
    | true => rfl
    | false => rw [q] at hk; cases hk
  have ets : ts = (ts.map rowOf).map rwD := by
    rw [List.map_map]
    conv => lhs; rw [← List.map_id ts]
    apply List.map_congr_left
    intro t ht
    exact planRow_inv (List.all_eq_true.mp hall t ht)
  have ek : showsPlanF vs ss ts = showsRows ss (ts.map rowOf) := by
    unfold showsPlanF
    rw [hall]
    rfl
  rw [ek] at k
  have hrl : (ts.map rowOf).length ≤ 900 := by rw [List.length_map]; exact ht
  rw [ets]
  generalize ts.map rowOf = rws at *
  clear ets ek hall ok hk ht nl
  -- any
  refine ssj_nil (ssj_cons (sj_ifP (k := anyDesc rws) (tj_of (by intro _; rfl) ?_) (fun hk => ?_) fun hk => ?_))
  · refine ej_callB (cr_any rfl) rfl M.any rfl (aj_cons ?_)
    refine ej_lcF zrD (own := [("one", 8), ("other", 9)]) scShowsPlan.nd (blkOk_by (N := nShowsPlan) (sc := defScope sShowsPlan) (by decide +kernel)) (ij_zip M.zip (ej_dat 2 rfl ?_))
    refine ej_slice sl_list (ej_dat 2 rfl (opj_some (ej_int ⟨_, rfl, opj_none (slj_list ⟨_, .dat _, ?_⟩)⟩)))
    rw [cutD_1]
    refine ⟨_, _, .inl ⟨rfl, rfl⟩, _, zipD_rows _ _, ?_, fun q => some (.bl (decide (q.2.1 < q.1.1))), fun q hq => lctM (fun s H C cl fp => ct_tup rfl (cts_cons (ct_name 8 (by decide) scShowsPlan.nd) (cts_cons (ct_name 9 (by decide) scShowsPlan.nd) cts_nil))) ?_, ?_⟩
    · rw [List.length_zip]
      omega
    · intro s H C cl fp
      exact ej_cmp op_gt rfl (ej_ix ix_tup (fun _ _ => rfl) (ej_dat 8 rfl (ej_int (oj_ixT ⟨_, _, _, rfl, rfl, rfl, ej_ix ix_tup (fun _ _ => rfl) (ej_dat 9 rfl (ej_int (oj_ixT ⟨_, _, _, rfl, rfl, rfl, oj_b0 ⟨_, _, rfl, rfl, rfl, rfl⟩⟩)))⟩))))
    rw [fm_map]
    refine aj_nil (cj_any ⟨(rws.zip (rws.drop 1)).map fun q => decide (q.2.1 < q.1.1), ?_, _, rfl, rfl, rfl⟩)
    rw [List.map_map]; rfl
  · have e : showsRows ss rws = false := by
      unfold showsRows
      rw [hk]
      rfl
    rw [e] at k
    exact ssj_one (sj_ret (ej_bl k))
  have ek : showsRows ss rws = showsGo ss rws (usort (hoursF ss ++ rws.map (·.1))) [] := by
    unfold showsRows
    rw [hk]
    rfl
  rw [ek] at k
  refine ssj_nil (ssj_cons (sj_set 10 (ej_dic0M fun la => ?_) scShowsPlan.nd))
  have hhl : (hoursF ss).length ≤ 120 := by
    unfold hoursF
    refine Nat.le_trans (usort_length _) ?_
    rw [List.length_append, List.length_map, List.length_map]
    omega
  refine ssj_cons (sj_forL D.int (usort (hoursF ss ++ rws.map (·.1))) PassesOwn.never (fun i Γ μ => ∃ (ly : SL) (a b c : AV), Γ = [.dat (.lst (vs.map siD)), .dat (.lst (ss.map stD)), .dat (.lst (rws.map rwD)), .un, .dat (dicD (roomAL vs)), .un, .dat (dicD (stayAL ss)), .un, .un, .un, .val (.ref la), a, .un, .un, b, c] ∧ μ = [(la, dicD (toAL ly))] ∧ ly.length ≤ i * 900 ∧ showsGo ss rws ((usort (hoursF ss ++ rws.map (·.1))).drop i) ly = showsGo ss rws (usort (hoursF ss ++ rws.map (·.1))) [])
    (ij_list ?_) ?_ ?_)
  · refine ej_sortSet M.sorted M.set (ej_bin op_cat ?_)
    refine ej_callP DT (hr.mono (by decide)) (aj_cons (ej_dat 1 rfl (aj_nil ⟨ss, rfl, by omega, ?_⟩)))
    refine ej_lcF rwD (own := [("row", 7)]) scShowsPlan.nd (blkOk_by (N := nShowsPlan) (sc := defScope sShowsPlan) (by decide +kernel)) (ij_list (ej_dat 2 rfl ?_))
    refine ⟨_, rfl, rws, rfl, by omega, fun t => some (.int t.1), fun t ht => lctM (fun s H C cl fp => ct_name 7 (by decide) scShowsPlan.nd) ?_, ?_⟩
    · intro s H C cl fp
      exact ej_ix ix_tup (fun _ _ => rfl) (ej_dat 7 rfl (ej_int (oj_ixT ⟨_, _, _, rfl, rfl, rfl, rfl, rfl⟩)))
    rw [fm_map]
    refine oj_cat ⟨_, _, .dat _, .dat _, zM (by simp; omega), hoursF ss ++ rws.map (·.1), ?_, by simp; omega, _, rfl, rfl, [], _, _, _, rfl, rfl, by simp, rfl⟩
    rw [List.map_append, List.map_map]
    rfl
  · rintro i h Γ2 μ2 hi ⟨ly, a, b, c, rfl, rfl, hly, inv⟩
    have hilt : i < (usort (hoursF ss ++ rws.map (·.1))).length := (List.getElem?_eq_some_iff.mp hi).1
    have hil : i < 1020 := by
      have := usort_length (hoursF ss ++ rws.map (·.1))
      rw [List.length_append, List.length_map] at this
      omega
    have ed : (usort (hoursF ss ++ rws.map (·.1))).drop i = h :: (usort (hoursF ss ++ rws.map (·.1))).drop (i + 1) := by
      rw [List.drop_eq_getElem_cons hilt]
      congr 1
      exact (List.getElem?_eq_some_iff.mp hi).2
    rw [ed] at inv
    have eg : showsGo ss rws (h :: (usort (hoursF ss ++ rws.map (·.1))).drop (i + 1)) ly = (okAt ss (smerge ly (smerge [] (updF rws h))) h && showsGo ss rws ((usort (hoursF ss ++ rws.map (·.1))).drop (i + 1)) (smerge ly (smerge [] (updF rws h)))) := rfl
    rw [eg] at inv
    have hul : (updF rws h).length ≤ 900 := by
      unfold updF
      rw [List.length_map]
      exact Nat.le_trans (List.length_filter_le _ _) hrl
    have hml := smerge_len (updF rws h) []
    have hml2 := smerge_len (smerge [] (updF rws h)) ly
    refine gj_name 11 ?_ scShowsPlan.nd
    refine ssj_cons (sj_expr ?_)
    refine (ej_bm PySem.F.plainAttrs_dict PySem.F.slot_dict_update PySem.F.type_dict_update mt_update (ej_val 10 rfl ⟨.dic (.mem (j := 0) rfl), aj_cons ?_⟩))
    refine ej_callTy (call_dictP rfl) rfl M.dict rfl (aj_cons ?_)
    refine ej_lcF rwD (own := [("row", 7)]) scShowsPlan.nd (blkOk_by (N := nShowsPlan) (sc := defScope sShowsPlan) (by decide +kernel)) (ij_list (ej_dat 2 rfl ?_))
    refine ⟨_, rfl, rws, rfl, by omega, fun t => cond (decide (t.1 = h)) (some (prD (t.2.1, .str t.2.2))) none, fun t ht => lctF (fun s H C cl fp => ct_name 7 (by decide) scShowsPlan.nd) ?_ ?_, ?_⟩
    · intro s H C cl fp
      exact tj_cmp op_eq rfl (ej_ix ix_tup (fun _ _ => rfl) (ej_dat 7 rfl (ej_int (oj_ixT ⟨_, _, _, rfl, rfl, rfl, ej_dat 11 rfl (oj_eq ⟨_, _, _, _, rfl, rfl, rfl, rfl, rfl, _, rfl, dint_eq _ _, rfl⟩)⟩))))
    · intro _ s H C cl fp
      exact ej_tup z2 (aj_cons (ej_ix ix_tup (fun _ _ => rfl) (ej_dat 7 rfl (ej_int (oj_ixT ⟨_, _, _, rfl, rfl, rfl, aj_cons (ej_ix ix_tup (fun _ _ => rfl) (ej_dat 7 rfl (ej_int (oj_ixT ⟨_, _, _, rfl, rfl, rfl, aj_nil ⟨_, rfl, z2, rfl, rfl⟩⟩))))⟩)))))
    rw [fm_if]
    refine aj_nil (cj_dict ⟨toAL (updF rws h), ?_, ?_⟩)
    · unfold toAL updF
      rw [List.map_map, List.map_map]
      rfl
    have e0 : amerge [] (toAL (updF rws h)) = toAL (smerge [] (updF rws h)) := toAL_merge (updF rws h) []
    rw [e0]
    refine aj_nil (mj_update ⟨0, la, _, _, rfl, rfl, rfl, ?_, ?_⟩)
    · unfold toAL
      rw [List.length_map, List.length_map]
      simp at hml
      omega
    rw [toAL_merge]
    generalize hly' : smerge ly (smerge [] (updF rws h)) = ly' at *
    -- beers
    refine ssj_cons ?_
    refine sj_setLcF siD (i := 14) (own := [("beer", 12), ("gallons", 13)]) scShowsPlan.nd (blkOk_by (N := nShowsPlan) (sc := defScope sShowsPlan) (by decide +kernel)) (ij_list (ej_callP DS hr (aj_cons (ej_dat 1 rfl (aj_cons (ej_dat 11 rfl (aj_nil ⟨ss, h, rfl, by omega, ?_⟩)))))))
    have hsl := standF_sub ss h
    refine ⟨_, rfl, standF ss h, rfl, by omega, fun b => some (.str b.1), fun b hb => lctM (fun s H C cl fp => ct_tup rfl (cts_cons (ct_name 12 (by decide) scShowsPlan.nd) (cts_cons (ct_name 13 (by decide) scShowsPlan.nd) cts_nil))) ?_, ?_⟩
    · intro s H C cl fp
      exact ej_dat 12 rfl ⟨rfl, rfl⟩
    rw [fm_map]
    have e1 : (standF ss h).map (fun b : Pr => D.str b.1) = ((standF ss h).map (·.1)).map D.str := by rw [List.map_map]; rfl
    rw [e1]
    -- here
    refine ssj_cons ?_
    refine sj_setLcF D.str (i := 15) (own := [("beer", 12)]) scShowsPlan.nd (blkOk_by (N := nShowsPlan) (sc := defScope sShowsPlan) (by decide +kernel)) (ij_list (ej_dat 14 rfl ?_))
    refine ⟨_, rfl, (standF ss h).map (·.1), rfl, by simp; omega, fun b => cond (slook ly' b).isSome (some (.str ((slook ly' b).getD ""))) none, fun b hb => lctF (fun s H C cl fp => ct_name 12 (by decide) scShowsPlan.nd) ?_ ?_, ?_⟩
    · intro s H C cl fp
      refine tj_din (hu_of hr) (ej_dat 12 rfl (ej_val 10 rfl ⟨toAL ly', b, .mem (j := 0) rfl, rfl, ?_, rfl⟩))
      rw [alook_toAL]
      cases slook ly' b <;> rfl
    · intro hk s H C cl fp
      obtain ⟨v, hv⟩ := Option.isSome_iff_exists.mp hk
      refine ej_dget (hu_of hr) (fun _ _ => rfl) (ej_val 10 rfl (ej_dat 12 rfl ⟨toAL ly', b, .str v, .mem (j := 0) rfl, rfl, ?_, ?_, rfl⟩))
      · rw [alook_toAL, hv]; rfl
      · rw [hv]; rfl
    rw [here_map]
    have hhr : (((standF ss h).map (·.1)).filterMap (slook ly')).length ≤ 60 := by
      refine Nat.le_trans (List.length_filterMap_le _ _) ?_
      rw [List.length_map]
      omega
    refine ssj_one (sj_ifP (k := !okAt ss ly' h) ?_ (fun hk => ?_) fun hk => ?_)
    · have eo : (!okAt ss ly' h) = (decide ((((standF ss h).map (·.1)).filterMap (slook ly')).length < ((standF ss h).map (·.1)).length) || !decide (((standF ss h).map (·.1)).filterMap (slook ly')).Nodup) := by
        unfold okAt
        rw [Bool.not_and, Bool.not_not]
      rw [eo]
      refine tp_w (wp_or ?_ fun _ => wp_or1 ?_)
      · refine tj_cmp op_lt rfl (ej_callB call_len_seq rfl M.len boot_len (aj_cons (ej_dat 15 rfl (aj_nil (cj_lenL ⟨_, _, rfl, .dat _, ?_⟩)))))
        refine ej_callB call_len_seq rfl M.len boot_len (aj_cons (ej_dat 14 rfl (aj_nil (cj_lenL ⟨_, _, rfl, .dat _, oj_b0 ⟨_, _, rfl, rfl, _, rfl, ?_, rfl⟩⟩))))
        rw [List.length_map, List.length_map]
        simp
      · refine tj_cmp op_lt rfl (ej_lenSetS M.len M.set (ej_dat 15 rfl ⟨_, rfl, by omega, fun c hc1 hc2 => ?_⟩))
        refine ej_callB call_len_seq rfl M.len boot_len (aj_cons (ej_dat 15 rfl (aj_nil (cj_lenL ⟨_, _, rfl, .dat _, oj_b0 ⟨_, _, rfl, rfl, _, rfl, ?_, rfl⟩⟩))))
        rw [List.length_map]
        exact dup_iff hc1 hc2
    · have e : okAt ss ly' h = false := by
        cases q : okAt ss ly' h with
        | false => rfl
        | true => rw [q] at hk; cases hk
      rw [e] at inv
      rw [← inv] at k
      exact ssj_sub (ν := []) (List.nil_sublist _) (ssj_one (sj_ret (ej_bl k)))
    · have e : okAt ss ly' h = true := by
        cases q : okAt ss ly' h with
        | true => rfl
        | false => rw [q] at hk; cases hk
      rw [e] at inv
      refine ssj_nil ⟨ly', _, _, _, rfl, rfl, ?_, inv⟩
      simp at hml
      omega
  · rintro Γ2 μ2 ⟨ly, a, b, c, rfl, rfl, hly, inv⟩
    rw [List.drop_length] at inv
    rw [← inv] at k
    refine ssj_sub (ν := []) (List.nil_sublist _) (ssj_one (sj_ret (ej_bl k)))
end
end K43

set_option maxHeartbeats 4000000
/-! K17: the box. -/
namespace K43
open PySem PySem.Spec PyProof.Rows L2
abbrev sBox : Stmt := top 12
abbrev sTake : Stmt := top 13
abbrev sFolded : Stmt := top 14
structure Bx where
  big : Int
  seed : Int
  cnt : Int
def boxD (b : Bx) : D := .lst [.int b.big, .int b.seed, .int b.cnt]
structure Bok (b : Bx) : Prop where
  s0 : 0 ≤ b.seed
  s1 : b.seed < 2147483648
  c0 : 0 ≤ b.cnt

theorem ite01 (b : Bool) : -(2 ^ 64) < (if b = true then (1 : Int) else 0) ∧ (if b = true then (1 : Int) else 0) < 2 ^ 64 := by cases b <;> decide

section
variable {P : Program} {w : World} {K : PySem.W.Frag} {mg : Str → Option Value} {base : Heap} {B : Tb}
def aTake : Ab := fun as μ P => ∃ a b s, as = [.val (.ref a), .dat (.int s)] ∧ μ = [(a, boxD b)] ∧ Bok b ∧ b.cnt < 1000000 ∧ 1 ≤ s ∧ s < 1073741824 ∧ ∀ r b', 0 ≤ r → r < s → Bok b' → b'.cnt ≤ b.cnt + 1 → P (.dat (.int r)) [(a, boxD b')]
abbrev nTake : List Str := ["_law_box_here", "_law_size", "_law_found", "_law_step", "_law_once", "_law_twice"]
theorem scTake : FnScope nTake ["_law_box_here", "_law_size"] (defScope sTake) := ⟨rfl, rfl, rfl, by decide +kernel, rfl, by decide +kernel, by decide +kernel⟩
theorem df_take {f : Addr} {fd : FuncData} (F : Fun K "_law_take" "_law_take" sTake f fd) (hm : mg "_law_take" = some (.ref f)) (M : Bn mg) : Df P w K mg base B "_law_take" 1 ["_law_box_here", "_law_size"] aTake := by
  refine df_mk F scTake (fun as μ p q h ⟨a, b, s, k1, k2, k3, k4, k5, k6, k⟩ => ⟨a, b, s, k1, k2, k3, k4, k5, k6, fun r b' h1 h2 h3 h4 => h _ _ (k r b' h1 h2 h3 h4)⟩) hm (F.binds fun _ _ _ _ _ _ us hl => match us, hl with | [_, _], _ => rfl) (fun as μ P ⟨_, d, e, h, _⟩ => by rw [h]; rfl) ?_
  rintro cdv A outer s H E as μ Pp _ hr ⟨a, b, sz, rfl, rfl, ok, hc, h1, h2, k⟩
  refine ssj_cons (sj_ifP (k := decide (0 < b.big)) (tj_cmp op_gt rfl (ej_ix ix_list (fun _ _ => rfl) (ej_val 0 rfl (ej_int (oj_ixL ⟨_, _, _, .mem (j := 0) rfl, rfl, rfl, ej_int (oj_b0 ⟨_, _, rfl, rfl, _, rfl, rfl, rfl⟩)⟩))))) (fun hk => ?_) fun hk => ?_)
  · refine ssj_cons (sj_asg ?_)
    refine ej_callB call_divmod rfl M.divmod rfl (aj_cons (ej_ix ix_list (fun _ _ => rfl) (ej_val 0 rfl (ej_int (oj_ixL ⟨_, _, _, .mem (j := 0) rfl, rfl, rfl, aj_cons (ej_dat 1 rfl (aj_nil (cj_divmod ⟨_, _, rfl, ⟨by omega, h2⟩, ?_⟩)))⟩)))))
    refine gj_tup rfl rfl (gsj_cons (gj_set (ej_val 0 rfl (ej_int ⟨0, a, _, 0, 0, _, rfl, rfl, rfl, rfl, rfl, ?_⟩))))
    refine gsj_cons (gj_name 2 (gsj_nil ?_) scTake.nd)
    refine ssj_one (sj_ret (ej_dat 2 rfl ?_))
    exact k (b.big % sz) { b with big := b.big / sz } (Int.emod_nonneg _ (by omega)) (Int.emod_lt_of_pos _ (by omega)) ⟨ok.s0, ok.s1, ok.c0⟩ (by show b.cnt ≤ _; omega)
  · have hc0 := ok.c0
    refine ssj_nil (ssj_cons (sj_asg ?_))
    refine ej_bin op_add (ej_ix ix_list (fun _ _ => rfl) (ej_val 0 rfl (ej_int (oj_ixL ⟨_, _, _, .mem (j := 0) rfl, rfl, rfl, ej_int (oj_i0 ⟨_, _, rfl, rfl, ?_⟩)⟩))))
    refine gj_set (ej_val 0 rfl (ej_int ⟨0, a, _, 2, 2, _, rfl, rfl, rfl, rfl, rfl, ?_⟩))
    -- step
    refine ssj_cons (sj_set 3 ?_ scTake.nd)
    refine ej_bin op_add (ej_int (ej_bin op_mul (ej_ix ix_list (fun _ _ => rfl) (ej_val 0 rfl (ej_int (oj_ixL ⟨_, _, _, .mem (j := 0) rfl, rfl, rfl, ej_ix ix_list (fun _ _ => rfl) (ej_val 0 rfl (ej_int (oj_ixL ⟨_, _, _, .mem (j := 0) rfl, rfl, rfl, oj_iC ⟨_, _, rfl, rfl, .inl ⟨by omega, by omega⟩, oj_i0 ⟨_, _, rfl, rfl, ?_⟩⟩⟩)))⟩))))))
    have q1 : 0 ≤ (b.cnt + 1) * (b.cnt + 1) := Int.mul_nonneg (by omega) (by omega)
    generalize (b.cnt + 1) * (b.cnt + 1) = cc at *
    -- once
    refine ssj_cons (sj_set 4 ?_ scTake.nd)
    refine ej_bin op_mod (ej_bin op_mul (ej_bin op_add (ej_ix ix_list (fun _ _ => rfl) (ej_val 0 rfl (ej_int (oj_ixL ⟨_, _, _, .mem (j := 0) rfl, rfl, rfl, ?_⟩))))))
    refine ej_bin op_mul (ej_int (ej_ix ix_list (fun _ _ => rfl) (ej_val 0 rfl (ej_int (oj_ixL ⟨_, _, _, .mem (j := 0) rfl, rfl, rfl, oj_iC ⟨_, _, rfl, rfl, .inl ⟨by omega, by omega⟩, oj_i0 ⟨_, _, rfl, rfl, ?_⟩⟩⟩)))))
    have s0 := ok.s0
    have s1 := ok.s1
    refine ej_dat 3 rfl (oj_iC ⟨_, _, rfl, rfl, .inl ⟨by omega, by omega⟩, ej_int (oj_iC ⟨_, _, rfl, rfl, by decide, ?_⟩)⟩)
    have o0 := Int.emod_nonneg ((b.seed + 39373 * (b.cnt + 1)) * (69621 + cc)) (b := 2147483587) (by decide)
    have o1 := Int.emod_lt_of_pos ((b.seed + 39373 * (b.cnt + 1)) * (69621 + cc)) (b := 2147483587) (by decide)
    generalize (b.seed + 39373 * (b.cnt + 1)) * (69621 + cc) % 2147483587 = once at *
    -- twice
    refine ssj_cons (sj_set 5 ?_ scTake.nd)
    refine ej_bin op_mod ?_
    refine ej_bin op_add ?_
    refine ej_bin op_mul ?_
    refine ej_dat 4 rfl ?_
    refine ej_bin op_add ?_
    refine ej_bin op_mod ?_
    refine ej_dat 4 rfl (ej_int (oj_iC ⟨_, _, rfl, rfl, by decide, ?_⟩))
    refine ej_int (oj_i0 ⟨_, _, rfl, rfl, ?_⟩)
    refine oj_iC ⟨_, _, rfl, rfl, .inl ⟨by omega, by omega⟩, ?_⟩
    refine ej_ix ix_list (fun _ _ => rfl) ?_
    refine ej_val 0 rfl (ej_int (oj_ixL ⟨_, _, _, .mem (j := 0) rfl, rfl, rfl, ?_⟩))
    refine oj_i0 ⟨_, _, rfl, rfl, ?_⟩
    refine ej_int (oj_iC ⟨_, _, rfl, rfl, by decide, ?_⟩)
    have t0 := Int.emod_nonneg (once * (once % 30011 + 5) + (b.cnt + 1)) (b := 2147483563) (by decide)
    have t1 := Int.emod_lt_of_pos (once * (once % 30011 + 5) + (b.cnt + 1)) (b := 2147483563) (by decide)
    generalize (once * (once % 30011 + 5) + (b.cnt + 1)) % 2147483563 = twice at *
    refine ssj_one (sj_ret ?_)
    refine ej_bin op_mod ?_
    refine ej_bin op_fdiv ?_
    refine ej_bin op_mod ?_
    refine ej_bin op_mul ?_
    refine ej_dat 5 rfl ?_
    refine ej_bin op_add ?_
    refine ej_bin op_mod ?_
    refine ej_dat 5 rfl (ej_int (oj_iC ⟨_, _, rfl, rfl, by decide, ?_⟩))
    refine ej_int (oj_i0 ⟨_, _, rfl, rfl, ?_⟩)
    refine oj_iC ⟨_, _, rfl, rfl, .inl ⟨by omega, by omega⟩, ?_⟩
    refine ej_int (oj_iC ⟨_, _, rfl, rfl, by decide, ?_⟩)
    refine ej_int (oj_iC ⟨_, _, rfl, rfl, ⟨by decide, by decide⟩, ?_⟩)
    refine ej_dat 1 rfl (oj_iC ⟨_, _, rfl, rfl, ?_, ?_⟩)
    · show (0 : Int) < sz
      omega
    exact k _ { b with cnt := b.cnt + 1 } (Int.emod_nonneg _ (by omega)) (Int.emod_lt_of_pos _ (by omega)) ⟨ok.s0, ok.s1, by show 0 ≤ b.cnt + 1; omega⟩ (Int.le_refl _)

def aBox : Ab := fun as μ P => ∃ (ns : List Int) (k : Nat), as = [.dat (.lst (ns.map .int)), .dat (.int (k : Int))] ∧ μ = [] ∧ k ≤ 100 ∧ ∀ p b, Bok b → b.cnt = 0 → P (.val (.ref p)) [(p, boxD b)]
abbrev nBox : List Str := ["_law_script", "_law_k", "_law_cell"]
theorem scBox : FnScope nBox ["_law_script", "_law_k"] (defScope sBox) := ⟨rfl, rfl, rfl, by decide +kernel, rfl, by decide +kernel, by decide +kernel⟩
theorem df_box {f : Addr} {fd : FuncData} (F : Fun K "_law_box" "_law_box" sBox f fd) (hm : mg "_law_box" = some (.ref f)) (M : Bn mg) : Df P w K mg base B "_law_box" 1 ["_law_script", "_law_k"] aBox := by
  refine df_mk F scBox (fun as μ p q h ⟨a, b, k1, k2, k3, k⟩ => ⟨a, b, k1, k2, k3, fun r b' h1 h2 => h _ _ (k r b' h1 h2)⟩) hm (F.binds fun _ _ _ _ _ _ us hl => match us, hl with | [_, _], _ => rfl) (fun as μ P ⟨_, d, e, _⟩ => by rw [e]; rfl) ?_
  rintro cdv A outer s H E as μ Pp _ hr ⟨ns, kk, rfl, rfl, hk, k⟩
  have key : ∀ c : Int, SsJ (cxOf CX0 P w K mg base nBox "_law_box" (defScope sBox) f cdv A outer s H E).nox B ((defBody sBox).drop 1) [.dat (.lst (ns.map .int)), .dat (.int (kk : Int)), .dat (.int c)] [] { nx := fun _ μ' => Pp (.dat .non) μ', rt := Pp } := fun c => by
    refine ssj_one (sj_ret (ej_lstM ?_))
    refine aj_cons ?_
    refine ej_bin op_mul ?_
    refine ej_callB call_abs rfl M.abs rfl (aj_cons (ej_dat 2 rfl (aj_nil (cj_abs ⟨_, rfl, ?_⟩))))
    refine ej_callTy call_int1 rfl M.int rfl (aj_cons ?_)
    refine ej_cmp op_ge rfl ?_
    refine ej_callB call_abs rfl M.abs rfl (aj_cons (ej_dat 2 rfl (aj_nil (cj_abs ⟨_, rfl, ?_⟩))))
    refine ej_bin op_pow ?_
    refine ej_int (ej_int (oj_iC ⟨_, _, rfl, rfl, ⟨by decide, by decide, by decide⟩, ?_⟩))
    refine oj_b0 ⟨_, _, rfl, rfl, ?_⟩
    refine aj_nil (cj_int ⟨_, rfl, ?_⟩)
    refine oj_iC ⟨_, _, rfl, rfl, .inr (ite01 _), ?_⟩
    refine aj_cons ?_
    refine ej_bin op_mod ?_
    refine ej_bin op_mul ?_
    refine ej_bin op_add ?_
    refine ej_bin op_add ?_
    refine ej_bin op_mod ?_
    refine ej_dat 2 rfl (ej_int (oj_iC ⟨_, _, rfl, rfl, by decide, ?_⟩))
    refine ej_bin op_mul ?_
    refine ej_int (ej_dat 1 rfl (oj_iC ⟨_, _, rfl, rfl, .inl ⟨by decide, by decide⟩, ?_⟩))
    refine oj_i0 ⟨_, _, rfl, rfl, ?_⟩
    refine ej_int (oj_i0 ⟨_, _, rfl, rfl, ?_⟩)
    refine ej_int (oj_iC ⟨_, _, rfl, rfl, .inr ⟨by decide, by decide⟩, ?_⟩)
    refine ej_int (oj_iC ⟨_, _, rfl, rfl, by decide, ?_⟩)
    refine aj_cons (ej_int (aj_nil ⟨_, rfl, z3, fun p => ?_⟩))
    refine k p ⟨_, _, 0⟩ ⟨Int.emod_nonneg _ (by decide), ?_, Int.le_refl _⟩ rfl
    exact Int.lt_trans (Int.emod_lt_of_pos _ (by decide)) (by decide)
  refine ssj_cons (sj_set 2 (ej_if ?_) scBox.nd)
  refine tj_cmp op_lt rfl (ej_dat 1 rfl ?_)
  refine ej_callB call_len_seq rfl M.len boot_len (aj_cons (ej_dat 0 rfl (aj_nil (cj_lenL ⟨_, _, rfl, .dat _, ?_⟩))))
  refine oj_b0 ⟨_, _, rfl, rfl, _, rfl, ?_⟩
  rw [List.length_map]
  by_cases h : kk < ns.length
  · rw [decide_eq_true (by omega)]
    refine ej_ix ix_list (fun _ _ => rfl) (ej_dat 0 rfl (ej_dat 1 rfl (oj_ixL ⟨_, _, .int ns[kk], .dat _, rfl, ?_, ?_⟩)))
    · refine atI_nat ?_
      rw [List.getElem?_map, List.getElem?_eq_getElem h]
      rfl
    · exact key _
  · rw [decide_eq_false (by omega)]
    exact ej_int (key 0)

/-! _law_folded -/
theorem cutD_take (ns : List Int) : cutD ns none (some 2) = ns.take 2 := by
  unfold cutD
  have e1 : HT.sIx ns.length 0 none = 0 := rfl
  have e2 : HT.sIx ns.length ns.length (some 2) = min 2 ns.length := HT.sIx_nat _ _ 2
  rw [e1, e2]
  simp
theorem cutD_mid (ns : List Int) : (cutD ns (some 2) (some 63)).length ≤ 61 ∧ (0 < (cutD ns (some 2) (some 63)).length → 2 ≤ ns.length) := by
  unfold cutD
  have e1 : HT.sIx ns.length 0 (some 2) = min 2 ns.length := HT.sIx_nat _ _ 2
  have e2 : HT.sIx ns.length ns.length (some 63) = min 63 ns.length := HT.sIx_nat _ _ 63
  rw [e1, e2, List.length_take, List.length_drop]
  omega
def aFolded : Ab := fun as μ P => ∃ (ns : List Int), as = [.dat (.scr ns), .dat (.int 2)] ∧ μ = [] ∧ ∀ ms : List Int, ms.length ≤ 2 → P (.dat (.lst (ms.map .int))) []
abbrev nFolded : List Str := ["_law_script", "_law_size", "_law_cells", "_law_k", "_law_cell"]
theorem scFolded : FnScope nFolded ["_law_script", "_law_size"] (defScope sFolded) := ⟨rfl, rfl, rfl, by decide +kernel, rfl, by decide +kernel, by decide +kernel⟩
theorem df_folded {f : Addr} {fd : FuncData} (F : Fun K "_law_folded" "_law_folded" sFolded f fd) (hm : mg "_law_folded" = some (.ref f)) (M : Bn mg) : Df P w K mg base B "_law_folded" 1 ["_law_script", "_law_size"] aFolded := by
  refine df_mk F scFolded (fun as μ p q h ⟨a, k1, k2, k⟩ => ⟨a, k1, k2, fun r h1 => h _ _ (k r h1)⟩) hm (F.binds fun _ _ _ _ _ _ us hl => match us, hl with | [_, _], _ => rfl) (fun as μ P ⟨_, d, e, _⟩ => by rw [d]; rfl) ?_
  rintro cdv A outer s H E as μ Pp _ hr ⟨ns, rfl, rfl, k⟩
  refine ssj_cons (sj_set 2 ?_ scFolded.nd)
  refine ej_callTy call_list_of rfl M.list rfl (aj_cons ?_)
  refine ej_slice sl_list ?_
  refine ej_dat 0 rfl (opj_none (opj_some (ej_dat 1 rfl ⟨_, rfl, ?_⟩)))
  refine slj_scr ⟨_, rfl, ?_⟩
  refine aj_nil (cj_listM ⟨_, _, rfl, .dat _, fun p => ?_⟩)
  rw [cutD_take]
  obtain ⟨m1, m2⟩ := cutD_mid ns
  refine ssj_cons (sj_for PassesOwn.never (fun ds i Γ μ => ds = enumD ((cutD ns (some 2) (some 63)).map .int) ∧ ∃ (ms : List Int) (a b : AV), Γ = [.dat (.scr ns), .dat (.int 2), .val (.ref p), a, b] ∧ μ = [(p, .lst (ms.map .int))] ∧ ms.length = (ns.take 2).length) (ij_enum M.enumerate ?_))
  refine ej_slice sl_list ?_
  refine ej_dat 0 rfl (opj_some (ej_dat 1 rfl ⟨_, rfl, opj_some (ej_int ⟨_, rfl, slj_scr ⟨_, rfl, ?_⟩⟩)⟩))
  refine ⟨_, rfl, ⟨rfl, ns.take 2, _, _, rfl, rfl, rfl⟩, ?_, ?_⟩
  · rintro i d Γ2 μ2 hd ⟨_, ms, a, b, rfl, rfl, hl⟩
    have hi : i < (cutD ns (some 2) (some 63)).length := by
      have := (List.getElem?_eq_some_iff.mp hd).1
      rw [enumD_len, List.length_map] at this
      exact this
    have h2 : ms.length = 2 := by
      have := m2 (by omega)
      rw [hl, List.length_take]
      omega
    have e1 : ((cutD ns (some 2) (some 63)).map D.int)[i]? = some (.int (cutD ns (some 2) (some 63))[i]) := by rw [List.getElem?_map, List.getElem?_eq_getElem hi]; rfl
    rw [enumD_get e1] at hd
    cases hd
    generalize (cutD ns (some 2) (some 63))[i] = c
    refine gj_tup rfl rfl (gsj_cons (gj_name 3 (gsj_cons (gj_name 4 (gsj_nil ?_) scFolded.nd) ) scFolded.nd))
    have r0 := Int.emod_nonneg (i : Int) (b := 2) (by decide)
    have r1 := Int.emod_lt_of_pos (i : Int) (b := 2) (by decide)
    obtain ⟨j, hj⟩ := Int.eq_ofNat_of_zero_le r0
    have hj2 : j < ms.length := by omega
    have hat : atI (ms.map D.int) ((i : Int) % 2) = some (.int ms[j]) := by
      rw [hj]
      refine atI_nat ?_
      rw [List.getElem?_map, List.getElem?_eq_getElem hj2]
      rfl
    refine ssj_one (sj_asg ?_)
    refine ej_bin op_add ?_
    refine ej_ix ix_list (fun _ _ => rfl) ?_
    refine ej_val 2 rfl ?_
    refine ej_bin op_mod ?_
    refine ej_dat 3 rfl (ej_dat 1 rfl (oj_iC ⟨_, _, rfl, rfl, by decide, ?_⟩))
    refine oj_ixL ⟨_, _, _, .mem (j := 0) rfl, rfl, hat, ?_⟩
    refine ej_bin op_mul ?_
    refine ej_dat 4 rfl ?_
    refine ej_bin op_add ?_
    refine ej_dat 3 rfl (ej_int (oj_i0 ⟨_, _, rfl, rfl, ?_⟩))
    refine oj_iC ⟨_, _, rfl, rfl, .inr ⟨by omega, by omega⟩, ?_⟩
    refine oj_i0 ⟨_, _, rfl, rfl, ?_⟩
    refine gj_set (ej_val 2 rfl ?_)
    refine ej_bin op_mod ?_
    refine ej_dat 3 rfl (ej_dat 1 rfl (oj_iC ⟨_, _, rfl, rfl, by decide, ?_⟩))
    refine ⟨0, p, _, _, j, _, rfl, rfl, rfl, rfl, ?_, ?_⟩
    · unfold ixN
      rw [hj, if_pos (by omega), List.length_map, if_pos (by omega)]
      simp
    · refine ⟨rfl, ms.set j (ms[j] + c * ((i : Int) + 2)), _, _, rfl, ?_, ?_⟩
      · rw [List.map_set]
        rfl
      · rw [List.length_set]
        exact hl
  · rintro Γ2 μ2 ⟨_, ms, a, b, rfl, rfl, hl⟩
    refine ssj_freeze (μ := []) 2 rfl (ssj_one (sj_ret (ej_dat 2 rfl (k ms ?_))))
    rw [hl, List.length_take]
    omega
end
end K43

set_option maxHeartbeats 4000000
/-! K18: names. -/
namespace K43
open PySem PySem.Spec PyProof.Rows L2
abbrev sNames : Stmt := top 15
/-- the box, n takes at most behind it -/
structure BxN (n : Int) (b : Bx) : Prop where
  ok : Bok b
  le : b.cnt ≤ n
theorem BxN.mono {n m : Int} {b : Bx} (h : BxN n b) (q : n ≤ m) : BxN m b := ⟨h.ok, Int.le_trans h.le q⟩
section
variable {X : Cx} {B : Tb} {Γ : List AV} {μ : Mem} {P : AV → Mem → Prop} {e e2 : Expr} {pos p : Pos}
theorem ej_take {k : Nat} (F : Df X.prog X.w X.K X.mg X.base B "_law_take" 1 ["_law_box_here", "_law_size"] aTake) (hr : Room 1 X.A)
    (h : EJ X B e Γ μ fun r1 μ1 => EJ X B e2 Γ μ1 fun r2 μ2 => ∃ (a : Addr) (b : Bx) (s n : Int) (ν : Mem), r1 = .val (.ref a) ∧ r2 = .dat (.int s) ∧ μ2 = (a, boxD b) :: ν ∧ BxN n b ∧ n < 1000000 ∧ 1 ≤ s ∧ s < 1073741824 ∧ ∀ (r : Int) (b' : Bx), 0 ≤ r → r < s → BxN (n + 1) b' → P (.dat (.int r)) ((a, boxD b') :: ν))
    (hg : Gl X "_law_take" := by rfl) (he : starEach [e, e2] X.env = (false, eval e X.env) :: starEach [e2] X.env := by rfl) (he2 : starEach [e2] X.env = (false, eval e2 X.env) :: starEach [] X.env := by rfl) (hpl : (backTo pos (starEach [e2] X.env)).any (·.1) = false := by rfl) :
    EJ X B (.Call (.Name "_law_take" p) [e, e2] [] pos) Γ μ P :=
  ej_call F hr (aj_cons (h.mono fun r1 μ1 q => aj_cons (EJ.mono q fun r2 μ2 ⟨a, b, s, n, ν, e1, e2, e3, q1, q2, q3, q4, q5⟩ => aj_nil ⟨[(a, boxD b)], ν, by rw [e3]; rfl, a, b, s, by rw [e1, e2], rfl, q1.ok, by have := q1.le; omega, q3, q4, fun r b' h1 h2 h3 h4 => q5 r b' h1 h2 ⟨h3, by have := q1.le; omega⟩⟩) he2) he) hg (by decide) he hpl
end
/-! ### letters, words -/
def alphabet : Str := "abcdefghijklmnopqrstuvwxyz"
def letter (i : Int) : Str := ⟨#[97 + i.toNat]⟩
theorem alphabet_len : alphabet.length ≤ sizeLine := by decide +kernel
theorem alphabet_cps : alphabet.cps.toList = (List.range 26).map (97 + ·) := by decide +kernel
theorem alphabet_at {i : Int} (h0 : 0 ≤ i) (h1 : i < 26) : atI alphabet.cps.toList i = some (97 + i.toNat) := by
  obtain ⟨j, rfl⟩ := Int.eq_ofNat_of_zero_le h0
  refine atI_nat ?_
  rw [alphabet_cps, List.getElem?_map, List.getElem?_range (by omega)]
  rfl
def wordsL : List Str := ["mash", "draw", "mix", "rack", "spill", "sell", "return", "weaker", "running", "beer", "cask", "sold"]
/-- a name -/
structure Nm (x : Str) : Prop where
  ok : PyData.strOk x = true
  lo : 3 ≤ x.length
  hi : x.length ≤ 8
theorem words_nm : ∀ x ∈ wordsL, Nm x := by
  have h : wordsL.all (fun x => PyData.strOk x && decide (3 ≤ x.length) && decide (x.length ≤ 8)) = true := by decide +kernel
  intro x hx
  have := List.all_eq_true.mp h x hx
  simp only [Bool.and_eq_true, decide_eq_true_eq] at this
  exact ⟨this.1.1, this.1.2, this.2⟩
theorem words_no : ∀ x ∈ wordsL, x.cps.toList.drop 2 ≠ [113, 120, 122] := by
  have h : wordsL.all (fun x => decide (x.cps.toList.drop 2 ≠ [113, 120, 122])) = true := by decide +kernel
  intro x hx
  exact of_decide_eq_true (List.all_eq_true.mp h x hx)
theorem strOk_of {x : Str} (h : ∀ c ∈ x.cps.toList, c < 1114112) : PyData.strOk x = true := by
  unfold PyData.strOk
  rw [← Array.all_toList]
  exact List.all_eq_true.mpr fun c hc => decide_eq_true (h c hc)
/-- the text of a prefix and a tail -/
def nameOf (own : Int) (tail : Str) : Str := letter (own / 26) ++ letter (own % 26) ++ tail
theorem app_cps (a b : Str) : (a ++ b).cps.toList = a.cps.toList ++ b.cps.toList := by
  show (a.cps ++ b.cps).toList = _
  simp
theorem app_len (a b : Str) : (a ++ b).length = a.length + b.length := by
  show (a.cps ++ b.cps).size = _
  simp
  rfl
theorem nameOf_cps (own : Int) (tail : Str) : (nameOf own tail).cps.toList = (97 + (own / 26).toNat) :: (97 + (own % 26).toNat) :: tail.cps.toList := by
  unfold nameOf
  rw [app_cps, app_cps]
  rfl
theorem len_cps (x : Str) : x.length = x.cps.toList.length := by
  show x.cps.size = _
  simp
def oneLetters (cs : List Int) : List Str := cs.map letter
theorem join_cps : ∀ ys : List Str, (Str.join "" ys).cps.toList = (ys.map (·.cps.toList)).flatten
  | [] => rfl
  | [x] => by simp [Str.join]
  | x :: y :: r => by
    have ih := join_cps (y :: r)
    show (x ++ "" ++ Str.join "" (y :: r)).cps.toList = _
    rw [app_cps, app_cps, ih, List.map_cons, List.flatten_cons]
    show x.cps.toList ++ [] ++ _ = _
    simp
theorem tail_cps (cs : List Int) : (Txt.join "" (oneLetters cs)).cps.toList = cs.map fun c => 97 + c.toNat := by
  rw [TL.join_eq, join_cps]
  unfold oneLetters
  rw [List.map_map]
  induction cs with
  | nil => rfl
  | cons c cs ih => rw [List.map_cons, List.flatten_cons, ih]; rfl
theorem sum_ones : ∀ cs : List Int, (cs.map ((fun x : Str => x.length) ∘ letter)).sum = cs.length
  | [] => rfl
  | c :: cs => by
    rw [List.map_cons, List.sum_cons, sum_ones cs, List.length_cons]
    show 1 + cs.length = _
    omega
theorem tail_len (cs : List Int) : (Txt.join "" (oneLetters cs)).length = cs.length := by
  rw [len_cps, tail_cps, List.length_map]
theorem nm_of {own : Int} {tail : Str} (h0 : 0 ≤ own) (h1 : own < 676) (t0 : 1 ≤ tail.length) (t1 : tail.length ≤ 6) (tc : ∀ c ∈ tail.cps.toList, c < 1114112) : Nm (nameOf own tail) := by
  have e := nameOf_cps own tail
  refine ⟨strOk_of fun c hc => ?_, ?_, ?_⟩
  · rw [e] at hc
    rcases List.mem_cons.mp hc with rfl | hc
    · omega
    rcases List.mem_cons.mp hc with rfl | hc
    · omega
    · exact tc c hc
  · rw [len_cps, e, List.length_cons, List.length_cons, ← len_cps]
    omega
  · rw [len_cps, e, List.length_cons, List.length_cons, ← len_cps]
    omega
def ownOf (first step : Int) (k : Nat) : Int := (first + step * (k : Int)) % 676
def stepsL : List Int := [1, 3, 5, 7, 27, 101]
theorem steps_at {r : Int} (h0 : 0 ≤ r) (h1 : r < 6) : ∃ st, atI (stepsL.map D.int) r = some (.int st) ∧ st ∈ stepsL := by
  have : r = 0 ∨ r = 1 ∨ r = 2 ∨ r = 3 ∨ r = 4 ∨ r = 5 := by omega
  rcases this with rfl | rfl | rfl | rfl | rfl | rfl
  · exact ⟨1, rfl, by decide⟩
  · exact ⟨3, rfl, by decide⟩
  · exact ⟨5, rfl, by decide⟩
  · exact ⟨7, rfl, by decide⟩
  · exact ⟨27, rfl, by decide⟩
  · exact ⟨101, rfl, by decide⟩
theorem own_inj {first step : Int} {j k : Nat} (hs : step ∈ stepsL) (hj : j < k) (hk : k < 12) (h : ownOf first step j = ownOf first step k) : False := by
  unfold ownOf at h
  unfold stepsL at hs
  simp at hs
  rcases hs with rfl | rfl | rfl | rfl | rfl | rfl <;> omega
/-- what a name made ahead may be -/
def Made (first step : Int) (i : Nat) (x : Str) : Prop := (∃ (j : Nat) (t : Str), j < i ∧ x = nameOf (ownOf first step j) t) ∨ x ∈ wordsL
def qxz : Str := "qxz"
theorem qxz_cps : qxz.cps.toList = [113, 120, 122] := by decide +kernel
theorem fresh_name {first step : Int} {i : Nat} {xs : List Str} (hs : step ∈ stepsL) (hi : i < 12) (h : ∀ x ∈ xs, Made first step i x) : nameOf (ownOf first step i) qxz ∉ xs := fun hm => by
  have o0 : 0 ≤ ownOf first step i := Int.emod_nonneg _ (by decide)
  rcases h _ hm with ⟨j, t, hj, e⟩ | hw
  · have o1 : 0 ≤ ownOf first step j := Int.emod_nonneg _ (by decide)
    have e2 := congrArg (fun x : Str => x.cps.toList) e
    simp only [nameOf_cps] at e2
    injection e2 with a1 a2
    injection a2 with a3 a4
    refine own_inj (first := first) hs hj hi ?_
    omega
  · refine words_no _ hw ?_
    rw [nameOf_cps, qxz_cps]
    rfl

section
variable {P : Program} {w : World} {K : PySem.W.Frag} {mg : Str → Option Value} {base : Heap} {B : Tb}
def aNames : Ab := fun as μ P => ∃ (a : Addr) (b : Bx) (m : Nat) (n : Int), as = [.val (.ref a), .dat (.int (m : Int))] ∧ μ = [(a, boxD b)] ∧ BxN n b ∧ n < 900000 ∧ 1 ≤ m ∧ m ≤ 12 ∧
  ∀ (xs : List Str) (b' : Bx), xs.length = m → xs.Nodup → (∀ x ∈ xs, Nm x) → BxN (n + 200) b' → P (.dat (.lst (xs.map .str))) [(a, boxD b')]
abbrev nNames : List Str := ["_law_box_here", "_law_many", "_law_letters", "_law_found", "_law_first", "_law_step", "_law_words", "_law_k", "_law_own", "_law_turn", "_law_tail", "_law_name"]
theorem scNames : FnScope nNames ["_law_box_here", "_law_many"] (defScope sNames) := ⟨rfl, rfl, rfl, by decide +kernel, rfl, by decide +kernel, by decide +kernel⟩
theorem df_names {f : Addr} {fd : FuncData} (F : Fun K "_law_names" "_law_names" sNames f fd) (hm : mg "_law_names" = some (.ref f)) (M : Bn mg) (DT : Df P w K mg base B "_law_take" 1 ["_law_box_here", "_law_size"] aTake) : Df P w K mg base B "_law_names" 2 ["_law_box_here", "_law_many"] aNames := by
  refine df_mk F scNames (fun as μ p q h ⟨a, b, m, n, k1, k2, k3, k4, k5, k6, k⟩ => ⟨a, b, m, n, k1, k2, k3, k4, k5, k6, fun r b' h1 h2 h3 h4 => h _ _ (k r b' h1 h2 h3 h4)⟩) hm (F.binds fun _ _ _ _ _ _ us hl => match us, hl with | [_, _], _ => rfl) (fun as μ P ⟨_, d, e, _, q, _⟩ => by rw [q]; rfl) ?_
  rintro cdv A outer s H E as μ Pp _ hr ⟨a, b, m, n, rfl, rfl, hb, hn, hm1, hm2, k⟩
  refine ssj_cons (sj_parT (n := 2) (aj_cons (ej_str (aj_cons (ej_lstM (aj_nil ⟨[], rfl, z0, fun p => aj_nil ⟨rfl, ?_⟩⟩))))) z2)
  refine gsj_cons (gj_name 2 (gsj_cons (gj_name 3 (gsj_nil ?_) scNames.nd)) scNames.nd)
  refine ssj_cons (sj_par (i := 4) (j := 5) scNames.nd (by decide) ?_)
  refine aj_cons (ej_take (k := 0) DT hr (ej_val 0 rfl (ej_int ⟨a, b, _, n, [(p, .lst [])], rfl, rfl, rfl, hb, by omega, by decide, by decide, fun first b1 f0 f1 hb1 => ?_⟩)))
  refine aj_cons ?_
  refine ej_ix ix_list (fun _ _ => rfl) ?_
  refine ej_lst ?_
  refine aj_cons (ej_int (aj_cons (ej_int (aj_cons (ej_int (aj_cons (ej_int (aj_cons (ej_int (aj_cons (ej_int (aj_nil ?_))))))))))))
  refine ⟨_, rfl, zM (by show 6 ≤ 1000000; decide), ?_⟩
  refine ej_take (k := 0) DT hr (ej_val 0 rfl (ej_int ⟨a, b1, _, n + 1, [(p, .lst [])], rfl, rfl, rfl, hb1, by omega, by decide, by decide, fun r b2 r0 r1 hb2 => ?_⟩))
  obtain ⟨step, hat, hst⟩ := steps_at r0 r1
  refine oj_ixL ⟨_, _, _, .dat _, rfl, hat, aj_nil ⟨_, _, rfl, ?_⟩⟩
  refine ssj_cons (sj_set 6 ?_ scNames.nd)
  refine ej_lst ?_
  refine aj_cons (ej_str (aj_cons (ej_str (aj_cons (ej_str (aj_cons (ej_str (aj_cons (ej_str (aj_cons (ej_str ?_)))))))))))
  refine aj_cons (ej_str (aj_cons (ej_str (aj_cons (ej_str (aj_cons (ej_str (aj_cons (ej_str (aj_cons (ej_str (aj_nil ?_))))))))))))
  refine ⟨_, rfl, zM (by show 12 ≤ 1000000; decide), ?_⟩
  refine ssj_cons (sj_for PassesOwn.never (fun ds i Γ μ => ds = rangeD 0 m ∧ ∃ (xs : List Str) (b' : Bx) (c1 c2 c3 c4 : AV), Γ = [.val (.ref a), .dat (.int (m : Int)), .dat (.str alphabet), .val (.ref p), .dat (.int first), .dat (.int step), .dat (.lst (wordsL.map .str)), c1, c2, .un, c3, c4] ∧ μ = [(a, boxD b'), (p, .lst (xs.map .str))] ∧
    xs.length = i ∧ xs.Nodup ∧ (∀ x ∈ xs, Nm x ∧ Made first step i x) ∧ BxN (n + 2 + i * 9) b') (ij_range1 M.range (ej_dat 1 rfl ⟨_, rfl, by omega, by omega, ⟨rfl, [], b2, _, _, _, _, rfl, rfl, rfl, List.nodup_nil, fun _ h => by simp at h, hb2.mono (by omega)⟩, ?_, ?_⟩)))
  · rintro i d Γ2 μ2 hd ⟨_, xs, b3, c1, c2, c3, c4, rfl, rfl, hxl, hxn, hxm, hb3⟩
    have hi : i < m := by
      have := (List.getElem?_eq_some_iff.mp hd).1
      rw [rangeD_len] at this
      exact this
    have e1 : (rangeD 0 ((m : Int)).toNat)[i]? = some (.int (0 + (i : Int))) := rangeD_get (by omega)
    rw [e1] at hd
    cases hd
    rw [Int.zero_add]
    refine gj_name 7 ?_ scNames.nd
    -- own
    refine ssj_cons (sj_set 8 ?_ scNames.nd)
    refine ej_bin op_mod ?_
    refine ej_bin op_add ?_
    refine ej_dat 4 rfl ?_
    refine ej_bin op_mul ?_
    refine ej_dat 5 rfl (ej_dat 7 rfl (oj_iC ⟨_, _, rfl, rfl, .inr ⟨by omega, by omega⟩, ?_⟩))
    refine oj_i0 ⟨_, _, rfl, rfl, ?_⟩
    refine ej_int (oj_iC ⟨_, _, rfl, rfl, by decide, ?_⟩)
    have o0 : 0 ≤ ownOf first step i := Int.emod_nonneg _ (by decide)
    have o1 : ownOf first step i < 676 := Int.emod_lt_of_pos _ (by decide)
    show SsJ _ _ _ _ _ _
    have eo : (first + step * (i : Int)) % 676 = ownOf first step i := rfl
    rw [eo]
    generalize hown : ownOf first step i = own at o0 o1
    -- tail
    refine ssj_cons (sj_set 10 ?_ scNames.nd)
    refine ej_bm PySem.F.plainAttrs_str PySem.F.slot_str_join PySem.F.type_str_join mt_join (ej_str ⟨.str _, aj_cons ?_⟩)
    refine ej_lc (own := [("_law_turn", 9)]) (fun ds j acc μ => ∃ (cs : List Int) (b' : Bx), μ = [(a, boxD b'), (p, .lst (xs.map .str))] ∧ ds.length ≤ 6 ∧ 1 ≤ ds.length ∧ BxN (n + 3 + i * 9 + j) b' ∧ acc = (oneLetters cs).map .str ∧ cs.length = j ∧ ∀ c ∈ cs, 0 ≤ c ∧ c < 26) scNames.nd (blkOk_by (N := nNames) (sc := defScope sNames) (by decide +kernel)) ?_
    refine ij_range1 M.range ?_
    refine ej_bin op_add ?_
    refine ej_int ?_
    refine ej_take (k := 0) DT hr (ej_val 0 rfl (ej_int ⟨a, b3, _, n + 2 + i * 9, [(p, .lst (xs.map .str))], rfl, rfl, rfl, hb3, by omega, by decide, by decide, fun tl b4 tl0 tl1 hb4 => ?_⟩))
    refine oj_i0 ⟨_, _, rfl, rfl, _, rfl, by omega, by omega, ?_⟩
    refine ⟨by rw [rangeD_len]; omega, ⟨[], b4, rfl, by rw [rangeD_len]; omega, by rw [rangeD_len]; omega, hb4.mono (by omega), rfl, rfl, fun _ h => by simp at h⟩, ?_, ?_⟩
    · rintro j d acc μ3 hd hacc ⟨cs, b5, rfl, hl6, hl1, hb5, rfl, hcl, hc26⟩
      have hj : j < 6 := by
        have := (List.getElem?_eq_some_iff.mp hd).1
        omega
      refine lct (fun s H C cl fp => ct_name 9 (by decide) scNames.nd) fun s H C cl fp => tsj_nil fun s H C cl fp => ?_
      refine ej_ix ix_str (fun _ _ => rfl) (ej_dat 2 rfl ?_)
      refine ej_take (k := 0) DT hr (ej_val 0 rfl (ej_int ⟨a, b5, _, n + 3 + i * 9 + j, [(p, .lst (xs.map .str))], rfl, rfl, rfl, hb5, by omega, by decide, by decide, fun c b6 c0 c1 hb6 => ?_⟩))
      refine oj_ixS ⟨_, _, _, rfl, rfl, alphabet_len, alphabet_at c0 c1, _, rfl, cs ++ [c], b6, rfl, hl6, hl1, hb6.mono (by omega), ?_, by simp [hcl], ?_⟩
      · unfold oneLetters
        rw [List.map_append, List.map_append]
        rfl
      · intro x hx
        rcases List.mem_append.mp hx with hx | hx
        · exact hc26 x hx
        · rw [List.mem_singleton.mp hx]
          exact ⟨c0, c1⟩
    rintro acc μ3 ⟨cs, b5, rfl, hl6, hl1, hb5, rfl, hcl, hc26⟩
    have hb5' : BxN (n + 9 + i * 9) b5 := hb5.mono (by omega)
    have hcl6 : cs.length ≤ 6 ∧ 1 ≤ cs.length := ⟨by omega, by omega⟩
    clear hb5 hcl hl6 hl1
    refine aj_nil (mj_join ⟨_, _, rfl, rfl, ?_, ?_⟩)
    · unfold oneLetters
      rw [List.map_map, List.length_map]
      rw [sum_ones]
      show cs.length + cs.length * 0 ≤ _
      omega
    have tl6 : 1 ≤ (Txt.join "" (oneLetters cs)).length ∧ (Txt.join "" (oneLetters cs)).length ≤ 6 := by
      rw [tail_len]
      omega
    have tlc : ∀ c ∈ (Txt.join "" (oneLetters cs)).cps.toList, c < 1114112 := by
      intro c hc
      rw [tail_cps] at hc
      obtain ⟨x, hx, rfl⟩ := List.mem_map.mp hc
      have := hc26 x hx
      omega
    generalize Txt.join "" (oneLetters cs) = tail at tl6 tlc
    have q0 : 0 ≤ own / 26 := by omega
    have q1 : own / 26 < 26 := by omega
    have r0' : 0 ≤ own % 26 := by omega
    have r1' : own % 26 < 26 := by omega
    -- name
    refine ssj_cons (sj_set 11 ?_ scNames.nd)
    refine ej_bin op_add_str ?_
    refine ej_bin op_add_str ?_
    refine ej_ix ix_str (fun _ _ => rfl) (ej_dat 2 rfl ?_)
    refine ej_bin op_fdiv ?_
    refine ej_dat 8 rfl (ej_int (oj_iC ⟨_, _, rfl, rfl, ⟨by decide, by decide⟩, oj_ixS ⟨_, _, _, rfl, rfl, alphabet_len, alphabet_at q0 q1, ?_⟩⟩))
    refine ej_ix ix_str (fun _ _ => rfl) (ej_dat 2 rfl ?_)
    refine ej_bin op_mod ?_
    refine ej_dat 8 rfl (ej_int (oj_iC ⟨_, _, rfl, rfl, by decide, oj_ixS ⟨_, _, _, rfl, rfl, alphabet_len, alphabet_at r0' r1', ?_⟩⟩))
    refine oj_addS ⟨_, _, rfl, rfl, z2, ?_⟩
    refine ej_dat 10 rfl (oj_addS ⟨_, _, rfl, rfl, ?_, ?_⟩)
    · rw [app_len]
      show 1 + 1 + tail.length ≤ _
      have : tail.length ≤ 6 := tl6.2
      exact zM (by omega)
    have nm1 : Nm (nameOf own tail) := nm_of o0 o1 tl6.1 tl6.2 tlc
    have md1 : Made first step (i + 1) (nameOf own tail) := .inl ⟨i, tail, by omega, by rw [hown]⟩
    have hm13 : decide ((m : Int) < 13) = true := decide_eq_true (by omega)
    refine ssj_cons (sj_mid (fun Γ1 μ1 => ∃ (x : Str) (b' : Bx), Γ1 = [.val (.ref a), .dat (.int (m : Int)), .dat (.str alphabet), .val (.ref p), .dat (.int first), .dat (.int step), .dat (.lst (wordsL.map .str)), .dat (.int (i : Int)), .dat (.int own), .un, .dat (.str tail), .dat (.str x)] ∧ μ1 = [(a, boxD b'), (p, .lst (xs.map .str))] ∧ Nm x ∧ Made first step (i + 1) x ∧ BxN (n + 10 + i * 9) b') (sj_if (tj_w (wj_and ?_))) ?_)
    · refine tj_cmp op_lt rfl (ej_dat 1 rfl (ej_int (oj_b0 ⟨_, _, rfl, rfl, _, rfl, ?_⟩)))
      rw [hm13]
      refine wj_and1 (tj_cmp op_eq rfl ?_)
      refine ej_take (k := 0) DT hr (ej_val 0 rfl (ej_int ⟨a, b5, _, n + 9 + i * 9, [(p, .lst (xs.map .str))], rfl, rfl, rfl, hb5', by omega, by decide, by decide, fun r b6 r0 r1 hb6 => ?_⟩))
      refine ej_int (oj_eq ⟨_, _, _, _, rfl, rfl, rfl, rfl, rfl, _, rfl, ?_⟩)
      have hb6' : BxN (n + 10 + i * 9) b6 := hb6.mono (by omega)
      cases decide (V.int r = V.int 0) with
      | false => exact ssj_nil ⟨nameOf own tail, b6, rfl, rfl, nm1, md1, hb6'⟩
      | true =>
        have hw : i < wordsL.length := by
          show i < 12
          omega
        refine ssj_one (sj_set 11 ?_ scNames.nd)
        refine ej_ix ix_list (fun _ _ => rfl) (ej_dat 6 rfl (ej_dat 7 rfl (oj_ixL ⟨_, _, .str wordsL[i], .dat _, rfl, ?_, wordsL[i], b6, rfl, rfl, words_nm _ (List.getElem_mem hw), .inr (List.getElem_mem hw), hb6'⟩)))
        refine atI_nat ?_
        rw [List.getElem?_map, List.getElem?_eq_getElem hw]
        rfl
    rintro Γ1 μ1 ⟨x, b6, rfl, rfl, nx, mx, hb6⟩
    have hmade : ∀ y ∈ xs, Made first step i y := fun y hy => (hxm y hy).2
    refine ssj_cons (sj_mid (fun Γ1 μ1 => ∃ (x : Str), Γ1 = [.val (.ref a), .dat (.int (m : Int)), .dat (.str alphabet), .val (.ref p), .dat (.int first), .dat (.int step), .dat (.lst (wordsL.map .str)), .dat (.int (i : Int)), .dat (.int own), .un, .dat (.str tail), .dat (.str x)] ∧ μ1 = [(a, boxD b6), (p, .lst (xs.map .str))] ∧ Nm x ∧ Made first step (i + 1) x ∧ x ∉ xs) (sj_ifP (k := decide (x ∈ xs)) (tj_cmp op_in_seq rfl (ej_dat 11 rfl (ej_val 3 rfl (oj_inL ⟨x, xs, rfl, .mem (j := 1) rfl, _, rfl, rfl, rfl⟩)))) (fun hk => ?_) fun hk => ?_) ?_)
    · refine ssj_one (sj_set 11 ?_ scNames.nd)
      refine ej_bin op_add_str ?_
      refine ej_bin op_add_str ?_
      refine ej_ix ix_str (fun _ _ => rfl) (ej_dat 2 rfl ?_)
      refine ej_bin op_fdiv ?_
      refine ej_dat 8 rfl (ej_int (oj_iC ⟨_, _, rfl, rfl, ⟨by decide, by decide⟩, oj_ixS ⟨_, _, _, rfl, rfl, alphabet_len, alphabet_at q0 q1, ?_⟩⟩))
      refine ej_ix ix_str (fun _ _ => rfl) (ej_dat 2 rfl ?_)
      refine ej_bin op_mod ?_
      refine ej_dat 8 rfl (ej_int (oj_iC ⟨_, _, rfl, rfl, by decide, oj_ixS ⟨_, _, _, rfl, rfl, alphabet_len, alphabet_at r0' r1', ?_⟩⟩))
      refine oj_addS ⟨_, _, rfl, rfl, z2, ?_⟩
      refine ej_str (oj_addS ⟨_, _, rfl, rfl, ?_, ?_⟩)
      · rw [app_len]
        have : Str.length "qxz" = 3 := by decide +kernel
        rw [this]
        exact zM (by show 1 + 1 + 3 ≤ 1000000; decide)
      · refine ⟨nameOf own qxz, rfl, rfl, nm_of o0 o1 ?_ ?_ ?_, .inl ⟨i, qxz, by omega, by rw [hown]⟩, ?_⟩
        · decide +kernel
        · decide +kernel
        · rw [qxz_cps]
          decide
        · have := fresh_name hst (by omega) hmade
          rw [hown] at this
          exact this
    · exact ssj_nil ⟨x, rfl, rfl, nx, mx, of_decide_eq_false hk⟩
    rintro Γ1 μ1 ⟨y, rfl, rfl, ny, my, hy⟩
    refine ssj_one (sj_expr ?_)
    refine ej_bm PySem.F.plainAttrs_list PySem.F.slot_list_append PySem.F.type_list_append mt_append (ej_val 3 rfl ⟨.lst (.mem (j := 1) rfl), aj_cons (ej_dat 11 rfl (aj_nil (mj_append ⟨1, p, _, _, rfl, rfl, rfl, ?_, ?_⟩)))⟩)
    · rw [List.length_map]
      omega
    · refine ⟨rfl, xs ++ [y], b6, _, _, _, _, rfl, ?_, by simp [hxl], ?_, ?_, hb6.mono (by omega)⟩
      · rw [List.map_append]
        rfl
      · rw [List.nodup_append]
        refine ⟨hxn, by simp, fun z hz u hu => ?_⟩
        rw [List.mem_singleton.mp hu]
        intro e
        exact hy (e ▸ hz)
      · intro z hz
        rcases List.mem_append.mp hz with hz | hz
        · refine ⟨(hxm z hz).1, ?_⟩
          rcases (hxm z hz).2 with ⟨j, t, hj, e⟩ | hw
          · exact .inl ⟨j, t, by omega, e⟩
          · exact .inr hw
        · rw [List.mem_singleton.mp hz]
          exact ⟨ny, my⟩
  · rintro Γ2 μ2 ⟨_, xs, b3, c1, c2, c3, c4, rfl, rfl, hxl, hxn, hxm, hb3⟩
    rw [rangeD_len] at hxl hxm hb3
    refine ssj_freeze (μ := [(a, boxD b3)]) 3 rfl (ssj_one (sj_ret (ej_dat 3 rfl (k xs b3 (by omega) hxn (fun x hx => (hxm x hx).1) (hb3.mono (by omega))))))
end
end K43

set_option maxHeartbeats 4000000
/-! K19: vessels, stays. -/
namespace K43
open PySem PySem.Spec PyProof.Rows L2
abbrev sVessels : Stmt := top 17
abbrev sStays : Stmt := top 18
structure VsOk (vs : List Pr) : Prop where
  nd : (vs.map (·.1)).Nodup
  nm : ∀ v ∈ vs, Nm v.1
  lo : ∀ v ∈ vs, 1 ≤ v.2
  hi : ∀ v ∈ vs, v.2 ≤ 10000
structure SsOk (ss : List Stay) : Prop where
  nd : (ss.map (·.1)).Nodup
  nm : ∀ s ∈ ss, Nm s.1
  lo : ∀ s ∈ ss, 1 ≤ s.2.1
  hi : ∀ s ∈ ss, s.2.1 ≤ 10000
  b0 : ∀ s ∈ ss, 0 ≤ s.2.2.1
  be : ∀ s ∈ ss, s.2.2.1 < s.2.2.2
  e1 : ∀ s ∈ ss, s.2.2.2 ≤ 17000
def sizesL : List Int := [9, 300, 10000]
theorem three_at {r x y z : Int} (h0 : 0 ≤ r) (h1 : r < 3) : ∃ st, atI [D.int x, D.int y, D.int z] r = some (.int st) ∧ (st = x ∨ st = y ∨ st = z) := by
  have : r = 0 ∨ r = 1 ∨ r = 2 := by omega
  rcases this with rfl | rfl | rfl
  · exact ⟨x, rfl, .inl rfl⟩
  · exact ⟨y, rfl, .inr (.inl rfl)⟩
  · exact ⟨z, rfl, .inr (.inr rfl)⟩
theorem four_at {r x y z u : Int} (h0 : 0 ≤ r) (h1 : r < 4) : ∃ st, atI [D.int x, D.int y, D.int z, D.int u] r = some (.int st) ∧ (st = x ∨ st = y ∨ st = z ∨ st = u) := by
  have : r = 0 ∨ r = 1 ∨ r = 2 ∨ r = 3 := by omega
  rcases this with rfl | rfl | rfl | rfl
  · exact ⟨x, rfl, .inl rfl⟩
  · exact ⟨y, rfl, .inr (.inl rfl)⟩
  · exact ⟨z, rfl, .inr (.inr (.inl rfl))⟩
  · exact ⟨u, rfl, .inr (.inr (.inr rfl))⟩
theorem at_map {α : Type} (f : α → D) (xs : List α) {r : Int} (h0 : 0 ≤ r) (h1 : r < xs.length) : ∃ x ∈ xs, atI (xs.map f) r = some (f x) := by
  obtain ⟨j, rfl⟩ := Int.eq_ofNat_of_zero_le h0
  have hj : j < xs.length := by omega
  refine ⟨xs[j], List.getElem_mem hj, atI_nat ?_⟩
  rw [List.getElem?_map, List.getElem?_eq_getElem hj]
  rfl
theorem pow4 : (10 : Int) ^ (4 : Int).toNat = 10000 := by decide

section
variable {P : Program} {w : World} {K : PySem.W.Frag} {mg : Str → Option Value} {base : Heap} {B : Tb}
def aVessels : Ab := fun as μ P => ∃ (a : Addr) (b : Bx) (m : Nat) (n : Int), as = [.val (.ref a), .dat (.int (m : Int))] ∧ μ = [(a, boxD b)] ∧ BxN n b ∧ n < 800000 ∧ 1 ≤ m ∧ m ≤ 12 ∧
  ∀ (vs : List Pr) (b' : Bx), vs.length = m → VsOk vs → BxN (n + 300) b' → P (.dat (.lst (vs.map siD))) [(a, boxD b')]
abbrev nVessels : List Str := ["_law_box_here", "_law_many", "_law_turn", "_law_rooms", "_law_name"]
theorem scVessels : FnScope nVessels ["_law_box_here", "_law_many"] (defScope sVessels) := ⟨rfl, rfl, rfl, by decide +kernel, rfl, by decide +kernel, by decide +kernel⟩
theorem df_vessels {f : Addr} {fd : FuncData} (F : Fun K "_law_vessels" "_law_vessels" sVessels f fd) (hm : mg "_law_vessels" = some (.ref f)) (M : Bn mg) (DT : Df P w K mg base B "_law_take" 1 ["_law_box_here", "_law_size"] aTake) (DN : Df P w K mg base B "_law_names" 2 ["_law_box_here", "_law_many"] aNames) :
    Df P w K mg base B "_law_vessels" 3 ["_law_box_here", "_law_many"] aVessels := by
  refine df_mk F scVessels (fun as μ p q h ⟨a, b, m, n, k1, k2, k3, k4, k5, k6, k⟩ => ⟨a, b, m, n, k1, k2, k3, k4, k5, k6, fun r b' h1 h2 h3 => h _ _ (k r b' h1 h2 h3)⟩) hm (F.binds fun _ _ _ _ _ _ us hl => match us, hl with | [_, _], _ => rfl) (fun as μ P ⟨_, d, e, _, q, _⟩ => by rw [q]; rfl) ?_
  rintro cdv A outer s H E as μ Pp _ hr ⟨a, b, m, n, rfl, rfl, hb, hn, hm1, hm2, k⟩
  refine ssj_cons (sj_set 3 ?_ scVessels.nd)
  refine ej_lc (own := [("_law_turn", 2)]) (fun ds j acc μ => ∃ (rs : List Int) (b' : Bx), μ = [(a, boxD b')] ∧ ds.length = 3 ∧ BxN (n + 2 * j) b' ∧ acc = rs.map .int ∧ rs.length = j ∧ ∀ c ∈ rs, 1 ≤ c ∧ c ≤ 10000) scVessels.nd (blkOk_by (N := nVessels) (sc := defScope sVessels) (by decide +kernel)) ?_
  refine ij_range1 M.range (ej_int ⟨_, rfl, by decide, by decide, by decide, ⟨[], b, rfl, rfl, hb.mono (by omega), rfl, rfl, fun _ h => by simp at h⟩, ?_, ?_⟩)
  · rintro j d acc μ3 hd hacc ⟨rs, b3, rfl, hl, hb3, rfl, hrl, hrs⟩
    have hj : j < 3 := by
      have := (List.getElem?_eq_some_iff.mp hd).1
      omega
    refine lct (fun s H C cl fp => ct_name 2 (by decide) scVessels.nd) fun s H C cl fp => tsj_nil fun s H C cl fp => ?_
    refine ej_bin op_add ?_
    refine ej_int ?_
    refine ej_take (k := 0) DT (hr.mono (by decide)) (ej_val 0 rfl ?_)
    refine ej_ix ix_list (fun _ _ => rfl) ?_
    refine ej_lst ?_
    refine aj_cons (ej_int (aj_cons (ej_int (aj_cons ?_))))
    refine ej_bin op_pow ?_
    refine ej_int (ej_int (oj_iC ⟨_, _, rfl, rfl, ⟨by decide, by decide, by decide⟩, ?_⟩))
    refine aj_nil ⟨_, rfl, z3, ?_⟩
    rw [pow4]
    refine ej_take (k := 0) DT (hr.mono (by decide)) (ej_val 0 rfl (ej_int ⟨a, b3, _, n + 2 * j, [], rfl, rfl, rfl, hb3, by omega, by decide, by decide, fun r b4 r0 r1 hb4 => ?_⟩))
    obtain ⟨st, hat, hst⟩ := three_at (x := 9) (y := 300) (z := 10000) r0 r1
    refine oj_ixL ⟨_, _, _, .dat _, rfl, hat, a, b4, st, n + 2 * j + 1, [], rfl, rfl, rfl, hb4, by omega, by omega, by omega, fun c b5 c0 c1 hb5 => ?_⟩
    refine oj_i0 ⟨_, _, rfl, rfl, _, rfl, rs ++ [1 + c], b5, rfl, hl, hb5.mono (by omega), ?_, by simp [hrl], ?_⟩
    · rw [List.map_append]
      rfl
    · intro x hx
      rcases List.mem_append.mp hx with hx | hx
      · exact hrs x hx
      · rw [List.mem_singleton.mp hx]
        omega
  rintro acc μ3 ⟨rs, b3, rfl, hl, hb3, rfl, hrl, hrs⟩
  have hrl3 : rs.length = 3 := by omega
  rw [hl] at hb3
  refine ssj_one (sj_ret ?_)
  refine ej_lc (own := [("_law_name", 4)]) (fun ds j acc μ => ∃ (xs : List Str) (vs : List Pr) (b' : Bx), ds = xs.map .str ∧ xs.length = m ∧ xs.Nodup ∧ (∀ x ∈ xs, Nm x) ∧ μ = [(a, boxD b')] ∧ BxN (n + 206 + j) b' ∧ acc = vs.map siD ∧ vs.map (·.1) = xs.take j ∧ ∀ v ∈ vs, 1 ≤ v.2 ∧ v.2 ≤ 10000) scVessels.nd (blkOk_by (N := nVessels) (sc := defScope sVessels) (by decide +kernel)) ?_
  refine ij_list ?_
  refine ej_call DN hr (aj_cons (ej_val 0 rfl (aj_cons (ej_dat 1 rfl (aj_nil ⟨[(a, boxD b3)], [], rfl, a, b3, m, n + 6, rfl, rfl, hb3, by omega, hm1, hm2, fun xs b4 hxl hxn hxm hb4 => ?_⟩)))))
  refine ⟨_, rfl, by rw [List.length_map]; omega, ⟨xs, [], b4, rfl, hxl, hxn, hxm, rfl, hb4.mono (by omega), rfl, rfl, fun _ h => by simp at h⟩, ?_, ?_⟩
  · rintro j d acc μ3 hd hacc ⟨xs, vs, b5, hds, hxl, hxn, hxm, rfl, hb5, rfl, hvx, hvs⟩
    rw [hds, List.getElem?_map] at hd
    cases hx : xs[j]? with
    | none => rw [hx] at hd; cases hd
    | some x =>
      rw [hx] at hd
      cases hd
      have hj : j < xs.length := (List.getElem?_eq_some_iff.mp hx).1
      refine lct (fun s H C cl fp => ct_name 4 (by decide) scVessels.nd) fun s H C cl fp => tsj_nil fun s H C cl fp => ?_
      refine ej_tup z2 ?_
      refine aj_cons (ej_dat 4 rfl (aj_cons ?_))
      refine ej_ix ix_list (fun _ _ => rfl) (ej_dat 3 rfl ?_)
      refine ej_take (k := 0) DT (hr.mono (by decide)) (ej_val 0 rfl (ej_int ⟨a, b5, _, n + 206 + j, [], rfl, rfl, rfl, hb5, by omega, by decide, by decide, fun r b6 r0 r1 hb6 => ?_⟩))
      obtain ⟨v, hv, hat⟩ := at_map D.int rs r0 (by omega)
      refine oj_ixL ⟨_, _, _, .dat _, rfl, hat, aj_nil ⟨_, rfl, z2, _, rfl, xs, vs ++ [(x, v)], b6, hds, hxl, hxn, hxm, rfl, hb6.mono (by omega), ?_, ?_, ?_⟩⟩
      · rw [List.map_append]
        rfl
      · rw [List.map_append, hvx, List.take_add_one, hx]
        rfl
      · intro u hu
        rcases List.mem_append.mp hu with hu | hu
        · exact hvs u hu
        · rw [List.mem_singleton.mp hu]
          exact hrs v hv
  · rintro acc μ3 ⟨xs, vs, b5, hds, hxl, hxn, hxm, rfl, hb5, rfl, hvx, hvs⟩
    rw [hds, List.length_map, List.take_length] at hvx
    rw [hds, List.length_map] at hb5
    have hvl : vs.length = m := by
      have := congrArg List.length hvx
      rw [List.length_map] at this
      omega
    refine k vs b5 hvl ⟨by rw [hvx]; exact hxn, fun v hv => hxm _ ?_, fun v hv => (hvs v hv).1, fun v hv => (hvs v hv).2⟩ (hb5.mono (by omega))
    rw [← hvx]
    exact List.mem_map.mpr ⟨v, hv, rfl⟩

def aStays : Ab := fun as μ P => ∃ (a : Addr) (b : Bx) (m : Nat) (n : Int) (vs : List Pr) (far : Int), as = [.val (.ref a), .dat (.int (m : Int)), .dat (.lst (vs.map siD)), .dat (.int far)] ∧ μ = [(a, boxD b)] ∧ BxN n b ∧ n < 700000 ∧ 1 ≤ m ∧ m ≤ 12 ∧ VsOk vs ∧ vs.length ≤ 60 ∧ 1 ≤ far ∧ far ≤ 8000 ∧
  ∀ (p : Addr) (ss : List Stay) (b' : Bx), ss.length = m → SsOk ss → BxN (n + 400) b' → P (.val (.ref p)) [(a, boxD b'), (p, .lst (ss.map stD))]
abbrev nStays : List Str := ["_law_box_here", "_law_many", "_law_vessels_here", "_law_far", "_law_found", "_law_name", "_law_pair", "_law_room", "_law_some", "_law_begin"]
theorem scStays : FnScope nStays ["_law_box_here", "_law_many", "_law_vessels_here", "_law_far"] (defScope sStays) := ⟨rfl, rfl, rfl, by decide +kernel, rfl, by decide +kernel, by decide +kernel⟩
theorem df_stays {f : Addr} {fd : FuncData} (F : Fun K "_law_stays" "_law_stays" sStays f fd) (hm : mg "_law_stays" = some (.ref f)) (M : Bn mg) (DT : Df P w K mg base B "_law_take" 1 ["_law_box_here", "_law_size"] aTake) (DN : Df P w K mg base B "_law_names" 2 ["_law_box_here", "_law_many"] aNames) :
    Df P w K mg base B "_law_stays" 3 ["_law_box_here", "_law_many", "_law_vessels_here", "_law_far"] aStays := by
  refine df_mk F scStays (fun as μ p q h ⟨a, b, m, n, vs, far, k1, k2, k3, k4, k5, k6, k7, k8, k9, k10, k⟩ => ⟨a, b, m, n, vs, far, k1, k2, k3, k4, k5, k6, k7, k8, k9, k10, fun r b' c h1 h2 h3 => h _ _ (k r b' c h1 h2 h3)⟩) hm (F.binds fun _ _ _ _ _ _ us hl => match us, hl with | [_, _, _, _], _ => rfl) (fun as μ P ⟨_, d, e, _, _, _, q, _⟩ => by rw [q]; rfl) ?_
  rintro cdv A outer s H E as μ Pp _ hr ⟨a, b, m, n, vs, far, rfl, rfl, hb, hn, hm1, hm2, hv, hvl, hf1, hf2, k⟩
  refine ssj_cons (sj_set 4 (ej_lstM (aj_nil ⟨[], rfl, z0, fun p => ?_⟩)) scStays.nd)
  refine ssj_cons (sj_for PassesOwn.never (fun ds i Γ μ => ∃ (xs : List Str) (ss : List Stay) (b' : Bx) (c1 c2 c3 c4 : AV), ds = xs.map .str ∧ xs.length = m ∧ xs.Nodup ∧ (∀ x ∈ xs, Nm x) ∧ Γ = [.val (.ref a), .dat (.int (m : Int)), .dat (.lst (vs.map siD)), .dat (.int far), .val (.ref p), c1, .un, c2, c3, c4] ∧ μ = [(a, boxD b'), (p, .lst (ss.map stD))] ∧ BxN (n + 200 + 6 * i) b' ∧ ss.map (·.1) = xs.take i ∧
    (∀ s ∈ ss, (1 ≤ s.2.1 ∧ s.2.1 ≤ 10000) ∧ 0 ≤ s.2.2.1 ∧ s.2.2.1 < s.2.2.2 ∧ s.2.2.2 ≤ 17000)) (ij_list ?_))
  refine ej_call DN hr (aj_cons (ej_val 0 rfl (aj_cons (ej_dat 1 rfl (aj_nil ⟨[(a, boxD b)], [(p, .lst [])], rfl, a, b, m, n, rfl, rfl, hb, by omega, hm1, hm2, fun xs b4 hxl hxn hxm hb4 => ?_⟩)))))
  refine ⟨_, rfl, ⟨xs, [], b4, _, _, _, _, rfl, hxl, hxn, hxm, rfl, rfl, hb4.mono (by omega), rfl, fun _ h => by simp at h⟩, ?_, ?_⟩
  · rintro i d Γ2 μ2 hd ⟨xs, ss, b5, c1, c2, c3, c4, hds, hxl, hxn, hxm, rfl, rfl, hb5, hsx, hss⟩
    rw [hds, List.getElem?_map] at hd
    cases hx : xs[i]? with
    | none => rw [hx] at hd; cases hd
    | some x =>
      rw [hx] at hd
      cases hd
      have hi : i < xs.length := (List.getElem?_eq_some_iff.mp hx).1
      refine gj_name 5 ?_ scStays.nd
      -- room
      refine ssj_cons (sj_set 7 ?_ scStays.nd)
      refine ej_ix ix_list (fun _ _ => rfl) ?_
      refine ej_bin op_cat ?_
      refine ej_lcF siD (own := [("_law_pair", 6)]) scStays.nd (blkOk_by (N := nStays) (sc := defScope sStays) (by decide +kernel)) (ij_list (ej_dat 2 rfl ?_))
      refine ⟨_, rfl, vs, rfl, by omega, fun v => some (.int v.2), fun v hv => lctM (fun s H C cl fp => ct_name 6 (by decide) scStays.nd) ?_, ?_⟩
      · intro s H C cl fp
        exact ej_ix ix_tup (fun _ _ => rfl) (ej_dat 6 rfl (ej_int (oj_ixT ⟨_, _, _, rfl, rfl, rfl, rfl, rfl⟩)))
      rw [fm_map]
      refine ej_lst (aj_cons (ej_int (aj_nil ⟨_, rfl, z1, ?_⟩)))
      refine oj_cat ⟨_, _, .dat _, .dat _, zM (by simp; omega), ?_⟩
      refine ej_take (k := 0) DT (hr.mono (by decide)) (ej_val 0 rfl ?_)
      refine ej_bin op_add ?_
      refine ej_callB call_len_seq rfl M.len boot_len (aj_cons (ej_dat 2 rfl (aj_nil (cj_lenL ⟨_, _, rfl, .dat _, ?_⟩))))
      rw [List.length_map]
      refine ej_int (oj_i0 ⟨_, _, rfl, rfl, a, b5, _, n + 200 + 6 * i, [(p, .lst (ss.map stD))], rfl, rfl, rfl, hb5, by omega, by omega, by omega, fun r b6 r0 r1 hb6 => ?_⟩)
      have hroom : ∃ room : Int, atI (vs.map (fun v : Pr => D.int v.2) ++ [D.int 5]) r = some (.int room) ∧ 1 ≤ room ∧ room ≤ 10000 := by
        have e : vs.map (fun v : Pr => D.int v.2) ++ [D.int 5] = (vs.map (fun v : Pr => v.2) ++ [5]).map D.int := by
          rw [List.map_append, List.map_map]
          rfl
        obtain ⟨y, hy, hat⟩ := at_map D.int (vs.map (·.2) ++ [5]) r0 (by simp; omega)
        refine ⟨y, by rw [e]; exact hat, ?_⟩
        rcases List.mem_append.mp hy with hy | hy
        · obtain ⟨v, hv', rfl⟩ := List.mem_map.mp hy
          exact ⟨hv.lo v hv', hv.hi v hv'⟩
        · rw [List.mem_singleton.mp hy]
          decide
      obtain ⟨room, hat, hr1, hr2⟩ := hroom
      refine oj_ixL ⟨_, _, _, .dat _, rfl, hat, ?_⟩
      -- some
      refine ssj_cons (sj_set 8 ?_ scStays.nd)
      refine ej_lst ?_
      refine aj_cons (ej_dat 7 rfl (aj_cons ?_))
      refine ej_callB (call_max2 rfl) rfl M.max rfl (aj_cons (ej_int (aj_cons ?_)))
      refine ej_bin op_sub ?_
      refine ej_dat 7 rfl (ej_int (oj_i0 ⟨_, _, rfl, rfl, ?_⟩))
      refine aj_nil (cj_max2 ⟨_, _, rfl, ?_⟩)
      refine aj_cons ?_
      refine ej_bin op_add ?_
      refine ej_int ?_
      refine ej_take (k := 0) DT (hr.mono (by decide)) (ej_val 0 rfl (ej_dat 7 rfl ⟨a, b6, _, n + 201 + 6 * i, [(p, .lst (ss.map stD))], rfl, rfl, rfl, hb6.mono (by omega), by omega, by omega, by omega, fun g1 b7 g10 g11 hb7 => ?_⟩))
      refine oj_i0 ⟨_, _, rfl, rfl, ?_⟩
      refine aj_cons ?_
      refine ej_callB (call_min2 rfl) rfl M.min rfl (aj_cons ?_)
      refine ej_bin op_pow ?_
      refine ej_int (ej_int (oj_iC ⟨_, _, rfl, rfl, ⟨by decide, by decide, by decide⟩, ?_⟩))
      rw [pow4]
      refine aj_cons ?_
      refine ej_bin op_add ?_
      refine ej_dat 7 rfl ?_
      refine ej_take (k := 0) DT (hr.mono (by decide)) (ej_val 0 rfl (ej_int ⟨a, b7, _, n + 202 + 6 * i, [(p, .lst (ss.map stD))], rfl, rfl, rfl, hb7.mono (by omega), by omega, by decide, by decide, fun g2 b8 g20 g21 hb8 => ?_⟩))
      refine oj_i0 ⟨_, _, rfl, rfl, ?_⟩
      refine aj_nil (cj_min2 ⟨_, _, rfl, ?_⟩)
      refine aj_nil ⟨_, rfl, z4, ?_⟩
      -- begin
      refine ssj_cons (sj_set 9 ?_ scStays.nd)
      refine ej_take (k := 0) DT (hr.mono (by decide)) (ej_val 0 rfl (ej_dat 3 rfl ⟨a, b8, _, n + 203 + 6 * i, [(p, .lst (ss.map stD))], rfl, rfl, rfl, hb8.mono (by omega), by omega, by omega, by omega, fun bg b9 bg0 bg1 hb9 => ?_⟩))
      refine ssj_one (sj_expr ?_)
      refine ej_bm PySem.F.plainAttrs_list PySem.F.slot_list_append PySem.F.type_list_append mt_append (ej_val 4 rfl ⟨.lst (.mem (j := 1) rfl), aj_cons ?_⟩)
      refine ej_tup z4 ?_
      refine aj_cons (ej_dat 5 rfl (aj_cons ?_))
      refine ej_ix ix_list (fun _ _ => rfl) (ej_dat 8 rfl ?_)
      refine ej_take (k := 0) DT (hr.mono (by decide)) (ej_val 0 rfl (ej_int ⟨a, b9, _, n + 204 + 6 * i, [(p, .lst (ss.map stD))], rfl, rfl, rfl, hb9.mono (by omega), by omega, by decide, by decide, fun wh b10 wh0 wh1 hb10 => ?_⟩))
      obtain ⟨g, hat4, hg⟩ := four_at (x := room) (y := if room - 1 > 1 then room - 1 else 1) (z := 1 + g1) (u := if room + g2 < 10000 then room + g2 else 10000) wh0 wh1
      have hgg : 1 ≤ g ∧ g ≤ 10000 := by
        rcases hg with rfl | rfl | rfl | rfl
        · exact ⟨hr1, hr2⟩
        · split <;> omega
        · omega
        · split <;> omega
      refine oj_ixL ⟨_, _, _, .dat _, rfl, hat4, ?_⟩
      refine aj_cons (ej_dat 9 rfl (aj_cons ?_))
      refine ej_bin op_add ?_
      refine ej_bin op_add ?_
      refine ej_dat 9 rfl (ej_int (oj_i0 ⟨_, _, rfl, rfl, ?_⟩))
      refine ej_take (k := 0) DT (hr.mono (by decide)) (ej_val 0 rfl (ej_dat 3 rfl ⟨a, b10, _, n + 205 + 6 * i, [(p, .lst (ss.map stD))], rfl, rfl, rfl, hb10.mono (by omega), by omega, by omega, by omega, fun ln b11 ln0 ln1 hb11 => ?_⟩))
      refine oj_i0 ⟨_, _, rfl, rfl, aj_nil ⟨_, rfl, z4, ?_⟩⟩
      refine aj_nil (mj_append ⟨1, p, _, _, rfl, rfl, rfl, ?_, ?_⟩)
      · have := congrArg List.length hsx
        rw [List.length_map, List.length_take] at this
        rw [List.length_map]
        omega
      · refine ⟨xs, ss ++ [(x, g, bg, bg + 1 + ln)], b11, _, _, _, _, hds, hxl, hxn, hxm, rfl, ?_, hb11.mono (by omega), ?_, ?_⟩
        · rw [List.map_append]
          rfl
        · rw [List.map_append, hsx, List.take_add_one, hx]
          rfl
        · intro u hu
          rcases List.mem_append.mp hu with hu | hu
          · exact hss u hu
          · rw [List.mem_singleton.mp hu]
            exact ⟨hgg, bg0, by show bg < bg + 1 + ln; omega, by show bg + 1 + ln ≤ 17000; omega⟩
  · rintro Γ2 μ2 ⟨xs, ss, b5, c1, c2, c3, c4, hds, hxl, hxn, hxm, rfl, rfl, hb5, hsx, hss⟩
    rw [hds, List.length_map] at hsx hb5
    rw [List.take_length] at hsx
    have hsl : ss.length = m := by
      have := congrArg List.length hsx
      rw [List.length_map] at this
      omega
    refine ssj_one (sj_ret (ej_val 4 rfl (k p ss b5 hsl ⟨by rw [hsx]; exact hxn, fun v hv => hxm _ ?_, fun v hv => (hss v hv).1.1, fun v hv => (hss v hv).1.2, fun v hv => (hss v hv).2.1, fun v hv => (hss v hv).2.2.1, fun v hv => (hss v hv).2.2.2⟩ (hb5.mono (by omega)))))
    rw [← hsx]
    exact List.mem_map.mpr ⟨v, hv, rfl⟩
end
end K43

set_option maxHeartbeats 4000000
/-! K20: the law's own answers. -/
namespace K43
open PySem PySem.Spec PyProof.Rows L2
abbrev sSame : Stmt := top 16
abbrev sLGreatest : Stmt := top 19
abbrev sLStanding : Stmt := top 20
abbrev sDue : Stmt := top 21
abbrev sHours : Stmt := top 22
abbrev sLack : Stmt := top 23
abbrev sShifted : Stmt := top 24
section
variable {X : Cx} {B : Tb} {Γ : List AV} {μ ν : Mem} {P : AV → Mem → Prop} {A : AE} {e : Expr} {pos : Pos} {sts : List Stmt}
/-- a new list, from now on data -/
theorem ej_freezeP (h : EJ X B e Γ μ fun r μ1 => ∃ (a : Addr) (d : D) (ν : Mem), r = .val (.ref a) ∧ (ν ++ [(a, d)]).Perm μ1 ∧ P (.dat d) ν) : EJ X B e Γ μ P := fun Z τ σ xs H Q s k =>
  h Z τ σ xs H Q s fun r μ1 v H1 ⟨a, d, ν, e1, hp, p⟩ s1 => by
    subst e1
    exact k _ ν v H1 p (s1.perm hp).freezeT
end
/-! ### the greatest, by sizes -/
theorem gLe_anti {p q : Pr} (h1 : gLe p q = true) (h2 : gLe q p = true) : p = q := by
  unfold gLe at *
  simp only [decide_eq_true_eq] at h1 h2
  have e : p.2 = q.2 := by
    rcases h1 with a | ⟨a, _⟩
    · rcases h2 with b | ⟨b, _⟩
      · omega
      · omega
    · exact a
  have l1 : p.1.cps.toList ≤ q.1.cps.toList := by
    rcases h1 with a | ⟨_, a⟩
    · omega
    · exact a
  have l2 : q.1.cps.toList ≤ p.1.cps.toList := by
    rcases h2 with a | ⟨_, a⟩
    · omega
    · exact a
  exact Prod.ext (str_ext (List.le_antisymm l1 l2)) e
theorem gLe_trans (a b c : Pr) (h1 : gLe a b = true) (h2 : gLe b c = true) : gLe a c = true := by
  unfold gLe at *
  simp only [decide_eq_true_eq] at *
  rcases h1 with a1 | ⟨a1, a2⟩
  · rcases h2 with b1 | ⟨b1, b2⟩
    · exact .inl (by omega)
    · exact .inl (by omega)
  · rcases h2 with b1 | ⟨b1, b2⟩
    · exact .inl (by omega)
    · exact .inr ⟨by omega, List.le_trans a2 b2⟩
theorem gLe_total (a b : Pr) : (gLe a b || gLe b a) = true := by
  unfold gLe
  simp only [Bool.or_eq_true, decide_eq_true_eq]
  rcases Int.lt_trichotomy a.2 b.2 with h | h | h
  · exact .inr (.inl h)
  · rcases List.le_total a.1.cps.toList b.1.cps.toList with l | l
    · exact .inl (.inr ⟨h, l⟩)
    · exact .inr (.inr ⟨h.symm, l⟩)
  · exact .inl (.inl h)
theorem greatest_sorted (bs : List Pr) : (greatest bs).Pairwise (fun a b => gLe a b = true) := List.pairwise_mergeSort gLe_trans gLe_total bs
theorem greatest_eq {xs bs : List Pr} (h : xs.Perm bs) (s : xs.Pairwise (fun a b => gLe a b = true)) : xs = greatest bs :=
  List.Perm.eq_of_pairwise (fun a b _ _ h1 h2 => gLe_anti h1 h2) s (greatest_sorted bs) (h.trans (greatest_perm bs).symm)
def bySize (bs : List Pr) (sz : Int) : List Str := ssort ((bs.filter fun b => decide (b.2 = sz)).map (·.1))
theorem bySize_perm (bs : List Pr) (sz : Int) : ((bySize bs sz).map fun x => (x, sz)).Perm (bs.filter fun b => decide (b.2 = sz)) := by
  refine ((ssort_perm _).map _).trans ?_
  rw [List.map_map]
  have e : (bs.filter fun b => decide (b.2 = sz)).map ((fun x => (x, sz)) ∘ fun b : Pr => b.1) = (bs.filter fun b => decide (b.2 = sz)).map id := by
    apply List.map_congr_left
    intro b hb
    have := (List.mem_filter.mp hb).2
    simp at this
    exact Prod.ext rfl this.symm
  rw [e, List.map_id]
theorem flat_count (bs : List Pr) (x : Pr) : ∀ zs : List Int, zs.Nodup → (zs.flatMap fun sz => bs.filter fun b => decide (b.2 = sz)).count x = if x.2 ∈ zs then bs.count x else 0
  | [], _ => by simp
  | z :: zs, h => by
    obtain ⟨h1, h2⟩ := List.nodup_cons.mp h
    rw [List.flatMap_cons, List.count_append, flat_count bs x zs h2]
    by_cases hx : x.2 = z
    · have e1 : (bs.filter fun b => decide (b.2 = z)).count x = bs.count x := List.count_filter (by simp [hx])
      have e2 : x.2 ∉ zs := by rw [hx]; exact h1
      rw [e1, if_neg e2, if_pos (by simp [hx])]
      rfl
    · have e1 : (bs.filter fun b => decide (b.2 = z)).count x = 0 := by
        rw [List.count_eq_zero]
        intro hm
        have := (List.mem_filter.mp hm).2
        simp at this
        exact hx this
      rw [e1, Nat.zero_add]
      have e2 : (x.2 ∈ z :: zs) ↔ x.2 ∈ zs := by simp [hx]
      by_cases hz : x.2 ∈ zs
      · rw [if_pos hz, if_pos (e2.mpr hz)]
      · rw [if_neg hz, if_neg fun q => hz (e2.mp q)]
theorem flat_perm_aux {α β : Type} (f g : α → List β) : ∀ zs : List α, (∀ z ∈ zs, (f z).Perm (g z)) → (zs.flatMap f).Perm (zs.flatMap g)
  | [], _ => .refl _
  | z :: zs, h => by
    rw [List.flatMap_cons, List.flatMap_cons]
    exact (h z (by simp)).append (flat_perm_aux f g zs fun y hy => h y (by simp [hy]))
def sizesOf (bs : List Pr) : List Int := (usort (bs.map (·.2))).reverse
theorem lt_nodup {l : List Int} (h : l.Pairwise (· < ·)) : l.Nodup := h.imp fun h => by omega
theorem greatest_names (bs : List Pr) : (sizesOf bs).flatMap (bySize bs) = (greatest bs).map (·.1) := by
  have key : ((sizesOf bs).flatMap fun sz => (bySize bs sz).map fun x => (x, sz)) = greatest bs := by
    refine greatest_eq ?_ ?_
    · refine (flat_perm_aux _ (fun sz => bs.filter fun b => decide (b.2 = sz)) _ fun z _ => bySize_perm bs z).trans ?_
      rw [List.perm_iff_count]
      intro x
      rw [flat_count bs x _ (by unfold sizesOf; exact (List.reverse_perm _).nodup_iff.mpr (lt_nodup (usort_sorted _)))]
      by_cases hx : x.2 ∈ sizesOf bs
      · rw [if_pos hx]
      · rw [if_neg hx]
        symm
        rw [List.count_eq_zero]
        intro hm
        apply hx
        unfold sizesOf
        rw [List.mem_reverse, mem_usort]
        exact List.mem_map.mpr ⟨x, hm, rfl⟩
    · rw [List.pairwise_flatMap]
      refine ⟨fun sz _ => ?_, ?_⟩
      · rw [List.pairwise_map]
        refine (ssort_sorted _).imp fun {x y} h => ?_
        unfold gLe
        unfold strLe at h
        simp only [decide_eq_true_eq] at *
        exact .inr ⟨True.intro, h⟩
      · unfold sizesOf
        rw [List.pairwise_reverse]
        refine (usort_sorted _).imp fun {a b} h => fun x hx y hy => ?_
        obtain ⟨u, _, rfl⟩ := List.mem_map.mp hx
        obtain ⟨v, _, rfl⟩ := List.mem_map.mp hy
        unfold gLe
        simp only [decide_eq_true_eq]
        exact .inl h
  rw [← key, List.map_flatMap]
  congr 1
  funext sz
  rw [List.map_map]
  conv => lhs; rw [← List.map_id (bySize bs sz)]
  rfl
def lackF : Res → Int
  | .lacks h _ => h
  | .plan _ => 1000000000
def shiftF (later often : Int) : Res → Res
  | .lacks h g => .lacks (h + later) (g * often)
  | .plan rows => .plan (rows.map fun r => (r.1 + later, r.2))

section
variable {P : Program} {w : World} {K : PySem.W.Frag} {mg : Str → Option Value} {base : Heap} {B : Tb}
def aLGreatest : Ab := fun as μ P => ∃ bs : List Pr, as = [.dat (.lst (bs.map siD))] ∧ μ = [] ∧ bs.length < 64 ∧ ∀ q, P (.val (.ref q)) [(q, .lst (((greatest bs).map (·.1)).map .str))]
abbrev nLGreatest : List Str := ["_law_pairs", "_law_found", "_law_pair", "_law_size"]
theorem scLGreatest : FnScope nLGreatest ["_law_pairs"] (defScope sLGreatest) := ⟨rfl, rfl, rfl, by decide +kernel, rfl, by decide +kernel, by decide +kernel⟩
theorem df_lgreatest {f : Addr} {fd : FuncData} (F : Fun K "_law_greatest" "_law_greatest" sLGreatest f fd) (hm : mg "_law_greatest" = some (.ref f)) (M : Bn mg) : Df P w K mg base B "_law_greatest" 1 ["_law_pairs"] aLGreatest := by
  refine df_mk F scLGreatest (fun as μ p q h ⟨a, k1, k2, k3, k⟩ => ⟨a, k1, k2, k3, fun r => h _ _ (k r)⟩) hm (F.binds fun _ _ _ _ _ _ us hl => match us, hl with | [_], _ => rfl) (fun as μ P ⟨_, d, _⟩ => by rw [d]; rfl) ?_
  rintro cdv A outer s H E as μ Pp _ hr ⟨bs, rfl, rfl, hl, k⟩
  refine ssj_cons (sj_set 1 (ej_lstM (aj_nil ⟨[], rfl, z0, fun q0 => ?_⟩)) scLGreatest.nd)
  refine ssj_cons (sj_forL D.int (sizesOf bs) PassesOwn.never (fun i Γ μ => ∃ (q : Addr) (c : AV), Γ = [.dat (.lst (bs.map siD)), .val (.ref q), .un, c] ∧ μ = [(q, .lst ((((sizesOf bs).take i).flatMap (bySize bs)).map .str))]) (ij_list ?_) ?_ ?_)
  · refine ej_rev ?_
    refine ej_sortSet M.sorted M.set ?_
    refine ej_lcF siD (own := [("_law_pair", 2)]) scLGreatest.nd (blkOk_by (N := nLGreatest) (sc := defScope sLGreatest) (by decide +kernel)) (ij_list (ej_dat 0 rfl ?_))
    refine ⟨_, rfl, bs, rfl, by omega, fun v => some (.int v.2), fun v hv => lctM (fun s H C cl fp => ct_name 2 (by decide) scLGreatest.nd) ?_, ?_⟩
    · intro s H C cl fp
      exact ej_ix ix_tup (fun _ _ => rfl) (ej_dat 2 rfl (ej_int (oj_ixT ⟨_, _, _, rfl, rfl, rfl, rfl, rfl⟩)))
    rw [fm_map]
    refine ⟨bs.map (·.2), by rw [List.map_map]; rfl, by simp; omega, _, .dat _, _, rfl, ?_, q0, _, rfl, rfl⟩
    unfold sizesOf
    rw [List.map_reverse]
  · rintro i sz Γ2 μ2 hi ⟨q, c, rfl, rfl⟩
    have hlen : (((sizesOf bs).take i).flatMap (bySize bs)).length ≤ 64 := by
      have h1 : (((sizesOf bs).take i).flatMap (bySize bs)).Sublist ((sizesOf bs).flatMap (bySize bs)) := by
        conv => rhs; rw [← List.take_append_drop i (sizesOf bs), List.flatMap_append]
        exact List.sublist_append_left _ _
      have := h1.length_le
      rw [greatest_names, List.length_map, (greatest_perm bs).length_eq] at this
      omega
    refine gj_name 3 ?_ scLGreatest.nd
    refine ssj_one (sj_set 1 (ej_sub ?_) scLGreatest.nd)
    refine ej_bin op_cat (ej_val 1 rfl ?_)
    refine ej_callB cr_sortedS rfl M.sorted rfl (aj_cons ?_)
    refine ej_lcF siD (own := [("_law_pair", 2)]) scLGreatest.nd (blkOk_by (N := nLGreatest) (sc := defScope sLGreatest) (by decide +kernel)) (ij_list (ej_dat 0 rfl ?_))
    refine ⟨_, rfl, bs, rfl, by omega, fun v => cond (decide (v.2 = sz)) (some (.str v.1)) none, fun v hv => lctF (fun s H C cl fp => ct_name 2 (by decide) scLGreatest.nd) ?_ ?_, ?_⟩
    · intro s H C cl fp
      exact tj_cmp op_eq rfl (ej_ix ix_tup (fun _ _ => rfl) (ej_dat 2 rfl (ej_int (oj_ixT ⟨_, _, _, rfl, rfl, rfl, ej_dat 3 rfl (oj_eq ⟨_, _, _, _, rfl, rfl, rfl, rfl, rfl, _, rfl, dint_eq _ _, rfl⟩)⟩))))
    · intro _ s H C cl fp
      exact ej_ix ix_tup (fun _ _ => rfl) (ej_dat 2 rfl (ej_int (oj_ixT ⟨_, _, _, rfl, rfl, rfl, rfl, rfl⟩)))
    rw [fm_if]
    have hf : ((bs.filter fun v => decide (v.2 = sz)).map (·.1)).length < 64 := by
      rw [List.length_map]
      exact Nat.lt_of_le_of_lt (List.length_filter_le _ _) hl
    refine aj_nil (cj_sortS ⟨_, (bs.filter fun v => decide (v.2 = sz)).map (·.1), rfl, ?_, hf, ?_⟩)
    · rw [List.map_map]
      exact .dat _
    have hbl : (bySize bs sz).length < 64 := by
      unfold bySize
      rw [(ssort_perm _).length_eq]
      exact hf
    refine oj_catM ⟨_, _, .mem (j := 0) rfl, .dat _, ?_, fun q2 => ?_⟩
    · rw [List.length_map, List.length_map]
      unfold bySize at hbl
      exact zM (by omega)
    refine ⟨[(q2, .lst ((((sizesOf bs).take (i + 1)).flatMap (bySize bs)).map .str))], ?_, q2, _, rfl, rfl⟩
    have e : (((sizesOf bs).take (i + 1)).flatMap (bySize bs)).map D.str = (((sizesOf bs).take i).flatMap (bySize bs)).map D.str ++ (bySize bs sz).map D.str := by
      rw [List.take_add_one, hi, List.flatMap_append, List.map_append]
      congr 1
      simp
    rw [e]
    exact List.Sublist.cons _ (List.Sublist.refl _)
  · rintro Γ2 μ2 ⟨q, c, rfl, rfl⟩
    rw [List.take_length, greatest_names]
    exact ssj_one (sj_ret (ej_val 1 rfl (k q)))

def aLStanding : Ab := pu fun as p => ∃ (ss : List Stay) (h : Int), as = [.dat (.lst (ss.map stD)), .dat (.int h)] ∧ ss.length ≤ 1000 ∧ p (.lst ((standing ss h).map siD))
abbrev nLStanding : List Str := ["_law_stays_here", "_law_hour", "_law_beer", "_law_gallons", "_law_begin", "_law_end"]
theorem scLStanding : FnScope nLStanding ["_law_stays_here", "_law_hour"] (defScope sLStanding) := ⟨rfl, rfl, rfl, by decide +kernel, rfl, by decide +kernel, by decide +kernel⟩
theorem df_lstanding {f : Addr} {fd : FuncData} (F : Fun K "_law_standing" "_law_standing" sLStanding f fd) (hm : mg "_law_standing" = some (.ref f)) (M : Bn mg) : Df P w K mg base B "_law_standing" 1 ["_law_stays_here", "_law_hour"] aLStanding := by
  refine df_mk F scLStanding (mono_pu fun as p q h ⟨d, e, k1, k2, k⟩ => ⟨d, e, k1, k2, h _ k⟩) hm (F.binds fun _ _ _ _ _ _ us hl => match us, hl with | [_, _], _ => rfl) (fun as μ P ⟨_, d, e, h, _⟩ => by rw [h]; rfl) ?_
  rintro cdv A outer s H E as μ Pp _ hr ⟨rfl, ss, h, rfl, hl, k⟩
  refine ssj_one (sj_ret ?_)
  refine ej_lcF stD (own := [("_law_beer", 2), ("_law_gallons", 3), ("_law_begin", 4), ("_law_end", 5)]) scLStanding.nd (blkOk_by (N := nLStanding) (sc := defScope sLStanding) (by decide +kernel)) (ij_list (ej_dat 0 rfl ⟨_, rfl, ?_⟩))
  refine ⟨ss, rfl, by omega, fun t => cond (decide (t.2.2.1 ≤ h) && decide (h < t.2.2.2)) (some (siD (t.1, t.2.1))) none, fun t hd => ?_, ?_⟩
  · exact lctF (fun s H C cl fp => ct_tup rfl (cts_cons (ct_name 2 (by decide) scLStanding.nd) (cts_cons (ct_name 3 (by decide) scLStanding.nd) (cts_cons (ct_name 4 (by decide) scLStanding.nd) (cts_cons (ct_name 5 (by decide) scLStanding.nd) cts_nil)))))
      (fun s H C cl fp => tj_chain op_le op_lt rfl (ej_dat 4 rfl ⟨_, rfl, ej_dat 1 rfl ⟨_, rfl, _, ej_dat 5 rfl ⟨rfl, rfl⟩, rfl, rfl⟩⟩))
      fun _ s H C cl fp => ej_tup z2 (aj_cons (ej_dat 2 rfl (aj_cons (ej_dat 3 rfl (aj_nil ⟨_, rfl, z2, rfl, rfl⟩)))))
  · rw [fm_if]
    have e : (ss.filter fun t => decide (t.2.2.1 ≤ h) && decide (h < t.2.2.2)).map (fun t : Stay => siD (t.1, t.2.1)) = (standing ss h).map siD := by
      unfold standing
      rw [List.map_map]
      rfl
    rw [e]
    exact k

def aHours : Ab := pu fun as p => ∃ ss : List Stay, as = [.dat (.lst (ss.map stD))] ∧ ss.length ≤ 1000 ∧ p (.lst ((hoursF ss).map .int))
abbrev nHours : List Str := ["_law_stays_here", "_law_stay"]
theorem scHours : FnScope nHours ["_law_stays_here"] (defScope sHours) := ⟨rfl, rfl, rfl, by decide +kernel, rfl, by decide +kernel, by decide +kernel⟩
theorem df_hours {f : Addr} {fd : FuncData} (F : Fun K "_law_hours" "_law_hours" sHours f fd) (hm : mg "_law_hours" = some (.ref f)) (M : Bn mg) : Df P w K mg base B "_law_hours" 1 ["_law_stays_here"] aHours := by
  refine df_mk F scHours (mono_pu fun as p q h ⟨d, e, k1, k⟩ => ⟨d, e, k1, h _ k⟩) hm (F.binds fun _ _ _ _ _ _ us hl => match us, hl with | [_], _ => rfl) (fun as μ P ⟨_, d, e, _⟩ => by rw [e]; rfl) ?_
  rintro cdv A outer s H E as μ Pp _ hr ⟨rfl, ss, rfl, hl, k⟩
  refine ssj_one (sj_ret ?_)
  refine ej_sortSet M.sorted M.set ?_
  refine ej_bin op_cat ?_
  refine ej_lcF stD (own := [("_law_stay", 1)]) scHours.nd (blkOk_by (N := nHours) (sc := defScope sHours) (by decide +kernel)) (ij_list (ej_dat 0 rfl ⟨_, rfl, ss, rfl, by omega, fun t => some (.int t.2.2.1), fun t hd => lctM (fun s H C cl fp => ct_name 1 (by decide) scHours.nd) ?_, ?_⟩))
  · intro s H C cl fp
    exact ej_ix ix_tup (fun _ _ => rfl) (ej_dat 1 rfl (ej_int (oj_ixT ⟨_, _, _, rfl, rfl, rfl, rfl, rfl⟩)))
  refine ej_lcF stD (own := [("_law_stay", 1)]) scHours.nd (blkOk_by (N := nHours) (sc := defScope sHours) (by decide +kernel)) (ij_list (ej_dat 0 rfl ⟨_, rfl, ss, rfl, by omega, fun t => some (.int t.2.2.2), fun t hd => lctM (fun s H C cl fp => ct_name 1 (by decide) scHours.nd) ?_, ?_⟩))
  · intro s H C cl fp
    exact ej_ix ix_tup (fun _ _ => rfl) (ej_dat 1 rfl (ej_int (oj_ixT ⟨_, _, _, rfl, rfl, rfl, rfl, rfl⟩)))
  rw [fm_map, fm_map]
  refine oj_cat ⟨_, _, .dat _, .dat _, zM (by simp; omega), ss.map (·.2.2.1) ++ ss.map (·.2.2.2), ?_, by simp; omega, k⟩
  rw [List.map_append, List.map_map, List.map_map]
  rfl

def aLack : Ab := pu fun as p => ∃ r : Res, as = [.dat (resD r)] ∧ p (.int (lackF r))
theorem scLack : FnScope ["_law_found"] ["_law_found"] (defScope sLack) := ⟨rfl, rfl, rfl, by decide +kernel, rfl, by decide +kernel, by decide +kernel⟩
theorem lk1 : decide (V.str "lacks" = V.str "lacks") = true := by decide
theorem lk2 : decide (V.str "plan" = V.str "lacks") = false := by decide +kernel
theorem df_lack {f : Addr} {fd : FuncData} (F : Fun K "_law_lack" "_law_lack" sLack f fd) (hm : mg "_law_lack" = some (.ref f)) (M : Bn mg) : Df P w K mg base B "_law_lack" 1 ["_law_found"] aLack := by
  refine df_mk F scLack (mono_pu fun as p q h ⟨d, e, k⟩ => ⟨d, e, h _ k⟩) hm (F.binds fun _ _ _ _ _ _ us hl => match us, hl with | [_], _ => rfl) (fun as μ P ⟨_, d, e, _⟩ => by rw [e]; rfl) ?_
  rintro cdv A outer s H E as μ Pp _ hr ⟨rfl, r, rfl, k⟩
  refine ssj_one (sj_ret (ej_if ?_))
  cases r with
  | lacks h g =>
    refine tj_cmp op_eq rfl (ej_ix ix_tup (fun _ _ => rfl) (ej_dat 0 rfl (ej_int (oj_ixT ⟨_, _, _, rfl, rfl, rfl, ej_str (oj_eq ⟨_, _, _, _, rfl, rfl, rfl, rfl, rfl, _, rfl, ?_⟩)⟩))))
    rw [lk1]
    exact ej_ix ix_tup (fun _ _ => rfl) (ej_dat 0 rfl (ej_int (oj_ixT ⟨_, _, _, rfl, rfl, rfl, k⟩)))
  | plan rows =>
    refine tj_cmp op_eq rfl (ej_ix ix_tup (fun _ _ => rfl) (ej_dat 0 rfl (ej_int (oj_ixT ⟨_, _, _, rfl, rfl, rfl, ej_str (oj_eq ⟨_, _, _, _, rfl, rfl, rfl, rfl, rfl, _, rfl, ?_⟩)⟩))))
    rw [lk2]
    exact ej_bin op_pow (ej_int (ej_int (oj_iC ⟨_, _, rfl, rfl, ⟨by decide, by decide, by decide⟩, k⟩)))

def aShifted : Ab := pu fun as p => ∃ (r : Res) (later often : Int), as = [.dat (resD r), .dat (.int later), .dat (.int often)] ∧ 0 ≤ often ∧ often ≤ 100 ∧ (∀ rows, r = .plan rows → rows.length ≤ 1000000) ∧ p (resD (shiftF later often r))
abbrev nShifted : List Str := ["_law_found", "_law_later", "_law_often", "_law_hour", "_law_beer", "_law_vessel"]
theorem scShifted : FnScope nShifted ["_law_found", "_law_later", "_law_often"] (defScope sShifted) := ⟨rfl, rfl, rfl, by decide +kernel, rfl, by decide +kernel, by decide +kernel⟩
theorem df_shifted {f : Addr} {fd : FuncData} (F : Fun K "_law_shifted" "_law_shifted" sShifted f fd) (hm : mg "_law_shifted" = some (.ref f)) (M : Bn mg) : Df P w K mg base B "_law_shifted" 1 ["_law_found", "_law_later", "_law_often"] aShifted := by
  refine df_mk F scShifted (mono_pu fun as p q h ⟨d, e, k1, k2, k3, k4, k5, k⟩ => ⟨d, e, k1, k2, k3, k4, k5, h _ k⟩) hm (F.binds fun _ _ _ _ _ _ us hl => match us, hl with | [_, _, _], _ => rfl) (fun as μ P ⟨_, d, e, q, h, _⟩ => by rw [h]; rfl) ?_
  rintro cdv A outer s H E as μ Pp _ hr ⟨rfl, r, later, often, rfl, ho1, ho2, hrl, k⟩
  cases r with
  | lacks h g =>
    refine ssj_cons (sj_ifP (k := true) (tj_cmp op_eq rfl (ej_ix ix_tup (fun _ _ => rfl) (ej_dat 0 rfl (ej_int (oj_ixT ⟨_, _, _, rfl, rfl, rfl, ej_str (oj_eq ⟨_, _, _, _, rfl, rfl, rfl, rfl, rfl, _, rfl, lk1, rfl⟩)⟩))))) (fun _ => ?_) fun h => nomatch h)
    refine ssj_one (sj_ret (ej_tup z3 ?_))
    refine aj_cons (ej_str (aj_cons ?_))
    refine ej_bin op_add (ej_ix ix_tup (fun _ _ => rfl) (ej_dat 0 rfl (ej_int (oj_ixT ⟨_, _, _, rfl, rfl, rfl, ej_dat 1 rfl (oj_i0 ⟨_, _, rfl, rfl, ?_⟩)⟩))))
    refine aj_cons (ej_bin op_mul (ej_ix ix_tup (fun _ _ => rfl) (ej_dat 0 rfl (ej_int (oj_ixT ⟨_, _, _, rfl, rfl, rfl, ej_dat 2 rfl (oj_iC ⟨_, _, rfl, rfl, .inr ⟨by omega, by omega⟩, aj_nil ⟨_, rfl, z3, k⟩⟩)⟩)))))
  | plan rows =>
    refine ssj_cons (sj_ifP (k := false) (tj_cmp op_eq rfl (ej_ix ix_tup (fun _ _ => rfl) (ej_dat 0 rfl (ej_int (oj_ixT ⟨_, _, _, rfl, rfl, rfl, ej_str (oj_eq ⟨_, _, _, _, rfl, rfl, rfl, rfl, rfl, _, rfl, lk2, rfl⟩)⟩))))) (fun h => nomatch h) fun _ => ?_)
    refine ssj_nil (ssj_one (sj_ret (ej_tup z2 ?_)))
    refine aj_cons (ej_str (aj_cons ?_))
    refine ej_lcF rwD (own := [("_law_hour", 3), ("_law_beer", 4), ("_law_vessel", 5)]) scShifted.nd (blkOk_by (N := nShifted) (sc := defScope sShifted) (by decide +kernel)) (ij_list (ej_ix ix_tup (fun _ _ => rfl) (ej_dat 0 rfl (ej_int (oj_ixT ⟨_, _, _, rfl, rfl, rfl, ?_⟩)))))
    refine ⟨_, rfl, rows, rfl, hrl rows rfl, fun r => some (rwD (r.1 + later, r.2)), fun t hd => lctM (fun s H C cl fp => ct_tup rfl (cts_cons (ct_name 3 (by decide) scShifted.nd) (cts_cons (ct_name 4 (by decide) scShifted.nd) (cts_cons (ct_name 5 (by decide) scShifted.nd) cts_nil)))) ?_, ?_⟩
    · intro s H C cl fp
      exact ej_tup z3 (aj_cons (ej_bin op_add (ej_dat 3 rfl (ej_dat 1 rfl (oj_i0 ⟨_, _, rfl, rfl, aj_cons (ej_dat 4 rfl (aj_cons (ej_dat 5 rfl (aj_nil ⟨_, rfl, z3, rfl, rfl⟩))))⟩)))))
    rw [fm_map]
    refine aj_nil ⟨_, rfl, z2, ?_⟩
    have e : rows.map (fun r : Row => rwD (r.1 + later, r.2)) = (rows.map fun r : Row => (r.1 + later, r.2)).map rwD := by rw [List.map_map]; rfl
    rw [e]
    exact k
end
end K43

set_option maxHeartbeats 4000000
/-! K21: _law_same of equal data; _law_due. -/
namespace K43
open PySem PySem.Spec PyProof.Rows L2
inductive Sd : Nat → D → Prop
  | int (n : Nat) (i : Int) : Sd n (.int i)
  | str (n : Nat) (x : Str) : Sd n (.str x)
  | lst {n : Nat} {ds : List D} : ds.length ≤ 1000000 → (∀ d ∈ ds, Sd n d) → Sd (n + 1) (.lst ds)
  | tup {n : Nat} {ds : List D} : ds.length ≤ 1000000 → (∀ d ∈ ds, Sd n d) → Sd (n + 1) (.tup ds)
theorem Sd.ns {n : Nat} {d : D} (h : Sd n d) : notScr d := fun _ z => by
  subst z
  cases h
def ddD (d : D) : D := .tup [d, d]
theorem zipD_self (ds : List D) : zipD ds ds = ds.map ddD := by
  unfold zipD
  induction ds with
  | nil => rfl
  | cons d ds ih => simp at ih ⊢; exact ⟨rfl, ih⟩
theorem bl_eq (b : Bool) : decide (V.bl b = V.bl b) = true := by simp
theorem bl_ne (b : Bool) : (!decide (V.bl b = V.bl b)) = false := by simp
theorem allTrue {α : Type} (ds : List α) : (ds.map fun _ => true).all id = true := by
  induction ds with
  | nil => rfl
  | cons d ds ih => rw [List.map_cons, List.all_cons, ih]; rfl

section
variable {P : Program} {w : World} {K : PySem.W.Frag} {mg : Str → Option Value} {base : Heap} {B : Tb}
def aSame (n : Nat) : Ab := pu fun as p => ∃ d, as = [.dat d, .dat d] ∧ Sd n d ∧ p (.bl true)
abbrev nSame : List Str := ["_law_found", "_law_due_here", "_law_one", "_law_other"]
theorem scSame : FnScope nSame ["_law_found", "_law_due_here"] (defScope sSame) := ⟨rfl, rfl, rfl, by decide +kernel, rfl, by decide +kernel, by decide +kernel⟩
theorem same_flat {f : Addr} {cdv : Value} {A : Around} {outer : List Env} {s : Shared} {H : Hp} {E : XK} {Pp : AV → Mem → Prop} (M : Bn mg) {d : D} {u : V} (hd : notScr d) (h1 : isLst d = false) (h2 : isTup d = false) (h3 : d.isN = false) (hf : d.flat = some u) (hu : scal u u = true) (k : Pp (.dat (.bl true)) []) :
    SsJ (cxOf CX0 P w K mg base nSame "_law_same" (defScope sSame) f cdv A outer s H E).nox B (defBody sSame) [.dat d, .dat d, .un, .un] [] { nx := fun _ μ' => Pp (.dat .non) μ', rt := Pp } := by
  refine ssj_cons (sj_ifP (k := false) (tj_of (by intro _; rfl) (ej_isi2 (x := "") M.isinstance M.list M.tuple rfl rfl (ej_dat 1 rfl ⟨_, _, _, rfl, hd, kit_list hd, kit_tuple hd, _, rfl, by rw [h1, h2]; rfl, rfl⟩))) (fun h => nomatch h) fun _ => ?_)
  refine ssj_nil (ssj_cons (sj_ifP (k := false) (tp_w (wp_or (k := false) (l := false) ?_ fun _ => wp_or1 ?_)) (fun h => nomatch h) fun _ => ?_))
  · exact tj_cmp op_isN rfl (ej_dat 1 rfl (ej_non (oj_isN ⟨_, rfl, rfl, _, rfl, h3, rfl⟩)))
  · exact tj_cmp op_isN rfl (ej_dat 0 rfl (ej_non (oj_isN ⟨_, rfl, rfl, _, rfl, h3, rfl⟩)))
  refine ssj_nil (ssj_cons (sj_ifP (k := false) (tj_cmp op_ne rfl ?_) (fun h => nomatch h) fun _ => ?_))
  · refine ej_isi M.isinstance M.bool rfl (ej_dat 1 rfl ⟨_, _, rfl, hd, kit_bool hd, ?_⟩)
    refine ej_isi M.isinstance M.bool rfl (ej_dat 0 rfl ⟨_, _, rfl, hd, kit_bool hd, ?_⟩)
    exact oj_ne ⟨_, _, _, _, rfl, rfl, rfl, rfl, rfl, _, rfl, bl_ne _, rfl⟩
  refine ssj_nil (ssj_one (sj_ret (ej_and (ej_cmp op_eq rfl ?_))))
  refine ej_isi M.isinstance M.str rfl (ej_dat 0 rfl ⟨_, _, rfl, hd, kit_str hd, ?_⟩)
  refine ej_isi M.isinstance M.str rfl (ej_dat 1 rfl ⟨_, _, rfl, hd, kit_str hd, ?_⟩)
  refine oj_eq ⟨_, _, _, _, rfl, rfl, rfl, rfl, rfl, _, rfl, ?_⟩
  rw [bl_eq]
  refine ej_one (ej_cmp op_eq rfl (ej_dat 0 rfl (ej_dat 1 rfl (oj_eq ⟨_, _, _, _, rfl, rfl, hf, hf, hu, ?_⟩))))
  rw [decide_eq_true rfl]
  exact k
theorem df_same {f : Addr} {fd : FuncData} (F : Fun K "_law_same" "_law_same" sSame f fd) (hm : mg "_law_same" = some (.ref f)) (M : Bn mg) : ∀ n : Nat, Df P w K mg base B "_law_same" (n + 1) ["_law_found", "_law_due_here"] (aSame n)
  | 0 => by
    refine df_mk F scSame (mono_pu fun as p q h ⟨d, e, s, k⟩ => ⟨d, e, s, h _ k⟩) hm (F.binds fun _ _ _ _ _ _ us hl => match us, hl with | [_, _], _ => rfl) (fun as μ P ⟨_, d, e, _⟩ => by rw [e]; rfl) ?_
    rintro cdv A outer s H E as μ Pp _ hr ⟨rfl, d, rfl, hs, k⟩
    cases hs with
    | int i => exact same_flat M (fun _ z => by cases z) rfl rfl rfl rfl rfl k
    | str x => exact same_flat M (fun _ z => by cases z) rfl rfl rfl rfl rfl k
  | n + 1 => by
    have IH := df_same F hm M n
    refine df_mk F scSame (mono_pu fun as p q h ⟨d, e, s, k⟩ => ⟨d, e, s, h _ k⟩) hm (F.binds fun _ _ _ _ _ _ us hl => match us, hl with | [_, _], _ => rfl) (fun as μ P ⟨_, d, e, _⟩ => by rw [e]; rfl) ?_
    rintro cdv A outer s H E as μ Pp _ hr ⟨rfl, d, rfl, hs, k⟩
    have hd := hs.ns
    cases hs with
    | int i => exact same_flat M (fun _ z => by cases z) rfl rfl rfl rfl rfl k
    | str x => exact same_flat M (fun _ z => by cases z) rfl rfl rfl rfl rfl k
    | @lst _ ds hl hel =>
      refine ssj_cons (sj_ifP (k := true) (tj_of (by intro _; rfl) (ej_isi2 (x := "") M.isinstance M.list M.tuple rfl rfl (ej_dat 1 rfl ⟨_, _, _, rfl, hd, kit_list hd, kit_tuple hd, _, rfl, rfl, rfl⟩))) (fun _ => ?_) fun h => nomatch h)
      refine ssj_cons (sj_ifP (k := false) (tp_w (wp_or (k := false) (l := false) (tj_cmp op_ne rfl ?_) fun _ => wp_or1 (tj_cmp op_ne rfl ?_))) (fun h => nomatch h) fun _ => ?_)
      · refine ej_isi M.isinstance M.list rfl (ej_dat 0 rfl ⟨_, _, rfl, hd, kit_list hd, ?_⟩)
        refine ej_isi M.isinstance M.list rfl (ej_dat 1 rfl ⟨_, _, rfl, hd, kit_list hd, ?_⟩)
        exact oj_ne ⟨_, _, _, _, rfl, rfl, rfl, rfl, rfl, _, rfl, bl_ne _, rfl⟩
      · refine ej_isi M.isinstance M.tuple rfl (ej_dat 0 rfl ⟨_, _, rfl, hd, kit_tuple hd, ?_⟩)
        refine ej_isi M.isinstance M.tuple rfl (ej_dat 1 rfl ⟨_, _, rfl, hd, kit_tuple hd, ?_⟩)
        exact oj_ne ⟨_, _, _, _, rfl, rfl, rfl, rfl, rfl, _, rfl, bl_ne _, rfl⟩
      refine ssj_nil (ssj_one (sj_ret (ej_and (ej_cmp op_eq rfl ?_))))
      refine ej_callB call_len_seq rfl M.len boot_len (aj_cons (ej_dat 0 rfl (aj_nil (cj_lenL ⟨_, _, rfl, .dat _, ?_⟩))))
      refine ej_callB call_len_seq rfl M.len boot_len (aj_cons (ej_dat 1 rfl (aj_nil (cj_lenL ⟨_, _, rfl, .dat _, ?_⟩))))
      refine oj_eq ⟨_, _, _, _, rfl, rfl, rfl, rfl, rfl, _, rfl, ?_⟩
      rw [decide_eq_true rfl]
      refine ej_one (ej_callB (cr_all rfl) rfl M.all rfl (aj_cons ?_))
      refine ej_lcF ddD (own := [("_law_one", 2), ("_law_other", 3)]) scSame.nd (blkOk_by (N := nSame) (sc := defScope sSame) (by decide +kernel)) (ij_zip M.zip (ej_dat 0 rfl (ej_dat 1 rfl ⟨_, _, .inl ⟨rfl, rfl⟩, _, zipD_self ds, hl, fun d => some (.bl true), fun d hdm => lctM (fun s H C cl fp => ct_tup rfl (cts_cons (ct_name 2 (by decide) scSame.nd) (cts_cons (ct_name 3 (by decide) scSame.nd) cts_nil))) ?_, ?_⟩)))
      · intro s H C cl fp
        exact ej_callP IH hr (aj_cons (ej_dat 2 rfl (aj_cons (ej_dat 3 rfl (aj_nil ⟨d, rfl, hel d hdm, rfl, rfl⟩)))))
      rw [fm_map]
      refine aj_nil (cj_all ⟨ds.map fun _ => true, by rw [List.map_map]; rfl, ?_⟩)
      rw [allTrue]
      exact k
    | @tup _ ds hl hel =>
      refine ssj_cons (sj_ifP (k := true) (tj_of (by intro _; rfl) (ej_isi2 (x := "") M.isinstance M.list M.tuple rfl rfl (ej_dat 1 rfl ⟨_, _, _, rfl, hd, kit_list hd, kit_tuple hd, _, rfl, rfl, rfl⟩))) (fun _ => ?_) fun h => nomatch h)
      refine ssj_cons (sj_ifP (k := false) (tp_w (wp_or (k := false) (l := false) (tj_cmp op_ne rfl ?_) fun _ => wp_or1 (tj_cmp op_ne rfl ?_))) (fun h => nomatch h) fun _ => ?_)
      · refine ej_isi M.isinstance M.list rfl (ej_dat 0 rfl ⟨_, _, rfl, hd, kit_list hd, ?_⟩)
        refine ej_isi M.isinstance M.list rfl (ej_dat 1 rfl ⟨_, _, rfl, hd, kit_list hd, ?_⟩)
        exact oj_ne ⟨_, _, _, _, rfl, rfl, rfl, rfl, rfl, _, rfl, bl_ne _, rfl⟩
      · refine ej_isi M.isinstance M.tuple rfl (ej_dat 0 rfl ⟨_, _, rfl, hd, kit_tuple hd, ?_⟩)
        refine ej_isi M.isinstance M.tuple rfl (ej_dat 1 rfl ⟨_, _, rfl, hd, kit_tuple hd, ?_⟩)
        exact oj_ne ⟨_, _, _, _, rfl, rfl, rfl, rfl, rfl, _, rfl, bl_ne _, rfl⟩
      refine ssj_nil (ssj_one (sj_ret (ej_and (ej_cmp op_eq rfl ?_))))
      refine ej_callB call_len_seq rfl M.len boot_len (aj_cons (ej_dat 0 rfl (aj_nil (cj_lenT ⟨_, rfl, ?_⟩))))
      refine ej_callB call_len_seq rfl M.len boot_len (aj_cons (ej_dat 1 rfl (aj_nil (cj_lenT ⟨_, rfl, ?_⟩))))
      refine oj_eq ⟨_, _, _, _, rfl, rfl, rfl, rfl, rfl, _, rfl, ?_⟩
      rw [decide_eq_true rfl]
      refine ej_one (ej_callB (cr_all rfl) rfl M.all rfl (aj_cons ?_))
      refine ej_lcF ddD (own := [("_law_one", 2), ("_law_other", 3)]) scSame.nd (blkOk_by (N := nSame) (sc := defScope sSame) (by decide +kernel)) (ij_zip M.zip (ej_dat 0 rfl (ej_dat 1 rfl ⟨_, _, .inr ⟨rfl, rfl⟩, _, zipD_self ds, hl, fun d => some (.bl true), fun d hdm => lctM (fun s H C cl fp => ct_tup rfl (cts_cons (ct_name 2 (by decide) scSame.nd) (cts_cons (ct_name 3 (by decide) scSame.nd) cts_nil))) ?_, ?_⟩)))
      · intro s H C cl fp
        exact ej_callP IH hr (aj_cons (ej_dat 2 rfl (aj_cons (ej_dat 3 rfl (aj_nil ⟨d, rfl, hel d hdm, rfl, rfl⟩)))))
      rw [fm_map]
      refine aj_nil (cj_all ⟨ds.map fun _ => true, by rw [List.map_map]; rfl, ?_⟩)
      rw [allTrue]
      exact k
theorem sd_res {r : Res} (h : ∀ rows, r = .plan rows → rows.length ≤ 1000000) : Sd 3 (resD r) := by
  cases r with
  | lacks a b =>
    refine .tup (by show 3 ≤ 1000000; decide) fun d hd => ?_
    simp at hd
    rcases hd with rfl | rfl | rfl
    · exact .str _ _
    · exact .int _ _
    · exact .int _ _
  | plan rows =>
    refine .tup (by show 2 ≤ 1000000; decide) fun d hd => ?_
    simp at hd
    rcases hd with rfl | rfl
    · exact .str _ _
    · refine .lst (by rw [List.length_map]; exact h rows rfl) fun d hd => ?_
      obtain ⟨r, _, rfl⟩ := List.mem_map.mp hd
      refine .tup (by show 3 ≤ 1000000; decide) fun d hd => ?_
      simp at hd
      rcases hd with rfl | rfl | rfl
      · exact .int _ _
      · exact .str _ _
      · exact .str _ _
end
end K43

set_option maxHeartbeats 4000000
/-! K22: _law_due. -/
namespace K43
open PySem PySem.Spec PyProof.Rows L2
theorem eqvAll_nil (ds : List D) : PyData.eqv (D.py (.lst ds)) (D.py (.lst [])) = decide (ds = []) := by
  cases ds with
  | nil => decide
  | cons d ds =>
    have : PyData.eqv (D.py (.lst (d :: ds))) (D.py (.lst [])) = false := by
      show PyData.eqv (.list (D.pys (d :: ds))) (.list (D.pys [])) = false
      unfold D.pys
      simp [PyData.eqv, PyData.eqvAll]
    rw [this]
    symm
    exact decide_eq_false (by simp)
theorem strs_plain : ∀ xs : List Str, D.plains (xs.map D.str) = true
  | [] => rfl
  | x :: xs => by
    show (D.plain (.str x) && D.plains (xs.map D.str)) = true
    rw [strs_plain xs]
    rfl
theorem strs_lay : ∀ xs : List Str, (∀ x ∈ xs, PyData.strOk x = true) → PyData.canLayAll0 (D.pys (xs.map D.str)) = true
  | [], _ => by simp [D.pys, PyData.canLayAll0]
  | x :: xs, h => by
    show PyData.canLayAll0 (D.py (.str x) :: D.pys (xs.map D.str)) = true
    unfold PyData.canLayAll0
    rw [strs_lay xs fun y hy => h y (by simp [hy])]
    have := h x (by simp)
    simp [D.py, PyData.canLay0, this]
theorem strs_depth : ∀ xs : List Str, PyData.depthAll (D.pys (xs.map D.str)) ≤ 1
  | [] => by simp [D.pys, PyData.depthAll]
  | x :: xs => by
    have := strs_depth xs
    show PyData.depthAll (D.py (.str x) :: D.pys (xs.map D.str)) ≤ 1
    simp only [PyData.depthAll, D.py, PyData.depth] at *
    omega
theorem strs_shaped {xs : List Str} (h : ∀ x ∈ xs, PyData.strOk x = true) : SeqAt.shaped (D.py (.lst (xs.map D.str))) = true := by
  unfold SeqAt.shaped
  rw [Bool.and_eq_true]
  refine ⟨?_, ?_⟩
  · show PyData.canLay0 (.list (D.pys (xs.map D.str))) = true
    unfold PyData.canLay0
    exact strs_lay xs h
  · have := strs_depth xs
    show decide (PyData.depth (.list (D.pys (xs.map D.str))) ≤ 64) = true
    simp only [PyData.depth]
    exact decide_eq_true (by omega)
theorem at_zero {α : Type} (x : α) (xs : List α) : atI (x :: xs) 0 = some x := atI_nat (j := 0) rfl
theorem rget_mem {vs : List Pr} (nd : (vs.map (·.1)).Nodup) {v : Pr} (h : v ∈ vs) : rget vs v.1 = some v.2 := by
  induction vs with
  | nil => simp at h
  | cons u vs ih =>
    rw [List.map_cons, List.nodup_cons] at nd
    unfold rget
    rcases List.mem_cons.mp h with rfl | h
    · rw [if_pos rfl]
    · have : u.1 ≠ v.1 := fun z => nd.1 (by rw [z]; exact List.mem_map.mpr ⟨v, h, rfl⟩)
      rw [if_neg this]
      exact ih nd.2 h
theorem nowF_take (bs rs : List Pr) {j : Nat} (h1 : j < bs.length) (h2 : j < rs.length) : nowF (bs.take (j + 1)) rs = nowF (bs.take j) rs ++ [((bs[j]).1, (rs[j]).1)] := by
  unfold nowF
  have e : ∀ (bs rs : List Pr) (j : Nat) (h1 : j < bs.length) (h2 : j < rs.length), (bs.take (j + 1)).zip rs = (bs.take j).zip rs ++ [(bs[j], rs[j])] := by
    intro bs
    induction bs with
    | nil => intro rs j h1; simp at h1
    | cons b bs ih =>
      intro rs j h1 h2
      cases rs with
      | nil => simp at h2
      | cons r rs =>
        cases j with
        | zero => simp
        | succ j =>
          rw [List.take_succ_cons, List.zip_cons_cons, ih rs j (by simpa using h1) (by simpa using h2), List.take_succ_cons, List.zip_cons_cons]
          rfl
  rw [e bs rs j h1 h2, List.map_append]
  rfl
theorem toAL_app (l m : SL) : toAL (l ++ m) = toAL l ++ toAL m := by
  unfold toAL
  rw [List.map_append]
theorem roomAL_pr (bs : List Pr) : bs.map siD = (roomAL bs).map prD := by
  unfold roomAL
  rw [List.map_map]
  rfl
theorem standing_nodup {ss : List Stay} (h : Int) (hn : (ss.map (·.1)).Nodup) : ((standing ss h).map (·.1)).Nodup := by
  have := standF_nodup h hn
  unfold standF at this
  rw [((greatest_perm (standing ss h)).map (·.1)).nodup_iff] at this
  exact this
theorem slook_val {l : SL} {x v : Str} (h : slook l x = some v) : v ∈ l.map (·.2) := by
  induction l with
  | nil => cases h
  | cons p l ih =>
    unfold slook at h
    by_cases e : p.1 = x
    · rw [if_pos e] at h
      cases h
      simp
    · rw [if_neg e] at h
      have := ih h
      simp at this ⊢
      exact .inr this
theorem nowF_vals (bs rs : List Pr) : ∀ v ∈ (nowF bs rs).map (·.2), v ∈ rs.map (·.1) := by
  intro v hv
  unfold nowF at hv
  rw [List.map_map] at hv
  obtain ⟨q, hq, rfl⟩ := List.mem_map.mp hv
  exact List.mem_map.mpr ⟨q.2, (List.of_mem_zip hq).2, rfl⟩

section
variable {P : Program} {w : World} {K : PySem.W.Frag} {mg : Str → Option Value} {base : Heap} {B : Tb}
def aDue : Ab := pu fun as p => ∃ (vs : List Pr) (ss : List Stay), as = [.dat (.lst (vs.map siD)), .dat (.lst (ss.map stD)), .dat (.lst ((hoursF ss).map .int))] ∧ VsOk vs ∧ vs.length ≤ 60 ∧ ss.length ≤ 60 ∧ (ss.map (·.1)).Nodup ∧ p (resD (housedF vs ss))
abbrev nDue : List Str := ["_law_vessels_here", "_law_stays_here", "_law_hours_here", "_law_vessel", "_law_room", "_law_rows", "_law_lying", "_law_room_by", "_law_hour", "_law_here", "_law_free", "_law_now", "_law_gallons_by", "_law_beer"]
theorem scDue : FnScope nDue ["_law_vessels_here", "_law_stays_here", "_law_hours_here"] (defScope sDue) := ⟨rfl, rfl, rfl, by decide +kernel, rfl, by decide +kernel, by decide +kernel⟩
theorem df_due {f : Addr} {fd : FuncData} (F : Fun K "_law_due" "_law_due" sDue f fd) (hm : mg "_law_due" = some (.ref f)) (M : Bn mg) (DG : Df P w K mg base B "_law_greatest" 1 ["_law_pairs"] aLGreatest) (DS : Df P w K mg base B "_law_standing" 1 ["_law_stays_here", "_law_hour"] aLStanding) :
    Df P w K mg base B "_law_due" 2 ["_law_vessels_here", "_law_stays_here", "_law_hours_here"] aDue := by
  refine df_mk F scDue (mono_pu fun as p q h ⟨d, e, k1, k2, k3, k4, k5, k⟩ => ⟨d, e, k1, k2, k3, k4, k5, h _ k⟩) hm (F.binds fun _ _ _ _ _ _ us hl => match us, hl with | [_, _, _], _ => rfl) (fun as μ P ⟨_, d, e, h, _⟩ => by rw [h]; rfl) ?_
  rintro cdv A outer s H E as μ Pp _ hr ⟨rfl, vs, ss, rfl, hv, hvl, hsl, hsn, k⟩
  have gvl : (greatest vs).length ≤ 60 := by rw [(greatest_perm vs).length_eq]; exact hvl
  have gmem : ∀ v ∈ greatest vs, v ∈ vs := fun v h => (greatest_perm vs).mem_iff.mp h
  have hhl : (hoursF ss).length ≤ 120 := by
    unfold hoursF
    refine Nat.le_trans (usort_length _) ?_
    rw [List.length_append, List.length_map, List.length_map]
    omega
  refine ssj_cons (sj_parT (n := 3) (aj_cons (ej_lst (aj_nil ⟨_, rfl, z0, aj_cons (ej_dic0 (aj_cons ?_))⟩))) z3)
  refine ej_callTy (call_dictP rfl) rfl M.dict rfl (aj_cons ?_)
  refine ej_lcF siD (own := [("_law_vessel", 3), ("_law_room", 4)]) scDue.nd (blkOk_by (N := nDue) (sc := defScope sDue) (by decide +kernel)) (ij_list (ej_dat 0 rfl ?_))
  refine ⟨_, rfl, vs, rfl, by omega, fun v => some (siD v), fun v hv => lctM (fun s H C cl fp => ct_tup rfl (cts_cons (ct_name 3 (by decide) scDue.nd) (cts_cons (ct_name 4 (by decide) scDue.nd) cts_nil))) ?_, ?_⟩
  · intro s H C cl fp
    exact ej_tup z2 (aj_cons (ej_dat 3 rfl (aj_cons (ej_dat 4 rfl (aj_nil ⟨_, rfl, z2, rfl, rfl⟩)))))
  rw [fm_map]
  refine aj_nil (cj_dict ⟨roomAL vs, by rw [← roomAL_pr], aj_nil ⟨rfl, ?_⟩⟩)
  rw [amerge_nodup (by unfold roomAL; rw [List.map_map]; exact hv.nd)]
  refine gsj_cons (gj_name 5 (gsj_cons (gj_name 6 (gsj_cons (gj_name 7 (gsj_nil ?_) scDue.nd)) scDue.nd)) scDue.nd)
  refine ssj_cons (sj_forL D.int (hoursF ss) PassesOwn.never (fun i Γ μ => ∃ (lying : SL) (rows : List Row) (a b c d e g : AV), Γ = [.dat (.lst (vs.map siD)), .dat (.lst (ss.map stD)), .dat (.lst ((hoursF ss).map .int)), .un, .un, .dat (.lst (rows.map rwD)), .dat (dicD (toAL lying)), .dat (dicD (roomAL vs)), a, b, c, d, e, g] ∧ μ = [] ∧ rows.length ≤ i * 60 ∧
    housedGo (greatest vs) ss ((hoursF ss).drop i) lying rows = housedF vs ss) (ij_list (ej_dat 2 rfl ⟨_, rfl, rfl, [], [], _, _, _, _, _, _, rfl, rfl, by simp, rfl⟩)) ?_ ?_)
  · rintro i h Γ2 μ2 hi ⟨lying, rows, a0, b0, c0, d0, e0, g0, rfl, rfl, hrows, inv⟩
    have hilt : i < (hoursF ss).length := (List.getElem?_eq_some_iff.mp hi).1
    have ed : (hoursF ss).drop i = h :: (hoursF ss).drop (i + 1) := by
      rw [List.drop_eq_getElem_cons hilt]
      congr 1
      exact (List.getElem?_eq_some_iff.mp hi).2
    rw [ed] at inv
    have hst := standF_sub ss h
    have hsg : (standing ss h).length ≤ 60 := by
      have e : (standF ss h).length = (standing ss h).length := (greatest_perm _).length_eq
      omega
    have hsnd := standing_nodup h hsn
    have hfnd := standF_nodup h hsn
    have sgmem : ∀ v ∈ standF ss h, v ∈ standing ss h := fun v hh => (greatest_perm _).mem_iff.mp hh
    refine gj_name 8 ?_ scDue.nd
    refine ssj_cons (sj_parT (n := 3) ?_ z3)
    refine aj_cons (ej_callP DS (hr.mono (by decide)) (aj_cons (ej_dat 1 rfl (aj_cons (ej_dat 8 rfl (aj_nil ⟨ss, h, rfl, by omega, ?_⟩))))))
    refine aj_cons (ej_call DG (hr.mono (by decide)) (aj_cons (ej_dat 0 rfl (aj_nil ⟨[], [], rfl, vs, rfl, rfl, by omega, fun q => ?_⟩))))
    refine aj_cons (ej_dic0M fun dd => aj_nil ⟨rfl, ?_⟩)
    refine gsj_cons (gj_name 9 (gsj_cons (gj_name 10 (gsj_cons (gj_name 11 (gsj_nil ?_) scDue.nd)) scDue.nd)) scDue.nd)
    refine ssj_cons (sj_set 12 ?_ scDue.nd)
    refine ej_callTy (call_dictP rfl) rfl M.dict rfl (aj_cons (ej_dat 9 rfl (aj_nil (cj_dict ⟨roomAL (standing ss h), by rw [← roomAL_pr], ?_⟩))))
    rw [amerge_nodup (by unfold roomAL; rw [List.map_map]; exact hsnd)]
    -- the beers, the greatest first
    refine ssj_cons (sj_forL D.str ((standF ss h).map (·.1)) PassesOwn.never (fun j Γ μ => ∃ (g : AV), Γ = [.dat (.lst (vs.map siD)), .dat (.lst (ss.map stD)), .dat (.lst ((hoursF ss).map .int)), .un, .un, .dat (.lst (rows.map rwD)), .dat (dicD (toAL lying)), .dat (dicD (roomAL vs)), .dat (.int h), .dat (.lst ((standing ss h).map siD)), .val (.ref q), .val (.ref dd), .dat (dicD (roomAL (standing ss h))), g] ∧
      μ = [(q, .lst ((((greatest vs).drop j).map (·.1)).map .str)), (dd, dicD (toAL (nowF ((standF ss h).take j) (greatest vs))))] ∧ firstLackF ((standF ss h).drop j) ((greatest vs).drop j) = firstLackF (standF ss h) (greatest vs) ∧ j ≤ (greatest vs).length) (ij_list (ej_freezeP ?_)) ?_ ?_)
    · refine ej_call DG (hr.mono (by decide)) (aj_cons (ej_dat 9 rfl (aj_nil ⟨[], _, rfl, standing ss h, rfl, rfl, by omega, fun q2 => ?_⟩)))
      refine ⟨q2, _, _, rfl, List.perm_append_comm, ?_⟩
      exact ⟨_, rfl, rfl, _, rfl, rfl, rfl, Nat.zero_le _⟩
    · rintro j beer Γ3 μ3 hj ⟨g, rfl, rfl, inv2, hjl⟩
      rw [List.getElem?_map] at hj
      cases hbs : (standF ss h)[j]? with
      | none => rw [hbs] at hj; cases hj
      | some bp =>
        rw [hbs] at hj
        cases hj
        have hjs : j < (standF ss h).length := (List.getElem?_eq_some_iff.mp hbs).1
        have ebp : (standF ss h)[j] = bp := (List.getElem?_eq_some_iff.mp hbs).2
        have ed2 : (standF ss h).drop j = bp :: (standF ss h).drop (j + 1) := by
          rw [List.drop_eq_getElem_cons hjs, ebp]
        have bmem : bp ∈ standing ss h := sgmem _ (by rw [← ebp]; exact List.getElem_mem hjs)
        have hgal : alook (roomAL (standing ss h)) bp.1 = some (.int bp.2) := by
          rw [alook_room, rget_mem hsnd bmem]
          rfl
        refine gj_name 13 ?_ scDue.nd
        by_cases hjv : j < (greatest vs).length
        · obtain ⟨vp, hvp⟩ : ∃ vp, (greatest vs)[j] = vp := ⟨_, rfl⟩
          have ed3 : (greatest vs).drop j = vp :: (greatest vs).drop (j + 1) := by
            rw [List.drop_eq_getElem_cons hjv, hvp]
          have vmem : vp ∈ vs := by
            rw [← hvp]
            exact gmem _ (List.getElem_mem hjv)
          have hroom : alook (roomAL vs) vp.1 = some (.int vp.2) := by
            rw [alook_room, rget_mem hv.nd vmem]
            rfl
          rw [ed3]
          rw [ed2, ed3] at inv2
          refine ssj_cons (sj_ifP (k := decide (vp.2 < bp.2)) (tp_w (wp_or (k := false) (l := decide (vp.2 < bp.2)) ?_ fun _ => wp_or1 ?_)) (fun hk => ?_) fun hk => ?_)
          · refine tj_cmp (op_eqD hr.units) rfl (ej_val 10 rfl (ej_lst (aj_nil ⟨[], rfl, z0, ?_⟩)))
            refine oj_eqD ⟨_, _, .mem (j := 0) rfl, .dat _, strs_plain _, rfl, strs_shaped ?_, by decide, _, rfl, ?_, rfl⟩
            · intro x hx
              obtain ⟨v, hv1, rfl⟩ := List.mem_map.mp hx
              rw [← ed3] at hv1
              exact (hv.nm v (gmem v (List.mem_of_mem_drop hv1))).ok
            · rw [eqvAll_nil]
              exact decide_eq_false (by simp)
          · refine tj_cmp op_lt rfl (ej_dget (hu_of hr) (fun _ _ => rfl) (ej_dat 7 rfl ?_))
            refine ej_ix ix_list (fun _ _ => rfl) (ej_val 10 rfl (ej_int (oj_ixL ⟨_, _, _, .mem (j := 0) rfl, rfl, at_zero _ _, ?_⟩)))
            refine ⟨roomAL vs, _, _, .dat _, rfl, hroom, ?_⟩
            refine ej_dget (hu_of hr) (fun _ _ => rfl) (ej_dat 12 rfl (ej_dat 13 rfl ⟨roomAL (standing ss h), _, _, .dat _, rfl, hgal, oj_b0 ⟨_, _, rfl, rfl, _, rfl, rfl, rfl⟩⟩))
          · have hlt : vp.2 < bp.2 := of_decide_eq_true hk
            have ef : firstLackF (standF ss h) (greatest vs) = some bp.2 := by
              rw [← inv2]
              show (if _ then _ else _) = _
              rw [if_pos hlt]
            have er : housedF vs ss = .lacks h bp.2 := by
              rw [← inv]
              unfold housedGo
              rw [ef]
            rw [er] at k
            refine ssj_sub (ν := []) (List.nil_sublist _) (ssj_one (sj_ret (ej_tup z3 ?_)))
            refine aj_cons (ej_str (aj_cons (ej_dat 8 rfl (aj_cons ?_))))
            exact ej_dget (hu_of hr) (fun _ _ => rfl) (ej_dat 12 rfl (ej_dat 13 rfl ⟨roomAL (standing ss h), _, _, .dat _, rfl, hgal, aj_nil ⟨_, rfl, z3, k⟩⟩))
          · have hlt : ¬ vp.2 < bp.2 := of_decide_eq_false hk
            have inv3 : firstLackF ((standF ss h).drop (j + 1)) ((greatest vs).drop (j + 1)) = firstLackF (standF ss h) (greatest vs) := by
              rw [← inv2]
              show _ = (if _ then _ else _)
              rw [if_neg hlt]
            have hnl : ((standF ss h).take j).length = j := by rw [List.length_take]; omega
            have hkeys : (toAL (nowF ((standF ss h).take j) (greatest vs))).map Prod.fst = ((standF ss h).map (·.1)).take j := by
              have e1 : (toAL (nowF ((standF ss h).take j) (greatest vs))).map Prod.fst = (nowF ((standF ss h).take j) (greatest vs)).map (·.1) := by
                unfold toAL
                rw [List.map_map]
                rfl
              rw [e1, nowF_keys, List.map_take, List.take_take]
              congr 1
              omega
            have hfresh : bp.1 ∉ (toAL (nowF ((standF ss h).take j) (greatest vs))).map Prod.fst := by
              rw [hkeys]
              intro hm
              obtain ⟨i', hi'⟩ := List.mem_iff_getElem?.mp hm
              rw [List.getElem?_take] at hi'
              by_cases hij : i' < j
              · rw [if_pos hij] at hi'
                have h2 : ((standF ss h).map (·.1))[j]? = some bp.1 := by rw [List.getElem?_map, hbs]; rfl
                exact absurd (nd_ix hfnd hi' h2) (by omega)
              · rw [if_neg hij] at hi'
                cases hi'
            have hnlen : (toAL (nowF ((standF ss h).take j) (greatest vs))).length < 1000000 := by
              have := congrArg List.length hkeys
              rw [List.length_map, List.length_take, List.length_map] at this
              omega
            refine ssj_nil (ssj_one (sj_dput (hu_of hr) ?_))
            refine ej_bm PySem.F.plainAttrs_list PySem.F.slot_list_pop PySem.F.type_list_pop mt_popAt (ej_val 10 rfl ⟨.lst (.mem (j := 0) rfl), aj_cons (ej_int (aj_nil (mj_pop0 ⟨0, q, _, _, rfl, rfl, rfl, ?_⟩)))⟩)
            refine ej_val 11 rfl (ej_dat 13 rfl ⟨1, dd, _, _, _, rfl, rfl, rfl, rfl, hnlen, ?_⟩)
            rw [aput_new hfresh]
            refine ⟨_, rfl, ?_, inv3, by omega⟩
            have e2 : nowF ((standF ss h).take (j + 1)) (greatest vs) = nowF ((standF ss h).take j) (greatest vs) ++ [(bp.1, vp.1)] := by
              rw [nowF_take _ _ hjs hjv, ebp, hvp]
            rw [e2, toAL_app]
            rfl
        · have ed3 : (greatest vs).drop j = [] := List.drop_eq_nil_of_le (by omega)
          rw [ed3]
          rw [ed2, ed3] at inv2
          refine ssj_cons (sj_ifP (k := true) (tp_w (wp_or (k := true) (l := true) ?_ fun h => nomatch h)) (fun hk => ?_) fun hk => nomatch hk)
          · refine tj_cmp (op_eqD hr.units) rfl (ej_val 10 rfl (ej_lst (aj_nil ⟨[], rfl, z0, ?_⟩)))
            exact oj_eqD ⟨_, _, .mem (j := 0) rfl, .dat _, rfl, rfl, by decide, by decide, _, rfl, eqvAll_nil _, rfl⟩
          · have ef : firstLackF (standF ss h) (greatest vs) = some bp.2 := by
              rw [← inv2]
              rfl
            have er : housedF vs ss = .lacks h bp.2 := by
              rw [← inv]
              unfold housedGo
              rw [ef]
            rw [er] at k
            refine ssj_sub (ν := []) (List.nil_sublist _) (ssj_one (sj_ret (ej_tup z3 ?_)))
            refine aj_cons (ej_str (aj_cons (ej_dat 8 rfl (aj_cons ?_))))
            exact ej_dget (hu_of hr) (fun _ _ => rfl) (ej_dat 12 rfl (ej_dat 13 rfl ⟨roomAL (standing ss h), _, _, .dat _, rfl, hgal, aj_nil ⟨_, rfl, z3, k⟩⟩))
    · rintro Γ3 μ3 ⟨g, rfl, rfl, inv2, hjl⟩
      rw [List.length_map] at inv2 hjl
      rw [List.length_map, List.take_length]
      rw [List.drop_length] at inv2
      have hx : firstLackF (standF ss h) (greatest vs) = none := inv2.symm
      refine ssj_freeze (μ := [(q, _)]) 11 rfl ?_
      refine ssj_sub (ν := []) (List.nil_sublist _) ?_
      have hnow : ((nowF (standF ss h) (greatest vs)).map (·.1)).Nodup := by
        rw [nowF_keys]
        exact List.Nodup.sublist (List.take_sublist _ _) hfnd
      have hnl : (nowF (standF ss h) (greatest vs)).length ≤ 60 := by
        have := congrArg List.length (nowF_keys (standF ss h) (greatest vs))
        rw [List.length_map, List.length_take, List.length_map] at this
        omega
      have hkey : (toAL (nowF (standF ss h) (greatest vs))).map Prod.fst = (nowF (standF ss h) (greatest vs)).map (·.1) := by
        unfold toAL
        rw [List.map_map]
        rfl
      have hne : ∀ b v, slook (nowF (standF ss h) (greatest vs)) b = some v → v ≠ "" := fun b v hb z => by
        have h1 := nowF_vals _ _ v (slook_val hb)
        obtain ⟨u, hu, e⟩ := List.mem_map.mp h1
        have h2 := (hv.nm u (gmem u hu)).lo
        rw [e, z] at h2
        exact absurd h2 (by decide +kernel)
      refine ssj_cons (sj_set 5 ?_ scDue.nd)
      refine ej_bin op_cat (ej_dat 5 rfl ?_)
      refine ej_lcF D.str (own := [("_law_beer", 13)]) scDue.nd (blkOk_by (N := nDue) (sc := defScope sDue) (by decide +kernel)) (ij_list (ej_callB (call_sortedD rfl) rfl M.sorted rfl (aj_cons (ej_dat 11 rfl (aj_nil (cj_sortD ⟨_, _, rfl, .dat _, ?_, _, rfl, ?_⟩))))))
      · unfold toAL
        rw [List.length_map]
        omega
      rw [hkey]
      refine ⟨_, rfl, ?_, fun b => cond (!decide (slook lying b = slook (nowF (standF ss h) (greatest vs)) b)) (some (rwD (h, b, (slook (nowF (standF ss h) (greatest vs)) b).getD ""))) none, fun b hb => ?_, ?_⟩
      · rw [(ssort_perm _).length_eq, List.length_map]
        omega
      · have hb' : b ∈ (nowF (standF ss h) (greatest vs)).map (·.1) := (ssort_perm _).mem_iff.mp hb
        obtain ⟨v, hv'⟩ := slook_mem hb'
        have ha : alook (toAL (nowF (standF ss h) (greatest vs))) b = some (.str v) := by rw [alook_toAL, hv']; rfl
        refine lctF (fun s H C cl fp => ct_name 13 (by decide) scDue.nd) ?_ ?_
        · intro s H C cl fp
          refine tj_cmp op_ne rfl (ej_get2 (hu_of hr) (ej_dat 6 rfl ⟨toAL lying, .dat _, ej_dat 13 rfl ⟨b, rfl, rfl, ?_⟩⟩))
          refine ej_dget (hu_of hr) (fun _ _ => rfl) (ej_dat 11 rfl (ej_dat 13 rfl ⟨_, b, _, .dat _, rfl, ha, ?_⟩))
          rw [alook_toAL, hv']
          cases qq : slook lying b with
          | none =>
            refine oj_ne ⟨_, _, _, _, rfl, rfl, rfl, rfl, rfl, _, rfl, ?_, rfl⟩
            have : ¬ (V.str "" = V.str v) := fun z => by
              injection z with z
              exact hne b v hv' z.symm
            rw [decide_eq_false this]
            simp
          | some u => exact oj_ne ⟨_, _, _, _, rfl, rfl, rfl, rfl, rfl, _, rfl, by simp, rfl⟩
        · intro _ s H C cl fp
          refine ej_tup z3 (aj_cons (ej_dat 8 rfl (aj_cons (ej_dat 13 rfl (aj_cons (ej_dget (hu_of hr) (fun _ _ => rfl) (ej_dat 11 rfl (ej_dat 13 rfl ⟨_, b, _, .dat _, rfl, ha, aj_nil ⟨_, rfl, z3, ?_, rfl⟩⟩))))))))
          rw [hv']
          rfl
      rw [fm_if]
      have enr : ((ssort ((nowF (standF ss h) (greatest vs)).map (·.1))).filter fun b => !decide (slook lying b = slook (nowF (standF ss h) (greatest vs)) b)).map (fun b => rwD (h, b, (slook (nowF (standF ss h) (greatest vs)) b).getD "")) = (newRows h (nowF (standF ss h) (greatest vs)) lying).map rwD := by
        unfold newRows
        rw [List.map_map]
        rfl
      rw [enr]
      have hrl := newRows_len h (nowF (standF ss h) (greatest vs)) lying
      refine oj_cat ⟨_, _, .dat _, .dat _, ?_, ?_⟩
      · rw [List.length_map, List.length_map]
        exact zM (by omega)
      rw [← List.map_append]
      refine ssj_one (sj_set 6 (ej_dat 11 rfl ?_) scDue.nd)
      refine ⟨nowF (standF ss h) (greatest vs), rows ++ newRows h (nowF (standF ss h) (greatest vs)) lying, _, _, _, _, _, _, rfl, rfl, ?_, ?_⟩
      · rw [List.length_append]
        omega
      · rw [← inv]
        conv => rhs; unfold housedGo
        rw [hx]
  · rintro Γ2 μ2 ⟨lying, rows, a, b, c, d, e, g, rfl, rfl, hrows, inv⟩
    rw [List.drop_length] at inv
    have e1 : housedF vs ss = .plan rows := inv.symm
    rw [e1] at k
    exact ssj_one (sj_ret (ej_tup z2 (aj_cons (ej_str (aj_cons (ej_dat 5 rfl (aj_nil ⟨_, rfl, z2, k⟩)))))))
end
end K43

set_option maxHeartbeats 4000000
/-! K23: _law_is_row. -/
namespace K43
open PySem PySem.Spec PyProof.Rows L2
abbrev sIsRow : Stmt := top 27
theorem eqv_str (x : Str) : ∀ b : D, b.plain = true → PyData.eqv (D.py (.str x)) b.py = (match b with | .str y => decide (x = y) | _ => false)
  | .non, _ => by simp [D.py, PyData.eqv]
  | .bl _, _ => by simp [D.py, PyData.eqv]
  | .int _, _ => by simp [D.py, PyData.eqv]
  | .str y, _ => by
    simp only [D.py, PyData.eqv]
    by_cases h : x = y
    · simp [h]
    · simp [h]
  | .lst _, _ => by simp [D.py, PyData.eqv]
  | .tup _, _ => by simp [D.py, PyData.eqv]
  | .dic _ _, h => by cases h
  | .scr _, h => by cases h
theorem str_shaped {x : Str} (h : PyData.strOk x = true) : SeqAt.shaped (D.py (.str x)) = true := by
  unfold SeqAt.shaped
  rw [Bool.and_eq_true]
  refine ⟨?_, ?_⟩
  · simp [D.py, PyData.canLay0, h]
  · simp [D.py, PyData.depth]
theorem sget_some {ss : List Stay} {x : Str} {s : Stay} (h : sget ss x = some s) : s ∈ ss ∧ s.1 = x := by
  induction ss with
  | nil => cases h
  | cons t ss ih =>
    unfold sget at h
    by_cases e : t.1 = x
    · rw [if_pos e] at h
      cases h
      exact ⟨by simp, e⟩
    · rw [if_neg e] at h
      obtain ⟨h1, h2⟩ := ih h
      exact ⟨by simp [h1], h2⟩
theorem rget_some {vs : List Pr} {x : Str} {r : Int} (h : rget vs x = some r) : (x, r) ∈ vs := by
  induction vs with
  | nil => cases h
  | cons t ss ih =>
    unfold rget at h
    by_cases e : t.1 = x
    · rw [if_pos e] at h
      cases h
      subst e
      simp
    · rw [if_neg e] at h
      have := ih h
      simp [this]
theorem sget_filter {ss : List Stay} (nd : (ss.map (·.1)).Nodup) (x : Str) (c : Stay → Bool) : ss.filter (fun t => decide (t.1 = x) && c t) = (match sget ss x with | some s => cond (c s) [s] [] | none => []) := by
  induction ss with
  | nil => rfl
  | cons t ss ih =>
    rw [List.map_cons, List.nodup_cons] at nd
    rw [List.filter_cons]
    unfold sget
    by_cases e : t.1 = x
    · rw [if_pos e]
      have h0 : ss.filter (fun t => decide (t.1 = x) && c t) = [] := by
        rw [List.filter_eq_nil_iff]
        intro u hu
        have : u.1 ≠ x := fun z => nd.1 (by rw [e, ← z]; exact List.mem_map.mpr ⟨u, hu, rfl⟩)
        simp [this]
      rw [h0]
      cases hc : c t <;> simp [e, hc]
    · rw [if_neg e]
      simp only [e, decide_false, Bool.false_and]
      exact ih nd.2
theorem rget_filter {vs : List Pr} (nd : (vs.map (·.1)).Nodup) (x : Str) : (vs.filter fun t => decide (t.1 = x)).map (·.2) = (match rget vs x with | some r => [r] | none => []) := by
  induction vs with
  | nil => rfl
  | cons t ss ih =>
    rw [List.map_cons, List.nodup_cons] at nd
    rw [List.filter_cons]
    unfold rget
    by_cases e : t.1 = x
    · rw [if_pos e]
      have h0 : ss.filter (fun t => decide (t.1 = x)) = [] := by
        rw [List.filter_eq_nil_iff]
        intro u hu
        have : u.1 ≠ x := fun z => nd.1 (by rw [e, ← z]; exact List.mem_map.mpr ⟨u, hu, rfl⟩)
        simp [this]
      rw [h0]
      simp [e]
    · rw [if_neg e]
      simp only [e, decide_false]
      exact ih nd.2
def strIs (b : D) (x : Str) : Bool := match b with
  | .str y => decide (x = y)
  | _ => false
def gPart (ss : List Stay) (h : Int) (b : D) : List Int := (ss.filter fun t => strIs b t.1 && (decide (t.2.2.1 ≤ h) && decide (h < t.2.2.2))).map (·.2.1)
def rPart (vs : List Pr) (c : D) : List Int := (vs.filter fun t => strIs c t.1).map (·.2)
def fin2 : List Int → List Int → Bool
  | [g], [r] => decide (g ≤ r)
  | _, _ => false
theorem fin2_ok {vs : List Pr} {ss : List Stay} (hv : (vs.map (·.1)).Nodup) (hs : (ss.map (·.1)).Nodup) (h : Int) (b c : D) : fin2 (gPart ss h b) (rPart vs c) = planRowF vs ss (.tup [.int h, b, c]) := by
  have gn : ∀ b : D, isStr b = false → gPart ss h b = [] := fun b hb => by
    unfold gPart
    rw [List.map_eq_nil_iff, List.filter_eq_nil_iff]
    intro t _
    cases b <;> first
      | (simp [strIs]; done)
      | cases hb
  have rn : ∀ c : D, isStr c = false → rPart vs c = [] := fun c hb => by
    unfold rPart
    rw [List.map_eq_nil_iff, List.filter_eq_nil_iff]
    intro t _
    cases c <;> first
      | (simp [strIs]; done)
      | cases hb
  cases hb : isStr b with
  | false =>
    rw [gn b hb]
    have e : planRowF vs ss (.tup [.int h, b, c]) = false := by
      cases b <;> first
        | rfl
        | cases hb
    rw [e]
    rfl
  | true =>
    obtain ⟨x, rfl⟩ := isStr_inv hb
    cases hc : isStr c with
    | false =>
      rw [rn c hc]
      have e : planRowF vs ss (.tup [.int h, .str x, c]) = false := by
        cases c <;> first
          | rfl
          | cases hc
      rw [e]
      cases gPart ss h (.str x) with
      | nil => rfl
      | cons a l => cases l <;> rfl
    | true =>
      obtain ⟨y, rfl⟩ := isStr_inv hc
      show _ = rowOk vs ss h x y
      have e1 : gPart ss h (.str x) = (match sget ss x with | some s => cond (decide (s.2.2.1 ≤ h) && decide (h < s.2.2.2)) [s.2.1] [] | none => []) := by
        unfold gPart
        have e0 : (fun t : Stay => strIs (.str x) t.1 && (decide (t.2.2.1 ≤ h) && decide (h < t.2.2.2))) = fun t => decide (t.1 = x) && (decide (t.2.2.1 ≤ h) && decide (h < t.2.2.2)) := rfl
        rw [e0, sget_filter hs]
        cases sget ss x with
        | none => rfl
        | some s =>
          dsimp only
          cases (decide (s.2.2.1 ≤ h) && decide (h < s.2.2.2)) <;> rfl
      have e2 : rPart vs (.str y) = (match rget vs y with | some r => [r] | none => []) := rget_filter hv y
      rw [e1, e2]
      unfold rowOk
      cases sget ss x with
      | none => rfl
      | some s =>
        cases rget vs y with
        | none =>
          dsimp only
          cases (decide (s.2.2.1 ≤ h) && decide (h < s.2.2.2)) <;> rfl
        | some r =>
          dsimp only
          cases (decide (s.2.2.1 ≤ h) && decide (h < s.2.2.2)) <;> rfl
theorem one_ne {n : Nat} (h : n ≠ 1) : decide (V.int (n : Nat) = V.int 1) = false := decide_eq_false fun z => by
  injection z with z
  omega

section
variable {P : Program} {w : World} {K : PySem.W.Frag} {mg : Str → Option Value} {base : Heap} {B : Tb}
def aIsRow : Ab := pu fun as p => ∃ (vs : List Pr) (ss : List Stay) (row : D), as = [.dat row, .dat (.lst (vs.map siD)), .dat (.lst (ss.map stD))] ∧ OkRow row ∧ vs.length ≤ 60 ∧ ss.length ≤ 60 ∧ (vs.map (·.1)).Nodup ∧ (ss.map (·.1)).Nodup ∧ (∀ v ∈ vs, Nm v.1) ∧ (∀ s ∈ ss, Nm s.1) ∧ p (.bl (planRowF vs ss row))
abbrev nIsRow : List Str := ["_law_thing", "_law_vessels_here", "_law_stays_here", "_law_stay", "_law_gallons", "_law_vessel", "_law_room", "_law_rooms"]
theorem scIsRow : FnScope nIsRow ["_law_thing", "_law_vessels_here", "_law_stays_here"] (defScope sIsRow) := ⟨rfl, rfl, rfl, by decide +kernel, rfl, by decide +kernel, by decide +kernel⟩
theorem df_isRow {f : Addr} {fd : FuncData} (F : Fun K "_law_is_row" "_law_is_row" sIsRow f fd) (hm : mg "_law_is_row" = some (.ref f)) (M : Bn mg) : Df P w K mg base B "_law_is_row" 1 ["_law_thing", "_law_vessels_here", "_law_stays_here"] aIsRow := by
  refine df_mk F scIsRow (mono_pu fun as p q h ⟨d, e, r, k1, k2, k3, k4, k5, k6, k7, k8, k⟩ => ⟨d, e, r, k1, k2, k3, k4, k5, k6, k7, k8, h _ k⟩) hm (F.binds fun _ _ _ _ _ _ us hl => match us, hl with | [_, _, _], _ => rfl) (fun as μ P ⟨_, d, e, r, h, _⟩ => by rw [h]; rfl) ?_
  rintro cdv A outer s H E as μ Pp _ hr ⟨rfl, vs, ss, row, rfl, ok, hvl, hsl, hv, hs, nv, ns, k⟩
  cases hT : isTup row with
  | false =>
    have e : planRowF vs ss row = false := by
      cases row <;> first
        | rfl
        | cases hT
    rw [e] at k
    exact ssj_cons (sj_ifP (k := true) (tp_w (wp_or (k := true) (l := true) (tp_not (k := false) (tj_of (by intro _; rfl) (ej_isi M.isinstance M.tuple rfl (ej_dat 0 rfl ⟨_, _, rfl, ok.ns, kit_tuple ok.ns, _, rfl, hT, rfl⟩)))) fun h => nomatch h)) (fun _ => ssj_one (sj_ret (ej_bl k))) fun h => nomatch h)
  | true =>
    obtain ⟨ds, rfl⟩ := isTup_inv hT
    by_cases hl : ds.length = 3
    · obtain ⟨a, b, c, rfl⟩ := len3_inv hl
      obtain ⟨na, pa, sa⟩ := ok.el _ rfl a (by simp)
      obtain ⟨nb, pb, sb⟩ := ok.el _ rfl b (by simp)
      obtain ⟨nc, pc, sc⟩ := ok.el _ rfl c (by simp)
      have hnum : (isBl a || !isIntL a) = !isNum a := by cases a <;> rfl
      refine ssj_cons (sj_ifP (k := !isNum a) (tp_w (wp_or (k := false) (l := !isNum a) (tp_not (k := true) (tj_of (by intro _; rfl) (ej_isi M.isinstance M.tuple rfl (ej_dat 0 rfl ⟨_, _, rfl, ok.ns, kit_tuple ok.ns, _, rfl, rfl, rfl⟩)))) fun _ => wp_or (k := false) (l := !isNum a) ?_ fun _ => ?_)) (fun hk => ?_) fun hk => ?_)
      · exact tj_cmp op_ne rfl (ej_callB call_len_seq rfl M.len boot_len (aj_cons (ej_dat 0 rfl (aj_nil (cj_lenT ⟨_, rfl, ej_int (oj_ne ⟨_, _, _, _, rfl, rfl, rfl, rfl, rfl, _, rfl, rfl, rfl⟩)⟩)))))
      · rw [← hnum]
        refine wp_or (k := isBl a) (l := !isIntL a) (tj_of (by intro _; rfl) ?_) fun _ => wp_or1 (tp_not (k := isIntL a) (tj_of (by intro _; rfl) ?_))
        · exact ej_isi M.isinstance M.bool rfl (ej_ix ix_tup (fun _ _ => rfl) (ej_dat 0 rfl (ej_int (oj_ixT ⟨_, _, _, rfl, rfl, rfl, _, _, rfl, na, kit_bool na, _, rfl, rfl, rfl⟩))))
        · exact ej_isi M.isinstance M.int rfl (ej_ix ix_tup (fun _ _ => rfl) (ej_dat 0 rfl (ej_int (oj_ixT ⟨_, _, _, rfl, rfl, rfl, _, _, rfl, na, kit_int na, _, rfl, rfl, rfl⟩))))
      · have e : planRowF vs ss (.tup [a, b, c]) = false := by
          cases a <;> first
            | rfl
            | cases hk
        rw [e] at k
        exact ssj_one (sj_ret (ej_bl k))
      · have hn : isNum a = true := by
          cases q : isNum a with
          | true => rfl
          | false => rw [q] at hk; cases hk
        obtain ⟨h, rfl⟩ := isNum_inv hn
        refine ssj_nil (ssj_cons ?_)
        refine sj_setLcF stD (i := 4) (own := [("_law_stay", 3)]) scIsRow.nd (blkOk_by (N := nIsRow) (sc := defScope sIsRow) (by decide +kernel)) (ij_list (ej_dat 2 rfl ?_))
        refine ⟨_, rfl, ss, rfl, by omega, fun t => cond (strIs b t.1 && (decide (t.2.2.1 ≤ h) && decide (h < t.2.2.2))) (some (.int t.2.1)) none, fun t ht => lctF (fun s H C cl fp => ct_name 3 (by decide) scIsRow.nd) ?_ ?_, ?_⟩
        · intro s H C cl fp
          refine tp_w (wp_and (k := strIs b t.1) (l := decide (t.2.2.1 ≤ h) && decide (h < t.2.2.2)) ?_ fun _ => wp_and1 ?_)
          · refine tj_cmp (op_eqD hr.units) rfl (ej_ix ix_tup (fun _ _ => rfl) (ej_dat 3 rfl (ej_int (oj_ixT ⟨_, _, _, rfl, rfl, rfl, ?_⟩))))
            refine ej_ix ix_tup (fun _ _ => rfl) (ej_dat 0 rfl (ej_int (oj_ixT ⟨_, _, _, rfl, rfl, rfl, ?_⟩)))
            exact oj_eqD ⟨_, _, .dat _, .dat _, rfl, pb, str_shaped (ns t ht).ok, sb, _, rfl, eqv_str t.1 b pb, rfl⟩
          · refine tj_chain op_le op_lt rfl (ej_ix ix_tup (fun _ _ => rfl) (ej_dat 3 rfl (ej_int (oj_ixT ⟨_, _, _, rfl, rfl, rfl, ?_⟩))))
            refine ⟨_, rfl, ej_ix ix_tup (fun _ _ => rfl) (ej_dat 0 rfl (ej_int (oj_ixT ⟨_, _, _, rfl, rfl, rfl, ?_⟩)))⟩
            exact ⟨_, rfl, _, ej_ix ix_tup (fun _ _ => rfl) (ej_dat 3 rfl (ej_int (oj_ixT ⟨_, _, _, rfl, rfl, rfl, rfl, rfl⟩))), rfl, rfl⟩
        · intro _ s H C cl fp
          exact ej_ix ix_tup (fun _ _ => rfl) (ej_dat 3 rfl (ej_int (oj_ixT ⟨_, _, _, rfl, rfl, rfl, rfl, rfl⟩)))
        rw [fm_if]
        have eg : (ss.filter fun t => strIs b t.1 && (decide (t.2.2.1 ≤ h) && decide (h < t.2.2.2))).map (fun t : Stay => D.int t.2.1) = (gPart ss h b).map .int := by
          unfold gPart
          rw [List.map_map]
          rfl
        rw [eg]
        refine ssj_cons ?_
        refine sj_setLcF siD (i := 7) (own := [("_law_vessel", 5), ("_law_room", 6)]) scIsRow.nd (blkOk_by (N := nIsRow) (sc := defScope sIsRow) (by decide +kernel)) (ij_list (ej_dat 1 rfl ?_))
        refine ⟨_, rfl, vs, rfl, by omega, fun t => cond (strIs c t.1) (some (.int t.2)) none, fun t ht => lctF (fun s H C cl fp => ct_tup rfl (cts_cons (ct_name 5 (by decide) scIsRow.nd) (cts_cons (ct_name 6 (by decide) scIsRow.nd) cts_nil))) ?_ ?_, ?_⟩
        · intro s H C cl fp
          refine tj_cmp (op_eqD hr.units) rfl (ej_dat 5 rfl ?_)
          refine ej_ix ix_tup (fun _ _ => rfl) (ej_dat 0 rfl (ej_int (oj_ixT ⟨_, _, _, rfl, rfl, rfl, ?_⟩)))
          exact oj_eqD ⟨_, _, .dat _, .dat _, rfl, pc, str_shaped (nv t ht).ok, sc, _, rfl, eqv_str t.1 c pc, rfl⟩
        · intro _ s H C cl fp
          exact ej_dat 6 rfl ⟨rfl, rfl⟩
        rw [fm_if]
        have er : (vs.filter fun t => strIs c t.1).map (fun t : Pr => D.int t.2) = (rPart vs c).map .int := by
          unfold rPart
          rw [List.map_map]
          rfl
        rw [er]
        have ef := fin2_ok hv hs h b c
        rw [← ef] at k
        clear ef eg er
        generalize gPart ss h b = G at k ⊢
        generalize rPart vs c = R at k ⊢
        refine ssj_one (sj_ret (ej_and (ej_cmp op_eq rfl ?_)))
        refine ej_callB call_len_seq rfl M.len boot_len (aj_cons (ej_dat 4 rfl (aj_nil (cj_lenL ⟨_, _, rfl, .dat _, ej_int (oj_eq ⟨_, _, _, _, rfl, rfl, rfl, rfl, rfl, _, rfl, ?_⟩)⟩))))
        rw [List.length_map]
        match G, k with
        | [], k => rw [one_ne (by decide)]; exact k
        | g1 :: g2 :: gs, k =>
          rw [one_ne (by simp)]
          have e : fin2 (g1 :: g2 :: gs) R = false := by cases R <;> rfl
          rw [e] at k
          exact k
        | [g], k =>
          rw [decide_eq_true (by rfl)]
          refine ej_and (ej_cmp op_eq rfl ?_)
          refine ej_callB call_len_seq rfl M.len boot_len (aj_cons (ej_dat 7 rfl (aj_nil (cj_lenL ⟨_, _, rfl, .dat _, ej_int (oj_eq ⟨_, _, _, _, rfl, rfl, rfl, rfl, rfl, _, rfl, ?_⟩)⟩))))
          rw [List.length_map]
          match R, k with
          | [], k => rw [one_ne (by decide)]; exact k
          | _ :: _ :: _, k => rw [one_ne (by simp)]; exact k
          | [r], k =>
            rw [decide_eq_true (by rfl)]
            exact ej_one (ej_cmp op_le rfl (ej_ix ix_list (fun _ _ => rfl) (ej_dat 4 rfl (ej_int (oj_ixL ⟨_, _, _, .dat _, rfl, at_zero _ _, ej_ix ix_list (fun _ _ => rfl) (ej_dat 7 rfl (ej_int (oj_ixL ⟨_, _, _, .dat _, rfl, at_zero _ _, oj_b0 ⟨_, _, rfl, rfl, k⟩⟩)))⟩)))))
    · have e : planRowF vs ss (.tup ds) = false := by
        unfold planRowF
        split
        · next h b v heq =>
          injection heq with heq
          subst heq
          exact absurd rfl hl
        · rfl
      rw [e] at k
      refine ssj_cons (sj_ifP (k := true) (tp_w (wp_or (k := false) (l := true) (tp_not (k := true) (tj_of (by intro _; rfl) (ej_isi M.isinstance M.tuple rfl (ej_dat 0 rfl ⟨_, _, rfl, ok.ns, kit_tuple ok.ns, _, rfl, rfl, rfl⟩)))) fun _ => wp_or (k := true) (l := true) ?_ fun h => nomatch h)) (fun _ => ssj_one (sj_ret (ej_bl k))) fun h => nomatch h)
      refine tj_cmp op_ne rfl (ej_callB call_len_seq rfl M.len boot_len (aj_cons (ej_dat 0 rfl (aj_nil (cj_lenT ⟨_, rfl, ej_int (oj_ne ⟨_, _, _, _, rfl, rfl, rfl, rfl, rfl, _, rfl, ?_, rfl⟩)⟩)))))
      have : ¬ (V.int (ds.length : Nat) = V.int 3) := fun z => by
        injection z with z
        omega
      simp [this]
end
end K43

set_option maxHeartbeats 4000000
/-! K24: showing a plan, in plain words. -/
namespace K43
open PySem PySem.Spec PyProof.Rows L2
def lastLook : SL → Str → Option Str
  | [], _ => none
  | p :: m, x => match lastLook m x with
    | some v => some v
    | none => if p.1 = x then some p.2 else none
theorem lastLook_cons (p : Str × Str) (m : SL) (x : Str) : lastLook (p :: m) x = (lastLook m x).or (if p.1 = x then some p.2 else none) := by
  show (match lastLook m x with | some v => some v | none => if p.1 = x then some p.2 else none) = _
  cases lastLook m x <;> rfl
theorem slook_cons (p : Str × Str) (m : SL) (x : Str) : slook (p :: m) x = if p.1 = x then some p.2 else slook m x := rfl
theorem or_assoc' {α : Type} (a b c : Option α) : (a.or b).or c = a.or (b.or c) := by cases a <;> rfl
theorem lastLook_app (l m : SL) (x : Str) : lastLook (l ++ m) x = (lastLook m x).or (lastLook l x) := by
  induction l with
  | nil => simp [lastLook]
  | cons p l ih => rw [List.cons_append, lastLook_cons, lastLook_cons, ih, or_assoc']
theorem slook_app (l m : SL) (x : Str) : slook (l ++ m) x = (slook l x).or (slook m x) := by
  induction l with
  | nil => simp [slook]
  | cons p l ih =>
    rw [List.cons_append, slook_cons, slook_cons]
    by_cases h : p.1 = x
    · rw [if_pos h, if_pos h]; rfl
    · rw [if_neg h, if_neg h]; exact ih
theorem slook_mapset (l : SL) (k v x : Str) : slook (l.map fun p => if p.1 = k then (p.1, v) else p) x = if k = x then (if (l.any fun p => decide (p.1 = k)) = true then some v else none) else slook l x := by
  induction l with
  | nil => simp [slook]
  | cons p l ih =>
    rw [List.map_cons, List.any_cons, slook_cons, slook_cons, ih]
    by_cases h : p.1 = k
    · rw [if_pos h]
      by_cases hx : k = x
      · rw [if_pos hx, if_pos (h.trans hx), if_pos hx]
        simp [h]
      · rw [if_neg hx, if_neg (fun z => hx (h.symm.trans z)), if_neg hx, if_neg (fun z => hx (h.symm.trans z))]
    · rw [if_neg h]
      by_cases hx : k = x
      · have hp : ¬ p.1 = x := fun z => h (z.trans hx.symm)
        rw [if_neg hp, if_pos hx, if_pos hx, decide_eq_false h, Bool.false_or]
      · rw [if_neg hx, if_neg hx]
theorem slook_none {l : SL} {k : Str} (ha : ¬ (l.any fun p => decide (p.1 = k)) = true) : slook l k = none := by
  induction l with
  | nil => rfl
  | cons p l ih =>
    rw [List.any_cons, Bool.or_eq_true, not_or] at ha
    rw [slook_cons, if_neg (by simpa using ha.1)]
    exact ih ha.2
theorem slook_put (l : SL) (k v x : Str) : slook (sput l k v) x = if k = x then some v else slook l x := by
  unfold sput
  by_cases ha : (l.any fun p => decide (p.1 = k)) = true
  · rw [if_pos ha, slook_mapset, if_pos ha]
  · rw [if_neg ha, slook_app, slook_cons]
    by_cases hx : k = x
    · subst hx
      rw [if_pos rfl, slook_none ha]
      simp
    · rw [if_neg hx, if_neg hx]
      simp [slook]
theorem slook_merge (x : Str) : ∀ (m l : SL), slook (smerge l m) x = (lastLook m x).or (slook l x)
  | [], l => by simp [smerge, lastLook]
  | p :: m, l => by
    show slook (smerge (sput l p.1 p.2) m) x = _
    rw [slook_merge x m, slook_put, lastLook_cons, or_assoc']
    by_cases h : p.1 = x
    · rw [if_pos h, if_pos h]; rfl
    · rw [if_neg h, if_neg h]; rfl
theorem lastLook_mapset (l : SL) (k v x : Str) : lastLook (l.map fun p => if p.1 = k then (p.1, v) else p) x = if k = x then (if (l.any fun p => decide (p.1 = k)) = true then some v else none) else lastLook l x := by
  induction l with
  | nil => simp [lastLook]
  | cons p l ih =>
    rw [List.map_cons, List.any_cons, lastLook_cons, lastLook_cons, ih]
    by_cases hx : k = x
    · subst hx
      rw [if_pos rfl, if_pos rfl]
      by_cases h : p.1 = k
      · cases (l.any fun p => decide (p.1 = k)) <;> simp [h]
      · cases (l.any fun p => decide (p.1 = k)) <;> simp [h]
    · rw [if_neg hx, if_neg hx]
      by_cases h : p.1 = k
      · have : ¬ p.1 = x := fun z => hx (h.symm.trans z)
        rw [if_pos h, if_neg this]
        simp [this]
      · rw [if_neg h]
theorem lastLook_put (l : SL) (k v x : Str) : lastLook (sput l k v) x = if k = x then some v else lastLook l x := by
  unfold sput
  by_cases ha : (l.any fun p => decide (p.1 = k)) = true
  · rw [if_pos ha, lastLook_mapset, if_pos ha]
  · rw [if_neg ha, lastLook_app, lastLook_cons]
    by_cases hx : k = x
    · simp [lastLook, hx]
    · simp [lastLook, hx]
theorem lastLook_merge (x : Str) : ∀ (m l : SL), lastLook (smerge l m) x = (lastLook m x).or (lastLook l x)
  | [], l => by simp [smerge, lastLook]
  | p :: m, l => by
    show lastLook (smerge (sput l p.1 p.2) m) x = _
    rw [lastLook_merge x m, lastLook_put, lastLook_cons, or_assoc']
    by_cases h : p.1 = x
    · rw [if_pos h, if_pos h]; rfl
    · rw [if_neg h, if_neg h]; rfl
abbrev Fn := Str → Option Str
def upf (u : SL) (f : Fn) : Fn := fun x => (lastLook u x).or (f x)
theorem upf_both (ly u : SL) : slook (smerge ly (smerge [] u)) = upf u (slook ly) := by
  funext x
  rw [slook_merge, lastLook_merge]
  unfold upf
  cases lastLook u x <;> simp [lastLook]
theorem upf_one (ly u : SL) : slook (smerge ly u) = upf u (slook ly) := by
  funext x
  rw [slook_merge]
  rfl
def okF (ss : List Stay) (f : Fn) (h : Int) : Bool := !(decide ((((standF ss h).map (·.1)).filterMap f).length < ((standF ss h).map (·.1)).length)) && decide (((standF ss h).map (·.1)).filterMap f).Nodup
def showsGoF (ss : List Stay) (rws : List Row) : List Int → Fn → Bool
  | [], _ => true
  | h :: hs, f => okF ss (upf (updF rws h) f) h && showsGoF ss rws hs (upf (updF rws h) f)
theorem showsGo_F (ss : List Stay) (rws : List Row) : ∀ (hs : List Int) (ly : SL), showsGo ss rws hs ly = showsGoF ss rws hs (slook ly)
  | [], _ => rfl
  | h :: hs, ly => by
    unfold showsGo showsGoF
    rw [showsGo_F ss rws hs, upf_both]
    have e : okAt ss (smerge ly (smerge [] (updF rws h))) h = okF ss (slook (smerge ly (smerge [] (updF rws h)))) h := rfl
    rw [e, upf_both]
theorem lastLook_some {u : SL} {x : Str} (h : x ∈ u.map (·.1)) : ∃ v, lastLook u x = some v := by
  induction u with
  | nil => simp at h
  | cons p u ih =>
    unfold lastLook
    cases q : lastLook u x with
    | some v => exact ⟨v, rfl⟩
    | none =>
      simp at h
      rcases h with h | ⟨b, h⟩
      · exact ⟨p.2, by simp [h]⟩
      · obtain ⟨v, hv⟩ := ih (List.mem_map.mpr ⟨(x, b), h, rfl⟩)
        rw [hv] at q
        cases q
theorem lastLook_mem {u : SL} {x v : Str} (h : lastLook u x = some v) : (x, v) ∈ u := by
  induction u with
  | nil => cases h
  | cons p u ih =>
    unfold lastLook at h
    cases q : lastLook u x with
    | some w =>
      rw [q] at h
      cases h
      exact List.mem_cons_of_mem _ (ih q)
    | none =>
      rw [q] at h
      by_cases e : p.1 = x
      · have h : (if p.1 = x then some p.2 else none) = some v := h
        rw [if_pos e] at h
        cases h
        subst e
        simp
      · have h : (if p.1 = x then some p.2 else none) = some v := h
        rw [if_neg e] at h
        cases h
theorem sget_mem {ss : List Stay} (nd : (ss.map (·.1)).Nodup) {s : Stay} (h : s ∈ ss) : sget ss s.1 = some s := by
  induction ss with
  | nil => simp at h
  | cons t ss ih =>
    rw [List.map_cons, List.nodup_cons] at nd
    unfold sget
    rcases List.mem_cons.mp h with rfl | h
    · rw [if_pos rfl]
    · have : t.1 ≠ s.1 := fun z => nd.1 (by rw [z]; exact List.mem_map.mpr ⟨s, h, rfl⟩)
      rw [if_neg this]
      exact ih nd.2 h
theorem updF_mem {rws : List Row} {h : Int} {p : Str × Str} (hp : p ∈ updF rws h) : (h, p) ∈ rws := by
  unfold updF at hp
  obtain ⟨r, hr, rfl⟩ := List.mem_map.mp hp
  obtain ⟨h1, h2⟩ := List.mem_filter.mp hr
  simp at h2
  subst h2
  exact h1
theorem fm_len_lt {f : Fn} {bs : List Str} {x : Str} (hx : x ∈ bs) (hf : f x = none) : (bs.filterMap f).length < bs.length := by
  induction bs with
  | nil => simp at hx
  | cons b bs ih =>
    rw [List.filterMap_cons]
    rcases List.mem_cons.mp hx with rfl | hx
    · rw [hf]
      have := List.length_filterMap_le f bs
      show (List.filterMap f bs).length < bs.length + 1
      omega
    · have := ih hx
      cases f b with
      | none =>
        show (List.filterMap f bs).length < bs.length + 1
        omega
      | some v =>
        show (List.filterMap f bs).length + 1 < bs.length + 1
        omega
theorem fm_all {f : Fn} {bs : List Str} (h : ∀ b ∈ bs, ∃ v, f b = some v) : bs.filterMap f = bs.map fun b => (f b).getD "" := by
  induction bs with
  | nil => rfl
  | cons b bs ih =>
    obtain ⟨v, hv⟩ := h b (by simp)
    rw [List.filterMap_cons, hv, List.map_cons, ih fun c hc => h c (by simp [hc]), hv]
    rfl
theorem standing_mem {ss : List Stay} {h : Int} {p : Pr} (hp : p ∈ standing ss h) : ∃ s ∈ ss, p = (s.1, s.2.1) ∧ s.2.2.1 ≤ h ∧ h < s.2.2.2 := by
  unfold standing at hp
  obtain ⟨s, hs, rfl⟩ := List.mem_map.mp hp
  obtain ⟨h1, h2⟩ := List.mem_filter.mp hs
  rw [Bool.and_eq_true, decide_eq_true_eq, decide_eq_true_eq] at h2
  exact ⟨s, h1, rfl, h2.1, h2.2⟩
theorem standing_of {ss : List Stay} {h : Int} {s : Stay} (hs : s ∈ ss) (h1 : s.2.2.1 ≤ h) (h2 : h < s.2.2.2) : (s.1, s.2.1) ∈ standing ss h := by
  unfold standing
  refine List.mem_map.mpr ⟨s, List.mem_filter.mpr ⟨hs, ?_⟩, rfl⟩
  rw [Bool.and_eq_true, decide_eq_true_eq, decide_eq_true_eq]
  exact ⟨h1, h2⟩
def begunOk (ss : List Stay) (rws : List Row) (h : Int) : Bool := (ss.filter fun s => decide (s.2.2.1 = h)).all fun s => decide (s.1 ∈ (updF rws h).map (·.1))
def usedOf (ss : List Stay) (f : Fn) (h : Int) : List Str := (standing ss h).map fun p => (f p.1).getD ""
/-- what is known ahead of the hour h -/
structure Ahead (ss : List Stay) (rws : List Row) (f : Fn) (h : Int) : Prop where
  cov : ∀ s ∈ ss, s.2.2.1 < h → ∃ v, f s.1 = some v
  src : ∀ x v, f x = some v → ∃ r ∈ rws, r.2.1 = x ∧ r.1 < h
theorem step_bad {vs : List Pr} {ss : List Stay} {rws : List Row} {f : Fn} {h : Int} (nd : (ss.map (·.1)).Nodup) (be : ∀ s ∈ ss, s.2.2.1 < s.2.2.2) (ok : ∀ r ∈ rws, rowOk vs ss r.1 r.2.1 r.2.2 = true) (a : Ahead ss rws f h) (hb : begunOk ss rws h = false) :
    okF ss (upf (updF rws h) f) h = false := by
  obtain ⟨s, hs, hns⟩ := List.all_eq_false.mp hb
  obtain ⟨hs1, hs2⟩ := List.mem_filter.mp hs
  simp only [decide_eq_true_eq] at hs2 hns
  have hf : upf (updF rws h) f s.1 = none := by
    unfold upf
    have h1 : lastLook (updF rws h) s.1 = none := by
      cases q : lastLook (updF rws h) s.1 with
      | none => rfl
      | some v => exact absurd (List.mem_map.mpr ⟨_, lastLook_mem q, rfl⟩) hns
    rw [h1]
    cases q : f s.1 with
    | none => rfl
    | some v =>
      exfalso
      obtain ⟨r, hr, e1, e2⟩ := a.src _ _ q
      have := ok r hr
      unfold rowOk at this
      rw [e1, sget_mem nd hs1] at this
      cases q2 : rget vs r.2.2 with
      | none => rw [q2] at this; cases this
      | some z =>
        rw [q2] at this
        simp only [Bool.and_eq_true, decide_eq_true_eq] at this
        omega
  have hm : s.1 ∈ (standF ss h).map (·.1) := by
    have h1 : (s.1, s.2.1) ∈ standing ss h := standing_of hs1 (by omega) (by have := be s hs1; omega)
    have h2 : (s.1, s.2.1) ∈ standF ss h := (greatest_perm _).mem_iff.mpr h1
    exact List.mem_map.mpr ⟨_, h2, rfl⟩
  unfold okF
  rw [decide_eq_true (fm_len_lt hm hf)]
  rfl
theorem step_good {ss : List Stay} {rws : List Row} {f : Fn} {h : Int} (a : Ahead ss rws f h) (hb : begunOk ss rws h = true) :
    (∀ p ∈ standing ss h, ∃ v, upf (updF rws h) f p.1 = some v) ∧ okF ss (upf (updF rws h) f) h = decide (usedOf ss (upf (updF rws h) f) h).Nodup := by
  have key : ∀ p ∈ standing ss h, ∃ v, upf (updF rws h) f p.1 = some v := fun p hp => by
    obtain ⟨s, hs, rfl, h1, h2⟩ := standing_mem hp
    unfold upf
    by_cases e : s.2.2.1 = h
    · have := List.all_eq_true.mp hb s (List.mem_filter.mpr ⟨hs, by simp [e]⟩)
      obtain ⟨v, hv⟩ := lastLook_some (of_decide_eq_true this)
      exact ⟨v, by rw [hv]; rfl⟩
    · obtain ⟨v, hv⟩ := a.cov s hs (by omega)
      show ∃ v, (lastLook (updF rws h) s.1).or (f s.1) = some v
      rw [hv]
      cases lastLook (updF rws h) s.1 with
      | none => exact ⟨v, rfl⟩
      | some w => exact ⟨w, rfl⟩
  refine ⟨key, ?_⟩
  have e1 : ((standF ss h).map (·.1)).filterMap (upf (updF rws h) f) = ((standF ss h).map (·.1)).map fun b => (upf (updF rws h) f b).getD "" := by
    refine fm_all fun b hb => ?_
    obtain ⟨p, hp, rfl⟩ := List.mem_map.mp hb
    exact key p ((greatest_perm _).mem_iff.mp hp)
  unfold okF
  rw [e1, List.length_map, decide_eq_false (by omega)]
  have pm : (((standF ss h).map (·.1)).map fun b => (upf (updF rws h) f b).getD "").Perm (usedOf ss (upf (updF rws h) f) h) := by
    unfold usedOf
    rw [List.map_map]
    exact (greatest_perm _).map _
  have := pm.nodup_iff
  rw [Bool.not_false, Bool.true_and]
  exact decide_eq_decide.mpr this
theorem take_lt {hs : List Int} (hp : hs.Pairwise (· < ·)) {i : Nat} {h : Int} (hi : hs[i]? = some h) (x : Int) : x ∈ hs.take i ↔ x ∈ hs ∧ x < h := by
  obtain ⟨hl, he⟩ := List.getElem?_eq_some_iff.mp hi
  constructor
  · intro hx
    refine ⟨List.mem_of_mem_take hx, ?_⟩
    obtain ⟨j, hj⟩ := List.mem_iff_getElem?.mp hx
    rw [List.getElem?_take] at hj
    by_cases hji : j < i
    · rw [if_pos hji] at hj
      obtain ⟨hjl, hje⟩ := List.getElem?_eq_some_iff.mp hj
      rw [← hje, ← he]
      exact List.pairwise_iff_getElem.mp hp j i hjl hl hji
    · rw [if_neg hji] at hj
      cases hj
  · rintro ⟨hx, hlt⟩
    obtain ⟨j, hj⟩ := List.mem_iff_getElem?.mp hx
    obtain ⟨hjl, hje⟩ := List.getElem?_eq_some_iff.mp hj
    by_cases hji : j < i
    · exact List.mem_iff_getElem?.mpr ⟨j, by rw [List.getElem?_take, if_pos hji]; exact hj⟩
    · exfalso
      by_cases e : j = i
      · subst e
        omega
      · have := List.pairwise_iff_getElem.mp hp i j hl hjl (by omega)
        omega
theorem take_succ' {α : Type} {hs : List α} {i : Nat} {h : α} (hi : hs[i]? = some h) : hs.take (i + 1) = hs.take i ++ [h] := by
  rw [List.take_add_one, hi]
  rfl
/-! ### the hours in order -/
theorem adj_sorted : ∀ rws : List Row, anyDesc rws = false ↔ (rws.map (·.1)).Pairwise (· ≤ ·)
  | [] => by simp [anyDesc]
  | [r] => by simp [anyDesc]
  | r :: t :: rws => by
    have ih := adj_sorted (t :: rws)
    have e : anyDesc (r :: t :: rws) = (decide (t.1 < r.1) || anyDesc (t :: rws)) := by
      unfold anyDesc
      rfl
    have e3 : ((r :: t :: rws).map (·.1)) = r.1 :: ((t :: rws).map (·.1)) := rfl
    rw [e, Bool.or_eq_false_iff, ih, e3]
    constructor
    · rintro ⟨h1, h2⟩
      refine List.pairwise_cons.mpr ⟨fun x hx => ?_, h2⟩
      have h1' := of_decide_eq_false h1
      rw [List.map_cons] at hx h2
      rcases List.mem_cons.mp hx with rfl | hx
      · omega
      · have := (List.pairwise_cons.mp h2).1 x hx
        omega
    · intro h
      obtain ⟨h1, h2⟩ := List.pairwise_cons.mp h
      refine ⟨decide_eq_false ?_, h2⟩
      have := h1 t.1 (by simp)
      omega
theorem isort_self (ns : List Int) : ns = isort ns ↔ ns.Pairwise (· ≤ ·) := by
  constructor
  · intro h
    rw [h]
    have := List.pairwise_mergeSort (le := fun (a b : Int) => decide (a ≤ b)) (fun a b c h1 h2 => by simp at *; omega) (fun a b => by simp; omega) ns
    exact this.imp fun h => by simpa using h
  · intro h
    exact isort_eq (.refl _) h
theorem desc_isort (rws : List Row) : (!decide (rws.map (·.1) = isort (rws.map (·.1)))) = anyDesc rws := by
  cases h : anyDesc rws with
  | false =>
    have := (isort_self _).mpr ((adj_sorted rws).mp h)
    rw [decide_eq_true this]
    rfl
  | true =>
    have : ¬ (rws.map (·.1) = isort (rws.map (·.1))) := fun z => by
      have := (adj_sorted rws).mpr ((isort_self _).mp z)
      rw [h] at this
      cases this
    rw [decide_eq_false this]
    rfl
theorem ints_eqv : ∀ a b : List Int, PyData.eqvAll (D.pys (a.map D.int)) (D.pys (b.map D.int)) = decide (a = b)
  | [], [] => by simp [D.pys, PyData.eqvAll]
  | [], y :: b => by simp [D.pys, PyData.eqvAll]
  | x :: a, [] => by simp [D.pys, PyData.eqvAll]
  | x :: a, y :: b => by
    have ih := ints_eqv a b
    show PyData.eqvAll (D.py (.int x) :: D.pys (a.map D.int)) (D.py (.int y) :: D.pys (b.map D.int)) = _
    simp only [PyData.eqvAll, ih, D.py, PyData.eqv]
    by_cases h : x = y
    · by_cases h2 : a = b <;> simp [h, h2]
    · simp [h]
theorem ints_plain : ∀ xs : List Int, D.plains (xs.map D.int) = true
  | [] => rfl
  | x :: xs => by
    show (D.plain (.int x) && D.plains (xs.map D.int)) = true
    rw [ints_plain xs]
    rfl
theorem ints_shaped (xs : List Int) : SeqAt.shaped (D.py (.lst (xs.map D.int))) = true := by
  have h1 : ∀ xs : List Int, PyData.canLayAll0 (D.pys (xs.map D.int)) = true := by
    intro xs
    induction xs with
    | nil => simp [D.pys, PyData.canLayAll0]
    | cons x xs ih =>
      show PyData.canLayAll0 (D.py (.int x) :: D.pys (xs.map D.int)) = true
      unfold PyData.canLayAll0
      rw [ih]
      simp [D.py, PyData.canLay0]
  have h2 : ∀ xs : List Int, PyData.depthAll (D.pys (xs.map D.int)) ≤ 1 := by
    intro xs
    induction xs with
    | nil => simp [D.pys, PyData.depthAll]
    | cons x xs ih =>
      show PyData.depthAll (D.py (.int x) :: D.pys (xs.map D.int)) ≤ 1
      simp only [PyData.depthAll, D.py, PyData.depth] at *
      omega
  unfold SeqAt.shaped
  rw [Bool.and_eq_true]
  refine ⟨?_, ?_⟩
  · show PyData.canLay0 (.list (D.pys (xs.map D.int))) = true
    unfold PyData.canLay0
    exact h1 xs
  · have := h2 xs
    show decide (PyData.depth (.list (D.pys (xs.map D.int))) ≤ 64) = true
    simp only [PyData.depth]
    exact decide_eq_true (by omega)
theorem hours_swap (ss : List Stay) (ns : List Int) : usort (ns ++ hoursF ss) = usort (hoursF ss ++ ns) := by
  refine lt_sorted_ext (usort_sorted _) (usort_sorted _) fun z => ?_
  rw [mem_usort, mem_usort, List.mem_append, List.mem_append, or_comm]
end K43

set_option maxHeartbeats 4000000
/-! K25: _law_shown. -/
namespace K43
open PySem PySem.Spec PyProof.Rows L2
abbrev sShown : Stmt := top 28
theorem planRow_rowOk {vs : List Pr} {ss : List Stay} {d : D} (h : planRowF vs ss d = true) : rowOk vs ss (rowOf d).1 (rowOf d).2.1 (rowOf d).2.2 = true := by
  have e := planRow_inv h
  rw [e] at h
  exact h
theorem smerge_snoc (l m : SL) (p : Str × Str) : smerge l (m ++ [p]) = sput (smerge l m) p.1 p.2 := by
  unfold smerge
  rw [List.foldl_append]
  rfl

section
variable {P : Program} {w : World} {K : PySem.W.Frag} {mg : Str → Option Value} {base : Heap} {B : Tb}
def aShown : Ab := pu fun as p => ∃ (vs : List Pr) (ss : List Stay) (ts : List D), as = [.dat (.lst (vs.map siD)), .dat (.lst (ss.map stD)), .dat (.lst ts)] ∧ VsOk vs ∧ SsOk ss ∧ vs.length ≤ 60 ∧ ss.length ≤ 60 ∧ ts.length ≤ 900 ∧ (∀ t ∈ ts, OkRow t) ∧ p (.bl (showsPlanF vs ss ts))
abbrev nShown : List Str := ["_law_vessels_here", "_law_stays_here", "_law_thing", "_law_row", "_law_hours_here", "_law_lying", "_law_hour", "_law_some", "_law_stay", "_law_begun", "_law_beer", "_law_gallons", "_law_used"]
theorem scShown : FnScope nShown ["_law_vessels_here", "_law_stays_here", "_law_thing"] (defScope sShown) := ⟨rfl, rfl, rfl, by decide +kernel, rfl, by decide +kernel, by decide +kernel⟩
theorem df_shown {f : Addr} {fd : FuncData} (F : Fun K "_law_shown" "_law_shown" sShown f fd) (hm : mg "_law_shown" = some (.ref f)) (M : Bn mg) (DR : Df P w K mg base B "_law_is_row" 1 ["_law_thing", "_law_vessels_here", "_law_stays_here"] aIsRow) (DS : Df P w K mg base B "_law_standing" 1 ["_law_stays_here", "_law_hour"] aLStanding)
    (DH : Df P w K mg base B "_law_hours" 1 ["_law_stays_here"] aHours) : Df P w K mg base B "_law_shown" 2 ["_law_vessels_here", "_law_stays_here", "_law_thing"] aShown := by
  refine df_mk F scShown (mono_pu fun as p q h ⟨d, e, r, k1, k2, k3, k4, k5, k6, k7, k⟩ => ⟨d, e, r, k1, k2, k3, k4, k5, k6, k7, h _ k⟩) hm (F.binds fun _ _ _ _ _ _ us hl => match us, hl with | [_, _, _], _ => rfl) (fun as μ P ⟨_, d, e, r, h, _⟩ => by rw [h]; rfl) ?_
  rintro cdv A outer s H E as μ Pp _ hr ⟨rfl, vs, ss, ts, rfl, hv, hs, hvl, hsl, htl, ok, k⟩
  refine ssj_cons (sj_ifP (k := !(ts.all (planRowF vs ss))) (tp_not (k := ts.all (planRowF vs ss)) (tj_of (by intro _; rfl) ?_)) (fun hk => ?_) fun hk => ?_)
  · refine ej_callB (cr_all rfl) rfl M.all rfl (aj_cons ?_)
    refine ej_lcF (fun d : D => d) (own := [("_law_row", 3)]) scShown.nd (blkOk_by (N := nShown) (sc := defScope sShown) (by decide +kernel)) (ij_list (ej_dat 2 rfl ?_))
    refine ⟨_, rfl, ts, by simp, by omega, fun t => some (.bl (planRowF vs ss t)), fun t ht => lctM (fun s H C cl fp => ct_name 3 (by decide) scShown.nd) ?_, ?_⟩
    · intro s H C cl fp
      exact ej_callP DR hr (aj_cons (ej_dat 3 rfl (aj_cons (ej_dat 0 rfl (aj_cons (ej_dat 1 rfl (aj_nil ⟨vs, ss, t, rfl, ok t ht, hvl, hsl, hv.nd, hs.nd, hv.nm, hs.nm, rfl, rfl⟩)))))))
    rw [fm_map]
    refine aj_nil (cj_all ⟨ts.map (planRowF vs ss), ?_, _, rfl, ?_, rfl⟩)
    · rw [List.map_map]; rfl
    · rw [List.all_map]; rfl
  · have e : showsPlanF vs ss ts = false := by
      unfold showsPlanF
      cases q : ts.all (planRowF vs ss) with
      | true => rw [q] at hk; cases hk
      | false => rfl
    rw [e] at k
    exact ssj_one (sj_ret (ej_bl k))
  have hall : ts.all (planRowF vs ss) = true := by
    cases q : ts.all (planRowF vs ss) with
    | true => rfl
    | false => rw [q] at hk; cases hk
  have ets : ts = (ts.map rowOf).map rwD := by
    rw [List.map_map]
    conv => lhs; rw [← List.map_id ts]
    apply List.map_congr_left
    intro t ht
    exact planRow_inv (List.all_eq_true.mp hall t ht)
  have hrok : ∀ r ∈ ts.map rowOf, rowOk vs ss r.1 r.2.1 r.2.2 = true := fun r hr => by
    obtain ⟨t, ht, rfl⟩ := List.mem_map.mp hr
    exact planRow_rowOk (List.all_eq_true.mp hall t ht)
  have ek : showsPlanF vs ss ts = showsRows ss (ts.map rowOf) := by
    unfold showsPlanF
    rw [hall]
    rfl
  rw [ek] at k
  have hrl : (ts.map rowOf).length ≤ 900 := by rw [List.length_map]; exact htl
  rw [ets]
  generalize ts.map rowOf = rws at *
  clear ets ek hall ok hk htl
  -- the hours
  refine ssj_nil (ssj_cons ?_)
  refine sj_setLcF rwD (i := 4) (own := [("_law_row", 3)]) scShown.nd (blkOk_by (N := nShown) (sc := defScope sShown) (by decide +kernel)) (ij_list (ej_dat 2 rfl ?_))
  refine ⟨_, rfl, rws, rfl, by omega, fun t => some (.int t.1), fun t ht => lctM (fun s H C cl fp => ct_name 3 (by decide) scShown.nd) ?_, ?_⟩
  · intro s H C cl fp
    exact ej_ix ix_tup (fun _ _ => rfl) (ej_dat 3 rfl (ej_int (oj_ixT ⟨_, _, _, rfl, rfl, rfl, rfl, rfl⟩)))
  rw [fm_map]
  have eh : rws.map (fun t : Row => D.int t.1) = (rws.map (·.1)).map D.int := by rw [List.map_map]; rfl
  rw [eh]
  refine ssj_cons (sj_ifP (k := anyDesc rws) (tj_cmp (op_neD hr.units) rfl (ej_dat 4 rfl ?_)) (fun hk => ?_) fun hk => ?_)
  · refine ej_callB cr_sortedI rfl M.sorted rfl (aj_cons (ej_dat 4 rfl (aj_nil (cj_sortI ⟨_, rws.map (·.1), rfl, .dat _, ?_⟩))))
    refine oj_neD ⟨_, _, .dat _, .dat _, ints_plain _, ints_plain _, ints_shaped _, ints_shaped _, _, rfl, ?_, rfl⟩
    rw [← desc_isort]
    congr 1
    exact ints_eqv _ _
  · have e : showsRows ss rws = false := by
      unfold showsRows
      rw [hk]
      rfl
    rw [e] at k
    exact ssj_one (sj_ret (ej_bl k))
  have ek : showsRows ss rws = showsGoF ss rws (usort (rws.map (·.1) ++ hoursF ss)) (slook []) := by
    unfold showsRows
    rw [hk, showsGo_F, hours_swap]
    rfl
  rw [ek] at k
  have hhl : (hoursF ss).length ≤ 120 := by
    unfold hoursF
    refine Nat.le_trans (usort_length _) ?_
    rw [List.length_append, List.length_map, List.length_map]
    omega
  have hul0 := usort_length (rws.map (·.1) ++ hoursF ss)
  rw [List.length_append, List.length_map] at hul0
  have hsorted := usort_sorted (rws.map (·.1) ++ hoursF ss)
  have hbeg : ∀ t ∈ ss, t.2.2.1 ∈ usort (rws.map (·.1) ++ hoursF ss) := fun t ht => by
    rw [mem_usort, List.mem_append]
    refine .inr ?_
    unfold hoursF
    rw [mem_usort, List.mem_append]
    exact .inl (List.mem_map.mpr ⟨t, ht, rfl⟩)
  have hrh : ∀ r ∈ rws, r.1 ∈ usort (rws.map (·.1) ++ hoursF ss) := fun r hr => by
    rw [mem_usort, List.mem_append]
    exact .inl (List.mem_map.mpr ⟨r, hr, rfl⟩)
  refine ssj_nil (ssj_cons (sj_set 5 (ej_dic0M fun la => ?_) scShown.nd))
  refine ssj_cons (sj_forL D.int (usort (rws.map (·.1) ++ hoursF ss)) PassesOwn.never (fun i Γ μ => ∃ (ly : SL) (a b c d e : AV), Γ = [.dat (.lst (vs.map siD)), .dat (.lst (ss.map stD)), .dat (.lst (rws.map rwD)), a, .dat (.lst ((rws.map (·.1)).map .int)), .val (.ref la), b, c, .un, d, .un, .un, e] ∧ μ = [(la, dicD (toAL ly))] ∧ ly.length ≤ i * 900 ∧
    showsGoF ss rws ((usort (rws.map (·.1) ++ hoursF ss)).drop i) (slook ly) = showsGoF ss rws (usort (rws.map (·.1) ++ hoursF ss)) (slook []) ∧ (∀ s ∈ ss, s.2.2.1 ∈ (usort (rws.map (·.1) ++ hoursF ss)).take i → ∃ v, slook ly s.1 = some v) ∧
    (∀ x v, slook ly x = some v → ∃ r ∈ rws, r.2.1 = x ∧ r.1 ∈ (usort (rws.map (·.1) ++ hoursF ss)).take i)) (ij_list ?_) ?_ ?_)
  · refine ej_sortSet M.sorted M.set (ej_bin op_cat (ej_dat 4 rfl ?_))
    refine ej_callP DH (hr.mono (by decide)) (aj_cons (ej_dat 1 rfl (aj_nil ⟨ss, rfl, by omega, ?_⟩)))
    refine oj_cat ⟨_, _, .dat _, .dat _, zM (by simp; omega), rws.map (·.1) ++ hoursF ss, ?_, by simp; omega, _, rfl, rfl, [], _, _, _, _, _, rfl, rfl, by simp, rfl, fun _ _ h => by simp at h, fun _ _ h => by cases h⟩
    rw [List.map_append]
  · rintro i h Γ2 μ2 hi ⟨ly, a, b, c, d, e, rfl, rfl, hly, inv, hcov, hsrc⟩
    generalize hhs : usort (rws.map (·.1) ++ hoursF ss) = hs0 at *
    have hilt : i < hs0.length := (List.getElem?_eq_some_iff.mp hi).1
    have ed : hs0.drop i = h :: hs0.drop (i + 1) := by
      rw [List.drop_eq_getElem_cons hilt]
      congr 1
      exact (List.getElem?_eq_some_iff.mp hi).2
    rw [ed] at inv
    have eg : showsGoF ss rws (h :: hs0.drop (i + 1)) (slook ly) = (okF ss (upf (updF rws h) (slook ly)) h && showsGoF ss rws (hs0.drop (i + 1)) (upf (updF rws h) (slook ly))) := rfl
    rw [eg] at inv
    have ah : Ahead ss rws (slook ly) h := ⟨fun t ht hlt => hcov t ht ((take_lt hsorted hi _).mpr ⟨hbeg t ht, hlt⟩), fun x v hx => by
      obtain ⟨r, h1, h2, h3⟩ := hsrc x v hx
      exact ⟨r, h1, h2, ((take_lt hsorted hi _).mp h3).2⟩⟩
    have hul : (updF rws h).length ≤ 900 := by
      unfold updF
      rw [List.length_map]
      exact Nat.le_trans (List.length_filter_le _ _) hrl
    have hml := smerge_len (updF rws h) ly
    refine gj_name 6 ?_ scShown.nd
    -- some
    refine ssj_cons (sj_set 7 ?_ scShown.nd)
    refine ej_lcF rwD (own := [("_law_row", 3)]) scShown.nd (blkOk_by (N := nShown) (sc := defScope sShown) (by decide +kernel)) (ij_list (ej_dat 2 rfl ?_))
    refine ⟨_, rfl, rws, rfl, by omega, fun t => cond (decide (t.1 = h)) (some (rwD t)) none, fun t ht => lctF (fun s H C cl fp => ct_name 3 (by decide) scShown.nd) ?_ ?_, ?_⟩
    · intro s H C cl fp
      exact tj_cmp op_eq rfl (ej_ix ix_tup (fun _ _ => rfl) (ej_dat 3 rfl (ej_int (oj_ixT ⟨_, _, _, rfl, rfl, rfl, ej_dat 6 rfl (oj_eq ⟨_, _, _, _, rfl, rfl, rfl, rfl, rfl, _, rfl, dint_eq _ _, rfl⟩)⟩))))
    · intro _ s H C cl fp
      exact ej_dat 3 rfl ⟨rfl, rfl⟩
    rw [fm_if]
    generalize hsm : rws.filter (fun t => decide (t.1 = h)) = sm
    have hupd : updF rws h = sm.map fun r => r.2 := by
      unfold updF
      rw [hsm]
    have hsml : sm.length ≤ 900 := by
      rw [hupd, List.length_map] at hul
      exact hul
    -- lying
    refine ssj_cons (sj_forL rwD sm PassesOwn.never (fun j Γ μ => ∃ (a : AV), Γ = [.dat (.lst (vs.map siD)), .dat (.lst (ss.map stD)), .dat (.lst (rws.map rwD)), a, .dat (.lst ((rws.map (·.1)).map .int)), .val (.ref la), .dat (.int h), .dat (.lst (sm.map rwD)), .un, d, .un, .un, e] ∧ μ = [(la, dicD (toAL (smerge ly ((sm.take j).map fun r => r.2))))]) (ij_list (ej_dat 7 rfl ⟨_, rfl, rfl, _, rfl, rfl⟩)) ?_ ?_)
    · rintro j r Γ3 μ3 hj ⟨a, rfl, rfl⟩
      have hsl2 := smerge_len ((sm.take j).map fun r : Row => r.2) ly
      rw [List.length_map, List.length_take] at hsl2
      refine gj_name 3 ?_ scShown.nd
      refine ssj_one (sj_dput (hu_of hr) ?_)
      refine ej_ix ix_tup (fun _ _ => rfl) (ej_dat 3 rfl (ej_int (oj_ixT ⟨_, _, _, rfl, rfl, rfl, ?_⟩)))
      refine ej_val 5 rfl ?_
      refine ej_ix ix_tup (fun _ _ => rfl) (ej_dat 3 rfl (ej_int (oj_ixT ⟨_, _, _, rfl, rfl, rfl, ?_⟩)))
      refine ⟨0, la, toAL (smerge ly ((sm.take j).map fun r => r.2)), _, _, rfl, rfl, rfl, rfl, ?_, ?_⟩
      · unfold toAL
        rw [List.length_map]
        omega
      refine ⟨_, rfl, ?_⟩
      rw [toAL_put, take_succ' hj, List.map_append]
      have e1 : smerge ly (((sm.take j).map fun r : Row => r.2) ++ [r].map fun r : Row => r.2) = sput (smerge ly ((sm.take j).map fun r : Row => r.2)) r.2.1 r.2.2 := smerge_snoc _ _ _
      rw [e1]
      rfl
    rintro Γ3 μ3 ⟨a, rfl, rfl⟩
    rw [List.take_length, ← hupd]
    generalize hly' : smerge ly (updF rws h) = ly' at *
    have hf' : upf (updF rws h) (slook ly) = slook ly' := by
      rw [← hly', upf_one]
    rw [hf'] at inv
    -- begun
    refine ssj_cons ?_
    refine sj_setLcF stD (i := 9) (own := [("_law_stay", 8)]) scShown.nd (blkOk_by (N := nShown) (sc := defScope sShown) (by decide +kernel)) (ij_list (ej_dat 1 rfl ?_))
    refine ⟨_, rfl, ss, rfl, by omega, fun t => cond (decide (t.2.2.1 = h)) (some (.str t.1)) none, fun t ht => lctF (fun s H C cl fp => ct_name 8 (by decide) scShown.nd) ?_ ?_, ?_⟩
    · intro s H C cl fp
      exact tj_cmp op_eq rfl (ej_ix ix_tup (fun _ _ => rfl) (ej_dat 8 rfl (ej_int (oj_ixT ⟨_, _, _, rfl, rfl, rfl, ej_dat 6 rfl (oj_eq ⟨_, _, _, _, rfl, rfl, rfl, rfl, rfl, _, rfl, dint_eq _ _, rfl⟩)⟩))))
    · intro _ s H C cl fp
      exact ej_ix ix_tup (fun _ _ => rfl) (ej_dat 8 rfl (ej_int (oj_ixT ⟨_, _, _, rfl, rfl, rfl, rfl, rfl⟩)))
    rw [fm_if]
    have hbl : (ss.filter fun t => decide (t.2.2.1 = h)).length ≤ 60 := Nat.le_trans (List.length_filter_le _ _) hsl
    have eb : (ss.filter fun t => decide (t.2.2.1 = h)).map (fun t : Stay => D.str t.1) = ((ss.filter fun t => decide (t.2.2.1 = h)).map (·.1)).map D.str := by rw [List.map_map]; rfl
    rw [eb]
    refine ssj_cons (sj_ifP (k := !begunOk ss rws h) (tp_not (k := begunOk ss rws h) (tj_of (by intro _; rfl) ?_)) (fun hk => ?_) fun hk => ?_)
    · refine ej_callB (cr_all rfl) rfl M.all rfl (aj_cons ?_)
      refine ej_lcF D.str (own := [("_law_beer", 10)]) scShown.nd (blkOk_by (N := nShown) (sc := defScope sShown) (by decide +kernel)) (ij_list (ej_dat 9 rfl ?_))
      refine ⟨_, rfl, (ss.filter fun t => decide (t.2.2.1 = h)).map (·.1), rfl, by rw [List.length_map]; omega, fun b => some (.bl (decide (b ∈ (updF rws h).map (·.1)))), fun b hb => lctM (fun s H C cl fp => ct_name 10 (by decide) scShown.nd) ?_, ?_⟩
      · intro s H C cl fp
        refine ej_cmp op_in_seq rfl (ej_dat 10 rfl ?_)
        refine ej_lcF rwD (own := [("_law_row", 3)]) scShown.nd (blkOk_by (N := nShown) (by rfl)) (ij_list (ej_dat 7 rfl ?_))
        refine ⟨_, rfl, sm, rfl, by omega, fun t => some (.str t.2.1), fun t ht => lctM (fun s H C cl fp => ct_name 3 (by decide) scShown.nd) ?_, ?_⟩
        · intro s H C cl fp
          exact ej_ix ix_tup (fun _ _ => rfl) (ej_dat 3 rfl (ej_int (oj_ixT ⟨_, _, _, rfl, rfl, rfl, rfl, rfl⟩)))
        rw [fm_map]
        refine oj_inL ⟨b, (updF rws h).map (·.1), rfl, ?_, rfl, rfl⟩
        have e2 : sm.map (fun t : Row => D.str t.2.1) = ((updF rws h).map (·.1)).map D.str := by
          rw [hupd, List.map_map, List.map_map]
          rfl
        rw [e2]
        exact .dat _
      rw [fm_map]
      refine aj_nil (cj_all ⟨((ss.filter fun t => decide (t.2.2.1 = h)).map (·.1)).map fun b => decide (b ∈ (updF rws h).map (·.1)), ?_, _, rfl, ?_, rfl⟩)
      · conv => rhs; rw [List.map_map]
        rfl
      · unfold begunOk
        rw [List.map_map, List.all_map]
        rfl
    · have hb : begunOk ss rws h = false := by
        cases q : begunOk ss rws h with
        | false => rfl
        | true => rw [q] at hk; cases hk
      have := step_bad hs.nd hs.be hrok ah hb
      rw [hf'] at this
      rw [this] at inv
      rw [← inv] at k
      exact ssj_sub (ν := []) (List.nil_sublist _) (ssj_one (sj_ret (ej_bl k)))
    have hb : begunOk ss rws h = true := by
      cases q : begunOk ss rws h with
      | true => rfl
      | false => rw [q] at hk; cases hk
    obtain ⟨hsome, hok⟩ := step_good ah hb
    rw [hf'] at hsome hok
    have hstl : (standing ss h).length ≤ 60 := by
      have e : (standF ss h).length = (standing ss h).length := (greatest_perm _).length_eq
      have := standF_sub ss h
      omega
    -- used
    refine ssj_nil (ssj_cons ?_)
    refine sj_setLcF siD (i := 12) (own := [("_law_beer", 10), ("_law_gallons", 11)]) scShown.nd (blkOk_by (N := nShown) (sc := defScope sShown) (by decide +kernel)) (ij_list (ej_callP DS (hr.mono (by decide)) (aj_cons (ej_dat 1 rfl (aj_cons (ej_dat 6 rfl (aj_nil ⟨ss, h, rfl, by omega, ?_⟩)))))))
    refine ⟨_, rfl, standing ss h, rfl, by omega, fun b => some (.str ((slook ly' b.1).getD "")), fun b hb => lctM (fun s H C cl fp => ct_tup rfl (cts_cons (ct_name 10 (by decide) scShown.nd) (cts_cons (ct_name 11 (by decide) scShown.nd) cts_nil))) ?_, ?_⟩
    · intro s H C cl fp
      obtain ⟨v, hv'⟩ := hsome b hb
      refine ej_dget (hu_of hr) (fun _ _ => rfl) (ej_val 5 rfl (ej_dat 10 rfl ⟨toAL ly', b.1, .str v, .mem (j := 0) rfl, rfl, ?_, ?_, rfl⟩))
      · rw [alook_toAL, hv']; rfl
      · rw [hv']; rfl
    rw [fm_map]
    have eu : (standing ss h).map (fun b : Pr => D.str ((slook ly' b.1).getD "")) = (usedOf ss (slook ly') h).map D.str := by
      unfold usedOf
      rw [List.map_map]
      rfl
    rw [eu]
    have hul2 : (usedOf ss (slook ly') h).length ≤ 60 := by
      unfold usedOf
      rw [List.length_map]
      exact hstl
    refine ssj_one (sj_ifP (k := !okF ss (slook ly') h) ?_ (fun hk => ?_) fun hk => ?_)
    · rw [hok]
      refine tj_cmp op_lt rfl (ej_lenSetS M.len M.set (ej_dat 12 rfl ⟨_, rfl, by omega, fun c hc1 hc2 => ?_⟩))
      refine ej_callB call_len_seq rfl M.len boot_len (aj_cons (ej_dat 12 rfl (aj_nil (cj_lenL ⟨_, _, rfl, .dat _, oj_b0 ⟨_, _, rfl, rfl, _, rfl, ?_, rfl⟩⟩))))
      rw [List.length_map]
      exact dup_iff hc1 hc2
    · have e : okF ss (slook ly') h = false := by
        cases q : okF ss (slook ly') h with
        | false => rfl
        | true => rw [q] at hk; cases hk
      rw [e] at inv
      rw [← inv] at k
      exact ssj_sub (ν := []) (List.nil_sublist _) (ssj_one (sj_ret (ej_bl k)))
    · have e : okF ss (slook ly') h = true := by
        cases q : okF ss (slook ly') h with
        | true => rfl
        | false => rw [q] at hk; cases hk
      rw [e] at inv
      refine ssj_nil ⟨ly', _, _, _, _, _, rfl, rfl, by omega, inv, fun t ht hm => ?_, fun x v hx => ?_⟩
      · rw [take_succ' hi] at hm
        rw [← hf']
        unfold upf
        rcases List.mem_append.mp hm with hm | hm
        · obtain ⟨v, hv'⟩ := hcov t ht hm
          rw [hv']
          cases lastLook (updF rws h) t.1 with
          | none => exact ⟨v, rfl⟩
          | some w => exact ⟨w, rfl⟩
        · have e3 := List.mem_singleton.mp hm
          have := List.all_eq_true.mp hb t (List.mem_filter.mpr ⟨ht, by simp [e3]⟩)
          obtain ⟨v, hv'⟩ := lastLook_some (of_decide_eq_true this)
          exact ⟨v, by rw [hv']; rfl⟩
      · rw [← hf'] at hx
        unfold upf at hx
        rw [take_succ' hi]
        cases q : lastLook (updF rws h) x with
        | some w =>
          have := updF_mem (lastLook_mem q)
          exact ⟨_, this, rfl, List.mem_append.mpr (.inr (by simp))⟩
        | none =>
          rw [q] at hx
          obtain ⟨r, h1, h2, h3⟩ := hsrc x v hx
          exact ⟨r, h1, h2, List.mem_append.mpr (.inl h3)⟩
  · rintro Γ2 μ2 ⟨ly, a, b, c, d, e, rfl, rfl, hly, inv, _⟩
    rw [List.drop_length] at inv
    rw [← inv] at k
    refine ssj_sub (ν := []) (List.nil_sublist _) (ssj_one (sj_ret (ej_bl k)))
end
end K43

set_option maxHeartbeats 4000000
/-! K26: _law_bent. -/
namespace K43
open PySem PySem.Spec PyProof.Rows L2
abbrev sBent : Stmt := top 29
section
variable {X : Cx} {B : Tb} {Γ : List AV} {μ ν : Mem} {P : AV → Mem → Prop} {A : AE} {e : Expr} {pos : Pos} {sts : List Stmt}
theorem box_any {K : PySem.W.Frag} {G G' : Hp} {b : Bx} {o : HO} (h : RM K G (boxD b) o) : RM K G' (boxD b) o := by
  cases o <;> first
    | exact h.elim
    | skip
  rename_i vs
  have h : RAll K G ([b.big, b.seed, b.cnt].map D.int) vs := h
  have e := h.ints
  subst e
  show RAll K G' ([b.big, b.seed, b.cnt].map D.int) _
  exact RAll.of_ints _
/-- a look at a list that may be changed: what is told of it is an int -/
theorem ej_peek {a p : Addr} {b : Bx} {d : D} (i : Nat) (hi : Γ[i]? = some (.val (.ref p))) (h : EJ X B e (Γ.set i (.dat d)) [(a, boxD b)] fun r μ1 => ∃ n : Int, r = .dat (.int n) ∧ μ1 = [(a, boxD b)] ∧ P (.dat (.int n)) [(a, boxD b), (p, d)]) : EJ X B e Γ [(a, boxD b), (p, d)] P := fun Z τ σ xs H Q s k => by
  obtain ⟨G, e0, w, g, t⟩ := s
  have w0 : Wd X.K B Z.F ([(a, boxD b)] ++ [(p, d)]) G H := w
  obtain ⟨G', ex, w', r⟩ := w0.freeze
  have hp0 := w.mem 1 p d rfl
  obtain ⟨q1, q2, o, q3, q4⟩ := hp0
  have hGp : G' p = some o := by
    cases q4' : d with
    | lst ds =>
      rw [q4'] at r
      cases r with
      | lst h1 h2 =>
        have h3 := w'.sub _ _ h1
        rw [q3] at h3
        cases h3
        exact h1
    | dic ks ds =>
      rw [q4'] at r
      cases r with
      | dic h1 h2 h3 =>
        have h4 := w'.sub _ _ h1
        rw [q3] at h4
        cases h4
        exact h1
    | _ => rw [q4'] at q4; cases o <;> exact q4.elim
  have s1 : SA X.K B ⟨Z.F, G'⟩ (Γ.set i (.dat d)) τ [(a, boxD b)] σ xs H := by
    refine ⟨G', Ex.refl _, w', (g.ex ex).setA i fun o ho => ?_, t.ex ex⟩
    obtain ⟨o', h1, rfl⟩ := g.get hi
    rw [ho] at h1
    cases h1
    exact ⟨_, rfl, r⟩
  refine h ⟨Z.F, G'⟩ τ σ xs H Q s1 fun r1 μ1 v H1 ⟨n, e1, e2, p1⟩ s2 => ?_
  subst e1
  subst e2
  obtain ⟨G2, e3, w2, g2, t1, t2⟩ := s2
  refine k _ _ v H1 p1 ⟨G, e0, ⟨fun b o h => w2.sub _ _ (e3 _ _ (ex _ _ h)), fun b o h => ⟨(w2.fr b o h).1, (w.fr b o h).2⟩, fun j a' d' hj => ?_, w.nd, w2.tab, w.tabG, w.nt⟩, g, ?_, t⟩
  · match j, hj with
    | 0, hj =>
      cases hj
      obtain ⟨z1, z2, u, z3, z4⟩ := w2.mem 0 a (boxD b) rfl
      obtain ⟨y1, y2, _⟩ := w.mem 0 a (boxD b) rfl
      exact ⟨y1, y2, u, z3, box_any z4⟩
    | 1, hj =>
      cases hj
      exact ⟨q1, q2, o, w2.sub _ _ (e3 _ _ hGp), q4⟩
    | j + 2, hj => simp at hj
  · cases t1
    exact .int _
end
/-! ### what a bent row may be -/
structure OkEl (d : D) : Prop where
  ns : notScr d
  pl : d.plain = true
  sh : SeqAt.shaped d.py = true
theorem okRow_tup {ds : List D} (h : ∀ d ∈ ds, OkEl d) : OkRow (.tup ds) := ⟨fun _ z => (by cases z), fun ds' e d hd => by
  injection e with e
  subst e
  exact ⟨(h d hd).ns, (h d hd).pl, (h d hd).sh⟩⟩
theorem okRow_non : OkRow .non := ⟨fun _ z => (by cases z), fun ds' e d hd => (by cases e)⟩
theorem okRow_lst (ds : List D) : OkRow (.lst ds) := ⟨fun _ z => (by cases z), fun ds' e d hd => (by cases e)⟩
theorem okEl_int (i : Int) : OkEl (.int i) := ⟨fun _ z => (by cases z), rfl, (by simp [SeqAt.shaped, D.py, PyData.canLay0, PyData.depth])⟩
theorem okEl_bl (i : Bool) : OkEl (.bl i) := ⟨fun _ z => (by cases z), rfl, (by simp [SeqAt.shaped, D.py, PyData.canLay0, PyData.depth])⟩
theorem okEl_str {x : Str} (h : PyData.strOk x = true) : OkEl (.str x) := ⟨fun _ z => (by cases z), rfl, str_shaped h⟩
theorem okEl_lstS {x : Str} (h : PyData.strOk x = true) : OkEl (.lst [.str x]) := ⟨fun _ z => (by cases z), rfl, (by simp [SeqAt.shaped, D.py, D.pys, PyData.canLay0, PyData.canLayAll0, PyData.depth, PyData.depthAll, h])⟩
theorem okEl_tupS {x : Str} (h : PyData.strOk x = true) : OkEl (.tup [.str x, .lst [.int 0]]) := ⟨fun _ z => (by cases z), rfl, (by simp [SeqAt.shaped, D.py, D.pys, PyData.canLay0, PyData.canLayAll0, PyData.depth, PyData.depthAll, h])⟩
theorem okEl_digits (i : Int) : OkEl (.str (toString i)) := okEl_str (strOk_of fun c hc => by
  rw [Str.ofString_eq_toList] at hc
  simp at hc
  obtain ⟨a, _, rfl⟩ := hc
  have := a.valid
  have h2 : a.toNat < 1114112 := by
    rcases this with h | h
    · have : a.toNat < 55296 := h
      omega
    · exact h.2
  exact h2)
structure RowOk (r : Row) : Prop where
  h0 : 0 ≤ r.1
  h1 : r.1 ≤ 1000000
  b : PyData.strOk r.2.1 = true
  v : PyData.strOk r.2.2 = true
theorem okRow_row {h : Int} {x y : Str} (hx : PyData.strOk x = true) (hy : PyData.strOk y = true) : OkRow (.tup [.int h, .str x, .str y]) := okRow_tup fun d hd => by
  simp at hd
  rcases hd with rfl | rfl | rfl
  · exact okEl_int _
  · exact okEl_str hx
  · exact okEl_str hy
def someL (h : Int) (r : Row) (x y : Str) : List D :=
  [.tup [.int h, .str r.2.1, .str r.2.2], .tup [.int r.1, .str x, .str r.2.2], .tup [.int r.1, .str r.2.1, .str y], .lst [.int r.1, .str r.2.1, .str r.2.2], .tup [.int r.1, .str r.2.1, .str r.2.2, .int 0],
   .tup [.bl true, .str r.2.1, .str r.2.2], .tup [.int r.1, .str r.2.2, .str r.2.1], .tup [.str (toString r.1), .str r.2.1, .str r.2.2], .non, .tup [.int r.1, .str r.2.1],
   .tup [.int r.1, .lst [.str r.2.1], .str r.2.2], .tup [.int r.1, .str r.2.1, .tup [.str r.2.2, .lst [.int 0]]]]
theorem someL_ok {h : Int} {r : Row} {x y : Str} (hr : RowOk r) (hx : PyData.strOk x = true) (hy : PyData.strOk y = true) : ∀ d ∈ someL h r x y, OkRow d := by
  intro d hd
  unfold someL at hd
  simp only [List.mem_cons, List.not_mem_nil, or_false] at hd
  rcases hd with rfl | rfl | rfl | rfl | rfl | rfl | rfl | rfl | rfl | rfl | rfl | rfl
  · exact okRow_row hr.b hr.v
  · exact okRow_row hx hr.v
  · exact okRow_row hr.b hy
  · exact okRow_lst _
  · refine okRow_tup fun d hd => ?_
    simp at hd
    rcases hd with rfl | rfl | rfl | rfl
    · exact okEl_int _
    · exact okEl_str hr.b
    · exact okEl_str hr.v
    · exact okEl_int _
  · refine okRow_tup fun d hd => ?_
    simp at hd
    rcases hd with rfl | rfl | rfl
    · exact okEl_bl _
    · exact okEl_str hr.b
    · exact okEl_str hr.v
  · exact okRow_row hr.v hr.b
  · refine okRow_tup fun d hd => ?_
    simp at hd
    rcases hd with rfl | rfl | rfl
    · exact okEl_digits _
    · exact okEl_str hr.b
    · exact okEl_str hr.v
  · exact okRow_non
  · refine okRow_tup fun d hd => ?_
    simp at hd
    rcases hd with rfl | rfl
    · exact okEl_int _
    · exact okEl_str hr.b
  · refine okRow_tup fun d hd => ?_
    simp at hd
    rcases hd with rfl | rfl | rfl
    · exact okEl_int _
    · exact okEl_lstS hr.b
    · exact okEl_str hr.v
  · refine okRow_tup fun d hd => ?_
    simp at hd
    rcases hd with rfl | rfl | rfl
    · exact okEl_int _
    · exact okEl_str hr.b
    · exact okEl_tupS hr.v
theorem cut_mem {α : Type} {xs : List α} {lo hi : Option Int} {x : α} (h : x ∈ cutD xs lo hi) : x ∈ xs := List.mem_of_mem_drop (List.mem_of_mem_take h)
theorem cut_len {α : Type} (xs : List α) (lo hi : Option Int) : (cutD xs lo hi).length ≤ xs.length := by
  unfold cutD
  rw [List.length_take, List.length_drop]
  omega
theorem at_id (xs : List D) {r : Int} (h0 : 0 ≤ r) (h1 : r < xs.length) : ∃ x ∈ xs, atI xs r = some x := by
  obtain ⟨x, hx, h⟩ := at_map id xs h0 h1
  rw [List.map_id] at h
  exact ⟨x, hx, h⟩
/-- what comes of it -/
theorem rows_shaped {rows : List Row} (h : ∀ r ∈ rows, RowOk r) : D.plains (rows.map rwD) = true ∧ SeqAt.shaped (D.py (.lst (rows.map rwD))) = true := by
  have h1 : D.plains (rows.map rwD) = true ∧ PyData.canLayAll0 (D.pys (rows.map rwD)) = true ∧ PyData.depthAll (D.pys (rows.map rwD)) ≤ 2 := by
    induction rows with
    | nil => simp [D.pys, D.plains, PyData.canLayAll0, PyData.depthAll]
    | cons r rows ih =>
      obtain ⟨a1, a2, a3⟩ := ih fun x hx => h x (by simp [hx])
      have hr := h r (by simp)
      refine ⟨?_, ?_, ?_⟩
      · show (D.plain (rwD r) && D.plains (rows.map rwD)) = true
        rw [a1]
        rfl
      · show PyData.canLayAll0 (D.py (rwD r) :: D.pys (rows.map rwD)) = true
        unfold PyData.canLayAll0
        rw [a2]
        simp [rwD, D.py, D.pys, PyData.canLay0, PyData.canLayAll0, hr.b, hr.v]
      · show PyData.depthAll (D.py (rwD r) :: D.pys (rows.map rwD)) ≤ 2
        simp only [rwD, D.py, D.pys, PyData.depthAll, PyData.depth] at *
        omega
  refine ⟨h1.1, ?_⟩
  unfold SeqAt.shaped
  rw [Bool.and_eq_true]
  refine ⟨?_, ?_⟩
  · show PyData.canLay0 (.list (D.pys (rows.map rwD))) = true
    unfold PyData.canLay0
    exact h1.2.1
  · have := h1.2.2
    show decide (PyData.depth (.list (D.pys (rows.map rwD))) ≤ 64) = true
    simp only [PyData.depth]
    exact decide_eq_true (by omega)
theorem log_small {i : Int} (h0 : 0 ≤ i) (h1 : i ≤ 1000000) : i.natAbs.log2 < 1920 := by
  have h2 : i.natAbs < 2 ^ 20 := by omega
  by_cases hz : i.natAbs = 0
  · rw [hz]; decide
  · have := (Nat.log2_lt hz).mpr h2
    omega
structure GoodT (ds : List D) : Prop where
  len : ds.length ≤ 900
  ok : ∀ d ∈ ds, OkRow d
theorem rows_ok {rows : List Row} (h : ∀ r ∈ rows, RowOk r) : ∀ d ∈ rows.map rwD, OkRow d := fun d hd => by
  obtain ⟨r, hr, rfl⟩ := List.mem_map.mp hd
  exact okRow_row (h r hr).b (h r hr).v

section
variable {P : Program} {w : World} {K : PySem.W.Frag} {mg : Str → Option Value} {base : Heap} {B : Tb}
def aBent : Ab := fun as μ P => ∃ (a : Addr) (b : Bx) (n : Int) (vs : List Pr) (ss : List Stay) (rows : List Row), as = [.val (.ref a), .dat (.lst (vs.map siD)), .dat (.lst (ss.map stD)), .dat (.lst (rows.map rwD))] ∧ μ = [(a, boxD b)] ∧ BxN n b ∧ n < 900000 ∧ VsOk vs ∧ SsOk ss ∧ 1 ≤ vs.length ∧ vs.length ≤ 60 ∧ 1 ≤ ss.length ∧ ss.length ≤ 60 ∧
  rows.length ≤ 400 ∧ (∀ r ∈ rows, RowOk r) ∧ ∀ (ds : List D) (b' : Bx), GoodT ds → BxN (n + 10) b' → P (.dat (.lst ds)) [(a, boxD b')]
abbrev nBent : List Str := ["_law_box_here", "_law_vessels_here", "_law_stays_here", "_law_rows", "_law_found", "_law_way", "_law_stay", "_law_vessel", "_law_hour", "_law_row", "_law_at", "_law_one", "_law_some", "_law_other"]
theorem scBent : FnScope nBent ["_law_box_here", "_law_vessels_here", "_law_stays_here", "_law_rows"] (defScope sBent) := ⟨rfl, rfl, rfl, by decide +kernel, rfl, by decide +kernel, by decide +kernel⟩
theorem df_bent {f : Addr} {fd : FuncData} (F : Fun K "_law_bent" "_law_bent" sBent f fd) (hm : mg "_law_bent" = some (.ref f)) (M : Bn mg) (DT : Df P w K mg base B "_law_take" 1 ["_law_box_here", "_law_size"] aTake) : Df P w K mg base B "_law_bent" 2 ["_law_box_here", "_law_vessels_here", "_law_stays_here", "_law_rows"] aBent := by
  refine df_mk F scBent (fun as μ p q h ⟨a, b, n, vs, ss, rows, k1, k2, k3, k4, k5, k6, k7, k8, k9, k10, k11, k12, k⟩ => ⟨a, b, n, vs, ss, rows, k1, k2, k3, k4, k5, k6, k7, k8, k9, k10, k11, k12, fun r b' h1 h2 => h _ _ (k r b' h1 h2)⟩) hm (F.binds fun _ _ _ _ _ _ us hl => match us, hl with | [_, _, _, _], _ => rfl) (fun as μ P ⟨_, _, _, _, _, _, q, _⟩ => by rw [q]; rfl) ?_
  rintro cdv A outer s H E as μ Pp _ hr ⟨a, b, n, vs, ss, rows, rfl, rfl, hb, hn, hv, hs, hv1, hvl, hs1, hsl, hrl, hrok, k⟩
  have hrd : ∀ d ∈ rows.map rwD, OkRow d := rows_ok hrok
  refine ssj_cons (sj_par (i := 4) (j := 5) scBent.nd (by decide) ?_)
  refine aj_cons (ej_callTy call_list_of rfl M.list rfl (aj_cons (ej_dat 3 rfl (aj_nil (cj_listM ⟨_, _, rfl, .dat _, fun p => ?_⟩)))))
  refine aj_cons (ej_take (k := 0) DT (hr.mono (by decide)) (ej_val 0 rfl (ej_int ⟨a, b, _, n, [(p, .lst (rows.map rwD))], rfl, rfl, rfl, hb, by omega, by decide, by decide, fun way b1 w0 w1 hb1 => aj_nil ⟨_, _, rfl, ?_⟩⟩)))
  refine ssj_cons (sj_par (i := 6) (j := 7) scBent.nd (by decide) ?_)
  refine aj_cons (ej_ix ix_list (fun _ _ => rfl) (ej_dat 2 rfl ?_))
  refine ej_take (k := 0) DT (hr.mono (by decide)) (ej_val 0 rfl ?_)
  refine ej_callB call_len_seq rfl M.len boot_len (aj_cons (ej_dat 2 rfl (aj_nil (cj_lenL ⟨_, _, rfl, .dat _, ?_⟩))))
  rw [List.length_map]
  refine ⟨a, b1, _, n + 1, [(p, .lst (rows.map rwD))], rfl, rfl, rfl, hb1, by omega, by omega, by omega, fun i1 b2 i10 i11 hb2 => ?_⟩
  obtain ⟨st, hst, hat1⟩ := at_map stD ss i10 i11
  refine oj_ixL ⟨_, _, _, .dat _, rfl, hat1, ?_⟩
  refine aj_cons (ej_ix ix_tup (fun _ _ => rfl) (ej_ix ix_list (fun _ _ => rfl) (ej_dat 1 rfl ?_)))
  refine ej_take (k := 0) DT (hr.mono (by decide)) (ej_val 0 rfl ?_)
  refine ej_callB call_len_seq rfl M.len boot_len (aj_cons (ej_dat 1 rfl (aj_nil (cj_lenL ⟨_, _, rfl, .dat _, ?_⟩))))
  rw [List.length_map]
  refine ⟨a, b2, _, n + 2, [(p, .lst (rows.map rwD))], rfl, rfl, rfl, hb2.mono (by omega), by omega, by omega, by omega, fun i2 b3 i20 i21 hb3 => ?_⟩
  obtain ⟨ve, hve, hat2⟩ := at_map siD vs i20 i21
  refine oj_ixL ⟨_, _, _, .dat _, rfl, hat2, ej_int (oj_ixT ⟨_, _, _, rfl, rfl, rfl, aj_nil ⟨_, _, rfl, ?_⟩⟩)⟩
  have nst := (hs.nm st hst).ok
  have nve := (hv.nm ve hve).ok
  have sbe := hs.be st hst
  have sb0 := hs.b0 st hst
  have se1 := hs.e1 st hst
  -- hour
  refine ssj_cons (sj_set 8 ?_ scBent.nd)
  refine ej_bin op_sub ?_
  refine ej_bin op_add ?_
  refine ej_ix ix_tup (fun _ _ => rfl) (ej_dat 6 rfl (ej_int (oj_ixT ⟨_, _, _, rfl, rfl, rfl, ?_⟩)))
  refine ej_take (k := 0) DT (hr.mono (by decide)) (ej_val 0 rfl ?_)
  refine ej_bin op_add ?_
  refine ej_bin op_sub ?_
  refine ej_ix ix_tup (fun _ _ => rfl) (ej_dat 6 rfl (ej_int (oj_ixT ⟨_, _, _, rfl, rfl, rfl, ?_⟩)))
  refine ej_ix ix_tup (fun _ _ => rfl) (ej_dat 6 rfl (ej_int (oj_ixT ⟨_, _, _, rfl, rfl, rfl, oj_i0 ⟨_, _, rfl, rfl, ej_int (oj_i0 ⟨_, _, rfl, rfl, ?_⟩)⟩⟩)))
  refine ⟨a, b3, _, n + 3, [(p, .lst (rows.map rwD))], rfl, rfl, rfl, hb3.mono (by omega), by omega, by omega, by omega, fun i3 b4 i30 i31 hb4 => ?_⟩
  refine oj_i0 ⟨_, _, rfl, rfl, ?_⟩
  refine ej_take (k := 0) DT (hr.mono (by decide)) (ej_val 0 rfl (ej_int ⟨a, b4, _, n + 4, [(p, .lst (rows.map rwD))], rfl, rfl, rfl, hb4.mono (by omega), by omega, by decide, by decide, fun i4 b5 i40 i41 hb5 => ?_⟩))
  refine oj_i0 ⟨_, _, rfl, rfl, ?_⟩
  generalize st.2.2.1 + i3 - i4 = hour
  have hb5' : BxN (n + 5) b5 := hb5.mono (by omega)
  have okNew : OkRow (.tup [.int hour, .str st.1, .str ve.1]) := okRow_row nst nve
  refine ssj_cons (sj_mid (fun Γ1 μ1 => ∃ (ds : List D) (b' : Bx) (c1 c2 c3 c4 c5 : AV), Γ1 = [.val (.ref a), .dat (.lst (vs.map siD)), .dat (.lst (ss.map stD)), .dat (.lst (rows.map rwD)), .dat (.lst ds), .dat (.int way), .dat (stD st), .dat (.str ve.1), .dat (.int hour), c1, c2, c3, c4, c5] ∧ μ1 = [(a, boxD b')] ∧ GoodT ds ∧ BxN (n + 10) b') ?_ ?_)
  · by_cases hw2 : way < 2
    · refine sj_ifP (k := true) (tj_cmp op_lt rfl (ej_dat 5 rfl (ej_int (oj_b0 ⟨_, _, rfl, rfl, _, rfl, decide_eq_true hw2, rfl⟩)))) (fun _ => ?_) fun h => nomatch h
      refine ssj_cons (sj_set 10 ?_ scBent.nd)
      refine ej_peek 4 rfl ?_
      refine ej_callB call_len_seq rfl M.len boot_len (aj_cons ?_)
      refine ej_lcF rwD (own := [("_law_row", 9)]) scBent.nd (blkOk_by (N := nBent) (sc := defScope sBent) (by decide +kernel)) (ij_list (ej_dat 4 rfl ?_))
      refine ⟨_, rfl, rows, rfl, by omega, fun t => cond (decide (t.1 ≤ hour)) (some (rwD t)) none, fun t ht => lctF (fun s H C cl fp => ct_name 9 (by decide) scBent.nd) ?_ ?_, ?_⟩
      · intro s H C cl fp
        exact tj_cmp op_le rfl (ej_ix ix_tup (fun _ _ => rfl) (ej_dat 9 rfl (ej_int (oj_ixT ⟨_, _, _, rfl, rfl, rfl, ej_dat 8 rfl (oj_b0 ⟨_, _, rfl, rfl, _, rfl, rfl, rfl⟩)⟩))))
      · intro _ s H C cl fp
        exact ej_dat 9 rfl ⟨rfl, rfl⟩
      rw [fm_if]
      refine aj_nil (cj_lenL ⟨_, _, rfl, .dat _, _, rfl, rfl, ?_⟩)
      rw [List.length_map]
      have hcl : (rows.filter fun t => decide (t.1 ≤ hour)).length ≤ 400 := Nat.le_trans (List.length_filter_le _ _) hrl
      generalize (rows.filter fun t => decide (t.1 ≤ hour)).length = cnt at hcl
      refine ssj_cons (sj_expr ?_)
      refine ej_bm PySem.F.plainAttrs_list PySem.F.slot_list_insert PySem.F.type_list_insert mt_insert (ej_val 4 rfl ⟨.lst (.mem (j := 1) rfl), aj_cons (ej_dat 10 rfl (aj_cons ?_))⟩)
      refine ej_tup z3 (aj_cons (ej_dat 8 rfl (aj_cons (ej_ix ix_tup (fun _ _ => rfl) (ej_dat 6 rfl (ej_int (oj_ixT ⟨_, _, _, rfl, rfl, rfl, ?_⟩)))))))
      refine aj_cons (ej_dat 7 rfl (aj_nil ⟨_, rfl, z3, aj_nil (mj_insert ⟨1, p, _, _, _, rfl, rfl, rfl, ?_, by omega, by omega, ?_⟩)⟩))
      · rw [List.length_map]
        omega
      refine ssj_freeze (μ := [(a, boxD b5)]) 4 rfl (ssj_nil ⟨_, b5, _, _, _, _, _, rfl, rfl, ⟨?_, ?_⟩, hb5'.mono (by omega)⟩)
      · rw [List.length_append, List.length_append, List.length_take, List.length_drop, List.length_map]
        simp
        omega
      · intro d hd
        rcases List.mem_append.mp hd with hd | hd
        · rcases List.mem_append.mp hd with hd | hd
          · exact hrd d (List.mem_of_mem_take hd)
          · rw [List.mem_singleton.mp hd]
            exact okNew
        · exact hrd d (List.mem_of_mem_drop hd)
    · refine sj_ifP (k := false) (tj_cmp op_lt rfl (ej_dat 5 rfl (ej_int (oj_b0 ⟨_, _, rfl, rfl, _, rfl, decide_eq_false hw2, rfl⟩)))) (fun h => nomatch h) fun _ => ssj_one ?_
      by_cases hw3 : way = 2
      · subst hw3
        refine sj_ifP (k := true) (tj_cmp op_eq rfl (ej_dat 5 rfl (ej_int (oj_eq ⟨_, _, _, _, rfl, rfl, rfl, rfl, rfl, _, rfl, by decide, rfl⟩)))) (fun _ => ?_) fun h => nomatch h
        refine ssj_cons (sj_set 4 (ej_bin op_cat (ej_val 4 rfl (ej_lst (aj_cons ?_)))) scBent.nd)
        refine ej_tup z3 (aj_cons (ej_dat 8 rfl (aj_cons (ej_ix ix_tup (fun _ _ => rfl) (ej_dat 6 rfl (ej_int (oj_ixT ⟨_, _, _, rfl, rfl, rfl, ?_⟩)))))))
        refine aj_cons (ej_dat 7 rfl (aj_nil ⟨_, rfl, z3, aj_nil ⟨_, rfl, z1, oj_cat ⟨_, _, .mem (j := 1) rfl, .dat _, zM (by simp; omega), ?_⟩⟩⟩))
        refine ssj_sub (ν := [(a, boxD b5)]) (List.Sublist.cons_cons _ (List.nil_sublist _)) (ssj_nil ⟨_, b5, _, _, _, _, _, rfl, rfl, ⟨?_, ?_⟩, hb5'.mono (by omega)⟩)
        · simp
          omega
        · intro d hd
          rcases List.mem_append.mp hd with hd | hd
          · exact hrd d hd
          · rw [List.mem_singleton.mp hd]
            exact okNew
      · have hne : ¬ (V.int way = V.int 2) := fun z => by
          injection z with z
          exact hw3 z
        refine sj_ifP (k := false) (tj_cmp op_eq rfl (ej_dat 5 rfl (ej_int (oj_eq ⟨_, _, _, _, rfl, rfl, rfl, rfl, rfl, _, rfl, decide_eq_false hne, rfl⟩)))) (fun h => nomatch h) fun _ => ssj_one ?_
        obtain ⟨rpl, rsh⟩ := rows_shaped hrok
        by_cases he : rows = []
        · subst he
          refine sj_ifP (k := true) (tj_cmp (op_eqD hr.units) rfl (ej_val 4 rfl (ej_lst (aj_nil ⟨[], rfl, z0, ?_⟩)))) (fun _ => ?_) fun h => nomatch h
          · exact oj_eqD ⟨.lst [], .lst [], .mem (j := 1) rfl, .dat _, rfl, rfl, by decide, by decide, _, rfl, eqvAll_nil _, rfl⟩
          refine ssj_cons (sj_set 4 ?_ scBent.nd)
          refine ej_ix ix_list (fun _ _ => rfl) (ej_lst (aj_cons (ej_lst (aj_cons ?_))))
          refine ej_tup z3 (aj_cons (ej_dat 8 rfl (aj_cons (ej_ix ix_tup (fun _ _ => rfl) (ej_dat 6 rfl (ej_int (oj_ixT ⟨_, _, _, rfl, rfl, rfl, ?_⟩)))))))
          refine aj_cons (ej_dat 7 rfl (aj_nil ⟨_, rfl, z3, aj_nil ⟨_, rfl, z1, ?_⟩⟩))
          refine aj_cons (ej_lst (aj_cons (ej_non (aj_nil ⟨_, rfl, z1, aj_nil ⟨_, rfl, z2, ?_⟩⟩))))
          refine ej_bin op_mod (ej_dat 5 rfl (ej_int (oj_iC ⟨_, _, rfl, rfl, by decide, ?_⟩)))
          have m0 := Int.emod_nonneg way (b := 2) (by decide)
          have m1 := Int.emod_lt_of_pos way (b := 2) (by decide)
          obtain ⟨x, hx, hat⟩ := at_id [D.lst [.tup [.int hour, .str st.1, .str ve.1]], D.lst [.non]] m0 (by simpa using m1)
          have hxs : ∃ ds : List D, x = .lst ds ∧ GoodT ds := by
            simp at hx
            rcases hx with rfl | rfl
            · exact ⟨_, rfl, by simp, fun d hd => by rw [List.mem_singleton.mp hd]; exact okNew⟩
            · exact ⟨_, rfl, by simp, fun d hd => by rw [List.mem_singleton.mp hd]; exact okRow_non⟩
          obtain ⟨ds, rfl, hg⟩ := hxs
          refine oj_ixL ⟨_, _, _, .dat _, rfl, hat, ?_⟩
          exact ssj_sub (ν := [(a, boxD b5)]) (List.Sublist.cons_cons _ (List.nil_sublist _)) (ssj_nil ⟨_, b5, _, _, _, _, _, rfl, rfl, hg, hb5'.mono (by omega)⟩)
        · refine sj_ifP (k := false) (tj_cmp (op_eqD hr.units) rfl (ej_val 4 rfl (ej_lst (aj_nil ⟨[], rfl, z0, ?_⟩)))) (fun h => nomatch h) fun _ => ?_
          · refine oj_eqD ⟨.lst (rows.map rwD), .lst [], .mem (j := 1) rfl, .dat _, rpl, rfl, rsh, by decide, _, rfl, ?_, rfl⟩
            rw [eqvAll_nil]
            exact decide_eq_false (by simpa using he)
          have hrl1 : 1 ≤ rows.length := List.length_pos_iff.mpr he
          -- at, one
          refine ssj_cons (sj_set 10 ?_ scBent.nd)
          refine ej_take (k := 0) DT (hr.mono (by decide)) (ej_val 0 rfl ?_)
          refine ej_callB call_len_seq rfl M.len boot_len (aj_cons (ej_val 4 rfl (aj_nil (cj_lenL ⟨_, _, rfl, .mem (j := 1) rfl, ?_⟩))))
          rw [List.length_map]
          refine ⟨a, b5, _, n + 5, [(p, .lst (rows.map rwD))], rfl, rfl, rfl, hb5', by omega, by omega, by omega, fun i5 b6 i50 i51 hb6 => ?_⟩
          obtain ⟨one, hone, hat3⟩ := at_map rwD rows i50 i51
          have ho := hrok one hone
          refine ssj_cons (sj_set 11 (ej_ix ix_list (fun _ _ => rfl) (ej_val 4 rfl (ej_dat 10 rfl (oj_ixL ⟨_, _, _, .mem (j := 1) rfl, rfl, hat3, ?_⟩)))) scBent.nd)
          -- some
          refine ssj_cons (sj_set 12 (ej_lst ?_) scBent.nd)
          refine aj_cons (ej_bin op_catA (ej_tup z1 (aj_cons (ej_dat 8 rfl (aj_nil ⟨_, rfl, z1, ?_⟩)))))
          refine ej_slice sl_tupA (ej_dat 11 rfl (opj_some (ej_int ⟨_, rfl, opj_none (slj_tup ⟨_, rfl, ?_⟩)⟩)))
          refine oj_catT ⟨_, _, rfl, rfl, z3, ?_⟩
          refine aj_cons (ej_tup z3 (aj_cons (ej_ix ix_tup (fun _ _ => rfl) (ej_dat 11 rfl (ej_int (oj_ixT ⟨_, _, _, rfl, rfl, rfl, ?_⟩))))))
          refine aj_cons (ej_ix ix_tup (fun _ _ => rfl) (ej_dat 6 rfl (ej_int (oj_ixT ⟨_, _, _, rfl, rfl, rfl, ?_⟩))))
          refine aj_cons (ej_ix ix_tup (fun _ _ => rfl) (ej_dat 11 rfl (ej_int (oj_ixT ⟨_, _, _, rfl, rfl, rfl, aj_nil ⟨_, rfl, z3, ?_⟩⟩))))
          refine aj_cons (ej_tup z3 (aj_cons (ej_ix ix_tup (fun _ _ => rfl) (ej_dat 11 rfl (ej_int (oj_ixT ⟨_, _, _, rfl, rfl, rfl, ?_⟩))))))
          refine aj_cons (ej_ix ix_tup (fun _ _ => rfl) (ej_dat 11 rfl (ej_int (oj_ixT ⟨_, _, _, rfl, rfl, rfl, ?_⟩))))
          refine aj_cons (ej_dat 7 rfl (aj_nil ⟨_, rfl, z3, ?_⟩))
          refine aj_cons (ej_callTy call_list_of rfl M.list rfl (aj_cons (ej_dat 11 rfl (aj_nil (cj_list ⟨_, _, rfl, .inr rfl, ?_⟩)))))
          refine aj_cons (ej_bin op_catA (ej_dat 11 rfl (ej_tup z1 (aj_cons (ej_int (aj_nil ⟨_, rfl, z1, oj_catT ⟨_, _, rfl, rfl, z4, ?_⟩⟩))))))
          refine aj_nil ⟨_, rfl, zM (by show 5 ≤ 1000000; decide), ?_⟩
          -- some + ..
          refine ssj_cons (sj_set 12 (ej_bin op_cat (ej_dat 12 rfl (ej_lst ?_))) scBent.nd)
          refine aj_cons (ej_tup z3 (aj_cons (ej_bl (aj_cons (ej_ix ix_tup (fun _ _ => rfl) (ej_dat 11 rfl (ej_int (oj_ixT ⟨_, _, _, rfl, rfl, rfl, ?_⟩))))))))
          refine aj_cons (ej_ix ix_tup (fun _ _ => rfl) (ej_dat 11 rfl (ej_int (oj_ixT ⟨_, _, _, rfl, rfl, rfl, aj_nil ⟨_, rfl, z3, ?_⟩⟩))))
          refine aj_cons (ej_tup z3 (aj_cons (ej_ix ix_tup (fun _ _ => rfl) (ej_dat 11 rfl (ej_int (oj_ixT ⟨_, _, _, rfl, rfl, rfl, ?_⟩))))))
          refine aj_cons (ej_ix ix_tup (fun _ _ => rfl) (ej_dat 11 rfl (ej_int (oj_ixT ⟨_, _, _, rfl, rfl, rfl, ?_⟩))))
          refine aj_cons (ej_ix ix_tup (fun _ _ => rfl) (ej_dat 11 rfl (ej_int (oj_ixT ⟨_, _, _, rfl, rfl, rfl, aj_nil ⟨_, rfl, z3, ?_⟩⟩))))
          refine aj_cons (ej_tup z3 (aj_cons (ej_callTy call_str_int rfl M.str rfl (aj_cons (ej_ix ix_tup (fun _ _ => rfl) (ej_dat 11 rfl (ej_int (oj_ixT ⟨_, _, _, rfl, rfl, rfl, aj_nil (cj_str ⟨_, rfl, log_small ho.h0 ho.h1, ?_⟩)⟩))))))))
          refine aj_cons (ej_ix ix_tup (fun _ _ => rfl) (ej_dat 11 rfl (ej_int (oj_ixT ⟨_, _, _, rfl, rfl, rfl, ?_⟩))))
          refine aj_cons (ej_ix ix_tup (fun _ _ => rfl) (ej_dat 11 rfl (ej_int (oj_ixT ⟨_, _, _, rfl, rfl, rfl, aj_nil ⟨_, rfl, z3, ?_⟩⟩))))
          refine aj_cons (ej_non (aj_cons ?_))
          refine ej_slice sl_tupA (ej_dat 11 rfl (opj_none (opj_some (ej_int ⟨_, rfl, slj_tup ⟨_, rfl, ?_⟩⟩))))
          refine aj_nil ⟨_, rfl, zM (by show 5 ≤ 1000000; decide), oj_cat ⟨_, _, .dat _, .dat _, zM (by show 5 + 5 ≤ 1000000; decide), ?_⟩⟩
          refine ssj_cons (sj_set 12 (ej_bin op_cat (ej_dat 12 rfl (ej_lst ?_))) scBent.nd)
          refine aj_cons (ej_tup z3 (aj_cons (ej_ix ix_tup (fun _ _ => rfl) (ej_dat 11 rfl (ej_int (oj_ixT ⟨_, _, _, rfl, rfl, rfl, ?_⟩))))))
          refine aj_cons (ej_lst (aj_cons (ej_ix ix_tup (fun _ _ => rfl) (ej_dat 11 rfl (ej_int (oj_ixT ⟨_, _, _, rfl, rfl, rfl, aj_nil ⟨_, rfl, z1, ?_⟩⟩))))))
          refine aj_cons (ej_ix ix_tup (fun _ _ => rfl) (ej_dat 11 rfl (ej_int (oj_ixT ⟨_, _, _, rfl, rfl, rfl, aj_nil ⟨_, rfl, z3, ?_⟩⟩))))
          refine aj_cons (ej_tup z3 (aj_cons (ej_ix ix_tup (fun _ _ => rfl) (ej_dat 11 rfl (ej_int (oj_ixT ⟨_, _, _, rfl, rfl, rfl, ?_⟩))))))
          refine aj_cons (ej_ix ix_tup (fun _ _ => rfl) (ej_dat 11 rfl (ej_int (oj_ixT ⟨_, _, _, rfl, rfl, rfl, ?_⟩))))
          refine aj_cons (ej_tup z2 (aj_cons (ej_ix ix_tup (fun _ _ => rfl) (ej_dat 11 rfl (ej_int (oj_ixT ⟨_, _, _, rfl, rfl, rfl, ?_⟩))))))
          refine aj_cons (ej_lst (aj_cons (ej_int (aj_nil ⟨_, rfl, z1, aj_nil ⟨_, rfl, z2, aj_nil ⟨_, rfl, z3, ?_⟩⟩⟩))))
          refine aj_nil ⟨_, rfl, z2, oj_cat ⟨_, _, .dat _, .dat _, zM (by show 10 + 2 ≤ 1000000; decide), ?_⟩⟩
          -- found[at] = some[..]
          refine ssj_cons (sj_asg ?_)
          refine ej_ix ix_list (fun _ _ => rfl) (ej_dat 12 rfl ?_)
          refine ej_take (k := 0) DT (hr.mono (by decide)) (ej_val 0 rfl (ej_int ⟨a, b6, _, n + 6, [(p, .lst (rows.map rwD))], rfl, rfl, rfl, hb6.mono (by omega), by omega, by decide, by decide, fun i6 b7 i60 i61 hb7 => ?_⟩))
          obtain ⟨x, hx, hat4⟩ := at_id (someL hour one st.1 ve.1) i60 i61
          have okx : OkRow x := someL_ok ho nst nve x hx
          refine oj_ixL ⟨someL hour one st.1 ve.1, _, _, .dat _, rfl, hat4, ?_⟩
          obtain ⟨j5, rfl⟩ := Int.eq_ofNat_of_zero_le i50
          have hj5 : j5 < rows.length := by omega
          refine gj_set (ej_val 4 rfl (ej_dat 10 rfl ⟨1, p, _, _, j5, x, rfl, rfl, rfl, rfl, ?_, ?_⟩))
          · unfold ixN
            rw [if_pos (by omega), List.length_map, if_pos (by omega)]
            simp
          have hb7' : BxN (n + 7) b7 := hb7.mono (by omega)
          have ceq : ∀ m : Int, way ≠ m → decide (V.int way = V.int m) = false := fun m hm => decide_eq_false fun z => by
            injection z with z
            exact hm z
          have hcut : ∀ (lo hi : Option Int), (∀ d ∈ cutD (rows.map rwD) lo hi, OkRow d) ∧ (cutD (rows.map rwD) lo hi).length ≤ 400 := fun lo hi => ⟨fun d hd => hrd d (cut_mem hd), by
            have := cut_len (rows.map rwD) lo hi
            rw [List.length_map] at this
            omega⟩
          by_cases hw3 : way = 3
          · subst hw3
            refine ssj_one (sj_ifP (k := true) (tj_cmp op_eq rfl (ej_dat 5 rfl (ej_int (oj_eq ⟨_, _, _, _, rfl, rfl, rfl, rfl, rfl, _, rfl, by decide, rfl⟩)))) (fun _ => ?_) fun h => nomatch h)
            refine ssj_cons (sj_set 4 (ej_bin op_cat ?_) scBent.nd)
            refine ej_callTy call_list_of rfl M.list rfl (aj_cons ?_)
            refine ej_slice sl_list (ej_dat 3 rfl (opj_none (opj_some (ej_dat 10 rfl ⟨_, rfl, slj_list ⟨_, .dat _, aj_nil (cj_list ⟨_, _, rfl, .inl (.dat _), ?_⟩)⟩⟩))))
            refine ej_callTy call_list_of rfl M.list rfl (aj_cons ?_)
            refine ej_slice sl_list (ej_dat 3 rfl (opj_some (ej_bin op_add (ej_dat 10 rfl (ej_int (oj_i0 ⟨_, _, rfl, rfl, _, rfl, opj_none (slj_list ⟨_, .dat _, aj_nil (cj_list ⟨_, _, rfl, .inl (.dat _), ?_⟩)⟩)⟩))))))
            obtain ⟨c1, c2⟩ := hcut none (some (j5 : Int))
            obtain ⟨c3, c4⟩ := hcut (some ((j5 : Int) + 1)) none
            refine oj_cat ⟨_, _, .dat _, .dat _, zM (by omega), ?_⟩
            refine ssj_sub (ν := [(a, boxD b7)]) (List.Sublist.cons_cons _ (List.nil_sublist _)) (ssj_nil ⟨_, b7, _, _, _, _, _, rfl, rfl, ⟨?_, ?_⟩, hb7'.mono (by omega)⟩)
            · rw [List.length_append]
              omega
            · intro d hd
              rcases List.mem_append.mp hd with hd | hd
              · exact c1 d hd
              · exact c3 d hd
          · refine ssj_one (sj_ifP (k := false) (tj_cmp op_eq rfl (ej_dat 5 rfl (ej_int (oj_eq ⟨_, _, _, _, rfl, rfl, rfl, rfl, rfl, _, rfl, ceq 3 hw3, rfl⟩)))) (fun h => nomatch h) fun _ => ssj_one ?_)
            by_cases hw4 : way = 4
            · subst hw4
              refine sj_ifP (k := true) (tj_cmp op_eq rfl (ej_dat 5 rfl (ej_int (oj_eq ⟨_, _, _, _, rfl, rfl, rfl, rfl, rfl, _, rfl, by decide, rfl⟩)))) (fun _ => ?_) fun h => nomatch h
              refine ssj_cons (sj_set 4 (ej_bin op_cat (ej_bin op_cat ?_)) scBent.nd)
              refine ej_callTy call_list_of rfl M.list rfl (aj_cons ?_)
              refine ej_slice sl_list (ej_dat 3 rfl (opj_none (opj_some (ej_dat 10 rfl ⟨_, rfl, slj_list ⟨_, .dat _, aj_nil (cj_list ⟨_, _, rfl, .inl (.dat _), ?_⟩)⟩⟩))))
              obtain ⟨c1, c2⟩ := hcut none (some (j5 : Int))
              obtain ⟨c3, c4⟩ := hcut (some (j5 : Int)) none
              refine ej_lst (aj_cons (ej_dat 11 rfl (aj_nil ⟨_, rfl, z1, oj_cat ⟨_, _, .dat _, .dat _, zM (by show _ + 1 ≤ 1000000; omega), ?_⟩⟩)))
              refine ej_callTy call_list_of rfl M.list rfl (aj_cons ?_)
              refine ej_slice sl_list (ej_dat 3 rfl (opj_some (ej_dat 10 rfl ⟨_, rfl, opj_none (slj_list ⟨_, .dat _, aj_nil (cj_list ⟨_, _, rfl, .inl (.dat _), ?_⟩)⟩)⟩)))
              refine oj_cat ⟨_, _, .dat _, .dat _, zM (by rw [List.length_append]; show _ + 1 + _ ≤ 1000000; omega), ?_⟩
              refine ssj_sub (ν := [(a, boxD b7)]) (List.Sublist.cons_cons _ (List.nil_sublist _)) (ssj_nil ⟨_, b7, _, _, _, _, _, rfl, rfl, ⟨?_, ?_⟩, hb7'.mono (by omega)⟩)
              · rw [List.length_append, List.length_append]
                show _ + 1 + _ ≤ _
                omega
              · intro d hd
                rcases List.mem_append.mp hd with hd | hd
                · rcases List.mem_append.mp hd with hd | hd
                  · exact c1 d hd
                  · rw [List.mem_singleton.mp hd]
                    exact okRow_row ho.b ho.v
                · exact c3 d hd
            · refine sj_ifP (k := false) (tj_cmp op_eq rfl (ej_dat 5 rfl (ej_int (oj_eq ⟨_, _, _, _, rfl, rfl, rfl, rfl, rfl, _, rfl, ceq 4 hw4, rfl⟩)))) (fun h => nomatch h) fun _ => ssj_one ?_
              by_cases hw5 : way = 5
              · subst hw5
                refine sj_ifP (k := true) (tj_cmp op_eq rfl (ej_dat 5 rfl (ej_int (oj_eq ⟨_, _, _, _, rfl, rfl, rfl, rfl, rfl, _, rfl, by decide, rfl⟩)))) (fun _ => ?_) fun h => nomatch h
                refine ssj_cons (sj_set 13 ?_ scBent.nd)
                refine ej_take (k := 0) DT (hr.mono (by decide)) (ej_val 0 rfl ?_)
                refine ej_callB call_len_seq rfl M.len boot_len (aj_cons (ej_dat 3 rfl (aj_nil (cj_lenL ⟨_, _, rfl, .dat _, ?_⟩))))
                rw [List.length_map]
                refine ⟨a, b7, _, n + 7, [(p, _)], rfl, rfl, rfl, hb7', by omega, by omega, by omega, fun i7 b8 i70 i71 hb8 => ?_⟩
                obtain ⟨ot, hot, hat5⟩ := at_map rwD rows i70 i71
                have hoo := hrok ot hot
                obtain ⟨j7, rfl⟩ := Int.eq_ofNat_of_zero_le i70
                have hj7 : j7 < rows.length := by omega
                refine ssj_cons (sj_set 4 ?_ scBent.nd)
                refine ej_callTy call_list_of rfl M.list rfl (aj_cons (ej_dat 3 rfl (aj_nil (cj_listM ⟨_, _, rfl, .dat _, fun q => ?_⟩))))
                refine ssj_cons (sj_asg ?_)
                refine ej_tup z2 (aj_cons (ej_tup z3 (aj_cons (ej_ix ix_tup (fun _ _ => rfl) (ej_dat 11 rfl (ej_int (oj_ixT ⟨_, _, _, rfl, rfl, rfl, ?_⟩)))))))
                refine aj_cons (ej_ix ix_tup (fun _ _ => rfl) (ej_dat 11 rfl (ej_int (oj_ixT ⟨_, _, _, rfl, rfl, rfl, ?_⟩))))
                refine aj_cons (ej_ix ix_tup (fun _ _ => rfl) (ej_ix ix_list (fun _ _ => rfl) (ej_dat 3 rfl (ej_dat 13 rfl (oj_ixL ⟨_, _, _, .dat _, rfl, hat5, ej_int (oj_ixT ⟨_, _, _, rfl, rfl, rfl, aj_nil ⟨_, rfl, z3, ?_⟩⟩)⟩)))))
                refine aj_cons (ej_tup z3 (aj_cons (ej_ix ix_tup (fun _ _ => rfl) (ej_ix ix_list (fun _ _ => rfl) (ej_dat 3 rfl (ej_dat 13 rfl (oj_ixL ⟨_, _, _, .dat _, rfl, hat5, ej_int (oj_ixT ⟨_, _, _, rfl, rfl, rfl, ?_⟩)⟩)))))))
                refine aj_cons (ej_ix ix_tup (fun _ _ => rfl) (ej_ix ix_list (fun _ _ => rfl) (ej_dat 3 rfl (ej_dat 13 rfl (oj_ixL ⟨_, _, _, .dat _, rfl, hat5, ej_int (oj_ixT ⟨_, _, _, rfl, rfl, rfl, ?_⟩)⟩)))))
                refine aj_cons (ej_ix ix_tup (fun _ _ => rfl) (ej_dat 11 rfl (ej_int (oj_ixT ⟨_, _, _, rfl, rfl, rfl, aj_nil ⟨_, rfl, z3, aj_nil ⟨_, rfl, z2, ?_⟩⟩⟩))))
                refine gj_tup rfl rfl (gsj_cons (gj_set (ej_val 4 rfl (ej_dat 10 rfl ⟨2, q, _, _, j5, _, rfl, rfl, rfl, rfl, ?_, ?_⟩))))
                · unfold ixN
                  rw [if_pos (by omega), List.length_map, if_pos (by omega)]
                  simp
                refine gsj_cons (gj_set (ej_val 4 rfl (ej_dat 13 rfl ⟨2, q, _, _, j7, _, rfl, rfl, rfl, rfl, ?_, ?_⟩)))
                · unfold ixN
                  rw [if_pos (by omega), List.length_set, List.length_map, if_pos (by omega)]
                  simp
                refine gsj_nil ?_
                refine ssj_freeze (μ := [(a, boxD b8), (p, _)]) 4 rfl ?_
                refine ssj_sub (ν := [(a, boxD b8)]) (List.Sublist.cons_cons _ (List.nil_sublist _)) (ssj_nil ⟨_, b8, _, _, _, _, _, rfl, rfl, ⟨?_, ?_⟩, hb8.mono (by omega)⟩)
                · rw [List.length_set, List.length_set, List.length_map]
                  omega
                · intro d hd
                  rcases List.mem_or_eq_of_mem_set hd with hd | rfl
                  · rcases List.mem_or_eq_of_mem_set hd with hd | rfl
                    · exact hrd d hd
                    · exact okRow_row ho.b hoo.v
                  · exact okRow_row hoo.b ho.v
              · refine sj_ifP (k := false) (tj_cmp op_eq rfl (ej_dat 5 rfl (ej_int (oj_eq ⟨_, _, _, _, rfl, rfl, rfl, rfl, rfl, _, rfl, ceq 5 hw5, rfl⟩)))) (fun h => nomatch h) fun _ => ?_
                refine ssj_freeze (μ := [(a, boxD b7)]) 4 rfl (ssj_nil ⟨_, b7, _, _, _, _, _, rfl, rfl, ⟨?_, ?_⟩, hb7'.mono (by omega)⟩)
                · rw [List.length_set, List.length_map]
                  omega
                · intro d hd
                  rcases List.mem_or_eq_of_mem_set hd with hd | rfl
                  · exact hrd d hd
                  · exact okx
  · rintro Γ1 μ1 ⟨ds, b', c1, c2, c3, c4, c5, rfl, rfl, hg, hb'⟩
    exact ssj_one (sj_ret (ej_dat 4 rfl (k ds b' hg hb')))
end
end K43

set_option maxHeartbeats 4000000
/-! K27: spoilt, alike, fewer. -/
namespace K43
open PySem PySem.Spec PyProof.Rows L2
abbrev sAlike : Stmt := top 25
abbrev sFewer : Stmt := top 26
abbrev sSpoilt : Stmt := top 30
def scaleV (o : Int) (v : Pr) : Pr := (v.1, v.2 * o)
def scaleS (l o : Int) (s : Stay) : Stay := (s.1, s.2.1 * o, s.2.2.1 + l, s.2.2.2 + l)
/-- the plain law, proved in other texts -/
structure Plain : Prop where
  plan_ok : ∀ vs ss rows, VsOk vs → SsOk ss → housedF vs ss = .plan rows → showsPlanF vs ss (rows.map rwD) = true
  lack_ok : ∀ vs ss h g, housedF vs ss = .lacks h g → showsLackF vs ss h g = true
  shift : ∀ (vs : List Pr) (ss : List Stay) (l o : Int), 1 ≤ o → housedF (vs.map (scaleV o)) (ss.map (scaleS l o)) = shiftF l o (housedF vs ss)
  zz : ∀ vs ss, VsOk vs → (∀ s ∈ ss, 1 < s.2.1) → housedF (("zz", 1) :: vs) ss = housedF vs ss
  fewer : ∀ (vs : List Pr) (ss : List Stay) (j : Nat), SsOk ss → lackF (housedF (vs.take j ++ vs.drop (j + 1)) ss) ≤ lackF (housedF vs ss)
  smaller : ∀ (vs : List Pr) (ss : List Stay) (j : Nat), SsOk ss → lackF (housedF vs ss) ≤ lackF (housedF vs (ss.take j ++ ss.drop (j + 1)))
  rows : ∀ vs ss rows, VsOk vs → SsOk ss → ss.length ≤ 12 → housedF vs ss = .plan rows → rows.length ≤ 400 ∧ ∀ r ∈ rows, RowOk r
theorem cut_to {α β : Type} (f : α → β) (xs : List α) (j : Nat) : cutD (xs.map f) none (some (j : Int)) = (xs.take j).map f := by
  unfold cutD
  have e1 : HT.sIx (xs.map f).length 0 none = 0 := rfl
  have e2 : HT.sIx (xs.map f).length (xs.map f).length (some (j : Int)) = min j (xs.map f).length := HT.sIx_nat _ _ j
  rw [e1, e2]
  simp
theorem cut_from {α β : Type} (f : α → β) (xs : List α) (j : Nat) : cutD (xs.map f) (some (j : Int)) none = (xs.drop j).map f := by
  unfold cutD
  have e1 : HT.sIx (xs.map f).length (xs.map f).length none = (xs.map f).length := rfl
  have e2 : HT.sIx (xs.map f).length 0 (some (j : Int)) = min j (xs.map f).length := HT.sIx_nat _ _ j
  rw [e1, e2, ← List.map_drop]
  by_cases h : j ≤ xs.length
  · have : min j (xs.map f).length = j := by rw [List.length_map]; omega
    rw [this]
    exact List.take_of_length_le (by rw [List.length_map, List.length_map, List.length_drop]; omega)
  · have : min j (xs.map f).length = xs.length := by rw [List.length_map]; omega
    rw [this, List.drop_eq_nil_of_le (Nat.le_refl _), List.drop_eq_nil_of_le (by omega)]
    simp
theorem rows_res {vs : List Pr} {ss : List Stay} (PL : Plain) (hv : VsOk vs) (hs : SsOk ss) (hl : ss.length ≤ 12) : ∀ rows, housedF vs ss = .plan rows → rows.length ≤ 1000000 := fun rows h => by
  have := (PL.rows vs ss rows hv hs hl h).1
  omega

section
variable {P : Program} {w : World} {K : PySem.W.Frag} {mg : Str → Option Value} {base : Heap} {B : Tb}
def aSpoilt : Ab := fun as μ P => ∃ (a : Addr) (b : Bx) (n : Int) (vs : List Pr) (ss : List Stay) (rows : List Row), as = [.val (.ref a), .dat (.lst (vs.map siD)), .dat (.lst (ss.map stD)), .dat (.lst (rows.map rwD))] ∧ μ = [(a, boxD b)] ∧ BxN n b ∧ n < 800000 ∧ VsOk vs ∧ SsOk ss ∧ 1 ≤ vs.length ∧ vs.length ≤ 60 ∧ 1 ≤ ss.length ∧ ss.length ≤ 60 ∧
  rows.length ≤ 400 ∧ (∀ r ∈ rows, RowOk r) ∧ ∀ (b' : Bx), BxN (n + 50) b' → P (.dat (.bl true)) [(a, boxD b')]
abbrev nSpoilt : List Str := ["_law_box_here", "_law_vessels_here", "_law_stays_here", "_law_rows", "_law_turn", "_law_some", "_law_thing", "_law_found"]
theorem scSpoilt : FnScope nSpoilt ["_law_box_here", "_law_vessels_here", "_law_stays_here", "_law_rows"] (defScope sSpoilt) := ⟨rfl, rfl, rfl, by decide +kernel, rfl, by decide +kernel, by decide +kernel⟩
theorem df_spoilt {f : Addr} {fd : FuncData} (F : Fun K "_law_spoilt_right" "_law_spoilt_right" sSpoilt f fd) (hm : mg "_law_spoilt_right" = some (.ref f)) (M : Bn mg) (DT : Df P w K mg base B "_law_take" 1 ["_law_box_here", "_law_size"] aTake)
    (DB : Df P w K mg base B "_law_bent" 2 ["_law_box_here", "_law_vessels_here", "_law_stays_here", "_law_rows"] aBent) (DP : Df P w K mg base B "shows_plan" 5 ["vessels", "stays", "thing"] aShowsPlan) (DS : Df P w K mg base B "_law_shown" 2 ["_law_vessels_here", "_law_stays_here", "_law_thing"] aShown) :
    Df P w K mg base B "_law_spoilt_right" 6 ["_law_box_here", "_law_vessels_here", "_law_stays_here", "_law_rows"] aSpoilt := by
  refine df_mk F scSpoilt (fun as μ p q h ⟨a, b, n, vs, ss, rows, k1, k2, k3, k4, k5, k6, k7, k8, k9, k10, k11, k12, k⟩ => ⟨a, b, n, vs, ss, rows, k1, k2, k3, k4, k5, k6, k7, k8, k9, k10, k11, k12, fun r h1 => h _ _ (k r h1)⟩) hm (F.binds fun _ _ _ _ _ _ us hl => match us, hl with | [_, _, _, _], _ => rfl) (fun as μ P ⟨_, _, _, _, _, _, q, _⟩ => by rw [q]; rfl) ?_
  rintro cdv A outer s H E as μ Pp _ hr ⟨a, b, n, vs, ss, rows, rfl, rfl, hb, hn, hv, hs, hv1, hvl, hs1, hsl, hrl, hrok, k⟩
  refine ssj_cons (sj_set 5 (ej_bin op_cat ?_) scSpoilt.nd)
  refine ej_lc (own := [("_law_turn", 4)]) (fun ds j acc μ => ∃ (dss : List (List D)) (b' : Bx), μ = [(a, boxD b')] ∧ ds.length = 4 ∧ BxN (n + 10 * j) b' ∧ acc = dss.map .lst ∧ dss.length = j ∧ ∀ c ∈ dss, GoodT c) scSpoilt.nd (blkOk_by (N := nSpoilt) (sc := defScope sSpoilt) (by decide +kernel)) ?_
  refine ij_range1 M.range (ej_int ⟨_, rfl, by decide, by decide, by decide, ⟨[], b, rfl, rfl, hb.mono (by omega), rfl, rfl, fun _ h => by simp at h⟩, ?_, ?_⟩)
  · rintro j d acc μ3 hd hacc ⟨dss, b3, rfl, hl, hb3, rfl, hrl, hrs⟩
    have hj : j < 4 := by
      have := (List.getElem?_eq_some_iff.mp hd).1
      omega
    refine lct (fun s H C cl fp => ct_name 4 (by decide) scSpoilt.nd) fun s H C cl fp => tsj_nil fun s H C cl fp => ?_
    refine ej_call DB (hr.mono (by decide)) (aj_cons (ej_val 0 rfl (aj_cons (ej_dat 1 rfl (aj_cons (ej_dat 2 rfl (aj_cons (ej_dat 3 rfl (aj_nil ⟨[(a, boxD b3)], [], rfl, a, b3, n + 10 * j, vs, ss, rows, rfl, rfl, hb3, by omega, hv, hs, hv1, hvl, hs1, hsl, by omega, hrok, fun ds b4 hg hb4 => ?_⟩)))))))))
    refine ⟨_, rfl, dss ++ [ds], b4, rfl, hl, hb4.mono (by omega), ?_, by simp [hrl], ?_⟩
    · rw [List.map_append]
      rfl
    · intro x hx
      rcases List.mem_append.mp hx with hx | hx
      · exact hrs x hx
      · rw [List.mem_singleton.mp hx]
        exact hg
  rintro acc μ3 ⟨dss, b3, rfl, hl, hb3, rfl, hdl, hrs⟩
  rw [hl] at hb3 hdl
  refine ej_lst (aj_cons ?_)
  refine ej_slice sl_list (ej_dat 3 rfl (opj_none (opj_some ?_)))
  refine ej_bin op_sub (ej_bin op_sub ?_)
  refine ej_callB call_len_seq rfl M.len boot_len (aj_cons (ej_dat 3 rfl (aj_nil (cj_lenL ⟨_, _, rfl, .dat _, ej_int (oj_i0 ⟨_, _, rfl, rfl, ?_⟩)⟩))))
  refine ej_take (k := 0) DT (hr.mono (by decide)) (ej_val 0 rfl (ej_int ⟨a, b3, _, n + 40, [], rfl, rfl, rfl, hb3.mono (by omega), by omega, by decide, by decide, fun i1 b4 i10 i11 hb4 => ?_⟩))
  refine oj_i0 ⟨_, _, rfl, rfl, _, rfl, slj_list ⟨_, .dat _, aj_nil ⟨_, rfl, z1, ?_⟩⟩⟩
  have hg : GoodT (cutD (rows.map rwD) none (some ((((rows.map rwD).length : Nat) : Int) - 1 - i1))) := ⟨Nat.le_trans (cut_len (rows.map rwD) none (some ((((rows.map rwD).length : Nat) : Int) - 1 - i1))) (by rw [List.length_map]; omega), fun d hd => rows_ok hrok d (cut_mem hd)⟩
  generalize cutD (rows.map rwD) none (some ((((rows.map rwD).length : Nat) : Int) - 1 - i1)) = last at hg
  have hall : ∀ c ∈ dss ++ [last], GoodT c := fun c hc => by
    rcases List.mem_append.mp hc with hc | hc
    · exact hrs c hc
    · rw [List.mem_singleton.mp hc]
      exact hg
  refine oj_cat ⟨_, _, .dat _, .dat _, zM (by simp; omega), ?_⟩
  have hb4' : BxN (n + 50) b4 := hb4.mono (by omega)
  refine ssj_cons (sj_forL D.lst (dss ++ [last]) PassesOwn.never (fun i Γ μ => ∃ (c1 c2 : AV), Γ = [.val (.ref a), .dat (.lst (vs.map siD)), .dat (.lst (ss.map stD)), .dat (.lst (rows.map rwD)), .un, .dat (.lst (dss.map .lst ++ [.lst last])), c1, c2] ∧ μ = [(a, boxD b4)]) (ij_list (ej_dat 5 rfl ⟨_, rfl, ?_, _, _, rfl, rfl⟩)) ?_ ?_)
  · rw [List.map_append]
    rfl
  · rintro i ds Γ2 μ2 hi ⟨c1, c2, rfl, rfl⟩
    have hgd := hall ds (List.mem_of_getElem? hi)
    refine gj_name 6 ?_ scSpoilt.nd
    refine ssj_cons (sj_set 7 ?_ scSpoilt.nd)
    refine ej_callP DP hr (aj_cons (ej_dat 1 rfl (aj_cons (ej_dat 2 rfl (aj_cons (ej_dat 6 rfl (aj_nil ⟨vs, ss, ds, rfl, hvl, hsl, hgd.len, hv.nd, hs.nd, hgd.ok, ?_⟩)))))))
    have nb : notScr (.bl (showsPlanF vs ss ds)) := fun _ z => by cases z
    refine ssj_one (sj_ifP (k := false) (tp_w (wp_or (k := false) (l := false) (tp_not (k := true) (tj_of (by intro _; rfl) (ej_isi M.isinstance M.bool rfl (ej_dat 7 rfl ⟨_, _, rfl, nb, kit_bool nb, _, rfl, rfl, rfl⟩)))) fun _ => wp_or1 (tj_cmp op_ne rfl (ej_dat 7 rfl ?_)))) (fun h => nomatch h) fun _ => ?_)
    · exact ej_callP DS (hr.mono (by decide)) (aj_cons (ej_dat 1 rfl (aj_cons (ej_dat 2 rfl (aj_cons (ej_dat 6 rfl (aj_nil ⟨vs, ss, ds, rfl, hv, hs, hvl, hsl, hgd.len, hgd.ok, oj_ne ⟨_, _, _, _, rfl, rfl, rfl, rfl, rfl, _, rfl, bl_ne _, rfl⟩⟩)))))))
    · exact ssj_nil ⟨_, _, rfl, rfl⟩
  · rintro Γ2 μ2 ⟨c1, c2, rfl, rfl⟩
    exact ssj_one (sj_ret (ej_bl (k b4 hb4')))

def aFewer : Ab := fun as μ P => ∃ (a : Addr) (b : Bx) (n : Int) (vs : List Pr) (ss : List Stay), as = [.val (.ref a), .dat (.lst (vs.map siD)), .dat (.lst (ss.map stD)), .dat (resD (housedF vs ss))] ∧ μ = [(a, boxD b)] ∧ BxN n b ∧ n < 800000 ∧ SsOk ss ∧ 1 ≤ vs.length ∧ vs.length ≤ 60 ∧ 1 ≤ ss.length ∧ ss.length ≤ 60 ∧ ∀ (b' : Bx), BxN (n + 50) b' → P (.dat (.bl true)) [(a, boxD b')]
abbrev nFewer : List Str := ["_law_box_here", "_law_vessels_here", "_law_stays_here", "_law_found", "_law_at", "_law_which", "_law_fewer", "_law_smaller"]
theorem scFewer : FnScope nFewer ["_law_box_here", "_law_vessels_here", "_law_stays_here", "_law_found"] (defScope sFewer) := ⟨rfl, rfl, rfl, by decide +kernel, rfl, by decide +kernel, by decide +kernel⟩
theorem df_fewer (PL : Plain) {f : Addr} {fd : FuncData} (F : Fun K "_law_fewer_right" "_law_fewer_right" sFewer f fd) (hm : mg "_law_fewer_right" = some (.ref f)) (M : Bn mg) (DT : Df P w K mg base B "_law_take" 1 ["_law_box_here", "_law_size"] aTake)
    (DH : Df P w K mg base B "housed" 5 ["vessels", "stays"] aHoused) (DL : Df P w K mg base B "_law_lack" 1 ["_law_found"] aLack) :
    Df P w K mg base B "_law_fewer_right" 6 ["_law_box_here", "_law_vessels_here", "_law_stays_here", "_law_found"] aFewer := by
  refine df_mk F scFewer (fun as μ p q h ⟨a, b, n, vs, ss, k1, k2, k3, k4, k5, k6, k7, k8, k9, k⟩ => ⟨a, b, n, vs, ss, k1, k2, k3, k4, k5, k6, k7, k8, k9, fun r h1 => h _ _ (k r h1)⟩) hm (F.binds fun _ _ _ _ _ _ us hl => match us, hl with | [_, _, _, _], _ => rfl) (fun as μ P ⟨_, _, _, _, _, q, _⟩ => by rw [q]; rfl) ?_
  rintro cdv A outer s H E as μ Pp _ hr ⟨a, b, n, vs, ss, rfl, rfl, hb, hn, hs, hv1, hvl, hs1, hsl, k⟩
  refine ssj_cons (sj_par (i := 4) (j := 5) scFewer.nd (by decide) ?_)
  refine aj_cons (ej_take (k := 0) DT (hr.mono (by decide)) (ej_val 0 rfl ?_))
  refine ej_callB call_len_seq rfl M.len boot_len (aj_cons (ej_dat 1 rfl (aj_nil (cj_lenL ⟨_, _, rfl, .dat _, ?_⟩))))
  rw [List.length_map]
  refine ⟨a, b, _, n, [], rfl, rfl, rfl, hb, by omega, by omega, by omega, fun i1 b1 i10 i11 hb1 => ?_⟩
  refine aj_cons (ej_take (k := 0) DT (hr.mono (by decide)) (ej_val 0 rfl ?_))
  refine ej_callB call_len_seq rfl M.len boot_len (aj_cons (ej_dat 2 rfl (aj_nil (cj_lenL ⟨_, _, rfl, .dat _, ?_⟩))))
  rw [List.length_map]
  refine ⟨a, b1, _, n + 1, [], rfl, rfl, rfl, hb1, by omega, by omega, by omega, fun i2 b2 i20 i21 hb2 => aj_nil ⟨_, _, rfl, ?_⟩⟩
  obtain ⟨j1, rfl⟩ := Int.eq_ofNat_of_zero_le i10
  obtain ⟨j2, rfl⟩ := Int.eq_ofNat_of_zero_le i20
  have cat1 : ((vs.take j1).map siD ++ (vs.drop (j1 + 1)).map siD) = (vs.take j1 ++ vs.drop (j1 + 1)).map siD := by rw [List.map_append]
  have cat2 : ((ss.take j2).map stD ++ (ss.drop (j2 + 1)).map stD) = (ss.take j2 ++ ss.drop (j2 + 1)).map stD := by rw [List.map_append]
  -- fewer
  refine ssj_cons (sj_set 6 ?_ scFewer.nd)
  refine ej_callP DH hr (aj_cons (ej_bin op_cat ?_))
  refine ej_slice sl_list (ej_dat 1 rfl (opj_none (opj_some (ej_dat 4 rfl ⟨_, rfl, slj_list ⟨_, .dat _, ?_⟩⟩))))
  refine ej_slice sl_list (ej_dat 1 rfl (opj_some (ej_bin op_add (ej_dat 4 rfl (ej_int (oj_i0 ⟨_, _, rfl, rfl, _, rfl, opj_none (slj_list ⟨_, .dat _, ?_⟩)⟩))))))
  have e1 : ((j1 : Nat) : Int) + 1 = ((j1 + 1 : Nat) : Int) := by omega
  have e2 : ((j2 : Nat) : Int) + 1 = ((j2 + 1 : Nat) : Int) := by omega
  rw [e1]
  refine oj_cat ⟨(vs.take j1).map siD, (vs.drop (j1 + 1)).map siD, ?_, ?_, zM (by simp; omega), ?_⟩
  · rw [cut_to]; exact .dat _
  · rw [cut_from]; exact .dat _
  rw [cat1]
  refine aj_cons (ej_dat 2 rfl (aj_nil ⟨_, ss, rfl, hsl, hs.nd, ?_⟩))
  -- smaller
  refine ssj_cons (sj_set 7 ?_ scFewer.nd)
  refine ej_callP DH hr (aj_cons (ej_dat 1 rfl (aj_cons (ej_bin op_cat ?_))))
  refine ej_slice sl_list (ej_dat 2 rfl (opj_none (opj_some (ej_dat 5 rfl ⟨_, rfl, slj_list ⟨_, .dat _, ?_⟩⟩))))
  refine ej_slice sl_list (ej_dat 2 rfl (opj_some (ej_bin op_add (ej_dat 5 rfl (ej_int (oj_i0 ⟨_, _, rfl, rfl, _, rfl, opj_none (slj_list ⟨_, .dat _, ?_⟩)⟩))))))
  rw [e2]
  refine oj_cat ⟨(ss.take j2).map stD, (ss.drop (j2 + 1)).map stD, ?_, ?_, zM (by simp; omega), ?_⟩
  · rw [cut_to]; exact .dat _
  · rw [cut_from]; exact .dat _
  rw [cat2]
  have hsub : (ss.take j2 ++ ss.drop (j2 + 1)).Sublist ss := by
    conv => rhs; rw [← List.take_append_drop j2 ss]
    refine List.Sublist.append (List.Sublist.refl _) ?_
    rw [← List.drop_drop]
    exact List.drop_sublist _ _
  refine aj_nil ⟨vs, _, rfl, Nat.le_trans hsub.length_le hsl, List.Nodup.sublist (hsub.map _) hs.nd, ?_⟩
  refine ssj_one (sj_ret (ej_chain op_le op_le rfl ?_))
  refine ej_callP DL (hr.mono (by decide)) (aj_cons (ej_dat 6 rfl (aj_nil ⟨_, rfl, _, rfl, ?_⟩)))
  refine ej_callP DL (hr.mono (by decide)) (aj_cons (ej_dat 3 rfl (aj_nil ⟨_, rfl, _, rfl, _, ej_callP DL (hr.mono (by decide)) (aj_cons (ej_dat 7 rfl (aj_nil ⟨_, rfl, rfl, rfl⟩))), ?_⟩)))
  rw [decide_eq_true (PL.fewer vs ss j1 hs), decide_eq_true (PL.smaller vs ss j2 hs)]
  exact k b2 (hb2.mono (by omega))
end
end K43

set_option maxHeartbeats 4000000
/-! K28: alike, right, law. -/
namespace K43
open PySem PySem.Spec PyProof.Rows L2
abbrev sRight : Stmt := top 31
abbrev sLaw : Stmt := top 32
theorem lk3 : decide (V.str "plan" = V.str "plan") = true := by decide
theorem lk4 : decide (V.str "lacks" = V.str "plan") = false := by decide +kernel

section
variable {P : Program} {w : World} {K : PySem.W.Frag} {mg : Str → Option Value} {base : Heap} {B : Tb}
def aAlike : Ab := fun as μ P => ∃ (a : Addr) (b : Bx) (n : Int) (vs : List Pr) (ss : List Stay), as = [.val (.ref a), .dat (.lst (vs.map siD)), .dat (.lst (ss.map stD)), .dat (resD (housedF vs ss))] ∧ μ = [(a, boxD b)] ∧ BxN n b ∧ n < 800000 ∧ VsOk vs ∧ SsOk ss ∧ 1 ≤ vs.length ∧ vs.length ≤ 60 ∧ 1 ≤ ss.length ∧ ss.length ≤ 12 ∧ ∀ (b' : Bx), BxN (n + 50) b' → P (.dat (.bl true)) [(a, boxD b')]
abbrev nAlike : List Str := ["_law_box_here", "_law_vessels_here", "_law_stays_here", "_law_found", "_law_later", "_law_often", "_law_vessel", "_law_room", "_law_stay", "_law_rooms", "_law_beer", "_law_gallons", "_law_begin", "_law_end", "_law_some"]
theorem scAlike : FnScope nAlike ["_law_box_here", "_law_vessels_here", "_law_stays_here", "_law_found"] (defScope sAlike) := ⟨rfl, rfl, rfl, by decide +kernel, rfl, by decide +kernel, by decide +kernel⟩
theorem df_alike (PL : Plain) {f : Addr} {fd : FuncData} (F : Fun K "_law_alike_right" "_law_alike_right" sAlike f fd) (hm : mg "_law_alike_right" = some (.ref f)) (M : Bn mg) (DT : Df P w K mg base B "_law_take" 1 ["_law_box_here", "_law_size"] aTake)
    (DH : Df P w K mg base B "housed" 5 ["vessels", "stays"] aHoused) (DF : Df P w K mg base B "_law_shifted" 1 ["_law_found", "_law_later", "_law_often"] aShifted) (DS : Df P w K mg base B "_law_same" 4 ["_law_found", "_law_due_here"] (aSame 3)) :
    Df P w K mg base B "_law_alike_right" 6 ["_law_box_here", "_law_vessels_here", "_law_stays_here", "_law_found"] aAlike := by
  refine df_mk F scAlike (fun as μ p q h ⟨a, b, n, vs, ss, k1, k2, k3, k4, k5, k6, k7, k8, k9, k10, k⟩ => ⟨a, b, n, vs, ss, k1, k2, k3, k4, k5, k6, k7, k8, k9, k10, fun r h1 => h _ _ (k r h1)⟩) hm (F.binds fun _ _ _ _ _ _ us hl => match us, hl with | [_, _, _, _], _ => rfl) (fun as μ P ⟨_, _, _, _, _, q, _⟩ => by rw [q]; rfl) ?_
  rintro cdv A outer s H E as μ Pp _ hr ⟨a, b, n, vs, ss, rfl, rfl, hb, hn, hv, hs, hv1, hvl, hs1, hsl, k⟩
  have hres := rows_res PL hv hs hsl
  refine ssj_cons (sj_parT (n := 2) ?_ z2)
  refine aj_cons (ej_take (k := 0) DT (hr.mono (by decide)) (ej_val 0 rfl (ej_int ⟨a, b, _, n, [], rfl, rfl, rfl, hb, by omega, by decide, by decide, fun later b1 l0 l1 hb1 => ?_⟩)))
  refine aj_cons (ej_bin op_add (ej_int ?_))
  refine ej_take (k := 0) DT (hr.mono (by decide)) (ej_val 0 rfl (ej_int ⟨a, b1, _, n + 1, [], rfl, rfl, rfl, hb1, by omega, by decide, by decide, fun of0 b2 o0 o1 hb2 => ?_⟩))
  refine oj_i0 ⟨_, _, rfl, rfl, aj_nil ⟨rfl, ?_⟩⟩
  refine gsj_cons (gj_name 4 (gsj_cons (gj_name 5 (gsj_nil ?_) scAlike.nd)) scAlike.nd)
  have hb2' : BxN (n + 50) b2 := hb2.mono (by omega)
  refine ssj_cons (sj_mid (fun Γ1 μ1 => ∃ (o : Int), Γ1 = [.val (.ref a), .dat (.lst (vs.map siD)), .dat (.lst (ss.map stD)), .dat (resD (housedF vs ss)), .dat (.int later), .dat (.int o), .un, .un, .un, .un, .un, .un, .un, .un, .un] ∧ μ1 = [(a, boxD b2)] ∧ 1 ≤ o ∧ o ≤ 3) (sj_if (tj_cmp op_gt rfl (ej_bin op_mul ?_))) ?_)
  · refine ej_callB (cr_max rfl) rfl M.max rfl (aj_cons (ej_bin op_cat ?_))
    refine ej_lcF siD (own := [("_law_vessel", 6), ("_law_room", 7)]) scAlike.nd (blkOk_by (N := nAlike) (sc := defScope sAlike) (by decide +kernel)) (ij_list (ej_dat 1 rfl ?_))
    refine ⟨_, rfl, vs, rfl, by omega, fun v => some (.int v.2), fun v hv => lctM (fun s H C cl fp => ct_tup rfl (cts_cons (ct_name 6 (by decide) scAlike.nd) (cts_cons (ct_name 7 (by decide) scAlike.nd) cts_nil))) ?_, ?_⟩
    · intro s H C cl fp
      exact ej_dat 7 rfl ⟨rfl, rfl⟩
    refine ej_lcF stD (own := [("_law_stay", 8)]) scAlike.nd (blkOk_by (N := nAlike) (sc := defScope sAlike) (by decide +kernel)) (ij_list (ej_dat 2 rfl ?_))
    refine ⟨_, rfl, ss, rfl, by omega, fun v => some (.int v.2.1), fun v hv => lctM (fun s H C cl fp => ct_name 8 (by decide) scAlike.nd) ?_, ?_⟩
    · intro s H C cl fp
      exact ej_ix ix_tup (fun _ _ => rfl) (ej_dat 8 rfl (ej_int (oj_ixT ⟨_, _, _, rfl, rfl, rfl, rfl, rfl⟩)))
    rw [fm_map, fm_map]
    refine oj_cat ⟨_, _, .dat _, .dat _, zM (by simp; omega), aj_nil (cj_max ⟨vs.map (fun v : Pr => v.2) ++ ss.map (fun s : Stay => s.2.1), ?_, by simp; omega, fun m _ _ => ?_⟩)⟩
    · rw [List.map_append, List.map_map, List.map_map]
      rfl
    refine ej_dat 5 rfl (oj_iC ⟨_, _, rfl, rfl, .inr ⟨by omega, by omega⟩, ?_⟩)
    refine ej_bin op_pow (ej_int (ej_int (oj_iC ⟨_, _, rfl, rfl, ⟨by decide, by decide, by decide⟩, oj_b0 ⟨_, _, rfl, rfl, _, rfl, ?_⟩⟩)))
    cases decide (m * (1 + of0) > 10 ^ (4 : Int).toNat) with
    | true => exact ssj_one (sj_set 5 (ej_int ⟨1, rfl, rfl, by decide, by decide⟩) scAlike.nd)
    | false => exact ssj_nil ⟨1 + of0, rfl, rfl, by omega, by omega⟩
  rintro Γ1 μ1 ⟨o, rfl, rfl, ho1, ho3⟩
  -- rooms
  refine ssj_cons ?_
  refine sj_setLcF siD (i := 9) (own := [("_law_vessel", 6), ("_law_room", 7)]) scAlike.nd (blkOk_by (N := nAlike) (sc := defScope sAlike) (by decide +kernel)) (ij_list (ej_dat 1 rfl ?_))
  refine ⟨_, rfl, vs, rfl, by omega, fun v => some (siD (scaleV o v)), fun v hv => lctM (fun s H C cl fp => ct_tup rfl (cts_cons (ct_name 6 (by decide) scAlike.nd) (cts_cons (ct_name 7 (by decide) scAlike.nd) cts_nil))) ?_, ?_⟩
  · intro s H C cl fp
    exact ej_tup z2 (aj_cons (ej_dat 6 rfl (aj_cons (ej_bin op_mul (ej_dat 7 rfl (ej_dat 5 rfl (oj_iC ⟨_, _, rfl, rfl, .inr ⟨by omega, by omega⟩, aj_nil ⟨_, rfl, z2, rfl, rfl⟩⟩)))))))
  rw [fm_map]
  have ev : vs.map (fun v : Pr => siD (scaleV o v)) = (vs.map (scaleV o)).map siD := by rw [List.map_map]; rfl
  rw [ev]
  -- some
  refine ssj_cons ?_
  refine sj_setLcF stD (i := 14) (own := [("_law_beer", 10), ("_law_gallons", 11), ("_law_begin", 12), ("_law_end", 13)]) scAlike.nd (blkOk_by (N := nAlike) (sc := defScope sAlike) (by decide +kernel)) (ij_list (ej_dat 2 rfl ?_))
  refine ⟨_, rfl, ss, rfl, by omega, fun v => some (stD (scaleS later o v)), fun v hv => lctM (fun s H C cl fp => ct_tup rfl (cts_cons (ct_name 10 (by decide) scAlike.nd) (cts_cons (ct_name 11 (by decide) scAlike.nd) (cts_cons (ct_name 12 (by decide) scAlike.nd) (cts_cons (ct_name 13 (by decide) scAlike.nd) cts_nil))))) ?_, ?_⟩
  · intro s H C cl fp
    refine ej_tup z4 (aj_cons (ej_dat 10 rfl (aj_cons (ej_bin op_mul (ej_dat 11 rfl (ej_dat 5 rfl (oj_iC ⟨_, _, rfl, rfl, .inr ⟨by omega, by omega⟩, ?_⟩)))))))
    refine aj_cons (ej_bin op_add (ej_dat 12 rfl (ej_dat 4 rfl (oj_i0 ⟨_, _, rfl, rfl, ?_⟩))))
    exact aj_cons (ej_bin op_add (ej_dat 13 rfl (ej_dat 4 rfl (oj_i0 ⟨_, _, rfl, rfl, aj_nil ⟨_, rfl, z4, rfl, rfl⟩⟩))))
  rw [fm_map]
  have es : ss.map (fun v : Stay => stD (scaleS later o v)) = (ss.map (scaleS later o)).map stD := by rw [List.map_map]; rfl
  rw [es]
  have hnd2 : ((ss.map (scaleS later o)).map (·.1)).Nodup := by
    rw [List.map_map]
    exact hs.nd
  refine ssj_cons (sj_ifP (k := false) (tp_not (k := true) (tj_of (by intro _; rfl) ?_)) (fun h => nomatch h) fun _ => ?_)
  · refine ej_callP DS (hr.mono (by decide)) (aj_cons ?_)
    refine ej_callP DH hr (aj_cons (ej_dat 9 rfl (aj_cons (ej_dat 14 rfl (aj_nil ⟨_, _, rfl, by rw [List.length_map]; omega, hnd2, ?_⟩)))))
    refine aj_cons (ej_callP DF (hr.mono (by decide)) (aj_cons (ej_dat 3 rfl (aj_cons (ej_dat 4 rfl (aj_cons (ej_dat 5 rfl (aj_nil ⟨housedF vs ss, later, o, rfl, by omega, by omega, hres, ?_⟩))))))))
    rw [PL.shift vs ss later o ho1]
    refine aj_nil ⟨_, rfl, sd_res ?_, _, rfl, rfl, rfl⟩
    intro rows hrows
    cases hh : housedF vs ss with
    | lacks x y => rw [hh] at hrows; cases hrows
    | plan rw0 =>
      rw [hh] at hrows
      cases hrows
      rw [List.length_map]
      exact hres rw0 hh
  -- the smallest
  refine ssj_nil (ssj_cons (sj_if (tj_w (wj_and (tj_cmp op_gt rfl ?_)))))
  refine ej_callB (cr_min rfl) rfl M.min rfl (aj_cons ?_)
  refine ej_lcF stD (own := [("_law_stay", 8)]) scAlike.nd (blkOk_by (N := nAlike) (sc := defScope sAlike) (by decide +kernel)) (ij_list (ej_dat 2 rfl ?_))
  refine ⟨_, rfl, ss, rfl, by omega, fun v => some (.int v.2.1), fun v hv => lctM (fun s H C cl fp => ct_name 8 (by decide) scAlike.nd) ?_, ?_⟩
  · intro s H C cl fp
    exact ej_ix ix_tup (fun _ _ => rfl) (ej_dat 8 rfl (ej_int (oj_ixT ⟨_, _, _, rfl, rfl, rfl, rfl, rfl⟩)))
  rw [fm_map]
  refine aj_nil (cj_min ⟨ss.map (fun s : Stay => s.2.1), by rw [List.map_map]; rfl, by simp; omega, fun m hm1 hm2 => ej_int (oj_b0 ⟨_, _, rfl, rfl, _, rfl, ?_⟩)⟩)
  by_cases hm : 1 < m
  · rw [decide_eq_true (show m > 1 from hm)]
    refine wj_and1 (tj_cmp op_lt rfl ?_)
    refine ej_callB call_len_seq rfl M.len boot_len (aj_cons (ej_dat 1 rfl (aj_nil (cj_lenL ⟨_, _, rfl, .dat _, ej_int (oj_b0 ⟨_, _, rfl, rfl, _, rfl, ?_⟩)⟩))))
    cases decide (((vs.map siD).length : Int) < 8) with
    | false => exact ssj_nil (ssj_one (sj_ret (ej_bl (k b2 hb2'))))
    | true =>
      refine ssj_one (sj_ret ?_)
      refine ej_callP DS (hr.mono (by decide)) (aj_cons ?_)
      refine ej_callP DH hr (aj_cons (ej_bin op_cat (ej_lst (aj_cons (ej_tup z2 (aj_cons (ej_str (aj_cons (ej_int (aj_nil ⟨_, rfl, z2, aj_nil ⟨_, rfl, z1, ej_dat 1 rfl (oj_cat ⟨_, _, .dat _, .dat _, zM (by simp; omega), ?_⟩)⟩⟩))))))))))
      refine aj_cons (ej_dat 2 rfl (aj_nil ⟨("zz", 1) :: vs, ss, rfl, by omega, hs.nd, ?_⟩))
      have hmin : ∀ t ∈ ss, 1 < t.2.1 := fun t ht => by
        have := hm2 t.2.1 (List.mem_map.mpr ⟨t, ht, rfl⟩)
        omega
      rw [PL.zz vs ss hv hmin]
      exact aj_cons (ej_dat 3 rfl (aj_nil ⟨_, rfl, sd_res hres, k b2 hb2'⟩))
  · rw [decide_eq_false (show ¬ m > 1 from hm)]
    exact ssj_nil (ssj_one (sj_ret (ej_bl (k b2 hb2'))))
end
end K43

set_option maxHeartbeats 4000000
/-! K29: right, law. -/
namespace K43
open PySem PySem.Spec PyProof.Rows L2
theorem hours_le (ss : List Stay) : (hoursF ss).length ≤ 2 * ss.length := by
  unfold hoursF
  refine Nat.le_trans (usort_length _) ?_
  rw [List.length_append, List.length_map, List.length_map]
  omega

section
variable {P : Program} {w : World} {K : PySem.W.Frag} {mg : Str → Option Value} {base : Heap} {B : Tb}
def aRight : Ab := fun as μ P => ∃ (a : Addr) (b : Bx), as = [.val (.ref a)] ∧ μ = [(a, boxD b)] ∧ BxN 0 b ∧ ∀ (b' : Bx), P (.dat (.bl true)) [(a, boxD b')]
abbrev nRight : List Str := ["_law_box_here", "_law_vessels_here", "_law_far", "_law_stays_here", "_law_at", "_law_found"]
theorem scRight : FnScope nRight ["_law_box_here"] (defScope sRight) := ⟨rfl, rfl, rfl, by decide +kernel, rfl, by decide +kernel, by decide +kernel⟩
structure DfsR (P : Program) (w : World) (K : PySem.W.Frag) (mg : Str → Option Value) (base : Heap) (B : Tb) : Prop where
  take : Df P w K mg base B "_law_take" 1 ["_law_box_here", "_law_size"] aTake
  vessels : Df P w K mg base B "_law_vessels" 3 ["_law_box_here", "_law_many"] aVessels
  stays : Df P w K mg base B "_law_stays" 3 ["_law_box_here", "_law_many", "_law_vessels_here", "_law_far"] aStays
  housed : Df P w K mg base B "housed" 5 ["vessels", "stays"] aHoused
  same : Df P w K mg base B "_law_same" 4 ["_law_found", "_law_due_here"] (aSame 3)
  due : Df P w K mg base B "_law_due" 2 ["_law_vessels_here", "_law_stays_here", "_law_hours_here"] aDue
  hours : Df P w K mg base B "_law_hours" 1 ["_law_stays_here"] aHours
  plan : Df P w K mg base B "shows_plan" 5 ["vessels", "stays", "thing"] aShowsPlan
  lack : Df P w K mg base B "shows_lack" 5 ["vessels", "stays", "thing"] aShowsLack
  spoilt : Df P w K mg base B "_law_spoilt_right" 6 ["_law_box_here", "_law_vessels_here", "_law_stays_here", "_law_rows"] aSpoilt
  alike : Df P w K mg base B "_law_alike_right" 6 ["_law_box_here", "_law_vessels_here", "_law_stays_here", "_law_found"] aAlike
  fewer : Df P w K mg base B "_law_fewer_right" 6 ["_law_box_here", "_law_vessels_here", "_law_stays_here", "_law_found"] aFewer
theorem df_right (PL : Plain) {f : Addr} {fd : FuncData} (F : Fun K "_law_right" "_law_right" sRight f fd) (hm : mg "_law_right" = some (.ref f)) (M : Bn mg) (DD : DfsR P w K mg base B) : Df P w K mg base B "_law_right" 7 ["_law_box_here"] aRight := by
  have DT := DD.take
  refine df_mk F scRight (fun as μ p q h ⟨a, b, k1, k2, k3, k⟩ => ⟨a, b, k1, k2, k3, fun r => h _ _ (k r)⟩) hm (F.binds fun _ _ _ _ _ _ us hl => match us, hl with | [_], _ => rfl) (fun as μ P ⟨_, _, q, _⟩ => by rw [q]; rfl) ?_
  rintro cdv A outer s H E as μ Pp _ hr ⟨a, b, rfl, rfl, hb, k⟩
  -- vessels
  refine ssj_cons (sj_set 1 ?_ scRight.nd)
  have VES : ∀ (x : Int) (b2 : Bx) (Q : AV → Mem → Prop), 0 ≤ x → x ≤ 3 → BxN 2 b2 → (∀ (vs : List Pr) (b' : Bx), 5 ≤ vs.length → vs.length ≤ 8 → VsOk vs → BxN 302 b' → Q (.dat (.lst (vs.map siD))) [(a, boxD b')]) → aVessels [.val (.ref a), .dat (.int (8 - x))] [(a, boxD b2)] Q := fun x b2 Q h0 h1 hb2 q => by
    obtain ⟨m, hm⟩ := Int.eq_ofNat_of_zero_le (show 0 ≤ 8 - x by omega)
    exact ⟨a, b2, m, 2, by rw [hm], rfl, hb2, by decide, by omega, by omega, fun vs b' hl hv hb' => q vs b' (by omega) (by omega) hv (hb'.mono (by omega))⟩
  refine ej_call DD.vessels (hr.mono (by decide)) (aj_cons (ej_val 0 rfl (aj_cons (ej_bin op_sub (ej_int ?_)))))
  refine ej_ix ix_list (fun _ _ => rfl) (ej_lst (aj_cons (ej_int (aj_cons (ej_int (aj_cons ?_))))))
  refine ej_take (k := 0) DT (hr.mono (by decide)) (ej_val 0 rfl (ej_int ⟨a, b, _, 0, [], rfl, rfl, rfl, hb, by decide, by decide, by decide, fun t1 b1 t10 t11 hb1 => aj_nil ⟨_, rfl, z3, ?_⟩⟩))
  refine ej_take (k := 0) DT (hr.mono (by decide)) (ej_val 0 rfl (ej_int ⟨a, b1, _, 0 + 1, [], rfl, rfl, rfl, hb1, by decide, by decide, by decide, fun t2 b2 t20 t21 hb2 => ?_⟩))
  obtain ⟨x, hat, hx⟩ := three_at (x := 0) (y := 0) (z := t1) t20 t21
  refine oj_ixL ⟨_, _, _, .dat _, rfl, hat, oj_i0 ⟨_, _, rfl, rfl, aj_nil ⟨[(a, boxD b2)], [], rfl, VES x b2 _ (by omega) (by omega) (hb2.mono (by omega)) fun vs b3 hv5 hv8 hv hb3 => ?_⟩⟩⟩
  -- far
  refine ssj_cons (sj_set 2 ?_ scRight.nd)
  refine ej_ix ix_list (fun _ _ => rfl) (ej_lst (aj_cons (ej_int (aj_cons (ej_int (aj_cons (ej_int (aj_nil ⟨_, rfl, z3, ?_⟩))))))))
  refine ej_take (k := 0) DT (hr.mono (by decide)) (ej_val 0 rfl (ej_int ⟨a, b3, _, 302, [], rfl, rfl, rfl, hb3, by decide, by decide, by decide, fun t3 b4 t30 t31 hb4 => ?_⟩))
  obtain ⟨far, hat2, hfar⟩ := three_at (x := 40) (y := 900) (z := 8000) t30 t31
  have hf1 : 1 ≤ far ∧ far ≤ 8000 := by omega
  refine oj_ixL ⟨_, _, _, .dat _, rfl, hat2, ?_⟩
  -- stays
  have STY : ∀ (x : Int) (b2 : Bx) (Q : AV → Mem → Prop), 0 ≤ x → x ≤ 8 → BxN 305 b2 → (∀ (p : Addr) (ss : List Stay) (b' : Bx), 4 ≤ ss.length → ss.length ≤ 12 → SsOk ss → BxN 705 b' → Q (.val (.ref p)) [(a, boxD b'), (p, .lst (ss.map stD))]) → aStays [.val (.ref a), .dat (.int (12 - x)), .dat (.lst (vs.map siD)), .dat (.int far)] [(a, boxD b2)] Q := fun x b2 Q h0 h1 hb2 q => by
    obtain ⟨m, hm⟩ := Int.eq_ofNat_of_zero_le (show 0 ≤ 12 - x by omega)
    exact ⟨a, b2, m, 305, vs, far, by rw [hm], rfl, hb2, by decide, by omega, by omega, hv, by omega, hf1.1, hf1.2, fun p ss b' hl hs hb' => q p ss b' (by omega) (by omega) hs (hb'.mono (by omega))⟩
  refine ssj_cons (sj_set 3 ?_ scRight.nd)
  refine ej_call DD.stays (hr.mono (by decide)) (aj_cons (ej_val 0 rfl (aj_cons (ej_bin op_sub (ej_int ?_)))))
  refine ej_ix ix_list (fun _ _ => rfl) (ej_lst (aj_cons (ej_int (aj_cons ?_))))
  refine ej_take (k := 0) DT (hr.mono (by decide)) (ej_val 0 rfl (ej_int ⟨a, b4, _, 303, [], rfl, rfl, rfl, hb4, by decide, by decide, by decide, fun t4 b5 t40 t41 hb5 => aj_nil ⟨_, rfl, z2, ?_⟩⟩))
  refine ej_take (k := 0) DT (hr.mono (by decide)) (ej_val 0 rfl (ej_int ⟨a, b5, _, 304, [], rfl, rfl, rfl, hb5, by decide, by decide, by decide, fun t5 b6 t50 t51 hb6 => ?_⟩))
  obtain ⟨y, hy, hat3⟩ := at_map D.int [0, t4] t50 (by simpa using t51)
  have hy8 : 0 ≤ y ∧ y ≤ 8 := by
    simp at hy
    omega
  refine oj_ixL ⟨_, _, _, .dat _, rfl, hat3, oj_i0 ⟨_, _, rfl, rfl, ?_⟩⟩
  refine aj_cons (ej_dat 1 rfl (aj_cons (ej_dat 2 rfl (aj_nil ⟨[(a, boxD b6)], [], rfl, STY y b6 _ hy8.1 hy8.2 (hb6.mono (by omega)) fun q ss b7 hs4 hs12 hs hb7 => ?_⟩))))
  -- at
  refine ssj_cons (sj_set 4 ?_ scRight.nd)
  refine ej_take (k := 0) DT (hr.mono (by decide)) (ej_val 0 rfl ?_)
  refine ej_bin op_sub ?_
  refine ej_callB call_len_seq rfl M.len boot_len (aj_cons (ej_val 3 rfl (aj_nil (cj_lenL ⟨_, _, rfl, .mem (j := 1) rfl, ej_int (oj_i0 ⟨_, _, rfl, rfl, ?_⟩)⟩))))
  rw [List.length_map]
  refine ⟨a, b7, _, 705, [(q, .lst (ss.map stD))], rfl, rfl, rfl, hb7, by decide, by omega, by omega, fun t6 b8 t60 t61 hb8 => ?_⟩
  obtain ⟨j, rfl⟩ := Int.eq_ofNat_of_zero_le t60
  have hj : j + 1 < ss.length := by omega
  have hj0 : j < ss.length := by omega
  obtain ⟨sj, hsj⟩ : ∃ sj, ss[j] = sj := ⟨_, rfl⟩
  obtain ⟨sk, hsk⟩ : ∃ sk, ss[j + 1] = sk := ⟨_, rfl⟩
  have atj : atI (ss.map stD) (j : Int) = some (stD sj) := by
    refine atI_nat ?_
    rw [List.getElem?_map, List.getElem?_eq_getElem hj0, hsj]
    rfl
  have atk : atI (ss.map stD) ((j : Int) + 1) = some (stD sk) := by
    have e : (j : Int) + 1 = ((j + 1 : Nat) : Int) := by omega
    rw [e]
    refine atI_nat ?_
    rw [List.getElem?_map, List.getElem?_eq_getElem hj, hsk]
    rfl
  have mj : sj ∈ ss := by rw [← hsj]; exact List.getElem_mem hj0
  have mk : sk ∈ ss := by rw [← hsk]; exact List.getElem_mem hj
  have sj1 := hs.b0 sj mj
  have sj2 := hs.be sj mj
  refine ssj_cons (sj_mid (fun Γ1 μ1 => ∃ (ss' : List Stay) (b' : Bx), Γ1 = [.val (.ref a), .dat (.lst (vs.map siD)), .dat (.int far), .val (.ref q), .dat (.int (j : Int)), .un] ∧ μ1 = [(a, boxD b'), (q, .lst (ss'.map stD))] ∧ ss'.length = ss.length ∧ SsOk ss' ∧ BxN 720 b') (sj_ifP (k := decide (sj.2.2.2 < 9000)) (tj_cmp op_lt rfl ?_) (fun hk => ?_) fun hk => ?_) ?_)
  · refine ej_ix ix_tup (fun _ _ => rfl) (ej_ix ix_list (fun _ _ => rfl) (ej_val 3 rfl (ej_dat 4 rfl (oj_ixL ⟨_, _, _, .mem (j := 1) rfl, rfl, atj, ?_⟩))))
    exact ej_int (oj_ixT ⟨_, _, _, rfl, rfl, rfl, ej_int (oj_b0 ⟨_, _, rfl, rfl, _, rfl, rfl, rfl⟩)⟩)
  · have h9 : sj.2.2.2 < 9000 := of_decide_eq_true hk
    refine ssj_one (sj_asg ?_)
    refine ej_bin op_catA ?_
    refine ej_slice sl_tupA ?_
    refine ej_ix ix_list (fun _ _ => rfl) (ej_val 3 rfl (ej_bin op_add (ej_dat 4 rfl (ej_int (oj_i0 ⟨_, _, rfl, rfl, oj_ixL ⟨_, _, _, .mem (j := 1) rfl, rfl, atk, ?_⟩⟩)))))
    refine opj_none (opj_some (ej_int ⟨_, rfl, slj_tup ⟨_, rfl, ?_⟩⟩))
    refine ej_tup z2 ?_
    refine aj_cons (ej_ix ix_tup (fun _ _ => rfl) (ej_ix ix_list (fun _ _ => rfl) (ej_val 3 rfl (ej_dat 4 rfl (oj_ixL ⟨_, _, _, .mem (j := 1) rfl, rfl, atj, ej_int (oj_ixT ⟨_, _, _, rfl, rfl, rfl, ?_⟩)⟩)))))
    refine aj_cons (ej_bin op_add (ej_bin op_add (ej_ix ix_tup (fun _ _ => rfl) (ej_ix ix_list (fun _ _ => rfl) (ej_val 3 rfl (ej_dat 4 rfl (oj_ixL ⟨_, _, _, .mem (j := 1) rfl, rfl, atj, ej_int (oj_ixT ⟨_, _, _, rfl, rfl, rfl, ej_int (oj_i0 ⟨_, _, rfl, rfl, ?_⟩)⟩)⟩)))))))
    refine ej_take (k := 0) DT (hr.mono (by decide)) (ej_val 0 rfl (ej_dat 2 rfl ⟨a, b8, _, 706, [(q, .lst (ss.map stD))], rfl, rfl, rfl, hb8, by decide, by omega, by omega, fun t7 b9 t70 t71 hb9 => ?_⟩))
    refine oj_i0 ⟨_, _, rfl, rfl, aj_nil ⟨_, rfl, z2, oj_catT ⟨_, _, rfl, rfl, z4, ?_⟩⟩⟩
    refine gj_set (ej_val 3 rfl (ej_bin op_add (ej_dat 4 rfl (ej_int (oj_i0 ⟨_, _, rfl, rfl, 1, q, _, _, j + 1, _, rfl, rfl, rfl, rfl, ?_, ?_⟩)))))
    · unfold ixN
      rw [if_pos (by omega), List.length_map, if_pos (by omega)]
      congr 1
    refine ⟨ss.set (j + 1) (sk.1, sk.2.1, sj.2.2.2, sj.2.2.2 + 1 + t7), b9, rfl, ?_, by rw [List.length_set], ?_, hb9.mono (by omega)⟩
    · rw [List.map_set]
      rfl
    · have hmem : ∀ t ∈ ss.set (j + 1) (sk.1, sk.2.1, sj.2.2.2, sj.2.2.2 + 1 + t7), t ∈ ss ∨ t = (sk.1, sk.2.1, sj.2.2.2, sj.2.2.2 + 1 + t7) := fun t ht => List.mem_or_eq_of_mem_set ht
      refine ⟨?_, fun t ht => ?_, fun t ht => ?_, fun t ht => ?_, fun t ht => ?_, fun t ht => ?_, fun t ht => ?_⟩
      · rw [List.map_set]
        have e : (ss.map (·.1)).set (j + 1) sk.1 = ss.map (·.1) := set_same (by rw [List.getElem?_map, List.getElem?_eq_getElem hj, hsk]; rfl)
        rw [e]
        exact hs.nd
      · rcases hmem t ht with h | rfl
        · exact hs.nm t h
        · exact hs.nm sk mk
      · rcases hmem t ht with h | rfl
        · exact hs.lo t h
        · exact hs.lo sk mk
      · rcases hmem t ht with h | rfl
        · exact hs.hi t h
        · exact hs.hi sk mk
      · rcases hmem t ht with h | rfl
        · exact hs.b0 t h
        · show 0 ≤ sj.2.2.2
          omega
      · rcases hmem t ht with h | rfl
        · exact hs.be t h
        · show sj.2.2.2 < sj.2.2.2 + 1 + t7
          omega
      · rcases hmem t ht with h | rfl
        · exact hs.e1 t h
        · show sj.2.2.2 + 1 + t7 ≤ 17000
          omega
  · exact ssj_nil ⟨ss, b8, rfl, rfl, rfl, hs, hb8.mono (by omega)⟩
  rintro Γ1 μ1 ⟨st, b9, rfl, rfl, hstl, hst, hb9⟩
  have hst12 : st.length ≤ 12 := by omega
  have hst4 : 4 ≤ st.length := by omega
  clear hsj hsk atj atk mj mk sj1 sj2 hs hs12 hs4 hj hj0
  refine ssj_freeze (μ := [(a, boxD b9)]) 3 rfl ?_
  have hres := rows_res PL hv hst hst12
  -- found
  refine ssj_cons (sj_set 5 ?_ scRight.nd)
  refine ej_callP DD.housed (hr.mono (by decide)) (aj_cons (ej_dat 1 rfl (aj_cons (ej_dat 3 rfl (aj_nil ⟨vs, st, rfl, by omega, hst.nd, ?_⟩)))))
  refine ssj_cons (sj_ifP (k := false) (tp_not (k := true) (tj_of (by intro _; rfl) ?_)) (fun h => nomatch h) fun _ => ?_)
  · refine ej_callP DD.same (hr.mono (by decide)) (aj_cons (ej_dat 5 rfl (aj_cons ?_)))
    refine ej_callP DD.due (hr.mono (by decide)) (aj_cons (ej_dat 1 rfl (aj_cons (ej_dat 3 rfl (aj_cons ?_)))))
    refine ej_callP DD.hours (hr.mono (by decide)) (aj_cons (ej_dat 3 rfl (aj_nil ⟨st, rfl, by omega, ?_⟩)))
    exact aj_nil ⟨vs, st, rfl, hv, by omega, by omega, hst.nd, aj_nil ⟨_, rfl, sd_res hres, _, rfl, rfl, rfl⟩⟩
  refine ssj_nil ?_
  cases hh : housedF vs st with
  | plan rows =>
    obtain ⟨hr4, hrok⟩ := PL.rows vs st rows hv hst hst12 hh
    have hshow := PL.plan_ok vs st rows hv hst hh
    refine ssj_cons (sj_ifP (k := false) (tp_w (wp_and (k := true) (l := false) ?_ fun _ => wp_and1 ?_)) (fun h => nomatch h) fun _ => ?_)
    · exact tj_cmp op_eq rfl (ej_ix ix_tup (fun _ _ => rfl) (ej_dat 5 rfl (ej_int (oj_ixT ⟨_, _, _, rfl, rfl, rfl, ej_str (oj_eq ⟨_, _, _, _, rfl, rfl, rfl, rfl, rfl, _, rfl, lk3, rfl⟩)⟩))))
    · refine tj_cmp op_notBl rfl ?_
      refine ej_callP DD.plan (hr.mono (by decide)) (aj_cons (ej_dat 1 rfl (aj_cons (ej_dat 3 rfl (aj_cons (ej_ix ix_tup (fun _ _ => rfl) (ej_dat 5 rfl (ej_int (oj_ixT ⟨_, _, _, rfl, rfl, rfl, ?_⟩)))))))))
      refine aj_nil ⟨vs, st, rows.map rwD, rfl, by omega, by omega, by rw [List.length_map]; omega, hv.nd, hst.nd, rows_ok hrok, ?_⟩
      rw [hshow]
      exact ej_bl (oj_notB ⟨true, true, rfl, rfl, _, rfl, by decide, rfl⟩)
    refine ssj_nil (ssj_cons (sj_if (tj_w (wj_and ?_))))
    refine tj_cmp op_eq rfl (ej_ix ix_tup (fun _ _ => rfl) (ej_dat 5 rfl (ej_int (oj_ixT ⟨_, _, _, rfl, rfl, rfl, ej_str (oj_eq ⟨_, _, _, _, rfl, rfl, rfl, rfl, rfl, _, rfl, ?_⟩)⟩))))
    rw [lk3]
    refine wj_and1 (tj_not (tj_of (by intro _; rfl) ?_))
    refine ej_call DD.spoilt (hr.mono (by decide)) (aj_cons (ej_val 0 rfl (aj_cons (ej_dat 1 rfl (aj_cons (ej_dat 3 rfl (aj_cons (ej_ix ix_tup (fun _ _ => rfl) (ej_dat 5 rfl (ej_int (oj_ixT ⟨_, _, _, rfl, rfl, rfl, ?_⟩)))))))))))
    refine aj_nil ⟨[(a, boxD b9)], [], rfl, a, b9, 720, vs, st, rows, rfl, rfl, hb9, by decide, hv, hst, by omega, by omega, by omega, by omega, hr4, hrok, fun b10 hb10 => ⟨true, rfl, ?_⟩⟩
    refine ssj_nil (ssj_cons (sj_ifP (k := false) (tp_w (wp_and (k := false) (l := false) ?_ fun h => nomatch h)) (fun h => nomatch h) fun _ => ?_))
    · exact tj_cmp op_eq rfl (ej_ix ix_tup (fun _ _ => rfl) (ej_dat 5 rfl (ej_int (oj_ixT ⟨_, _, _, rfl, rfl, rfl, ej_str (oj_eq ⟨_, _, _, _, rfl, rfl, rfl, rfl, rfl, _, rfl, lk2, rfl⟩)⟩))))
    refine ssj_nil (ssj_one (sj_ret (ej_and ?_)))
    refine ej_call DD.alike (hr.mono (by decide)) (aj_cons (ej_val 0 rfl (aj_cons (ej_dat 1 rfl (aj_cons (ej_dat 3 rfl (aj_cons (ej_dat 5 rfl (aj_nil ⟨[(a, boxD b10)], [], rfl, a, b10, 770, vs, st, by rw [hh], rfl, hb10, by decide, hv, hst, by omega, by omega, by omega, hst12, fun b11 hb11 => ⟨true, rfl, ?_⟩⟩)))))))))
    refine ej_one (ej_call DD.fewer (hr.mono (by decide)) (aj_cons (ej_val 0 rfl (aj_cons (ej_dat 1 rfl (aj_cons (ej_dat 3 rfl (aj_cons (ej_dat 5 rfl (aj_nil ⟨[(a, boxD b11)], [], rfl, a, b11, 820, vs, st, by rw [hh], rfl, hb11, by decide, hst, by omega, by omega, by omega, by omega, fun b12 hb12 => k b12⟩))))))))))
  | lacks h g =>
    refine ssj_cons (sj_ifP (k := false) (tp_w (wp_and (k := false) (l := false) ?_ fun h => nomatch h)) (fun h => nomatch h) fun _ => ?_)
    · exact tj_cmp op_eq rfl (ej_ix ix_tup (fun _ _ => rfl) (ej_dat 5 rfl (ej_int (oj_ixT ⟨_, _, _, rfl, rfl, rfl, ej_str (oj_eq ⟨_, _, _, _, rfl, rfl, rfl, rfl, rfl, _, rfl, lk4, rfl⟩)⟩))))
    refine ssj_nil (ssj_cons (sj_ifP (k := false) (tp_w (wp_and (k := false) (l := false) ?_ fun h => nomatch h)) (fun h => nomatch h) fun _ => ?_))
    · exact tj_cmp op_eq rfl (ej_ix ix_tup (fun _ _ => rfl) (ej_dat 5 rfl (ej_int (oj_ixT ⟨_, _, _, rfl, rfl, rfl, ej_str (oj_eq ⟨_, _, _, _, rfl, rfl, rfl, rfl, rfl, _, rfl, lk4, rfl⟩)⟩))))
    refine ssj_nil (ssj_cons (sj_ifP (k := false) (tp_w (wp_and (k := true) (l := false) ?_ fun _ => wp_and1 ?_)) (fun h => nomatch h) fun _ => ?_))
    · exact tj_cmp op_eq rfl (ej_ix ix_tup (fun _ _ => rfl) (ej_dat 5 rfl (ej_int (oj_ixT ⟨_, _, _, rfl, rfl, rfl, ej_str (oj_eq ⟨_, _, _, _, rfl, rfl, rfl, rfl, rfl, _, rfl, lk1, rfl⟩)⟩))))
    · refine tj_cmp op_notBl rfl ?_
      refine ej_callP DD.lack (hr.mono (by decide)) (aj_cons (ej_dat 1 rfl (aj_cons (ej_dat 3 rfl (aj_cons ?_)))))
      refine ej_slice sl_tupA (ej_dat 5 rfl (opj_some (ej_int ⟨_, rfl, opj_none (slj_tup ⟨_, rfl, ?_⟩)⟩)))
      refine aj_nil ⟨vs, st, h, g, rfl, by omega, by omega, ?_⟩
      rw [PL.lack_ok vs st h g hh]
      exact ej_bl (oj_notB ⟨true, true, rfl, rfl, _, rfl, by decide, rfl⟩)
    refine ssj_nil (ssj_one (sj_ret (ej_and ?_)))
    refine ej_call DD.alike (hr.mono (by decide)) (aj_cons (ej_val 0 rfl (aj_cons (ej_dat 1 rfl (aj_cons (ej_dat 3 rfl (aj_cons (ej_dat 5 rfl (aj_nil ⟨[(a, boxD b9)], [], rfl, a, b9, 720, vs, st, by rw [hh], rfl, hb9, by decide, hv, hst, by omega, by omega, by omega, hst12, fun b11 hb11 => ⟨true, rfl, ?_⟩⟩)))))))))
    refine ej_one (ej_call DD.fewer (hr.mono (by decide)) (aj_cons (ej_val 0 rfl (aj_cons (ej_dat 1 rfl (aj_cons (ej_dat 3 rfl (aj_cons (ej_dat 5 rfl (aj_nil ⟨[(a, boxD b11)], [], rfl, a, b11, 770, vs, st, by rw [hh], rfl, hb11, by decide, hst, by omega, by omega, by omega, by omega, fun b12 hb12 => k b12⟩))))))))))

def aLaw : Ab := pu fun as p => ∃ ns : List Int, as = [.dat (.scr ns)] ∧ p (.bl true)
abbrev nLaw : List Str := ["_law_script", "_law_cells", "_law_k"]
theorem scLaw : FnScope nLaw ["_law_script"] (defScope sLaw) := ⟨rfl, rfl, rfl, by decide +kernel, rfl, by decide +kernel, by decide +kernel⟩
theorem fn_mk {x : Str} {st : Stmt} {f : Addr} {fd : FuncData} {N ps : List Str} {k : Nat} {a : Ab} (F : Fun K x x st f fd) (S : FnScope N ps (defScope st)) (len : ∀ as μ P, a as μ P → as.length = ps.length)
    (body : ∀ (cdv : Value) (A : Around) (outer : List Env) (s : Shared) (H : Hp) (E : XK) (as : List AV) (μ : Mem) (Pp : AV → Mem → Prop), Room k (A.deeper (envOfC x (defScope st) s.heap.objs.size f cdv)) → a as μ Pp →
      SsJ (cxOf CX0 P w K mg base N x (defScope st) f cdv A outer s H E).nox B (defBody st) (as ++ List.replicate (N.length - ps.length) .un) μ { nx := fun _ μ' => Pp (.dat .non) μ', rt := Pp }) :
    FnOk P w K mg base CX0 (k + 1) f fd ps (spOf K B a) := by
  obtain ⟨oc, od, kV, doc, pm, an, cdv, ct, osl, rfl, lk, hcd⟩ := F.ex
  have hlen : ∀ vs H Q E, spOf K B a vs H Q E → vs.length = ps.length := fun vs H Q E ⟨Z, μ, as, s, h⟩ => by
    rw [← len as μ _ h]
    exact s.lenx.symm
  refine fn_of lk hcd S hlen fun A outer s H vs Q E hr hsp => ?_
  have hl := hlen _ _ _ _ hsp
  obtain ⟨Z, μ, as, s1, h⟩ := hsp
  have hb := body cdv A outer s H E as μ _ hr h
  refine ⟨_, (wss (X := (cxOf CX0 P w K mg base N x (defScope st) f cdv A outer s H E).nox)).nox, ?_⟩
  refine hb Z [] _ [] H _ ?_ ⟨fun Γ μ' σ' H' p s2 => ?_, fun r Γ μ' σ' v H' p s2 => p v H' s2.forget, fun _ _ _ _ p _ => p.elim, fun _ _ _ _ p _ => p.elim⟩
  · obtain ⟨G, e0, w0, g, t⟩ := s1
    refine ⟨G, e0, w0, ?_, True.intro⟩
    unfold L2.start
    rw [hl]
    exact ROs.start _ t
  · obtain ⟨G, e0, w0, g, t⟩ := s2
    exact p .non H' ⟨G, e0, w0, True.intro, .non, True.intro⟩
theorem law_ok {f : Addr} {fd : FuncData} (F : Fun K "law" "law" sLaw f fd) (M : Bn mg) (DB : Df P w K mg base B "_law_box" 1 ["_law_script", "_law_k"] aBox) (DF : Df P w K mg base B "_law_folded" 1 ["_law_script", "_law_size"] aFolded) (DR : Df P w K mg base B "_law_right" 7 ["_law_box_here"] aRight) :
    FnOk P w K mg base CX0 8 f fd ["_law_script"] (spOf K B aLaw) := by
  refine fn_mk F scLaw (fun as μ P ⟨_, d, e, _⟩ => by rw [e]; rfl) ?_
  rintro cdv A outer s H E as μ Pp hr ⟨rfl, ns, rfl, k⟩
  refine ssj_cons (sj_set 1 ?_ scLaw.nd)
  refine ej_call DF (hr.mono (by decide)) (aj_cons (ej_dat 0 rfl (aj_cons (ej_int (aj_nil ⟨[], [], rfl, ns, rfl, rfl, fun ms hms => ?_⟩)))))
  refine ssj_one (sj_ret ?_)
  refine ej_sub ?_
  refine ej_callB (cr_all rfl) rfl M.all rfl (aj_cons ?_)
  refine ej_lc (own := [("_law_k", 2)]) (fun ds i acc μ => ∃ m : Nat, m ≤ 10 ∧ ds = rangeD 0 m ∧ ∃ bs : List Bool, acc = bs.map .bl ∧ ∀ b ∈ bs, b = true) scLaw.nd (blkOk_by (N := nLaw) (sc := defScope sLaw) (by decide +kernel)) ?_
  refine ij_range1 M.range ?_
  refine ej_callB (call_max2 rfl) rfl M.max rfl (aj_cons (ej_int (aj_cons ?_)))
  refine ej_callB call_len_seq rfl M.len boot_len (aj_cons (ej_dat 1 rfl (aj_nil (cj_lenL ⟨_, _, rfl, .dat _, ?_⟩))))
  rw [List.length_map]
  refine aj_nil (cj_max2 ⟨_, _, rfl, ?_⟩)
  have hmx : ∃ m : Nat, m ≤ 10 ∧ (if ((ms.length : Nat) : Int) > 1 then ((ms.length : Nat) : Int) else 1) = (m : Int) := by
    by_cases h : ((ms.length : Nat) : Int) > 1
    · exact ⟨ms.length, by omega, by rw [if_pos h]⟩
    · exact ⟨1, by decide, by rw [if_neg h]; rfl⟩
  obtain ⟨m, hm10, hme⟩ := hmx
  rw [hme]
  refine ⟨_, rfl, by omega, by omega, by rw [rangeD_len]; omega, ⟨m, hm10, by rw [Int.toNat_natCast], [], rfl, fun _ h => by simp at h⟩, ?_, ?_⟩
  · rintro i d acc μ2 hd hacc ⟨m', hm', hds, bs, rfl, hbs⟩
    rw [hds] at hd
    have hi : i < m' := by
      have := (List.getElem?_eq_some_iff.mp hd).1
      rw [rangeD_len] at this
      exact this
    rw [rangeD_get hi] at hd
    cases hd
    rw [Int.zero_add]
    refine lct (fun s H C cl fp => ct_name 2 (by decide) scLaw.nd) fun s H C cl fp => tsj_nil fun s H C cl fp => ?_
    refine ej_call DR hr (aj_cons ?_)
    refine ej_call DB (hr.mono (by decide)) (aj_cons (ej_dat 1 rfl (aj_cons (ej_dat 2 rfl (aj_nil ⟨[], μ2, rfl, ms, i, rfl, rfl, by omega, fun p b hb hc => ?_⟩)))))
    refine aj_nil ⟨[(p, boxD b)], μ2, rfl, p, b, rfl, rfl, ⟨hb, by omega⟩, fun b' => ⟨_, rfl, m', hm', hds, bs ++ [true], ?_, ?_⟩⟩
    · rw [List.map_append]
      rfl
    · intro x hx
      rcases List.mem_append.mp hx with hx | hx
      · exact hbs x hx
      · exact List.mem_singleton.mp hx
  · rintro acc μ2 ⟨m', hm', hds, bs, rfl, hbs⟩
    refine aj_nil (cj_all ⟨bs, rfl, [], List.nil_sublist _, ?_⟩)
    have : bs.all id = true := List.all_eq_true.mpr fun b hb => hbs b hb
    rw [this]
    exact k
end
end K43

set_option maxHeartbeats 4000000
/-! K30: the plain law: lacks counted, fewer, smaller, scaled, a room of one. -/
namespace K43
open PySem PySem.Spec PyProof.Rows L2
def cnt (g : Int) (l : List Pr) : Nat := (l.filter fun p => decide (g ≤ p.2)).length
theorem cnt_cons (g : Int) (p : Pr) (l : List Pr) : cnt g (p :: l) = (if g ≤ p.2 then 1 else 0) + cnt g l := by
  unfold cnt
  rw [List.filter_cons]
  by_cases h : g ≤ p.2
  · simp [h]
    omega
  · simp [h]
theorem cnt_perm {g : Int} {l m : List Pr} (h : l.Perm m) : cnt g l = cnt g m := (h.filter _).length_eq
theorem cnt_sub {g : Int} {l m : List Pr} (h : l.Sublist m) : cnt g l ≤ cnt g m := (h.filter _).length_le
abbrev Desc (l : List Pr) : Prop := l.Pairwise fun a b => b.2 ≤ a.2
theorem greatest_desc (l : List Pr) : Desc (greatest l) := (greatest_sorted l).imp fun {a b} h => by
  unfold gLe at h
  simp only [decide_eq_true_eq] at h
  omega
theorem firstLack_mem {bs rs : List Pr} {g : Int} (h : firstLackF bs rs = some g) : ∃ b ∈ bs, b.2 = g := by
  induction bs generalizing rs with
  | nil => cases h
  | cons b bs ih =>
    cases rs with
    | nil =>
      cases h
      exact ⟨b, by simp, rfl⟩
    | cons r rs =>
      have h : (if r.2 < b.2 then some b.2 else firstLackF bs rs) = some g := h
      by_cases c : r.2 < b.2
      · rw [if_pos c] at h
        cases h
        exact ⟨b, by simp, rfl⟩
      · rw [if_neg c] at h
        obtain ⟨x, hx, e⟩ := ih h
        exact ⟨x, by simp [hx], e⟩
theorem lack_count {bs rs : List Pr} {g : Int} (hb : Desc bs) (hr : Desc rs) (h : firstLackF bs rs = some g) : cnt g rs < cnt g bs := by
  induction bs generalizing rs with
  | nil => cases h
  | cons b bs ih =>
    obtain ⟨hb1, hb2⟩ := List.pairwise_cons.mp hb
    cases rs with
    | nil =>
      cases h
      rw [cnt_cons, if_pos (Int.le_refl _)]
      show 0 < _
      omega
    | cons r rs =>
      obtain ⟨hr1, hr2⟩ := List.pairwise_cons.mp hr
      have h : (if r.2 < b.2 then some b.2 else firstLackF bs rs) = some g := h
      by_cases c : r.2 < b.2
      · rw [if_pos c] at h
        cases h
        have e0 : cnt b.2 (r :: rs) = 0 := by
          unfold cnt
          rw [List.length_eq_zero_iff, List.filter_eq_nil_iff]
          intro x hx
          rcases List.mem_cons.mp hx with rfl | hx
          · simp; omega
          · have := hr1 x hx
            simp; omega
        rw [e0, cnt_cons, if_pos (Int.le_refl _)]
        omega
      · rw [if_neg c] at h
        have i1 := ih hb2 hr2 h
        obtain ⟨x, hx, e⟩ := firstLack_mem h
        have hxb := hb1 x hx
        rw [cnt_cons, cnt_cons, if_pos (show g ≤ b.2 by omega)]
        split <;> omega
theorem none_count {bs rs : List Pr} (h : firstLackF bs rs = none) (g : Int) : cnt g bs ≤ cnt g rs := by
  induction bs generalizing rs with
  | nil => exact Nat.zero_le _
  | cons b bs ih =>
    cases rs with
    | nil => cases h
    | cons r rs =>
      have h : (if r.2 < b.2 then some b.2 else firstLackF bs rs) = none := h
      by_cases c : r.2 < b.2
      · rw [if_pos c] at h
        cases h
      · rw [if_neg c] at h
        have i1 := ih h
        rw [cnt_cons, cnt_cons]
        by_cases hg : g ≤ b.2
        · rw [if_pos hg, if_pos (by omega)]
          omega
        · rw [if_neg hg]
          omega
def lacksAt (vs : List Pr) (ss : List Stay) (h : Int) : Bool := (firstLackF (standF ss h) (greatest vs)).isSome
theorem lacksAt_of {vs : List Pr} {ss : List Stay} {h g : Int} (c : cnt g vs < cnt g (standing ss h)) : lacksAt vs ss h = true := by
  unfold lacksAt
  cases q : firstLackF (standF ss h) (greatest vs) with
  | some x => rfl
  | none =>
    have := none_count q g
    unfold standF at this
    rw [cnt_perm (greatest_perm (standing ss h)), cnt_perm (greatest_perm vs)] at this
    omega
theorem of_lacksAt {vs : List Pr} {ss : List Stay} {h : Int} (c : lacksAt vs ss h = true) : ∃ g, cnt g vs < cnt g (standing ss h) := by
  unfold lacksAt at c
  obtain ⟨g, hg⟩ := Option.isSome_iff_exists.mp c
  have := lack_count (greatest_desc _) (greatest_desc _) hg
  rw [cnt_perm (greatest_perm (standing ss h)), cnt_perm (greatest_perm vs)] at this
  exact ⟨g, this⟩
def firstH (p : Int → Bool) : List Int → Int
  | [] => 1000000000
  | h :: hs => if p h = true then h else firstH p hs
theorem lackF_go (vs : List Pr) (ss : List Stay) : ∀ (hs : List Int) (ly : SL) (rows : List Row), lackF (housedGo (greatest vs) ss hs ly rows) = firstH (lacksAt vs ss) hs
  | [], _, _ => rfl
  | h :: hs, ly, rows => by
    unfold housedGo firstH lacksAt
    cases q : firstLackF (standF ss h) (greatest vs) with
    | some x => rfl
    | none => exact lackF_go vs ss hs _ _
theorem firstH_le {p : Int → Bool} : ∀ {hs : List Int}, hs.Pairwise (· < ·) → ∀ x ∈ hs, p x = true → firstH p hs ≤ x
  | [], _, x, hx, _ => by simp at hx
  | h :: hs, hp, x, hx, px => by
    obtain ⟨h1, h2⟩ := List.pairwise_cons.mp hp
    unfold firstH
    by_cases c : p h = true
    · rw [if_pos c]
      rcases List.mem_cons.mp hx with rfl | hx
      · exact Int.le_refl _
      · exact Int.le_of_lt (h1 x hx)
    · rw [if_neg c]
      rcases List.mem_cons.mp hx with rfl | hx
      · exact absurd px c
      · exact firstH_le h2 x hx px
theorem firstH_some {p : Int → Bool} : ∀ (hs : List Int), firstH p hs = 1000000000 ∨ (firstH p hs ∈ hs ∧ p (firstH p hs) = true)
  | [] => .inl rfl
  | h :: hs => by
    unfold firstH
    by_cases c : p h = true
    · rw [if_pos c]
      exact .inr ⟨by simp, c⟩
    · rw [if_neg c]
      rcases firstH_some (p := p) hs with e | ⟨e1, e2⟩
      · exact .inl e
      · exact .inr ⟨by simp [e1], e2⟩
theorem firstH_top {p : Int → Bool} {hs : List Int} (h : ∀ x ∈ hs, x ≤ 1000000000) : firstH p hs ≤ 1000000000 := by
  rcases firstH_some (p := p) hs with e | ⟨e1, e2⟩
  · omega
  · exact h _ e1
theorem firstH_mono {p q : Int → Bool} {hs ks : List Int} (hk : ks.Pairwise (· < ·)) (ht : ∀ x ∈ ks, x ≤ 1000000000) (h : ∀ x ∈ hs, p x = true → x ∈ ks ∧ q x = true) : firstH q ks ≤ firstH p hs := by
  rcases firstH_some (p := p) hs with e | ⟨e1, e2⟩
  · rw [e]
    exact firstH_top ht
  · obtain ⟨a, b⟩ := h _ e1 e2
    exact firstH_le hk _ a b
theorem hours_sorted (ss : List Stay) : (hoursF ss).Pairwise (· < ·) := usort_sorted _
theorem mem_hours {ss : List Stay} {x : Int} : x ∈ hoursF ss ↔ ∃ s ∈ ss, x = s.2.2.1 ∨ x = s.2.2.2 := by
  unfold hoursF
  rw [mem_usort, List.mem_append, List.mem_map, List.mem_map]
  constructor
  · rintro (⟨s, h, e⟩ | ⟨s, h, e⟩)
    · exact ⟨s, h, .inl e.symm⟩
    · exact ⟨s, h, .inr e.symm⟩
  · rintro ⟨s, h, e | e⟩
    · exact .inl ⟨s, h, e.symm⟩
    · exact .inr ⟨s, h, e.symm⟩
theorem hours_range {ss : List Stay} (hs : SsOk ss) {x : Int} (h : x ∈ hoursF ss) : 0 ≤ x ∧ x ≤ 17000 := by
  obtain ⟨s, h1, e⟩ := mem_hours.mp h
  have a := hs.b0 s h1
  have b := hs.be s h1
  have c := hs.e1 s h1
  omega
theorem drop_one_sub {α : Type} (xs : List α) (j : Nat) : (xs.take j ++ xs.drop (j + 1)).Sublist xs := by
  conv => rhs; rw [← List.take_append_drop j xs]
  refine List.Sublist.append (List.Sublist.refl _) ?_
  rw [← List.drop_drop]
  exact List.drop_sublist _ _
theorem standing_sub {ss ts : List Stay} (h : ts.Sublist ss) (x : Int) : (standing ts x).Sublist (standing ss x) := (h.filter _).map _
theorem p_fewer (vs : List Pr) (ss : List Stay) (j : Nat) (hs : SsOk ss) : lackF (housedF (vs.take j ++ vs.drop (j + 1)) ss) ≤ lackF (housedF vs ss) := by
  unfold housedF
  rw [lackF_go, lackF_go]
  refine firstH_mono (hours_sorted ss) (fun x hx => by have := hours_range hs hx; omega) fun x hx hp => ⟨hx, ?_⟩
  obtain ⟨g, hg⟩ := of_lacksAt hp
  have := cnt_sub (g := g) (drop_one_sub vs j)
  exact lacksAt_of (g := g) (by omega)
theorem p_smaller (vs : List Pr) (ss : List Stay) (j : Nat) (hs : SsOk ss) : lackF (housedF vs ss) ≤ lackF (housedF vs (ss.take j ++ ss.drop (j + 1))) := by
  unfold housedF
  rw [lackF_go, lackF_go]
  refine firstH_mono (hours_sorted ss) (fun x hx => by have := hours_range hs hx; omega) fun x hx hp => ⟨?_, ?_⟩
  · obtain ⟨s, h1, e⟩ := mem_hours.mp hx
    exact mem_hours.mpr ⟨s, (drop_one_sub ss j).subset h1, e⟩
  · obtain ⟨g, hg⟩ := of_lacksAt hp
    have := cnt_sub (g := g) (standing_sub (drop_one_sub ss j) x)
    exact lacksAt_of (g := g) (by omega)
theorem go_lacks (rooms : List Pr) (ss : List Stay) : ∀ (hs : List Int) (ly : SL) (rows : List Row) (h g : Int), housedGo rooms ss hs ly rows = .lacks h g → firstLackF (standF ss h) rooms = some g
  | [], _, _, h, g, e => by cases e
  | x :: hs, ly, rows, h, g, e => by
    unfold housedGo at e
    cases q : firstLackF (standF ss x) rooms with
    | some y =>
      rw [q] at e
      cases e
      exact q
    | none =>
      rw [q] at e
      exact go_lacks rooms ss hs _ _ h g e
theorem p_lack (vs : List Pr) (ss : List Stay) (h g : Int) (e : housedF vs ss = .lacks h g) : showsLackF vs ss h g = true := by
  have q := go_lacks _ _ _ _ _ _ _ e
  have c := lack_count (greatest_desc _) (greatest_desc _) q
  rw [cnt_perm (greatest_perm vs)] at c
  unfold showsLackF
  refine decide_eq_true ?_
  have c' : (vs.filter fun v => decide (g ≤ v.2)).length < ((standF ss h).filter fun b => decide (g ≤ b.2)).length := c
  omega

/-! ### scaled and moved -/
theorem mul_lt {a b o : Int} (h : 1 ≤ o) : a * o < b * o ↔ a < b := ⟨fun q => Int.lt_of_mul_lt_mul_right q (by omega), fun q => Int.mul_lt_mul_of_pos_right q (by omega)⟩
theorem mul_eq {a b o : Int} (h : 1 ≤ o) : a * o = b * o ↔ a = b := Int.mul_eq_mul_right_iff (by omega)
theorem gLe_scale {o : Int} (h : 1 ≤ o) (a b : Pr) : gLe (scaleV o a) (scaleV o b) = gLe a b := by
  unfold gLe scaleV
  apply decide_eq_decide.mpr
  show (b.2 * o < a.2 * o ∨ a.2 * o = b.2 * o ∧ _) ↔ _
  rw [mul_lt h, mul_eq h]
theorem greatest_scale {o : Int} (h : 1 ≤ o) (l : List Pr) : greatest (l.map (scaleV o)) = (greatest l).map (scaleV o) := by
  symm
  refine greatest_eq ((greatest_perm l).map _) ?_
  rw [List.pairwise_map]
  exact (greatest_sorted l).imp fun {a b} q => by rw [gLe_scale h]; exact q
theorem standing_scale (l o : Int) (ss : List Stay) (h : Int) : standing (ss.map (scaleS l o)) (h + l) = (standing ss h).map (scaleV o) := by
  unfold standing
  rw [List.filter_map, List.map_map, List.map_map]
  have e : ((fun s : Stay => decide (s.2.2.1 ≤ h + l) && decide (h + l < s.2.2.2)) ∘ scaleS l o) = fun s : Stay => decide (s.2.2.1 ≤ h) && decide (h < s.2.2.2) := by
    funext s
    show (decide (s.2.2.1 + l ≤ h + l) && decide (h + l < s.2.2.2 + l)) = _
    congr 1
    · apply decide_eq_decide.mpr; omega
    · apply decide_eq_decide.mpr; omega
  rw [e]
  rfl
theorem hours_scale (l o : Int) (ss : List Stay) : hoursF (ss.map (scaleS l o)) = (hoursF ss).map (· + l) := by
  refine lt_sorted_ext (hours_sorted _) ?_ fun z => ?_
  · rw [List.pairwise_map]
    exact (hours_sorted ss).imp fun {a b} h => by omega
  · rw [mem_hours, List.mem_map]
    constructor
    · rintro ⟨s, hs, e⟩
      obtain ⟨t, ht, rfl⟩ := List.mem_map.mp hs
      have e : z = t.2.2.1 + l ∨ z = t.2.2.2 + l := e
      rcases e with e | e
      · exact ⟨t.2.2.1, mem_hours.mpr ⟨t, ht, .inl rfl⟩, e.symm⟩
      · exact ⟨t.2.2.2, mem_hours.mpr ⟨t, ht, .inr rfl⟩, e.symm⟩
    · rintro ⟨x, hx, e⟩
      obtain ⟨t, ht, q⟩ := mem_hours.mp hx
      refine ⟨scaleS l o t, List.mem_map.mpr ⟨t, ht, rfl⟩, ?_⟩
      show z = t.2.2.1 + l ∨ z = t.2.2.2 + l
      omega
theorem firstLack_scale {o : Int} (h : 1 ≤ o) : ∀ bs rs : List Pr, firstLackF (bs.map (scaleV o)) (rs.map (scaleV o)) = (firstLackF bs rs).map (· * o)
  | [], _ => rfl
  | b :: bs, [] => rfl
  | b :: bs, r :: rs => by
    show (if r.2 * o < b.2 * o then some (b.2 * o) else firstLackF (bs.map (scaleV o)) (rs.map (scaleV o))) = (if r.2 < b.2 then some b.2 else firstLackF bs rs).map (· * o)
    by_cases c : r.2 < b.2
    · rw [if_pos c, if_pos ((mul_lt h).mpr c)]
      rfl
    · rw [if_neg c, if_neg (fun q => c ((mul_lt h).mp q)), firstLack_scale h]
theorem now_scale (o : Int) : ∀ bs rs : List Pr, nowF (bs.map (scaleV o)) (rs.map (scaleV o)) = nowF bs rs
  | [], _ => rfl
  | b :: bs, [] => rfl
  | b :: bs, r :: rs => by
    show (b.1, r.1) :: nowF (bs.map (scaleV o)) (rs.map (scaleV o)) = (b.1, r.1) :: nowF bs rs
    rw [now_scale o bs rs]
theorem newRows_shift (l h : Int) (now ly : SL) : newRows (h + l) now ly = (newRows h now ly).map fun r => (r.1 + l, r.2) := by
  unfold newRows
  rw [List.map_map]
  rfl
theorem go_shift {o : Int} (l : Int) (ho : 1 ≤ o) (rooms : List Pr) (ss : List Stay) : ∀ (hs : List Int) (ly : SL) (rows : List Row),
    housedGo (rooms.map (scaleV o)) (ss.map (scaleS l o)) (hs.map (· + l)) ly (rows.map fun r => (r.1 + l, r.2)) = shiftF l o (housedGo rooms ss hs ly rows)
  | [], _, _ => rfl
  | h :: hs, ly, rows => by
    have e1 : standF (ss.map (scaleS l o)) (h + l) = (standF ss h).map (scaleV o) := by
      unfold standF
      rw [standing_scale, greatest_scale ho]
    rw [List.map_cons]
    unfold housedGo
    rw [e1, firstLack_scale ho]
    cases firstLackF (standF ss h) rooms with
    | some g => rfl
    | none =>
      show housedGo _ _ _ _ _ = _
      rw [now_scale, newRows_shift, ← List.map_append]
      exact go_shift l ho rooms ss hs _ _
theorem p_shift (vs : List Pr) (ss : List Stay) (l o : Int) (ho : 1 ≤ o) : housedF (vs.map (scaleV o)) (ss.map (scaleS l o)) = shiftF l o (housedF vs ss) := by
  unfold housedF
  rw [greatest_scale ho, hours_scale]
  exact go_shift l ho (greatest vs) ss (hoursF ss) [] []

/-! ### a room of one -/
def bigs (rs : List Pr) : List Pr := rs.filter fun r => decide (1 < r.2)
theorem greatest_bigs (l : List Pr) : bigs (greatest l) = greatest (bigs l) := greatest_eq ((greatest_perm l).filter _) ((greatest_sorted l).filter _)
theorem bigs_small {r : Pr} {rs : List Pr} (h : Desc (r :: rs)) (c : ¬ 1 < r.2) : bigs (r :: rs) = [] := by
  unfold bigs
  rw [List.filter_eq_nil_iff]
  intro x hx
  rcases List.mem_cons.mp hx with rfl | hx
  · simpa using c
  · have := (List.pairwise_cons.mp h).1 x hx
    simp
    omega
theorem firstLack_bigs {bs : List Pr} (hb : ∀ b ∈ bs, 1 < b.2) : ∀ {rs : List Pr}, Desc rs → firstLackF bs rs = firstLackF bs (bigs rs) := by
  induction bs with
  | nil => intro rs _; rfl
  | cons b bs ih =>
    intro rs hr
    cases rs with
    | nil => rfl
    | cons r rs =>
      by_cases c : 1 < r.2
      · have e : bigs (r :: rs) = r :: bigs rs := by
          unfold bigs
          rw [List.filter_cons, if_pos (by simpa using c)]
        rw [e]
        show (if _ then _ else _) = (if _ then _ else _)
        rw [ih (fun x hx => hb x (by simp [hx])) (List.pairwise_cons.mp hr).2]
      · rw [bigs_small hr c]
        have := hb b (by simp)
        show (if r.2 < b.2 then some b.2 else _) = some b.2
        rw [if_pos (by omega)]
theorem now_bigs {bs : List Pr} (hb : ∀ b ∈ bs, 1 < b.2) : ∀ {rs : List Pr}, Desc rs → firstLackF bs rs = none → nowF bs rs = nowF bs (bigs rs) := by
  induction bs with
  | nil => intro rs _ _; rfl
  | cons b bs ih =>
    intro rs hr hn
    cases rs with
    | nil => rfl
    | cons r rs =>
      have hn : (if r.2 < b.2 then some b.2 else firstLackF bs rs) = none := hn
      by_cases c : 1 < r.2
      · have e : bigs (r :: rs) = r :: bigs rs := by
          unfold bigs
          rw [List.filter_cons, if_pos (by simpa using c)]
        have hn2 : firstLackF bs rs = none := by
          by_cases c2 : r.2 < b.2
          · rw [if_pos c2] at hn; cases hn
          · rw [if_neg c2] at hn; exact hn
        rw [e]
        show (b.1, r.1) :: nowF bs rs = (b.1, r.1) :: nowF bs (bigs rs)
        rw [ih (fun x hx => hb x (by simp [hx])) (List.pairwise_cons.mp hr).2 hn2]
      · have := hb b (by simp)
        rw [if_pos (by omega)] at hn
        cases hn
theorem standF_big {ss : List Stay} (h : ∀ s ∈ ss, 1 < s.2.1) (x : Int) : ∀ b ∈ standF ss x, 1 < b.2 := fun b hb => by
  obtain ⟨s, hs, rfl, _⟩ := standing_mem ((greatest_perm _).mem_iff.mp hb)
  exact h s hs
theorem go_bigs {rooms : List Pr} {ss : List Stay} (hr : Desc rooms) (h : ∀ s ∈ ss, 1 < s.2.1) : ∀ (hs : List Int) (ly : SL) (rows : List Row), housedGo rooms ss hs ly rows = housedGo (bigs rooms) ss hs ly rows
  | [], _, _ => rfl
  | x :: hs, ly, rows => by
    have e := firstLack_bigs (standF_big h x) hr
    unfold housedGo
    rw [← e]
    cases q : firstLackF (standF ss x) rooms with
    | some g => rfl
    | none =>
      show housedGo _ _ _ _ _ = housedGo _ _ _ _ _
      rw [now_bigs (standF_big h x) hr q]
      exact go_bigs hr h hs _ _
theorem p_zz (vs : List Pr) (ss : List Stay) (h : ∀ s ∈ ss, 1 < s.2.1) : housedF (("zz", 1) :: vs) ss = housedF vs ss := by
  unfold housedF
  rw [go_bigs (greatest_desc _) h, go_bigs (greatest_desc vs) h, greatest_bigs, greatest_bigs]
  rfl
end K43

set_option maxHeartbeats 4000000
/-! K31: the plain law: a plan shows itself. -/
namespace K43
open PySem PySem.Spec PyProof.Rows L2
theorem none_len {bs rs : List Pr} (h : firstLackF bs rs = none) : bs.length ≤ rs.length := by
  induction bs generalizing rs with
  | nil => exact Nat.zero_le _
  | cons b bs ih =>
    cases rs with
    | nil => cases h
    | cons r rs =>
      have h : (if r.2 < b.2 then some b.2 else firstLackF bs rs) = none := h
      by_cases c : r.2 < b.2
      · rw [if_pos c] at h; cases h
      · rw [if_neg c] at h
        have := ih h
        simp
        omega
theorem none_fit {bs rs : List Pr} (h : firstLackF bs rs = none) : ∀ q ∈ bs.zip rs, q.1.2 ≤ q.2.2 := by
  induction bs generalizing rs with
  | nil => intro q hq; simp at hq
  | cons b bs ih =>
    cases rs with
    | nil => cases h
    | cons r rs =>
      have h : (if r.2 < b.2 then some b.2 else firstLackF bs rs) = none := h
      by_cases c : r.2 < b.2
      · rw [if_pos c] at h; cases h
      · rw [if_neg c] at h
        intro q hq
        rw [List.zip_cons_cons] at hq
        rcases List.mem_cons.mp hq with rfl | hq
        · show b.2 ≤ r.2
          omega
        · exact ih h q hq
theorem slook_memp {l : SL} {x v : Str} (h : slook l x = some v) : (x, v) ∈ l := by
  induction l with
  | nil => cases h
  | cons p l ih =>
    rw [slook_cons] at h
    by_cases e : p.1 = x
    · rw [if_pos e] at h
      cases h
      subst e
      simp
    · rw [if_neg e] at h
      exact List.mem_cons_of_mem _ (ih h)
theorem slook_of {l : SL} (nd : (l.map (·.1)).Nodup) {p : Str × Str} (h : p ∈ l) : slook l p.1 = some p.2 := by
  induction l with
  | nil => simp at h
  | cons u l ih =>
    rw [List.map_cons, List.nodup_cons] at nd
    rw [slook_cons]
    rcases List.mem_cons.mp h with rfl | h
    · rw [if_pos rfl]
    · have : u.1 ≠ p.1 := fun z => nd.1 (by rw [z]; exact List.mem_map.mpr ⟨p, h, rfl⟩)
      rw [if_neg this]
      exact ih nd.2 h
theorem newRows_mem {h : Int} {now ly : SL} {r : Row} (hr : r ∈ newRows h now ly) : r.1 = h ∧ slook now r.2.1 = some r.2.2 ∧ slook ly r.2.1 ≠ some r.2.2 := by
  unfold newRows at hr
  obtain ⟨b, hb, rfl⟩ := List.mem_map.mp hr
  obtain ⟨h1, h2⟩ := List.mem_filter.mp hb
  obtain ⟨v, hv⟩ := slook_mem ((ssort_perm _).mem_iff.mp h1)
  refine ⟨rfl, ?_, ?_⟩
  · show slook now b = some ((slook now b).getD "")
    rw [hv]
    rfl
  · show slook ly b ≠ some ((slook now b).getD "")
    simp only [Bool.not_eq_true', decide_eq_false_iff_not] at h2
    rw [hv] at h2 ⊢
    exact h2
theorem newRows_of {h : Int} {now ly : SL} {b v : Str} (h1 : slook now b = some v) (h2 : slook ly b ≠ some v) : (h, b, v) ∈ newRows h now ly := by
  unfold newRows
  refine List.mem_map.mpr ⟨b, List.mem_filter.mpr ⟨(ssort_perm _).mem_iff.mpr (List.mem_map.mpr ⟨_, slook_memp h1, rfl⟩), ?_⟩, ?_⟩
  · simp only [Bool.not_eq_true', decide_eq_false_iff_not]
    rw [h1]
    exact h2
  · rw [h1]
    rfl
/-- a plan only grows; what is added belongs to the hours to come -/
theorem go_app (rooms : List Pr) (ss : List Stay) : ∀ (hs : List Int) (ly : SL) (rows out : List Row), housedGo rooms ss hs ly rows = .plan out → ∃ more, out = rows ++ more ∧ more.length ≤ hs.length * ss.length ∧ ∀ r ∈ more, r.1 ∈ hs ∧ firstLackF (standF ss r.1) rooms = none ∧ (r.2.1, r.2.2) ∈ nowF (standF ss r.1) rooms
  | [], _, rows, out, e => by
    cases e
    exact ⟨[], by simp, by simp, fun r h => by simp at h⟩
  | h :: hs, ly, rows, out, e => by
    unfold housedGo at e
    cases q : firstLackF (standF ss h) rooms with
    | some g => rw [q] at e; cases e
    | none =>
      rw [q] at e
      obtain ⟨more, e1, e2, e3⟩ := go_app rooms ss hs _ _ _ e
      refine ⟨newRows h (nowF (standF ss h) rooms) ly ++ more, by rw [e1, List.append_assoc], ?_, fun r hr => ?_⟩
      · have h1 := newRows_len h (nowF (standF ss h) rooms) ly
        have h2 : (nowF (standF ss h) rooms).length ≤ ss.length := by
          have := congrArg List.length (nowF_keys (standF ss h) rooms)
          rw [List.length_map, List.length_take, List.length_map] at this
          have := standF_sub ss h
          omega
        rw [List.length_append, List.length_cons, Nat.succ_mul]
        omega
      · rcases List.mem_append.mp hr with hr | hr
        · obtain ⟨a1, a2, _⟩ := newRows_mem hr
          refine ⟨by rw [a1]; simp, by rw [a1]; exact q, by rw [a1]; exact slook_memp a2⟩
        · obtain ⟨b1, b2⟩ := e3 r hr
          exact ⟨by simp [b1], b2⟩
theorem now_row {vs : List Pr} {ss : List Stay} (hv : (vs.map (·.1)).Nodup) (hs : (ss.map (·.1)).Nodup) {h : Int} {b v : Str} (hn : firstLackF (standF ss h) (greatest vs) = none) (hm : (b, v) ∈ nowF (standF ss h) (greatest vs)) : rowOk vs ss h b v = true := by
  unfold nowF at hm
  obtain ⟨q, hq, e⟩ := List.mem_map.mp hm
  have hfit := none_fit hn q hq
  obtain ⟨q1, q2⟩ := List.of_mem_zip hq
  obtain ⟨s, hs1, es, hb1, hb2⟩ := standing_mem ((greatest_perm _).mem_iff.mp q1)
  have hr := rget_mem hv ((greatest_perm _).mem_iff.mp q2)
  have hg := sget_mem hs hs1
  have e1 : q.1.1 = b := congrArg Prod.fst e
  have e2 : q.2.1 = v := congrArg Prod.snd e
  have e3 : s.1 = b := by rw [← e1, es]
  unfold rowOk
  rw [← e3, hg, ← e2, hr]
  have e4 : q.1.2 = s.2.1 := by rw [es]
  simp only [Bool.and_eq_true, decide_eq_true_eq]
  refine ⟨⟨hb1, hb2⟩, by omega⟩
theorem p_rows (vs : List Pr) (ss : List Stay) (rows : List Row) (hv : VsOk vs) (hs : SsOk ss) (hl : ss.length ≤ 12) (e : housedF vs ss = .plan rows) : rows.length ≤ 400 ∧ ∀ r ∈ rows, RowOk r := by
  obtain ⟨more, e1, e2, e3⟩ := go_app _ _ _ _ _ _ e
  rw [List.nil_append] at e1
  subst e1
  refine ⟨?_, fun r hr => ?_⟩
  · have h1 : (hoursF ss).length ≤ 24 := by
      unfold hoursF
      refine Nat.le_trans (usort_length _) ?_
      rw [List.length_append, List.length_map, List.length_map]
      omega
    have h2 : (hoursF ss).length * ss.length ≤ 24 * 12 := Nat.mul_le_mul h1 hl
    omega
  · obtain ⟨a1, a2, a3⟩ := e3 r hr
    obtain ⟨r1, r2⟩ := hours_range hs a1
    unfold nowF at a3
    obtain ⟨q, hq, eq⟩ := List.mem_map.mp a3
    obtain ⟨q1, q2⟩ := List.of_mem_zip hq
    obtain ⟨s, hs1, es, _⟩ := standing_mem ((greatest_perm _).mem_iff.mp q1)
    have hq2 := (greatest_perm _).mem_iff.mp q2
    have x1 : q.1.1 = r.2.1 := congrArg Prod.fst eq
    have x2 : q.2.1 = r.2.2 := congrArg Prod.snd eq
    refine ⟨r1, by omega, ?_, ?_⟩
    · rw [← x1, es]
      exact (hs.nm s hs1).ok
    · rw [← x2]
      exact (hv.nm _ hq2).ok
theorem fm_pairs {f : Fn} : ∀ {l : SL}, (∀ p ∈ l, f p.1 = some p.2) → (l.map (·.1)).filterMap f = l.map (·.2)
  | [], _ => rfl
  | p :: l, h => by
    rw [List.map_cons, List.filterMap_cons, h p (by simp), fm_pairs fun q hq => h q (by simp [hq])]
    rfl
theorem now_vals (bs rs : List Pr) : (nowF bs rs).map (·.2) = (rs.map (·.1)).take bs.length := by
  unfold nowF
  induction bs generalizing rs with
  | nil => simp
  | cons b bs ih =>
    cases rs with
    | nil => simp
    | cons r rs =>
      have := ih rs
      simp at this ⊢
      exact this
theorem replay {vs : List Pr} {ss : List Stay} (hv : (vs.map (·.1)).Nodup) (hsn : (ss.map (·.1)).Nodup) : ∀ (hs : List Int) (ly : SL) (rows out : List Row) (f : Fn), hs.Pairwise (· < ·) → housedGo (greatest vs) ss hs ly rows = .plan out → (∀ r ∈ rows, ∀ h ∈ hs, r.1 < h) → (∀ b v, slook ly b = some v → f b = some v) → showsGoF ss out hs f = true
  | [], _, _, _, _, _, _, _, _ => rfl
  | h :: hs, ly, rows, out, f, hp, e, hlt, hf => by
    obtain ⟨hp1, hp2⟩ := List.pairwise_cons.mp hp
    unfold housedGo at e
    cases q : firstLackF (standF ss h) (greatest vs) with
    | some g => rw [q] at e; cases e
    | none =>
      rw [q] at e
      have e : housedGo (greatest vs) ss hs (nowF (standF ss h) (greatest vs)) (rows ++ newRows h (nowF (standF ss h) (greatest vs)) ly) = .plan out := e
      obtain ⟨more, e1, _, e3⟩ := go_app _ _ _ _ _ _ e
      have hkn := nowF_keys (standF ss h) (greatest vs)
      have hlen := none_len q
      have hall : ((standF ss h).map (·.1)).take (greatest vs).length = (standF ss h).map (·.1) := List.take_of_length_le (by rw [List.length_map]; exact hlen)
      rw [hall] at hkn
      have hval := now_vals (standF ss h) (greatest vs)
      have hnd : ((nowF (standF ss h) (greatest vs)).map (·.1)).Nodup := by rw [hkn]; exact standF_nodup h hsn
      have hvnd : ((nowF (standF ss h) (greatest vs)).map (·.2)).Nodup := by
        rw [hval]
        refine List.Nodup.sublist (List.take_sublist _ _) ?_
        rw [((greatest_perm vs).map (·.1)).nodup_iff]
        exact hv
      generalize nowF (standF ss h) (greatest vs) = now at *
      have hupd : updF out h = (newRows h now ly).map fun r => r.2 := by
        unfold updF
        rw [e1, List.filter_append, List.filter_append]
        have f1 : rows.filter (fun r => decide (r.1 = h)) = [] := by
          rw [List.filter_eq_nil_iff]
          intro r hr
          have := hlt r hr h (by simp)
          simp
          omega
        have f2 : (newRows h now ly).filter (fun r => decide (r.1 = h)) = newRows h now ly := by
          rw [List.filter_eq_self]
          intro r hr
          simpa using (newRows_mem hr).1
        have f3 : more.filter (fun r => decide (r.1 = h)) = [] := by
          rw [List.filter_eq_nil_iff]
          intro r hr
          have := hp1 _ (e3 r hr).1
          simp
          omega
        rw [f1, f2, f3]
        simp
      have hf' : ∀ b v, slook now b = some v → upf (updF out h) f b = some v := fun b v hb => by
        unfold upf
        rw [hupd]
        by_cases c : slook ly b = some v
        · have l0 : lastLook ((newRows h now ly).map fun r => r.2) b = none := by
            cases q2 : lastLook ((newRows h now ly).map fun r => r.2) b with
            | none => rfl
            | some w =>
              exfalso
              obtain ⟨r, hr, er⟩ := List.mem_map.mp (lastLook_mem q2)
              obtain ⟨_, n2, n3⟩ := newRows_mem hr
              rw [er] at n2 n3
              have n2 : slook now b = some w := n2
              have n3 : slook ly b ≠ some w := n3
              rw [hb] at n2
              cases n2
              exact n3 c
          rw [l0]
          exact hf b v c
        · have hm := newRows_of (h := h) hb c
          obtain ⟨w, hw⟩ := lastLook_some (u := (newRows h now ly).map fun r => r.2) (x := b) (List.mem_map.mpr ⟨(b, v), List.mem_map.mpr ⟨_, hm, rfl⟩, rfl⟩)
          obtain ⟨r, hr, er⟩ := List.mem_map.mp (lastLook_mem hw)
          obtain ⟨_, n2, _⟩ := newRows_mem hr
          rw [er] at n2
          have n2 : slook now b = some w := n2
          rw [hb] at n2
          cases n2
          rw [hw]
          rfl
      have hok : okF ss (upf (updF out h) f) h = true := by
        unfold okF
        have e5 : ((standF ss h).map (·.1)).filterMap (upf (updF out h) f) = now.map (·.2) := by
          rw [← hkn]
          exact fm_pairs fun p hp => hf' _ _ (slook_of hnd hp)
        rw [e5, ← hkn, List.length_map, List.length_map, decide_eq_false (by omega), decide_eq_true hvnd]
        rfl
      unfold showsGoF
      rw [hok, Bool.true_and]
      refine replay hv hsn hs now _ out _ hp2 e (fun r hr x hx => ?_) hf'
      rcases List.mem_append.mp hr with hr | hr
      · exact hlt r hr x (by simp [hx])
      · rw [(newRows_mem hr).1]
        exact hp1 x hx
theorem go_sorted (rooms : List Pr) (ss : List Stay) : ∀ (hs : List Int) (ly : SL) (rows out : List Row), hs.Pairwise (· < ·) → housedGo rooms ss hs ly rows = .plan out → (rows.map (·.1)).Pairwise (· ≤ ·) → (∀ r ∈ rows, ∀ h ∈ hs, r.1 < h) → (out.map (·.1)).Pairwise (· ≤ ·)
  | [], _, rows, out, _, e, hr, _ => by
    cases e
    exact hr
  | h :: hs, ly, rows, out, hp, e, hr, hlt => by
    obtain ⟨hp1, hp2⟩ := List.pairwise_cons.mp hp
    unfold housedGo at e
    cases q : firstLackF (standF ss h) rooms with
    | some g => rw [q] at e; cases e
    | none =>
      rw [q] at e
      refine go_sorted rooms ss hs _ _ out hp2 e ?_ fun r hr' x hx => ?_
      · rw [List.map_append, List.pairwise_append]
        refine ⟨hr, ?_, fun a ha b hb => ?_⟩
        · rw [List.pairwise_map]
          refine List.Pairwise.imp_of_mem (R := fun _ _ => True) (fun {a b} ha hb _ => ?_) (List.pairwise_of_forall fun _ _ => True.intro)
          rw [(newRows_mem ha).1, (newRows_mem hb).1]
          exact Int.le_refl _
        · obtain ⟨r1, hr1, rfl⟩ := List.mem_map.mp ha
          obtain ⟨r2, hr2, rfl⟩ := List.mem_map.mp hb
          rw [(newRows_mem hr2).1]
          exact Int.le_of_lt (hlt r1 hr1 h (by simp))
      · rcases List.mem_append.mp hr' with hr' | hr'
        · exact hlt r hr' x (by simp [hx])
        · rw [(newRows_mem hr').1]
          exact hp1 x hx
theorem p_plan (vs : List Pr) (ss : List Stay) (rows : List Row) (hv : VsOk vs) (hs : SsOk ss) (e : housedF vs ss = .plan rows) : showsPlanF vs ss (rows.map rwD) = true := by
  obtain ⟨more, e1, _, e3⟩ := go_app _ _ _ _ _ _ e
  rw [List.nil_append] at e1
  subst e1
  have hmap : (rows.map rwD).map rowOf = rows := by
    rw [List.map_map]
    have : rowOf ∘ rwD = id := by
      funext r
      rfl
    rw [this, List.map_id]
  unfold showsPlanF
  rw [hmap, Bool.and_eq_true]
  refine ⟨?_, ?_⟩
  · rw [List.all_eq_true]
    intro d hd
    obtain ⟨r, hr, rfl⟩ := List.mem_map.mp hd
    obtain ⟨_, a2, a3⟩ := e3 r hr
    exact now_row hv.nd hs.nd a2 a3
  · unfold showsRows
    have h1 : anyDesc rows = false := (adj_sorted rows).mpr (go_sorted _ _ _ _ _ _ (hours_sorted ss) e (by simp) fun r hr => by simp at hr)
    have h2 : usort (hoursF ss ++ rows.map (·.1)) = hoursF ss := by
      refine lt_sorted_ext (usort_sorted _) (hours_sorted ss) fun z => ?_
      rw [mem_usort, List.mem_append]
      constructor
      · rintro (h | h)
        · exact h
        · obtain ⟨r, hr, rfl⟩ := List.mem_map.mp h
          exact (e3 r hr).1
      · exact .inl
    rw [h1, h2, showsGo_F]
    exact replay hv.nd hs.nd _ _ _ _ _ (hours_sorted ss) e (fun r hr => by simp at hr) fun b v hb => by cases hb
theorem plain : Plain where
  plan_ok := p_plan
  lack_ok := p_lack
  shift := p_shift
  zz := fun vs ss _ h => p_zz vs ss h
  fewer := p_fewer
  smaller := p_smaller
  rows := p_rows
end K43

set_option maxHeartbeats 0
/-! K32: the head. -/
namespace K43
open PySem PySem.Spec PyProof.Rows L2
def dDef (x : Str) (i : Nat) : He.DefD := ⟨(x, none), x, x, defArgs (top i), defBody (top i), defScope (top i), [], []⟩
def hfn : List He.DefD := [dDef "is_number" 1, dDef "greatest_first" 3, dDef "standing_at" 4, dDef "first_lack" 5, dDef "turning_hours" 6, dDef "housed" 7, dDef "shows_lack" 8, dDef "is_plan_row" 9, dDef "shows_plan" 10, dDef "_law_box" 12, dDef "_law_take" 13, dDef "_law_folded" 14, dDef "_law_names" 15, dDef "_law_same" 16, dDef "_law_vessels" 17, dDef "_law_stays" 18, dDef "_law_greatest" 19, dDef "_law_standing" 20, dDef "_law_due" 21, dDef "_law_hours" 22, dDef "_law_lack" 23, dDef "_law_shifted" 24, dDef "_law_alike_right" 25, dDef "_law_fewer_right" 26, dDef "_law_is_row" 27, dDef "_law_shown" 28, dDef "_law_bent" 29, dDef "_law_spoilt_right" 30, dDef "_law_right" 31, dDef "law" 32]
def hfa : List He.Fa := [.glo "is_number", .glo "greatest_first", .glo "standing_at", .glo "first_lack", .glo "turning_hours", .glo "housed", .glo "shows_lack", .glo "is_plan_row", .glo "shows_plan", .glo "_law_box", .glo "_law_take", .glo "_law_folded", .glo "_law_names", .glo "_law_same", .glo "_law_vessels", .glo "_law_stays", .glo "_law_greatest", .glo "_law_standing", .glo "_law_due", .glo "_law_hours", .glo "_law_lack", .glo "_law_shifted", .glo "_law_alike_right", .glo "_law_fewer_right", .glo "_law_is_row", .glo "_law_shown", .glo "_law_bent", .glo "_law_spoilt_right", .glo "_law_right", .glo "law", .free "isinstance", .free "int", .free "bool", .free "str", .free "list", .free "tuple", .free "len", .free "sorted", .free "set", .free "dict", .free "enumerate", .free "range", .free "zip", .free "all", .free "any", .free "abs", .free "divmod", .free "max", .free "min"]
def gp : He.Defn := ("greatest_first", none)
abbrev hrow : PySem.W.OpenRow := PySem.W.OpenLaw.row PySem.Challenge.rw_mashrunnings_k43_whole_eight_vessels
abbrev hk : PySem.W.Hook := He.hookX 4 hfa hfn [] [gp] fun _ => true
def hob (s : PySem.W.SharedT) : He.AlX := He.obsX 4 hfa hfn [] [gp] (fun _ => true) (HandSHeadRun.getT s)
theorem hob_eq (s : PySem.W.SharedT) : hob s = hk.obs s.abs := He.obsX_eq (HandSHeadRun.getT_eq s)
def hloose : List Str := ["is_number", "greatest_first", "standing_at", "first_lack", "turning_hours", "housed", "shows_lack", "is_plan_row", "shows_plan", "_law_box", "_law_take", "_law_folded", "_law_names", "_law_same", "_law_vessels", "_law_stays", "_law_greatest", "_law_standing", "_law_due", "_law_hours", "_law_lack", "_law_shifted", "_law_alike_right", "_law_fewer_right", "_law_is_row", "_law_shown", "_law_bent", "_law_spoilt_right", "_law_right"]
theorem hrun (w : World) : HandSHeadRun.RunEq hrow (PySem.W.view hrow.prog [32]) hk hob 4000 hloose w := by
  intro os
  kernel_rfl
theorem fun_of {K : PySem.W.Frag} {x : Str} {st : Stmt} {f : Addr} {fd : FuncData} (F : FunD K x x (defArgs st) (defBody st) (defScope st) [] [] f fd) : Fun K x x st f fd := by
  obtain ⟨oc, od, dV, kV, doc, pm, an, cdv, ct, osl, e, lk, hcd, d, k⟩ := F.ex
  rcases d with ⟨d1, d2⟩ | ⟨d1, _⟩
  · first
      | (subst d1; exact ⟨⟨oc, od, kV, doc, pm, an, cdv, ct, osl, e, lk, hcd⟩, F.kp⟩)
      | (subst d2; exact ⟨⟨oc, od, kV, doc, pm, an, cdv, ct, osl, e, lk, hcd⟩, F.kp⟩)
  · exact absurd rfl d1
theorem code_at {K : PySem.W.Frag} {f : Addr} {fd : FuncData} (hf : f = He.fAd K gp) (F : Fun K "greatest_first" "greatest_first" sGreatest f fd) {oc : Value} {od : Option Addr} {kV doc pm cdv : Value} {an : Option Addr} {ct : Value} {osl : Array (Option Value)}
    (lk : K.lookup f = some ⟨oc, od, .func (PySem.W.fnOf "greatest_first" "greatest_first" (defArgs sGreatest) (defBody sGreatest) (defScope sGreatest) .none kV doc pm an cdv ct), osl⟩) : cdv = .ref (He.codeOf K gp) := by
  obtain ⟨oc0, od0, kV0, doc0, pm0, an0, cdv0, ct0, osl0, e, lk0, hcd⟩ := F.ex
  obtain ⟨c, hc⟩ := He.codeIn_ref hcd
  rw [lk] at lk0
  have e1 := Option.some.inj lk0
  injection e1 with _ _ e2 _
  injection e2 with e2
  rw [e] at e2
  have e3 : cdv = cdv0 := congrArg FuncData.code e2
  rw [e3, hc]
  subst hf
  rw [He.codeOf_eq lk (by rw [e2]; exact hc)]
section
variable {P : Program} {w : World} {K : PySem.W.Frag} {h : Heap} {mg : Str → Option Value}
abbrev hB (K : PySem.W.Frag) : Tb := [((He.cT K gp).2, ("greatest_first.<locals>.<lambda>" : Str))]
theorem all_ok (X : K.In h) (G : h.Ns mainGlobals mg) (c : He.SaysX hfa hfn [] [gp] (fun _ => true) w h K) : ∃ fd, Fun K "law" "law" sLaw (He.ga K "law") fd ∧
    ∀ base : Heap, LamX.TabB base mg (He.cT K gp).1 (He.cT K gp).2 → FnOk P w K mg base CX0 8 (He.ga K "law") fd ["_law_script"] (spOf K (hB K) aLaw) := by
  have cd := c.t.d
  obtain ⟨fd0, E0⟩ := cd.def_ 0 (d := dDef "is_number" 1) rfl
  have F0 : Fun K "is_number" "is_number" (top 1) (He.ga K "is_number") fd0 := fun_of E0
  have m0 : mg "is_number" = some (.ref (He.ga K "is_number")) := He.glo_ok X G (cd.fact 0 (f := .glo "is_number") rfl)
  obtain ⟨fd1, E1⟩ := cd.def_ 1 (d := dDef "greatest_first" 3) rfl
  have F1 : Fun K "greatest_first" "greatest_first" (top 3) (He.ga K "greatest_first") fd1 := fun_of E1
  have m1 : mg "greatest_first" = some (.ref (He.ga K "greatest_first")) := He.glo_ok X G (cd.fact 1 (f := .glo "greatest_first") rfl)
  obtain ⟨fd2, E2⟩ := cd.def_ 2 (d := dDef "standing_at" 4) rfl
  have F2 : Fun K "standing_at" "standing_at" (top 4) (He.ga K "standing_at") fd2 := fun_of E2
  have m2 : mg "standing_at" = some (.ref (He.ga K "standing_at")) := He.glo_ok X G (cd.fact 2 (f := .glo "standing_at") rfl)
  obtain ⟨fd3, E3⟩ := cd.def_ 3 (d := dDef "first_lack" 5) rfl
  have F3 : Fun K "first_lack" "first_lack" (top 5) (He.ga K "first_lack") fd3 := fun_of E3
  have m3 : mg "first_lack" = some (.ref (He.ga K "first_lack")) := He.glo_ok X G (cd.fact 3 (f := .glo "first_lack") rfl)
  obtain ⟨fd4, E4⟩ := cd.def_ 4 (d := dDef "turning_hours" 6) rfl
  have F4 : Fun K "turning_hours" "turning_hours" (top 6) (He.ga K "turning_hours") fd4 := fun_of E4
  have m4 : mg "turning_hours" = some (.ref (He.ga K "turning_hours")) := He.glo_ok X G (cd.fact 4 (f := .glo "turning_hours") rfl)
  obtain ⟨fd5, E5⟩ := cd.def_ 5 (d := dDef "housed" 7) rfl
  have F5 : Fun K "housed" "housed" (top 7) (He.ga K "housed") fd5 := fun_of E5
  have m5 : mg "housed" = some (.ref (He.ga K "housed")) := He.glo_ok X G (cd.fact 5 (f := .glo "housed") rfl)
  obtain ⟨fd6, E6⟩ := cd.def_ 6 (d := dDef "shows_lack" 8) rfl
  have F6 : Fun K "shows_lack" "shows_lack" (top 8) (He.ga K "shows_lack") fd6 := fun_of E6
  have m6 : mg "shows_lack" = some (.ref (He.ga K "shows_lack")) := He.glo_ok X G (cd.fact 6 (f := .glo "shows_lack") rfl)
  obtain ⟨fd7, E7⟩ := cd.def_ 7 (d := dDef "is_plan_row" 9) rfl
  have F7 : Fun K "is_plan_row" "is_plan_row" (top 9) (He.ga K "is_plan_row") fd7 := fun_of E7
  have m7 : mg "is_plan_row" = some (.ref (He.ga K "is_plan_row")) := He.glo_ok X G (cd.fact 7 (f := .glo "is_plan_row") rfl)
  obtain ⟨fd8, E8⟩ := cd.def_ 8 (d := dDef "shows_plan" 10) rfl
  have F8 : Fun K "shows_plan" "shows_plan" (top 10) (He.ga K "shows_plan") fd8 := fun_of E8
  have m8 : mg "shows_plan" = some (.ref (He.ga K "shows_plan")) := He.glo_ok X G (cd.fact 8 (f := .glo "shows_plan") rfl)
  obtain ⟨fd9, E9⟩ := cd.def_ 9 (d := dDef "_law_box" 12) rfl
  have F9 : Fun K "_law_box" "_law_box" (top 12) (He.ga K "_law_box") fd9 := fun_of E9
  have m9 : mg "_law_box" = some (.ref (He.ga K "_law_box")) := He.glo_ok X G (cd.fact 9 (f := .glo "_law_box") rfl)
  obtain ⟨fd10, E10⟩ := cd.def_ 10 (d := dDef "_law_take" 13) rfl
  have F10 : Fun K "_law_take" "_law_take" (top 13) (He.ga K "_law_take") fd10 := fun_of E10
  have m10 : mg "_law_take" = some (.ref (He.ga K "_law_take")) := He.glo_ok X G (cd.fact 10 (f := .glo "_law_take") rfl)
  obtain ⟨fd11, E11⟩ := cd.def_ 11 (d := dDef "_law_folded" 14) rfl
  have F11 : Fun K "_law_folded" "_law_folded" (top 14) (He.ga K "_law_folded") fd11 := fun_of E11
  have m11 : mg "_law_folded" = some (.ref (He.ga K "_law_folded")) := He.glo_ok X G (cd.fact 11 (f := .glo "_law_folded") rfl)
  obtain ⟨fd12, E12⟩ := cd.def_ 12 (d := dDef "_law_names" 15) rfl
  have F12 : Fun K "_law_names" "_law_names" (top 15) (He.ga K "_law_names") fd12 := fun_of E12
  have m12 : mg "_law_names" = some (.ref (He.ga K "_law_names")) := He.glo_ok X G (cd.fact 12 (f := .glo "_law_names") rfl)
  obtain ⟨fd13, E13⟩ := cd.def_ 13 (d := dDef "_law_same" 16) rfl
  have F13 : Fun K "_law_same" "_law_same" (top 16) (He.ga K "_law_same") fd13 := fun_of E13
  have m13 : mg "_law_same" = some (.ref (He.ga K "_law_same")) := He.glo_ok X G (cd.fact 13 (f := .glo "_law_same") rfl)
  obtain ⟨fd14, E14⟩ := cd.def_ 14 (d := dDef "_law_vessels" 17) rfl
  have F14 : Fun K "_law_vessels" "_law_vessels" (top 17) (He.ga K "_law_vessels") fd14 := fun_of E14
  have m14 : mg "_law_vessels" = some (.ref (He.ga K "_law_vessels")) := He.glo_ok X G (cd.fact 14 (f := .glo "_law_vessels") rfl)
  obtain ⟨fd15, E15⟩ := cd.def_ 15 (d := dDef "_law_stays" 18) rfl
  have F15 : Fun K "_law_stays" "_law_stays" (top 18) (He.ga K "_law_stays") fd15 := fun_of E15
  have m15 : mg "_law_stays" = some (.ref (He.ga K "_law_stays")) := He.glo_ok X G (cd.fact 15 (f := .glo "_law_stays") rfl)
  obtain ⟨fd16, E16⟩ := cd.def_ 16 (d := dDef "_law_greatest" 19) rfl
  have F16 : Fun K "_law_greatest" "_law_greatest" (top 19) (He.ga K "_law_greatest") fd16 := fun_of E16
  have m16 : mg "_law_greatest" = some (.ref (He.ga K "_law_greatest")) := He.glo_ok X G (cd.fact 16 (f := .glo "_law_greatest") rfl)
  obtain ⟨fd17, E17⟩ := cd.def_ 17 (d := dDef "_law_standing" 20) rfl
  have F17 : Fun K "_law_standing" "_law_standing" (top 20) (He.ga K "_law_standing") fd17 := fun_of E17
  have m17 : mg "_law_standing" = some (.ref (He.ga K "_law_standing")) := He.glo_ok X G (cd.fact 17 (f := .glo "_law_standing") rfl)
  obtain ⟨fd18, E18⟩ := cd.def_ 18 (d := dDef "_law_due" 21) rfl
  have F18 : Fun K "_law_due" "_law_due" (top 21) (He.ga K "_law_due") fd18 := fun_of E18
  have m18 : mg "_law_due" = some (.ref (He.ga K "_law_due")) := He.glo_ok X G (cd.fact 18 (f := .glo "_law_due") rfl)
  obtain ⟨fd19, E19⟩ := cd.def_ 19 (d := dDef "_law_hours" 22) rfl
  have F19 : Fun K "_law_hours" "_law_hours" (top 22) (He.ga K "_law_hours") fd19 := fun_of E19
  have m19 : mg "_law_hours" = some (.ref (He.ga K "_law_hours")) := He.glo_ok X G (cd.fact 19 (f := .glo "_law_hours") rfl)
  obtain ⟨fd20, E20⟩ := cd.def_ 20 (d := dDef "_law_lack" 23) rfl
  have F20 : Fun K "_law_lack" "_law_lack" (top 23) (He.ga K "_law_lack") fd20 := fun_of E20
  have m20 : mg "_law_lack" = some (.ref (He.ga K "_law_lack")) := He.glo_ok X G (cd.fact 20 (f := .glo "_law_lack") rfl)
  obtain ⟨fd21, E21⟩ := cd.def_ 21 (d := dDef "_law_shifted" 24) rfl
  have F21 : Fun K "_law_shifted" "_law_shifted" (top 24) (He.ga K "_law_shifted") fd21 := fun_of E21
  have m21 : mg "_law_shifted" = some (.ref (He.ga K "_law_shifted")) := He.glo_ok X G (cd.fact 21 (f := .glo "_law_shifted") rfl)
  obtain ⟨fd22, E22⟩ := cd.def_ 22 (d := dDef "_law_alike_right" 25) rfl
  have F22 : Fun K "_law_alike_right" "_law_alike_right" (top 25) (He.ga K "_law_alike_right") fd22 := fun_of E22
  have m22 : mg "_law_alike_right" = some (.ref (He.ga K "_law_alike_right")) := He.glo_ok X G (cd.fact 22 (f := .glo "_law_alike_right") rfl)
  obtain ⟨fd23, E23⟩ := cd.def_ 23 (d := dDef "_law_fewer_right" 26) rfl
  have F23 : Fun K "_law_fewer_right" "_law_fewer_right" (top 26) (He.ga K "_law_fewer_right") fd23 := fun_of E23
  have m23 : mg "_law_fewer_right" = some (.ref (He.ga K "_law_fewer_right")) := He.glo_ok X G (cd.fact 23 (f := .glo "_law_fewer_right") rfl)
  obtain ⟨fd24, E24⟩ := cd.def_ 24 (d := dDef "_law_is_row" 27) rfl
  have F24 : Fun K "_law_is_row" "_law_is_row" (top 27) (He.ga K "_law_is_row") fd24 := fun_of E24
  have m24 : mg "_law_is_row" = some (.ref (He.ga K "_law_is_row")) := He.glo_ok X G (cd.fact 24 (f := .glo "_law_is_row") rfl)
  obtain ⟨fd25, E25⟩ := cd.def_ 25 (d := dDef "_law_shown" 28) rfl
  have F25 : Fun K "_law_shown" "_law_shown" (top 28) (He.ga K "_law_shown") fd25 := fun_of E25
  have m25 : mg "_law_shown" = some (.ref (He.ga K "_law_shown")) := He.glo_ok X G (cd.fact 25 (f := .glo "_law_shown") rfl)
  obtain ⟨fd26, E26⟩ := cd.def_ 26 (d := dDef "_law_bent" 29) rfl
  have F26 : Fun K "_law_bent" "_law_bent" (top 29) (He.ga K "_law_bent") fd26 := fun_of E26
  have m26 : mg "_law_bent" = some (.ref (He.ga K "_law_bent")) := He.glo_ok X G (cd.fact 26 (f := .glo "_law_bent") rfl)
  obtain ⟨fd27, E27⟩ := cd.def_ 27 (d := dDef "_law_spoilt_right" 30) rfl
  have F27 : Fun K "_law_spoilt_right" "_law_spoilt_right" (top 30) (He.ga K "_law_spoilt_right") fd27 := fun_of E27
  have m27 : mg "_law_spoilt_right" = some (.ref (He.ga K "_law_spoilt_right")) := He.glo_ok X G (cd.fact 27 (f := .glo "_law_spoilt_right") rfl)
  obtain ⟨fd28, E28⟩ := cd.def_ 28 (d := dDef "_law_right" 31) rfl
  have F28 : Fun K "_law_right" "_law_right" (top 31) (He.ga K "_law_right") fd28 := fun_of E28
  have m28 : mg "_law_right" = some (.ref (He.ga K "_law_right")) := He.glo_ok X G (cd.fact 28 (f := .glo "_law_right") rfl)
  obtain ⟨fd29, E29⟩ := cd.def_ 29 (d := dDef "law" 32) rfl
  have F29 : Fun K "law" "law" (top 32) (He.ga K "law") fd29 := fun_of E29
  have m29 : mg "law" = some (.ref (He.ga K "law")) := He.glo_ok X G (cd.fact 29 (f := .glo "law") rfl)
  have M : Bn mg := ⟨He.free_ok X G (cd.fact 30 (f := .free "isinstance") rfl), He.free_ok X G (cd.fact 31 (f := .free "int") rfl), He.free_ok X G (cd.fact 32 (f := .free "bool") rfl), He.free_ok X G (cd.fact 33 (f := .free "str") rfl), He.free_ok X G (cd.fact 34 (f := .free "list") rfl), He.free_ok X G (cd.fact 35 (f := .free "tuple") rfl), He.free_ok X G (cd.fact 36 (f := .free "len") rfl), He.free_ok X G (cd.fact 37 (f := .free "sorted") rfl), He.free_ok X G (cd.fact 38 (f := .free "set") rfl), He.free_ok X G (cd.fact 39 (f := .free "dict") rfl), He.free_ok X G (cd.fact 40 (f := .free "enumerate") rfl), He.free_ok X G (cd.fact 41 (f := .free "range") rfl), He.free_ok X G (cd.fact 42 (f := .free "zip") rfl), He.free_ok X G (cd.fact 43 (f := .free "all") rfl), He.free_ok X G (cd.fact 44 (f := .free "any") rfl), He.free_ok X G (cd.fact 45 (f := .free "abs") rfl), He.free_ok X G (cd.fact 46 (f := .free "divmod") rfl), He.free_ok X G (cd.fact 47 (f := .free "max") rfl), He.free_ok X G (cd.fact 48 (f := .free "min") rfl)⟩
  refine ⟨fd29, F29, fun base TB => ?_⟩
  have L : LamT K mg base (hB K) (He.ga K "greatest_first") := ⟨_, _, TB, rfl, fun oc od kV doc pm cdv an ct osl lk => code_at rfl F1 lk⟩
  have D0 : Df P w K mg base (hB K) _ _ _ _ := df_isNumber F0 m0 M
  have D1 : Df P w K mg base (hB K) _ _ _ _ := df_greatest F1 m1 M L
  have D2 : Df P w K mg base (hB K) _ _ _ _ := df_standing F2 m2 M D1
  have D3 : Df P w K mg base (hB K) _ _ _ _ := df_firstLack F3 m3 M
  have D4 : Df P w K mg base (hB K) _ _ _ _ := df_turning F4 m4 M
  have D5 : Df P w K mg base (hB K) _ _ _ _ := df_housed F5 m5 M D1 D2 D3 D4
  have D6 : Df P w K mg base (hB K) _ _ _ _ := df_showsLack F6 m6 M D0 D2
  have D7 : Df P w K mg base (hB K) _ _ _ _ := df_planRow F7 m7 M D0
  have D8 : Df P w K mg base (hB K) _ _ _ _ := df_showsPlan F8 m8 M D7 D2 D4
  have D9 : Df P w K mg base (hB K) _ _ _ _ := df_box F9 m9 M
  have D10 : Df P w K mg base (hB K) _ _ _ _ := df_take F10 m10 M
  have D11 : Df P w K mg base (hB K) _ _ _ _ := df_folded F11 m11 M
  have D12 : Df P w K mg base (hB K) _ _ _ _ := df_names F12 m12 M D10
  have D13 : Df P w K mg base (hB K) _ _ _ _ := df_same F13 m13 M 3
  have D14 : Df P w K mg base (hB K) _ _ _ _ := df_vessels F14 m14 M D10 D12
  have D15 : Df P w K mg base (hB K) _ _ _ _ := df_stays F15 m15 M D10 D12
  have D16 : Df P w K mg base (hB K) _ _ _ _ := df_lgreatest F16 m16 M
  have D17 : Df P w K mg base (hB K) _ _ _ _ := df_lstanding F17 m17 M
  have D18 : Df P w K mg base (hB K) _ _ _ _ := df_due F18 m18 M D16 D17
  have D19 : Df P w K mg base (hB K) _ _ _ _ := df_hours F19 m19 M
  have D20 : Df P w K mg base (hB K) _ _ _ _ := df_lack F20 m20 M
  have D21 : Df P w K mg base (hB K) _ _ _ _ := df_shifted F21 m21 M
  have D22 : Df P w K mg base (hB K) _ _ _ _ := df_alike plain F22 m22 M D10 D5 D21 D13
  have D23 : Df P w K mg base (hB K) _ _ _ _ := df_fewer plain F23 m23 M D10 D5 D20
  have D24 : Df P w K mg base (hB K) _ _ _ _ := df_isRow F24 m24 M
  have D25 : Df P w K mg base (hB K) _ _ _ _ := df_shown F25 m25 M D24 D17 D19
  have D26 : Df P w K mg base (hB K) _ _ _ _ := df_bent F26 m26 M D10
  have D27 : Df P w K mg base (hB K) _ _ _ _ := df_spoilt F27 m27 M D10 D26 D8 D25
  have D28 : Df P w K mg base (hB K) _ _ _ _ := df_right plain F28 m28 M ⟨D10, D14, D15, D5, D13, D18, D19, D8, D6, D27, D22, D23⟩
  exact law_ok F29 M D9 D11 D28
theorem sp_law {H : Hp} {a : Addr} {ns : List Int} (hout : K.lookup (He.cT K gp).2 = none) (hT : H (He.cT K gp).2 = some (.tbl #[])) (hS : SqL K H a (ns.map V.int)) : spOf K (hB K) aLaw [.ref a] H (fun v _ => v = .bl true) fun _ _ _ => False := by
  have tabs : LamX.Tabs (hB K) H := fun p hp => by
    rw [List.mem_singleton.mp hp]
    exact LamX.TabS.nil hT
  have fin : ∀ (G : Hp), (∀ b o, G b = some o → H b = some o) → G (He.cT K gp).2 = none → (∀ b ps, G b ≠ some (.tbl ps)) → SqL K G a (ns.map V.int) → spOf K (hB K) aLaw [.ref a] H (fun v _ => v = .bl true) fun _ _ _ => False := fun G h1 h2 h3 h4 => by
    refine ⟨⟨fun _ => none, fun _ => none⟩, [], [.dat (.scr ns)], ⟨G, fun b o z => (by cases z), ⟨h1, fun b o z => (by cases z), fun j b d z => (by simp at z), (by simp), tabs, fun p hp => ?_, fun b ps => ⟨h3 b ps, fun z => (by cases z)⟩⟩, True.intro, .scr h4, True.intro⟩, rfl, ns, rfl, fun v H' s => ?_⟩
    · rw [List.mem_singleton.mp hp]
      exact ⟨h2, rfl⟩
    · obtain ⟨G', _, _, _, t, _⟩ := s
      cases t
      rfl
  rcases hS with hr | hK
  · have na : (He.cT K gp).2 ≠ a := fun z => by
      rw [z] at hT
      rcases hr with hr | ⟨o, hr⟩ <;> (rw [hT] at hr; cases hr)
    refine fin (fun b => if b = a then H b else none) (fun b o z => ?_) (if_neg na) (fun b ps z => ?_) (.inl ?_)
    · by_cases e : b = a
      · rw [if_pos e] at z; exact z
      · rw [if_neg e] at z; cases z
    · by_cases e : b = a
      · have z : (if b = a then H b else none) = some (.tbl ps) := z
        rw [if_pos e, e] at z
        rcases hr with hr | ⟨o, hr⟩ <;> (rw [z] at hr; cases hr)
      · have z : (if b = a then H b else none) = some (.tbl ps) := z
        rw [if_neg e] at z
        cases z
    · rcases hr with hr | ⟨o, hr⟩
      · exact .inl ((if_pos rfl).trans hr)
      · exact .inr ⟨o, (if_pos rfl).trans hr⟩
  · exact fin (fun _ => none) (fun b o z => (by cases z)) rfl (fun b ps z => (by cases z)) (.inr hK)
end
end K43
open PySem PySem.W PySem.Calls PyProof.Rows
theorem PySem.Challenge.cw_mashrunnings_k43_whole_eight_vessels_holds : PySem.Challenge.rw_mashrunnings_k43_whole_eight_vessels.Holds := by
  w_on; o_law
  refine HandSHeadRun.head_any (r := OpenLaw.row PySem.Challenge.rw_mashrunnings_k43_whole_eight_vessels) (q := view (OpenLaw.row PySem.Challenge.rw_mashrunnings_k43_whole_eight_vessels).prog [32]) (H := K43.hk) (ob := K43.hob) (M := 4000) (loose := K43.hloose) (d := HandSHeadRun.topDef (OpenLaw.row PySem.Challenge.rw_mashrunnings_k43_whole_eight_vessels).prog 32) (kwd := []) K43.hob_eq
    (by kernel_rfl) (fun s => by kernel_rfl) K43.hrun (by kernel_rfl) (by kernel_rfl) (by kernel_rfl) (by rfl) (by first | assumption | decide +kernel) (by decide +kernel) ⟨rfl, rfl, rfl, rfl, rfl, by decide +kernel⟩ ?hw ?hc
  case hw => w_witness2
  case hc =>
    refine LamX.walk_ofTsE (l := PySem.Challenge.rw_mashrunnings_k43_whole_eight_vessels) (n := 63) (k := 8) (x := "_law_script") (CX := fun _ => L2.CX0) rfl (by decide) (by kernel_rfl) ⟨rfl, by decide, by decide⟩ ?F (fun _ _ _ _ _ z => z)
    intro w mg fa h Y G hmg0
    obtain ⟨K, KX, c⟩ := Y
    have hmg : mg ("law" : PySem.Str) = some (.ref fa) := by
      have e : (HandSHeadRun.topDef (OpenLaw.row PySem.Challenge.rw_mashrunnings_k43_whole_eight_vessels).prog 32).name = ("law" : PySem.Str) := by kernel_rfl
      rw [← e]
      exact hmg0
    obtain ⟨fd, F, hF⟩ := K43.all_ok (P := (PySem.Challenge.rw_mashrunnings_k43_whole_eight_vessels).prog) (w := w) KX G c
    have e := hmg.symm.trans (He.glo_ok KX G (c.t.d.fact 29 (f := .glo "law") rfl))
    cases e
    refine ⟨K, KX, fd, [He.cT K K43.gp], K43.spOf K (K43.hB K) K43.aLaw, fun p hp => ?_, fun p hp => ?_, fun p hp => ?_, fun s u => ?_, fun H a ns _ _ hT hS => ?_, fun base _ _ hTB => hF base (hTB _ List.mem_cons_self)⟩
    · rw [List.mem_singleton.mp hp]
      exact c.empty _ List.mem_cons_self
    · rw [List.mem_singleton.mp hp]
      exact c.out _ List.mem_cons_self
    · rw [List.mem_singleton.mp hp]
      exact PySem.W.codeHd_of_K KX (c.hd _ List.mem_cons_self)
    · obtain ⟨_, _, kV, doc, pm, an, cdv, ct, _, e1, _, _⟩ := F.ex
      rw [e1]
      exact BindsTo.of_eq rfl
    · exact K43.sp_law (c.out _ List.mem_cons_self) (hT _ List.mem_cons_self) hS
