import PyProof.Rows.All
import Wide.All
import OpenK.AllK
import Wide.FinOn
import HandS.ForMost
import HandS.ForExc
import HandS.Flow
import HandS.Wide
import HandS.Walk
import HandS.Deep
import HandS.TupAny
import HandS.Style
import HandS.DictComp
import HandS.SetKeys
import KE.KDictKeyed
import KE.SortData
import KE.SortLaws
import HandS.Conv
import HandS.Replace
import PyProof.StrLawsRepr
import PyProof.FitsInt
import HandS.TryOnly
import HandS.ExcInit
import HandS.ExcField
import HandS.ExcIs
import KE.KExcSuper
import HandS.IsInst
import HandS.HotCalls
import HandS.WordsExc
import KE.KExcIs
import HandS.Star
import HandS.Text
import HandS.SortKw
import KE.DataMinMax
import KE.KDictDisplayH
import KE.KDictList
import HandS.SetFor
import HandS.SetTxt0
import PySem.Challenge.RW_pickdepths_k12_depths_and_letters_of_que
set_option Elab.async false
set_option linter.all false
set_option maxRecDepth 100000
set_option maxHeartbeats 1000000
/-! DLa: data by value over the hand layer: what a reading does to data, with the heap out of sight -/
namespace DL
open PySem L2
/-- data: a value with all that it holds; ref is an object that is not told here -/
inductive D where
  | non | bl (b : Bool) | int (i : Int) | str (x : Str) | tup (ds : List D) | lst (ds : List D) | ref (a : Addr)
mutual
inductive Rep (K : PySem.W.Frag) (H : Hp) : V → D → Prop
  | non : Rep K H .non .non
  | bl (b : Bool) : Rep K H (.bl b) (.bl b)
  | int (i : Int) : Rep K H (.int i) (.int i)
  | str (x : Str) : Rep K H (.str x) (.str x)
  | ref (a : Addr) : Rep K H (.ref a) (.ref a)
  | tup {a : Addr} {xs : List V} {ds : List D} : SqT K H a xs → RepAll K H xs ds → Rep K H (.ref a) (.tup ds)
  | lst {a : Addr} {xs : List V} {ds : List D} : H a = some (.lst xs) → RepAll K H xs ds → Rep K H (.ref a) (.lst ds)
inductive RepAll (K : PySem.W.Frag) (H : Hp) : List V → List D → Prop
  | nil : RepAll K H [] []
  | cons {v : V} {vs : List V} {d : D} {ds : List D} : Rep K H v d → RepAll K H vs ds → RepAll K H (v :: vs) (d :: ds)
end
theorem same_t {K : PySem.W.Frag} {H H' : Hp} {a : Addr} {xs : List V} (e : Same H H') (h : SqT K H a xs) : SqT K H' a xs := by
  rcases h with (q | ⟨o, q⟩) | q
  · exact .inl (.inl (e _ _ q))
  · exact .inl (.inr ⟨o, e _ _ q⟩)
  · exact .inr q
mutual
theorem Rep.mono {K : PySem.W.Frag} {H H' : Hp} (e : Same H H') : ∀ {v : V} {d : D}, Rep K H v d → Rep K H' v d
  | _, _, .non => .non
  | _, _, .bl b => .bl b
  | _, _, .int i => .int i
  | _, _, .str x => .str x
  | _, _, .ref a => .ref a
  | _, _, .tup h r => .tup (same_t e h) (RepAll.mono e r)
  | _, _, .lst h r => .lst (e _ _ h) (RepAll.mono e r)
theorem RepAll.mono {K : PySem.W.Frag} {H H' : Hp} (e : Same H H') : ∀ {vs : List V} {ds : List D}, RepAll K H vs ds → RepAll K H' vs ds
  | _, _, .nil => .nil
  | _, _, .cons r t => .cons (Rep.mono e r) (RepAll.mono e t)
end
section
variable {K : PySem.W.Frag} {H H' : Hp}
theorem RepAll.len : ∀ {vs : List V} {ds : List D}, RepAll K H vs ds → vs.length = ds.length
  | _, _, .nil => rfl
  | _, _, .cons _ t => congrArg (· + 1) (RepAll.len t)
theorem RepAll.get : ∀ {vs : List V} {ds : List D} {i : Nat} {d : D}, RepAll K H vs ds → ds[i]? = some d → ∃ v, vs[i]? = some v ∧ Rep K H v d
  | _, _, _, _, .nil, e => by simp at e
  | _, _, 0, _, .cons r _, e => by simp at e; subst e; exact ⟨_, rfl, r⟩
  | _, _, i + 1, d, .cons _ t, e => by
    obtain ⟨v, h1, h2⟩ := RepAll.get (i := i) t (by simpa using e)
    exact ⟨v, by simpa using h1, h2⟩
theorem RepAll.getV : ∀ {vs : List V} {ds : List D} {i : Nat} {v : V}, RepAll K H vs ds → vs[i]? = some v → ∃ d, ds[i]? = some d ∧ Rep K H v d
  | _, _, _, _, .nil, e => by simp at e
  | _, _, 0, _, .cons r _, e => by simp at e; subst e; exact ⟨_, rfl, r⟩
  | _, _, i + 1, v, .cons _ t, e => by
    obtain ⟨d, h1, h2⟩ := RepAll.getV (i := i) t (by simpa using e)
    exact ⟨d, by simpa using h1, h2⟩
theorem RepAll.app : ∀ {vs ws : List V} {ds es : List D}, RepAll K H vs ds → RepAll K H ws es → RepAll K H (vs ++ ws) (ds ++ es)
  | _, _, _, _, .nil, s => s
  | _, _, _, _, .cons r t, s => .cons r (RepAll.app t s)
theorem RepAll.tk : ∀ {vs : List V} {ds : List D} (n : Nat), RepAll K H vs ds → RepAll K H (vs.take n) (ds.take n)
  | _, _, 0, _ => .nil
  | _, _, _ + 1, .nil => .nil
  | _, _, n + 1, .cons r t => .cons r (RepAll.tk n t)
theorem RepAll.dr : ∀ {vs : List V} {ds : List D} (n : Nat), RepAll K H vs ds → RepAll K H (vs.drop n) (ds.drop n)
  | _, _, 0, r => r
  | _, _, _ + 1, .nil => .nil
  | _, _, n + 1, .cons _ t => RepAll.dr n t
theorem RepAll.ints : ∀ {vs : List V} {ns : List Int}, RepAll K H vs (ns.map D.int) → vs = ns.map V.int
  | _, [], .nil => rfl
  | _, n :: ns, .cons r t => by
    cases r
    rw [RepAll.ints t]
    rfl
theorem RepAll.bls : ∀ {vs : List V} {ns : List Bool}, RepAll K H vs (ns.map D.bl) → vs = ns.map V.bl
  | _, [], .nil => rfl
  | _, n :: ns, .cons r t => by
    cases r
    rw [RepAll.bls t]
    rfl
theorem RepAll.strs : ∀ {vs : List V} {ns : List Str}, RepAll K H vs (ns.map D.str) → vs = ns.map V.str
  | _, [], .nil => rfl
  | _, n :: ns, .cons r t => by
    cases r
    rw [RepAll.strs t]
    rfl
theorem RepAll.ofInts : ∀ (ns : List Int), RepAll K H (ns.map V.int) (ns.map D.int)
  | [] => .nil
  | n :: ns => .cons (.int n) (RepAll.ofInts ns)
theorem RepAll.ofStrs : ∀ (ns : List Str), RepAll K H (ns.map V.str) (ns.map D.str)
  | [] => .nil
  | n :: ns => .cons (.str n) (RepAll.ofStrs ns)
end
/-- what is known of a place alone -/
theorem Rep.refOf {K : PySem.W.Frag} {H : Hp} {v : V} {a : Addr} (r : Rep K H v (.ref a)) : v = .ref a := by
  cases r
  rfl
/-- an object of one's own that may still change: a list, a dict with int and text keys, one with tuple keys -/
inductive OV where
  | lst (ds : List D) | dk (kvs : List (Key × D)) | dt (kvs : List (List Key × D)) | ob (R : Addr → Hp → HO → Prop)
/-- what a name holds: nothing known, data, an object of one's own -/
inductive Sl where
  | un | dat (d : D) | own (w : OV)
def OvOk (K : PySem.W.Frag) (H0 : Hp) (p : Addr) : HO → OV → Prop
  | .lst xs, .lst ds => RepAll K H0 xs ds
  | .dK kvs, .dk es => Paired (fun (p : Key × V) (q : Key × D) => p.1 = q.1 ∧ Rep K H0 p.2 q.2) kvs es
  | .dT kvs, .dt es => Paired (fun (p : List Key × V) (q : List Key × D) => p.1 = q.1 ∧ Rep K H0 p.2 q.2) kvs es
  | u, .ob R => ∃ Hx, Same Hx H0 ∧ R p Hx u
  | _, _ => False
theorem OvOk.mono {K : PySem.W.Frag} {H H' : Hp} (e : Same H H') {p : Addr} {u : HO} {w : OV} (h : OvOk K H p u w) : OvOk K H' p u w := by
  unfold OvOk at h ⊢
  split at h
  · exact h.mono e
  · exact Paired.mapP h fun _ _ q => ⟨q.1, q.2.mono e⟩
  · exact Paired.mapP h fun _ _ q => ⟨q.1, q.2.mono e⟩
  · obtain ⟨Hx, a, b⟩ := h
    exact ⟨Hx, a.trans e, b⟩
  · exact h.elim
/-- the ground on which a def runs: what its objects are (R, at the places B), the heap at its entry (E0 of it is known to stay), what is wanted of an error -/
structure Ct where
  K : PySem.W.Frag
  S : Type
  R : S → Hp → Hp → Prop
  B : Addr → Prop
  stab : ∀ s H0 H H0' H', R s H0 H → Same H0 H0' → (∀ a o, B a → H a = some o → H' a = some o) → R s H0' H'
  there : ∀ s H0 H a, R s H0 H → B a → H a ≠ none
  E0 : Hp
  E : Hp
  EX : XK
  X : Addr → D → S → Prop
  okX : ∀ C d s v a H0' H', X C d s → Same E0 H0' → Same H0' H' → (∀ a o, E a = some o → ¬ B a → H' a = some o) → (∀ a, E a ≠ none → E0 a = none → H0' a = none) → (∀ a, B a → H0' a = none) →
    R s H0' H' → (E a = none ∧ H' a = some (.xd [("value", v)])) → Rep K H0' v d → EX (.ref C) (some a) H'
def Own (c : Ct) (H0 H : Hp) (p : Addr) (w : OV) : Prop := H0 p = none ∧ c.E p = none ∧ ¬ c.B p ∧ ∃ u, H p = some u ∧ OvOk c.K H0 p u w
def SlOk (c : Ct) (H0 H : Hp) (o : Option V) : Sl → Prop
  | .un => True
  | .dat d => ∃ v, o = some v ∧ Rep c.K H0 v d
  | .own w => ∃ p, o = some (.ref p) ∧ Own c H0 H p w
structure Good (c : Ct) (G : List Sl) (s : c.S) (σ : L2.St) (H0 H : Hp) : Prop where
  sub : Same H0 H
  av : ∀ a, c.B a → H0 a = none
  e0 : Same c.E0 H0
  e1 : ∀ a o, c.E a = some o → ¬ c.B a → H a = some o
  e2 : ∀ a, c.E a ≠ none → c.E0 a = none → H0 a = none
  rs : c.R s H0 H
  len : σ.length = G.length
  sl : ∀ (i : Nat) (x : Sl), G[i]? = some x → SlOk c H0 H (σ[i]?.join) x
  ds : ∀ (i j : Nat) (p : Addr) (w w' : OV), i ≠ j → G[i]? = some (.own w) → G[j]? = some (.own w') → σ[i]? = some (some (.ref p)) → σ[j]? = some (some (.ref p)) → False
/-- a value that is not one of the objects that a name holds for itself -/
def Apart (G : List Sl) (σ : L2.St) (p : Addr) : Prop := ∀ (i : Nat) (w : OV), G[i]? = some (.own w) → σ[i]? ≠ some (some (.ref p))
/-- what comes out -/
def ROk (c : Ct) (G : List Sl) (σ : L2.St) (H0 H : Hp) (v : V) : Sl → Prop
  | .un => True
  | .dat d => Rep c.K H0 v d
  | .own w => ∃ p, v = .ref p ∧ Own c H0 H p w ∧ Apart G σ p
/-- values that are kept beside the names: what they are, what they are worth -/
abbrev Frm := List Sl × L2.St
structure Gd (c : Ct) (G : List Sl) (s : c.S) (σ : L2.St) (F : Frm) (H0 H : Hp) : Prop where
  ln : σ.length = G.length
  gd : Good c (G ++ F.1) s (σ ++ F.2) H0 H
abbrev RO (c : Ct) (G : List Sl) (σ : L2.St) (F : Frm) (H0 H : Hp) (v : V) (x : Sl) : Prop := ROk c (G ++ F.1) (σ ++ F.2) H0 H v x
def WE (c : Ct) (te : TE) (G : List Sl) (s : c.S) (P : Sl → c.S → Prop) : Prop :=
  ∀ σ F H0 H, Gd c G s σ F H0 H → ∀ Q : VK, (∀ x s' v H0' H', P x s' → Gd c G s' σ F H0' H' → Same H0 H0' → RO c G σ F H0' H' v x → Q v H') → te σ H Q
def WA (c : Ct) (ta : TA) (G : List Sl) (s : c.S) (P : List D → c.S → Prop) : Prop :=
  ∀ σ F H0 H, Gd c G s σ F H0 H → ∀ Q : List V → Hp → Prop, (∀ ds s' vs H0' H', P ds s' → Gd c G s' σ F H0' H' → Same H0 H0' → RepAll c.K H0' vs ds → Q vs H') → ta σ H Q
def WT (c : Ct) (tt : TT) (G : List Sl) (s : c.S) (P : Bool → c.S → Prop) : Prop :=
  ∀ σ F H0 H, Gd c G s σ F H0 H → ∀ Q : Bool → Hp → Prop, (∀ b s' H0' H', P b s' → Gd c G s' σ F H0' H' → Same H0 H0' → Q b H') → tt σ H Q
/-- arguments, objects of one's own among them: kept beside the names -/
def WAO (c : Ct) (ta : TA) (G : List Sl) (s : c.S) (P : List Sl → c.S → Prop) : Prop :=
  ∀ σ F H0 H, Gd c G s σ F H0 H → ∀ Q : List V → Hp → Prop, (∀ xs s' vs H0' H', P xs s' → Gd c G s' σ (F.1 ++ xs, F.2 ++ vs.map some) H0' H' → Same H0 H0' → vs.length = xs.length → Q vs H') → ta σ H Q
/-- an object of one's own may be taken as data, from then on it stays -/
def FZ {S : Type} (P : D → S → Prop) : Sl → S → Prop
  | .dat d, s => P d s
  | .own (.lst ds), s => P (.lst ds) s
  | _, _ => False
section
variable {c : Ct} {G : List Sl} {s s' : c.S} {σ : L2.St} {H0 H H0' H' : Hp} {p : Addr} {w : OV} {d : D} {v : V}
theorem Own.step (h : Own c H0 H p w) (e : Same H0 H0') (n : H0' p = none) (hp : ∀ o, H p = some o → H' p = some o) : Own c H0' H' p w := by
  obtain ⟨a, b, c1, u, hu, k⟩ := h
  exact ⟨n, b, c1, u, hp _ hu, k.mono e⟩
/-- the ground goes on: H0 to H0', H to H', nothing of one's own is touched -/
theorem Good.go (g : Good c G s σ H0 H) (e : Same H0 H0') (sub : Same H0' H') (av : ∀ a, c.B a → H0' a = none)
    (k : ∀ a o, H a = some o → ¬ c.B a → H' a = some o) (n : ∀ a, H a ≠ none → H0 a = none → H0' a = none) (rs : c.R s' H0' H') : Good c G s' σ H0' H' where
  sub := sub
  av := av
  e0 := g.e0.trans e
  e1 := fun a o h hb => k a o (g.e1 a o h hb) hb
  e2 := fun a h h0 => by
    have q := g.e2 a h h0
    by_cases hb : c.B a
    · exact av a hb
    · refine n a ?_ q
      cases hE : c.E a with
      | none => exact (h hE).elim
      | some o => rw [g.e1 a o hE hb]; simp
  rs := rs
  len := g.len
  sl := fun i x hx => by
    have q := g.sl i x hx
    cases x with
    | un => trivial
    | dat d =>
      obtain ⟨v, h1, h2⟩ := q
      exact ⟨v, h1, h2.mono e⟩
    | own w =>
      obtain ⟨p, h1, h2⟩ := q
      have h3 := h2
      obtain ⟨a, b, cb, u, hu, _⟩ := h3
      exact ⟨p, h1, h2.step e (n p (by rw [hu]; simp) a) fun o ho => k p o ho cb⟩
  ds := g.ds
/-- more is there -/
theorem Good.ext (g : Good c G s σ H0 H) (e : Same H0 H0') (sub : Same H0' H') (k : Same H H') (n : ∀ a, H a ≠ none → H0 a = none → H0' a = none) (nB : ∀ a, c.B a → H a = none → H0' a = none) : Good c G s σ H0' H' :=
  g.go e sub (fun a hb => by
    by_cases h : H a = none
    · exact nB a hb h
    · exact n a h (g.av a hb)) (fun a o h _ => k a o h) n (c.stab _ _ _ _ _ g.rs e fun a o _ h => k a o h)
/-- an object of one's own, from now on data -/
theorem Good.freeze {xs : List V} {ds : List D} (g : Good c G s σ H0 H) (o : Own c H0 H p (.lst ds)) (ap : Apart G σ p) : ∃ H0', Good c G s σ H0' H ∧ Same H0 H0' ∧ Rep c.K H0' (.ref p) (.lst ds) := by
  obtain ⟨a, b, nb, u, hu, k⟩ := o
  cases u with
  | lst xs =>
    have e : Same H0 (upd H0 p (.lst xs)) := fun q o hq => by
      rw [upd_ne (ne_of_none hq a)]
      exact hq
    have sub : Same (upd H0 p (.lst xs)) H := fun q o hq => by
      by_cases hp : q = p
      · subst hp
        rw [upd_same] at hq
        rw [hu]
        exact hq
      · rw [upd_ne hp] at hq
        exact g.sub _ _ hq
    refine ⟨_, ?_, e, .lst upd_same (RepAll.mono e k)⟩
    have nne : ∀ q, q ≠ p → H0 q = none → upd H0 p (.lst xs) q = none := fun q hq h => by
      rw [upd_ne hq]
      exact h
    refine ⟨sub, fun q hb => nne q (fun z => nb (z ▸ hb)) (g.av q hb), g.e0.trans e, g.e1, fun q h h0 => nne q (fun z => h (z ▸ b)) (g.e2 q h h0), c.stab _ _ _ _ _ g.rs e fun _ _ _ h => h, g.len, fun i x hx => ?_, g.ds⟩
    have q := g.sl i x hx
    cases x with
    | un => trivial
    | dat d =>
      obtain ⟨v, h1, h2⟩ := q
      exact ⟨v, h1, h2.mono e⟩
    | own w =>
      obtain ⟨r, h1, h2⟩ := q
      refine ⟨r, h1, h2.step e (nne r (fun z => ?_) h2.1) fun o h => h⟩
      subst z
      refine ap i w hx ?_
      cases hs : σ[i]? with
      | none =>
        rw [hs] at h1
        cases h1
      | some y =>
        rw [hs] at h1
        exact congrArg some h1
  | _ => exact False.elim k
theorem WE.mono {te : TE} {P P' : Sl → c.S → Prop} (h : WE c te G s P) (k : ∀ x s', P x s' → P' x s') : WE c te G s P' := fun σ F H0 H g Q q => h σ F H0 H g Q fun x s' v H0' H' hp => q x s' v H0' H' (k x s' hp)
theorem WT.mono {tt : TT} {P P' : Bool → c.S → Prop} (h : WT c tt G s P) (k : ∀ x s', P x s' → P' x s') : WT c tt G s P' := fun σ F H0 H g Q q => h σ F H0 H g Q fun x s' H0' H' hp => q x s' H0' H' (k x s' hp)
theorem WA.mono {ta : TA} {P P' : List D → c.S → Prop} (h : WA c ta G s P) (k : ∀ x s', P x s' → P' x s') : WA c ta G s P' := fun σ F H0 H g Q q => h σ F H0 H g Q fun x s' v H0' H' hp => q x s' v H0' H' (k x s' hp)
theorem Good.at (g : Good c G s σ H0 H) {i : Nat} {d : D} (h : G[i]? = some (.dat d)) : ∃ v, σ[i]? = some (some v) ∧ Rep c.K H0 v d := by
  obtain ⟨v, h1, h2⟩ := g.sl i _ h
  refine ⟨v, ?_, h2⟩
  cases hs : σ[i]? with
  | none =>
    rw [hs] at h1
    cases h1
  | some y =>
    rw [hs] at h1
    exact congrArg some h1
theorem Good.ownAt (g : Good c G s σ H0 H) {i : Nat} {w : OV} (h : G[i]? = some (.own w)) : ∃ p, σ[i]? = some (some (.ref p)) ∧ Own c H0 H p w := by
  obtain ⟨v, h1, h2⟩ := g.sl i _ h
  refine ⟨v, ?_, h2⟩
  cases hs : σ[i]? with
  | none =>
    rw [hs] at h1
    cases h1
  | some y =>
    rw [hs] at h1
    exact congrArg some h1
/-- a name gets what came out -/
theorem Good.setSl {x : Sl} (g : Good c G s σ H0 H) (i : Nat) (r : ROk c G σ H0 H v x) : Good c (G.set i x) s (σ.set i (some v)) H0 H where
  sub := g.sub
  av := g.av
  e0 := g.e0
  e1 := g.e1
  e2 := g.e2
  rs := g.rs
  len := by rw [List.length_set, List.length_set, g.len]
  sl := fun j y hy => by
    rw [List.getElem?_set] at hy
    rw [List.getElem?_set]
    by_cases hij : i = j
    · subst hij
      rw [if_pos rfl] at hy
      rw [if_pos rfl]
      split at hy
      · cases hy
        rename_i hl
        rw [if_pos (by rw [g.len]; exact hl)]
        cases x with
        | un => trivial
        | dat d => exact ⟨v, rfl, r⟩
        | own w =>
          obtain ⟨p, rfl, o, _⟩ := r
          exact ⟨p, rfl, o⟩
      · cases hy
    · rw [if_neg hij] at hy
      rw [if_neg hij]
      exact g.sl j y hy
  ds := fun a b p w w' hab ha hb h1 h2 => by
    rw [List.getElem?_set] at ha hb h1 h2
    by_cases hia : i = a
    · subst hia
      rw [if_neg hab] at hb h2
      rw [if_pos rfl] at ha h1
      split at ha
      · cases ha
        split at h1
        · cases h1
          obtain ⟨q, hq, _, ap⟩ := r
          cases hq
          exact ap b w' hb h2
        · cases h1
      · cases ha
    · rw [if_neg hia] at ha h1
      by_cases hib : i = b
      · subst hib
        rw [if_pos rfl] at hb h2
        split at hb
        · cases hb
          split at h2
          · cases h2
            obtain ⟨q, hq, _, ap⟩ := r
            cases hq
            exact ap a w ha h1
          · cases h2
        · cases hb
      · rw [if_neg hib] at hb h2
        exact g.ds a b p w w' hab ha hb h1 h2
theorem Good.newE (g : Good c G s σ H0 H) {p : Addr} (hp : H p = none) : c.E p = none ∧ ¬ c.B p ∧ H0 p = none := by
  have nb : ¬ c.B p := fun h => c.there _ _ _ _ g.rs h hp
  refine ⟨?_, nb, g.sub.free hp⟩
  cases h : c.E p with
  | none => rfl
  | some o =>
    have q := g.e1 p o h nb
    rw [hp] at q
    cases q
theorem Good.apart (g : Good c G s σ H0 H) {p : Addr} (hp : H p = none) : Apart G σ p := fun i w hw hs => by
  obtain ⟨q, h1, o⟩ := g.ownAt hw
  rw [h1] at hs
  cases hs
  obtain ⟨_, _, _, u, hu, _⟩ := o
  rw [hp] at hu
  cases hu
/-- a new object, seen by nobody else -/
theorem Good.push (g : Good c G s σ H0 H) {p : Addr} {o : HO} (hp : H p = none) : Good c G s σ H0 (upd H p o) := by
  have k : Same H (upd H p o) := fun a u h => by
    rw [upd_ne (ne_of_none h hp)]
    exact h
  exact g.ext (Same.refl _) (g.sub.trans k) k (fun _ _ h => h) fun a hb _ => g.av a hb
/-- a new object, data from now on -/
theorem Good.lay (g : Good c G s σ H0 H) {p : Addr} {o : HO} (hp : H p = none) : Good c G s σ (upd H0 p o) (upd H p o) ∧ Same H0 (upd H0 p o) := by
  obtain ⟨n1, n2, n3⟩ := g.newE hp
  have k : Same H (upd H p o) := fun a u h => by
    rw [upd_ne (ne_of_none h hp)]
    exact h
  have k0 : Same H0 (upd H0 p o) := fun a u h => by
    rw [upd_ne (ne_of_none h n3)]
    exact h
  refine ⟨g.ext k0 (fun a u h => ?_) k (fun a h h0 => ?_) fun a hb _ => ?_, k0⟩
  · by_cases e : a = p
    · subst e
      rw [upd_same] at h ⊢
      exact h
    · rw [upd_ne e] at h ⊢
      exact g.sub a u h
  · rw [upd_ne (fun z => by subst z; exact h hp)]
    exact h0
  · rw [upd_ne (fun z => by subst z; exact n2 hb)]
    exact g.av a hb
theorem Good.rok (g : Good c G s σ H0 H) {p : Addr} {u : HO} (hp : H p = none) (k : OvOk c.K H0 p u w) : ROk c G σ H0 (upd H p u) (.ref p) (.own w) := by
  obtain ⟨n1, n2, n3⟩ := g.newE hp
  exact ⟨p, rfl, ⟨n3, n1, n2, u, upd_same, k⟩, g.apart hp⟩
end
section
variable {c : Ct} {G : List Sl} {s s' : c.S} {σ : L2.St} {F : Frm} {H0 H H0' H' : Hp} {p : Addr} {w : OV} {d : D} {v : V}
theorem Gd.at (g : Gd c G s σ F H0 H) {i : Nat} (h : G[i]? = some (.dat d)) : ∃ v, σ[i]? = some (some v) ∧ Rep c.K H0 v d := by
  have hi : i < G.length := (List.getElem?_eq_some_iff.mp h).1
  obtain ⟨v, h1, h2⟩ := g.gd.at (i := i) (d := d) (by rw [List.getElem?_append_left hi]; exact h)
  rw [List.getElem?_append_left (by rw [g.ln]; exact hi)] at h1
  exact ⟨v, h1, h2⟩
theorem Gd.ownAt (g : Gd c G s σ F H0 H) {i : Nat} (h : G[i]? = some (.own w)) : ∃ p, σ[i]? = some (some (.ref p)) ∧ Own c H0 H p w := by
  have hi : i < G.length := (List.getElem?_eq_some_iff.mp h).1
  obtain ⟨v, h1, h2⟩ := g.gd.ownAt (i := i) (w := w) (by rw [List.getElem?_append_left hi]; exact h)
  rw [List.getElem?_append_left (by rw [g.ln]; exact hi)] at h1
  exact ⟨v, h1, h2⟩
theorem Gd.push (g : Gd c G s σ F H0 H) {o : HO} (hp : H p = none) : Gd c G s σ F H0 (upd H p o) := ⟨g.ln, g.gd.push hp⟩
theorem Gd.lay (g : Gd c G s σ F H0 H) {o : HO} (hp : H p = none) : Gd c G s σ F (upd H0 p o) (upd H p o) ∧ Same H0 (upd H0 p o) := ⟨⟨g.ln, (g.gd.lay hp).1⟩, (g.gd.lay (o := o) hp).2⟩
theorem Gd.rok (g : Gd c G s σ F H0 H) {u : HO} (hp : H p = none) (k : OvOk c.K H0 p u w) : RO c G σ F H0 (upd H p u) (.ref p) (.own w) := g.gd.rok hp k
theorem WE.use {te : TE} {P : D → c.S → Prop} (h : WE c te G s (FZ P)) (g : Gd c G s σ F H0 H) {Q : VK}
    (q : ∀ d s' v H0' H', P d s' → Gd c G s' σ F H0' H' → Same H0 H0' → Rep c.K H0' v d → Q v H') : te σ H Q :=
  h σ F H0 H g Q fun x s' v H0' H' hp g' e r => by
    cases x with
    | un => exact False.elim hp
    | dat d => exact q d s' v H0' H' hp g' e r
    | own w =>
      obtain ⟨p, rfl, o, ap⟩ := r
      cases w with
      | lst ds =>
        obtain ⟨H1, g1, e1, r1⟩ := g'.gd.freeze (xs := []) o ap
        exact q _ s' _ H1 H' hp ⟨g'.ln, g1⟩ (e.trans e1) r1
      | dk _ => exact False.elim hp
      | dt _ => exact False.elim hp
      | ob _ => exact False.elim hp
/-- a value more beside the names -/
theorem Good.more {x : Sl} (g : Good c G s σ H0 H) (r : ROk c G σ H0 H v x) : Good c (G ++ [x]) s (σ ++ [some v]) H0 H where
  sub := g.sub
  av := g.av
  e0 := g.e0
  e1 := g.e1
  e2 := g.e2
  rs := g.rs
  len := by rw [List.length_append, List.length_append, g.len]; rfl
  sl := fun i y hy => by
    by_cases hi : i < G.length
    · rw [List.getElem?_append_left hi] at hy
      rw [List.getElem?_append_left (by rw [g.len]; exact hi)]
      exact g.sl i y hy
    · rw [List.getElem?_append_right (by omega)] at hy
      rw [List.getElem?_append_right (by rw [g.len]; omega), g.len]
      have hz : i - G.length = 0 := by
        have := (List.getElem?_eq_some_iff.mp hy).1
        simp at this
        omega
      rw [hz] at hy ⊢
      cases hy
      cases x with
      | un => trivial
      | dat d => exact ⟨v, rfl, r⟩
      | own w =>
        obtain ⟨p, rfl, o, _⟩ := r
        exact ⟨p, rfl, o⟩
  ds := fun a b p w w' hab ha hb h1 h2 => by
    have key : ∀ (i : Nat) (w : OV), (G ++ [x])[i]? = some (.own w) → (σ ++ [some v])[i]? = some (some (.ref p)) → (G[i]? = some (.own w) ∧ σ[i]? = some (some (.ref p))) ∨ (i = G.length ∧ x = .own w ∧ v = .ref p) := fun i w hi hs => by
      by_cases hl : i < G.length
      · rw [List.getElem?_append_left hl] at hi
        rw [List.getElem?_append_left (by rw [g.len]; exact hl)] at hs
        exact .inl ⟨hi, hs⟩
      · rw [List.getElem?_append_right (by omega)] at hi
        rw [List.getElem?_append_right (by rw [g.len]; omega), g.len] at hs
        have hz : i - G.length = 0 := by
          have := (List.getElem?_eq_some_iff.mp hi).1
          simp at this
          omega
        rw [hz] at hi hs
        simp at hi hs
        exact .inr ⟨by omega, hi, hs⟩
    rcases key a w ha h1 with q1 | q1 <;> rcases key b w' hb h2 with q2 | q2
    · exact g.ds a b p w w' hab q1.1 q2.1 q1.2 q2.2
    · obtain ⟨_, rfl, rfl⟩ := q2
      obtain ⟨q, hq, _, ap⟩ := r
      cases hq
      exact ap a w q1.1 q1.2
    · obtain ⟨_, rfl, rfl⟩ := q1
      obtain ⟨q, hq, _, ap⟩ := r
      cases hq
      exact ap b w' q2.1 q2.2
    · exact hab (q1.1.trans q2.1.symm)
theorem Gd.more {x : Sl} (g : Gd c G s σ F H0 H) (r : RO c G σ F H0 H v x) : Gd c G s σ (F.1 ++ [x], F.2 ++ [some v]) H0 H :=
  ⟨g.ln, by rw [← List.append_assoc, ← List.append_assoc]; exact g.gd.more r⟩
/-- what is beside the names may be forgotten -/
theorem Good.less {X : List Sl} {ξ : L2.St} (g : Good c (G ++ X) s (σ ++ ξ) H0 H) (hl : σ.length = G.length) : Good c G s σ H0 H where
  sub := g.sub
  av := g.av
  e0 := g.e0
  e1 := g.e1
  e2 := g.e2
  rs := g.rs
  len := hl
  sl := fun i y hy => by
    have hi : i < G.length := (List.getElem?_eq_some_iff.mp hy).1
    have q := g.sl i y (by rw [List.getElem?_append_left hi]; exact hy)
    rw [List.getElem?_append_left (by rw [hl]; exact hi)] at q
    exact q
  ds := fun a b p w w' hab ha hb h1 h2 => by
    have ia : a < G.length := (List.getElem?_eq_some_iff.mp ha).1
    have ib : b < G.length := (List.getElem?_eq_some_iff.mp hb).1
    exact g.ds a b p w w' hab (by rw [List.getElem?_append_left ia]; exact ha) (by rw [List.getElem?_append_left ib]; exact hb) (by rw [List.getElem?_append_left (by rw [hl]; exact ia)]; exact h1) (by rw [List.getElem?_append_left (by rw [hl]; exact ib)]; exact h2)
theorem Gd.less {X : List Sl} {ξ : L2.St} (g : Gd c G s σ (F.1 ++ X, F.2 ++ ξ) H0 H) (hl : F.2.length = F.1.length) : Gd c G s σ F H0 H :=
  ⟨g.ln, by
    have q := g.gd
    rw [← List.append_assoc, ← List.append_assoc] at q
    exact q.less (by rw [List.length_append, List.length_append, g.ln, hl])⟩
theorem Gd.fl (g : Gd c G s σ F H0 H) : F.2.length = F.1.length := by
  have q := g.gd.len
  rw [List.length_append, List.length_append, g.ln] at q
  omega
theorem Gd.of (g : Good c G s σ H0 H) : Gd c G s σ ([], []) H0 H := ⟨g.len, by rw [List.append_nil, List.append_nil]; exact g⟩
theorem Gd.to (g : Gd c G s σ F H0 H) : Good c G s σ H0 H := g.gd.less g.ln
/-- a name is forgotten -/
theorem Good.forget (g : Good c G s σ H0 H) (i : Nat) : Good c (G.set i .un) s σ H0 H where
  sub := g.sub
  av := g.av
  e0 := g.e0
  e1 := g.e1
  e2 := g.e2
  rs := g.rs
  len := by rw [List.length_set]; exact g.len
  sl := fun j y hy => by
    rw [List.getElem?_set] at hy
    split at hy
    · split at hy
      · cases hy
        trivial
      · cases hy
    · exact g.sl j y hy
  ds := fun a b p w w' hab ha hb h1 h2 => by
    rw [List.getElem?_set] at ha hb
    split at ha
    · split at ha <;> cases ha
    · split at hb
      · split at hb <;> cases hb
      · exact g.ds a b p w w' hab ha hb h1 h2
end
end DL
/-! DLb: rules for expressions -/
namespace DL
open PySem L2
section
variable {c : Ct} {G : List Sl} {s : c.S} {P : Sl → c.S → Prop}
theorem we_var {i : Nat} {d : D} (h : G[i]? = some (.dat d)) (k : P (.dat d) s) : WE c (tVar i) G s P := fun σ F H0 H g Q q => by
  obtain ⟨v, h1, r⟩ := g.at h
  exact ⟨v, h1, q _ s v H0 H k g (Same.refl _) r⟩
theorem we_int {i : Int} (k : P (.dat (.int i)) s) : WE c (tC (.int i)) G s P := fun σ F H0 H g Q q => q _ s _ H0 H k g (Same.refl _) (.int i)
theorem we_str {x : Str} (k : P (.dat (.str x)) s) : WE c (tC (.str x)) G s P := fun σ F H0 H g Q q => q _ s _ H0 H k g (Same.refl _) (.str x)
theorem we_bl {b : Bool} (k : P (.dat (.bl b)) s) : WE c (tC (.bl b)) G s P := fun σ F H0 H g Q q => q _ s _ H0 H k g (Same.refl _) (.bl b)
theorem we_non (k : P (.dat .non) s) : WE c (tC .non) G s P := fun σ F H0 H g Q q => q _ s _ H0 H k g (Same.refl _) .non
theorem we_ref {a : Addr} (k : P (.dat (.ref a)) s) : WE c (tC (.ref a)) G s P := fun σ F H0 H g Q q => q _ s _ H0 H k g (Same.refl _) (.ref a)
/-- an operation on two data -/
def DOp (c : Ct) (r : R2) (x y : D) (G : List Sl) (s : c.S) (P : Sl → c.S → Prop) : Prop :=
  ∀ σ F H0 H v w, Gd c G s σ F H0 H → Rep c.K H0 v x → Rep c.K H0 w y → ∀ Q : VK, (∀ z s' u H0' H', P z s' → Gd c G s' σ F H0' H' → Same H0 H0' → RO c G σ F H0' H' u z → Q u H') → r v w H Q
def DUn (c : Ct) (r : V → Hp → VK → Prop) (x : D) (G : List Sl) (s : c.S) (P : Sl → c.S → Prop) : Prop :=
  ∀ σ F H0 H v, Gd c G s σ F H0 H → Rep c.K H0 v x → ∀ Q : VK, (∀ z s' u H0' H', P z s' → Gd c G s' σ F H0' H' → Same H0 H0' → RO c G σ F H0' H' u z → Q u H') → r v H Q
/-- a call of what is built in, on data -/
def DCB (c : Ct) (r : List V → Hp → VK → Prop) (ds : List D) (G : List Sl) (s : c.S) (P : Sl → c.S → Prop) : Prop :=
  ∀ σ F H0 H vs, Gd c G s σ F H0 H → RepAll c.K H0 vs ds → ∀ Q : VK, (∀ z s' u H0' H', P z s' → Gd c G s' σ F H0' H' → Same H0 H0' → RO c G σ F H0' H' u z → Q u H') → r vs H Q
theorem we_op {r : R2} {ta tb : TE} (h : WE c ta G s (FZ fun x s1 => WE c tb G s1 (FZ fun y s2 => DOp c r x y G s2 P))) : WE c (tOp r ta tb) G s P := fun σ F H0 H g Q q =>
  h.use g fun x s1 v H1 H1' hp g1 e1 r1 => hp.use g1 fun y s2 w H2 H2' hp2 g2 e2 r2 =>
    hp2 σ F H2 H2' v w g2 (r1.mono e2) r2 Q fun z s' u H3 H3' a b e d => q z s' u H3 H3' a b ((e1.trans e2).trans e) d
theorem we_un {r : V → Hp → VK → Prop} {ta : TE} (h : WE c ta G s (FZ fun x s1 => DUn c r x G s1 P)) : WE c (tUn r ta) G s P := fun σ F H0 H g Q q =>
  h.use g fun x s1 v H1 H1' hp g1 e1 r1 => hp σ F H1 H1' v g1 r1 Q fun z s' u H3 H3' a b e d => q z s' u H3 H3' a b (e1.trans e) d
theorem wa_nil {P : List D → c.S → Prop} (k : P [] s) : WA c tNil G s P := fun σ F H0 H g Q q => q [] s [] H0 H k g (Same.refl _) .nil
theorem wa_cons {P : List D → c.S → Prop} {ta : TE} {tr : TA} (h : WE c ta G s (FZ fun x s1 => WA c tr G s1 fun ds s2 => P (x :: ds) s2)) : WA c (tCons ta tr) G s P := fun σ F H0 H g Q q =>
  h.use g fun x s1 v H1 H1' hp g1 e1 r1 => hp σ F H1 H1' g1 _ fun ds s2 vs H2 H2' hp2 g2 e2 r2 => q _ s2 _ H2 H2' hp2 g2 (e1.trans e2) (.cons (r1.mono e2) r2)
theorem we_cb {r : List V → Hp → VK → Prop} {ta : TA} (h : WA c ta G s fun ds s1 => DCB c r ds G s1 P) : WE c (tCB r ta) G s P := fun σ F H0 H g Q q =>
  h σ F H0 H g _ fun ds s1 vs H1 H1' hp g1 e1 r1 => hp σ F H1 H1' vs g1 r1 Q fun z s' u H3 H3' a b e d => q z s' u H3 H3' a b (e1.trans e) d
/-- a tuple made -/
theorem we_tup {ta : TA} (h : WA c ta G s fun ds s1 => ds.length ≤ 100000 ∧ P (.dat (.tup ds)) s1) : WE c (tTup ta) G s P := fun σ F H0 H g Q q =>
  h σ F H0 H g _ fun ds s1 vs H1 H1' hp g1 e1 r1 => ⟨by rw [r1.len]; exact Nat.le_trans hp.1 (by decide), fun p hn => by
    obtain ⟨g2, e2⟩ := g1.lay (o := .tup vs) hn
    exact q _ s1 _ _ _ hp.2 g2 (e1.trans e2) (.tup (.inl (.inl upd_same)) (r1.mono e2))⟩
theorem we_lst {ta : TA} (h : WA c ta G s fun ds s1 => ds.length ≤ 100000 ∧ P (.own (.lst ds)) s1) : WE c (tLst ta) G s P := fun σ F H0 H g Q q =>
  h σ F H0 H g _ fun ds s1 vs H1 H1' hp g1 e1 r1 => ⟨by rw [r1.len]; exact Nat.le_trans hp.1 (by decide), fun p hn => q _ s1 _ _ _ hp.2 (g1.push hn) e1 (g1.rok (u := .lst vs) hn r1)⟩
/-! ### tests -/
theorem wt_test {ta : TE} {P : Bool → c.S → Prop} (h : WE c ta G s (FZ fun x s1 => ∃ b, x = .bl b ∧ P b s1)) : WT c (tTest ta) G s P := fun σ F H0 H g Q q =>
  h.use g fun x s1 v H1 H1' hp g1 e1 r1 => by
    obtain ⟨b, rfl, hb⟩ := hp
    cases r1
    exact ⟨b, rfl, q b s1 H1 H1' hb g1 e1⟩
theorem wt_B {ta : TE} {P : Bool → c.S → Prop} (h : WE c ta G s (FZ fun x s1 => ∃ b, x = .bl b ∧ P b s1)) : WT c (tB ta) G s P := fun σ F H0 H g Q q =>
  h.use g fun x s1 v H1 H1' hp g1 e1 r1 => by
    obtain ⟨b, rfl, hb⟩ := hp
    cases r1
    exact ⟨b, rfl, q b s1 H1 H1' hb g1 e1⟩
theorem wt_not {t : TT} {P : Bool → c.S → Prop} (h : WT c t G s fun b s1 => P (!b) s1) : WT c (tNot t) G s P := fun σ F H0 H g Q q =>
  h σ F H0 H g _ fun b s1 H1 H1' hp g1 e1 => q _ s1 H1 H1' hp g1 e1
theorem wt_and {t u : TT} {P : Bool → c.S → Prop} (h : WT c t G s fun b s1 => if b = true then WT c u G s1 P else P false s1) : WT c (tAnd t u) G s P := fun σ F H0 H g Q q =>
  h σ F H0 H g _ fun b s1 H1 H1' hp g1 e1 => by
    cases b with
    | true => exact iteT ((show WT c u G s1 P from hp) σ F H1 H1' g1 Q fun b s2 H2 H2' a b e => q _ s2 H2 H2' a b (e1.trans e))
    | false => exact iteF (q false s1 H1 H1' (show P false s1 from hp) g1 e1)
theorem wt_or {t u : TT} {P : Bool → c.S → Prop} (h : WT c t G s fun b s1 => if b = true then P true s1 else WT c u G s1 P) : WT c (tOr t u) G s P := fun σ F H0 H g Q q =>
  h σ F H0 H g _ fun b s1 H1 H1' hp g1 e1 => by
    cases b with
    | false => exact iteF ((show WT c u G s1 P from hp) σ F H1 H1' g1 Q fun b s2 H2 H2' a b e => q _ s2 H2 H2' a b (e1.trans e))
    | true => exact iteT (q true s1 H1 H1' (show P true s1 from hp) g1 e1)
theorem wt_yes {P : Bool → c.S → Prop} (h : P true s) : WT c tYes G s P := fun σ F H0 H g Q q => q true s H0 H h g (Same.refl _)
theorem we_if {t : TT} {ta tb : TE} (h : WT c t G s fun b s1 => if b = true then WE c ta G s1 P else WE c tb G s1 P) : WE c (tIf t ta tb) G s P := fun σ F H0 H g Q q =>
  h σ F H0 H g _ fun b s1 H1 H1' hp g1 e1 => by
    cases b with
    | true => exact iteT ((show WE c ta G s1 P from hp) σ F H1 H1' g1 Q fun x s2 v H2 H2' a b e r => q _ s2 v H2 H2' a b (e1.trans e) r)
    | false => exact iteF ((show WE c tb G s1 P from hp) σ F H1 H1' g1 Q fun x s2 v H2 H2' a b e r => q _ s2 v H2 H2' a b (e1.trans e) r)
theorem we_andV {ta tb : TE} (h : WE c ta G s (FZ fun x s1 => ∃ b, x = .bl b ∧ if b = true then WE c tb G s1 P else P (.dat (.bl false)) s1)) : WE c (tAndV ta tb) G s P := fun σ F H0 H g Q q =>
  h.use g fun x s1 v H1 H1' hp g1 e1 r1 => by
    obtain ⟨b, rfl, hb⟩ := hp
    cases r1
    refine ⟨b, rfl, ?_⟩
    cases b with
    | true => exact iteT ((show WE c tb G s1 P from hb) σ F H1 H1' g1 Q fun x s2 v H2 H2' a b e r => q _ s2 v H2 H2' a b (e1.trans e) r)
    | false => exact iteF (q _ s1 _ H1 H1' (show P (.dat (.bl false)) s1 from hb) g1 e1 (.bl false))
theorem we_orV {ta tb : TE} (h : WE c ta G s (FZ fun x s1 => ∃ b, x = .bl b ∧ if b = true then P (.dat (.bl true)) s1 else WE c tb G s1 P)) : WE c (tOrV ta tb) G s P := fun σ F H0 H g Q q =>
  h.use g fun x s1 v H1 H1' hp g1 e1 r1 => by
    obtain ⟨b, rfl, hb⟩ := hp
    cases r1
    refine ⟨b, rfl, ?_⟩
    cases b with
    | false => exact iteF ((show WE c tb G s1 P from hb) σ F H1 H1' g1 Q fun x s2 v H2 H2' a b e r => q _ s2 v H2 H2' a b (e1.trans e) r)
    | true => exact iteT (q _ s1 _ H1 H1' (show P (.dat (.bl true)) s1 from hb) g1 e1 (.bl true))
theorem we_notV {ta : TE} (h : WE c ta G s (FZ fun x s1 => ∃ b, x = .bl b ∧ P (.dat (.bl (!b))) s1)) : WE c (tNotV ta) G s P := fun σ F H0 H g Q q =>
  h.use g fun x s1 v H1 H1' hp g1 e1 r1 => by
    obtain ⟨b, rfl, hb⟩ := hp
    cases r1
    exact ⟨b, rfl, q _ s1 _ H1 H1' hb g1 e1 (.bl _)⟩
/-- a < b < c -/
theorem we_chain {r r' : R2} {ta tb tc : TE} (h : WE c ta G s (FZ fun x s1 => WE c tb G s1 (FZ fun y s2 => DOp c r x y G s2 fun z s3 => ∃ b, z = .dat (.bl b) ∧ if b = true then WE c tc G s3 (FZ fun w s4 => DOp c r' y w G s4 P) else P (.dat (.bl false)) s3))) : WE c (tChain r r' ta tb tc) G s P := fun σ F H0 H g Q q =>
  h.use g fun x s1 v H1 H1' hp g1 e1 r1 => hp.use g1 fun y s2 w H2 H2' hp2 g2 e2 r2 =>
    hp2 σ F H2 H2' v w g2 (r1.mono e2) r2 _ fun z s3 u H3 H3' a g3 e3 r3 => by
      obtain ⟨b, rfl, hb⟩ := a
      cases r3
      refine ⟨b, rfl, ?_⟩
      cases b with
      | true =>
        refine iteT ?_
        exact (show WE c tc G s3 _ from hb).use g3 fun y4 s4 w4 H4 H4' hp4 g4 e4 r4 => hp4 σ F H4 H4' w w4 g4 ((r2.mono e3).mono e4) r4 Q fun z5 s5 u5 H5 H5' a5 b5 e5 d5 => q z5 s5 u5 H5 H5' a5 b5 (((e1.trans e2).trans e3).trans (e4.trans e5)) d5
      | false => exact iteF (q _ s3 _ H3 H3' (show P (.dat (.bl false)) s3 from hb) g3 ((e1.trans e2).trans e3) (.bl false))
/-! ### operators -/
theorem dop_I0 {g : Int → Int → V} {f : Int → Int → D} {i j : Int} (hr : ∀ K H0, Rep K H0 (g i j) (f i j)) (k : P (.dat (f i j)) s) : DOp c (rI0 g) (.int i) (.int j) G s P := fun σ F H0 H v w gd r1 r2 Q q => by
  cases r1
  cases r2
  exact ⟨i, j, rfl, rfl, q _ s _ H0 H k gd (Same.refl _) (hr _ _)⟩
theorem dop_add {i j : Int} (k : P (.dat (.int (i + j))) s) : DOp c (rI0 fun i j => .int (i + j)) (.int i) (.int j) G s P := dop_I0 (f := fun i j => .int (i + j)) (fun _ _ => .int _) k
theorem dop_sub {i j : Int} (k : P (.dat (.int (i - j))) s) : DOp c (rI0 fun i j => .int (i - j)) (.int i) (.int j) G s P := dop_I0 (f := fun i j => .int (i - j)) (fun _ _ => .int _) k
theorem dop_lt {i j : Int} (k : P (.dat (.bl (decide (i < j)))) s) : DOp c (rI0 fun i j => .bl (decide (i < j))) (.int i) (.int j) G s P := dop_I0 (f := fun i j => .bl (decide (i < j))) (fun _ _ => .bl _) k
theorem dop_le {i j : Int} (k : P (.dat (.bl (decide (i ≤ j)))) s) : DOp c (rI0 fun i j => .bl (decide (i ≤ j))) (.int i) (.int j) G s P := dop_I0 (f := fun i j => .bl (decide (i ≤ j))) (fun _ _ => .bl _) k
theorem dop_gt {i j : Int} (k : P (.dat (.bl (decide (j < i)))) s) : DOp c (rI0 fun i j => .bl (decide (j < i))) (.int i) (.int j) G s P := dop_I0 (f := fun i j => .bl (decide (j < i))) (fun _ _ => .bl _) k
theorem dop_ge {i j : Int} (k : P (.dat (.bl (decide (j ≤ i)))) s) : DOp c (rI0 fun i j => .bl (decide (j ≤ i))) (.int i) (.int j) G s P := dop_I0 (f := fun i j => .bl (decide (j ≤ i))) (fun _ _ => .bl _) k
theorem dop_I {C : Int → Int → Prop} {g : Int → Int → V} {f : Int → Int → D} {i j : Int} (hc : C i j) (hr : ∀ K H0, Rep K H0 (g i j) (f i j)) (k : P (.dat (f i j)) s) : DOp c (rI C g) (.int i) (.int j) G s P := fun σ F H0 H v w gd r1 r2 Q q => by
  cases r1
  cases r2
  exact ⟨i, j, rfl, rfl, hc, q _ s _ H0 H k gd (Same.refl _) (hr _ _)⟩
/-- == and != of plain values -/
def scD : D → D → Option Bool
  | .int i, .int j => some (decide (i = j))
  | .str x, .str y => some (decide (x = y))
  | .bl x, .bl y => some (decide (x = y))
  | .non, .non => some true
  | _, _ => none
theorem scD_V {K : PySem.W.Frag} {H : Hp} {v w : V} {x y : D} {b : Bool} (r1 : Rep K H v x) (r2 : Rep K H w y) (h : scD x y = some b) : scal v w = true ∧ decide (v = w) = b := by
  unfold scD at h
  split at h <;> cases h <;> cases r1 <;> cases r2 <;> refine ⟨rfl, ?_⟩ <;> first | rfl | simp
theorem dop_eq {x y : D} {b : Bool} (h : scD x y = some b) (k : P (.dat (.bl b)) s) : DOp c rEq x y G s P := fun σ F H0 H v w gd r1 r2 Q q => by
  obtain ⟨h1, h2⟩ := scD_V r1 r2 h
  exact ⟨h1, by rw [h2]; exact q _ s _ H0 H k gd (Same.refl _) (.bl b)⟩
theorem dop_ne {x y : D} {b : Bool} (h : scD x y = some b) (k : P (.dat (.bl (!b))) s) : DOp c rNe x y G s P := fun σ F H0 H v w gd r1 r2 Q q => by
  obtain ⟨h1, h2⟩ := scD_V r1 r2 h
  exact ⟨h1, by rw [h2]; exact q _ s _ H0 H k gd (Same.refl _) (.bl _)⟩
end
end DL
/-! DLc: statements, calls, loops, comprehensions, what a def promises -/
namespace DL
open PySem L2
structure Ds (S : Type) where
  nx : List Sl → S → Prop
  rt : Sl → S → Prop
  bk : List Sl → S → Prop := fun _ _ => False
  ct : List Sl → S → Prop := fun _ _ => False
/-- what follows is served: H0 the ground at the start, n how many names -/
structure EOk (c : Ct) (D : Ends) (P : Ds c.S) (H0 : Hp) (n : Nat) : Prop where
  nx : ∀ G s σ H0' H, P.nx G s → Good c G s σ H0' H → Same H0 H0' → G.length = n → D.nx σ H
  rt : ∀ x s v G σ H0 H, P.rt x s → Good c G s σ H0 H → ROk c G σ H0 H v x → D.rt v H
  bk : ∀ G s σ H0' H, P.bk G s → Good c G s σ H0' H → Same H0 H0' → G.length = n → D.bk σ H
  ct : ∀ G s σ H0' H, P.ct G s → Good c G s σ H0' H → Same H0 H0' → G.length = n → D.ct σ H
theorem EOk.on {c : Ct} {D : Ends} {P : Ds c.S} {H0 H1 : Hp} {n : Nat} (e : EOk c D P H0 n) (k : Same H0 H1) : EOk c D P H1 n :=
  ⟨fun G s σ H0' H a b d l => e.nx G s σ H0' H a b (k.trans d) l, e.rt, fun G s σ H0' H a b d l => e.bk G s σ H0' H a b (k.trans d) l, fun G s σ H0' H a b d l => e.ct G s σ H0' H a b (k.trans d) l⟩
def WS (c : Ct) (t : TS) (G : List Sl) (s : c.S) (P : Ds c.S) : Prop := ∀ σ H0 H, Good c G s σ H0 H → ∀ D : Ends, EOk c D P H0 G.length → t D σ H
section
variable {c : Ct} {G : List Sl} {s : c.S} {P : Ds c.S}
/-! ### arguments, objects of one's own among them -/
theorem wao_nil {P : List Sl → c.S → Prop} (k : P [] s) : WAO c tNil G s P := fun σ F H0 H g Q q => q [] s [] H0 H k (by simpa using g) (Same.refl _) rfl
theorem wao_cons {P : List Sl → c.S → Prop} {ta : TE} {tr : TA} (h : WE c ta G s fun x s1 => WAO c tr G s1 fun xs s2 => P (x :: xs) s2) : WAO c (tCons ta tr) G s P := fun σ F H0 H g Q q =>
  h σ F H0 H g _ fun x s1 v H1 H1' hp g1 e1 r1 => hp σ _ H1 H1' (g1.more r1) _ fun xs s2 vs H2 H2' hp2 g2 e2 hl =>
    q _ s2 _ H2 H2' hp2 (by simpa [List.append_assoc] using g2) (e1.trans e2) (by simp [hl])
/-! ### statements -/
theorem ws_next (k : P.nx G s) : WS c tNext G s P := fun σ H0 H g D e => e.nx G s σ H0 H k g (Same.refl _) rfl
theorem ws_brk (k : P.bk G s) : WS c tBreak G s P := fun σ H0 H g D e => e.bk G s σ H0 H k g (Same.refl _) rfl
theorem ws_cnt (k : P.ct G s) : WS c tCont G s P := fun σ H0 H g D e => e.ct G s σ H0 H k g (Same.refl _) rfl
theorem ws_seq {t u : TS} (h : WS c t G s { P with nx := fun G1 s1 => WS c u G1 s1 P }) : WS c (tSeq t u) G s P := fun σ H0 H g D e =>
  h σ H0 H g { D with nx := u D } ⟨fun G1 s1 σ1 H1 H1' hp g1 k hl => hp σ1 H1 H1' g1 D (hl ▸ e.on k), e.rt, e.bk, e.ct⟩
theorem ws_asg {te : TE} {i : Nat} (h : WE c te G s fun x s1 => P.nx (G.set i x) s1) : WS c (tAsg te (gName i)) G s P := fun σ H0 H g D e =>
  h σ ([], []) H0 H (Gd.of g) _ fun x s1 v H1 H1' hp g1 e1 r1 => by
    have g2 := g1.to
    refine e.nx _ s1 _ H1 H1' hp (g2.setSl i ?_) e1 (List.length_set ..)
    simpa [RO] using r1
theorem ws_drop {te : TE} (h : WE c te G s fun _ s1 => P.nx G s1) : WS c (tDrop te) G s P := fun σ H0 H g D e =>
  h σ ([], []) H0 H (Gd.of g) _ fun x s1 v H1 H1' hp g1 e1 r1 => e.nx _ s1 _ H1 H1' hp g1.to e1 rfl
theorem ws_ret {te : TE} (h : WE c te G s P.rt) : WS c (tRet te) G s P := fun σ H0 H g D e =>
  h σ ([], []) H0 H (Gd.of g) _ fun x s1 v H1 H1' hp g1 e1 r1 => e.rt x s1 v G σ H1 H1' hp g1.to (by simpa [RO] using r1)
theorem ws_retN (h : P.rt (.dat .non) s) : WS c tRetN G s P := fun σ H0 H g D e => e.rt _ s _ G σ H0 H h g .non
/-- return x, an object of one's own -/
theorem ws_retOwn {i : Nat} {w : OV} (hi : G[i]? = some (.own w)) (h : P.rt (.own w) s) : WS c (tRet (tVar i)) G s P := fun σ H0 H g D e => by
  obtain ⟨p, h1, o⟩ := g.ownAt hi
  refine ⟨.ref p, h1, e.rt _ s _ (G.set i .un) σ H0 H h (g.forget i) ⟨p, rfl, o, fun j w' hj hs => ?_⟩⟩
  rw [List.getElem?_set] at hj
  split at hj
  · split at hj <;> cases hj
  · rename_i hne
    exact g.ds i j p w w' hne hi hj h1 hs
theorem ws_if {t : TT} {tu tw : TS} (h : WT c t G s fun b s1 => if b = true then WS c tu G s1 P else WS c tw G s1 P) : WS c (tIfS t tu tw) G s P := fun σ H0 H g D e =>
  h σ ([], []) H0 H (Gd.of g) _ fun b s1 H1 H1' hp g1 e1 => by
    cases b with
    | true => exact iteT ((show WS c tu G s1 P from hp) σ H1 H1' g1.to D (e.on e1))
    | false => exact iteF ((show WS c tw G s1 P from hp) σ H1 H1' g1.to D (e.on e1))
theorem WS.mono {t : TS} {P' : Ds c.S} (h : WS c t G s P) (k1 : ∀ G s, P.nx G s → P'.nx G s) (k2 : ∀ x s, P.rt x s → P'.rt x s) (k3 : ∀ G s, P.bk G s → P'.bk G s) (k4 : ∀ G s, P.ct G s → P'.ct G s) : WS c t G s P' := fun σ H0 H g D e =>
  h σ H0 H g D ⟨fun G s σ H0 H hp => e.nx G s σ H0 H (k1 G s hp), fun x s v G σ H0 H hp => e.rt x s v G σ H0 H (k2 x s hp), fun G s σ H0 H hp => e.bk G s σ H0 H (k3 G s hp), fun G s σ H0 H hp => e.ct G s σ H0 H (k4 G s hp)⟩
/-! ### targets -/
/-- what a target does with a datum -/
def Tg (c : Ct) (g : TG) (is : List Nat) (d : D) (G G' : List Sl) : Prop := ∀ s σ F H0 H v, Gd c G s σ F H0 H → Rep c.K H0 v d → ∀ Q : L2.St → Hp → Prop, (∀ σ', σ'.length = σ.length → (∀ j : Nat, j ∉ is → σ'[j]? = σ[j]?) → Gd c G' s σ' F H0 H → Q σ' H) → g v σ H Q
theorem Gd.set {σ : L2.St} {F : Frm} {H0 H : Hp} {v : V} {x : Sl} (g : Gd c G s σ F H0 H) (i : Nat) (hi : i < G.length) (r : RO c G σ F H0 H v x) : Gd c (G.set i x) s (σ.set i (some v)) F H0 H :=
  ⟨by rw [List.length_set, List.length_set, g.ln], by
    have q := g.gd.setSl i r
    rw [List.set_append_left _ _ hi, List.set_append_left _ _ (by rw [g.ln]; exact hi)] at q
    exact q⟩
theorem tg_name {i : Nat} {d : D} (hi : i < G.length) : Tg c (gName i) [i] d G (G.set i (.dat d)) := fun s σ F H0 H v g r Q q => q _ (List.length_set ..) (fun j hj => List.getElem?_set_ne (fun z => hj (by subst z; exact List.mem_cons_self ..))) (g.set i hi r)
inductive TgL : List Nat → List D → List Sl → List Sl → Prop
  | nil {G : List Sl} : TgL [] [] G G
  | cons {i : Nat} {is : List Nat} {d : D} {ds : List D} {G G' : List Sl} : i < G.length → TgL is ds (G.set i (.dat d)) G' → TgL (i :: is) (d :: ds) G G'
def gNames : List Nat → TGs
  | [] => gNil
  | i :: is => gCons (gName i) (gNames is)
theorem tgs_names : ∀ {is : List Nat} {ds : List D} {G G' : List Sl}, TgL is ds G G' → ∀ s σ F H0 H vs, Gd c G s σ F H0 H → RepAll c.K H0 vs ds → ∀ Q : L2.St → Hp → Prop, (∀ σ', σ'.length = σ.length → (∀ j : Nat, j ∉ is → σ'[j]? = σ[j]?) → Gd c G' s σ' F H0 H → Q σ' H) → gNames is vs σ H Q
  | _, _, _, _, .nil, s, σ, F, H0, H, vs, g, r, Q, q => by
    cases r
    exact ⟨rfl, q σ rfl (fun _ _ => rfl) g⟩
  | _, _, _, _, .cons hi t, s, σ, F, H0, H, vs, g, r, Q, q => by
    cases r with
    | cons r rs => exact ⟨_, _, rfl, tgs_names t s _ F H0 H _ (g.set _ hi r) rs Q fun σ' hl hk => q σ' (hl.trans (List.length_set ..)) fun j hj => (hk j fun z => hj (List.mem_cons_of_mem _ z)).trans (List.getElem?_set_ne (fun z => hj (by subst z; exact List.mem_cons_self ..)))⟩
theorem RepAll.toT {K : PySem.W.Frag} {H0 H : Hp} {v : V} {ds : List D} (e : Same H0 H) (r : Rep K H0 v (.tup ds)) : ∃ a xs, v = .ref a ∧ SqT K H a xs ∧ RepAll K H0 xs ds := by
  cases r with
  | tup h t => exact ⟨_, _, rfl, same_t e h, t⟩
theorem tg_tup {is : List Nat} {n : Nat} {ds : List D} {G' : List Sl} (hn : ds.length = n) (t : TgL is ds G G') : Tg c (gTup c.K n (gNames is)) is (.tup ds) G G' := fun s σ F H0 H v g r Q q => by
  obtain ⟨a, xs, rfl, h, ra⟩ := RepAll.toT g.gd.sub r
  exact ⟨a, xs, rfl, h, ra.len.trans hn, tgs_names t s σ F H0 H xs g ra Q q⟩
theorem ws_asgT {te : TE} {g : TG} (h : WE c te G s (FZ fun d s1 => ∃ is G', Tg c g is d G G' ∧ P.nx G' s1)) : WS c (tAsg te g) G s P := fun σ H0 H gd D e =>
  h.use (Gd.of gd) fun d s1 v H1 H1' hp g1 e1 r1 => by
    obtain ⟨is, G', t, hp⟩ := hp
    exact t s1 σ _ H1 H1' v g1 r1 _ fun σ' hl _ g2 => e.nx _ s1 _ _ _ hp g2.to e1 (by rw [← g2.ln, hl, g1.ln])
/-- several names get several things, objects of one's own among them -/
inductive TgO : List Nat → List Sl → List Sl → List Sl → Prop
  | nil {G : List Sl} : TgO [] [] G G
  | cons {i : Nat} {is : List Nat} {d : Sl} {ds : List Sl} {G G' : List Sl} : i < G.length → TgO is ds (G.set i d) G' → TgO (i :: is) (d :: ds) G G'
/-- the first value beside the names goes to a name -/
theorem Good.take {σ ξ : L2.St} {X : List Sl} {H0 H : Hp} {v : V} {x : Sl} (g : Good c (G ++ x :: X) s (σ ++ some v :: ξ) H0 H) (hl : σ.length = G.length) (i : Nat) (hi : i < G.length) : Good c (G.set i x ++ X) s (σ.set i (some v) ++ ξ) H0 H := by
  have hlen := g.len
  have hX : ξ.length = X.length := by
    simp [hl] at hlen
    omega
  -- the value ahead of the rest
  have hx : (G ++ x :: X)[G.length]? = some x := by rw [List.getElem?_append_right (Nat.le_refl _)]; simp
  have hv : (σ ++ some v :: ξ)[G.length]? = some (some v) := by rw [List.getElem?_append_right (by rw [hl]; exact Nat.le_refl _), hl]; simp
  have ix : ∀ j : Nat, j ≠ i → (G.set i x ++ X)[j]? = (G ++ x :: X)[if j < G.length then j else j + 1]? ∧ (σ.set i (some v) ++ ξ)[j]? = (σ ++ some v :: ξ)[if j < G.length then j else j + 1]? := fun j hj => by
    by_cases h : j < G.length
    · rw [if_pos h, List.getElem?_append_left (by rw [List.length_set]; exact h), List.getElem?_append_left h, List.getElem?_append_left (by rw [List.length_set, hl]; exact h), List.getElem?_append_left (by rw [hl]; exact h), List.getElem?_set_ne (Ne.symm hj), List.getElem?_set_ne (Ne.symm hj)]
      exact ⟨rfl, rfl⟩
    · rw [if_neg h, List.getElem?_append_right (by rw [List.length_set]; omega), List.getElem?_append_right (by omega), List.getElem?_append_right (by rw [List.length_set, hl]; omega), List.getElem?_append_right (by rw [hl]; omega), List.length_set, List.length_set, hl]
      have : j + 1 - G.length = (j - G.length) + 1 := by omega
      rw [this]
      exact ⟨by simp, by simp⟩
  have xi : (G.set i x ++ X)[i]? = some x ∧ (σ.set i (some v) ++ ξ)[i]? = some (some v) := by
    rw [List.getElem?_append_left (by rw [List.length_set]; exact hi), List.getElem?_append_left (by rw [List.length_set, hl]; exact hi)]
    exact ⟨List.getElem?_set_self hi, List.getElem?_set_self (by rw [hl]; exact hi)⟩
  refine ⟨g.sub, g.av, g.e0, g.e1, g.e2, g.rs, by simp [hl, hX], fun j y hy => ?_, fun a b p w w' hab ha hb h1 h2 => ?_⟩
  · by_cases hj : j = i
    · subst hj
      rw [xi.1] at hy
      cases hy
      rw [xi.2]
      have q := g.sl _ _ hx
      rw [hv] at q
      exact q
    · rw [(ix j hj).1] at hy
      rw [(ix j hj).2]
      exact g.sl _ _ hy
  · have key : ∀ (j : Nat) (w : OV), (G.set i x ++ X)[j]? = some (.own w) → (σ.set i (some v) ++ ξ)[j]? = some (some (.ref p)) →
        (G ++ x :: X)[if j = i then G.length else if j < G.length then j else j + 1]? = some (.own w) ∧ (σ ++ some v :: ξ)[if j = i then G.length else if j < G.length then j else j + 1]? = some (some (.ref p)) := fun j w q1 q2 => by
      by_cases hj : j = i
      · subst hj
        rw [if_pos rfl, hx, hv]
        rw [xi.1] at q1
        rw [xi.2] at q2
        exact ⟨q1, q2⟩
      · rw [if_neg hj, ← (ix j hj).1, ← (ix j hj).2]
        exact ⟨q1, q2⟩
    obtain ⟨a1, a2⟩ := key a w ha h1
    obtain ⟨b1, b2⟩ := key b w' hb h2
    refine g.ds _ _ p w w' ?_ a1 b1 a2 b2
    intro z
    by_cases e1 : a = i <;> by_cases e2 : b = i
    · exact hab (e1.trans e2.symm)
    · rw [if_pos e1, if_neg e2] at z
      split at z <;> omega
    · rw [if_neg e1, if_pos e2] at z
      split at z <;> omega
    · rw [if_neg e1, if_neg e2] at z
      split at z <;> split at z <;> omega
theorem tgo_names : ∀ {is : List Nat} {xs : List Sl} {G G' : List Sl}, TgO is xs G G' → ∀ s σ H0 H vs, σ.length = G.length → vs.length = xs.length → Good c (G ++ xs) s (σ ++ vs.map some) H0 H → ∀ Q : L2.St → Hp → Prop, (∀ σ', σ'.length = σ.length → Good c G' s σ' H0 H → Q σ' H) → gNames is vs σ H Q
  | _, _, _, _, .nil, s, σ, H0, H, vs, hl, hv, g, Q, q => by
    cases vs with
    | nil => exact ⟨rfl, q σ rfl (by simpa using g)⟩
    | cons _ _ => cases hv
  | _, _, _, _, .cons hi t, s, σ, H0, H, vs, hl, hv, g, Q, q => by
    cases vs with
    | nil => cases hv
    | cons v vs => exact ⟨_, _, rfl, tgo_names t s _ H0 H _ (by rw [List.length_set, List.length_set, hl]) (Nat.succ.inj hv) (g.take hl _ hi) Q fun σ' hl => q σ' (hl.trans (List.length_set ..))⟩
/-- a, b, c = e1, e2, e3 -/
theorem ws_asgO {ta : TA} {n : Nat} {is : List Nat} (h : WAO c ta G s fun xs s1 => xs.length = n ∧ n ≤ 100000 ∧ ∃ G', TgO is xs G G' ∧ P.nx G' s1) : WS c (tAsg (tTup ta) (gTup c.K n (gNames is))) G s P := fun σ H0 H g D e =>
  h σ ([], []) H0 H (Gd.of g) _ fun xs s1 vs H1 H1' hp g1 e1 hl => by
    obtain ⟨hn, hz, G', t, hp⟩ := hp
    have g2 : Good c (G ++ xs) s1 (σ ++ vs.map some) H1 H1' := by simpa using g1.gd
    refine ⟨by rw [hl, hn]; exact Nat.le_trans hz (by decide), fun p hp' => ⟨p, vs, rfl, .inl (.inl upd_same), hl.trans hn, ?_⟩⟩
    exact tgo_names t s1 σ H1 _ vs g1.ln hl (g2.push hp') _ fun σ' hs g3 => e.nx _ s1 σ' H1 _ hp g3 e1 (by rw [← g3.len, hs, g1.ln])
theorem ws_par {ta : TA} {i j : Nat} (hi : i < G.length) (hj : j < G.length) (h : WAO c ta G s fun xs s1 => ∃ x y, xs = [x, y] ∧ P.nx ((G.set i x).set j y) s1) : WS c (tPar i j ta) G s P := fun σ H0 H g D e =>
  h σ ([], []) H0 H (Gd.of g) _ fun xs s1 vs H1 H1' hp g1 e1 hl => by
    obtain ⟨x, y, rfl, hp⟩ := hp
    have g2 : Good c (G ++ [x, y]) s1 (σ ++ vs.map some) H1 H1' := by simpa using g1.gd
    match vs, hl, g2 with
    | [v, w], _, g2 =>
      refine ⟨v, w, rfl, e.nx _ s1 _ H1 H1' hp ?_ e1 (by rw [List.length_set, List.length_set])⟩
      have g3 := g2.take g1.ln i hi
      have g4 := g3.take (x := y) (X := []) (by rw [List.length_set, List.length_set, g1.ln]) j (by rw [List.length_set]; exact hj)
      simpa using g4
end
end DL
/-! DLd: promises of defs over data, their calls; loops; comprehensions -/
namespace DL
open PySem L2
/-- what comes back from a def: v in H', where the caller's heap was H -/
def ResOk (K : PySem.W.Frag) (B : Addr → Prop) (H H0' H' : Hp) (v : V) : Sl → Prop
  | .un => True
  | .dat d => Rep K H0' v d
  | .own w => ∃ p, v = .ref p ∧ H0' p = none ∧ H p = none ∧ ¬ B p ∧ ∃ u, H' p = some u ∧ OvOk K H0' p u w
/-- how the ground lies behind a call -/
structure Step {S : Type} (R : S → Hp → Hp → Prop) (B : Addr → Prop) (s' : S) (H0 H H0' H' : Hp) : Prop where
  ex : Same H0 H0'
  sub : Same H0' H'
  fr : ∀ a o, H a = some o → ¬ B a → H' a = some o
  nw : ∀ a, H a ≠ none → H0 a = none → H0' a = none
  av : ∀ a, B a → H0' a = none
  rs : R s' H0' H'
/-- the promise of a def at given data: P of what it hands back, XP of the errors that leave it -/
def SpOf (K : PySem.W.Frag) {S : Type} (R : S → Hp → Hp → Prop) (B : Addr → Prop) (ds : List D) (s : S) (P : Sl → S → Prop) (XP : Addr → D → S → Prop) : Sp := fun vs H Q E =>
  ∃ H0, Same H0 H ∧ (∀ a, B a → H0 a = none) ∧ RepAll K H0 vs ds ∧ R s H0 H ∧
    (∀ x s' v H0' H', P x s' → Step R B s' H0 H H0' H' → ResOk K B H H0' H' v x → Q v H') ∧
    (∀ C d s' v a H0' H', XP C d s' → Step R B s' H0 H H0' H' → (H a = none ∧ H' a = some (.xd [("value", v)])) → Rep K H0' v d → E (.ref C) (some a) H')
/-- a def that touches nothing -/
def noR : Unit → Hp → Hp → Prop := fun _ _ _ => True
def noB : Addr → Prop := fun _ => False
abbrev FSpec := List D → (Sl → Prop) → (Addr → D → Prop) → Prop
def PureSp (K : PySem.W.Frag) (f : FSpec) : Sp := fun vs H Q E => ∃ ds P XP, f ds P XP ∧ SpOf K noR noB ds () (fun x _ => P x) (fun C d _ => XP C d) vs H Q E
/-- a def that works on the object at the place of its first argument -/
structure Res where
  S : Type
  R : Addr → S → Hp → Hp → Prop
  B : Addr → Addr → Prop
  stab : ∀ p s H0 H H0' H', R p s H0 H → Same H0 H0' → (∀ a o, B p a → H a = some o → H' a = some o) → R p s H0' H'
  there : ∀ p s H0 H a, R p s H0 H → B p a → H a ≠ none
abbrev RSpec (r : Res) := Addr → List D → r.S → (Sl → r.S → Prop) → (Addr → D → r.S → Prop) → Prop
def ResSp (K : PySem.W.Frag) (r : Res) (f : RSpec r) : Sp := fun vs H Q E => ∃ p ds s P XP, f p ds s P XP ∧ SpOf K (r.R p) (r.B p) (.ref p :: ds) s P XP vs H Q E
section
variable {c : Ct} {G : List Sl} {s : c.S} {P : Sl → c.S → Prop}
/-- behind a call of a def that touches nothing -/
theorem Gd.stepPure {σ : L2.St} {F : Frm} {H0 H H0' H' : Hp} (g : Gd c G s σ F H0 H) (t : Step noR noB () H0 H H0' H') : Gd c G s σ F H0' H' :=
  ⟨g.ln, g.gd.ext t.ex t.sub (fun a o h => t.fr a o h (fun z => z)) t.nw fun a hb h => by
    exact absurd h (c.there _ _ _ _ g.gd.rs hb)⟩
theorem Gd.resPure {σ : L2.St} {F : Frm} {H0 H H0' H' : Hp} {v : V} {x : Sl} (g : Gd c G s σ F H0 H) (t : Step noR noB () H0 H H0' H') (r : ResOk c.K noB H H0' H' v x) : RO c G σ F H0' H' v x := by
  cases x with
  | un => trivial
  | dat d => exact r
  | own w =>
    obtain ⟨p, rfl, n0, n1, nb, u, hu, k⟩ := r
    obtain ⟨n2, n3, n4⟩ := g.gd.newE n1
    exact ⟨p, rfl, ⟨n0, n2, n3, u, hu, k⟩, g.gd.apart n1⟩
/-- the errors that a call may raise are such as the caller may raise; E is what is wanted of them -/
def XIn (c : Ct) (E : XK) (s : c.S) (XP : Addr → D → Prop) : Prop := (∀ C d, ¬ XP C d) ∨ (E = c.EX ∧ ∀ C d, XP C d → c.X C d s)
theorem we_callF {f : FSpec} {E : XK} {ta : TA} (h : WA c ta G s fun ds s1 => ∃ XP, XIn c E s1 XP ∧ f ds (fun x => P x s1) XP) : WE c (tCall (PureSp c.K f) [] E ta) G s P := fun σ F H0 H g Q q =>
  h σ F H0 H g _ fun ds s1 vs H1 H1' hp g1 e1 r1 => by
    obtain ⟨XP, hx, hf⟩ := hp
    refine ⟨ds, _, XP, hf, H1, g1.gd.sub, fun _ z => z.elim, by rw [List.append_nil]; exact r1, trivial, fun x s2 v H2 H2' hp t r => ?_, fun C d s2 v a H2 H2' hp t ha r => ?_⟩
    · exact q x s1 v H2 H2' hp (g1.stepPure t) (e1.trans t.ex) (g1.resPure t r)
    · rcases hx with hx | ⟨rfl, hx⟩
      · exact (hx C d hp).elim
      · have g2 := (g1.stepPure t).gd
        exact c.okX C d s1 v a H2 H2' (hx C d hp) g2.e0 g2.sub g2.e1 g2.e2 g2.av g2.rs ⟨(g1.gd.newE ha.1).1, ha.2⟩ r
/-- on the ground of the resource r at p -/
structure CtR (c : Ct) (r : Res) (p : Addr) (to : c.S → r.S) (put : c.S → r.S → c.S) : Prop where
  B : ∀ a, r.B p a → c.B a
  R : ∀ s H0 H, c.R s H0 H → r.R p (to s) H0 H
  back : ∀ s s' H0 H H0' H', c.R s H0 H → (∀ a, c.B a → H0 a = none) → Step (r.R p) (r.B p) s' H0 H H0' H' → c.R (put s s') H0' H' ∧ ∀ a, c.B a → H0' a = none
theorem we_callR {r : Res} {f : RSpec r} {E : XK} {ta : TA} {p : Addr} {to : c.S → r.S} {put : c.S → r.S → c.S} (hc : CtR c r p to put)
    (h : WA c ta G s fun ds s1 => ∃ es XP, ds = .ref p :: es ∧ ((∀ C d s', ¬ XP C d s') ∨ (E = c.EX ∧ ∀ C d s', XP C d s' → c.X C d (put s1 s'))) ∧ f p es (to s1) (fun x s2 => P x (put s1 s2)) XP) : WE c (tCall (ResSp c.K r f) [] E ta) G s P := fun σ F H0 H g Q q =>
  h σ F H0 H g _ fun ds s1 vs H1 H1' hp g1 e1 r1 => by
    obtain ⟨es, XP, rfl, hx, hf⟩ := hp
    have gg : ∀ s2 H2 H2', Step (r.R p) (r.B p) s2 H1 H1' H2 H2' → Gd c G (put s1 s2) σ F H2 H2' := fun s2 H2 H2' t =>
      ⟨g1.ln, g1.gd.go t.ex t.sub (hc.back s1 s2 _ _ _ _ g1.gd.rs g1.gd.av t).2 (fun a o h hb => t.fr a o h fun z => hb (hc.B a z)) t.nw (hc.back s1 s2 _ _ _ _ g1.gd.rs g1.gd.av t).1⟩
    refine ⟨p, es, to s1, _, XP, hf, H1, g1.gd.sub, fun a hb => g1.gd.av a (hc.B a hb), by rw [List.append_nil]; exact r1, hc.R _ _ _ g1.gd.rs, fun x s2 v H2 H2' hp t rr => ?_, fun C d s2 v a H2 H2' hp t ha rr => ?_⟩
    · refine q x _ v H2 H2' hp (gg s2 H2 H2' t) (e1.trans t.ex) ?_
      cases x with
      | un => trivial
      | dat d => exact rr
      | own w =>
        obtain ⟨a, rfl, n0, n1, nb, u, hu, k⟩ := rr
        obtain ⟨n2, n3, n4⟩ := g1.gd.newE n1
        exact ⟨a, rfl, ⟨n0, n2, n3, u, hu, k⟩, g1.gd.apart n1⟩
    · rcases hx with hx | ⟨rfl, hx⟩
      · exact (hx C d s2 hp).elim
      · have g2 := (gg s2 H2 H2' t).gd
        exact c.okX C d _ v a H2 H2' (hx C d s2 hp) g2.e0 g2.sub g2.e1 g2.e2 g2.av g2.rs ⟨(g1.gd.newE ha.1).1, ha.2⟩ rr
/-! ### what is walked -/
/-- the data that come, turn by turn -/
def Yd (c : Ct) (H0 : Hp) (its : List D) (i : Nat) (H1 : Hp) (x : V) (H2 : Hp) : Prop :=
  ∃ d, its[i]? = some d ∧ ∀ Ha, Same H0 Ha → Same Ha H1 → (H2 = H1 ∧ Rep c.K Ha x d) ∨ (∃ T xs ds, x = .ref T ∧ H1 T = none ∧ H2 = upd H1 T (.tup xs) ∧ RepAll c.K Ha xs ds ∧ d = .tup ds)
def WI (c : Ct) (ti : TI) (G : List Sl) (s : c.S) (P : List D → c.S → Prop) : Prop :=
  ∀ σ F H0 H, Gd c G s σ F H0 H → ∀ R : It → Hp → Prop,
    (∀ its s' J H0' H' Gw Y, P its s' → Gd c G s' σ F H0' H' → Same H0 H0' → Walk J its.length Gw Y → (∀ H0a Ha, Same H0' H0a → Same H0a Ha → Gw Ha) → (∀ i H1 x H2, i < its.length → Y i H1 x H2 → Yd c H0' its i H1 x H2) → R J H') → ti σ H R
/-- a turn's datum reaches the target -/
theorem tg_turn {g : TG} {d : D} {G' : List Sl} {σ : L2.St} {F : Frm} {H0 H0a H1 H2 : Hp} {its : List D} {i : Nat} {x : V} {is : List Nat} (t : Tg c g is d G G') (hd : its[i]? = some d) (y : Yd c H0 its i H1 x H2) (e : Same H0 H0a) (gd : Gd c G s σ F H0a H1)
    {Q : L2.St → Hp → Prop} (q : ∀ σ' H0', σ'.length = σ.length → (∀ j : Nat, j ∉ is → σ'[j]? = σ[j]?) → Gd c G' s σ' F H0' H2 → Same H0a H0' → Q σ' H2) : g x σ H2 Q := by
  obtain ⟨d', hd', k⟩ := y
  rw [hd] at hd'
  cases hd'
  rcases k H0a e gd.gd.sub with ⟨rfl, r⟩ | ⟨T, xs, ds, rfl, hT, rfl, ra, rfl⟩
  · exact t s σ F H0a _ x gd r Q fun σ' hl hk g' => q σ' H0a hl hk g' (Same.refl _)
  · obtain ⟨g2, e2⟩ := gd.lay (o := .tup xs) hT
    exact t s σ F _ _ (.ref T) g2 (.tup (.inl (.inl upd_same)) (ra.mono e2)) Q fun σ' hl hk g' => q σ' _ hl hk g' e2
theorem ws_for {ti : TI} {g : TG} {tb : TS} {P : Ds c.S} (h : WI c ti G s fun its s1 => ∃ I : Nat → List Sl → c.S → Prop, I 0 G s1 ∧
      (∀ i d Gi si, its[i]? = some d → Gi.length = G.length → I i Gi si → ∃ is G', Tg c g is d Gi G' ∧ WS c tb G' si { nx := I (i + 1), ct := I (i + 1), bk := P.nx, rt := P.rt }) ∧
      ∀ Gn sn, Gn.length = G.length → I its.length Gn sn → P.nx Gn sn) : WS c (tFor ti g tb) G s P := fun σ H0 H gd D e =>
  h σ ([], []) H0 H (Gd.of gd) _ fun its s1 J H1 H1' Gw Y hp g1 e1 w hG hY => by
    obtain ⟨I, h0, hs, hd⟩ := hp
    refine for_it w (fun i σ' H' => ∃ Gi si H0a, I i Gi si ∧ Gi.length = G.length ∧ Same H1 H0a ∧ Good c Gi si σ' H0a H') ⟨G, s1, H1, h0, rfl, Same.refl _, g1.to⟩ (fun i σ' H' _ p => ?_) (fun i x σ' Hb H2 hi p y => ?_) fun σ' H' p => ?_
    · obtain ⟨Gi, si, H0a, _, _, ea, ga⟩ := p
      exact hG H0a H' ea ga.sub
    · obtain ⟨Gi, si, H0a, hI, hgl, ea, ga⟩ := p
      have yy := hY i Hb x H2 hi y
      obtain ⟨d, hd', _⟩ := id yy
      obtain ⟨is, G', t, hb⟩ := hs i d Gi si hd' hgl hI
      refine tg_turn t hd' yy ea (Gd.of ga) fun σ2 H0b hl _ gb eb => ?_
      have hl' : G'.length = G.length := by rw [← gb.ln, hl, ga.len, hgl]
      have nx : ∀ Gn sn σ3 H3 H3', I (i + 1) Gn sn → Good c Gn sn σ3 H3 H3' → Same H0b H3 → Gn.length = G'.length → ∃ Gi si H0a, I (i + 1) Gi si ∧ Gi.length = G.length ∧ Same H1 H0a ∧ Good c Gi si σ3 H0a H3' := fun Gn sn σ3 H3 H3' hn gn e3 hl3 =>
        ⟨Gn, sn, H3, hn, hl3.trans hl', (ea.trans eb).trans e3, gn⟩
      exact hb σ2 H0b H2 gb.to _ ⟨nx, e.rt, fun Gn sn σ3 H3 H3' hn gn e3 hl3 => e.nx Gn sn σ3 H3 H3' hn gn (((e1.trans ea).trans eb).trans e3) (hl3.trans hl'), nx⟩
    · obtain ⟨Gi, si, H0a, hI, hgl, ea, ga⟩ := p
      exact e.nx Gi si σ' H0a H' (hd Gi si hgl hI) ga (e1.trans ea) hgl
/-! ### what is walked: lists, tuples, ranges, texts, enumerate, zip -/
theorem wi_list {tl : TE} {P : List D → c.S → Prop} (h : WE c tl G s (FZ fun d s1 => ∃ ds, d = .lst ds ∧ P ds s1)) : WI c (iList c.K tl) G s P := fun σ F H0 H g R q =>
  h.use g fun d s1 v H1 H1' hp g1 e1 r1 => by
    obtain ⟨ds, rfl, hp⟩ := hp
    cases r1 with
    | lst ha ra =>
      rename_i a xs
      have w := walk_list (K := c.K) (a := a) (xs := xs)
      rw [ra.len] at w
      refine ⟨a, rfl, ⟨xs, .inl (.inl (g1.gd.sub _ _ ha))⟩, q ds s1 _ H1 H1' _ _ hp g1 e1 w (fun H0a Ha k1 k2 => .inl (.inl (k2 _ _ (k1 _ _ ha)))) fun i Hb x H2 hi y => ?_⟩
      obtain ⟨rfl, hx⟩ := y
      obtain ⟨d, hd, r⟩ := ra.getV hx
      exact ⟨d, hd, fun Hc k1 k2 => .inl ⟨rfl, r.mono k1⟩⟩
theorem wi_tup {tl : TE} {P : List D → c.S → Prop} (h : WE c tl G s (FZ fun d s1 => ∃ ds, d = .tup ds ∧ P ds s1)) : WI c (iTup c.K tl) G s P := fun σ F H0 H g R q =>
  h.use g fun d s1 v H1 H1' hp g1 e1 r1 => by
    obtain ⟨ds, rfl, hp⟩ := hp
    cases r1 with
    | tup ha ra =>
      rename_i a xs
      have w := walk_tup (K := c.K) (a := a) (xs := xs)
      rw [ra.len] at w
      refine ⟨a, rfl, ⟨xs, same_t g1.gd.sub ha⟩, q ds s1 _ H1 H1' _ _ hp g1 e1 w (fun H0a Ha k1 k2 => same_t (k1.trans k2) ha) fun i Hb x H2 hi y => ?_⟩
      obtain ⟨rfl, hx⟩ := y
      obtain ⟨d, hd, r⟩ := ra.getV hx
      exact ⟨d, hd, fun Hc k1 k2 => .inl ⟨rfl, r.mono k1⟩⟩
def rangeD (lo : Int) (n : Nat) : List D := (List.range n).map fun (i : Nat) => D.int (lo + (i : Int))
theorem rangeD_len (lo : Int) (n : Nat) : (rangeD lo n).length = n := by simp [rangeD]
theorem rangeD_get {lo : Int} {n i : Nat} {d : D} (h : (rangeD lo n)[i]? = some d) : i < n ∧ d = .int (lo + (i : Int)) := by
  unfold rangeD at h
  rw [List.getElem?_map] at h
  by_cases hi : i < n
  · rw [List.getElem?_range hi] at h
    cases h
    exact ⟨hi, rfl⟩
  · rw [List.getElem?_eq_none (by simp; omega)] at h
    cases h
theorem rangeD_at {lo : Int} {n i : Nat} (h : i < n) : (rangeD lo n)[i]? = some (.int (lo + (i : Int))) := by
  unfold rangeD
  rw [List.getElem?_map, List.getElem?_range h]
  rfl
theorem wi_range1 {ta : TA} {P : List D → c.S → Prop} (h : WA c ta G s fun ds s1 => ∃ n : Int, ds = [.int n] ∧ -1000000000 ≤ n ∧ n ≤ 1000000000 ∧ P (rangeD 0 n.toNat) s1) : WI c (iRng1 ta) G s P := fun σ F H0 H g R q =>
  h σ F H0 H g _ fun ds s1 vs H1 H1' hp g1 e1 r1 => by
    obtain ⟨n, rfl, h1, h2, hp⟩ := hp
    cases r1 with
    | cons r rs =>
      cases r
      cases rs
      have w := walk_range (lo := 0) (n := n.toNat)
      refine ⟨n, rfl, by omega, by omega, q _ s1 _ H1 H1' _ _ hp g1 e1 (by rw [rangeD_len]; exact w) (fun _ _ _ _ => trivial) fun i Hb x H2 hi y => ?_⟩
      obtain ⟨rfl, rfl⟩ := y
      rw [rangeD_len] at hi
      exact ⟨_, rangeD_at hi, fun Hc k1 k2 => .inl ⟨rfl, .int _⟩⟩
/-! ### list comprehensions -/
def unAll (G : List Sl) : List Nat → List Sl
  | [] => G
  | v :: vs => (unAll G vs).set v .un
theorem Good.wipe {σ : L2.St} {H0 H : Hp} {X : List Sl} {ξ : L2.St} (hl : σ.length = G.length) : ∀ {vs : List Nat}, Good c (G ++ X) s (σ ++ ξ) H0 H → Good c (unAll G vs ++ X) s (L2.wipe σ vs ++ ξ) H0 H ∧ (unAll G vs).length = G.length ∧ (L2.wipe σ vs).length = σ.length
  | [], g => ⟨g, rfl, rfl⟩
  | v :: vs, g => by
    obtain ⟨g1, l1, l2⟩ := Good.wipe hl (vs := vs) g
    refine ⟨?_, by show ((unAll G vs).set v .un).length = _; rw [List.length_set, l1], by show ((L2.wipe σ vs).set v none).length = _; rw [List.length_set, l2]⟩
    show Good c ((unAll G vs).set v .un ++ X) s ((L2.wipe σ vs).set v none ++ ξ) H0 H
    by_cases hv : v < G.length
    · rw [← List.set_append_left _ _ (by rw [l1]; exact hv), ← List.set_append_left _ _ (by rw [l2, hl]; exact hv)]
      have g2 := g1.forget v
      refine ⟨g2.sub, g2.av, g2.e0, g2.e1, g2.e2, g2.rs, by rw [List.length_set]; exact g2.len, fun j y hy => ?_, fun a b p w w' hab ha hb h1 h2 => ?_⟩
      · have q := g2.sl j y hy
        by_cases hj : v = j
        · subst hj
          rw [List.getElem?_set] at hy
          rw [if_pos rfl] at hy
          split at hy
          · cases hy
            trivial
          · cases hy
        · rw [List.getElem?_set_ne hj]
          exact q
      · have ne : ∀ j w, ((unAll G vs ++ X).set v .un)[j]? = some (.own w) → v ≠ j := fun j w hj z => by
          subst z
          rw [List.getElem?_set, if_pos rfl] at hj
          split at hj <;> cases hj
        rw [List.getElem?_set_ne (ne a w ha)] at h1
        rw [List.getElem?_set_ne (ne b w' hb)] at h2
        exact g2.ds a b p w w' hab ha hb h1 h2
    · rw [List.set_eq_of_length_le (by rw [l1]; omega), List.set_eq_of_length_le (by rw [l2, hl]; omega)]
      exact g1
theorem Good.unwipe {σ σ2 : L2.St} {s' : c.S} {H0' H' : Hp} {X : List Sl} {ξ : L2.St} {vs : List Nat} (hl : σ.length = G.length) (hG : unAll G vs = G) (hs : L2.wipe σ2 vs = L2.wipe σ vs) (g : Good c (unAll G vs ++ X) s' (L2.wipe σ vs ++ ξ) H0' H') : Good c (G ++ X) s' (σ ++ ξ) H0' H' := by
  have un : ∀ j : Nat, ∀ x, G[j]? = some x → x ≠ .un → j ∉ vs := fun j x hx hne => by
    rw [← hG] at hx
    intro hj
    have : ∀ us : List Nat, j ∈ us → (unAll G us)[j]? = some x → False := fun us => by
      induction us with
      | nil => intro h; cases h
      | cons u us ih =>
        intro hm he
        change ((unAll G us).set u .un)[j]? = some x at he
        by_cases hu : u = j
        · subst hu
          rw [List.getElem?_set, if_pos rfl] at he
          split at he
          · cases he
            exact hne rfl
          · cases he
        · rw [List.getElem?_set_ne hu] at he
          rcases List.mem_cons.mp hm with e | e
          · exact hu e.symm
          · exact ih e he
    exact this vs hj hx
  have wi : ∀ j : Nat, j ∉ vs → (L2.wipe σ vs)[j]? = σ[j]? := fun j hj => by
    clear hs g hG un
    induction vs with
    | nil => rfl
    | cons u us ih =>
      show ((L2.wipe σ us).set u none)[j]? = _
      rw [List.getElem?_set_ne (fun z => hj (by subst z; exact List.mem_cons_self ..))]
      exact ih fun z => hj (List.mem_cons_of_mem _ z)
  rw [hG] at g
  have hw : (L2.wipe σ vs).length = σ.length := L2.wipe_length σ vs
  have same : ∀ (j : Nat) (x : Sl), (G ++ X)[j]? = some x → x ≠ .un → (L2.wipe σ vs ++ ξ)[j]? = (σ ++ ξ)[j]? := fun j x hx hne => by
    by_cases h : j < G.length
    · rw [List.getElem?_append_left h] at hx
      rw [List.getElem?_append_left (by rw [hw, hl]; exact h), List.getElem?_append_left (by rw [hl]; exact h)]
      exact wi j (un j x hx hne)
    · rw [List.getElem?_append_right (by rw [hw, hl]; omega), List.getElem?_append_right (by rw [hl]; omega), hw]
  refine ⟨g.sub, g.av, g.e0, g.e1, g.e2, g.rs, by have := g.len; simp [hw] at this ⊢; exact this, fun j y hy => ?_, fun a b p w w' hab ha hb h1 h2 => ?_⟩
  · have q := g.sl j y hy
    cases y with
    | un => trivial
    | dat d =>
      rw [same j _ hy (fun z => nomatch z)] at q
      exact q
    | own w =>
      rw [same j _ hy (fun z => nomatch z)] at q
      exact q
  · refine g.ds a b p w w' hab ha hb ?_ ?_
    · rw [same a _ ha (fun z => nomatch z)]
      exact h1
    · rw [same b _ hb (fun z => nomatch z)]
      exact h2
theorem wipe_out (σ : L2.St) {j : Nat} : ∀ {vs : List Nat}, j ∉ vs → (L2.wipe σ vs)[j]? = σ[j]?
  | [], _ => rfl
  | u :: us, hj => by
    show ((L2.wipe σ us).set u none)[j]? = _
    rw [List.getElem?_set_ne (fun z => hj (by subst z; exact List.mem_cons_self ..))]
    exact wipe_out σ fun z => hj (List.mem_cons_of_mem _ z)
/-- a list comprehension, by a word I of the turn, what is made so far, the object -/
theorem we_lc {ti : TI} {g : TG} {tt : TT} {te : TE} {vs : List Nat} (hG : unAll G vs = G) (h : WI c ti G s fun its s1 => its.length ≤ 1000000 ∧ ∃ I : Nat → List D → c.S → Prop, I 0 [] s1 ∧
      (∀ i d acc si, its[i]? = some d → acc.length ≤ i → I i acc si → ∃ is G', Tg c g is d G G' ∧ (∀ i ∈ is, i ∈ vs) ∧ unAll G' vs = G ∧ WT c tt G' si fun b s2 => if b = true then WE c te G' s2 (FZ fun y s3 => I (i + 1) (acc ++ [y]) s3) else I (i + 1) acc s2) ∧
      ∀ acc sn, acc.length ≤ its.length → I its.length acc sn → P (.own (.lst acc)) sn) : WE c (tLc ti g tt te vs) G s P := fun σ F H0 H gd Q q =>
  h σ F H0 H gd _ fun its s1 J H1 H1' Gw Y hp g1 e1 w hGw hY Dl hD => by
    obtain ⟨hz, I, h0, hs, hd⟩ := hp
    have wl := g1.gd.wipe g1.ln (vs := vs)
    refine lc_it w (fun i H' => ∃ acc si H0a us, i ≤ its.length ∧ I i acc si ∧ acc.length ≤ i ∧ Same H1 H0a ∧ Gd c G si σ F H0a H' ∧ H' Dl = some (.lst us) ∧ RepAll c.K H0a us acc ∧ Own c H0a H' Dl (.lst acc) ∧ Apart (G ++ F.1) (σ ++ F.2) Dl) ?_ (fun i H' _ p => ?_) (fun i x Hb H2 hi p y => ?_) fun H' p => ?_
    · obtain ⟨r1, r2, r3⟩ := g1.rok (u := .lst []) (w := .lst []) hD RepAll.nil
      cases r2
      exact ⟨[], s1, H1, [], Nat.zero_le _, h0, Nat.le_refl _, Same.refl _, g1.push hD, upd_same, .nil, r3.1, r3.2⟩
    · obtain ⟨acc, si, H0a, us, _, _, _, ea, ga, _⟩ := p
      exact hGw H0a H' ea ga.gd.sub
    · obtain ⟨acc, si, H0a, us, hle, hI, hal, ea, ga, hDl, hus, own, ap⟩ := p
      have yy := hY i Hb x H2 hi y
      obtain ⟨d, hd', _⟩ := id yy
      obtain ⟨is, G', t, his, hG', hb⟩ := hs i d acc si hd' hal hI
      -- the names of the comprehension are forgotten; the new list is kept beside the names
      have gm := ga.more (x := .own (.lst acc)) (v := .ref Dl) ⟨Dl, rfl, own, ap⟩
      have gw : Gd c G si (L2.wipe σ vs) (F.1 ++ [.own (.lst acc)], F.2 ++ [some (.ref Dl)]) H0a Hb := by
        have q := gm.gd.wipe gm.ln (vs := vs)
        rw [hG] at q
        exact ⟨by rw [q.2.2, ga.ln], q.1⟩
      refine tg_turn t hd' yy ea gw fun σ2 H0b hl2 hk gb eb => ?_
      have hw : L2.wipe σ2 vs = L2.wipe σ vs := by
        apply List.ext_getElem?
        intro j
        by_cases hj : j ∈ vs
        · have e0 : ∀ τ : L2.St, τ.length = σ.length → (L2.wipe τ vs)[j]? = if j < σ.length then some none else none := fun τ hτ => by
            by_cases h : j < σ.length
            · rw [if_pos h]
              cases hq : (L2.wipe τ vs)[j]? with
              | none =>
                rw [List.getElem?_eq_none_iff, L2.wipe_length] at hq
                omega
              | some o =>
                cases o with
                | none => rfl
                | some x => exact absurd hj (L2.wipe_some hq).2
            · rw [if_neg h, List.getElem?_eq_none_iff, L2.wipe_length]
              omega
          rw [e0 σ2 (by rw [hl2, L2.wipe_length]), e0 σ rfl]
        · rw [wipe_out σ2 hj, wipe_out σ hj, hk j (fun z => hj (his j z)), wipe_out σ hj]
      -- what stands behind the target
      have back : ∀ s2 H3 H3', Gd c G' s2 σ2 (F.1 ++ [.own (.lst acc)], F.2 ++ [some (.ref Dl)]) H3 H3' → Gd c G s2 σ (F.1 ++ [.own (.lst acc)], F.2 ++ [some (.ref Dl)]) H3 H3' := fun s2 H3 H3' g3 => by
        have q := g3.gd.wipe g3.ln (vs := vs)
        refine ⟨ga.ln, Good.unwipe ga.ln hG hw ?_⟩
        have q1 := q.1
        rw [hG', hw] at q1
        rw [hG]
        exact q1
      have fin : ∀ s2 H3 H3' acc' u, Gd c G s2 σ (F.1 ++ [.own (.lst acc)], F.2 ++ [some (.ref Dl)]) H3 H3' → Same H1 H3 → RepAll c.K H3 u acc' → acc'.length ≤ i + 1 → I (i + 1) acc' s2 →
          ∃ acc si H0a us, i + 1 ≤ its.length ∧ I (i + 1) acc si ∧ acc.length ≤ i + 1 ∧ Same H1 H0a ∧ Gd c G si σ F H0a (upd H3' Dl (.lst u)) ∧ (upd H3' Dl (.lst u)) Dl = some (.lst us) ∧ RepAll c.K H0a us acc ∧ Own c H0a (upd H3' Dl (.lst u)) Dl (.lst acc) ∧ Apart (G ++ F.1) (σ ++ F.2) Dl := fun s2 H3 H3' acc' u g3 e3 ru hl hI' => by
        have o3 := g3.gd.ownAt (i := (G ++ F.1).length) (w := .lst acc) (by rw [← List.append_assoc, List.getElem?_append_right (Nat.le_refl _)]; simp)
        obtain ⟨p, hp, o3⟩ := o3
        have hpD : p = Dl := by
          have l1 : (G ++ F.1).length = (σ ++ F.2).length := by rw [List.length_append, List.length_append, ga.ln, ga.fl]
          rw [l1, ← List.append_assoc, List.getElem?_append_right (Nat.le_refl _)] at hp
          simp at hp
          exact hp.symm
        subst hpD
        obtain ⟨n0, n1, nb, _, _, _⟩ := o3
        have g4 : Gd c G s2 σ F H3 (upd H3' p (.lst u)) := by
          have gl := g3.less ga.fl
          refine ⟨gl.ln, ?_⟩
          have gg := gl.gd
          have kk : ∀ a o, H3' a = some o → a ≠ p → upd H3' p (.lst u) a = some o := fun a o h hn => by rw [upd_ne hn]; exact h
          refine ⟨fun a o h => kk a o (gg.sub a o h) (fun z => by subst z; rw [n0] at h; cases h), gg.av, gg.e0, fun a o h hb => kk a o (gg.e1 a o h hb) (fun z => by subst z; rw [n1] at h; cases h), gg.e2,
            c.stab _ _ _ _ _ gg.rs (Same.refl _) (fun a o hb h => kk a o h (fun z => by subst z; exact nb hb)), gg.len, fun j y hy => ?_, gg.ds⟩
          have q := gg.sl j y hy
          cases y with
          | un => trivial
          | dat d => exact q
          | own w =>
            obtain ⟨r, hr, o⟩ := q
            refine ⟨r, hr, o.step (Same.refl _) o.1 fun o' h => kk r o' h fun z => ?_⟩
            subst z
            refine ap j w hy ?_
            cases hs : (σ ++ F.2)[j]? with
            | none =>
              rw [hs] at hr
              cases hr
            | some y =>
              rw [hs] at hr
              exact congrArg some hr
        exact ⟨acc', s2, H3, u, hi, hI', hl, e3, g4, upd_same, ru, ⟨n0, n1, nb, _, upd_same, ru⟩, ap⟩
      refine ⟨hw, hb σ2 _ H0b H2 gb _ fun b s2 H3 H3' hp3 g3 e3 => ?_⟩
      cases b with
      | true =>
        refine iteT ?_
        refine (show WE c te G' s2 (FZ fun y s3 => I (i + 1) (acc ++ [y]) s3) from hp3).use g3 fun y s4 v H4 H4' hp4 g4 e4 r4 => ?_
        have gB := back s4 H4 H4' g4
        have o4 := gB.gd.ownAt (i := (G ++ F.1).length) (w := .lst acc) (by rw [← List.append_assoc, List.getElem?_append_right (Nat.le_refl _)]; simp)
        obtain ⟨p, hpp, n0, n1, nb, u, hu, ku⟩ := o4
        have hpD : p = Dl := by
          have l1 : (G ++ F.1).length = (σ ++ F.2).length := by rw [List.length_append, List.length_append, ga.ln, ga.fl]
          rw [l1, ← List.append_assoc, List.getElem?_append_right (Nat.le_refl _)] at hpp
          simp at hpp
          exact hpp.symm
        subst hpD
        cases u with
        | lst u =>
          have ku' : RepAll c.K H4 u acc := ku
          refine ⟨u, hu, ?_, fin s4 H4 H4' (acc ++ [y]) (u ++ [v]) gB (((ea.trans eb).trans e3).trans e4) (ku'.app (.cons r4 .nil)) (by rw [List.length_append]; simp; omega) hp4⟩
          rw [ku'.len]
          exact Nat.lt_of_le_of_lt (Nat.le_trans hal (Nat.le_trans (Nat.le_of_lt hi) hz)) (by decide)
        | _ => exact False.elim ku
      | false =>
        refine iteF ?_
        have gB := back s2 H3 H3' g3
        have o4 := gB.gd.ownAt (i := (G ++ F.1).length) (w := .lst acc) (by rw [← List.append_assoc, List.getElem?_append_right (Nat.le_refl _)]; simp)
        obtain ⟨p, hpp, n0, n1, nb, u, hu, ku⟩ := o4
        have hpD : p = Dl := by
          have l1 : (G ++ F.1).length = (σ ++ F.2).length := by rw [List.length_append, List.length_append, ga.ln, ga.fl]
          rw [l1, ← List.append_assoc, List.getElem?_append_right (Nat.le_refl _)] at hpp
          simp at hpp
          exact hpp.symm
        subst hpD
        cases u with
        | lst u =>
          have q := fin s2 H3 H3' acc u gB ((ea.trans eb).trans e3) ku (by omega) hp3
          have e : upd H3' p (.lst u) = H3' := by
            funext a
            by_cases h : a = p
            · rw [h, upd_same, hu]
            · rw [upd_ne h]
          rw [e] at q
          exact q
        | _ => exact False.elim ku
    · obtain ⟨acc, si, H0a, us, _, hI, hal, ea, ga, hDl, hus, own, ap⟩ := p
      exact q _ si _ H0a H' (hd acc si hal hI) ga (e1.trans ea) ⟨Dl, rfl, own, ap⟩
end
end DL
/-! DLe: operators and calls by any data; the rule for a def -/
namespace DL
open PySem PySem.Spec PyProof.Rows L2
/-! ### data as the library's own -/
mutual
def D.py : D → PyData
  | .non => .none
  | .bl b => .bool b
  | .int i => .int i
  | .str x => .str x
  | .tup ds => .tuple (D.pys ds)
  | .lst ds => .list (D.pys ds)
  | .ref _ => .none
def D.pys : List D → List PyData
  | [] => []
  | d :: ds => d.py :: D.pys ds
end
mutual
def D.plain : D → Bool
  | .tup ds => D.plains ds
  | .lst ds => D.plains ds
  | .ref _ => false
  | _ => true
def D.plains : List D → Bool
  | [] => true
  | d :: ds => d.plain && D.plains ds
end
mutual
theorem Rep.dp {K : PySem.W.Frag} {H0 H : Hp} (e : Same H0 H) : ∀ {v : V} {d : D}, Rep K H0 v d → d.plain = true → Dp K H v d.py
  | _, _, .non, _ => .non
  | _, _, .bl b, _ => .bl b
  | _, _, .int i, _ => .int i
  | _, _, .str x, _ => .str x
  | _, _, .ref a, h => nomatch h
  | _, _, .tup h r, p => .tup (same_t e h) (RepAll.dp e r p)
  | _, _, .lst h r, p => .lst (.inl (.inl (e _ _ h))) (RepAll.dp e r p)
theorem RepAll.dp {K : PySem.W.Frag} {H0 H : Hp} (e : Same H0 H) : ∀ {vs : List V} {ds : List D}, RepAll K H0 vs ds → D.plains ds = true → DpAll K H vs (D.pys ds)
  | _, _, .nil, _ => .nil
  | _, _, .cons r t, p => by
    have q : (_ && _) = true := p
    rw [Bool.and_eq_true] at q
    exact .cons (Rep.dp e r q.1) (RepAll.dp e t q.2)
end
section
variable {X : Cx}
theorem orR {f : Value → Value → Sem Value} {r r' : R2} (h : OpR X f r) (h' : OpR X f r') : OpR X f (fun x y H Q => r x y H Q ∨ r' x y H Q) := fun pins s σ H x y v u Q I rx ry q => q.elim (h pins s σ H x y v u Q I rx ry) (h' pins s σ H x y v u Q I rx ry)
def qLen (K : PySem.W.Frag) : List V → Hp → VK → Prop := fun xs H Q => ∃ x n, xs = [x] ∧ LenV K x H n ∧ Q (.int n) H
/-- s * n -/
theorem foldl_rep (cs : Array Nat) : ∀ (m : Nat) (acc : Array Nat), ((List.replicate m cs).foldl (· ++ ·) acc).toList = acc.toList ++ (List.replicate m cs.toList).flatten
  | 0, acc => by simp
  | m + 1, acc => by
    rw [List.replicate_succ, List.foldl_cons, foldl_rep cs m]
    simp [List.replicate_succ]
def repS (x : Str) (n : Int) : Str := ⟨(List.replicate n.toNat x.cps.toList).flatten.toArray⟩
def rRepS : R2 := fun x y H Q => ∃ z n, x = .str z ∧ y = .int n ∧ n ≤ 1000 ∧ -1000 ≤ n ∧ z.length ≤ 1000 ∧ Q (.str (repS z n)) H
theorem op_repS : OpR X (binaryOp .Mult) rRepS := by
  intro pins s σ H x y v u Q I rx ry h
  obtain ⟨z, n, rfl, rfl, h1, h0, h2, q⟩ := h
  obtain ⟨t, rfl⟩ := rx
  obtain ⟨t', rfl⟩ := ry
  have fin : ∀ (y : Str) (tk : Nat), y = repS z n → EP X pins σ Q (.str y tk) { s with toks := tk + 1 } := fun y tk e => by
    subst e
    exact ⟨.str _, H, I.tok _, ⟨_, rfl⟩, q⟩
  have e1 : n < 1 → repS z n = Str.empty := fun hn => by
    have : n.toNat = 0 := by omega
    unfold repS
    rw [this]
    rfl
  refine PySem.P.mul_str (by
      have a1 : ¬ n < -(2 ^ 63 : Int) := by omega
      have a2 : ¬ n ≥ 2 ^ 63 := by omega
      rw [decide_eq_false a1, decide_eq_false a2]; rfl) (fun hn _ => ?_) (fun hn _ => ?_) ?_
  · have : (1000 : Int) ≤ (2 ^ 63 - 1) / n := by
      apply Int.le_ediv_of_mul_le (by omega)
      omega
    omega
  · have a : z.length * n.toNat ≤ 1000 * 1000 := Nat.mul_le_mul h2 (by omega)
    unfold PySem.Builtin.Str.tooLong
    have hs : sizeLine = 16777216 := sizeLine_eq
    rw [hs]
    exact decide_eq_false (by omega)
  · by_cases hn : n < 1
    · rw [if_pos hn]
      exact ⟨by decide, fin _ _ (e1 hn).symm⟩
    · rw [if_neg hn]
      by_cases hq : (n == 1 || z.length == 0) = true
      · rw [if_pos hq]
        refine ⟨.str z, H, I, ⟨t, rfl⟩, ?_⟩
        have : repS z n = z := by
          unfold repS
          rw [Bool.or_eq_true] at hq
          rcases hq with hq | hq
          · have : n = 1 := by simpa using hq
            subst this
            simp
          · have : z.cps.toList = [] := by
              have hz : z.cps.size = 0 := by simpa [PySem.Str.length] using hq
              simpa using hz
            rw [this]
            have fl : ∀ m : Nat, (List.replicate m ([] : List Nat)).flatten = [] := fun m => by simp
            rw [fl]
            cases z with
            | mk cs =>
              have : cs = #[] := by simpa using this
              rw [this]
        rw [← this]
        exact q
      · rw [if_neg hq]
        have e : (⟨(List.replicate n.toNat z.cps).foldl (· ++ ·) #[]⟩ : Str) = repS z n := by
          unfold repS
          congr 1
          apply Array.toList_inj.mp
          rw [foldl_rep]
          simp
        refine ⟨?_, fin _ _ e⟩
        rw [e]
        unfold repS PySem.Str.length
        have a : z.length * n.toNat ≤ 1000 * 1000 := Nat.mul_le_mul h2 (by omega)
        have b : ((List.replicate n.toNat z.cps.toList).flatten.toArray).size = n.toNat * z.length := by simp [PySem.Str.length]
        rw [b, Nat.mul_comm]
        exact Nat.le_trans a (by decide)
/-- i ** n, a great i -/
def CPw (i j : Int) : Prop := 0 ≤ j ∧ (Builtin.Int.intBits i : Int) * j ≤ 2 ^ 27
theorem op_powB : OpR X (binaryOp .Pow) (rI CPw fun i j => .int (i ^ j.toNat)) := opI fun _ _ _ _ _ _ _ hc q => PyProof.Rows.pow_int hc.1 hc.2 q
def qAdd (K : PySem.W.Frag) : R2 := fun x y H Q => (rI0 (fun i j => .int (i + j)) x y H Q ∨ ∃ i j, x = .str i ∧ y = .str j ∧ i.length + j.length ≤ sizeLine ∧ Q (.str (i ++ j)) H) ∨ (rCat x y H Q ∨ rCatA K x y H Q)
theorem op_addQ : OpR X (binaryOp .Add) (qAdd X.K) := orR (orR op_add op_add_str) (orR op_cat op_catA)
def qMul : R2 := fun x y H Q => rI CMulW (fun i j => .int (i * j)) x y H Q ∨ (rRepS x y H Q ∨ rRep x y H Q)
theorem op_mulQ : OpR X (binaryOp .Mult) qMul := orR op_mulW (orR op_repS op_rep)
def qEq (K : PySem.W.Frag) : R2 := fun x y H Q => rEq x y H Q ∨ rEqD K x y H Q
theorem op_eqQ (hu : X.A.units + 64 < cLine) : OpR X (compareOp .Eq) (qEq X.K) := orR op_eq (op_eqD hu)
def qNe (K : PySem.W.Frag) : R2 := fun x y H Q => rNe x y H Q ∨ rNeD K x y H Q
theorem op_neQ (hu : X.A.units + 64 < cLine) : OpR X (compareOp .NotEq) (qNe X.K) := orR op_ne (op_neD hu)
def qLt : R2 := fun x y H Q => rI0 (fun i j => .bl (decide (i < j))) x y H Q ∨ ∃ i j, x = .str i ∧ y = .str j ∧ Q (.bl (decide (i.cps.toList < j.cps.toList))) H
theorem op_ltQ : OpR X (compareOp .Lt) qLt := orR op_lt op_lt_str
def qLe : R2 := fun x y H Q => rI0 (fun i j => .bl (decide (i ≤ j))) x y H Q ∨ ∃ i j, x = .str i ∧ y = .str j ∧ Q (.bl (!decide (j.cps.toList < i.cps.toList))) H
/-- one sign in a text; a plain thing in a list or tuple; any data in a list -/
def qIn (K : PySem.W.Frag) : R2 := fun x y H Q => (∃ (c : Nat) (z : Str), x = .str ⟨#[c]⟩ ∧ y = .str z ∧ Q (.bl (decide (c ∈ z.cps.toList))) H) ∨ ((∃ i j, x = .str i ∧ y = .str j ∧ Q (.bl (!(Builtin.Str.occurrences j i 0 j.length 1).isEmpty)) H) ∨ (rIn K false x y H Q ∨ rInD K x y H Q))
theorem op_inQ (hu : X.A.units + 65 < cLine) : OpR X (compareOp .In) (qIn X.K) := orR op_in_sign (orR op_in_str (orR op_in_seq (op_inD hu)))
def qSl (K : PySem.W.Frag) : V → Option Int → Option Int → Hp → VK → Prop := fun x lo hi H Q => rSlL K x lo hi H Q ∨ (rSlA K x lo hi H Q ∨ rSlS x lo hi H Q)
theorem sl_Q : SlR X (qSl X.K) := SlR.or sl_list (SlR.or sl_tupA sl_str)
end
section
variable {c : Ct} {G : List Sl} {s : c.S} {P : Sl → c.S → Prop}
theorem sizeL {n : Nat} (h : n ≤ 1000000) : n ≤ sizeLine := Nat.le_trans h (by decide)
/-! ### + -/
theorem da_int {i j : Int} (k : P (.dat (.int (i + j))) s) : DOp c (qAdd c.K) (.int i) (.int j) G s P := fun σ F H0 H v w gd r1 r2 Q q => .inl (.inl (dop_add k σ F H0 H v w gd r1 r2 Q q))
theorem da_lst {xs ys : List D} (hl : xs.length + ys.length ≤ 1000000) (k : P (.own (.lst (xs ++ ys))) s) : DOp c (qAdd c.K) (.lst xs) (.lst ys) G s P := fun σ F H0 H v w gd r1 r2 Q q => by
  cases r1 with
  | lst ha ra =>
  cases r2 with
  | lst hb rb =>
    refine .inr (.inl ⟨_, _, _, _, rfl, rfl, gd.gd.sub _ _ ha, gd.gd.sub _ _ hb, by rw [ra.len, rb.len]; exact sizeL hl, fun p hp => ?_⟩)
    exact q _ s _ H0 _ k (gd.push hp) (Same.refl _) (gd.rok (u := .lst _) hp (ra.app rb))
/-! ### * -/
theorem dm_str {x : Str} {n : Int} (h1 : n ≤ 1000) (h0 : -1000 ≤ n) (h2 : x.length ≤ 1000) (k : P (.dat (.str (repS x n))) s) : DOp c qMul (.str x) (.int n) G s P := fun σ F H0 H v w gd r1 r2 Q q => by
  cases r1
  cases r2
  exact .inr (.inl ⟨x, n, rfl, rfl, h1, h0, h2, q _ s _ H0 H k gd (Same.refl _) (.str _)⟩)
/-! ### == -/
theorem deq {x y : D} {b : Bool} (hx : x.plain = true) (hy : y.plain = true) (sx : SeqAt.shaped x.py = true) (sy : SeqAt.shaped y.py = true) (hb : PyData.eqv x.py y.py = b) (k : P (.dat (.bl b)) s) : DOp c (qEq c.K) x y G s P := fun σ F H0 H v w gd r1 r2 Q q =>
  .inr ⟨x.py, y.py, r1.dp gd.gd.sub hx, r2.dp gd.gd.sub hy, sx, sy, by rw [hb]; exact q _ s _ H0 H k gd (Same.refl _) (.bl b)⟩
theorem dne {x y : D} {b : Bool} (hx : x.plain = true) (hy : y.plain = true) (sx : SeqAt.shaped x.py = true) (sy : SeqAt.shaped y.py = true) (hb : PyData.eqv x.py y.py = b) (k : P (.dat (.bl (!b))) s) : DOp c (qNe c.K) x y G s P := fun σ F H0 H v w gd r1 r2 Q q =>
  .inr ⟨x.py, y.py, r1.dp gd.gd.sub hx, r2.dp gd.gd.sub hy, sx, sy, by rw [hb]; exact q _ s _ H0 H k gd (Same.refl _) (.bl _)⟩
theorem de_sc {x y : D} {b : Bool} (h : scD x y = some b) (k : P (.dat (.bl b)) s) : DOp c (qEq c.K) x y G s P := fun σ F H0 H v w gd r1 r2 Q q => .inl (dop_eq h k σ F H0 H v w gd r1 r2 Q q)
theorem dn_sc {x y : D} {b : Bool} (h : scD x y = some b) (k : P (.dat (.bl (!b))) s) : DOp c (qNe c.K) x y G s P := fun σ F H0 H v w gd r1 r2 Q q => .inl (dop_ne h k σ F H0 H v w gd r1 r2 Q q)
/-! ### <, <=, in -/
theorem dlt_int {i j : Int} (k : P (.dat (.bl (decide (i < j)))) s) : DOp c qLt (.int i) (.int j) G s P := fun σ F H0 H v w gd r1 r2 Q q => .inl (dop_lt k σ F H0 H v w gd r1 r2 Q q)
theorem dle_int {i j : Int} (k : P (.dat (.bl (decide (i ≤ j)))) s) : DOp c qLe (.int i) (.int j) G s P := fun σ F H0 H v w gd r1 r2 Q q => .inl (dop_le k σ F H0 H v w gd r1 r2 Q q)
theorem din_sign {a : Nat} {z : Str} (k : P (.dat (.bl (decide (a ∈ z.cps.toList)))) s) : DOp c (qIn c.K) (.str ⟨#[a]⟩) (.str z) G s P := fun σ F H0 H v w gd r1 r2 Q q => by
  cases r1
  cases r2
  exact .inl ⟨a, z, rfl, rfl, q _ s _ H0 H k gd (Same.refl _) (.bl _)⟩
theorem din_str {x z : Str} (k : P (.dat (.bl (!(Builtin.Str.occurrences z x 0 z.length 1).isEmpty))) s) : DOp c (qIn c.K) (.str x) (.str z) G s P := fun σ F H0 H v w gd r1 r2 Q q => by
  cases r1
  cases r2
  exact .inr (.inl ⟨x, z, rfl, rfl, q _ s _ H0 H k gd (Same.refl _) (.bl _)⟩)
/-! ### x[i] -/
theorem di_lst {xs : List D} {i : Int} {d : D} (h : atI xs i = some d) (k : P (.dat d) s) : DOp c (rIx c.K) (.lst xs) (.int i) G s P := fun σ F H0 H v w gd r1 r2 Q q => by
  cases r2
  cases r1 with
  | lst ha ra =>
    unfold atI at h
    cases e : ixN xs.length i with
    | none =>
      rw [e] at h
      cases h
    | some j =>
      rw [e] at h
      obtain ⟨u, hu, r⟩ := ra.get (show xs[j]? = some d from h)
      exact .inl ⟨_, _, i, u, rfl, rfl, .inl (.inl (gd.gd.sub _ _ ha)), by unfold atI; rw [ra.len, e]; exact hu, q _ s _ H0 H k gd (Same.refl _) r⟩
theorem di_tup {xs : List D} {i : Int} {d : D} (h : atI xs i = some d) (k : P (.dat d) s) : DOp c (rIx c.K) (.tup xs) (.int i) G s P := fun σ F H0 H v w gd r1 r2 Q q => by
  cases r2
  cases r1 with
  | tup ha ra =>
    unfold atI at h
    cases e : ixN xs.length i with
    | none =>
      rw [e] at h
      cases h
    | some j =>
      rw [e] at h
      obtain ⟨u, hu, r⟩ := ra.get (show xs[j]? = some d from h)
      exact .inr (.inl ⟨_, _, i, u, rfl, rfl, same_t gd.gd.sub ha, by unfold atI; rw [ra.len, e]; exact hu, q _ s _ H0 H k gd (Same.refl _) r⟩)
theorem di_str {x : Str} {i : Int} {a : Nat} (hl : x.length ≤ 1000000) (h : atI x.cps.toList i = some a) (k : P (.dat (.str ⟨#[a]⟩)) s) : DOp c (rIx c.K) (.str x) (.int i) G s P := fun σ F H0 H v w gd r1 r2 Q q => by
  cases r2
  cases r1
  exact .inr (.inr ⟨x, i, a, rfl, rfl, sizeL hl, h, q _ s _ H0 H k gd (Same.refl _) (.str _)⟩)
theorem atI_nat {α : Type} {xs : List α} {i : Int} {a : α} {n : Nat} (h0 : i = (n : Int)) (h : xs[n]? = some a) : atI xs i = some a := by
  subst h0
  have hn := (List.getElem?_eq_some_iff.mp h).1
  unfold atI ixN
  rw [if_pos (by omega), if_pos (by omega)]
  simpa using h
/-! ### x[a:b] -/
def DSl (c : Ct) (r : V → Option Int → Option Int → Hp → VK → Prop) (x : D) (lo hi : Option Int) (G : List Sl) (s : c.S) (P : Sl → c.S → Prop) : Prop :=
  ∀ σ F H0 H v, Gd c G s σ F H0 H → Rep c.K H0 v x → ∀ Q : VK, (∀ z s' u H0' H', P z s' → Gd c G s' σ F H0' H' → Same H0 H0' → RO c G σ F H0' H' u z → Q u H') → r v lo hi H Q
def WO (c : Ct) (to : TO) (G : List Sl) (s : c.S) (P : Option Int → c.S → Prop) : Prop :=
  ∀ σ F H0 H, Gd c G s σ F H0 H → ∀ Q : Option Int → Hp → Prop, (∀ o s' H0' H', P o s' → Gd c G s' σ F H0' H' → Same H0 H0' → Q o H') → to σ H Q
theorem wo_none {P : Option Int → c.S → Prop} (k : P none s) : WO c tNoPart G s P := fun σ F H0 H g Q q => q none s H0 H k g (Same.refl _)
theorem wo_some {te : TE} {P : Option Int → c.S → Prop} (h : WE c te G s (FZ fun d s1 => ∃ i, d = .int i ∧ P (some i) s1)) : WO c (tPart te) G s P := fun σ F H0 H g Q q =>
  h.use g fun d s1 v H1 H1' hp g1 e1 r1 => by
    obtain ⟨i, rfl, hp⟩ := hp
    cases r1
    exact ⟨i, rfl, q _ s1 H1 H1' hp g1 e1⟩
theorem we_sl {r : V → Option Int → Option Int → Hp → VK → Prop} {te : TE} {tl th : TO} (h : WE c te G s (FZ fun x s1 => WO c tl G s1 fun l s2 => WO c th G s2 fun u s3 => DSl c r x l u G s3 P)) : WE c (tSl r te tl th) G s P := fun σ F H0 H g Q q =>
  h.use g fun x s1 v H1 H1' hp g1 e1 r1 => hp σ F H1 H1' g1 _ fun l s2 H2 H2' hp2 g2 e2 => hp2 σ F H2 H2' g2 _ fun u s3 H3 H3' hp3 g3 e3 =>
    hp3 σ F H3 H3' v g3 ((r1.mono e2).mono e3) Q fun z s' w H4 H4' a b e d => q z s' w H4 H4' a b (((e1.trans e2).trans e3).trans e) d
def cutD (xs : List D) (lo hi : Option Int) : List D := (xs.drop (HT.sIx xs.length 0 lo)).take (HT.sIx xs.length xs.length hi - HT.sIx xs.length 0 lo)
theorem RepAll.cut {K : PySem.W.Frag} {H : Hp} {vs : List V} {ds : List D} (r : RepAll K H vs ds) (lo hi : Option Int) : RepAll K H (cutV vs lo hi) (cutD ds lo hi) := by
  unfold cutV cutD
  rw [r.len]
  exact (r.dr _).tk _
theorem ds_lst {xs : List D} {lo hi : Option Int} (k : P (.own (.lst (cutD xs lo hi))) s) : DSl c (qSl c.K) (.lst xs) lo hi G s P := fun σ F H0 H v gd r1 Q q => by
  cases r1 with
  | lst ha ra =>
    exact .inl ⟨_, _, rfl, .inl (.inl (gd.gd.sub _ _ ha)), fun p hp => q _ s _ H0 _ k (gd.push hp) (Same.refl _) (gd.rok (u := .lst _) hp (ra.cut lo hi))⟩
theorem ds_tup {xs : List D} {lo hi : Option Int} (k : P (.dat (.tup (cutD xs lo hi))) s) : DSl c (qSl c.K) (.tup xs) lo hi G s P := fun σ F H0 H v gd r1 Q q => by
  cases r1 with
  | tup ha ra =>
    refine .inr (.inl ⟨_, _, rfl, same_t gd.gd.sub ha, fun e => ?_, fun _ p hp => ?_⟩)
    · have : cutD xs lo hi = xs := by
        unfold cutD
        rw [ra.len] at e
        rw [e.1, e.2]
        simp
      rw [this] at k
      exact q _ s _ H0 _ k gd (Same.refl _) (.tup ha ra)
    · obtain ⟨g2, e2⟩ := gd.lay (o := .tup _) hp
      exact q _ s _ _ _ k g2 e2 (.tup (.inl (.inl upd_same)) ((ra.cut lo hi).mono e2))
theorem ds_str {x : Str} {lo hi : Option Int} (hl : x.length ≤ 1000000) (k : P (.dat (.str (cutS x lo hi))) s) : DSl c (qSl c.K) (.str x) lo hi G s P := fun σ F H0 H v gd r1 Q q => by
  cases r1
  exact .inr (.inr ⟨x, rfl, sizeL hl, q _ s _ H0 H k gd (Same.refl _) (.str _)⟩)
/-! ### calls of what is built in -/
theorem dl_str {x : Str} (hl : x.length ≤ 1000000) (k : P (.dat (.int x.length)) s) : DCB c (qLen c.K) [.str x] G s P := fun σ F H0 H vs gd r Q q => by
  cases r with
  | cons r rs =>
    cases rs
    cases r
    exact ⟨.str x, _, rfl, ⟨sizeL hl, rfl⟩, q _ s _ H0 H k gd (Same.refl _) (.int _)⟩
theorem dl_lst {xs : List D} (k : P (.dat (.int xs.length)) s) : DCB c (qLen c.K) [.lst xs] G s P := fun σ F H0 H vs gd r Q q => by
  cases r with
  | cons r rs =>
    cases rs
    cases r with
    | lst ha ra => exact ⟨.ref _, _, rfl, .inl ⟨_, .inl (.inl (gd.gd.sub _ _ ha)), ra.len.symm⟩, q _ s _ H0 H k gd (Same.refl _) (.int _)⟩
theorem dl_tup {xs : List D} (k : P (.dat (.int xs.length)) s) : DCB c (qLen c.K) [.tup xs] G s P := fun σ F H0 H vs gd r Q q => by
  cases r with
  | cons r rs =>
    cases rs
    cases r with
    | tup ha ra => exact ⟨.ref _, _, rfl, .inr ⟨_, same_t gd.gd.sub ha, ra.len.symm⟩, q _ s _ H0 H k gd (Same.refl _) (.int _)⟩
theorem db_max {i j : Int} (k : P (.dat (.int (if j > i then j else i))) s) : DCB c (fun xs H Q => ∃ i j, xs = [.int i, .int j] ∧ Q (.int (if j > i then j else i)) H) [.int i, .int j] G s P := fun σ F H0 H vs gd r Q q => by
  cases r with
  | cons r rs =>
  cases rs with
  | cons r2 rs =>
    cases rs
    cases r
    cases r2
    exact ⟨i, j, rfl, q _ s _ H0 H k gd (Same.refl _) (.int _)⟩
theorem db_min {i j : Int} (k : P (.dat (.int (if j < i then j else i))) s) : DCB c (fun xs H Q => ∃ i j, xs = [.int i, .int j] ∧ Q (.int (if j < i then j else i)) H) [.int i, .int j] G s P := fun σ F H0 H vs gd r Q q => by
  cases r with
  | cons r rs =>
  cases rs with
  | cons r2 rs =>
    cases rs
    cases r
    cases r2
    exact ⟨i, j, rfl, q _ s _ H0 H k gd (Same.refl _) (.int _)⟩
theorem db_abs {i : Int} (k : P (.dat (.int (if i < 0 then -i else i))) s) : DCB c (fun xs H Q => ∃ i, xs = [.int i] ∧ Q (.int (if i < 0 then -i else i)) H) [.int i] G s P := fun σ F H0 H vs gd r Q q => by
  cases r with
  | cons r rs =>
    cases rs
    cases r
    exact ⟨i, rfl, q _ s _ H0 H k gd (Same.refl _) (.int _)⟩
theorem db_intI {i : Int} (k : P (.dat (.int i)) s) : DCB c (fun xs H Q => (∃ i, xs = [.int i] ∧ Q (.int i) H) ∨ ∃ k, xs = [.bl k] ∧ Q (.int (if k = true then 1 else 0)) H) [.int i] G s P := fun σ F H0 H vs gd r Q q => by
  cases r with
  | cons r rs =>
    cases rs
    cases r
    exact .inl ⟨i, rfl, q _ s _ H0 H k gd (Same.refl _) (.int _)⟩
theorem db_intB {b : Bool} (k : P (.dat (.int (if b = true then 1 else 0))) s) : DCB c (fun xs H Q => (∃ i, xs = [.int i] ∧ Q (.int i) H) ∨ ∃ k, xs = [.bl k] ∧ Q (.int (if k = true then 1 else 0)) H) [.bl b] G s P := fun σ F H0 H vs gd r Q q => by
  cases r with
  | cons r rs =>
    cases rs
    cases r
    exact .inr ⟨b, rfl, q _ s _ H0 H k gd (Same.refl _) (.int _)⟩
/-- sep.join(list of texts) -/
theorem we_join {to te : TE} (h : WE c to G s (FZ fun o s1 => ∃ a, o = .str a ∧ WE c te G s1 (FZ fun d s2 => ∃ ys, d = .lst (ys.map D.str) ∧ (ys.map fun x => x.length).sum + ys.length * a.length ≤ 1000000 ∧ P (.dat (.str (Txt.join a ys))) s2))) :
    WE c (tM1 (fun x xs H Q => ∃ a p ys, x = .str a ∧ xs = [.ref p] ∧ (SqL c.K H p (ys.map V.str) ∨ SqT c.K H p (ys.map V.str)) ∧ (ys.map fun x => x.length).sum + ys.length * a.length ≤ 16777216 ∧ Q (.str (Txt.join a ys)) H) to te) G s P := fun σ F H0 H g Q q =>
  h.use g fun o s1 v H1 H1' hp g1 e1 r1 => by
    obtain ⟨a, rfl, hp⟩ := hp
    cases r1
    refine ⟨⟨a, rfl⟩, hp.use g1 fun d s2 w H2 H2' hp2 g2 e2 r2 => ?_⟩
    obtain ⟨ys, rfl, hl, hp2⟩ := hp2
    cases r2 with
    | lst ha ra =>
      have e := ra.strs
      subst e
      exact ⟨a, _, ys, rfl, rfl, .inl (.inl (.inl (g2.gd.sub _ _ ha))), by omega, q _ s2 _ H2 H2' hp2 g2 (e1.trans e2) (.str _)⟩
/-- the object of one's own that a name holds is changed -/
theorem Good.chg {σ : L2.St} {H0 H : Hp} {i : Nat} {p : Addr} {w w' : OV} {u : HO} (g : Good c G s σ H0 H) (hi : G[i]? = some (.own w)) (hs : σ[i]? = some (some (.ref p))) (hw : OvOk c.K H0 p u w') : Good c (G.set i (.own w')) s σ H0 (upd H p u) := by
  obtain ⟨p', h1, n0, n1, nb, v, hv, _⟩ := g.ownAt hi
  rw [hs] at h1
  cases h1
  have kk : ∀ a o, H a = some o → a ≠ p → upd H p u a = some o := fun a o h hn => by rw [upd_ne hn]; exact h
  refine ⟨fun a o h => kk a o (g.sub a o h) (fun z => by subst z; rw [n0] at h; cases h), g.av, g.e0, fun a o h hb => kk a o (g.e1 a o h hb) (fun z => by subst z; rw [n1] at h; cases h), g.e2,
    c.stab _ _ _ _ _ g.rs (Same.refl _) (fun a o hb h => kk a o h (fun z => by subst z; exact nb hb)), by rw [List.length_set]; exact g.len, fun j y hy => ?_, fun a b q w1 w2 hab ha hb h1 h2 => ?_⟩
  · rw [List.getElem?_set] at hy
    split at hy
    · rename_i hij
      subst hij
      split at hy
      · cases hy
        rw [hs]
        exact ⟨p, rfl, n0, n1, nb, u, upd_same, hw⟩
      · cases hy
    · rename_i hij
      have q := g.sl j y hy
      cases y with
      | un => trivial
      | dat d => exact q
      | own w3 =>
        obtain ⟨r, hr, o⟩ := q
        refine ⟨r, hr, o.step (Same.refl _) o.1 fun o' h => kk r o' h fun z => ?_⟩
        subst z
        refine g.ds i j r _ w3 hij hi hy hs ?_
        cases hj : σ[j]? with
        | none =>
          rw [hj] at hr
          cases hr
        | some y =>
          rw [hj] at hr
          exact congrArg some hr
  · have own : ∀ (j : Nat) (w1 : OV), (G.set i (.own w'))[j]? = some (.own w1) → ∃ w2, G[j]? = some (.own w2) := fun j w1 hj => by
      rw [List.getElem?_set] at hj
      split at hj
      · rename_i hij
        subst hij
        exact ⟨w, hi⟩
      · exact ⟨w1, hj⟩
    obtain ⟨x1, hx1⟩ := own a w1 ha
    obtain ⟨x2, hx2⟩ := own b w2 hb
    exact g.ds a b q x1 x2 hab hx1 hx2 h1 h2
theorem Good.ovAt {σ : L2.St} {H0 H : Hp} {i : Nat} {ds : List D} (g : Good c G s σ H0 H) (hi : G[i]? = some (.own (.lst ds))) : ∃ p xs, σ[i]? = some (some (.ref p)) ∧ H p = some (.lst xs) ∧ RepAll c.K H0 xs ds := by
  obtain ⟨p, h1, n0, n1, nb, v, hv, k⟩ := g.ownAt hi
  cases v with
  | lst xs => exact ⟨p, xs, h1, hv, k⟩
  | _ => exact False.elim k
/-- xs.append(e), xs an object of one's own -/
theorem ws_app {i : Nat} {te : TE} {ds : List D} {P : Ds c.S} (hi : G[i]? = some (.own (.lst ds))) (hl : ds.length ≤ 1000000) (h : WE c te G s (FZ fun d s1 => P.nx (G.set i (.own (.lst (ds ++ [d])))) s1)) : WS c (tDrop (tBM c.K "list" rAppend (tVar i) (tCons te tNil))) G s P := fun σ H0 H g D e => by
  obtain ⟨p, xs, h1, hp, _⟩ := g.ovAt hi
  refine ⟨.ref p, h1, .inl ⟨rfl, xs, .inl (.inl hp)⟩, h.use (Gd.of g) fun d s1 v H1 H1' hp1 g1 e1 r1 => ?_⟩
  obtain ⟨p', ys, h2, hp2, ra⟩ := g1.to.ovAt hi
  rw [h1] at h2
  cases h2
  exact ⟨p, ys, v, rfl, rfl, hp2, Nat.lt_of_le_of_lt (by rw [ra.len]; exact hl) (by decide : 1000000 < sizeLine), e.nx _ s1 _ H1 _ hp1 (g1.to.chg hi h1 (ra.app (.cons r1 .nil))) e1 (List.length_set ..)⟩
end
/-! ### the rule for a def -/
section
variable {P : Program} {w : World} {K : PySem.W.Frag} {mg : Str → Option Value} {base : Heap}
abbrev pureCt (K : PySem.W.Frag) (H0 H : Hp) (E : XK) (XP : Addr → D → Prop) (okX : ∀ C d s' v a H0' H', XP C d → Step noR noB s' H0 H H0' H' → (H a = none ∧ H' a = some (.xd [("value", v)])) → Rep K H0' v d → E (.ref C) (some a) H') : Ct where
  K := K
  S := Unit
  R := noR
  B := noB
  stab := fun _ _ _ _ _ _ _ _ => trivial
  there := fun _ _ _ _ _ h => h.elim
  E0 := H0
  E := H
  EX := E
  X := fun C d _ => XP C d
  okX := fun C d s v a H0' H' x e sub k n av rs ha r => okX C d s v a H0' H' x ⟨e, sub, k, n, av, rs⟩ ha r
abbrev resCt (K : PySem.W.Frag) (r : Res) (p : Addr) (H0 H : Hp) (E : XK) (XP : Addr → D → r.S → Prop) (okX : ∀ C d s' v a H0' H', XP C d s' → Step (r.R p) (r.B p) s' H0 H H0' H' → (H a = none ∧ H' a = some (.xd [("value", v)])) → Rep K H0' v d → E (.ref C) (some a) H') : Ct where
  K := K
  S := r.S
  R := r.R p
  B := r.B p
  stab := r.stab p
  there := r.there p
  E0 := H0
  E := H
  EX := E
  X := XP
  okX := fun C d s v a H0' H' x e sub k n av rs ha rr => okX C d s v a H0' H' x ⟨e, sub, k, n, av, rs⟩ ha rr
theorem Good.start {c : Ct} {s : c.S} {vs : List V} {ds : List D} {N : List Str} (r : RepAll c.K c.E0 vs ds) (sub : Same c.E0 c.E) (av : ∀ a, c.B a → c.E0 a = none) (rs : c.R s c.E0 c.E) : Good c (ds.map Sl.dat ++ List.replicate (N.length - ds.length) .un) s (L2.start N vs) c.E0 c.E where
  sub := sub
  av := av
  e0 := Same.refl _
  e1 := fun _ _ h _ => h
  e2 := fun _ _ h => h
  rs := rs
  len := by unfold L2.start; simp [r.len]
  sl := fun i x hx => by
    unfold L2.start
    by_cases h : i < ds.length
    · rw [List.getElem?_append_left (by simpa using h), List.getElem?_map] at hx
      rw [List.getElem?_append_left (by simpa [r.len] using h), List.getElem?_map]
      cases hd : ds[i]? with
      | none =>
        rw [hd] at hx
        cases hx
      | some d =>
        rw [hd] at hx
        cases hx
        obtain ⟨v, hv, rv⟩ := r.get hd
        rw [hv]
        exact ⟨v, rfl, rv⟩
    · rw [List.getElem?_append_right (by simpa using h), List.getElem?_replicate] at hx
      split at hx
      · cases hx
        trivial
      · cases hx
  ds := fun a b p w w' _ ha => by
    exfalso
    by_cases h : a < ds.length
    · rw [List.getElem?_append_left (by simpa using h), List.getElem?_map] at ha
      cases hd : ds[a]? with
      | none =>
        rw [hd] at ha
        cases ha
      | some d =>
        rw [hd] at ha
        cases ha
    · rw [List.getElem?_append_right (by simpa using h), List.getElem?_replicate] at ha
      split at ha <;> cases ha
/-- a def on the object at its first argument -/
theorem ok_res {x qual : Str} {st : Stmt} {f : Addr} {fd : FuncData} {N ps : List Str} {k : Nat} {r : Res} (fs : RSpec r) (F : Fun K x qual st f fd) (S : FnScope N ps (defScope st)) (hl : ∀ p ds s P XP, fs p ds s P XP → (ds.length + 1) = ps.length)
    (hbody : ∀ (cdv : Value) (A : Around) (outer : List Env) (s : Shared) (H : Hp) (E : XK), Room k (A.deeper (envOfC qual (defScope st) s.heap.objs.size f cdv)) →
      ∃ t, PSs (cxOf CX0 P w K mg base N qual (defScope st) f cdv A outer s H E).nox (defBody st) t ∧
        ∀ p ds s0 Q XP, fs p ds s0 Q XP → ∀ H0 okX, WS (resCt K r p H0 H E XP okX) t ((.ref p :: ds).map Sl.dat ++ List.replicate (N.length - (ds.length + 1)) .un) s0 { nx := fun _ s1 => Q (.dat .non) s1, rt := Q }) : FnOk P w K mg base CX0 (k + 1) f fd ps (ResSp K r fs) := by
  refine F.ok S (fun vs H Q E h => ?_) (fun cdv A outer s H vs Q E hr h => ?_)
  · obtain ⟨p, ds, s, P, XP, hf, H0, _, _, ra, _⟩ := h
    rw [ra.len]
    exact hl _ _ _ _ _ hf
  · obtain ⟨t, ht, hb⟩ := hbody cdv A outer s H E hr
    refine ⟨t, ht, ?_⟩
    obtain ⟨p, ds, s0, P, XP, hf, H0, sub, av, ra, rs, kQ, kX⟩ := h
    have hw := hb p ds s0 P XP hf H0 kX
    refine hw _ _ _ (Good.start (c := resCt K r p H0 H E XP kX) (N := N) ra sub av rs) _ ⟨fun G s1 σ H0' H' hp g _ _ => ?_, fun y s1 v G σ H0' H' hp g ro => ?_, fun _ _ _ _ _ h => h.elim, fun _ _ _ _ _ h => h.elim⟩
    · exact kQ _ s1 _ H0' H' hp ⟨g.e0, g.sub, g.e1, g.e2, g.av, g.rs⟩ .non
    · refine kQ _ s1 _ H0' H' hp ⟨g.e0, g.sub, g.e1, g.e2, g.av, g.rs⟩ ?_
      cases y with
      | un => trivial
      | dat d => exact ro
      | own w =>
        obtain ⟨a, rfl, ⟨n0, n1, nb, u, hu, k⟩, _⟩ := ro
        exact ⟨a, rfl, n0, n1, nb, u, hu, k⟩
theorem ok_pure {x qual : Str} {st : Stmt} {f : Addr} {fd : FuncData} {N ps : List Str} {k : Nat} (fs : FSpec) (F : Fun K x qual st f fd) (S : FnScope N ps (defScope st)) (hl : ∀ ds P XP, fs ds P XP → ds.length = ps.length)
    (hbody : ∀ (cdv : Value) (A : Around) (outer : List Env) (s : Shared) (H : Hp) (E : XK), Room k (A.deeper (envOfC qual (defScope st) s.heap.objs.size f cdv)) →
      ∃ t, PSs (cxOf CX0 P w K mg base N qual (defScope st) f cdv A outer s H E).nox (defBody st) t ∧
        ∀ ds Q XP, fs ds Q XP → ∀ H0 okX, WS (pureCt K H0 H E XP okX) t (ds.map Sl.dat ++ List.replicate (N.length - ds.length) .un) () { nx := fun _ _ => Q (.dat .non), rt := fun x _ => Q x }) : FnOk P w K mg base CX0 (k + 1) f fd ps (PureSp K fs) := by
  refine F.ok S (fun vs H Q E h => ?_) (fun cdv A outer s H vs Q E hr h => ?_)
  · obtain ⟨ds, P, XP, hf, H0, _, _, ra, _⟩ := h
    rw [ra.len]
    exact hl _ _ _ hf
  · obtain ⟨t, ht, hb⟩ := hbody cdv A outer s H E hr
    refine ⟨t, ht, ?_⟩
    obtain ⟨ds, P, XP, hf, H0, sub, av, ra, rs, kQ, kX⟩ := h
    have hw := hb ds P XP hf H0 kX
    refine hw _ _ _ (Good.start (c := pureCt K H0 H E XP kX) (N := N) ra sub av rs) _ ⟨fun G s1 σ H0' H' hp g _ _ => ?_, fun y s1 v G σ H0' H' hp g ro => ?_, fun _ _ _ _ _ h => h.elim, fun _ _ _ _ _ h => h.elim⟩
    · exact kQ _ s1 _ H0' H' hp ⟨g.e0, g.sub, g.e1, g.e2, g.av, g.rs⟩ .non
    · refine kQ _ s1 _ H0' H' hp ⟨g.e0, g.sub, g.e1, g.e2, g.av, g.rs⟩ ?_
      cases y with
      | un => trivial
      | dat d => exact ro
      | own w =>
        obtain ⟨a, rfl, ⟨n0, n1, nb, u, hu, k⟩, _⟩ := ro
        exact ⟨a, rfl, n0, n1, nb, u, hu, k⟩
end
end DL
/-! DLf: enumerate(text); whatever is walked -/
namespace DL
open PySem PySem.Spec PyProof.Rows L2
theorem pi_or {X : Cx} {tg it : Expr} {a b : TI} (h : PI X tg it a) (h' : PI X tg it b) : PI X tg it (fun σ H R => a σ H R ∨ b σ H R) :=
  ⟨fun pins s σ H R I q => q.elim (h.run pins s σ H R I) (h'.run pins s σ H R I)⟩
/-- a list, a tuple, a text -/
def iAny (K : PySem.W.Frag) (te : TE) : TI := fun σ H R => iList K te σ H R ∨ (iTup K te σ H R ∨ iStr te σ H R)
theorem pi_any {X : Cx} {tg e : Expr} {te : TE} (he : PE X e te) : PI X tg e (iAny X.K te) := pi_or (pi_list he) (pi_or (pi_tup he) (pi_str he))
section
variable {c : Ct} {G : List Sl} {s : c.S} {P : List D → c.S → Prop}
theorem wi_l {te : TE} (h : WE c te G s (FZ fun d s1 => ∃ ds, d = .lst ds ∧ P ds s1)) : WI c (iAny c.K te) G s P := fun σ F H0 H g R q => .inl (wi_list h σ F H0 H g R q)
theorem wi_t {te : TE} (h : WE c te G s (FZ fun d s1 => ∃ ds, d = .tup ds ∧ P ds s1)) : WI c (iAny c.K te) G s P := fun σ F H0 H g R q => .inr (.inl (wi_tup h σ F H0 H g R q))
end
/-! ### the same with the written part told -/
section
variable {X : Cx} {K : PySem.W.Frag} {pos apos tpos p : Pos} {e o e2 : Expr} {te to ti tl : TE} {es : List Expr} {ta : TA} {elts : List Expr} {kk : Nat}
theorem op_addK (h : X.K = K) : OpR X (binaryOp .Add) (qAdd K) := by subst h; exact op_addQ
theorem op_eqK (h : X.K = K) (hu : X.A.units + 64 < cLine) : OpR X (compareOp .Eq) (qEq K) := by subst h; exact op_eqQ hu
theorem op_neK (h : X.K = K) (hu : X.A.units + 64 < cLine) : OpR X (compareOp .NotEq) (qNe K) := by subst h; exact op_neQ hu
theorem op_inK (h : X.K = K) (hu : X.A.units + 65 < cLine) : OpR X (compareOp .In) (qIn K) := by subst h; exact op_inQ hu
theorem ix_K (h : X.K = K) : IxR X (rIx K) := by subst h; exact ix_seq
theorem sl_K (h : X.K = K) : SlR X (qSl K) := by subst h; exact sl_Q
theorem call_lenK (h : X.K = K) : CallR X (.builtin "len") (qLen K) := by subst h; exact call_len
def qList (K : PySem.W.Frag) : List V → Hp → VK → Prop := fun xs H Q => ∃ p ys, xs = [.ref p] ∧ (SqL K H p ys ∨ SqT K H p ys) ∧ ∀ l, H l = none → Q (.ref l) (upd H l (.lst ys))
theorem call_listK (h : X.K = K) : CallR X (.type "list") (qList K) := by subst h; exact call_list_of
def qTuple (K : PySem.W.Frag) : List V → Hp → VK → Prop := fun xs H Q => ∃ p ys, xs = [.ref p] ∧ ((SqL K H p ys ∧ ∀ l, H l = none → Q (.ref l) (upd H l (.tup ys))) ∨ (SqT K H p ys ∧ Q (.ref p) H))
theorem call_tupleK (h : X.K = K) : CallR X (.type "tuple") (qTuple K) := by subst h; exact call_tuple_of
theorem call_allK (h : X.K = K) (hc : X.calm = true) : CallR X (.builtin "all") (rAll K) := by subst h; exact cr_all hc
theorem pi_anyK {tg : Expr} (h : X.K = K) (he : PE X e te) : PI X tg e (iAny K te) := by subst h; exact pi_any he
theorem pg_tupK {t : TGs} {n : Nat} {k : Nat} (h : X.K = K) (hc : X.calm = true) (ht : PGs X es t) (hn : (assignEach es X.env).length = n := by rfl) (hst : (assignEach es X.env).findIdx? (·.1) = none := by rfl) : PG X (.Tuple es k pos) (gTup K n t) := by subst h; exact pg_tup hc ht hn hst
theorem pe_appK {cpos : Pos} (h : X.K = K) (ho : PE X o to) (ha : PA X [e] ta) (hb : attributeBase o "append" X.env (eval o X.env) = eval o X.env := by rfl)
    (h1 : ((backTo cpos (starEach [e] X.env)).all (fun x => !x.1) && (backToKw cpos (keywordEach [] X.env)).all (fun x => x.1.isSome) && decide ([e].length + ([] : List Keyword).length + (if ([] : List Keyword).isEmpty = true then 0 else 1) < 30)) = true := by rfl)
    (h2 : (apos.endLine == cpos.line) = true := by rfl) (h3 : starEach [e] X.env = (false, eval e X.env) :: starEach [] X.env := by rfl) (h4 : (backTo cpos (starEach [] X.env)).any (·.1) = false := by rfl) :
    PE X (.Call (.Attribute o "append" apos) [e] [] cpos) (tBM K "list" rAppend to ta) := by
  subst h
  exact pe_bm PySem.F.plainAttrs_list PySem.F.slot_list_append PySem.F.type_list_append mt_append ho ha hb h1 h2 h3 h4
end
end DL
/-! DLg: callees, the pool that a law draws from -/
namespace DL
open PySem PySem.Spec PyProof.Rows L2
theorem hu65 {A : Around} {k : Nat} (hr : Room k A) : A.units + 65 < cLine := by
  have := hr.un
  omega
/-- a def that may be called -/
structure Callee (P : Program) (w : World) (K : PySem.W.Frag) (mg : Str → Option Value) (base : Heap) (CX : CXT) (x : Str) (params : List Str) (k : Nat) (sp : Sp) (f : Addr) (fd : FuncData) : Prop where
  ok : FnOk P w K mg base CX k f fd params sp
  mg : mg x = some (.ref f)
  kp : PySem.W.keepIn K (.ref f) = true
  bd : Binds K fd params []
  ps : ∀ X : Cx, X.prog = P → X.w = w → Passes CX X E0
/-- the pool: three whole numbers, no more than n draws to come -/
def poolR (p : Addr) (n : Nat) (H0 H : Hp) : Prop := ∃ a b m : Int, H p = some (.lst [.int a, .int b, .int m]) ∧ 0 ≤ a ∧ 0 ≤ b ∧ b < 2 ^ 62 ∧ 0 ≤ m ∧ m + n ≤ 1000000000000
abbrev poolRes : Res where
  S := Nat
  R := poolR
  B := fun p a => a = p
  stab := fun p n H0 H H0' H' h e k => by
    obtain ⟨a, b, m, q, r⟩ := h
    exact ⟨a, b, m, k _ _ rfl q, r⟩
  there := fun p n H0 H a h e z => by
    subst e
    obtain ⟨_, _, _, q, _⟩ := h
    rw [z] at q
    cases q
/-- _law_pool -/
def spPool (K : PySem.W.Frag) : Sp := fun vs H Q _ => ∃ (a : Addr) (ns : List Int) (i : Nat), vs = [.ref a, .int (i : Int)] ∧ SqL K H a (ns.map V.int) ∧ i ≤ 100 ∧
  ∀ p x y H', H p = none → Same H H' → H' p = some (.lst [.int x, .int y, .int 0]) → 0 ≤ x → 0 ≤ y → y < 2 ^ 62 → Q (.ref p) H'
/-- _law_draw: some number below span -/
def drawS : RSpec poolRes := fun _ ds (n : Nat) P _ => ∃ span : Int, ds = [.int span] ∧ 0 < span ∧ span ≤ 10 ^ 70 ∧ 1 ≤ n ∧ ∀ z : Int, 0 ≤ z → z < span → P (.dat (.int z)) (n - 1)
theorem pool_dec {m m' : Int} {n : Nat} (h : m + n ≤ 1000000000000) (hn : 1 ≤ n) (h' : m' ≤ m + 1) : m' + ((n - 1 : Nat) : Int) ≤ 1000000000000 := by omega
theorem bits_lt {i : Int} {k : Nat} (h : i.natAbs < 2 ^ k) : Builtin.Int.intBits i ≤ k := by
  unfold Builtin.Int.intBits
  split
  · omega
  · rename_i hz
    have h0 : i.natAbs ≠ 0 := by
      intro z
      apply hz
      have : i = 0 := by omega
      rw [this]
      rfl
    have := (Nat.log2_lt h0).mpr h
    omega
theorem cpw {i : Int} {j : Nat} {k : Nat} (h : i.natAbs < 2 ^ k) (h2 : k * j ≤ 2 ^ 27) : CPw i (j : Int) := by
  refine ⟨by omega, ?_⟩
  have h3 := bits_lt h
  have : Builtin.Int.intBits i * j ≤ k * j := Nat.mul_le_mul_right _ h3
  have h4 : ((Builtin.Int.intBits i * j : Nat) : Int) ≤ 2 ^ 27 := by
    have : Builtin.Int.intBits i * j ≤ 2 ^ 27 := Nat.le_trans this h2
    exact_mod_cast this
  rw [Int.natCast_mul] at h4
  exact h4
section
variable {c : Ct} {s : c.S}
theorem fz_dat {P : D → c.S → Prop} {d : D} (h : P d s) : FZ P (.dat d) s := h
theorem fz_own {P : D → c.S → Prop} {ds : List D} (h : P (.lst ds) s) : FZ P (.own (.lst ds)) s := h
end
/-- on the ground of the pool itself -/
theorem poolC (K : PySem.W.Frag) (p : Addr) (H0 H : Hp) (E : XK) (XP : Addr → D → Nat → Prop) (okX) : CtR (resCt K poolRes p H0 H E XP okX) poolRes p (fun n => n) (fun _ n => n) where
  B := fun _ h => h
  R := fun _ _ _ h => h
  back := fun _ _ _ _ _ _ _ _ t => ⟨t.rs, t.av⟩
/-- a draw, on the pool's own ground -/
theorem we_drawB {K : PySem.W.Frag} {p : Addr} {H0 H : Hp} {E E' : XK} {XP okX} {G : List Sl} {n : Nat} {P : Sl → Nat → Prop} {ta : TA} (h : WA (resCt K poolRes p H0 H E XP okX) ta G n fun ds (n1 : Nat) => ∃ span : Int, ds = [.ref p, .int span] ∧ 0 < span ∧ span ≤ 10 ^ 70 ∧ 1 ≤ n1 ∧ ∀ z : Int, 0 ≤ z → z < span → P (.dat (.int z)) (n1 - 1)) :
    WE (resCt K poolRes p H0 H E XP okX) (tCall (ResSp K poolRes drawS) [] E' ta) G n P :=
  we_callR (c := resCt K poolRes p H0 H E XP okX) (poolC K p H0 H E XP okX) (WA.mono h fun ds (n1 : Nat) hd => by
    obtain ⟨span, rfl, h1, h2, h3, h4⟩ := hd
    exact ⟨[.int span], fun _ _ _ => False, rfl, .inl fun _ _ _ z => z, span, rfl, h1, h2, h3, h4⟩)
theorem we_draw {K : PySem.W.Frag} {p : Addr} {H0 H : Hp} {E E' : XK} {XP okX} {G : List Sl} {n : Nat} {P : Sl → Nat → Prop} {ta : TA} (h : WA (resCt K poolRes p H0 H E XP okX) ta G n fun ds (n1 : Nat) => ∃ span : Int, ds = [.ref p, .int span] ∧ (0 < span ∧ span ≤ 1000000000) ∧ 1 ≤ n1 ∧ ∀ z : Int, 0 ≤ z → z < span → P (.dat (.int z)) (n1 - 1)) :
    WE (resCt K poolRes p H0 H E XP okX) (tCall (ResSp K poolRes drawS) [] E' ta) G n P :=
  we_drawB (WA.mono h fun ds (n1 : Nat) hd => by
    obtain ⟨span, e, ⟨h1, h2⟩, h3, h4⟩ := hd
    exact ⟨span, e, h1, Int.le_trans h2 (by decide), h3, h4⟩)
/-- letters to choose from: a text or a list of letters -/
def Names (names : D) (A : List Nat) : Prop := A ≠ [] ∧ A.length ≤ 1000 ∧ (names = .str ⟨A.toArray⟩ ∨ names = .lst (A.map fun a => .str ⟨#[a]⟩))
def RowIn (A : List Nat) (n : Nat) (x : Str) : Prop := (∀ a ∈ x.cps.toList, a ∈ A) ∧ x.length ≤ n
/-- _law_line -/
def lineS : RSpec poolRes := fun _ ds (n : Nat) P _ => ∃ (names : D) (A : List Nat) (L : Nat), ds = [names, .int (L : Int)] ∧ Names names A ∧ L ≤ 60 ∧ 64 ≤ n ∧ ∀ (x : Str) (n' : Nat), RowIn A L x → n ≤ n' + 64 → P (.dat (.str x)) n'
end DL
/-! DLh: defs that need to know that nothing is being shown around them; repr -/
namespace DL
open PySem PySem.Spec PyProof.Rows L2
/-- as FnOk, where no repr runs around the call -/
structure FnG (P : Program) (w : World) (K : PySem.W.Frag) (mg : Str → Option Value) (base : Heap) (CX : CXT) (k : Nat) (f : Addr) (fd : FuncData) (ps : List Str) (sp : Sp) : Prop where
  len : ∀ vs H Q E, sp vs H Q E → vs.length = ps.length
  go : ∀ (A : Around) (outer : List Env) (s : Shared) (H : Hp) (args : Args) (us : List Value) (vs : List V) (Q : VK) (E : XK), A.guards = some [] → Room k A → Env0 P w K mg base A outer s H → BindsTo s fd args (ps.zip us) → Vals vs us → sp vs H Q E →
    codeAny (model P w) A (.call (.ref f) args) (CR CX outer P w H s Q E) s
theorem FnG.of {P : Program} {w : World} {K : PySem.W.Frag} {mg : Str → Option Value} {base : Heap} {CX : CXT} {k : Nat} {f : Addr} {fd : FuncData} {ps : List Str} {sp : Sp} (F : FnOk P w K mg base CX k f fd ps sp) : FnG P w K mg base CX k f fd ps sp :=
  ⟨F.len, fun A outer s H args us vs Q E _ => F.run A outer s H args us vs Q E⟩
theorem FnG.mono {P : Program} {w : World} {K : PySem.W.Frag} {mg : Str → Option Value} {base : Heap} {CX : CXT} {j k : Nat} {f : Addr} {fd : FuncData} {ps : List Str} {sp : Sp} (F : FnG P w K mg base CX j f fd ps sp) (h : j ≤ k) : FnG P w K mg base CX k f fd ps sp :=
  ⟨F.len, fun A outer s H args us vs Q E hg hr => F.go A outer s H args us vs Q E hg (hr.mono h)⟩
/-- a def by its body, which may use that nothing is being shown -/
theorem okG {CX : CXT} {P : Program} {w : World} {K : PySem.W.Frag} {mg : Str → Option Value} {base : Heap} {x qual : Str} {st : Stmt} {f : Addr} {fd : FuncData} {N ps : List Str} {k : Nat} {sp : Sp} (F : Fun K x qual st f fd) (S : FnScope N ps (defScope st))
    (len : ∀ vs H Q E, sp vs H Q E → vs.length = ps.length)
    (hb : ∀ (cdv : Value) (A : Around) (outer : List Env) (s : Shared) (H : Hp) (vs : List V) (Q : VK) (E : XK), A.guards = some [] → Room k (A.deeper (envOfC qual (defScope st) s.heap.objs.size f cdv)) → sp vs H Q E →
      ∃ t, PSs (cxOf CX P w K mg base N qual (defScope st) f cdv A outer s H E) (defBody st) t ∧ t { nx := fun _ H' => Q .non H', rt := Q } (start N vs) H) : FnG P w K mg base CX (k + 1) f fd ps sp := by
  obtain ⟨c1, d1, k1, e1, p1, a1, v1, t1, sl1, hfd, hlk, hcode⟩ := F.ex
  subst hfd
  constructor
  · exact len
  intro A outer s H args us vs Q E hgu hroom env hbind hv hsp
  have hin : K.In s.heap := env.mod.kin.keeps fun b o e => (env.bs b o e).1
  have hlim : s.heap.NoLimit := env.mod.nolimit.keeps fun b o e => (env.bs b o e).1
  have hl := len _ _ _ _ hsp
  have hkinds : ∀ y ∈ ps.zip us, (defScope st).names.lookup y.1 = some .local ∨ ((defScope st).names.lookup y.1 = some .cell ∧ ((cellsFrom (s.heap.objs.size + 1) (defScope st).names []).lookup y.1).isSome = true) := by
    rintro ⟨n, v⟩ hy
    rcases S.par n (List.of_mem_zip hy).1 with q | q
    · exact Or.inl q
    · exact Or.inr ⟨q, PySem.W.cellsFrom_some _ _ _ (Or.inl q)⟩
  refine codeAny_call_function hroom.depth (hin _ _ hlk) rfl S.co S.gen rfl (PySem.W.codeRec_of hin hcode) (hbind _ _ _ _ ?_)
  refine wpAny_newFunctionEnv_cells S.kind hkinds fun ev hev s1 inn => ?_
  subst hev
  refine ⟨hlim.keeps inn.toInCall.keep, codeAny_func ?_⟩
  obtain ⟨t, ht, hq⟩ := hb v1 A outer s H vs Q E hgu (hroom.deeper _) hsp
  have inv := inv_start (CX := CX) (E := E) S hroom.hd env hl hv inn
  refine wpAny_mono (ht.run [] s1 (start N vs) H _ inv hq) (fun fl s2 hs => ?_) fun _ _ z => z
  cases fl with
  | ret u =>
    obtain ⟨v, σ2, H2, J, rv, q⟩ := hs
    exact ⟨v, H2, J.os, J.bare, J.base, J.hok, rv, q⟩
  | next =>
    obtain ⟨σ2, H2, J, q⟩ := hs
    exact ⟨V.non, H2, J.os, J.bare, J.base, J.hok, rfl, q⟩
  | brk =>
    obtain ⟨_, _, _, q⟩ := hs
    exact q.elim
  | cont =>
    obtain ⟨_, _, _, q⟩ := hs
    exact q.elim
/-- f(e, ..) of such a def -/
theorem pe_callG {X : Cx} {CX : CXT} {k : Nat} {f : Addr} {fd : FuncData} {ps : List Str} {sp : Sp} {E : XK} {x : Str} {p pos : Pos} {e : Expr} {es : List Expr} {t : TA} (F : FnG X.prog X.w X.K X.mg X.base CX k f fd ps sp) (hgu : X.A.guards = some []) (hr : Room k X.A)
    (hg : Gl X x) (hm : X.mg x = some (.ref f)) (hk : PySem.W.keepIn X.K (.ref f) = true) (hb : Binds X.K fd ps []) (hx : Passes CX X E) (ha : PA X (e :: es) t)
    (hdb : (x == ("__debug__" : Str)) = false := by decide) (he : starEach (e :: es) X.env = (false, eval e X.env) :: starEach es X.env := by rfl) (hpl : (backTo pos (starEach es X.env)).any (·.1) = false := by rfl) :
    PE X (.Call (.Name x p) (e :: es) [] pos) (tCall sp [] E t) := by
  constructor
  intro pins s σ H Q I h
  refine wpAny_Call_Name_kw (ld_glob I hg hm ?_ hdb)
  refine PySem.W.callWith_K (h₀ := X.base) I.ok.mod.kin hk (thn (ha.run pos pins s σ H _ I h) fun us s1 ⟨vs, H1, I1, r, q⟩ => ⟨I1.kIn, ?_⟩) he hpl
  have r2 : Vals (vs ++ []) (us ++ []) := r.append .nil
  have hl : (us ++ []).length = ps.length := by
    rw [← r2.length]
    exact F.len _ _ _ _ q
  refine wpAny_call (codeAny_mono (F.go X.A X.stack s1 H1 ⟨us, []⟩ (us ++ []) (vs ++ []) Q E hgu hr I1.env0 (hb s1 us I1.kIn hl) r2 q) fun res s2 hq => ?_)
  match res, hq with
  | .error er, hq => exact hx pins σ H1 s1 er s2 I1 hq
  | .ok (.ret u), hq => exact I1.after hq
  | .ok .next, hq => exact False.elim hq
  | .ok .brk, hq => exact False.elim hq
  | .ok .cont, hq => exact False.elim hq
structure CalleeG (P : Program) (w : World) (K : PySem.W.Frag) (mg : Str → Option Value) (base : Heap) (CX : CXT) (x : Str) (params : List Str) (k : Nat) (sp : Sp) (f : Addr) (fd : FuncData) : Prop where
  ok : FnG P w K mg base CX k f fd params sp
  mg : mg x = some (.ref f)
  kp : PySem.W.keepIn K (.ref f) = true
  bd : Binds K fd params []
  ps : ∀ X : Cx, X.prog = P → X.w = w → Passes CX X E0
/-- repr(x) of data -/
def rRepr (K : PySem.W.Frag) : List V → Hp → VK → Prop := fun xs H Q => ∃ v d, xs = [v] ∧ Dp K H v d ∧ d.showable = true ∧ d.hasDict = false ∧ d.depth ≤ 60 ∧ d.shown.length ≤ sizeLine ∧ Q (.str d.shown) H
theorem call_reprK {X : Cx} {K : PySem.W.Frag} (hK : X.K = K) (hgu : X.A.guards = some []) (hu : X.A.units + 64 < cLine) : CallR X (.builtin "repr") (rRepr K) := by
  subst hK
  intro pins s σ H xs us Q I r h
  obtain ⟨v, d, rfl, hd, hs, hdd, hdep, hl, q⟩ := h
  obtain ⟨u, rfl, rv⟩ := vals1 r
  obtain ⟨as, rd⟩ := Dp.reads I d v u hd rv
  have fin : ∀ (h' : Heap) (tk tk' : Nat), (∀ b o, s.heap.get? b = some o → h'.get? b = some o) → EP X pins σ Q (.str d.shown tk') { s with heap := h', toks := tk } := fun h' tk tk' hk =>
    ⟨.str d.shown, H, I.kept (t' := tk) hk, ⟨_, rfl⟩, q⟩
  have stay : ∀ b o, s.heap.get? b = some o → s.heap.get? b = some o := fun _ _ e => e
  cases rd with
  | none =>
    simp only [PyData.shown] at fin
    exact PySem.P.repr_of_none (fin _ _ _ stay)
  | bool b =>
    simp only [PyData.shown] at fin
    exact PySem.P.repr_of_bool (fin _ _ _ stay)
  | int i t =>
    simp only [PyData.shown] at fin
    exact PySem.P.repr_of_int (by simpa [PyData.showable] using hs) (fin _ _ _ stay)
  | str y t =>
    simp only [PyData.shown] at fin
    exact PySem.P.repr_of_str (fin _ _ _ stay) (by simpa only [PyData.shown] using hl)
  | list h1 h2 h3 h4 => exact PySem.repr_of_reads' (.list h1 h2 h3 h4) hs (fun z => by rw [hdd] at z; cases z) hgu (by omega) stay (fun h' u tk hk => fin h' tk u hk) hl
  | tuple h1 h2 h3 h4 => exact PySem.repr_of_reads' (.tuple h1 h2 h3 h4) hs (fun z => by rw [hdd] at z; cases z) hgu (by omega) stay (fun h' u tk hk => fin h' tk u hk) hl
  | dict h1 h2 h3 h4 h5 => simp [PyData.hasDict] at hdd
section
variable {c : Ct} {G : List Sl} {s : c.S} {P : Sl → c.S → Prop}
theorem db_repr {d : D} (hp : d.plain = true) (hs : d.py.showable = true) (hd : d.py.hasDict = false) (hdep : d.py.depth ≤ 60) (hl : d.py.shown.length ≤ sizeLine) (k : P (.dat (.str d.py.shown)) s) : DCB c (rRepr c.K) [d] G s P := fun σ F H0 H vs gd r Q q => by
  cases r with
  | cons r rs =>
    cases rs
    exact ⟨_, d.py, rfl, r.dp gd.gd.sub hp, hs, hd, hdep, hl, q _ s _ H0 H k gd (Same.refl _) (.str _)⟩
end
/-! ### the end of a law -/
/-- the script, as the law's def meets it -/
theorem enterG {P : Program} {w : World} {K : PySem.W.Frag} {mg mb : Str → Option Value} {k : Nat} {fa a : Addr} {fd : FuncData} {x : Str} {sp : Sp} {s1 : Shared} {vs : List Value} {ns : List Int}
    (hin : K.In s1.heap) (hns : s1.heap.Ns mainGlobals mg) (hb : s1.heap.Ns builtinsNs mb) (hbb : ∀ x : Str, x ≠ "__name__" → mb x = bootBuiltins x) (hlim : s1.heap.NoLimit) (hgens : s1.gens = #[])
    (ha : s1.heap.get? a = some { cls := .type "list", data := .seq vs.toArray }) (hi : IntsAre vs ns) (hl : ns.length ≤ sizeLine) (hr : Room k callerA)
    (hF : ∀ base : Heap, K.In base → base.Ns mainGlobals mg → FnG P w K mg base CX0 k fa fd [x] sp) (hbind : ∀ (s : Shared) (u : Value), BindsTo s fd ⟨[u], []⟩ [(x, u)])
    (hsp : ∀ H : Hp, SqL K H a (ns.map V.int) → sp [.ref a] H (fun v _ => v = .bl true) fun _ _ _ => False) :
    codeAny (model P w) callerA (.call (.ref fa) ⟨[.ref a], []⟩) (fun r s' => r = .ok (.ret (.bool true)) ∧ OldK s1.heap s'.heap ∧ s'.os = s1.os ∧ AllBare s'.gens) s1 := by
  have hvs : Vals (ns.map V.int) vs := vals_ints hi
  have hlen := hi.length
  suffices main : ∀ H : Hp, (∀ b o, H b = some o → b = a ∧ K.lookup a = none ∧ o = .frz { cls := .type "list", data := .seq vs.toArray } (.lst (ns.map V.int))) → SqL K H a (ns.map V.int) → HOk P w H s1.heap →
      codeAny (model P w) callerA (.call (.ref fa) ⟨[.ref a], []⟩) (fun r s' => r = .ok (.ret (.bool true)) ∧ OldK s1.heap s'.heap ∧ s'.os = s1.os ∧ AllBare s'.gens) s1 by
    cases hk : K.lookup a with
    | some o =>
      have e := hin a o hk
      rw [ha] at e
      cases e
      refine main (fun _ => none) (fun b o z => nomatch z) (Or.inr ⟨_, vs.toArray, _, hk, rfl, rfl, rfl, ?_, by simpa using hvs⟩) fun b u z => nomatch z
      rw [List.size_toArray, hlen]
      exact hl
    | none =>
      have here : (fun b => if b = a then some (HO.frz { cls := .type "list", data := .seq vs.toArray } (.lst (ns.map V.int))) else none) a = some (HO.frz { cls := .type "list", data := .seq vs.toArray } (.lst (ns.map V.int))) := if_pos rfl
      refine main (fun b => if b = a then some (HO.frz { cls := .type "list", data := .seq vs.toArray } (.lst (ns.map V.int))) else none) (fun b o z => ?_) (Or.inl (Or.inr ⟨_, here⟩)) fun b o z => ?_
      · by_cases e : b = a
        · have z' := (if_pos e).symm.trans z
          cases z'
          exact ⟨e, hk, rfl⟩
        · have z' := (if_neg e).symm.trans z
          cases z'
      · by_cases e : b = a
        · have z' := (if_pos e).symm.trans z
          cases z'
          subst e
          refine ⟨ha, ?_, vs, _, hvs, ha⟩
          rw [List.length_map]
          exact hl
        · have z' := (if_neg e).symm.trans z
          cases z'
  intro H hH hS hok
  have gone : ∀ {b : Addr} {o : Obj}, s1.heap.get? b = some o → o ≠ { cls := .type "list", data := .seq vs.toArray } → H b = none := fun {b o} e ne => by
    cases q : H b with
    | none => rfl
    | some u =>
      obtain ⟨rfl, _⟩ := hH b u q
      rw [ha] at e
      exact absurd (Option.some.inj e).symm ne
  have nsB : ∀ {b : Addr} {m : Str → Option Value}, s1.heap.Ns b m → (hidT s1.heap H).Ns b m := fun {b m} z => by
    obtain ⟨o, es, ep, e, d, r⟩ := z
    refine ⟨o, es, ep, hidT_get e (gone e fun z => ?_), d, r⟩
    subst z
    cases d
  have inB : K.In (hidT s1.heap H) := fun b o e => hidT_get (hin b o e) (by
    cases q : H b with
    | none => rfl
    | some u =>
      obtain ⟨rfl, hk, _⟩ := hH b u q
      rw [hk] at e
      cases e)
  have mod : Mod K mg (hidT s1.heap H) := by
    refine ⟨inB, nsB hns, ⟨mb, nsB hb, hbb⟩, ?_⟩
    obtain ⟨mc, h1, h2⟩ := hlim
    exact ⟨mc, nsB h1, h2⟩
  have env : Env0 P w K mg (hidT s1.heap H) callerA [] s1 H :=
    ⟨rfl, mod, fun b o e => of_hidT e, Nat.le_of_eq (hidT_size _ _), trivial, fun b hb => absurd (show b ∈ ([] : List Addr) from hb) (by simp), hok, .of_eq hgens⟩
  refine codeAny_mono ((hF _ inB (nsB hns)).go callerA [] s1 H ⟨[.ref a], []⟩ [.ref a] [.ref a] _ _ rfl hr env (hbind s1 (.ref a)) (.cons rfl .nil) (hsp H hS)) fun res s2 h => ?_
  match res, h with
  | .error e, h => exact False.elim h
  | .ok .next, h => exact False.elim h
  | .ok .brk, h => exact False.elim h
  | .ok .cont, h => exact False.elim h
  | .ok (.ret u), h =>
    obtain ⟨v, H', os, bare, un, hok', rv, q⟩ := h
    have q' : v = .bl true := q
    subst q'
    obtain rfl : u = Value.bool true := rv
    refine ⟨rfl, OldK.of_keep fun b o e => ?_, os, bare⟩
    cases q : H b with
    | none => exact un.keep b o e q (by intro z; exact absurd (show b ∈ ([] : List Addr) from z) (by simp)) (by simp)
    | some u =>
      obtain ⟨rfl, _, rfl⟩ := hH b u q
      obtain ⟨e1, _⟩ := hok b _ q
      obtain ⟨e2, _⟩ := hok' b _ (un.frzs b _ _ q)
      rw [e] at e1
      cases e1
      exact e2
theorem walkG {l : PySem.W.OpenLaw} {n k : Nat} {q : Program} {loose : List Str} {XP : (Str → Option Value) → Heap → Prop} {YP : World → Heap → Prop} {d : DefRec} {K : Params → PySem.W.Frag} {sp : PySem.W.Frag → Sp} {x : Str}
    (hn : l.most = some n) (hn2 : n ≤ sizeLine) (hdf : d.params.defaults = []) (hr : Room k callerA) (hY : ∀ (w : World) (h : Heap), YP w h → (K w.params).In h)
    (F : ∀ (w : World) (mg : Str → Option Value) (fa : Addr) (h : Heap), (K w.params).In h → h.Ns mainGlobals mg → mg d.name = some (.ref fa) →
      ∃ fd : FuncData, (∀ (s : Shared) (u : Value), BindsTo s fd ⟨[u], []⟩ [(x, u)]) ∧ ∀ base : Heap, (K w.params).In base → base.Ns mainGlobals mg → FnG l.prog w (K w.params) mg base CX0 k fa fd [x] (sp (K w.params)))
    (hsp : ∀ (K : PySem.W.Frag) (H : Hp) (a : Addr) (ns : List Int), ns.length ≤ n → SqL K H a (ns.map V.int) → sp K [.ref a] H (fun v _ => v = .bl true) fun _ _ _ => False) :
    PySem.W.WalkO q loose XP YP l.row.toRowW d [] (fun f vs => PySem.call f vs) := by
  refine Att.attach_call hn hdf fun w s0 s1 mg mb fa o pm cd doc a vs ns G Y ho hd hcd hmg hobj hints hlen hg => ?_
  obtain ⟨fd, hb, hF⟩ := F w mg fa _ (hY w _ Y) G.T.g hmg
  exact enterG (hY w _ Y) G.T.g G.T.b G.T.builtins G.T.nolimit hg hobj hints (Nat.le_trans hlen hn2) hr hF hb fun H hS => hsp _ H a ns hlen hS
/-! ### calls by names alone -/
def pick {α : Type} (perm : List Nat) (l : List α) : List α := perm.filterMap fun i => l[i]?
theorem pick_vals {zs : List V} {ws : List Value} (r : Vals zs ws) : ∀ perm : List Nat, Vals (pick perm zs) (pick perm ws)
  | [] => .nil
  | i :: perm => by
    show Vals (List.filterMap _ (i :: perm)) (List.filterMap _ (i :: perm))
    rw [List.filterMap_cons, List.filterMap_cons]
    cases hz : zs[i]? with
    | none =>
      rw [r.none_of hz]
      exact pick_vals r perm
    | some z =>
      obtain ⟨u, hu, ru⟩ := r.get hz
      rw [hu]
      exact .cons ru (pick_vals r perm)
theorem pick_rep {K : PySem.W.Frag} {H : Hp} {zs : List V} {ds : List D} (r : RepAll K H zs ds) : ∀ perm : List Nat, RepAll K H (pick perm zs) (pick perm ds)
  | [] => .nil
  | i :: perm => by
    show RepAll K H (List.filterMap _ (i :: perm)) (List.filterMap _ (i :: perm))
    rw [List.filterMap_cons, List.filterMap_cons]
    cases hz : zs[i]? with
    | none =>
      have : ds[i]? = none := by
        rw [List.getElem?_eq_none_iff] at hz ⊢
        rw [← r.len]
        exact hz
      rw [this]
      exact pick_rep r perm
    | some z =>
      obtain ⟨d, hd, rd⟩ := r.getV hz
      rw [hd]
      exact .cons rd (pick_rep r perm)
/-- how names bind: ks as they are written, perm the place of each parameter among them -/
def KB (fd : FuncData) (ps ks : List Str) (perm : List Nat) : Prop := ∀ ws : List Value, ws.length = ks.length → bindArgs fd ⟨[], ks.zip ws⟩ = pure (ps.zip (pick perm ws))
def tCallN (sp : Sp) (n : Nat) (perm : List Nat) (E : XK) (t : TA) : TE := fun σ H Q => t σ H fun zs H1 => zs.length = n ∧ sp (pick perm zs) H1 Q E
section
variable {X : Cx} {CX : CXT} {k : Nat} {f : Addr} {fd : FuncData} {ps ks : List Str} {sp : Sp} {E : XK} {x : Str} {p pos : Pos} {kws : List Keyword} {t : TA} {perm : List Nat}
theorem pe_callN (F : FnOk X.prog X.w X.K X.mg X.base CX k f fd ps sp) (hr : Room k X.A) (hg : Gl X x) (hm : X.mg x = some (.ref f)) (hk : PySem.W.keepIn X.K (.ref f) = true) (hb : KB fd ps ks perm) (hx : Passes CX X E) (hkw : PK X kws t)
    (hall : (backToKw pos (keywordEach kws X.env)).all (·.1.isSome) = true := by rfl) (hks : (backToKw pos (keywordEach kws X.env)).filterMap (·.1) = ks := by rfl) (hdb : (x == ("__debug__" : Str)) = false := by decide)
    (hpl : ((backTo pos (starEach [] X.env)).any (·.1) || (backToKw pos (keywordEach kws X.env)).any (·.1.isNone)) = false := by rfl) : PE X (.Call (.Name x p) [] kws pos) (tCallN sp ks.length perm E t) := by
  constructor
  intro pins s σ H Q I h
  refine wpAny_Call_Name_kw (ld_glob I hg hm ?_ hdb)
  refine PySem.W.callWith_KW0 (h₀ := X.base) I.ok.mod.kin hk hall (thn (hkw.run pos pins s σ H _ I h) fun ws s1 ⟨zs, H1, I1, r, hl, q⟩ => ⟨I1.kIn, ?_⟩) hpl
  rw [hks]
  have hlw : ws.length = ks.length := by
    rw [← r.length]
    exact hl
  refine wpAny_call (codeAny_mono (F.run X.A X.stack s1 H1 ⟨[], ks.zip ws⟩ (pick perm ws) (pick perm zs) Q E hr I1.env0 (.of_eq (hb ws hlw)) (pick_vals r perm) q) fun res s2 hq => ?_)
  match res, hq with
  | .error er, hq => exact hx pins σ H1 s1 er s2 I1 hq
  | .ok (.ret u), hq => exact I1.after hq
  | .ok .next, hq => exact False.elim hq
  | .ok .brk, hq => exact False.elim hq
  | .ok .cont, hq => exact False.elim hq
end
section
variable {c : Ct} {G : List Sl} {s : c.S} {P : Sl → c.S → Prop}
theorem we_callNF {f : FSpec} {E : XK} {ta : TA} {n : Nat} {perm : List Nat} (h : WA c ta G s fun ds s1 => ds.length = n ∧ ∃ XP, XIn c E s1 XP ∧ f (pick perm ds) (fun x => P x s1) XP) : WE c (tCallN (PureSp c.K f) n perm E ta) G s P := fun σ F H0 H g Q q =>
  h σ F H0 H g _ fun ds s1 vs H1 H1' hp g1 e1 r1 => by
    obtain ⟨hl, XP, hx, hf⟩ := hp
    refine ⟨by rw [r1.len]; exact hl, pick perm ds, _, XP, hf, H1, g1.gd.sub, fun _ z => z.elim, pick_rep r1 perm, trivial, fun x s2 v H2 H2' hp t r => ?_, fun C d s2 v a H2 H2' hp t ha r => ?_⟩
    · exact q x s1 v H2 H2' hp (g1.stepPure t) (e1.trans t.ex) (g1.resPure t r)
    · rcases hx with hx | ⟨rfl, hx⟩
      · exact (hx C d hp).elim
      · have g2 := (g1.stepPure t).gd
        exact c.okX C d s1 v a H2 H2' (hx C d hp) g2.e0 g2.sub g2.e1 g2.e2 g2.av g2.rs ⟨(g1.gd.newE ha.1).1, ha.2⟩ r
end
end DL
/-! DLk: dicts whose keys are tuples of tuples -/
namespace DL
open PySem PySem.Spec PyProof.Rows L2
mutual
/-- a datum as a key -/
def D.nk : D → NestedKey
  | .non => .none
  | .int i => .num i
  | .str x => .text x
  | .tup ds => .tup (D.nks ds)
  | _ => .none
def D.nks : List D → List NestedKey
  | [] => []
  | d :: ds => d.nk :: D.nks ds
end
mutual
def D.keyable : D → Bool
  | .non => true
  | .int _ => true
  | .str _ => true
  | .tup ds => D.keyables ds
  | _ => false
def D.keyables : List D → Bool
  | [] => true
  | d :: ds => d.keyable && D.keyables ds
end
mutual
theorem D.nk_inj : ∀ {a b : D}, a.keyable = true → b.keyable = true → a.nk = b.nk → a = b
  | .non, .non, _, _, _ => rfl
  | .int i, .int j, _, _, h => by cases h; rfl
  | .str i, .str j, _, _, h => by cases h; rfl
  | .tup as, .tup bs, ha, hb, h => by
    have h' : NestedKey.tup (D.nks as) = NestedKey.tup (D.nks bs) := h
    injection h' with h'
    rw [D.nks_inj (as := as) (bs := bs) ha hb h']
  | .non, .int _, _, _, h => nomatch h
  | .non, .str _, _, _, h => nomatch h
  | .non, .tup _, _, _, h => nomatch h
  | .int _, .non, _, _, h => nomatch h
  | .int _, .str _, _, _, h => nomatch h
  | .int _, .tup _, _, _, h => nomatch h
  | .str _, .non, _, _, h => nomatch h
  | .str _, .int _, _, _, h => nomatch h
  | .str _, .tup _, _, _, h => nomatch h
  | .tup _, .non, _, _, h => nomatch h
  | .tup _, .int _, _, _, h => nomatch h
  | .tup _, .str _, _, _, h => nomatch h
  | .bl _, _, h, _, _ => nomatch h
  | .lst _, _, h, _, _ => nomatch h
  | .ref _, _, h, _, _ => nomatch h
  | _, .bl _, _, h, _ => nomatch h
  | _, .lst _, _, h, _ => nomatch h
  | _, .ref _, _, h, _ => nomatch h
theorem D.nks_inj : ∀ {as bs : List D}, D.keyables as = true → D.keyables bs = true → D.nks as = D.nks bs → as = bs
  | [], [], _, _, _ => rfl
  | a :: as, b :: bs, ha, hb, h => by
    have ha' : (a.keyable && D.keyables as) = true := ha
    have hb' : (b.keyable && D.keyables bs) = true := hb
    rw [Bool.and_eq_true] at ha' hb'
    have h' : a.nk :: D.nks as = b.nk :: D.nks bs := h
    injection h' with h1 h2
    rw [D.nk_inj ha'.1 hb'.1 h1, D.nks_inj ha'.2 hb'.2 h2]
  | [], _ :: _, _, _, h => nomatch h
  | _ :: _, [], _, _, h => nomatch h
end
/-- a dict with nested keys: keys, where their tuples stand, values -/
abbrev NDs := List (D × Addr × V)
def ndPhi (P : Program) (w : World) (d : Addr) (xs : NDs) (h : Heap) : Prop :=
  (d == sysModules) = false ∧ ∃ us : List (NestedKey × Addr × Value), Paired (fun (p : D × Addr × V) (q : NestedKey × Addr × Value) => p.1.nk = q.1 ∧ p.2.1 = q.2.1 ∧ RelV p.2.2 q.2.2) xs us ∧ (us.map (·.1)).Nodup ∧
    ∃ o es ep, h.get? d = some o ∧ o.ExactDict ∧ o.data = .dict es ep ∧ es.toList = us.map (entryOfKey (nestedKind P w))
/-- the nested dict d as an object -/
def ndO (P : Program) (w : World) (d : Addr) (xs : NDs) : HO := .ext (ndPhi P w d xs)
/-- the keys are there -/
def NdK (K : PySem.W.Frag) (H : Hp) (xs : NDs) : Prop := ∀ x ∈ xs, Rep K H (.ref x.2.1) x.1 ∧ x.1.keyable = true ∧ x.1.nk.depth ≤ 8
theorem NdK.mono {K : PySem.W.Frag} {H H' : Hp} {xs : NDs} (e : Same H H') (h : NdK K H xs) : NdK K H' xs := fun x hx => ⟨(h x hx).1.mono e, (h x hx).2⟩
def ndAt (xs : NDs) (k : D) : Option V := (xs.find? fun x => decide (x.1.nk = k.nk)).map (·.2.2)
section
variable {X : Cx} {pins : List (Addr × Obj)} {σ : L2.St} {H : Hp} {s : Shared} {d : Addr} {xs : NDs}
/-- {} that is to hold such keys -/
def tDNewN (P : Program) (w : World) : TE := fun _ H Q => ∀ p, H p = none → Q (.ref p) (upd H p (ndO P w p []))
end
end DL
/-! DLl: {k: v for x in xs} whose keys are tuples -/
namespace DL
open PySem PySem.Spec PyProof.Rows L2
end DL
/-! DLm: sorted(d) of a dict whose keys are tuples (int, text, int) -/
namespace DL
open PySem PySem.Spec PyProof.Rows L2
abbrev M3 : Type := Int × Str × Int
def enc3 (m : M3) : PyData := .tuple [.int m.1, .str m.2.1, .int m.2.2]
def m3D (m : M3) : D := .tup [.int m.1, .str m.2.1, .int m.2.2]
def le3 : M3 → M3 → Bool := PySem.W.dataLe false enc3
theorem m3D_inj {a b : M3} (h : m3D a = m3D b) : a = b := by
  obtain ⟨a1, a2, a3⟩ := a
  obtain ⟨b1, b2, b3⟩ := b
  simp only [m3D, D.tup.injEq, List.cons.injEq, D.int.injEq, D.str.injEq, and_true] at h
  obtain ⟨rfl, rfl, rfl⟩ := h
  rfl
theorem le3_total : PySem.W.TotalLe le3 := PySem.W.sortLe_total (listOrd itemOrd) false fun b => PySem.W.keyToks (enc3 b)
theorem dataLt_tri {x y z x' y' z' : PyData} (h : PySem.W.alike x x' = true) (h' : PySem.W.alike y y' = true) (h'' : PySem.W.alike z z' = true) : PySem.W.dataLt (.tuple [x, y, z]) (.tuple [x', y', z']) =
    if PyData.eqv x x' = true then (if PyData.eqv y y' = true then (if PyData.eqv z z' = true then false else PySem.W.dataLt z z') else PySem.W.dataLt y y') else PySem.W.dataLt x x' := by
  rw [PySem.W.dataLt_tuple, PySem.W.dataLt_cons h, PySem.W.dataLt_cons h', PySem.W.dataLt_cons h'']
  have e : PyProof.Rows.lexLt itemOrd (PySem.W.keyToksAll []) (PySem.W.keyToksAll []) = false := lex_irrefl _
  rw [e]
theorem le3_eq (a b : M3) : le3 a b = !(if b.1 = a.1 then (if b.2.1 = a.2.1 then (if b.2.2 = a.2.2 then false else decide (b.2.2 < a.2.2)) else decide (b.2.1.cps.toList < a.2.1.cps.toList)) else decide (b.1 < a.1)) := by
  show (!PySem.W.dataLt (enc3 b) (enc3 a)) = _
  rw [enc3, enc3, dataLt_tri (by simp [PySem.W.alike]) (by simp [PySem.W.alike]) (by simp [PySem.W.alike]), PySem.W.dataLt_int, PySem.W.dataLt_int, PySem.W.dataLt_str]
  simp only [PyData.eqv, beq_iff_eq]
theorem cps_inj {x y : Str} (h : x.cps.toList = y.cps.toList) : x = y := by
  cases x
  cases y
  simp_all
theorem le3_anti {a b : M3} (h1 : le3 a b = true) (h2 : le3 b a = true) : a = b := by
  rw [le3_eq] at h1 h2
  obtain ⟨a1, a2, a3⟩ := a
  obtain ⟨b1, b2, b3⟩ := b
  simp only [Bool.not_eq_true'] at h1 h2
  by_cases e1 : b1 = a1
  · subst e1
    rw [if_pos rfl] at h1 h2
    by_cases e2 : b2 = a2
    · subst e2
      rw [if_pos rfl] at h1 h2
      by_cases e3 : b3 = a3
      · rw [e3]
      · rw [if_neg e3, decide_eq_false_iff_not] at h1
        rw [if_neg (Ne.symm e3), decide_eq_false_iff_not] at h2
        omega
    · rw [if_neg e2, decide_eq_false_iff_not] at h1
      rw [if_neg (Ne.symm e2), decide_eq_false_iff_not] at h2
      exact absurd (cps_inj (List.le_antisymm (List.not_lt.mp h2) (List.not_lt.mp h1))) e2
  · rw [if_neg e1, decide_eq_false_iff_not] at h1
    rw [if_neg (Ne.symm e1), decide_eq_false_iff_not] at h2
    omega
/-- the canonical list of the members of a list -/
def canon3 (ms : List M3) : List M3 := ms.mergeSort le3
theorem canon3_perm {a b : List M3} (h : a.Perm b) : canon3 a = canon3 b :=
  List.Perm.eq_of_pairwise (le := fun x y => le3 x y = true) (fun _ _ _ _ => le3_anti) (PySem.W.sort_pairwise le3_total a) (PySem.W.sort_pairwise le3_total b)
    (((List.mergeSort_perm a le3).trans h).trans (List.mergeSort_perm b le3).symm)
theorem canon3_mem {ms : List M3} {m : M3} : m ∈ canon3 ms ↔ m ∈ ms := List.mem_mergeSort
end DL
/-! DLn: rows alike to a depth, and their kinds as numbers (no program in sight) -/
namespace DL
open PySem
abbrev LRow := List Nat
def rowS (l : LRow) : Str := ⟨l.toArray⟩
theorem rowS_inj {a b : LRow} (h : rowS a = rowS b) : a = b := by
  have h2 := congrArg (fun x : Str => x.cps.toList) h
  simpa [rowS] using h2
theorem rowS_of (x : Str) : x = rowS x.cps.toList := by
  cases x
  simp [rowS]
/-- the members, each once -/
def dd3 (ms : List M3) : List M3 := ms.foldl (fun acc m => if m ∈ acc then acc else acc ++ [m]) []
theorem dd3_go (ms : List M3) : ∀ acc : List M3, acc.Nodup → (ms.foldl (fun acc m => if m ∈ acc then acc else acc ++ [m]) acc).Nodup ∧ ∀ x, x ∈ ms.foldl (fun acc m => if m ∈ acc then acc else acc ++ [m]) acc ↔ x ∈ acc ∨ x ∈ ms := by
  induction ms with
  | nil => exact fun acc h => ⟨h, fun x => by simp⟩
  | cons m ms ih =>
    intro acc h
    rw [List.foldl_cons]
    by_cases hm : m ∈ acc
    · rw [if_pos hm]
      obtain ⟨h1, h2⟩ := ih acc h
      refine ⟨h1, fun x => ?_⟩
      rw [h2 x, List.mem_cons]
      constructor
      · rintro (q | q)
        · exact .inl q
        · exact .inr (.inr q)
      · rintro (q | rfl | q)
        · exact .inl q
        · exact .inl hm
        · exact .inr q
    · rw [if_neg hm]
      have hn : (acc ++ [m]).Nodup := by
        rw [List.nodup_append]
        refine ⟨h, by simp, fun a ha b hb e => ?_⟩
        rw [List.mem_singleton.mp hb] at e
        exact hm (e ▸ ha)
      obtain ⟨h1, h2⟩ := ih _ hn
      refine ⟨h1, fun x => ?_⟩
      rw [h2 x, List.mem_append, List.mem_singleton, List.mem_cons, or_assoc]
theorem dd3_nodup (ms : List M3) : (dd3 ms).Nodup := (dd3_go ms [] List.nodup_nil).1
theorem dd3_mem (ms : List M3) (x : M3) : x ∈ dd3 ms ↔ x ∈ ms := by
  have := (dd3_go ms [] List.nodup_nil).2 x
  simpa [dd3] using this
theorem nodup_len {α : Type} [DecidableEq α] : ∀ {a b : List α}, a.Nodup → (∀ x ∈ a, x ∈ b) → a.length ≤ b.length
  | [], _, _, _ => Nat.zero_le _
  | x :: a, b, hn, hs => by
    have hx := hs x (List.mem_cons_self ..)
    have hn' := List.nodup_cons.mp hn
    have h := nodup_len (a := a) (b := b.erase x) hn'.2 fun y hy => by
      have hne : y ≠ x := fun e => hn'.1 (e ▸ hy)
      exact (List.mem_erase_of_ne hne).mpr (hs y (List.mem_cons_of_mem _ hy))
    rw [List.length_erase_of_mem hx] at h
    have : 0 < b.length := List.length_pos_of_mem hx
    rw [List.length_cons]
    omega
theorem nodup_perm {α : Type} [DecidableEq α] : ∀ {a b : List α}, a.Nodup → b.Nodup → (∀ x, x ∈ a ↔ x ∈ b) → a.Perm b
  | [], b, _, _, h => by
    have : b = [] := List.eq_nil_iff_forall_not_mem.mpr fun x hx => by simpa using (h x).mpr hx
    rw [this]
  | x :: a, b, ha, hb, h => by
    have hx := (h x).mp (List.mem_cons_self ..)
    have ha' := List.nodup_cons.mp ha
    have p := nodup_perm (a := a) (b := b.erase x) ha'.2 (hb.erase x) fun y => by
      by_cases e : y = x
      · subst e
        constructor
        · exact fun q => absurd q ha'.1
        · exact fun q => absurd q (List.Nodup.not_mem_erase hb)
      · rw [List.mem_erase_of_ne e, ← h y, List.mem_cons]
        simp [e]
    exact (p.cons x).trans (List.perm_cons_erase hx).symm
def canonS (ms : List M3) : List M3 := canon3 (dd3 ms)
theorem canonS_mem {ms : List M3} {m : M3} : m ∈ canonS ms ↔ m ∈ ms := by unfold canonS; rw [canon3_mem, dd3_mem]
theorem canonS_iff {a b : List M3} : canonS a = canonS b ↔ ∀ m, m ∈ a ↔ m ∈ b := by
  constructor
  · intro h m
    rw [← canonS_mem, h, canonS_mem]
  · intro h
    unfold canonS
    exact canon3_perm (nodup_perm (dd3_nodup a) (dd3_nodup b) fun x => by rw [dd3_mem, dd3_mem]; exact h x)
/-- rows alike to a depth, by the words of the document -/
def Alike : Nat → LRow → LRow → Prop
  | 0, _, _ => True
  | d + 1, l, m => (∀ (i a : Nat), l[i]? = some a → ∃ j, m[j]? = some a ∧ Alike d (l.take i) (m.take j) ∧ Alike d (l.drop (i + 1)) (m.drop (j + 1))) ∧
    (∀ (i a : Nat), m[i]? = some a → ∃ j, l[j]? = some a ∧ Alike d (m.take i) (l.take j) ∧ Alike d (m.drop (i + 1)) (l.drop (j + 1)))
theorem Alike.refl : ∀ (d : Nat) (l : LRow), Alike d l l
  | 0, _ => trivial
  | d + 1, l => ⟨fun i a h => ⟨i, h, Alike.refl d _, Alike.refl d _⟩, fun i a h => ⟨i, h, Alike.refl d _, Alike.refl d _⟩⟩
theorem Alike.symm : ∀ {d : Nat} {l m : LRow}, Alike d l m → Alike d m l
  | 0, _, _, _ => trivial
  | _ + 1, _, _, h => ⟨h.2, h.1⟩
theorem Alike.trans : ∀ {d : Nat} {l m k : LRow}, Alike d l m → Alike d m k → Alike d l k
  | 0, _, _, _, _, _ => trivial
  | d + 1, l, m, k, h1, h2 => ⟨fun i a ha => by
      obtain ⟨j, hj, q1, q2⟩ := h1.1 i a ha
      obtain ⟨j', hj', p1, p2⟩ := h2.1 j a hj
      exact ⟨j', hj', q1.trans p1, q2.trans p2⟩, fun i a ha => by
      obtain ⟨j, hj, q1, q2⟩ := h2.2 i a ha
      obtain ⟨j', hj', p1, p2⟩ := h1.2 j a hj
      exact ⟨j', hj', q1.trans p1, q2.trans p2⟩⟩
/-- the members of a row, their kinds by f -/
def Mem3 (f : LRow → Int → Prop) (l : LRow) (ms : List M3) : Prop := ms.length = l.length ∧ ∀ (i a : Nat), l[i]? = some a → ∃ x y, ms[i]? = some (x, ⟨#[a]⟩, y) ∧ f (l.take i) x ∧ f (l.drop (i + 1)) y
theorem Mem3.mono {f g : LRow → Int → Prop} {l : LRow} {ms : List M3} (h : ∀ r n, f r n → g r n) (m : Mem3 f l ms) : Mem3 g l ms := ⟨m.1, fun i a e => by
  obtain ⟨x, y, q1, q2, q3⟩ := m.2 i a e
  exact ⟨x, y, q1, h _ _ q2, h _ _ q3⟩⟩
/-- n is the kind of the row to the depth, where the kinds are numbered by tab -/
def Kd (tab : List (List M3)) : Nat → LRow → Int → Prop
  | 0, _, n => n = -1
  | d + 1, l, n => ∃ ms : List M3, Mem3 (Kd tab d) l ms ∧ 0 ≤ n ∧ tab[n.toNat]? = some (canonS ms)
theorem Kd.mono {t t' : List (List M3)} (h : t <+: t') : ∀ {d : Nat} {l : LRow} {n : Int}, Kd t d l n → Kd t' d l n
  | 0, _, _, e => e
  | d + 1, l, n, ⟨ms, m, h0, e⟩ => ⟨ms, m.mono fun r n q => Kd.mono h q, h0, by
      obtain ⟨r, rfl⟩ := h
      have := (List.getElem?_eq_some_iff.mp e).1
      rw [List.getElem?_append_left this]
      exact e⟩
theorem nodup_at {α : Type} {t : List α} (h : t.Nodup) {i j : Nat} {a : α} (hi : t[i]? = some a) (hj : t[j]? = some a) : i = j :=
  (List.getElem?_inj (List.getElem?_eq_some_iff.mp hi).1 h).mp (hi.trans hj.symm)
theorem str1_inj {a b : Nat} (h : (⟨#[a]⟩ : Str) = ⟨#[b]⟩) : a = b := by
  have := congrArg (fun x : Str => x.cps.toList) h
  simpa using this
theorem Mem3.at {f : LRow → Int → Prop} {l : LRow} {ms : List M3} (m : Mem3 f l ms) {i : Nat} {x : M3} (h : ms[i]? = some x) : ∃ a, l[i]? = some a ∧ x.2.1 = ⟨#[a]⟩ ∧ f (l.take i) x.1 ∧ f (l.drop (i + 1)) x.2.2 := by
  have hi : i < l.length := by rw [← m.1]; exact (List.getElem?_eq_some_iff.mp h).1
  obtain ⟨u, v, q1, q2, q3⟩ := m.2 i l[i] (List.getElem?_eq_getElem hi)
  rw [h] at q1
  cases q1
  exact ⟨l[i], List.getElem?_eq_getElem hi, rfl, q2, q3⟩
/-! ### what a Kinds object holds -/
structure KSt where
  tab : List (List M3)
  kn : List ((LRow × Nat) × Int)
/-- what holds of it; U: all the parts of rows that may ever be asked for -/
structure KInv (U : List (LRow × Nat)) (st : KSt) : Prop where
  len : U.length < 900000
  nd : st.tab.Nodup
  kd : (st.kn.map (·.1)).Nodup
  sub : ∀ e ∈ st.kn, e.1 ∈ U
  val : ∀ e ∈ st.kn, Kd st.tab e.1.2 e.1.1 e.2
  onto : ∀ i : Nat, i < st.tab.length → ∃ e ∈ st.kn, e.2 = (i : Int)
theorem KInv.empty {U : List (LRow × Nat)} (h : U.length < 900000) : KInv U ⟨[], []⟩ := ⟨h, List.nodup_nil, List.nodup_nil, fun _ h => by simp at h, fun _ h => by simp at h, fun _ h => by simp at h⟩
/-- the state behind it -/
def KSt.num (st : KSt) (ms : List M3) : KSt := if canonS ms ∈ st.tab then st else ⟨st.tab ++ [canonS ms], st.kn⟩
/-- all parts of the row, to the depth, may be asked for -/
def InU (U : List (LRow × Nat)) (l : LRow) (d : Nat) : Prop := ∀ (a b e : Nat), 1 ≤ e → e ≤ d → ((l.drop a).take b, e) ∈ U
theorem InU.take {U : List (LRow × Nat)} {l : LRow} {d : Nat} (h : InU U l (d + 1)) (i : Nat) : InU U (l.take i) d := fun a b e h1 h2 => by
  have := h a (min b (i - a)) e h1 (by omega)
  rw [List.drop_take, List.take_take]
  exact this
theorem InU.drop {U : List (LRow × Nat)} {l : LRow} {d : Nat} (h : InU U l (d + 1)) (i : Nat) : InU U (l.drop i) d := fun a b e h1 h2 => by
  have := h (i + a) b e h1 (by omega)
  rw [List.drop_drop]
  exact this
theorem InU.mono {U : List (LRow × Nat)} {l : LRow} {d d' : Nat} (h : InU U l d) (k : d' ≤ d) : InU U l d' := fun a b e h1 h2 => h a b e h1 (Nat.le_trans h2 k)
/-- such a list of parts -/
def partsU (l : LRow) (d : Nat) : List (LRow × Nat) := (List.range (l.length + 1)).flatMap fun a => (List.range (l.length + 1)).flatMap fun b => (List.range d).map fun e => ((l.drop a).take b, e + 1)
theorem partsU_in (l : LRow) (d : Nat) : InU (partsU l d) l d := fun a b e h1 h2 => by
  unfold partsU
  have key : (l.drop a).take b = (l.drop (min a l.length)).take (min b l.length) := by
    by_cases ha : a ≤ l.length
    · rw [Nat.min_eq_left ha]
      by_cases hb : b ≤ l.length
      · rw [Nat.min_eq_left hb]
      · rw [Nat.min_eq_right (by omega), List.take_of_length_le (by rw [List.length_drop]; omega), List.take_of_length_le (by rw [List.length_drop]; omega)]
    · rw [List.drop_of_length_le (show l.length ≤ a by omega), List.drop_of_length_le (show l.length ≤ min a l.length by omega)]
      simp
  refine List.mem_flatMap.mpr ⟨min a l.length, List.mem_range.mpr (by omega), List.mem_flatMap.mpr ⟨min b l.length, List.mem_range.mpr (by omega), List.mem_map.mpr ⟨e - 1, List.mem_range.mpr (by omega), ?_⟩⟩⟩
  rw [← key, show e - 1 + 1 = e by omega]
theorem flatMap_len {α β : Type} {f : α → List β} {k : Nat} (l : List α) (h : ∀ a ∈ l, (f a).length = k) : (l.flatMap f).length = l.length * k := by
  induction l with
  | nil => simp
  | cons a l ih =>
    rw [List.flatMap_cons, List.length_append, h a (List.mem_cons_self ..), ih fun b hb => h b (List.mem_cons_of_mem _ hb), List.length_cons, Nat.succ_mul]
    omega
theorem partsU_len (l : LRow) (d : Nat) : (partsU l d).length = (l.length + 1) * ((l.length + 1) * d) := by
  unfold partsU
  rw [flatMap_len (k := (l.length + 1) * d) _ fun a _ => ?_, List.length_range]
  rw [flatMap_len (k := d) _ fun b _ => by rw [List.length_map, List.length_range], List.length_range]
end DL
/-! DLo: a Kinds object as a ground; what its methods read and write -/
namespace DL
open PySem PySem.Spec PyProof.Rows L2
def keyD (ms : List M3) : D := .tup (ms.map m3D)
theorem keyD_keyable (ms : List M3) : (keyD ms).keyable = true := by
  show D.keyables (ms.map m3D) = true
  induction ms with
  | nil => rfl
  | cons m ms ih =>
    show (_ && _) = true
    rw [Bool.and_eq_true]
    exact ⟨rfl, ih⟩
theorem keyD_inj {a b : List M3} (h : keyD a = keyD b) : a = b := by
  have h1 : a.map m3D = b.map m3D := by
    unfold keyD at h
    cases h1 : a.map m3D with
    | nil => rw [h1] at h; injection h
    | cons x xs => rw [h1] at h; injection h
  exact List.map_inj_right (fun _ _ => m3D_inj) |>.mp h1
/-! ### tuple(sorted({member: True for member in members})) -/
end DL
/-! DLp: a Kinds object as a ground -/
namespace DL
open PySem PySem.Spec PyProof.Rows L2
def knV (st : KSt) : List (List Key × V) := st.kn.map fun e => ([.inr (rowS e.1.1), .inl ((e.1.2 : Nat) : Int)], V.int e.2)
def kinR (Pg : Program) (w : World) (K : PySem.W.Frag) (C nu kn p : Addr) (st : KSt) (H0 H : Hp) : Prop :=
  nu ≠ kn ∧ (∃ dx, H0 p = some (.ins C dx [("numbers", .ref nu), ("known", .ref kn)])) ∧
  (∃ xs : NDs, H nu = some (ndO Pg w nu xs) ∧ (∀ x ∈ xs, Rep K H0 (.ref x.2.1) x.1) ∧ xs.map (fun x => (x.1, x.2.2)) = st.tab.zipIdx.map fun e => (keyD e.1, V.int ((e.2 : Nat) : Int))) ∧
  H kn = some (.dT (knV st))
abbrev kinRes (Pg : Program) (w : World) (K : PySem.W.Frag) (C nu kn : Addr) : Res where
  S := KSt
  R := kinR Pg w K C nu kn
  B := fun _ a => a = nu ∨ a = kn
  stab := fun p st H0 H H0' H' h e k => by
    obtain ⟨h1, ⟨dx, h2⟩, ⟨xs, h3, h4, h5⟩, h6⟩ := h
    exact ⟨h1, ⟨dx, e _ _ h2⟩, ⟨xs, k _ _ (.inl rfl) h3, fun x hx => (h4 x hx).mono e, h5⟩, k _ _ (.inr rfl) h6⟩
  there := fun p st H0 H a h hb z => by
    obtain ⟨_, _, ⟨xs, h3, _⟩, h6⟩ := h
    rcases hb with rfl | rfl
    · rw [z] at h3
      cases h3
    · rw [z] at h6
      cases h6
abbrev KSpec := Addr → List D → KSt → (Sl → KSt → Prop) → (Addr → D → KSt → Prop) → Prop
/-- a def on a Kinds object -/
def KSp (Pg : Program) (w : World) (K : PySem.W.Frag) (C : Addr) (f : KSpec) : Sp := fun vs H Q E => ∃ nu kn, ResSp K (kinRes Pg w K C nu kn) f vs H Q E
/-- a method that may be called -/
structure MCallee (P : Program) (w : World) (K : PySem.W.Frag) (mg : Str → Option Value) (base : Heap) (CX : CXT) (C : Addr) (m : Str) (params : List Str) (k : Nat) (sp : Sp) (f : Addr) (fd : FuncData) : Prop where
  ok : FnOk P w K mg base CX k f fd params sp
  me : Meth K C m f
  bd : Binds K fd params []
  ps : ∀ X : Cx, X.prog = P → X.w = w → Passes CX X E0
section
variable {c : Ct} {G : List Sl} {s : c.S} {P : Sl → c.S → Prop}
/-- a call on the resource r at p -/
theorem res_call {r : Res} {f : RSpec r} {E : XK} {p : Addr} {to : c.S → r.S} {put : c.S → r.S → c.S} (hc : CtR c r p to put) {s1 : c.S} {es : List D} {XP : Addr → D → r.S → Prop} {vs : List V} {σ : L2.St} {F : Frm} {H1 H1' : Hp} {Q : VK}
    (hx : (∀ C d s', ¬ XP C d s') ∨ (E = c.EX ∧ ∀ C d s', XP C d s' → c.X C d (put s1 s'))) (hf : f p es (to s1) (fun x s2 => P x (put s1 s2)) XP) (g1 : Gd c G s1 σ F H1 H1') (r1 : RepAll c.K H1 vs es)
    (q : ∀ x s' v H0' H', P x s' → Gd c G s' σ F H0' H' → Same H1 H0' → RO c G σ F H0' H' v x → Q v H') : ResSp c.K r f (.ref p :: vs) H1' Q E := by
  have gg : ∀ s2 H2 H2', Step (r.R p) (r.B p) s2 H1 H1' H2 H2' → Gd c G (put s1 s2) σ F H2 H2' := fun s2 H2 H2' t =>
    ⟨g1.ln, g1.gd.go t.ex t.sub (hc.back s1 s2 _ _ _ _ g1.gd.rs g1.gd.av t).2 (fun a o h hb => t.fr a o h fun z => hb (hc.B a z)) t.nw (hc.back s1 s2 _ _ _ _ g1.gd.rs g1.gd.av t).1⟩
  refine ⟨p, es, to s1, _, XP, hf, H1, g1.gd.sub, fun a hb => g1.gd.av a (hc.B a hb), .cons (.ref p) r1, hc.R _ _ _ g1.gd.rs, fun x s2 v H2 H2' hp t rr => ?_, fun C d s2 v a H2 H2' hp t ha rr => ?_⟩
  · refine q x _ v H2 H2' hp (gg s2 H2 H2' t) t.ex ?_
    cases x with
    | un => trivial
    | dat d => exact rr
    | own w =>
      obtain ⟨a, rfl, n0, n1, nb, u, hu, k⟩ := rr
      obtain ⟨n2, n3, n4⟩ := g1.gd.newE n1
      exact ⟨a, rfl, ⟨n0, n2, n3, u, hu, k⟩, g1.gd.apart n1⟩
  · rcases hx with hx | ⟨rfl, hx⟩
    · exact (hx C d s2 hp).elim
    · have g2 := (gg s2 H2 H2' t).gd
      exact c.okX C d _ v a H2 H2' (hx C d s2 hp) g2.e0 g2.sub g2.e1 g2.e2 g2.av g2.rs ⟨(g1.gd.newE ha.1).1, ha.2⟩ rr
/-- the ground is that of the Kinds object at p -/
structure OnK (c : Ct) (Pg : Program) (w : World) (C nu kn p : Addr) (to : c.S → KSt) (put : c.S → KSt → c.S) : Prop where
  ct : CtR c (kinRes Pg w c.K C nu kn) p to put
  get : ∀ s t, to (put s t) = t
  pp : ∀ s t u, put (put s t) u = put s u
  gp : ∀ s, put s (to s) = s
variable {Pg : Program} {w : World} {C nu kn p : Addr} {to : c.S → KSt} {put : c.S → KSt → c.S}
/-- kinds.m(..) -/
theorem we_meth {f : KSpec} {m : Str} {ta : TE} {t : TA} {E : XK} (hc : OnK c Pg w C nu kn p to put) (hm : ([("numbers", V.ref nu), ("known", V.ref kn)] : List (Str × V)).lookup m = none)
    (h : WE c ta G s (FZ fun x s1 => x = .ref p ∧ WA c t G s1 fun ds s2 => f p ds (to s2) (fun x s3 => P x (put s2 s3)) (fun _ _ _ => False))) : WE c (tMeth C m (KSp Pg w c.K C f) [] E ta t) G s P := fun σ F H0 H g Q q =>
  h.use g fun x s1 v H1 H1' hp g1 e1 r1 => by
    obtain ⟨rfl, hp⟩ := hp
    cases r1
    obtain ⟨_, ⟨dx, hd⟩, _⟩ := hc.ct.R _ _ _ g1.gd.rs
    refine ⟨p, dx, _, rfl, g1.gd.sub _ _ hd, hm, hp σ F H1 H1' g1 _ fun ds s2 vs H2 H2' hf g2 e2 r2 => ?_⟩
    rw [List.append_nil]
    exact ⟨nu, kn, res_call hc.ct (.inl fun _ _ _ z => z) hf g2 r2 fun x s' v H3 H3' a b e d => q x s' v H3 H3' a b ((e1.trans e2).trans e) d⟩
/-- f(kinds, ..) -/
theorem we_callK {f : KSpec} {t : TA} {E : XK} (hc : OnK c Pg w C nu kn p to put)
    (h : WA c t G s fun ds s2 => ∃ es, ds = .ref p :: es ∧ f p es (to s2) (fun x s3 => P x (put s2 s3)) (fun _ _ _ => False)) : WE c (tCall (KSp Pg w c.K C f) [] E t) G s P := fun σ F H0 H g Q q =>
  h σ F H0 H g _ fun ds s2 vs H2 H2' hp g2 e2 r2 => by
    obtain ⟨es, rfl, hf⟩ := hp
    cases r2 with
    | cons r rs =>
      cases r
      rw [List.append_nil]
      exact ⟨nu, kn, res_call hc.ct (.inl fun _ _ _ z => z) hf g2 rs fun x s' v H3 H3' a b e d => q x s' v H3 H3' a b (e2.trans e) d⟩
end
end DL
/-! DLq: a new Kinds object on a ground; what the methods promise -/
namespace DL
open PySem PySem.Spec PyProof.Rows L2
/-- the places of the object's dicts are new to the ground -/
structure NewAt (c : Ct) (nu kn : Addr) : Prop where
  e1 : c.E nu = none
  e2 : c.E kn = none
  b1 : ¬ c.B nu
  b2 : ¬ c.B kn
/-- the ground with a Kinds object at p beside it -/
abbrev kinCt (c : Ct) (Pg : Program) (w : World) (C p nu kn : Addr) (hn : NewAt c nu kn) : Ct where
  K := c.K
  S := c.S × KSt
  R := fun s H0 H => c.R s.1 H0 H ∧ kinR Pg w c.K C nu kn p s.2 H0 H
  B := fun a => c.B a ∨ a = nu ∨ a = kn
  stab := fun s H0 H H0' H' h e k => ⟨c.stab _ _ _ _ _ h.1 e fun a o hb => k a o (.inl hb), (kinRes Pg w c.K C nu kn).stab p _ _ _ _ _ h.2 e fun a o hb => k a o (.inr hb)⟩
  there := fun s H0 H a h hb => hb.elim (fun hb => c.there _ _ _ _ h.1 hb) fun hb => (kinRes Pg w c.K C nu kn).there p _ _ _ _ h.2 hb
  E0 := c.E0
  E := c.E
  EX := c.EX
  X := fun C d s => c.X C d s.1
  okX := fun C d s v a H0' H' x e sub k n av rs ha r => c.okX C d s.1 v a H0' H' x e sub (fun b o hE hb => k b o hE fun z => by
    rcases z with z | z | z
    · exact hb z
    · rw [z, hn.e1] at hE; cases hE
    · rw [z, hn.e2] at hE; cases hE) n (fun b hb => av b (.inl hb)) rs.1 ha r
section
variable {c : Ct} {G : List Sl} {s : c.S} {Pg : Program} {w : World} {C p nu kn : Addr} {hn : NewAt c nu kn}
theorem onK : OnK (kinCt c Pg w C p nu kn hn) Pg w C nu kn p Prod.snd (fun s t => (s.1, t)) where
  ct := {
    B := fun a h => .inr h
    R := fun _ _ _ h => h.2
    back := fun s t H0 H H0' H' h av st => ⟨⟨c.stab _ _ _ _ _ h.1 st.ex fun a o hb ho => st.fr a o ho fun z => by
        rcases z with z | z
        · exact hn.b1 (z ▸ hb)
        · exact hn.b2 (z ▸ hb), st.rs⟩, fun a hb => by
      rcases hb with hb | hb
      · exact st.nw a (c.there _ _ _ _ h.1 hb) (av a (.inl hb))
      · exact st.av a hb⟩ }
  get := fun _ _ => rfl
  pp := fun _ _ _ => rfl
  gp := fun _ => rfl
theorem onK0 {K : PySem.W.Frag} {H0 H : Hp} {E : XK} {XP : Addr → D → KSt → Prop} {okX} : OnK (resCt K (kinRes Pg w K C nu kn) p H0 H E XP okX) Pg w C nu kn p (fun s => s) (fun _ t => t) where
  ct := { B := fun _ h => h, R := fun _ _ _ h => h, back := fun _ _ _ _ _ _ _ _ t => ⟨t.rs, t.av⟩ }
  get := fun _ _ => rfl
  pp := fun _ _ _ => rfl
  gp := fun _ => rfl
theorem SlOk.out {H0 H : Hp} {o : Option V} {x : Sl} (h : SlOk (kinCt c Pg w C p nu kn hn) H0 H o x) : SlOk c H0 H o x := by
  cases x with
  | un => trivial
  | dat d => exact h
  | own u =>
    obtain ⟨q, h1, h2, h3, h4, h5⟩ := h
    exact ⟨q, h1, h2, h3, fun z => h4 (.inl z), h5⟩
theorem Gd.out {s : c.S × KSt} {σ : L2.St} {F : Frm} {H0 H : Hp} (g : Gd (kinCt c Pg w C p nu kn hn) G s σ F H0 H) : Gd c G s.1 σ F H0 H where
  ln := g.ln
  gd := {
    sub := g.gd.sub
    av := fun a hb => g.gd.av a (.inl hb)
    e0 := g.gd.e0
    e1 := fun a o hE hb => g.gd.e1 a o hE fun z => by
      rcases z with z | z | z
      · exact hb z
      · have hE : c.E a = some o := hE
        rw [z, hn.e1] at hE; cases hE
      · have hE : c.E a = some o := hE
        rw [z, hn.e2] at hE; cases hE
    e2 := g.gd.e2
    rs := g.gd.rs.1
    len := g.gd.len
    sl := fun i x hx => SlOk.out (g.gd.sl i x hx)
    ds := g.gd.ds }
theorem RO.out {σ : L2.St} {F : Frm} {H0 H : Hp} {v : V} {x : Sl} (h : RO (kinCt c Pg w C p nu kn hn) G σ F H0 H v x) : RO c G σ F H0 H v x := by
  cases x with
  | un => trivial
  | dat d => exact h
  | own u =>
    obtain ⟨q, h1, ⟨h2, h3, h4, h5⟩, h6⟩ := h
    exact ⟨q, h1, ⟨h2, h3, fun z => h4 (.inl z), h5⟩, h6⟩
/-- what __init__ promises -/
def spKInit (Pg : Program) (w : World) (C : Addr) : Sp := fun vs H Q _ => ∃ (p dx : Addr), vs = [.ref p] ∧ H p = some (.ins C dx []) ∧
  ∀ (nu kn : Addr) (H' : Hp), nu ≠ kn → H nu = none → H kn = none → H' p = some (.ins C dx [("numbers", .ref nu), ("known", .ref kn)]) → H' nu = some (ndO Pg w nu []) → H' kn = some (.dT []) → (∀ b o, H b = some o → b ≠ p → H' b = some o) → Q .non H'
/-- the object is there -/
theorem Gd.inK {σ : L2.St} {F : Frm} {H0 H H' : Hp} {dx : Addr} (g : Gd c G s σ F H0 H) (np : H p = none) (ndx : H dx = none) (hpd : dx ≠ p) (hne : nu ≠ kn) (nnu : upd (upd H dx (.own p)) p (.ins C dx []) nu = none) (nkn : upd (upd H dx (.own p)) p (.ins C dx []) kn = none)
    (hp : H' p = some (.ins C dx [("numbers", .ref nu), ("known", .ref kn)])) (hu : H' nu = some (ndO Pg w nu [])) (hk : H' kn = some (.dT [])) (fr : ∀ b o, upd (upd H dx (.own p)) p (.ins C dx []) b = some o → b ≠ p → H' b = some o) :
    ∃ hn : NewAt c nu kn, Gd (kinCt c Pg w C p nu kn hn) G (s, ⟨[], []⟩) σ F (upd (upd H0 dx (.own p)) p (.ins C dx [("numbers", .ref nu), ("known", .ref kn)])) H' ∧ Same H0 (upd (upd H0 dx (.own p)) p (.ins C dx [("numbers", .ref nu), ("known", .ref kn)])) := by
  have fnu : H nu = none ∧ nu ≠ p ∧ nu ≠ dx := by
    have a1 : nu ≠ p := fun z => by rw [z, upd_same] at nnu; cases nnu
    rw [upd_ne a1] at nnu
    have a2 : nu ≠ dx := fun z => by rw [z, upd_same] at nnu; cases nnu
    rw [upd_ne a2] at nnu
    exact ⟨nnu, a1, a2⟩
  have fkn : H kn = none ∧ kn ≠ p ∧ kn ≠ dx := by
    have a1 : kn ≠ p := fun z => by rw [z, upd_same] at nkn; cases nkn
    rw [upd_ne a1] at nkn
    have a2 : kn ≠ dx := fun z => by rw [z, upd_same] at nkn; cases nkn
    rw [upd_ne a2] at nkn
    exact ⟨nkn, a1, a2⟩
  obtain ⟨u1, u2, u3⟩ := g.gd.newE fnu.1
  obtain ⟨k1, k2, k3⟩ := g.gd.newE fkn.1
  obtain ⟨p1, p2, p3⟩ := g.gd.newE np
  obtain ⟨d1, d2, d3⟩ := g.gd.newE ndx
  have old : ∀ b o, H b = some o → H' b = some o := fun b o h => fr b o (by rw [upd_ne (ne_of_none h np), upd_ne (ne_of_none h ndx)]; exact h) (ne_of_none h np)
  have hdx : H' dx = some (.own p) := fr dx _ (by rw [upd_ne hpd, upd_same]) hpd
  have e0 : Same H0 (upd (upd H0 dx (.own p)) p (.ins C dx [("numbers", .ref nu), ("known", .ref kn)])) := fun a o h => by
    rw [upd_ne (ne_of_none h p3), upd_ne (ne_of_none h d3)]
    exact h
  have sub : Same (upd (upd H0 dx (.own p)) p (.ins C dx [("numbers", .ref nu), ("known", .ref kn)])) H' := fun a o h => by
    by_cases ap : a = p
    · subst ap
      rw [upd_same] at h
      rw [hp]
      exact h
    · rw [upd_ne ap] at h
      by_cases ad : a = dx
      · subst ad
        rw [upd_same] at h
        rw [hdx]
        exact h
      · rw [upd_ne ad] at h
        exact old _ _ (g.gd.sub _ _ h)
  have g1 : Gd c G s σ F (upd (upd H0 dx (.own p)) p (.ins C dx [("numbers", .ref nu), ("known", .ref kn)])) H' :=
    ⟨g.ln, g.gd.ext e0 sub old (fun a h h0 => by
      rw [upd_ne (show a ≠ p from fun z => h (by rw [z]; exact np)), upd_ne (show a ≠ dx from fun z => h (by rw [z]; exact ndx))]
      exact h0) fun a hb h => absurd h (c.there _ _ _ _ g.gd.rs hb)⟩
  refine ⟨⟨u1, k1, u2, k2⟩, ⟨g.ln, ?_⟩, e0⟩
  have h := g1.gd
  exact {
    sub := h.sub
    av := fun a hb => by
      rcases hb with hb | rfl | rfl
      · exact h.av a hb
      · rw [upd_ne fnu.2.1, upd_ne fnu.2.2]
        exact u3
      · rw [upd_ne fkn.2.1, upd_ne fkn.2.2]
        exact k3
    e0 := h.e0
    e1 := fun a o hE hb => h.e1 a o hE fun z => hb (.inl z)
    e2 := h.e2
    rs := ⟨h.rs, hne, ⟨dx, upd_same⟩, ⟨[], hu, fun _ h => by simp at h, rfl⟩, hk⟩
    len := h.len
    sl := fun i x hx => by
      have q := h.sl i x hx
      have q0 := g.gd.sl i x hx
      cases x with
      | un => trivial
      | dat d => exact q
      | own u =>
        obtain ⟨r, h1, h2, h3, h4, h5⟩ := q
        obtain ⟨r', h1', _, _, _, u', hu', _⟩ := q0
        rw [h1] at h1'
        cases h1'
        refine ⟨r, h1, h2, h3, fun z => ?_, h5⟩
        rcases z with z | z | z
        · exact h4 z
        · rw [z, fnu.1] at hu'
          cases hu'
        · rw [z, fkn.1] at hu'
          cases hu'
    ds := h.ds }
theorem EOk.out {D : Ends} {P : Ds c.S} {H0 : Hp} {n : Nat} (e : EOk c D P H0 n) : EOk (kinCt c Pg w C p nu kn hn) D ⟨fun G s => P.nx G s.1, fun x s => P.rt x s.1, fun G s => P.bk G s.1, fun G s => P.ct G s.1⟩ H0 n where
  nx := fun G s σ H0' H a b d l => e.nx G s.1 σ H0' H a (Gd.of b).out.to d l
  rt := fun x s v G σ H0 H a b r => e.rt x s.1 v G σ H0 H a (Gd.of b).out.to (by
    have := RO.out (F := ([], [])) (show RO (kinCt c Pg w C p nu kn hn) G σ ([], []) H0 H v x by simpa [RO] using r)
    simpa [RO] using this)
  bk := fun G s σ H0' H a b d l => e.bk G s.1 σ H0' H a (Gd.of b).out.to d l
  ct := fun G s σ H0' H a b d l => e.ct G s.1 σ H0' H a (Gd.of b).out.to d l
/-- kinds = Kinds(); .. -/
theorem ws_newK {P : Ds c.S} {i : Nat} {E : XK} {u : TS} (h : ∀ p nu kn hn, WS (kinCt c Pg w C p nu kn hn) u (G.set i (.dat (.ref p))) (s, ⟨[], []⟩) ⟨fun G s => P.nx G s.1, fun x s => P.rt x s.1, fun G s => P.bk G s.1, fun G s => P.ct G s.1⟩) :
    WS c (tSeq (tAsg (tMake C (spKInit Pg w C) [] E tNil) (gName i)) u) G s P := fun σ H0 H gd D e => by
  intro p dx np ndx hpd
  refine ⟨p, dx, rfl, upd_same, fun nu kn H' hne nnu nkn hp hu hk fr => ⟨rfl, ?_⟩⟩
  obtain ⟨hn, g2, e2⟩ := (Gd.of gd).inK (Pg := Pg) (w := w) np ndx hpd hne nnu nkn hp hu hk fr
  refine (h p nu kn hn) _ _ _ (g2.to.setSl i (v := .ref p) (x := .dat (.ref p)) (.ref p)) D ?_
  rw [List.length_set]
  exact EOk.out (e.on e2)
end
/-! ### the promises -/
/-- a member of a row -/
def MemAt (tab : List (List M3)) (d : Nat) (l : LRow) (i : Nat) (m : M3) : Prop := ∃ a, l[i]? = some a ∧ m.2.1 = ⟨#[a]⟩ ∧ Kd tab d (l.take i) m.1 ∧ Kd tab d (l.drop (i + 1)) m.2.2
theorem MemAt.mono {t t' : List (List M3)} (h : t <+: t') {d : Nat} {l : LRow} {i : Nat} {m : M3} (k : MemAt t d l i m) : MemAt t' d l i m := by
  obtain ⟨a, h1, h2, h3, h4⟩ := k
  exact ⟨a, h1, h2, h3.mono h, h4.mono h⟩
theorem Mem3.of {tab : List (List M3)} {d : Nat} {l : LRow} {ms : List M3} (hl : ms.length = l.length) (h : ∀ i m, ms[i]? = some m → MemAt tab d l i m) : Mem3 (Kd tab d) l ms := ⟨hl, fun i a ha => by
  have hi : i < ms.length := by rw [hl]; exact (List.getElem?_eq_some_iff.mp ha).1
  obtain ⟨b, h1, h2, h3, h4⟩ := h i ms[i] (List.getElem?_eq_getElem hi)
  rw [ha] at h1
  cases h1
  exact ⟨ms[i].1, ms[i].2.2, by rw [List.getElem?_eq_getElem hi, ← h2], h3, h4⟩⟩
/-- what a cut of a row is -/
theorem rowS_len (l : LRow) : (rowS l).length = l.length := by
  show l.toArray.size = _
  simp
theorem cut_take (l : LRow) (i : Nat) : cutS (rowS l) none (some ((i : Nat) : Int)) = rowS (l.take i) := by
  unfold cutS
  rw [HT.sIx_nat, HT.sIx_none, rowS_len]
  show rowS _ = _
  congr 1
  show (l.toArray.toList.drop 0).take _ = _
  rw [List.drop_zero, Nat.sub_zero]
  show l.take (min i l.length) = _
  by_cases h : i ≤ l.length
  · rw [Nat.min_eq_left h]
  · rw [Nat.min_eq_right (by omega), List.take_of_length_le (Nat.le_refl _), List.take_of_length_le (by omega)]
theorem cut_drop (l : LRow) (i : Nat) : cutS (rowS l) (some ((i : Nat) : Int)) none = rowS (l.drop i) := by
  unfold cutS
  rw [HT.sIx_nat, HT.sIx_none, rowS_len]
  show rowS _ = _
  congr 1
  show (l.toArray.toList.drop (min i l.length)).take (l.length - min i l.length) = _
  show (l.drop (min i l.length)).take (l.length - min i l.length) = _
  by_cases h : i ≤ l.length
  · rw [Nat.min_eq_left h, List.take_of_length_le (by rw [List.length_drop]; omega)]
  · rw [Nat.min_eq_right (by omega), Nat.sub_self, List.drop_of_length_le (show l.length ≤ i by omega), List.take_zero]
theorem cut_drop1 (l : LRow) (i : Nat) : cutS (rowS l) (some ((i : Nat) + 1 : Int)) none = rowS (l.drop (i + 1)) := cut_drop l (i + 1)
end DL
/-! DLr: attributes as targets, with the written part told -/
namespace DL
open PySem PySem.Spec PyProof.Rows L2
end DL
/-! DLs: the list of a row's members -/
namespace DL
open PySem PySem.Spec PyProof.Rows L2
theorem dun_neg {c : Ct} {G : List Sl} {s : c.S} {P : Sl → c.S → Prop} {i : Int} (k : P (.dat (.int (-i))) s) : DUn c (rU fun i => V.int (-i)) (.int i) G s P := fun σ F H0 H v gd r Q q => by
  cases r
  exact ⟨i, rfl, q _ s _ H0 H k gd (Same.refl _) (.int _)⟩
end DL
/-! DLt: texts from behind, written texts, a plainer for -/
namespace DL
open PySem PySem.Spec PyProof.Rows L2
section
variable {X : Cx} {K : PySem.W.Frag}
theorem pe_globS {x y : Str} {pos : Pos} (hg : Gl X x) (h : ∃ t, X.mg x = some (.str y t)) (hd : (x == ("__debug__" : Str)) = false := by decide) : PE X (.Name x pos) (tC (.str y)) := by
  obtain ⟨t, e⟩ := h
  exact pe_glob hg e ⟨t, rfl⟩ hd
def tRevQ (K : PySem.W.Frag) (te : TE) : TE := fun σ H Q => tRevL K te σ H Q ∨ te σ H fun x H1 => ∃ z : Str, x = .str z ∧ z.length ≤ sizeLine ∧ Q (.str ⟨z.cps.toList.reverse.toArray⟩) H1
end
section
variable {c : Ct} {G : List Sl} {s : c.S}
theorem we_revS {P : Sl → c.S → Prop} {te : TE} (h : WE c te G s (FZ fun d s1 => ∃ l : LRow, d = .str (rowS l) ∧ l.length ≤ 1000000 ∧ P (.dat (.str (rowS l.reverse))) s1)) : WE c (tRevQ c.K te) G s P := fun σ F H0 H g Q q => .inr (h.use g fun d s1 v H1 H1' hp g1 e1 r1 => by
  obtain ⟨l, rfl, hl, hp⟩ := hp
  cases r1
  refine ⟨rowS l, rfl, sizeL (by rw [rowS_len]; exact hl), ?_⟩
  have e : (⟨(rowS l).cps.toList.reverse.toArray⟩ : Str) = rowS l.reverse := by simp [rowS]
  rw [e]
  exact q _ s1 _ H1 H1' hp g1 e1 (.str _))
theorem Gd.un {σ : L2.St} {F : Frm} {H0 H : Hp} (g : Gd c G s σ F H0 H) : ∀ is : List Nat, Gd c (unAll G is) s σ F H0 H
  | [] => g
  | i :: is => by
    have h := g.un is
    show Gd c ((unAll G is).set i .un) s σ F H0 H
    by_cases hi : i < (unAll G is).length
    · refine ⟨by rw [List.length_set]; exact h.ln, ?_⟩
      have q := h.gd.forget i
      rw [List.set_append_left _ _ hi] at q
      exact q
    · rw [List.set_eq_of_length_le (by omega)]
      exact h
theorem unAll_len (G : List Sl) : ∀ is : List Nat, (unAll G is).length = G.length
  | [] => rfl
  | i :: is => by
    show ((unAll G is).set i .un).length = _
    rw [List.length_set, unAll_len G is]
/-- for, whose body writes none but the names is -/
theorem ws_forN {ti : TI} {g : TG} {tb : TS} {P : Ds c.S} (is : List Nat) (hG : unAll G is = G) (h : WI c ti G s fun its s1 => ∃ I : Nat → c.S → Prop, I 0 s1 ∧
      (∀ i d si, its[i]? = some d → I i si → ∃ js G', Tg c g js d G G' ∧ WS c tb G' si { nx := fun Gn sn => unAll Gn is = G ∧ I (i + 1) sn, ct := fun Gn sn => unAll Gn is = G ∧ I (i + 1) sn, bk := P.nx, rt := P.rt }) ∧
      ∀ Gn sn, unAll Gn is = G → I its.length sn → P.nx Gn sn) : WS c (tFor ti g tb) G s P := by
  refine ws_for fun σ F H0 H gd R q => h σ F H0 H gd R fun its s1 J H0' H' Gw Y hp => q its s1 J H0' H' Gw Y ?_
  obtain ⟨I, h0, hs, hd⟩ := hp
  refine ⟨fun i Gi si => unAll Gi is = G ∧ I i si, ⟨hG, h0⟩, fun i d Gi si hdd hl hI => ?_, fun Gn sn hl hI => hd Gn sn hI.1 hI.2⟩
  obtain ⟨js, G', t, hb⟩ := hs i d si hdd hI.2
  refine ⟨js, G', fun s σ F H0 H v gg r Q k => t s σ F H0 H v (by rw [← hI.1]; exact gg.un is) r Q k, hb⟩
end
end DL
/-! DLu: for with values that go along; letters drawn; rows put together -/
namespace DL
open PySem PySem.Spec PyProof.Rows L2
section
variable {c : Ct} {G : List Sl} {s : c.S}
theorem ws_un {t : TS} {P : Ds c.S} (is : List Nat) (h : WS c t (unAll G is) s P) : WS c t G s P := fun σ H0 H g D e => h σ H0 H ((Gd.of g).un is).to D (by rw [unAll_len]; exact e)
/-- for, with a value b that tells what the names hold -/
theorem ws_forG {β : Type} {ti : TI} {g : TG} {tb : TS} {P : Ds c.S} (is : List Nat) (Gs : β → List Sl) (b0 : β) (hG : G = Gs b0) (h : WI c ti G s fun its s1 => ∃ I : Nat → β → c.S → Prop, I 0 b0 s1 ∧ unAll G is = G ∧
      (∀ i d b si, its[i]? = some d → I i b si → ∃ js G', Tg c g js d (Gs b) G' ∧ WS c tb G' si { nx := fun Gn sn => ∃ b', unAll Gn is = Gs b' ∧ I (i + 1) b' sn, ct := fun Gn sn => ∃ b', unAll Gn is = Gs b' ∧ I (i + 1) b' sn, bk := P.nx, rt := P.rt }) ∧
      ∀ Gn b sn, unAll Gn is = Gs b → I its.length b sn → P.nx Gn sn) : WS c (tFor ti g tb) G s P := by
  refine ws_for fun σ F H0 H gd R q => h σ F H0 H gd R fun its s1 J H0' H' Gw Y hp => q its s1 J H0' H' Gw Y ?_
  obtain ⟨I, h0, hu, hs, hd⟩ := hp
  refine ⟨fun i Gi si => ∃ b, unAll Gi is = Gs b ∧ I i b si, ⟨b0, by rw [hu, hG], h0⟩, fun i d Gi si hdd hl hI => ?_, fun Gn sn hl hI => ?_⟩
  · obtain ⟨b, hb, hI⟩ := hI
    obtain ⟨js, G', t, hb'⟩ := hs i d b si hdd hI
    exact ⟨js, G', fun s σ F H0 H v gg r Q k => t s σ F H0 H v (by rw [← hb]; exact gg.un is) r Q k, hb'⟩
  · obtain ⟨b, hb, hI⟩ := hI
    exact hd Gn b sn hb hI
end
theorem cut_mid (l : LRow) (i j : Nat) (h : i ≤ j) : cutS (rowS l) (some ((i : Nat) : Int)) (some ((j : Nat) : Int)) = rowS ((l.drop i).take (j - i)) := by
  unfold cutS
  rw [HT.sIx_nat, HT.sIx_nat, rowS_len]
  show rowS _ = _
  congr 1
  show (l.drop (min i l.length)).take (min j l.length - min i l.length) = _
  by_cases hi : i ≤ l.length
  · rw [Nat.min_eq_left hi]
    by_cases hj : j ≤ l.length
    · rw [Nat.min_eq_left hj]
    · rw [Nat.min_eq_right (by omega), List.take_of_length_le (by rw [List.length_drop]; omega), List.take_of_length_le (by rw [List.length_drop]; omega)]
  · rw [Nat.min_eq_right (by omega), Nat.min_eq_right (by omega), Nat.sub_self, List.take_zero, List.drop_of_length_le (show l.length ≤ i by omega), List.take_nil]
end DL
/-! DLv: the pool as a ground beside another; the law itself -/
namespace DL
open PySem PySem.Spec PyProof.Rows L2
theorem ok_resG {P : Program} {w : World} {K : PySem.W.Frag} {mg : Str → Option Value} {base : Heap} {x qual : Str} {st : Stmt} {f : Addr} {fd : FuncData} {N ps : List Str} {k : Nat} {r : Res} (fs : RSpec r) (F : Fun K x qual st f fd) (S : FnScope N ps (defScope st)) (hl : ∀ p ds s P XP, fs p ds s P XP → (ds.length + 1) = ps.length)
    (hbody : ∀ (cdv : Value) (A : Around) (outer : List Env) (s : Shared) (H : Hp) (E : XK), A.guards = some [] → Room k (A.deeper (envOfC qual (defScope st) s.heap.objs.size f cdv)) →
      ∃ t, PSs (cxOf CX0 P w K mg base N qual (defScope st) f cdv A outer s H E).nox (defBody st) t ∧
        ∀ p ds s0 Q XP, fs p ds s0 Q XP → ∀ H0 okX, WS (resCt K r p H0 H E XP okX) t ((.ref p :: ds).map Sl.dat ++ List.replicate (N.length - (ds.length + 1)) .un) s0 { nx := fun _ s1 => Q (.dat .non) s1, rt := Q }) : FnG P w K mg base CX0 (k + 1) f fd ps (ResSp K r fs) := by
  refine okG F S (fun vs H Q E h => ?_) (fun cdv A outer s H vs Q E hg hr h => ?_)
  · obtain ⟨p, ds, s, P, XP, hf, H0, _, _, ra, _⟩ := h
    rw [ra.len]
    exact hl _ _ _ _ _ hf
  · obtain ⟨t, ht, hb⟩ := hbody cdv A outer s H E hg hr
    refine ⟨t, ht.nox, ?_⟩
    obtain ⟨p, ds, s0, P, XP, hf, H0, sub, av, ra, rs, kQ, kX⟩ := h
    have hw := hb p ds s0 P XP hf H0 kX
    refine hw _ _ _ (Good.start (c := resCt K r p H0 H E XP kX) (N := N) ra sub av rs) _ ⟨fun G s1 σ H0' H' hp g _ _ => ?_, fun y s1 v G σ H0' H' hp g ro => ?_, fun _ _ _ _ _ h => h.elim, fun _ _ _ _ _ h => h.elim⟩
    · exact kQ _ s1 _ H0' H' hp ⟨g.e0, g.sub, g.e1, g.e2, g.av, g.rs⟩ .non
    · refine kQ _ s1 _ H0' H' hp ⟨g.e0, g.sub, g.e1, g.e2, g.av, g.rs⟩ ?_
      cases y with
      | un => trivial
      | dat d => exact ro
      | own w =>
        obtain ⟨a, rfl, ⟨n0, n1, nb, u, hu, k⟩, _⟩ := ro
        exact ⟨a, rfl, n0, n1, nb, u, hu, k⟩
/-! ### the pool beside a ground -/
structure NewP (c : Ct) (p : Addr) : Prop where
  e : c.E p = none
  b : ¬ c.B p
abbrev poolCt (c : Ct) (p : Addr) (hn : NewP c p) : Ct where
  K := c.K
  S := c.S × Nat
  R := fun s H0 H => c.R s.1 H0 H ∧ poolR p s.2 H0 H
  B := fun a => c.B a ∨ a = p
  stab := fun s H0 H H0' H' h e k => ⟨c.stab _ _ _ _ _ h.1 e fun a o hb => k a o (.inl hb), poolRes.stab p s.2 H0 H H0' H' h.2 e fun a o hb => k a o (.inr hb)⟩
  there := fun s H0 H a h hb => hb.elim (fun hb => c.there _ _ _ _ h.1 hb) fun hb => poolRes.there p s.2 H0 H a h.2 hb
  E0 := c.E0
  E := c.E
  EX := c.EX
  X := fun C d s => c.X C d s.1
  okX := fun C d s v a H0' H' x e sub k n av rs ha r => c.okX C d s.1 v a H0' H' x e sub (fun b o hE hb => k b o hE fun z => by
    rcases z with z | z
    · exact hb z
    · rw [z, hn.e] at hE; cases hE) n (fun b hb => av b (.inl hb)) rs.1 ha r
section
variable {c : Ct} {G : List Sl} {s : c.S} {p : Addr} {hn : NewP c p}
theorem onP : CtR (poolCt c p hn) poolRes p Prod.snd (fun s t => (s.1, t)) where
  B := fun a h => .inr h
  R := fun _ _ _ h => h.2
  back := fun s t H0 H H0' H' h av st => ⟨⟨c.stab _ _ _ _ _ h.1 st.ex fun a o hb ho => st.fr a o ho fun z => hn.b ((show a = p from z) ▸ hb), st.rs⟩, fun a hb => by
    rcases hb with hb | hb
    · exact st.nw a (c.there _ _ _ _ h.1 hb) (av a (.inl hb))
    · exact st.av a hb⟩
theorem SlOk.outP {H0 H : Hp} {o : Option V} {x : Sl} (h : SlOk (poolCt c p hn) H0 H o x) : SlOk c H0 H o x := by
  cases x with
  | un => trivial
  | dat d => exact h
  | own u =>
    obtain ⟨q, h1, h2, h3, h4, h5⟩ := h
    exact ⟨q, h1, h2, h3, fun z => h4 (.inl z), h5⟩
theorem Good.outP {s : c.S × Nat} {σ : L2.St} {H0 H : Hp} (g : Good (poolCt c p hn) G s σ H0 H) : Good c G s.1 σ H0 H where
  sub := g.sub
  av := fun a hb => g.av a (.inl hb)
  e0 := g.e0
  e1 := fun a o hE hb => g.e1 a o hE fun z => by
    rcases z with z | z
    · exact hb z
    · have hE : c.E a = some o := hE
      rw [z, hn.e] at hE; cases hE
  e2 := g.e2
  rs := g.rs.1
  len := g.len
  sl := fun i x hx => SlOk.outP (g.sl i x hx)
  ds := g.ds
theorem ROk.outP {σ : L2.St} {H0 H : Hp} {v : V} {x : Sl} (h : ROk (poolCt c p hn) G σ H0 H v x) : ROk c G σ H0 H v x := by
  cases x with
  | un => trivial
  | dat d => exact h
  | own u =>
    obtain ⟨q, h1, ⟨h2, h3, h4, h5⟩, h6⟩ := h
    exact ⟨q, h1, ⟨h2, h3, fun z => h4 (.inl z), h5⟩, h6⟩
theorem EOk.outP {D : Ends} {P : Ds c.S} {H0 : Hp} {n : Nat} (e : EOk c D P H0 n) : EOk (poolCt c p hn) D ⟨fun G s => P.nx G s.1, fun x s => P.rt x s.1, fun G s => P.bk G s.1, fun G s => P.ct G s.1⟩ H0 n where
  nx := fun G s σ H0' H a b d l => e.nx G s.1 σ H0' H a b.outP d l
  rt := fun x s v G σ H0 H a b r => e.rt x s.1 v G σ H0 H a b.outP r.outP
  bk := fun G s σ H0' H a b d l => e.bk G s.1 σ H0' H a b.outP d l
  ct := fun G s σ H0' H a b d l => e.ct G s.1 σ H0' H a b.outP d l
/-- a list of three ints that a name holds for itself is the pool from here on -/
theorem ws_openPool {P : Ds c.S} {u : TS} {i n : Nat} {x y m : Int} (hi : G[i]? = some (.own (.lst [.int x, .int y, .int m]))) (h1 : 0 ≤ x) (h2 : 0 ≤ y) (h3 : y < 2 ^ 62) (h4 : 0 ≤ m) (h5 : m + n ≤ 1000000000000)
    (h : ∀ p hn, WS (poolCt c p hn) u (G.set i (.dat (.ref p))) (s, n) ⟨fun G s => P.nx G s.1, fun x s => P.rt x s.1, fun G s => P.bk G s.1, fun G s => P.ct G s.1⟩) : WS c u G s P := fun σ H0 H gd D e => by
  obtain ⟨p, hp, o1, o2, o3, v, hv, hk⟩ := gd.ownAt hi
  have hil : i < G.length := (List.getElem?_eq_some_iff.mp hi).1
  cases v with
  | lst vs =>
    have ev : vs = [.int x, .int y, .int m] := RepAll.ints (ns := [x, y, m]) hk
    subst ev
    refine h p ⟨o2, o3⟩ σ H0 H ?_ D (by rw [List.length_set]; exact e.outP)
    exact {
      sub := gd.sub
      av := fun a hb => by
        rcases hb with hb | rfl
        · exact gd.av a hb
        · exact o1
      e0 := gd.e0
      e1 := fun a o hE hb => gd.e1 a o hE fun z => hb (.inl z)
      e2 := gd.e2
      rs := ⟨gd.rs, x, y, m, hv, h1, h2, h3, h4, h5⟩
      len := by rw [List.length_set]; exact gd.len
      sl := fun j z hz => by
        by_cases hij : i = j
        · subst hij
          rw [List.getElem?_set_self hil] at hz
          cases hz
          exact ⟨.ref p, by rw [hp]; rfl, .ref p⟩
        · rw [List.getElem?_set_ne hij] at hz
          have q := gd.sl j z hz
          cases z with
          | un => trivial
          | dat d => exact q
          | own w =>
            obtain ⟨r, q1, q2, q3, q4, q5⟩ := q
            refine ⟨r, q1, q2, q3, fun b => ?_, q5⟩
            rcases b with b | b
            · exact q4 b
            · subst b
              refine gd.ds i j r _ w hij hi hz hp ?_
              cases hs : σ[j]? with
              | none =>
                rw [hs] at q1
                cases q1
              | some t =>
                rw [hs] at q1
                exact congrArg some q1
      ds := fun a b q w w' hab ha hb => by
        have ha2 : G[a]? = some (.own w) := by
          by_cases hia : i = a
          · subst hia
            rw [List.getElem?_set_self hil] at ha
            cases ha
          · rw [List.getElem?_set_ne hia] at ha
            exact ha
        have hb2 : G[b]? = some (.own w') := by
          by_cases hib : i = b
          · subst hib
            rw [List.getElem?_set_self hil] at hb
            cases hb
          · rw [List.getElem?_set_ne hib] at hb
            exact hb
        exact gd.ds a b q w w' hab ha2 hb2 }
  | _ => exact False.elim hk
/-- len(script) -/
theorem we_lenScript {P : Sl → c.S → Prop} {i : Nat} {a : Addr} {ns : List Int} (hi : G[i]? = some (.dat (.ref a))) (hS : SqL c.K c.E0 a (ns.map V.int)) (k : P (.dat (.int ns.length)) s) : WE c (tCB (qLen c.K) (tCons (tVar i) tNil)) G s P := fun σ F H0 H g Q q => by
  obtain ⟨v, h1, r⟩ := g.at hi
  cases r
  have hS2 : SqL c.K H a (ns.map V.int) := (g.gd.e0.trans g.gd.sub).seq hS
  exact ⟨_, h1, .ref a, ns.length, rfl, .inl ⟨_, hS2, by rw [List.length_map]⟩, q _ s _ H0 H k g (Same.refl _) (.int _)⟩
/-- _law_pool(script, spot) -/
theorem we_pool {P : Sl → c.S → Prop} {i j : Nat} {a : Addr} {ns : List Int} {t : Nat} {E : XK} (hi : G[i]? = some (.dat (.ref a))) (hj : G[j]? = some (.dat (.int ((t : Nat) : Int)))) (ht : t ≤ 100) (hS : SqL c.K c.E0 a (ns.map V.int))
    (k : ∀ x y : Int, 0 ≤ x → 0 ≤ y → y < 2 ^ 62 → P (.own (.lst [.int x, .int y, .int 0])) s) : WE c (tCall (spPool c.K) [] E (tCons (tVar i) (tCons (tVar j) tNil))) G s P := fun σ F H0 H g Q q => by
  obtain ⟨v, h1, r⟩ := g.at hi
  obtain ⟨v2, h2, r2⟩ := g.at hj
  cases r
  cases r2
  have hS2 : SqL c.K H a (ns.map V.int) := (g.gd.e0.trans g.gd.sub).seq hS
  refine ⟨_, h1, _, h2, a, ns, t, rfl, hS2, ht, fun p x y H' hp hs hl x0 y0 y1 => ?_⟩
  obtain ⟨n1, n2, n3⟩ := g.gd.newE hp
  have g2 : Gd c G s σ F H0 H' := ⟨g.ln, g.gd.ext (Same.refl _) (g.gd.sub.trans hs) hs (fun _ _ h => h) fun a hb _ => g.gd.av a hb⟩
  exact q _ s _ H0 H' (k x y x0 y0 y1) g2 (Same.refl _) ⟨p, rfl, ⟨n3, n1, n2, _, hl, RepAll.ofInts [x, y, 0]⟩, g.gd.apart hp⟩
end
/-- _law_fits -/
abbrev fitsS : RSpec poolRes := fun _ ds (n : Nat) P _ => ds = [] ∧ 1000000 ≤ n ∧ ∀ n' : Nat, n ≤ n' + 1000000 → P (.dat (.bl true)) n'
/-- law -/
def spLaw (K : PySem.W.Frag) : Sp := fun vs H Q _ => ∃ (a : Addr) (ns : List Int), vs = [.ref a] ∧ SqL K H a (ns.map V.int) ∧ ns.length ≤ 63 ∧ ∀ H', Q (.bl true) H'
/-- a row of letters, not too long -/
def LetRow (l : LRow) (L : Nat) : Prop := (∀ a ∈ l, a ∈ ("abcdefghijklmnopqrstuvwxyz" : Str).cps.toList) ∧ l.length ≤ L
/-- a row of letters -/
def Letters (l : LRow) : Prop := (∀ a ∈ l, a ∈ ("abcdefghijklmnopqrstuvwxyz" : Str).cps.toList) ∧ l.length ≤ 1000
theorem names_str (x : Str) (h0 : 0 < x.cps.toList.length) (h1 : x.cps.toList.length ≤ 1000) : Names (.str x) x.cps.toList := ⟨fun z => by rw [z] at h0; exact absurd h0 (by simp), h1, .inl (by rw [Array.toArray_toList])⟩
/-- _law_pair_of_lines -/
abbrev pairS : RSpec poolRes := fun _ ds (n : Nat) P _ => ∃ L : Nat, ds = [.int ((L : Nat) : Int)] ∧ L ≤ 60 ∧ 1000 ≤ n ∧ ∀ (l m : LRow) (n' : Nat), LetRow l L → LetRow m L → n ≤ n' + 1000 → P (.dat (.tup [.str (rowS l), .str (rowS m)])) n'
theorem law_run {K : PySem.W.Frag} {H : Hp} {E : XK} {a : Addr} {N : List Str} {t : TS} {Q : VK} (h : ∀ okX, WS (pureCt K H H E (fun _ _ => False) okX) t ([.dat (.ref a)] ++ List.replicate (N.length - 1) .un) () { nx := fun _ _ => False, rt := fun x _ => x = .dat (.bl true) })
    (k : ∀ H', Q (.bl true) H') : t { nx := fun _ H' => Q .non H', rt := Q } (start N [.ref a]) H := by
  have g0 : Good (pureCt K H H E (fun _ _ => False) (fun _ _ _ _ _ _ _ x => x.elim)) ([.dat (.ref a)] ++ List.replicate (N.length - 1) .un) () (start N [.ref a]) H H :=
    Good.start (c := pureCt K H H E (fun _ _ => False) (fun _ _ _ _ _ _ _ x => x.elim)) (vs := [.ref a]) (ds := [.ref a]) (N := N) (.cons (.ref a) .nil) (Same.refl _) (fun _ h => h.elim) trivial
  refine h _ _ _ _ g0 _ ⟨fun _ _ _ _ _ h => h.elim, fun y s1 v G σ H0' H' hp g ro => ?_, fun _ _ _ _ _ h => h.elim, fun _ _ _ _ _ h => h.elim⟩
  subst hp
  cases ro
  exact k H'
end DL
/-! DLw: callees made, the walk's end -/
namespace DL
open PySem PySem.Spec PyProof.Rows L2
section
variable {P : Program} {w : World} {K : PySem.W.Frag} {mg : Str → Option Value} {base : Heap} {x : Str} {ps : List Str} {k : Nat} {sp : Sp} {f : Addr} {fd : FuncData}
theorem mkC (ok : FnOk P w K mg base CX0 k f fd ps sp) (m : mg x = some (.ref f)) (kp : PySem.W.keepIn K (.ref f) = true) (bd : Binds K fd ps []) : Callee P w K mg base CX0 x ps k sp f fd := ⟨ok, m, kp, bd, fun _ _ _ => pass0⟩
theorem mkG (ok : FnG P w K mg base CX0 k f fd ps sp) (m : mg x = some (.ref f)) (kp : PySem.W.keepIn K (.ref f) = true) (bd : Binds K fd ps []) : CalleeG P w K mg base CX0 x ps k sp f fd := ⟨ok, m, kp, bd, fun _ _ _ => pass0⟩
theorem FnOk_none (h : ∀ vs H Q E, ¬ sp vs H Q E) : FnOk P w K mg base CX0 k f fd ps sp := ⟨fun vs H Q E q => (h _ _ _ _ q).elim, fun A outer s H args us vs Q E _ _ _ _ q => (h _ _ _ _ q).elim⟩
theorem KB.of {qual : Str} {st : Stmt} {ks : List Str} {perm : List Nat} (F : Fun K x qual st f fd)
    (h : ∀ (kV doc pm : Value) (an : Option Addr) (cdv ct : Value) (ws : List Value), ws.length = ks.length → bindArgs (PySem.W.fnOf x qual (defArgs st) (defBody st) (defScope st) .none kV doc pm an cdv ct) ⟨[], ks.zip ws⟩ = pure (ps.zip (pick perm ws))) : KB fd ps ks perm := by
  obtain ⟨oc, od, kV, doc, pm, an, cdv, ct, osl, rfl, lk, hcd⟩ := F.ex
  exact fun ws hl => h kV doc pm an cdv ct ws hl
end
end DL
/-! DLx: laws of rows alike to a depth: put together, turned, renamed, repeated -/
namespace DL
theorem Alike.less : ∀ {d : Nat} {l m : LRow}, Alike (d + 1) l m → Alike d l m
  | 0, _, _, _ => trivial
  | d + 1, l, m, h => ⟨fun i a ha => by
      obtain ⟨j, h1, h2, h3⟩ := h.1 i a ha
      exact ⟨j, h1, h2.less, h3.less⟩, fun i a ha => by
      obtain ⟨j, h1, h2, h3⟩ := h.2 i a ha
      exact ⟨j, h1, h2.less, h3.less⟩⟩
theorem Alike.mono {d e : Nat} (h : e ≤ d) {l m : LRow} (k : Alike d l m) : Alike e l m := by
  induction d with
  | zero => rw [Nat.le_zero.mp h]; trivial
  | succ d ih =>
    by_cases he : e = d + 1
    · rw [he]
      exact k
    · exact ih (by omega) k.less
theorem half_app {d : Nat} {a b x y : LRow} (ih : ∀ {a b x y : LRow}, Alike d a b → Alike d x y → Alike d (a ++ x) (b ++ y)) (h1 : Alike (d + 1) a b) (h2 : Alike (d + 1) x y) (i t : Nat) (ht : (a ++ x)[i]? = some t) :
    ∃ j, (b ++ y)[j]? = some t ∧ Alike d ((a ++ x).take i) ((b ++ y).take j) ∧ Alike d ((a ++ x).drop (i + 1)) ((b ++ y).drop (j + 1)) := by
  by_cases hi : i < a.length
  · rw [List.getElem?_append_left hi] at ht
    obtain ⟨j, q1, q2, q3⟩ := h1.1 i t ht
    have hj := (List.getElem?_eq_some_iff.mp q1).1
    refine ⟨j, by rw [List.getElem?_append_left hj]; exact q1, ?_, ?_⟩
    · rw [List.take_append_of_le_length (by omega), List.take_append_of_le_length (by omega)]
      exact q2
    · rw [List.drop_append_of_le_length (by omega), List.drop_append_of_le_length (by omega)]
      exact ih q3 h2.less
  · rw [List.getElem?_append_right (by omega)] at ht
    obtain ⟨j, q1, q2, q3⟩ := h2.1 _ t ht
    refine ⟨b.length + j, by rw [List.getElem?_append_right (by omega), Nat.add_sub_cancel_left]; exact q1, ?_, ?_⟩
    · rw [List.take_append, List.take_append, List.take_of_length_le (show a.length ≤ i by omega), List.take_of_length_le (show b.length ≤ b.length + j by omega), Nat.add_sub_cancel_left]
      exact ih h1.less q2
    · rw [List.drop_append, List.drop_append, List.drop_of_length_le (show a.length ≤ i + 1 by omega), List.drop_of_length_le (show b.length ≤ b.length + j + 1 by omega), List.nil_append, List.nil_append, show i + 1 - a.length = i - a.length + 1 by omega, show b.length + j + 1 - b.length = j + 1 by omega]
      exact q3
theorem Alike.app : ∀ {d : Nat} {a b x y : LRow}, Alike d a b → Alike d x y → Alike d (a ++ x) (b ++ y)
  | 0, _, _, _, _, _, _ => trivial
  | _ + 1, _, _, _, _, h1, h2 => ⟨fun i t ht => half_app (fun p q => Alike.app p q) h1 h2 i t ht, fun i t ht => half_app (fun p q => Alike.app p q) h1.symm h2.symm i t ht⟩
theorem half_map {f : Nat → Nat} {d : Nat} {l m : LRow} (ih : ∀ {l m : LRow}, Alike d l m → Alike d (l.map f) (m.map f)) (h : Alike (d + 1) l m) (i t : Nat) (ht : (l.map f)[i]? = some t) :
    ∃ j, (m.map f)[j]? = some t ∧ Alike d ((l.map f).take i) ((m.map f).take j) ∧ Alike d ((l.map f).drop (i + 1)) ((m.map f).drop (j + 1)) := by
  rw [List.getElem?_map] at ht
  cases e : l[i]? with
  | none => rw [e] at ht; cases ht
  | some a =>
    rw [e] at ht
    obtain ⟨j, q1, q2, q3⟩ := h.1 i a e
    refine ⟨j, by rw [List.getElem?_map, q1]; exact ht, ?_, ?_⟩
    · rw [← List.map_take, ← List.map_take]
      exact ih q2
    · rw [← List.map_drop, ← List.map_drop]
      exact ih q3
theorem Alike.map (f : Nat → Nat) : ∀ {d : Nat} {l m : LRow}, Alike d l m → Alike d (l.map f) (m.map f)
  | 0, _, _, _ => trivial
  | _ + 1, _, _, h => ⟨fun i t ht => half_map (fun p => Alike.map f p) h i t ht, fun i t ht => half_map (fun p => Alike.map f p) h.symm i t ht⟩
/-- so many times -/
def rep (w : LRow) (n : Nat) : LRow := (List.replicate n w).flatten
theorem rep_len (w : LRow) (n : Nat) : (rep w n).length = n * w.length := by
  unfold rep
  rw [List.length_flatten, List.map_replicate, List.sum_replicate_nat]
theorem rep_add (w : LRow) (m n : Nat) : rep w (m + n) = rep w m ++ rep w n := by
  unfold rep
  rw [← List.replicate_append_replicate, List.flatten_append]
theorem rep_one (w : LRow) : rep w 1 = w := by simp [rep]
/-- a place of a repeat: how often ahead of it -/
theorem rep_split (w : LRow) (m q : Nat) (h : q < m) : rep w m = rep w q ++ (w ++ rep w (m - 1 - q)) := by
  have e : m = q + (1 + (m - 1 - q)) := by omega
  conv => lhs; rw [e]
  rw [rep_add, rep_add, rep_one]
theorem rep_at (w : LRow) (m i t : Nat) (h : (rep w m)[i]? = some t) : ∃ q r, q < m ∧ w[r]? = some t ∧ (rep w m).take i = rep w q ++ w.take r ∧ (rep w m).drop (i + 1) = w.drop (r + 1) ++ rep w (m - 1 - q) ∧ i = q * w.length + r := by
  have hi := (List.getElem?_eq_some_iff.mp h).1
  rw [rep_len] at hi
  have hw : 0 < w.length := Nat.pos_of_ne_zero fun z => by rw [z, Nat.mul_zero] at hi; omega
  have hq : i / w.length < m := Nat.div_lt_of_lt_mul (by rw [Nat.mul_comm]; exact hi)
  have hr := Nat.mod_lt i hw
  have ei : i = i / w.length * w.length + i % w.length := by rw [Nat.mul_comm]; exact (Nat.div_add_mod i w.length).symm
  have hs := rep_split w m _ hq
  have hl := rep_len w (i / w.length)
  refine ⟨i / w.length, i % w.length, hq, ?_, ?_, ?_, ei⟩
  · rw [hs, List.getElem?_append_right (by omega), hl, show i - i / w.length * w.length = i % w.length by omega, List.getElem?_append_left hr] at h
    exact h
  · rw [hs, List.take_append, List.take_of_length_le (by omega), hl, show i - i / w.length * w.length = i % w.length by omega, List.take_append_of_le_length (by omega)]
  · rw [hs, List.drop_append, List.drop_of_length_le (by omega), hl, show i + 1 - i / w.length * w.length = i % w.length + 1 by omega, List.nil_append, List.drop_append_of_le_length (by omega)]
theorem rep_get (w : LRow) (n q r t : Nat) (hq : q < n) (hr : w[r]? = some t) : ∃ j, (rep w n)[j]? = some t ∧ (rep w n).take j = rep w q ++ w.take r ∧ (rep w n).drop (j + 1) = w.drop (r + 1) ++ rep w (n - 1 - q) := by
  have hs := rep_split w n q hq
  have hl := rep_len w q
  have hrl := (List.getElem?_eq_some_iff.mp hr).1
  refine ⟨q * w.length + r, ?_, ?_, ?_⟩
  · rw [hs, List.getElem?_append_right (by omega), hl, Nat.add_sub_cancel_left, List.getElem?_append_left hrl]
    exact hr
  · rw [hs, List.take_append, List.take_of_length_le (by omega), hl, Nat.add_sub_cancel_left, List.take_append_of_le_length (by omega)]
  · rw [hs, List.drop_append, List.drop_of_length_le (by omega), hl, show q * w.length + r + 1 - q * w.length = r + 1 by omega, List.nil_append, List.drop_append_of_le_length (by omega)]
/-- equal times, or both great -/
def Enough (d m n : Nat) : Prop := m = n ∨ (2 ^ d - 1 ≤ m ∧ 2 ^ d - 1 ≤ n)
theorem two_pow (d : Nat) : 2 ^ (d + 1) - 1 = 2 * (2 ^ d - 1) + 1 := by
  have := Nat.one_le_two_pow (n := d)
  rw [Nat.pow_succ]
  omega
/-- the answer's number of repeats ahead -/
theorem enough_step {d m n q : Nat} (h : Enough (d + 1) m n) (hq : q < m) : ∃ q', q' < n ∧ Enough d q q' ∧ Enough d (m - 1 - q) (n - 1 - q') := by
  rcases h with rfl | ⟨h1, h2⟩
  · exact ⟨q, hq, .inl rfl, .inl rfl⟩
  · rw [two_pow] at h1 h2
    unfold Enough
    generalize 2 ^ d - 1 = t at h1 h2 ⊢
    by_cases a : q < t
    · exact ⟨q, by omega, .inl rfl, .inr ⟨by omega, by omega⟩⟩
    · by_cases b : m - 1 - q < t
      · exact ⟨n - 1 - (m - 1 - q), by omega, .inr ⟨by omega, by omega⟩, .inl (by omega)⟩
      · exact ⟨t, by omega, .inr ⟨by omega, by omega⟩, .inr ⟨by omega, by omega⟩⟩
theorem half_rep {w : LRow} {d m n : Nat} (ih : ∀ {m n : Nat}, Enough d m n → Alike d (rep w m) (rep w n)) (h : Enough (d + 1) m n) (i t : Nat) (ht : (rep w m)[i]? = some t) :
    ∃ j, (rep w n)[j]? = some t ∧ Alike d ((rep w m).take i) ((rep w n).take j) ∧ Alike d ((rep w m).drop (i + 1)) ((rep w n).drop (j + 1)) := by
  obtain ⟨q, r, hq, hr, e1, e2, _⟩ := rep_at w m i t ht
  obtain ⟨q', hq', n1, n2⟩ := enough_step h hq
  obtain ⟨j, hj, f1, f2⟩ := rep_get w n q' r t hq' hr
  refine ⟨j, hj, ?_, ?_⟩
  · rw [e1, f1]
    exact (ih n1).app (Alike.refl _ _)
  · rw [e2, f2]
    exact (Alike.refl _ _).app (ih n2)
theorem alike_rep (w : LRow) : ∀ {d m n : Nat}, Enough d m n → Alike d (rep w m) (rep w n)
  | 0, _, _, _ => trivial
  | _ + 1, _, _, h => ⟨fun i t ht => half_rep (fun p => alike_rep w p) h i t ht, fun i t ht => half_rep (fun p => alike_rep w p) (by rcases h with h | h; exact .inl h.symm; exact .inr ⟨h.2, h.1⟩) i t ht⟩
open PySem PySem.Spec PyProof.Rows L2 in
theorem repS_row (l : LRow) (n : Nat) : repS (rowS l) ((n : Nat) : Int) = rowS (rep l n) := by
  unfold repS rep rowS
  rw [Int.toNat_natCast]
open PySem in
/-- a drawn row, as a list of letters -/
theorem RowIn.row {A : List Nat} {n : Nat} {x : Str} (h : RowIn A n x) : ∃ l : LRow, x = rowS l ∧ (∀ a ∈ l, a ∈ A) ∧ l.length ≤ n := ⟨x.cps.toList, rowS_of x, h.1, by have := h.2; simpa [PySem.Str.length] using this⟩
end DL
/-! DLy: the place of a text in a text -/
namespace DL
open PySem PySem.Spec PyProof.Rows L2
section
variable {c : Ct} {G : List Sl} {s : c.S} {P : Sl → c.S → Prop}
theorem dl_row {l : LRow} (hl : l.length ≤ 1000000) (k : P (.dat (.int l.length)) s) : DCB c (qLen c.K) [.str (rowS l)] G s P := dl_str (by rw [rowS_len]; exact hl) (by rw [rowS_len]; exact k)
end
end DL
/-! DLz: unlike rows are parted; the least depth that parts -/
namespace DL
open PySem PySem.Spec PyProof.Rows L2
/-- d is the least depth that parts the rows -/
def Parts (d : Nat) (l m : LRow) : Prop := ¬ Alike d l m ∧ ∀ e, e < d → Alike e l m
theorem Parts.one {d e : Nat} {l m : LRow} (h : Parts d l m) (k : Parts e l m) : d = e := by
  rcases Nat.lt_trichotomy d e with q | q | q
  · exact absurd (k.2 d q) h.1
  · exact q
  · exact absurd (h.2 e q) k.1
theorem Parts.pos {d : Nat} {l m : LRow} (h : Parts d l m) : 1 ≤ d := by
  cases d with
  | zero => exact absurd trivial h.1
  | succ d => omega
theorem Parts.symm {d : Nat} {l m : LRow} (h : Parts d l m) : Parts d m l := ⟨fun z => h.1 z.symm, fun e he => (h.2 e he).symm⟩
abbrev partingS : FSpec := fun ds P _ => ∃ (l m : LRow), ds = [.str (rowS l), .str (rowS m)] ∧ Letters l ∧ Letters m ∧ l.length ≤ 60 ∧ m.length ≤ 60 ∧ (l = m → P (.dat .non)) ∧ ∀ d : Nat, l ≠ m → d ≤ 6 → Parts d l m → P (.dat (.int ((d : Nat) : Int)))
theorem ws_join {c : Ct} {G : List Sl} {s : c.S} {P : Ds c.S} {t : TS} {β : Type} (J : β → List Sl → c.S → Prop) (h : WS c t G s { P with nx := fun G s => ∃ b, J b G s }) (k : ∀ b G s, J b G s → P.nx G s) : WS c t G s P :=
  WS.mono h (fun G s ⟨b, hb⟩ => k b G s hb) (fun _ _ h => h) (fun _ _ h => h) fun _ _ h => h
end DL
/-! DMa: a dict with nested keys: in, not in, d[k], d[k] = v; as a ground of its own -/
namespace DL
open PySem PySem.Spec PyProof.Rows L2
end DL
/-! DMb: any object of one's own as a ground beside another; dicts with nested keys -/
namespace DL
open PySem PySem.Spec PyProof.Rows L2
/-- objects with one place -/
structure One (r : Res) : Prop where
  b : ∀ p a, r.B p a ↔ a = p
abbrev besCt (c : Ct) (r : Res) (p : Addr) (h1 : One r) (hn : NewP c p) : Ct where
  K := c.K
  S := c.S × r.S
  R := fun s H0 H => c.R s.1 H0 H ∧ r.R p s.2 H0 H
  B := fun a => c.B a ∨ a = p
  stab := fun s H0 H H0' H' h e k => ⟨c.stab _ _ _ _ _ h.1 e fun a o hb => k a o (.inl hb), r.stab p s.2 H0 H H0' H' h.2 e fun a o hb => k a o (.inr ((h1.b p a).mp hb))⟩
  there := fun s H0 H a h hb => hb.elim (fun hb => c.there _ _ _ _ h.1 hb) fun hb => r.there p s.2 H0 H a h.2 ((h1.b p a).mpr hb)
  E0 := c.E0
  E := c.E
  EX := c.EX
  X := fun C d s => c.X C d s.1
  okX := fun C d s v a H0' H' x e sub k n av rs ha rr => c.okX C d s.1 v a H0' H' x e sub (fun b o hE hb => k b o hE fun z => by
    rcases z with z | z
    · exact hb z
    · rw [z, hn.e] at hE; cases hE) n (fun b hb => av b (.inl hb)) rs.1 ha rr
section
variable {c : Ct} {G : List Sl} {s : c.S} {r : Res} {p : Addr} {h1 : One r} {hn : NewP c p}
theorem onB : CtR (besCt c r p h1 hn) r p Prod.snd (fun s t => (s.1, t)) where
  B := fun a h => .inr ((h1.b p a).mp h)
  R := fun _ _ _ h => h.2
  back := fun s t H0 H H0' H' h av st => ⟨⟨c.stab _ _ _ _ _ h.1 st.ex fun a o hb ho => st.fr a o ho fun z => hn.b ((show a = p from (h1.b p a).mp z) ▸ hb), st.rs⟩, fun a hb => by
    rcases hb with hb | hb
    · exact st.nw a (c.there _ _ _ _ h.1 hb) (av a (.inl hb))
    · exact st.av a ((h1.b p a).mpr hb)⟩
/-- what holds of the ground beneath holds beside it -/
theorem onU {r' : Res} {q : Addr} {to : c.S → r'.S} {put : c.S → r'.S → c.S} (hc : CtR c r' q to put) : CtR (besCt c r p h1 hn) r' q (fun s => to s.1) (fun s t => (put s.1 t, s.2)) where
  B := fun a h => .inl (hc.B a h)
  R := fun s H0 H h => hc.R _ _ _ h.1
  back := fun s t H0 H H0' H' h av st => by
    obtain ⟨b1, b2⟩ := hc.back s.1 t H0 H H0' H' h.1 (fun a hb => av a (.inl hb)) st
    refine ⟨⟨b1, r.stab p s.2 H0 H H0' H' h.2 st.ex fun a o hb ho => st.fr a o ho fun z => hn.b ((h1.b p a).mp hb ▸ hc.B a z)⟩, fun a hb => ?_⟩
    rcases hb with hb | hb
    · exact b2 a hb
    · exact st.nw a (r.there p s.2 H0 H a h.2 ((h1.b p a).mpr hb)) (av a (.inr hb))
end
/-! ### dicts with nested keys -/
abbrev DM := List (D × D)
def dAt (m : DM) (k : D) : Option D := (m.find? fun e => decide (e.1.nk = k.nk)).map (·.2)
def NdRel (K : PySem.W.Frag) (H0 : Hp) (xs : NDs) (m : DM) : Prop := Paired (fun (x : D × Addr × V) (e : D × D) => x.1 = e.1 ∧ Rep K H0 (.ref x.2.1) x.1 ∧ x.1.keyable = true ∧ x.1.nk.depth ≤ 8 ∧ Rep K H0 x.2.2 e.2) xs m
theorem NdRel.mono {K : PySem.W.Frag} {H0 H0' : Hp} {xs : NDs} {m : DM} (e : Same H0 H0') (h : NdRel K H0 xs m) : NdRel K H0' xs m := Paired.mapP h fun _ _ q => ⟨q.1, q.2.1.mono e, q.2.2.1, q.2.2.2.1, q.2.2.2.2.mono e⟩
theorem NdRel.nk {K : PySem.W.Frag} {H0 H : Hp} {xs : NDs} {m : DM} (e : Same H0 H) (h : NdRel K H0 xs m) : NdK K H xs := by
  induction h with
  | nil => exact fun x hx => by simp at hx
  | cons r t ih =>
    intro x hx
    rcases List.mem_cons.mp hx with rfl | hx
    · exact ⟨r.2.1.mono e, r.2.2.1, r.2.2.2.1⟩
    · exact ih x hx
theorem NdRel.at {K : PySem.W.Frag} {H0 : Hp} (k : D) : ∀ {xs : NDs} {m : DM}, NdRel K H0 xs m → (ndAt xs k = none ∧ dAt m k = none) ∨ ∃ v d, ndAt xs k = some v ∧ dAt m k = some d ∧ Rep K H0 v d
  | _, _, .nil => .inl ⟨rfl, rfl⟩
  | _, _, .cons (a := x) (b := e) r t => by
    obtain ⟨r1, _, _, _, r5⟩ := r
    unfold ndAt dAt
    rw [List.find?_cons, List.find?_cons, ← r1]
    by_cases h : x.1.nk = k.nk
    · rw [decide_eq_true h]
      exact .inr ⟨_, _, rfl, rfl, r5⟩
    · rw [decide_eq_false h]
      exact NdRel.at k t
abbrev ndRes (Pg : Program) (w : World) (K : PySem.W.Frag) : Res where
  S := DM
  R := fun p m H0 H => ∃ xs, H p = some (ndO Pg w p xs) ∧ NdRel K H0 xs m
  B := fun p a => a = p
  stab := fun p m H0 H H0' H' h e k => by
    obtain ⟨xs, h1, h2⟩ := h
    exact ⟨xs, k _ _ rfl h1, h2.mono e⟩
  there := fun p m H0 H a h e z => by
    subst e
    obtain ⟨_, q, _⟩ := h
    rw [z] at q
    cases q
/-- such a dict as an object of one's own -/
def ndOwn (Pg : Program) (w : World) (K : PySem.W.Frag) (m : DM) : OV := .ob fun p H0 u => ∃ xs, u = ndO Pg w p xs ∧ NdRel K H0 xs m
section
variable {c : Ct} {G : List Sl} {s : c.S} {P : Sl → c.S → Prop} {Pg : Program} {w : World} {p : Addr} {to : c.S → DM} {put : c.S → DM → c.S}
theorem we_dnewN (k : P (.own (ndOwn Pg w c.K [])) s) : WE c (tDNewN Pg w) G s P := fun σ F H0 H g Q q p hp => q _ s _ H0 _ k (g.push hp) (Same.refl _) (g.rok (u := ndO Pg w p []) hp ⟨H0, Same.refl _, [], rfl, .nil⟩)
variable (hc : CtR c (ndRes Pg w c.K) p to put)
include hc
end
end DL
/-! DMc: sorted(list of tuples (int, text, int)) -/
namespace DL
open PySem PySem.Spec PyProof.Rows L2
section
variable {c : Ct} {G : List Sl} {s : c.S} {P : Sl → c.S → Prop}
/-- tuple(list) -/
theorem db_tuple {ds : List D} (k : P (.dat (.tup ds)) s) : DCB c (qTuple c.K) [.lst ds] G s P := fun σ F H0 H vs gd r Q q => by
  cases r with
  | cons r rs =>
    cases rs
    cases r with
    | lst ha ra =>
      refine ⟨_, _, rfl, .inl ⟨.inl (.inl (gd.gd.sub _ _ ha)), fun l hl => ?_⟩⟩
      obtain ⟨g2, e2⟩ := gd.lay (o := .tup _) hl
      exact q _ s _ _ _ k g2 e2 (.tup (.inl (.inl upd_same)) (ra.mono e2))
end
end DL
/-! DMd: defs on an object that is any of their arguments; kinds by a dict of rows and members -/
namespace DL
open PySem PySem.Spec PyProof.Rows L2
def ResSpX (K : PySem.W.Frag) (r : Res) (f : RSpec r) : Sp := fun vs H Q E => ∃ p ds s P XP, f p ds s P XP ∧ SpOf K (r.R p) (r.B p) ds s P XP vs H Q E
theorem we_callX {c : Ct} {G : List Sl} {s : c.S} {P : Sl → c.S → Prop} {r : Res} {f : RSpec r} {E : XK} {ta : TA} {p : Addr} {to : c.S → r.S} {put : c.S → r.S → c.S} (hc : CtR c r p to put)
    (h : WA c ta G s fun ds s1 => f p ds (to s1) (fun x s2 => P x (put s1 s2)) (fun _ _ _ => False)) : WE c (tCall (ResSpX c.K r f) [] E ta) G s P := fun σ F H0 H g Q q =>
  h σ F H0 H g _ fun ds s1 vs H1 H1' hf g1 e1 r1 => by
    have gg : ∀ s2 H2 H2', Step (r.R p) (r.B p) s2 H1 H1' H2 H2' → Gd c G (put s1 s2) σ F H2 H2' := fun s2 H2 H2' t =>
      ⟨g1.ln, g1.gd.go t.ex t.sub (hc.back s1 s2 _ _ _ _ g1.gd.rs g1.gd.av t).2 (fun a o h hb => t.fr a o h fun z => hb (hc.B a z)) t.nw (hc.back s1 s2 _ _ _ _ g1.gd.rs g1.gd.av t).1⟩
    refine ⟨p, ds, to s1, _, _, hf, H1, g1.gd.sub, fun a hb => g1.gd.av a (hc.B a hb), by rw [List.append_nil]; exact r1, hc.R _ _ _ g1.gd.rs, fun x s2 v H2 H2' hp t rr => ?_, fun C d s2 v a H2 H2' hp t ha rr => hp.elim⟩
    refine q x _ v H2 H2' hp (gg s2 H2 H2' t) (e1.trans t.ex) ?_
    cases x with
    | un => trivial
    | dat d => exact rr
    | own w =>
      obtain ⟨a, rfl, n0, n1, nb, u, hu, k⟩ := rr
      obtain ⟨n2, n3, n4⟩ := g1.gd.newE n1
      exact ⟨a, rfl, ⟨n0, n2, n3, u, hu, k⟩, g1.gd.apart n1⟩
theorem resC {K : PySem.W.Frag} {r : Res} {p : Addr} {H0 H : Hp} {E : XK} {XP : Addr → D → r.S → Prop} {okX} : CtR (resCt K r p H0 H E XP okX) r p (fun s => s) (fun _ t => t) where
  B := fun _ h => h
  R := fun _ _ _ h => h
  back := fun _ _ _ _ _ _ _ _ t => ⟨t.rs, t.av⟩
/-! ### the plain law -/
/-- the keys of the law's dict -/
def lkey (l : LRow) (d : Nat) : D := .tup [.str (rowS l), .int ((d : Nat) : Int)]
def mkey (cs : List M3) : D := .tup [.str (PySem.Str.ofString ""), .tup (cs.map m3D)]
/-- n is the kind of the row to the depth, by the dict m -/
def Kd2 (m : DM) : Nat → LRow → Int → Prop
  | 0, _, n => n = 0
  | d + 1, l, n => ∃ ms : List M3, Mem3 (Kd2 m d) l ms ∧ dAt m (mkey (canonS ms)) = some (.int n)
def Ext (m m' : DM) : Prop := ∀ (cs : List M3) (v : D), dAt m (mkey cs) = some v → dAt m' (mkey cs) = some v
theorem Ext.refl (m : DM) : Ext m m := fun _ _ h => h
theorem Ext.trans {a b c : DM} (h : Ext a b) (k : Ext b c) : Ext a c := fun cs v q => k cs v (h cs v q)
theorem Kd2.mono {m m' : DM} (h : Ext m m') : ∀ {d : Nat} {l : LRow} {n : Int}, Kd2 m d l n → Kd2 m' d l n
  | 0, _, _, e => e
  | _ + 1, _, _, ⟨ms, q, e⟩ => ⟨ms, q.mono fun _ _ q => Kd2.mono h q, h _ _ e⟩
/-- members have one number -/
def Inj2 (m : DM) : Prop := ∀ (a b : List M3) (n : Int), dAt m (mkey a) = some (.int n) → dAt m (mkey b) = some (.int n) → a = b
theorem kd2_iff {m : DM} (hj : Inj2 m) : ∀ {d : Nat} {l k : LRow} {x y : Int}, Kd2 m d l x → Kd2 m d k y → (x = y ↔ Alike d l k)
  | 0, l, k, x, y, (hx : x = 0), (hy : y = 0) => by rw [hx, hy]; exact ⟨fun _ => trivial, fun _ => rfl⟩
  | d + 1, l, k, x, y, ⟨ms, hm, ex⟩, ⟨ns, hn', ey⟩ => by
    have e1 : x = y ↔ canonS ms = canonS ns := by
      constructor
      · intro e
        subst e
        exact hj _ _ _ ex ey
      · intro e
        rw [e, ey] at ex
        cases ex
        rfl
    rw [e1, canonS_iff]
    have half : ∀ {l k : LRow} {ms ns : List M3}, Mem3 (Kd2 m d) l ms → Mem3 (Kd2 m d) k ns → ((∀ q, q ∈ ms → q ∈ ns) ↔ ∀ (i a : Nat), l[i]? = some a → ∃ j, k[j]? = some a ∧ Alike d (l.take i) (k.take j) ∧ Alike d (l.drop (i + 1)) (k.drop (j + 1))) := by
      intro l k ms ns hm hn'
      constructor
      · intro h i a ha
        obtain ⟨u, v, q1, q2, q3⟩ := hm.2 i a ha
        have q := h _ (List.mem_of_getElem? q1)
        obtain ⟨j, hj2⟩ := List.mem_iff_getElem?.mp q
        obtain ⟨b, hb, e, k1, k2⟩ := hn'.at hj2
        have hab : a = b := str1_inj e
        subst hab
        exact ⟨j, hb, (kd2_iff hj q2 k1).mp rfl, (kd2_iff hj q3 k2).mp rfl⟩
      · intro h q hq
        obtain ⟨i, hi⟩ := List.mem_iff_getElem?.mp hq
        obtain ⟨a, ha, e, k1, k2⟩ := hm.at hi
        obtain ⟨j, hj2, a1, a2⟩ := h i a ha
        obtain ⟨u, v, q1, q2, q3⟩ := hn'.2 j a hj2
        have e1 := (kd2_iff hj k1 q2).mpr a1
        have e2 := (kd2_iff hj k2 q3).mpr a2
        have : q = (u, ⟨#[a]⟩, v) := by
          obtain ⟨q0, q1, q2⟩ := q
          simp only at e e1 e2
          rw [e, e1, e2]
        rw [this]
        exact List.mem_of_getElem? q1
    show _ ↔ _ ∧ _
    rw [← half hm hn', ← half hn' hm]
    exact ⟨fun h => ⟨fun q => (h q).mp, fun q => (h q).mpr⟩, fun h q => ⟨h.1 q, h.2 q⟩⟩
/-- what holds of the law's dict; U: all that may ever be asked for -/
structure KInv2 (U : List (LRow × Nat)) (m : DM) : Prop where
  len : U.length < 400000
  inj : Inj2 m
  bnd : ∀ (k v : D), dAt m k = some v → ∃ n : Nat, v = .int ((n : Nat) : Int) ∧ n < m.length
  val : ∀ (l : LRow) (d : Nat) (v : D), dAt m (lkey l d) = some v → ∃ n : Int, v = .int n ∧ Kd2 m d l n
  few : ∃ L : List (LRow × Nat), L.Nodup ∧ (∀ x ∈ L, x ∈ U) ∧ m.length ≤ 2 * L.length ∧ ∀ x ∈ L, (dAt m (lkey x.1 x.2)).isSome
theorem KInv2.size {U : List (LRow × Nat)} {m : DM} (h : KInv2 U m) : m.length < 800000 := by
  obtain ⟨L, h1, h2, h3, _⟩ := h.few
  have := nodup_len h1 h2
  have := h.len
  omega
theorem KInv2.empty {U : List (LRow × Nat)} (h : U.length < 400000) : KInv2 U [] := ⟨h, fun _ _ _ h => (by simp [dAt] at h), fun _ _ h => (by simp [dAt] at h), fun _ _ _ h => (by simp [dAt] at h), [], List.nodup_nil, fun _ h => by simp at h, Nat.le_refl _, fun _ h => by simp at h⟩
theorem Kd2.one {m : DM} (hj : Inj2 m) {d : Nat} {l : LRow} {x y : Int} (h : Kd2 m d l x) (k : Kd2 m d l y) : x = y := (kd2_iff hj h k).mpr (Alike.refl _ _)
theorem Mem3.one {f : LRow → Int → Prop} (hf : ∀ l x y, f l x → f l y → x = y) {l : LRow} {a b : List M3} (ha : Mem3 f l a) (hb : Mem3 f l b) : a = b := by
  apply List.ext_getElem?
  intro i
  cases h : l[i]? with
  | none =>
    have hi := List.getElem?_eq_none_iff.mp h
    rw [List.getElem?_eq_none (by rw [ha.1]; exact hi), List.getElem?_eq_none (by rw [hb.1]; exact hi)]
  | some c =>
    obtain ⟨x, y, q1, q2, q3⟩ := ha.2 i c h
    obtain ⟨x', y', p1, p2, p3⟩ := hb.2 i c h
    rw [q1, p1, hf _ _ _ q2 p2, hf _ _ _ q3 p3]
end DL
/-! DMe: is a member in a list of members; what the law's kinds promise -/
namespace DL
open PySem PySem.Spec PyProof.Rows L2
/-- a letter that may stand in data -/
def Ok3 (m : M3) : Prop := SeqAt.shaped (m3D m).py = true
/-- letters that may stand in data -/
def OkRow (l : LRow) : Prop := ∀ a ∈ l, Ok3 (0, rowS [a], 0)
theorem ok3_of {a : Nat} {x y : Int} (h : Ok3 (0, rowS [a], 0)) : Ok3 (x, rowS [a], y) := by
  unfold Ok3 SeqAt.shaped at h ⊢
  have e : PyData.depth (m3D (x, rowS [a], y)).py = PyData.depth (m3D (0, rowS [a], 0)).py := rfl
  rw [e]
  exact h
theorem OkRow.take {l : LRow} (h : OkRow l) (i : Nat) : OkRow (l.take i) := fun a ha => h a (List.mem_of_mem_take ha)
theorem OkRow.drop {l : LRow} (h : OkRow l) (i : Nat) : OkRow (l.drop i) := fun a ha => h a (List.mem_of_mem_drop ha)
def MemAt2 (f : LRow → Int → Prop) (l : LRow) (i : Nat) (m : M3) : Prop := ∃ a, l[i]? = some a ∧ m.2.1 = rowS [a] ∧ f (l.take i) m.1 ∧ f (l.drop (i + 1)) m.2.2
theorem MemAt2.mono {f g : LRow → Int → Prop} (h : ∀ r n, f r n → g r n) {l : LRow} {i : Nat} {m : M3} (k : MemAt2 f l i m) : MemAt2 g l i m := by
  obtain ⟨a, h1, h2, h3, h4⟩ := k
  exact ⟨a, h1, h2, h _ _ h3, h _ _ h4⟩
def optD : Option Nat → D
  | none => .non
  | some e => .int ((e : Nat) : Int)
theorem dnot_non {c : Ct} {G : List Sl} {s : c.S} {P : Sl → c.S → Prop} {x : D} {b : Bool} (hx : (x = .non ∧ b = false) ∨ ((∃ e : Int, x = .int e) ∧ b = true)) (k : P (.dat (.bl b)) s) : DOp c (fun x y H Q => y = V.non ∧ Q (.bl (!decide (x = V.non))) H) x .non G s P := fun σ F H0 H v w gd r1 r2 Q q => by
  cases r2
  refine ⟨rfl, ?_⟩
  rcases hx with ⟨rfl, rfl⟩ | ⟨⟨e, rfl⟩, rfl⟩
  · cases r1
    exact q _ s _ H0 H k gd (Same.refl _) (.bl _)
  · cases r1
    exact q _ s _ H0 H k gd (Same.refl _) (.bl _)
theorem dis_non {c : Ct} {G : List Sl} {s : c.S} {P : Sl → c.S → Prop} {x : D} {b : Bool} (hx : (x = .non ∧ b = true) ∨ ((∃ e : Int, x = .int e) ∧ b = false)) (k : P (.dat (.bl b)) s) : DOp c (fun x y H Q => y = V.non ∧ Q (.bl (decide (x = V.non))) H) x .non G s P := fun σ F H0 H v w gd r1 r2 Q q => by
  cases r2
  refine ⟨rfl, ?_⟩
  rcases hx with ⟨rfl, rfl⟩ | ⟨⟨e, rfl⟩, rfl⟩
  · cases r1
    exact q _ s _ H0 H k gd (Same.refl _) (.bl _)
  · cases r1
    exact q _ s _ H0 H k gd (Same.refl _) (.bl _)
end DL
/-! DMf: answers to a pick, plain -/
namespace DL
open PySem PySem.Spec PyProof.Rows L2
/-- the place j of m answers the pick of i in l, so that d picks more can be answered -/
def Answ (d : Nat) (l m : LRow) (i j : Nat) : Prop := ∃ a, l[i]? = some a ∧ m[j]? = some a ∧ Alike d (l.take i) (m.take j) ∧ Alike d (l.drop (i + 1)) (m.drop (j + 1))
open Classical in
noncomputable def ansL (d : Nat) (l m : LRow) (i n : Nat) : List Nat := (List.range n).filter fun j => decide (Answ d l m i j)
theorem MemAt.ok {t : List (List M3)} {d : Nat} {l : LRow} {i : Nat} {x : M3} (h : MemAt t d l i x) (hl : OkRow l) : Ok3 x := by
  obtain ⟨a, h1, h2, _⟩ := h
  obtain ⟨x1, x2, x3⟩ := x
  have h2 : x2 = rowS [a] := h2
  subst h2
  exact ok3_of (hl a (List.mem_of_getElem? h1))
end DL
/-! DMg: answers by the law's own kinds -/
namespace DL
open PySem PySem.Spec PyProof.Rows L2
end DL
/-! DMh: repr([xs, y]) where xs is a list of one's own that may still change -/
namespace DL
open PySem PySem.Spec PyProof.Rows L2
/-- may be shown -/
def Shows (d : D) : Prop := d.plain = true ∧ d.py.showable = true ∧ d.py.hasDict = false ∧ d.py.depth ≤ 60 ∧ d.py.shown.length ≤ 1000000
section
variable {c : Ct} {G : List Sl} {s : c.S} {P : Sl → c.S → Prop}
theorem we_reprOwn2 {i : Nat} {ds : List D} {te : TE} (hi : G[i]? = some (.own (.lst ds))) (h : WE c te G s (FZ fun y s1 => Shows (.lst [.lst ds, y]) ∧ P (.dat (.str (D.lst [.lst ds, y]).py.shown)) s1)) : WE c (tCB (rRepr c.K) (tCons (tLst (tCons (tVar i) (tCons te tNil))) tNil)) G s P := fun σ F H0 H g Q q => by
  obtain ⟨p, xs, h1, hp, _⟩ := g.to.ovAt hi
  refine ⟨.ref p, h1, h.use g fun y s1 v H1 H1' hp1 g1 e1 r1 => ?_⟩
  obtain ⟨⟨a1, a2, a3, a4, a5⟩, hP⟩ := hp1
  obtain ⟨p', ys, h2, hp2, ra⟩ := g1.to.ovAt hi
  rw [h1] at h2
  cases h2
  refine ⟨by show 2 ≤ sizeLine; decide, fun t ht => ?_⟩
  have k : Same H1' (upd H1' t (.lst [.ref p, v])) := fun a u h => by
    rw [upd_ne (ne_of_none h ht)]
    exact h
  have rep : Rep c.K (upd H1' t (.lst [.ref p, v])) (.ref t) (.lst [.lst ds, y]) :=
    .lst upd_same (.cons (.lst (k _ _ hp2) (ra.mono (g1.gd.sub.trans k))) (.cons (r1.mono (g1.gd.sub.trans k)) .nil))
  exact ⟨_, (D.lst [.lst ds, y]).py, rfl, rep.dp (Same.refl _) a1, a2, a3, a4, sizeL a5, q _ s1 _ H1 _ hP (g1.push ht) e1 (.str _)⟩
end
end DL
/-! DMi: truth of any statement as a bool; data that may be shown and compared; calls without errors -/
namespace DL
open PySem PySem.Spec PyProof.Rows L2
/-! ### truth -/
noncomputable def bB (p : Prop) : Bool := @decide p (Classical.propDecidable p)
theorem bB_iff {p : Prop} : bB p = true ↔ p := by unfold bB; exact @decide_eq_true_iff p (Classical.propDecidable p)
theorem bB_true {p : Prop} (h : p) : bB p = true := bB_iff.mpr h
theorem bB_false {p : Prop} (h : ¬ p) : bB p = false := by
  cases e : bB p with
  | false => rfl
  | true => exact absurd (bB_iff.mp e) h
theorem bB_congr {p q : Prop} (h : p ↔ q) : bB p = bB q := Bool.eq_iff_iff.mpr (bB_iff.trans (h.trans bB_iff.symm))
theorem bB_of {p : Prop} {b : Bool} (h : b = true ↔ p) : b = bB p := Bool.eq_iff_iff.mpr (h.trans bB_iff.symm)
theorem bB_dec {p : Prop} [Decidable p] : decide p = bB p := bB_of decide_eq_true_iff
theorem ite_B {p A B : Prop} (h1 : p → A) (h2 : ¬ p → B) : if bB p = true then A else B := ite2 (fun h => h1 (bB_iff.mp h)) fun h => h2 fun z => h (bB_true z)
theorem ite_BT {p A B : Prop} (h : p) (h1 : A) : if bB p = true then A else B := ite_B (fun _ => h1) fun z => absurd h z
theorem ite_BF {p A B : Prop} (h : ¬ p) (h1 : B) : if bB p = true then A else B := ite_B (fun z => absurd z h) fun _ => h1
theorem ite_n {b : Bool} {A B : Prop} (h : if b = true then B else A) : if (!b) = true then A else B := by
  cases b
  · exact h
  · exact h
theorem ite_d {p A B : Prop} [Decidable p] (h1 : p → A) (h2 : ¬ p → B) : if decide p = true then A else B := ite2 (fun h => h1 (of_decide_eq_true h)) fun h => h2 fun z => h (decide_eq_true z)
theorem ite_dT {p A B : Prop} [Decidable p] (h : p) (h1 : A) : if decide p = true then A else B := ite_d (fun _ => h1) fun z => absurd h z
theorem ite_dF {p A B : Prop} [Decidable p] (h : ¬ p) (h1 : B) : if decide p = true then A else B := ite_d (fun z => absurd z h) fun _ => h1
/-! ### data that may be shown and compared -/
structure Fine (n w : Nat) (d : D) : Prop where
  pl : d.plain = true
  cl : d.py.canLay0 = true
  sh : d.py.showable = true
  hd : d.py.hasDict = false
  dp : d.py.depth ≤ n
  ln : d.py.shown.length ≤ w
theorem Fine.mono {n w n' w' : Nat} {d : D} (h : Fine n w d) (h1 : n ≤ n') (h2 : w ≤ w') : Fine n' w' d := ⟨h.pl, h.cl, h.sh, h.hd, Nat.le_trans h.dp h1, Nat.le_trans h.ln h2⟩
theorem Fine.non : Fine 0 8 .non := ⟨rfl, rfl, rfl, rfl, by decide +kernel, by decide +kernel⟩
theorem Fine.bl (b : Bool) : Fine 0 8 (.bl b) := by cases b <;> exact ⟨rfl, rfl, rfl, rfl, by decide +kernel, by decide +kernel⟩
theorem Fine.int {i : Int} {k : Nat} (hk : 0 < k) (h2 : k ≤ 1920) (h : i.natAbs.log2 < k) : Fine 0 (k + 1) (.int i) :=
  ⟨rfl, rfl, by show decide (i.natAbs.log2 < 1920) = true; exact decide_eq_true (by omega), rfl, Nat.le_refl _, by
    show (PySem.Str.ofString (toString i)).length ≤ _
    have := int_text_length_le hk h
    rw [PySem.ofString_length]
    exact this⟩
theorem Fine.int64 {i : Int} (h : i.natAbs < 2 ^ 64) : Fine 0 66 (.int i) := (Fine.int (k := 65) (by decide) (by decide) (by
  by_cases z : i.natAbs = 0
  · rw [z]; decide
  · exact Nat.lt_of_lt_of_le ((Nat.log2_lt z).mpr h) (by decide))).mono (Nat.le_refl _) (by decide)
theorem Fine.str {x : Str} (h : PyData.strOk x = true) : Fine 0 (10 * x.length + 2) (.str x) :=
  ⟨rfl, h, rfl, rfl, Nat.le_refl _, StrLaws.reprText_len x fun c hc => by
    have h1 : x.cps.all (fun c => decide (c < 0x110000)) = true := h
    rw [← Array.all_toList, List.all_eq_true] at h1
    exact Nat.lt_of_lt_of_le (of_decide_eq_true (h1 c hc)) (by decide)⟩
theorem textFrom_le : ∀ (ts : List Str) (k : Nat) (acc : Str), (textFrom k acc ts).length ≤ acc.length + (ts.map fun t => t.length + 2).sum
  | [], _, _ => Nat.le_add_right _ _
  | t :: ts, k, acc => by
    have h := textFrom_le ts (k + 1) (acc ++ (if k > 0 then ", " else "" : String) ++ t)
    rw [strLen_append, strLen_append] at h
    have e : (PySem.Str.ofString (if k > 0 then ", " else "" : String)).length ≤ 2 := by split <;> decide +kernel
    show (textFrom (k + 1) (acc ++ (if k > 0 then ", " else "" : String) ++ t) ts).length ≤ _
    simp only [List.map_cons, List.sum_cons]
    omega
theorem listText_le (ts : List Str) : (listText ts).length ≤ 2 + (ts.map fun t => t.length + 2).sum := by
  unfold listText
  rw [strLen_append]
  have := textFrom_le ts 0 "["
  have e : (PySem.Str.ofString "[").length = 1 := by decide +kernel
  have e2 : (PySem.Str.ofString "]").length = 1 := by decide +kernel
  omega
inductive FineL (n : Nat) : Nat → List D → Prop
  | nil : FineL n 0 []
  | cons {w v : Nat} {d : D} {ds : List D} : Fine n w d → FineL n v ds → FineL n (v + (w + 2)) (d :: ds)
theorem FineL.mono {n n' : Nat} (h1 : n ≤ n') : ∀ {w : Nat} {ds : List D}, FineL n w ds → FineL n' w ds
  | _, _, .nil => .nil
  | _, _, .cons h t => .cons (h.mono h1 (Nat.le_refl _)) (t.mono h1)
theorem FineL.all {n w : Nat} : ∀ {ds : List D}, (∀ d ∈ ds, Fine n w d) → FineL n (ds.length * (w + 2)) ds
  | [], _ => by rw [List.length_nil, Nat.zero_mul]; exact .nil
  | d :: ds, h => by
    have := FineL.cons (h d (List.mem_cons_self ..)) (FineL.all fun e he => h e (List.mem_cons_of_mem _ he))
    rw [List.length_cons, Nat.add_mul, Nat.one_mul]
    exact this
theorem FineL.out {n : Nat} : ∀ {w : Nat} {ds : List D}, FineL n w ds → D.plains ds = true ∧ PyData.canLayAll0 (D.pys ds) = true ∧ PyData.showableAll (D.pys ds) = true ∧ PyData.hasDictAll (D.pys ds) = false ∧ PyData.depthAll (D.pys ds) ≤ n ∧ ((PyData.shownAll (D.pys ds)).map fun t => t.length + 2).sum ≤ w
  | _, _, .nil => ⟨rfl, rfl, rfl, rfl, Nat.zero_le _, Nat.le_refl _⟩
  | _, _, .cons h t => by
    obtain ⟨a1, a2, a3, a4, a5, a6⟩ := t.out
    refine ⟨?_, ?_, ?_, ?_, ?_, ?_⟩
    · simp [D.plains, h.pl, a1]
    · simp [D.pys, PyData.canLayAll0, h.cl, a2]
    · simp [D.pys, PyData.showableAll, h.sh, a3]
    · simp [D.pys, PyData.hasDictAll, h.hd, a4]
    · have := h.dp
      show max _ _ ≤ n
      omega
    · have := h.ln
      show ((PyData.shownAll (D.pys (_ :: _))).map fun t => t.length + 2).sum ≤ _
      simp only [D.pys, PyData.shownAll, List.map_cons, List.sum_cons]
      omega
theorem Fine.lst {n w : Nat} {ds : List D} (h : FineL n w ds) : Fine (n + 1) (w + 2) (.lst ds) := by
  obtain ⟨a1, a2, a3, a4, a5, a6⟩ := h.out
  refine ⟨a1, a2, a3, a4, ?_, ?_⟩
  · show (PyData.list (D.pys ds)).depth ≤ _
    simp only [PyData.depth]
    omega
  · show (listText (PyData.shownAll (D.pys ds))).length ≤ _
    have := listText_le (PyData.shownAll (D.pys ds))
    omega
theorem tupleText_le (ts : List Str) : (tupleText ts).length ≤ 4 + (ts.map fun t => t.length + 2).sum := by
  unfold tupleText
  rw [strLen_append, strLen_append]
  have e1 : (PySem.Str.ofString "(").length = 1 := by decide +kernel
  have e2 : (PySem.Str.ofString (if ts.length == 1 then ",)" else ")" : String)).length ≤ 2 := by split <;> decide +kernel
  by_cases h : ts = []
  · subst h
    have e3 : (Str.join ", " []).length = 0 := by decide +kernel
    rw [e3]
    omega
  · have := join_length_add ts h
    have e4 : piled ts = (ts.map fun t => t.length + 2).sum := rfl
    omega
theorem Fine.tup {n w : Nat} {ds : List D} (h : FineL n w ds) : Fine (n + 1) (w + 4) (.tup ds) := by
  obtain ⟨a1, a2, a3, a4, a5, a6⟩ := h.out
  refine ⟨a1, a2, a3, a4, ?_, ?_⟩
  · show (PyData.tuple (D.pys ds)).depth ≤ _
    simp only [PyData.depth]
    omega
  · show (tupleText (PyData.shownAll (D.pys ds))).length ≤ _
    have := tupleText_le (PyData.shownAll (D.pys ds))
    omega
theorem Fine.shows {n w : Nat} {d : D} (h : Fine n w d) (h1 : n ≤ 60) (h2 : w ≤ 1000000) : Shows d := ⟨h.pl, h.sh, h.hd, Nat.le_trans h.dp h1, Nat.le_trans h.ln h2⟩
theorem Fine.shaped {n w : Nat} {d : D} (h : Fine n w d) (h1 : n ≤ 64) : SeqAt.shaped d.py = true := by
  unfold SeqAt.shaped
  rw [h.cl, decide_eq_true (Nat.le_trans h.dp h1)]
  rfl
theorem rowS_strOk {l : LRow} (h : ∀ a ∈ l, a < 0x110000) : PyData.strOk (rowS l) = true := by
  show l.toArray.all (fun c => decide (c < 0x110000)) = true
  rw [← Array.all_toList, List.all_eq_true]
  intro c hc
  exact decide_eq_true (h c (by simpa using hc))
theorem Fine.row {l : LRow} (h : ∀ a ∈ l, a < 0x110000) : Fine 0 (10 * l.length + 2) (.str (rowS l)) := by
  have := Fine.str (rowS_strOk h)
  rwa [rowS_len] at this
/-! ### == of data without truth values -/
mutual
def D.nb : D → Bool
  | .bl _ => false
  | .ref _ => false
  | .tup ds => D.nbs ds
  | .lst ds => D.nbs ds
  | _ => true
def D.nbs : List D → Bool
  | [] => true
  | d :: ds => d.nb && D.nbs ds
end
mutual
theorem eqv_nb : ∀ {a b : D}, a.nb = true → b.nb = true → (PyData.eqv a.py b.py = true ↔ a = b)
  | .non, b, _, hb => by cases b <;> simp_all [D.py, PyData.eqv, D.nb]
  | .int i, b, _, hb => by cases b <;> simp_all [D.py, PyData.eqv, D.nb]
  | .str i, b, _, hb => by cases b <;> simp_all [D.py, PyData.eqv, D.nb]
  | .tup as, b, ha, hb => by
    cases b with
    | tup bs => 
      have := eqvs_nb (as := as) (bs := bs) (by simpa [D.nb] using ha) (by simpa [D.nb] using hb)
      simpa [D.py, PyData.eqv] using this
    | _ => simp_all [D.py, PyData.eqv, D.nb]
  | .lst as, b, ha, hb => by
    cases b with
    | lst bs => 
      have := eqvs_nb (as := as) (bs := bs) (by simpa [D.nb] using ha) (by simpa [D.nb] using hb)
      simpa [D.py, PyData.eqv] using this
    | _ => simp_all [D.py, PyData.eqv, D.nb]
  | .bl _, _, ha, _ => by simp [D.nb] at ha
  | .ref _, _, ha, _ => by simp [D.nb] at ha
theorem eqvs_nb : ∀ {as bs : List D}, D.nbs as = true → D.nbs bs = true → (PyData.eqvAll (D.pys as) (D.pys bs) = true ↔ as = bs)
  | [], [], _, _ => by simp [D.pys, PyData.eqvAll]
  | [], _ :: _, _, _ => by simp [D.pys, PyData.eqvAll]
  | _ :: _, [], _, _ => by simp [D.pys, PyData.eqvAll]
  | a :: as, b :: bs, ha, hb => by
    have ha' : a.nb = true ∧ D.nbs as = true := by simpa [D.nbs] using ha
    have hb' : b.nb = true ∧ D.nbs bs = true := by simpa [D.nbs] using hb
    simp only [D.pys, PyData.eqvAll, Bool.and_eq_true, eqv_nb ha'.1 hb'.1, eqvs_nb ha'.2 hb'.2, List.cons.injEq]
end
section
variable {c : Ct} {G : List Sl} {s : c.S} {P : Sl → c.S → Prop}
theorem deqF {x y : D} {n w m v : Nat} (hx : Fine n w x) (hy : Fine m v y) (hn : n ≤ 64) (hm : m ≤ 64) (bx : x.nb = true) (bY : y.nb = true) (k : P (.dat (.bl (bB (x = y)))) s) : DOp c (qEq c.K) x y G s P :=
  deq hx.pl hy.pl (hx.shaped hn) (hy.shaped hm) (bB_of (eqv_nb bx bY)) k
theorem dneF {x y : D} {n w m v : Nat} (hx : Fine n w x) (hy : Fine m v y) (hn : n ≤ 64) (hm : m ≤ 64) (bx : x.nb = true) (bY : y.nb = true) (k : P (.dat (.bl (!bB (x = y)))) s) : DOp c (qNe c.K) x y G s P :=
  dne hx.pl hy.pl (hx.shaped hn) (hy.shaped hm) (bB_of (eqv_nb bx bY)) k
theorem deq_row {l m : LRow} (k : P (.dat (.bl (bB (l = m)))) s) : DOp c (qEq c.K) (.str (rowS l)) (.str (rowS m)) G s P :=
  de_sc rfl (by rw [show decide (rowS l = rowS m) = bB (l = m) from bB_of (decide_eq_true_iff.trans ⟨rowS_inj, fun h => by rw [h]⟩)]; exact k)
theorem dne_row {l m : LRow} (k : P (.dat (.bl (!bB (l = m)))) s) : DOp c (qNe c.K) (.str (rowS l)) (.str (rowS m)) G s P :=
  dn_sc rfl (by rw [show decide (rowS l = rowS m) = bB (l = m) from bB_of (decide_eq_true_iff.trans ⟨rowS_inj, fun h => by rw [h]⟩)]; exact k)
theorem db_reprF {d : D} {n w : Nat} (h : Fine n w d) (h1 : n ≤ 60) (h2 : w ≤ 1000000) (k : P (.dat (.str d.py.shown)) s) : DCB c (rRepr c.K) [d] G s P :=
  have q := h.shows h1 h2
  db_repr q.1 q.2.1 q.2.2.1 q.2.2.2.1 (sizeL q.2.2.2.2) k
/-! ### calls where no error may leave -/
theorem xin_no {E : XK} {f : FSpec} {ds : List D} {Q : Sl → Prop} (h : f ds Q fun _ _ => False) : ∃ XP, XIn c E s XP ∧ f ds Q XP := ⟨_, .inl fun _ _ z => z, h⟩
theorem xr_no {r : Res} {E : XK} {f : RSpec r} {p : Addr} {es : List D} {t : r.S} {put : r.S → c.S} {Q : Sl → r.S → Prop} (h : f p es t Q fun _ _ _ => False) : ∃ es' XP, (D.ref p :: es) = .ref p :: es' ∧ ((∀ C d s', ¬ XP C d s') ∨ (E = c.EX ∧ ∀ C d s', XP C d s' → c.X C d (put s'))) ∧ f p es' t Q XP := ⟨es, _, rfl, .inl fun _ _ _ z => z, h⟩
/-- a draw, as a number from 0 on -/
theorem draw_use {p : Addr} {n : Nat} {span : Int} {Q : Sl → Nat → Prop} {XP : Addr → D → Nat → Prop} (h0 : 0 < span) (h1 : span ≤ 10 ^ 70) (hn : 1 ≤ n) (k : ∀ z : Nat, ((z : Nat) : Int) < span → Q (.dat (.int ((z : Nat) : Int))) (n - 1)) : drawS p [.int span] n Q XP :=
  ⟨span, rfl, h0, h1, hn, fun z a b => by
    obtain ⟨m, rfl⟩ := Int.eq_ofNat_of_zero_le a
    exact k m b⟩
end
end DL
/-! DMj: sorted(list of data of one shape) -/
namespace DL
open PySem PySem.Spec PyProof.Rows L2
def SortAsD (vs : List V) (ds : List D) (m : D) (v : V) : Prop := ∃ i : Nat, vs[i]? = some v ∧ ds[i]? = some m
/-- the data may be sorted -/
structure Sorts (ds : List D) : Prop where
  pl : D.plains ds = true
  al : PySem.W.AllAlike (D.pys ds)
  so : PySem.W.Sortable (D.pys ds)
  dp : ∀ d ∈ ds, d.py.depth ≤ 60
noncomputable def sortD (ds : List D) : List D := ds.mergeSort (PySem.W.dataLe false D.py)
def rSortD (K : PySem.W.Frag) : List V → Hp → VK → Prop := fun xs H Q => ∃ (a : Addr) (vs : List V) (ds : List D), xs = [.ref a] ∧ SqL K H a vs ∧ RepAll K H vs ds ∧ vs.length ≤ 1000000 ∧ Sorts ds ∧
  ∀ (ws : List V) (p : Addr), Paired (SortAsD vs ds) (sortD ds) ws → H p = none → Q (.ref p) (upd H p (.lst ws))
theorem pys_map (ds : List D) : D.pys ds = ds.map D.py := by
  induction ds with
  | nil => rfl
  | cons d ds ih => show d.py :: D.pys ds = _; rw [ih]; rfl
section
variable {c : Ct} {G : List Sl} {s : c.S} {P : Sl → c.S → Prop}
theorem db_sortD {ds : List D} (hl : ds.length ≤ 1000000) (hs : Sorts ds) (k : P (.own (.lst (sortD ds))) s) : DCB c (rSortD c.K) [.lst ds] G s P := fun σ F H0 H vs gd r Q q => by
  cases r with
  | cons r rs =>
    cases rs
    cases r with
    | lst ha ra =>
      rename_i a xs
      refine ⟨a, xs, ds, rfl, .inl (.inl (gd.gd.sub _ _ ha)), ra.mono gd.gd.sub, by rw [ra.len]; exact hl, hs, fun ws p hp hn => ?_⟩
      refine q _ s _ H0 _ k (gd.push hn) (Same.refl _) (gd.rok (u := .lst ws) hn ?_)
      have : ∀ {cs : List D} {ws : List V}, Paired (SortAsD xs ds) cs ws → RepAll c.K H0 ws cs := by
        intro cs ws pr
        induction pr with
        | nil => exact .nil
        | cons h t ih =>
          obtain ⟨i, h1, h2⟩ := h
          obtain ⟨d, hd, rd⟩ := ra.getV h1
          rw [h2] at hd
          cases hd
          exact .cons rd ih
      exact this hp
end
/-! ### pairs of numbers -/
def p2D (p : Nat × Nat) : D := .tup [.int ((p.1 : Nat) : Int), .int ((p.2 : Nat) : Int)]
theorem p2D_inj {a b : Nat × Nat} (h : p2D a = p2D b) : a = b := by
  obtain ⟨a1, a2⟩ := a
  obtain ⟨b1, b2⟩ := b
  simp only [p2D, D.tup.injEq, List.cons.injEq, D.int.injEq, and_true] at h
  simp only [Prod.mk.injEq]
  omega
theorem sorts2 (ps : List (Nat × Nat)) : Sorts (ps.map p2D) where
  pl := by induction ps with
    | nil => rfl
    | cons p ps ih => simpa [D.plains, p2D, D.plain] using ih
  al := by rw [pys_map, List.map_map]; exact PySem.W.AllAlike.of fun b b' => by simp [p2D, D.py, D.pys, PySem.W.alike, PySem.W.alikeAll]
  so := by rw [pys_map, List.map_map]; exact PySem.W.Sortable.tuples fun b => ⟨_, _, rfl⟩
  dp := fun d hd => by
    obtain ⟨p, _, rfl⟩ := List.mem_map.mp hd
    simp [p2D, D.py, D.pys, PyData.depth, PyData.depthAll]
end DL
/-! DMk: callees at greater levels; a pure def that shows; places without an answer -/
namespace DL
open PySem PySem.Spec PyProof.Rows L2
section
variable {P : Program} {w : World} {K : PySem.W.Frag} {mg : Str → Option Value} {base : Heap} {CX : CXT} {x : Str} {ps : List Str} {j k : Nat} {sp : Sp} {f C : Addr} {fd : FuncData}
theorem Callee.lv (c : Callee P w K mg base CX x ps j sp f fd) (h : j ≤ k) : Callee P w K mg base CX x ps k sp f fd := ⟨c.ok.mono h, c.mg, c.kp, c.bd, c.ps⟩
theorem CalleeG.lvG (c : CalleeG P w K mg base CX x ps j sp f fd) (h : j ≤ k) : CalleeG P w K mg base CX x ps k sp f fd := ⟨c.ok.mono h, c.mg, c.kp, c.bd, c.ps⟩
theorem MCallee.lv (c : MCallee P w K mg base CX C x ps j sp f fd) (h : j ≤ k) : MCallee P w K mg base CX C x ps k sp f fd := ⟨c.ok.mono h, c.me, c.bd, c.ps⟩
end
/-! ### comprehensions that change nothing -/
section
variable {c : Ct} {G : List Sl} {s : c.S} {P : Sl → c.S → Prop}
theorem we_lcA {α : Type} {ti : TI} {g : TG} {tt : TT} {te : TE} {vs : List Nat} (fm : α → Option D) (hG : unAll G vs = G) (h : WI c ti G s fun its s1 => ∃ (L : List α) (enc : α → D), its = L.map enc ∧ L.length ≤ 1000000 ∧
      (∀ x ∈ L, ∃ is G', Tg c g is (enc x) G G' ∧ (∀ i ∈ is, i ∈ vs) ∧ unAll G' vs = G ∧ WT c tt G' s1 fun b s2 => if b = true then WE c te G' s2 (FZ fun y s3 => fm x = some y ∧ s3 = s1) else fm x = none ∧ s2 = s1) ∧
      P (.own (.lst (L.filterMap fm))) s1) : WE c (tLc ti g tt te vs) G s P := by
  refine we_lc hG fun σ F H0 H gd R q => h σ F H0 H gd R fun its s1 J H0' H' Gw Y hp => q its s1 J H0' H' Gw Y ?_
  obtain ⟨L, enc, rfl, hl, hs, k⟩ := hp
  refine ⟨by rw [List.length_map]; exact hl, fun i acc si => si = s1 ∧ acc = (L.take i).filterMap fm, ⟨rfl, rfl⟩, fun i d acc si hd _ hI => ?_, fun acc sn _ hI => ?_⟩
  · obtain ⟨rfl, rfl⟩ := hI
    rw [List.getElem?_map] at hd
    cases hx : L[i]? with
    | none => rw [hx] at hd; cases hd
    | some x =>
      rw [hx] at hd
      cases hd
      obtain ⟨is, G', t, h1, h2, hb⟩ := hs x (List.mem_of_getElem? hx)
      have etk : L.take (i + 1) = L.take i ++ [x] := by rw [List.take_add_one, hx]; rfl
      refine ⟨is, G', t, h1, h2, hb.mono fun b s2 hb => ?_⟩
      cases b with
      | true =>
        refine iteT ((show WE c te G' s2 _ from hb).mono fun y s3 hy => ?_)
        have key : ∀ z, fm x = some z → (L.take i).filterMap fm ++ [z] = (L.take (i + 1)).filterMap fm := fun z hz => by rw [etk, List.filterMap_append]; simp [hz]
        unfold FZ at hy ⊢
        split at hy
        · exact ⟨hy.2, key _ hy.1⟩
        · exact ⟨hy.2, key _ hy.1⟩
        · exact hy
      | false =>
        have hb : fm x = none ∧ s2 = si := hb
        refine iteF ⟨hb.2, ?_⟩
        rw [etk, List.filterMap_append]
        simp [hb.1]
  · obtain ⟨rfl, rfl⟩ := hI
    rw [List.length_map, List.take_length]
    exact k
end
/-! ### in, not in -/
section
variable {c : Ct} {G : List Sl} {s : c.S} {P : Sl → c.S → Prop}
theorem FineL.shaped {n w : Nat} {ds : List D} (h : FineL n w ds) (hn : n < 64) : SeqAt.shaped (.list (D.pys ds)) = true := (Fine.lst h).shaped (by omega)
end
/-! ### places without an answer -/
noncomputable def uL (d : Nat) (l m : LRow) : List Nat := (List.range l.length).filter fun i => bB (∀ j, ¬ Answ d l m i j)
/-- the picks that win, at depth d + 1 -/
noncomputable def winL (d : Nat) (l m : LRow) : List (Nat × Nat) := (uL d l m).map (fun i => (0, i)) ++ (uL d m l).map fun i => (1, i)
noncomputable def unI (ms ns : List M3) : List Nat := (List.range ms.length).filter fun i => (ms[i]?).any fun x => bB (x ∉ ns)
def unS : FSpec := fun ds P _ => ∃ (ms ns : List M3), ds = [.lst (ms.map m3D), .lst (ns.map m3D)] ∧ (∀ x ∈ ms, Ok3 x) ∧ (∀ x ∈ ns, Ok3 x) ∧ ms.length ≤ 1000 ∧ ns.length ≤ 1000 ∧ P (.own (.lst ((unI ms ns).map fun (i : Nat) => D.int ((i : Nat) : Int))))
/-- the picks that win, as data -/
noncomputable def winD (l m : LRow) : Nat → List (Nat × Nat)
  | 0 => []
  | d + 1 => winL d l m
def winS : FSpec := fun ds P _ => ∃ (l m : LRow) (d : Nat), ds = [.str (rowS l), .str (rowS m), .int ((d : Nat) : Int)] ∧ Letters l ∧ Letters m ∧ d ≤ 6 ∧ l.length ≤ 60 ∧ m.length ≤ 60 ∧ P (.own (.lst ((winD l m d).map p2D)))
end DL
/-! DMl: what the package's defs promise, and how such a promise is used -/
namespace DL
open PySem PySem.Spec PyProof.Rows L2
def check_rowS : FSpec := fun ds P _ => ∃ (l : LRow), ds = [.str (rowS l)] ∧ Letters l ∧ P (.dat .non)
def check_depthS : FSpec := fun ds P _ => ∃ (d : Nat), ds = [.int ((d : Nat) : Int)] ∧ P (.dat .non)
def check_bothS : FSpec := fun ds P _ => ∃ (l m : LRow), ds = [.str (rowS l), .str (rowS m)] ∧ Letters l ∧ Letters m ∧ P (.dat .non)
def are_alikeS : FSpec := fun ds P _ => ∃ (l m : LRow) (d : Nat), ds = [.str (rowS l), .str (rowS m), .int ((d : Nat) : Int)] ∧ Letters l ∧ Letters m ∧ d ≤ 6 ∧ l.length ≤ 60 ∧ m.length ≤ 60 ∧ ∀ b : Bool, (b = true ↔ Alike d l m) → P (.dat (.bl b))
def answersS : FSpec := fun ds P _ => ∃ (l m : LRow) (d i : Nat), ds = [.str (rowS l), .str (rowS m), .int (((d + 1 : Nat) : Nat) : Int), .int ((i : Nat) : Int)] ∧ Letters l ∧ Letters m ∧ d + 1 ≤ 6 ∧ i < l.length ∧ l.length ≤ 60 ∧ m.length ≤ 60 ∧ P (.own (.lst ((ansL d l m i m.length).map fun (j : Nat) => DL.D.int ((j : Nat) : Int))))
def wAlikeS (D : Nat) : FSpec := fun ds P _ => ∃ (l m : LRow) (d : Nat), ds = [.str (rowS l), .str (rowS m), .int ((d : Nat) : Int)] ∧ d < D ∧ l.length ≤ 1000 ∧ m.length ≤ 1000 ∧ ∀ b : Bool, (b = true ↔ Alike d l m) → P (.dat (.bl b))
/-! ### which kind of goal -/
theorem tgWE {c : Ct} {t : TE} {G : List Sl} {s : c.S} {P : Sl → c.S → Prop} (h : WE c t G s P) : WE c t G s P := h
theorem tgWA {c : Ct} {t : TA} {G : List Sl} {s : c.S} {P : List D → c.S → Prop} (h : WA c t G s P) : WA c t G s P := h
theorem tgWAO {c : Ct} {t : TA} {G : List Sl} {s : c.S} {P : List Sl → c.S → Prop} (h : WAO c t G s P) : WAO c t G s P := h
theorem tgWT {c : Ct} {t : TT} {G : List Sl} {s : c.S} {P : Bool → c.S → Prop} (h : WT c t G s P) : WT c t G s P := h
theorem tgWS {c : Ct} {t : TS} {G : List Sl} {s : c.S} {P : Ds c.S} (h : WS c t G s P) : WS c t G s P := h
theorem tgFZ {S : Type} {P : D → S → Prop} {x : Sl} {s : S} (h : FZ P x s) : FZ P x s := h
theorem tgDO {c : Ct} {r : R2} {x y : D} {G : List Sl} {s : c.S} {P : Sl → c.S → Prop} (h : DOp c r x y G s P) : DOp c r x y G s P := h
theorem tgDC {c : Ct} {r : List V → Hp → VK → Prop} {ds : List D} {G : List Sl} {s : c.S} {P : Sl → c.S → Prop} (h : DCB c r ds G s P) : DCB c r ds G s P := h
theorem tgSet {c : Ct} {t : TS} {G G' : List Sl} {i : Nat} {x : Sl} {s : c.S} {P : Ds c.S} (e : G.set i x = G') (h : WS c t G' s P) : WS c t (G.set i x) s P := by
  subst e
  exact h
theorem tgSetE {c : Ct} {t : TE} {G G' : List Sl} {i : Nat} {x : Sl} {s : c.S} {P : Sl → c.S → Prop} (e : G.set i x = G') (h : WE c t G' s P) : WE c t (G.set i x) s P := by
  subst e
  exact h
theorem tgSetT {c : Ct} {t : TT} {G G' : List Sl} {i : Nat} {x : Sl} {s : c.S} {P : Bool → c.S → Prop} (e : G.set i x = G') (h : WT c t G' s P) : WT c t (G.set i x) s P := by
  subst e
  exact h
theorem tgIf {b : Bool} {A B : Prop} (h : if b = true then A else B) : if b = true then A else B := h
section
variable {Pg : Program} {w : World} {C p nu kn : Addr} {c : Ct} {to : c.S → KSt} {put : c.S → KSt → c.S} {G : List Sl} {s : c.S} {P : Sl → c.S → Prop}
/-- kinds.m(..), kinds a name -/
theorem we_methV {f : KSpec} {m : Str} {i : Nat} {t : TA} {E : XK} (hc : OnK c Pg w C nu kn p to put) (hm : ([("numbers", V.ref nu), ("known", V.ref kn)] : List (Str × V)).lookup m = none) (hi : G[i]? = some (.dat (.ref p)))
    (h : WA c t G s fun ds s2 => f p ds (to s2) (fun x s3 => P x (put s2 s3)) (fun _ _ _ => False)) : WE c (tMeth C m (KSp Pg w c.K C f) [] E (tVar i) t) G s P :=
  we_meth hc hm (we_var hi (fz_dat ⟨rfl, h⟩))
end
section
variable {l m : LRow} {P : Sl → Prop} {XP : Addr → D → Prop}
theorem u_check_row (h : Letters l) (k : P (.dat .non)) : check_rowS [.str (rowS l)] P XP := ⟨l, rfl, h, k⟩
theorem u_check_both (h : Letters l) (h2 : Letters m) (k : P (.dat .non)) : check_bothS [.str (rowS l), .str (rowS m)] P XP := ⟨l, m, rfl, h, h2, k⟩
theorem u_check_depth {z : Int} (h : 0 ≤ z) (k : P (.dat .non)) : check_depthS [.int z] P XP := ⟨z.toNat, by rw [Int.toNat_of_nonneg h], k⟩
theorem u_are_alikeN {d : Nat} (h : Letters l) (h2 : Letters m) (hd : d ≤ 6) (h3 : l.length ≤ 60) (h4 : m.length ≤ 60) (k : P (.dat (.bl (bB (Alike d l m))))) : are_alikeS [.str (rowS l), .str (rowS m), .int ((d : Nat) : Int)] P XP :=
  ⟨l, m, d, rfl, h, h2, hd, h3, h4, fun b hb => by rw [bB_of hb]; exact k⟩
theorem u_are_alike {z : Int} (h : Letters l) (h2 : Letters m) (h0 : 0 ≤ z) (hd : z ≤ 6) (h3 : l.length ≤ 60) (h4 : m.length ≤ 60) (k : P (.dat (.bl (bB (Alike z.toNat l m))))) : are_alikeS [.str (rowS l), .str (rowS m), .int z] P XP :=
  ⟨l, m, z.toNat, by rw [Int.toNat_of_nonneg h0], h, h2, by omega, h3, h4, fun b hb => by rw [bB_of hb]; exact k⟩
theorem u_wAlikeN {D d : Nat} (hd : d < D) (h3 : l.length ≤ 1000) (h4 : m.length ≤ 1000) (k : P (.dat (.bl (bB (Alike d l m))))) : wAlikeS D [.str (rowS l), .str (rowS m), .int ((d : Nat) : Int)] P XP :=
  ⟨l, m, d, rfl, hd, h3, h4, fun b hb => by rw [bB_of hb]; exact k⟩
theorem u_wAlike {D : Nat} {z : Int} (h0 : 0 ≤ z) (hd : z < D) (h3 : l.length ≤ 1000) (h4 : m.length ≤ 1000) (k : P (.dat (.bl (bB (Alike z.toNat l m))))) : wAlikeS D [.str (rowS l), .str (rowS m), .int z] P XP :=
  ⟨l, m, z.toNat, by rw [Int.toNat_of_nonneg h0], by omega, h3, h4, fun b hb => by rw [bB_of hb]; exact k⟩
/-- the list of the answers, of a place and a depth told as numbers -/
theorem u_answers {z i : Int} (h : Letters l) (h2 : Letters m) (h1 : 1 ≤ z) (hd : z ≤ 6) (hi : 0 ≤ i) (hi2 : i < l.length) (h3 : l.length ≤ 60) (h4 : m.length ≤ 60) (k : P (.own (.lst ((ansL (z - 1).toNat l m i.toNat m.length).map fun (j : Nat) => D.int ((j : Nat) : Int))))) : answersS [.str (rowS l), .str (rowS m), .int z, .int i] P XP :=
  ⟨l, m, (z - 1).toNat, i.toNat, by rw [Int.toNat_of_nonneg hi, show (((z - 1).toNat + 1 : Nat) : Int) = z by omega], h, h2, by omega, by omega, h3, h4, k⟩
theorem u_win {z : Int} (h : Letters l) (h2 : Letters m) (h0 : 0 ≤ z) (hd : z ≤ 6) (h3 : l.length ≤ 60) (h4 : m.length ≤ 60) (k : P (.own (.lst ((winD l m z.toNat).map p2D)))) : winS [.str (rowS l), .str (rowS m), .int z] P XP :=
  ⟨l, m, z.toNat, by rw [Int.toNat_of_nonneg h0], h, h2, by omega, h3, h4, k⟩
theorem u_winN {d : Nat} (h : Letters l) (h2 : Letters m) (hd : d ≤ 6) (h3 : l.length ≤ 60) (h4 : m.length ≤ 60) (k : P (.own (.lst ((winD l m d).map p2D)))) : winS [.str (rowS l), .str (rowS m), .int ((d : Nat) : Int)] P XP :=
  ⟨l, m, d, rfl, h, h2, hd, h3, h4, k⟩
theorem u_un {ms ns : List M3} (h1 : ∀ x ∈ ms, Ok3 x) (h2 : ∀ x ∈ ns, Ok3 x) (h3 : ms.length ≤ 1000) (h4 : ns.length ≤ 1000) (k : P (.own (.lst ((unI ms ns).map fun (i : Nat) => D.int ((i : Nat) : Int))))) : unS [.lst (ms.map m3D), .lst (ns.map m3D)] P XP := ⟨ms, ns, rfl, h1, h2, h3, h4, k⟩
end
end DL
/-! DMm: cuts of rows; for over a list that is told -/
namespace DL
open PySem PySem.Spec PyProof.Rows L2
section
variable {c : Ct} {G : List Sl} {s : c.S} {P : Sl → c.S → Prop}
theorem ds_take {l : LRow} {i : Nat} (hl : l.length ≤ 1000000) (k : P (.dat (.str (rowS (l.take i)))) s) : DSl c (qSl c.K) (.str (rowS l)) none (some ((i : Nat) : Int)) G s P :=
  ds_str (by rw [rowS_len]; exact hl) (by rw [cut_take]; exact k)
theorem ds_drop1 {l : LRow} {i : Nat} (hl : l.length ≤ 1000000) (k : P (.dat (.str (rowS (l.drop (i + 1))))) s) : DSl c (qSl c.K) (.str (rowS l)) (some (((i : Nat) : Int) + 1)) none G s P :=
  ds_str (by rw [rowS_len]; exact hl) (by rw [cut_drop1]; exact k)
theorem ds_drop {l : LRow} {i : Nat} (hl : l.length ≤ 1000000) (k : P (.dat (.str (rowS (l.drop i)))) s) : DSl c (qSl c.K) (.str (rowS l)) (some ((i : Nat) : Int)) none G s P :=
  ds_str (by rw [rowS_len]; exact hl) (by rw [cut_drop]; exact k)
theorem tgDS {r : V → Option Int → Option Int → Hp → VK → Prop} {x : D} {lo hi : Option Int} (h : DSl c r x lo hi G s P) : DSl c r x lo hi G s P := h
end
end DL
/-! DMn: what the law's defs on kinds promise (k09) -/
namespace DL
open PySem PySem.Spec PyProof.Rows L2
def sameManyS : FSpec := fun ds P _ => ∃ a b d : Nat, ds = [.int ((a : Nat) : Int), .int ((b : Nat) : Int), .int ((d : Nat) : Int)] ∧ d ≤ 10 ∧ P (.dat (.bl (bB (Enough d a b))))
section
variable {c : Ct} {G : List Sl} {s : c.S} {P : Sl → c.S → Prop}
theorem ws_nx {P : Ds c.S} (k : P.nx G s) : WS c Ends.nx G s P := ws_next k
theorem dop_shl1 {j : Int} (h0 : 0 ≤ j) (h1 : j ≤ 1000) (k : P (.dat (.int ((2 ^ j.toNat : Nat) : Int))) s) : DOp c (rI CPow fun i j => .int (i * 2 ^ j.toNat)) (.int 1) (.int j) G s P :=
  dop_I (f := fun i j => .int (i * 2 ^ j.toNat)) ⟨h0, by omega, by decide⟩ (fun _ _ => .int _) (by
    have e : ((2 ^ j.toNat : Nat) : Int) = 1 * 2 ^ j.toNat := by rw [Int.one_mul]; exact Int.natCast_pow 2 _
    rw [e] at k
    exact k)
end
section
variable {c : Ct} {G : List Sl} {s : c.S}
/-- a comprehension that changes nothing: what is kept, what is made of it -/
theorem we_lcF {α : Type} {P : Sl → c.S → Prop} {ti : TI} {g : TG} {tt : TT} {te : TE} {vs : List Nat} (p : α → Prop) (out : α → D) (hG : unAll G vs = G) (h : WI c ti G s fun its s1 => ∃ (L : List α) (enc : α → D), its = L.map enc ∧ L.length ≤ 1000000 ∧
      (∀ x ∈ L, ∃ is G', Tg c g is (enc x) G G' ∧ (∀ i ∈ is, i ∈ vs) ∧ unAll G' vs = G ∧ WT c tt G' s1 fun b s2 => b = bB (p x) ∧ s2 = s1 ∧ (p x → WE c te G' s1 (FZ fun y s3 => y = out x ∧ s3 = s1))) ∧
      P (.own (.lst ((L.filter fun x => bB (p x)).map out))) s1) : WE c (tLc ti g tt te vs) G s P :=
  we_lcA (fun x => if bB (p x) = true then some (out x) else none) hG fun σ F H0 H gd R q => h σ F H0 H gd R fun its s1 J H0' H' Gw Y hp => q its s1 J H0' H' Gw Y (by
    obtain ⟨L, enc, rfl, hl, hs, k⟩ := hp
    refine ⟨L, enc, rfl, hl, fun x hx => ?_, ?_⟩
    · obtain ⟨is, G', t, h1, h2, hb⟩ := hs x hx
      refine ⟨is, G', t, h1, h2, hb.mono fun b s2 hb => ?_⟩
      obtain ⟨rfl, rfl, he⟩ := hb
      cases e : bB (p x) with
      | true =>
        refine iteT ((he (bB_iff.mp e)).mono fun y s3 hy => ?_)
        unfold FZ at hy ⊢
        split at hy
        · exact ⟨by rw [hy.1]; rfl, hy.2⟩
        · exact ⟨by rw [hy.1]; rfl, hy.2⟩
        · exact hy
      | false => exact iteF ⟨rfl, rfl⟩
    · have e : L.filterMap (fun x => if bB (p x) = true then some (out x) else none) = (L.filter fun x => bB (p x)).map out := by
        clear hs k hl
        induction L with
        | nil => rfl
        | cons x L ih =>
          rw [List.filterMap_cons, List.filter_cons, ih]
          cases bB (p x) <;> rfl
      rw [e]
      exact k)
theorem we_lcFN {α : Type} {P : Sl → c.S → Prop} {ti : TI} {tt : TT} {te : TE} {j : Nat} (p : α → Prop) (out : α → D) (hG : unAll G [j] = G) (hj : j < G.length) (h : WI c ti G s fun its s1 => ∃ (L : List α) (enc : α → D), its = L.map enc ∧ L.length ≤ 1000000 ∧
      (∀ x ∈ L, WT c tt (G.set j (.dat (enc x))) s1 fun b s2 => b = bB (p x) ∧ s2 = s1 ∧ (p x → WE c te (G.set j (.dat (enc x))) s1 (FZ fun y s3 => y = out x ∧ s3 = s1))) ∧
      P (.own (.lst ((L.filter fun x => bB (p x)).map out))) s1) : WE c (tLc ti (gName j) tt te [j]) G s P :=
  we_lcF p out hG fun σ F H0 H gd R q => h σ F H0 H gd R fun its s1 J H0' H' Gw Y hp => q its s1 J H0' H' Gw Y (by
    obtain ⟨L, enc, rfl, hl, hs, k⟩ := hp
    refine ⟨L, enc, rfl, hl, fun x hx => ⟨[j], _, tg_name hj, by simp, ?_, hs x hx⟩, k⟩
    show (G.set j _).set j .un = G
    rw [List.set_set]
    exact hG)
end
/-! ### == of lists of one form -/
structure EncOk {α : Type} (enc : α → D) : Prop where
  inj : ∀ x y, enc x = enc y → x = y
  pl : ∀ x, (enc x).plain = true
  cl : ∀ x, (enc x).py.canLay0 = true
  dp : ∀ x, (enc x).py.depth ≤ 50
  nb : ∀ x, (enc x).nb = true
theorem encNat : EncOk fun (i : Nat) => D.int ((i : Nat) : Int) := ⟨fun x y h => by have := D.int.inj h; omega, fun _ => rfl, fun _ => rfl, fun _ => by simp [D.py, PyData.depth], fun _ => rfl⟩
theorem encInt : EncOk fun (i : Int) => D.int i := ⟨fun x y h => by simpa using h, fun _ => rfl, fun _ => rfl, fun _ => by simp [D.py, PyData.depth], fun _ => rfl⟩
theorem encP2 : EncOk p2D := ⟨fun x y h => p2D_inj h, fun _ => rfl, fun _ => rfl, fun _ => by simp [p2D, D.py, D.pys, PyData.depth, PyData.depthAll], fun _ => rfl⟩
theorem EncOk.map {α : Type} {enc : α → D} (e : EncOk enc) (xs : List α) : D.plains (xs.map enc) = true ∧ SeqAt.shaped (D.lst (xs.map enc)).py = true ∧ (D.lst (xs.map enc)).nb = true := by
  have h1 : D.plains (xs.map enc) = true ∧ PyData.canLayAll0 (D.pys (xs.map enc)) = true ∧ PyData.depthAll (D.pys (xs.map enc)) ≤ 50 ∧ D.nbs (xs.map enc) = true := by
    induction xs with
    | nil => exact ⟨rfl, rfl, Nat.zero_le _, rfl⟩
    | cons x xs ih =>
      obtain ⟨a1, a2, a3, a4⟩ := ih
      refine ⟨?_, ?_, ?_, ?_⟩
      · simp [D.plains, e.pl, a1]
      · simp [D.pys, PyData.canLayAll0, e.cl, a2]
      · have := e.dp x
        show max _ _ ≤ 50
        omega
      · simp [D.nbs, e.nb, a4]
  obtain ⟨a1, a2, a3, a4⟩ := h1
  refine ⟨a1, ?_, a4⟩
  unfold SeqAt.shaped
  have e1 : (D.lst (xs.map enc)).py.canLay0 = true := by simpa [D.py, PyData.canLay0] using a2
  have e2 : (D.lst (xs.map enc)).py.depth ≤ 64 := by
    show (PyData.list (D.pys (xs.map enc))).depth ≤ 64
    simp only [PyData.depth]
    omega
  rw [e1, decide_eq_true e2]
  rfl
theorem EncOk.eq {α : Type} {enc : α → D} (e : EncOk enc) {xs ys : List α} : (D.lst (xs.map enc) = D.lst (ys.map enc)) ↔ xs = ys := by
  constructor
  · intro h
    have h := D.lst.inj h
    exact List.map_inj_right (fun x y q => e.inj x y q) |>.mp h
  · rintro rfl
    rfl
section
variable {c : Ct} {G : List Sl} {s : c.S} {P : Sl → c.S → Prop} {α : Type} {enc : α → D}
theorem deq_enc {xs ys : List α} (e : EncOk enc) (k : P (.dat (.bl (bB (xs = ys)))) s) : DOp c (qEq c.K) (.lst (xs.map enc)) (.lst (ys.map enc)) G s P :=
  deq (e.map xs).1 (e.map ys).1 (e.map xs).2.1 (e.map ys).2.1 ((bB_of (eqv_nb (e.map xs).2.2 (e.map ys).2.2)).trans (bB_congr e.eq)) k
theorem dne_enc {xs ys : List α} (e : EncOk enc) (k : P (.dat (.bl (!bB (xs = ys)))) s) : DOp c (qNe c.K) (.lst (xs.map enc)) (.lst (ys.map enc)) G s P :=
  dne (e.map xs).1 (e.map ys).1 (e.map xs).2.1 (e.map ys).2.1 ((bB_of (eqv_nb (e.map xs).2.2 (e.map ys).2.2)).trans (bB_congr e.eq)) k
theorem deq_encN {xs : List α} (e : EncOk enc) (k : P (.dat (.bl (bB (xs = [])))) s) : DOp c (qEq c.K) (.lst (xs.map enc)) (.lst []) G s P := deq_enc (ys := []) e k
theorem dne_encN {xs : List α} (e : EncOk enc) (k : P (.dat (.bl (!bB (xs = [])))) s) : DOp c (qNe c.K) (.lst (xs.map enc)) (.lst []) G s P := dne_enc (ys := []) e k
end
section
variable {P : Sl → Prop} {XP : Addr → D → Prop}
theorem u_sameMany {a b d : Int} (h1 : 0 ≤ a) (h2 : 0 ≤ b) (h3 : 0 ≤ d) (h4 : d ≤ 10) (k : P (.dat (.bl (bB (Enough d.toNat a.toNat b.toNat))))) : sameManyS [.int a, .int b, .int d] P XP := ⟨a.toNat, b.toNat, d.toNat, by rw [Int.toNat_of_nonneg h1, Int.toNat_of_nonneg h2, Int.toNat_of_nonneg h3], by omega, k⟩
end
end DL
/-! DMo: a list as a ground: it may be walked, compared, and changed later -/
namespace DL
open PySem PySem.Spec PyProof.Rows L2
abbrev lsRes (K : PySem.W.Frag) : Res where
  S := List V × List D
  R := fun p st H0 H => H p = some (.lst st.1) ∧ RepAll K H0 st.1 st.2
  B := fun p a => a = p
  stab := fun p st H0 H H0' H' h e k => ⟨k _ _ rfl h.1, h.2.mono e⟩
  there := fun p st H0 H a h e z => by
    subst e
    rw [z] at h
    cases h.1
/-! ### uses -/
section
variable {n : Nat} {p : Addr} {Q : Sl → Nat → Prop} {XP : Addr → D → Nat → Prop}
theorem u_draw {span : Int} (h0 : 0 < span) (h1 : span ≤ 1000000000) (hn : 1 ≤ n) (k : ∀ z : Nat, ((z : Nat) : Int) < span → Q (.dat (.int ((z : Nat) : Int))) (n - 1)) : drawS p [.int span] n Q XP := draw_use h0 (Int.le_trans h1 (by decide)) hn k
theorem u_pair {z : Int} (h0 : 0 ≤ z) (h1 : z ≤ 60) (hn : 1000 ≤ n) (k : ∀ (l m : LRow) (n' : Nat), LetRow l z.toNat → LetRow m z.toNat → n ≤ n' + 1000 → Q (.dat (.tup [.str (rowS l), .str (rowS m)])) n') : pairS p [.int z] n Q XP :=
  ⟨z.toNat, by rw [Int.toNat_of_nonneg h0], by omega, hn, k⟩
end
/-! ### a name whose list is never changed: data at once -/
def tAsgF (te : TE) (g : TG) : TS := tAsg te g
theorem asF {X : Cx} {st : Stmt} {te : TE} {i : Nat} (h : PS X st (tAsg te (gName i))) : PS X st (tAsgF te (gName i)) := h
def tParF (i j : Nat) (ta : TA) : TS := tPar i j ta
theorem asPF {X : Cx} {st : Stmt} {ta : TA} {i j : Nat} (h : PS X st (tPar i j ta)) : PS X st (tParF i j ta) := h
def tPar3F (i j k : Nat) (ta : TA) : TS := tPar3 i j k ta
section
variable {c : Ct} {G : List Sl} {s : c.S}
theorem ws_asgF {te : TE} {i : Nat} {P : Ds c.S} (h : WE c te G s (FZ fun d s1 => P.nx (G.set i (.dat d)) s1)) : WS c (tAsgF te (gName i)) G s P := fun σ H0 H g D e =>
  h.use (Gd.of g) fun d s1 v H1 H1' hp g1 e1 r1 => by
    have g2 := g1.to
    exact e.nx _ s1 _ H1 H1' hp (g2.setSl (x := .dat d) i r1) e1 (List.length_set ..)
theorem ws_parF {ta : TA} {i j : Nat} {P : Ds c.S} (h : WA c ta G s fun ds s1 => ∃ x y, ds = [x, y] ∧ P.nx ((G.set i (.dat x)).set j (.dat y)) s1) : WS c (tParF i j ta) G s P := fun σ H0 H g D e =>
  h σ ([], []) H0 H (Gd.of g) _ fun ds s1 vs H1 H1' hp g1 e1 ra => by
    obtain ⟨x, y, rfl, hp⟩ := hp
    cases ra with
    | cons r1 ra =>
      cases ra with
      | cons r2 ra =>
        cases ra
        have g2 := g1.to
        exact ⟨_, _, rfl, e.nx _ s1 _ H1 H1' hp ((g2.setSl (x := .dat x) i r1).setSl (x := .dat y) j r2) e1 (by rw [List.length_set, List.length_set])⟩
theorem ws_par3F {ta : TA} {i j k : Nat} {P : Ds c.S} (h : WA c ta G s fun ds s1 => ∃ x y z, ds = [x, y, z] ∧ P.nx (((G.set i (.dat x)).set j (.dat y)).set k (.dat z)) s1) : WS c (tPar3F i j k ta) G s P := fun σ H0 H g D e =>
  h σ ([], []) H0 H (Gd.of g) _ fun ds s1 vs H1 H1' hp g1 e1 ra => by
    obtain ⟨x, y, z, rfl, hp⟩ := hp
    cases ra with
    | cons r1 ra =>
      cases ra with
      | cons r2 ra =>
        cases ra with
        | cons r3 ra =>
          cases ra
          have g2 := g1.to
          exact ⟨_, _, _, rfl, e.nx _ s1 _ H1 H1' hp (((g2.setSl (x := .dat x) i r1).setSl (x := .dat y) j r2).setSl (x := .dat z) k r3) e1 (by rw [List.length_set, List.length_set, List.length_set])⟩
end
/-! ### targets -/
section
variable {c : Ct} {G : List Sl} {s : c.S}
theorem ws_asg2 {K : PySem.W.Frag} (hK : c.K = K) {te : TE} {i j : Nat} {P : Ds c.S} (hi : i < G.length) (hj : j < G.length) (h : WE c te G s (FZ fun d s1 => ∃ a b, d = .tup [a, b] ∧ P.nx ((G.set i (.dat a)).set j (.dat b)) s1)) : WS c (tAsg te (gTup K 2 (gCons (gName i) (gCons (gName j) gNil)))) G s P :=
  ws_asgT (h.mono fun x s1 hx => by
    unfold FZ at hx ⊢
    split at hx
    · obtain ⟨a, b, rfl, hx⟩ := hx
      subst hK
      exact ⟨[i, j], _, tg_tup rfl (.cons hi (.cons (by rw [List.length_set]; exact hj) .nil)), hx⟩
    · obtain ⟨a, b, e, hx⟩ := hx
      cases e
    · exact hx)
/-- a, b = a list -/
theorem ws_asgL2 {K : PySem.W.Frag} (hK : c.K = K) {te : TE} {i j : Nat} {P : Ds c.S} (hi : i < G.length) (hj : j < G.length) (h : WE c te G s (FZ fun d s1 => ∃ a b, d = .lst [a, b] ∧ P.nx ((G.set i (.dat a)).set j (.dat b)) s1)) : WS c (tAsg te (gLst K 2 (gCons (gName i) (gCons (gName j) gNil)))) G s P :=
  ws_asgT (h.mono fun x s1 hx => by
    have tl : ∀ a b : D, Tg c (gLst c.K 2 (gCons (gName i) (gCons (gName j) gNil))) [i, j] (.lst [a, b]) G ((G.set i (.dat a)).set j (.dat b)) := fun a b s σ F H0 H v g r Q q => by
      cases r with
      | lst h ra =>
        exact ⟨_, _, rfl, .inl (.inl (g.gd.sub _ _ h)), ra.len, tgs_names (is := [i, j]) (.cons hi (.cons (by rw [List.length_set]; exact hj) .nil)) s σ F H0 H _ g ra Q q⟩
    unfold FZ at hx ⊢
    subst hK
    split at hx
    · obtain ⟨a, b, e, hx⟩ := hx
      subst e
      exact ⟨[i, j], _, tl a b, hx⟩
    · obtain ⟨a, b, e, hx⟩ := hx
      rw [e]
      exact ⟨[i, j], _, tl a b, hx⟩
    · exact hx)
theorem ws_asg3 {K : PySem.W.Frag} (hK : c.K = K) {te : TE} {i j k : Nat} {P : Ds c.S} (hi : i < G.length) (hj : j < G.length) (hk : k < G.length) (h : WE c te G s (FZ fun d s1 => ∃ a b e, d = .tup [a, b, e] ∧ P.nx (((G.set i (.dat a)).set j (.dat b)).set k (.dat e)) s1)) : WS c (tAsg te (gTup K 3 (gCons (gName i) (gCons (gName j) (gCons (gName k) gNil))))) G s P :=
  ws_asgT (h.mono fun x s1 hx => by
    unfold FZ at hx ⊢
    split at hx
    · obtain ⟨a, b, e, rfl, hx⟩ := hx
      subst hK
      exact ⟨[i, j, k], _, tg_tup rfl (.cons hi (.cons (by rw [List.length_set]; exact hj) (.cons (by rw [List.length_set, List.length_set]; exact hk) .nil))), hx⟩
    · obtain ⟨a, b, e, e0, hx⟩ := hx
      cases e0
    · exact hx)
/-- a, b, c = e1, e2, e3 as they are written -/
theorem ws_tup3 {K : PySem.W.Frag} (hK : c.K = K) {ta : TA} {i j k : Nat} {P : Ds c.S} (hi : i < G.length) (hj : j < G.length) (hk : k < G.length) (h : WAO c ta G s fun xs s1 => ∃ x y z, xs = [x, y, z] ∧ P.nx (((G.set i x).set j y).set k z) s1) : WS c (tAsg (tTup ta) (gTup K 3 (gCons (gName i) (gCons (gName j) (gCons (gName k) gNil))))) G s P := by
  subst hK
  refine ws_asgO (is := [i, j, k]) (n := 3) fun σ F H0 H g Q q => h σ F H0 H g Q fun xs s1 vs H0' H' hp => q xs s1 vs H0' H' ?_
  obtain ⟨x, y, z, rfl, hp⟩ := hp
  exact ⟨rfl, by decide, _, .cons hi (.cons (by rw [List.length_set]; exact hj) (.cons (by rw [List.length_set, List.length_set]; exact hk) .nil)), hp⟩
theorem ws_tup4 {K : PySem.W.Frag} (hK : c.K = K) {ta : TA} {i j k m : Nat} {P : Ds c.S} (hi : i < G.length) (hj : j < G.length) (hk : k < G.length) (hm : m < G.length) (h : WAO c ta G s fun xs s1 => ∃ x y z u, xs = [x, y, z, u] ∧ P.nx ((((G.set i x).set j y).set k z).set m u) s1) : WS c (tAsg (tTup ta) (gTup K 4 (gCons (gName i) (gCons (gName j) (gCons (gName k) (gCons (gName m) gNil)))))) G s P := by
  subst hK
  refine ws_asgO (is := [i, j, k, m]) (n := 4) fun σ F H0 H g Q q => h σ F H0 H g Q fun xs s1 vs H0' H' hp => q xs s1 vs H0' H' ?_
  obtain ⟨x, y, z, u, rfl, hp⟩ := hp
  exact ⟨rfl, by decide, _, .cons hi (.cons (by rw [List.length_set]; exact hj) (.cons (by rw [List.length_set, List.length_set]; exact hk) (.cons (by rw [List.length_set, List.length_set, List.length_set]; exact hm) .nil))), hp⟩
theorem ws_par3 {ta : TA} {i j k : Nat} {P : Ds c.S} (hi : i < G.length) (hj : j < G.length) (hk : k < G.length) (h : WAO c ta G s fun xs s1 => ∃ x y z, xs = [x, y, z] ∧ P.nx (((G.set i x).set j y).set k z) s1) : WS c (tPar3 i j k ta) G s P := fun σ H0 H g D e =>
  h σ ([], []) H0 H (Gd.of g) _ fun xs s1 vs H1 H1' hp g1 e1 hl => by
    obtain ⟨x, y, z, rfl, hp⟩ := hp
    have g2 : Good c (G ++ [x, y, z]) s1 (σ ++ vs.map some) H1 H1' := by simpa using g1.gd
    match vs, hl, g2 with
    | [v, w, u], _, g2 =>
      refine ⟨v, w, u, rfl, e.nx _ s1 _ H1 H1' hp ?_ e1 (by rw [List.length_set, List.length_set, List.length_set])⟩
      have g3 := g2.take g1.ln i hi
      have g4 := g3.take (x := y) (X := [z]) (by rw [List.length_set, List.length_set, g1.ln]) j (by rw [List.length_set]; exact hj)
      have g5 := g4.take (x := z) (X := []) (by rw [List.length_set, List.length_set, List.length_set, List.length_set, g1.ln]) k (by rw [List.length_set, List.length_set]; exact hk)
      simpa using g5
theorem tgNew {Pg : Program} {w : World} {P : Sl → c.S → Prop} (h : WE c (tDNewN Pg w) G s P) : WE c (tDNewN Pg w) G s P := h
theorem tgPick {f : FSpec} {perm : List Nat} {ds es : List D} {P : Sl → Prop} {XP : Addr → D → Prop} (e : pick perm ds = es) (h : f es P XP) : f (pick perm ds) P XP := by
  subst e
  exact h
theorem dm_lit {x : Str} (l : LRow) {z : Int} {P : Sl → c.S → Prop} (e : x = rowS l) (h0 : 0 ≤ z) (h1 : z ≤ 1000) (hl : l.length ≤ 1000) (k : P (.dat (.str (rowS (rep l z.toNat)))) s) : DOp c qMul (.str x) (.int z) G s P := by
  subst e
  refine dm_str h1 (by omega) (by rw [rowS_len]; exact hl) ?_
  have : repS (rowS l) z = rowS (rep l z.toNat) := by
    have q := repS_row l z.toNat
    rwa [Int.toNat_of_nonneg h0] at q
  rw [this]
  exact k
theorem tgA2 {a b : D} {R : D → D → Prop} (h : R a b) : ∃ x y, [a, b] = [x, y] ∧ R x y := ⟨a, b, rfl, h⟩
theorem tgA3 {a b d : D} {R : D → D → D → Prop} (h : R a b d) : ∃ x y z, [a, b, d] = [x, y, z] ∧ R x y z := ⟨a, b, d, rfl, h⟩
theorem tgEx2 {a b : Sl} {R : Sl → Sl → Prop} (h : R a b) : ∃ x y, [a, b] = [x, y] ∧ R x y := ⟨a, b, rfl, h⟩
theorem tgEx3 {a b d : Sl} {R : Sl → Sl → Sl → Prop} (h : R a b d) : ∃ x y z, [a, b, d] = [x, y, z] ∧ R x y z := ⟨a, b, d, rfl, h⟩
theorem tgEx4 {a b d e : Sl} {R : Sl → Sl → Sl → Sl → Prop} (h : R a b d e) : ∃ x y z u, [a, b, d, e] = [x, y, z, u] ∧ R x y z u := ⟨a, b, d, e, rfl, h⟩
theorem tgT2 {a b : D} {R : D → D → Prop} (h : R a b) : ∃ x y, D.tup [a, b] = .tup [x, y] ∧ R x y := ⟨a, b, rfl, h⟩
theorem tgL2 {a b : D} {R : D → D → Prop} (h : R a b) : ∃ x y, D.lst [a, b] = .lst [x, y] ∧ R x y := ⟨a, b, rfl, h⟩
theorem tgT3 {a b d : D} {R : D → D → D → Prop} (h : R a b d) : ∃ x y z, D.tup [a, b, d] = .tup [x, y, z] ∧ R x y z := ⟨a, b, d, rfl, h⟩
end
theorem Answ.symm {d : Nat} {l m : LRow} {i j : Nat} (h : Answ d l m i j) : Answ d m l j i := by
  obtain ⟨a, h1, h2, h3, h4⟩ := h
  exact ⟨a, h2, h1, h3.symm, h4.symm⟩
theorem fine_two {n w : Nat} {x : D} (h : Fine n w x) : Fine (n + 1) (2 * (w + 2) + 2) (.lst [x, x]) := (Fine.lst (.cons h (.cons h .nil))).mono (Nat.le_refl _) (by omega)
end DL
/-! DMp: ranges that go down, cuts of lists, four targets; a game played by answers (k20) -/
namespace DL
open PySem PySem.Spec PyProof.Rows L2
section
variable {c : Ct} {G : List Sl} {s : c.S}
theorem cutD_take (xs : List D) (i : Nat) : cutD xs none (some ((i : Nat) : Int)) = xs.take i := by
  unfold cutD
  rw [HT.sIx_none, HT.sIx_nat, List.drop_zero, Nat.sub_zero]
  by_cases h : i ≤ xs.length
  · rw [Nat.min_eq_left h]
  · rw [Nat.min_eq_right (by omega), List.take_length, List.take_of_length_le (by omega)]
theorem cutD_drop (xs : List D) (i : Nat) : cutD xs (some ((i : Nat) : Int)) none = xs.drop i := by
  unfold cutD
  rw [HT.sIx_none, HT.sIx_nat]
  by_cases h : i ≤ xs.length
  · rw [Nat.min_eq_left h, List.take_of_length_le (by rw [List.length_drop]; omega)]
  · rw [Nat.min_eq_right (by omega), Nat.sub_self, List.take_zero, List.drop_eq_nil_of_le (by omega)]
theorem dsl_take {α : Type} {enc : α → D} {L : List α} {i : Nat} {P : Sl → c.S → Prop} (k : P (.own (.lst ((L.take i).map enc))) s) : DSl c (qSl c.K) (.lst (L.map enc)) none (some ((i : Nat) : Int)) G s P := ds_lst (by rw [cutD_take, ← List.map_take]; exact k)
theorem dsl_drop {α : Type} {enc : α → D} {L : List α} {i : Nat} {P : Sl → c.S → Prop} (k : P (.own (.lst ((L.drop i).map enc))) s) : DSl c (qSl c.K) (.lst (L.map enc)) (some ((i : Nat) : Int)) none G s P := ds_lst (by rw [cutD_drop, ← List.map_drop]; exact k)
theorem dsl_drop1 {α : Type} {enc : α → D} {L : List α} {i : Nat} {P : Sl → c.S → Prop} (k : P (.own (.lst ((L.drop (i + 1)).map enc))) s) : DSl c (qSl c.K) (.lst (L.map enc)) (some (((i : Nat) : Int) + 1)) none G s P := dsl_drop (i := i + 1) k
theorem ds_mid {l : LRow} {i j : Nat} {P : Sl → c.S → Prop} (hl : l.length ≤ 1000000) (hij : i ≤ j) (k : P (.dat (.str (rowS ((l.drop i).take (j - i))))) s) : DSl c (qSl c.K) (.str (rowS l)) (some ((i : Nat) : Int)) (some ((j : Nat) : Int)) G s P :=
  ds_str (by rw [rowS_len]; exact hl) (by rw [cut_mid l i j hij]; exact k)
theorem da_map {α : Type} {enc : α → D} {L M : List α} {P : Sl → c.S → Prop} (hl : L.length + M.length ≤ 1000000) (k : P (.own (.lst ((L ++ M).map enc))) s) : DOp c (qAdd c.K) (.lst (L.map enc)) (.lst (M.map enc)) G s P :=
  da_lst (by rw [List.length_map, List.length_map]; exact hl) (by rw [← List.map_append]; exact k)
theorem dl_map {α : Type} {enc : α → D} {L : List α} {P : Sl → c.S → Prop} (k : P (.dat (.int ((L.length : Nat) : Int))) s) : DCB c (qLen c.K) [.lst (L.map enc)] G s P := dl_lst (by rw [List.length_map]; exact k)
theorem ws_asg4 {K : PySem.W.Frag} (hK : c.K = K) {te : TE} {i j k m : Nat} {P : Ds c.S} (hi : i < G.length) (hj : j < G.length) (hk : k < G.length) (hm : m < G.length) (h : WE c te G s (FZ fun d s1 => ∃ a b e f, d = .tup [a, b, e, f] ∧ P.nx ((((G.set i (.dat a)).set j (.dat b)).set k (.dat e)).set m (.dat f)) s1)) : WS c (tAsg te (gTup K 4 (gCons (gName i) (gCons (gName j) (gCons (gName k) (gCons (gName m) gNil)))))) G s P :=
  ws_asgT (h.mono fun x s1 hx => by
    subst hK
    have tl : ∀ a b e f : D, Tg c (gTup c.K 4 (gCons (gName i) (gCons (gName j) (gCons (gName k) (gCons (gName m) gNil))))) [i, j, k, m] (.tup [a, b, e, f]) G ((((G.set i (.dat a)).set j (.dat b)).set k (.dat e)).set m (.dat f)) := fun a b e f =>
      tg_tup rfl (.cons hi (.cons (by rw [List.length_set]; exact hj) (.cons (by rw [List.length_set, List.length_set]; exact hk) (.cons (by rw [List.length_set, List.length_set, List.length_set]; exact hm) .nil))))
    unfold FZ at hx ⊢
    split at hx
    · obtain ⟨a, b, e, f, e0, hx⟩ := hx
      subst e0
      exact ⟨[i, j, k, m], _, tl a b e f, hx⟩
    · obtain ⟨a, b, e, f, e0, hx⟩ := hx
      cases e0
    · exact hx)
theorem tgT4 {a b d e : D} {R : D → D → D → D → Prop} (h : R a b d e) : ∃ x y z u, D.tup [a, b, d, e] = .tup [x, y, z, u] ∧ R x y z u := ⟨a, b, d, e, rfl, h⟩
end
abbrev Sp4 := Nat × Nat × Nat × Nat
/-- a part of a row -/
def sl (l : LRow) (b e : Nat) : LRow := (l.drop b).take (e - b)
/-- the parts of a game: alike to what is left -/
def GoodSp (l m : LRow) (d : Nat) (x : Sp4) : Prop := x.1 ≤ x.2.1 ∧ x.2.1 ≤ l.length ∧ x.2.2.1 ≤ x.2.2.2 ∧ x.2.2.2 ≤ m.length ∧ Alike d (sl l x.1 x.2.1) (sl m x.2.2.1 x.2.2.2)
theorem GoodSp.less {l m : LRow} {d : Nat} {x : Sp4} (h : GoodSp l m (d + 1) x) : GoodSp l m d x := ⟨h.1, h.2.1, h.2.2.1, h.2.2.2.1, h.2.2.2.2.less⟩
theorem Letters.take {l : LRow} (h : Letters l) (i : Nat) : Letters (l.take i) := ⟨fun a ha => h.1 a (List.mem_of_mem_take ha), by rw [List.length_take]; have := h.2; omega⟩
theorem Letters.drop {l : LRow} (h : Letters l) (i : Nat) : Letters (l.drop i) := ⟨fun a ha => h.1 a (List.mem_of_mem_drop ha), by rw [List.length_drop]; have := h.2; omega⟩
theorem Letters.sl {l : LRow} (h : Letters l) (b e : Nat) : Letters (sl l b e) := (h.drop b).take _
end DL
/-! DMq: the game with all places picked so far, and rows alike to a depth (k03; no program in sight) -/
namespace DL
open PySem PySem.Spec PyProof.Rows L2
/-- in one sequence with what was picked -/
def InStep (S : Nat → Nat → Prop) (i j : Nat) : Prop := ∀ a b, S a b → (i < a ↔ j < b) ∧ (i = a ↔ j = b)
def addP (S : Nat → Nat → Prop) (i j : Nat) : Nat → Nat → Prop := fun a b => S a b ∨ (a = i ∧ b = j)
def Lasts : Nat → LRow → LRow → (Nat → Nat → Prop) → Prop
  | 0, _, _, _ => True
  | k + 1, l, m, S => (∀ i a, l[i]? = some a → ∃ j, m[j]? = some a ∧ InStep S i j ∧ Lasts k l m (addP S i j)) ∧ (∀ j a, m[j]? = some a → ∃ i, l[i]? = some a ∧ InStep S i j ∧ Lasts k l m (addP S i j))
theorem Lasts.less : ∀ {k : Nat} {l m : LRow} {S : Nat → Nat → Prop}, Lasts (k + 1) l m S → Lasts k l m S
  | 0, _, _, _, _ => trivial
  | k + 1, l, m, S, h => ⟨fun i a ha => by
      obtain ⟨j, h1, h2, h3⟩ := h.1 i a ha
      exact ⟨j, h1, h2, h3.less⟩, fun j a ha => by
      obtain ⟨i, h1, h2, h3⟩ := h.2 j a ha
      exact ⟨i, h1, h2, h3.less⟩⟩
/-- what was picked, as a list -/
def ofL (ps : List (Nat × Nat)) : Nat → Nat → Prop := fun a b => (a, b) ∈ ps
def inStepS : FSpec := fun ds P _ => ∃ (ps : List (Nat × Nat)) (i j : Nat), ds = [.lst (ps.map p2D), .int ((i : Nat) : Int), .int ((j : Nat) : Int)] ∧ ps.length ≤ 1000 ∧ P (.dat (.bl (bB (InStep (ofL ps) i j))))
def lastsS (D : Nat) : FSpec := fun ds P _ => ∃ k : Nat, k < D ∧ ∃ (l m : LRow) (ps : List (Nat × Nat)), ds = [.str (rowS l), .str (rowS m), .lst (ps.map p2D), .int ((k : Nat) : Int)] ∧ l.length ≤ 100 ∧ m.length ≤ 100 ∧ ps.length + k ≤ 100 ∧ P (.dat (.bl (bB (Lasts k l m (ofL ps)))))
theorem u_inStep {ps : List (Nat × Nat)} {i j : Nat} {P : Sl → Prop} {XP : Addr → D → Prop} (h : ps.length ≤ 1000) (k : P (.dat (.bl (bB (InStep (ofL ps) i j))))) : inStepS [.lst (ps.map p2D), .int ((i : Nat) : Int), .int ((j : Nat) : Int)] P XP := ⟨ps, i, j, rfl, h, k⟩
theorem u_lasts {D : Nat} {l m : LRow} {ps : List (Nat × Nat)} {z : Int} {P : Sl → Prop} {XP : Addr → DL.D → Prop} (h0 : 0 ≤ z) (h1 : z < D) (h2 : l.length ≤ 100) (h3 : m.length ≤ 100) (h4 : ps.length + z.toNat ≤ 100) (k : P (.dat (.bl (bB (Lasts z.toNat l m (ofL ps)))))) : lastsS D [.str (rowS l), .str (rowS m), .lst (ps.map p2D), .int z] P XP :=
  ⟨z.toNat, by omega, l, m, ps, by rw [Int.toNat_of_nonneg h0], h2, h3, h4, k⟩
section
variable {c : Ct} {G : List Sl} {s : c.S}
theorem da_snoc2 {L : List (Nat × Nat)} {i j : Nat} {P : Sl → c.S → Prop} (hl : L.length ≤ 100000) (k : P (.own (.lst ((L ++ [(i, j)]).map p2D))) s) : DOp c (qAdd c.K) (.lst (L.map p2D)) (.lst [.tup [.int ((i : Nat) : Int), .int ((j : Nat) : Int)]]) G s P :=
  da_lst (by rw [List.length_map]; simp; omega) (by rw [List.map_append] at k; exact k)
end
end DL
/-! DMr: errors: an own class over ValueError whose __init__ says super().__init__(value) -/
namespace DL
open PySem PySem.Spec PyProof.Rows L2
end DL
/-! DMs: an error that an except suite holds (a pinned object): isinstance, its value, a def that is called with it -/
namespace DL
open PySem PySem.Spec PyProof.Rows L2
open L2H (RoomH PinOk cxH inv_startH)
section
variable {X : Cx} {a : Addr} {cls : Value} {d : Option Addr}
/-- isinstance(e, c) -/
def rIsX (K : PySem.W.Frag) (a : Addr) (cls : Value) (d : Option Addr) : List V → Hp → VK → Prop := fun xs H Q => ∃ (C dd : Addr) (fs : List (Str × V)) (c : V) (cv : Value) (b : Bool), xs = [.ref a, c] ∧ cls = .ref C ∧ d = some dd ∧ H dd = some (.xd fs) ∧ ExcC K C ∧ ClsV c cv ∧ PySem.W.kitOne K (.ref C) cv = some b ∧ Q (.bl b) H
/-! ### a def that is called with the error -/
end
end DL
/-! DMt: errors over data: raise, try, what a suite asks of the error -/
namespace DL
open PySem PySem.Spec PyProof.Rows L2
/-! ### what is known of a held error -/
def ErrAt (K : PySem.W.Frag) (H0 : Hp) (d : Option Addr) (dat : D) : Prop := ∃ dd v, d = some dd ∧ H0 dd = some (.xd [("value", v)]) ∧ Rep K H0 v dat
theorem ErrAt.mono {K : PySem.W.Frag} {H0 H : Hp} {d : Option Addr} {dat : D} (h : ErrAt K H0 d dat) (e : Same H0 H) : ErrAt K H d dat := by
  obtain ⟨dd, v, h1, h2, h3⟩ := h
  exact ⟨dd, v, h1, e _ _ h2, h3.mono e⟩
abbrev excCt (c : Ct) (d : Option Addr) (dat : D) : Ct where
  K := c.K
  S := c.S
  R := fun s H0 H => c.R s H0 H ∧ ErrAt c.K H0 d dat
  B := c.B
  stab := fun s H0 H H0' H' h e k => ⟨c.stab _ _ _ _ _ h.1 e k, h.2.mono e⟩
  there := fun s H0 H a h hb => c.there _ _ _ _ h.1 hb
  E0 := c.E0
  E := c.E
  EX := c.EX
  X := c.X
  okX := fun C d s v a H0' H' x e sub k n av rs ha r => c.okX C d s v a H0' H' x e sub k n av rs.1 ha r
/-! ### try -/
/-! ### what is asked of a held error -/
/-- a ground that knows the error -/
def Knows (c : Ct) (d : Option Addr) (dat : D) : Prop := ∀ s H0 H, c.R s H0 H → ErrAt c.K H0 d dat
theorem knows_exc {c : Ct} {d : Option Addr} {dat : D} : Knows (excCt c d dat) d dat := fun _ _ _ h => h.2
/-! ### defs -/
end DL
/-! DMu: raise, try and held errors as rules for the text -/
namespace DL
open PySem PySem.Spec PyProof.Rows L2
theorem RoomH.units {k : Nat} {A : Around} (r : L2H.RoomH k A) : A.units + 64 < cLine := by
  have := r.un
  omega
end DL
/-! DMv: questions -/
namespace DL
open PySem PySem.Spec PyProof.Rows L2
inductive Qn where
  | any | neg (q : Qn) | both (p q : Qn) | some (p : Qn) (a : Nat) (q : Qn)
  deriving DecidableEq
namespace Qn
def D : Qn → DL.D
  | .any => .tup [.str "any"]
  | .neg q => .tup [.str "not", q.D]
  | .both p q => .tup [.str "both", p.D, q.D]
  | .some p a q => .tup [.str "some", p.D, .str (rowS [a]), q.D]
def parts : Qn → List DL.D
  | .any => [.str "any"]
  | .neg q => [.str "not", q.D]
  | .both p q => [.str "both", p.D, q.D]
  | .some p a q => [.str "some", p.D, .str (rowS [a]), q.D]
theorem D_parts : ∀ q : Qn, q.D = .tup q.parts
  | .any => rfl
  | .neg _ => rfl
  | .both _ _ => rfl
  | .some _ _ _ => rfl
def size : Qn → Nat
  | .any => 1
  | .neg q => q.size + 1
  | .both p q => p.size + q.size + 1
  | .some p _ q => p.size + q.size + 1
/-- how deep it lies within itself -/
def ht : Qn → Nat
  | .any => 1
  | .neg q => q.ht + 1
  | .both p q => max p.ht q.ht + 1
  | .some p _ q => max p.ht q.ht + 1
def depth : Qn → Nat
  | .any => 0
  | .neg q => q.depth
  | .both p q => max p.depth q.depth
  | .some p _ q => max p.depth q.depth + 1
/-- its letters are among A -/
def In (A : List Nat) : Qn → Prop
  | .any => True
  | .neg q => q.In A
  | .both p q => p.In A ∧ q.In A
  | .some p a q => p.In A ∧ a ∈ A ∧ q.In A
def lets : Qn → LRow → Bool
  | .any, _ => true
  | .neg q, l => !q.lets l
  | .both p q, l => p.lets l && q.lets l
  | .some p a q, l => (List.range l.length).any fun i => l[i]? == Option.some a && (p.lets (l.take i) && q.lets (l.drop (i + 1)))
def turn : Qn → Qn
  | .any => .any
  | .neg q => .neg q.turn
  | .both p q => .both p.turn q.turn
  | .some p a q => .some q.turn a p.turn
theorem ht_le : ∀ q : Qn, q.ht ≤ q.size
  | .any => Nat.le_refl _
  | .neg q => by have := q.ht_le; show q.ht + 1 ≤ q.size + 1; omega
  | .both p q => by have := p.ht_le; have := q.ht_le; show max p.ht q.ht + 1 ≤ p.size + q.size + 1; omega
  | .some p a q => by have := p.ht_le; have := q.ht_le; show max p.ht q.ht + 1 ≤ p.size + q.size + 1; omega
theorem size_pos : ∀ q : Qn, 0 < q.size
  | .any => by decide
  | .neg q => Nat.succ_pos _
  | .both p q => Nat.succ_pos _
  | .some p _ q => Nat.succ_pos _
theorem In.mono {A B : List Nat} (h : ∀ a ∈ A, a ∈ B) : ∀ {q : Qn}, q.In A → q.In B
  | .any, _ => trivial
  | .neg q, k => In.mono (q := q) h k
  | .both p q, k => ⟨In.mono (q := p) h k.1, In.mono (q := q) h k.2⟩
  | .some p a q, k => ⟨In.mono (q := p) h k.1, h a k.2.1, In.mono (q := q) h k.2.2⟩
def Met (l : LRow) (p : Qn) (a : Nat) (q : Qn) (i : Nat) : Prop := l[i]? = Option.some a ∧ p.lets (l.take i) = true ∧ q.lets (l.drop (i + 1)) = true
end Qn
/-- _law_query -/
def qryS (D : Nat) : RSpec poolRes := fun _ ds (n : Nat) P _ => ∃ wd : Nat, wd < D ∧ ∃ (names : DL.D) (A : List Nat) (dp : Nat), ds = [names, .int ((dp : Nat) : Int), .int ((wd : Nat) : Int)] ∧ Names names A ∧ wd ≤ 1000 ∧ dp ≤ 100 ∧ 6 * wd + 4 ≤ n ∧
  ∀ (q : Qn) (n' : Nat), q.In A → q.depth ≤ dp → q.size ≤ max wd 1 → n ≤ n' + 6 * wd + 4 → P (.dat q.D) n'
theorem u_qry {D n : Nat} {names : DL.D} {A : List Nat} {dI wI : Int} {p : Addr} {Q : Sl → Nat → Prop} {XP : Addr → DL.D → Nat → Prop} (hN : Names names A) (h1 : 0 ≤ wI) (h2 : wI < D) (h3 : wI ≤ 1000) (h4 : 0 ≤ dI) (h5 : dI ≤ 100) (h6 : 6 * wI.toNat + 4 ≤ n)
    (k : ∀ (q : Qn) (n' : Nat), q.In A → q.depth ≤ dI.toNat → q.size ≤ max wI.toNat 1 → n ≤ n' + 6 * wI.toNat + 4 → Q (.dat q.D) n') : qryS D p [names, .int dI, .int wI] n Q XP :=
  ⟨wI.toNat, by omega, names, A, dI.toNat, by rw [Int.toNat_of_nonneg h1, Int.toNat_of_nonneg h4], hN, by omega, by omega, h6, k⟩
/-- _law_steep -/
def steepS (D : Nat) : RSpec poolRes := fun _ ds (n : Nat) P _ => ∃ dp : Nat, dp < D ∧ ∃ (names : DL.D) (A : List Nat), ds = [names, .int ((dp : Nat) : Int)] ∧ Names names A ∧ dp ≤ 100 ∧ 50 * dp + 4 ≤ n ∧
  ∀ (q : Qn) (n' : Nat), q.In A → q.depth ≤ dp → q.size ≤ 8 * dp + 1 → n ≤ n' + 50 * dp + 4 → P (.dat q.D) n'
theorem u_steep {D n : Nat} {names : DL.D} {A : List Nat} {dI : Int} {p : Addr} {Q : Sl → Nat → Prop} {XP : Addr → DL.D → Nat → Prop} (hN : Names names A) (h1 : 0 ≤ dI) (h2 : dI < D) (h3 : dI ≤ 100) (h6 : 50 * dI.toNat + 4 ≤ n)
    (k : ∀ (q : Qn) (n' : Nat), q.In A → q.depth ≤ dI.toNat → q.size ≤ 8 * dI.toNat + 1 → n ≤ n' + 50 * dI.toNat + 4 → Q (.dat q.D) n') : steepS D p [names, .int dI] n Q XP :=
  ⟨dI.toNat, by omega, names, A, by rw [Int.toNat_of_nonneg h1], hN, by omega, h6, k⟩
/-- _law_any_query -/
def anyqS : RSpec poolRes := fun _ ds (n : Nat) P _ => ∃ (dp wd : Nat) (names : DL.D) (A : List Nat), ds = [names, .int ((dp : Nat) : Int), .int ((wd : Nat) : Int)] ∧ Names names A ∧ dp ≤ 10 ∧ wd ≤ 60 ∧ 1000 ≤ n ∧
  ∀ (q : Qn) (n' : Nat), q.In A → q.depth ≤ dp → q.size ≤ max wd (8 * dp + 1) → n ≤ n' + 1000 → P (.dat q.D) n'
theorem u_anyq {n : Nat} {names : DL.D} {A : List Nat} {dI wI : Int} {p : Addr} {Q : Sl → Nat → Prop} {XP : Addr → DL.D → Nat → Prop} (hN : Names names A) (h1 : 0 ≤ wI ∧ wI ≤ 60) (h4 : 0 ≤ dI ∧ dI ≤ 10) (h6 : 1000 ≤ n)
    (k : ∀ (q : Qn) (n' : Nat), q.In A → q.depth ≤ dI.toNat → q.size ≤ max wI.toNat (8 * dI.toNat + 1) → n ≤ n' + 1000 → Q (.dat q.D) n') : anyqS p [names, .int dI, .int wI] n Q XP :=
  ⟨dI.toNat, wI.toNat, names, A, by rw [Int.toNat_of_nonneg h1.1, Int.toNat_of_nonneg h4.1], hN, by omega, by omega, h6, k⟩
/-- _law_lets -/
def letsS (D : Nat) : FSpec := fun ds P _ => ∃ sz : Nat, sz < D ∧ ∃ (l : LRow) (q : Qn), ds = [.str (rowS l), q.D] ∧ q.ht = sz ∧ l.length ≤ 1000 ∧ P (.dat (.bl (q.lets l)))
theorem u_letsH {D : Nat} {l : LRow} {q : Qn} {P : Sl → Prop} {XP : Addr → DL.D → Prop} (h : q.ht < D) (hl : l.length ≤ 1000) (k : P (.dat (.bl (q.lets l)))) : letsS D [.str (rowS l), q.D] P XP := ⟨_, h, l, q, rfl, rfl, hl, k⟩
theorem u_lets {D : Nat} {l : LRow} {q : Qn} {P : Sl → Prop} {XP : Addr → DL.D → Prop} (h : q.size < D) (hl : l.length ≤ 1000) (k : P (.dat (.bl (q.lets l)))) : letsS D [.str (rowS l), q.D] P XP := u_letsH (Nat.lt_of_le_of_lt q.ht_le h) hl k
section
variable {c : Ct} {G : List Sl} {s : c.S} {P : Sl → c.S → Prop}
theorem dop_fdivN {i j : Int} (h1 : 0 < j) (h3 : j < 2 ^ 60) (k : P (.dat (.int (i / j))) s) : DOp c (rI CDivW fun i j => V.int (i / j)) (.int i) (.int j) G s P := fun σ F H0 H v w gd r1 r2 Q q => by
  cases r1
  cases r2
  exact ⟨i, j, rfl, rfl, ⟨h1, by
    by_cases z : j.natAbs = 0
    · rw [z]; decide
    · have := (Nat.log2_lt z).mpr (show j.natAbs < 2 ^ 60 by omega); omega⟩, q _ s _ H0 H k gd (Same.refl _) (.int _)⟩
theorem dl_names {names : DL.D} {A : List Nat} (hN : Names names A) (k : P (.dat (.int A.length)) s) : DCB c (qLen c.K) [names] G s P := by
  obtain ⟨hA0, hA1, hN⟩ := hN
  rcases hN with rfl | rfl
  · have e : (PySem.Str.length ⟨A.toArray⟩ : Nat) = A.length := by simp [PySem.Str.length]
    exact dl_str (by rw [e]; omega) (by rw [e]; exact k)
  · exact dl_lst (by rw [List.length_map]; exact k)
theorem di_names {names : DL.D} {A : List Nat} {z : Int} (hN : Names names A) (h0 : 0 ≤ z) (h1 : z < A.length) (k : ∀ a, a ∈ A → P (.dat (.str (rowS [a]))) s) : DOp c (rIx c.K) names (.int z) G s P := by
  obtain ⟨hA0, hA1, hN⟩ := hN
  obtain ⟨m, rfl⟩ := Int.eq_ofNat_of_zero_le h0
  have hm : m < A.length := by omega
  rcases hN with rfl | rfl
  · have e : (PySem.Str.length ⟨A.toArray⟩ : Nat) = A.length := by simp [PySem.Str.length]
    exact di_str (a := A[m]) (by rw [e]; omega) (atI_nat rfl (by simp [hm])) (k _ (List.getElem_mem hm))
  · exact di_lst (d := .str ⟨#[A[m]]⟩) (atI_nat rfl (by simp [hm])) (k _ (List.getElem_mem hm))
theorem Names.pos {names : DL.D} {A : List Nat} (hN : Names names A) : 0 < A.length ∧ A.length ≤ 1000 := ⟨List.length_pos_iff.mpr hN.1, hN.2.1⟩
theorem di_qn {q : Qn} {i : Int} {d : DL.D} (h : atI q.parts i = Option.some d) (k : P (.dat d) s) : DOp c (rIx c.K) q.D (.int i) G s P := by
  rw [q.D_parts]
  exact di_tup h k
end
end DL
/-! DMw: types of data, a dict of the module, all and any, questions in parts -/
namespace DL
open PySem PySem.Spec PyProof.Rows L2
theorem call_isiK {X : Cx} {K : PySem.W.Frag} (hK : X.K = K) : CallR X (.builtin "isinstance") (rIsi K) := by
  subst hK
  exact call_isi
def D.ty : DL.D → Option String
  | .non => Option.some "NoneType"
  | .bl _ => Option.some "bool"
  | .int _ => Option.some "int"
  | .str _ => Option.some "str"
  | .tup _ => Option.some "tuple"
  | .lst _ => Option.some "list"
  | .ref _ => Option.none
theorem Rep.ty {K : PySem.W.Frag} {H0 H : Hp} {v : V} {d : D} {n : String} (e : Same H0 H) (r : Rep K H0 v d) (h : d.ty = Option.some n) : TyX K H v (.type n) := by
  cases r with
  | non => cases h; exact .base .non
  | bl b => cases h; exact .base (.bl b)
  | int i => cases h; exact .base (.int i)
  | str x => cases h; exact .base (.str x)
  | ref a => cases h
  | tup h1 _ =>
    cases h
    rcases h1 with (q | ⟨o, q⟩) | ⟨o, its, n, q, c, _⟩
    · exact .base (.tup (e _ _ q))
    · exact .fTuple (e _ _ q)
    · exact .kTuple q c
  | lst h1 _ => cases h; exact .base (.lst (e _ _ h1))
/-- a dict of the module: texts to numbers -/
structure KTab (K : PySem.W.Frag) (w : World) (mg : Str → Option Value) (x : Str) (a : Addr) (tab : List (Str × Int)) : Prop where
  mg : mg x = Option.some (.ref a)
  kd : ∃ es n, KDict K w a es n
  hit : ∀ p ∈ tab, ∃ t, PySem.W.nsIn K a p.1 = Option.some (Option.some (.int p.2 t))
def rNinTab (K : PySem.W.Frag) (a : Addr) : R2 := fun x y H Q => ∃ (z : Str) (r : Option Value), x = .str z ∧ y = .ref a ∧ PySem.W.nsIn K a z = Option.some r ∧ Q (.bl (!r.isSome)) H
theorem op_ninTab {X : Cx} {K : PySem.W.Frag} {w : World} {mg : Str → Option Value} {x : Str} {a : Addr} {tab : List (Str × Int)} (hK : X.K = K) (hw : X.w = w) (D : KTab K w mg x a tab) : OpR X (compareOp .NotIn) (rNinTab K a) := by
  subst hK
  subst hw
  obtain ⟨es, n, k⟩ := D.kd
  exact op_notIn_kd k
theorem ix_tab {X : Cx} {K : PySem.W.Frag} {w : World} (hK : X.K = K) (hw : X.w = w) : IxR X (rIxD K w) := by
  subst hK
  subst hw
  exact ix_kdict
section
variable {c : Ct} {G : List Sl} {s : c.S} {P : Sl → c.S → Prop}
theorem we_isi {te : TE} {n : String} (h : WE c te G s (FZ fun d s1 => d.ty = Option.some n ∧ P (.dat (.bl true)) s1)) : WE c (tCB (rIsi c.K) (tCons te (tCons (tC (.ty n)) tNil))) G s P := fun σ F H0 H g Q q =>
  h.use g fun d s1 v H1 H1' hp g1 e1 r1 => by
    obtain ⟨hd, hp⟩ := hp
    exact ⟨v, .ty n, .type n, .type n, true, rfl, .ty n, r1.ty g1.gd.sub hd, by unfold PySem.W.kitOne; rw [if_pos (beq_self_eq_true _)], q _ s1 _ H1 H1' hp g1 e1 (.bl true)⟩
theorem dnin_tab {w : World} {mg : Str → Option Value} {x z : Str} {a : Addr} {tab : List (Str × Int)} {i : Int} (D : KTab c.K w mg x a tab) (h : (z, i) ∈ tab) (k : P (.dat (.bl false)) s) : DOp c (rNinTab c.K a) (.str z) (.ref a) G s P := fun σ F H0 H v u gd r1 r2 Q q => by
  cases r1
  cases r2
  obtain ⟨t, e⟩ := D.hit _ h
  exact ⟨z, _, rfl, rfl, e, q _ s _ H0 H k gd (Same.refl _) (.bl false)⟩
theorem di_tab {w : World} {mg : Str → Option Value} {x z : Str} {a : Addr} {tab : List (Str × Int)} {i : Int} (D : KTab c.K w mg x a tab) (h : (z, i) ∈ tab) (k : P (.dat (.int i)) s) : DOp c (rIxD c.K w) (.ref a) (.str z) G s P := fun σ F H0 H v u gd r1 r2 Q q => by
  cases r1
  cases r2
  obtain ⟨t, e⟩ := D.hit _ h
  obtain ⟨es, n, kd⟩ := D.kd
  exact ⟨a, z, .int i, rfl, rfl, ⟨es, n, _, kd.at_, kd.lit, e, ⟨t, rfl⟩⟩, q _ s _ H0 H k gd (Same.refl _) (.int i)⟩
theorem bls_map {α : Type} (f : α → Bool) (L : List α) : (L.map fun x => DL.D.bl (f x)) = (L.map f).map DL.D.bl := by rw [List.map_map]; rfl
theorem db_all {α : Type} {f : α → Bool} {L : List α} (k : P (.dat (.bl (L.all f))) s) : DCB c (rAll c.K) [.lst (L.map fun x => .bl (f x))] G s P := fun σ F H0 H vs gd r Q q => by
  cases r with
  | cons r rs =>
    cases rs
    cases r with
    | lst ha ra =>
      rw [bls_map] at ra
      have e := ra.bls
      subst e
      refine ⟨_, L.map f, rfl, .inl (.inl (gd.gd.sub _ _ ha)), ?_⟩
      have : ((L.map f).all id) = L.all f := by rw [List.all_map]; rfl
      rw [this]
      exact q _ s _ H0 H k gd (Same.refl _) (.bl _)
theorem db_anyB {α : Type} {f : α → Bool} {L : List α} (k : P (.dat (.bl (L.any f))) s) : DCB c (rAny c.K) [.lst (L.map fun x => .bl (f x))] G s P := fun σ F H0 H vs gd r Q q => by
  cases r with
  | cons r rs =>
    cases rs
    cases r with
    | lst ha ra =>
      rw [bls_map] at ra
      have e := ra.bls
      subst e
      refine ⟨_, L.map f, rfl, .inl (.inl (gd.gd.sub _ _ ha)), ?_⟩
      have : ((L.map f).any id) = L.any f := by rw [List.any_map]; rfl
      rw [this]
      exact q _ s _ H0 H k gd (Same.refl _) (.bl _)
theorem db_listT {xs : List DL.D} (k : P (.own (.lst xs)) s) : DCB c (qList c.K) [.tup xs] G s P := fun σ F H0 H vs gd r Q q => by
  cases r with
  | cons r rs =>
    cases rs
    cases r with
    | tup ha ra =>
      exact ⟨_, _, rfl, .inr (same_t gd.gd.sub ha), fun p hp => q _ s _ H0 _ k (gd.push hp) (Same.refl _) (gd.rok (u := .lst _) hp ra)⟩
theorem db_listL {xs : List DL.D} (k : P (.own (.lst xs)) s) : DCB c (qList c.K) [.lst xs] G s P := fun σ F H0 H vs gd r Q q => by
  cases r with
  | cons r rs =>
    cases rs
    cases r with
    | lst ha ra =>
      exact ⟨_, _, rfl, .inl (.inl (.inl (gd.gd.sub _ _ ha))), fun p hp => q _ s _ H0 _ k (gd.push hp) (Same.refl _) (gd.rok (u := .lst _) hp ra)⟩
end
section
variable {c : Ct} {G : List Sl} {s : c.S}
/-- [te for j in ..], the same for each -/
theorem we_lcY {α : Type} {P : Sl → c.S → Prop} {ti : TI} {te : TE} {j : Nat} (out : α → DL.D) (hG : unAll G [j] = G) (hj : j < G.length) (h : WI c ti G s fun its s1 => ∃ (L : List α) (enc : α → DL.D), its = L.map enc ∧ L.length ≤ 1000000 ∧
      (∀ x ∈ L, WE c te (G.set j (.dat (enc x))) s1 (FZ fun y s3 => y = out x ∧ s3 = s1)) ∧ P (.own (.lst (L.map out))) s1) : WE c (tLc ti (gName j) tYes te [j]) G s P :=
  we_lcFN (fun _ => True) out hG hj fun σ F H0 H gd R q => h σ F H0 H gd R fun its s1 J H0' H' Gw Y hp => q its s1 J H0' H' Gw Y (by
    obtain ⟨L, enc, rfl, hl, hs, k⟩ := hp
    refine ⟨L, enc, rfl, hl, fun x hx => wt_yes ⟨(bB_true trivial).symm, rfl, fun _ => hs x hx⟩, ?_⟩
    rw [List.filter_eq_self.mpr fun x _ => bB_true trivial]
    exact k)
end
/-! ### questions -/
abbrev LET : List Nat := ("abcdefghijklmnopqrstuvwxyz" : Str).cps.toList
theorem LET_lt : ∀ a ∈ LET, a < 0x110000 := by decide +kernel
namespace Qn
def kids : Qn → List Qn
  | .any => []
  | .neg q => [q]
  | .both p q => [p, q]
  | .some p _ q => [p, q]
theorem kids_len (q : Qn) : q.kids.length ≤ 1000000 := by cases q <;> simp [kids]
theorem size_kids : ∀ q : Qn, q.size = (q.kids.map Qn.size).sum + 1
  | .any => rfl
  | .neg q => rfl
  | .both p q => by show p.size + q.size + 1 = _; simp [kids]
  | .some p a q => by show p.size + q.size + 1 = _; simp [kids]
theorem take_snoc {qs : List Qn} {i : Nat} {x : Qn} (h : qs[i]? = Option.some x) : qs.take (i + 1) = qs.take i ++ [x] := by
  obtain ⟨hi, rfl⟩ := List.getElem?_eq_some_iff.mp h
  exact List.take_succ_eq_append_getElem hi
theorem kid_In {A : List Nat} : ∀ {q r : Qn}, q.In A → r ∈ q.kids → r.In A
  | .any, r, _, h => nomatch h
  | .neg q, r, k, h => by
    rw [List.mem_singleton.mp h]
    exact k
  | .both p q, r, k, h => by
    have : r = p ∨ r = q := by simpa [kids] using h
    rcases this with rfl | rfl
    · exact k.1
    · exact k.2
  | .some p a q, r, k, h => by
    have : r = p ∨ r = q := by simpa [kids] using h
    rcases this with rfl | rfl
    · exact k.1
    · exact k.2.2
theorem fine : ∀ {q : Qn}, q.In LET → Fine q.ht (80 * q.size) q.D
  | .any, _ => (Fine.tup (.cons (Fine.str (x := "any") (by decide +kernel)) .nil)).mono (by decide) (by decide +kernel)
  | .neg q, h => (Fine.tup (.cons ((Fine.str (x := "not") (by decide +kernel)).mono (Nat.zero_le _) (show _ ≤ 32 by decide +kernel)) (.cons (fine (q := q) h) .nil))).mono (Nat.le_refl _) (by
      show 0 + (80 * q.size + 2) + (32 + 2) + 4 ≤ 80 * (q.size + 1)
      omega)
  | .both p q, h => (Fine.tup (.cons ((Fine.str (x := "both") (by decide +kernel)).mono (Nat.zero_le _) (show _ ≤ 42 by decide +kernel)) (.cons ((fine (q := p) h.1).mono (show p.ht ≤ max p.ht q.ht by omega) (Nat.le_refl _)) (.cons ((fine (q := q) h.2).mono (show q.ht ≤ max p.ht q.ht by omega) (Nat.le_refl _)) .nil)))).mono (Nat.le_refl _) (by
      show 0 + (80 * q.size + 2) + (80 * p.size + 2) + (42 + 2) + 4 ≤ 80 * (p.size + q.size + 1)
      omega)
  | .some p a q, h => by
    have hp := fine (q := p) h.1
    have hq := fine (q := q) h.2.2
    have ha : Fine 0 12 (.str (rowS [a])) := Fine.row (l := [a]) fun b hb => by
      rw [List.mem_singleton.mp hb]
      exact LET_lt a h.2.1
    refine (Fine.tup (.cons ((Fine.str (x := "some") (by decide +kernel)).mono (Nat.zero_le _) (show _ ≤ 42 by decide +kernel)) (.cons (hp.mono (show p.ht ≤ max p.ht q.ht by omega) (Nat.le_refl _)) (.cons (ha.mono (Nat.zero_le _) (Nat.le_refl _)) (.cons (hq.mono (show q.ht ≤ max p.ht q.ht by omega) (Nat.le_refl _)) .nil))))).mono (Nat.le_refl _) ?_
    show 0 + (80 * q.size + 2) + (12 + 2) + (80 * p.size + 2) + (42 + 2) + 4 ≤ 80 * (p.size + q.size + 1)
    omega
theorem kid_ht : ∀ {q r : Qn}, r ∈ q.kids → r.ht < q.ht
  | .any, r, h => by cases h
  | .neg q, r, h => by
    rw [List.mem_singleton.mp h]
    show q.ht < q.ht + 1
    omega
  | .both p q, r, h => by
    simp only [kids, List.mem_cons, List.not_mem_nil, or_false] at h
    rcases h with rfl | rfl
    · show r.ht < max r.ht q.ht + 1; omega
    · show r.ht < max p.ht r.ht + 1; omega
  | .some p a q, r, h => by
    simp only [kids, List.mem_cons, List.not_mem_nil, or_false] at h
    rcases h with rfl | rfl
    · show r.ht < max r.ht q.ht + 1; omega
    · show r.ht < max p.ht r.ht + 1; omega
end Qn
section
variable {c : Ct} {G : List Sl} {s : c.S} {P : Sl → c.S → Prop}
theorem dl_qn {q : Qn} {z : Int} (h : ((q.parts.length : Nat) : Int) = z) (k : P (.dat (.int z)) s) : DCB c (qLen c.K) [q.D] G s P := by
  rw [q.D_parts]
  exact dl_tup (by rw [h]; exact k)
theorem ds_qn {q : Qn} (k : P (.dat (.tup (q.parts.drop 1))) s) : DSl c (qSl c.K) q.D (Option.some 1) none G s P := by
  rw [q.D_parts]
  have e : cutD q.parts (Option.some (((1 : Nat) : Nat) : Int)) none = q.parts.drop 1 := cutD_drop _ _
  exact ds_tup (by rw [show (1 : Int) = ((1 : Nat) : Int) from rfl, e]; exact k)
theorem Qn.ty (q : Qn) : q.D.ty = Option.some "tuple" := by rw [q.D_parts]; rfl
theorem Qn.D_ne (q : Qn) : q.D ≠ .tup [] := by cases q <;> exact fun h => by cases h
theorem Qn.nb : ∀ q : Qn, q.D.nb = true
  | .any => rfl
  | .neg q => by simp [Qn.D, DL.D.nb, DL.D.nbs, Qn.nb q]
  | .both p q => by simp [Qn.D, DL.D.nb, DL.D.nbs, Qn.nb p, Qn.nb q]
  | .some p a q => by simp [Qn.D, DL.D.nb, DL.D.nbs, Qn.nb p, Qn.nb q]
theorem deq_qn0 {q : Qn} (h : q.In LET) (hs : q.ht ≤ 60) (k : P (.dat (.bl false)) s) : DOp c (qEq c.K) q.D (.tup []) G s P :=
  deqF (q.fine h) (Fine.tup (n := 0) .nil) (by omega) (by decide) q.nb rfl (by rw [bB_false q.D_ne]; exact k)
/-! ### promises -/
abbrev isletS : FSpec := fun ds P _ => ∃ a : Nat, ds = [.str (rowS [a])] ∧ a ∈ LET ∧ P (.dat (.bl true))
abbrev innerS : FSpec := fun ds P _ => ∃ q : Qn, ds = [q.D] ∧ P (.own (.lst (q.kids.map Qn.D)))
abbrev isqS (D : Nat) : FSpec := fun ds P _ => ∃ k, k < D ∧ ∃ q : Qn, ds = [q.D] ∧ q.ht = k ∧ q.In LET ∧ q.ht ≤ 60 ∧ P (.dat (.bl true))
abbrev chqS : FSpec := fun ds P _ => ∃ q : Qn, ds = [q.D] ∧ q.In LET ∧ q.ht ≤ 60 ∧ P (.dat .non)
end
section
variable {q : Qn} {P : Sl → Prop} {XP : Addr → DL.D → Prop}
theorem u_islet {a : Nat} (h : a ∈ LET) (k : P (.dat (.bl true))) : isletS [.str (rowS [a])] P XP := ⟨a, rfl, h, k⟩
theorem u_inner (k : P (.own (.lst (q.kids.map Qn.D)))) : innerS [q.D] P XP := ⟨q, rfl, k⟩
theorem u_isqH {D : Nat} (h : q.ht < D) (h1 : q.In LET) (h2 : q.ht ≤ 60) (k : P (.dat (.bl true))) : isqS D [q.D] P XP := ⟨_, h, q, rfl, rfl, h1, h2, k⟩
theorem u_isq {D : Nat} (h : q.size < D) (h1 : q.In LET) (h2 : q.size ≤ 60) (k : P (.dat (.bl true))) : isqS D [q.D] P XP := u_isqH (Nat.lt_of_le_of_lt q.ht_le h) h1 (Nat.le_trans q.ht_le h2) k
theorem u_chqH (h1 : q.In LET) (h2 : q.ht ≤ 60) (k : P (.dat .non)) : chqS [q.D] P XP := ⟨q, rfl, h1, h2, k⟩
theorem u_chq (h1 : q.In LET) (h2 : q.size ≤ 60) (k : P (.dat .non)) : chqS [q.D] P XP := u_chqH h1 (Nat.le_trans q.ht_le h2) k
end
end DL
/-! DMx: parts of a ground that are grounds of their own; dicts with tuple keys and lists as grounds -/
namespace DL
open PySem PySem.Spec PyProof.Rows L2
/-- r' at p' is a part of r at p -/
structure Sub (r r' : Res) (p p' : Addr) (f : r.S → r'.S) (g : r.S → r'.S → r.S) : Prop where
  B : ∀ a, r'.B p' a → r.B p a
  R : ∀ s H0 H, r.R p s H0 H → r'.R p' (f s) H0 H
  W : ∀ s t H0 H H0' H', r.R p s H0 H → Step (r'.R p') (r'.B p') t H0 H H0' H' → r.R p (g s t) H0' H'
theorem CtR.part {c : Ct} {r r' : Res} {p p' : Addr} {to : c.S → r.S} {put : c.S → r.S → c.S} {f : r.S → r'.S} {g : r.S → r'.S → r.S} (hc : CtR c r p to put) (h : Sub r r' p p' f g) : CtR c r' p' (fun s => f (to s)) (fun s t => put s (g (to s) t)) where
  B := fun a hb => hc.B a (h.B a hb)
  R := fun s H0 H hr => h.R _ _ _ (hc.R s H0 H hr)
  back := fun s t H0 H H0' H' hr av st => hc.back s (g (to s) t) H0 H H0' H' hr av ⟨st.ex, st.sub, fun a o ha hb => st.fr a o ha fun z => hb (h.B a z), st.nw, fun a hb => st.nw a (r.there p _ _ _ a (hc.R s H0 H hr) hb) (av a (hc.B a hb)), h.W _ _ _ _ _ _ (hc.R s H0 H hr) st⟩
/-! ### a dict with tuple keys -/
abbrev DT := List (List Key × D)
def dtAt (st : DT) (k : List Key) : Option D := (st.find? fun e => decide (e.1 = k)).map (·.2)
def DtOk (K : PySem.W.Frag) (H0 : Hp) (kvs : List (List Key × V)) (st : DT) : Prop := Paired (fun a b => a.1 = b.1 ∧ Rep K H0 a.2 b.2) kvs st
theorem DtOk.mono {K : PySem.W.Frag} {H0 H0' : Hp} (e : Same H0 H0') {kvs : List (List Key × V)} {st : DT} (h : DtOk K H0 kvs st) : DtOk K H0' kvs st := Paired.mapP h fun _ _ q => ⟨q.1, q.2.mono e⟩
theorem DtOk.at {K : PySem.W.Frag} {H0 : Hp} {k : List Key} : ∀ {kvs : List (List Key × V)} {st : DT}, DtOk K H0 kvs st → (valV kvs k).isSome = (dtAt st k).isSome ∧ ∀ d, dtAt st k = some d → ∃ v, valV kvs k = some v ∧ Rep K H0 v d
  | _, _, .nil => ⟨rfl, fun _ h => nomatch h⟩
  | a :: kvs, b :: st, .cons q t => by
    unfold valV dtAt
    rw [List.find?_cons, List.find?_cons, q.1]
    by_cases h : b.1 = k
    · rw [decide_eq_true h]
      exact ⟨rfl, fun d hd => ⟨a.2, rfl, by cases hd; exact q.2⟩⟩
    · rw [decide_eq_false h]
      exact DtOk.at (k := k) t
abbrev dtRes (K : PySem.W.Frag) : Res where
  S := DT
  R := fun p st H0 H => ∃ kvs, H p = some (.dT kvs) ∧ DtOk K H0 kvs st
  B := fun p a => a = p
  stab := fun p st H0 H H0' H' h e k => by
    obtain ⟨kvs, h1, h2⟩ := h
    exact ⟨kvs, k _ _ rfl h1, h2.mono e⟩
  there := fun p st H0 H a h e z => by
    obtain ⟨kvs, h1, h2⟩ := h
    subst e
    rw [z] at h1
    cases h1
def kD : Key → D
  | .inl i => .int i
  | .inr x => .str x
theorem keys_vs {K : PySem.W.Frag} {H : Hp} : ∀ {vs : List V} {ks : List Key}, RepAll K H vs (ks.map kD) → vs = ks.map kV
  | [], [], _ => rfl
  | v :: vs, k :: ks, r => by
    cases r with
    | cons r rs =>
      rw [keys_vs (vs := vs) (ks := ks) rs]
      cases k with
      | inl i => cases r; rfl
      | inr x => cases r; rfl
section
variable {c : Ct} {G : List Sl} {s : c.S} {p : Addr} {to : c.S → DT} {put : c.S → DT → c.S}
/-- (k, ..) not in d -/
theorem we_dtnin {ta : TA} {td : TE} {P : Sl → c.S → Prop} (hc : CtR c (dtRes c.K) p to put) (h : WA c ta G s fun ds s1 => ∃ ks, ds = ks.map kD ∧ ks.length ≤ 1000 ∧ WE c td G s1 (FZ fun y s2 => y = .ref p ∧ P (.dat (.bl (!(dtAt (to s2) ks).isSome))) s2)) : WE c (tDNotIn (tTup ta) td) G s P := fun σ F H0 H g Q q =>
  h σ F H0 H g _ fun ds s1 vs H1 H1' hp g1 e1 r1 => by
    obtain ⟨ks, rfl, hl, hp⟩ := hp
    have hv := keys_vs r1
    refine ⟨by rw [hv, List.length_map]; exact Nat.le_trans hl (by decide), fun b hb => ?_⟩
    obtain ⟨g2, e2⟩ := g1.lay (o := .tup vs) hb
    refine hp.use g2 fun y s2 v H3 H3' hp g3 e3 r3 => ?_
    obtain ⟨rfl, hp⟩ := hp
    cases r3
    obtain ⟨kvs, hk, ok⟩ := hc.R _ _ _ g3.gd.rs
    have hbk : H3' b = some (.tup (ks.map kV)) := by rw [← hv]; exact g3.gd.sub _ _ (e3 _ _ upd_same)
    refine ⟨p, _, rfl, DGet.t hk hbk, ?_⟩
    rw [(ok.at (k := ks)).1]
    exact q _ s2 _ H3 H3' hp g3 ((e1.trans e2).trans e3) (.bl _)
/-- d[k, ..] -/
theorem we_dtget {ta : TA} {td : TE} {P : Sl → c.S → Prop} (hc : CtR c (dtRes c.K) p to put) (h : WE c td G s (FZ fun y s1 => y = .ref p ∧ WA c ta G s1 fun ds s2 => ∃ ks d, ds = ks.map kD ∧ ks.length ≤ 1000 ∧ dtAt (to s2) ks = some d ∧ P (.dat d) s2)) : WE c (tDGet td (tTup ta)) G s P := fun σ F H0 H g Q q =>
  h.use g fun y s1 v H1 H1' hp g1 e1 r1 => by
    obtain ⟨rfl, hp⟩ := hp
    cases r1
    refine hp σ F H1 H1' g1 _ fun ds s2 vs H2 H2' hp g2 e2 r2 => ?_
    obtain ⟨ks, d, rfl, hl, hn, hp⟩ := hp
    have hv := keys_vs r2
    refine ⟨by rw [hv, List.length_map]; exact Nat.le_trans hl (by decide), fun b hb => ?_⟩
    obtain ⟨g3, e3⟩ := g2.lay (o := .tup vs) hb
    obtain ⟨kvs, hk, ok⟩ := hc.R _ _ _ g3.gd.rs
    have hbk : (upd H2' b (.tup vs)) b = some (.tup (ks.map kV)) := by rw [← hv]; exact upd_same
    obtain ⟨v, hv1, hv2⟩ := (ok.at (k := ks)).2 d hn
    refine ⟨p, v, rfl, ?_, q _ s2 _ _ _ hp g3 ((e1.trans e2).trans e3) hv2⟩
    have := DGet.t hk hbk
    rw [hv1] at this
    exact this
end
section
variable {c : Ct} {G : List Sl} {s : c.S}
/-- [te for j in ..], each turn working on the ground -/
theorem we_lcS {α : Type} {P : Sl → c.S → Prop} {ti : TI} {te : TE} {j : Nat} (hG : unAll G [j] = G) (hj : j < G.length) (h : WI c ti G s fun its s1 => ∃ (L : List α) (enc : α → D) (R : Nat → List D → c.S → Prop), its = L.map enc ∧ L.length ≤ 1000000 ∧ R 0 [] s1 ∧
      (∀ i x acc si, L[i]? = some x → R i acc si → WE c te (G.set j (.dat (enc x))) si (FZ fun y s3 => R (i + 1) (acc ++ [y]) s3)) ∧ ∀ acc sn, R L.length acc sn → P (.own (.lst acc)) sn) : WE c (tLc ti (gName j) tYes te [j]) G s P := by
  refine we_lc hG fun σ F H0 H gd R q => h σ F H0 H gd R fun its s1 J H0' H' Gw Y hp => q its s1 J H0' H' Gw Y ?_
  obtain ⟨L, enc, R', rfl, hl, h0, hs, k⟩ := hp
  refine ⟨by rw [List.length_map]; exact hl, R', h0, fun i d acc si hd _ hI => ?_, fun acc sn _ hI => ?_⟩
  · rw [List.getElem?_map] at hd
    cases e : L[i]? with
    | none =>
      rw [e] at hd
      cases hd
    | some x =>
      rw [e] at hd
      cases hd
      refine ⟨[j], _, tg_name hj, by simp, ?_, wt_yes (hs i x acc si e hI)⟩
      show (G.set j _).set j .un = G
      rw [List.set_set]
      exact hG
  · rw [List.length_map] at hI
    exact k acc sn hI
end
end DL
/-! DMy: a question asked (class Asked) as a ground -/
namespace DL
open PySem PySem.Spec PyProof.Rows L2
structure ACls (K : PySem.W.Frag) (C : Addr) : Prop where
  cls : Cls K C
  nn : NoAttr K C "nodes"
  nk : NoAttr K C "known"
  nl : NoAttr K C "last"
abbrev ASt := (List V × List D) × DT
def askR (K : PySem.W.Frag) (C nu kn : Addr) (L : Option Nat) (p : Addr) (st : ASt) (H0 H : Hp) : Prop :=
  nu ≠ kn ∧ (∃ dx fs, H0 p = some (.ins C dx fs) ∧ fs.lookup ("nodes" : Str) = some (.ref nu) ∧ fs.lookup ("known" : Str) = some (.ref kn) ∧ (∀ m : Str, m ≠ "nodes" → m ≠ "known" → m ≠ "last" → fs.lookup m = none) ∧ ∀ n : Nat, L = some n → fs.lookup ("last" : Str) = some (.int ((n : Nat) : Int))) ∧
  (lsRes K).R nu st.1 H0 H ∧ (dtRes K).R kn st.2 H0 H
abbrev askRes (K : PySem.W.Frag) (C nu kn : Addr) (L : Option Nat) : Res where
  S := ASt
  R := askR K C nu kn L
  B := fun _ a => a = nu ∨ a = kn
  stab := fun p st H0 H H0' H' h e k => by
    obtain ⟨h1, ⟨dx, fs, h2, h3⟩, h4, h5⟩ := h
    exact ⟨h1, ⟨dx, fs, e _ _ h2, h3⟩, (lsRes K).stab nu _ _ _ _ _ h4 e fun a o hb => k a o (.inl hb), (dtRes K).stab kn _ _ _ _ _ h5 e fun a o hb => k a o (.inr hb)⟩
  there := fun p st H0 H a h hb => by
    obtain ⟨_, _, h4, h5⟩ := h
    rcases hb with hb | hb
    · exact (lsRes K).there nu _ _ _ a h4 hb
    · exact (dtRes K).there kn _ _ _ a h5 hb
abbrev ASpec := Addr → List D → ASt → (Sl → ASt → Prop) → (Addr → D → ASt → Prop) → Prop
/-- a method of Asked -/
def ASp (K : PySem.W.Frag) (C : Addr) (f : Option Nat → ASpec) : Sp := fun vs H Q E => ∃ nu kn L, ResSp K (askRes K C nu kn L) (f L) vs H Q E
section
variable {c : Ct} {G : List Sl} {s : c.S} {P : Sl → c.S → Prop} {C nu kn p : Addr} {L : Option Nat} {to : c.S → ASt} {put : c.S → ASt → c.S}
/-- asked.m(..) -/
theorem we_methA {f : Option Nat → ASpec} {m : Str} {ta : TE} {t : TA} {E : XK} (hc : CtR c (askRes c.K C nu kn L) p to put) (h1 : m ≠ "nodes") (h2 : m ≠ "known") (h3 : m ≠ "last")
    (h : WE c ta G s (FZ fun x s1 => x = .ref p ∧ WA c t G s1 fun ds s2 => f L p ds (to s2) (fun x s3 => P x (put s2 s3)) (fun _ _ _ => False))) : WE c (tMeth C m (ASp c.K C f) [] E ta t) G s P := fun σ F H0 H g Q q =>
  h.use g fun x s1 v H1 H1' hp g1 e1 r1 => by
    obtain ⟨rfl, hp⟩ := hp
    cases r1
    obtain ⟨_, ⟨dx, fs, hd, _, _, hm, _⟩, _⟩ := hc.R _ _ _ g1.gd.rs
    refine ⟨p, dx, fs, rfl, g1.gd.sub _ _ hd, hm m h1 h2 h3, hp σ F H1 H1' g1 _ fun ds s2 vs H2 H2' hf g2 e2 r2 => ?_⟩
    rw [List.append_nil]
    exact ⟨nu, kn, L, res_call hc (.inl fun _ _ _ z => z) hf g2 r2 fun x s' v H3 H3' a b e d => q x s' v H3 H3' a b ((e1.trans e2).trans e) d⟩
/-- asked.nodes, asked.known -/
theorem we_fldAn {ta : TE} (hc : CtR c (askRes c.K C nu kn L) p to put) (kc : ACls c.K C) (h : WE c ta G s (FZ fun x s1 => x = .ref p ∧ P (.dat (.ref nu)) s1)) : WE c (tFld c.K ta "nodes") G s P := fun σ F H0 H g Q q =>
  h.use g fun x s1 v H1 H1' hp g1 e1 r1 => by
    obtain ⟨rfl, hp⟩ := hp
    cases r1
    obtain ⟨_, ⟨dx, fs, hd, hn, _⟩, _⟩ := hc.R _ _ _ g1.gd.rs
    exact ⟨p, C, dx, fs, .ref nu, rfl, g1.gd.sub _ _ hd, kc.cls, kc.nn, hn, q _ s1 _ H1 H1' hp g1 e1 (.ref nu)⟩
theorem we_fldAk {ta : TE} (hc : CtR c (askRes c.K C nu kn L) p to put) (kc : ACls c.K C) (h : WE c ta G s (FZ fun x s1 => x = .ref p ∧ P (.dat (.ref kn)) s1)) : WE c (tFld c.K ta "known") G s P := fun σ F H0 H g Q q =>
  h.use g fun x s1 v H1 H1' hp g1 e1 r1 => by
    obtain ⟨rfl, hp⟩ := hp
    cases r1
    obtain ⟨_, ⟨dx, fs, hd, _, hk, _⟩, _⟩ := hc.R _ _ _ g1.gd.rs
    exact ⟨p, C, dx, fs, .ref kn, rfl, g1.gd.sub _ _ hd, kc.cls, kc.nk, hk, q _ s1 _ H1 H1' hp g1 e1 (.ref kn)⟩
theorem we_fldAl {ta : TE} {n : Nat} (hc : CtR c (askRes c.K C nu kn (some n)) p to put) (kc : ACls c.K C) (h : WE c ta G s (FZ fun x s1 => x = .ref p ∧ P (.dat (.int ((n : Nat) : Int))) s1)) : WE c (tFld c.K ta "last") G s P := fun σ F H0 H g Q q =>
  h.use g fun x s1 v H1 H1' hp g1 e1 r1 => by
    obtain ⟨rfl, hp⟩ := hp
    cases r1
    obtain ⟨_, ⟨dx, fs, hd, _, _, _, hl⟩, _⟩ := hc.R _ _ _ g1.gd.rs
    exact ⟨p, C, dx, fs, .int _, rfl, g1.gd.sub _ _ hd, kc.cls, kc.nl, hl n rfl, q _ s1 _ H1 H1' hp g1 e1 (.int _)⟩
end
theorem ac0 {K : PySem.W.Frag} {C nu kn p : Addr} {L : Option Nat} {H0 H : Hp} {E : XK} {XP : Addr → D → ASt → Prop} {okX} : CtR (resCt K (askRes K C nu kn L) p H0 H E XP okX) (askRes K C nu kn L) p (fun s => s) (fun _ t => t) := resC
/-! ### the parts of a question, numbered -/
/-- a node -/
def nodeD (tag : Str) (a : Str) (js : List Nat) : D := .tup [.str tag, .str a, .lst (js.map fun (j : Nat) => .int ((j : Nat) : Int))]
/-- the node at n is the question q -/
inductive Nd (ns : List D) : Nat → Qn → Prop
  | any {n : Nat} : ns[n]? = some (nodeD "any" "" []) → Nd ns n .any
  | neg {n j : Nat} {q : Qn} : ns[n]? = some (nodeD "not" "" [j]) → j < n → Nd ns j q → Nd ns n (.neg q)
  | both {n i j : Nat} {p q : Qn} : ns[n]? = some (nodeD "both" "" [i, j]) → i < n → j < n → Nd ns i p → Nd ns j q → Nd ns n (.both p q)
  | some {n i j a : Nat} {p q : Qn} : ns[n]? = some (nodeD "some" (rowS [a]) [i, j]) → i < n → j < n → Nd ns i p → Nd ns j q → Nd ns n (.some p a q)
theorem Nd.mono {ns ms : List D} (h : ns <+: ms) : ∀ {n : Nat} {q : Qn}, Nd ns n q → Nd ms n q := fun {n q} k => by
  obtain ⟨t, rfl⟩ := h
  have up : ∀ {i : Nat} {d : D}, ns[i]? = Option.some d → (ns ++ t)[i]? = Option.some d := fun {i d} e => by
    rw [List.getElem?_append_left (List.getElem?_eq_some_iff.mp e).1]
    exact e
  induction k with
  | any e => exact .any (up e)
  | neg e h1 _ ih => exact .neg (up e) h1 ih
  | both e h1 h2 _ _ i1 i2 => exact .both (up e) h1 h2 i1 i2
  | some e h1 h2 _ _ i1 i2 => exact .some (up e) h1 h2 i1 i2
/-- the numbers js are the questions qs -/
def Nds (ns : List D) (js : List Nat) (qs : List Qn) : Prop := Paired (Nd ns) js qs
theorem Nds.mono {ns ms : List D} {js : List Nat} {qs : List Qn} (h : ns <+: ms) (k : Nds ns js qs) : Nds ms js qs := Paired.mapP k fun _ _ q => q.mono h
def addS (D : Nat) : Option Nat → ASpec := fun _ _ ds st P _ => ∃ k, k < D ∧ ∃ q : Qn, ds = [q.D] ∧ q.ht = k ∧ st.1.2.length + q.size ≤ 1000 ∧
  ∀ (n : Nat) (st' : ASt), st'.2 = st.2 → st.1.2 <+: st'.1.2 → st'.1.2.length = st.1.2.length + q.size → Nd st'.1.2 n q → n + 1 = st'.1.2.length → P (.dat (.int ((n : Nat) : Int))) st'
theorem u_addH {D : Nat} {L : Option Nat} {p : Addr} {q : Qn} {st : ASt} {P : Sl → ASt → Prop} {XP : Addr → DL.D → ASt → Prop} (h1 : q.ht < D) (h2 : st.1.2.length + q.size ≤ 1000)
    (k : ∀ (n : Nat) (st' : ASt), st'.2 = st.2 → st.1.2 <+: st'.1.2 → st'.1.2.length = st.1.2.length + q.size → Nd st'.1.2 n q → n + 1 = st'.1.2.length → P (.dat (.int ((n : Nat) : Int))) st') : addS D L p [q.D] st P XP := ⟨_, h1, q, rfl, rfl, h2, k⟩
theorem u_add {D : Nat} {L : Option Nat} {p : Addr} {q : Qn} {st : ASt} {P : Sl → ASt → Prop} {XP : Addr → DL.D → ASt → Prop} (h1 : q.size < D) (h2 : st.1.2.length + q.size ≤ 1000)
    (k : ∀ (n : Nat) (st' : ASt), st'.2 = st.2 → st.1.2 <+: st'.1.2 → st'.1.2.length = st.1.2.length + q.size → Nd st'.1.2 n q → n + 1 = st'.1.2.length → P (.dat (.int ((n : Nat) : Int))) st') : addS D L p [q.D] st P XP := u_addH (Nat.lt_of_le_of_lt q.ht_le h1) h2 k
/-! ### what was answered -/
def aKey (n : Nat) (l : LRow) : List Key := [.inl ((n : Nat) : Int), .inr (rowS l)]
theorem aKey_inj {n m : Nat} {l k : LRow} (h : aKey n l = aKey m k) : n = m ∧ l = k := by
  unfold aKey at h
  simp only [List.cons.injEq, Sum.inl.injEq, Sum.inr.injEq, and_true] at h
  exact ⟨by omega, rowS_inj h.2⟩
structure KnA (U : List (LRow × Nat)) (ns : List D) (kn : DT) : Prop where
  len : U.length < 900000
  kd : (kn.map (·.1)).Nodup
  val : ∀ e ∈ kn, ∃ (l : LRow) (n : Nat) (b : Bool), e = (aKey n l, .bl b) ∧ (l, n + 1) ∈ U ∧ ∀ q, Nd ns n q → b = q.lets l
theorem KnA.at {U : List (LRow × Nat)} {ns : List D} {kn : DT} {n : Nat} {l : LRow} {d : D} {q : Qn} (h : KnA U ns kn) (k : Nd ns n q) (e : dtAt kn (aKey n l) = some d) : d = .bl (q.lets l) := by
  unfold dtAt at e
  cases hf : kn.find? fun e => decide (e.1 = aKey n l) with
  | none =>
    rw [hf] at e
    cases e
  | some x =>
    rw [hf] at e
    cases e
    have h1 := List.mem_of_find?_eq_some hf
    have h2 := of_decide_eq_true (List.find?_some (p := fun e : List Key × D => decide (e.1 = aKey n l)) hf)
    obtain ⟨l', n', b, rfl, _, hb⟩ := h.val x h1
    obtain ⟨rfl, rfl⟩ := aKey_inj h2
    exact congrArg D.bl (hb q k)
/-- the number tells the question -/
theorem Nd.un {ns : List D} : ∀ {n : Nat} {q r : Qn}, Nd ns n q → Nd ns n r → q = r := fun {n q r} h => by
  have inj : ∀ {t t' a a' : Str} {js js' : List Nat}, nodeD t a js = nodeD t' a' js' → t = t' ∧ a = a' ∧ js = js' := fun {t t' a a' js js'} e => by
    unfold nodeD at e
    simp only [D.tup.injEq, List.cons.injEq, D.str.injEq, D.lst.injEq, and_true] at e
    refine ⟨e.1, e.2.1, ?_⟩
    have hi : Function.Injective fun (j : Nat) => D.int ((j : Nat) : Int) := fun x y h => by
      have := D.int.inj h
      omega
    exact List.map_inj_right (fun x y h => hi h) |>.mp e.2.2
  induction h generalizing r with
  | any e =>
    intro h'
    cases h' with
    | any _ => rfl
    | neg e' => rw [e] at e'; exact absurd (inj (Option.some.inj e')).1 (by decide)
    | both e' => rw [e] at e'; exact absurd (inj (Option.some.inj e')).1 (by decide)
    | some e' => rw [e] at e'; exact absurd (inj (Option.some.inj e')).1 (by decide)
  | neg e _ _ ih =>
    intro h'
    cases h' with
    | any e' => rw [e] at e'; exact absurd (inj (Option.some.inj e')).1 (by decide)
    | neg e' _ k =>
      rw [e] at e'
      have := (inj (Option.some.inj e')).2.2
      cases this
      rw [ih k]
    | both e' => rw [e] at e'; exact absurd (inj (Option.some.inj e')).1 (by decide)
    | some e' => rw [e] at e'; exact absurd (inj (Option.some.inj e')).1 (by decide)
  | both e _ _ _ _ i1 i2 =>
    intro h'
    cases h' with
    | any e' => rw [e] at e'; exact absurd (inj (Option.some.inj e')).1 (by decide)
    | neg e' => rw [e] at e'; exact absurd (inj (Option.some.inj e')).1 (by decide)
    | both e' _ _ k1 k2 =>
      rw [e] at e'
      have := (inj (Option.some.inj e')).2.2
      cases this
      rw [i1 k1, i2 k2]
    | some e' => rw [e] at e'; exact absurd (inj (Option.some.inj e')).1 (by decide)
  | some e _ _ _ _ i1 i2 =>
    intro h'
    cases h' with
    | any e' => rw [e] at e'; exact absurd (inj (Option.some.inj e')).1 (by decide)
    | neg e' => rw [e] at e'; exact absurd (inj (Option.some.inj e')).1 (by decide)
    | both e' => rw [e] at e'; exact absurd (inj (Option.some.inj e')).1 (by decide)
    | some e' _ _ k1 k2 =>
      rw [e] at e'
      obtain ⟨_, ha, hj⟩ := inj (Option.some.inj e')
      cases hj
      have := rowS_inj ha
      cases this
      rw [i1 k1, i2 k2]
def isletA (D : Nat) : Option Nat → ASpec := fun _ _ ds st P _ => ∃ h0, h0 < D ∧ ∃ (n : Nat) (l : LRow) (q : Qn) (U : List (LRow × Nat)), ds = [.int ((n : Nat) : Int), .str (rowS l)] ∧ q.ht = h0 ∧ Nd st.1.2 n q ∧ KnA U st.1.2 st.2 ∧ InU U l (n + 1) ∧ l.length ≤ 1000 ∧
  ∀ st' : ASt, st'.1 = st.1 → KnA U st'.1.2 st'.2 → P (.dat (.bl (q.lets l))) st'
def metA (D : Nat) : Option Nat → ASpec := fun _ _ ds st P _ => ∃ h0, h0 < D ∧ ∃ (n : Nat) (l : LRow) (i : Nat) (p : Qn) (a : Nat) (q : Qn) (U : List (LRow × Nat)), ds = [.int ((n : Nat) : Int), .str (rowS l), .int ((i : Nat) : Int)] ∧ (Qn.some p a q).ht = h0 ∧ i < l.length ∧ Nd st.1.2 n (.some p a q) ∧ KnA U st.1.2 st.2 ∧ InU U l (n + 1) ∧ l.length ≤ 1000 ∧
  ∀ st' : ASt, st'.1 = st.1 → KnA U st'.1.2 st'.2 → P (.dat (.bl (bB (Qn.Met l p a q i)))) st'
section
variable {D : Nat} {L : Option Nat} {p : Addr} {st : ASt} {P : Sl → ASt → Prop} {XP : Addr → DL.D → ASt → Prop} {n : Nat} {l : LRow} {q : Qn} {U : List (LRow × Nat)}
theorem u_isletA (nd : Nd st.1.2 n q) (h : q.ht < D) (ka : KnA U st.1.2 st.2) (iu : InU U l (n + 1)) (hl : l.length ≤ 1000) (k : ∀ st' : ASt, st'.1 = st.1 → KnA U st'.1.2 st'.2 → P (.dat (.bl (q.lets l))) st') : isletA D L p [.int ((n : Nat) : Int), .str (rowS l)] st P XP :=
  ⟨_, h, n, l, q, U, rfl, rfl, nd, ka, iu, hl, k⟩
theorem u_metA {i a : Nat} {p' : Qn} (nd : Nd st.1.2 n (.some p' a q)) (h : (Qn.some p' a q).ht < D) (hi : i < l.length) (ka : KnA U st.1.2 st.2) (iu : InU U l (n + 1)) (hl : l.length ≤ 1000) (k : ∀ st' : ASt, st'.1 = st.1 → KnA U st'.1.2 st'.2 → P (.dat (.bl (bB (Qn.Met l p' a q i)))) st') : metA D L p [.int ((n : Nat) : Int), .str (rowS l), .int ((i : Nat) : Int)] st P XP :=
  ⟨_, h, n, l, i, p', a, q, U, rfl, rfl, hi, nd, ka, iu, hl, k⟩
end
theorem InU.at {U : List (LRow × Nat)} {l : LRow} {n j i : Nat} (h : InU U l (n + 1)) (hj : j < n) : InU U (l.take i) (j + 1) ∧ InU U (l.drop i) (j + 1) :=
  ⟨(h.take i).mono hj, (h.drop i).mono hj⟩
/-! ### made -/
/-- what Asked.__init__ promises -/
def spAInit (K : PySem.W.Frag) (C : Addr) : Sp := fun vs H Q _ => ∃ (p dx : Addr) (vq : V) (q : Qn) (H0 : Hp), vs = [.ref p, vq] ∧ H p = some (.ins C dx []) ∧ H0 p = none ∧ Same H0 H ∧ Rep K H0 vq q.D ∧ q.ht ≤ 60 ∧ q.size ≤ 240 ∧
  ∀ (nu kn n : Nat) (st : ASt) (H0' H' : Hp), H nu = none → H kn = none → nu ≠ kn → Same H0 H0' → Same H0' H' → (∀ b o, H b = some o → b ≠ p → H' b = some o) → (∀ b, H b ≠ none → b ≠ p → H0 b = none → H0' b = none) → H0' nu = none → H0' kn = none →
    askR K C nu kn (some n) p st H0' H' → st.2 = [] → Nd st.1.2 n q → n + 1 = q.size → Q .non H'
end DL
/-! DMz: a new Asked object beside a ground -/
namespace DL
open PySem PySem.Spec PyProof.Rows L2
abbrev askCt (c : Ct) (C p nu kn n : Addr) (hn : NewAt c nu kn) : Ct where
  K := c.K
  S := c.S × ASt
  R := fun s H0 H => c.R s.1 H0 H ∧ askR c.K C nu kn (some n) p s.2 H0 H
  B := fun a => c.B a ∨ a = nu ∨ a = kn
  stab := fun s H0 H H0' H' h e k => ⟨c.stab _ _ _ _ _ h.1 e fun a o hb => k a o (.inl hb), (askRes c.K C nu kn (some n)).stab p _ _ _ _ _ h.2 e fun a o hb => k a o (.inr hb)⟩
  there := fun s H0 H a h hb => hb.elim (fun hb => c.there _ _ _ _ h.1 hb) fun hb => (askRes c.K C nu kn (some n)).there p _ _ _ _ h.2 hb
  E0 := c.E0
  E := c.E
  EX := c.EX
  X := fun C d s => c.X C d s.1
  okX := fun C d s v a H0' H' x e sub k n av rs ha r => c.okX C d s.1 v a H0' H' x e sub (fun b o hE hb => k b o hE fun z => by
    rcases z with z | z | z
    · exact hb z
    · rw [z, hn.e1] at hE; cases hE
    · rw [z, hn.e2] at hE; cases hE) n (fun b hb => av b (.inl hb)) rs.1 ha r
section
variable {c : Ct} {G : List Sl} {s : c.S} {C p nu kn n : Addr} {hn : NewAt c nu kn}
theorem onA : CtR (askCt c C p nu kn n hn) (askRes c.K C nu kn (some n)) p Prod.snd (fun s t => (s.1, t)) where
  B := fun a h => .inr h
  R := fun _ _ _ h => h.2
  back := fun s t H0 H H0' H' h av st => ⟨⟨c.stab _ _ _ _ _ h.1 st.ex fun a o hb ho => st.fr a o ho fun z => by
      rcases z with z | z
      · exact hn.b1 (z ▸ hb)
      · exact hn.b2 (z ▸ hb), st.rs⟩, fun a hb => by
    rcases hb with hb | hb
    · exact st.nw a (c.there _ _ _ _ h.1 hb) (av a (.inl hb))
    · exact st.av a hb⟩
theorem SlOk.outA {H0 H : Hp} {o : Option V} {x : Sl} (h : SlOk (askCt c C p nu kn n hn) H0 H o x) : SlOk c H0 H o x := by
  cases x with
  | un => trivial
  | dat d => exact h
  | own u =>
    obtain ⟨q, h1, h2, h3, h4, h5⟩ := h
    exact ⟨q, h1, h2, h3, fun z => h4 (.inl z), h5⟩
theorem Gd.outA {s : c.S × ASt} {σ : L2.St} {F : Frm} {H0 H : Hp} (g : Gd (askCt c C p nu kn n hn) G s σ F H0 H) : Gd c G s.1 σ F H0 H where
  ln := g.ln
  gd := {
    sub := g.gd.sub
    av := fun a hb => g.gd.av a (.inl hb)
    e0 := g.gd.e0
    e1 := fun a o hE hb => g.gd.e1 a o hE fun z => by
      have hE : c.E a = some o := hE
      rcases z with z | z | z
      · exact hb z
      · rw [z, hn.e1] at hE; cases hE
      · rw [z, hn.e2] at hE; cases hE
    e2 := g.gd.e2
    rs := g.gd.rs.1
    len := g.gd.len
    sl := fun i x hx => SlOk.outA (g.gd.sl i x hx)
    ds := g.gd.ds }
theorem RO.outA {σ : L2.St} {F : Frm} {H0 H : Hp} {v : V} {x : Sl} (h : RO (askCt c C p nu kn n hn) G σ F H0 H v x) : RO c G σ F H0 H v x := by
  cases x with
  | un => trivial
  | dat d => exact h
  | own u =>
    obtain ⟨q, h1, ⟨h2, h3, h4, h5⟩, h6⟩ := h
    exact ⟨q, h1, ⟨h2, h3, fun z => h4 (.inl z), h5⟩, h6⟩
theorem EOk.outA {D : Ends} {P : Ds c.S} {H0 : Hp} {m : Nat} (e : EOk c D P H0 m) : EOk (askCt c C p nu kn n hn) D ⟨fun G s => P.nx G s.1, fun x s => P.rt x s.1, fun G s => P.bk G s.1, fun G s => P.ct G s.1⟩ H0 m where
  nx := fun G s σ H0' H a b d l => e.nx G s.1 σ H0' H a (Gd.of b).outA.to d l
  rt := fun x s v G σ H0 H a b r => e.rt x s.1 v G σ H0 H a (Gd.of b).outA.to (by
    have := RO.outA (F := ([], [])) (show RO (askCt c C p nu kn n hn) G σ ([], []) H0 H v x by simpa [RO] using r)
    simpa [RO] using this)
  bk := fun G s σ H0' H a b d l => e.bk G s.1 σ H0' H a (Gd.of b).outA.to d l
  ct := fun G s σ H0' H a b d l => e.ct G s.1 σ H0' H a (Gd.of b).outA.to d l
/-- asked = Asked(question); .. -/
theorem ws_newA {P : Ds c.S} {i : Nat} {E : XK} {tq : TE} {u : TS} (h : WE c tq G s (FZ fun d s1 => ∃ q : Qn, d = q.D ∧ q.ht ≤ 60 ∧ q.size ≤ 240 ∧ ∀ p nu kn n hn (st : ASt), st.2 = [] → Nd st.1.2 n q → n + 1 = q.size →
      WS (askCt c C p nu kn n hn) u (G.set i (.dat (.ref p))) (s1, st) ⟨fun G s => P.nx G s.1, fun x s => P.rt x s.1, fun G s => P.bk G s.1, fun G s => P.ct G s.1⟩)) :
    WS c (tSeq (tAsg (tMake C (spAInit c.K C) [] E (tCons tq tNil)) (gName i)) u) G s P := fun σ H0 H gd D e =>
  h.use (Gd.of gd) fun d s1 vq H1 H1' hp g1 e1 r1 => by
    obtain ⟨q, rfl, hs0, hs, hp⟩ := hp
    intro p dx np ndx hpd
    obtain ⟨p1, p2, p3⟩ := g1.gd.newE np
    obtain ⟨d1, d2, d3⟩ := g1.gd.newE ndx
    have sx : Same H1 (upd H1 dx (.own p)) := fun b o hb => by
      rw [upd_ne (ne_of_none hb d3)]
      exact hb
    refine ⟨p, dx, vq, q, upd H1 dx (.own p), rfl, upd_same, by rw [upd_ne (Ne.symm hpd)]; exact p3, fun b o hb => ?_, r1.mono sx, hs0, hs, fun nu kn n st H0' H' nn nk hne s1' s2' fr nw v1 v2 ra h1 h2 h3 => ⟨rfl, ?_⟩⟩
    · by_cases hd : b = dx
      · subst hd
        rw [upd_same] at hb
        rw [upd_ne hpd, upd_same]
        exact hb
      · rw [upd_ne hd] at hb
        rw [upd_ne (ne_of_none hb p3), upd_ne hd]
        exact g1.gd.sub _ _ hb
    · have fnu : H1' nu = none ∧ nu ≠ p ∧ nu ≠ dx := by
        have a1 : nu ≠ p := fun z => by rw [z, upd_same] at nn; cases nn
        rw [upd_ne a1] at nn
        have a2 : nu ≠ dx := fun z => by rw [z, upd_same] at nn; cases nn
        rw [upd_ne a2] at nn
        exact ⟨nn, a1, a2⟩
      have fkn : H1' kn = none ∧ kn ≠ p ∧ kn ≠ dx := by
        have a1 : kn ≠ p := fun z => by rw [z, upd_same] at nk; cases nk
        rw [upd_ne a1] at nk
        have a2 : kn ≠ dx := fun z => by rw [z, upd_same] at nk; cases nk
        rw [upd_ne a2] at nk
        exact ⟨nk, a1, a2⟩
      obtain ⟨u1, u2, u3⟩ := g1.gd.newE fnu.1
      obtain ⟨k1, k2, k3⟩ := g1.gd.newE fkn.1
      have old : ∀ b o, H1' b = some o → H' b = some o := fun b o hb => fr b o (by rw [upd_ne (ne_of_none hb np), upd_ne (ne_of_none hb ndx)]; exact hb) (ne_of_none hb np)
      have hE : NewAt c nu kn := ⟨u1, k1, u2, k2⟩
      have g2 : Gd c G s1 σ ([], []) H0' H' := ⟨g1.ln, g1.gd.ext (sx.trans s1') s2' old (fun a ha h0 => nw a (by rw [upd_ne (fun z => ha (by rw [z]; exact np)), upd_ne (fun z => ha (by rw [z]; exact ndx))]; exact ha) (fun z => ha (by rw [z]; exact np)) (by rw [upd_ne (fun z => ha (by rw [z]; exact ndx))]; exact h0)) fun a hb ha => absurd ha (c.there _ _ _ _ g1.gd.rs hb)⟩
      have g3 : Gd (askCt c C p nu kn n hE) G (s1, st) σ ([], []) H0' H' := ⟨g2.ln, {
        sub := g2.gd.sub
        av := fun a hb => by
          rcases hb with hb | rfl | rfl
          · exact g2.gd.av a hb
          · exact v1
          · exact v2
        e0 := g2.gd.e0
        e1 := fun a o hE hb => g2.gd.e1 a o hE fun z => hb (.inl z)
        e2 := g2.gd.e2
        rs := ⟨g2.gd.rs, ra⟩
        len := g2.gd.len
        sl := fun i x hx => by
          have q := g2.gd.sl i x hx
          have q0 := g1.gd.sl i x hx
          cases x with
          | un => trivial
          | dat d => exact q
          | own u =>
            obtain ⟨r, h1, h2, h3, h4, h5⟩ := q
            obtain ⟨r', h1', _, _, _, u', hu', _⟩ := q0
            rw [h1] at h1'
            cases h1'
            refine ⟨r, h1, h2, h3, fun z => ?_, h5⟩
            rcases z with z | z | z
            · exact h4 z
            · rw [z, fnu.1] at hu'
              cases hu'
            · rw [z, fkn.1] at hu'
              cases hu'
        ds := g2.gd.ds }⟩
      refine (hp p nu kn n hE st h1 h2 h3) _ _ _ (g3.to.setSl i (v := .ref p) (x := .dat (.ref p)) (.ref p)) D ?_
      rw [List.length_set]
      exact EOk.outA (e.on (e1.trans (sx.trans s1')))
end
abbrev lets1S : FSpec := fun ds P _ => ∃ (l : LRow) (q : Qn), ds = [.str (rowS l), q.D] ∧ l.length ≤ 60 ∧ q.ht ≤ 60 ∧ q.size ≤ 240 ∧ P (.dat (.bl (q.lets l)))
abbrev letsP : FSpec := fun ds P _ => ∃ (l : LRow) (q : Qn), ds = [.str (rowS l), q.D] ∧ Letters l ∧ l.length ≤ 60 ∧ q.In LET ∧ q.ht ≤ 60 ∧ q.size ≤ 240 ∧ P (.dat (.bl (q.lets l)))
section
variable {l : LRow} {q : Qn} {P : Sl → Prop} {XP : Addr → DL.D → Prop}
theorem u_lets1H (h : l.length ≤ 60) (h1 : q.ht ≤ 60) (h2 : q.size ≤ 240) (k : P (.dat (.bl (q.lets l)))) : lets1S [.str (rowS l), q.D] P XP := ⟨l, q, rfl, h, h1, h2, k⟩
theorem u_lets1 (h : l.length ≤ 60) (h2 : q.size ≤ 60) (k : P (.dat (.bl (q.lets l)))) : lets1S [.str (rowS l), q.D] P XP := u_lets1H h (Nat.le_trans q.ht_le h2) (Nat.le_trans h2 (by decide)) k
theorem u_letsPH (h0 : Letters l) (h : l.length ≤ 60) (h1 : q.In LET) (h3 : q.ht ≤ 60) (h2 : q.size ≤ 240) (k : P (.dat (.bl (q.lets l)))) : letsP [.str (rowS l), q.D] P XP := ⟨l, q, rfl, h0, h, h1, h3, h2, k⟩
theorem u_letsP (h0 : Letters l) (h : l.length ≤ 60) (h1 : q.In LET) (h2 : q.size ≤ 60) (k : P (.dat (.bl (q.lets l)))) : letsP [.str (rowS l), q.D] P XP := u_letsPH h0 h h1 (Nat.le_trans q.ht_le h2) (Nat.le_trans h2 (by decide)) k
end
theorem KnA.nil {ns : List D} {l : LRow} {n : Nat} (hl : l.length ≤ 60) (hn : n < 240) : KnA (partsU l (n + 1)) ns [] ∧ InU (partsU l (n + 1)) l (n + 1) := by
  refine ⟨⟨?_, .nil, fun e he => nomatch he⟩, partsU_in _ _⟩
  rw [partsU_len]
  have h1 : (l.length + 1) * (n + 1) ≤ 61 * 240 := Nat.mul_le_mul (by omega) (by omega)
  have h2 : (l.length + 1) * ((l.length + 1) * (n + 1)) ≤ 61 * (61 * 240) := Nat.mul_le_mul (by omega) h1
  omega
theorem u_line {n : Nat} {names : D} {A : List Nat} {L : Int} {p : Addr} {Q : Sl → Nat → Prop} {XP : Addr → D → Nat → Prop} (hN : Names names A) (h : 0 ≤ L ∧ L ≤ 60) (hn : 64 ≤ n)
    (k : ∀ (l : LRow) (n' : Nat), (∀ a ∈ l, a ∈ A) → l.length ≤ L.toNat → n ≤ n' + 64 → Q (.dat (.str (rowS l))) n') : lineS p [names, .int L] n Q XP :=
  ⟨names, A, L.toNat, by rw [Int.toNat_of_nonneg h.1], hN, by omega, hn, fun x n' hx h2 => by
    obtain ⟨l, rfl, h3, h4⟩ := hx.row
    exact k l n' h3 h4 h2⟩
section
variable {l : LRow} {q r : Qn} {a : Nat} {P : Sl → Prop} {XP : Addr → DL.D → Prop}
theorem u_letsPa (h0 : Letters l) (h : l.length ≤ 60) (k : P (.dat (.bl true))) : letsP [.str (rowS l), .tup [.str "any"]] P XP := u_letsP (q := .any) h0 h trivial (by decide) k
theorem u_letsPn (h0 : Letters l) (h : l.length ≤ 60) (h1 : q.In LET) (h2 : q.size ≤ 59) (k : P (.dat (.bl (!q.lets l)))) : letsP [.str (rowS l), .tup [.str "not", q.D]] P XP := u_letsP (q := .neg q) h0 h h1 (by show q.size + 1 ≤ 60; omega) k
theorem u_letsPb (h0 : Letters l) (h : l.length ≤ 60) (h1 : q.In LET) (h2 : r.In LET) (h3 : q.size + r.size ≤ 59) (k : P (.dat (.bl (q.lets l && r.lets l)))) : letsP [.str (rowS l), .tup [.str "both", q.D, r.D]] P XP := u_letsP (q := .both q r) h0 h ⟨h1, h2⟩ (by show q.size + r.size + 1 ≤ 60; omega) k
theorem u_letsPs (h0 : Letters l) (h : l.length ≤ 60) (h1 : q.In LET) (h2 : r.In LET) (ha : a ∈ LET) (h3 : q.size + r.size ≤ 59) (k : P (.dat (.bl ((Qn.some q a r).lets l)))) : letsP [.str (rowS l), .tup [.str "some", q.D, .str (rowS [a]), r.D]] P XP := u_letsP (q := .some q a r) h0 h ⟨h1, ha, h2⟩ (by show q.size + r.size + 1 ≤ 60; omega) k
theorem u_letsS {D : Nat} (h : q.size + r.size + 1 < D) (hl : l.length ≤ 1000) (k : P (.dat (.bl ((Qn.some q a r).lets l)))) : letsS D [.str (rowS l), .tup [.str "some", q.D, .str (rowS [a]), r.D]] P XP := u_lets (q := .some q a r) h hl k
end
theorem db_repr2 {c : Ct} {G : List Sl} {s : c.S} {P : Sl → c.S → Prop} {a b : Bool} (k : P (.dat (.str (DL.D.lst [.bl a, .bl b]).py.shown)) s) : DCB c (rRepr c.K) [.lst [.bl a, .bl b]] G s P :=
  db_reprF (Fine.lst (.cons (Fine.bl _) (.cons (Fine.bl _) .nil))) (by decide) (by decide) k
end DL
/-! DNa: starred items, comprehensions with a test that works on the ground, questions turned about, places where a question is met -/
namespace DL
open PySem PySem.Spec PyProof.Rows L2
open StX (tStar pa_star)
theorem pa_starK {X : Cx} {K : PySem.W.Frag} {e : Expr} {es : List Expr} {te : TE} {t : TA} {p : Pos} (h : X.K = K) (he : PE X e te) (hr : PA X es t) (hs : starEach (.Starred e p :: es) X.env = (true, eval e X.env) :: starEach es X.env := by rfl) : PA X (.Starred e p :: es) (tStar K te t) := by
  subst h
  exact pa_star he hr hs
section
variable {c : Ct} {G : List Sl} {s : c.S}
theorem sq_of {K : PySem.W.Frag} {H0 H : Hp} (e : Same H0 H) {v : V} {d : D} {ds : List D} (hd : d = .lst ds ∨ d = .tup ds) (r : Rep K H0 v d) : ∃ a xs, v = .ref a ∧ (SqT K H a xs ∨ SqL K H a xs) ∧ RepAll K H0 xs ds := by
  rcases hd with rfl | rfl
  · cases r with
    | lst h1 h2 => exact ⟨_, _, rfl, .inr (.inl (.inl (e _ _ h1))), h2⟩
  · obtain ⟨a, xs, e1, e2, e3⟩ := RepAll.toT e r
    exact ⟨a, xs, e1, .inl e2, e3⟩
theorem wa_star {P : List D → c.S → Prop} {te : TE} {t : TA} (h : WE c te G s (FZ fun d s1 => ∃ ds, (d = .lst ds ∨ d = .tup ds) ∧ WA c t G s1 fun es s2 => P (ds ++ es) s2)) : WA c (tStar c.K te t) G s P := fun σ F H0 H g Q q =>
  h.use g fun d s1 v H1 H1' hp g1 e1 r1 => by
    obtain ⟨ds, hd, hp⟩ := hp
    obtain ⟨a, xs, rfl, hs, r⟩ := sq_of g1.gd.sub hd r1
    refine ⟨a, xs, rfl, hs, hp σ F H1 H1' g1 _ fun es s2 vs H2 H2' hp2 g2 e2 r2 => ?_⟩
    exact q _ s2 _ H2 H2' hp2 g2 (e1.trans e2) ((r.mono e2).app r2)
/-- [te for j in ..], no test, in a given way of each item, nothing changed -/
theorem we_lcM {α : Type} {P : Sl → c.S → Prop} {ti : TI} {te : TE} {j : Nat} (L : List α) (enc out : α → D) (hG : unAll G [j] = G) (hj : j < G.length) (h : WI c ti G s fun its s1 => its = L.map enc ∧ L.length ≤ 1000000 ∧
      (∀ (i : Nat) (x : α), L[i]? = some x → WE c te (G.set j (.dat (enc x))) s1 (FZ fun y s3 => y = out x ∧ s3 = s1)) ∧ P (.own (.lst (L.map out))) s1) : WE c (tLc ti (gName j) tYes te [j]) G s P := by
  refine we_lcS (α := α) hG hj fun σ F H0 H gd R q => h σ F H0 H gd R fun its s1 J H0' H' Gw Y hp => q its s1 J H0' H' Gw Y ?_
  obtain ⟨rfl, hl, hs, k⟩ := hp
  refine ⟨L, enc, fun i acc sn => acc = (L.take i).map out ∧ sn = s1, rfl, hl, ⟨rfl, rfl⟩, fun i x acc si hx hI => ?_, fun acc sn hI => ?_⟩
  · obtain ⟨rfl, rfl⟩ := hI
    refine (hs i x hx).mono fun y s' hy => ?_
    have e : L.take (i + 1) = L.take i ++ [x] := by
      obtain ⟨hi, hx⟩ := List.getElem?_eq_some_iff.mp hx
      rw [← hx]
      exact (List.take_append_getElem hi).symm
    have e2 : (L.take i).map out ++ [out x] = (L.take (i + 1)).map out := by rw [e, List.map_append]; rfl
    cases y with
    | un => exact hy
    | dat d =>
      obtain ⟨rfl, rfl⟩ := hy
      exact ⟨e2, rfl⟩
    | own w =>
      cases w with
      | lst ds =>
        obtain ⟨h1, rfl⟩ := hy
        exact ⟨by show _ ++ [D.lst ds] = _; rw [h1]; exact e2, rfl⟩
      | dk _ => exact hy
      | dt _ => exact hy
      | ob _ => exact hy
  · obtain ⟨rfl, rfl⟩ := hI
    rw [List.take_length]
    exact k
end
/-! ### questions turned about -/
def turnAS (D : Nat) : FSpec := fun ds P _ => ∃ sz : Nat, sz < D ∧ ∃ q : Qn, ds = [q.D] ∧ q.ht = sz ∧ P (.dat q.turn.D)
def turnQS : FSpec := fun ds P _ => ∃ q : Qn, ds = [q.D] ∧ q.In LET ∧ q.ht ≤ 60 ∧ P (.dat q.turn.D)
/-- the places where a question is met -/
noncomputable def metL (l : LRow) (p : Qn) (a : Nat) (q : Qn) (n : Nat) : List Nat := (List.range n).filter fun i => bB (Qn.Met l p a q i)
def placesS : FSpec := fun ds P _ => ∃ (l : LRow) (p : Qn) (a : Nat) (q : Qn), ds = [.str (rowS l), (Qn.some p a q).D] ∧ Letters l ∧ l.length ≤ 60 ∧ (Qn.some p a q).In LET ∧ (Qn.some p a q).size ≤ 60 ∧ P (.own (.lst ((metL l p a q l.length).map fun (i : Nat) => D.int ((i : Nat) : Int))))
section
variable {l : LRow} {q p : Qn} {a : Nat} {P : Sl → Prop} {XP : Addr → DL.D → Prop}
theorem u_turnAH {D : Nat} (h : q.ht < D) (k : P (.dat q.turn.D)) : turnAS D [q.D] P XP := ⟨_, h, q, rfl, rfl, k⟩
theorem u_turnA {D : Nat} (h : q.size < D) (k : P (.dat q.turn.D)) : turnAS D [q.D] P XP := u_turnAH (Nat.lt_of_le_of_lt q.ht_le h) k
theorem u_turnQH (h : q.In LET) (h2 : q.ht ≤ 60) (k : P (.dat q.turn.D)) : turnQS [q.D] P XP := ⟨q, rfl, h, h2, k⟩
theorem u_turnQ (h : q.In LET) (h2 : q.size ≤ 60) (k : P (.dat q.turn.D)) : turnQS [q.D] P XP := u_turnQH h (Nat.le_trans q.ht_le h2) k
theorem u_turnQS (h : p.In LET) (ha : a ∈ LET) (h3 : q.In LET) (h2 : p.size + q.size ≤ 59) (k : P (.dat (.tup [.str "some", q.turn.D, .str (rowS [a]), p.turn.D]))) : turnQS [.tup [.str "some", p.D, .str (rowS [a]), q.D]] P XP := u_turnQ (q := .some p a q) ⟨h, ha, h3⟩ (by show p.size + q.size + 1 ≤ 60; omega) k
theorem u_places (h0 : Letters l) (h : l.length ≤ 60) (h1 : (Qn.some p a q).In LET) (h2 : (Qn.some p a q).size ≤ 60) (k : P (.own (.lst ((metL l p a q l.length).map fun (i : Nat) => D.int ((i : Nat) : Int))))) : placesS [.str (rowS l), (Qn.some p a q).D] P XP := ⟨l, p, a, q, rfl, h0, h, h1, h2, k⟩
theorem u_placesS (h0 : Letters l) (h : l.length ≤ 60) (h1 : p.In LET) (ha : a ∈ LET) (h3 : q.In LET) (h2 : p.size + q.size ≤ 59) (k : P (.own (.lst ((metL l p a q l.length).map fun (i : Nat) => D.int ((i : Nat) : Int))))) : placesS [.str (rowS l), .tup [.str "some", p.D, .str (rowS [a]), q.D]] P XP := ⟨l, p, a, q, rfl, h0, h, ⟨h1, ha, h3⟩, by show p.size + q.size + 1 ≤ 60; omega, k⟩
end
namespace Qn
theorem turn_turn : ∀ q : Qn, q.turn.turn = q
  | .any => rfl
  | .neg q => congrArg Qn.neg q.turn_turn
  | .both p q => by show Qn.both p.turn.turn q.turn.turn = _; rw [p.turn_turn, q.turn_turn]
  | .some p a q => by show Qn.some p.turn.turn a q.turn.turn = _; rw [p.turn_turn, q.turn_turn]
theorem turn_size : ∀ q : Qn, q.turn.size = q.size
  | .any => rfl
  | .neg q => congrArg (· + 1) q.turn_size
  | .both p q => by show p.turn.size + q.turn.size + 1 = p.size + q.size + 1; rw [p.turn_size, q.turn_size]
  | .some p a q => by show q.turn.size + p.turn.size + 1 = p.size + q.size + 1; rw [p.turn_size, q.turn_size, Nat.add_comm q.size]
theorem turn_ht : ∀ q : Qn, q.turn.ht = q.ht
  | .any => rfl
  | .neg q => congrArg (· + 1) q.turn_ht
  | .both p q => by show max p.turn.ht q.turn.ht + 1 = max p.ht q.ht + 1; rw [p.turn_ht, q.turn_ht]
  | .some p a q => by show max q.turn.ht p.turn.ht + 1 = max p.ht q.ht + 1; rw [p.turn_ht, q.turn_ht, Nat.max_comm]
theorem turn_depth : ∀ q : Qn, q.turn.depth = q.depth
  | .any => rfl
  | .neg q => q.turn_depth
  | .both p q => by show max p.turn.depth q.turn.depth = max p.depth q.depth; rw [p.turn_depth, q.turn_depth]
  | .some p a q => by show max q.turn.depth p.turn.depth + 1 = max p.depth q.depth + 1; rw [p.turn_depth, q.turn_depth, Nat.max_comm]
theorem turn_In {A : List Nat} : ∀ {q : Qn}, q.In A → q.turn.In A
  | .any, _ => trivial
  | .neg q, h => turn_In (q := q) h
  | .both p q, h => ⟨turn_In h.1, turn_In h.2⟩
  | .some p a q, h => ⟨turn_In h.2.2, h.2.1, turn_In h.1⟩
end Qn
/-! ### sorted numbers -/
abbrev nD (i : Nat) : D := .int ((i : Nat) : Int)
theorem sortsN (ns : List Nat) : Sorts (ns.map nD) where
  pl := by induction ns with
    | nil => rfl
    | cons p ps ih => exact ih
  al := by rw [pys_map, List.map_map]; exact PySem.W.AllAlike.of fun b b' => by simp [nD, D.py, PySem.W.alike]
  so := by rw [pys_map, List.map_map]; exact PySem.W.Sortable.others fun b => ⟨PyData.noConfusion, fun xs h => PyData.noConfusion h⟩
  dp := fun d hd => by
    obtain ⟨p, _, rfl⟩ := List.mem_map.mp hd
    simp [nD, D.py, PyData.depth]
/-! ### the least depth that parts, as a number or none -/
open Classical in
noncomputable def partN (l m : LRow) : Option Nat := if h : ∃ e, Parts e l m then some h.choose else none
theorem partN_some {l m : LRow} {e : Nat} (h : Parts e l m) : partN l m = some e := by
  unfold partN
  rw [dif_pos ⟨e, h⟩]
  exact congrArg some ((Exists.choose_spec (⟨e, h⟩ : ∃ e, Parts e l m)).one h)
theorem partN_self (l : LRow) : partN l l = none := by
  unfold partN
  rw [dif_neg]
  rintro ⟨e, h⟩
  exact h.1 (Alike.refl _ _)
theorem u_parting {l m : LRow} {P : Sl → Prop} {XP : Addr → D → Prop} (h1 : Letters l) (h2 : Letters m) (h3 : l.length ≤ 60) (h4 : m.length ≤ 60) (k : P (.dat (optD (partN l m)))) : partingS [.str (rowS l), .str (rowS m)] P XP :=
  ⟨l, m, rfl, h1, h2, h3, h4, fun e => by subst e; rw [partN_self] at k; exact k, fun d _ _ hd => by rw [partN_some hd] at k; exact k⟩
section
variable {c : Ct} {G : List Sl} {s : c.S} {P : Sl → c.S → Prop}
theorem deq_opt {a b : Option Nat} (k : P (.dat (.bl (bB (a = b)))) s) : DOp c (qEq c.K) (optD a) (optD b) G s P := by
  cases a with
  | none => cases b with
    | none => exact de_sc rfl (by rwa [bB_true rfl] at k)
    | some j => exact deq (b := false) rfl rfl rfl rfl rfl (by rwa [bB_false (by simp)] at k)
  | some i => cases b with
    | none => exact deq (b := false) rfl rfl rfl rfl rfl (by rwa [bB_false (by simp)] at k)
    | some j =>
      refine de_sc rfl ?_
      have e : decide (((i : Nat) : Int) = ((j : Nat) : Int)) = bB (some i = some j) := by
        rw [bB_dec]
        exact bB_congr ⟨fun h => by rw [show i = j by omega], fun h => by rw [Option.some.inj h]⟩
      rw [e]
      exact k
theorem dne_opt {a b : Option Nat} (k : P (.dat (.bl (!bB (a = b)))) s) : DOp c (qNe c.K) (optD a) (optD b) G s P := by
  cases a with
  | none => cases b with
    | none => exact dn_sc rfl (by rwa [bB_true rfl] at k)
    | some j => exact dne (b := false) rfl rfl rfl rfl rfl (by rwa [bB_false (by simp)] at k)
  | some i => cases b with
    | none => exact dne (b := false) rfl rfl rfl rfl rfl (by rwa [bB_false (by simp)] at k)
    | some j =>
      refine dn_sc rfl ?_
      have e : decide (((i : Nat) : Int) = ((j : Nat) : Int)) = bB (some i = some j) := by
        rw [bB_dec]
        exact bB_congr ⟨fun h => by rw [show i = j by omega], fun h => by rw [Option.some.inj h]⟩
      rw [e]
      exact k
end
section
variable {c : Ct} {G : List Sl} {s : c.S} {P : Sl → c.S → Prop}
theorem db_sortN {ns : List Nat} (hl : ns.length ≤ 1000000) (k : P (.own (.lst (sortD (ns.map nD)))) s) : DCB c (rSortD c.K) [.lst (ns.map nD)] G s P := db_sortD (by rw [List.length_map]; exact hl) (sortsN ns) k
theorem db_sortP {ns : List (Nat × Nat)} (hl : ns.length ≤ 1000000) (k : P (.own (.lst (sortD (ns.map p2D)))) s) : DCB c (rSortD c.K) [.lst (ns.map p2D)] G s P := db_sortD (by rw [List.length_map]; exact hl) (sorts2 ns) k
theorem we_revR {i : Nat} {l : LRow} (hi : G[i]? = some (.dat (.str (rowS l)))) (hl : l.length ≤ 1000000) (k : P (.dat (.str (rowS l.reverse))) s) : WE c (tRevQ c.K (tVar i)) G s P := we_revS (we_var hi (fz_dat ⟨l, rfl, hl, k⟩))
end
end DL
/-! DNb: count, startswith, endswith, in, of rows; questions for patterns (k14) -/
namespace DL
open PySem PySem.Spec PyProof.Rows L2 PySem.StrLaws
def rS1 (g : Str → Str → V) : V → List V → Hp → VK → Prop := fun x xs H Q => ∃ a b, x = .str a ∧ xs = [.str b] ∧ Q (g a b) H
section
variable {c : Ct} {G : List Sl} {s : c.S} {P : Sl → c.S → Prop}
theorem we_s1 {g : Str → Str → V} {gd : Str → Str → D} (hr : ∀ K H a b, Rep K H (g a b) (gd a b)) {to : TE} {ta : TA} (h : WE c to G s (FZ fun x s1 => ∃ z, x = .str z ∧ WA c ta G s1 fun ds s2 => ∃ y : Str, ds = [.str y] ∧ P (.dat (gd z y)) s2)) : WE c (tBM c.K "str" (rS1 g) to ta) G s P := fun σ F H0 H g0 Q q =>
  h.use g0 fun x s1 v H1 H1' hp g1 e1 r1 => by
    obtain ⟨z, rfl, hp⟩ := hp
    cases r1
    refine ⟨rfl, hp σ F H1 H1' g1 _ fun ds s2 vs H2 H2' hp g2 e2 r2 => ?_⟩
    obtain ⟨y, rfl, hp⟩ := hp
    cases r2 with
    | cons r rs =>
      cases r
      cases rs
      exact ⟨z, y, rfl, rfl, q _ s2 _ H2 H2' hp g2 (e1.trans e2) (hr _ _ _ _)⟩
end
/-! ### what these are, of rows -/
theorem at1 {l : LRow} {a i : Nat} : At (rowS l) (rowS [a]) (rowS l).length i ↔ l[i]? = some a := by
  rw [TL.at_iff (x := rowS l) (y := rowS [a]) (by show [a] ≠ []; simp)]
  show (((l.drop i).take 1) == [a]) = true ↔ _
  rw [beq_iff_eq]
  constructor
  · intro h
    have := congrArg (fun z => z[0]?) h
    simpa using this
  · intro h
    obtain ⟨hi, h⟩ := List.getElem?_eq_some_iff.mp h
    rw [List.drop_eq_getElem_cons hi, h]
    rfl
theorem count_chain {l : LRow} {c : Nat} : ∀ (cuts : List Nat) (a f : Nat), ChainG (rowS l) (rowS [c]) (rowS l).length a cuts f → (∀ k, f ≤ k → ¬ At (rowS l) (rowS [c]) (rowS l).length k) → cuts.length = (l.drop a).count c
  | [], a, f, h, hn => by
    have e : f = a := h
    subst e
    symm
    rw [List.length_nil, List.count_eq_zero]
    intro hc
    obtain ⟨i, hi⟩ := List.mem_iff_getElem?.mp hc
    rw [List.getElem?_drop] at hi
    exact hn _ (Nat.le_add_right _ _) (at1.mpr hi)
  | x :: r, a, f, h, hn => by
    obtain ⟨h1, h2, h3, h4⟩ := h
    have ih := count_chain r (x + 1) f h4 hn
    have hx := at1.mp h2
    obtain ⟨hxl, hx2⟩ := List.getElem?_eq_some_iff.mp hx
    have e : l.drop a = (l.drop a).take (x - a) ++ c :: l.drop (x + 1) := by
      have e1 : (l.drop a).drop (x - a) = l.drop x := by rw [List.drop_drop]; congr 1; omega
      rw [← hx2, ← List.drop_eq_getElem_cons hxl, ← e1, List.take_append_drop]
    have z : ((l.drop a).take (x - a)).count c = 0 := by
      rw [List.count_eq_zero]
      intro hc
      obtain ⟨i, hi⟩ := List.mem_iff_getElem?.mp hc
      have hi2 := (List.getElem?_eq_some_iff.mp hi).1
      rw [List.length_take] at hi2
      rw [List.getElem?_take_of_lt (by omega), List.getElem?_drop] at hi
      exact h3 (a + i) (by omega) (by omega) (at1.mpr hi)
    rw [e, List.count_append, z, List.count_cons_self, List.length_cons, ih, Nat.zero_add]
theorem count_row (l : LRow) (c : Nat) : Txt.count (rowS l) (rowS [c]) = ((l.count c : Nat) : Int) := by
  unfold Txt.count
  obtain ⟨f, h, hn⟩ := occ_tight (rowS l) (rowS [c]) (Nat.le_refl _)
  rw [count_chain _ 0 f h hn, List.drop_zero]
theorem sub_row (l m : LRow) (i : Nat) : Builtin.Str.subAt (rowS l) (rowS m) i = ((l.drop i).take m.length == m) := by
  have := StrLaws.subAt_eq (rowS l) (rowS m) i
  rw [rowS_len] at this
  exact this
theorem starts_row (l : LRow) (a : Nat) : Txt.startswith (rowS l) (rowS [a]) = bB (l.head? = some a) := by
  refine bB_of ?_
  unfold Txt.startswith
  rw [sub_row, rowS_len, rowS_len]
  cases l with
  | nil => simp
  | cons b l => simp
theorem ends_row (l : LRow) (a : Nat) : Txt.endswith (rowS l) (rowS [a]) = bB (l.getLast? = some a) := by
  refine bB_of ?_
  unfold Txt.endswith
  rw [sub_row, rowS_len, rowS_len]
  show (decide (0 + 1 ≤ l.length) && (((l.drop (l.length - 1)).take 1) == [a])) = true ↔ _
  rw [List.getLast?_eq_getElem?]
  by_cases h : l.length = 0
  · have : l = [] := List.length_eq_zero_iff.mp h
    subst this
    simp
  · have hi : l.length - 1 < l.length := by omega
    rw [List.drop_eq_getElem_cons hi, List.getElem?_eq_getElem hi]
    simp only [Bool.and_eq_true, decide_eq_true_eq, List.take_succ_cons, List.take_zero, beq_iff_eq, Option.some.injEq, List.cons.injEq, and_true]
    exact ⟨fun h => h.2, fun h => ⟨by omega, h⟩⟩
theorem in_row2 (l : LRow) (a b : Nat) : (!(Builtin.Str.occurrences (rowS l) (rowS [a, b]) 0 (rowS l).length 1).isEmpty) = bB (∃ i, l[i]? = some a ∧ l[i + 1]? = some b) := by
  refine bB_of ?_
  rw [found_iff]
  constructor
  · rintro ⟨i, hi, h⟩
    rw [sub_row, beq_iff_eq] at h
    rw [rowS_len, rowS_len] at hi
    have h0 := congrArg (fun z => z[0]?) h
    have h1 := congrArg (fun z => z[1]?) h
    refine ⟨i, ?_, ?_⟩
    · simpa using h0
    · simpa using h1
  · rintro ⟨i, h0, h1⟩
    obtain ⟨i0, e0⟩ := List.getElem?_eq_some_iff.mp h0
    obtain ⟨i1, e1⟩ := List.getElem?_eq_some_iff.mp h1
    refine ⟨i, by rw [rowS_len, rowS_len]; exact i1, ?_⟩
    rw [sub_row, beq_iff_eq, List.drop_eq_getElem_cons i0, List.drop_eq_getElem_cons i1, e0, e1]
    rfl
section
variable {c : Ct} {G : List Sl} {s : c.S} {P : Sl → c.S → Prop}
theorem we_scount {to : TE} {ta : TA} (h : WE c to G s (FZ fun x s1 => ∃ l : LRow, x = .str (rowS l) ∧ WA c ta G s1 fun ds s2 => ∃ a : Nat, ds = [.str (rowS [a])] ∧ P (.dat (.int ((l.count a : Nat) : Int))) s2)) : WE c (tBM c.K "str" (rS1 fun a b => .int (Txt.count a b)) to ta) G s P :=
  we_s1 (gd := fun a b => .int (Txt.count a b)) (fun _ _ _ _ => .int _) (h.mono fun x s' hx => by
    cases x with
    | un => exact hx
    | own w => cases w with
      | lst ds => obtain ⟨l, e, _⟩ := hx; cases e
      | dk _ => exact hx
      | dt _ => exact hx
      | ob _ => exact hx
    | dat d =>
      obtain ⟨l, rfl, hx⟩ := hx
      refine ⟨_, rfl, hx.mono fun ds s2 hd => ?_⟩
      obtain ⟨a, rfl, hd⟩ := hd
      refine ⟨_, rfl, ?_⟩
      rw [count_row]
      exact hd)
theorem we_sstarts {to : TE} {ta : TA} (h : WE c to G s (FZ fun x s1 => ∃ l : LRow, x = .str (rowS l) ∧ WA c ta G s1 fun ds s2 => ∃ a : Nat, ds = [.str (rowS [a])] ∧ P (.dat (.bl (bB (l.head? = some a)))) s2)) : WE c (tBM c.K "str" (rS1 fun a b => .bl (Txt.startswith a b)) to ta) G s P :=
  we_s1 (gd := fun a b => .bl (Txt.startswith a b)) (fun _ _ _ _ => .bl _) (h.mono fun x s' hx => by
    cases x with
    | un => exact hx
    | own w => cases w with
      | lst ds => obtain ⟨l, e, _⟩ := hx; cases e
      | dk _ => exact hx
      | dt _ => exact hx
      | ob _ => exact hx
    | dat d =>
      obtain ⟨l, rfl, hx⟩ := hx
      refine ⟨_, rfl, hx.mono fun ds s2 hd => ?_⟩
      obtain ⟨a, rfl, hd⟩ := hd
      refine ⟨_, rfl, ?_⟩
      rw [starts_row]
      exact hd)
theorem we_sends {to : TE} {ta : TA} (h : WE c to G s (FZ fun x s1 => ∃ l : LRow, x = .str (rowS l) ∧ WA c ta G s1 fun ds s2 => ∃ a : Nat, ds = [.str (rowS [a])] ∧ P (.dat (.bl (bB (l.getLast? = some a)))) s2)) : WE c (tBM c.K "str" (rS1 fun a b => .bl (Txt.endswith a b)) to ta) G s P :=
  we_s1 (gd := fun a b => .bl (Txt.endswith a b)) (fun _ _ _ _ => .bl _) (h.mono fun x s' hx => by
    cases x with
    | un => exact hx
    | own w => cases w with
      | lst ds => obtain ⟨l, e, _⟩ := hx; cases e
      | dk _ => exact hx
      | dt _ => exact hx
      | ob _ => exact hx
    | dat d =>
      obtain ⟨l, rfl, hx⟩ := hx
      refine ⟨_, rfl, hx.mono fun ds s2 hd => ?_⟩
      obtain ⟨a, rfl, hd⟩ := hd
      refine ⟨_, rfl, ?_⟩
      rw [ends_row]
      exact hd)
theorem din_row2 {l : LRow} {a b : Nat} (k : P (.dat (.bl (bB (∃ i, l[i]? = some a ∧ l[i + 1]? = some b)))) s) : DOp c (qIn c.K) (.str (rowS [a, b])) (.str (rowS l)) G s P := din_str (by rw [in_row2]; exact k)
theorem dm_row {l : LRow} {z : Int} (h0 : 0 ≤ z) (h1 : z ≤ 1000) (hl : l.length ≤ 1000) (k : P (.dat (.str (rowS (rep l z.toNat)))) s) : DOp c qMul (.str (rowS l)) (.int z) G s P := dm_lit l rfl h0 h1 hl k
end
/-! ### questions for patterns -/
def patQ (l : LRow) : Qn := l.foldl (fun q a => .some q a .any) .any
def bareQ (A : LRow) : Qn := A.foldl (fun q a => .both q (.neg (.some .any a .any))) .any
abbrev patS : FSpec := fun ds P _ => ∃ l : LRow, ds = [.str (rowS l)] ∧ P (.dat (patQ l).D)
abbrev bareS : FSpec := fun ds P _ => ∃ l : LRow, ds = [.str (rowS l)] ∧ P (.dat (bareQ l).D)
abbrev hasS : FSpec := fun ds P _ => ∃ l m : LRow, ds = [.str (rowS l), .str (rowS m)] ∧ l.length ≤ 1000 ∧ m.length ≤ 1000 ∧ P (.dat (.bl (bB (m.Sublist l))))
section
variable {l m : LRow} {P : Sl → Prop} {XP : Addr → DL.D → Prop}
theorem u_pat (k : P (.dat (patQ l).D)) : patS [.str (rowS l)] P XP := ⟨l, rfl, k⟩
theorem u_bare (k : P (.dat (bareQ l).D)) : bareS [.str (rowS l)] P XP := ⟨l, rfl, k⟩
theorem u_has (h : l.length ≤ 1000) (h2 : m.length ≤ 1000) (k : P (.dat (.bl (bB (m.Sublist l))))) : hasS [.str (rowS l), .str (rowS m)] P XP := ⟨l, m, rfl, h, h2, k⟩
end
end DL
/-! DNc: questions that part rows -/
namespace DL
open PySem PySem.Spec PyProof.Rows L2
/-! ### all of some questions -/
namespace Qn
theorem parts_inj : ∀ {p q : Qn}, p.D = q.D → p = q
  | .any, .any, _ => rfl
  | .any, .neg _, h => by injection h with h; simp at h
  | .any, .both _ _, h => by injection h with h; simp at h
  | .any, .some _ _ _, h => by injection h with h; simp at h
  | .neg _, .any, h => by injection h with h; simp at h
  | .neg p, .neg q, h => by
    injection h with h
    simp only [List.cons.injEq, and_true, true_and] at h
    rw [parts_inj h]
  | .neg _, .both _ _, h => by injection h with h; simp at h
  | .neg _, .some _ _ _, h => by injection h with h; simp at h
  | .both _ _, .any, h => by injection h with h; simp at h
  | .both _ _, .neg _, h => by injection h with h; simp at h
  | .both p q, .both r t, h => by
    injection h with h
    simp only [List.cons.injEq, and_true, true_and] at h
    rw [parts_inj h.1, parts_inj h.2]
  | .both _ _, .some _ _ _, h => by injection h with h; simp at h
  | .some _ _ _, .any, h => by injection h with h; simp at h
  | .some _ _ _, .neg _, h => by injection h with h; simp at h
  | .some _ _ _, .both _ _, h => by injection h with h; simp at h
  | .some p a q, .some r b t, h => by
    injection h with h
    simp only [List.cons.injEq, and_true, true_and] at h
    obtain ⟨h1, h2, h3⟩ := h
    injection h2 with h2
    have h2 := rowS_inj h2
    simp only [List.cons.injEq, and_true] at h2
    rw [parts_inj h1, parts_inj h3, h2]
end Qn
section
variable {c : Ct} {G : List Sl} {s : c.S} {P : Sl → c.S → Prop}
theorem deq_qn {p q : Qn} (h1 : p.In LET) (h2 : q.In LET) (h3 : p.ht ≤ 60) (h4 : q.ht ≤ 60) (k : P (.dat (.bl (bB (p = q)))) s) : DOp c (qEq c.K) p.D q.D G s P :=
  deqF (Qn.fine h1) (Qn.fine h2) (by omega) (by omega) (Qn.nb p) (Qn.nb q) (by rw [bB_congr (⟨Qn.parts_inj, fun e => by rw [e]⟩ : p.D = q.D ↔ p = q)]; exact k)
theorem dne_qn {p q : Qn} (h1 : p.In LET) (h2 : q.In LET) (h3 : p.ht ≤ 60) (h4 : q.ht ≤ 60) (k : P (.dat (.bl (!bB (p = q)))) s) : DOp c (qNe c.K) p.D q.D G s P :=
  dneF (Qn.fine h1) (Qn.fine h2) (by omega) (by omega) (Qn.nb p) (Qn.nb q) (by rw [bB_congr (⟨Qn.parts_inj, fun e => by rw [e]⟩ : p.D = q.D ↔ p = q)]; exact k)
/-- a tuple of the module -/
structure KTup (K : PySem.W.Frag) (mg : Str → Option Value) (x : Str) (a : Addr) (ds : List D) : Prop where
  mg : mg x = some (.ref a)
  rep : ∀ H0, Rep K H0 (.ref a) (.tup ds)
theorem we_ktup {mg : Str → Option Value} {x : Str} {a : Addr} {ds : List D} (h : KTup c.K mg x a ds) (k : P (.dat (.tup ds)) s) : WE c (tC (.ref a)) G s P := fun σ F H0 H g Q q => q _ _ _ H0 H k g (Same.refl _) (h.rep H0)
end
def stepQ (f q : Qn) : Qn := if f = .any then q else if q = f then f else .both f q
def allQ (qs : List Qn) : Qn := qs.foldl stepQ .any
def sizeB : Nat → Nat
  | 0 => 0
  | 1 => 4
  | d + 2 => 6 * (sizeB (d + 1) + 1) + 4
def htB : Nat → Nat
  | 0 => 0
  | d + 1 => 8 * d + 3
theorem sizeB_mono : ∀ {d e : Nat}, e ≤ d → sizeB e ≤ sizeB d := fun {d e} h => by
  have st : ∀ d, sizeB d ≤ sizeB (d + 1) := fun d => by
    match d with
    | 0 => decide
    | 1 => decide
    | d + 2 => show sizeB (d + 2) ≤ 6 * (sizeB (d + 2) + 1) + 4; omega
  induction h with
  | refl => exact Nat.le_refl _
  | step _ ih => exact Nat.le_trans ih (st _)
theorem htB_mono {d e : Nat} (h : e ≤ d) : htB e ≤ htB d := by
  cases e with
  | zero => exact Nat.zero_le _
  | succ e => cases d with
    | zero => omega
    | succ d => show 8 * e + 3 ≤ 8 * d + 3; omega
/-! ### promises -/
def allOfS : FSpec := fun ds P _ => ∃ qs : List Qn, ds = [.lst (qs.map Qn.D)] ∧ (∀ q ∈ qs, q.In LET) ∧ (∀ q ∈ qs, q.ht ≤ 40) ∧ qs.length ≤ 10 ∧ P (.dat (allQ qs).D)
def leastOfS : KSpec := fun _ ds st P _ => ∃ (l m : LRow) (U : List (LRow × Nat)), ds = [.str (rowS l), .str (rowS m)] ∧ l.length ≤ 60 ∧ m.length ≤ 60 ∧ KInv U st ∧ InU U l 6 ∧ InU U m 6 ∧
  ∀ st', KInv U st' → st.tab <+: st'.tab → P (.dat (optD (partN l m))) st'
theorem u_allOf {qs : List Qn} {P : Sl → Prop} {XP : Addr → DL.D → Prop} (h1 : ∀ q ∈ qs, q.In LET) (h2 : ∀ q ∈ qs, q.ht ≤ 40) (h3 : qs.length ≤ 10) (k : P (.dat (allQ qs).D)) : allOfS [.lst (qs.map Qn.D)] P XP := ⟨qs, rfl, h1, h2, h3, k⟩
section
variable {c : Ct} {G : List Sl} {s : c.S} {P : Sl → c.S → Prop}
theorem dis_opt {o : Option Nat} (k : P (.dat (.bl o.isNone)) s) : DOp c (fun x y H Q => y = V.non ∧ Q (.bl (decide (x = V.non))) H) (optD o) .non G s P := by
  cases o with
  | none => exact dis_non (.inl ⟨rfl, rfl⟩) k
  | some e => exact dis_non (.inr ⟨⟨_, rfl⟩, rfl⟩) k
theorem dnis_opt {o : Option Nat} (k : P (.dat (.bl o.isSome)) s) : DOp c (fun x y H Q => y = V.non ∧ Q (.bl (!decide (x = V.non))) H) (optD o) .non G s P := by
  cases o with
  | none => exact dnot_non (.inl ⟨rfl, rfl⟩) k
  | some e => exact dnot_non (.inr ⟨⟨_, rfl⟩, rfl⟩) k
theorem dle_opt {a b : Nat} (k : P (.dat (.bl (decide (a ≤ b)))) s) : DOp c qLe (optD (some a)) (optD (some b)) G s P := by
  refine dle_int ?_
  rw [show decide (((a : Nat) : Int) ≤ ((b : Nat) : Int)) = decide (a ≤ b) from decide_eq_decide.mpr (by omega)]
  exact k
end
section
variable {l m : LRow} {U : List (LRow × Nat)} {p : Addr} {st : KSt} {P : Sl → KSt → Prop} {XP : Addr → D → KSt → Prop}
theorem u_leastOf (hI : KInv U st) (hU : InU U l 6) (hV : InU U m 6) (h1 : l.length ≤ 60) (h2 : m.length ≤ 60) (k : ∀ st', KInv U st' → st.tab <+: st'.tab → P (.dat (optD (partN l m))) st') : leastOfS p [.str (rowS l), .str (rowS m)] st P XP := ⟨l, m, U, rfl, h1, h2, hI, hU, hV, k⟩
end
/-- a question of those gathered at a pick -/
def PartOk (d : Nat) (x : LRow) (q : Qn) : Prop := q.In LET ∧ q.depth ≤ d ∧ q.size ≤ sizeB d ∧ q.ht ≤ htB d ∧ q.lets x = true
theorem PartOk.mono {d e : Nat} {x : LRow} {q : Qn} (h : e ≤ d) (k : PartOk e x q) : PartOk d x q := ⟨k.1, Nat.le_trans k.2.1 h, Nat.le_trans k.2.2.1 (sizeB_mono h), Nat.le_trans k.2.2.2.1 (htB_mono h), k.2.2.2.2⟩
theorem map_get {α : Type} {L : List α} {f : α → D} {i : Nat} {x : D} (h : (L.map f)[i]? = some x) : ∃ a, L[i]? = some a ∧ x = f a := by
  rw [List.getElem?_map] at h
  cases e : L[i]? with
  | none => rw [e] at h; cases h
  | some a =>
    rw [e] at h
    cases h
    exact ⟨a, rfl, rfl⟩
end DL
/-! DNd: max of a list, with a default -/
namespace DL
open PySem PySem.Spec PyProof.Rows L2
/-- the greatest, d of none -/
def maxI (d : Int) : List Int → Int
  | [] => d
  | n :: ns => ns.foldl max n
def rMaxDf (K : PySem.W.Frag) : List V → List V → Hp → VK → Prop := fun vs zs H Q => ∃ (a : Addr) (ns : List Int) (d : Int), vs = [.ref a] ∧ zs = [.int d] ∧ SqL K H a (ns.map V.int) ∧ Q (.int (maxI d ns)) H
def rMaxL (K : PySem.W.Frag) : List V → Hp → VK → Prop := fun vs H Q => ∃ (a : Addr) (n : Int) (ns : List Int), vs = [.ref a] ∧ SqL K H a ((n :: ns).map V.int) ∧ Q (.int (ns.foldl max n)) H
theorem rd_ints {h : Heap} : ∀ {us : List Value} {ns : List Int}, Vals (ns.map V.int) us → ∃ as, ReadsAll h us (ns.map .int) as
  | us, [], r => by cases r; exact ⟨_, .nil⟩
  | us, n :: ns, r => by
    cases r with
    | cons h1 r =>
      obtain ⟨t, rfl⟩ := h1
      obtain ⟨as, k⟩ := rd_ints r
      exact ⟨_, .cons (.int n t) k⟩
theorem alike_of_ints (ns : List Int) : PySem.W.AlikeAll (ns.map .int) := ⟨fun x hx y hy => by
  obtain ⟨i, _, rfl⟩ := List.mem_map.mp hx
  obtain ⟨j, _, rfl⟩ := List.mem_map.mp hy
  simp [PySem.W.alike], fun x hx h => by
  obtain ⟨i, _, rfl⟩ := List.mem_map.mp hx
  cases h⟩
section
variable {X : Cx} {K : PySem.W.Frag}
theorem call_maxDf (hK : X.K = K) (hc : X.calm = true) (hu : X.A.units + 64 < cLine) : CallRK X (.builtin "max") ["default"] (rMaxDf K) := by
  intro pins s σ H xs zs us ws Q I r1 r2 q
  subst hK
  obtain ⟨a, ns, d, rfl, rfl, hS, q⟩ := q
  obtain ⟨its, rv, hl, _⟩ := I.list hS
  obtain ⟨as, hr⟩ := rd_ints (h := s.heap) rv
  rw [Vals.ref1 r1]
  cases r2 with
  | cons h1 r2 =>
  cases r2
  obtain ⟨t, rfl⟩ := h1
  refine PySem.W.max_list_default (I.ok.hd hc) hl.isList hr (alike_of_ints ns) (by rw [PySem.W.depth_ints]; omega) (fun e h' tk hk => ?_) fun y ys i v h' tk bs e hv hrd hk => ?_
  · have : ns = [] := by simpa using e
    subst this
    exact ⟨.int d, H, I.kept hk, ⟨t, rfl⟩, q⟩
  · cases ns with
    | nil => simp at e
    | cons n ns =>
      rw [List.map_cons] at e
      injection e with e1 e2
      subst e1 e2
      rw [PySem.W.maxD_ints] at hrd
      cases hrd with
      | int _ t2 => exact ⟨.int _, H, I.kept hk, ⟨t2, rfl⟩, q⟩
theorem call_maxLK (hK : X.K = K) (hc : X.calm = true) (hu : X.A.units + 64 < cLine) : CallR X (.builtin "max") (rMaxL K) := by
  intro pins s σ H xs us Q I r1 q
  subst hK
  obtain ⟨a, n, ns, rfl, hS, q⟩ := q
  obtain ⟨its, rv, hl, _⟩ := I.list hS
  obtain ⟨as, hr⟩ := rd_ints (h := s.heap) rv
  rw [Vals.ref1 r1]
  have al := alike_of_ints (n :: ns)
  refine PySem.W.max_list_data (I.ok.hd hc) hl.isList hr al (by rw [show (PyData.int n :: ns.map PyData.int) = (n :: ns).map .int from rfl, PySem.W.depth_ints]; omega) fun i v h' tk bs hv hrd hk => ?_
  rw [PySem.W.maxD_ints] at hrd
  cases hrd with
  | int _ t2 => exact ⟨.int _, H, I.kept hk, ⟨t2, rfl⟩, q⟩
end
def maxN (d : Nat) (ns : List Nat) : Nat := ns.foldl max d
theorem foldl_maxN : ∀ (ns : List Nat) (d : Nat), (ns.map fun (i : Nat) => ((i : Nat) : Int)).foldl max ((d : Nat) : Int) = ((ns.foldl max d : Nat) : Int)
  | [], d => rfl
  | n :: ns, d => by
    show (ns.map _).foldl max (max ((d : Nat) : Int) ((n : Nat) : Int)) = ((ns.foldl max (max d n) : Nat) : Int)
    rw [← foldl_maxN ns (max d n)]
    congr 1
    omega
theorem maxI_nats (ns : List Nat) : maxI 0 (ns.map fun (i : Nat) => ((i : Nat) : Int)) = ((maxN 0 ns : Nat) : Int) := by
  cases ns with
  | nil => rfl
  | cons n ns =>
    show (ns.map _).foldl max ((n : Nat) : Int) = ((ns.foldl max (max 0 n) : Nat) : Int)
    rw [foldl_maxN, Nat.zero_max]
section
variable {c : Ct} {G : List Sl} {s : c.S} {P : Sl → c.S → Prop}
/-- max(list of numbers, default=0) -/
theorem we_maxDf {ta tk : TA} (h : WA c ta G s fun ds s1 => ∃ ns : List Nat, ds = [.lst (ns.map fun (i : Nat) => D.int ((i : Nat) : Int))] ∧ WA c tk G s1 fun es s2 => es = [.int 0] ∧ P (.dat (.int ((maxN 0 ns : Nat) : Int))) s2) : WE c (tCKw (rMaxDf c.K) ta tk) G s P := fun σ F H0 H g Q q =>
  h σ F H0 H g _ fun ds s1 vs H1 H1' hp g1 e1 r1 => by
    obtain ⟨ns, rfl, hp⟩ := hp
    refine hp σ F H1 H1' g1 _ fun es s2 ws H2 H2' hp2 g2 e2 r2 => ?_
    obtain ⟨rfl, k⟩ := hp2
    cases r1 with
    | cons r rs =>
    cases rs
    cases r2 with
    | cons z zs =>
    cases zs
    cases z
    cases r with
    | lst hl ha =>
      rw [show (ns.map fun (i : Nat) => D.int ((i : Nat) : Int)) = (ns.map fun (i : Nat) => ((i : Nat) : Int)).map D.int by rw [List.map_map]; rfl] at ha
      have hv := ha.ints
      subst hv
      refine ⟨_, ns.map fun (i : Nat) => ((i : Nat) : Int), 0, rfl, rfl, .inl (.inl (g2.gd.sub _ _ (e2 _ _ hl))), ?_⟩
      rw [maxI_nats]
      exact q _ s2 _ H2 H2' k g2 (e1.trans e2) (.int _)
/-- max(list of numbers that begins with a) -/
theorem db_maxL {a : Nat} {ns : List Nat} (k : P (.dat (.int ((maxN a ns : Nat) : Int))) s) : DCB c (rMaxL c.K) [.lst ((a :: ns).map fun (i : Nat) => D.int ((i : Nat) : Int))] G s P := fun σ F H0 H vs g r1 Q q => by
  cases r1 with
  | cons r rs =>
  cases rs
  cases r with
  | lst hl ha =>
    rw [show ((a :: ns).map fun (i : Nat) => D.int ((i : Nat) : Int)) = ((a :: ns).map fun (i : Nat) => ((i : Nat) : Int)).map D.int by rw [List.map_map]; rfl] at ha
    have hv := ha.ints
    subst hv
    refine ⟨_, ((a : Nat) : Int), ns.map fun (i : Nat) => ((i : Nat) : Int), rfl, .inl (.inl (g.gd.sub _ _ hl)), ?_⟩
    rw [foldl_maxN]
    exact q _ s _ H0 H k g (Same.refl _) (.int _)
end
def depInS (D : Nat) : FSpec := fun ds P _ => ∃ sz : Nat, sz < D ∧ ∃ q : Qn, ds = [q.D] ∧ q.ht = sz ∧ P (.dat (.int ((q.depth : Nat) : Int)))
def depOfS : FSpec := fun ds P _ => ∃ q : Qn, ds = [q.D] ∧ q.In LET ∧ q.ht ≤ 60 ∧ P (.dat (.int ((q.depth : Nat) : Int)))
section
variable {q : Qn} {P : Sl → Prop} {XP : Addr → DL.D → Prop}
theorem u_depIn {D : Nat} (h : q.ht < D) (k : P (.dat (.int ((q.depth : Nat) : Int)))) : depInS D [q.D] P XP := ⟨_, h, q, rfl, rfl, k⟩
theorem u_depOfH (h1 : q.In LET) (h2 : q.ht ≤ 60) (k : P (.dat (.int ((q.depth : Nat) : Int)))) : depOfS [q.D] P XP := ⟨q, rfl, h1, h2, k⟩
theorem u_depOf (h1 : q.In LET) (h2 : q.size ≤ 60) (k : P (.dat (.int ((q.depth : Nat) : Int)))) : depOfS [q.D] P XP := u_depOfH h1 (Nat.le_trans q.ht_le h2) k
end
theorem Qn.depth_kids : ∀ q : Qn, q.depth = (match q with | .some _ _ _ => 1 | _ => 0) + maxN 0 (q.kids.map Qn.depth)
  | .any => rfl
  | .neg q => by show q.depth = 0 + max 0 q.depth; omega
  | .both p q => by show max p.depth q.depth = 0 + max (max 0 p.depth) q.depth; omega
  | .some p a q => by show max p.depth q.depth + 1 = 1 + max (max 0 p.depth) q.depth; omega
section
variable {c : Ct} {G : List Sl} {s : c.S} {P : Sl → c.S → Prop}
theorem qn_ref {K : PySem.W.Frag} {H : Hp} {v : V} {q : Qn} (r : Rep K H v q.D) : v ≠ .non := by
  rw [q.D_parts] at r
  cases r
  intro h
  cases h
theorem dis_qn {q : Qn} (k : P (.dat (.bl false)) s) : DOp c (fun x y H Q => y = V.non ∧ Q (.bl (decide (x = V.non))) H) q.D .non G s P := fun σ F H0 H v w g r1 r2 Q qq => by
  cases r2
  refine ⟨rfl, ?_⟩
  rw [decide_eq_false (qn_ref r1)]
  exact qq _ s _ H0 H k g (Same.refl _) (.bl _)
theorem dnis_qn {q : Qn} (k : P (.dat (.bl true)) s) : DOp c (fun x y H Q => y = V.non ∧ Q (.bl (!decide (x = V.non))) H) q.D .non G s P := fun σ F H0 H v w g r1 r2 Q qq => by
  cases r2
  refine ⟨rfl, ?_⟩
  rw [decide_eq_false (qn_ref r1)]
  exact qq _ s _ H0 H k g (Same.refl _) (.bl _)
theorem dnis_bl {a b : Bool} (k : P (.dat (.bl (!decide (a = b)))) s) : DOp c rNotB (.bl a) (.bl b) G s P := fun σ F H0 H v w g r1 r2 Q q => by
  cases r1
  cases r2
  exact ⟨a, b, rfl, rfl, q _ s _ H0 H k g (Same.refl _) (.bl _)⟩
theorem dis_non0 (k : P (.dat (.bl true)) s) : DOp c (fun x y H Q => y = V.non ∧ Q (.bl (decide (x = V.non))) H) .non .non G s P := dis_non (.inl ⟨rfl, rfl⟩) k
theorem dnis_non0 (k : P (.dat (.bl false)) s) : DOp c (fun x y H Q => y = V.non ∧ Q (.bl (!decide (x = V.non))) H) .non .non G s P := dnot_non (.inl ⟨rfl, rfl⟩) k
end
end DL
/-! DNe: {k: v} with a nested key; dicts of ints as grounds -/
namespace DL
open PySem PySem.Spec PyProof.Rows L2
end DL
/-! DNf: kinds that are put together, as numbers of a table (no program in sight) -/
namespace DL
open PySem PySem.Spec PyProof.Rows L2
/-- for each number its depth and its triples -/
abbrev JTab := List (Nat × List M3)
/-- T are the triples of the row's places, their kinds by f -/
def JTr (f : LRow → Int → Prop) (l : LRow) (T : List M3) : Prop :=
  (∀ (i a : Nat), l[i]? = some a → ∃ x y, ((x, rowS [a], y) : M3) ∈ T ∧ f (l.take i) x ∧ f (l.drop (i + 1)) y) ∧
  ∀ m ∈ T, ∃ i a : Nat, l[i]? = some a ∧ m.2.1 = rowS [a] ∧ f (l.take i) m.1 ∧ f (l.drop (i + 1)) m.2.2
theorem JTr.mono {f g : LRow → Int → Prop} (h : ∀ r n, f r n → g r n) {l : LRow} {T : List M3} (k : JTr f l T) : JTr g l T :=
  ⟨fun i a ha => by
    obtain ⟨x, y, h1, h2, h3⟩ := k.1 i a ha
    exact ⟨x, y, h1, h _ _ h2, h _ _ h3⟩, fun m hm => by
    obtain ⟨i, a, h1, h2, h3, h4⟩ := k.2 m hm
    exact ⟨i, a, h1, h2, h _ _ h3, h _ _ h4⟩⟩
/-- n is the kind of the row to the depth -/
def JK (t : JTab) : Nat → LRow → Int → Prop
  | 0, _, n => n = 0
  | d + 1, l, n => ∃ T : List M3, JTr (JK t d) l T ∧ 0 ≤ n ∧ t[n.toNat]? = some (d + 1, canonS T)
theorem JK.mono {t t' : JTab} (h : t <+: t') : ∀ {d : Nat} {l : LRow} {n : Int}, JK t d l n → JK t' d l n
  | 0, _, _, k => k
  | d + 1, l, n, ⟨T, k1, k2, k3⟩ => by
    refine ⟨T, k1.mono fun _ _ z => JK.mono h z, k2, ?_⟩
    obtain ⟨r, rfl⟩ := h
    rw [List.getElem?_append_left (List.getElem?_eq_some_iff.mp k3).1]
    exact k3
theorem jk_iff {t : JTab} (hn : t.Nodup) : ∀ {d : Nat} {l m : LRow} {x y : Int}, JK t d l x → JK t d m y → (x = y ↔ Alike d l m)
  | 0, _, _, x, y, (hx : x = 0), (hy : y = 0) => by rw [hx, hy]; exact ⟨fun _ => trivial, fun _ => rfl⟩
  | d + 1, l, m, x, y, ⟨ms, hm, x0, ex⟩, ⟨ns, hn', y0, ey⟩ => by
    have e1 : x = y ↔ canonS ms = canonS ns := by
      constructor
      · intro e
        rw [e, ey] at ex
        have := Option.some.inj ex
        injection this with _ h
        exact h.symm
      · intro e
        rw [e] at ex
        have := nodup_at hn ex ey
        omega
    rw [e1, canonS_iff]
    have half : ∀ {l m : LRow} {ms ns : List M3}, JTr (JK t d) l ms → JTr (JK t d) m ns → ((∀ q, q ∈ ms → q ∈ ns) ↔ ∀ (i a : Nat), l[i]? = some a → ∃ j, m[j]? = some a ∧ Alike d (l.take i) (m.take j) ∧ Alike d (l.drop (i + 1)) (m.drop (j + 1))) := by
      intro l m ms ns hm hn'
      constructor
      · intro h i a ha
        obtain ⟨u, v, q1, q2, q3⟩ := hm.1 i a ha
        obtain ⟨j, b, hb, e, k1, k2⟩ := hn'.2 _ (h _ q1)
        have hab : a = b := str1_inj e
        subst hab
        exact ⟨j, hb, (jk_iff hn q2 k1).mp rfl, (jk_iff hn q3 k2).mp rfl⟩
      · intro h q hq
        obtain ⟨i, a, ha, e, k1, k2⟩ := hm.2 q hq
        obtain ⟨j, hj, a1, a2⟩ := h i a ha
        obtain ⟨u, v, q1, q2, q3⟩ := hn'.1 j a hj
        have e1 := (jk_iff hn k1 q2).mpr a1
        have e2 := (jk_iff hn k2 q3).mpr a2
        have : q = (u, rowS [a], v) := by
          obtain ⟨q0, q1, q2⟩ := q
          simp only at e e1 e2
          rw [e, e1, e2]
        rw [this]
        exact q1
    show _ ↔ _ ∧ _
    rw [← half hm hn', ← half hn' hm]
    exact ⟨fun h => ⟨fun q => (h q).mp, fun q => (h q).mpr⟩, fun h q => ⟨h.1 q, h.2 q⟩⟩
theorem JK.one {t : JTab} (hn : t.Nodup) {d : Nat} {l : LRow} {x y : Int} (h : JK t d l x) (k : JK t d l y) : x = y := (jk_iff hn h k).mpr (Alike.refl _ _)
theorem JK.depth {t : JTab} {d e : Nat} {l m : LRow} {n : Int} (h : JK t (d + 1) l n) (k : JK t (e + 1) m n) : d = e := by
  obtain ⟨_, _, _, h⟩ := h
  obtain ⟨_, _, _, k⟩ := k
  rw [h] at k
  have := Option.some.inj k
  injection this with h _
  omega
/-- rows that are alike have one kind -/
theorem JK.alike {t : JTab} (hn : t.Nodup) : ∀ {d : Nat} {l m : LRow} {n : Int}, JK t d l n → Alike d l m → JK t d m n
  | 0, _, _, _, h, _ => h
  | d + 1, l, m, n, ⟨T, h1, h2, h3⟩, k => by
    refine ⟨T, ⟨fun j a hj => ?_, fun q hq => ?_⟩, h2, h3⟩
    · obtain ⟨i, hi, a1, a2⟩ := k.2 j a hj
      obtain ⟨x, y, q1, q2, q3⟩ := h1.1 i a hi
      exact ⟨x, y, q1, JK.alike hn q2 a1.symm, JK.alike hn q3 a2.symm⟩
    · obtain ⟨i, a, hi, e, q2, q3⟩ := h1.2 q hq
      obtain ⟨j, hj, a1, a2⟩ := k.1 i a hi
      exact ⟨j, a, hj, e, JK.alike hn q2 a1, JK.alike hn q3 a2⟩
/-! ### what a Joints object holds -/
def jkey (e : Nat × List M3) : D := .tup [.int ((e.1 : Nat) : Int), keyD e.2]
theorem jkey_able (e : Nat × List M3) : (jkey e).keyable = true := by
  show (true && ((keyD e.2).keyable && true)) = true
  rw [keyD_keyable]
  rfl
theorem jkey_inj {a b : Nat × List M3} : (jkey a).nk = (jkey b).nk ↔ a = b := by
  constructor
  · intro h
    have := D.nk_inj (jkey_able a) (jkey_able b) h
    unfold jkey at this
    injection this with this
    simp only [List.cons.injEq, and_true] at this
    obtain ⟨h1, h2⟩ := this
    injection h1 with h1
    have e1 : a.1 = b.1 := by omega
    have e2 := keyD_inj h2
    exact Prod.ext e1 e2
  · intro h
    rw [h]
abbrev DI := List (Int × Int)
def diAt (st : DI) (k : Int) : Option Int := (st.find? fun e => decide (e.1 = k)).map (·.2)
abbrev JSt := ((List V × List D) × DM) × (DI × DT)
def spOf (t : JTab) (n : Nat) : DM := (t.zipIdx n).map fun e => (jkey e.1, .int ((e.2 : Nat) : Int))
theorem spOf_no : ∀ {t : JTab} {n : Nat} {e : Nat × List M3}, e ∉ t → dAt (spOf t n) (jkey e) = none
  | [], _, _, _ => rfl
  | f :: t, n, e, h => by
    have hne : f ≠ e := fun z => h (z ▸ List.mem_cons_self ..)
    have ih := spOf_no (n := n + 1) (fun z => h (List.mem_cons_of_mem _ z) : e ∉ t)
    unfold spOf dAt at ih ⊢
    rw [List.zipIdx_cons, List.map_cons, List.find?_cons_of_neg (by simpa using fun z => hne (jkey_inj.mp z)), ih]
/-- all that may ever be asked for: parts of rows, rows in two parts -/
structure JU where
  U : List (LRow × Nat)
  W : List (LRow × LRow × Nat)
structure JOk (u : JU) (t : JTab) (st : JSt) : Prop where
  ulen : u.U.length < 900000
  wlen : u.W.length < 900000
  nd : t.Nodup
  t0 : t[0]? = some (0, [])
  tr : st.1.1.2 = t.map fun e => keyD e.2
  sp : st.1.2 = spOf t 0
  pos : ∀ (i : Nat), i < t.length → i = 0 ∨ ∃ x ∈ u.U, ∃ d, x.2 = d + 1 ∧ JK t (d + 1) x.1 (i : Int)
  lo : ∀ e ∈ st.2.1, ∃ d l, JK t (d + 1) l e.1 ∧ JK t d l e.2
  lok : (st.2.1.map (·.1)).Nodup
  jo : ∀ e ∈ st.2.2, ∃ (a b c : Int) (d : Nat) (l m : LRow), e = ([.inl a, .inl b], .int c) ∧ (l, m, d + 1) ∈ u.W ∧ JK t (d + 1) l a ∧ JK t (d + 1) m b ∧ JK t (d + 1) (l ++ m) c
  jok : (st.2.2.map (·.1)).Nodup
theorem inj_len {α β : Type} [DecidableEq β] {F : α → β → Prop} : ∀ {l : List α} {m : List β}, l.Nodup → (∀ a ∈ l, ∃ b ∈ m, F a b) → (∀ a a' b, a ∈ l → a' ∈ l → F a b → F a' b → a = a') → l.length ≤ m.length
  | [], _, _, _, _ => Nat.zero_le _
  | a :: l, m, nd, h, inj => by
    obtain ⟨b, hb, hf⟩ := h a (List.mem_cons_self ..)
    have hna := (List.nodup_cons.mp nd).1
    have := inj_len (F := F) (l := l) (m := m.erase b) (List.nodup_cons.mp nd).2 (fun x hx => by
      obtain ⟨y, hy, hg⟩ := h x (List.mem_cons_of_mem _ hx)
      refine ⟨y, (List.mem_erase_of_ne fun z => ?_).mpr hy, hg⟩
      subst z
      exact hna ((inj x a y (List.mem_cons_of_mem _ hx) (List.mem_cons_self ..) hg hf) ▸ hx)) fun x x' y hx hx' => inj x x' y (List.mem_cons_of_mem _ hx) (List.mem_cons_of_mem _ hx')
    rw [List.length_erase_of_mem hb] at this
    have pos : 0 < m.length := List.length_pos_of_mem hb
    rw [List.length_cons]
    omega
section
variable {u : JU} {t : JTab} {st : JSt}
theorem JOk.no (h : JOk u t st) {e : Nat × List M3} (he : e ∉ t) : dAt st.1.2 (jkey e) = none := by
  rw [h.sp, spOf_no he]
end
end DL
/-! DNg: any new object as a ground beside another -/
namespace DL
open PySem PySem.Spec PyProof.Rows L2
/-- the places of the object are new to the ground -/
def NewR (c : Ct) (r : Res) (p : Addr) : Prop := ∀ a, r.B p a → c.E a = none ∧ ¬ c.B a
abbrev addCt (c : Ct) (r : Res) (p : Addr) (hn : NewR c r p) : Ct where
  K := c.K
  S := c.S × r.S
  R := fun s H0 H => c.R s.1 H0 H ∧ r.R p s.2 H0 H
  B := fun a => c.B a ∨ r.B p a
  stab := fun s H0 H H0' H' h e k => ⟨c.stab _ _ _ _ _ h.1 e fun a o hb => k a o (.inl hb), r.stab p _ _ _ _ _ h.2 e fun a o hb => k a o (.inr hb)⟩
  there := fun s H0 H a h hb => hb.elim (fun hb => c.there _ _ _ _ h.1 hb) fun hb => r.there p _ _ _ _ h.2 hb
  E0 := c.E0
  E := c.E
  EX := c.EX
  X := fun C d s => c.X C d s.1
  okX := fun C d s v a H0' H' x e sub k n av rs ha rr => c.okX C d s.1 v a H0' H' x e sub (fun b o hE hb => k b o hE fun z => by
    rcases z with z | z
    · exact hb z
    · rw [(hn b z).1] at hE; cases hE) n (fun b hb => av b (.inl hb)) rs.1 ha rr
section
variable {c : Ct} {G : List Sl} {s : c.S} {r : Res} {p : Addr} {hn : NewR c r p}
theorem onR : CtR (addCt c r p hn) r p Prod.snd (fun s t => (s.1, t)) where
  B := fun a h => .inr h
  R := fun _ _ _ h => h.2
  back := fun s t H0 H H0' H' h av st => ⟨⟨c.stab _ _ _ _ _ h.1 st.ex fun a o hb ho => st.fr a o ho fun z => (hn a z).2 hb, st.rs⟩, fun a hb => by
    rcases hb with hb | hb
    · exact st.nw a (c.there _ _ _ _ h.1 hb) (av a (.inl hb))
    · exact st.av a hb⟩
theorem SlOk.outR {H0 H : Hp} {o : Option V} {x : Sl} (h : SlOk (addCt c r p hn) H0 H o x) : SlOk c H0 H o x := by
  cases x with
  | un => trivial
  | dat d => exact h
  | own u =>
    obtain ⟨q, h1, h2, h3, h4, h5⟩ := h
    exact ⟨q, h1, h2, h3, fun z => h4 (.inl z), h5⟩
theorem Gd.outR {s : c.S × r.S} {σ : L2.St} {F : Frm} {H0 H : Hp} (g : Gd (addCt c r p hn) G s σ F H0 H) : Gd c G s.1 σ F H0 H where
  ln := g.ln
  gd := {
    sub := g.gd.sub
    av := fun a hb => g.gd.av a (.inl hb)
    e0 := g.gd.e0
    e1 := fun a o hE hb => g.gd.e1 a o hE fun z => by
      have hE : c.E a = some o := hE
      rcases z with z | z
      · exact hb z
      · rw [(hn a z).1] at hE; cases hE
    e2 := g.gd.e2
    rs := g.gd.rs.1
    len := g.gd.len
    sl := fun i x hx => SlOk.outR (g.gd.sl i x hx)
    ds := g.gd.ds }
theorem RO.outR {σ : L2.St} {F : Frm} {H0 H : Hp} {v : V} {x : Sl} (h : RO (addCt c r p hn) G σ F H0 H v x) : RO c G σ F H0 H v x := by
  cases x with
  | un => trivial
  | dat d => exact h
  | own u =>
    obtain ⟨q, h1, ⟨h2, h3, h4, h5⟩, h6⟩ := h
    exact ⟨q, h1, ⟨h2, h3, fun z => h4 (.inl z), h5⟩, h6⟩
theorem EOk.outR {D : Ends} {P : Ds c.S} {H0 : Hp} {m : Nat} (e : EOk c D P H0 m) : EOk (addCt c r p hn) D ⟨fun G s => P.nx G s.1, fun x s => P.rt x s.1, fun G s => P.bk G s.1, fun G s => P.ct G s.1⟩ H0 m where
  nx := fun G s σ H0' H a b d l => e.nx G s.1 σ H0' H a (Gd.of b).outR.to d l
  rt := fun x s v G σ H0 H a b r' => e.rt x s.1 v G σ H0 H a (Gd.of b).outR.to (by
    have := RO.outR (F := ([], [])) (show RO (addCt c r p hn) G σ ([], []) H0 H v x by simpa [RO] using r')
    simpa [RO] using this)
  bk := fun G s σ H0' H a b d l => e.bk G s.1 σ H0' H a (Gd.of b).outR.to d l
  ct := fun G s σ H0' H a b d l => e.ct G s.1 σ H0' H a (Gd.of b).outR.to d l
end
/-- a new object is there -/
theorem Gd.addR {c : Ct} {G : List Sl} {s : c.S} {σ : L2.St} {F : Frm} {H1 H1' H0' H' : Hp} {r : Res} {p dx C : Addr} {st : r.S} (g1 : Gd c G s σ F H1 H1') (np : H1' p = none) (ndx : H1' dx = none) (hpd : dx ≠ p)
    (nB : ∀ a, r.B p a → a ≠ p → upd (upd H1' dx (.own p)) p (.ins C dx []) a = none) (s1' : Same (upd H1 dx (.own p)) H0') (s2' : Same H0' H') (fr : ∀ b o, upd (upd H1' dx (.own p)) p (.ins C dx []) b = some o → b ≠ p → H' b = some o)
    (nw : ∀ b, upd (upd H1' dx (.own p)) p (.ins C dx []) b ≠ none → b ≠ p → upd H1 dx (.own p) b = none → H0' b = none) (vB : ∀ a, r.B p a → H0' a = none) (ra : r.R p st H0' H') : ∃ hn : NewR c r p, Gd (addCt c r p hn) G (s, st) σ F H0' H' ∧ Same H1 H0' := by
  obtain ⟨p1, p2, p3⟩ := g1.gd.newE np
  obtain ⟨d1, d2, d3⟩ := g1.gd.newE ndx
  have sx : Same H1 (upd H1 dx (.own p)) := fun b o hb => by
    rw [upd_ne (ne_of_none hb d3)]
    exact hb
  have fB : ∀ a, r.B p a → H1' a = none := fun a ha => by
    by_cases z : a = p
    · rw [z]; exact np
    · have nn := nB a ha z
      rw [upd_ne z] at nn
      have a2 : a ≠ dx := fun z => by rw [z, upd_same] at nn; cases nn
      rw [upd_ne a2] at nn
      exact nn
  have hn : NewR c r p := fun a ha => by
    obtain ⟨u1, u2, _⟩ := g1.gd.newE (fB a ha)
    exact ⟨u1, u2⟩
  have old : ∀ b o, H1' b = some o → H' b = some o := fun b o hb => fr b o (by rw [upd_ne (ne_of_none hb np), upd_ne (ne_of_none hb ndx)]; exact hb) (ne_of_none hb np)
  have g2 : Gd c G s σ F H0' H' := ⟨g1.ln, g1.gd.ext (sx.trans s1') s2' old (fun a ha h0 => nw a (by rw [upd_ne (fun z => ha (by rw [z]; exact np)), upd_ne (fun z => ha (by rw [z]; exact ndx))]; exact ha) (fun z => ha (by rw [z]; exact np)) (by rw [upd_ne (fun z => ha (by rw [z]; exact ndx))]; exact h0)) fun a hb ha => absurd ha (c.there _ _ _ _ g1.gd.rs hb)⟩
  refine ⟨hn, ⟨g2.ln, {
    sub := g2.gd.sub
    av := fun a hb => by
      rcases hb with hb | hb
      · exact g2.gd.av a hb
      · exact vB a hb
    e0 := g2.gd.e0
    e1 := fun a o hE hb => g2.gd.e1 a o hE fun z => hb (.inl z)
    e2 := g2.gd.e2
    rs := ⟨g2.gd.rs, ra⟩
    len := g2.gd.len
    sl := fun i x hx => by
      have q := g2.gd.sl i x hx
      have q0 := g1.gd.sl i x hx
      cases x with
      | un => trivial
      | dat d => exact q
      | own u =>
        obtain ⟨r', h1, h2, h3, h4, h5⟩ := q
        obtain ⟨r'', h1', _, _, _, u', hu', _⟩ := q0
        rw [h1] at h1'
        cases h1'
        refine ⟨r', h1, h2, h3, fun z => ?_, h5⟩
        rcases z with z | z
        · exact h4 z
        · rw [fB _ z] at hu'
          cases hu'
    ds := g2.gd.ds }⟩, sx.trans s1'⟩
/-- what an __init__ promises: of what is given (A), an object of a family (rf, its places by i) -/
def spIni (K : PySem.W.Frag) (C : Addr) {ι : Type} (rf : ι → Res) (A : List D → Prop) (post : (i : ι) → (rf i).S → List D → Prop) : Sp := fun vs H Q _ => ∃ (p dx : Addr) (vds : List V) (ds : List D) (H0 : Hp), vs = .ref p :: vds ∧ H p = some (.ins C dx []) ∧ H0 p = none ∧ Same H0 H ∧ RepAll K H0 vds ds ∧ A ds ∧
  ∀ (i : ι) (st : (rf i).S) (H0' H' : Hp), (∀ a, (rf i).B p a → a ≠ p → H a = none) → Same H0 H0' → Same H0' H' → (∀ b o, H b = some o → b ≠ p → H' b = some o) → (∀ b, H b ≠ none → b ≠ p → H0 b = none → H0' b = none) → (∀ a, (rf i).B p a → H0' a = none) →
    (rf i).R p st H0' H' → post i st ds → Q .non H'
section
variable {c : Ct} {G : List Sl} {s : c.S} {ι : Type} {rf : ι → Res} {A : List D → Prop} {post : (i : ι) → (rf i).S → List D → Prop} {C : Addr}
/-- the object made -/
theorem make_core {E : XK} {ta : TA} {σ : L2.St} {F : Frm} {H0 H : Hp} (gd : Gd c G s σ F H0 H) {Q : VK}
    (h : WA c ta G s fun ds s1 => A ds ∧ ∀ p i (hn : NewR c (rf i) p) (st : (rf i).S), post i st ds → ∀ H0' H', Gd (addCt c (rf i) p hn) G (s1, st) σ F H0' H' → Same H0 H0' → Q (.ref p) H') : tMake C (spIni c.K C rf A post) [] E ta σ H Q :=
  h σ F H0 H gd _ fun ds s1 vds H1 H1' hp g1 e1 r1 => by
    obtain ⟨ha, hp⟩ := hp
    intro p dx np ndx hpd
    obtain ⟨p1, p2, p3⟩ := g1.gd.newE np
    obtain ⟨d1, d2, d3⟩ := g1.gd.newE ndx
    have sx : Same H1 (upd H1 dx (.own p)) := fun b o hb => by
      rw [upd_ne (ne_of_none hb d3)]
      exact hb
    rw [List.append_nil]
    refine ⟨p, dx, vds, ds, upd H1 dx (.own p), rfl, upd_same, by rw [upd_ne (Ne.symm hpd)]; exact p3, fun b o hb => ?_, r1.mono sx, ha, fun i st H0' H' nB s1' s2' fr nw vB ra po => ⟨rfl, ?_⟩⟩
    · by_cases hd : b = dx
      · subst hd
        rw [upd_same] at hb
        rw [upd_ne hpd, upd_same]
        exact hb
      · rw [upd_ne hd] at hb
        rw [upd_ne (ne_of_none hb p3), upd_ne hd]
        exact g1.gd.sub _ _ hb
    · obtain ⟨hn, g2, e2⟩ := Gd.addR g1 np ndx hpd nB s1' s2' fr nw vB ra
      exact hp p i hn st po H0' H' g2 (e1.trans e2)
/-- x = C(..); .. -/
theorem ws_newR {P : Ds c.S} {j : Nat} {E : XK} {ta : TA} {u : TS} (h : WA c ta G s fun ds s1 => A ds ∧ ∀ p i (hn : NewR c (rf i) p) (st : (rf i).S), post i st ds →
      WS (addCt c (rf i) p hn) u (G.set j (.dat (.ref p))) (s1, st) ⟨fun G s => P.nx G s.1, fun x s => P.rt x s.1, fun G s => P.bk G s.1, fun G s => P.ct G s.1⟩) :
    WS c (tSeq (tAsg (tMake C (spIni c.K C rf A post) [] E ta) (gName j)) u) G s P := fun σ H0 H gd D e =>
  make_core (Q := fun v H1 => u D (σ.set j (some v)) H1) (Gd.of gd) fun σ' F H0' H' g' R q => h σ' F H0' H' g' R fun ds s1 vs H1 H1' hp g1 e1 r1 => q ds s1 vs H1 H1' ⟨hp.1, fun p i hn st po H2 H2' g2 e2 => by
    refine (hp.2 p i hn st po) _ _ _ (g2.to.setSl j (v := .ref p) (x := .dat (.ref p)) (.ref p)) D ?_
    rw [List.length_set]
    exact EOk.outR (e.on e2)⟩ g1 e1 r1
/-- x, y = C(..), z; .. -/
theorem ws_newR2 {P : Ds c.S} {i j : Nat} {z : Int} {E : XK} {ta : TA} {u : TS} (h : WA c ta G s fun ds s1 => A ds ∧ ∀ p i' (hn : NewR c (rf i') p) (st : (rf i').S), post i' st ds →
      WS (addCt c (rf i') p hn) u ((G.set i (.dat (.ref p))).set j (.dat (.int z))) (s1, st) ⟨fun G s => P.nx G s.1, fun x s => P.rt x s.1, fun G s => P.bk G s.1, fun G s => P.ct G s.1⟩) :
    WS c (tSeq (tPar i j (tCons (tMake C (spIni c.K C rf A post) [] E ta) (tCons (tC (.int z)) tNil))) u) G s P := fun σ H0 H gd D e => by
  refine make_core (Q := fun v H1 => ∃ v' w, [v, V.int z] = [v', w] ∧ u D ((σ.set i (some v')).set j (some w)) H1) (Gd.of gd) fun σ' F H0' H' g' R q => h σ' F H0' H' g' R fun ds s1 vs H1 H1' hp g1 e1 r1 => q ds s1 vs H1 H1' ⟨hp.1, fun p i' hn st po H2 H2' g2 e2 => ?_⟩ g1 e1 r1
  refine ⟨.ref p, .int z, rfl, ?_⟩
  refine (hp.2 p i' hn st po) _ _ _ ((g2.to.setSl i (v := .ref p) (x := .dat (.ref p)) (.ref p)).setSl j (v := .int z) (x := .dat (.int z)) (.int z)) D ?_
  rw [List.length_set, List.length_set]
  exact EOk.outR (e.on e2)
end
end DL
/-! DNh: kinds that are put together (class Joints) as a ground; dicts of ints -/
namespace DL
open PySem PySem.Spec PyProof.Rows L2
/-! ### a dict of ints -/
def diV (st : DI) : List (Key × V) := st.map fun e => (.inl e.1, .int e.2)
theorem diV_at {k : Int} : ∀ {st : DI}, valV (diV st) (.inl k) = (diAt st k).map V.int
  | [] => rfl
  | e :: st => by
    have ih := diV_at (k := k) (st := st)
    unfold valV diAt diV at ih ⊢
    rw [List.map_cons, List.find?_cons, List.find?_cons]
    by_cases h : e.1 = k
    · rw [decide_eq_true h, decide_eq_true (show ((Sum.inl e.1 : Key)) = .inl k by rw [h])]
      rfl
    · rw [decide_eq_false h, decide_eq_false (show ¬ ((Sum.inl e.1 : Key)) = .inl k from fun z => h (Sum.inl.inj z))]
      exact ih
abbrev diRes (K : PySem.W.Frag) : Res where
  S := DI
  R := fun p st H0 H => H p = some (.dK (diV st))
  B := fun p a => a = p
  stab := fun p st H0 H H0' H' h e k => k _ _ rfl h
  there := fun p st H0 H a h e z => by
    subst e
    rw [z] at h
    cases h
section
variable {c : Ct} {G : List Sl} {s : c.S} {p : Addr} {to : c.S → DI} {put : c.S → DI → c.S}
/-- k not in d -/
theorem we_dinin {ty td : TE} {P : Sl → c.S → Prop} (hc : CtR c (diRes c.K) p to put) (h : WE c ty G s (FZ fun k s1 => ∃ n : Int, k = .int n ∧ WE c td G s1 (FZ fun y s2 => y = .ref p ∧ P (.dat (.bl (!(diAt (to s2) n).isSome))) s2))) : WE c (tDNotIn ty td) G s P := fun σ F H0 H g Q q =>
  h.use g fun k s1 v H1 H1' hp g1 e1 r1 => by
    obtain ⟨n, rfl, hp⟩ := hp
    cases r1
    refine hp.use g1 fun y s2 w H2 H2' hp g2 e2 r2 => ?_
    obtain ⟨rfl, hp⟩ := hp
    cases r2
    have hk := hc.R _ _ _ g2.gd.rs
    refine ⟨p, _, rfl, DGet.k (k := .inl n) hk, ?_⟩
    rw [diV_at, Option.isSome_map]
    exact q _ s2 _ H2 H2' hp g2 (e1.trans e2) (.bl _)
/-- d[k] -/
theorem we_diget {ty td : TE} {P : Sl → c.S → Prop} (hc : CtR c (diRes c.K) p to put) (h : WE c td G s (FZ fun y s1 => y = .ref p ∧ WE c ty G s1 (FZ fun k s2 => ∃ n m : Int, k = .int n ∧ diAt (to s2) n = some m ∧ P (.dat (.int m)) s2))) : WE c (tDGet td ty) G s P := fun σ F H0 H g Q q =>
  h.use g fun y s1 v H1 H1' hp g1 e1 r1 => by
    obtain ⟨rfl, hp⟩ := hp
    cases r1
    refine hp.use g1 fun k s2 w H2 H2' hp g2 e2 r2 => ?_
    obtain ⟨n, m, rfl, hn, hp⟩ := hp
    cases r2
    have hk := hc.R _ _ _ g2.gd.rs
    refine ⟨p, .int m, rfl, ?_, q _ s2 _ H2 H2' hp g2 (e1.trans e2) (.int _)⟩
    have := DGet.k (k := .inl n) (show H2' p = some (.dK (diV (to s2))) from hk)
    rw [diV_at, hn] at this
    exact this
end
/-! ### the object -/
structure JCls (K : PySem.W.Frag) (C : Addr) : Prop where
  cls : Cls K C
  nt : NoAttr K C "triples"
  ns : NoAttr K C "spots"
  nl : NoAttr K C "lowered"
  nj : NoAttr K C "joined"
abbrev J4 := Addr × Addr × Addr × Addr
structure JFld (a : J4) (fs : List (Str × V)) : Prop where
  t : fs.lookup ("triples" : Str) = some (.ref a.1)
  s : fs.lookup ("spots" : Str) = some (.ref a.2.1)
  l : fs.lookup ("lowered" : Str) = some (.ref a.2.2.1)
  j : fs.lookup ("joined" : Str) = some (.ref a.2.2.2)
  no : ∀ m : Str, m ≠ "triples" → m ≠ "spots" → m ≠ "lowered" → m ≠ "joined" → fs.lookup m = none
structure JDis (a : J4) : Prop where
  ts : a.1 ≠ a.2.1
  tl : a.1 ≠ a.2.2.1
  tj : a.1 ≠ a.2.2.2
  sl : a.2.1 ≠ a.2.2.1
  sj : a.2.1 ≠ a.2.2.2
  lj : a.2.2.1 ≠ a.2.2.2
def joiR (Pg : Program) (w : World) (K : PySem.W.Frag) (C : Addr) (a : J4) (p : Addr) (st : JSt) (H0 H : Hp) : Prop :=
  JDis a ∧ (∃ dx fs, H0 p = some (.ins C dx fs) ∧ JFld a fs) ∧ (lsRes K).R a.1 st.1.1 H0 H ∧ (ndRes Pg w K).R a.2.1 st.1.2 H0 H ∧ (diRes K).R a.2.2.1 st.2.1 H0 H ∧ (dtRes K).R a.2.2.2 st.2.2 H0 H
abbrev joiRes (Pg : Program) (w : World) (K : PySem.W.Frag) (C : Addr) (a : J4) : Res where
  S := JSt
  R := joiR Pg w K C a
  B := fun _ b => b = a.1 ∨ b = a.2.1 ∨ b = a.2.2.1 ∨ b = a.2.2.2
  stab := fun p st H0 H H0' H' h e k => by
    obtain ⟨h1, ⟨dx, fs, h2, h3⟩, h4, h5, h6, h7⟩ := h
    exact ⟨h1, ⟨dx, fs, e _ _ h2, h3⟩, (lsRes K).stab _ _ _ _ _ _ h4 e fun b o hb => k b o (.inl hb), (ndRes Pg w K).stab _ _ _ _ _ _ h5 e fun b o hb => k b o (.inr (.inl hb)), (diRes K).stab _ _ _ _ _ _ h6 e fun b o hb => k b o (.inr (.inr (.inl hb))), (dtRes K).stab _ _ _ _ _ _ h7 e fun b o hb => k b o (.inr (.inr (.inr hb)))⟩
  there := fun p st H0 H b h hb => by
    obtain ⟨_, _, h4, h5, h6, h7⟩ := h
    rcases hb with hb | hb | hb | hb
    · exact (lsRes K).there _ _ _ _ b h4 hb
    · exact (ndRes Pg w K).there _ _ _ _ b h5 hb
    · exact (diRes K).there _ st.2.1 H0 H b h6 hb
    · exact (dtRes K).there _ _ _ _ b h7 hb
section
variable {Pg : Program} {w : World} {K : PySem.W.Frag} {C p : Addr} {a : J4}
theorem subJl : Sub (joiRes Pg w K C a) (diRes K) p a.2.2.1 (fun s => s.2.1) (fun s t => (s.1, (t, s.2.2))) where
  B := fun b h => .inr (.inr (.inl h))
  R := fun s H0 H h => h.2.2.2.2.1
  W := fun s t H0 H H0' H' h st => by
    obtain ⟨h1, ⟨dx, fs, h2, h3⟩, h4, h5, h6, h7⟩ := h
    exact ⟨h1, ⟨dx, fs, st.ex _ _ h2, h3⟩, (lsRes K).stab _ _ _ _ _ _ h4 st.ex fun b o hb ho => st.fr b o ho fun z => h1.tl (hb.symm.trans z), (ndRes Pg w K).stab _ _ _ _ _ _ h5 st.ex fun b o hb ho => st.fr b o ho fun z => h1.sl (hb.symm.trans z), st.rs, (dtRes K).stab _ _ _ _ _ _ h7 st.ex fun b o hb ho => st.fr b o ho fun z => h1.lj (z.symm.trans hb)⟩
theorem subJj : Sub (joiRes Pg w K C a) (dtRes K) p a.2.2.2 (fun s => s.2.2) (fun s t => (s.1, (s.2.1, t))) where
  B := fun b h => .inr (.inr (.inr h))
  R := fun s H0 H h => h.2.2.2.2.2
  W := fun s t H0 H H0' H' h st => by
    obtain ⟨h1, ⟨dx, fs, h2, h3⟩, h4, h5, h6, h7⟩ := h
    exact ⟨h1, ⟨dx, fs, st.ex _ _ h2, h3⟩, (lsRes K).stab _ _ _ _ _ _ h4 st.ex fun b o hb ho => st.fr b o ho fun z => h1.tj (hb.symm.trans z), (ndRes Pg w K).stab _ _ _ _ _ _ h5 st.ex fun b o hb ho => st.fr b o ho fun z => h1.sj (hb.symm.trans z), st.fr _ _ h6 fun z => h1.lj z, st.rs⟩
end
abbrev JSpec := Addr → List D → JSt → (Sl → JSt → Prop) → (Addr → D → JSt → Prop) → Prop
/-- a method of Joints -/
def JSp (Pg : Program) (w : World) (K : PySem.W.Frag) (C : Addr) (f : JSpec) : Sp := fun vs H Q E => ∃ a : J4, ResSp K (joiRes Pg w K C a) f vs H Q E
section
variable {Pg : Program} {w : World} {c : Ct} {G : List Sl} {s : c.S} {P : Sl → c.S → Prop} {C p : Addr} {a : J4} {to : c.S → JSt} {put : c.S → JSt → c.S}
/-- joints.m(..) -/
theorem we_methJ {f : JSpec} {m : Str} {ta : TE} {t : TA} {E : XK} (hc : CtR c (joiRes Pg w c.K C a) p to put) (h1 : m ≠ "triples") (h2 : m ≠ "spots") (h3 : m ≠ "lowered") (h4 : m ≠ "joined")
    (h : WE c ta G s (FZ fun x s1 => x = .ref p ∧ WA c t G s1 fun ds s2 => f p ds (to s2) (fun x s3 => P x (put s2 s3)) (fun _ _ _ => False))) : WE c (tMeth C m (JSp Pg w c.K C f) [] E ta t) G s P := fun σ F H0 H g Q q =>
  h.use g fun x s1 v H1 H1' hp g1 e1 r1 => by
    obtain ⟨rfl, hp⟩ := hp
    cases r1
    obtain ⟨_, ⟨dx, fs, hd, hf⟩, _⟩ := hc.R _ _ _ g1.gd.rs
    refine ⟨p, dx, fs, rfl, g1.gd.sub _ _ hd, hf.no m h1 h2 h3 h4, hp σ F H1 H1' g1 _ fun ds s2 vs H2 H2' hf g2 e2 r2 => ?_⟩
    rw [List.append_nil]
    exact ⟨a, res_call hc (.inl fun _ _ _ z => z) hf g2 r2 fun x s' v H3 H3' a b e d => q x s' v H3 H3' a b ((e1.trans e2).trans e) d⟩
/-- its attributes -/
theorem we_fldJt {ta : TE} (hc : CtR c (joiRes Pg w c.K C a) p to put) (kc : JCls c.K C) (h : WE c ta G s (FZ fun x s1 => x = .ref p ∧ P (.dat (.ref a.1)) s1)) : WE c (tFld c.K ta "triples") G s P := fun σ F H0 H g Q q =>
  h.use g fun x s1 v H1 H1' hp g1 e1 r1 => by
    obtain ⟨rfl, hp⟩ := hp
    cases r1
    obtain ⟨_, ⟨dx, fs, hd, hf⟩, _⟩ := hc.R _ _ _ g1.gd.rs
    exact ⟨p, C, dx, fs, .ref _, rfl, g1.gd.sub _ _ hd, kc.cls, kc.nt, hf.t, q _ s1 _ H1 H1' hp g1 e1 (.ref _)⟩
theorem we_fldJs {ta : TE} (hc : CtR c (joiRes Pg w c.K C a) p to put) (kc : JCls c.K C) (h : WE c ta G s (FZ fun x s1 => x = .ref p ∧ P (.dat (.ref a.2.1)) s1)) : WE c (tFld c.K ta "spots") G s P := fun σ F H0 H g Q q =>
  h.use g fun x s1 v H1 H1' hp g1 e1 r1 => by
    obtain ⟨rfl, hp⟩ := hp
    cases r1
    obtain ⟨_, ⟨dx, fs, hd, hf⟩, _⟩ := hc.R _ _ _ g1.gd.rs
    exact ⟨p, C, dx, fs, .ref _, rfl, g1.gd.sub _ _ hd, kc.cls, kc.ns, hf.s, q _ s1 _ H1 H1' hp g1 e1 (.ref _)⟩
theorem we_fldJl {ta : TE} (hc : CtR c (joiRes Pg w c.K C a) p to put) (kc : JCls c.K C) (h : WE c ta G s (FZ fun x s1 => x = .ref p ∧ P (.dat (.ref a.2.2.1)) s1)) : WE c (tFld c.K ta "lowered") G s P := fun σ F H0 H g Q q =>
  h.use g fun x s1 v H1 H1' hp g1 e1 r1 => by
    obtain ⟨rfl, hp⟩ := hp
    cases r1
    obtain ⟨_, ⟨dx, fs, hd, hf⟩, _⟩ := hc.R _ _ _ g1.gd.rs
    exact ⟨p, C, dx, fs, .ref _, rfl, g1.gd.sub _ _ hd, kc.cls, kc.nl, hf.l, q _ s1 _ H1 H1' hp g1 e1 (.ref _)⟩
theorem we_fldJj {ta : TE} (hc : CtR c (joiRes Pg w c.K C a) p to put) (kc : JCls c.K C) (h : WE c ta G s (FZ fun x s1 => x = .ref p ∧ P (.dat (.ref a.2.2.2)) s1)) : WE c (tFld c.K ta "joined") G s P := fun σ F H0 H g Q q =>
  h.use g fun x s1 v H1 H1' hp g1 e1 r1 => by
    obtain ⟨rfl, hp⟩ := hp
    cases r1
    obtain ⟨_, ⟨dx, fs, hd, hf⟩, _⟩ := hc.R _ _ _ g1.gd.rs
    exact ⟨p, C, dx, fs, .ref _, rfl, g1.gd.sub _ _ hd, kc.cls, kc.nj, hf.j, q _ s1 _ H1 H1' hp g1 e1 (.ref _)⟩
end
theorem jc0 {Pg : Program} {w : World} {K : PySem.W.Frag} {C p : Addr} {a : J4} {H0 H : Hp} {E : XK} {XP : Addr → D → JSt → Prop} {okX} : CtR (resCt K (joiRes Pg w K C a) p H0 H E XP okX) (joiRes Pg w K C a) p (fun s => s) (fun _ t => t) := resC
end DL
/-! DNi: kinds that are put together: what the methods promise (no program in sight) -/
namespace DL
open PySem PySem.Spec PyProof.Rows L2
/-- all parts of the row may be asked for -/
structure Cov (u : JU) (d : Nat) (l : LRow) : Prop where
  len : l.length ≤ 50000
  one : ∀ (x : LRow) (e : Nat), x <:+: l → e + 1 ≤ d → ∃ x', Alike (e + 1) x x' ∧ (x', e + 1) ∈ u.U
  two : ∀ (x y : LRow) (e : Nat), x ++ y <:+: l → e + 1 ≤ d → ∃ x' y', Alike (e + 1) x x' ∧ Alike (e + 1) y y' ∧ (x', y', e + 1) ∈ u.W
theorem Cov.less {u : JU} {d e : Nat} {l : LRow} (h : Cov u d l) (k : e ≤ d) : Cov u e l := ⟨h.len, fun x f hx hf => h.one x f hx (Nat.le_trans hf k), fun x y f hx hf => h.two x y f hx (Nat.le_trans hf k)⟩
theorem Cov.sub {u : JU} {d : Nat} {l m : LRow} (h : Cov u d l) (k : m <:+: l) : Cov u d m := ⟨Nat.le_trans k.length_le h.len, fun x f hx hf => h.one x f (hx.trans k) hf, fun x y f hx hf => h.two x y f (hx.trans k) hf⟩
theorem Cov.nil {u : JU} {d : Nat} {l : LRow} (h : Cov u d l) : Cov u d [] := h.sub (List.nil_infix)
theorem Cov.take {u : JU} {d : Nat} {l : LRow} (h : Cov u d l) (i : Nat) : Cov u d (l.take i) := h.sub (List.take_prefix i l).isInfix
theorem Cov.drop {u : JU} {d : Nat} {l : LRow} (h : Cov u d l) (i : Nat) : Cov u d (l.drop i) := h.sub (List.drop_suffix i l).isInfix
theorem JTr.alike {t : JTab} (hn : t.Nodup) {d : Nat} {l m : LRow} {T : List M3} (h1 : JTr (JK t d) l T) (k : Alike (d + 1) l m) : JTr (JK t d) m T :=
  ⟨fun j a hj => by
    obtain ⟨i, hi, a1, a2⟩ := k.2 j a hj
    obtain ⟨x, y, q1, q2, q3⟩ := h1.1 i a hi
    exact ⟨x, y, q1, JK.alike hn q2 a1.symm, JK.alike hn q3 a2.symm⟩, fun q hq => by
    obtain ⟨i, a, hi, e, q2, q3⟩ := h1.2 q hq
    obtain ⟨j, hj, a1, a2⟩ := k.1 i a hi
    exact ⟨j, a, hj, e, JK.alike hn q2 a1, JK.alike hn q3 a2⟩⟩
/-- the triples are no more than the places -/
theorem JTr.len {t : JTab} (hn : t.Nodup) {d : Nat} {l : LRow} {T : List M3} (h : JTr (JK t d) l T) (nd : T.Nodup) : T.length ≤ l.length := by
  have := inj_len (F := fun (m : M3) (i : Nat) => ∃ a : Nat, l[i]? = some a ∧ m.2.1 = rowS [a] ∧ JK t d (l.take i) m.1 ∧ JK t d (l.drop (i + 1)) m.2.2) (l := T) (m := List.range l.length) nd (fun m hm => by
    obtain ⟨i, a, h1, h2, h3, h4⟩ := h.2 m hm
    exact ⟨i, List.mem_range.mpr (List.getElem?_eq_some_iff.mp h1).1, a, h1, h2, h3, h4⟩) fun m m' i _ _ ⟨a, h1, h2, h3, h4⟩ ⟨b, g1, g2, g3, g4⟩ => by
    rw [h1] at g1
    cases g1
    obtain ⟨m0, m1, m2⟩ := m
    obtain ⟨n0, n1, n2⟩ := m'
    simp only at h2 h3 h4 g2 g3 g4
    rw [h2, g2, h3.one hn g3, h4.one hn g4]
  rw [List.length_range] at this
  exact this
/-- places of two rows, one behind the other -/
theorem JTr.app {f : LRow → Int → Prop} {l m : LRow} {A B : List M3}
    (hA : (∀ i a : Nat, l[i]? = some a → ∃ x y, ((x, rowS [a], y) : M3) ∈ A ∧ f (l.take i) x ∧ f (l.drop (i + 1) ++ m) y) ∧ ∀ q ∈ A, ∃ i a : Nat, l[i]? = some a ∧ q.2.1 = rowS [a] ∧ f (l.take i) q.1 ∧ f (l.drop (i + 1) ++ m) q.2.2)
    (hB : (∀ i a : Nat, m[i]? = some a → ∃ x y, ((x, rowS [a], y) : M3) ∈ B ∧ f (l ++ m.take i) x ∧ f (m.drop (i + 1)) y) ∧ ∀ q ∈ B, ∃ i a : Nat, m[i]? = some a ∧ q.2.1 = rowS [a] ∧ f (l ++ m.take i) q.1 ∧ f (m.drop (i + 1)) q.2.2) : JTr f (l ++ m) (A ++ B) := by
  have t1 : ∀ i, i < l.length → (l ++ m).take i = l.take i ∧ (l ++ m).drop (i + 1) = l.drop (i + 1) ++ m := fun i hi => by
    rw [List.take_append, List.drop_append, show i - l.length = 0 by omega, show i + 1 - l.length = 0 by omega]
    simp
  have t2 : ∀ i, (l ++ m).take (l.length + i) = l ++ m.take i ∧ (l ++ m).drop (l.length + i + 1) = m.drop (i + 1) := fun i => by
    rw [List.take_append, List.drop_append, show l.length + i - l.length = i by omega, show l.length + i + 1 - l.length = i + 1 by omega, List.take_of_length_le (by omega), List.drop_of_length_le (by omega)]
    simp
  refine ⟨fun i a ha => ?_, fun q hq => ?_⟩
  · by_cases hi : i < l.length
    · rw [List.getElem?_append_left hi] at ha
      obtain ⟨x, y, h1, h2, h3⟩ := hA.1 i a ha
      exact ⟨x, y, List.mem_append_left _ h1, by rw [(t1 i hi).1]; exact h2, by rw [(t1 i hi).2]; exact h3⟩
    · rw [List.getElem?_append_right (by omega)] at ha
      obtain ⟨x, y, h1, h2, h3⟩ := hB.1 _ a ha
      have e : l.length + (i - l.length) = i := by omega
      have := t2 (i - l.length)
      rw [e] at this
      exact ⟨x, y, List.mem_append_right _ h1, by rw [this.1]; exact h2, by rw [this.2]; exact h3⟩
  · rcases List.mem_append.mp hq with hq | hq
    · obtain ⟨i, a, h1, h2, h3, h4⟩ := hA.2 q hq
      have hi := (List.getElem?_eq_some_iff.mp h1).1
      exact ⟨i, a, by rw [List.getElem?_append_left hi]; exact h1, h2, by rw [(t1 i hi).1]; exact h3, by rw [(t1 i hi).2]; exact h4⟩
    · obtain ⟨i, a, h1, h2, h3, h4⟩ := hB.2 q hq
      exact ⟨l.length + i, a, by rw [List.getElem?_append_right (by omega), show l.length + i - l.length = i by omega]; exact h1, h2, by rw [(t2 i).1]; exact h3, by rw [(t2 i).2]; exact h4⟩
/-! ### what the methods promise -/
end DL
/-! DNj: new objects, how __init__ ends; where repeats settle -/
namespace DL
open PySem PySem.Spec PyProof.Rows L2
/-! ### all parts of one row -/
def allJ (l : LRow) (d : Nat) : JU where
  U := (List.range (l.length + 1)).flatMap fun i => (List.range (l.length + 1)).flatMap fun j => (List.range d).map fun e => ((l.drop i).take j, e + 1)
  W := (List.range (l.length + 1)).flatMap fun i => (List.range (l.length + 1)).flatMap fun j => (List.range (l.length + 1)).flatMap fun k => (List.range d).map fun e => ((l.drop i).take j, (l.drop (i + j)).take k, e + 1)
theorem flatMap_len2 {α β : Type} {f : α → List β} {n : Nat} : ∀ {l : List α}, (∀ x ∈ l, (f x).length = n) → (l.flatMap f).length = l.length * n
  | [], _ => by simp
  | a :: l, h => by
    rw [List.flatMap_cons, List.length_append, h a (List.mem_cons_self ..), flatMap_len2 fun x hx => h x (List.mem_cons_of_mem _ hx), List.length_cons, Nat.succ_mul, Nat.add_comm]
theorem allJ_len {l : LRow} {d : Nat} : (allJ l d).U.length = (l.length + 1) * ((l.length + 1) * d) ∧ (allJ l d).W.length = (l.length + 1) * ((l.length + 1) * ((l.length + 1) * d)) := by
  constructor
  · show (List.flatMap _ _).length = _
    rw [flatMap_len2 (n := (l.length + 1) * d) fun i _ => by
      rw [flatMap_len2 (n := d) fun j _ => by rw [List.length_map, List.length_range]]
      rw [List.length_range], List.length_range]
  · show (List.flatMap _ _).length = _
    rw [flatMap_len2 (n := (l.length + 1) * ((l.length + 1) * d)) fun i _ => by
      rw [flatMap_len2 (n := (l.length + 1) * d) fun j _ => by
        rw [flatMap_len2 (n := d) fun k _ => by rw [List.length_map, List.length_range]]
        rw [List.length_range]]
      rw [List.length_range], List.length_range]
theorem infix_at {x l : LRow} (h : x <:+: l) : ∃ i, i ≤ l.length ∧ x = (l.drop i).take x.length := by
  obtain ⟨p, q, rfl⟩ := h
  refine ⟨p.length, by rw [List.length_append, List.length_append]; omega, ?_⟩
  rw [List.append_assoc, List.drop_left, List.take_left]
theorem allJ_cov {l : LRow} {d : Nat} (hl : l.length ≤ 50000) : Cov (allJ l d) d l := by
  refine ⟨hl, fun x e hx he => ⟨x, Alike.refl _ _, ?_⟩, fun x y e hx he => ⟨x, y, Alike.refl _ _, Alike.refl _ _, ?_⟩⟩
  · obtain ⟨i, hi, ex⟩ := infix_at hx
    have hxl := hx.length_le
    refine List.mem_flatMap.mpr ⟨i, List.mem_range.mpr (by omega), List.mem_flatMap.mpr ⟨x.length, List.mem_range.mpr (by omega), List.mem_map.mpr ⟨e, List.mem_range.mpr (by omega), ?_⟩⟩⟩
    rw [← ex]
  · obtain ⟨i, hi, ex⟩ := infix_at hx
    have hxl := hx.length_le
    rw [List.length_append] at hxl
    have e1 : (l.drop i).take x.length = x := by
      have := congrArg (List.take x.length) ex
      rw [List.take_left, List.take_take, List.length_append, Nat.min_eq_left (by omega)] at this
      exact this.symm
    have e2 : (l.drop (i + x.length)).take y.length = y := by
      have := congrArg (List.drop x.length) ex
      rw [List.drop_left, List.drop_take, List.drop_drop, List.length_append, show x.length + y.length - x.length = y.length by omega] at this
      exact this.symm
    refine List.mem_flatMap.mpr ⟨i, List.mem_range.mpr (by omega), List.mem_flatMap.mpr ⟨x.length, List.mem_range.mpr (by omega), List.mem_flatMap.mpr ⟨y.length, List.mem_range.mpr (by omega), List.mem_map.mpr ⟨e, List.mem_range.mpr (by omega), ?_⟩⟩⟩⟩
    rw [e1, e2]
/-! ### where repeats settle -/
/-- k is the least number of times from which on one more makes no difference -/
def Settles (d : Nat) (l : LRow) (k : Nat) : Prop := Alike d (rep l k) (rep l (k + 1)) ∧ ∀ j, j < k → ¬ Alike d (rep l j) (rep l (j + 1))
theorem Settles.one {d : Nat} {l : LRow} {j k : Nat} (h : Settles d l j) (h' : Settles d l k) : j = k := by
  rcases Nat.lt_trichotomy j k with z | z | z
  · exact absurd h.1 (h'.2 j z)
  · exact z
  · exact absurd h'.1 (h.2 k z)
theorem least_nat {p : Nat → Prop} : ∀ {n : Nat}, p n → ∃ k, k ≤ n ∧ p k ∧ ∀ j, j < k → ¬ p j := fun {n} h => by
  classical
  induction n using Nat.strongRecOn with
  | _ n ih =>
    by_cases z : ∃ j, j < n ∧ p j
    · obtain ⟨j, hj, pj⟩ := z
      obtain ⟨k, h1, h2, h3⟩ := ih j hj pj
      exact ⟨k, by omega, h2, h3⟩
    · exact ⟨n, Nat.le_refl _, h, fun j hj pj => z ⟨j, hj, pj⟩⟩
theorem Settles.some (d : Nat) (l : LRow) : ∃ k, Settles d l k ∧ k ≤ 2 ^ d - 1 := by
  obtain ⟨k, h1, h2, h3⟩ := least_nat (p := fun k => Alike d (rep l k) (rep l (k + 1))) (n := 2 ^ d - 1) (alike_rep l (.inr ⟨Nat.le_refl _, by omega⟩))
  exact ⟨k, ⟨h2, h3⟩, h1⟩
theorem rep_snoc (l : LRow) (n : Nat) : rep l n ++ l = rep l (n + 1) := by
  unfold rep
  rw [List.replicate_succ', List.flatten_append]
  simp
noncomputable def settle (d : Nat) (l : LRow) : Nat := Classical.choose (Settles.some d l)
abbrev settledS : FSpec := fun ds P _ => ∃ (l : LRow) (d : Nat), ds = [.str (rowS l), .int ((d : Nat) : Int)] ∧ Letters l ∧ l.length * 2 ^ d ≤ 48 ∧ d ≤ 3 ∧ P (.dat (.int ((settle d l : Nat) : Int)))
theorem db_reprN2 {c : Ct} {G : List Sl} {s : c.S} {P : Sl → c.S → Prop} {a b : Nat} (h1 : a ≤ 1000000) (h2 : b ≤ 1000000) (k : P (.dat (.str (D.lst [.int ((a : Nat) : Int), .int ((b : Nat) : Int)]).py.shown)) s) : DCB c (rRepr c.K) [.lst [.int ((a : Nat) : Int), .int ((b : Nat) : Int)]] G s P :=
  db_reprF (Fine.lst (.cons (Fine.int64 (by omega)) (.cons (Fine.int64 (by omega)) .nil))) (by decide) (by decide) k
theorem u_settledN {l : LRow} {d : Nat} {P : Sl → Prop} {XP : Addr → D → Prop} (h : Letters l) (hz : d ≤ 3) (hl : l.length * 2 ^ d ≤ 48) (k : P (.dat (.int ((settle d l : Nat) : Int)))) : settledS [.str (rowS l), .int ((d : Nat) : Int)] P XP :=
  ⟨l, d, rfl, h, hl, hz, k⟩
theorem dop_pow2 {c : Ct} {G : List Sl} {s : c.S} {P : Sl → c.S → Prop} {j : Int} (h0 : 0 ≤ j) (h1 : j ≤ 1000) (k : P (.dat (.int ((2 ^ j.toNat : Nat) : Int))) s) : DOp c (rI CPw fun i j => .int (i ^ j.toNat)) (.int 2) (.int j) G s P := by
  have e : (2 : Int) ^ j.toNat = ((2 ^ j.toNat : Nat) : Int) := (Int.natCast_pow 2 _).symm
  refine dop_I (f := fun i j => .int (i ^ j.toNat)) ?_ (fun _ _ => .int _) (by rw [e]; exact k)
  have := cpw (i := 2) (j := j.toNat) (k := 2) (by decide) (by omega)
  rwa [Int.toNat_of_nonneg h0] at this
end DL
/-! DNk: far rows (lists of blocks) -/
namespace DL
open PySem PySem.Spec PyProof.Rows L2
mutual
/-- a row, or a list of blocks -/
inductive Part
  | row (l : LRow) : Part
  | blk (b : Blk) : Part
inductive Blk
  | nil : Blk
  | cons (p : Part) (n : Nat) (b : Blk) : Blk
end
mutual
def Part.D : Part → DL.D
  | .row l => .str (rowS l)
  | .blk b => .lst b.Ds
def Blk.Ds : Blk → List DL.D
  | .nil => []
  | .cons p n b => .tup [p.D, .int ((n : Nat) : Int)] :: b.Ds
end
mutual
/-- written out -/
def Part.out : Part → LRow
  | .row l => l
  | .blk b => b.out
def Blk.out : Blk → LRow
  | .nil => []
  | .cons p n b => rep p.out n ++ b.out
end
mutual
/-- written out, times cut -/
def Part.cut (d : Nat) : Part → LRow
  | .row l => l
  | .blk b => b.cut d
def Blk.cut (d : Nat) : Blk → LRow
  | .nil => []
  | .cons p n b => rep (p.cut d) (min n (2 ^ d - 1)) ++ b.cut d
end
mutual
def Part.dep : Part → Nat
  | .row _ => 0
  | .blk b => b.dep
def Blk.dep : Blk → Nat
  | .nil => 1
  | .cons p _ b => max (1 + p.dep) b.dep
end
def Blk.list : Blk → List (Part × Nat)
  | .nil => []
  | .cons p n b => (p, n) :: b.list
def Part.isBlk : Part → Bool
  | .row _ => false
  | .blk _ => true
mutual
def Part.Ok : Part → Prop
  | .row l => l.length ≤ 1000
  | .blk b => b.list.length ≤ 1000 ∧ b.Ok
def Blk.Ok : Blk → Prop
  | .nil => True
  | .cons p _ b => p.Ok ∧ b.Ok
end
mutual
/-- all parts may be asked for -/
def Part.Cov (u : JU) (d : Nat) : Part → Prop
  | .row l => DL.Cov u d l
  | .blk b => DL.Cov u d (b.cut d) ∧ b.Cov u d
def Blk.Cov (u : JU) (d : Nat) : Blk → Prop
  | .nil => True
  | .cons p _ b => p.Cov u d ∧ b.Cov u d
end
theorem Alike.reps {d : Nat} {l m : LRow} (h : Alike d l m) : ∀ n, Alike d (rep l n) (rep m n)
  | 0 => Alike.refl _ _
  | n + 1 => by
    rw [← rep_snoc, ← rep_snoc]
    exact Alike.app (Alike.reps h n) h
theorem enough_min (d n : Nat) : Enough d n (min n (2 ^ d - 1)) := by
  rcases Nat.le_total n (2 ^ d - 1) with h | h
  · exact .inl (by omega)
  · exact .inr ⟨h, by omega⟩
mutual
/-- times cut make no difference -/
theorem Part.alike_cut (d : Nat) : ∀ (p : Part), Alike d p.out (p.cut d)
  | .row _ => Alike.refl _ _
  | .blk b => Blk.alike_cut d b
theorem Blk.alike_cut (d : Nat) : ∀ (b : Blk), Alike d b.out (b.cut d)
  | .nil => Alike.refl _ _
  | .cons p n b => Alike.app ((alike_rep p.out (enough_min d n)).trans (Alike.reps (Part.alike_cut d p) _)) (Blk.alike_cut d b)
end
/-! ### what may be asked for, of two -/
def JU.app (u v : JU) : JU := ⟨u.U ++ v.U, u.W ++ v.W⟩
theorem Cov.inl {u v : JU} {d : Nat} {l : LRow} (h : Cov u d l) : Cov (u.app v) d l := ⟨h.len, fun x e h1 h2 => by
  obtain ⟨x', a, b⟩ := h.one x e h1 h2
  exact ⟨x', a, List.mem_append_left _ b⟩, fun x y e h1 h2 => by
  obtain ⟨x', y', a, b, c⟩ := h.two x y e h1 h2
  exact ⟨x', y', a, b, List.mem_append_left _ c⟩⟩
theorem Cov.inr {u v : JU} {d : Nat} {l : LRow} (h : Cov v d l) : Cov (u.app v) d l := ⟨h.len, fun x e h1 h2 => by
  obtain ⟨x', a, b⟩ := h.one x e h1 h2
  exact ⟨x', a, List.mem_append_right _ b⟩, fun x y e h1 h2 => by
  obtain ⟨x', y', a, b, c⟩ := h.two x y e h1 h2
  exact ⟨x', y', a, b, List.mem_append_right _ c⟩⟩
mutual
theorem Part.Cov.to {u v : JU} {d : Nat} (h : ∀ l, DL.Cov u d l → DL.Cov v d l) : ∀ {p : Part}, p.Cov u d → p.Cov v d
  | .row l, k => h l k
  | .blk b, k => ⟨h _ k.1, Blk.Cov.to h k.2⟩
theorem Blk.Cov.to {u v : JU} {d : Nat} (h : ∀ l, DL.Cov u d l → DL.Cov v d l) : ∀ {b : Blk}, b.Cov u d → b.Cov v d
  | .nil, _ => trivial
  | .cons p n b, k => ⟨Part.Cov.to h k.1, Blk.Cov.to h k.2⟩
end
mutual
/-- all rows that are looked at -/
def Part.rows (d : Nat) : Part → List LRow
  | .row l => [l]
  | .blk b => b.cut d :: b.rows d
def Blk.rows (d : Nat) : Blk → List LRow
  | .nil => []
  | .cons p _ b => p.rows d ++ b.rows d
end
def allsJ (d : Nat) : List LRow → JU
  | [] => ⟨[], []⟩
  | l :: ls => (allJ l d).app (allsJ d ls)
theorem allsJ_cov {d : Nat} {l : LRow} : ∀ {ls : List LRow}, l ∈ ls → (∀ x ∈ ls, x.length ≤ 50000) → Cov (allsJ d ls) d l
  | [], h, _ => nomatch h
  | m :: ls, h, k => by
    rcases List.mem_cons.mp h with rfl | h
    · exact (allJ_cov (k _ (List.mem_cons_self ..))).inl
    · exact (allsJ_cov h fun x hx => k x (List.mem_cons_of_mem _ hx)).inr
def sizeJ (d : Nat) (ls : List LRow) : Nat := (ls.map fun l => (l.length + 1) * ((l.length + 1) * ((l.length + 1) * d))).sum
theorem allsJ_len {d : Nat} : ∀ (ls : List LRow), (allsJ d ls).W.length = sizeJ d ls ∧ (allsJ d ls).U.length ≤ sizeJ d ls
  | [] => ⟨rfl, Nat.le_refl _⟩
  | l :: ls => by
    obtain ⟨h1, h2⟩ := allsJ_len (d := d) ls
    have e : sizeJ d (l :: ls) = (l.length + 1) * ((l.length + 1) * ((l.length + 1) * d)) + sizeJ d ls := rfl
    constructor
    · show ((allJ l d).W ++ (allsJ d ls).W).length = _
      rw [List.length_append, allJ_len.2, h1, e]
    · show ((allJ l d).U ++ (allsJ d ls).U).length ≤ _
      rw [List.length_append, allJ_len.1, e]
      have : 1 * ((l.length + 1) * ((l.length + 1) * d)) ≤ (l.length + 1) * ((l.length + 1) * ((l.length + 1) * d)) := Nat.mul_le_mul_right _ (by omega)
      omega
/-! ### what the defs promise -/
abbrev isBlkS : FSpec := fun ds P _ => ∃ p : Part, ds = [p.D] ∧ P (.dat (.bl p.isBlk))
def depBS (D : Nat) : FSpec := fun ds P _ => ∃ k, k < D ∧ ∃ b : Blk, ds = [.lst b.Ds] ∧ b.dep = k ∧ b.list.length ≤ 1000 ∧ b.Ok ∧ P (.dat (.int ((b.dep : Nat) : Int)))
def ctS (D : Nat) : FSpec := fun ds P _ => ∃ k, k < D ∧ ∃ b : Blk, ds = [.lst b.Ds] ∧ b.dep = k ∧ b.list.length ≤ 1000 ∧ b.Ok ∧ P (.dat .non)
abbrev cbS : FSpec := fun ds P _ => ∃ b : Blk, ds = [.lst b.Ds] ∧ b.dep ≤ 2 ∧ b.list.length ≤ 1000 ∧ b.Ok ∧ P (.dat .non)
section
variable {u : JU} {t : JTab} {st : JSt} {D d : Nat} {p : Addr} {b c : Blk} {q : Part} {P : Sl → JSt → Prop} {P' : Sl → Prop} {XP : Addr → DL.D → JSt → Prop} {XP' : Addr → DL.D → Prop} {z : Int}
theorem u_isBlk (k : P' (.dat (.bl q.isBlk))) : isBlkS [q.D] P' XP' := ⟨q, rfl, k⟩
theorem u_depB (h1 : b.dep < D) (h2 : b.list.length ≤ 1000) (h3 : b.Ok) (k : P' (.dat (.int ((b.dep : Nat) : Int)))) : depBS D [.lst b.Ds] P' XP' := ⟨_, h1, b, rfl, rfl, h2, h3, k⟩
theorem u_ct (h1 : b.dep < D) (h2 : b.list.length ≤ 1000) (h3 : b.Ok) (k : P' (.dat .non)) : ctS D [.lst b.Ds] P' XP' := ⟨_, h1, b, rfl, rfl, h2, h3, k⟩
theorem u_cb (h1 : b.dep ≤ 2) (h2 : b.list.length ≤ 1000) (h3 : b.Ok) (k : P' (.dat .non)) : cbS [.lst b.Ds] P' XP' := ⟨b, rfl, h1, h2, h3, k⟩
end
def Fit (b c : Blk) (d : Nat) : Prop := ∃ u : JU, u.U.length < 900000 ∧ u.W.length < 900000 ∧ ∀ l ∈ b.cut d :: (b.rows d ++ (c.cut d :: c.rows d)), DL.Cov u d l
theorem Fit.size {b c : Blk} {d : Nat} (hl : ∀ l ∈ b.cut d :: (b.rows d ++ (c.cut d :: c.rows d)), l.length ≤ 50000) (hs : sizeJ d (b.cut d :: (b.rows d ++ (c.cut d :: c.rows d))) < 900000) : Fit b c d :=
  have h := allsJ_len (d := d) (b.cut d :: (b.rows d ++ (c.cut d :: c.rows d)))
  ⟨_, by omega, by omega, fun l hm => allsJ_cov hm hl⟩
end DL
/-! DNl: {text: text}[k]; far rows that fit; where rows settle (plain) -/
namespace DL
open PySem PySem.Spec PyProof.Rows L2
/-- blocks whose rows are short -/
structure Bd (b : Blk) (d m r s : Nat) : Prop where
  cut : (b.cut d).length ≤ m
  num : (b.rows d).length ≤ r
  rows : ∀ l ∈ b.rows d, l.length ≤ s
/-! ### where rows settle -/
theorem dop_pow10 {c : Ct} {G : List Sl} {s : c.S} {P : Sl → c.S → Prop} {j : Int} (h0 : 0 ≤ j) (h1 : j ≤ 1000) (k : P (.dat (.int (10 ^ j.toNat))) s) : DOp c (rI CPw fun i j => .int (i ^ j.toNat)) (.int 10) (.int j) G s P := by
  refine dop_I (f := fun i j => .int (i ^ j.toNat)) ?_ (fun _ _ => .int _) k
  have := cpw (i := 10) (j := j.toNat) (k := 4) (by decide) (by omega)
  rwa [Int.toNat_of_nonneg h0] at this
end DL
/-! DNm: far rows written out to a number of times; what tells a row from a list -/
namespace DL
open PySem PySem.Spec PyProof.Rows L2
mutual
/-- written out, times to c -/
def Part.wr (c : Nat) : Part → LRow
  | .row l => l
  | .blk b => b.wr c
def Blk.wr (c : Nat) : Blk → LRow
  | .nil => []
  | .cons p n b => rep (p.wr c) (min n c) ++ b.wr c
end
mutual
theorem Part.cut_wr (d : Nat) : ∀ (p : Part), p.cut d = p.wr (2 ^ d - 1)
  | .row _ => rfl
  | .blk b => Blk.cut_wr d b
theorem Blk.cut_wr (d : Nat) : ∀ (b : Blk), b.cut d = b.wr (2 ^ d - 1)
  | .nil => rfl
  | .cons p n b => by
    show rep (p.cut d) (min n (2 ^ d - 1)) ++ b.cut d = rep (p.wr (2 ^ d - 1)) (min n (2 ^ d - 1)) ++ b.wr (2 ^ d - 1)
    rw [Part.cut_wr d p, Blk.cut_wr d b]
end
mutual
/-- rows and what is written out are short -/
def Part.Sh (c : Nat) : Part → Prop
  | .row l => l.length ≤ 1000
  | .blk b => (b.wr c).length ≤ 1000 ∧ b.Sh c
def Blk.Sh (c : Nat) : Blk → Prop
  | .nil => True
  | .cons p _ b => p.Sh c ∧ b.Sh c
end
theorem Part.Sh.len {c : Nat} : ∀ {p : Part}, p.Sh c → (p.wr c).length ≤ 1000
  | .row _, h => h
  | .blk _, h => h.1
mutual
/-- letters of A alone -/
def Part.In (A : List Nat) : Part → Prop
  | .row l => ∀ a ∈ l, a ∈ A
  | .blk b => b.In A
def Blk.In (A : List Nat) : Blk → Prop
  | .nil => True
  | .cons p _ b => p.In A ∧ b.In A
end
end DL
/-! DNn: questions to far rows -/
namespace DL
open PySem PySem.Spec PyProof.Rows L2
end DL
/-! DNo: drawn far rows of few short blocks -/
namespace DL
open PySem PySem.Spec PyProof.Rows L2
def Blk.of : List (Part × Nat) → Blk
  | [] => .nil
  | x :: L => .cons x.1 x.2 (Blk.of L)
def Row4 (A : List Nat) (l : LRow) : Prop := l.length ≤ 4 ∧ ∀ a ∈ l, a ∈ A
def Sm1 (A : List Nat) (m : Nat) (L : List (Part × Nat)) : Prop := ∀ x ∈ L, x.2 ≤ m ∧ ∃ l, x.1 = .row l ∧ Row4 A l
def Sm2 (A : List Nat) (m : Nat) (L : List (Part × Nat)) : Prop := ∀ x ∈ L, x.2 ≤ m ∧ ((∃ l, x.1 = .row l ∧ Row4 A l) ∨ ∃ c, x.1 = .blk c ∧ c.list.length ≤ 2 ∧ Sm1 A 2 c.list)
end DL
/-! DNp: drawn far rows are shown; how they fit -/
namespace DL
open PySem PySem.Spec PyProof.Rows L2
end DL
/-! DNq: far rows near one another -/
namespace DL
open PySem PySem.Spec PyProof.Rows L2
theorem Sm2.sub {A : List Nat} {m : Nat} {L M : List (Part × Nat)} (h : Sm2 A m L) (hs : ∀ x ∈ M, x ∈ L) : Sm2 A m M := fun x hx => h x (hs x hx)
theorem Sm2.app {A : List Nat} {m : Nat} {L M : List (Part × Nat)} (h : Sm2 A m L) (k : Sm2 A m M) : Sm2 A m (L ++ M) := fun x hx => (List.mem_append.mp hx).elim (h x) (k x)
mutual
theorem Part.nb : ∀ p : Part, p.D.nb = true
  | .row _ => rfl
  | .blk b => Blk.nbs b
theorem Blk.nbs : ∀ b : Blk, D.nbs b.Ds = true
  | .nil => rfl
  | .cons p n b => by
    show ((p.D.nb && (true && true)) && D.nbs b.Ds) = true
    rw [Part.nb p, Blk.nbs b]
    rfl
end
end DL
/-! DNr: a shorter list of all parts of a row; far rows that fit by it -/
namespace DL
open PySem PySem.Spec PyProof.Rows L2
def preS : LRow → List LRow
  | [] => [[]]
  | a :: l => [] :: (preS l).map (a :: ·)
def pre2 : LRow → List (LRow × LRow)
  | [] => [([], [])]
  | a :: l => (preS (a :: l)).map (fun y => ([], y)) ++ (pre2 l).map fun e => (a :: e.1, e.2)
def inS : LRow → List LRow
  | [] => [[]]
  | a :: l => preS (a :: l) ++ inS l
def in2 : LRow → List (LRow × LRow)
  | [] => [([], [])]
  | a :: l => pre2 (a :: l) ++ in2 l
theorem preS_len : ∀ l : LRow, (preS l).length = l.length + 1
  | [] => rfl
  | a :: l => by
    show ((preS l).map _).length + 1 = _
    rw [List.length_map, preS_len l]
    rfl
def tri : Nat → Nat
  | 0 => 1
  | n + 1 => (n + 2) + tri n
def tet : Nat → Nat
  | 0 => 1
  | n + 1 => tri (n + 1) + tet n
theorem pre2_len : ∀ l : LRow, (pre2 l).length = tri l.length
  | [] => rfl
  | a :: l => by
    show ((preS (a :: l)).map _ ++ (pre2 l).map _).length = _
    rw [List.length_append, List.length_map, List.length_map, preS_len, pre2_len l]
    rfl
theorem inS_len : ∀ l : LRow, (inS l).length = tri l.length
  | [] => rfl
  | a :: l => by
    show (preS (a :: l) ++ inS l).length = _
    rw [List.length_append, preS_len, inS_len l]
    rfl
theorem in2_len : ∀ l : LRow, (in2 l).length = tet l.length
  | [] => rfl
  | a :: l => by
    show (pre2 (a :: l) ++ in2 l).length = _
    rw [List.length_append, pre2_len, in2_len l]
    rfl
theorem tet_mono : ∀ {n m : Nat}, n ≤ m → tet n ≤ tet m := fun {n m} h => by
  induction h with
  | refl => exact Nat.le_refl _
  | step h ih => exact Nat.le_trans ih (Nat.le_add_left _ _)
theorem tri_tet (n : Nat) : tri n ≤ tet n := by
  cases n with
  | zero => exact Nat.le_refl _
  | succ n => exact Nat.le_add_right _ _
theorem preS_mem : ∀ {l x : LRow}, x <+: l → x ∈ preS l
  | [], x, h => by
    rw [List.prefix_nil.mp h]
    exact List.mem_singleton.mpr rfl
  | a :: l, [], h => List.mem_cons_self ..
  | a :: l, b :: x, h => by
    obtain ⟨e, h2⟩ := List.cons_prefix_cons.mp h
    subst e
    exact List.mem_cons_of_mem _ (List.mem_map.mpr ⟨x, preS_mem h2, rfl⟩)
theorem pre2_mem : ∀ {l x y : LRow}, x ++ y <+: l → (x, y) ∈ pre2 l
  | [], x, y, h => by
    obtain ⟨rfl, rfl⟩ := List.append_eq_nil_iff.mp (List.prefix_nil.mp h)
    exact List.mem_singleton.mpr rfl
  | a :: l, [], y, h => List.mem_append_left _ (List.mem_map.mpr ⟨y, preS_mem h, rfl⟩)
  | a :: l, b :: x, y, h => by
    obtain ⟨e, h2⟩ := List.cons_prefix_cons.mp h
    subst e
    exact List.mem_append_right _ (List.mem_map.mpr ⟨(x, y), pre2_mem h2, rfl⟩)
theorem infix_cons2 {a : Nat} {x l : LRow} (h : x <:+: a :: l) : x <+: a :: l ∨ x <:+: l := by
  obtain ⟨p, q, e⟩ := h
  cases p with
  | nil => exact .inl ⟨q, e⟩
  | cons b p => exact .inr ⟨p, q, by
      injection e⟩
theorem inS_mem : ∀ {l x : LRow}, x <:+: l → x ∈ inS l
  | [], x, h => by
    rw [List.infix_nil.mp h]
    exact List.mem_singleton.mpr rfl
  | a :: l, x, h => (infix_cons2 h).elim (fun h => List.mem_append_left _ (preS_mem h)) fun h => List.mem_append_right _ (inS_mem h)
theorem in2_mem : ∀ {l x y : LRow}, x ++ y <:+: l → (x, y) ∈ in2 l
  | [], x, y, h => by
    obtain ⟨rfl, rfl⟩ := List.append_eq_nil_iff.mp (List.infix_nil.mp h)
    exact List.mem_singleton.mpr rfl
  | a :: l, x, y, h => (infix_cons2 h).elim (fun h => List.mem_append_left _ (pre2_mem h)) fun h => List.mem_append_right _ (in2_mem h)
def tightJ (d : Nat) (l : LRow) : JU where
  U := (inS l).flatMap fun x => (List.range d).map fun e => (x, e + 1)
  W := (in2 l).flatMap fun p => (List.range d).map fun e => (p.1, p.2, e + 1)
theorem tightJ_cov {l : LRow} {d : Nat} (hl : l.length ≤ 50000) : DL.Cov (tightJ d l) d l :=
  ⟨hl, fun x e hx he => ⟨x, Alike.refl _ _, List.mem_flatMap.mpr ⟨x, inS_mem hx, List.mem_map.mpr ⟨e, List.mem_range.mpr (by omega), rfl⟩⟩⟩,
    fun x y e hx he => ⟨x, y, Alike.refl _ _, Alike.refl _ _, List.mem_flatMap.mpr ⟨(x, y), in2_mem hx, List.mem_map.mpr ⟨e, List.mem_range.mpr (by omega), rfl⟩⟩⟩⟩
theorem tightJ_len (d : Nat) (l : LRow) : (tightJ d l).U.length = tri l.length * d ∧ (tightJ d l).W.length = tet l.length * d :=
  ⟨(flatMap_len2 (n := d) fun x _ => by rw [List.length_map, List.length_range]).trans (by rw [inS_len]), (flatMap_len2 (n := d) fun x _ => by rw [List.length_map, List.length_range]).trans (by rw [in2_len])⟩
def tightsJ (d : Nat) : List LRow → JU
  | [] => ⟨[], []⟩
  | l :: ls => (tightJ d l).app (tightsJ d ls)
theorem tightsJ_cov {d : Nat} {l : LRow} : ∀ {ls : List LRow}, l ∈ ls → (∀ x ∈ ls, x.length ≤ 50000) → DL.Cov (tightsJ d ls) d l
  | [], h, _ => nomatch h
  | m :: ls, h, k => by
    rcases List.mem_cons.mp h with rfl | h
    · exact (tightJ_cov (k _ (List.mem_cons_self ..))).inl
    · exact (tightsJ_cov h fun x hx => k x (List.mem_cons_of_mem _ hx)).inr
def sizeT (d : Nat) (ls : List LRow) : Nat := (ls.map fun l => tet l.length * d).sum
theorem tightsJ_len {d : Nat} : ∀ (ls : List LRow), (tightsJ d ls).W.length = sizeT d ls ∧ (tightsJ d ls).U.length ≤ sizeT d ls
  | [] => ⟨rfl, Nat.le_refl _⟩
  | l :: ls => by
    obtain ⟨h1, h2⟩ := tightsJ_len (d := d) ls
    have e : sizeT d (l :: ls) = tet l.length * d + sizeT d ls := rfl
    constructor
    · show ((tightJ d l).W ++ (tightsJ d ls).W).length = _
      rw [List.length_append, (tightJ_len d l).2, h1, e]
    · show ((tightJ d l).U ++ (tightsJ d ls).U).length ≤ _
      rw [List.length_append, (tightJ_len d l).1, e]
      exact Nat.add_le_add (Nat.mul_le_mul_right _ (tri_tet _)) h2
theorem sizeT_app {d : Nat} (a b : List LRow) : sizeT d (a ++ b) = sizeT d a + sizeT d b := by
  unfold sizeT
  rw [List.map_append, List.sum_append]
theorem sizeT_le {d m : Nat} (hd : d ≤ 3) : ∀ {ls : List LRow}, (∀ l ∈ ls, l.length ≤ m) → sizeT d ls ≤ ls.length * (tet m * 3)
  | [], _ => Nat.zero_le _
  | l :: ls, h => by
    have h1 := sizeT_le (d := d) hd (ls := ls) fun x hx => h x (List.mem_cons_of_mem _ hx)
    have h2 : tet l.length * d ≤ tet m * 3 := Nat.mul_le_mul (tet_mono (h l (List.mem_cons_self ..))) hd
    have e : sizeT d (l :: ls) = tet l.length * d + sizeT d ls := rfl
    rw [e, List.length_cons, Nat.succ_mul]
    omega
/-- like fit_of, by the shorter lists -/
theorem fit_ofT {b c : Blk} {d m r s : Nat} (hb : Bd b d m r s) (hc : Bd c d m r s) (hd : d ≤ 3) (hm : m ≤ 50000) (hs : s ≤ 50000) (hn : 2 * (tet m * 3) + 2 * (r * (tet s * 3)) < 900000) : Fit b c d := by
  have hlen : ∀ l ∈ b.cut d :: (b.rows d ++ (c.cut d :: c.rows d)), l.length ≤ 50000 := fun l hl => by
    rcases List.mem_cons.mp hl with rfl | hl
    · exact Nat.le_trans hb.cut hm
    · rcases List.mem_append.mp hl with hl | hl
      · exact Nat.le_trans (hb.rows l hl) hs
      · rcases List.mem_cons.mp hl with rfl | hl
        · exact Nat.le_trans hc.cut hm
        · exact Nat.le_trans (hc.rows l hl) hs
  have hz : sizeT d (b.cut d :: (b.rows d ++ (c.cut d :: c.rows d))) < 900000 := by
    have e : sizeT d (b.cut d :: (b.rows d ++ (c.cut d :: c.rows d))) = sizeT d [b.cut d] + (sizeT d (b.rows d) + (sizeT d [c.cut d] + sizeT d (c.rows d))) := by
      rw [← sizeT_app [c.cut d], ← sizeT_app (b.rows d), ← sizeT_app [b.cut d]]
      rfl
    have h1 := sizeT_le (d := d) hd (ls := [b.cut d]) fun x hx => by rw [List.mem_singleton.mp hx]; exact hb.cut
    have h2 := sizeT_le (d := d) hd (ls := [c.cut d]) fun x hx => by rw [List.mem_singleton.mp hx]; exact hc.cut
    have h3 := Nat.le_trans (sizeT_le (d := d) hd hb.rows) (Nat.mul_le_mul_right _ hb.num)
    have h4 := Nat.le_trans (sizeT_le (d := d) hd hc.rows) (Nat.mul_le_mul_right _ hc.num)
    rw [List.length_singleton, Nat.one_mul] at h1 h2
    omega
  have h := tightsJ_len (d := d) (b.cut d :: (b.rows d ++ (c.cut d :: c.rows d)))
  exact ⟨_, by omega, by omega, fun l hm => tightsJ_cov hm hlen⟩
end DL
/-! DNs: one far row told in other ways (plain) -/
namespace DL
open PySem PySem.Spec PyProof.Rows L2
/-- what far_alike and far_lets want of a way -/
structure Way (b : Blk) (x : LRow) (m r s : Nat) : Prop where
  dep : b.dep ≤ 2
  ok : b.list.length ≤ 1000 ∧ b.Ok
  bd : ∀ d, d ≤ 3 → Bd b d m r s
  out : b.out = x
theorem Way.fit {b c : Blk} {x y : LRow} {m r s d : Nat} (h : Way b x m r s) (h' : Way c y m r s) (hd : d ≤ 3) (hm : m ≤ 50000) (hs : s ≤ 50000) (hn : 2 * (tet m * 3) + 2 * (r * (tet s * 3)) < 900000) : Fit b c d := fit_ofT (h.bd d hd) (h'.bd d hd) hd hm hs hn
end DL
/-! DNt: few blocks, written out, their times raised; where rows settle, by more than one depth; questions that count -/
namespace DL
open PySem PySem.Spec PyProof.Rows L2
/-! ### few blocks -/
/-! ### what the defs promise -/
/-! ### times raised -/
mutual
inductive PRs : Part → Part → Prop
  | row (l : LRow) : PRs (.row l) (.row l)
  | blk {b c : Blk} : BRs b c → PRs (.blk b) (.blk c)
inductive BRs : Blk → Blk → Prop
  | nil : BRs .nil .nil
  | cons {p q : Part} {n m : Nat} {b c : Blk} : PRs p q → (n = m ∨ 3 ≤ n ∧ 3 ≤ m) → BRs b c → BRs (.cons p n b) (.cons q m c)
end
mutual
theorem PRs.wr {c : Nat} (hc : c ≤ 3) : ∀ {p q : Part}, PRs p q → p.wr c = q.wr c
  | .row l, _, .row _ => rfl
  | .blk b, _, .blk h => BRs.wr hc h
theorem BRs.wr {c : Nat} (hc : c ≤ 3) : ∀ {p q : Blk}, BRs p q → p.wr c = q.wr c
  | .nil, _, .nil => rfl
  | .cons p n b, _, .cons (q := q) (m := m) (c := b') h1 h2 h3 => by
    show rep (p.wr c) (min n c) ++ b.wr c = rep (q.wr c) (min m c) ++ b'.wr c
    rw [PRs.wr hc h1, BRs.wr hc h3, show min n c = min m c by omega]
end
theorem pow3 {d : Nat} (hd : d ≤ 2) : 2 ^ d - 1 ≤ 3 := by
  have : 2 ^ d ≤ 4 := Nat.pow_le_pow_right (n := 2) (j := 2) (by decide) hd
  omega
theorem BRs.cut {d : Nat} (hd : d ≤ 2) {p q : Blk} (h : BRs p q) : p.cut d = q.cut d := by
  rw [Blk.cut_wr, Blk.cut_wr]
  exact BRs.wr (pow3 hd) h
mutual
theorem PRs.rows {d : Nat} (hd : d ≤ 2) : ∀ {p q : Part}, PRs p q → p.rows d = q.rows d
  | .row l, _, .row _ => rfl
  | .blk b, _, .blk (c := c) h => by
    show b.cut d :: b.rows d = c.cut d :: c.rows d
    rw [BRs.cut hd h, BRs.rows hd h]
theorem BRs.rows {d : Nat} (hd : d ≤ 2) : ∀ {p q : Blk}, BRs p q → p.rows d = q.rows d
  | .nil, _, .nil => rfl
  | .cons p n b, _, .cons (q := q) (c := c) h1 h2 h3 => by
    show p.rows d ++ b.rows d = q.rows d ++ c.rows d
    rw [PRs.rows hd h1, BRs.rows hd h3]
end
mutual
theorem PRs.dep : ∀ {p q : Part}, PRs p q → p.dep = q.dep
  | .row l, _, .row _ => rfl
  | .blk b, _, .blk h => BRs.dep h
theorem BRs.dep : ∀ {p q : Blk}, BRs p q → p.dep = q.dep
  | .nil, _, .nil => rfl
  | .cons p n b, _, .cons (q := q) (c := c) h1 h2 h3 => by
    show max (1 + p.dep) b.dep = max (1 + q.dep) c.dep
    rw [PRs.dep h1, BRs.dep h3]
end
theorem BRs.len : ∀ {p q : Blk}, BRs p q → p.list.length = q.list.length
  | .nil, _, .nil => rfl
  | .cons p n b, _, .cons (q := q) (c := c) h1 h2 h3 => congrArg (· + 1) (BRs.len h3)
mutual
theorem PRs.ok : ∀ {p q : Part}, PRs p q → p.Ok → q.Ok
  | .row l, _, .row _, h => h
  | .blk b, _, .blk (c := c) h, k => ⟨by rw [← BRs.len h]; exact k.1, BRs.ok h k.2⟩
theorem BRs.ok : ∀ {p q : Blk}, BRs p q → p.Ok → q.Ok
  | .nil, _, .nil, h => h
  | .cons p n b, _, .cons h1 h2 h3, k => ⟨PRs.ok h1 k.1, BRs.ok h3 k.2⟩
end
theorem PRs.isBlk : ∀ {p q : Part}, PRs p q → p.isBlk = q.isBlk
  | .row l, _, .row _ => rfl
  | .blk b, _, .blk h => rfl
theorem BRs.isBlk : ∀ {p q : Blk}, BRs p q → (p.list.any fun x => x.1.isBlk) = q.list.any fun x => x.1.isBlk
  | .nil, _, .nil => rfl
  | .cons p n b, _, .cons (q := q) (c := c) h1 h2 h3 => by
    show (p.isBlk || b.list.any fun x => x.1.isBlk) = (q.isBlk || c.list.any fun x => x.1.isBlk)
    rw [PRs.isBlk h1, BRs.isBlk h3]
theorem BRs.alike {d : Nat} (hd : d ≤ 2) {p q : Blk} (h : BRs p q) : Alike d p.out q.out := (Blk.alike_cut d p).trans (by rw [h.cut hd]; exact (Blk.alike_cut d q).symm)
theorem BRs.bd {d m r s : Nat} (hd : d ≤ 2) {p q : Blk} (h : BRs p q) (k : Bd p d m r s) : Bd q d m r s := ⟨by rw [← h.cut hd]; exact k.cut, by rw [← h.rows hd]; exact k.num, by rw [← h.rows hd]; exact k.rows⟩
/-! ### where rows settle -/
/-! ### so many letters at least -/
/-! ### a letter more -/
end DL
/-! DNu: what the defs promise that raise -/
namespace DL
open PySem PySem.Spec PyProof.Rows L2
def Qn.isSome : Qn → Bool
  | .some _ _ _ => true
  | _ => false
end DL
/-! DNv: defs that raise at some of what they are given -/
namespace DL
open PySem PySem.Spec PyProof.Rows L2
/-- the first sign that is none of these -/
def FirstBad (l m : LRow) (i : Nat) : Prop := (∃ a, l[i]? = some a ∧ a ∉ m) ∧ ∀ j a, j < i → l[j]? = some a → a ∈ m
/-! ### what the end shows of the classes of errors -/
section
variable {c : Ct} {G : List Sl} {s : c.S} {P : Sl → c.S → Prop} {a C C2 : Addr} {d : Option Addr} {dat : D} {b : Bool}
/-- isinstance(e, C2) of the error that is held -/
theorem db_isX (kn : Knows c d dat) (ec : ExcC c.K C) (e : PySem.W.kitOne c.K (.ref C) (.ref C2) = some b) (h : P (.dat (.bl b)) s) : DCB c (rIsX c.K a (.ref C) d) [.ref a, .ref C2] G s P := fun σ F H0 H vs gd r Q q => by
  cases r with
  | cons r1 r =>
  cases r with
  | cons r2 r =>
  cases r
  cases r1
  cases r2
  obtain ⟨dd, v', rfl, hd, _⟩ := kn _ _ _ gd.gd.rs
  exact ⟨C, dd, _, .ref C2, .ref C2, b, rfl, rfl, rfl, gd.gd.sub _ _ hd, ec, .own C2, e, q _ s _ _ _ h gd (Same.refl _) (.bl b)⟩
end
/-- the places of signs that are no letters -/
def badL (l : LRow) : List Nat := (l.zipIdx).filterMap fun x => if x.1 ∈ LET then none else some x.2
theorem badL_first {l : LRow} {i : Nat} (h : FirstBad l LET i) : (badL l)[0]? = some i := by
  have hcon : ∀ (l : LRow) (n i : Nat), FirstBad l LET i → ((l.zipIdx n).filterMap fun x => if x.1 ∈ LET then none else some x.2)[0]? = some (n + i) := by
    intro l
    induction l with
    | nil =>
      intro n i h
      obtain ⟨⟨a, h1, _⟩, _⟩ := h
      simp at h1
    | cons b l ih =>
      intro n i h
      rw [List.zipIdx_cons]
      cases i with
      | zero =>
        obtain ⟨⟨a, h1, h2⟩, _⟩ := h
        have : b = a := by simpa using h1
        subst this
        rw [List.filterMap_cons_some (f := fun (x : Nat × Nat) => if x.1 ∈ LET then none else some x.2) (a := (b, n)) (b := n) (if_neg h2)]
        rfl
      | succ i =>
        have hb : b ∈ LET := h.2 0 b (by omega) rfl
        rw [List.filterMap_cons_none (f := fun (x : Nat × Nat) => if x.1 ∈ LET then none else some x.2) (a := (b, n)) (if_pos hb), ih (n + 1) i ⟨by
          obtain ⟨⟨a, h1, h2⟩, _⟩ := h
          exact ⟨a, by simpa using h1, h2⟩, fun j a hj ha => h.2 (j + 1) a (by omega) (by simpa using ha)⟩]
        congr 1
        omega
  have := hcon l 0 i h
  rwa [Nat.zero_add] at this
theorem FirstBad.one {l : LRow} {i j : Nat} (h : FirstBad l LET i) (h' : FirstBad l LET j) : j = i := by
  have h1 := badL_first h
  have h2 := badL_first h'
  rw [h1] at h2
  exact (Option.some.inj h2).symm
end DL
/-! DNw: a loop whose ground grows: a dict of lists of one's own -/
namespace DL
open PySem PySem.Spec PyProof.Rows L2
/-- the rest of a body on a ground that may have grown -/
def WSR {c : Ct} {r : Res} {q : Addr} (hn : NewR c r q) (u : TS) (G : List Sl) (s : c.S × r.S) (P : Ds c.S) : Prop :=
  ∀ σ H0 H, Good (addCt c r q hn) G s σ H0 H → ∀ D : Ends, EOk c D P H0 G.length → u D σ H
theorem WSR.of {c : Ct} {r : Res} {q : Addr} {hn : NewR c r q} {u : TS} {G : List Sl} {s : c.S × r.S} {P : Ds c.S} (h : WS (addCt c r q hn) u G s ⟨fun G s => P.nx G s.1, fun x s => P.rt x s.1, fun G s => P.bk G s.1, fun G s => P.ct G s.1⟩) : WSR hn u G s P :=
  fun σ H0 H g D e => h σ H0 H g D (EOk.outR e)
end DL
/-! DNx: found.setdefault(k, []).append(n) in a ground that grows; list(found.values()) -/
namespace DL
open PySem PySem.Spec PyProof.Rows L2
/-! ### what classes tells -/
end DL
/-! DNy: a def that is given a held error, as a callee; what the defs of alike raise -/
namespace DL
open PySem PySem.Spec PyProof.Rows L2
open L2H (RoomH)
/-- both rows are looked at -/
def BothBad (l m : LRow) (R : Nat → Prop) : Prop := (∃ i, FirstBad l LET i ∧ R i) ∨ (Letters l ∧ ∃ i, FirstBad m LET i ∧ R i)
end DL
/-! DNz: what the defs of alike must raise, as one plain function -/
namespace DL
open PySem PySem.Spec PyProof.Rows L2
open L2H (RoomH)
theorem BothBad.mono {l m : LRow} {R S : Nat → Prop} (h : BothBad l m R) (k : ∀ i, R i → S i) : BothBad l m S := by
  rcases h with ⟨i, a, b⟩ | ⟨hL, i, a, b⟩
  · exact .inl ⟨i, a, k i b⟩
  · exact .inr ⟨hL, i, a, k i b⟩
end DL
/-! DOa: sorted(set(xs)) of a list of texts -/
namespace DL
open PySem PySem.Spec PyProof.Rows L2
open PySem.Froz (SD sObj TxOk addTx tailTx is_str)
/-! ### the table of a set of texts behind an add -/
def Tab (w : World) (D : SD) : Prop := Ris D.2.2.place.toList ∧ (w.params.followText "set-order" = true ∨ D.2.2.led = true)
def Txts (D : SD) : List Str := D.1.toList.map fun e => strOf e.2
theorem tail_tab {w : World} {ep : Nat} {es : Array (Int × Value)} {t : SetTable} {b : Bool} (h : Tab w (es, ep, t)) : Tab w (tailTx ep es t b) ∧ (Txts (tailTx ep es t b)).Perm (Txts (es, ep, t)) := by
  unfold tailTx
  by_cases c : (!b && t.tooFull) = true
  · have e := relayAll_led t es (SetTable.grown es.size)
    have p := relayAll_perm t es (SetTable.grown es.size)
    rw [if_pos c]
    exact ⟨⟨relayAll_ris t es _, h.2.imp id fun z => e.trans z⟩, p.map _⟩
  · rw [if_neg c]
    exact ⟨⟨h.1, h.2⟩, .refl _⟩
theorem add_tab {w : World} {D : SD} (n : Int) {k : Str} {u : Tok} (h : Tab w D) : Tab w (addTx n (.str k u) D) ∧ (Txts (addTx n (.str k u) D)).Perm (k :: Txts D) := by
  obtain ⟨es, ep, t⟩ := D
  have p := layNew_perm t es n (.str k u)
  have r := layNew_ris t es n (.str k u) h.1
  have e := layNew_led t es n (.str k u)
  unfold addTx
  dsimp only
  generalize layNew t es n (.str k u) = Z at p r e ⊢
  obtain ⟨es1, t1, b, g⟩ := Z
  dsimp only at p r e ⊢
  have h2 : Tab w (es1, ep, if t1.plain = true then { t1 with plain := false } else t1) := by
    by_cases c : t1.plain = true
    · rw [if_pos c]
      exact ⟨r, h.2.imp id fun z => e.trans z⟩
    · rw [if_neg c]
      exact ⟨r, h.2.imp id fun z => e.trans z⟩
  obtain ⟨a1, a2⟩ := tail_tab (b := b) h2
  refine ⟨a1, a2.trans ?_⟩
  rw [Array.toList_push] at p
  have q := (p.trans (List.perm_append_singleton _ _)).map fun e : Int × Value => strOf e.2
  exact q
/-- at a stands the set of the texts l -/
def TxSet (P : Program) (w : World) (h : Heap) (a : Addr) (l : List Str) : Prop := ∃ D : SD, h.get? a = some (sObj "set" D) ∧ TxOk P w D l ∧ Tab w D ∧ (Txts D).Perm l
section
variable {P : Program} {w : World} {A : Around} {E : Value → Shared → Prop} {s : Shared} {h h' : Heap} {a : Addr} {l : List Str} {k : Str} {u : Tok}
theorem TxSet.keep (R : TxSet P w h a l) (k : ∀ o, h.get? a = some o → h'.get? a = some o) : TxSet P w h' a l := by
  obtain ⟨D, ho, r⟩ := R
  exact ⟨D, k _ ho, r⟩
/-- a text that it has -/
theorem TxSet.again {Q : Bool → Shared → Prop} (R : TxSet P w s.heap a l) (hk : k ∈ l) (room : l.length < scanBound) (hQ : Q false s) : wpAny (model P w) A (setAddHashed a (.str k u) (hashStr w k)) Q E s := by
  obtain ⟨⟨es, ep, t⟩, ho, F, _⟩ := R
  obtain ⟨e, he, q⟩ := (F.mem k).mp hk
  have hd : (sObj "set" (es, ep, t)).data = .set es ep t := rfl
  have sz : es.size < scanBound := by
    have := F.sz
    exact this ▸ room
  have ky := is_str (P := P) (w := w) k u
  unfold setAddHashed
  unfold setAddHashedIn
  refine wpAny_holding (wpAny_bind ?_)
  refine wpAny_setState_of ho hd F.fit ?_
  dsimp only
  rw [byScan_of (knd := strKind P w) (x := .str k u) rfl sz F.el]
  simp only [↓reduceIte]
  unfold setAddByScan
  refine wpAny_bind (wpAny_bind (wpAny_rule ?_))
  refine wpAny_bind (wpAny_setScan_of ky ho hd F.fit F.el ?_)
  cases hf : List.findIdx? (fun e => (strKind P w).is k e.2) es.toList with
  | none =>
    have := List.findIdx?_eq_none_iff.mp hf e he
    rw [q] at this
    cases this
  | some j => exact wpAny_pure (wpAny_pure hQ)
/-- a new one -/
theorem TxSet.more {Q : Bool → Shared → Prop} (R : TxSet P w s.heap a l) (hk : k ∉ l) (room : l.length + 1 < scanBound) (hQ : ∀ h', Heap.SameBut a s.heap h' → TxSet P w h' a (k :: l) → Q true { s with heap := h' }) :
    wpAny (model P w) A (setAddHashed a (.str k u) (hashStr w k)) Q E s := by
  obtain ⟨D, ho, F, T, p⟩ := R
  obtain ⟨T1, p1⟩ := add_tab (hashStr w k) (k := k) (u := u) T
  refine Froz.add_x ho F hk room (hQ _ (Heap.SameBut.update _ a _) ⟨_, Froz.get_upd _ ho rfl, Froz.add_ok u F, T1, p1.trans (p.cons k)⟩)
/-- what the set has of the first i -/
def Has (xs : List Str) (i : Nat) (l : List Str) : Prop := l.Nodup ∧ l.length ≤ i ∧ ∀ x, x ∈ l ↔ x ∈ xs.take i
theorem Has.step {xs l : List Str} {i : Nat} {x : Str} (H : Has xs i l) (hx : xs[i]? = some x) : Has xs (i + 1) (if x ∈ l then l else x :: l) := by
  have e : ∀ y, y ∈ xs.take (i + 1) ↔ y ∈ xs.take i ∨ y = x := fun y => by
    rw [List.take_add_one, hx]
    simp
  by_cases c : x ∈ l
  · rw [if_pos c]
    refine ⟨H.1, by have := H.2.1; omega, fun y => ?_⟩
    rw [e, ← H.2.2 y]
    exact ⟨.inl, fun z => z.elim id fun z => z ▸ c⟩
  · rw [if_neg c]
    refine ⟨List.nodup_cons.mpr ⟨c, H.1⟩, by have := H.2.1; simp; omega, fun y => ?_⟩
    rw [e, ← H.2.2 y, List.mem_cons]
    exact Or.comm
/-- the loop that fills it -/
theorem fill_txts {it : Addr} {seen wr : List Addr} {n : Nat} {Pv : Nat → Value → Prop} {St : Nat → Shared → Prop} {R : Result → Shared → Prop} {gen : Array GenState → Array GenState → Prop}
    (W : WalksS P w A.in1 it seen wr gen n Pv St) (b0 : Addr) (away : b0 ∉ seen) (xs : List Str) (hn : n = xs.length) (hb : xs.length + 1 < scanBound) (val : ∀ i v, Pv i v → ∃ x t, xs[i]? = some x ∧ v = .str x t) :
    ∀ (m i : Nat) (s : Shared), i + m = n → St i s → (∃ l, TxSet P w s.heap b0 l ∧ Has xs i l) →
      (∀ s' l, Moved (b0 :: wr) gen s s' → TxSet P w s'.heap b0 l → Has xs n l → R (.ok (.ret .none)) s') →
      codeAny (model P w) A (.builtin "set.update.loop" ⟨[.ref b0, .ref it], []⟩) R s := by
  have out : b0 ∉ wr := fun z => away (W.sub _ z)
  have wider : ∀ c ∈ wr, c ∈ b0 :: wr := fun c z => List.mem_cons_of_mem _ z
  intro m
  induction m with
  | zero =>
    intro i s hi st ⟨l, T, hl⟩ fin
    obtain rfl : i = n := hi
    refine codeAny_builtin F.entry_set_update_loop ?_
    rw [Around.under_plainId F.plain_set_update_loop _]
    show wpAny _ A.in1 (pyNext (.ref it) >>= _) _ _ s
    exact wpAny_bind (W.done s _ _ st fun s' mv => wpAny_pure (fin s' l (mv.mono wider) (T.keep fun o e => mv.heap b0 o out e) hl))
  | succ m ih =>
    intro i s hi st ⟨l, T, hl⟩ fin
    have lt : i < n := by omega
    refine codeAny_builtin F.entry_set_update_loop ?_
    rw [Around.under_plainId F.plain_set_update_loop _]
    show wpAny _ A.in1 (pyNext (.ref it) >>= _) _ _ s
    refine wpAny_bind (W.item i s _ _ lt st fun v s1 pv st1 mv => ?_)
    obtain ⟨x, t, hx, rfl⟩ := val i v pv
    have T1 := T.keep (h' := s1.heap) fun o e => mv.heap b0 o out e
    have st2 := hl.step hx
    have go : ∀ h2 : Heap, Heap.SameBut b0 s1.heap h2 → TxSet P w h2 b0 (if x ∈ l then l else x :: l) → codeAny (model P w) A (.builtin "set.update.loop" ⟨[.ref b0, .ref it], []⟩) R { s1 with heap := h2, toks := s1.toks + 1 } := fun h2 sb T2 => by
      refine ih (i + 1) _ (by omega) (W.frame _ s1 _ _ st1 (Nat.le_succ _) fun c hc o e => ?_) ⟨_, T2, st2⟩ fun s3 l3 mv3 T3 h3 => ?_
      · rw [sb.2 c fun z => away (z ▸ hc)]
        exact e
      · refine fin s3 l3 (Moved.trans W.gtrans ((mv.mono wider).then_heap (Nat.le_succ _) fun c o hc e => ?_) mv3) T3 h3
        rw [sb.2 c fun z => hc (z ▸ List.mem_cons_self ..)]
        exact e
    show wpAny _ A.in1 (holding [Value.str x t] (setAdd b0 (.str x t)) >>= _) _ _ s1
    refine wpAny_bind (wpAny_holding ?_)
    unfold setAdd
    refine wpAny_holding (wpAny_bind ?_)
    refine (strKind P w).pyHash (k := x) (is_str x t) ?_
    have few : l.length ≤ xs.length := by
      have := hl.2.1
      omega
    by_cases c : x ∈ l
    · rw [if_pos c] at go
      refine TxSet.again (s := { s1 with toks := s1.toks + 1 }) T1 c (by omega) ?_
      exact wpAny_pure ⟨plainId_quiet F.plain_set_update_loop _, go s1.heap (Heap.SameBut.refl b0 _) T1⟩
    · rw [if_neg c] at go
      refine TxSet.more (s := { s1 with toks := s1.toks + 1 }) T1 c (by omega) fun h2 sb T2 => ?_
      exact wpAny_pure ⟨plainId_quiet F.plain_set_update_loop _, go h2 sb T2⟩
/-- a set that is just made -/
def freshS (w : World) : Obj := { cls := .type "set", dict := none, data := .set #[] 0 (.fresh 0 0 (!w.params.followText "set-order")) }
theorem fresh_txts (ho : h.get? a = some (freshS w)) : TxSet P w h a [] := by
  refine ⟨(#[], 0, .fresh 0 0 (!w.params.followText "set-order")), ho, .nil rfl, ⟨.nil, ?_⟩, .refl _⟩
  show _ ∨ (!w.params.followText "set-order") = true
  cases w.params.followText "set-order"
  · exact .inr rfl
  · exact .inl rfl
set_option maxHeartbeats 4000000 in
/-- set(xs), a list of texts -/
theorem set_of_txts {li : Addr} {its : Array Value} {xs : List Str} {Q : Value → Shared → Prop} (calm : A.handled = none) (hl : s.heap.IsList li its) (hi : StrsAre its.toList xs) (room : xs.length + 1 < scanBound)
    (k : ∀ (h' : Heap) (tk : Nat) (l : List Str), TxSet P w h' s.heap.objs.size l → Has xs xs.length l → (∀ b o, s.heap.get? b = some o → h'.get? b = some o) → Q (.ref s.heap.objs.size) { s with heap := h', toks := tk }) :
    wpAny (model P w) A (call (.type "set") [.ref li]) Q E s := by
  have many : its.size = xs.length := by
    have q := hi.length
    rwa [Array.length_toList] at q
  obtain ⟨c, tl, hmro⟩ := F.called_set.mro
  have f1 := F.called_set.made
  have f2 := F.called_set.sub
  apply wpAny_call
  apply codeAny_of_tree
  show wpAny (model P w) _ (callAny (.type "set") _) _ _ _
  refine wpAny_pure ⟨Code.quiet_builtin _ (by decide +kernel), ?_⟩
  refine codeAny_builtin F.entry_type_call ?_
  rw [Around.under_plain (weight_type_call_type "set" [.ref li] []) rfl]
  have f3 := F.called_set.notType
  have f4 := F.called_set.canCreate
  have f5 := F.typeCall_set_1 (.ref li)
  repeat (any_goals (first | assumption | wp_step))

  refine codeAny_mono (code_set_led1 (.ref li) (E := E) (Q₁ := fun x s1 => x = .ref s.heap.objs.size ∧ s1 = { s with heap := s.heap.push (freshS w) }) ⟨rfl, rfl⟩) fun r s1 hr => ?_
  cases r with
  | error e => exact hr
  | ok fin1 =>
    cases fin1 with
    | ret x =>
      obtain ⟨rfl, rfl⟩ := hr
      have new : (s.heap.push (freshS w)).get? s.heap.objs.size = some (freshS w) := Heap.get?_push_size _ rfl
      have ty : Shared.TypeIs { s with heap := s.heap.push (freshS w) } (.ref s.heap.objs.size) "set" := ⟨_, new, rfl⟩
      have f6 := F.called_set.init.lookup
      have f7 := F.called_set.init.bind (.ref s.heap.objs.size)
      repeat (any_goals (first | assumption | wp_step))

      refine codeAny_mono (codeAny_call_builtin (R := wants (fun r s2 => r = .none ∧ ∃ h' tk l, s2 = { s with heap := h', toks := tk } ∧ TxSet P w h' s.heap.objs.size l ∧ Has xs xs.length l ∧ ∀ b o, s.heap.get? b = some o → h'.get? b = some o) E)
        F.called_set.init.plain F.entry_set_init (check_set_init_1 ty ?_)) fun r2 s2 hr2 => ?_
      · obtain ⟨⟨ocls, odict, odata, oslots⟩, old, oc, no, od⟩ := hl
        simp only at oc od
        subst oc od
        have old1 : (s.heap.push (freshS w)).get? li = some { cls := .type "list", dict := odict, data := .seq its no, slots := oslots } := Heap.get?_push_of_some _ old
        have f8 := F.sub_list_set
        have f9 := F.sub_list_frozenset
        have f10 : (Value.type "list" == Value.type "dict") = false := by decide
        have list1 : (s.heap.push (freshS w)).IsList li its := ⟨_, old1, rfl, no, rfl⟩
        unfold Builtin.«set.__init__» noKeywords Builtin.Frozenset.updateFrom
        generalize hPI : pyIter = PI
        wp_walk
        subst hPI

        apply wpAny_pyIter_list list1
        refine wpAny_bind (wpAny_runValue (?_))
        have low : li < s.heap.objs.size := Heap.lt_size old
        have calm3 : A.in1.in1.in1.handled = none := by simp [calm]
        have sz1 : (s.heap.push (freshS w)).objs.size = s.heap.objs.size + 1 := Heap.size_push ..
        have ne1 : li ≠ (s.heap.push (freshS w)).objs.size := fun z => by
          rw [sz1] at z
          exact absurd (z ▸ low) (Nat.not_lt.mpr (Nat.le_succ _))
        have away : s.heap.objs.size ∉ [(s.heap.push (freshS w)).objs.size, li] := fun z => by
          rcases List.mem_cons.mp z with z | z
          · exact absurd (z.trans sz1) (Nat.ne_of_lt (Nat.lt_succ_self _))
          · exact absurd (List.mem_singleton.mp z).symm (Nat.ne_of_lt low)
        have val : ∀ (i : Nat) (v : Value), its[i]? = some v → ∃ x t, xs[i]? = some x ∧ v = Value.str x t := fun i v hv => by
          obtain ⟨y, t, e, g⟩ := hi.item i v (by rw [Array.getElem?_toList]; exact hv)
          exact ⟨y, t, g, e⟩
        refine fill_txts ((Walks.list calm3 _ li ne1 its).toS) s.heap.objs.size away xs many room val its.size 0 _ (Nat.zero_add _) ⟨⟨_, Heap.get?_push_size _ rfl, rfl, rfl⟩, list1.push _⟩ ?_ ?_
        · exact ⟨[], fresh_txts (Heap.get?_push_of_some _ new), .nil, Nat.le_refl _, fun x => by simp⟩
        · intro s3 l mv T H
          obtain ⟨h3, g3, d3, t3, o3⟩ := s3
          have e1 : g3 = s.gens := mv.gens
          have e2 : d3 = s.drawn := mv.drawn
          have e3 : o3 = s.os := mv.os
          subst e1 e2 e3
          rw [many] at H
          show wpAny _ _ _ _ _ _
          refine wpAny_pure (?_)
          show wpAny _ _ (ret .none) _ _ _
          refine wpAny_pure ⟨rfl, h3, t3, l, rfl, T, H, fun b o e => mv.heap b o (fun z => ?_) (Heap.get?_push_of_some _ (Heap.get?_push_of_some _ e))⟩
          have bl : b < s.heap.objs.size := Heap.lt_size e
          rcases List.mem_cons.mp z with z | z
          · exact absurd z (Nat.ne_of_lt bl)
          · exact absurd ((List.mem_singleton.mp z).trans sz1) (Nat.ne_of_lt (Nat.lt_succ_of_lt bl))

      · cases r2 with
        | error e => exact hr2
        | ok fin2 =>
          cases fin2 with
          | ret r =>
            obtain ⟨rfl, h', tk, l, rfl, T, H, kp⟩ := hr2
            repeat (any_goals (first | assumption | wp_step))
            exact k _ _ _ T H kp
          | _ => exact hr2.elim
    | _ => exact hr.elim
end
end DL
/-! DOb: sorted(set(xs)), the rule -/
namespace DL
open PySem PySem.Spec PyProof.Rows L2
open PySem.Froz (SD sObj TxOk)
section
variable {P : Program} {w : World} {A : Around} {E : Value → Shared → Prop} {s : Shared} {a : Addr} {l : List Str}
/-- sorted of a set of texts -/
theorem sorted_txts {Q : Value → Shared → Prop} (R : TxSet P w s.heap a l) (calm : A.handled = none) (few : l.length < 64)
    (k : ∀ s1 p (out : Array Value) (c : Nat) (ys : List Str), (∀ b o, s.heap.get? b = some o → s1.heap.get? b = some o) → s1.gens = s.gens → s1.os = s.os → s.heap.objs.size ≤ p →
      s1.heap.get? p = some (seqObj "list" out c) → StrsAre out.toList ys → ys.Perm l → sortedS ys = true → Q (.ref p) s1) : wpAny (model P w) A (call (.builtin "sorted") [.ref a]) Q E s := by
  obtain ⟨⟨es, ep, t⟩, ho, F, T, pl⟩ := R
  have sz : es.size = l.length := F.sz
  have txt : ∀ e ∈ es.toList, ∃ x u, e.2 = Value.str x u := fun e he => by
    obtain ⟨⟨x, hx, _⟩, _⟩ := F.el e he
    obtain ⟨u, hu⟩ := Value.isStrOf_shape hx
    exact ⟨x, u, hu⟩
  apply Calls.call_function_entry kind_sorted plain_sorted entry_sorted (args_sorted1 _)
  unfold Builtin.«sorted»
  refine wpAny_bind (show wpAny _ _ (checkCount "sorted" 1 1 _) _ _ _ from wpAny_pure ?_)
  refine wpAny_bind (collect_set (A := A.in1) calm ⟨_, ho, rfl, rfl⟩ F.fit (by rw [sz]; unfold scanBound; omega) T.1 T.2 fun s1 vs old up g1 o1 pm => ?_)
  have vl : vs.length = l.length := by rw [pm.length_eq, List.length_map, Array.length_toList, sz]
  have vt : StrsAre vs (vs.map strOf) := strsAre_map vs fun v hv => by
    obtain ⟨e, he, rfl⟩ := List.mem_map.mp (pm.mem_iff.mp hv)
    exact txt e he
  have vp : (vs.map strOf).Perm l := by
    have q := pm.map strOf
    rw [List.map_map] at q
    exact q.trans pl
  refine wpAny_bind (wpAny_newList ?_ (by rw [vl, sizeLine_eq]; omega))
  have new : (s1.heap.push (seqObj "list" vs.toArray 0)).get? s1.heap.objs.size = some (seqObj "list" vs.toArray 0) := Heap.get?_push_size _ rfl
  refine wpAny_bind (wpAny_holding ?_)
  refine wpAny_call_entry slot_list_sort ⟨_, new, rfl⟩ entry_list_sort ?_ (args_list_sort _)
  refine list_sort_treeK strKind_oneLt new vt.keysOf (fun v1 v2 r e => keyKind_strs (by rw [← e]; exact vt)) (vl ▸ few) fun st hp hs => ?_
  obtain ⟨ys, y1, y2, y3⟩ := sorted_out_str vt hp hs
  obtain ⟨c, hc⟩ := sortedHeap_at (vs := vs) (out := (arrOf st).map (·.2)) new
  refine ⟨_, rfl, wpAny_pure ⟨_, rfl, k _ s1.heap.objs.size _ c ys (fun b o e => ?_) g1 o1 up hc y1 (y2.trans vp) y3⟩⟩
  have q := old b o e
  have lt := Heap.lt_size q
  show (sortedHeap (s1.heap.push (seqObj "list" vs.toArray 0)) _ vs _).get? b = some o
  rw [sortedHeap_old (Nat.ne_of_lt lt) (by rw [size_push']; exact Nat.lt_succ_of_lt lt)]
  exact Heap.get?_push_of_some _ q
end
/-! ### sorted(set(e)) -/
section
variable {X : Cx}
def tSrtSet (K : PySem.W.Frag) (ta : TE) : TE := fun σ H Q => ta σ H fun x H1 => ∃ (b : Addr) (xs : List Str), x = V.ref b ∧ SqL K H1 b (xs.map V.str) ∧ xs.length < 64 ∧
  ∀ (ys : List Str) (p : Addr), ys.Nodup → (∀ y, y ∈ ys ↔ y ∈ xs) → sortedS ys = true → H1 p = none → Q (.ref p) (upd H1 p (.lst (ys.map V.str)))
theorem sorted_kept {pins : List (Addr × Obj)} {σ : L2.St} {H1 : Hp} {t : Shared} {a : Addr} {l xs : List Str} {E : Value → Shared → Prop} {Q : V → Hp → Prop} (I2 : Inv X pins σ H1 t) (T : TxSet X.prog X.w t.heap a l) (hl : Has xs xs.length l) (few : xs.length < 64) (hc : X.calm = true)
    (k : ∀ (ys : List Str) (p : Addr), ys.Nodup → (∀ y, y ∈ ys ↔ y ∈ xs) → sortedS ys = true → H1 p = none → Q (.ref p) (upd H1 p (.lst (ys.map V.str)))) :
    wpAny (model X.prog X.w) X.A (call (.builtin "sorted") [.ref a]) (fun v s' => ∃ x H', Inv X pins σ H' s' ∧ RelV x v ∧ Q x H') E t := by
  have ll : l.length < 64 := Nat.lt_of_le_of_lt hl.2.1 few
  refine sorted_txts T (I2.ok.hd hc) ll fun s2 n out c ys old g o low hn st pm so => ?_
  have yl : (ys.map V.str).length ≤ sizeLine := by rw [List.length_map, pm.length_eq, sizeLine_eq]; omega
  have un : H1 n = none := I2.hok.fresh low
  have J : Inv X pins σ (upd H1 n (.lst (ys.map V.str))) { t with heap := s2.heap, gens := s2.gens, drawn := s2.drawn, toks := s2.toks } := I2.call (ch := []) (Un.laid old low un) (I2.hok.laid old low ⟨yl, out.toList, c, vals_of_strs st, hn⟩) (by rw [g]; exact I2.bare) (fun _ z => nomatch z)
  have e2 : s2 = { t with heap := s2.heap, gens := s2.gens, drawn := s2.drawn, toks := s2.toks } := by
    cases s2
    cases t
    cases o
    rfl
  rw [e2]
  have mem : ∀ y, y ∈ ys ↔ y ∈ xs := fun y => by
    rw [pm.mem_iff, hl.2.2 y, List.take_length]
  exact ⟨.ref n, _, J, rfl, k ys n (pm.nodup_iff.mpr hl.1) mem so un⟩
theorem pe_srtSet {K : PySem.W.Frag} {e : Expr} {ta : TE} {p p2 q pos : Pos} (hK : X.K = K) (hc : X.calm = true) (hg : Gl X "sorted") (hm : X.mg "sorted" = none) (hg2 : Gl X "set") (hm2 : X.mg "set" = none) (he : PE X e ta)
    (na : starEach [e] X.env = (false, eval e X.env) :: starEach [] X.env := by rfl) : PE X (.Call (.Name "sorted" p) [.Call (.Name "set" p2) [e] [] q] [] pos) (tSrtSet K ta) := by
  subst hK
  refine ⟨fun pins s σ H Q I h => ?_⟩
  refine Call_ (ld_blt I hg hm boot_sorted ?_) |> fun z => z
  refine callWith_builtin1 (args_cons ?_ rfl) rfl rfl
  refine Call_ (ld_blt I hg2 hm2 boot_set ?_) |> fun z => z
  refine callWith_type1 (args_cons (thn (he.run pins s σ H _ I h) fun v s1 ⟨x, H1, I1, r1, q1⟩ => args_nil ?_) na) na rfl
  obtain ⟨b, xs, rfl, hq, few, k⟩ := q1
  cases r1
  obtain ⟨its, r, pl, hz⟩ := I1.list hq
  refine set_of_txts (I1.ok.hd hc) pl.isList (xs := xs) (by simpa using r.strs) (by unfold scanBound; omega) fun h1 tk l T hl kp => ?_
  refine args_nil (?_)
  have I2 : Inv X pins σ H1 { s1 with heap := h1, toks := tk } := I1.kept fun b o e => kp b o e
  exact sorted_kept I2 T hl few hc k
end
end DL
/-! DOc: the unlike texts of a list, ascending; extend; the letters of questions -/
namespace DL
open PySem PySem.Spec PyProof.Rows L2
/-! ### unlike texts, ascending -/
def UniqS (xs ys : List Str) : Prop := ys.Nodup ∧ (∀ y, y ∈ ys ↔ y ∈ xs) ∧ sortedS ys = true
theorem rising_le : ∀ {x : Str} {r : List Str}, risingS x r = true → ∀ y ∈ r, x.cps.toList ≤ y.cps.toList
  | x, [], _, y, h => by cases h
  | x, z :: r, h, y, hy => by
    have h : (!ltCps z.cps.toList x.cps.toList && risingS z r) = true := h
    rw [Bool.and_eq_true, ltCps_eq] at h
    have h1 : x.cps.toList ≤ z.cps.toList := by
      have := h.1
      simp at this
      exact this
    rcases List.mem_cons.mp hy with rfl | hy
    · exact h1
    · exact List.le_trans h1 (rising_le h.2 y hy)
theorem sorted_pw : ∀ {ys : List Str}, sortedS ys = true → ys.Pairwise fun a b => a.cps.toList ≤ b.cps.toList
  | [], _ => .nil
  | x :: r, h => by
    refine List.pairwise_cons.mpr ⟨rising_le h, sorted_pw ?_⟩
    cases r with
    | nil => rfl
    | cons z r =>
      have h : (!ltCps z.cps.toList x.cps.toList && risingS z r) = true := h
      rw [Bool.and_eq_true] at h
      exact h.2
theorem UniqS.one {xs xs' ys ys' : List Str} (h : UniqS xs ys) (h' : UniqS xs' ys') (e : ∀ y, y ∈ xs ↔ y ∈ xs') : ys = ys' := by
  refine List.Perm.eq_of_pairwise (fun a b _ _ h1 h2 => ?_) (sorted_pw h.2.2) (sorted_pw h'.2.2) ((List.perm_ext_iff_of_nodup h.1 h'.1).mpr fun y => by rw [h.2.1, h'.2.1, e])
  have : a.cps.toList = b.cps.toList := List.le_antisymm h1 h2
  cases a
  cases b
  exact congrArg Str.mk (Array.toList_inj.mp this)
open Classical in
noncomputable def uniqS (xs : List Str) : List Str := if h : ∃ ys, UniqS xs ys then Classical.choose h else []
theorem uniqS_of {xs ys : List Str} (h : UniqS xs ys) : ys = uniqS xs := by
  have hx : ∃ ys, UniqS xs ys := ⟨ys, h⟩
  unfold uniqS
  rw [dif_pos hx]
  exact h.one (Classical.choose_spec hx) fun _ => Iff.rfl
theorem uniqS_congr {xs xs' ys ys' : List Str} (h : UniqS xs ys) (h' : UniqS xs' ys') (e : ∀ y, y ∈ xs ↔ y ∈ xs') : uniqS xs = uniqS xs' := by
  rw [← uniqS_of h, ← uniqS_of h']
  exact h.one h' e
section
variable {c : Ct} {G : List Sl} {s : c.S}
/-- sorted(set(e)) -/
theorem we_srtSet {te : TE} {P : Sl → c.S → Prop} (h : WE c te G s (FZ fun d s1 => ∃ xs : List Str, d = .lst (xs.map D.str) ∧ xs.length < 64 ∧ (UniqS xs (uniqS xs) → P (.own (.lst ((uniqS xs).map D.str))) s1))) : WE c (tSrtSet c.K te) G s P := fun σ F H0 H g Q q =>
  h.use g fun d s1 v H1 H1' hp g1 e1 r1 => by
    obtain ⟨xs, rfl, few, k⟩ := hp
    cases r1 with
    | lst ha ra =>
      cases ra.strs
      refine ⟨_, xs, rfl, .inl (.inl (g1.gd.sub _ _ ha)), few, fun ys p nd mem so un => ?_⟩
      have hu : UniqS xs ys := ⟨nd, mem, so⟩
      have e := uniqS_of hu
      subst e
      exact q _ s1 _ H1 _ (k hu) (g1.push un) e1 (g1.rok (u := .lst _) un (RepAll.ofStrs _))
/-- xs.extend(e), xs an object of one's own -/
theorem ws_ext {i : Nat} {te : TE} {ds : List D} {P : Ds c.S} (hi : G[i]? = some (.own (.lst ds))) (hl : ds.length ≤ 1000000) (h : WE c te G s (FZ fun d s1 => ∃ es, d = .lst es ∧ es.length ≤ 1000000 ∧ P.nx (G.set i (.own (.lst (ds ++ es)))) s1)) :
    WS c (tDrop (tBM c.K "list" rExtend (tVar i) (tCons te tNil))) G s P := fun σ H0 H g D e => by
  obtain ⟨p, xs, h1, hp, _⟩ := g.ovAt hi
  refine ⟨.ref p, h1, .inl ⟨rfl, xs, .inl (.inl hp)⟩, h.use (Gd.of g) fun d s1 v H1 H1' hp1 g1 e1 r1 => ?_⟩
  obtain ⟨es, rfl, he, k⟩ := hp1
  obtain ⟨p', ys, h2, hp2, ra⟩ := g1.to.ovAt hi
  rw [h1] at h2
  cases h2
  cases r1 with
  | lst hb rb =>
    exact ⟨p, _, ys, _, rfl, rfl, hp2, g1.gd.sub _ _ hb, Nat.le_trans (Nat.add_le_add (by rw [ra.len]; exact hl) (by rw [rb.len]; exact he)) (by decide : 1000000 + 1000000 ≤ sizeLine), e.nx _ s1 _ H1 _ k (g1.to.chg hi h1 (ra.app rb)) e1 (List.length_set ..)⟩
end
/-- isinstance(x, n) of a thing of another type -/
theorem we_isiF {c : Ct} {G : List Sl} {s : c.S} {P : Sl → c.S → Prop} {te : TE} {n m : String} (kit : PySem.W.kitOne c.K (.type m) (.type n) = some false) (h : WE c te G s (FZ fun x s1 => x.ty = some m ∧ P (.dat (.bl false)) s1)) :
    WE c (tCB (rIsi c.K) (tCons te (tCons (tC (.ty n)) tNil))) G s P := fun σ F H0 H g Q q =>
  h.use g fun d s1 v H1 H1' hp g1 e1 r1 => by
    obtain ⟨hd, hp⟩ := hp
    exact ⟨v, .ty n, .type m, .type n, false, rfl, .ty n, r1.ty g1.gd.sub hd, kit, q _ s1 _ H1 H1' hp g1 e1 (.bl false)⟩
theorem kit_str_tup {K : PySem.W.Frag} : PySem.W.kitOne K (.type "str") (.type "tuple") = some false := by
  unfold PySem.W.kitOne PySem.W.kitCls
  rfl
theorem nbs_str : ∀ xs : List Str, D.nbs (xs.map D.str) = true
  | [] => rfl
  | x :: xs => by
    show (true && D.nbs (xs.map D.str)) = true
    rw [nbs_str xs]
    rfl
theorem deq_Fi {c : Ct} {G : List Sl} {s : c.S} {P : Sl → c.S → Prop} {x y : D} {n w m v : Nat} (hx : Fine n w x) (hy : Fine m v y) (h1 : n ≤ 64) (h2 : m ≤ 64) (bx : x.nb = true) (by_ : y.nb = true) (k : P (.dat (.bl (bB (x = y)))) s) : DOp c (qEq c.K) x y G s P :=
  deq hx.pl hy.pl (hx.shaped h1) (hy.shaped h2) (bB_of (eqv_nb bx by_)) k
section
variable {X : Cx} {K : PySem.W.Frag} {o e : Expr} {apos : Pos} {to : TE} {ta : TA}
theorem pe_extK {cpos : Pos} (h : X.K = K) (ho : PE X o to) (ha : PA X [e] ta) (hb : attributeBase o "extend" X.env (eval o X.env) = eval o X.env := by rfl)
    (h1 : ((backTo cpos (starEach [e] X.env)).all (fun x => !x.1) && (backToKw cpos (keywordEach [] X.env)).all (fun x => x.1.isSome) && decide ([e].length + ([] : List Keyword).length + (if ([] : List Keyword).isEmpty = true then 0 else 1) < 30)) = true := by rfl)
    (h2 : (apos.endLine == cpos.line) = true := by rfl) (h3 : starEach [e] X.env = (false, eval e X.env) :: starEach [] X.env := by rfl) (h4 : (backTo cpos (starEach [] X.env)).any (·.1) = false := by rfl) :
    PE X (.Call (.Attribute o "extend" apos) [e] [] cpos) (tBM K "list" rExtend to ta) := by
  subst h
  exact pe_bm PySem.F.plainAttrs_list PySem.F.slot_list_extend PySem.F.type_list_extend mt_extend ho ha hb h1 h2 h3 h4
end
/-! ### the letters of a question -/
namespace Qn
def known : Qn → List Nat
  | .any => []
  | .neg q => q.known
  | .both p q => p.known ++ q.known
  | .some p a q => a :: (p.known ++ q.known)
def own : Qn → List Nat
  | .some _ a _ => [a]
  | _ => []
theorem known_kids : ∀ q : Qn, q.known = q.own ++ q.kids.flatMap known
  | .any => rfl
  | .neg q => by simp [known, own, kids]
  | .both p q => by simp [known, own, kids]
  | .some p a q => by simp [known, own, kids]
theorem known_len : ∀ q : Qn, q.known.length < q.size
  | .any => by decide
  | .neg q => by have := q.known_len; show q.known.length < q.size + 1; omega
  | .both p q => by
    have := p.known_len
    have := q.known_len
    show (p.known ++ q.known).length < p.size + q.size + 1
    rw [List.length_append]
    omega
  | .some p a q => by
    have := p.known_len
    have := q.known_len
    show (a :: (p.known ++ q.known)).length < p.size + q.size + 1
    rw [List.length_cons, List.length_append]
    omega
theorem known_turn : ∀ (q : Qn) (a : Nat), a ∈ q.turn.known ↔ a ∈ q.known
  | .any, a => Iff.rfl
  | .neg q, a => q.known_turn a
  | .both p q, a => by
    show a ∈ p.turn.known ++ q.turn.known ↔ a ∈ p.known ++ q.known
    rw [List.mem_append, List.mem_append, p.known_turn, q.known_turn]
  | .some p b q, a => by
    show a ∈ b :: (q.turn.known ++ p.turn.known) ↔ a ∈ b :: (p.known ++ q.known)
    rw [List.mem_cons, List.mem_cons, List.mem_append, List.mem_append, p.known_turn, q.known_turn, Or.comm (a := a ∈ q.known)]
theorem known_in {A : List Nat} : ∀ {q : Qn}, q.In A → ∀ a ∈ q.known, a ∈ A
  | .any, _, a, h => by cases h
  | .neg q, k, a, h => known_in (q := q) k a h
  | .both p q, k, a, h => (List.mem_append.mp h).elim (known_in k.1 a) (known_in k.2 a)
  | .some p b q, k, a, h => by
    rcases List.mem_cons.mp h with rfl | h
    · exact k.2.1
    · exact (List.mem_append.mp h).elim (known_in k.1 a) (known_in k.2.2 a)
def ownS (q : Qn) : List Str := q.own.map fun a => rowS [a]
def knownS (q : Qn) : List Str := q.known.map fun a => rowS [a]
theorem knownS_kids (q : Qn) : q.knownS = q.ownS ++ q.kids.flatMap knownS := by
  unfold knownS ownS
  rw [q.known_kids, List.map_append, List.map_flatMap]
theorem kid_sz {q r : Qn} (h : r ∈ q.kids) : r.size < q.size := by
  rw [q.size_kids]
  have : ∀ (l : List Qn), r ∈ l → r.size ≤ (l.map Qn.size).sum := fun l hl => by
    induction l with
    | nil => cases hl
    | cons x l ih =>
      rw [List.map_cons, List.sum_cons]
      rcases List.mem_cons.mp hl with rfl | hl
      · omega
      · have := ih hl
        omega
  have := this _ h
  omega
def things : Qn → List (Qn ⊕ Nat)
  | .any => []
  | .neg q => [.inl q]
  | .both p q => [.inl p, .inl q]
  | .some p a q => [.inl p, .inr a, .inl q]
def thD : Qn ⊕ Nat → DL.D
  | .inl q => q.D
  | .inr a => .str (rowS [a])
def thK : Qn ⊕ Nat → List Str
  | .inl q => q.knownS
  | .inr _ => []
theorem parts_things : ∀ q : Qn, ∃ x : Str, q.parts = .str x :: q.things.map thD
  | .any => ⟨_, rfl⟩
  | .neg q => ⟨_, rfl⟩
  | .both p q => ⟨_, rfl⟩
  | .some p a q => ⟨_, rfl⟩
theorem knownS_things (q : Qn) : q.knownS = q.ownS ++ q.things.flatMap thK := by
  rw [q.knownS_kids]
  cases q <;> simp [things, thK, kids]
theorem thing_kid {q r : Qn} (h : Sum.inl r ∈ q.things) : r ∈ q.kids := by
  cases q <;> simp [things] at h <;> simp [kids, h]
theorem things_snoc {α : Type} {l : List α} {i : Nat} {x : α} (h : l[i]? = Option.some x) : l.take (i + 1) = l.take i ++ [x] := by
  obtain ⟨hi, rfl⟩ := List.getElem?_eq_some_iff.mp h
  rw [List.take_add_one, List.getElem?_eq_getElem hi]
  rfl
theorem knownS_len (q : Qn) : q.knownS.length < q.size := by
  unfold knownS
  rw [List.length_map]
  exact q.known_len
end Qn
noncomputable def letL (q : Qn) : List Str := uniqS q.knownS
def UL (q : Qn) : Prop := UniqS q.knownS (letL q)
theorem letL_turn {q : Qn} (h : UL q) (h2 : UL q.turn) : letL q.turn = letL q := uniqS_congr h2 h fun y => by
  unfold Qn.knownS
  simp only [List.mem_map, q.known_turn]
theorem letL_len {q : Qn} (h : UL q) : ((letL q).map D.str).length < q.size := by
  have h1 := List.Nodup.length_le_of_subset h.1 fun y hy => (h.2.1 y).mp hy
  have h2 := q.knownS_len
  rw [List.length_map]
  omega
theorem fine_letL {q : Qn} (h : UL q) (hi : q.In LET) (hs : q.size ≤ 63) : Fine 1 1000 (.lst ((letL q).map D.str)) := by
  have hl : (letL q).length ≤ 63 := by
    have h1 := List.Nodup.length_le_of_subset h.1 fun y hy => (h.2.1 y).mp hy
    have h2 := q.known_len
    unfold Qn.knownS at h1
    rw [List.length_map] at h1
    omega
  have hf : ∀ d ∈ (letL q).map D.str, Fine 0 12 d := fun d hd => by
    obtain ⟨y, hy, rfl⟩ := List.mem_map.mp hd
    obtain ⟨a, ha, rfl⟩ := List.mem_map.mp ((h.2.1 y).mp hy)
    exact Fine.row (l := [a]) fun b hb => by
      rw [List.mem_singleton.mp hb]
      exact LET_lt a (Qn.known_in hi a ha)
  refine (Fine.lst (FineL.all hf)).mono (Nat.le_refl _) ?_
  rw [List.length_map]
  omega
abbrev knownRS (D : Nat) : FSpec := fun ds P _ => ∃ sz : Nat, sz < D ∧ ∃ q : Qn, ds = [q.D] ∧ q.ht = sz ∧ q.size ≤ 1000 ∧ P (.own (.lst (q.knownS.map DL.D.str)))
abbrev lettersQS : FSpec := fun ds P _ => ∃ q : Qn, ds = [q.D] ∧ q.In LET ∧ q.ht ≤ 60 ∧ q.size ≤ 63 ∧ (UL q → P (.own (.lst ((letL q).map DL.D.str))))
theorem u_known {D : Nat} {q : Qn} {P : Sl → Prop} {XP : Addr → DL.D → Prop} (h : q.ht < D) (h2 : q.size ≤ 1000) (k : P (.own (.lst (q.knownS.map DL.D.str)))) : knownRS D [q.D] P XP := ⟨_, h, q, rfl, rfl, h2, k⟩
theorem u_letters {q : Qn} {P : Sl → Prop} {XP : Addr → DL.D → Prop} (h : q.In LET) (h1 : q.ht ≤ 60) (h2 : q.size ≤ 63) (k : UL q → P (.own (.lst ((letL q).map DL.D.str)))) : lettersQS [q.D] P XP := ⟨q, rfl, h, h1, h2, k⟩
abbrev lawLetRS (D : Nat) : FSpec := fun ds P _ => ∃ sz : Nat, sz < D ∧ ∃ q : Qn, ds = [q.D] ∧ q.ht = sz ∧ q.size ≤ 1000 ∧ P (.dat (.lst (q.knownS.map DL.D.str)))
theorem u_lawLet {D : Nat} {q : Qn} {P : Sl → Prop} {XP : Addr → DL.D → Prop} (h : q.ht < D) (h2 : q.size ≤ 1000) (k : P (.dat (.lst (q.knownS.map DL.D.str)))) : lawLetRS D [q.D] P XP := ⟨_, h, q, rfl, rfl, h2, k⟩
end DL
set_option maxHeartbeats 1000000
namespace My
open PySem PySem.Spec PyProof.Rows L2 DL
def topS (i : Nat) : Stmt := PySem.Challenge.pw_pickdepths_k12_depths_and_letters_of_que.main.body.getD i (.Pass ⟨0, 0, 0, 0⟩)
structure Txt (K : PySem.W.Frag) (mg : Str → Option Value) : Prop where
  n_abs : mg "abs" = none
  n_all : mg "all" = none
  n_int : mg "int" = none
  n_isinstance : mg "isinstance" = none
  n_len : mg "len" = none
  n_list : mg "list" = none
  n_max : mg "max" = none
  n_min : mg "min" = none
  n_range : mg "range" = none
  n_repr : mg "repr" = none
  n_set : mg "set" = none
  n_sorted : mg "sorted" = none
  n_str : mg "str" = none
  n_tuple : mg "tuple" = none
  g_LETTERS : ∃ t, mg "LETTERS" = some (.str "abcdefghijklmnopqrstuvwxyz" t)
local macro_rules | `(tactic| walk_at "dl") => `(tactic| first
  | with_reducible refine fz_dat ?_
  | with_reducible refine fz_own ?_
  | ((with_reducible apply we_var); focus rfl)
  | with_reducible refine we_int ?_
  | with_reducible refine we_str ?_
  | with_reducible refine we_bl ?_
  | with_reducible refine we_non ?_
  | with_reducible refine wa_nil ?_
  | with_reducible refine wa_cons ?_
  | with_reducible refine wao_nil ?_
  | with_reducible refine wao_cons ?_
  | with_reducible refine wt_yes ?_
  | with_reducible refine wt_test ?_
  | with_reducible refine wt_B ?_
  | with_reducible refine wt_not ?_
  | with_reducible refine wt_and ?_
  | with_reducible refine wt_or ?_
  | with_reducible refine ws_seq ?_
  | with_reducible refine ws_next ?_
  | with_reducible refine ws_cnt ?_
  | with_reducible refine ws_brk ?_
  | with_reducible refine ws_if ?_
  | with_reducible refine ws_retN ?_
  | with_reducible refine ws_ret ?_
  | with_reducible refine ws_asg ?_
  | with_reducible refine ws_drop ?_
  | with_reducible refine we_op ?_
  | with_reducible refine we_un ?_
  | with_reducible refine we_chain ?_
  | with_reducible refine we_cb ?_
  | with_reducible refine we_tup ?_
  | with_reducible refine we_lst ?_
  | with_reducible refine we_if ?_
  | with_reducible refine we_andV ?_
  | with_reducible refine we_orV ?_
  | with_reducible refine we_notV ?_
  | with_reducible refine we_sl ?_
  | with_reducible refine wo_none ?_
  | with_reducible refine wo_some ?_
  | with_reducible refine we_join ?_
  | with_reducible refine da_int ?_
  | with_reducible refine dop_sub ?_
  | with_reducible refine dlt_int ?_
  | with_reducible refine dle_int ?_
  | with_reducible refine dop_gt ?_
  | with_reducible refine dop_ge ?_
  | with_reducible refine dl_lst ?_
  | with_reducible refine dl_tup ?_
  | with_reducible refine db_max ?_
  | with_reducible refine db_min ?_
  | with_reducible refine db_abs ?_
  | with_reducible refine db_intI ?_
  | with_reducible refine db_intB ?_
  | ((with_reducible apply de_sc); focus rfl)
  | ((with_reducible apply dn_sc); focus rfl)
  | with_reducible refine we_draw ?_
  | ((with_reducible apply di_tup); focus rfl)
  | ((with_reducible apply di_lst); focus rfl)
  | with_reducible refine dl_row (by omega) ?_
  | with_reducible refine ds_lst ?_
  | with_reducible refine ds_tup ?_
  | refine ⟨_, rfl, ?_⟩)
local macro_rules | `(tactic| walk_at "dls") => `(tactic| repeat (walk_at "dl"))
local macro_rules | `(tactic| walk_at "e") => `(tactic| repeat (first
  | ((with_reducible refine tgWE ?_); first
      | ((with_reducible apply tgSetE); (focus (simp only [List.set_cons_succ, List.set_cons_zero]; rfl)))
      | with_reducible refine we_srtSet ?_
      | ((with_reducible apply we_callX); (focus (first | exact poolC _ _ _ _ _ _ _ | exact resC | exact onP | exact onB | exact onU onP | exact onU resC | exact onU (poolC _ _ _ _ _ _ _) | exact onU onB | exact onU (onU onP) | exact onU (onU (poolC _ _ _ _ _ _ _)))))
      | ((with_reducible refine tgNew ?_); refine we_dnewN ?_)
      | ((with_reducible apply we_methV); (focus (first | exact onK | exact onK0)); exact rfl; exact rfl)
      | with_reducible refine we_callF ?_
      | with_reducible refine we_callNF ?_
      | ((with_reducible apply we_callR); (focus (first | exact poolC _ _ _ _ _ _ _ | exact resC | exact onP | exact onB | exact onU onP | exact onU resC | exact onU (poolC _ _ _ _ _ _ _) | exact onU onB | exact onU (onU onP) | exact onU (onU (poolC _ _ _ _ _ _ _)))))
      | ((with_reducible apply we_methA); (focus (first | exact ac0 | exact onA)); (focus decide); (focus decide); (focus decide))
      | ((with_reducible apply we_fldAn); (focus (first | exact ac0 | exact onA)); assumption)
      | ((with_reducible apply we_fldAk); (focus (first | exact ac0 | exact onA)); assumption)
      | ((with_reducible apply we_fldAl); (focus (first | exact ac0 | exact onA)); assumption)
      | ((with_reducible apply we_dtnin); (focus (first | exact jc0.part subJj | exact onR.part subJj)))
      | ((with_reducible apply we_dtget); (focus (first | exact jc0.part subJj | exact onR.part subJj)))
      | ((with_reducible apply we_dinin); (focus (first | exact jc0.part subJl | exact onR.part subJl)))
      | ((with_reducible apply we_diget); (focus (first | exact jc0.part subJl | exact onR.part subJl)))
      | ((with_reducible apply we_methJ); (focus (first | exact jc0 | exact onR)); (focus decide); (focus decide); (focus decide); (focus decide))
      | ((with_reducible apply we_fldJt); (focus (first | exact jc0 | exact onR)); assumption)
      | ((with_reducible apply we_fldJs); (focus (first | exact jc0 | exact onR)); assumption)
      | ((with_reducible apply we_fldJl); (focus (first | exact jc0 | exact onR)); assumption)
      | ((with_reducible apply we_fldJj); (focus (first | exact jc0 | exact onR)); assumption)
      | ((with_reducible apply we_reprOwn2); exact rfl)
      | with_reducible refine we_maxDf ?_
      | ((with_reducible apply we_ktup); assumption)
      | with_reducible refine we_ref ?_
      | ((with_reducible apply we_callK); (focus (first | exact onK | exact onK0)))
      | with_reducible refine we_scount ?_
      | with_reducible refine we_sstarts ?_
      | with_reducible refine we_sends ?_
      | ((with_reducible apply we_revR); (focus (exact rfl)); (focus (first | assumption | omega | decide | (simp; done) | (simp; omega))))
      | with_reducible refine we_isi ?_
      | ((with_reducible apply we_var); focus rfl)
      | with_reducible refine we_int ?_
      | with_reducible refine we_str ?_
      | with_reducible refine we_bl ?_
      | with_reducible refine we_non ?_
      | with_reducible refine we_op ?_
      | with_reducible refine we_un ?_
      | with_reducible refine we_chain ?_
      | with_reducible refine we_cb ?_
      | with_reducible refine we_tup ?_
      | with_reducible refine we_lst ?_
      | with_reducible refine we_if ?_
      | with_reducible refine we_andV ?_
      | with_reducible refine we_orV ?_
      | with_reducible refine we_notV ?_
      | with_reducible refine we_sl ?_
      | with_reducible refine we_join ?_
      | with_reducible refine we_draw ?_)
  | ((with_reducible refine tgFZ ?_); first
      | with_reducible refine fz_dat ?_
      | with_reducible refine fz_own ?_)
  | ((with_reducible refine tgWA ?_); first
      | with_reducible refine wa_star ?_
      | with_reducible refine wa_nil ?_
      | with_reducible refine wa_cons ?_)
  | ((with_reducible refine tgWT ?_); first
      | ((with_reducible apply tgSetT); (focus (simp only [List.set_cons_succ, List.set_cons_zero]; rfl)))
      | with_reducible refine wt_yes ?_
      | with_reducible refine wt_test ?_
      | with_reducible refine wt_B ?_
      | with_reducible refine wt_not ?_
      | with_reducible refine wt_and ?_
      | with_reducible refine wt_or ?_)
  | ((with_reducible refine tgWAO ?_); first
      | with_reducible refine wao_nil ?_
      | with_reducible refine wao_cons ?_)
  | ((with_reducible refine tgDO ?_); first
      | ((with_reducible refine dop_shl1 ?_ ?_ ?_); (focus omega); (focus omega))
      | with_reducible refine deq_row ?_
      | ((with_reducible apply deq_enc); (focus (first | exact encNat | exact encP2 | exact encInt)))
      | ((with_reducible apply dne_enc); (focus (first | exact encNat | exact encP2 | exact encInt)))
      | ((with_reducible apply deq_encN); (focus (first | exact encNat | exact encP2 | exact encInt)))
      | ((with_reducible apply dne_encN); (focus (first | exact encNat | exact encP2 | exact encInt)))
      | ((with_reducible refine da_map ?_ ?_); (focus (first | assumption | omega | decide | (simp; done) | (simp; omega))))
      | ((with_reducible refine da_snoc2 ?_ ?_); (focus omega))
      | with_reducible refine dne_row ?_
      | ((with_reducible refine dop_fdivN ?_ ?_ ?_); (focus omega); (focus omega))
      | ((with_reducible apply di_names); assumption; (focus omega); (focus omega))
      | ((with_reducible apply di_qn); exact rfl)
      | ((with_reducible apply dnin_tab); assumption; (focus (first | exact .head _ | exact .tail _ (.head _) | exact .tail _ (.tail _ (.head _)) | exact .tail _ (.tail _ (.tail _ (.head _))))))
      | ((with_reducible apply di_tab); assumption; (focus (first | exact .head _ | exact .tail _ (.head _) | exact .tail _ (.tail _ (.head _)) | exact .tail _ (.tail _ (.tail _ (.head _))))))
      | ((with_reducible refine dop_pow2 ?_ ?_ ?_); (focus omega); (focus omega))
      | ((with_reducible refine dop_pow10 ?_ ?_ ?_); (focus omega); (focus omega))
      | with_reducible refine dis_opt ?_
      | with_reducible refine dnis_bl ?_
      | with_reducible refine dis_qn ?_
      | with_reducible refine dnis_qn ?_
      | with_reducible refine dis_non0 ?_
      | with_reducible refine dnis_non0 ?_
      | with_reducible refine dnis_opt ?_
      | with_reducible refine dle_opt ?_
      | ((with_reducible refine deq_qn ?_ ?_ ?_ ?_ ?_); (focus (first | assumption | omega | decide | (simp; done) | (simp; omega))); (focus (first | assumption | omega | decide | (simp; done) | (simp; omega))); (focus (first | assumption | omega | decide | (simp; done) | (simp; omega))); (focus (first | assumption | omega | decide | (simp; done) | (simp; omega))))
      | ((with_reducible refine dne_qn ?_ ?_ ?_ ?_ ?_); (focus (first | assumption | omega | decide | (simp; done) | (simp; omega))); (focus (first | assumption | omega | decide | (simp; done) | (simp; omega))); (focus (first | assumption | omega | decide | (simp; done) | (simp; omega))); (focus (first | assumption | omega | decide | (simp; done) | (simp; omega))))
      | with_reducible refine din_row2 ?_
      | ((with_reducible refine dm_row ?_ ?_ ?_ ?_); (focus (first | assumption | omega | decide | (simp; done) | (simp; omega))); (focus (first | assumption | omega | decide | (simp; done) | (simp; omega))); (focus (first | assumption | omega | decide | (simp; done) | (simp; omega))))
      | with_reducible refine deq_opt ?_
      | with_reducible refine dne_opt ?_
      | ((with_reducible refine deq_qn0 ?_ ?_ ?_); assumption; (focus omega))
      | with_reducible refine da_int ?_
      | with_reducible refine dop_sub ?_
      | with_reducible refine dlt_int ?_
      | with_reducible refine dle_int ?_
      | with_reducible refine dop_gt ?_
      | with_reducible refine dop_ge ?_
      | ((with_reducible apply de_sc); focus rfl)
      | ((with_reducible apply dn_sc); focus rfl)
      | ((with_reducible apply di_tup); focus rfl)
      | ((with_reducible apply di_lst); focus rfl))
  | ((with_reducible refine tgDC ?_); first
      | ((with_reducible refine dl_row ?_ ?_); (focus (first | omega | (simp; done))))
      | with_reducible refine dl_map ?_
      | ((with_reducible apply dl_names); assumption)
      | with_reducible refine db_repr2 ?_
      | ((with_reducible refine db_reprN2 ?_ ?_ ?_); (focus (first | assumption | omega | decide | (simp; done) | (simp; omega))); (focus (first | assumption | omega | decide | (simp; done) | (simp; omega))))
      | ((with_reducible refine db_sortN ?_ ?_); (focus (first | assumption | omega | decide | (simp; done) | (simp; omega))))
      | ((with_reducible refine db_sortP ?_ ?_); (focus (first | assumption | omega | decide | (simp; done) | (simp; omega))))
      | ((with_reducible apply dl_qn); exact rfl)
      | with_reducible refine db_all ?_
      | ((with_reducible apply db_isX); (focus (exact knows_exc)); (focus assumption); (focus assumption))
      | with_reducible refine db_anyB ?_
      | with_reducible refine db_listT ?_
      | with_reducible refine db_listL ?_
      | with_reducible refine dl_lst ?_
      | with_reducible refine dl_tup ?_
      | with_reducible refine db_max ?_
      | with_reducible refine db_min ?_
      | with_reducible refine db_abs ?_
      | with_reducible refine db_intI ?_
      | with_reducible refine db_intB ?_)
  | ((with_reducible refine tgDS ?_); first
      | with_reducible refine dsl_take ?_
      | with_reducible refine dsl_drop1 ?_
      | with_reducible refine dsl_drop ?_
      | ((with_reducible refine ds_mid ?_ ?_ ?_); (focus omega); (focus omega))
      | ((with_reducible refine ds_take ?_ ?_); (focus omega))
      | ((with_reducible refine ds_drop1 ?_ ?_); (focus omega))
      | ((with_reducible refine ds_drop ?_ ?_); (focus omega))
      | with_reducible refine ds_qn ?_
      | with_reducible refine ds_lst ?_
      | with_reducible refine ds_tup ?_)
  | ((with_reducible refine tgIf ?_); first
      | with_reducible refine ite_n ?_
      | ((with_reducible refine ite_BT ?_ ?_); (focus (first | assumption | (with_reducible rfl))))
      | ((with_reducible refine ite_BF ?_ ?_); (focus assumption))
      | ((with_reducible refine ite_dT ?_ ?_); (focus (first | assumption | omega | (with_reducible rfl) | (simp; done) | exact rfl)))
      | ((with_reducible refine ite_dF ?_ ?_); (focus (first | omega | decide)))
      | with_reducible refine iteT ?_
      | with_reducible refine iteF ?_)
  | ((with_reducible apply tgPick); (focus (simp only [pick, List.filterMap_cons, List.filterMap_nil, List.getElem?_cons_zero, List.getElem?_cons_succ]; rfl)))
  | ((with_reducible refine u_check_row ?_ ?_); (focus (first | assumption | omega | decide | (simp; done) | (simp; omega))))
  | ((with_reducible refine u_check_both ?_ ?_ ?_); (focus (first | assumption | omega | decide | (simp; done) | (simp; omega))); (focus (first | assumption | omega | decide | (simp; done) | (simp; omega))))
  | ((with_reducible refine u_check_depth ?_ ?_); (focus (first | assumption | omega | decide | (simp; done) | (simp; omega))))
  | ((with_reducible refine u_are_alikeN ?_ ?_ ?_ ?_ ?_ ?_); (focus (first | assumption | omega | decide | (simp; done) | (simp; omega))); (focus (first | assumption | omega | decide | (simp; done) | (simp; omega))); (focus (first | assumption | omega | decide | (simp; done) | (simp; omega))); (focus (first | assumption | omega | decide | (simp; done) | (simp; omega))); (focus (first | assumption | omega | decide | (simp; done) | (simp; omega))))
  | ((with_reducible refine u_are_alike ?_ ?_ ?_ ?_ ?_ ?_ ?_); (focus (first | assumption | omega | decide | (simp; done) | (simp; omega))); (focus (first | assumption | omega | decide | (simp; done) | (simp; omega))); (focus (first | assumption | omega | decide | (simp; done) | (simp; omega))); (focus (first | assumption | omega | decide | (simp; done) | (simp; omega))); (focus (first | assumption | omega | decide | (simp; done) | (simp; omega))); (focus (first | assumption | omega | decide | (simp; done) | (simp; omega))))
  | ((with_reducible refine u_wAlikeN ?_ ?_ ?_ ?_); (focus (first | assumption | omega | decide | (simp; done) | (simp; omega))); (focus (first | assumption | omega | decide | (simp; done) | (simp; omega))); (focus (first | assumption | omega | decide | (simp; done) | (simp; omega))))
  | ((with_reducible refine u_wAlike ?_ ?_ ?_ ?_ ?_); (focus (first | assumption | omega | decide | (simp; done) | (simp; omega))); (focus (first | assumption | omega | decide | (simp; done) | (simp; omega))); (focus (first | assumption | omega | decide | (simp; done) | (simp; omega))); (focus (first | assumption | omega | decide | (simp; done) | (simp; omega))))
  | ((with_reducible refine u_answers ?_ ?_ ?_ ?_ ?_ ?_ ?_ ?_ ?_); (focus (first | assumption | omega | decide | (simp; done) | (simp; omega))); (focus (first | assumption | omega | decide | (simp; done) | (simp; omega))); (focus (first | assumption | omega | decide | (simp; done) | (simp; omega))); (focus (first | assumption | omega | decide | (simp; done) | (simp; omega))); (focus (first | assumption | omega | decide | (simp; done) | (simp; omega))); (focus (first | assumption | omega | decide | (simp; done) | (simp; omega))); (focus (first | assumption | omega | decide | (simp; done) | (simp; omega))); (focus (first | assumption | omega | decide | (simp; done) | (simp; omega))))
  | ((with_reducible refine u_winN ?_ ?_ ?_ ?_ ?_ ?_); (focus (first | assumption | omega | decide | (simp; done) | (simp; omega))); (focus (first | assumption | omega | decide | (simp; done) | (simp; omega))); (focus (first | assumption | omega | decide | (simp; done) | (simp; omega))); (focus (first | assumption | omega | decide | (simp; done) | (simp; omega))); (focus (first | assumption | omega | decide | (simp; done) | (simp; omega))))
  | ((with_reducible refine u_win ?_ ?_ ?_ ?_ ?_ ?_ ?_); (focus (first | assumption | omega | decide | (simp; done) | (simp; omega))); (focus (first | assumption | omega | decide | (simp; done) | (simp; omega))); (focus (first | assumption | omega | decide | (simp; done) | (simp; omega))); (focus (first | assumption | omega | decide | (simp; done) | (simp; omega))); (focus (first | assumption | omega | decide | (simp; done) | (simp; omega))); (focus (first | assumption | omega | decide | (simp; done) | (simp; omega))))
  | ((with_reducible refine u_un ?_ ?_ ?_ ?_ ?_); (focus (first | assumption | omega | decide | (simp; done) | (simp; omega))); (focus (first | assumption | omega | decide | (simp; done) | (simp; omega))); (focus (first | assumption | omega | decide | (simp; done) | (simp; omega))); (focus (first | assumption | omega | decide | (simp; done) | (simp; omega))))
  | ((with_reducible refine u_draw ?_ ?_ ?_ ?_); (focus (first | assumption | omega | decide | (simp; done) | (simp; omega))); (focus (first | assumption | omega | decide | (simp; done) | (simp; omega))); (focus (first | assumption | omega | decide | (simp; done) | (simp; omega))))
  | ((with_reducible refine u_pair ?_ ?_ ?_ ?_); (focus (first | assumption | omega | decide | (simp; done) | (simp; omega))); (focus (first | assumption | omega | decide | (simp; done) | (simp; omega))); (focus (first | assumption | omega | decide | (simp; done) | (simp; omega))))
  | ((with_reducible refine u_inStep ?_ ?_); (focus (first | assumption | omega | decide | (simp; done) | (simp; omega))))
  | ((with_reducible refine u_lasts ?_ ?_ ?_ ?_ ?_ ?_); (focus (first | assumption | omega | decide | (simp; done) | (simp; omega))); (focus (first | assumption | omega | decide | (simp; done) | (simp; omega))); (focus (first | assumption | omega | decide | (simp; done) | (simp; omega))); (focus (first | assumption | omega | decide | (simp; done) | (simp; omega))); (focus (first | assumption | omega | decide | (simp; done) | (simp; omega))))
  | ((with_reducible apply u_qry); (focus (first | assumption | omega | decide | (simp; done) | (simp; omega))); (focus (first | assumption | omega | decide | (simp; done) | (simp; omega))); (focus (first | assumption | omega | decide | (simp; done) | (simp; omega))); (focus (first | assumption | omega | decide | (simp; done) | (simp; omega))); (focus (first | assumption | omega | decide | (simp; done) | (simp; omega))); (focus (first | assumption | omega | decide | (simp; done) | (simp; omega))); (focus (first | assumption | omega | decide | (simp; done) | (simp; omega))))
  | ((with_reducible apply u_steep); (focus (first | assumption | omega | decide | (simp; done) | (simp; omega))); (focus (first | assumption | omega | decide | (simp; done) | (simp; omega))); (focus (first | assumption | omega | decide | (simp; done) | (simp; omega))); (focus (first | assumption | omega | decide | (simp; done) | (simp; omega))); (focus (first | assumption | omega | decide | (simp; done) | (simp; omega))))
  | ((with_reducible apply u_anyq); (focus (first | assumption | omega | decide | (simp; done) | (simp; omega))); (focus (first | assumption | omega | decide | (simp; done) | (simp; omega))); (focus (first | assumption | omega | decide | (simp; done) | (simp; omega))); (focus (first | assumption | omega | decide | (simp; done) | (simp; omega))))
  | ((with_reducible refine u_lets ?_ ?_ ?_); (focus (first | assumption | omega | decide | (simp; done) | (simp; omega))); (focus (first | assumption | omega | decide | (simp; done) | (simp; omega))))
  | ((with_reducible refine u_letsH ?_ ?_ ?_); (focus (first | assumption | omega | decide | (simp; done) | (simp; omega))); (focus (first | assumption | omega | decide | (simp; done) | (simp; omega))))
  | ((with_reducible refine u_islet ?_ ?_); (focus (first | assumption | omega | decide | (simp; done) | (simp; omega))))
  | ((with_reducible refine u_inner ?_))
  | ((with_reducible refine u_isq ?_ ?_ ?_ ?_); (focus (first | assumption | omega | decide | (simp; done) | (simp; omega))); (focus (first | assumption | omega | decide | (simp; done) | (simp; omega))); (focus (first | assumption | omega | decide | (simp; done) | (simp; omega))))
  | ((with_reducible refine u_isqH ?_ ?_ ?_ ?_); (focus (first | assumption | omega | decide | (simp; done) | (simp; omega))); (focus (first | assumption | omega | decide | (simp; done) | (simp; omega))); (focus (first | assumption | omega | decide | (simp; done) | (simp; omega))))
  | ((with_reducible refine u_chq ?_ ?_ ?_); (focus (first | assumption | omega | decide | (simp; done) | (simp; omega))); (focus (first | assumption | omega | decide | (simp; done) | (simp; omega))))
  | ((with_reducible refine u_chqH ?_ ?_ ?_); (focus (first | assumption | omega | decide | (simp; done) | (simp; omega))); (focus (first | assumption | omega | decide | (simp; done) | (simp; omega))))
  | ((with_reducible refine u_add ?_ ?_ ?_); (focus (first | assumption | omega | decide | (simp; done) | (simp; omega))); (focus (first | assumption | omega | decide | (simp; done) | (simp; omega))))
  | ((with_reducible refine u_addH ?_ ?_ ?_); (focus (first | assumption | omega | decide | (simp; done) | (simp; omega))); (focus (first | assumption | omega | decide | (simp; done) | (simp; omega))))
  | ((with_reducible apply u_isletA); (focus (first | assumption | omega | decide | (simp; done) | (simp; omega))); (focus (first | assumption | omega | decide | (simp; done) | (simp; omega))); (focus (first | assumption | omega | decide | (simp; done) | (simp; omega))); (focus (first | assumption | omega | decide | (simp; done) | (simp; omega))); (focus (first | assumption | omega | decide | (simp; done) | (simp; omega))))
  | ((with_reducible apply u_metA); (focus (first | assumption | omega | decide | (simp; done) | (simp; omega))); (focus (first | assumption | omega | decide | (simp; done) | (simp; omega))); (focus (first | assumption | omega | decide | (simp; done) | (simp; omega))); (focus (first | assumption | omega | decide | (simp; done) | (simp; omega))); (focus (first | assumption | omega | decide | (simp; done) | (simp; omega))); (focus (first | assumption | omega | decide | (simp; done) | (simp; omega))))
  | ((with_reducible refine u_lets1 ?_ ?_ ?_); (focus (first | assumption | omega | decide | (simp; done) | (simp; omega))); (focus (first | assumption | omega | decide | (simp; done) | (simp; omega))))
  | ((with_reducible refine u_lets1H ?_ ?_ ?_ ?_); (focus (first | assumption | omega | decide | (simp; done) | (simp; omega))); (focus (first | assumption | omega | decide | (simp; done) | (simp; omega))); (focus (first | assumption | omega | decide | (simp; done) | (simp; omega))))
  | ((with_reducible refine u_letsPH ?_ ?_ ?_ ?_ ?_ ?_); (focus (first | assumption | omega | decide | (simp; done) | (simp; omega))); (focus (first | assumption | omega | decide | (simp; done) | (simp; omega))); (focus (first | assumption | omega | decide | (simp; done) | (simp; omega))); (focus (first | assumption | omega | decide | (simp; done) | (simp; omega))); (focus (first | assumption | omega | decide | (simp; done) | (simp; omega))))
  | ((with_reducible refine u_letsPa ?_ ?_ ?_); (focus (first | assumption | omega | decide | (simp; done) | (simp; omega))); (focus (first | assumption | omega | decide | (simp; done) | (simp; omega))))
  | ((with_reducible refine u_letsPn ?_ ?_ ?_ ?_ ?_); (focus (first | assumption | omega | decide | (simp; done) | (simp; omega))); (focus (first | assumption | omega | decide | (simp; done) | (simp; omega))); (focus (first | assumption | omega | decide | (simp; done) | (simp; omega))); (focus (first | assumption | omega | decide | (simp; done) | (simp; omega))))
  | ((with_reducible refine u_letsPb ?_ ?_ ?_ ?_ ?_ ?_); (focus (first | assumption | omega | decide | (simp; done) | (simp; omega))); (focus (first | assumption | omega | decide | (simp; done) | (simp; omega))); (focus (first | assumption | omega | decide | (simp; done) | (simp; omega))); (focus (first | assumption | omega | decide | (simp; done) | (simp; omega))); (focus (first | assumption | omega | decide | (simp; done) | (simp; omega))))
  | ((with_reducible refine u_letsPs ?_ ?_ ?_ ?_ ?_ ?_ ?_); (focus (first | assumption | omega | decide | (simp; done) | (simp; omega))); (focus (first | assumption | omega | decide | (simp; done) | (simp; omega))); (focus (first | assumption | omega | decide | (simp; done) | (simp; omega))); (focus (first | assumption | omega | decide | (simp; done) | (simp; omega))); (focus (first | assumption | omega | decide | (simp; done) | (simp; omega))); (focus (first | assumption | omega | decide | (simp; done) | (simp; omega))))
  | ((with_reducible refine u_letsS ?_ ?_ ?_); (focus (first | assumption | omega | decide | (simp; done) | (simp; omega))); (focus (first | assumption | omega | decide | (simp; done) | (simp; omega))))
  | ((with_reducible refine u_letsP ?_ ?_ ?_ ?_ ?_); (focus (first | assumption | omega | decide | (simp; done) | (simp; omega))); (focus (first | assumption | omega | decide | (simp; done) | (simp; omega))); (focus (first | assumption | omega | decide | (simp; done) | (simp; omega))); (focus (first | assumption | omega | decide | (simp; done) | (simp; omega))))
  | ((with_reducible apply u_line); (focus (first | assumption | omega | decide | (simp; done) | (simp; omega))); (focus (first | assumption | omega | decide | (simp; done) | (simp; omega))); (focus (first | assumption | omega | decide | (simp; done) | (simp; omega))))
  | ((with_reducible refine u_turnA ?_ ?_); (focus (first | assumption | omega | decide | (simp; done) | (simp; omega))))
  | ((with_reducible refine u_turnAH ?_ ?_); (focus (first | assumption | omega | decide | (simp; done) | (simp; omega))))
  | ((with_reducible refine u_turnQ ?_ ?_ ?_); (focus (first | assumption | omega | decide | (simp; done) | (simp; omega))); (focus (first | assumption | omega | decide | (simp; done) | (simp; omega))))
  | ((with_reducible refine u_turnQH ?_ ?_ ?_); (focus (first | assumption | omega | decide | (simp; done) | (simp; omega))); (focus (first | assumption | omega | decide | (simp; done) | (simp; omega))))
  | ((with_reducible refine u_turnQS ?_ ?_ ?_ ?_ ?_); (focus (first | assumption | omega | decide | (simp; done) | (simp; omega))); (focus (first | assumption | omega | decide | (simp; done) | (simp; omega))); (focus (first | assumption | omega | decide | (simp; done) | (simp; omega))); (focus (first | assumption | omega | decide | (simp; done) | (simp; omega))))
  | ((with_reducible refine u_places ?_ ?_ ?_ ?_ ?_); (focus (first | assumption | omega | decide | (simp; done) | (simp; omega))); (focus (first | assumption | omega | decide | (simp; done) | (simp; omega))); (focus (first | assumption | omega | decide | (simp; done) | (simp; omega))); (focus (first | assumption | omega | decide | (simp; done) | (simp; omega))))
  | ((with_reducible refine u_placesS ?_ ?_ ?_ ?_ ?_ ?_ ?_); (focus (first | assumption | omega | decide | (simp; done) | (simp; omega))); (focus (first | assumption | omega | decide | (simp; done) | (simp; omega))); (focus (first | assumption | omega | decide | (simp; done) | (simp; omega))); (focus (first | assumption | omega | decide | (simp; done) | (simp; omega))); (focus (first | assumption | omega | decide | (simp; done) | (simp; omega))); (focus (first | assumption | omega | decide | (simp; done) | (simp; omega))))
  | ((with_reducible refine u_parting ?_ ?_ ?_ ?_ ?_); (focus (first | assumption | omega | decide | (simp; done) | (simp; omega))); (focus (first | assumption | omega | decide | (simp; done) | (simp; omega))); (focus (first | assumption | omega | decide | (simp; done) | (simp; omega))); (focus (first | assumption | omega | decide | (simp; done) | (simp; omega))))
  | ((with_reducible refine u_pat ?_))
  | ((with_reducible refine u_bare ?_))
  | ((with_reducible refine u_has ?_ ?_ ?_); (focus (first | assumption | omega | decide | (simp; done) | (simp; omega))); (focus (first | assumption | omega | decide | (simp; done) | (simp; omega))))
  | ((with_reducible refine u_allOf ?_ ?_ ?_ ?_); (focus (first | assumption | omega | decide | (simp; done) | (simp; omega))); (focus (first | assumption | omega | decide | (simp; done) | (simp; omega))); (focus (first | assumption | omega | decide | (simp; done) | (simp; omega))))
  | ((with_reducible apply u_leastOf); (focus (first | assumption | omega | decide | (simp; done) | (simp; omega))); (focus (first | assumption | omega | decide | (simp; done) | (simp; omega))); (focus (first | assumption | omega | decide | (simp; done) | (simp; omega))); (focus (first | assumption | omega | decide | (simp; done) | (simp; omega))); (focus (first | assumption | omega | decide | (simp; done) | (simp; omega))))
  | ((with_reducible refine u_depIn ?_ ?_); (focus (first | assumption | omega | decide | (simp; done) | (simp; omega))))
  | ((with_reducible refine u_depOf ?_ ?_ ?_); (focus (first | assumption | omega | decide | (simp; done) | (simp; omega))); (focus (first | assumption | omega | decide | (simp; done) | (simp; omega))))
  | ((with_reducible refine u_depOfH ?_ ?_ ?_); (focus (first | assumption | omega | decide | (simp; done) | (simp; omega))); (focus (first | assumption | omega | decide | (simp; done) | (simp; omega))))
  | ((with_reducible refine u_sameMany ?_ ?_ ?_ ?_ ?_); (focus (first | assumption | omega | decide | (simp; done) | (simp; omega))); (focus (first | assumption | omega | decide | (simp; done) | (simp; omega))); (focus (first | assumption | omega | decide | (simp; done) | (simp; omega))); (focus (first | assumption | omega | decide | (simp; done) | (simp; omega))))
  | ((with_reducible refine u_settledN ?_ ?_ ?_ ?_); (focus (first | assumption | omega | decide | (simp; done) | (simp; omega))); (focus (first | assumption | omega | decide | (simp; done) | (simp; omega))); (focus (first | assumption | omega | decide | (simp; done) | (simp; omega))))
  | ((with_reducible refine u_isBlk ?_))
  | ((with_reducible refine u_depB ?_ ?_ ?_ ?_); (focus (first | assumption | omega | decide | (simp; done) | (simp; omega))); (focus (first | assumption | omega | decide | (simp; done) | (simp; omega))); (focus (first | assumption | omega | decide | (simp; done) | (simp; omega))))
  | ((with_reducible refine u_ct ?_ ?_ ?_ ?_); (focus (first | assumption | omega | decide | (simp; done) | (simp; omega))); (focus (first | assumption | omega | decide | (simp; done) | (simp; omega))); (focus (first | assumption | omega | decide | (simp; done) | (simp; omega))))
  | ((with_reducible refine u_cb ?_ ?_ ?_ ?_); (focus (first | assumption | omega | decide | (simp; done) | (simp; omega))); (focus (first | assumption | omega | decide | (simp; done) | (simp; omega))); (focus (first | assumption | omega | decide | (simp; done) | (simp; omega))))
  | with_reducible refine dun_neg ?_
  | with_reducible refine tgA2 ?_
  | with_reducible refine tgA3 ?_
  | with_reducible refine tgEx2 ?_
  | with_reducible refine tgEx3 ?_
  | with_reducible refine tgEx4 ?_
  | with_reducible refine tgT2 ?_
  | with_reducible refine tgT3 ?_
  | with_reducible refine tgL2 ?_
  | with_reducible refine tgT4 ?_
  | refine ⟨_, (Or.inl rfl : DL.D.lst _ = DL.D.lst _ ∨ _), ?_⟩
  | refine ⟨_, (Or.inr rfl : _ ∨ DL.D.tup _ = DL.D.tup _), ?_⟩
  | with_reducible refine xin_no ?_
  | with_reducible refine xr_no ?_
  | refine ⟨(rfl : DL.D.ref _ = DL.D.ref _), ?_⟩
  | refine ⟨(rfl : DL.D.ty _ = Option.some _), ?_⟩
  | refine ⟨Qn.ty _, ?_⟩
  | refine ⟨(by simp : List.length _ ≤ 100000), ?_⟩
  | refine ⟨(by simp : List.length _ = _), ?_⟩
  | with_reducible refine wo_none ?_
  | with_reducible refine wo_some ?_
  | refine ⟨_, rfl, ?_⟩))
local macro_rules | `(tactic| walk_at "hl") => `(tactic| first
  | (rintro ⟨e, _⟩; rw [e]; rfl)
  | (rintro ⟨_, e, _⟩; rw [e]; rfl)
  | (rintro ⟨_, _, e, _⟩; rw [e]; rfl)
  | (rintro ⟨_, _, _, e, _⟩; rw [e]; rfl)
  | (rintro ⟨_, _, _, _, e, _⟩; rw [e]; rfl)
  | (rintro ⟨_, _, _, _, _, e, _⟩; rw [e]; rfl)
  | (rintro ⟨_, _, _, _, _, _, e, _⟩; rw [e]; rfl)
  | (rintro ⟨_, _, _, _, _, _, _, e, _⟩; rw [e]; rfl)
  | (rintro ⟨_, _, _, _, _, _, _, _, e, _⟩; rw [e]; rfl)
  | (rintro ⟨_, _, _, _, _, _, _, _, _, e, _⟩; rw [e]; rfl)
  | (rintro ⟨_, _, _, _, _, _, _, _, _, _, e, _⟩; rw [e]; rfl)
  | (rintro ⟨_, _, _, _, _, _, _, _, _, _, _, e, _⟩; rw [e]; rfl))
local macro_rules | `(tactic| walk_at "rec0") => `(tactic| first
  | (rintro ⟨_, _, _, _, _, _, _, _, ⟨_, h0, _⟩, _⟩; exact absurd h0 (Nat.not_lt_zero _))
  | (rintro ⟨_, _, _, ⟨_, h0, _⟩, _⟩; exact absurd h0 (Nat.not_lt_zero _))
  | (rintro ⟨_, _, _, _, _, ⟨_, h0, _⟩, _⟩; exact absurd h0 (Nat.not_lt_zero _))
  | (rintro ⟨_, _, _, _, _, _, ⟨_, h0, _⟩, _⟩; exact absurd h0 (Nat.not_lt_zero _)))
local macro_rules | `(tactic| walk_at "v") => `(tactic| repeat (first
  | ((with_reducible refine tgWE ?_); first
      | ((with_reducible apply tgSetE); (focus (simp only [List.set_cons_succ, List.set_cons_zero]; rfl)))
      | with_reducible refine we_srtSet ?_
      | ((with_reducible apply we_callX); (focus (first | exact poolC _ _ _ _ _ _ _ | exact resC | exact onP | exact onB | exact onU onP | exact onU resC | exact onU (poolC _ _ _ _ _ _ _) | exact onU onB | exact onU (onU onP) | exact onU (onU (poolC _ _ _ _ _ _ _)))))
      | ((with_reducible refine tgNew ?_); refine we_dnewN ?_)
      | ((with_reducible apply we_methV); (focus (first | exact onK | exact onK0)); exact rfl; exact rfl)
      | with_reducible refine we_callF ?_
      | with_reducible refine we_callNF ?_
      | ((with_reducible apply we_callR); (focus (first | exact poolC _ _ _ _ _ _ _ | exact resC | exact onP | exact onB | exact onU onP | exact onU resC | exact onU (poolC _ _ _ _ _ _ _) | exact onU onB | exact onU (onU onP) | exact onU (onU (poolC _ _ _ _ _ _ _)))))
      | ((with_reducible apply we_methA); (focus (first | exact ac0 | exact onA)); (focus decide); (focus decide); (focus decide))
      | ((with_reducible apply we_fldAn); (focus (first | exact ac0 | exact onA)); assumption)
      | ((with_reducible apply we_fldAk); (focus (first | exact ac0 | exact onA)); assumption)
      | ((with_reducible apply we_fldAl); (focus (first | exact ac0 | exact onA)); assumption)
      | ((with_reducible apply we_dtnin); (focus (first | exact jc0.part subJj | exact onR.part subJj)))
      | ((with_reducible apply we_dtget); (focus (first | exact jc0.part subJj | exact onR.part subJj)))
      | ((with_reducible apply we_dinin); (focus (first | exact jc0.part subJl | exact onR.part subJl)))
      | ((with_reducible apply we_diget); (focus (first | exact jc0.part subJl | exact onR.part subJl)))
      | ((with_reducible apply we_methJ); (focus (first | exact jc0 | exact onR)); (focus decide); (focus decide); (focus decide); (focus decide))
      | ((with_reducible apply we_fldJt); (focus (first | exact jc0 | exact onR)); assumption)
      | ((with_reducible apply we_fldJs); (focus (first | exact jc0 | exact onR)); assumption)
      | ((with_reducible apply we_fldJl); (focus (first | exact jc0 | exact onR)); assumption)
      | ((with_reducible apply we_fldJj); (focus (first | exact jc0 | exact onR)); assumption)
      | ((with_reducible apply we_reprOwn2); exact rfl)
      | with_reducible refine we_maxDf ?_
      | ((with_reducible apply we_ktup); assumption)
      | with_reducible refine we_ref ?_
      | ((with_reducible apply we_callK); (focus (first | exact onK | exact onK0)))
      | with_reducible refine we_scount ?_
      | with_reducible refine we_sstarts ?_
      | with_reducible refine we_sends ?_
      | ((with_reducible apply we_revR); (focus (exact rfl)); (focus (first | assumption | omega | decide | (simp; done) | (simp; omega))))
      | with_reducible refine we_isi ?_
      | ((with_reducible apply we_var); focus rfl)
      | with_reducible refine we_int ?_
      | with_reducible refine we_str ?_
      | with_reducible refine we_bl ?_
      | with_reducible refine we_non ?_
      | with_reducible refine we_op ?_
      | with_reducible refine we_un ?_
      | with_reducible refine we_chain ?_
      | with_reducible refine we_cb ?_
      | with_reducible refine we_tup ?_
      | with_reducible refine we_lst ?_
      | with_reducible refine we_if ?_
      | with_reducible refine we_andV ?_
      | with_reducible refine we_orV ?_
      | with_reducible refine we_notV ?_
      | with_reducible refine we_sl ?_
      | with_reducible refine we_join ?_
      | with_reducible refine we_draw ?_)
  | ((with_reducible refine tgWS ?_); first
      | ((with_reducible apply tgSet); (focus (simp only [List.set_cons_succ, List.set_cons_zero]; rfl)))
      | ((with_reducible apply ws_retOwn); exact rfl)
      | ((with_reducible apply ws_app); exact rfl; (focus (first | assumption | omega | decide | (simp; done) | (simp; omega))))
      | ((with_reducible apply ws_ext); exact rfl; (focus (first | assumption | omega | decide | (simp; done) | (simp; omega))))
      | with_reducible refine ws_nx ?_
      | with_reducible refine ws_asgF ?_
      | with_reducible refine ws_parF ?_
      | with_reducible refine ws_par3F ?_
      | ((with_reducible refine ws_par3 ?_ ?_ ?_ ?_); (focus (simp; done)); (focus (simp; done)); (focus (simp; done)))
      | ((with_reducible refine ws_tup3 rfl ?_ ?_ ?_ ?_); (focus (simp; done)); (focus (simp; done)); (focus (simp; done)))
      | ((with_reducible refine ws_tup4 rfl ?_ ?_ ?_ ?_ ?_); (focus (simp; done)); (focus (simp; done)); (focus (simp; done)); (focus (simp; done)))
      | ((with_reducible refine ws_asg2 rfl ?_ ?_ ?_); (focus (simp; done)); (focus (simp; done)))
      | ((with_reducible refine ws_asgL2 rfl ?_ ?_ ?_); (focus (simp; done)); (focus (simp; done)))
      | ((with_reducible refine ws_asg3 rfl ?_ ?_ ?_ ?_); (focus (simp; done)); (focus (simp; done)); (focus (simp; done)))
      | ((with_reducible refine ws_par ?_ ?_ ?_); (focus (simp; done)); (focus (simp; done)))
      | with_reducible refine ws_newK fun _ _ _ _ => ?_
      | with_reducible refine ws_newA ?_
      | with_reducible refine ws_newR ?_
      | with_reducible refine ws_newR2 ?_
      | ((with_reducible refine ws_asg4 rfl ?_ ?_ ?_ ?_ ?_); (focus (simp; done)); (focus (simp; done)); (focus (simp; done)); (focus (simp; done)))
      | with_reducible refine ws_seq ?_
      | with_reducible refine ws_next ?_
      | with_reducible refine ws_cnt ?_
      | with_reducible refine ws_brk ?_
      | with_reducible refine ws_if ?_
      | with_reducible refine ws_retN ?_
      | with_reducible refine ws_ret ?_
      | with_reducible refine ws_asg ?_
      | with_reducible refine ws_drop ?_)
  | ((with_reducible refine tgFZ ?_); first
      | with_reducible refine fz_dat ?_
      | with_reducible refine fz_own ?_)
  | ((with_reducible refine tgWA ?_); first
      | with_reducible refine wa_star ?_
      | with_reducible refine wa_nil ?_
      | with_reducible refine wa_cons ?_)
  | ((with_reducible refine tgWT ?_); first
      | ((with_reducible apply tgSetT); (focus (simp only [List.set_cons_succ, List.set_cons_zero]; rfl)))
      | with_reducible refine wt_yes ?_
      | with_reducible refine wt_test ?_
      | with_reducible refine wt_B ?_
      | with_reducible refine wt_not ?_
      | with_reducible refine wt_and ?_
      | with_reducible refine wt_or ?_)
  | ((with_reducible refine tgWAO ?_); first
      | with_reducible refine wao_nil ?_
      | with_reducible refine wao_cons ?_)
  | ((with_reducible refine tgDO ?_); first
      | ((with_reducible refine dop_shl1 ?_ ?_ ?_); (focus omega); (focus omega))
      | with_reducible refine deq_row ?_
      | ((with_reducible apply deq_enc); (focus (first | exact encNat | exact encP2 | exact encInt)))
      | ((with_reducible apply dne_enc); (focus (first | exact encNat | exact encP2 | exact encInt)))
      | ((with_reducible apply deq_encN); (focus (first | exact encNat | exact encP2 | exact encInt)))
      | ((with_reducible apply dne_encN); (focus (first | exact encNat | exact encP2 | exact encInt)))
      | ((with_reducible refine da_map ?_ ?_); (focus (first | assumption | omega | decide | (simp; done) | (simp; omega))))
      | ((with_reducible refine da_snoc2 ?_ ?_); (focus omega))
      | with_reducible refine dne_row ?_
      | ((with_reducible refine dop_fdivN ?_ ?_ ?_); (focus omega); (focus omega))
      | ((with_reducible apply di_names); assumption; (focus omega); (focus omega))
      | ((with_reducible apply di_qn); exact rfl)
      | ((with_reducible apply dnin_tab); assumption; (focus (first | exact .head _ | exact .tail _ (.head _) | exact .tail _ (.tail _ (.head _)) | exact .tail _ (.tail _ (.tail _ (.head _))))))
      | ((with_reducible apply di_tab); assumption; (focus (first | exact .head _ | exact .tail _ (.head _) | exact .tail _ (.tail _ (.head _)) | exact .tail _ (.tail _ (.tail _ (.head _))))))
      | ((with_reducible refine dop_pow2 ?_ ?_ ?_); (focus omega); (focus omega))
      | ((with_reducible refine dop_pow10 ?_ ?_ ?_); (focus omega); (focus omega))
      | with_reducible refine dis_opt ?_
      | with_reducible refine dnis_bl ?_
      | with_reducible refine dis_qn ?_
      | with_reducible refine dnis_qn ?_
      | with_reducible refine dis_non0 ?_
      | with_reducible refine dnis_non0 ?_
      | with_reducible refine dnis_opt ?_
      | with_reducible refine dle_opt ?_
      | ((with_reducible refine deq_qn ?_ ?_ ?_ ?_ ?_); (focus (first | assumption | omega | decide | (simp; done) | (simp; omega))); (focus (first | assumption | omega | decide | (simp; done) | (simp; omega))); (focus (first | assumption | omega | decide | (simp; done) | (simp; omega))); (focus (first | assumption | omega | decide | (simp; done) | (simp; omega))))
      | ((with_reducible refine dne_qn ?_ ?_ ?_ ?_ ?_); (focus (first | assumption | omega | decide | (simp; done) | (simp; omega))); (focus (first | assumption | omega | decide | (simp; done) | (simp; omega))); (focus (first | assumption | omega | decide | (simp; done) | (simp; omega))); (focus (first | assumption | omega | decide | (simp; done) | (simp; omega))))
      | with_reducible refine din_row2 ?_
      | ((with_reducible refine dm_row ?_ ?_ ?_ ?_); (focus (first | assumption | omega | decide | (simp; done) | (simp; omega))); (focus (first | assumption | omega | decide | (simp; done) | (simp; omega))); (focus (first | assumption | omega | decide | (simp; done) | (simp; omega))))
      | with_reducible refine deq_opt ?_
      | with_reducible refine dne_opt ?_
      | ((with_reducible refine deq_qn0 ?_ ?_ ?_); assumption; (focus omega))
      | with_reducible refine da_int ?_
      | with_reducible refine dop_sub ?_
      | with_reducible refine dlt_int ?_
      | with_reducible refine dle_int ?_
      | with_reducible refine dop_gt ?_
      | with_reducible refine dop_ge ?_
      | ((with_reducible apply de_sc); focus rfl)
      | ((with_reducible apply dn_sc); focus rfl)
      | ((with_reducible apply di_tup); focus rfl)
      | ((with_reducible apply di_lst); focus rfl))
  | ((with_reducible refine tgDC ?_); first
      | ((with_reducible refine dl_row ?_ ?_); (focus (first | omega | (simp; done))))
      | with_reducible refine dl_map ?_
      | ((with_reducible apply dl_names); assumption)
      | with_reducible refine db_repr2 ?_
      | ((with_reducible refine db_reprN2 ?_ ?_ ?_); (focus (first | assumption | omega | decide | (simp; done) | (simp; omega))); (focus (first | assumption | omega | decide | (simp; done) | (simp; omega))))
      | ((with_reducible refine db_sortN ?_ ?_); (focus (first | assumption | omega | decide | (simp; done) | (simp; omega))))
      | ((with_reducible refine db_sortP ?_ ?_); (focus (first | assumption | omega | decide | (simp; done) | (simp; omega))))
      | ((with_reducible apply dl_qn); exact rfl)
      | with_reducible refine db_all ?_
      | ((with_reducible apply db_isX); (focus (exact knows_exc)); (focus assumption); (focus assumption))
      | with_reducible refine db_anyB ?_
      | with_reducible refine db_listT ?_
      | with_reducible refine db_listL ?_
      | with_reducible refine dl_lst ?_
      | with_reducible refine dl_tup ?_
      | with_reducible refine db_max ?_
      | with_reducible refine db_min ?_
      | with_reducible refine db_abs ?_
      | with_reducible refine db_intI ?_
      | with_reducible refine db_intB ?_)
  | ((with_reducible refine tgDS ?_); first
      | with_reducible refine dsl_take ?_
      | with_reducible refine dsl_drop1 ?_
      | with_reducible refine dsl_drop ?_
      | ((with_reducible refine ds_mid ?_ ?_ ?_); (focus omega); (focus omega))
      | ((with_reducible refine ds_take ?_ ?_); (focus omega))
      | ((with_reducible refine ds_drop1 ?_ ?_); (focus omega))
      | ((with_reducible refine ds_drop ?_ ?_); (focus omega))
      | with_reducible refine ds_qn ?_
      | with_reducible refine ds_lst ?_
      | with_reducible refine ds_tup ?_)
  | ((with_reducible refine tgIf ?_); first
      | with_reducible refine ite_n ?_
      | ((with_reducible refine ite_BT ?_ ?_); (focus (first | assumption | (with_reducible rfl))))
      | ((with_reducible refine ite_BF ?_ ?_); (focus assumption))
      | ((with_reducible refine ite_dT ?_ ?_); (focus (first | assumption | omega | (with_reducible rfl) | (simp; done) | exact rfl)))
      | ((with_reducible refine ite_dF ?_ ?_); (focus (first | omega | decide)))
      | with_reducible refine iteT ?_
      | with_reducible refine iteF ?_)
  | ((with_reducible apply tgPick); (focus (simp only [pick, List.filterMap_cons, List.filterMap_nil, List.getElem?_cons_zero, List.getElem?_cons_succ]; rfl)))
  | ((with_reducible refine u_check_row ?_ ?_); (focus (first | assumption | omega | decide | (simp; done) | (simp; omega))))
  | ((with_reducible refine u_check_both ?_ ?_ ?_); (focus (first | assumption | omega | decide | (simp; done) | (simp; omega))); (focus (first | assumption | omega | decide | (simp; done) | (simp; omega))))
  | ((with_reducible refine u_check_depth ?_ ?_); (focus (first | assumption | omega | decide | (simp; done) | (simp; omega))))
  | ((with_reducible refine u_are_alikeN ?_ ?_ ?_ ?_ ?_ ?_); (focus (first | assumption | omega | decide | (simp; done) | (simp; omega))); (focus (first | assumption | omega | decide | (simp; done) | (simp; omega))); (focus (first | assumption | omega | decide | (simp; done) | (simp; omega))); (focus (first | assumption | omega | decide | (simp; done) | (simp; omega))); (focus (first | assumption | omega | decide | (simp; done) | (simp; omega))))
  | ((with_reducible refine u_are_alike ?_ ?_ ?_ ?_ ?_ ?_ ?_); (focus (first | assumption | omega | decide | (simp; done) | (simp; omega))); (focus (first | assumption | omega | decide | (simp; done) | (simp; omega))); (focus (first | assumption | omega | decide | (simp; done) | (simp; omega))); (focus (first | assumption | omega | decide | (simp; done) | (simp; omega))); (focus (first | assumption | omega | decide | (simp; done) | (simp; omega))); (focus (first | assumption | omega | decide | (simp; done) | (simp; omega))))
  | ((with_reducible refine u_wAlikeN ?_ ?_ ?_ ?_); (focus (first | assumption | omega | decide | (simp; done) | (simp; omega))); (focus (first | assumption | omega | decide | (simp; done) | (simp; omega))); (focus (first | assumption | omega | decide | (simp; done) | (simp; omega))))
  | ((with_reducible refine u_wAlike ?_ ?_ ?_ ?_ ?_); (focus (first | assumption | omega | decide | (simp; done) | (simp; omega))); (focus (first | assumption | omega | decide | (simp; done) | (simp; omega))); (focus (first | assumption | omega | decide | (simp; done) | (simp; omega))); (focus (first | assumption | omega | decide | (simp; done) | (simp; omega))))
  | ((with_reducible refine u_answers ?_ ?_ ?_ ?_ ?_ ?_ ?_ ?_ ?_); (focus (first | assumption | omega | decide | (simp; done) | (simp; omega))); (focus (first | assumption | omega | decide | (simp; done) | (simp; omega))); (focus (first | assumption | omega | decide | (simp; done) | (simp; omega))); (focus (first | assumption | omega | decide | (simp; done) | (simp; omega))); (focus (first | assumption | omega | decide | (simp; done) | (simp; omega))); (focus (first | assumption | omega | decide | (simp; done) | (simp; omega))); (focus (first | assumption | omega | decide | (simp; done) | (simp; omega))); (focus (first | assumption | omega | decide | (simp; done) | (simp; omega))))
  | ((with_reducible refine u_winN ?_ ?_ ?_ ?_ ?_ ?_); (focus (first | assumption | omega | decide | (simp; done) | (simp; omega))); (focus (first | assumption | omega | decide | (simp; done) | (simp; omega))); (focus (first | assumption | omega | decide | (simp; done) | (simp; omega))); (focus (first | assumption | omega | decide | (simp; done) | (simp; omega))); (focus (first | assumption | omega | decide | (simp; done) | (simp; omega))))
  | ((with_reducible refine u_win ?_ ?_ ?_ ?_ ?_ ?_ ?_); (focus (first | assumption | omega | decide | (simp; done) | (simp; omega))); (focus (first | assumption | omega | decide | (simp; done) | (simp; omega))); (focus (first | assumption | omega | decide | (simp; done) | (simp; omega))); (focus (first | assumption | omega | decide | (simp; done) | (simp; omega))); (focus (first | assumption | omega | decide | (simp; done) | (simp; omega))); (focus (first | assumption | omega | decide | (simp; done) | (simp; omega))))
  | ((with_reducible refine u_un ?_ ?_ ?_ ?_ ?_); (focus (first | assumption | omega | decide | (simp; done) | (simp; omega))); (focus (first | assumption | omega | decide | (simp; done) | (simp; omega))); (focus (first | assumption | omega | decide | (simp; done) | (simp; omega))); (focus (first | assumption | omega | decide | (simp; done) | (simp; omega))))
  | ((with_reducible refine u_draw ?_ ?_ ?_ ?_); (focus (first | assumption | omega | decide | (simp; done) | (simp; omega))); (focus (first | assumption | omega | decide | (simp; done) | (simp; omega))); (focus (first | assumption | omega | decide | (simp; done) | (simp; omega))))
  | ((with_reducible refine u_pair ?_ ?_ ?_ ?_); (focus (first | assumption | omega | decide | (simp; done) | (simp; omega))); (focus (first | assumption | omega | decide | (simp; done) | (simp; omega))); (focus (first | assumption | omega | decide | (simp; done) | (simp; omega))))
  | ((with_reducible refine u_inStep ?_ ?_); (focus (first | assumption | omega | decide | (simp; done) | (simp; omega))))
  | ((with_reducible refine u_lasts ?_ ?_ ?_ ?_ ?_ ?_); (focus (first | assumption | omega | decide | (simp; done) | (simp; omega))); (focus (first | assumption | omega | decide | (simp; done) | (simp; omega))); (focus (first | assumption | omega | decide | (simp; done) | (simp; omega))); (focus (first | assumption | omega | decide | (simp; done) | (simp; omega))); (focus (first | assumption | omega | decide | (simp; done) | (simp; omega))))
  | ((with_reducible apply u_qry); (focus (first | assumption | omega | decide | (simp; done) | (simp; omega))); (focus (first | assumption | omega | decide | (simp; done) | (simp; omega))); (focus (first | assumption | omega | decide | (simp; done) | (simp; omega))); (focus (first | assumption | omega | decide | (simp; done) | (simp; omega))); (focus (first | assumption | omega | decide | (simp; done) | (simp; omega))); (focus (first | assumption | omega | decide | (simp; done) | (simp; omega))); (focus (first | assumption | omega | decide | (simp; done) | (simp; omega))))
  | ((with_reducible apply u_steep); (focus (first | assumption | omega | decide | (simp; done) | (simp; omega))); (focus (first | assumption | omega | decide | (simp; done) | (simp; omega))); (focus (first | assumption | omega | decide | (simp; done) | (simp; omega))); (focus (first | assumption | omega | decide | (simp; done) | (simp; omega))); (focus (first | assumption | omega | decide | (simp; done) | (simp; omega))))
  | ((with_reducible apply u_anyq); (focus (first | assumption | omega | decide | (simp; done) | (simp; omega))); (focus (first | assumption | omega | decide | (simp; done) | (simp; omega))); (focus (first | assumption | omega | decide | (simp; done) | (simp; omega))); (focus (first | assumption | omega | decide | (simp; done) | (simp; omega))))
  | ((with_reducible refine u_lets ?_ ?_ ?_); (focus (first | assumption | omega | decide | (simp; done) | (simp; omega))); (focus (first | assumption | omega | decide | (simp; done) | (simp; omega))))
  | ((with_reducible refine u_letsH ?_ ?_ ?_); (focus (first | assumption | omega | decide | (simp; done) | (simp; omega))); (focus (first | assumption | omega | decide | (simp; done) | (simp; omega))))
  | ((with_reducible refine u_islet ?_ ?_); (focus (first | assumption | omega | decide | (simp; done) | (simp; omega))))
  | ((with_reducible refine u_inner ?_))
  | ((with_reducible refine u_isq ?_ ?_ ?_ ?_); (focus (first | assumption | omega | decide | (simp; done) | (simp; omega))); (focus (first | assumption | omega | decide | (simp; done) | (simp; omega))); (focus (first | assumption | omega | decide | (simp; done) | (simp; omega))))
  | ((with_reducible refine u_isqH ?_ ?_ ?_ ?_); (focus (first | assumption | omega | decide | (simp; done) | (simp; omega))); (focus (first | assumption | omega | decide | (simp; done) | (simp; omega))); (focus (first | assumption | omega | decide | (simp; done) | (simp; omega))))
  | ((with_reducible refine u_chq ?_ ?_ ?_); (focus (first | assumption | omega | decide | (simp; done) | (simp; omega))); (focus (first | assumption | omega | decide | (simp; done) | (simp; omega))))
  | ((with_reducible refine u_chqH ?_ ?_ ?_); (focus (first | assumption | omega | decide | (simp; done) | (simp; omega))); (focus (first | assumption | omega | decide | (simp; done) | (simp; omega))))
  | ((with_reducible refine u_add ?_ ?_ ?_); (focus (first | assumption | omega | decide | (simp; done) | (simp; omega))); (focus (first | assumption | omega | decide | (simp; done) | (simp; omega))))
  | ((with_reducible refine u_addH ?_ ?_ ?_); (focus (first | assumption | omega | decide | (simp; done) | (simp; omega))); (focus (first | assumption | omega | decide | (simp; done) | (simp; omega))))
  | ((with_reducible apply u_isletA); (focus (first | assumption | omega | decide | (simp; done) | (simp; omega))); (focus (first | assumption | omega | decide | (simp; done) | (simp; omega))); (focus (first | assumption | omega | decide | (simp; done) | (simp; omega))); (focus (first | assumption | omega | decide | (simp; done) | (simp; omega))); (focus (first | assumption | omega | decide | (simp; done) | (simp; omega))))
  | ((with_reducible apply u_metA); (focus (first | assumption | omega | decide | (simp; done) | (simp; omega))); (focus (first | assumption | omega | decide | (simp; done) | (simp; omega))); (focus (first | assumption | omega | decide | (simp; done) | (simp; omega))); (focus (first | assumption | omega | decide | (simp; done) | (simp; omega))); (focus (first | assumption | omega | decide | (simp; done) | (simp; omega))); (focus (first | assumption | omega | decide | (simp; done) | (simp; omega))))
  | ((with_reducible refine u_lets1 ?_ ?_ ?_); (focus (first | assumption | omega | decide | (simp; done) | (simp; omega))); (focus (first | assumption | omega | decide | (simp; done) | (simp; omega))))
  | ((with_reducible refine u_lets1H ?_ ?_ ?_ ?_); (focus (first | assumption | omega | decide | (simp; done) | (simp; omega))); (focus (first | assumption | omega | decide | (simp; done) | (simp; omega))); (focus (first | assumption | omega | decide | (simp; done) | (simp; omega))))
  | ((with_reducible refine u_letsPH ?_ ?_ ?_ ?_ ?_ ?_); (focus (first | assumption | omega | decide | (simp; done) | (simp; omega))); (focus (first | assumption | omega | decide | (simp; done) | (simp; omega))); (focus (first | assumption | omega | decide | (simp; done) | (simp; omega))); (focus (first | assumption | omega | decide | (simp; done) | (simp; omega))); (focus (first | assumption | omega | decide | (simp; done) | (simp; omega))))
  | ((with_reducible refine u_letsPa ?_ ?_ ?_); (focus (first | assumption | omega | decide | (simp; done) | (simp; omega))); (focus (first | assumption | omega | decide | (simp; done) | (simp; omega))))
  | ((with_reducible refine u_letsPn ?_ ?_ ?_ ?_ ?_); (focus (first | assumption | omega | decide | (simp; done) | (simp; omega))); (focus (first | assumption | omega | decide | (simp; done) | (simp; omega))); (focus (first | assumption | omega | decide | (simp; done) | (simp; omega))); (focus (first | assumption | omega | decide | (simp; done) | (simp; omega))))
  | ((with_reducible refine u_letsPb ?_ ?_ ?_ ?_ ?_ ?_); (focus (first | assumption | omega | decide | (simp; done) | (simp; omega))); (focus (first | assumption | omega | decide | (simp; done) | (simp; omega))); (focus (first | assumption | omega | decide | (simp; done) | (simp; omega))); (focus (first | assumption | omega | decide | (simp; done) | (simp; omega))); (focus (first | assumption | omega | decide | (simp; done) | (simp; omega))))
  | ((with_reducible refine u_letsPs ?_ ?_ ?_ ?_ ?_ ?_ ?_); (focus (first | assumption | omega | decide | (simp; done) | (simp; omega))); (focus (first | assumption | omega | decide | (simp; done) | (simp; omega))); (focus (first | assumption | omega | decide | (simp; done) | (simp; omega))); (focus (first | assumption | omega | decide | (simp; done) | (simp; omega))); (focus (first | assumption | omega | decide | (simp; done) | (simp; omega))); (focus (first | assumption | omega | decide | (simp; done) | (simp; omega))))
  | ((with_reducible refine u_letsS ?_ ?_ ?_); (focus (first | assumption | omega | decide | (simp; done) | (simp; omega))); (focus (first | assumption | omega | decide | (simp; done) | (simp; omega))))
  | ((with_reducible refine u_letsP ?_ ?_ ?_ ?_ ?_); (focus (first | assumption | omega | decide | (simp; done) | (simp; omega))); (focus (first | assumption | omega | decide | (simp; done) | (simp; omega))); (focus (first | assumption | omega | decide | (simp; done) | (simp; omega))); (focus (first | assumption | omega | decide | (simp; done) | (simp; omega))))
  | ((with_reducible apply u_line); (focus (first | assumption | omega | decide | (simp; done) | (simp; omega))); (focus (first | assumption | omega | decide | (simp; done) | (simp; omega))); (focus (first | assumption | omega | decide | (simp; done) | (simp; omega))))
  | ((with_reducible refine u_turnA ?_ ?_); (focus (first | assumption | omega | decide | (simp; done) | (simp; omega))))
  | ((with_reducible refine u_turnAH ?_ ?_); (focus (first | assumption | omega | decide | (simp; done) | (simp; omega))))
  | ((with_reducible refine u_turnQ ?_ ?_ ?_); (focus (first | assumption | omega | decide | (simp; done) | (simp; omega))); (focus (first | assumption | omega | decide | (simp; done) | (simp; omega))))
  | ((with_reducible refine u_turnQH ?_ ?_ ?_); (focus (first | assumption | omega | decide | (simp; done) | (simp; omega))); (focus (first | assumption | omega | decide | (simp; done) | (simp; omega))))
  | ((with_reducible refine u_turnQS ?_ ?_ ?_ ?_ ?_); (focus (first | assumption | omega | decide | (simp; done) | (simp; omega))); (focus (first | assumption | omega | decide | (simp; done) | (simp; omega))); (focus (first | assumption | omega | decide | (simp; done) | (simp; omega))); (focus (first | assumption | omega | decide | (simp; done) | (simp; omega))))
  | ((with_reducible refine u_places ?_ ?_ ?_ ?_ ?_); (focus (first | assumption | omega | decide | (simp; done) | (simp; omega))); (focus (first | assumption | omega | decide | (simp; done) | (simp; omega))); (focus (first | assumption | omega | decide | (simp; done) | (simp; omega))); (focus (first | assumption | omega | decide | (simp; done) | (simp; omega))))
  | ((with_reducible refine u_placesS ?_ ?_ ?_ ?_ ?_ ?_ ?_); (focus (first | assumption | omega | decide | (simp; done) | (simp; omega))); (focus (first | assumption | omega | decide | (simp; done) | (simp; omega))); (focus (first | assumption | omega | decide | (simp; done) | (simp; omega))); (focus (first | assumption | omega | decide | (simp; done) | (simp; omega))); (focus (first | assumption | omega | decide | (simp; done) | (simp; omega))); (focus (first | assumption | omega | decide | (simp; done) | (simp; omega))))
  | ((with_reducible refine u_parting ?_ ?_ ?_ ?_ ?_); (focus (first | assumption | omega | decide | (simp; done) | (simp; omega))); (focus (first | assumption | omega | decide | (simp; done) | (simp; omega))); (focus (first | assumption | omega | decide | (simp; done) | (simp; omega))); (focus (first | assumption | omega | decide | (simp; done) | (simp; omega))))
  | ((with_reducible refine u_pat ?_))
  | ((with_reducible refine u_bare ?_))
  | ((with_reducible refine u_has ?_ ?_ ?_); (focus (first | assumption | omega | decide | (simp; done) | (simp; omega))); (focus (first | assumption | omega | decide | (simp; done) | (simp; omega))))
  | ((with_reducible refine u_allOf ?_ ?_ ?_ ?_); (focus (first | assumption | omega | decide | (simp; done) | (simp; omega))); (focus (first | assumption | omega | decide | (simp; done) | (simp; omega))); (focus (first | assumption | omega | decide | (simp; done) | (simp; omega))))
  | ((with_reducible apply u_leastOf); (focus (first | assumption | omega | decide | (simp; done) | (simp; omega))); (focus (first | assumption | omega | decide | (simp; done) | (simp; omega))); (focus (first | assumption | omega | decide | (simp; done) | (simp; omega))); (focus (first | assumption | omega | decide | (simp; done) | (simp; omega))); (focus (first | assumption | omega | decide | (simp; done) | (simp; omega))))
  | ((with_reducible refine u_depIn ?_ ?_); (focus (first | assumption | omega | decide | (simp; done) | (simp; omega))))
  | ((with_reducible refine u_depOf ?_ ?_ ?_); (focus (first | assumption | omega | decide | (simp; done) | (simp; omega))); (focus (first | assumption | omega | decide | (simp; done) | (simp; omega))))
  | ((with_reducible refine u_depOfH ?_ ?_ ?_); (focus (first | assumption | omega | decide | (simp; done) | (simp; omega))); (focus (first | assumption | omega | decide | (simp; done) | (simp; omega))))
  | ((with_reducible refine u_sameMany ?_ ?_ ?_ ?_ ?_); (focus (first | assumption | omega | decide | (simp; done) | (simp; omega))); (focus (first | assumption | omega | decide | (simp; done) | (simp; omega))); (focus (first | assumption | omega | decide | (simp; done) | (simp; omega))); (focus (first | assumption | omega | decide | (simp; done) | (simp; omega))))
  | ((with_reducible refine u_settledN ?_ ?_ ?_ ?_); (focus (first | assumption | omega | decide | (simp; done) | (simp; omega))); (focus (first | assumption | omega | decide | (simp; done) | (simp; omega))); (focus (first | assumption | omega | decide | (simp; done) | (simp; omega))))
  | ((with_reducible refine u_isBlk ?_))
  | ((with_reducible refine u_depB ?_ ?_ ?_ ?_); (focus (first | assumption | omega | decide | (simp; done) | (simp; omega))); (focus (first | assumption | omega | decide | (simp; done) | (simp; omega))); (focus (first | assumption | omega | decide | (simp; done) | (simp; omega))))
  | ((with_reducible refine u_ct ?_ ?_ ?_ ?_); (focus (first | assumption | omega | decide | (simp; done) | (simp; omega))); (focus (first | assumption | omega | decide | (simp; done) | (simp; omega))); (focus (first | assumption | omega | decide | (simp; done) | (simp; omega))))
  | ((with_reducible refine u_cb ?_ ?_ ?_ ?_); (focus (first | assumption | omega | decide | (simp; done) | (simp; omega))); (focus (first | assumption | omega | decide | (simp; done) | (simp; omega))); (focus (first | assumption | omega | decide | (simp; done) | (simp; omega))))
  | with_reducible refine dun_neg ?_
  | with_reducible refine tgA2 ?_
  | with_reducible refine tgA3 ?_
  | with_reducible refine tgEx2 ?_
  | with_reducible refine tgEx3 ?_
  | with_reducible refine tgEx4 ?_
  | with_reducible refine tgT2 ?_
  | with_reducible refine tgT3 ?_
  | with_reducible refine tgL2 ?_
  | with_reducible refine tgT4 ?_
  | refine ⟨_, (Or.inl rfl : DL.D.lst _ = DL.D.lst _ ∨ _), ?_⟩
  | refine ⟨_, (Or.inr rfl : _ ∨ DL.D.tup _ = DL.D.tup _), ?_⟩
  | with_reducible refine xin_no ?_
  | with_reducible refine xr_no ?_
  | refine ⟨(rfl : DL.D.ref _ = DL.D.ref _), ?_⟩
  | refine ⟨(rfl : DL.D.ty _ = Option.some _), ?_⟩
  | refine ⟨Qn.ty _, ?_⟩
  | refine ⟨(by simp : List.length _ ≤ 100000), ?_⟩
  | refine ⟨(by simp : List.length _ = _), ?_⟩
  | with_reducible refine wo_none ?_
  | with_reducible refine wo_some ?_
  | refine ⟨_, rfl, ?_⟩))
local macro_rules | `(tactic| walk_at "side") => `(tactic| first | assumption | omega | decide | (simp; done) | (simp; omega))
section
variable {P : Program} {w : World} {K : PySem.W.Frag} {mg : Str → Option Value} {base : Heap}
abbrev s_law_pool : Stmt := topS 17
theorem sc_law_pool : FnScope ["script", "spot", "cell"] ["script", "spot"] (defScope s_law_pool) := ⟨rfl, rfl, rfl, by decide +kernel, rfl, by decide +kernel, by decide +kernel⟩
theorem ok_law_pool {f : Addr} {fd : FuncData} (T : Txt K mg) (F : Fun K "_law_pool" "_law_pool" s_law_pool f fd) : FnOk P w K mg base CX0 1 f fd ["script", "spot"] (spPool K) := by
  refine F.ok sc_law_pool (fun vs H Q E h => ?_) (fun cdv A outer s H vs Q E hr h => ?_)
  · obtain ⟨a, ns, i, rfl, _⟩ := h
    rfl
  · obtain ⟨a, ns, i, rfl, hS, hi, k⟩ := h
    refine ⟨_, (pss_cons (ps_set (i := 2) sc_law_pool.nd rfl (Or.inl rfl) pe_int) (pss_cons (ps_if (pt_cmpR op_ltQ (pv 1) (pe_callB (call_lenK (K := K) rfl) (by rfl) T.n_len PySem.boot_len (pa_cons (pv 0) pa_nil)) (nomark _)) (pss_one (ps_set (i := 2) sc_law_pool.nd rfl (Or.inl rfl) (pe_ix (ix_K (K := K) rfl) (pv 0) (pv 1) (fun _ _ => rfl)))) pss_nil) (pss_one (ps_ret (pe_lst (pa_cons (pe_callB (call_max2 rfl) (by rfl) T.n_max (by decide +kernel) (pa_cons pe_int (pa_cons (pe_op op_sub (pe_callB call_abs (by rfl) T.n_abs (by decide +kernel) (pa_cons (pv 2) pa_nil)) (pe_op op_powB pe_int pe_int)) pa_nil))) (pa_cons (pe_op (op_addK (K := K) rfl) (pe_op op_mod (pe_callTy call_int1 (by rfl) T.n_int (by decide +kernel) (pa_cons (pv 2) pa_nil)) pe_int) (pe_op op_mulQ pe_int (pe_op (op_addK (K := K) rfl) (pv 1) pe_int))) (pa_cons pe_int pa_nil)))))))), ?_⟩
    have hm : (0 : Int) < 2305843009213693951 := by decide
    refine ⟨_, rfl, _, rfl, _, _, rfl, .inl ⟨_, hS, rfl⟩, .inl ⟨_, _, rfl, rfl, _, rfl, ?_⟩⟩
    refine ite2 (fun h => ?_) (fun h => ?_)
    · have hl : i < ns.length := by
        have := of_decide_eq_true h
        rw [List.length_map] at this
        omega
      refine ⟨_, rfl, _, rfl, .inl ⟨a, _, _, .int ns[i], rfl, rfl, hS, atI_nat rfl (by simp [hl]), ?_⟩⟩
      refine ⟨_, rfl, _, rfl, _, _, rfl, rfl, cpw (j := 18) (k := 4) (by decide) (by decide), _, _, rfl, rfl, _, _, rfl, ?_⟩
      refine ⟨_, rfl, .inl ⟨_, rfl, _, _, rfl, rfl, hm, _, rfl, .inl (.inl ⟨_, _, rfl, rfl, .inl ⟨_, _, rfl, rfl, ?_, .inl (.inl ⟨_, _, rfl, rfl, ?_⟩)⟩⟩)⟩⟩
      · exact wide_mul (a := 23) (b := 7) (by decide) (by omega) (by decide) (by decide) (by decide)
      · refine ⟨by show 3 ≤ sizeLine; decide, fun p hp => k p _ _ _ hp (fun b o e => by rw [upd_ne (ne_of_none e hp)]; exact e) upd_same ?_ ?_ ?_⟩
        · split <;> omega
        · have := Int.emod_nonneg ns[i] (show (2305843009213693951 : Int) ≠ 0 by decide)
          omega
        · have := Int.emod_lt_of_pos ns[i] hm
          omega
    · refine ⟨_, rfl, _, rfl, _, _, rfl, rfl, cpw (j := 18) (k := 4) (by decide) (by decide), _, _, rfl, rfl, _, _, rfl, ?_⟩
      refine ⟨_, rfl, .inl ⟨_, rfl, _, _, rfl, rfl, hm, _, rfl, .inl (.inl ⟨_, _, rfl, rfl, .inl ⟨_, _, rfl, rfl, ?_, .inl (.inl ⟨_, _, rfl, rfl, ?_⟩)⟩⟩)⟩⟩
      · exact wide_mul (a := 23) (b := 7) (by decide) (by omega) (by decide) (by decide) (by decide)
      · refine ⟨by show 3 ≤ sizeLine; decide, fun p hp => k p _ _ _ hp (fun b o e => by rw [upd_ne (ne_of_none e hp)]; exact e) upd_same ?_ ?_ ?_⟩
        · decide
        · have := Int.emod_nonneg 0 (show (2305843009213693951 : Int) ≠ 0 by decide)
          omega
        · have := Int.emod_lt_of_pos 0 hm
          omega
abbrev s_law_draw : Stmt := topS 18
theorem sc_law_draw : FnScope ["pool", "span", "drawn", "mixed"] ["pool", "span"] (defScope s_law_draw) := ⟨rfl, rfl, rfl, by decide +kernel, rfl, by decide +kernel, by decide +kernel⟩
theorem ok_law_draw {f : Addr} {fd : FuncData} (T : Txt K mg) (F : Fun K "_law_draw" "_law_draw" s_law_draw f fd) : FnOk P w K mg base CX0 1 f fd ["pool", "span"] (ResSp K poolRes drawS) := by
  refine F.ok sc_law_draw (fun vs H Q E h => ?_) (fun cdv A outer s H vs Q E hr h => ?_)
  · obtain ⟨p, ds, n, P, XP, hf, H0, _, _, ra, _⟩ := h
    rw [ra.len]
    obtain ⟨span, rfl, _⟩ := hf
    rfl
  · refine ⟨_, (pss_cons (ps_if (pt_cmpR op_gt (pe_ix (ix_K (K := K) rfl) (pv 0) pe_int (fun _ _ => rfl)) pe_int (nomark _)) (pss_cons (ps_set (i := 2) sc_law_draw.nd rfl (Or.inl rfl) (pe_op op_mod (pe_callTy call_int1 (by rfl) T.n_int (by decide +kernel) (pa_cons (pe_ix (ix_K (K := K) rfl) (pv 0) pe_int (fun _ _ => rfl)) pa_nil)) (pv 1))) (pss_cons (ps_asg (pe_op op_fdivW (pe_ix (ix_K (K := K) rfl) (pv 0) pe_int (fun _ _ => rfl)) (pv 1)) (pg_sub (pv 0) pe_int set_list)) (pss_one (ps_ret (pv 2))))) pss_nil) (pss_cons (ps_asg (pe_op (op_addK (K := K) rfl) (pe_ix (ix_K (K := K) rfl) (pv 0) pe_int (fun _ _ => rfl)) pe_int) (pg_sub (pv 0) pe_int set_list)) (pss_cons (ps_set (i := 3) sc_law_draw.nd rfl (Or.inl rfl) (pe_op op_mod (pe_callTy call_int1 (by rfl) T.n_int (by decide +kernel) (pa_cons (pe_op op_powB (pe_op (op_addK (K := K) rfl) (pe_ix (ix_K (K := K) rfl) (pv 0) pe_int (fun _ _ => rfl)) (pe_op op_mulQ pe_int (pe_ix (ix_K (K := K) rfl) (pv 0) pe_int (fun _ _ => rfl)))) pe_int) pa_nil)) pe_int)) (pss_cons (ps_set (i := 3) sc_law_draw.nd rfl (Or.inl rfl) (pe_op op_mod (pe_callTy call_int1 (by rfl) T.n_int (by decide +kernel) (pa_cons (pe_op op_powB (pe_op (op_addK (K := K) rfl) (pv 3) (pe_op op_mulQ pe_int (pe_ix (ix_K (K := K) rfl) (pv 0) pe_int (fun _ _ => rfl)))) pe_int) pa_nil)) pe_int)) (pss_one (ps_ret (pe_op op_mod (pe_callTy call_int1 (by rfl) T.n_int (by decide +kernel) (pa_cons (pe_op op_fdivW (pv 3) pe_int) pa_nil)) (pv 1)))))))), ?_⟩
    obtain ⟨p, ds, n, P, XP, hf, H0, sub, av, ra, rs, kQ, kX⟩ := h
    obtain ⟨span, rfl, hs0, hs1, hn, kP⟩ := hf
    have n0 : H0 p = none := av p rfl
    cases ra with
    | cons r1 ra =>
    cases ra with
    | cons r2 ra =>
    cases ra
    cases r2
    have hv := r1.refOf
    subst hv
    obtain ⟨a, b, m, hp, ha, hb, hb2, hm, hmn⟩ := rs
    have hP : (0 : Int) < 162259276829213363391578010288127 := by decide
    have hP2 : (0 : Int) < 170141183460469231731687303715884105727 := by decide
    have hq : SqL K H p [.int a, .int b, .int m] := .inl (.inl hp)
    have fin : ∀ (a' b' m' z : Int) (H' : Hp), H' = upd H p (.lst [.int a', .int b', .int m']) → 0 ≤ a' → 0 ≤ b' → b' < 2 ^ 62 → 0 ≤ m' → m' ≤ m + 1 → 0 ≤ z → z < span → Q (.int z) H' := fun a' b' m' z H' e q1 q2 q3 q4 q5 q6 q7 => by
      subst e
      refine kQ _ (n - 1) _ H0 _ (kP z q6 q7) ⟨Same.refl _, fun x o h => ?_, fun x o h hx => by rw [upd_ne hx]; exact h, fun _ _ h => h, fun x hx => av x hx, ⟨a', b', m', upd_same, q1, q2, q3, q4, pool_dec hmn hn q5⟩⟩ (.int z)
      rw [upd_ne (ne_of_none h n0)]
      exact sub x o h
    have hlog : ∀ x : Int, 0 < x → x ≤ 10 ^ 70 → CDivW 0 x := fun x h1 h2 => wide_div (i := 0) (b := 240) h1 (by
      have : x.natAbs ≤ 10 ^ 70 := by omega
      exact Nat.lt_of_le_of_lt this (by decide)) (by decide) (by decide)
    refine ⟨_, rfl, .inl ⟨p, _, 0, _, rfl, rfl, hq, rfl, _, _, rfl, rfl, _, rfl, ?_⟩⟩
    refine ite2 (fun h => ?_) (fun h => ?_)
    · have h0 := of_decide_eq_true h
      refine ⟨_, rfl, .inl ⟨p, _, 0, _, rfl, rfl, hq, rfl, .inl ⟨_, rfl, _, rfl, _, _, rfl, rfl, hs0, ?_⟩⟩⟩
      refine ⟨_, rfl, .inl ⟨p, _, 0, _, rfl, rfl, hq, rfl, _, rfl, _, _, rfl, rfl, hlog span hs0 hs1, _, rfl, p, _, 0, 0, rfl, rfl, hp, rfl, _, rfl, ?_⟩⟩
      exact fin (a / span) b m _ _ rfl (Int.ediv_nonneg ha (by omega)) hb hb2 hm (by omega) (Int.emod_nonneg _ (by omega)) (Int.emod_lt_of_pos _ hs0)
    · have hq1 : SqL K (upd H p (.lst [.int a, .int b, .int (m + 1)])) p [.int a, .int b, .int (m + 1)] := .inl (.inl upd_same)
      have nat1 : ∀ x : Int, 0 ≤ x → x < 2 ^ 120 → x.natAbs < 2 ^ 120 := fun x h1 h2 => by omega
      have mul1 : ∀ x : Int, 0 ≤ x → x < 2 ^ 30 → CMulW x (m + 1) := fun x h1 h2 => wide_mul (a := 30) (b := 60) (by omega) (by omega) (by decide) (by decide) (by decide)
      have bnd : ∀ x y : Int, 0 ≤ x → x ≤ 2 ^ 110 → 0 ≤ y → y < 2 ^ 30 → 0 ≤ x + y * (m + 1) ∧ x + y * (m + 1) < 2 ^ 120 := fun x y h1 h2 h3 h4 => by
        have e1 : 0 ≤ y * (m + 1) := Int.mul_nonneg h3 (by omega)
        have e2 : y * (m + 1) ≤ 2 ^ 30 * 2 ^ 60 := Int.mul_le_mul (by omega) (by omega) (by omega) (by decide)
        omega
      refine ⟨_, rfl, .inl ⟨p, _, 2, _, rfl, rfl, hq, rfl, .inl (.inl ⟨_, _, rfl, rfl, _, rfl, p, _, 2, 2, rfl, rfl, hp, rfl, ?_⟩)⟩⟩
      obtain ⟨b1, b2⟩ := bnd b 15485863 hb (by omega) (by decide) (by decide)
      refine ⟨_, rfl, .inl ⟨p, _, 1, _, rfl, rfl, hq1, rfl, _, rfl, .inl ⟨p, _, 2, _, rfl, rfl, hq1, rfl, .inl ⟨_, _, rfl, rfl, mul1 _ (by decide) (by decide), .inl (.inl ⟨_, _, rfl, rfl, _, _, rfl, rfl, cpw (j := 3) (nat1 _ b1 b2) (by decide), .inl ⟨_, rfl, _, _, rfl, rfl, hP, ?_⟩⟩)⟩⟩⟩⟩
      have c1 := Int.emod_nonneg ((b + 15485863 * (m + 1)) ^ (3 : Int).toNat) (show (162259276829213363391578010288127 : Int) ≠ 0 by decide)
      have c2 := Int.emod_lt_of_pos ((b + 15485863 * (m + 1)) ^ (3 : Int).toNat) hP
      obtain ⟨d1, d2⟩ := bnd _ 32452843 c1 (Int.le_of_lt (Int.lt_trans c2 (by decide))) (by decide) (by decide)
      refine ⟨_, rfl, _, rfl, .inl ⟨p, _, 2, _, rfl, rfl, hq1, rfl, .inl ⟨_, _, rfl, rfl, mul1 _ (by decide) (by decide), .inl (.inl ⟨_, _, rfl, rfl, _, _, rfl, rfl, cpw (j := 3) (nat1 _ d1 d2) (by decide), .inl ⟨_, rfl, _, _, rfl, rfl, hP2, ?_⟩⟩)⟩⟩⟩
      refine ⟨_, rfl, _, _, rfl, rfl, hlog _ (by decide) (by decide), .inl ⟨_, rfl, _, rfl, _, _, rfl, rfl, hs0, ?_⟩⟩
      exact fin a b (m + 1) _ _ rfl ha hb hb2 (by omega) (by omega) (Int.emod_nonneg _ (by omega)) (Int.emod_lt_of_pos _ hs0)
abbrev s_is_letter : Stmt := topS 6
theorem sc_is_letter : FnScope ["value"] ["value"] (defScope s_is_letter) := ⟨rfl, rfl, rfl, by decide +kernel, rfl, by decide +kernel, by decide +kernel⟩
theorem ok_is_letter {f  : Addr} {fd  : FuncData} (T : Txt K mg) (F : Fun K "is_letter" "is_letter" s_is_letter f fd)  : FnOk P w K mg base CX0 (1) f fd ["value"] (PureSp K isletS) := by
  refine ok_pure isletS F sc_is_letter (fun ds P X h => by revert h; walk_at "hl") fun cdv A outer s H E hr => ⟨_, (pss_one (ps_ret (pe_and (pe_callB (call_isiK (K := K) rfl) (by rfl) T.n_isinstance (by decide +kernel) (pa_cons (pv 0) (pa_cons (pe_bltn (v := .ty "str") (u := .type "str") (by rfl) T.n_str (by decide +kernel) rfl) pa_nil))) (pe_and (pe_cmpR (op_eqK (K := K) rfl hr.units) (pe_callB (call_lenK (K := K) rfl) (by rfl) T.n_len PySem.boot_len (pa_cons (pv 0) pa_nil)) pe_int (nomark _)) (pe_one (pe_cmpR (op_inK (K := K) rfl (hu65 hr)) (pv 0) (pe_globS rfl T.g_LETTERS) rfl)))))), fun ds Q XP h H0 okX => ?_⟩
  obtain ⟨a, rfl, ha, k⟩ := h
  /- 0:value -/
  change DL.WS _ _ [.dat _] _ _
  walk_at "v"
  refine din_sign (a := a) ?_
  rw [decide_eq_true ha]
  exact k
abbrev s_inner_of : Stmt := topS 7
theorem sc_inner_of : FnScope ["question"] ["question"] (defScope s_inner_of) := ⟨rfl, rfl, rfl, by decide +kernel, rfl, by decide +kernel, by decide +kernel⟩
theorem ok_inner_of {f  : Addr} {fd  : FuncData} (T : Txt K mg) (F : Fun K "inner_of" "inner_of" s_inner_of f fd)  : FnOk P w K mg base CX0 (1) f fd ["question"] (PureSp K innerS) := by
  refine ok_pure innerS F sc_inner_of (fun ds P X h => by revert h; walk_at "hl") fun cdv A outer s H E hr => ⟨_, (pss_one (ps_ret (pe_ifExp (pt_cmpR (op_eqK (K := K) rfl hr.units) (pe_ix (ix_K (K := K) rfl) (pv 0) pe_int (fun _ _ => rfl)) pe_str (nomark _)) (pe_lst (pa_cons (pe_ix (ix_K (K := K) rfl) (pv 0) pe_int (fun _ _ => rfl)) (pa_cons (pe_ix (ix_K (K := K) rfl) (pv 0) pe_int (fun _ _ => rfl)) pa_nil))) (pe_callTy (call_listK (K := K) rfl) (by rfl) T.n_list (by decide +kernel) (pa_cons (pe_slice (sl_K (K := K) rfl) (pv 0) (po_some pe_int) po_none) pa_nil))))), fun ds Q XP h H0 okX => ?_⟩
  obtain ⟨q, rfl, k⟩ := h
  /- 0:question -/
  change DL.WS _ _ [.dat _] _ _
  cases q with
  | any =>
    walk_at "v"
    exact k
  | neg q =>
    walk_at "v"
    exact k
  | both p q =>
    walk_at "v"
    exact k
  | some p a q =>
    walk_at "v"
    exact k
abbrev s_is_question : Stmt := topS 8
theorem sc_is_question : FnScope ["value", "inner"] ["value"] (defScope s_is_question) := ⟨rfl, rfl, rfl, by decide +kernel, rfl, by decide +kernel, by decide +kernel⟩
theorem ok_is_question {f f_is_letter f_inner_of a_SIZES : Addr} {fd fd_is_letter fd_inner_of : FuncData} {D k : Nat} (T : Txt K mg) (F : Fun K "is_question" "is_question" s_is_question f fd) (hk : 3 ≤ k) (C_is_question : Callee P w K mg base CX0 "is_question" ["value"] k (PureSp K (isqS D)) f fd) (C_is_letter : Callee P w K mg base CX0 "is_letter" ["value"] 1 (PureSp K isletS) f_is_letter fd_is_letter) (C_inner_of : Callee P w K mg base CX0 "inner_of" ["question"] 1 (PureSp K innerS) f_inner_of fd_inner_of) (D_SIZES : KTab K w mg "SIZES" a_SIZES [("any", 1), ("not", 2), ("both", 3), ("some", 4)]) : FnOk P w K mg base CX0 (k + 1) f fd ["value"] (PureSp K (isqS (D + 1))) := by
  refine ok_pure (isqS (D + 1)) F sc_is_question (fun ds P X h => by revert h; walk_at "hl") fun cdv A outer s H E hr => ⟨_, (pss_cons (ps_if (PW.pt (pw_or (pt_not (pt_val (pe_callB (call_isiK (K := K) rfl) (by rfl) T.n_isinstance (by decide +kernel) (pa_cons (pv 0) (pa_cons (pe_bltn (v := .ty "tuple") (u := .type "tuple") (by rfl) T.n_tuple (by decide +kernel) rfl) pa_nil))))) (pw_or (pt_cmpR (op_eqK (K := K) rfl hr.units) (pv 0) (pe_tup pa_nil) (nomark _)) (pw_or (pt_not (pt_val (pe_callB (call_isiK (K := K) rfl) (by rfl) T.n_isinstance (by decide +kernel) (pa_cons (pe_ix (ix_K (K := K) rfl) (pv 0) pe_int (fun _ _ => rfl)) (pa_cons (pe_bltn (v := .ty "str") (u := .type "str") (by rfl) T.n_str (by decide +kernel) rfl) pa_nil))))) (pw_or1 (pt_cmpR (op_ninTab (K := K) rfl rfl D_SIZES) (pe_ix (ix_K (K := K) rfl) (pv 0) pe_int (fun _ _ => rfl)) (pe_glob (v := .ref a_SIZES) (u := .ref a_SIZES) rfl D_SIZES.mg rfl) rfl)))))) (pss_one (ps_ret pe_bl)) pss_nil) (pss_cons (ps_if (PW.pt (pw_or (pt_cmpR (op_neK (K := K) rfl hr.units) (pe_callB (call_lenK (K := K) rfl) (by rfl) T.n_len PySem.boot_len (pa_cons (pv 0) pa_nil)) (pe_ix (ix_tab (K := K) (w := w) rfl rfl) (pe_glob (v := .ref a_SIZES) (u := .ref a_SIZES) rfl D_SIZES.mg rfl) (pe_ix (ix_K (K := K) rfl) (pv 0) pe_int (fun _ _ => rfl)) (fun _ _ => rfl)) (nomark _)) (pw_or1 (PW.pt (pw_and (pt_cmpR (op_eqK (K := K) rfl hr.units) (pe_ix (ix_K (K := K) rfl) (pv 0) pe_int (fun _ _ => rfl)) pe_str (nomark _)) (pw_and1 (pt_not (pt_val (pe_call C_is_letter.ok (hr.mono (by first | decide | omega)) (by rfl) C_is_letter.mg C_is_letter.kp C_is_letter.bd .nil (C_is_letter.ps _ rfl rfl) (pa_cons (pe_ix (ix_K (K := K) rfl) (pv 0) pe_int (fun _ _ => rfl)) pa_nil)))))))))) (pss_one (ps_ret pe_bl)) pss_nil) (pss_one (ps_ret (pe_callB (call_allK (K := K) rfl rfl) (by rfl) T.n_all (by decide +kernel) (pa_cons (pe_lc (own := [("inner", 1)]) rfl sc_is_question.nd (pi_anyK (K := K) rfl (pe_call C_inner_of.ok (hr.mono (by first | decide | omega)) (by rfl) C_inner_of.mg C_inner_of.kp C_inner_of.bd .nil (C_inner_of.ps _ rfl rfl) (pa_cons (pv 0) pa_nil))) (blkOk_by (own := [("inner", 1)]) (N := ["value", "inner"]) (sc := defScope s_is_question) (by decide +kernel)) (fun _ _ _ _ _ => (pg_name (i := 1) sc_is_question.nd rfl (by first | exact Or.inl rfl | exact Or.inr rfl))) (fun _ _ _ _ _ => pts_nil) (fun _ _ _ _ _ => (pe_call C_is_question.ok (hr.mono (by first | decide | omega)) (by rfl) C_is_question.mg C_is_question.kp C_is_question.bd .nil (C_is_question.ps _ rfl rfl) (pa_cons (pv 1) pa_nil)))) pa_nil)))))), fun ds Q XP h H0 okX => ?_⟩
  obtain ⟨k0, hk0, q, rfl, hq, hl, hs, k⟩ := h
  /- 0:value 1:inner -/
  change DL.WS _ _ [.dat _, .un] _ _
  cases q with
  | any =>
    walk_at "v"
    refine we_lcY (fun (_ : Qn) => DL.D.bl true) rfl (by simp) (wi_l ?_)
    walk_at "v"
    refine ⟨_, Qn.D, rfl, Qn.kids_len _, fun x hx => ?_, ?_⟩
    · have hx1 := Qn.kid_ht hx
      have hx2 := Qn.kid_In hl hx
      walk_at "v"
      exact ⟨rfl, rfl⟩
    · walk_at "v"
      exact k
  | neg q =>
    walk_at "v"
    refine we_lcY (fun (_ : Qn) => DL.D.bl true) rfl (by simp) (wi_l ?_)
    walk_at "v"
    refine ⟨_, Qn.D, rfl, Qn.kids_len _, fun x hx => ?_, ?_⟩
    · have hx1 := Qn.kid_ht hx
      have hx2 := Qn.kid_In hl hx
      walk_at "v"
      exact ⟨rfl, rfl⟩
    · walk_at "v"
      exact k
  | both p q =>
    walk_at "v"
    refine we_lcY (fun (_ : Qn) => DL.D.bl true) rfl (by simp) (wi_l ?_)
    walk_at "v"
    refine ⟨_, Qn.D, rfl, Qn.kids_len _, fun x hx => ?_, ?_⟩
    · have hx1 := Qn.kid_ht hx
      have hx2 := Qn.kid_In hl hx
      walk_at "v"
      exact ⟨rfl, rfl⟩
    · walk_at "v"
      exact k
  | some p a q =>
    have ha := hl.2.1
    walk_at "v"
    refine we_lcY (fun (_ : Qn) => DL.D.bl true) rfl (by simp) (wi_l ?_)
    walk_at "v"
    refine ⟨_, Qn.D, rfl, Qn.kids_len _, fun x hx => ?_, ?_⟩
    · have hx1 := Qn.kid_ht hx
      have hx2 := Qn.kid_In hl hx
      walk_at "v"
      exact ⟨rfl, rfl⟩
    · walk_at "v"
      exact k
theorem all_is_question {f f_is_letter f_inner_of a_SIZES : Addr} {fd fd_is_letter fd_inner_of : FuncData} (T : Txt K mg) (F : Fun K "is_question" "is_question" s_is_question f fd) (C_is_letter : Callee P w K mg base CX0 "is_letter" ["value"] 1 (PureSp K isletS) f_is_letter fd_is_letter) (C_inner_of : Callee P w K mg base CX0 "inner_of" ["question"] 1 (PureSp K innerS) f_inner_of fd_inner_of) (D_SIZES : KTab K w mg "SIZES" a_SIZES [("any", 1), ("not", 2), ("both", 3), ("some", 4)]) (hm : mg "is_question" = some (.ref f)) (kp : PySem.W.keepIn K (.ref f) = true) (bd : Binds K fd ["value"] []) : ∀ D : Nat, Callee P w K mg base CX0 "is_question" ["value"] (3 + D) (PureSp K (isqS D)) f fd
  | 0 => mkC (FnOk_none fun vs H Q E h => by revert h; walk_at "rec0") hm kp bd
  | D + 1 => mkC (ok_is_question T F (Nat.le_add_right _ _) (all_is_question T F C_is_letter C_inner_of D_SIZES hm kp bd D) C_is_letter C_inner_of D_SIZES) hm kp bd
abbrev s_check_question : Stmt := topS 9
theorem sc_check_question : FnScope ["question"] ["question"] (defScope s_check_question) := ⟨rfl, rfl, rfl, by decide +kernel, rfl, by decide +kernel, by decide +kernel⟩
theorem ok_check_question {f f_is_question : Addr} {fd fd_is_question : FuncData} (T : Txt K mg) (F : Fun K "check_question" "check_question" s_check_question f fd) (C_is_question : Callee P w K mg base CX0 "is_question" ["value"] 64 (PureSp K (isqS 61)) f_is_question fd_is_question) : FnOk P w K mg base CX0 (65) f fd ["question"] (PureSp K chqS) := by
  refine ok_pure chqS F sc_check_question (fun ds P X h => by revert h; walk_at "hl") fun cdv A outer s H E hr => ⟨_, (pss_one (ps_if (pt_not (pt_val (pe_call C_is_question.ok (hr.mono (by first | decide | omega)) (by rfl) C_is_question.mg C_is_question.kp C_is_question.bd .nil (C_is_question.ps _ rfl rfl) (pa_cons (pv 0) pa_nil)))) (pss_one ps_never) pss_nil)), fun ds Q XP h H0 okX => ?_⟩
  obtain ⟨q, rfl, hl, hs, k⟩ := h
  /- 0:question -/
  change DL.WS _ _ [.dat _] _ _
  walk_at "v"
  exact k
local macro_rules | `(tactic| walk_at "e") => `(tactic| repeat (first
  | ((with_reducible refine tgWE ?_); first
      | ((with_reducible apply tgSetE); (focus (simp only [List.set_cons_succ, List.set_cons_zero]; rfl)))
      | with_reducible refine we_srtSet ?_
      | ((with_reducible apply we_callX); (focus (first | exact poolC _ _ _ _ _ _ _ | exact resC | exact onP | exact onB | exact onU onP | exact onU resC | exact onU (poolC _ _ _ _ _ _ _) | exact onU onB | exact onU (onU onP) | exact onU (onU (poolC _ _ _ _ _ _ _)))))
      | ((with_reducible refine tgNew ?_); refine we_dnewN ?_)
      | ((with_reducible apply we_methV); (focus (first | exact onK | exact onK0)); exact rfl; exact rfl)
      | with_reducible refine we_callF ?_
      | with_reducible refine we_callNF ?_
      | ((with_reducible apply we_callR); (focus (first | exact poolC _ _ _ _ _ _ _ | exact resC | exact onP | exact onB | exact onU onP | exact onU resC | exact onU (poolC _ _ _ _ _ _ _) | exact onU onB | exact onU (onU onP) | exact onU (onU (poolC _ _ _ _ _ _ _)))))
      | ((with_reducible apply we_methA); (focus (first | exact ac0 | exact onA)); (focus decide); (focus decide); (focus decide))
      | ((with_reducible apply we_fldAn); (focus (first | exact ac0 | exact onA)); assumption)
      | ((with_reducible apply we_fldAk); (focus (first | exact ac0 | exact onA)); assumption)
      | ((with_reducible apply we_fldAl); (focus (first | exact ac0 | exact onA)); assumption)
      | ((with_reducible apply we_dtnin); (focus (first | exact jc0.part subJj | exact onR.part subJj)))
      | ((with_reducible apply we_dtget); (focus (first | exact jc0.part subJj | exact onR.part subJj)))
      | ((with_reducible apply we_dinin); (focus (first | exact jc0.part subJl | exact onR.part subJl)))
      | ((with_reducible apply we_diget); (focus (first | exact jc0.part subJl | exact onR.part subJl)))
      | ((with_reducible apply we_methJ); (focus (first | exact jc0 | exact onR)); (focus decide); (focus decide); (focus decide); (focus decide))
      | ((with_reducible apply we_fldJt); (focus (first | exact jc0 | exact onR)); assumption)
      | ((with_reducible apply we_fldJs); (focus (first | exact jc0 | exact onR)); assumption)
      | ((with_reducible apply we_fldJl); (focus (first | exact jc0 | exact onR)); assumption)
      | ((with_reducible apply we_fldJj); (focus (first | exact jc0 | exact onR)); assumption)
      | ((with_reducible apply we_reprOwn2); exact rfl)
      | with_reducible refine we_maxDf ?_
      | ((with_reducible apply we_ktup); assumption)
      | with_reducible refine we_ref ?_
      | ((with_reducible apply we_callK); (focus (first | exact onK | exact onK0)))
      | with_reducible refine we_scount ?_
      | with_reducible refine we_sstarts ?_
      | with_reducible refine we_sends ?_
      | ((with_reducible apply we_revR); (focus (exact rfl)); (focus (first | assumption | omega | decide | (simp; done) | (simp; omega))))
      | with_reducible refine we_isi ?_
      | ((with_reducible apply we_var); focus rfl)
      | with_reducible refine we_int ?_
      | with_reducible refine we_str ?_
      | with_reducible refine we_bl ?_
      | with_reducible refine we_non ?_
      | with_reducible refine we_op ?_
      | with_reducible refine we_un ?_
      | with_reducible refine we_chain ?_
      | with_reducible refine we_cb ?_
      | with_reducible refine we_tup ?_
      | with_reducible refine we_lst ?_
      | with_reducible refine we_if ?_
      | with_reducible refine we_andV ?_
      | with_reducible refine we_orV ?_
      | with_reducible refine we_notV ?_
      | with_reducible refine we_sl ?_
      | with_reducible refine we_join ?_
      | with_reducible refine we_draw ?_)
  | ((with_reducible refine tgFZ ?_); first
      | with_reducible refine fz_dat ?_
      | with_reducible refine fz_own ?_)
  | ((with_reducible refine tgWA ?_); first
      | with_reducible refine wa_star ?_
      | with_reducible refine wa_nil ?_
      | with_reducible refine wa_cons ?_)
  | ((with_reducible refine tgWT ?_); first
      | ((with_reducible apply tgSetT); (focus (simp only [List.set_cons_succ, List.set_cons_zero]; rfl)))
      | with_reducible refine wt_yes ?_
      | with_reducible refine wt_test ?_
      | with_reducible refine wt_B ?_
      | with_reducible refine wt_not ?_
      | with_reducible refine wt_and ?_
      | with_reducible refine wt_or ?_)
  | ((with_reducible refine tgWAO ?_); first
      | with_reducible refine wao_nil ?_
      | with_reducible refine wao_cons ?_)
  | ((with_reducible refine tgDO ?_); first
      | ((with_reducible refine dop_shl1 ?_ ?_ ?_); (focus omega); (focus omega))
      | with_reducible refine deq_row ?_
      | ((with_reducible apply deq_enc); (focus (first | exact encNat | exact encP2 | exact encInt)))
      | ((with_reducible apply dne_enc); (focus (first | exact encNat | exact encP2 | exact encInt)))
      | ((with_reducible apply deq_encN); (focus (first | exact encNat | exact encP2 | exact encInt)))
      | ((with_reducible apply dne_encN); (focus (first | exact encNat | exact encP2 | exact encInt)))
      | ((with_reducible refine da_map ?_ ?_); (focus (first | assumption | omega | decide | (simp; done) | (simp; omega))))
      | ((with_reducible refine da_snoc2 ?_ ?_); (focus omega))
      | with_reducible refine dne_row ?_
      | ((with_reducible refine dop_fdivN ?_ ?_ ?_); (focus omega); (focus omega))
      | ((with_reducible apply di_names); assumption; (focus omega); (focus omega))
      | ((with_reducible apply di_qn); exact rfl)
      | ((with_reducible apply dnin_tab); assumption; (focus (first | exact .head _ | exact .tail _ (.head _) | exact .tail _ (.tail _ (.head _)) | exact .tail _ (.tail _ (.tail _ (.head _))))))
      | ((with_reducible apply di_tab); assumption; (focus (first | exact .head _ | exact .tail _ (.head _) | exact .tail _ (.tail _ (.head _)) | exact .tail _ (.tail _ (.tail _ (.head _))))))
      | ((with_reducible refine dop_pow2 ?_ ?_ ?_); (focus omega); (focus omega))
      | ((with_reducible refine dop_pow10 ?_ ?_ ?_); (focus omega); (focus omega))
      | with_reducible refine dis_opt ?_
      | with_reducible refine dnis_bl ?_
      | with_reducible refine dis_qn ?_
      | with_reducible refine dnis_qn ?_
      | with_reducible refine dis_non0 ?_
      | with_reducible refine dnis_non0 ?_
      | with_reducible refine dnis_opt ?_
      | with_reducible refine dle_opt ?_
      | ((with_reducible refine deq_qn ?_ ?_ ?_ ?_ ?_); (focus (first | assumption | omega | decide | (simp; done) | (simp; omega))); (focus (first | assumption | omega | decide | (simp; done) | (simp; omega))); (focus (first | assumption | omega | decide | (simp; done) | (simp; omega))); (focus (first | assumption | omega | decide | (simp; done) | (simp; omega))))
      | ((with_reducible refine dne_qn ?_ ?_ ?_ ?_ ?_); (focus (first | assumption | omega | decide | (simp; done) | (simp; omega))); (focus (first | assumption | omega | decide | (simp; done) | (simp; omega))); (focus (first | assumption | omega | decide | (simp; done) | (simp; omega))); (focus (first | assumption | omega | decide | (simp; done) | (simp; omega))))
      | with_reducible refine din_row2 ?_
      | ((with_reducible refine dm_row ?_ ?_ ?_ ?_); (focus (first | assumption | omega | decide | (simp; done) | (simp; omega))); (focus (first | assumption | omega | decide | (simp; done) | (simp; omega))); (focus (first | assumption | omega | decide | (simp; done) | (simp; omega))))
      | with_reducible refine deq_opt ?_
      | with_reducible refine dne_opt ?_
      | ((with_reducible refine deq_qn0 ?_ ?_ ?_); assumption; (focus omega))
      | with_reducible refine da_int ?_
      | with_reducible refine dop_sub ?_
      | with_reducible refine dlt_int ?_
      | with_reducible refine dle_int ?_
      | with_reducible refine dop_gt ?_
      | with_reducible refine dop_ge ?_
      | ((with_reducible apply de_sc); focus rfl)
      | ((with_reducible apply dn_sc); focus rfl)
      | ((with_reducible apply di_tup); focus rfl)
      | ((with_reducible apply di_lst); focus rfl))
  | ((with_reducible refine tgDC ?_); first
      | ((with_reducible refine dl_row ?_ ?_); (focus (first | omega | (simp; done))))
      | with_reducible refine dl_map ?_
      | ((with_reducible apply dl_names); assumption)
      | with_reducible refine db_repr2 ?_
      | ((with_reducible refine db_reprN2 ?_ ?_ ?_); (focus (first | assumption | omega | decide | (simp; done) | (simp; omega))); (focus (first | assumption | omega | decide | (simp; done) | (simp; omega))))
      | ((with_reducible refine db_sortN ?_ ?_); (focus (first | assumption | omega | decide | (simp; done) | (simp; omega))))
      | ((with_reducible refine db_sortP ?_ ?_); (focus (first | assumption | omega | decide | (simp; done) | (simp; omega))))
      | ((with_reducible apply dl_qn); exact rfl)
      | with_reducible refine db_all ?_
      | ((with_reducible apply db_isX); (focus (exact knows_exc)); (focus assumption); (focus assumption))
      | with_reducible refine db_anyB ?_
      | with_reducible refine db_listT ?_
      | with_reducible refine db_listL ?_
      | with_reducible refine dl_lst ?_
      | with_reducible refine dl_tup ?_
      | with_reducible refine db_max ?_
      | with_reducible refine db_min ?_
      | with_reducible refine db_abs ?_
      | with_reducible refine db_intI ?_
      | with_reducible refine db_intB ?_)
  | ((with_reducible refine tgDS ?_); first
      | with_reducible refine dsl_take ?_
      | with_reducible refine dsl_drop1 ?_
      | with_reducible refine dsl_drop ?_
      | ((with_reducible refine ds_mid ?_ ?_ ?_); (focus omega); (focus omega))
      | ((with_reducible refine ds_take ?_ ?_); (focus omega))
      | ((with_reducible refine ds_drop1 ?_ ?_); (focus omega))
      | ((with_reducible refine ds_drop ?_ ?_); (focus omega))
      | with_reducible refine ds_qn ?_
      | with_reducible refine ds_lst ?_
      | with_reducible refine ds_tup ?_)
  | ((with_reducible refine tgIf ?_); first
      | with_reducible refine ite_n ?_
      | ((with_reducible refine ite_BT ?_ ?_); (focus (first | assumption | (with_reducible rfl))))
      | ((with_reducible refine ite_BF ?_ ?_); (focus assumption))
      | ((with_reducible refine ite_dT ?_ ?_); (focus (first | assumption | omega | (with_reducible rfl) | (simp; done) | exact rfl)))
      | ((with_reducible refine ite_dF ?_ ?_); (focus (first | omega | decide)))
      | with_reducible refine iteT ?_
      | with_reducible refine iteF ?_)
  | ((with_reducible apply tgPick); (focus (simp only [pick, List.filterMap_cons, List.filterMap_nil, List.getElem?_cons_zero, List.getElem?_cons_succ]; rfl)))
  | ((with_reducible refine u_check_row ?_ ?_); (focus (first | assumption | omega | decide | (simp; done) | (simp; omega))))
  | ((with_reducible refine u_check_both ?_ ?_ ?_); (focus (first | assumption | omega | decide | (simp; done) | (simp; omega))); (focus (first | assumption | omega | decide | (simp; done) | (simp; omega))))
  | ((with_reducible refine u_check_depth ?_ ?_); (focus (first | assumption | omega | decide | (simp; done) | (simp; omega))))
  | ((with_reducible refine u_are_alikeN ?_ ?_ ?_ ?_ ?_ ?_); (focus (first | assumption | omega | decide | (simp; done) | (simp; omega))); (focus (first | assumption | omega | decide | (simp; done) | (simp; omega))); (focus (first | assumption | omega | decide | (simp; done) | (simp; omega))); (focus (first | assumption | omega | decide | (simp; done) | (simp; omega))); (focus (first | assumption | omega | decide | (simp; done) | (simp; omega))))
  | ((with_reducible refine u_are_alike ?_ ?_ ?_ ?_ ?_ ?_ ?_); (focus (first | assumption | omega | decide | (simp; done) | (simp; omega))); (focus (first | assumption | omega | decide | (simp; done) | (simp; omega))); (focus (first | assumption | omega | decide | (simp; done) | (simp; omega))); (focus (first | assumption | omega | decide | (simp; done) | (simp; omega))); (focus (first | assumption | omega | decide | (simp; done) | (simp; omega))); (focus (first | assumption | omega | decide | (simp; done) | (simp; omega))))
  | ((with_reducible refine u_wAlikeN ?_ ?_ ?_ ?_); (focus (first | assumption | omega | decide | (simp; done) | (simp; omega))); (focus (first | assumption | omega | decide | (simp; done) | (simp; omega))); (focus (first | assumption | omega | decide | (simp; done) | (simp; omega))))
  | ((with_reducible refine u_wAlike ?_ ?_ ?_ ?_ ?_); (focus (first | assumption | omega | decide | (simp; done) | (simp; omega))); (focus (first | assumption | omega | decide | (simp; done) | (simp; omega))); (focus (first | assumption | omega | decide | (simp; done) | (simp; omega))); (focus (first | assumption | omega | decide | (simp; done) | (simp; omega))))
  | ((with_reducible refine u_answers ?_ ?_ ?_ ?_ ?_ ?_ ?_ ?_ ?_); (focus (first | assumption | omega | decide | (simp; done) | (simp; omega))); (focus (first | assumption | omega | decide | (simp; done) | (simp; omega))); (focus (first | assumption | omega | decide | (simp; done) | (simp; omega))); (focus (first | assumption | omega | decide | (simp; done) | (simp; omega))); (focus (first | assumption | omega | decide | (simp; done) | (simp; omega))); (focus (first | assumption | omega | decide | (simp; done) | (simp; omega))); (focus (first | assumption | omega | decide | (simp; done) | (simp; omega))); (focus (first | assumption | omega | decide | (simp; done) | (simp; omega))))
  | ((with_reducible refine u_winN ?_ ?_ ?_ ?_ ?_ ?_); (focus (first | assumption | omega | decide | (simp; done) | (simp; omega))); (focus (first | assumption | omega | decide | (simp; done) | (simp; omega))); (focus (first | assumption | omega | decide | (simp; done) | (simp; omega))); (focus (first | assumption | omega | decide | (simp; done) | (simp; omega))); (focus (first | assumption | omega | decide | (simp; done) | (simp; omega))))
  | ((with_reducible refine u_win ?_ ?_ ?_ ?_ ?_ ?_ ?_); (focus (first | assumption | omega | decide | (simp; done) | (simp; omega))); (focus (first | assumption | omega | decide | (simp; done) | (simp; omega))); (focus (first | assumption | omega | decide | (simp; done) | (simp; omega))); (focus (first | assumption | omega | decide | (simp; done) | (simp; omega))); (focus (first | assumption | omega | decide | (simp; done) | (simp; omega))); (focus (first | assumption | omega | decide | (simp; done) | (simp; omega))))
  | ((with_reducible refine u_un ?_ ?_ ?_ ?_ ?_); (focus (first | assumption | omega | decide | (simp; done) | (simp; omega))); (focus (first | assumption | omega | decide | (simp; done) | (simp; omega))); (focus (first | assumption | omega | decide | (simp; done) | (simp; omega))); (focus (first | assumption | omega | decide | (simp; done) | (simp; omega))))
  | ((with_reducible refine u_draw ?_ ?_ ?_ ?_); (focus (first | assumption | omega | decide | (simp; done) | (simp; omega))); (focus (first | assumption | omega | decide | (simp; done) | (simp; omega))); (focus (first | assumption | omega | decide | (simp; done) | (simp; omega))))
  | ((with_reducible refine u_pair ?_ ?_ ?_ ?_); (focus (first | assumption | omega | decide | (simp; done) | (simp; omega))); (focus (first | assumption | omega | decide | (simp; done) | (simp; omega))); (focus (first | assumption | omega | decide | (simp; done) | (simp; omega))))
  | ((with_reducible refine u_inStep ?_ ?_); (focus (first | assumption | omega | decide | (simp; done) | (simp; omega))))
  | ((with_reducible refine u_lasts ?_ ?_ ?_ ?_ ?_ ?_); (focus (first | assumption | omega | decide | (simp; done) | (simp; omega))); (focus (first | assumption | omega | decide | (simp; done) | (simp; omega))); (focus (first | assumption | omega | decide | (simp; done) | (simp; omega))); (focus (first | assumption | omega | decide | (simp; done) | (simp; omega))); (focus (first | assumption | omega | decide | (simp; done) | (simp; omega))))
  | ((with_reducible apply u_qry); (focus (first | assumption | omega | decide | (simp; done) | (simp; omega))); (focus (first | assumption | omega | decide | (simp; done) | (simp; omega))); (focus (first | assumption | omega | decide | (simp; done) | (simp; omega))); (focus (first | assumption | omega | decide | (simp; done) | (simp; omega))); (focus (first | assumption | omega | decide | (simp; done) | (simp; omega))); (focus (first | assumption | omega | decide | (simp; done) | (simp; omega))); (focus (first | assumption | omega | decide | (simp; done) | (simp; omega))))
  | ((with_reducible apply u_steep); (focus (first | assumption | omega | decide | (simp; done) | (simp; omega))); (focus (first | assumption | omega | decide | (simp; done) | (simp; omega))); (focus (first | assumption | omega | decide | (simp; done) | (simp; omega))); (focus (first | assumption | omega | decide | (simp; done) | (simp; omega))); (focus (first | assumption | omega | decide | (simp; done) | (simp; omega))))
  | ((with_reducible apply u_anyq); (focus (first | assumption | omega | decide | (simp; done) | (simp; omega))); (focus (first | assumption | omega | decide | (simp; done) | (simp; omega))); (focus (first | assumption | omega | decide | (simp; done) | (simp; omega))); (focus (first | assumption | omega | decide | (simp; done) | (simp; omega))))
  | ((with_reducible refine u_lets ?_ ?_ ?_); (focus (first | assumption | omega | decide | (simp; done) | (simp; omega))); (focus (first | assumption | omega | decide | (simp; done) | (simp; omega))))
  | ((with_reducible refine u_letsH ?_ ?_ ?_); (focus (first | assumption | omega | decide | (simp; done) | (simp; omega))); (focus (first | assumption | omega | decide | (simp; done) | (simp; omega))))
  | ((with_reducible refine u_islet ?_ ?_); (focus (first | assumption | omega | decide | (simp; done) | (simp; omega))))
  | ((with_reducible refine u_inner ?_))
  | ((with_reducible refine u_isq ?_ ?_ ?_ ?_); (focus (first | assumption | omega | decide | (simp; done) | (simp; omega))); (focus (first | assumption | omega | decide | (simp; done) | (simp; omega))); (focus (first | assumption | omega | decide | (simp; done) | (simp; omega))))
  | ((with_reducible refine u_isqH ?_ ?_ ?_ ?_); (focus (first | assumption | omega | decide | (simp; done) | (simp; omega))); (focus (first | assumption | omega | decide | (simp; done) | (simp; omega))); (focus (first | assumption | omega | decide | (simp; done) | (simp; omega))))
  | ((with_reducible refine u_chq ?_ ?_ ?_); (focus (first | assumption | omega | decide | (simp; done) | (simp; omega))); (focus (first | assumption | omega | decide | (simp; done) | (simp; omega))))
  | ((with_reducible refine u_chqH ?_ ?_ ?_); (focus (first | assumption | omega | decide | (simp; done) | (simp; omega))); (focus (first | assumption | omega | decide | (simp; done) | (simp; omega))))
  | ((with_reducible refine u_add ?_ ?_ ?_); (focus (first | assumption | omega | decide | (simp; done) | (simp; omega))); (focus (first | assumption | omega | decide | (simp; done) | (simp; omega))))
  | ((with_reducible refine u_addH ?_ ?_ ?_); (focus (first | assumption | omega | decide | (simp; done) | (simp; omega))); (focus (first | assumption | omega | decide | (simp; done) | (simp; omega))))
  | ((with_reducible apply u_isletA); (focus (first | assumption | omega | decide | (simp; done) | (simp; omega))); (focus (first | assumption | omega | decide | (simp; done) | (simp; omega))); (focus (first | assumption | omega | decide | (simp; done) | (simp; omega))); (focus (first | assumption | omega | decide | (simp; done) | (simp; omega))); (focus (first | assumption | omega | decide | (simp; done) | (simp; omega))))
  | ((with_reducible apply u_metA); (focus (first | assumption | omega | decide | (simp; done) | (simp; omega))); (focus (first | assumption | omega | decide | (simp; done) | (simp; omega))); (focus (first | assumption | omega | decide | (simp; done) | (simp; omega))); (focus (first | assumption | omega | decide | (simp; done) | (simp; omega))); (focus (first | assumption | omega | decide | (simp; done) | (simp; omega))); (focus (first | assumption | omega | decide | (simp; done) | (simp; omega))))
  | ((with_reducible refine u_lets1 ?_ ?_ ?_); (focus (first | assumption | omega | decide | (simp; done) | (simp; omega))); (focus (first | assumption | omega | decide | (simp; done) | (simp; omega))))
  | ((with_reducible refine u_lets1H ?_ ?_ ?_ ?_); (focus (first | assumption | omega | decide | (simp; done) | (simp; omega))); (focus (first | assumption | omega | decide | (simp; done) | (simp; omega))); (focus (first | assumption | omega | decide | (simp; done) | (simp; omega))))
  | ((with_reducible refine u_letsPH ?_ ?_ ?_ ?_ ?_ ?_); (focus (first | assumption | omega | decide | (simp; done) | (simp; omega))); (focus (first | assumption | omega | decide | (simp; done) | (simp; omega))); (focus (first | assumption | omega | decide | (simp; done) | (simp; omega))); (focus (first | assumption | omega | decide | (simp; done) | (simp; omega))); (focus (first | assumption | omega | decide | (simp; done) | (simp; omega))))
  | ((with_reducible refine u_letsPa ?_ ?_ ?_); (focus (first | assumption | omega | decide | (simp; done) | (simp; omega))); (focus (first | assumption | omega | decide | (simp; done) | (simp; omega))))
  | ((with_reducible refine u_letsPn ?_ ?_ ?_ ?_ ?_); (focus (first | assumption | omega | decide | (simp; done) | (simp; omega))); (focus (first | assumption | omega | decide | (simp; done) | (simp; omega))); (focus (first | assumption | omega | decide | (simp; done) | (simp; omega))); (focus (first | assumption | omega | decide | (simp; done) | (simp; omega))))
  | ((with_reducible refine u_letsPb ?_ ?_ ?_ ?_ ?_ ?_); (focus (first | assumption | omega | decide | (simp; done) | (simp; omega))); (focus (first | assumption | omega | decide | (simp; done) | (simp; omega))); (focus (first | assumption | omega | decide | (simp; done) | (simp; omega))); (focus (first | assumption | omega | decide | (simp; done) | (simp; omega))); (focus (first | assumption | omega | decide | (simp; done) | (simp; omega))))
  | ((with_reducible refine u_letsPs ?_ ?_ ?_ ?_ ?_ ?_ ?_); (focus (first | assumption | omega | decide | (simp; done) | (simp; omega))); (focus (first | assumption | omega | decide | (simp; done) | (simp; omega))); (focus (first | assumption | omega | decide | (simp; done) | (simp; omega))); (focus (first | assumption | omega | decide | (simp; done) | (simp; omega))); (focus (first | assumption | omega | decide | (simp; done) | (simp; omega))); (focus (first | assumption | omega | decide | (simp; done) | (simp; omega))))
  | ((with_reducible refine u_letsS ?_ ?_ ?_); (focus (first | assumption | omega | decide | (simp; done) | (simp; omega))); (focus (first | assumption | omega | decide | (simp; done) | (simp; omega))))
  | ((with_reducible refine u_letsP ?_ ?_ ?_ ?_ ?_); (focus (first | assumption | omega | decide | (simp; done) | (simp; omega))); (focus (first | assumption | omega | decide | (simp; done) | (simp; omega))); (focus (first | assumption | omega | decide | (simp; done) | (simp; omega))); (focus (first | assumption | omega | decide | (simp; done) | (simp; omega))))
  | ((with_reducible apply u_line); (focus (first | assumption | omega | decide | (simp; done) | (simp; omega))); (focus (first | assumption | omega | decide | (simp; done) | (simp; omega))); (focus (first | assumption | omega | decide | (simp; done) | (simp; omega))))
  | ((with_reducible refine u_turnA ?_ ?_); (focus (first | assumption | omega | decide | (simp; done) | (simp; omega))))
  | ((with_reducible refine u_turnAH ?_ ?_); (focus (first | assumption | omega | decide | (simp; done) | (simp; omega))))
  | ((with_reducible refine u_turnQ ?_ ?_ ?_); (focus (first | assumption | omega | decide | (simp; done) | (simp; omega))); (focus (first | assumption | omega | decide | (simp; done) | (simp; omega))))
  | ((with_reducible refine u_turnQH ?_ ?_ ?_); (focus (first | assumption | omega | decide | (simp; done) | (simp; omega))); (focus (first | assumption | omega | decide | (simp; done) | (simp; omega))))
  | ((with_reducible refine u_turnQS ?_ ?_ ?_ ?_ ?_); (focus (first | assumption | omega | decide | (simp; done) | (simp; omega))); (focus (first | assumption | omega | decide | (simp; done) | (simp; omega))); (focus (first | assumption | omega | decide | (simp; done) | (simp; omega))); (focus (first | assumption | omega | decide | (simp; done) | (simp; omega))))
  | ((with_reducible refine u_places ?_ ?_ ?_ ?_ ?_); (focus (first | assumption | omega | decide | (simp; done) | (simp; omega))); (focus (first | assumption | omega | decide | (simp; done) | (simp; omega))); (focus (first | assumption | omega | decide | (simp; done) | (simp; omega))); (focus (first | assumption | omega | decide | (simp; done) | (simp; omega))))
  | ((with_reducible refine u_placesS ?_ ?_ ?_ ?_ ?_ ?_ ?_); (focus (first | assumption | omega | decide | (simp; done) | (simp; omega))); (focus (first | assumption | omega | decide | (simp; done) | (simp; omega))); (focus (first | assumption | omega | decide | (simp; done) | (simp; omega))); (focus (first | assumption | omega | decide | (simp; done) | (simp; omega))); (focus (first | assumption | omega | decide | (simp; done) | (simp; omega))); (focus (first | assumption | omega | decide | (simp; done) | (simp; omega))))
  | ((with_reducible refine u_parting ?_ ?_ ?_ ?_ ?_); (focus (first | assumption | omega | decide | (simp; done) | (simp; omega))); (focus (first | assumption | omega | decide | (simp; done) | (simp; omega))); (focus (first | assumption | omega | decide | (simp; done) | (simp; omega))); (focus (first | assumption | omega | decide | (simp; done) | (simp; omega))))
  | ((with_reducible refine u_pat ?_))
  | ((with_reducible refine u_bare ?_))
  | ((with_reducible refine u_has ?_ ?_ ?_); (focus (first | assumption | omega | decide | (simp; done) | (simp; omega))); (focus (first | assumption | omega | decide | (simp; done) | (simp; omega))))
  | ((with_reducible refine u_allOf ?_ ?_ ?_ ?_); (focus (first | assumption | omega | decide | (simp; done) | (simp; omega))); (focus (first | assumption | omega | decide | (simp; done) | (simp; omega))); (focus (first | assumption | omega | decide | (simp; done) | (simp; omega))))
  | ((with_reducible apply u_leastOf); (focus (first | assumption | omega | decide | (simp; done) | (simp; omega))); (focus (first | assumption | omega | decide | (simp; done) | (simp; omega))); (focus (first | assumption | omega | decide | (simp; done) | (simp; omega))); (focus (first | assumption | omega | decide | (simp; done) | (simp; omega))); (focus (first | assumption | omega | decide | (simp; done) | (simp; omega))))
  | ((with_reducible refine u_depIn ?_ ?_); (focus (first | assumption | omega | decide | (simp; done) | (simp; omega))))
  | ((with_reducible refine u_depOf ?_ ?_ ?_); (focus (first | assumption | omega | decide | (simp; done) | (simp; omega))); (focus (first | assumption | omega | decide | (simp; done) | (simp; omega))))
  | ((with_reducible refine u_depOfH ?_ ?_ ?_); (focus (first | assumption | omega | decide | (simp; done) | (simp; omega))); (focus (first | assumption | omega | decide | (simp; done) | (simp; omega))))
  | ((with_reducible refine u_sameMany ?_ ?_ ?_ ?_ ?_); (focus (first | assumption | omega | decide | (simp; done) | (simp; omega))); (focus (first | assumption | omega | decide | (simp; done) | (simp; omega))); (focus (first | assumption | omega | decide | (simp; done) | (simp; omega))); (focus (first | assumption | omega | decide | (simp; done) | (simp; omega))))
  | ((with_reducible refine u_settledN ?_ ?_ ?_ ?_); (focus (first | assumption | omega | decide | (simp; done) | (simp; omega))); (focus (first | assumption | omega | decide | (simp; done) | (simp; omega))); (focus (first | assumption | omega | decide | (simp; done) | (simp; omega))))
  | ((with_reducible refine u_isBlk ?_))
  | ((with_reducible refine u_depB ?_ ?_ ?_ ?_); (focus (first | assumption | omega | decide | (simp; done) | (simp; omega))); (focus (first | assumption | omega | decide | (simp; done) | (simp; omega))); (focus (first | assumption | omega | decide | (simp; done) | (simp; omega))))
  | ((with_reducible refine u_ct ?_ ?_ ?_ ?_); (focus (first | assumption | omega | decide | (simp; done) | (simp; omega))); (focus (first | assumption | omega | decide | (simp; done) | (simp; omega))); (focus (first | assumption | omega | decide | (simp; done) | (simp; omega))))
  | ((with_reducible refine u_cb ?_ ?_ ?_ ?_); (focus (first | assumption | omega | decide | (simp; done) | (simp; omega))); (focus (first | assumption | omega | decide | (simp; done) | (simp; omega))); (focus (first | assumption | omega | decide | (simp; done) | (simp; omega))))
  | ((with_reducible refine u_known ?_ ?_ ?_); (focus (first | assumption | omega | decide | (simp; done) | (simp; omega))); (focus (first | assumption | omega | decide | (simp; done) | (simp; omega))))
  | ((with_reducible refine u_letters ?_ ?_ ?_ ?_); (focus (first | assumption | omega | decide | (simp; done) | (simp; omega))); (focus (first | assumption | omega | decide | (simp; done) | (simp; omega))); (focus (first | assumption | omega | decide | (simp; done) | (simp; omega))))
  | with_reducible refine dun_neg ?_
  | with_reducible refine tgA2 ?_
  | with_reducible refine tgA3 ?_
  | with_reducible refine tgEx2 ?_
  | with_reducible refine tgEx3 ?_
  | with_reducible refine tgEx4 ?_
  | with_reducible refine tgT2 ?_
  | with_reducible refine tgT3 ?_
  | with_reducible refine tgL2 ?_
  | with_reducible refine tgT4 ?_
  | refine ⟨_, (Or.inl rfl : DL.D.lst _ = DL.D.lst _ ∨ _), ?_⟩
  | refine ⟨_, (Or.inr rfl : _ ∨ DL.D.tup _ = DL.D.tup _), ?_⟩
  | with_reducible refine xin_no ?_
  | with_reducible refine xr_no ?_
  | refine ⟨(rfl : DL.D.ref _ = DL.D.ref _), ?_⟩
  | refine ⟨(rfl : DL.D.ty _ = Option.some _), ?_⟩
  | refine ⟨Qn.ty _, ?_⟩
  | refine ⟨(by simp : List.length _ ≤ 100000), ?_⟩
  | refine ⟨(by simp : List.length _ = _), ?_⟩
  | with_reducible refine wo_none ?_
  | with_reducible refine wo_some ?_
  | refine ⟨_, rfl, ?_⟩))
local macro_rules | `(tactic| walk_at "hl") => `(tactic| first
  | (rintro ⟨e, _⟩; rw [e]; rfl)
  | (rintro ⟨_, e, _⟩; rw [e]; rfl)
  | (rintro ⟨_, _, e, _⟩; rw [e]; rfl)
  | (rintro ⟨_, _, _, e, _⟩; rw [e]; rfl)
  | (rintro ⟨_, _, _, _, e, _⟩; rw [e]; rfl)
  | (rintro ⟨_, _, _, _, _, e, _⟩; rw [e]; rfl)
  | (rintro ⟨_, _, _, _, _, _, e, _⟩; rw [e]; rfl)
  | (rintro ⟨_, _, _, _, _, _, _, e, _⟩; rw [e]; rfl)
  | (rintro ⟨_, _, _, _, _, _, _, _, e, _⟩; rw [e]; rfl)
  | (rintro ⟨_, _, _, _, _, _, _, _, _, e, _⟩; rw [e]; rfl)
  | (rintro ⟨_, _, _, _, _, _, _, _, _, _, e, _⟩; rw [e]; rfl)
  | (rintro ⟨_, _, _, _, _, _, _, _, _, _, _, e, _⟩; rw [e]; rfl))
local macro_rules | `(tactic| walk_at "rec0") => `(tactic| first
  | (rintro ⟨_, _, _, _, _, _, _, _, ⟨_, h0, _⟩, _⟩; exact absurd h0 (Nat.not_lt_zero _))
  | (rintro ⟨_, _, _, ⟨_, h0, _⟩, _⟩; exact absurd h0 (Nat.not_lt_zero _))
  | (rintro ⟨_, _, _, _, _, ⟨_, h0, _⟩, _⟩; exact absurd h0 (Nat.not_lt_zero _))
  | (rintro ⟨_, _, _, _, _, _, ⟨_, h0, _⟩, _⟩; exact absurd h0 (Nat.not_lt_zero _)))
local macro_rules | `(tactic| walk_at "v") => `(tactic| repeat (first
  | ((with_reducible refine tgWE ?_); first
      | ((with_reducible apply tgSetE); (focus (simp only [List.set_cons_succ, List.set_cons_zero]; rfl)))
      | with_reducible refine we_srtSet ?_
      | ((with_reducible apply we_callX); (focus (first | exact poolC _ _ _ _ _ _ _ | exact resC | exact onP | exact onB | exact onU onP | exact onU resC | exact onU (poolC _ _ _ _ _ _ _) | exact onU onB | exact onU (onU onP) | exact onU (onU (poolC _ _ _ _ _ _ _)))))
      | ((with_reducible refine tgNew ?_); refine we_dnewN ?_)
      | ((with_reducible apply we_methV); (focus (first | exact onK | exact onK0)); exact rfl; exact rfl)
      | with_reducible refine we_callF ?_
      | with_reducible refine we_callNF ?_
      | ((with_reducible apply we_callR); (focus (first | exact poolC _ _ _ _ _ _ _ | exact resC | exact onP | exact onB | exact onU onP | exact onU resC | exact onU (poolC _ _ _ _ _ _ _) | exact onU onB | exact onU (onU onP) | exact onU (onU (poolC _ _ _ _ _ _ _)))))
      | ((with_reducible apply we_methA); (focus (first | exact ac0 | exact onA)); (focus decide); (focus decide); (focus decide))
      | ((with_reducible apply we_fldAn); (focus (first | exact ac0 | exact onA)); assumption)
      | ((with_reducible apply we_fldAk); (focus (first | exact ac0 | exact onA)); assumption)
      | ((with_reducible apply we_fldAl); (focus (first | exact ac0 | exact onA)); assumption)
      | ((with_reducible apply we_dtnin); (focus (first | exact jc0.part subJj | exact onR.part subJj)))
      | ((with_reducible apply we_dtget); (focus (first | exact jc0.part subJj | exact onR.part subJj)))
      | ((with_reducible apply we_dinin); (focus (first | exact jc0.part subJl | exact onR.part subJl)))
      | ((with_reducible apply we_diget); (focus (first | exact jc0.part subJl | exact onR.part subJl)))
      | ((with_reducible apply we_methJ); (focus (first | exact jc0 | exact onR)); (focus decide); (focus decide); (focus decide); (focus decide))
      | ((with_reducible apply we_fldJt); (focus (first | exact jc0 | exact onR)); assumption)
      | ((with_reducible apply we_fldJs); (focus (first | exact jc0 | exact onR)); assumption)
      | ((with_reducible apply we_fldJl); (focus (first | exact jc0 | exact onR)); assumption)
      | ((with_reducible apply we_fldJj); (focus (first | exact jc0 | exact onR)); assumption)
      | ((with_reducible apply we_reprOwn2); exact rfl)
      | with_reducible refine we_maxDf ?_
      | ((with_reducible apply we_ktup); assumption)
      | with_reducible refine we_ref ?_
      | ((with_reducible apply we_callK); (focus (first | exact onK | exact onK0)))
      | with_reducible refine we_scount ?_
      | with_reducible refine we_sstarts ?_
      | with_reducible refine we_sends ?_
      | ((with_reducible apply we_revR); (focus (exact rfl)); (focus (first | assumption | omega | decide | (simp; done) | (simp; omega))))
      | with_reducible refine we_isi ?_
      | ((with_reducible apply we_var); focus rfl)
      | with_reducible refine we_int ?_
      | with_reducible refine we_str ?_
      | with_reducible refine we_bl ?_
      | with_reducible refine we_non ?_
      | with_reducible refine we_op ?_
      | with_reducible refine we_un ?_
      | with_reducible refine we_chain ?_
      | with_reducible refine we_cb ?_
      | with_reducible refine we_tup ?_
      | with_reducible refine we_lst ?_
      | with_reducible refine we_if ?_
      | with_reducible refine we_andV ?_
      | with_reducible refine we_orV ?_
      | with_reducible refine we_notV ?_
      | with_reducible refine we_sl ?_
      | with_reducible refine we_join ?_
      | with_reducible refine we_draw ?_)
  | ((with_reducible refine tgWS ?_); first
      | ((with_reducible apply tgSet); (focus (simp only [List.set_cons_succ, List.set_cons_zero]; rfl)))
      | ((with_reducible apply ws_retOwn); exact rfl)
      | ((with_reducible apply ws_app); exact rfl; (focus (first | assumption | omega | decide | (simp; done) | (simp; omega))))
      | ((with_reducible apply ws_ext); exact rfl; (focus (first | assumption | omega | decide | (simp; done) | (simp; omega))))
      | with_reducible refine ws_nx ?_
      | with_reducible refine ws_asgF ?_
      | with_reducible refine ws_parF ?_
      | with_reducible refine ws_par3F ?_
      | ((with_reducible refine ws_par3 ?_ ?_ ?_ ?_); (focus (simp; done)); (focus (simp; done)); (focus (simp; done)))
      | ((with_reducible refine ws_tup3 rfl ?_ ?_ ?_ ?_); (focus (simp; done)); (focus (simp; done)); (focus (simp; done)))
      | ((with_reducible refine ws_tup4 rfl ?_ ?_ ?_ ?_ ?_); (focus (simp; done)); (focus (simp; done)); (focus (simp; done)); (focus (simp; done)))
      | ((with_reducible refine ws_asg2 rfl ?_ ?_ ?_); (focus (simp; done)); (focus (simp; done)))
      | ((with_reducible refine ws_asgL2 rfl ?_ ?_ ?_); (focus (simp; done)); (focus (simp; done)))
      | ((with_reducible refine ws_asg3 rfl ?_ ?_ ?_ ?_); (focus (simp; done)); (focus (simp; done)); (focus (simp; done)))
      | ((with_reducible refine ws_par ?_ ?_ ?_); (focus (simp; done)); (focus (simp; done)))
      | with_reducible refine ws_newK fun _ _ _ _ => ?_
      | with_reducible refine ws_newA ?_
      | with_reducible refine ws_newR ?_
      | with_reducible refine ws_newR2 ?_
      | ((with_reducible refine ws_asg4 rfl ?_ ?_ ?_ ?_ ?_); (focus (simp; done)); (focus (simp; done)); (focus (simp; done)); (focus (simp; done)))
      | with_reducible refine ws_seq ?_
      | with_reducible refine ws_next ?_
      | with_reducible refine ws_cnt ?_
      | with_reducible refine ws_brk ?_
      | with_reducible refine ws_if ?_
      | with_reducible refine ws_retN ?_
      | with_reducible refine ws_ret ?_
      | with_reducible refine ws_asg ?_
      | with_reducible refine ws_drop ?_)
  | ((with_reducible refine tgFZ ?_); first
      | with_reducible refine fz_dat ?_
      | with_reducible refine fz_own ?_)
  | ((with_reducible refine tgWA ?_); first
      | with_reducible refine wa_star ?_
      | with_reducible refine wa_nil ?_
      | with_reducible refine wa_cons ?_)
  | ((with_reducible refine tgWT ?_); first
      | ((with_reducible apply tgSetT); (focus (simp only [List.set_cons_succ, List.set_cons_zero]; rfl)))
      | with_reducible refine wt_yes ?_
      | with_reducible refine wt_test ?_
      | with_reducible refine wt_B ?_
      | with_reducible refine wt_not ?_
      | with_reducible refine wt_and ?_
      | with_reducible refine wt_or ?_)
  | ((with_reducible refine tgWAO ?_); first
      | with_reducible refine wao_nil ?_
      | with_reducible refine wao_cons ?_)
  | ((with_reducible refine tgDO ?_); first
      | ((with_reducible refine dop_shl1 ?_ ?_ ?_); (focus omega); (focus omega))
      | with_reducible refine deq_row ?_
      | ((with_reducible apply deq_enc); (focus (first | exact encNat | exact encP2 | exact encInt)))
      | ((with_reducible apply dne_enc); (focus (first | exact encNat | exact encP2 | exact encInt)))
      | ((with_reducible apply deq_encN); (focus (first | exact encNat | exact encP2 | exact encInt)))
      | ((with_reducible apply dne_encN); (focus (first | exact encNat | exact encP2 | exact encInt)))
      | ((with_reducible refine da_map ?_ ?_); (focus (first | assumption | omega | decide | (simp; done) | (simp; omega))))
      | ((with_reducible refine da_snoc2 ?_ ?_); (focus omega))
      | with_reducible refine dne_row ?_
      | ((with_reducible refine dop_fdivN ?_ ?_ ?_); (focus omega); (focus omega))
      | ((with_reducible apply di_names); assumption; (focus omega); (focus omega))
      | ((with_reducible apply di_qn); exact rfl)
      | ((with_reducible apply dnin_tab); assumption; (focus (first | exact .head _ | exact .tail _ (.head _) | exact .tail _ (.tail _ (.head _)) | exact .tail _ (.tail _ (.tail _ (.head _))))))
      | ((with_reducible apply di_tab); assumption; (focus (first | exact .head _ | exact .tail _ (.head _) | exact .tail _ (.tail _ (.head _)) | exact .tail _ (.tail _ (.tail _ (.head _))))))
      | ((with_reducible refine dop_pow2 ?_ ?_ ?_); (focus omega); (focus omega))
      | ((with_reducible refine dop_pow10 ?_ ?_ ?_); (focus omega); (focus omega))
      | with_reducible refine dis_opt ?_
      | with_reducible refine dnis_bl ?_
      | with_reducible refine dis_qn ?_
      | with_reducible refine dnis_qn ?_
      | with_reducible refine dis_non0 ?_
      | with_reducible refine dnis_non0 ?_
      | with_reducible refine dnis_opt ?_
      | with_reducible refine dle_opt ?_
      | ((with_reducible refine deq_qn ?_ ?_ ?_ ?_ ?_); (focus (first | assumption | omega | decide | (simp; done) | (simp; omega))); (focus (first | assumption | omega | decide | (simp; done) | (simp; omega))); (focus (first | assumption | omega | decide | (simp; done) | (simp; omega))); (focus (first | assumption | omega | decide | (simp; done) | (simp; omega))))
      | ((with_reducible refine dne_qn ?_ ?_ ?_ ?_ ?_); (focus (first | assumption | omega | decide | (simp; done) | (simp; omega))); (focus (first | assumption | omega | decide | (simp; done) | (simp; omega))); (focus (first | assumption | omega | decide | (simp; done) | (simp; omega))); (focus (first | assumption | omega | decide | (simp; done) | (simp; omega))))
      | with_reducible refine din_row2 ?_
      | ((with_reducible refine dm_row ?_ ?_ ?_ ?_); (focus (first | assumption | omega | decide | (simp; done) | (simp; omega))); (focus (first | assumption | omega | decide | (simp; done) | (simp; omega))); (focus (first | assumption | omega | decide | (simp; done) | (simp; omega))))
      | with_reducible refine deq_opt ?_
      | with_reducible refine dne_opt ?_
      | ((with_reducible refine deq_qn0 ?_ ?_ ?_); assumption; (focus omega))
      | with_reducible refine da_int ?_
      | with_reducible refine dop_sub ?_
      | with_reducible refine dlt_int ?_
      | with_reducible refine dle_int ?_
      | with_reducible refine dop_gt ?_
      | with_reducible refine dop_ge ?_
      | ((with_reducible apply de_sc); focus rfl)
      | ((with_reducible apply dn_sc); focus rfl)
      | ((with_reducible apply di_tup); focus rfl)
      | ((with_reducible apply di_lst); focus rfl))
  | ((with_reducible refine tgDC ?_); first
      | ((with_reducible refine dl_row ?_ ?_); (focus (first | omega | (simp; done))))
      | with_reducible refine dl_map ?_
      | ((with_reducible apply dl_names); assumption)
      | with_reducible refine db_repr2 ?_
      | ((with_reducible refine db_reprN2 ?_ ?_ ?_); (focus (first | assumption | omega | decide | (simp; done) | (simp; omega))); (focus (first | assumption | omega | decide | (simp; done) | (simp; omega))))
      | ((with_reducible refine db_sortN ?_ ?_); (focus (first | assumption | omega | decide | (simp; done) | (simp; omega))))
      | ((with_reducible refine db_sortP ?_ ?_); (focus (first | assumption | omega | decide | (simp; done) | (simp; omega))))
      | ((with_reducible apply dl_qn); exact rfl)
      | with_reducible refine db_all ?_
      | ((with_reducible apply db_isX); (focus (exact knows_exc)); (focus assumption); (focus assumption))
      | with_reducible refine db_anyB ?_
      | with_reducible refine db_listT ?_
      | with_reducible refine db_listL ?_
      | with_reducible refine dl_lst ?_
      | with_reducible refine dl_tup ?_
      | with_reducible refine db_max ?_
      | with_reducible refine db_min ?_
      | with_reducible refine db_abs ?_
      | with_reducible refine db_intI ?_
      | with_reducible refine db_intB ?_)
  | ((with_reducible refine tgDS ?_); first
      | with_reducible refine dsl_take ?_
      | with_reducible refine dsl_drop1 ?_
      | with_reducible refine dsl_drop ?_
      | ((with_reducible refine ds_mid ?_ ?_ ?_); (focus omega); (focus omega))
      | ((with_reducible refine ds_take ?_ ?_); (focus omega))
      | ((with_reducible refine ds_drop1 ?_ ?_); (focus omega))
      | ((with_reducible refine ds_drop ?_ ?_); (focus omega))
      | with_reducible refine ds_qn ?_
      | with_reducible refine ds_lst ?_
      | with_reducible refine ds_tup ?_)
  | ((with_reducible refine tgIf ?_); first
      | with_reducible refine ite_n ?_
      | ((with_reducible refine ite_BT ?_ ?_); (focus (first | assumption | (with_reducible rfl))))
      | ((with_reducible refine ite_BF ?_ ?_); (focus assumption))
      | ((with_reducible refine ite_dT ?_ ?_); (focus (first | assumption | omega | (with_reducible rfl) | (simp; done) | exact rfl)))
      | ((with_reducible refine ite_dF ?_ ?_); (focus (first | omega | decide)))
      | with_reducible refine iteT ?_
      | with_reducible refine iteF ?_)
  | ((with_reducible apply tgPick); (focus (simp only [pick, List.filterMap_cons, List.filterMap_nil, List.getElem?_cons_zero, List.getElem?_cons_succ]; rfl)))
  | ((with_reducible refine u_check_row ?_ ?_); (focus (first | assumption | omega | decide | (simp; done) | (simp; omega))))
  | ((with_reducible refine u_check_both ?_ ?_ ?_); (focus (first | assumption | omega | decide | (simp; done) | (simp; omega))); (focus (first | assumption | omega | decide | (simp; done) | (simp; omega))))
  | ((with_reducible refine u_check_depth ?_ ?_); (focus (first | assumption | omega | decide | (simp; done) | (simp; omega))))
  | ((with_reducible refine u_are_alikeN ?_ ?_ ?_ ?_ ?_ ?_); (focus (first | assumption | omega | decide | (simp; done) | (simp; omega))); (focus (first | assumption | omega | decide | (simp; done) | (simp; omega))); (focus (first | assumption | omega | decide | (simp; done) | (simp; omega))); (focus (first | assumption | omega | decide | (simp; done) | (simp; omega))); (focus (first | assumption | omega | decide | (simp; done) | (simp; omega))))
  | ((with_reducible refine u_are_alike ?_ ?_ ?_ ?_ ?_ ?_ ?_); (focus (first | assumption | omega | decide | (simp; done) | (simp; omega))); (focus (first | assumption | omega | decide | (simp; done) | (simp; omega))); (focus (first | assumption | omega | decide | (simp; done) | (simp; omega))); (focus (first | assumption | omega | decide | (simp; done) | (simp; omega))); (focus (first | assumption | omega | decide | (simp; done) | (simp; omega))); (focus (first | assumption | omega | decide | (simp; done) | (simp; omega))))
  | ((with_reducible refine u_wAlikeN ?_ ?_ ?_ ?_); (focus (first | assumption | omega | decide | (simp; done) | (simp; omega))); (focus (first | assumption | omega | decide | (simp; done) | (simp; omega))); (focus (first | assumption | omega | decide | (simp; done) | (simp; omega))))
  | ((with_reducible refine u_wAlike ?_ ?_ ?_ ?_ ?_); (focus (first | assumption | omega | decide | (simp; done) | (simp; omega))); (focus (first | assumption | omega | decide | (simp; done) | (simp; omega))); (focus (first | assumption | omega | decide | (simp; done) | (simp; omega))); (focus (first | assumption | omega | decide | (simp; done) | (simp; omega))))
  | ((with_reducible refine u_answers ?_ ?_ ?_ ?_ ?_ ?_ ?_ ?_ ?_); (focus (first | assumption | omega | decide | (simp; done) | (simp; omega))); (focus (first | assumption | omega | decide | (simp; done) | (simp; omega))); (focus (first | assumption | omega | decide | (simp; done) | (simp; omega))); (focus (first | assumption | omega | decide | (simp; done) | (simp; omega))); (focus (first | assumption | omega | decide | (simp; done) | (simp; omega))); (focus (first | assumption | omega | decide | (simp; done) | (simp; omega))); (focus (first | assumption | omega | decide | (simp; done) | (simp; omega))); (focus (first | assumption | omega | decide | (simp; done) | (simp; omega))))
  | ((with_reducible refine u_winN ?_ ?_ ?_ ?_ ?_ ?_); (focus (first | assumption | omega | decide | (simp; done) | (simp; omega))); (focus (first | assumption | omega | decide | (simp; done) | (simp; omega))); (focus (first | assumption | omega | decide | (simp; done) | (simp; omega))); (focus (first | assumption | omega | decide | (simp; done) | (simp; omega))); (focus (first | assumption | omega | decide | (simp; done) | (simp; omega))))
  | ((with_reducible refine u_win ?_ ?_ ?_ ?_ ?_ ?_ ?_); (focus (first | assumption | omega | decide | (simp; done) | (simp; omega))); (focus (first | assumption | omega | decide | (simp; done) | (simp; omega))); (focus (first | assumption | omega | decide | (simp; done) | (simp; omega))); (focus (first | assumption | omega | decide | (simp; done) | (simp; omega))); (focus (first | assumption | omega | decide | (simp; done) | (simp; omega))); (focus (first | assumption | omega | decide | (simp; done) | (simp; omega))))
  | ((with_reducible refine u_un ?_ ?_ ?_ ?_ ?_); (focus (first | assumption | omega | decide | (simp; done) | (simp; omega))); (focus (first | assumption | omega | decide | (simp; done) | (simp; omega))); (focus (first | assumption | omega | decide | (simp; done) | (simp; omega))); (focus (first | assumption | omega | decide | (simp; done) | (simp; omega))))
  | ((with_reducible refine u_draw ?_ ?_ ?_ ?_); (focus (first | assumption | omega | decide | (simp; done) | (simp; omega))); (focus (first | assumption | omega | decide | (simp; done) | (simp; omega))); (focus (first | assumption | omega | decide | (simp; done) | (simp; omega))))
  | ((with_reducible refine u_pair ?_ ?_ ?_ ?_); (focus (first | assumption | omega | decide | (simp; done) | (simp; omega))); (focus (first | assumption | omega | decide | (simp; done) | (simp; omega))); (focus (first | assumption | omega | decide | (simp; done) | (simp; omega))))
  | ((with_reducible refine u_inStep ?_ ?_); (focus (first | assumption | omega | decide | (simp; done) | (simp; omega))))
  | ((with_reducible refine u_lasts ?_ ?_ ?_ ?_ ?_ ?_); (focus (first | assumption | omega | decide | (simp; done) | (simp; omega))); (focus (first | assumption | omega | decide | (simp; done) | (simp; omega))); (focus (first | assumption | omega | decide | (simp; done) | (simp; omega))); (focus (first | assumption | omega | decide | (simp; done) | (simp; omega))); (focus (first | assumption | omega | decide | (simp; done) | (simp; omega))))
  | ((with_reducible apply u_qry); (focus (first | assumption | omega | decide | (simp; done) | (simp; omega))); (focus (first | assumption | omega | decide | (simp; done) | (simp; omega))); (focus (first | assumption | omega | decide | (simp; done) | (simp; omega))); (focus (first | assumption | omega | decide | (simp; done) | (simp; omega))); (focus (first | assumption | omega | decide | (simp; done) | (simp; omega))); (focus (first | assumption | omega | decide | (simp; done) | (simp; omega))); (focus (first | assumption | omega | decide | (simp; done) | (simp; omega))))
  | ((with_reducible apply u_steep); (focus (first | assumption | omega | decide | (simp; done) | (simp; omega))); (focus (first | assumption | omega | decide | (simp; done) | (simp; omega))); (focus (first | assumption | omega | decide | (simp; done) | (simp; omega))); (focus (first | assumption | omega | decide | (simp; done) | (simp; omega))); (focus (first | assumption | omega | decide | (simp; done) | (simp; omega))))
  | ((with_reducible apply u_anyq); (focus (first | assumption | omega | decide | (simp; done) | (simp; omega))); (focus (first | assumption | omega | decide | (simp; done) | (simp; omega))); (focus (first | assumption | omega | decide | (simp; done) | (simp; omega))); (focus (first | assumption | omega | decide | (simp; done) | (simp; omega))))
  | ((with_reducible refine u_lets ?_ ?_ ?_); (focus (first | assumption | omega | decide | (simp; done) | (simp; omega))); (focus (first | assumption | omega | decide | (simp; done) | (simp; omega))))
  | ((with_reducible refine u_letsH ?_ ?_ ?_); (focus (first | assumption | omega | decide | (simp; done) | (simp; omega))); (focus (first | assumption | omega | decide | (simp; done) | (simp; omega))))
  | ((with_reducible refine u_islet ?_ ?_); (focus (first | assumption | omega | decide | (simp; done) | (simp; omega))))
  | ((with_reducible refine u_inner ?_))
  | ((with_reducible refine u_isq ?_ ?_ ?_ ?_); (focus (first | assumption | omega | decide | (simp; done) | (simp; omega))); (focus (first | assumption | omega | decide | (simp; done) | (simp; omega))); (focus (first | assumption | omega | decide | (simp; done) | (simp; omega))))
  | ((with_reducible refine u_isqH ?_ ?_ ?_ ?_); (focus (first | assumption | omega | decide | (simp; done) | (simp; omega))); (focus (first | assumption | omega | decide | (simp; done) | (simp; omega))); (focus (first | assumption | omega | decide | (simp; done) | (simp; omega))))
  | ((with_reducible refine u_chq ?_ ?_ ?_); (focus (first | assumption | omega | decide | (simp; done) | (simp; omega))); (focus (first | assumption | omega | decide | (simp; done) | (simp; omega))))
  | ((with_reducible refine u_chqH ?_ ?_ ?_); (focus (first | assumption | omega | decide | (simp; done) | (simp; omega))); (focus (first | assumption | omega | decide | (simp; done) | (simp; omega))))
  | ((with_reducible refine u_add ?_ ?_ ?_); (focus (first | assumption | omega | decide | (simp; done) | (simp; omega))); (focus (first | assumption | omega | decide | (simp; done) | (simp; omega))))
  | ((with_reducible refine u_addH ?_ ?_ ?_); (focus (first | assumption | omega | decide | (simp; done) | (simp; omega))); (focus (first | assumption | omega | decide | (simp; done) | (simp; omega))))
  | ((with_reducible apply u_isletA); (focus (first | assumption | omega | decide | (simp; done) | (simp; omega))); (focus (first | assumption | omega | decide | (simp; done) | (simp; omega))); (focus (first | assumption | omega | decide | (simp; done) | (simp; omega))); (focus (first | assumption | omega | decide | (simp; done) | (simp; omega))); (focus (first | assumption | omega | decide | (simp; done) | (simp; omega))))
  | ((with_reducible apply u_metA); (focus (first | assumption | omega | decide | (simp; done) | (simp; omega))); (focus (first | assumption | omega | decide | (simp; done) | (simp; omega))); (focus (first | assumption | omega | decide | (simp; done) | (simp; omega))); (focus (first | assumption | omega | decide | (simp; done) | (simp; omega))); (focus (first | assumption | omega | decide | (simp; done) | (simp; omega))); (focus (first | assumption | omega | decide | (simp; done) | (simp; omega))))
  | ((with_reducible refine u_lets1 ?_ ?_ ?_); (focus (first | assumption | omega | decide | (simp; done) | (simp; omega))); (focus (first | assumption | omega | decide | (simp; done) | (simp; omega))))
  | ((with_reducible refine u_lets1H ?_ ?_ ?_ ?_); (focus (first | assumption | omega | decide | (simp; done) | (simp; omega))); (focus (first | assumption | omega | decide | (simp; done) | (simp; omega))); (focus (first | assumption | omega | decide | (simp; done) | (simp; omega))))
  | ((with_reducible refine u_letsPH ?_ ?_ ?_ ?_ ?_ ?_); (focus (first | assumption | omega | decide | (simp; done) | (simp; omega))); (focus (first | assumption | omega | decide | (simp; done) | (simp; omega))); (focus (first | assumption | omega | decide | (simp; done) | (simp; omega))); (focus (first | assumption | omega | decide | (simp; done) | (simp; omega))); (focus (first | assumption | omega | decide | (simp; done) | (simp; omega))))
  | ((with_reducible refine u_letsPa ?_ ?_ ?_); (focus (first | assumption | omega | decide | (simp; done) | (simp; omega))); (focus (first | assumption | omega | decide | (simp; done) | (simp; omega))))
  | ((with_reducible refine u_letsPn ?_ ?_ ?_ ?_ ?_); (focus (first | assumption | omega | decide | (simp; done) | (simp; omega))); (focus (first | assumption | omega | decide | (simp; done) | (simp; omega))); (focus (first | assumption | omega | decide | (simp; done) | (simp; omega))); (focus (first | assumption | omega | decide | (simp; done) | (simp; omega))))
  | ((with_reducible refine u_letsPb ?_ ?_ ?_ ?_ ?_ ?_); (focus (first | assumption | omega | decide | (simp; done) | (simp; omega))); (focus (first | assumption | omega | decide | (simp; done) | (simp; omega))); (focus (first | assumption | omega | decide | (simp; done) | (simp; omega))); (focus (first | assumption | omega | decide | (simp; done) | (simp; omega))); (focus (first | assumption | omega | decide | (simp; done) | (simp; omega))))
  | ((with_reducible refine u_letsPs ?_ ?_ ?_ ?_ ?_ ?_ ?_); (focus (first | assumption | omega | decide | (simp; done) | (simp; omega))); (focus (first | assumption | omega | decide | (simp; done) | (simp; omega))); (focus (first | assumption | omega | decide | (simp; done) | (simp; omega))); (focus (first | assumption | omega | decide | (simp; done) | (simp; omega))); (focus (first | assumption | omega | decide | (simp; done) | (simp; omega))); (focus (first | assumption | omega | decide | (simp; done) | (simp; omega))))
  | ((with_reducible refine u_letsS ?_ ?_ ?_); (focus (first | assumption | omega | decide | (simp; done) | (simp; omega))); (focus (first | assumption | omega | decide | (simp; done) | (simp; omega))))
  | ((with_reducible refine u_letsP ?_ ?_ ?_ ?_ ?_); (focus (first | assumption | omega | decide | (simp; done) | (simp; omega))); (focus (first | assumption | omega | decide | (simp; done) | (simp; omega))); (focus (first | assumption | omega | decide | (simp; done) | (simp; omega))); (focus (first | assumption | omega | decide | (simp; done) | (simp; omega))))
  | ((with_reducible apply u_line); (focus (first | assumption | omega | decide | (simp; done) | (simp; omega))); (focus (first | assumption | omega | decide | (simp; done) | (simp; omega))); (focus (first | assumption | omega | decide | (simp; done) | (simp; omega))))
  | ((with_reducible refine u_turnA ?_ ?_); (focus (first | assumption | omega | decide | (simp; done) | (simp; omega))))
  | ((with_reducible refine u_turnAH ?_ ?_); (focus (first | assumption | omega | decide | (simp; done) | (simp; omega))))
  | ((with_reducible refine u_turnQ ?_ ?_ ?_); (focus (first | assumption | omega | decide | (simp; done) | (simp; omega))); (focus (first | assumption | omega | decide | (simp; done) | (simp; omega))))
  | ((with_reducible refine u_turnQH ?_ ?_ ?_); (focus (first | assumption | omega | decide | (simp; done) | (simp; omega))); (focus (first | assumption | omega | decide | (simp; done) | (simp; omega))))
  | ((with_reducible refine u_turnQS ?_ ?_ ?_ ?_ ?_); (focus (first | assumption | omega | decide | (simp; done) | (simp; omega))); (focus (first | assumption | omega | decide | (simp; done) | (simp; omega))); (focus (first | assumption | omega | decide | (simp; done) | (simp; omega))); (focus (first | assumption | omega | decide | (simp; done) | (simp; omega))))
  | ((with_reducible refine u_places ?_ ?_ ?_ ?_ ?_); (focus (first | assumption | omega | decide | (simp; done) | (simp; omega))); (focus (first | assumption | omega | decide | (simp; done) | (simp; omega))); (focus (first | assumption | omega | decide | (simp; done) | (simp; omega))); (focus (first | assumption | omega | decide | (simp; done) | (simp; omega))))
  | ((with_reducible refine u_placesS ?_ ?_ ?_ ?_ ?_ ?_ ?_); (focus (first | assumption | omega | decide | (simp; done) | (simp; omega))); (focus (first | assumption | omega | decide | (simp; done) | (simp; omega))); (focus (first | assumption | omega | decide | (simp; done) | (simp; omega))); (focus (first | assumption | omega | decide | (simp; done) | (simp; omega))); (focus (first | assumption | omega | decide | (simp; done) | (simp; omega))); (focus (first | assumption | omega | decide | (simp; done) | (simp; omega))))
  | ((with_reducible refine u_parting ?_ ?_ ?_ ?_ ?_); (focus (first | assumption | omega | decide | (simp; done) | (simp; omega))); (focus (first | assumption | omega | decide | (simp; done) | (simp; omega))); (focus (first | assumption | omega | decide | (simp; done) | (simp; omega))); (focus (first | assumption | omega | decide | (simp; done) | (simp; omega))))
  | ((with_reducible refine u_pat ?_))
  | ((with_reducible refine u_bare ?_))
  | ((with_reducible refine u_has ?_ ?_ ?_); (focus (first | assumption | omega | decide | (simp; done) | (simp; omega))); (focus (first | assumption | omega | decide | (simp; done) | (simp; omega))))
  | ((with_reducible refine u_allOf ?_ ?_ ?_ ?_); (focus (first | assumption | omega | decide | (simp; done) | (simp; omega))); (focus (first | assumption | omega | decide | (simp; done) | (simp; omega))); (focus (first | assumption | omega | decide | (simp; done) | (simp; omega))))
  | ((with_reducible apply u_leastOf); (focus (first | assumption | omega | decide | (simp; done) | (simp; omega))); (focus (first | assumption | omega | decide | (simp; done) | (simp; omega))); (focus (first | assumption | omega | decide | (simp; done) | (simp; omega))); (focus (first | assumption | omega | decide | (simp; done) | (simp; omega))); (focus (first | assumption | omega | decide | (simp; done) | (simp; omega))))
  | ((with_reducible refine u_depIn ?_ ?_); (focus (first | assumption | omega | decide | (simp; done) | (simp; omega))))
  | ((with_reducible refine u_depOf ?_ ?_ ?_); (focus (first | assumption | omega | decide | (simp; done) | (simp; omega))); (focus (first | assumption | omega | decide | (simp; done) | (simp; omega))))
  | ((with_reducible refine u_depOfH ?_ ?_ ?_); (focus (first | assumption | omega | decide | (simp; done) | (simp; omega))); (focus (first | assumption | omega | decide | (simp; done) | (simp; omega))))
  | ((with_reducible refine u_sameMany ?_ ?_ ?_ ?_ ?_); (focus (first | assumption | omega | decide | (simp; done) | (simp; omega))); (focus (first | assumption | omega | decide | (simp; done) | (simp; omega))); (focus (first | assumption | omega | decide | (simp; done) | (simp; omega))); (focus (first | assumption | omega | decide | (simp; done) | (simp; omega))))
  | ((with_reducible refine u_settledN ?_ ?_ ?_ ?_); (focus (first | assumption | omega | decide | (simp; done) | (simp; omega))); (focus (first | assumption | omega | decide | (simp; done) | (simp; omega))); (focus (first | assumption | omega | decide | (simp; done) | (simp; omega))))
  | ((with_reducible refine u_isBlk ?_))
  | ((with_reducible refine u_depB ?_ ?_ ?_ ?_); (focus (first | assumption | omega | decide | (simp; done) | (simp; omega))); (focus (first | assumption | omega | decide | (simp; done) | (simp; omega))); (focus (first | assumption | omega | decide | (simp; done) | (simp; omega))))
  | ((with_reducible refine u_ct ?_ ?_ ?_ ?_); (focus (first | assumption | omega | decide | (simp; done) | (simp; omega))); (focus (first | assumption | omega | decide | (simp; done) | (simp; omega))); (focus (first | assumption | omega | decide | (simp; done) | (simp; omega))))
  | ((with_reducible refine u_cb ?_ ?_ ?_ ?_); (focus (first | assumption | omega | decide | (simp; done) | (simp; omega))); (focus (first | assumption | omega | decide | (simp; done) | (simp; omega))); (focus (first | assumption | omega | decide | (simp; done) | (simp; omega))))
  | ((with_reducible refine u_known ?_ ?_ ?_); (focus (first | assumption | omega | decide | (simp; done) | (simp; omega))); (focus (first | assumption | omega | decide | (simp; done) | (simp; omega))))
  | ((with_reducible refine u_letters ?_ ?_ ?_ ?_); (focus (first | assumption | omega | decide | (simp; done) | (simp; omega))); (focus (first | assumption | omega | decide | (simp; done) | (simp; omega))); (focus (first | assumption | omega | decide | (simp; done) | (simp; omega))))
  | with_reducible refine dun_neg ?_
  | with_reducible refine tgA2 ?_
  | with_reducible refine tgA3 ?_
  | with_reducible refine tgEx2 ?_
  | with_reducible refine tgEx3 ?_
  | with_reducible refine tgEx4 ?_
  | with_reducible refine tgT2 ?_
  | with_reducible refine tgT3 ?_
  | with_reducible refine tgL2 ?_
  | with_reducible refine tgT4 ?_
  | refine ⟨_, (Or.inl rfl : DL.D.lst _ = DL.D.lst _ ∨ _), ?_⟩
  | refine ⟨_, (Or.inr rfl : _ ∨ DL.D.tup _ = DL.D.tup _), ?_⟩
  | with_reducible refine xin_no ?_
  | with_reducible refine xr_no ?_
  | refine ⟨(rfl : DL.D.ref _ = DL.D.ref _), ?_⟩
  | refine ⟨(rfl : DL.D.ty _ = Option.some _), ?_⟩
  | refine ⟨Qn.ty _, ?_⟩
  | refine ⟨(by simp : List.length _ ≤ 100000), ?_⟩
  | refine ⟨(by simp : List.length _ = _), ?_⟩
  | with_reducible refine wo_none ?_
  | with_reducible refine wo_some ?_
  | refine ⟨_, rfl, ?_⟩))
local macro_rules | `(tactic| walk_at "side") => `(tactic| first | assumption | omega | decide | (simp; done) | (simp; omega))
abbrev s_known_letters : Stmt := topS 12
theorem sc_known_letters : FnScope ["question", "found", "inner"] ["question"] (defScope s_known_letters) := ⟨rfl, rfl, rfl, by decide +kernel, rfl, by decide +kernel, by decide +kernel⟩
theorem ok_known_letters {f f_inner_of : Addr} {fd fd_inner_of : FuncData} {D k : Nat} (T : Txt K mg) (F : Fun K "known_letters" "known_letters" s_known_letters f fd) (hk : 3 ≤ k) (C_known_letters : Callee P w K mg base CX0 "known_letters" ["question"] k (PureSp K (knownRS D)) f fd) (C_inner_of : Callee P w K mg base CX0 "inner_of" ["question"] 1 (PureSp K innerS) f_inner_of fd_inner_of) : FnOk P w K mg base CX0 (k + 1) f fd ["question"] (PureSp K (knownRS (D + 1))) := by
  refine ok_pure (knownRS (D + 1)) F sc_known_letters (fun ds P X h => by revert h; walk_at "hl") fun cdv A outer s H E hr => ⟨_, (pss_cons (ps_set (i := 1) sc_known_letters.nd rfl (Or.inl rfl) (pe_ifExp (pt_cmpR (op_eqK (K := K) rfl hr.units) (pe_ix (ix_K (K := K) rfl) (pv 0) pe_int (fun _ _ => rfl)) pe_str (nomark _)) (pe_lst (pa_cons (pe_ix (ix_K (K := K) rfl) (pv 0) pe_int (fun _ _ => rfl)) pa_nil)) (pe_lst pa_nil))) (pss_cons (ps_for PassesOwn.never rfl (pi_anyK (K := K) rfl (pe_call C_inner_of.ok (hr.mono (by first | decide | omega)) (by rfl) C_inner_of.mg C_inner_of.kp C_inner_of.bd .nil (C_inner_of.ps _ rfl rfl) (pa_cons (pv 0) pa_nil))) (pg_name (i := 2) sc_known_letters.nd rfl (by first | exact Or.inl rfl | exact Or.inr rfl)) (pss_one (ps_expr (pe_extK (K := K) rfl (pv 1) (pa_cons (pe_call C_known_letters.ok (hr.mono (by first | decide | omega)) (by rfl) C_known_letters.mg C_known_letters.kp C_known_letters.bd .nil (C_known_letters.ps _ rfl rfl) (pa_cons (pv 2) pa_nil)) pa_nil))))) (pss_one (ps_ret (pv 1))))), fun ds Q XP h H0 okX => ?_⟩
  obtain ⟨sz, hsz, q, rfl, hq, hs, k⟩ := h
  /- 0:question 1:found 2:inner -/
  change DL.WS _ _ [.dat _, .un, .un] _ _
  refine ws_seq (ws_join (fun (_ : Unit) Gn (_ : Unit) => Gn = [.dat q.D, .own (.lst (q.ownS.map DL.D.str)), .un]) ?_ ?_)
  · cases q with
    | any =>
      walk_at "v"
      exact ⟨(), rfl⟩
    | neg q =>
      walk_at "v"
      exact ⟨(), rfl⟩
    | both p q =>
      walk_at "v"
      exact ⟨(), rfl⟩
    | some p a q =>
      walk_at "v"
      exact ⟨(), rfl⟩
  · intro _ Gn _ hG
    subst hG
    refine ws_seq (ws_forG [2] (fun (acc : List Str) => [.dat q.D, .own (.lst (acc.map DL.D.str)), .un]) q.ownS rfl (wi_l ?_))
    walk_at "e"
    refine ⟨fun (t : Nat) (acc : List Str) (_ : Unit) => acc = q.ownS ++ (q.kids.take t).flatMap Qn.knownS, by simp, rfl, fun t dd acc _ hdd hI => ?_, fun Gn acc _ hG hI => ?_⟩
    · obtain ⟨x, hx, rfl⟩ := map_get hdd
      have hk := List.mem_of_getElem? hx
      have h1 := Qn.kid_ht hk
      have h2 := Qn.kid_sz hk
      have hal : acc.length ≤ 10000 := by
        have h4 := q.knownS_len
        rw [q.knownS_kids, ← List.take_append_drop t q.kids, List.flatMap_append, List.length_append, List.length_append] at h4
        rw [hI, List.length_append]
        omega
      have hxl := x.knownS_len
      refine ⟨[2], _, tg_name (by simp), ?_⟩
      walk_at "v"
      refine ⟨by rw [List.length_map]; omega, acc ++ x.knownS, by rw [List.map_append]; rfl, ?_⟩
      show acc ++ _ = _
      rw [Qn.take_snoc hx, List.flatMap_append, hI]
      simp
    · refine ws_un [2] ?_
      rw [hG]
      rw [List.length_map] at hI
      rw [List.take_length, ← q.knownS_kids] at hI
      subst hI
      walk_at "v"
      exact k
theorem all_known_letters {f f_inner_of : Addr} {fd fd_inner_of : FuncData} (T : Txt K mg) (F : Fun K "known_letters" "known_letters" s_known_letters f fd) (C_inner_of : Callee P w K mg base CX0 "inner_of" ["question"] 1 (PureSp K innerS) f_inner_of fd_inner_of) (hm : mg "known_letters" = some (.ref f)) (kp : PySem.W.keepIn K (.ref f) = true) (bd : Binds K fd ["question"] []) : ∀ D : Nat, Callee P w K mg base CX0 "known_letters" ["question"] (3 + D) (PureSp K (knownRS D)) f fd
  | 0 => mkC (FnOk_none fun vs H Q E h => by revert h; walk_at "rec0") hm kp bd
  | D + 1 => mkC (ok_known_letters T F (Nat.le_add_right _ _) (all_known_letters T F C_inner_of hm kp bd D) C_inner_of) hm kp bd
abbrev s_letters_in : Stmt := topS 13
theorem sc_letters_in : FnScope ["question"] ["question"] (defScope s_letters_in) := ⟨rfl, rfl, rfl, by decide +kernel, rfl, by decide +kernel, by decide +kernel⟩
theorem ok_letters_in {f f_check_question f_known_letters : Addr} {fd fd_check_question fd_known_letters : FuncData} (T : Txt K mg) (F : Fun K "letters_in" "letters_in" s_letters_in f fd) (C_check_question : Callee P w K mg base CX0 "check_question" ["question"] 65 (PureSp K chqS) f_check_question fd_check_question) (C_known_letters : Callee P w K mg base CX0 "known_letters" ["question"] 64 (PureSp K (knownRS 61)) f_known_letters fd_known_letters) : FnOk P w K mg base CX0 (66) f fd ["question"] (PureSp K lettersQS) := by
  refine ok_pure lettersQS F sc_letters_in (fun ds P X h => by revert h; walk_at "hl") fun cdv A outer s H E hr => ⟨_, (pss_cons (ps_expr (pe_call C_check_question.ok (hr.mono (by first | decide | omega)) (by rfl) C_check_question.mg C_check_question.kp C_check_question.bd .nil (C_check_question.ps _ rfl rfl) (pa_cons (pv 0) pa_nil))) (pss_one (ps_ret (pe_srtSet (K := K) rfl rfl (by rfl) T.n_sorted (by rfl) T.n_set (pe_call C_known_letters.ok (hr.mono (by first | decide | omega)) (by rfl) C_known_letters.mg C_known_letters.kp C_known_letters.bd .nil (C_known_letters.ps _ rfl rfl) (pa_cons (pv 0) pa_nil)))))), fun ds Q XP h H0 okX => ?_⟩
  obtain ⟨q, rfl, hl, hh, hs, k⟩ := h
  /- 0:question -/
  change DL.WS _ _ [.dat _] _ _
  walk_at "v"
  exact ⟨by
    have := q.known_len
    unfold Qn.knownS
    rw [List.length_map]
    omega, k⟩
abbrev s_depth_in : Stmt := topS 10
theorem sc_depth_in : FnScope ["question", "inner"] ["question"] (defScope s_depth_in) := ⟨rfl, rfl, rfl, by decide +kernel, rfl, by decide +kernel, by decide +kernel⟩
theorem ok_depth_in {f f_inner_of : Addr} {fd fd_inner_of : FuncData} {D k : Nat} (T : Txt K mg) (F : Fun K "depth_in" "depth_in" s_depth_in f fd) (hk : 3 ≤ k) (C_depth_in : Callee P w K mg base CX0 "depth_in" ["question"] k (PureSp K (depInS D)) f fd) (C_inner_of : Callee P w K mg base CX0 "inner_of" ["question"] 1 (PureSp K innerS) f_inner_of fd_inner_of) : FnOk P w K mg base CX0 (k + 1) f fd ["question"] (PureSp K (depInS (D + 1))) := by
  refine ok_pure (depInS (D + 1)) F sc_depth_in (fun ds P X h => by revert h; walk_at "hl") fun cdv A outer s H E hr => ⟨_, (pss_one (ps_ret (pe_op (op_addK (K := K) rfl) (pe_callTy call_int1 (by rfl) T.n_int (by decide +kernel) (pa_cons (pe_cmpR (op_eqK (K := K) rfl hr.units) (pe_ix (ix_K (K := K) rfl) (pv 0) pe_int (fun _ _ => rfl)) pe_str (nomark _)) pa_nil)) (pe_callBK (ks := ["default"]) (call_maxDf (K := K) rfl rfl hr.units) (by rfl) T.n_max (by decide +kernel) (pa_cons (pe_lc (own := [("inner", 1)]) rfl sc_depth_in.nd (pi_anyK (K := K) rfl (pe_call C_inner_of.ok (hr.mono (by first | decide | omega)) (by rfl) C_inner_of.mg C_inner_of.kp C_inner_of.bd .nil (C_inner_of.ps _ rfl rfl) (pa_cons (pv 0) pa_nil))) (blkOk_by (own := [("inner", 1)]) (N := ["question", "inner"]) (sc := defScope s_depth_in) (by decide +kernel)) (fun _ _ _ _ _ => (pg_name (i := 1) sc_depth_in.nd rfl (by first | exact Or.inl rfl | exact Or.inr rfl))) (fun _ _ _ _ _ => pts_nil) (fun _ _ _ _ _ => (pe_call C_depth_in.ok (hr.mono (by first | decide | omega)) (by rfl) C_depth_in.mg C_depth_in.kp C_depth_in.bd .nil (C_depth_in.ps _ rfl rfl) (pa_cons (pv 1) pa_nil)))) pa_nil) (pk_cons pe_int pk_nil))))), fun ds Q XP h H0 okX => ?_⟩
  obtain ⟨sz, hsz, q, rfl, hq, k⟩ := h
  /- 0:question 1:inner -/
  change DL.WS _ _ [.dat _, .un] _ _
  rw [q.depth_kids, Int.natCast_add] at k
  cases q with
  | any =>
    walk_at "v"
    refine we_lcM ([] : List Qn) Qn.D (fun x => DL.D.int ((x.depth : Nat) : Int)) rfl (by simp) (wi_l ?_)
    walk_at "v"
    refine ⟨rfl, by simp, fun i x hx => ?_, ?_⟩
    · have hx : x.ht < sz := by
        rw [← hq]
        exact Qn.kid_ht (List.mem_of_getElem? hx)
      walk_at "v"
      exact ⟨rfl, rfl⟩
    walk_at "v"
    refine ⟨([] : List Qn).map Qn.depth, rfl, ?_⟩
    walk_at "v"
    refine ⟨rfl, ?_⟩
    walk_at "v"
    exact k
  | neg q =>
    walk_at "v"
    refine we_lcM [q] Qn.D (fun x => DL.D.int ((x.depth : Nat) : Int)) rfl (by simp) (wi_l ?_)
    walk_at "v"
    refine ⟨rfl, by simp, fun i x hx => ?_, ?_⟩
    · have hx : x.ht < sz := by
        rw [← hq]
        exact Qn.kid_ht (List.mem_of_getElem? hx)
      walk_at "v"
      exact ⟨rfl, rfl⟩
    walk_at "v"
    refine ⟨[q].map Qn.depth, rfl, ?_⟩
    walk_at "v"
    refine ⟨rfl, ?_⟩
    walk_at "v"
    exact k
  | both p q =>
    walk_at "v"
    refine we_lcM [p, q] Qn.D (fun x => DL.D.int ((x.depth : Nat) : Int)) rfl (by simp) (wi_l ?_)
    walk_at "v"
    refine ⟨rfl, by simp, fun i x hx => ?_, ?_⟩
    · have hx : x.ht < sz := by
        rw [← hq]
        exact Qn.kid_ht (List.mem_of_getElem? hx)
      walk_at "v"
      exact ⟨rfl, rfl⟩
    walk_at "v"
    refine ⟨[p, q].map Qn.depth, rfl, ?_⟩
    walk_at "v"
    refine ⟨rfl, ?_⟩
    walk_at "v"
    exact k
  | some p a q =>
    walk_at "v"
    refine we_lcM [p, q] Qn.D (fun x => DL.D.int ((x.depth : Nat) : Int)) rfl (by simp) (wi_l ?_)
    walk_at "v"
    refine ⟨rfl, by simp, fun i x hx => ?_, ?_⟩
    · have hx : x.ht < sz := by
        rw [← hq]
        exact Qn.kid_ht (List.mem_of_getElem? hx)
      walk_at "v"
      exact ⟨rfl, rfl⟩
    walk_at "v"
    refine ⟨[p, q].map Qn.depth, rfl, ?_⟩
    walk_at "v"
    refine ⟨rfl, ?_⟩
    walk_at "v"
    exact k
theorem all_depth_in {f f_inner_of : Addr} {fd fd_inner_of : FuncData} (T : Txt K mg) (F : Fun K "depth_in" "depth_in" s_depth_in f fd) (C_inner_of : Callee P w K mg base CX0 "inner_of" ["question"] 1 (PureSp K innerS) f_inner_of fd_inner_of) (hm : mg "depth_in" = some (.ref f)) (kp : PySem.W.keepIn K (.ref f) = true) (bd : Binds K fd ["question"] []) : ∀ D : Nat, Callee P w K mg base CX0 "depth_in" ["question"] (3 + D) (PureSp K (depInS D)) f fd
  | 0 => mkC (FnOk_none fun vs H Q E h => by revert h; walk_at "rec0") hm kp bd
  | D + 1 => mkC (ok_depth_in T F (Nat.le_add_right _ _) (all_depth_in T F C_inner_of hm kp bd D) C_inner_of) hm kp bd
abbrev s_depth_of : Stmt := topS 11
theorem sc_depth_of : FnScope ["question"] ["question"] (defScope s_depth_of) := ⟨rfl, rfl, rfl, by decide +kernel, rfl, by decide +kernel, by decide +kernel⟩
theorem ok_depth_of {f f_check_question f_depth_in : Addr} {fd fd_check_question fd_depth_in : FuncData} (T : Txt K mg) (F : Fun K "depth_of" "depth_of" s_depth_of f fd) (C_check_question : Callee P w K mg base CX0 "check_question" ["question"] 65 (PureSp K chqS) f_check_question fd_check_question) (C_depth_in : Callee P w K mg base CX0 "depth_in" ["question"] 64 (PureSp K (depInS 61)) f_depth_in fd_depth_in) : FnOk P w K mg base CX0 (66) f fd ["question"] (PureSp K depOfS) := by
  refine ok_pure depOfS F sc_depth_of (fun ds P X h => by revert h; walk_at "hl") fun cdv A outer s H E hr => ⟨_, (pss_cons (ps_expr (pe_call C_check_question.ok (hr.mono (by first | decide | omega)) (by rfl) C_check_question.mg C_check_question.kp C_check_question.bd .nil (C_check_question.ps _ rfl rfl) (pa_cons (pv 0) pa_nil))) (pss_one (ps_ret (pe_call C_depth_in.ok (hr.mono (by first | decide | omega)) (by rfl) C_depth_in.mg C_depth_in.kp C_depth_in.bd .nil (C_depth_in.ps _ rfl rfl) (pa_cons (pv 0) pa_nil))))), fun ds Q XP h H0 okX => ?_⟩
  obtain ⟨q, rfl, hl, hs, k⟩ := h
  /- 0:question -/
  change DL.WS _ _ [.dat _] _ _
  walk_at "v"
  exact k
abbrev s_turned_about : Stmt := topS 14
theorem sc_turned_about : FnScope ["question", "inner"] ["question"] (defScope s_turned_about) := ⟨rfl, rfl, rfl, by decide +kernel, rfl, by decide +kernel, by decide +kernel⟩
theorem ok_turned_about {f  : Addr} {fd  : FuncData} {D k : Nat} (T : Txt K mg) (F : Fun K "turned_about" "turned_about" s_turned_about f fd) (hk : 1 ≤ k) (C_turned_about : Callee P w K mg base CX0 "turned_about" ["question"] k (PureSp K (turnAS D)) f fd) : FnOk P w K mg base CX0 (k + 1) f fd ["question"] (PureSp K (turnAS (D + 1))) := by
  refine ok_pure (turnAS (D + 1)) F sc_turned_about (fun ds P X h => by revert h; walk_at "hl") fun cdv A outer s H E hr => ⟨_, (pss_cons (ps_if (pt_cmpR (op_eqK (K := K) rfl hr.units) (pe_ix (ix_K (K := K) rfl) (pv 0) pe_int (fun _ _ => rfl)) pe_str (nomark _)) (pss_one (ps_ret (pe_tup (pa_cons pe_str (pa_cons (pe_call C_turned_about.ok (hr.mono (by first | decide | omega)) (by rfl) C_turned_about.mg C_turned_about.kp C_turned_about.bd .nil (C_turned_about.ps _ rfl rfl) (pa_cons (pe_ix (ix_K (K := K) rfl) (pv 0) pe_int (fun _ _ => rfl)) pa_nil)) (pa_cons (pe_ix (ix_K (K := K) rfl) (pv 0) pe_int (fun _ _ => rfl)) (pa_cons (pe_call C_turned_about.ok (hr.mono (by first | decide | omega)) (by rfl) C_turned_about.mg C_turned_about.kp C_turned_about.bd .nil (C_turned_about.ps _ rfl rfl) (pa_cons (pe_ix (ix_K (K := K) rfl) (pv 0) pe_int (fun _ _ => rfl)) pa_nil)) pa_nil))))))) pss_nil) (pss_one (ps_ret (pe_tup (pa_cons (pe_ix (ix_K (K := K) rfl) (pv 0) pe_int (fun _ _ => rfl)) (pa_starK (K := K) rfl (pe_lc (own := [("inner", 1)]) rfl sc_turned_about.nd (pi_anyK (K := K) rfl (pe_slice (sl_K (K := K) rfl) (pv 0) (po_some pe_int) po_none)) (blkOk_by (own := [("inner", 1)]) (N := ["question", "inner"]) (sc := defScope s_turned_about) (by decide +kernel)) (fun _ _ _ _ _ => (pg_name (i := 1) sc_turned_about.nd rfl (by first | exact Or.inl rfl | exact Or.inr rfl))) (fun _ _ _ _ _ => pts_nil) (fun _ _ _ _ _ => (pe_call C_turned_about.ok (hr.mono (by first | decide | omega)) (by rfl) C_turned_about.mg C_turned_about.kp C_turned_about.bd .nil (C_turned_about.ps _ rfl rfl) (pa_cons (pv 1) pa_nil)))) pa_nil)))))), fun ds Q XP h H0 okX => ?_⟩
  obtain ⟨sz, hsz, q, rfl, hq, k⟩ := h
  /- 0:question 1:inner -/
  change DL.WS _ _ [.dat _, .un] _ _
  cases q with
  | any =>
    walk_at "v"
    refine we_lcM ([] : List Qn) Qn.D Qn.D rfl (by simp) (wi_t ?_)
    walk_at "v"
    refine ⟨rfl, by simp, fun i x hx => by simp at hx, ?_⟩
    walk_at "v"
    exact k
  | neg q =>
    have hq : q.ht + 1 = sz := hq
    walk_at "v"
    refine we_lcM [q] Qn.D (fun x => x.turn.D) rfl (by simp) (wi_t ?_)
    walk_at "v"
    refine ⟨rfl, by simp, fun i x hx => ?_, ?_⟩
    · have hx : x = q := by
        have := List.mem_of_getElem? hx
        simpa using this
      subst hx
      walk_at "v"
      exact ⟨rfl, rfl⟩
    · walk_at "v"
      exact k
  | both p q =>
    have hq : max p.ht q.ht + 1 = sz := hq
    walk_at "v"
    refine we_lcM [p, q] Qn.D (fun x => x.turn.D) rfl (by simp) (wi_t ?_)
    walk_at "v"
    refine ⟨rfl, by simp, fun i x hx => ?_, ?_⟩
    · have hx : x.ht ≤ max p.ht q.ht := by
        have := List.mem_of_getElem? hx
        simp at this
        rcases this with rfl | rfl <;> omega
      walk_at "v"
      exact ⟨rfl, rfl⟩
    · walk_at "v"
      exact k
  | some p a q =>
    have hq : max p.ht q.ht + 1 = sz := hq
    walk_at "v"
    exact k
theorem all_turned_about {f  : Addr} {fd  : FuncData} (T : Txt K mg) (F : Fun K "turned_about" "turned_about" s_turned_about f fd)  (hm : mg "turned_about" = some (.ref f)) (kp : PySem.W.keepIn K (.ref f) = true) (bd : Binds K fd ["question"] []) : ∀ D : Nat, Callee P w K mg base CX0 "turned_about" ["question"] (1 + D) (PureSp K (turnAS D)) f fd
  | 0 => mkC (FnOk_none fun vs H Q E h => by revert h; walk_at "rec0") hm kp bd
  | D + 1 => mkC (ok_turned_about T F (Nat.le_add_right _ _) (all_turned_about T F hm kp bd D)) hm kp bd
abbrev s_turned_question : Stmt := topS 15
theorem sc_turned_question : FnScope ["question"] ["question"] (defScope s_turned_question) := ⟨rfl, rfl, rfl, by decide +kernel, rfl, by decide +kernel, by decide +kernel⟩
theorem ok_turned_question {f f_check_question f_turned_about : Addr} {fd fd_check_question fd_turned_about : FuncData} (T : Txt K mg) (F : Fun K "turned_question" "turned_question" s_turned_question f fd) (C_check_question : Callee P w K mg base CX0 "check_question" ["question"] 65 (PureSp K chqS) f_check_question fd_check_question) (C_turned_about : Callee P w K mg base CX0 "turned_about" ["question"] 62 (PureSp K (turnAS 61)) f_turned_about fd_turned_about) : FnOk P w K mg base CX0 (66) f fd ["question"] (PureSp K turnQS) := by
  refine ok_pure turnQS F sc_turned_question (fun ds P X h => by revert h; walk_at "hl") fun cdv A outer s H E hr => ⟨_, (pss_cons (ps_expr (pe_call C_check_question.ok (hr.mono (by first | decide | omega)) (by rfl) C_check_question.mg C_check_question.kp C_check_question.bd .nil (C_check_question.ps _ rfl rfl) (pa_cons (pv 0) pa_nil))) (pss_one (ps_ret (pe_call C_turned_about.ok (hr.mono (by first | decide | omega)) (by rfl) C_turned_about.mg C_turned_about.kp C_turned_about.bd .nil (C_turned_about.ps _ rfl rfl) (pa_cons (pv 0) pa_nil))))), fun ds Q XP h H0 okX => ?_⟩
  obtain ⟨q, rfl, hl, hs, k⟩ := h
  /- 0:question -/
  change DL.WS _ _ [.dat _] _ _
  walk_at "v"
  exact k
abbrev s_law_query : Stmt := topS 19
theorem sc_law_query : FnScope ["pool", "names", "deep", "wide", "way", "half", "ahead"] ["pool", "names", "deep", "wide"] (defScope s_law_query) := ⟨rfl, rfl, rfl, by decide +kernel, rfl, by decide +kernel, by decide +kernel⟩
theorem ok_law_query {f f_law_draw : Addr} {fd fd_law_draw : FuncData} {D k : Nat} (T : Txt K mg) (F : Fun K "_law_query" "_law_query" s_law_query f fd) (hk : 2 ≤ k) (C_law_query : Callee P w K mg base CX0 "_law_query" ["pool", "names", "deep", "wide"] k (ResSp K poolRes (qryS D)) f fd) (C_law_draw : Callee P w K mg base CX0 "_law_draw" ["pool", "span"] 1 (ResSp K poolRes drawS) f_law_draw fd_law_draw) : FnOk P w K mg base CX0 (k + 1) f fd ["pool", "names", "deep", "wide"] (ResSp K poolRes (qryS (D + 1))) := by
  refine ok_res (qryS (D + 1)) F sc_law_query (fun p ds n P X h => by revert h; walk_at "hl") fun cdv A outer s H E hr => ⟨_, (pss_cons (ps_set (i := 4) sc_law_query.nd rfl (Or.inl rfl) (pe_call C_law_draw.ok (hr.mono (by first | decide | omega)) (by rfl) C_law_draw.mg C_law_draw.kp C_law_draw.bd .nil (C_law_draw.ps _ rfl rfl) (pa_cons (pv 0) (pa_cons pe_int pa_nil)))) (pss_cons (ps_if (PW.pt (pw_or (pt_cmpR op_ltQ (pv 3) pe_int (nomark _)) (pw_or1 (pt_cmpR (op_eqK (K := K) rfl hr.units) (pv 4) pe_int (nomark _))))) (pss_one (ps_ret (pe_tup (pa_cons pe_str pa_nil)))) pss_nil) (pss_cons (ps_if (pt_cmpR (op_eqK (K := K) rfl hr.units) (pv 4) pe_int (nomark _)) (pss_one (ps_ret (pe_tup (pa_cons pe_str (pa_cons (pe_call C_law_query.ok (hr.mono (by first | decide | omega)) (by rfl) C_law_query.mg C_law_query.kp C_law_query.bd .nil (C_law_query.ps _ rfl rfl) (pa_cons (pv 0) (pa_cons (pv 1) (pa_cons (pv 2) (pa_cons (pe_op op_sub (pv 3) pe_int) pa_nil))))) pa_nil))))) pss_nil) (pss_cons (ps_set (i := 5) sc_law_query.nd rfl (Or.inl rfl) (pe_op op_fdivW (pe_op op_sub (pv 3) pe_int) pe_int)) (pss_cons (ps_if (PW.pt (pw_or (pt_cmpR op_ltQ (pv 5) pe_int (nomark _)) (pw_or1 (PW.pt (pw_and (pt_cmpR op_ltQ (pv 2) pe_int (nomark _)) (pw_and1 (pt_cmpR op_gt (pv 4) pe_int (nomark _)))))))) (pss_one (ps_ret (pe_tup (pa_cons pe_str (pa_cons (pe_tup (pa_cons pe_str pa_nil)) pa_nil))))) pss_nil) (pss_cons (ps_if (pt_cmpR (op_eqK (K := K) rfl hr.units) (pv 4) pe_int (nomark _)) (pss_one (ps_ret (pe_tup (pa_cons pe_str (pa_cons (pe_call C_law_query.ok (hr.mono (by first | decide | omega)) (by rfl) C_law_query.mg C_law_query.kp C_law_query.bd .nil (C_law_query.ps _ rfl rfl) (pa_cons (pv 0) (pa_cons (pv 1) (pa_cons (pv 2) (pa_cons (pv 5) pa_nil))))) (pa_cons (pe_call C_law_query.ok (hr.mono (by first | decide | omega)) (by rfl) C_law_query.mg C_law_query.kp C_law_query.bd .nil (C_law_query.ps _ rfl rfl) (pa_cons (pv 0) (pa_cons (pv 1) (pa_cons (pv 2) (pa_cons (pv 5) pa_nil))))) pa_nil)))))) pss_nil) (pss_cons (ps_set (i := 6) sc_law_query.nd rfl (Or.inl rfl) (pe_call C_law_query.ok (hr.mono (by first | decide | omega)) (by rfl) C_law_query.mg C_law_query.kp C_law_query.bd .nil (C_law_query.ps _ rfl rfl) (pa_cons (pv 0) (pa_cons (pv 1) (pa_cons (pe_op op_sub (pv 2) pe_int) (pa_cons (pv 5) pa_nil)))))) (pss_one (ps_ret (pe_tup (pa_cons pe_str (pa_cons (pv 6) (pa_cons (pe_ix (ix_K (K := K) rfl) (pv 1) (pe_call C_law_draw.ok (hr.mono (by first | decide | omega)) (by rfl) C_law_draw.mg C_law_draw.kp C_law_draw.bd .nil (C_law_draw.ps _ rfl rfl) (pa_cons (pv 0) (pa_cons (pe_callB (call_lenK (K := K) rfl) (by rfl) T.n_len PySem.boot_len (pa_cons (pv 1) pa_nil)) pa_nil))) (fun _ _ => rfl)) (pa_cons (pe_call C_law_query.ok (hr.mono (by first | decide | omega)) (by rfl) C_law_query.mg C_law_query.kp C_law_query.bd .nil (C_law_query.ps _ rfl rfl) (pa_cons (pv 0) (pa_cons (pv 1) (pa_cons (pe_op op_sub (pv 2) pe_int) (pa_cons (pv 5) pa_nil))))) pa_nil)))))))))))))), fun p ds (n : Nat) (Q : Sl → Nat → Prop) XP h H0 okX => ?_⟩
  obtain ⟨wd, hwd, names, A, dp, rfl, hN, hw, hdp, hn, k⟩ := h
  /- 0:pool 1:names 2:deep 3:wide 4:way 5:half 6:ahead -/
  change DL.WS _ _ [.dat _, .dat _, .dat _, .dat _, .un, .un, .un] _ _
  walk_at "v"
  intro z hz
  have leaf : ∀ n' : Nat, n ≤ n' + 6 * wd + 4 → Q (.dat (.tup [.str "any"])) n' := fun n' h => k .any n' trivial (Nat.zero_le _) (by show 1 ≤ _; omega) h
  by_cases h0 : wd < 2
  · walk_at "v"
    exact leaf _ (by omega)
  by_cases h1 : z = 0
  · subst h1
    walk_at "v"
    exact leaf _ (by omega)
  walk_at "v"
  by_cases h2 : z = 1
  · subst h2
    walk_at "v"
    intro q n1 q1 q2 q3 q4
    walk_at "v"
    exact k (.neg q) _ q1 (by show q.depth ≤ _; omega) (by show q.size + 1 ≤ _; omega) (by omega)
  walk_at "v"
  have ln : Q (.dat (.tup [.str "not", .tup [.str "any"]])) (n - 1) := k (.neg .any) _ trivial (Nat.zero_le _) (by show 2 ≤ _; omega) (by omega)
  by_cases h3 : (((wd : Int) - 1) / 2 < 1)
  · walk_at "v"
    exact ln
  walk_at "v"
  have hh : 0 < ((wd : Int) - 1) / 2 ∧ 2 * (((wd : Int) - 1) / 2) ≤ wd - 1 := by omega
  generalize ((wd : Int) - 1) / 2 = hf at *
  obtain ⟨hf, rfl⟩ := Int.eq_ofNat_of_zero_le (Int.le_of_lt hh.1)
  by_cases h5 : dp < 1
  · walk_at "v"
    by_cases h4 : z = 2
    · subst h4
      walk_at "v"
      intro q n1 q1 q2 q3 q4
      walk_at "v"
      intro r n2 r1 r2 r3 r4
      walk_at "v"
      exact k (.both q r) _ ⟨q1, r1⟩ (by show max q.depth r.depth ≤ _; omega) (by show q.size + r.size + 1 ≤ _; omega) (by omega)
    · walk_at "v"
      exact ln
  walk_at "v"
  by_cases h4 : z = 2
  · subst h4
    walk_at "v"
    intro q n1 q1 q2 q3 q4
    walk_at "v"
    intro r n2 r1 r2 r3 r4
    walk_at "v"
    exact k (.both q r) _ ⟨q1, r1⟩ (by show max q.depth r.depth ≤ _; omega) (by show q.size + r.size + 1 ≤ _; omega) (by omega)
  walk_at "v"
  intro q n1 q1 q2 q3 q4
  have hA := hN.pos
  walk_at "v"
  intro x hx
  walk_at "v"
  intro a ha
  walk_at "v"
  intro r n2 r1 r2 r3 r4
  walk_at "v"
  exact k (.some q a r) _ ⟨q1, ha, r1⟩ (by show max q.depth r.depth + 1 ≤ _; omega) (by show q.size + r.size + 1 ≤ _; omega) (by omega)
theorem all_law_query {f f_law_draw : Addr} {fd fd_law_draw : FuncData} (T : Txt K mg) (F : Fun K "_law_query" "_law_query" s_law_query f fd) (C_law_draw : Callee P w K mg base CX0 "_law_draw" ["pool", "span"] 1 (ResSp K poolRes drawS) f_law_draw fd_law_draw) (hm : mg "_law_query" = some (.ref f)) (kp : PySem.W.keepIn K (.ref f) = true) (bd : Binds K fd ["pool", "names", "deep", "wide"] []) : ∀ D : Nat, Callee P w K mg base CX0 "_law_query" ["pool", "names", "deep", "wide"] (2 + D) (ResSp K poolRes (qryS D)) f fd
  | 0 => mkC (FnOk_none fun vs H Q E h => by revert h; walk_at "rec0") hm kp bd
  | D + 1 => mkC (ok_law_query T F (Nat.le_add_right _ _) (all_law_query T F C_law_draw hm kp bd D) C_law_draw) hm kp bd
abbrev s_law_deep : Stmt := topS 20
theorem sc_law_deep : FnScope ["query", "inner_here"] ["query"] (defScope s_law_deep) := ⟨rfl, rfl, rfl, by decide +kernel, rfl, by decide +kernel, by decide +kernel⟩
theorem ok_law_deep {f  : Addr} {fd  : FuncData} {D k : Nat} (T : Txt K mg) (F : Fun K "_law_deep" "_law_deep" s_law_deep f fd) (hk : 3 ≤ k) (C_law_deep : Callee P w K mg base CX0 "_law_deep" ["query"] k (PureSp K (depInS D)) f fd) : FnOk P w K mg base CX0 (k + 1) f fd ["query"] (PureSp K (depInS (D + 1))) := by
  refine ok_pure (depInS (D + 1)) F sc_law_deep (fun ds P X h => by revert h; walk_at "hl") fun cdv A outer s H E hr => ⟨_, (pss_cons (ps_if (pt_cmpR (op_eqK (K := K) rfl hr.units) (pe_ix (ix_K (K := K) rfl) (pv 0) pe_int (fun _ _ => rfl)) pe_str (nomark _)) (pss_one (ps_ret (pe_op (op_addK (K := K) rfl) pe_int (pe_callB (call_max2 rfl) (by rfl) T.n_max (by decide +kernel) (pa_cons (pe_call C_law_deep.ok (hr.mono (by first | decide | omega)) (by rfl) C_law_deep.mg C_law_deep.kp C_law_deep.bd .nil (C_law_deep.ps _ rfl rfl) (pa_cons (pe_ix (ix_K (K := K) rfl) (pv 0) pe_int (fun _ _ => rfl)) pa_nil)) (pa_cons (pe_call C_law_deep.ok (hr.mono (by first | decide | omega)) (by rfl) C_law_deep.mg C_law_deep.kp C_law_deep.bd .nil (C_law_deep.ps _ rfl rfl) (pa_cons (pe_ix (ix_K (K := K) rfl) (pv 0) pe_int (fun _ _ => rfl)) pa_nil)) pa_nil)))))) pss_nil) (pss_one (ps_ret (pe_callB (call_maxLK (K := K) rfl rfl hr.units) (by rfl) T.n_max (by decide +kernel) (pa_cons (pe_op (op_addK (K := K) rfl) (pe_lst (pa_cons pe_int pa_nil)) (pe_lc (own := [("inner_here", 1)]) rfl sc_law_deep.nd (pi_anyK (K := K) rfl (pe_slice (sl_K (K := K) rfl) (pv 0) (po_some pe_int) po_none)) (blkOk_by (own := [("inner_here", 1)]) (N := ["query", "inner_here"]) (sc := defScope s_law_deep) (by decide +kernel)) (fun _ _ _ _ _ => (pg_name (i := 1) sc_law_deep.nd rfl (by first | exact Or.inl rfl | exact Or.inr rfl))) (fun _ _ _ _ _ => pts_nil) (fun _ _ _ _ _ => (pe_call C_law_deep.ok (hr.mono (by first | decide | omega)) (by rfl) C_law_deep.mg C_law_deep.kp C_law_deep.bd .nil (C_law_deep.ps _ rfl rfl) (pa_cons (pv 1) pa_nil))))) pa_nil))))), fun ds Q XP h H0 okX => ?_⟩
  obtain ⟨sz, hsz, q, rfl, hq, k⟩ := h
  /- 0:query 1:inner_here -/
  change DL.WS _ _ [.dat _, .un] _ _
  cases q with
  | any =>
    walk_at "v"
    refine we_lcM ([] : List Qn) Qn.D (fun x => DL.D.int ((x.depth : Nat) : Int)) rfl (by simp) (wi_t ?_)
    walk_at "v"
    refine ⟨rfl, by simp, fun i x hx => ?_, ?_⟩
    · have hx : x.ht < sz := by
        rw [← hq]
        exact Qn.kid_ht (List.mem_of_getElem? hx)
      walk_at "v"
      exact ⟨rfl, rfl⟩
    refine fz_own (da_lst (by simp) ?_)
    walk_at "v"
    refine db_maxL (a := 0) (ns := ([] : List Qn).map Qn.depth) ?_
    have e : (Qn.any).depth = maxN 0 (([] : List Qn).map Qn.depth) := rfl
    rw [← e]
    exact k
  | neg q =>
    walk_at "v"
    refine we_lcM [q] Qn.D (fun x => DL.D.int ((x.depth : Nat) : Int)) rfl (by simp) (wi_t ?_)
    walk_at "v"
    refine ⟨rfl, by simp, fun i x hx => ?_, ?_⟩
    · have hx : x.ht < sz := by
        rw [← hq]
        exact Qn.kid_ht (List.mem_of_getElem? hx)
      walk_at "v"
      exact ⟨rfl, rfl⟩
    refine fz_own (da_lst (by simp) ?_)
    walk_at "v"
    refine db_maxL (a := 0) (ns := [q].map Qn.depth) ?_
    have e : (Qn.neg q).depth = maxN 0 ([q].map Qn.depth) := by show q.depth = max 0 q.depth; omega
    rw [← e]
    exact k
  | both p q =>
    walk_at "v"
    refine we_lcM [p, q] Qn.D (fun x => DL.D.int ((x.depth : Nat) : Int)) rfl (by simp) (wi_t ?_)
    walk_at "v"
    refine ⟨rfl, by simp, fun i x hx => ?_, ?_⟩
    · have hx : x.ht < sz := by
        rw [← hq]
        exact Qn.kid_ht (List.mem_of_getElem? hx)
      walk_at "v"
      exact ⟨rfl, rfl⟩
    refine fz_own (da_lst (by simp) ?_)
    walk_at "v"
    refine db_maxL (a := 0) (ns := [p, q].map Qn.depth) ?_
    have e : (Qn.both p q).depth = maxN 0 ([p, q].map Qn.depth) := by show max p.depth q.depth = max (max 0 p.depth) q.depth; omega
    rw [← e]
    exact k
  | some p a q =>
    have hq : max p.ht q.ht + 1 = sz := hq
    walk_at "v"
    have e : (1 + if ((q.depth : Nat) : Int) > ((p.depth : Nat) : Int) then ((q.depth : Nat) : Int) else ((p.depth : Nat) : Int)) = (((Qn.some p a q).depth : Nat) : Int) := by
      show _ = ((max p.depth q.depth + 1 : Nat) : Int)
      split <;> omega
    rw [e]
    exact k
theorem all_law_deep {f  : Addr} {fd  : FuncData} (T : Txt K mg) (F : Fun K "_law_deep" "_law_deep" s_law_deep f fd)  (hm : mg "_law_deep" = some (.ref f)) (kp : PySem.W.keepIn K (.ref f) = true) (bd : Binds K fd ["query"] []) : ∀ D : Nat, Callee P w K mg base CX0 "_law_deep" ["query"] (3 + D) (PureSp K (depInS D)) f fd
  | 0 => mkC (FnOk_none fun vs H Q E h => by revert h; walk_at "rec0") hm kp bd
  | D + 1 => mkC (ok_law_deep T F (Nat.le_add_right _ _) (all_law_deep T F hm kp bd D)) hm kp bd
abbrev s_law_steep : Stmt := topS 21
theorem sc_law_steep : FnScope ["pool", "names", "deep", "inner", "rest_here", "ahead", "behind", "whole", "way"] ["pool", "names", "deep"] (defScope s_law_steep) := ⟨rfl, rfl, rfl, by decide +kernel, rfl, by decide +kernel, by decide +kernel⟩
theorem ok_law_steep {f f_law_query f_law_draw : Addr} {fd fd_law_query fd_law_draw : FuncData} {D k : Nat} (T : Txt K mg) (F : Fun K "_law_steep" "_law_steep" s_law_steep f fd) (hk : 63 ≤ k) (C_law_steep : Callee P w K mg base CX0 "_law_steep" ["pool", "names", "deep"] k (ResSp K poolRes (steepS D)) f fd) (C_law_query : Callee P w K mg base CX0 "_law_query" ["pool", "names", "deep", "wide"] 63 (ResSp K poolRes (qryS 61)) f_law_query fd_law_query) (C_law_draw : Callee P w K mg base CX0 "_law_draw" ["pool", "span"] 1 (ResSp K poolRes drawS) f_law_draw fd_law_draw) : FnOk P w K mg base CX0 (k + 1) f fd ["pool", "names", "deep"] (ResSp K poolRes (steepS (D + 1))) := by
  refine ok_res (steepS (D + 1)) F sc_law_steep (fun p ds n P X h => by revert h; walk_at "hl") fun cdv A outer s H E hr => ⟨_, (pss_cons (ps_if (pt_cmpR op_ltQ (pv 2) pe_int (nomark _)) (pss_one (ps_ret (pe_tup (pa_cons pe_str pa_nil)))) pss_nil) (pss_cons (ps_par (i := 3) (j := 4) (by rfl) sc_law_steep.nd rfl rfl (by decide) rfl rfl (pa_cons (pe_call C_law_steep.ok (hr.mono (by first | decide | omega)) (by rfl) C_law_steep.mg C_law_steep.kp C_law_steep.bd .nil (C_law_steep.ps _ rfl rfl) (pa_cons (pv 0) (pa_cons (pv 1) (pa_cons (pe_op op_sub (pv 2) pe_int) pa_nil)))) (pa_cons (pe_call C_law_query.ok (hr.mono (by first | decide | omega)) (by rfl) C_law_query.mg C_law_query.kp C_law_query.bd .nil (C_law_query.ps _ rfl rfl) (pa_cons (pv 0) (pa_cons (pv 1) (pa_cons (pe_op op_sub (pv 2) pe_int) (pa_cons pe_int pa_nil))))) pa_nil)) (by rfl)) (pss_cons (ps_asg (pe_ix (ix_K (K := K) rfl) (pe_lst (pa_cons (pe_tup (pa_cons (pv 3) (pa_cons (pv 4) pa_nil))) (pa_cons (pe_tup (pa_cons (pv 4) (pa_cons (pv 3) pa_nil))) pa_nil))) (pe_call C_law_draw.ok (hr.mono (by first | decide | omega)) (by rfl) C_law_draw.mg C_law_draw.kp C_law_draw.bd .nil (C_law_draw.ps _ rfl rfl) (pa_cons (pv 0) (pa_cons pe_int pa_nil))) (fun _ _ => rfl)) (pg_tupK (K := K) (n := 2) rfl rfl (pgs_cons (pg_name (i := 5) sc_law_steep.nd rfl (by first | exact Or.inl rfl | exact Or.inr rfl)) (pgs_cons (pg_name (i := 6) sc_law_steep.nd rfl (by first | exact Or.inl rfl | exact Or.inr rfl)) pgs_nil)))) (pss_cons (ps_par (i := 7) (j := 8) (by rfl) sc_law_steep.nd rfl rfl (by decide) rfl rfl (pa_cons (pe_tup (pa_cons pe_str (pa_cons (pv 5) (pa_cons (pe_ix (ix_K (K := K) rfl) (pv 1) (pe_call C_law_draw.ok (hr.mono (by first | decide | omega)) (by rfl) C_law_draw.mg C_law_draw.kp C_law_draw.bd .nil (C_law_draw.ps _ rfl rfl) (pa_cons (pv 0) (pa_cons (pe_callB (call_lenK (K := K) rfl) (by rfl) T.n_len PySem.boot_len (pa_cons (pv 1) pa_nil)) pa_nil))) (fun _ _ => rfl)) (pa_cons (pv 6) pa_nil))))) (pa_cons (pe_call C_law_draw.ok (hr.mono (by first | decide | omega)) (by rfl) C_law_draw.mg C_law_draw.kp C_law_draw.bd .nil (C_law_draw.ps _ rfl rfl) (pa_cons (pv 0) (pa_cons pe_int pa_nil))) pa_nil)) (by rfl)) (pss_cons (ps_if (pt_cmpR (op_eqK (K := K) rfl hr.units) (pv 8) pe_int (nomark _)) (pss_one (ps_ret (pe_tup (pa_cons pe_str (pa_cons (pv 7) pa_nil))))) pss_nil) (pss_one (ps_ret (pe_ifExp (pt_cmpR (op_eqK (K := K) rfl hr.units) (pv 8) pe_int (nomark _)) (pe_tup (pa_cons pe_str (pa_cons (pv 7) (pa_cons (pe_call C_law_query.ok (hr.mono (by first | decide | omega)) (by rfl) C_law_query.mg C_law_query.kp C_law_query.bd .nil (C_law_query.ps _ rfl rfl) (pa_cons (pv 0) (pa_cons (pv 1) (pa_cons (pv 2) (pa_cons pe_int pa_nil))))) pa_nil)))) (pv 7))))))))), fun p ds (n : Nat) (Q : Sl → Nat → Prop) XP h H0 okX => ?_⟩
  obtain ⟨dp, hd, names, A, rfl, hN, hdp, hn, k⟩ := h
  /- 0:pool 1:names 2:deep 3:inner 4:rest_here 5:ahead 6:behind 7:whole 8:way -/
  change DL.WS _ _ [.dat _, .dat _, .dat _, .un, .un, .un, .un, .un, .un] _ _
  by_cases h0 : dp < 1
  · walk_at "v"
    exact k .any _ trivial (Nat.zero_le _) (by show 1 ≤ _; omega) (by omega)
  walk_at "v"
  intro q n1 q1 q2 q3 q4
  walk_at "v"
  intro r n2 r1 r2 r3 r4
  walk_at "v"
  intro z hz
  obtain ⟨a, b, hab, ha1, ha2, hb1, hb2, hsz⟩ : ∃ a b : Qn, atI [DL.D.tup [q.D, r.D], .tup [r.D, q.D]] ((z : Nat) : Int) = Option.some (.tup [a.D, b.D]) ∧ a.In A ∧ a.depth ≤ dp - 1 ∧ b.In A ∧ b.depth ≤ dp - 1 ∧ a.size + b.size = q.size + r.size := by
    rcases (by omega : z = 0 ∨ z = 1) with rfl | rfl
    · exact ⟨q, r, rfl, q1, by omega, r1, by omega, rfl⟩
    · exact ⟨r, q, rfl, r1, by omega, q1, by omega, Nat.add_comm _ _⟩
  refine di_lst hab ?_
  have hA := hN.pos
  walk_at "v"
  intro x hx
  walk_at "v"
  intro c hc
  walk_at "v"
  intro y hy
  have hw : ∀ n', n ≤ n' + 50 * dp + 4 → Q (.dat (Qn.some a c b).D) n' := fun n' hn' => k (.some a c b) n' ⟨ha1, hc, hb1⟩ (by show max a.depth b.depth + 1 ≤ _; omega) (by show a.size + b.size + 1 ≤ _; omega) hn'
  walk_at "v"
  by_cases h1 : y = 0
  · subst h1
    walk_at "v"
    exact k (.neg (.some a c b)) _ ⟨ha1, hc, hb1⟩ (by show max a.depth b.depth + 1 ≤ _; omega) (by show a.size + b.size + 1 + 1 ≤ _; omega) (by omega)
  walk_at "v"
  by_cases h2 : y = 1
  · subst h2
    walk_at "v"
    intro t n3 t1 t2 t3 t4
    walk_at "v"
    exact k (.both (.some a c b) t) _ ⟨⟨ha1, hc, hb1⟩, t1⟩ (by show max (max a.depth b.depth + 1) t.depth ≤ _; omega) (by show a.size + b.size + 1 + t.size + 1 ≤ _; omega) (by omega)
  walk_at "v"
  exact hw _ (by omega)
theorem all_law_steep {f f_law_query f_law_draw : Addr} {fd fd_law_query fd_law_draw : FuncData} (T : Txt K mg) (F : Fun K "_law_steep" "_law_steep" s_law_steep f fd) (C_law_query : Callee P w K mg base CX0 "_law_query" ["pool", "names", "deep", "wide"] 63 (ResSp K poolRes (qryS 61)) f_law_query fd_law_query) (C_law_draw : Callee P w K mg base CX0 "_law_draw" ["pool", "span"] 1 (ResSp K poolRes drawS) f_law_draw fd_law_draw) (hm : mg "_law_steep" = some (.ref f)) (kp : PySem.W.keepIn K (.ref f) = true) (bd : Binds K fd ["pool", "names", "deep"] []) : ∀ D : Nat, Callee P w K mg base CX0 "_law_steep" ["pool", "names", "deep"] (63 + D) (ResSp K poolRes (steepS D)) f fd
  | 0 => mkC (FnOk_none fun vs H Q E h => by revert h; walk_at "rec0") hm kp bd
  | D + 1 => mkC (ok_law_steep T F (Nat.le_add_right _ _) (all_law_steep T F C_law_query C_law_draw hm kp bd D) C_law_query C_law_draw) hm kp bd
abbrev s_law_any_query : Stmt := topS 22
theorem sc_law_any_query : FnScope ["pool", "names", "deep", "wide"] ["pool", "names", "deep", "wide"] (defScope s_law_any_query) := ⟨rfl, rfl, rfl, by decide +kernel, rfl, by decide +kernel, by decide +kernel⟩
theorem ok_law_any_query {f f_law_draw f_law_steep f_law_query : Addr} {fd fd_law_draw fd_law_steep fd_law_query : FuncData} (T : Txt K mg) (F : Fun K "_law_any_query" "_law_any_query" s_law_any_query f fd) (C_law_draw : Callee P w K mg base CX0 "_law_draw" ["pool", "span"] 1 (ResSp K poolRes drawS) f_law_draw fd_law_draw) (C_law_steep : Callee P w K mg base CX0 "_law_steep" ["pool", "names", "deep"] 74 (ResSp K poolRes (steepS 11)) f_law_steep fd_law_steep) (C_law_query : Callee P w K mg base CX0 "_law_query" ["pool", "names", "deep", "wide"] 63 (ResSp K poolRes (qryS 61)) f_law_query fd_law_query) : FnOk P w K mg base CX0 (75) f fd ["pool", "names", "deep", "wide"] (ResSp K poolRes anyqS) := by
  refine ok_res anyqS F sc_law_any_query (fun p ds n P X h => by revert h; walk_at "hl") fun cdv A outer s H E hr => ⟨_, (pss_cons (ps_if (pt_cmpR (op_eqK (K := K) rfl hr.units) (pe_call C_law_draw.ok (hr.mono (by first | decide | omega)) (by rfl) C_law_draw.mg C_law_draw.kp C_law_draw.bd .nil (C_law_draw.ps _ rfl rfl) (pa_cons (pv 0) (pa_cons pe_int pa_nil))) pe_int (nomark _)) (pss_one (ps_ret (pe_call C_law_steep.ok (hr.mono (by first | decide | omega)) (by rfl) C_law_steep.mg C_law_steep.kp C_law_steep.bd .nil (C_law_steep.ps _ rfl rfl) (pa_cons (pv 0) (pa_cons (pv 1) (pa_cons (pv 2) pa_nil)))))) pss_nil) (pss_one (ps_ret (pe_call C_law_query.ok (hr.mono (by first | decide | omega)) (by rfl) C_law_query.mg C_law_query.kp C_law_query.bd .nil (C_law_query.ps _ rfl rfl) (pa_cons (pv 0) (pa_cons (pv 1) (pa_cons (pv 2) (pa_cons (pv 3) pa_nil)))))))), fun p ds (n : Nat) (Q : Sl → Nat → Prop) XP h H0 okX => ?_⟩
  obtain ⟨dp, wd, names, A, rfl, hN, hdp, hw, hn, k⟩ := h
  /- 0:pool 1:names 2:deep 3:wide -/
  change DL.WS _ _ [.dat _, .dat _, .dat _, .dat _] _ _
  walk_at "v"
  intro z hz
  by_cases h0 : z = 0
  · subst h0
    walk_at "v"
    intro q n1 q1 q2 q3 q4
    walk_at "v"
    exact k q _ q1 (by omega) (by omega) (by omega)
  walk_at "v"
  intro q n1 q1 q2 q3 q4
  walk_at "v"
  exact k q _ q1 (by omega) (by have := q.size_pos; omega) (by omega)
local macro_rules | `(tactic| walk_at "e") => `(tactic| repeat (first
  | ((with_reducible refine tgWE ?_); first
      | ((with_reducible apply tgSetE); (focus (simp only [List.set_cons_succ, List.set_cons_zero]; rfl)))
      | with_reducible refine we_srtSet ?_
      | ((with_reducible apply we_callX); (focus (first | exact poolC _ _ _ _ _ _ _ | exact resC | exact onP | exact onB | exact onU onP | exact onU resC | exact onU (poolC _ _ _ _ _ _ _) | exact onU onB | exact onU (onU onP) | exact onU (onU (poolC _ _ _ _ _ _ _)))))
      | ((with_reducible refine tgNew ?_); refine we_dnewN ?_)
      | ((with_reducible apply we_methV); (focus (first | exact onK | exact onK0)); exact rfl; exact rfl)
      | with_reducible refine we_callF ?_
      | with_reducible refine we_callNF ?_
      | ((with_reducible apply we_callR); (focus (first | exact poolC _ _ _ _ _ _ _ | exact resC | exact onP | exact onB | exact onU onP | exact onU resC | exact onU (poolC _ _ _ _ _ _ _) | exact onU onB | exact onU (onU onP) | exact onU (onU (poolC _ _ _ _ _ _ _)))))
      | ((with_reducible apply we_methA); (focus (first | exact ac0 | exact onA)); (focus decide); (focus decide); (focus decide))
      | ((with_reducible apply we_fldAn); (focus (first | exact ac0 | exact onA)); assumption)
      | ((with_reducible apply we_fldAk); (focus (first | exact ac0 | exact onA)); assumption)
      | ((with_reducible apply we_fldAl); (focus (first | exact ac0 | exact onA)); assumption)
      | ((with_reducible apply we_dtnin); (focus (first | exact jc0.part subJj | exact onR.part subJj)))
      | ((with_reducible apply we_dtget); (focus (first | exact jc0.part subJj | exact onR.part subJj)))
      | ((with_reducible apply we_dinin); (focus (first | exact jc0.part subJl | exact onR.part subJl)))
      | ((with_reducible apply we_diget); (focus (first | exact jc0.part subJl | exact onR.part subJl)))
      | ((with_reducible apply we_methJ); (focus (first | exact jc0 | exact onR)); (focus decide); (focus decide); (focus decide); (focus decide))
      | ((with_reducible apply we_fldJt); (focus (first | exact jc0 | exact onR)); assumption)
      | ((with_reducible apply we_fldJs); (focus (first | exact jc0 | exact onR)); assumption)
      | ((with_reducible apply we_fldJl); (focus (first | exact jc0 | exact onR)); assumption)
      | ((with_reducible apply we_fldJj); (focus (first | exact jc0 | exact onR)); assumption)
      | ((with_reducible apply we_reprOwn2); exact rfl)
      | with_reducible refine we_maxDf ?_
      | ((with_reducible apply we_ktup); assumption)
      | with_reducible refine we_ref ?_
      | ((with_reducible apply we_callK); (focus (first | exact onK | exact onK0)))
      | with_reducible refine we_scount ?_
      | with_reducible refine we_sstarts ?_
      | with_reducible refine we_sends ?_
      | ((with_reducible apply we_revR); (focus (exact rfl)); (focus (first | assumption | omega | decide | (simp; done) | (simp; omega))))
      | with_reducible refine we_isi ?_
      | ((with_reducible apply we_var); focus rfl)
      | with_reducible refine we_int ?_
      | with_reducible refine we_str ?_
      | with_reducible refine we_bl ?_
      | with_reducible refine we_non ?_
      | with_reducible refine we_op ?_
      | with_reducible refine we_un ?_
      | with_reducible refine we_chain ?_
      | with_reducible refine we_cb ?_
      | with_reducible refine we_tup ?_
      | with_reducible refine we_lst ?_
      | with_reducible refine we_if ?_
      | with_reducible refine we_andV ?_
      | with_reducible refine we_orV ?_
      | with_reducible refine we_notV ?_
      | with_reducible refine we_sl ?_
      | with_reducible refine we_join ?_
      | with_reducible refine we_draw ?_)
  | ((with_reducible refine tgFZ ?_); first
      | with_reducible refine fz_dat ?_
      | with_reducible refine fz_own ?_)
  | ((with_reducible refine tgWA ?_); first
      | with_reducible refine wa_star ?_
      | with_reducible refine wa_nil ?_
      | with_reducible refine wa_cons ?_)
  | ((with_reducible refine tgWT ?_); first
      | ((with_reducible apply tgSetT); (focus (simp only [List.set_cons_succ, List.set_cons_zero]; rfl)))
      | with_reducible refine wt_yes ?_
      | with_reducible refine wt_test ?_
      | with_reducible refine wt_B ?_
      | with_reducible refine wt_not ?_
      | with_reducible refine wt_and ?_
      | with_reducible refine wt_or ?_)
  | ((with_reducible refine tgWAO ?_); first
      | with_reducible refine wao_nil ?_
      | with_reducible refine wao_cons ?_)
  | ((with_reducible refine tgDO ?_); first
      | ((with_reducible refine dop_shl1 ?_ ?_ ?_); (focus omega); (focus omega))
      | with_reducible refine deq_row ?_
      | ((with_reducible apply deq_enc); (focus (first | exact encNat | exact encP2 | exact encInt)))
      | ((with_reducible apply dne_enc); (focus (first | exact encNat | exact encP2 | exact encInt)))
      | ((with_reducible apply deq_encN); (focus (first | exact encNat | exact encP2 | exact encInt)))
      | ((with_reducible apply dne_encN); (focus (first | exact encNat | exact encP2 | exact encInt)))
      | ((with_reducible refine da_map ?_ ?_); (focus (first | assumption | omega | decide | (simp; done) | (simp; omega))))
      | ((with_reducible refine da_snoc2 ?_ ?_); (focus omega))
      | with_reducible refine dne_row ?_
      | ((with_reducible refine dop_fdivN ?_ ?_ ?_); (focus omega); (focus omega))
      | ((with_reducible apply di_names); assumption; (focus omega); (focus omega))
      | ((with_reducible apply di_qn); exact rfl)
      | ((with_reducible apply dnin_tab); assumption; (focus (first | exact .head _ | exact .tail _ (.head _) | exact .tail _ (.tail _ (.head _)) | exact .tail _ (.tail _ (.tail _ (.head _))))))
      | ((with_reducible apply di_tab); assumption; (focus (first | exact .head _ | exact .tail _ (.head _) | exact .tail _ (.tail _ (.head _)) | exact .tail _ (.tail _ (.tail _ (.head _))))))
      | ((with_reducible refine dop_pow2 ?_ ?_ ?_); (focus omega); (focus omega))
      | ((with_reducible refine dop_pow10 ?_ ?_ ?_); (focus omega); (focus omega))
      | with_reducible refine dis_opt ?_
      | with_reducible refine dnis_bl ?_
      | with_reducible refine dis_qn ?_
      | with_reducible refine dnis_qn ?_
      | with_reducible refine dis_non0 ?_
      | with_reducible refine dnis_non0 ?_
      | with_reducible refine dnis_opt ?_
      | with_reducible refine dle_opt ?_
      | ((with_reducible refine deq_qn ?_ ?_ ?_ ?_ ?_); (focus (first | assumption | omega | decide | (simp; done) | (simp; omega))); (focus (first | assumption | omega | decide | (simp; done) | (simp; omega))); (focus (first | assumption | omega | decide | (simp; done) | (simp; omega))); (focus (first | assumption | omega | decide | (simp; done) | (simp; omega))))
      | ((with_reducible refine dne_qn ?_ ?_ ?_ ?_ ?_); (focus (first | assumption | omega | decide | (simp; done) | (simp; omega))); (focus (first | assumption | omega | decide | (simp; done) | (simp; omega))); (focus (first | assumption | omega | decide | (simp; done) | (simp; omega))); (focus (first | assumption | omega | decide | (simp; done) | (simp; omega))))
      | with_reducible refine din_row2 ?_
      | ((with_reducible refine dm_row ?_ ?_ ?_ ?_); (focus (first | assumption | omega | decide | (simp; done) | (simp; omega))); (focus (first | assumption | omega | decide | (simp; done) | (simp; omega))); (focus (first | assumption | omega | decide | (simp; done) | (simp; omega))))
      | with_reducible refine deq_opt ?_
      | with_reducible refine dne_opt ?_
      | ((with_reducible refine deq_qn0 ?_ ?_ ?_); assumption; (focus omega))
      | with_reducible refine da_int ?_
      | with_reducible refine dop_sub ?_
      | with_reducible refine dlt_int ?_
      | with_reducible refine dle_int ?_
      | with_reducible refine dop_gt ?_
      | with_reducible refine dop_ge ?_
      | ((with_reducible apply de_sc); focus rfl)
      | ((with_reducible apply dn_sc); focus rfl)
      | ((with_reducible apply di_tup); focus rfl)
      | ((with_reducible apply di_lst); focus rfl))
  | ((with_reducible refine tgDC ?_); first
      | ((with_reducible refine dl_row ?_ ?_); (focus (first | omega | (simp; done))))
      | with_reducible refine dl_map ?_
      | ((with_reducible apply dl_names); assumption)
      | with_reducible refine db_repr2 ?_
      | ((with_reducible refine db_reprN2 ?_ ?_ ?_); (focus (first | assumption | omega | decide | (simp; done) | (simp; omega))); (focus (first | assumption | omega | decide | (simp; done) | (simp; omega))))
      | ((with_reducible refine db_sortN ?_ ?_); (focus (first | assumption | omega | decide | (simp; done) | (simp; omega))))
      | ((with_reducible refine db_sortP ?_ ?_); (focus (first | assumption | omega | decide | (simp; done) | (simp; omega))))
      | ((with_reducible apply dl_qn); exact rfl)
      | with_reducible refine db_all ?_
      | ((with_reducible apply db_isX); (focus (exact knows_exc)); (focus assumption); (focus assumption))
      | with_reducible refine db_anyB ?_
      | with_reducible refine db_listT ?_
      | with_reducible refine db_listL ?_
      | with_reducible refine dl_lst ?_
      | with_reducible refine dl_tup ?_
      | with_reducible refine db_max ?_
      | with_reducible refine db_min ?_
      | with_reducible refine db_abs ?_
      | with_reducible refine db_intI ?_
      | with_reducible refine db_intB ?_)
  | ((with_reducible refine tgDS ?_); first
      | with_reducible refine dsl_take ?_
      | with_reducible refine dsl_drop1 ?_
      | with_reducible refine dsl_drop ?_
      | ((with_reducible refine ds_mid ?_ ?_ ?_); (focus omega); (focus omega))
      | ((with_reducible refine ds_take ?_ ?_); (focus omega))
      | ((with_reducible refine ds_drop1 ?_ ?_); (focus omega))
      | ((with_reducible refine ds_drop ?_ ?_); (focus omega))
      | with_reducible refine ds_qn ?_
      | with_reducible refine ds_lst ?_
      | with_reducible refine ds_tup ?_)
  | ((with_reducible refine tgIf ?_); first
      | with_reducible refine ite_n ?_
      | ((with_reducible refine ite_BT ?_ ?_); (focus (first | assumption | (with_reducible rfl))))
      | ((with_reducible refine ite_BF ?_ ?_); (focus assumption))
      | ((with_reducible refine ite_dT ?_ ?_); (focus (first | assumption | omega | (with_reducible rfl) | (simp; done) | exact rfl)))
      | ((with_reducible refine ite_dF ?_ ?_); (focus (first | omega | decide)))
      | with_reducible refine iteT ?_
      | with_reducible refine iteF ?_)
  | ((with_reducible apply tgPick); (focus (simp only [pick, List.filterMap_cons, List.filterMap_nil, List.getElem?_cons_zero, List.getElem?_cons_succ]; rfl)))
  | ((with_reducible refine u_check_row ?_ ?_); (focus (first | assumption | omega | decide | (simp; done) | (simp; omega))))
  | ((with_reducible refine u_check_both ?_ ?_ ?_); (focus (first | assumption | omega | decide | (simp; done) | (simp; omega))); (focus (first | assumption | omega | decide | (simp; done) | (simp; omega))))
  | ((with_reducible refine u_check_depth ?_ ?_); (focus (first | assumption | omega | decide | (simp; done) | (simp; omega))))
  | ((with_reducible refine u_are_alikeN ?_ ?_ ?_ ?_ ?_ ?_); (focus (first | assumption | omega | decide | (simp; done) | (simp; omega))); (focus (first | assumption | omega | decide | (simp; done) | (simp; omega))); (focus (first | assumption | omega | decide | (simp; done) | (simp; omega))); (focus (first | assumption | omega | decide | (simp; done) | (simp; omega))); (focus (first | assumption | omega | decide | (simp; done) | (simp; omega))))
  | ((with_reducible refine u_are_alike ?_ ?_ ?_ ?_ ?_ ?_ ?_); (focus (first | assumption | omega | decide | (simp; done) | (simp; omega))); (focus (first | assumption | omega | decide | (simp; done) | (simp; omega))); (focus (first | assumption | omega | decide | (simp; done) | (simp; omega))); (focus (first | assumption | omega | decide | (simp; done) | (simp; omega))); (focus (first | assumption | omega | decide | (simp; done) | (simp; omega))); (focus (first | assumption | omega | decide | (simp; done) | (simp; omega))))
  | ((with_reducible refine u_wAlikeN ?_ ?_ ?_ ?_); (focus (first | assumption | omega | decide | (simp; done) | (simp; omega))); (focus (first | assumption | omega | decide | (simp; done) | (simp; omega))); (focus (first | assumption | omega | decide | (simp; done) | (simp; omega))))
  | ((with_reducible refine u_wAlike ?_ ?_ ?_ ?_ ?_); (focus (first | assumption | omega | decide | (simp; done) | (simp; omega))); (focus (first | assumption | omega | decide | (simp; done) | (simp; omega))); (focus (first | assumption | omega | decide | (simp; done) | (simp; omega))); (focus (first | assumption | omega | decide | (simp; done) | (simp; omega))))
  | ((with_reducible refine u_answers ?_ ?_ ?_ ?_ ?_ ?_ ?_ ?_ ?_); (focus (first | assumption | omega | decide | (simp; done) | (simp; omega))); (focus (first | assumption | omega | decide | (simp; done) | (simp; omega))); (focus (first | assumption | omega | decide | (simp; done) | (simp; omega))); (focus (first | assumption | omega | decide | (simp; done) | (simp; omega))); (focus (first | assumption | omega | decide | (simp; done) | (simp; omega))); (focus (first | assumption | omega | decide | (simp; done) | (simp; omega))); (focus (first | assumption | omega | decide | (simp; done) | (simp; omega))); (focus (first | assumption | omega | decide | (simp; done) | (simp; omega))))
  | ((with_reducible refine u_winN ?_ ?_ ?_ ?_ ?_ ?_); (focus (first | assumption | omega | decide | (simp; done) | (simp; omega))); (focus (first | assumption | omega | decide | (simp; done) | (simp; omega))); (focus (first | assumption | omega | decide | (simp; done) | (simp; omega))); (focus (first | assumption | omega | decide | (simp; done) | (simp; omega))); (focus (first | assumption | omega | decide | (simp; done) | (simp; omega))))
  | ((with_reducible refine u_win ?_ ?_ ?_ ?_ ?_ ?_ ?_); (focus (first | assumption | omega | decide | (simp; done) | (simp; omega))); (focus (first | assumption | omega | decide | (simp; done) | (simp; omega))); (focus (first | assumption | omega | decide | (simp; done) | (simp; omega))); (focus (first | assumption | omega | decide | (simp; done) | (simp; omega))); (focus (first | assumption | omega | decide | (simp; done) | (simp; omega))); (focus (first | assumption | omega | decide | (simp; done) | (simp; omega))))
  | ((with_reducible refine u_un ?_ ?_ ?_ ?_ ?_); (focus (first | assumption | omega | decide | (simp; done) | (simp; omega))); (focus (first | assumption | omega | decide | (simp; done) | (simp; omega))); (focus (first | assumption | omega | decide | (simp; done) | (simp; omega))); (focus (first | assumption | omega | decide | (simp; done) | (simp; omega))))
  | ((with_reducible refine u_draw ?_ ?_ ?_ ?_); (focus (first | assumption | omega | decide | (simp; done) | (simp; omega))); (focus (first | assumption | omega | decide | (simp; done) | (simp; omega))); (focus (first | assumption | omega | decide | (simp; done) | (simp; omega))))
  | ((with_reducible refine u_pair ?_ ?_ ?_ ?_); (focus (first | assumption | omega | decide | (simp; done) | (simp; omega))); (focus (first | assumption | omega | decide | (simp; done) | (simp; omega))); (focus (first | assumption | omega | decide | (simp; done) | (simp; omega))))
  | ((with_reducible refine u_inStep ?_ ?_); (focus (first | assumption | omega | decide | (simp; done) | (simp; omega))))
  | ((with_reducible refine u_lasts ?_ ?_ ?_ ?_ ?_ ?_); (focus (first | assumption | omega | decide | (simp; done) | (simp; omega))); (focus (first | assumption | omega | decide | (simp; done) | (simp; omega))); (focus (first | assumption | omega | decide | (simp; done) | (simp; omega))); (focus (first | assumption | omega | decide | (simp; done) | (simp; omega))); (focus (first | assumption | omega | decide | (simp; done) | (simp; omega))))
  | ((with_reducible apply u_qry); (focus (first | assumption | omega | decide | (simp; done) | (simp; omega))); (focus (first | assumption | omega | decide | (simp; done) | (simp; omega))); (focus (first | assumption | omega | decide | (simp; done) | (simp; omega))); (focus (first | assumption | omega | decide | (simp; done) | (simp; omega))); (focus (first | assumption | omega | decide | (simp; done) | (simp; omega))); (focus (first | assumption | omega | decide | (simp; done) | (simp; omega))); (focus (first | assumption | omega | decide | (simp; done) | (simp; omega))))
  | ((with_reducible apply u_steep); (focus (first | assumption | omega | decide | (simp; done) | (simp; omega))); (focus (first | assumption | omega | decide | (simp; done) | (simp; omega))); (focus (first | assumption | omega | decide | (simp; done) | (simp; omega))); (focus (first | assumption | omega | decide | (simp; done) | (simp; omega))); (focus (first | assumption | omega | decide | (simp; done) | (simp; omega))))
  | ((with_reducible apply u_anyq); (focus (first | assumption | omega | decide | (simp; done) | (simp; omega))); (focus (first | assumption | omega | decide | (simp; done) | (simp; omega))); (focus (first | assumption | omega | decide | (simp; done) | (simp; omega))); (focus (first | assumption | omega | decide | (simp; done) | (simp; omega))))
  | ((with_reducible refine u_lets ?_ ?_ ?_); (focus (first | assumption | omega | decide | (simp; done) | (simp; omega))); (focus (first | assumption | omega | decide | (simp; done) | (simp; omega))))
  | ((with_reducible refine u_letsH ?_ ?_ ?_); (focus (first | assumption | omega | decide | (simp; done) | (simp; omega))); (focus (first | assumption | omega | decide | (simp; done) | (simp; omega))))
  | ((with_reducible refine u_islet ?_ ?_); (focus (first | assumption | omega | decide | (simp; done) | (simp; omega))))
  | ((with_reducible refine u_inner ?_))
  | ((with_reducible refine u_isq ?_ ?_ ?_ ?_); (focus (first | assumption | omega | decide | (simp; done) | (simp; omega))); (focus (first | assumption | omega | decide | (simp; done) | (simp; omega))); (focus (first | assumption | omega | decide | (simp; done) | (simp; omega))))
  | ((with_reducible refine u_isqH ?_ ?_ ?_ ?_); (focus (first | assumption | omega | decide | (simp; done) | (simp; omega))); (focus (first | assumption | omega | decide | (simp; done) | (simp; omega))); (focus (first | assumption | omega | decide | (simp; done) | (simp; omega))))
  | ((with_reducible refine u_chq ?_ ?_ ?_); (focus (first | assumption | omega | decide | (simp; done) | (simp; omega))); (focus (first | assumption | omega | decide | (simp; done) | (simp; omega))))
  | ((with_reducible refine u_chqH ?_ ?_ ?_); (focus (first | assumption | omega | decide | (simp; done) | (simp; omega))); (focus (first | assumption | omega | decide | (simp; done) | (simp; omega))))
  | ((with_reducible refine u_add ?_ ?_ ?_); (focus (first | assumption | omega | decide | (simp; done) | (simp; omega))); (focus (first | assumption | omega | decide | (simp; done) | (simp; omega))))
  | ((with_reducible refine u_addH ?_ ?_ ?_); (focus (first | assumption | omega | decide | (simp; done) | (simp; omega))); (focus (first | assumption | omega | decide | (simp; done) | (simp; omega))))
  | ((with_reducible apply u_isletA); (focus (first | assumption | omega | decide | (simp; done) | (simp; omega))); (focus (first | assumption | omega | decide | (simp; done) | (simp; omega))); (focus (first | assumption | omega | decide | (simp; done) | (simp; omega))); (focus (first | assumption | omega | decide | (simp; done) | (simp; omega))); (focus (first | assumption | omega | decide | (simp; done) | (simp; omega))))
  | ((with_reducible apply u_metA); (focus (first | assumption | omega | decide | (simp; done) | (simp; omega))); (focus (first | assumption | omega | decide | (simp; done) | (simp; omega))); (focus (first | assumption | omega | decide | (simp; done) | (simp; omega))); (focus (first | assumption | omega | decide | (simp; done) | (simp; omega))); (focus (first | assumption | omega | decide | (simp; done) | (simp; omega))); (focus (first | assumption | omega | decide | (simp; done) | (simp; omega))))
  | ((with_reducible refine u_lets1 ?_ ?_ ?_); (focus (first | assumption | omega | decide | (simp; done) | (simp; omega))); (focus (first | assumption | omega | decide | (simp; done) | (simp; omega))))
  | ((with_reducible refine u_lets1H ?_ ?_ ?_ ?_); (focus (first | assumption | omega | decide | (simp; done) | (simp; omega))); (focus (first | assumption | omega | decide | (simp; done) | (simp; omega))); (focus (first | assumption | omega | decide | (simp; done) | (simp; omega))))
  | ((with_reducible refine u_letsPH ?_ ?_ ?_ ?_ ?_ ?_); (focus (first | assumption | omega | decide | (simp; done) | (simp; omega))); (focus (first | assumption | omega | decide | (simp; done) | (simp; omega))); (focus (first | assumption | omega | decide | (simp; done) | (simp; omega))); (focus (first | assumption | omega | decide | (simp; done) | (simp; omega))); (focus (first | assumption | omega | decide | (simp; done) | (simp; omega))))
  | ((with_reducible refine u_letsPa ?_ ?_ ?_); (focus (first | assumption | omega | decide | (simp; done) | (simp; omega))); (focus (first | assumption | omega | decide | (simp; done) | (simp; omega))))
  | ((with_reducible refine u_letsPn ?_ ?_ ?_ ?_ ?_); (focus (first | assumption | omega | decide | (simp; done) | (simp; omega))); (focus (first | assumption | omega | decide | (simp; done) | (simp; omega))); (focus (first | assumption | omega | decide | (simp; done) | (simp; omega))); (focus (first | assumption | omega | decide | (simp; done) | (simp; omega))))
  | ((with_reducible refine u_letsPb ?_ ?_ ?_ ?_ ?_ ?_); (focus (first | assumption | omega | decide | (simp; done) | (simp; omega))); (focus (first | assumption | omega | decide | (simp; done) | (simp; omega))); (focus (first | assumption | omega | decide | (simp; done) | (simp; omega))); (focus (first | assumption | omega | decide | (simp; done) | (simp; omega))); (focus (first | assumption | omega | decide | (simp; done) | (simp; omega))))
  | ((with_reducible refine u_letsPs ?_ ?_ ?_ ?_ ?_ ?_ ?_); (focus (first | assumption | omega | decide | (simp; done) | (simp; omega))); (focus (first | assumption | omega | decide | (simp; done) | (simp; omega))); (focus (first | assumption | omega | decide | (simp; done) | (simp; omega))); (focus (first | assumption | omega | decide | (simp; done) | (simp; omega))); (focus (first | assumption | omega | decide | (simp; done) | (simp; omega))); (focus (first | assumption | omega | decide | (simp; done) | (simp; omega))))
  | ((with_reducible refine u_letsS ?_ ?_ ?_); (focus (first | assumption | omega | decide | (simp; done) | (simp; omega))); (focus (first | assumption | omega | decide | (simp; done) | (simp; omega))))
  | ((with_reducible refine u_letsP ?_ ?_ ?_ ?_ ?_); (focus (first | assumption | omega | decide | (simp; done) | (simp; omega))); (focus (first | assumption | omega | decide | (simp; done) | (simp; omega))); (focus (first | assumption | omega | decide | (simp; done) | (simp; omega))); (focus (first | assumption | omega | decide | (simp; done) | (simp; omega))))
  | ((with_reducible apply u_line); (focus (first | assumption | omega | decide | (simp; done) | (simp; omega))); (focus (first | assumption | omega | decide | (simp; done) | (simp; omega))); (focus (first | assumption | omega | decide | (simp; done) | (simp; omega))))
  | ((with_reducible refine u_turnA ?_ ?_); (focus (first | assumption | omega | decide | (simp; done) | (simp; omega))))
  | ((with_reducible refine u_turnAH ?_ ?_); (focus (first | assumption | omega | decide | (simp; done) | (simp; omega))))
  | ((with_reducible refine u_turnQ ?_ ?_ ?_); (focus (first | assumption | omega | decide | (simp; done) | (simp; omega))); (focus (first | assumption | omega | decide | (simp; done) | (simp; omega))))
  | ((with_reducible refine u_turnQH ?_ ?_ ?_); (focus (first | assumption | omega | decide | (simp; done) | (simp; omega))); (focus (first | assumption | omega | decide | (simp; done) | (simp; omega))))
  | ((with_reducible refine u_turnQS ?_ ?_ ?_ ?_ ?_); (focus (first | assumption | omega | decide | (simp; done) | (simp; omega))); (focus (first | assumption | omega | decide | (simp; done) | (simp; omega))); (focus (first | assumption | omega | decide | (simp; done) | (simp; omega))); (focus (first | assumption | omega | decide | (simp; done) | (simp; omega))))
  | ((with_reducible refine u_places ?_ ?_ ?_ ?_ ?_); (focus (first | assumption | omega | decide | (simp; done) | (simp; omega))); (focus (first | assumption | omega | decide | (simp; done) | (simp; omega))); (focus (first | assumption | omega | decide | (simp; done) | (simp; omega))); (focus (first | assumption | omega | decide | (simp; done) | (simp; omega))))
  | ((with_reducible refine u_placesS ?_ ?_ ?_ ?_ ?_ ?_ ?_); (focus (first | assumption | omega | decide | (simp; done) | (simp; omega))); (focus (first | assumption | omega | decide | (simp; done) | (simp; omega))); (focus (first | assumption | omega | decide | (simp; done) | (simp; omega))); (focus (first | assumption | omega | decide | (simp; done) | (simp; omega))); (focus (first | assumption | omega | decide | (simp; done) | (simp; omega))); (focus (first | assumption | omega | decide | (simp; done) | (simp; omega))))
  | ((with_reducible refine u_parting ?_ ?_ ?_ ?_ ?_); (focus (first | assumption | omega | decide | (simp; done) | (simp; omega))); (focus (first | assumption | omega | decide | (simp; done) | (simp; omega))); (focus (first | assumption | omega | decide | (simp; done) | (simp; omega))); (focus (first | assumption | omega | decide | (simp; done) | (simp; omega))))
  | ((with_reducible refine u_pat ?_))
  | ((with_reducible refine u_bare ?_))
  | ((with_reducible refine u_has ?_ ?_ ?_); (focus (first | assumption | omega | decide | (simp; done) | (simp; omega))); (focus (first | assumption | omega | decide | (simp; done) | (simp; omega))))
  | ((with_reducible refine u_allOf ?_ ?_ ?_ ?_); (focus (first | assumption | omega | decide | (simp; done) | (simp; omega))); (focus (first | assumption | omega | decide | (simp; done) | (simp; omega))); (focus (first | assumption | omega | decide | (simp; done) | (simp; omega))))
  | ((with_reducible apply u_leastOf); (focus (first | assumption | omega | decide | (simp; done) | (simp; omega))); (focus (first | assumption | omega | decide | (simp; done) | (simp; omega))); (focus (first | assumption | omega | decide | (simp; done) | (simp; omega))); (focus (first | assumption | omega | decide | (simp; done) | (simp; omega))); (focus (first | assumption | omega | decide | (simp; done) | (simp; omega))))
  | ((with_reducible refine u_depIn ?_ ?_); (focus (first | assumption | omega | decide | (simp; done) | (simp; omega))))
  | ((with_reducible refine u_depOf ?_ ?_ ?_); (focus (first | assumption | omega | decide | (simp; done) | (simp; omega))); (focus (first | assumption | omega | decide | (simp; done) | (simp; omega))))
  | ((with_reducible refine u_depOfH ?_ ?_ ?_); (focus (first | assumption | omega | decide | (simp; done) | (simp; omega))); (focus (first | assumption | omega | decide | (simp; done) | (simp; omega))))
  | ((with_reducible refine u_sameMany ?_ ?_ ?_ ?_ ?_); (focus (first | assumption | omega | decide | (simp; done) | (simp; omega))); (focus (first | assumption | omega | decide | (simp; done) | (simp; omega))); (focus (first | assumption | omega | decide | (simp; done) | (simp; omega))); (focus (first | assumption | omega | decide | (simp; done) | (simp; omega))))
  | ((with_reducible refine u_settledN ?_ ?_ ?_ ?_); (focus (first | assumption | omega | decide | (simp; done) | (simp; omega))); (focus (first | assumption | omega | decide | (simp; done) | (simp; omega))); (focus (first | assumption | omega | decide | (simp; done) | (simp; omega))))
  | ((with_reducible refine u_isBlk ?_))
  | ((with_reducible refine u_depB ?_ ?_ ?_ ?_); (focus (first | assumption | omega | decide | (simp; done) | (simp; omega))); (focus (first | assumption | omega | decide | (simp; done) | (simp; omega))); (focus (first | assumption | omega | decide | (simp; done) | (simp; omega))))
  | ((with_reducible refine u_ct ?_ ?_ ?_ ?_); (focus (first | assumption | omega | decide | (simp; done) | (simp; omega))); (focus (first | assumption | omega | decide | (simp; done) | (simp; omega))); (focus (first | assumption | omega | decide | (simp; done) | (simp; omega))))
  | ((with_reducible refine u_cb ?_ ?_ ?_ ?_); (focus (first | assumption | omega | decide | (simp; done) | (simp; omega))); (focus (first | assumption | omega | decide | (simp; done) | (simp; omega))); (focus (first | assumption | omega | decide | (simp; done) | (simp; omega))))
  | ((with_reducible refine u_known ?_ ?_ ?_); (focus (first | assumption | omega | decide | (simp; done) | (simp; omega))); (focus (first | assumption | omega | decide | (simp; done) | (simp; omega))))
  | ((with_reducible refine u_letters ?_ ?_ ?_ ?_); (focus (first | assumption | omega | decide | (simp; done) | (simp; omega))); (focus (first | assumption | omega | decide | (simp; done) | (simp; omega))); (focus (first | assumption | omega | decide | (simp; done) | (simp; omega))))
  | ((with_reducible refine u_lawLet ?_ ?_ ?_); (focus (first | assumption | omega | decide | (simp; done) | (simp; omega))); (focus (first | assumption | omega | decide | (simp; done) | (simp; omega))))
  | with_reducible refine dun_neg ?_
  | with_reducible refine tgA2 ?_
  | with_reducible refine tgA3 ?_
  | with_reducible refine tgEx2 ?_
  | with_reducible refine tgEx3 ?_
  | with_reducible refine tgEx4 ?_
  | with_reducible refine tgT2 ?_
  | with_reducible refine tgT3 ?_
  | with_reducible refine tgL2 ?_
  | with_reducible refine tgT4 ?_
  | refine ⟨_, (Or.inl rfl : DL.D.lst _ = DL.D.lst _ ∨ _), ?_⟩
  | refine ⟨_, (Or.inr rfl : _ ∨ DL.D.tup _ = DL.D.tup _), ?_⟩
  | with_reducible refine xin_no ?_
  | with_reducible refine xr_no ?_
  | refine ⟨(rfl : DL.D.ref _ = DL.D.ref _), ?_⟩
  | refine ⟨(rfl : DL.D.ty _ = Option.some _), ?_⟩
  | refine ⟨Qn.ty _, ?_⟩
  | refine ⟨(by simp : List.length _ ≤ 100000), ?_⟩
  | refine ⟨(by simp : List.length _ = _), ?_⟩
  | with_reducible refine wo_none ?_
  | with_reducible refine wo_some ?_
  | refine ⟨_, rfl, ?_⟩))
local macro_rules | `(tactic| walk_at "hl") => `(tactic| first
  | (rintro ⟨e, _⟩; rw [e]; rfl)
  | (rintro ⟨_, e, _⟩; rw [e]; rfl)
  | (rintro ⟨_, _, e, _⟩; rw [e]; rfl)
  | (rintro ⟨_, _, _, e, _⟩; rw [e]; rfl)
  | (rintro ⟨_, _, _, _, e, _⟩; rw [e]; rfl)
  | (rintro ⟨_, _, _, _, _, e, _⟩; rw [e]; rfl)
  | (rintro ⟨_, _, _, _, _, _, e, _⟩; rw [e]; rfl)
  | (rintro ⟨_, _, _, _, _, _, _, e, _⟩; rw [e]; rfl)
  | (rintro ⟨_, _, _, _, _, _, _, _, e, _⟩; rw [e]; rfl)
  | (rintro ⟨_, _, _, _, _, _, _, _, _, e, _⟩; rw [e]; rfl)
  | (rintro ⟨_, _, _, _, _, _, _, _, _, _, e, _⟩; rw [e]; rfl)
  | (rintro ⟨_, _, _, _, _, _, _, _, _, _, _, e, _⟩; rw [e]; rfl))
local macro_rules | `(tactic| walk_at "rec0") => `(tactic| first
  | (rintro ⟨_, _, _, _, _, _, _, _, ⟨_, h0, _⟩, _⟩; exact absurd h0 (Nat.not_lt_zero _))
  | (rintro ⟨_, _, _, ⟨_, h0, _⟩, _⟩; exact absurd h0 (Nat.not_lt_zero _))
  | (rintro ⟨_, _, _, _, _, ⟨_, h0, _⟩, _⟩; exact absurd h0 (Nat.not_lt_zero _))
  | (rintro ⟨_, _, _, _, _, _, ⟨_, h0, _⟩, _⟩; exact absurd h0 (Nat.not_lt_zero _)))
local macro_rules | `(tactic| walk_at "v") => `(tactic| repeat (first
  | ((with_reducible refine tgWE ?_); first
      | ((with_reducible apply tgSetE); (focus (simp only [List.set_cons_succ, List.set_cons_zero]; rfl)))
      | with_reducible refine we_srtSet ?_
      | ((with_reducible apply we_callX); (focus (first | exact poolC _ _ _ _ _ _ _ | exact resC | exact onP | exact onB | exact onU onP | exact onU resC | exact onU (poolC _ _ _ _ _ _ _) | exact onU onB | exact onU (onU onP) | exact onU (onU (poolC _ _ _ _ _ _ _)))))
      | ((with_reducible refine tgNew ?_); refine we_dnewN ?_)
      | ((with_reducible apply we_methV); (focus (first | exact onK | exact onK0)); exact rfl; exact rfl)
      | with_reducible refine we_callF ?_
      | with_reducible refine we_callNF ?_
      | ((with_reducible apply we_callR); (focus (first | exact poolC _ _ _ _ _ _ _ | exact resC | exact onP | exact onB | exact onU onP | exact onU resC | exact onU (poolC _ _ _ _ _ _ _) | exact onU onB | exact onU (onU onP) | exact onU (onU (poolC _ _ _ _ _ _ _)))))
      | ((with_reducible apply we_methA); (focus (first | exact ac0 | exact onA)); (focus decide); (focus decide); (focus decide))
      | ((with_reducible apply we_fldAn); (focus (first | exact ac0 | exact onA)); assumption)
      | ((with_reducible apply we_fldAk); (focus (first | exact ac0 | exact onA)); assumption)
      | ((with_reducible apply we_fldAl); (focus (first | exact ac0 | exact onA)); assumption)
      | ((with_reducible apply we_dtnin); (focus (first | exact jc0.part subJj | exact onR.part subJj)))
      | ((with_reducible apply we_dtget); (focus (first | exact jc0.part subJj | exact onR.part subJj)))
      | ((with_reducible apply we_dinin); (focus (first | exact jc0.part subJl | exact onR.part subJl)))
      | ((with_reducible apply we_diget); (focus (first | exact jc0.part subJl | exact onR.part subJl)))
      | ((with_reducible apply we_methJ); (focus (first | exact jc0 | exact onR)); (focus decide); (focus decide); (focus decide); (focus decide))
      | ((with_reducible apply we_fldJt); (focus (first | exact jc0 | exact onR)); assumption)
      | ((with_reducible apply we_fldJs); (focus (first | exact jc0 | exact onR)); assumption)
      | ((with_reducible apply we_fldJl); (focus (first | exact jc0 | exact onR)); assumption)
      | ((with_reducible apply we_fldJj); (focus (first | exact jc0 | exact onR)); assumption)
      | ((with_reducible apply we_reprOwn2); exact rfl)
      | with_reducible refine we_maxDf ?_
      | ((with_reducible apply we_ktup); assumption)
      | with_reducible refine we_ref ?_
      | ((with_reducible apply we_callK); (focus (first | exact onK | exact onK0)))
      | with_reducible refine we_scount ?_
      | with_reducible refine we_sstarts ?_
      | with_reducible refine we_sends ?_
      | ((with_reducible apply we_revR); (focus (exact rfl)); (focus (first | assumption | omega | decide | (simp; done) | (simp; omega))))
      | with_reducible refine we_isi ?_
      | ((with_reducible apply we_var); focus rfl)
      | with_reducible refine we_int ?_
      | with_reducible refine we_str ?_
      | with_reducible refine we_bl ?_
      | with_reducible refine we_non ?_
      | with_reducible refine we_op ?_
      | with_reducible refine we_un ?_
      | with_reducible refine we_chain ?_
      | with_reducible refine we_cb ?_
      | with_reducible refine we_tup ?_
      | with_reducible refine we_lst ?_
      | with_reducible refine we_if ?_
      | with_reducible refine we_andV ?_
      | with_reducible refine we_orV ?_
      | with_reducible refine we_notV ?_
      | with_reducible refine we_sl ?_
      | with_reducible refine we_join ?_
      | with_reducible refine we_draw ?_)
  | ((with_reducible refine tgWS ?_); first
      | ((with_reducible apply tgSet); (focus (simp only [List.set_cons_succ, List.set_cons_zero]; rfl)))
      | ((with_reducible apply ws_retOwn); exact rfl)
      | ((with_reducible apply ws_app); exact rfl; (focus (first | assumption | omega | decide | (simp; done) | (simp; omega))))
      | ((with_reducible apply ws_ext); exact rfl; (focus (first | assumption | omega | decide | (simp; done) | (simp; omega))))
      | with_reducible refine ws_nx ?_
      | with_reducible refine ws_asgF ?_
      | with_reducible refine ws_parF ?_
      | with_reducible refine ws_par3F ?_
      | ((with_reducible refine ws_par3 ?_ ?_ ?_ ?_); (focus (simp; done)); (focus (simp; done)); (focus (simp; done)))
      | ((with_reducible refine ws_tup3 rfl ?_ ?_ ?_ ?_); (focus (simp; done)); (focus (simp; done)); (focus (simp; done)))
      | ((with_reducible refine ws_tup4 rfl ?_ ?_ ?_ ?_ ?_); (focus (simp; done)); (focus (simp; done)); (focus (simp; done)); (focus (simp; done)))
      | ((with_reducible refine ws_asg2 rfl ?_ ?_ ?_); (focus (simp; done)); (focus (simp; done)))
      | ((with_reducible refine ws_asgL2 rfl ?_ ?_ ?_); (focus (simp; done)); (focus (simp; done)))
      | ((with_reducible refine ws_asg3 rfl ?_ ?_ ?_ ?_); (focus (simp; done)); (focus (simp; done)); (focus (simp; done)))
      | ((with_reducible refine ws_par ?_ ?_ ?_); (focus (simp; done)); (focus (simp; done)))
      | with_reducible refine ws_newK fun _ _ _ _ => ?_
      | with_reducible refine ws_newA ?_
      | with_reducible refine ws_newR ?_
      | with_reducible refine ws_newR2 ?_
      | ((with_reducible refine ws_asg4 rfl ?_ ?_ ?_ ?_ ?_); (focus (simp; done)); (focus (simp; done)); (focus (simp; done)); (focus (simp; done)))
      | with_reducible refine ws_seq ?_
      | with_reducible refine ws_next ?_
      | with_reducible refine ws_cnt ?_
      | with_reducible refine ws_brk ?_
      | with_reducible refine ws_if ?_
      | with_reducible refine ws_retN ?_
      | with_reducible refine ws_ret ?_
      | with_reducible refine ws_asg ?_
      | with_reducible refine ws_drop ?_)
  | ((with_reducible refine tgFZ ?_); first
      | with_reducible refine fz_dat ?_
      | with_reducible refine fz_own ?_)
  | ((with_reducible refine tgWA ?_); first
      | with_reducible refine wa_star ?_
      | with_reducible refine wa_nil ?_
      | with_reducible refine wa_cons ?_)
  | ((with_reducible refine tgWT ?_); first
      | ((with_reducible apply tgSetT); (focus (simp only [List.set_cons_succ, List.set_cons_zero]; rfl)))
      | with_reducible refine wt_yes ?_
      | with_reducible refine wt_test ?_
      | with_reducible refine wt_B ?_
      | with_reducible refine wt_not ?_
      | with_reducible refine wt_and ?_
      | with_reducible refine wt_or ?_)
  | ((with_reducible refine tgWAO ?_); first
      | with_reducible refine wao_nil ?_
      | with_reducible refine wao_cons ?_)
  | ((with_reducible refine tgDO ?_); first
      | ((with_reducible refine dop_shl1 ?_ ?_ ?_); (focus omega); (focus omega))
      | with_reducible refine deq_row ?_
      | ((with_reducible apply deq_enc); (focus (first | exact encNat | exact encP2 | exact encInt)))
      | ((with_reducible apply dne_enc); (focus (first | exact encNat | exact encP2 | exact encInt)))
      | ((with_reducible apply deq_encN); (focus (first | exact encNat | exact encP2 | exact encInt)))
      | ((with_reducible apply dne_encN); (focus (first | exact encNat | exact encP2 | exact encInt)))
      | ((with_reducible refine da_map ?_ ?_); (focus (first | assumption | omega | decide | (simp; done) | (simp; omega))))
      | ((with_reducible refine da_snoc2 ?_ ?_); (focus omega))
      | with_reducible refine dne_row ?_
      | ((with_reducible refine dop_fdivN ?_ ?_ ?_); (focus omega); (focus omega))
      | ((with_reducible apply di_names); assumption; (focus omega); (focus omega))
      | ((with_reducible apply di_qn); exact rfl)
      | ((with_reducible apply dnin_tab); assumption; (focus (first | exact .head _ | exact .tail _ (.head _) | exact .tail _ (.tail _ (.head _)) | exact .tail _ (.tail _ (.tail _ (.head _))))))
      | ((with_reducible apply di_tab); assumption; (focus (first | exact .head _ | exact .tail _ (.head _) | exact .tail _ (.tail _ (.head _)) | exact .tail _ (.tail _ (.tail _ (.head _))))))
      | ((with_reducible refine dop_pow2 ?_ ?_ ?_); (focus omega); (focus omega))
      | ((with_reducible refine dop_pow10 ?_ ?_ ?_); (focus omega); (focus omega))
      | with_reducible refine dis_opt ?_
      | with_reducible refine dnis_bl ?_
      | with_reducible refine dis_qn ?_
      | with_reducible refine dnis_qn ?_
      | with_reducible refine dis_non0 ?_
      | with_reducible refine dnis_non0 ?_
      | with_reducible refine dnis_opt ?_
      | with_reducible refine dle_opt ?_
      | ((with_reducible refine deq_qn ?_ ?_ ?_ ?_ ?_); (focus (first | assumption | omega | decide | (simp; done) | (simp; omega))); (focus (first | assumption | omega | decide | (simp; done) | (simp; omega))); (focus (first | assumption | omega | decide | (simp; done) | (simp; omega))); (focus (first | assumption | omega | decide | (simp; done) | (simp; omega))))
      | ((with_reducible refine dne_qn ?_ ?_ ?_ ?_ ?_); (focus (first | assumption | omega | decide | (simp; done) | (simp; omega))); (focus (first | assumption | omega | decide | (simp; done) | (simp; omega))); (focus (first | assumption | omega | decide | (simp; done) | (simp; omega))); (focus (first | assumption | omega | decide | (simp; done) | (simp; omega))))
      | with_reducible refine din_row2 ?_
      | ((with_reducible refine dm_row ?_ ?_ ?_ ?_); (focus (first | assumption | omega | decide | (simp; done) | (simp; omega))); (focus (first | assumption | omega | decide | (simp; done) | (simp; omega))); (focus (first | assumption | omega | decide | (simp; done) | (simp; omega))))
      | with_reducible refine deq_opt ?_
      | with_reducible refine dne_opt ?_
      | ((with_reducible refine deq_qn0 ?_ ?_ ?_); assumption; (focus omega))
      | with_reducible refine da_int ?_
      | with_reducible refine dop_sub ?_
      | with_reducible refine dlt_int ?_
      | with_reducible refine dle_int ?_
      | with_reducible refine dop_gt ?_
      | with_reducible refine dop_ge ?_
      | ((with_reducible apply de_sc); focus rfl)
      | ((with_reducible apply dn_sc); focus rfl)
      | ((with_reducible apply di_tup); focus rfl)
      | ((with_reducible apply di_lst); focus rfl))
  | ((with_reducible refine tgDC ?_); first
      | ((with_reducible refine dl_row ?_ ?_); (focus (first | omega | (simp; done))))
      | with_reducible refine dl_map ?_
      | ((with_reducible apply dl_names); assumption)
      | with_reducible refine db_repr2 ?_
      | ((with_reducible refine db_reprN2 ?_ ?_ ?_); (focus (first | assumption | omega | decide | (simp; done) | (simp; omega))); (focus (first | assumption | omega | decide | (simp; done) | (simp; omega))))
      | ((with_reducible refine db_sortN ?_ ?_); (focus (first | assumption | omega | decide | (simp; done) | (simp; omega))))
      | ((with_reducible refine db_sortP ?_ ?_); (focus (first | assumption | omega | decide | (simp; done) | (simp; omega))))
      | ((with_reducible apply dl_qn); exact rfl)
      | with_reducible refine db_all ?_
      | ((with_reducible apply db_isX); (focus (exact knows_exc)); (focus assumption); (focus assumption))
      | with_reducible refine db_anyB ?_
      | with_reducible refine db_listT ?_
      | with_reducible refine db_listL ?_
      | with_reducible refine dl_lst ?_
      | with_reducible refine dl_tup ?_
      | with_reducible refine db_max ?_
      | with_reducible refine db_min ?_
      | with_reducible refine db_abs ?_
      | with_reducible refine db_intI ?_
      | with_reducible refine db_intB ?_)
  | ((with_reducible refine tgDS ?_); first
      | with_reducible refine dsl_take ?_
      | with_reducible refine dsl_drop1 ?_
      | with_reducible refine dsl_drop ?_
      | ((with_reducible refine ds_mid ?_ ?_ ?_); (focus omega); (focus omega))
      | ((with_reducible refine ds_take ?_ ?_); (focus omega))
      | ((with_reducible refine ds_drop1 ?_ ?_); (focus omega))
      | ((with_reducible refine ds_drop ?_ ?_); (focus omega))
      | with_reducible refine ds_qn ?_
      | with_reducible refine ds_lst ?_
      | with_reducible refine ds_tup ?_)
  | ((with_reducible refine tgIf ?_); first
      | with_reducible refine ite_n ?_
      | ((with_reducible refine ite_BT ?_ ?_); (focus (first | assumption | (with_reducible rfl))))
      | ((with_reducible refine ite_BF ?_ ?_); (focus assumption))
      | ((with_reducible refine ite_dT ?_ ?_); (focus (first | assumption | omega | (with_reducible rfl) | (simp; done) | exact rfl)))
      | ((with_reducible refine ite_dF ?_ ?_); (focus (first | omega | decide)))
      | with_reducible refine iteT ?_
      | with_reducible refine iteF ?_)
  | ((with_reducible apply tgPick); (focus (simp only [pick, List.filterMap_cons, List.filterMap_nil, List.getElem?_cons_zero, List.getElem?_cons_succ]; rfl)))
  | ((with_reducible refine u_check_row ?_ ?_); (focus (first | assumption | omega | decide | (simp; done) | (simp; omega))))
  | ((with_reducible refine u_check_both ?_ ?_ ?_); (focus (first | assumption | omega | decide | (simp; done) | (simp; omega))); (focus (first | assumption | omega | decide | (simp; done) | (simp; omega))))
  | ((with_reducible refine u_check_depth ?_ ?_); (focus (first | assumption | omega | decide | (simp; done) | (simp; omega))))
  | ((with_reducible refine u_are_alikeN ?_ ?_ ?_ ?_ ?_ ?_); (focus (first | assumption | omega | decide | (simp; done) | (simp; omega))); (focus (first | assumption | omega | decide | (simp; done) | (simp; omega))); (focus (first | assumption | omega | decide | (simp; done) | (simp; omega))); (focus (first | assumption | omega | decide | (simp; done) | (simp; omega))); (focus (first | assumption | omega | decide | (simp; done) | (simp; omega))))
  | ((with_reducible refine u_are_alike ?_ ?_ ?_ ?_ ?_ ?_ ?_); (focus (first | assumption | omega | decide | (simp; done) | (simp; omega))); (focus (first | assumption | omega | decide | (simp; done) | (simp; omega))); (focus (first | assumption | omega | decide | (simp; done) | (simp; omega))); (focus (first | assumption | omega | decide | (simp; done) | (simp; omega))); (focus (first | assumption | omega | decide | (simp; done) | (simp; omega))); (focus (first | assumption | omega | decide | (simp; done) | (simp; omega))))
  | ((with_reducible refine u_wAlikeN ?_ ?_ ?_ ?_); (focus (first | assumption | omega | decide | (simp; done) | (simp; omega))); (focus (first | assumption | omega | decide | (simp; done) | (simp; omega))); (focus (first | assumption | omega | decide | (simp; done) | (simp; omega))))
  | ((with_reducible refine u_wAlike ?_ ?_ ?_ ?_ ?_); (focus (first | assumption | omega | decide | (simp; done) | (simp; omega))); (focus (first | assumption | omega | decide | (simp; done) | (simp; omega))); (focus (first | assumption | omega | decide | (simp; done) | (simp; omega))); (focus (first | assumption | omega | decide | (simp; done) | (simp; omega))))
  | ((with_reducible refine u_answers ?_ ?_ ?_ ?_ ?_ ?_ ?_ ?_ ?_); (focus (first | assumption | omega | decide | (simp; done) | (simp; omega))); (focus (first | assumption | omega | decide | (simp; done) | (simp; omega))); (focus (first | assumption | omega | decide | (simp; done) | (simp; omega))); (focus (first | assumption | omega | decide | (simp; done) | (simp; omega))); (focus (first | assumption | omega | decide | (simp; done) | (simp; omega))); (focus (first | assumption | omega | decide | (simp; done) | (simp; omega))); (focus (first | assumption | omega | decide | (simp; done) | (simp; omega))); (focus (first | assumption | omega | decide | (simp; done) | (simp; omega))))
  | ((with_reducible refine u_winN ?_ ?_ ?_ ?_ ?_ ?_); (focus (first | assumption | omega | decide | (simp; done) | (simp; omega))); (focus (first | assumption | omega | decide | (simp; done) | (simp; omega))); (focus (first | assumption | omega | decide | (simp; done) | (simp; omega))); (focus (first | assumption | omega | decide | (simp; done) | (simp; omega))); (focus (first | assumption | omega | decide | (simp; done) | (simp; omega))))
  | ((with_reducible refine u_win ?_ ?_ ?_ ?_ ?_ ?_ ?_); (focus (first | assumption | omega | decide | (simp; done) | (simp; omega))); (focus (first | assumption | omega | decide | (simp; done) | (simp; omega))); (focus (first | assumption | omega | decide | (simp; done) | (simp; omega))); (focus (first | assumption | omega | decide | (simp; done) | (simp; omega))); (focus (first | assumption | omega | decide | (simp; done) | (simp; omega))); (focus (first | assumption | omega | decide | (simp; done) | (simp; omega))))
  | ((with_reducible refine u_un ?_ ?_ ?_ ?_ ?_); (focus (first | assumption | omega | decide | (simp; done) | (simp; omega))); (focus (first | assumption | omega | decide | (simp; done) | (simp; omega))); (focus (first | assumption | omega | decide | (simp; done) | (simp; omega))); (focus (first | assumption | omega | decide | (simp; done) | (simp; omega))))
  | ((with_reducible refine u_draw ?_ ?_ ?_ ?_); (focus (first | assumption | omega | decide | (simp; done) | (simp; omega))); (focus (first | assumption | omega | decide | (simp; done) | (simp; omega))); (focus (first | assumption | omega | decide | (simp; done) | (simp; omega))))
  | ((with_reducible refine u_pair ?_ ?_ ?_ ?_); (focus (first | assumption | omega | decide | (simp; done) | (simp; omega))); (focus (first | assumption | omega | decide | (simp; done) | (simp; omega))); (focus (first | assumption | omega | decide | (simp; done) | (simp; omega))))
  | ((with_reducible refine u_inStep ?_ ?_); (focus (first | assumption | omega | decide | (simp; done) | (simp; omega))))
  | ((with_reducible refine u_lasts ?_ ?_ ?_ ?_ ?_ ?_); (focus (first | assumption | omega | decide | (simp; done) | (simp; omega))); (focus (first | assumption | omega | decide | (simp; done) | (simp; omega))); (focus (first | assumption | omega | decide | (simp; done) | (simp; omega))); (focus (first | assumption | omega | decide | (simp; done) | (simp; omega))); (focus (first | assumption | omega | decide | (simp; done) | (simp; omega))))
  | ((with_reducible apply u_qry); (focus (first | assumption | omega | decide | (simp; done) | (simp; omega))); (focus (first | assumption | omega | decide | (simp; done) | (simp; omega))); (focus (first | assumption | omega | decide | (simp; done) | (simp; omega))); (focus (first | assumption | omega | decide | (simp; done) | (simp; omega))); (focus (first | assumption | omega | decide | (simp; done) | (simp; omega))); (focus (first | assumption | omega | decide | (simp; done) | (simp; omega))); (focus (first | assumption | omega | decide | (simp; done) | (simp; omega))))
  | ((with_reducible apply u_steep); (focus (first | assumption | omega | decide | (simp; done) | (simp; omega))); (focus (first | assumption | omega | decide | (simp; done) | (simp; omega))); (focus (first | assumption | omega | decide | (simp; done) | (simp; omega))); (focus (first | assumption | omega | decide | (simp; done) | (simp; omega))); (focus (first | assumption | omega | decide | (simp; done) | (simp; omega))))
  | ((with_reducible apply u_anyq); (focus (first | assumption | omega | decide | (simp; done) | (simp; omega))); (focus (first | assumption | omega | decide | (simp; done) | (simp; omega))); (focus (first | assumption | omega | decide | (simp; done) | (simp; omega))); (focus (first | assumption | omega | decide | (simp; done) | (simp; omega))))
  | ((with_reducible refine u_lets ?_ ?_ ?_); (focus (first | assumption | omega | decide | (simp; done) | (simp; omega))); (focus (first | assumption | omega | decide | (simp; done) | (simp; omega))))
  | ((with_reducible refine u_letsH ?_ ?_ ?_); (focus (first | assumption | omega | decide | (simp; done) | (simp; omega))); (focus (first | assumption | omega | decide | (simp; done) | (simp; omega))))
  | ((with_reducible refine u_islet ?_ ?_); (focus (first | assumption | omega | decide | (simp; done) | (simp; omega))))
  | ((with_reducible refine u_inner ?_))
  | ((with_reducible refine u_isq ?_ ?_ ?_ ?_); (focus (first | assumption | omega | decide | (simp; done) | (simp; omega))); (focus (first | assumption | omega | decide | (simp; done) | (simp; omega))); (focus (first | assumption | omega | decide | (simp; done) | (simp; omega))))
  | ((with_reducible refine u_isqH ?_ ?_ ?_ ?_); (focus (first | assumption | omega | decide | (simp; done) | (simp; omega))); (focus (first | assumption | omega | decide | (simp; done) | (simp; omega))); (focus (first | assumption | omega | decide | (simp; done) | (simp; omega))))
  | ((with_reducible refine u_chq ?_ ?_ ?_); (focus (first | assumption | omega | decide | (simp; done) | (simp; omega))); (focus (first | assumption | omega | decide | (simp; done) | (simp; omega))))
  | ((with_reducible refine u_chqH ?_ ?_ ?_); (focus (first | assumption | omega | decide | (simp; done) | (simp; omega))); (focus (first | assumption | omega | decide | (simp; done) | (simp; omega))))
  | ((with_reducible refine u_add ?_ ?_ ?_); (focus (first | assumption | omega | decide | (simp; done) | (simp; omega))); (focus (first | assumption | omega | decide | (simp; done) | (simp; omega))))
  | ((with_reducible refine u_addH ?_ ?_ ?_); (focus (first | assumption | omega | decide | (simp; done) | (simp; omega))); (focus (first | assumption | omega | decide | (simp; done) | (simp; omega))))
  | ((with_reducible apply u_isletA); (focus (first | assumption | omega | decide | (simp; done) | (simp; omega))); (focus (first | assumption | omega | decide | (simp; done) | (simp; omega))); (focus (first | assumption | omega | decide | (simp; done) | (simp; omega))); (focus (first | assumption | omega | decide | (simp; done) | (simp; omega))); (focus (first | assumption | omega | decide | (simp; done) | (simp; omega))))
  | ((with_reducible apply u_metA); (focus (first | assumption | omega | decide | (simp; done) | (simp; omega))); (focus (first | assumption | omega | decide | (simp; done) | (simp; omega))); (focus (first | assumption | omega | decide | (simp; done) | (simp; omega))); (focus (first | assumption | omega | decide | (simp; done) | (simp; omega))); (focus (first | assumption | omega | decide | (simp; done) | (simp; omega))); (focus (first | assumption | omega | decide | (simp; done) | (simp; omega))))
  | ((with_reducible refine u_lets1 ?_ ?_ ?_); (focus (first | assumption | omega | decide | (simp; done) | (simp; omega))); (focus (first | assumption | omega | decide | (simp; done) | (simp; omega))))
  | ((with_reducible refine u_lets1H ?_ ?_ ?_ ?_); (focus (first | assumption | omega | decide | (simp; done) | (simp; omega))); (focus (first | assumption | omega | decide | (simp; done) | (simp; omega))); (focus (first | assumption | omega | decide | (simp; done) | (simp; omega))))
  | ((with_reducible refine u_letsPH ?_ ?_ ?_ ?_ ?_ ?_); (focus (first | assumption | omega | decide | (simp; done) | (simp; omega))); (focus (first | assumption | omega | decide | (simp; done) | (simp; omega))); (focus (first | assumption | omega | decide | (simp; done) | (simp; omega))); (focus (first | assumption | omega | decide | (simp; done) | (simp; omega))); (focus (first | assumption | omega | decide | (simp; done) | (simp; omega))))
  | ((with_reducible refine u_letsPa ?_ ?_ ?_); (focus (first | assumption | omega | decide | (simp; done) | (simp; omega))); (focus (first | assumption | omega | decide | (simp; done) | (simp; omega))))
  | ((with_reducible refine u_letsPn ?_ ?_ ?_ ?_ ?_); (focus (first | assumption | omega | decide | (simp; done) | (simp; omega))); (focus (first | assumption | omega | decide | (simp; done) | (simp; omega))); (focus (first | assumption | omega | decide | (simp; done) | (simp; omega))); (focus (first | assumption | omega | decide | (simp; done) | (simp; omega))))
  | ((with_reducible refine u_letsPb ?_ ?_ ?_ ?_ ?_ ?_); (focus (first | assumption | omega | decide | (simp; done) | (simp; omega))); (focus (first | assumption | omega | decide | (simp; done) | (simp; omega))); (focus (first | assumption | omega | decide | (simp; done) | (simp; omega))); (focus (first | assumption | omega | decide | (simp; done) | (simp; omega))); (focus (first | assumption | omega | decide | (simp; done) | (simp; omega))))
  | ((with_reducible refine u_letsPs ?_ ?_ ?_ ?_ ?_ ?_ ?_); (focus (first | assumption | omega | decide | (simp; done) | (simp; omega))); (focus (first | assumption | omega | decide | (simp; done) | (simp; omega))); (focus (first | assumption | omega | decide | (simp; done) | (simp; omega))); (focus (first | assumption | omega | decide | (simp; done) | (simp; omega))); (focus (first | assumption | omega | decide | (simp; done) | (simp; omega))); (focus (first | assumption | omega | decide | (simp; done) | (simp; omega))))
  | ((with_reducible refine u_letsS ?_ ?_ ?_); (focus (first | assumption | omega | decide | (simp; done) | (simp; omega))); (focus (first | assumption | omega | decide | (simp; done) | (simp; omega))))
  | ((with_reducible refine u_letsP ?_ ?_ ?_ ?_ ?_); (focus (first | assumption | omega | decide | (simp; done) | (simp; omega))); (focus (first | assumption | omega | decide | (simp; done) | (simp; omega))); (focus (first | assumption | omega | decide | (simp; done) | (simp; omega))); (focus (first | assumption | omega | decide | (simp; done) | (simp; omega))))
  | ((with_reducible apply u_line); (focus (first | assumption | omega | decide | (simp; done) | (simp; omega))); (focus (first | assumption | omega | decide | (simp; done) | (simp; omega))); (focus (first | assumption | omega | decide | (simp; done) | (simp; omega))))
  | ((with_reducible refine u_turnA ?_ ?_); (focus (first | assumption | omega | decide | (simp; done) | (simp; omega))))
  | ((with_reducible refine u_turnAH ?_ ?_); (focus (first | assumption | omega | decide | (simp; done) | (simp; omega))))
  | ((with_reducible refine u_turnQ ?_ ?_ ?_); (focus (first | assumption | omega | decide | (simp; done) | (simp; omega))); (focus (first | assumption | omega | decide | (simp; done) | (simp; omega))))
  | ((with_reducible refine u_turnQH ?_ ?_ ?_); (focus (first | assumption | omega | decide | (simp; done) | (simp; omega))); (focus (first | assumption | omega | decide | (simp; done) | (simp; omega))))
  | ((with_reducible refine u_turnQS ?_ ?_ ?_ ?_ ?_); (focus (first | assumption | omega | decide | (simp; done) | (simp; omega))); (focus (first | assumption | omega | decide | (simp; done) | (simp; omega))); (focus (first | assumption | omega | decide | (simp; done) | (simp; omega))); (focus (first | assumption | omega | decide | (simp; done) | (simp; omega))))
  | ((with_reducible refine u_places ?_ ?_ ?_ ?_ ?_); (focus (first | assumption | omega | decide | (simp; done) | (simp; omega))); (focus (first | assumption | omega | decide | (simp; done) | (simp; omega))); (focus (first | assumption | omega | decide | (simp; done) | (simp; omega))); (focus (first | assumption | omega | decide | (simp; done) | (simp; omega))))
  | ((with_reducible refine u_placesS ?_ ?_ ?_ ?_ ?_ ?_ ?_); (focus (first | assumption | omega | decide | (simp; done) | (simp; omega))); (focus (first | assumption | omega | decide | (simp; done) | (simp; omega))); (focus (first | assumption | omega | decide | (simp; done) | (simp; omega))); (focus (first | assumption | omega | decide | (simp; done) | (simp; omega))); (focus (first | assumption | omega | decide | (simp; done) | (simp; omega))); (focus (first | assumption | omega | decide | (simp; done) | (simp; omega))))
  | ((with_reducible refine u_parting ?_ ?_ ?_ ?_ ?_); (focus (first | assumption | omega | decide | (simp; done) | (simp; omega))); (focus (first | assumption | omega | decide | (simp; done) | (simp; omega))); (focus (first | assumption | omega | decide | (simp; done) | (simp; omega))); (focus (first | assumption | omega | decide | (simp; done) | (simp; omega))))
  | ((with_reducible refine u_pat ?_))
  | ((with_reducible refine u_bare ?_))
  | ((with_reducible refine u_has ?_ ?_ ?_); (focus (first | assumption | omega | decide | (simp; done) | (simp; omega))); (focus (first | assumption | omega | decide | (simp; done) | (simp; omega))))
  | ((with_reducible refine u_allOf ?_ ?_ ?_ ?_); (focus (first | assumption | omega | decide | (simp; done) | (simp; omega))); (focus (first | assumption | omega | decide | (simp; done) | (simp; omega))); (focus (first | assumption | omega | decide | (simp; done) | (simp; omega))))
  | ((with_reducible apply u_leastOf); (focus (first | assumption | omega | decide | (simp; done) | (simp; omega))); (focus (first | assumption | omega | decide | (simp; done) | (simp; omega))); (focus (first | assumption | omega | decide | (simp; done) | (simp; omega))); (focus (first | assumption | omega | decide | (simp; done) | (simp; omega))); (focus (first | assumption | omega | decide | (simp; done) | (simp; omega))))
  | ((with_reducible refine u_depIn ?_ ?_); (focus (first | assumption | omega | decide | (simp; done) | (simp; omega))))
  | ((with_reducible refine u_depOf ?_ ?_ ?_); (focus (first | assumption | omega | decide | (simp; done) | (simp; omega))); (focus (first | assumption | omega | decide | (simp; done) | (simp; omega))))
  | ((with_reducible refine u_depOfH ?_ ?_ ?_); (focus (first | assumption | omega | decide | (simp; done) | (simp; omega))); (focus (first | assumption | omega | decide | (simp; done) | (simp; omega))))
  | ((with_reducible refine u_sameMany ?_ ?_ ?_ ?_ ?_); (focus (first | assumption | omega | decide | (simp; done) | (simp; omega))); (focus (first | assumption | omega | decide | (simp; done) | (simp; omega))); (focus (first | assumption | omega | decide | (simp; done) | (simp; omega))); (focus (first | assumption | omega | decide | (simp; done) | (simp; omega))))
  | ((with_reducible refine u_settledN ?_ ?_ ?_ ?_); (focus (first | assumption | omega | decide | (simp; done) | (simp; omega))); (focus (first | assumption | omega | decide | (simp; done) | (simp; omega))); (focus (first | assumption | omega | decide | (simp; done) | (simp; omega))))
  | ((with_reducible refine u_isBlk ?_))
  | ((with_reducible refine u_depB ?_ ?_ ?_ ?_); (focus (first | assumption | omega | decide | (simp; done) | (simp; omega))); (focus (first | assumption | omega | decide | (simp; done) | (simp; omega))); (focus (first | assumption | omega | decide | (simp; done) | (simp; omega))))
  | ((with_reducible refine u_ct ?_ ?_ ?_ ?_); (focus (first | assumption | omega | decide | (simp; done) | (simp; omega))); (focus (first | assumption | omega | decide | (simp; done) | (simp; omega))); (focus (first | assumption | omega | decide | (simp; done) | (simp; omega))))
  | ((with_reducible refine u_cb ?_ ?_ ?_ ?_); (focus (first | assumption | omega | decide | (simp; done) | (simp; omega))); (focus (first | assumption | omega | decide | (simp; done) | (simp; omega))); (focus (first | assumption | omega | decide | (simp; done) | (simp; omega))))
  | ((with_reducible refine u_known ?_ ?_ ?_); (focus (first | assumption | omega | decide | (simp; done) | (simp; omega))); (focus (first | assumption | omega | decide | (simp; done) | (simp; omega))))
  | ((with_reducible refine u_letters ?_ ?_ ?_ ?_); (focus (first | assumption | omega | decide | (simp; done) | (simp; omega))); (focus (first | assumption | omega | decide | (simp; done) | (simp; omega))); (focus (first | assumption | omega | decide | (simp; done) | (simp; omega))))
  | ((with_reducible refine u_lawLet ?_ ?_ ?_); (focus (first | assumption | omega | decide | (simp; done) | (simp; omega))); (focus (first | assumption | omega | decide | (simp; done) | (simp; omega))))
  | with_reducible refine dun_neg ?_
  | with_reducible refine tgA2 ?_
  | with_reducible refine tgA3 ?_
  | with_reducible refine tgEx2 ?_
  | with_reducible refine tgEx3 ?_
  | with_reducible refine tgEx4 ?_
  | with_reducible refine tgT2 ?_
  | with_reducible refine tgT3 ?_
  | with_reducible refine tgL2 ?_
  | with_reducible refine tgT4 ?_
  | refine ⟨_, (Or.inl rfl : DL.D.lst _ = DL.D.lst _ ∨ _), ?_⟩
  | refine ⟨_, (Or.inr rfl : _ ∨ DL.D.tup _ = DL.D.tup _), ?_⟩
  | with_reducible refine xin_no ?_
  | with_reducible refine xr_no ?_
  | refine ⟨(rfl : DL.D.ref _ = DL.D.ref _), ?_⟩
  | refine ⟨(rfl : DL.D.ty _ = Option.some _), ?_⟩
  | refine ⟨Qn.ty _, ?_⟩
  | refine ⟨(by simp : List.length _ ≤ 100000), ?_⟩
  | refine ⟨(by simp : List.length _ = _), ?_⟩
  | with_reducible refine wo_none ?_
  | with_reducible refine wo_some ?_
  | refine ⟨_, rfl, ?_⟩))
local macro_rules | `(tactic| walk_at "side") => `(tactic| first | assumption | omega | decide | (simp; done) | (simp; omega))
abbrev s_law_letters : Stmt := topS 23
theorem sc_law_letters : FnScope ["query", "found", "inner_here"] ["query"] (defScope s_law_letters) := ⟨rfl, rfl, rfl, by decide +kernel, rfl, by decide +kernel, by decide +kernel⟩
theorem ok_law_letters {f  : Addr} {fd  : FuncData} {D k : Nat} (T : Txt K mg) (F : Fun K "_law_letters" "_law_letters" s_law_letters f fd) (hk : 3 ≤ k) (C_law_letters : Callee P w K mg base CX0 "_law_letters" ["query"] k (PureSp K (lawLetRS D)) f fd) : FnOk P w K mg base CX0 (k + 1) f fd ["query"] (PureSp K (lawLetRS (D + 1))) := by
  refine ok_pure (lawLetRS (D + 1)) F sc_law_letters (fun ds P X h => by revert h; walk_at "hl") fun cdv A outer s H E hr => ⟨_, (pss_cons (asF (ps_set (i := 1) sc_law_letters.nd rfl (Or.inl rfl) (pe_ifExp (pt_cmpR (op_eqK (K := K) rfl hr.units) (pe_ix (ix_K (K := K) rfl) (pv 0) pe_int (fun _ _ => rfl)) pe_str (nomark _)) (pe_lst (pa_cons (pe_ix (ix_K (K := K) rfl) (pv 0) pe_int (fun _ _ => rfl)) pa_nil)) (pe_lst pa_nil)))) (pss_cons (ps_for PassesOwn.never rfl (pi_anyK (K := K) rfl (pe_slice (sl_K (K := K) rfl) (pv 0) (po_some pe_int) po_none)) (pg_name (i := 2) sc_law_letters.nd rfl (by first | exact Or.inl rfl | exact Or.inr rfl)) (pss_one (ps_if (pt_val (pe_callB (call_isiK (K := K) rfl) (by rfl) T.n_isinstance (by decide +kernel) (pa_cons (pv 2) (pa_cons (pe_bltn (v := .ty "tuple") (u := .type "tuple") (by rfl) T.n_tuple (by decide +kernel) rfl) pa_nil)))) (pss_one (asF (ps_set (i := 1) sc_law_letters.nd rfl (Or.inl rfl) (pe_op (op_addK (K := K) rfl) (pv 1) (pe_call C_law_letters.ok (hr.mono (by first | decide | omega)) (by rfl) C_law_letters.mg C_law_letters.kp C_law_letters.bd .nil (C_law_letters.ps _ rfl rfl) (pa_cons (pv 2) pa_nil)))))) pss_nil))) (pss_one (ps_ret (pv 1))))), fun ds Q XP h H0 okX => ?_⟩
  obtain ⟨sz, hsz, q, rfl, hq, hs, k⟩ := h
  /- 0:query 1:found 2:inner_here -/
  change DL.WS _ _ [.dat _, .un, .un] _ _
  refine ws_seq (ws_join (fun (_ : Unit) Gn (_ : Unit) => Gn = [.dat q.D, .dat (.lst (q.ownS.map DL.D.str)), .un]) ?_ ?_)
  · cases q with
    | any =>
      walk_at "v"
      exact ⟨(), rfl⟩
    | neg q =>
      walk_at "v"
      exact ⟨(), rfl⟩
    | both p q =>
      walk_at "v"
      exact ⟨(), rfl⟩
    | some p a q =>
      walk_at "v"
      exact ⟨(), rfl⟩
  · intro _ Gn _ hG
    subst hG
    refine ws_seq (ws_forG [2] (fun (acc : List Str) => [.dat q.D, .dat (.lst (acc.map DL.D.str)), .un]) q.ownS rfl (wi_t ?_))
    walk_at "e"
    obtain ⟨kd, hpt⟩ := q.parts_things
    rw [hpt, show List.drop 1 (DL.D.str kd :: q.things.map Qn.thD) = q.things.map Qn.thD from rfl]
    refine ⟨fun (t : Nat) (acc : List Str) (_ : Unit) => acc = q.ownS ++ (q.things.take t).flatMap Qn.thK, by simp, rfl, fun t dd acc _ hdd hI => ?_, fun Gn acc _ hG hI => ?_⟩
    · obtain ⟨x, hx, rfl⟩ := map_get hdd
      have hal : acc.length ≤ 10000 := by
        have h4 := q.knownS_len
        rw [q.knownS_things, ← List.take_append_drop t q.things, List.flatMap_append, List.length_append, List.length_append] at h4
        rw [hI, List.length_append]
        omega
      refine ⟨[2], _, tg_name (by simp), ?_⟩
      have fin : acc ++ Qn.thK x = q.ownS ++ (q.things.take (t + 1)).flatMap Qn.thK := by
        rw [Qn.things_snoc hx, List.flatMap_append, hI]
        simp
      clear hdd
      cases x with
      | inl r =>
        have hk := Qn.thing_kid (List.mem_of_getElem? hx)
        have h1 := Qn.kid_ht hk
        have h2 := Qn.kid_sz hk
        have h3 := r.knownS_len
        walk_at "v"
        show lawLetRS D [r.D] _ _
        refine u_lawLet (by omega) (by omega) (fz_dat ?_)
        refine da_lst (by rw [List.length_map, List.length_map]; omega) (fz_own ?_)
        refine ⟨acc ++ r.knownS, ?_, fin⟩
        rw [List.map_append]
        rfl
      | inr b =>
        refine ws_if (wt_B (we_isiF kit_str_tup (we_var rfl (fz_dat ⟨rfl, fz_dat ⟨false, rfl, iteF ?_⟩⟩))))
        refine ws_next ⟨acc, rfl, ?_⟩
        show acc = _
        rw [← fin]
        exact (List.append_nil _).symm
    · refine ws_un [2] ?_
      rw [hG]
      rw [List.length_map] at hI
      rw [List.take_length, ← q.knownS_things] at hI
      subst hI
      walk_at "v"
      exact k
theorem all_law_letters {f  : Addr} {fd  : FuncData} (T : Txt K mg) (F : Fun K "_law_letters" "_law_letters" s_law_letters f fd)  (hm : mg "_law_letters" = some (.ref f)) (kp : PySem.W.keepIn K (.ref f) = true) (bd : Binds K fd ["query"] []) : ∀ D : Nat, Callee P w K mg base CX0 "_law_letters" ["query"] (3 + D) (PureSp K (lawLetRS D)) f fd
  | 0 => mkC (FnOk_none fun vs H Q E h => by revert h; walk_at "rec0") hm kp bd
  | D + 1 => mkC (ok_law_letters T F (Nat.le_add_right _ _) (all_law_letters T F hm kp bd D)) hm kp bd
abbrev s_law_about : Stmt := topS 24
theorem sc_law_about : FnScope ["query", "inner_here"] ["query"] (defScope s_law_about) := ⟨rfl, rfl, rfl, by decide +kernel, rfl, by decide +kernel, by decide +kernel⟩
theorem ok_law_about {f  : Addr} {fd  : FuncData} {D k : Nat} (T : Txt K mg) (F : Fun K "_law_about" "_law_about" s_law_about f fd) (hk : 1 ≤ k) (C_law_about : Callee P w K mg base CX0 "_law_about" ["query"] k (PureSp K (turnAS D)) f fd) : FnOk P w K mg base CX0 (k + 1) f fd ["query"] (PureSp K (turnAS (D + 1))) := by
  refine ok_pure (turnAS (D + 1)) F sc_law_about (fun ds P X h => by revert h; walk_at "hl") fun cdv A outer s H E hr => ⟨_, (pss_cons (ps_if (pt_cmpR (op_eqK (K := K) rfl hr.units) (pe_ix (ix_K (K := K) rfl) (pv 0) pe_int (fun _ _ => rfl)) pe_str (nomark _)) (pss_one (ps_ret (pe_tup (pa_cons pe_str (pa_cons (pe_call C_law_about.ok (hr.mono (by first | decide | omega)) (by rfl) C_law_about.mg C_law_about.kp C_law_about.bd .nil (C_law_about.ps _ rfl rfl) (pa_cons (pe_ix (ix_K (K := K) rfl) (pv 0) pe_int (fun _ _ => rfl)) pa_nil)) (pa_cons (pe_ix (ix_K (K := K) rfl) (pv 0) pe_int (fun _ _ => rfl)) (pa_cons (pe_call C_law_about.ok (hr.mono (by first | decide | omega)) (by rfl) C_law_about.mg C_law_about.kp C_law_about.bd .nil (C_law_about.ps _ rfl rfl) (pa_cons (pe_ix (ix_K (K := K) rfl) (pv 0) pe_int (fun _ _ => rfl)) pa_nil)) pa_nil))))))) pss_nil) (pss_one (ps_ret (pe_callTy (call_tupleK (K := K) rfl) (by rfl) T.n_tuple (by decide +kernel) (pa_cons (pe_op (op_addK (K := K) rfl) (pe_lst (pa_cons (pe_ix (ix_K (K := K) rfl) (pv 0) pe_int (fun _ _ => rfl)) pa_nil)) (pe_lc (own := [("inner_here", 1)]) rfl sc_law_about.nd (pi_anyK (K := K) rfl (pe_slice (sl_K (K := K) rfl) (pv 0) (po_some pe_int) po_none)) (blkOk_by (own := [("inner_here", 1)]) (N := ["query", "inner_here"]) (sc := defScope s_law_about) (by decide +kernel)) (fun _ _ _ _ _ => (pg_name (i := 1) sc_law_about.nd rfl (by first | exact Or.inl rfl | exact Or.inr rfl))) (fun _ _ _ _ _ => pts_nil) (fun _ _ _ _ _ => (pe_call C_law_about.ok (hr.mono (by first | decide | omega)) (by rfl) C_law_about.mg C_law_about.kp C_law_about.bd .nil (C_law_about.ps _ rfl rfl) (pa_cons (pv 1) pa_nil))))) pa_nil))))), fun ds Q XP h H0 okX => ?_⟩
  obtain ⟨sz, hsz, q, rfl, hq, k⟩ := h
  /- 0:query 1:inner_here -/
  change DL.WS _ _ [.dat _, .un] _ _
  cases q with
  | any =>
    walk_at "v"
    refine we_lcM ([] : List Qn) Qn.D Qn.D rfl (by simp) (wi_t ?_)
    walk_at "v"
    refine ⟨rfl, by simp, fun i x hx => by simp at hx, ?_⟩
    walk_at "v"
    refine da_lst (by simp) ?_
    walk_at "v"
    refine db_tuple ?_
    exact k
  | neg q =>
    have hq : q.ht + 1 = sz := hq
    walk_at "v"
    refine we_lcM [q] Qn.D (fun x => x.turn.D) rfl (by simp) (wi_t ?_)
    walk_at "v"
    refine ⟨rfl, by simp, fun i x hx => ?_, ?_⟩
    · have hx : x = q := by
        have := List.mem_of_getElem? hx
        simpa using this
      subst hx
      walk_at "v"
      exact ⟨rfl, rfl⟩
    · walk_at "v"
      refine da_lst (by simp) ?_
      walk_at "v"
      refine db_tuple ?_
      exact k
  | both p q =>
    have hq : max p.ht q.ht + 1 = sz := hq
    walk_at "v"
    refine we_lcM [p, q] Qn.D (fun x => x.turn.D) rfl (by simp) (wi_t ?_)
    walk_at "v"
    refine ⟨rfl, by simp, fun i x hx => ?_, ?_⟩
    · have hx : x.ht ≤ max p.ht q.ht := by
        have := List.mem_of_getElem? hx
        simp at this
        rcases this with rfl | rfl <;> omega
      walk_at "v"
      exact ⟨rfl, rfl⟩
    · walk_at "v"
      refine da_lst (by simp) ?_
      walk_at "v"
      refine db_tuple ?_
      exact k
  | some p a q =>
    have hq : max p.ht q.ht + 1 = sz := hq
    walk_at "v"
    exact k
theorem all_law_about {f  : Addr} {fd  : FuncData} (T : Txt K mg) (F : Fun K "_law_about" "_law_about" s_law_about f fd)  (hm : mg "_law_about" = some (.ref f)) (kp : PySem.W.keepIn K (.ref f) = true) (bd : Binds K fd ["query"] []) : ∀ D : Nat, Callee P w K mg base CX0 "_law_about" ["query"] (1 + D) (PureSp K (turnAS D)) f fd
  | 0 => mkC (FnOk_none fun vs H Q E h => by revert h; walk_at "rec0") hm kp bd
  | D + 1 => mkC (ok_law_about T F (Nat.le_add_right _ _) (all_law_about T F hm kp bd D)) hm kp bd
abbrev s_law_fits : Stmt := topS 25
theorem sc_law_fits : FnScope ["pool", "names", "query", "deep", "due", "found", "back"] ["pool"] (defScope s_law_fits) := ⟨rfl, rfl, rfl, by decide +kernel, rfl, by decide +kernel, by decide +kernel⟩
theorem ok_law_fits {f f_law_draw f_law_any_query f_law_deep f_law_letters f_depth_of f_letters_in f_turned_question f_law_about : Addr} {fd fd_law_draw fd_law_any_query fd_law_deep fd_law_letters fd_depth_of fd_letters_in fd_turned_question fd_law_about : FuncData} (T : Txt K mg) (F : Fun K "_law_fits" "_law_fits" s_law_fits f fd) (C_law_draw : Callee P w K mg base CX0 "_law_draw" ["pool", "span"] 1 (ResSp K poolRes drawS) f_law_draw fd_law_draw) (C_law_any_query : Callee P w K mg base CX0 "_law_any_query" ["pool", "names", "deep", "wide"] 75 (ResSp K poolRes anyqS) f_law_any_query fd_law_any_query) (C_law_deep : Callee P w K mg base CX0 "_law_deep" ["query"] 64 (PureSp K (depInS 61)) f_law_deep fd_law_deep) (C_law_letters : Callee P w K mg base CX0 "_law_letters" ["query"] 64 (PureSp K (lawLetRS 61)) f_law_letters fd_law_letters) (C_depth_of : Callee P w K mg base CX0 "depth_of" ["question"] 66 (PureSp K depOfS) f_depth_of fd_depth_of) (C_letters_in : Callee P w K mg base CX0 "letters_in" ["question"] 66 (PureSp K lettersQS) f_letters_in fd_letters_in) (C_turned_question : Callee P w K mg base CX0 "turned_question" ["question"] 66 (PureSp K turnQS) f_turned_question fd_turned_question) (C_law_about : Callee P w K mg base CX0 "_law_about" ["query"] 62 (PureSp K (turnAS 61)) f_law_about fd_law_about) (kb_depth_of_0 : KB fd_depth_of ["question"] ["question"] [0]) (kb_letters_in_0 : KB fd_letters_in ["question"] ["question"] [0]) (kb_turned_question_0 : KB fd_turned_question ["question"] ["question"] [0]) : FnG P w K mg base CX0 (76) f fd ["pool"] (ResSp K poolRes fitsS) := by
  refine ok_resG fitsS F sc_law_fits (fun p ds n P X h => by revert h; walk_at "hl") fun cdv A outer s H E hg hr => ⟨_, (pss_cons (asF (ps_set (i := 1) sc_law_fits.nd rfl (Or.inl rfl) (pe_ix (ix_K (K := K) rfl) (pe_lst (pa_cons pe_str (pa_cons pe_str (pa_cons pe_str (pa_cons pe_str pa_nil))))) (pe_call C_law_draw.ok (hr.mono (by first | decide | omega)) (by rfl) C_law_draw.mg C_law_draw.kp C_law_draw.bd .nil (C_law_draw.ps _ rfl rfl) (pa_cons (pv 0) (pa_cons pe_int pa_nil))) (fun _ _ => rfl)))) (pss_cons (asF (ps_set (i := 2) sc_law_fits.nd rfl (Or.inl rfl) (pe_call C_law_any_query.ok (hr.mono (by first | decide | omega)) (by rfl) C_law_any_query.mg C_law_any_query.kp C_law_any_query.bd .nil (C_law_any_query.ps _ rfl rfl) (pa_cons (pv 0) (pa_cons (pv 1) (pa_cons pe_int (pa_cons pe_int pa_nil))))))) (pss_cons (asPF (ps_par (i := 3) (j := 4) (by rfl) sc_law_fits.nd rfl rfl (by decide) rfl rfl (pa_cons (pe_call C_law_deep.ok (hr.mono (by first | decide | omega)) (by rfl) C_law_deep.mg C_law_deep.kp C_law_deep.bd .nil (C_law_deep.ps _ rfl rfl) (pa_cons (pv 2) pa_nil)) (pa_cons (pe_srtSet (K := K) rfl rfl (by rfl) T.n_sorted (by rfl) T.n_set (pe_call C_law_letters.ok (hr.mono (by first | decide | omega)) (by rfl) C_law_letters.mg C_law_letters.kp C_law_letters.bd .nil (C_law_letters.ps _ rfl rfl) (pa_cons (pv 2) pa_nil))) pa_nil)) (by rfl))) (pss_cons (ps_if (pt_cmpR (op_neK (K := K) rfl hr.units) (pe_callB (call_reprK (K := K) rfl hg hr.units) (by rfl) T.n_repr (by decide +kernel) (pa_cons (pe_lst (pa_cons (pe_call C_depth_of.ok (hr.mono (by first | decide | omega)) (by rfl) C_depth_of.mg C_depth_of.kp C_depth_of.bd .nil (C_depth_of.ps _ rfl rfl) (pa_cons (pv 2) pa_nil)) (pa_cons (pe_callN C_depth_of.ok (hr.mono (by first | decide | omega)) (by rfl) C_depth_of.mg C_depth_of.kp kb_depth_of_0 (C_depth_of.ps _ rfl rfl) (pk_cons (pv 2) pk_nil)) pa_nil))) pa_nil)) (pe_callB (call_reprK (K := K) rfl hg hr.units) (by rfl) T.n_repr (by decide +kernel) (pa_cons (pe_lst (pa_cons (pv 3) (pa_cons (pv 3) pa_nil))) pa_nil)) (nomark _)) (pss_one (ps_ret pe_bl)) pss_nil) (pss_cons (ps_set (i := 5) sc_law_fits.nd rfl (Or.inl rfl) (pe_call C_letters_in.ok (hr.mono (by first | decide | omega)) (by rfl) C_letters_in.mg C_letters_in.kp C_letters_in.bd .nil (C_letters_in.ps _ rfl rfl) (pa_cons (pv 2) pa_nil))) (pss_cons (ps_if (pt_cmpR (op_neK (K := K) rfl hr.units) (pe_callB (call_reprK (K := K) rfl hg hr.units) (by rfl) T.n_repr (by decide +kernel) (pa_cons (pe_lst (pa_cons (pv 5) (pa_cons (pe_callN C_letters_in.ok (hr.mono (by first | decide | omega)) (by rfl) C_letters_in.mg C_letters_in.kp kb_letters_in_0 (C_letters_in.ps _ rfl rfl) (pk_cons (pv 2) pk_nil)) pa_nil))) pa_nil)) (pe_callB (call_reprK (K := K) rfl hg hr.units) (by rfl) T.n_repr (by decide +kernel) (pa_cons (pe_lst (pa_cons (pv 4) (pa_cons (pv 4) pa_nil))) pa_nil)) (nomark _)) (pss_one (ps_ret pe_bl)) pss_nil) (pss_cons (ps_expr (pe_appK (K := K) rfl (pv 5) (pa_cons pe_str pa_nil))) (pss_cons (asF (ps_set (i := 6) sc_law_fits.nd rfl (Or.inl rfl) (pe_call C_turned_question.ok (hr.mono (by first | decide | omega)) (by rfl) C_turned_question.mg C_turned_question.kp C_turned_question.bd .nil (C_turned_question.ps _ rfl rfl) (pa_cons (pv 2) pa_nil)))) (pss_cons (ps_if (PW.pt (pw_or (pt_cmpR (op_neK (K := K) rfl hr.units) (pv 6) (pe_call C_law_about.ok (hr.mono (by first | decide | omega)) (by rfl) C_law_about.mg C_law_about.kp C_law_about.bd .nil (C_law_about.ps _ rfl rfl) (pa_cons (pv 2) pa_nil)) (nomark _)) (pw_or1 (pt_cmpR (op_neK (K := K) rfl hr.units) (pe_callN C_turned_question.ok (hr.mono (by first | decide | omega)) (by rfl) C_turned_question.mg C_turned_question.kp kb_turned_question_0 (C_turned_question.ps _ rfl rfl) (pk_cons (pv 6) pk_nil)) (pv 2) (nomark _))))) (pss_one (ps_ret pe_bl)) pss_nil) (pss_one (ps_ret (pe_and (pe_cmpR (op_eqK (K := K) rfl hr.units) (pe_call C_letters_in.ok (hr.mono (by first | decide | omega)) (by rfl) C_letters_in.mg C_letters_in.kp C_letters_in.bd .nil (C_letters_in.ps _ rfl rfl) (pa_cons (pv 2) pa_nil)) (pv 4) (nomark _)) (pe_and (pe_cmpR (op_eqK (K := K) rfl hr.units) (pe_call C_letters_in.ok (hr.mono (by first | decide | omega)) (by rfl) C_letters_in.mg C_letters_in.kp C_letters_in.bd .nil (C_letters_in.ps _ rfl rfl) (pa_cons (pv 6) pa_nil)) (pv 4) (nomark _)) (pe_one (pe_cmpR (op_eqK (K := K) rfl hr.units) (pe_call C_depth_of.ok (hr.mono (by first | decide | omega)) (by rfl) C_depth_of.mg C_depth_of.kp C_depth_of.bd .nil (C_depth_of.ps _ rfl rfl) (pa_cons (pv 6) pa_nil)) (pv 3) (nomark _)))))))))))))))), fun p ds (n : Nat) (Q : Sl → Nat → Prop) XP h H0 okX => ?_⟩
  obtain ⟨rfl, hn, k⟩ := h
  /- 0:pool 1:names 2:query 3:deep 4:due 5:found 6:back -/
  change DL.WS _ _ [.dat _, .un, .un, .un, .un, .un, .un] _ _
  walk_at "v"
  intro z hz
  obtain ⟨names, A, hat, hN, hA⟩ : ∃ (names : DL.D) (A : List Nat), atI [DL.D.str "ab", .str "a", .str "abcdefghijklmnopqrstuvwxyz", .str "xqz"] ((z : Nat) : Int) = some names ∧ DL.Names names A ∧ (∀ a ∈ A, a ∈ LET) := by
    rcases (by omega : z = 0 ∨ z = 1 ∨ z = 2 ∨ z = 3) with rfl | rfl | rfl | rfl
    · exact ⟨_, [97, 98], rfl, ⟨by simp, by decide, .inl rfl⟩, by decide +kernel⟩
    · exact ⟨_, [97], rfl, ⟨by simp, by decide, .inl rfl⟩, by decide +kernel⟩
    · exact ⟨_, LET, rfl, names_str "abcdefghijklmnopqrstuvwxyz" (by decide +kernel) (by decide +kernel), fun a h => h⟩
    · exact ⟨_, [120, 113, 122], rfl, ⟨by simp, by decide, .inl rfl⟩, by decide +kernel⟩
  refine fz_dat (di_lst hat ?_)
  walk_at "v"
  intro q n2 q1 q2 q3 q4
  have hqi := Qn.In.mono hA q1
  have hqs : q.size ≤ 60 := q3
  have hqh := q.ht_le
  walk_at "v"
  have hkl := q.knownS_len
  refine ⟨by omega, fun hU => ?_⟩
  have hU : UL q := hU
  have eL : uniqS q.knownS = letL q := rfl
  rw [eL]
  have fL := fine_letL hU hqi (by omega)
  have f2 := fine_two fL
  walk_at "v"
  intro _
  walk_at "v"
  intro _
  walk_at "v"
  refine ⟨f2.shows (by decide) (by decide), fz_dat ?_⟩
  walk_at "v"
  refine db_reprF f2 (by decide) (by decide) ?_
  have ti := Qn.turn_In hqi
  have th := q.turn_ht
  have ts := q.turn_size
  have tt := q.turn_turn
  have td := q.turn_depth
  have hll : ((letL q).map DL.D.str).length ≤ 1000000 := by
    have := letL_len hU
    omega
  walk_at "v"
  rw [tt]
  have hnb : D.nb (.lst ((letL q).map DL.D.str)) = true := nbs_str _
  walk_at "v"
  intro _
  walk_at "v"
  refine deq_Fi fL fL (by decide) (by decide) hnb hnb ?_
  rw [bB_true rfl]
  walk_at "v"
  intro hU2
  rw [letL_turn hU hU2]
  walk_at "v"
  refine deq_Fi fL fL (by decide) (by decide) hnb hnb ?_
  rw [bB_true rfl]
  walk_at "v"
  rw [td]
  walk_at "v"
  rw [decide_eq_true rfl]
  exact k _ (by omega)
abbrev s_law : Stmt := topS 26
theorem sc_law : FnScope ["script", "spot", "pool", "turn"] ["script"] (defScope s_law) := ⟨rfl, rfl, rfl, by decide +kernel, rfl, by decide +kernel, by decide +kernel⟩
theorem ok_law {f f_law_pool f_law_fits : Addr} {fd fd_law_pool fd_law_fits : FuncData} (T : Txt K mg) (F : Fun K "law" "law" s_law f fd) (C_law_pool : Callee P w K mg base CX0 "_law_pool" ["script", "spot"] 1 (spPool K) f_law_pool fd_law_pool) (C_law_fits : CalleeG P w K mg base CX0 "_law_fits" ["pool"] 76 (ResSp K poolRes fitsS) f_law_fits fd_law_fits) : FnG P w K mg base CX0 77 f fd ["script"] (spLaw K) := by
  refine okG F sc_law (fun vs H Q E h => ?_) (fun cdv A outer s H vs Q E hg hr h => ?_)
  · obtain ⟨a, ns, rfl, _⟩ := h
    rfl
  · refine ⟨_, (show PSs (cxOf CX0 P w K mg base _ "law" (defScope s_law) f cdv A outer s H E).nox (defBody s_law) _ from (pss_cons (ps_for PassesOwn.never rfl (pi_range1 (by rfl) T.n_range (pa_cons (pe_callB (call_max2 rfl) (by rfl) T.n_max (by decide +kernel) (pa_cons pe_int (pa_cons (pe_callB (call_min2 rfl) (by rfl) T.n_min (by decide +kernel) (pa_cons pe_int (pa_cons (pe_callB (call_lenK (K := K) rfl) (by rfl) T.n_len PySem.boot_len (pa_cons (pv 0) pa_nil)) pa_nil))) pa_nil))) pa_nil)) (pg_name (i := 1) sc_law.nd rfl (by first | exact Or.inl rfl | exact Or.inr rfl)) (pss_cons (ps_set (i := 2) sc_law.nd rfl (Or.inl rfl) (pe_call C_law_pool.ok (hr.mono (by first | decide | omega)) (by rfl) C_law_pool.mg C_law_pool.kp C_law_pool.bd .nil (C_law_pool.ps _ rfl rfl) (pa_cons (pv 0) (pa_cons (pv 1) pa_nil)))) (pss_one (ps_for PassesOwn.never rfl (pi_range1 (by rfl) T.n_range (pa_cons pe_int pa_nil)) (pg_name (i := 3) sc_law.nd rfl (by first | exact Or.inl rfl | exact Or.inr rfl)) (pss_one (ps_if (pt_not (pt_val (pe_callG C_law_fits.ok hg (hr.mono (by first | decide | omega)) (by rfl) C_law_fits.mg C_law_fits.kp C_law_fits.bd (C_law_fits.ps _ rfl rfl) (pa_cons (pv 2) pa_nil)))) (pss_one (ps_ret pe_bl)) pss_nil)))))) (pss_one (ps_ret pe_bl)))).nox, ?_⟩
    obtain ⟨a, ns, rfl, hS, hl, k⟩ := h
    refine law_run (K := K) (E := E) (fun okX => ?_) k
    change DL.WS _ _ [.dat (.ref a), .un, .un, .un] _ _
    refine ws_seq (ws_forN [1, 2, 3] rfl (wi_range1 ?_))
    refine wa_cons (we_cb (wa_cons (we_int (fz_dat (wa_cons (we_cb (wa_cons (we_int (fz_dat (wa_cons (we_lenScript rfl hS (fz_dat (wa_nil ?_)))))))))))))
    refine db_min (fz_dat (wa_nil (db_max (fz_dat (wa_nil ⟨_, rfl, ?_, ?_, fun _ _ => True, trivial, fun i d si hd _ => ?_, fun Gn sn hG _ => ?_⟩)))))
    · omega
    · omega
    · obtain ⟨hi, rfl⟩ := rangeD_get hd
      rw [Int.zero_add]
      refine ⟨[1], _, tg_name (by simp), ?_⟩
      refine ws_seq (ws_asg (we_pool (t := i) rfl rfl (by omega) hS fun x y x0 y0 y1 => ?_))
      refine ws_openPool (n := 1000000000) (i := 2) rfl x0 y0 y1 (by decide) (by decide) fun p hn => ?_
      refine ws_forN [3] rfl (wi_range1 ?_)
      refine wa_cons (we_int (fz_dat (wa_nil ⟨_, rfl, by decide, by decide, fun t (s : Unit × Nat) => 1000000000 ≤ s.2 + 1000000 * t, by show 1000000000 ≤ 1000000000 + 1000000 * 0; omega, fun t d (st : Unit × Nat) hd hI => ?_, fun Gn (sn : Unit × Nat) hG hI => ?_⟩)))
      · obtain ⟨ht, rfl⟩ := rangeD_get hd
        have ht2 : t < 5 := Nat.lt_of_lt_of_le ht (by decide)
        refine ⟨[3], _, tg_name (by simp), ?_⟩
        refine ws_if (wt_not (wt_B (we_callR onP ?_)))
        refine wa_cons (we_var rfl (fz_dat (wa_nil ⟨[], fun _ _ _ => False, rfl, .inl fun _ _ _ z => z, rfl, ?_, fun m0 hm0 => fz_dat ⟨true, rfl, ?_⟩⟩)))
        · show 1000000 ≤ st.2
          omega
        refine iteF ?_
        refine ws_next ⟨rfl, ?_⟩
        show 1000000000 ≤ m0 + 1000000 * (t + 1)
        omega
      · have hq : 1000000000 ≤ sn.2 + 1000000 * (rangeD 0 (Int.toNat 5)).length := hI
        rw [rangeD_len, show Int.toNat 5 = 5 from rfl] at hq
        refine ⟨?_, trivial⟩
        show unAll Gn [1, 2, 3] = _
        have e : unAll Gn [1, 2, 3] = unAll (unAll Gn [3]) [1, 2] := by unfold unAll; first | rfl | (simp [unAll, List.set_comm]; done)
        rw [e, hG]
        rfl
    · exact ws_ret (we_bl rfl)
end
theorem all_mk {l : PySem.W.OpenLaw} {w : World} {K : PySem.W.Frag} {h : Heap} {mg : Str → Option Value} {fa : Addr} (X : K.In h) (G : h.Ns mainGlobals mg) (hfa : mg "law" = some (.ref fa))
    {f_law_pool : Addr} {od_law_pool an_law_pool : Option Addr} {sl_law_pool : Array (Option Value)} {oc_law_pool kV_law_pool dc_law_pool pm_law_pool cd_law_pool ct_law_pool : Value}
    {f_law_draw : Addr} {od_law_draw an_law_draw : Option Addr} {sl_law_draw : Array (Option Value)} {oc_law_draw kV_law_draw dc_law_draw pm_law_draw cd_law_draw ct_law_draw : Value}
    {f_law_query : Addr} {od_law_query an_law_query : Option Addr} {sl_law_query : Array (Option Value)} {oc_law_query kV_law_query dc_law_query pm_law_query cd_law_query ct_law_query : Value}
    {f_law_steep : Addr} {od_law_steep an_law_steep : Option Addr} {sl_law_steep : Array (Option Value)} {oc_law_steep kV_law_steep dc_law_steep pm_law_steep cd_law_steep ct_law_steep : Value}
    {f_law_any_query : Addr} {od_law_any_query an_law_any_query : Option Addr} {sl_law_any_query : Array (Option Value)} {oc_law_any_query kV_law_any_query dc_law_any_query pm_law_any_query cd_law_any_query ct_law_any_query : Value}
    {f_law_deep : Addr} {od_law_deep an_law_deep : Option Addr} {sl_law_deep : Array (Option Value)} {oc_law_deep kV_law_deep dc_law_deep pm_law_deep cd_law_deep ct_law_deep : Value}
    {f_law_letters : Addr} {od_law_letters an_law_letters : Option Addr} {sl_law_letters : Array (Option Value)} {oc_law_letters kV_law_letters dc_law_letters pm_law_letters cd_law_letters ct_law_letters : Value}
    {f_is_letter : Addr} {od_is_letter an_is_letter : Option Addr} {sl_is_letter : Array (Option Value)} {oc_is_letter kV_is_letter dc_is_letter pm_is_letter cd_is_letter ct_is_letter : Value}
    {f_inner_of : Addr} {od_inner_of an_inner_of : Option Addr} {sl_inner_of : Array (Option Value)} {oc_inner_of kV_inner_of dc_inner_of pm_inner_of cd_inner_of ct_inner_of : Value}
    {f_is_question : Addr} {od_is_question an_is_question : Option Addr} {sl_is_question : Array (Option Value)} {oc_is_question kV_is_question dc_is_question pm_is_question cd_is_question ct_is_question : Value}
    {f_check_question : Addr} {od_check_question an_check_question : Option Addr} {sl_check_question : Array (Option Value)} {oc_check_question kV_check_question dc_check_question pm_check_question cd_check_question ct_check_question : Value}
    {f_depth_in : Addr} {od_depth_in an_depth_in : Option Addr} {sl_depth_in : Array (Option Value)} {oc_depth_in kV_depth_in dc_depth_in pm_depth_in cd_depth_in ct_depth_in : Value}
    {f_depth_of : Addr} {od_depth_of an_depth_of : Option Addr} {sl_depth_of : Array (Option Value)} {oc_depth_of kV_depth_of dc_depth_of pm_depth_of cd_depth_of ct_depth_of : Value}
    {f_known_letters : Addr} {od_known_letters an_known_letters : Option Addr} {sl_known_letters : Array (Option Value)} {oc_known_letters kV_known_letters dc_known_letters pm_known_letters cd_known_letters ct_known_letters : Value}
    {f_letters_in : Addr} {od_letters_in an_letters_in : Option Addr} {sl_letters_in : Array (Option Value)} {oc_letters_in kV_letters_in dc_letters_in pm_letters_in cd_letters_in ct_letters_in : Value}
    {f_turned_about : Addr} {od_turned_about an_turned_about : Option Addr} {sl_turned_about : Array (Option Value)} {oc_turned_about kV_turned_about dc_turned_about pm_turned_about cd_turned_about ct_turned_about : Value}
    {f_turned_question : Addr} {od_turned_question an_turned_question : Option Addr} {sl_turned_question : Array (Option Value)} {oc_turned_question kV_turned_question dc_turned_question pm_turned_question cd_turned_question ct_turned_question : Value}
    {f_law_about : Addr} {od_law_about an_law_about : Option Addr} {sl_law_about : Array (Option Value)} {oc_law_about kV_law_about dc_law_about pm_law_about cd_law_about ct_law_about : Value}
    {f_law_fits : Addr} {od_law_fits an_law_fits : Option Addr} {sl_law_fits : Array (Option Value)} {oc_law_fits kV_law_fits dc_law_fits pm_law_fits cd_law_fits ct_law_fits : Value}
    {f_law : Addr} {od_law an_law : Option Addr} {sl_law : Array (Option Value)} {oc_law kV_law dc_law pm_law cd_law ct_law : Value}
    {a_SIZES n_SIZES : Nat} {es_SIZES : Array DictEntry} {tk_SIZES_0 tk_SIZES_1 tk_SIZES_2 tk_SIZES_3 : Tok}
    {tk_LETTERS : Tok}
    (a_law_pool : PySem.W.nsIn K mainGlobals "_law_pool" = some (some (.ref f_law_pool)))
    (l_law_pool : K.lookup f_law_pool = some ⟨oc_law_pool, od_law_pool, .func (PySem.W.fnOf "_law_pool" "_law_pool" (defArgs s_law_pool) (defBody s_law_pool) (defScope s_law_pool) .none kV_law_pool dc_law_pool pm_law_pool an_law_pool cd_law_pool ct_law_pool), sl_law_pool⟩) (c_law_pool : PySem.W.codeIn K cd_law_pool "_law_pool" = true) (k_law_pool : PySem.W.keepIn K (.ref f_law_pool) = true)
    (a_law_draw : PySem.W.nsIn K mainGlobals "_law_draw" = some (some (.ref f_law_draw)))
    (l_law_draw : K.lookup f_law_draw = some ⟨oc_law_draw, od_law_draw, .func (PySem.W.fnOf "_law_draw" "_law_draw" (defArgs s_law_draw) (defBody s_law_draw) (defScope s_law_draw) .none kV_law_draw dc_law_draw pm_law_draw an_law_draw cd_law_draw ct_law_draw), sl_law_draw⟩) (c_law_draw : PySem.W.codeIn K cd_law_draw "_law_draw" = true) (k_law_draw : PySem.W.keepIn K (.ref f_law_draw) = true)
    (a_law_query : PySem.W.nsIn K mainGlobals "_law_query" = some (some (.ref f_law_query)))
    (l_law_query : K.lookup f_law_query = some ⟨oc_law_query, od_law_query, .func (PySem.W.fnOf "_law_query" "_law_query" (defArgs s_law_query) (defBody s_law_query) (defScope s_law_query) .none kV_law_query dc_law_query pm_law_query an_law_query cd_law_query ct_law_query), sl_law_query⟩) (c_law_query : PySem.W.codeIn K cd_law_query "_law_query" = true) (k_law_query : PySem.W.keepIn K (.ref f_law_query) = true)
    (a_law_steep : PySem.W.nsIn K mainGlobals "_law_steep" = some (some (.ref f_law_steep)))
    (l_law_steep : K.lookup f_law_steep = some ⟨oc_law_steep, od_law_steep, .func (PySem.W.fnOf "_law_steep" "_law_steep" (defArgs s_law_steep) (defBody s_law_steep) (defScope s_law_steep) .none kV_law_steep dc_law_steep pm_law_steep an_law_steep cd_law_steep ct_law_steep), sl_law_steep⟩) (c_law_steep : PySem.W.codeIn K cd_law_steep "_law_steep" = true) (k_law_steep : PySem.W.keepIn K (.ref f_law_steep) = true)
    (a_law_any_query : PySem.W.nsIn K mainGlobals "_law_any_query" = some (some (.ref f_law_any_query)))
    (l_law_any_query : K.lookup f_law_any_query = some ⟨oc_law_any_query, od_law_any_query, .func (PySem.W.fnOf "_law_any_query" "_law_any_query" (defArgs s_law_any_query) (defBody s_law_any_query) (defScope s_law_any_query) .none kV_law_any_query dc_law_any_query pm_law_any_query an_law_any_query cd_law_any_query ct_law_any_query), sl_law_any_query⟩) (c_law_any_query : PySem.W.codeIn K cd_law_any_query "_law_any_query" = true) (k_law_any_query : PySem.W.keepIn K (.ref f_law_any_query) = true)
    (a_law_deep : PySem.W.nsIn K mainGlobals "_law_deep" = some (some (.ref f_law_deep)))
    (l_law_deep : K.lookup f_law_deep = some ⟨oc_law_deep, od_law_deep, .func (PySem.W.fnOf "_law_deep" "_law_deep" (defArgs s_law_deep) (defBody s_law_deep) (defScope s_law_deep) .none kV_law_deep dc_law_deep pm_law_deep an_law_deep cd_law_deep ct_law_deep), sl_law_deep⟩) (c_law_deep : PySem.W.codeIn K cd_law_deep "_law_deep" = true) (k_law_deep : PySem.W.keepIn K (.ref f_law_deep) = true)
    (a_law_letters : PySem.W.nsIn K mainGlobals "_law_letters" = some (some (.ref f_law_letters)))
    (l_law_letters : K.lookup f_law_letters = some ⟨oc_law_letters, od_law_letters, .func (PySem.W.fnOf "_law_letters" "_law_letters" (defArgs s_law_letters) (defBody s_law_letters) (defScope s_law_letters) .none kV_law_letters dc_law_letters pm_law_letters an_law_letters cd_law_letters ct_law_letters), sl_law_letters⟩) (c_law_letters : PySem.W.codeIn K cd_law_letters "_law_letters" = true) (k_law_letters : PySem.W.keepIn K (.ref f_law_letters) = true)
    (a_is_letter : PySem.W.nsIn K mainGlobals "is_letter" = some (some (.ref f_is_letter)))
    (l_is_letter : K.lookup f_is_letter = some ⟨oc_is_letter, od_is_letter, .func (PySem.W.fnOf "is_letter" "is_letter" (defArgs s_is_letter) (defBody s_is_letter) (defScope s_is_letter) .none kV_is_letter dc_is_letter pm_is_letter an_is_letter cd_is_letter ct_is_letter), sl_is_letter⟩) (c_is_letter : PySem.W.codeIn K cd_is_letter "is_letter" = true) (k_is_letter : PySem.W.keepIn K (.ref f_is_letter) = true)
    (a_inner_of : PySem.W.nsIn K mainGlobals "inner_of" = some (some (.ref f_inner_of)))
    (l_inner_of : K.lookup f_inner_of = some ⟨oc_inner_of, od_inner_of, .func (PySem.W.fnOf "inner_of" "inner_of" (defArgs s_inner_of) (defBody s_inner_of) (defScope s_inner_of) .none kV_inner_of dc_inner_of pm_inner_of an_inner_of cd_inner_of ct_inner_of), sl_inner_of⟩) (c_inner_of : PySem.W.codeIn K cd_inner_of "inner_of" = true) (k_inner_of : PySem.W.keepIn K (.ref f_inner_of) = true)
    (a_is_question : PySem.W.nsIn K mainGlobals "is_question" = some (some (.ref f_is_question)))
    (l_is_question : K.lookup f_is_question = some ⟨oc_is_question, od_is_question, .func (PySem.W.fnOf "is_question" "is_question" (defArgs s_is_question) (defBody s_is_question) (defScope s_is_question) .none kV_is_question dc_is_question pm_is_question an_is_question cd_is_question ct_is_question), sl_is_question⟩) (c_is_question : PySem.W.codeIn K cd_is_question "is_question" = true) (k_is_question : PySem.W.keepIn K (.ref f_is_question) = true)
    (a_check_question : PySem.W.nsIn K mainGlobals "check_question" = some (some (.ref f_check_question)))
    (l_check_question : K.lookup f_check_question = some ⟨oc_check_question, od_check_question, .func (PySem.W.fnOf "check_question" "check_question" (defArgs s_check_question) (defBody s_check_question) (defScope s_check_question) .none kV_check_question dc_check_question pm_check_question an_check_question cd_check_question ct_check_question), sl_check_question⟩) (c_check_question : PySem.W.codeIn K cd_check_question "check_question" = true) (k_check_question : PySem.W.keepIn K (.ref f_check_question) = true)
    (a_depth_in : PySem.W.nsIn K mainGlobals "depth_in" = some (some (.ref f_depth_in)))
    (l_depth_in : K.lookup f_depth_in = some ⟨oc_depth_in, od_depth_in, .func (PySem.W.fnOf "depth_in" "depth_in" (defArgs s_depth_in) (defBody s_depth_in) (defScope s_depth_in) .none kV_depth_in dc_depth_in pm_depth_in an_depth_in cd_depth_in ct_depth_in), sl_depth_in⟩) (c_depth_in : PySem.W.codeIn K cd_depth_in "depth_in" = true) (k_depth_in : PySem.W.keepIn K (.ref f_depth_in) = true)
    (a_depth_of : PySem.W.nsIn K mainGlobals "depth_of" = some (some (.ref f_depth_of)))
    (l_depth_of : K.lookup f_depth_of = some ⟨oc_depth_of, od_depth_of, .func (PySem.W.fnOf "depth_of" "depth_of" (defArgs s_depth_of) (defBody s_depth_of) (defScope s_depth_of) .none kV_depth_of dc_depth_of pm_depth_of an_depth_of cd_depth_of ct_depth_of), sl_depth_of⟩) (c_depth_of : PySem.W.codeIn K cd_depth_of "depth_of" = true) (k_depth_of : PySem.W.keepIn K (.ref f_depth_of) = true)
    (a_known_letters : PySem.W.nsIn K mainGlobals "known_letters" = some (some (.ref f_known_letters)))
    (l_known_letters : K.lookup f_known_letters = some ⟨oc_known_letters, od_known_letters, .func (PySem.W.fnOf "known_letters" "known_letters" (defArgs s_known_letters) (defBody s_known_letters) (defScope s_known_letters) .none kV_known_letters dc_known_letters pm_known_letters an_known_letters cd_known_letters ct_known_letters), sl_known_letters⟩) (c_known_letters : PySem.W.codeIn K cd_known_letters "known_letters" = true) (k_known_letters : PySem.W.keepIn K (.ref f_known_letters) = true)
    (a_letters_in : PySem.W.nsIn K mainGlobals "letters_in" = some (some (.ref f_letters_in)))
    (l_letters_in : K.lookup f_letters_in = some ⟨oc_letters_in, od_letters_in, .func (PySem.W.fnOf "letters_in" "letters_in" (defArgs s_letters_in) (defBody s_letters_in) (defScope s_letters_in) .none kV_letters_in dc_letters_in pm_letters_in an_letters_in cd_letters_in ct_letters_in), sl_letters_in⟩) (c_letters_in : PySem.W.codeIn K cd_letters_in "letters_in" = true) (k_letters_in : PySem.W.keepIn K (.ref f_letters_in) = true)
    (a_turned_about : PySem.W.nsIn K mainGlobals "turned_about" = some (some (.ref f_turned_about)))
    (l_turned_about : K.lookup f_turned_about = some ⟨oc_turned_about, od_turned_about, .func (PySem.W.fnOf "turned_about" "turned_about" (defArgs s_turned_about) (defBody s_turned_about) (defScope s_turned_about) .none kV_turned_about dc_turned_about pm_turned_about an_turned_about cd_turned_about ct_turned_about), sl_turned_about⟩) (c_turned_about : PySem.W.codeIn K cd_turned_about "turned_about" = true) (k_turned_about : PySem.W.keepIn K (.ref f_turned_about) = true)
    (a_turned_question : PySem.W.nsIn K mainGlobals "turned_question" = some (some (.ref f_turned_question)))
    (l_turned_question : K.lookup f_turned_question = some ⟨oc_turned_question, od_turned_question, .func (PySem.W.fnOf "turned_question" "turned_question" (defArgs s_turned_question) (defBody s_turned_question) (defScope s_turned_question) .none kV_turned_question dc_turned_question pm_turned_question an_turned_question cd_turned_question ct_turned_question), sl_turned_question⟩) (c_turned_question : PySem.W.codeIn K cd_turned_question "turned_question" = true) (k_turned_question : PySem.W.keepIn K (.ref f_turned_question) = true)
    (a_law_about : PySem.W.nsIn K mainGlobals "_law_about" = some (some (.ref f_law_about)))
    (l_law_about : K.lookup f_law_about = some ⟨oc_law_about, od_law_about, .func (PySem.W.fnOf "_law_about" "_law_about" (defArgs s_law_about) (defBody s_law_about) (defScope s_law_about) .none kV_law_about dc_law_about pm_law_about an_law_about cd_law_about ct_law_about), sl_law_about⟩) (c_law_about : PySem.W.codeIn K cd_law_about "_law_about" = true) (k_law_about : PySem.W.keepIn K (.ref f_law_about) = true)
    (a_law_fits : PySem.W.nsIn K mainGlobals "_law_fits" = some (some (.ref f_law_fits)))
    (l_law_fits : K.lookup f_law_fits = some ⟨oc_law_fits, od_law_fits, .func (PySem.W.fnOf "_law_fits" "_law_fits" (defArgs s_law_fits) (defBody s_law_fits) (defScope s_law_fits) .none kV_law_fits dc_law_fits pm_law_fits an_law_fits cd_law_fits ct_law_fits), sl_law_fits⟩) (c_law_fits : PySem.W.codeIn K cd_law_fits "_law_fits" = true) (k_law_fits : PySem.W.keepIn K (.ref f_law_fits) = true)
    (a_law : PySem.W.nsIn K mainGlobals "law" = some (some (.ref f_law)))
    (l_law : K.lookup f_law = some ⟨oc_law, od_law, .func (PySem.W.fnOf "law" "law" (defArgs s_law) (defBody s_law) (defScope s_law) .none kV_law dc_law pm_law an_law cd_law ct_law), sl_law⟩) (c_law : PySem.W.codeIn K cd_law "law" = true) (k_law : PySem.W.keepIn K (.ref f_law) = true)
    (t_SIZES : PySem.W.nsIn K mainGlobals "SIZES" = some (some (.ref a_SIZES)))
    (l_SIZES : K.lookup a_SIZES = some ⟨.type "dict", none, .dict es_SIZES n_SIZES, #[]⟩)
    (ky_SIZES : PySem.W.KeysLit w.params es_SIZES.toList)
    (lo_SIZES : (a_SIZES == sysModules) = false)
    (h_SIZES_0 : PySem.W.nsIn K a_SIZES "any" = some (some (.int 1 tk_SIZES_0)))
    (h_SIZES_1 : PySem.W.nsIn K a_SIZES "not" = some (some (.int 2 tk_SIZES_1)))
    (h_SIZES_2 : PySem.W.nsIn K a_SIZES "both" = some (some (.int 3 tk_SIZES_2)))
    (h_SIZES_3 : PySem.W.nsIn K a_SIZES "some" = some (some (.int 4 tk_SIZES_3)))
    (z_abs : PySem.W.nsIn K mainGlobals "abs" = some none)
    (z_all : PySem.W.nsIn K mainGlobals "all" = some none)
    (z_int : PySem.W.nsIn K mainGlobals "int" = some none)
    (z_isinstance : PySem.W.nsIn K mainGlobals "isinstance" = some none)
    (z_len : PySem.W.nsIn K mainGlobals "len" = some none)
    (z_list : PySem.W.nsIn K mainGlobals "list" = some none)
    (z_max : PySem.W.nsIn K mainGlobals "max" = some none)
    (z_min : PySem.W.nsIn K mainGlobals "min" = some none)
    (z_range : PySem.W.nsIn K mainGlobals "range" = some none)
    (z_repr : PySem.W.nsIn K mainGlobals "repr" = some none)
    (z_set : PySem.W.nsIn K mainGlobals "set" = some none)
    (z_sorted : PySem.W.nsIn K mainGlobals "sorted" = some none)
    (z_str : PySem.W.nsIn K mainGlobals "str" = some none)
    (z_tuple : PySem.W.nsIn K mainGlobals "tuple" = some none)
    (g_LETTERS : PySem.W.nsIn K mainGlobals "LETTERS" = some (some (.str "abcdefghijklmnopqrstuvwxyz" tk_LETTERS)))
    : ∃ fd : FuncData, (∀ (s : Shared) (v : Value), BindsTo s fd ⟨[v], []⟩ [("script", v)]) ∧ ∀ base : Heap, K.In base → base.Ns mainGlobals mg → FnG l.prog w K mg base CX0 77 fa fd ["script"] (spLaw K) := by
  have e := hfa.symm.trans (PySem.W.mg_of X G a_law)
  cases e
  have T : Txt K mg := ⟨PySem.W.mg_none_of X G z_abs, PySem.W.mg_none_of X G z_all, PySem.W.mg_none_of X G z_int, PySem.W.mg_none_of X G z_isinstance, PySem.W.mg_none_of X G z_len, PySem.W.mg_none_of X G z_list, PySem.W.mg_none_of X G z_max, PySem.W.mg_none_of X G z_min, PySem.W.mg_none_of X G z_range, PySem.W.mg_none_of X G z_repr, PySem.W.mg_none_of X G z_set, PySem.W.mg_none_of X G z_sorted, PySem.W.mg_none_of X G z_str, PySem.W.mg_none_of X G z_tuple, ⟨_, PySem.W.mg_of X G g_LETTERS⟩⟩
  have D_SIZES : KTab K w mg "SIZES" a_SIZES [("any", 1), ("not", 2), ("both", 3), ("some", 4)] := ⟨PySem.W.mg_of X G t_SIZES, ⟨_, _, l_SIZES, ky_SIZES, lo_SIZES⟩, fun p hp => by
      rcases List.mem_cons.mp hp with rfl | hp
      · exact ⟨_, h_SIZES_0⟩
      rcases List.mem_cons.mp hp with rfl | hp
      · exact ⟨_, h_SIZES_1⟩
      rcases List.mem_cons.mp hp with rfl | hp
      · exact ⟨_, h_SIZES_2⟩
      rcases List.mem_cons.mp hp with rfl | hp
      · exact ⟨_, h_SIZES_3⟩
      cases hp⟩
  have F_law_pool := fun_mk (st := s_law_pool) l_law_pool c_law_pool k_law_pool
  have b_law_pool := F_law_pool.binds (ps := ["script", "spot"]) fun _ _ _ _ _ _ us hl => match us, hl with | [_, _], _ => rfl
  have F_law_draw := fun_mk (st := s_law_draw) l_law_draw c_law_draw k_law_draw
  have b_law_draw := F_law_draw.binds (ps := ["pool", "span"]) fun _ _ _ _ _ _ us hl => match us, hl with | [_, _], _ => rfl
  have F_law_query := fun_mk (st := s_law_query) l_law_query c_law_query k_law_query
  have b_law_query := F_law_query.binds (ps := ["pool", "names", "deep", "wide"]) fun _ _ _ _ _ _ us hl => match us, hl with | [_, _, _, _], _ => rfl
  have F_law_steep := fun_mk (st := s_law_steep) l_law_steep c_law_steep k_law_steep
  have b_law_steep := F_law_steep.binds (ps := ["pool", "names", "deep"]) fun _ _ _ _ _ _ us hl => match us, hl with | [_, _, _], _ => rfl
  have F_law_any_query := fun_mk (st := s_law_any_query) l_law_any_query c_law_any_query k_law_any_query
  have b_law_any_query := F_law_any_query.binds (ps := ["pool", "names", "deep", "wide"]) fun _ _ _ _ _ _ us hl => match us, hl with | [_, _, _, _], _ => rfl
  have F_law_deep := fun_mk (st := s_law_deep) l_law_deep c_law_deep k_law_deep
  have b_law_deep := F_law_deep.binds (ps := ["query"]) fun _ _ _ _ _ _ us hl => match us, hl with | [_], _ => rfl
  have F_law_letters := fun_mk (st := s_law_letters) l_law_letters c_law_letters k_law_letters
  have b_law_letters := F_law_letters.binds (ps := ["query"]) fun _ _ _ _ _ _ us hl => match us, hl with | [_], _ => rfl
  have F_is_letter := fun_mk (st := s_is_letter) l_is_letter c_is_letter k_is_letter
  have b_is_letter := F_is_letter.binds (ps := ["value"]) fun _ _ _ _ _ _ us hl => match us, hl with | [_], _ => rfl
  have F_inner_of := fun_mk (st := s_inner_of) l_inner_of c_inner_of k_inner_of
  have b_inner_of := F_inner_of.binds (ps := ["question"]) fun _ _ _ _ _ _ us hl => match us, hl with | [_], _ => rfl
  have F_is_question := fun_mk (st := s_is_question) l_is_question c_is_question k_is_question
  have b_is_question := F_is_question.binds (ps := ["value"]) fun _ _ _ _ _ _ us hl => match us, hl with | [_], _ => rfl
  have F_check_question := fun_mk (st := s_check_question) l_check_question c_check_question k_check_question
  have b_check_question := F_check_question.binds (ps := ["question"]) fun _ _ _ _ _ _ us hl => match us, hl with | [_], _ => rfl
  have F_depth_in := fun_mk (st := s_depth_in) l_depth_in c_depth_in k_depth_in
  have b_depth_in := F_depth_in.binds (ps := ["question"]) fun _ _ _ _ _ _ us hl => match us, hl with | [_], _ => rfl
  have F_depth_of := fun_mk (st := s_depth_of) l_depth_of c_depth_of k_depth_of
  have b_depth_of := F_depth_of.binds (ps := ["question"]) fun _ _ _ _ _ _ us hl => match us, hl with | [_], _ => rfl
  have F_known_letters := fun_mk (st := s_known_letters) l_known_letters c_known_letters k_known_letters
  have b_known_letters := F_known_letters.binds (ps := ["question"]) fun _ _ _ _ _ _ us hl => match us, hl with | [_], _ => rfl
  have F_letters_in := fun_mk (st := s_letters_in) l_letters_in c_letters_in k_letters_in
  have b_letters_in := F_letters_in.binds (ps := ["question"]) fun _ _ _ _ _ _ us hl => match us, hl with | [_], _ => rfl
  have F_turned_about := fun_mk (st := s_turned_about) l_turned_about c_turned_about k_turned_about
  have b_turned_about := F_turned_about.binds (ps := ["question"]) fun _ _ _ _ _ _ us hl => match us, hl with | [_], _ => rfl
  have F_turned_question := fun_mk (st := s_turned_question) l_turned_question c_turned_question k_turned_question
  have b_turned_question := F_turned_question.binds (ps := ["question"]) fun _ _ _ _ _ _ us hl => match us, hl with | [_], _ => rfl
  have F_law_about := fun_mk (st := s_law_about) l_law_about c_law_about k_law_about
  have b_law_about := F_law_about.binds (ps := ["query"]) fun _ _ _ _ _ _ us hl => match us, hl with | [_], _ => rfl
  have F_law_fits := fun_mk (st := s_law_fits) l_law_fits c_law_fits k_law_fits
  have b_law_fits := F_law_fits.binds (ps := ["pool"]) fun _ _ _ _ _ _ us hl => match us, hl with | [_], _ => rfl
  have F_law := fun_mk (st := s_law) l_law c_law k_law
  have b_law := F_law.binds (ps := ["script"]) fun _ _ _ _ _ _ us hl => match us, hl with | [_], _ => rfl
  have kb_depth_of_0 := KB.of F_depth_of (ps := ["question"]) (ks := ["question"]) (perm := [0]) fun _ _ _ _ _ _ ws hl => match ws, hl with | [_], _ => rfl
  have kb_letters_in_0 := KB.of F_letters_in (ps := ["question"]) (ks := ["question"]) (perm := [0]) fun _ _ _ _ _ _ ws hl => match ws, hl with | [_], _ => rfl
  have kb_turned_question_0 := KB.of F_turned_question (ps := ["question"]) (ks := ["question"]) (perm := [0]) fun _ _ _ _ _ _ ws hl => match ws, hl with | [_], _ => rfl
  refine ⟨PySem.W.fnOf "law" "law" (defArgs s_law) (defBody s_law) (defScope s_law) .none kV_law dc_law pm_law an_law cd_law ct_law, fun s v => .of_eq rfl, fun base _ _ => ?_⟩
  have C_law_pool : Callee l.prog w K mg base CX0 "_law_pool" ["script", "spot"] 1 (spPool K) _ _ := (mkC (ok_law_pool T F_law_pool) (PySem.W.mg_of X G a_law_pool) k_law_pool b_law_pool).lv (by decide)
  have C_law_draw : Callee l.prog w K mg base CX0 "_law_draw" ["pool", "span"] 1 (ResSp K poolRes drawS) _ _ := (mkC (ok_law_draw T F_law_draw) (PySem.W.mg_of X G a_law_draw) k_law_draw b_law_draw).lv (by decide)
  have C_law_query : Callee l.prog w K mg base CX0 "_law_query" ["pool", "names", "deep", "wide"] 63 (ResSp K poolRes (qryS 61)) _ _ := (all_law_query (P := l.prog) (w := w) (base := base) T F_law_query C_law_draw (PySem.W.mg_of X G a_law_query) k_law_query b_law_query 61).lv (by decide)
  have C_law_steep : Callee l.prog w K mg base CX0 "_law_steep" ["pool", "names", "deep"] 74 (ResSp K poolRes (steepS 11)) _ _ := (all_law_steep (P := l.prog) (w := w) (base := base) T F_law_steep C_law_query C_law_draw (PySem.W.mg_of X G a_law_steep) k_law_steep b_law_steep 11).lv (by decide)
  have C_law_any_query : Callee l.prog w K mg base CX0 "_law_any_query" ["pool", "names", "deep", "wide"] 75 (ResSp K poolRes anyqS) _ _ := (mkC (ok_law_any_query T F_law_any_query C_law_draw C_law_steep C_law_query) (PySem.W.mg_of X G a_law_any_query) k_law_any_query b_law_any_query).lv (by decide)
  have C_law_deep : Callee l.prog w K mg base CX0 "_law_deep" ["query"] 64 (PureSp K (depInS 61)) _ _ := (all_law_deep (P := l.prog) (w := w) (base := base) T F_law_deep (PySem.W.mg_of X G a_law_deep) k_law_deep b_law_deep 61).lv (by decide)
  have C_law_letters : Callee l.prog w K mg base CX0 "_law_letters" ["query"] 64 (PureSp K (lawLetRS 61)) _ _ := (all_law_letters (P := l.prog) (w := w) (base := base) T F_law_letters (PySem.W.mg_of X G a_law_letters) k_law_letters b_law_letters 61).lv (by decide)
  have C_is_letter : Callee l.prog w K mg base CX0 "is_letter" ["value"] 1 (PureSp K isletS) _ _ := (mkC (ok_is_letter T F_is_letter) (PySem.W.mg_of X G a_is_letter) k_is_letter b_is_letter).lv (by decide)
  have C_inner_of : Callee l.prog w K mg base CX0 "inner_of" ["question"] 1 (PureSp K innerS) _ _ := (mkC (ok_inner_of T F_inner_of) (PySem.W.mg_of X G a_inner_of) k_inner_of b_inner_of).lv (by decide)
  have C_is_question : Callee l.prog w K mg base CX0 "is_question" ["value"] 64 (PureSp K (isqS 61)) _ _ := (all_is_question (P := l.prog) (w := w) (base := base) T F_is_question C_is_letter C_inner_of D_SIZES (PySem.W.mg_of X G a_is_question) k_is_question b_is_question 61).lv (by decide)
  have C_check_question : Callee l.prog w K mg base CX0 "check_question" ["question"] 65 (PureSp K chqS) _ _ := (mkC (ok_check_question T F_check_question C_is_question) (PySem.W.mg_of X G a_check_question) k_check_question b_check_question).lv (by decide)
  have C_depth_in : Callee l.prog w K mg base CX0 "depth_in" ["question"] 64 (PureSp K (depInS 61)) _ _ := (all_depth_in (P := l.prog) (w := w) (base := base) T F_depth_in C_inner_of (PySem.W.mg_of X G a_depth_in) k_depth_in b_depth_in 61).lv (by decide)
  have C_depth_of : Callee l.prog w K mg base CX0 "depth_of" ["question"] 66 (PureSp K depOfS) _ _ := (mkC (ok_depth_of T F_depth_of C_check_question C_depth_in) (PySem.W.mg_of X G a_depth_of) k_depth_of b_depth_of).lv (by decide)
  have C_known_letters : Callee l.prog w K mg base CX0 "known_letters" ["question"] 64 (PureSp K (knownRS 61)) _ _ := (all_known_letters (P := l.prog) (w := w) (base := base) T F_known_letters C_inner_of (PySem.W.mg_of X G a_known_letters) k_known_letters b_known_letters 61).lv (by decide)
  have C_letters_in : Callee l.prog w K mg base CX0 "letters_in" ["question"] 66 (PureSp K lettersQS) _ _ := (mkC (ok_letters_in T F_letters_in C_check_question C_known_letters) (PySem.W.mg_of X G a_letters_in) k_letters_in b_letters_in).lv (by decide)
  have C_turned_about : Callee l.prog w K mg base CX0 "turned_about" ["question"] 62 (PureSp K (turnAS 61)) _ _ := (all_turned_about (P := l.prog) (w := w) (base := base) T F_turned_about (PySem.W.mg_of X G a_turned_about) k_turned_about b_turned_about 61).lv (by decide)
  have C_turned_question : Callee l.prog w K mg base CX0 "turned_question" ["question"] 66 (PureSp K turnQS) _ _ := (mkC (ok_turned_question T F_turned_question C_check_question C_turned_about) (PySem.W.mg_of X G a_turned_question) k_turned_question b_turned_question).lv (by decide)
  have C_law_about : Callee l.prog w K mg base CX0 "_law_about" ["query"] 62 (PureSp K (turnAS 61)) _ _ := (all_law_about (P := l.prog) (w := w) (base := base) T F_law_about (PySem.W.mg_of X G a_law_about) k_law_about b_law_about 61).lv (by decide)
  have C_law_fits : CalleeG l.prog w K mg base CX0 "_law_fits" ["pool"] 76 (ResSp K poolRes fitsS) _ _ := (mkG (ok_law_fits T F_law_fits C_law_draw C_law_any_query C_law_deep C_law_letters C_depth_of C_letters_in C_turned_question C_law_about kb_depth_of_0 kb_letters_in_0 kb_turned_question_0) (PySem.W.mg_of X G a_law_fits) k_law_fits b_law_fits).lvG (by decide)
  exact ok_law T F_law C_law_pool C_law_fits
theorem walk {l : PySem.W.OpenLaw} {q : Program} {loose : List Str} {XP : (Str → Option Value) → Heap → Prop} {YP : World → Heap → Prop} {d : DefRec} {K : Params → PySem.W.Frag} (hn : l.most = some 63) (hdf : d.params.defaults = [])
    (hY : ∀ (w : World) (h : Heap), YP w h → (K w.params).In h)
    (F : ∀ (w : World) (mg : Str → Option Value) (fa : Addr) (h : Heap), (K w.params).In h → h.Ns mainGlobals mg → mg d.name = some (.ref fa) →
      ∃ fd : FuncData, (∀ (s : Shared) (u : Value), BindsTo s fd ⟨[u], []⟩ [("script", u)]) ∧ ∀ base : Heap, (K w.params).In base → base.Ns mainGlobals mg → FnG l.prog w (K w.params) mg base CX0 77 fa fd ["script"] (spLaw (K w.params))) :
    PySem.W.WalkO q loose XP YP l.row.toRowW d [] (fun f vs => PySem.call f vs) :=
  walkG (n := 63) (k := 77) (sp := fun K => spLaw K) hn (by decide) hdf ⟨rfl, by decide, by decide⟩ hY F (fun _ _ a ns hl hS => ⟨a, ns, rfl, hS, hl, fun _ => rfl⟩)
end My
open PySem PySem.W PyProof.Rows
set_option maxRecDepth 100000 in
set_option maxHeartbeats 0 in
theorem PySem.Challenge.cw_pickdepths_k12_depths_and_letters_of_que_holds : PySem.Challenge.rw_pickdepths_k12_depths_and_letters_of_que.Holds := by
  w_on; o_law; k_head; (case hw => w_witness2)
  k_fill
  refine My.walk (l := PySem.Challenge.rw_pickdepths_k12_depths_and_letters_of_que) rfl rfl (fun w h Y => PySem.W.kIn_of Y) ?F
  case F =>
    intro w mg fa h KX G hmg
    refine' My.all_mk KX G hmg ?a_law_pool ?l_law_pool ?c_law_pool ?k_law_pool ?a_law_draw ?l_law_draw ?c_law_draw ?k_law_draw ?a_law_query ?l_law_query ?c_law_query ?k_law_query ?a_law_steep ?l_law_steep ?c_law_steep ?k_law_steep ?a_law_any_query ?l_law_any_query ?c_law_any_query ?k_law_any_query ?a_law_deep ?l_law_deep ?c_law_deep ?k_law_deep ?a_law_letters ?l_law_letters ?c_law_letters ?k_law_letters ?a_is_letter ?l_is_letter ?c_is_letter ?k_is_letter ?a_inner_of ?l_inner_of ?c_inner_of ?k_inner_of ?a_is_question ?l_is_question ?c_is_question ?k_is_question ?a_check_question ?l_check_question ?c_check_question ?k_check_question ?a_depth_in ?l_depth_in ?c_depth_in ?k_depth_in ?a_depth_of ?l_depth_of ?c_depth_of ?k_depth_of ?a_known_letters ?l_known_letters ?c_known_letters ?k_known_letters ?a_letters_in ?l_letters_in ?c_letters_in ?k_letters_in ?a_turned_about ?l_turned_about ?c_turned_about ?k_turned_about ?a_turned_question ?l_turned_question ?c_turned_question ?k_turned_question ?a_law_about ?l_law_about ?c_law_about ?k_law_about ?a_law_fits ?l_law_fits ?c_law_fits ?k_law_fits ?a_law ?l_law ?c_law ?k_law ?t_SIZES ?l_SIZES ?ky_SIZES ?lo_SIZES ?h_SIZES_0 ?h_SIZES_1 ?h_SIZES_2 ?h_SIZES_3 ?z_abs ?z_all ?z_int ?z_isinstance ?z_len ?z_list ?z_max ?z_min ?z_range ?z_repr ?z_set ?z_sorted ?z_str ?z_tuple ?g_LETTERS
    (case a_law_pool => k_is)
    (case l_law_pool => k_is)
    (case c_law_pool => k_is)
    (case k_law_pool => k_is)
    (case a_law_draw => k_is)
    (case l_law_draw => k_is)
    (case c_law_draw => k_is)
    (case k_law_draw => k_is)
    (case a_law_query => k_is)
    (case l_law_query => k_is)
    (case c_law_query => k_is)
    (case k_law_query => k_is)
    (case a_law_steep => k_is)
    (case l_law_steep => k_is)
    (case c_law_steep => k_is)
    (case k_law_steep => k_is)
    (case a_law_any_query => k_is)
    (case l_law_any_query => k_is)
    (case c_law_any_query => k_is)
    (case k_law_any_query => k_is)
    (case a_law_deep => k_is)
    (case l_law_deep => k_is)
    (case c_law_deep => k_is)
    (case k_law_deep => k_is)
    (case a_law_letters => k_is)
    (case l_law_letters => k_is)
    (case c_law_letters => k_is)
    (case k_law_letters => k_is)
    (case a_is_letter => k_is)
    (case l_is_letter => k_is)
    (case c_is_letter => k_is)
    (case k_is_letter => k_is)
    (case a_inner_of => k_is)
    (case l_inner_of => k_is)
    (case c_inner_of => k_is)
    (case k_inner_of => k_is)
    (case a_is_question => k_is)
    (case l_is_question => k_is)
    (case c_is_question => k_is)
    (case k_is_question => k_is)
    (case a_check_question => k_is)
    (case l_check_question => k_is)
    (case c_check_question => k_is)
    (case k_check_question => k_is)
    (case a_depth_in => k_is)
    (case l_depth_in => k_is)
    (case c_depth_in => k_is)
    (case k_depth_in => k_is)
    (case a_depth_of => k_is)
    (case l_depth_of => k_is)
    (case c_depth_of => k_is)
    (case k_depth_of => k_is)
    (case a_known_letters => k_is)
    (case l_known_letters => k_is)
    (case c_known_letters => k_is)
    (case k_known_letters => k_is)
    (case a_letters_in => k_is)
    (case l_letters_in => k_is)
    (case c_letters_in => k_is)
    (case k_letters_in => k_is)
    (case a_turned_about => k_is)
    (case l_turned_about => k_is)
    (case c_turned_about => k_is)
    (case k_turned_about => k_is)
    (case a_turned_question => k_is)
    (case l_turned_question => k_is)
    (case c_turned_question => k_is)
    (case k_turned_question => k_is)
    (case a_law_about => k_is)
    (case l_law_about => k_is)
    (case c_law_about => k_is)
    (case k_law_about => k_is)
    (case a_law_fits => k_is)
    (case l_law_fits => k_is)
    (case c_law_fits => k_is)
    (case k_law_fits => k_is)
    (case a_law => k_is)
    (case l_law => k_is)
    (case c_law => k_is)
    (case k_law => k_is)
    (case t_SIZES => k_is)
    (case l_SIZES => k_is)
    (case ky_SIZES => exact ⟨⟨_, _, rfl, rfl⟩, ⟨_, _, rfl, rfl⟩, ⟨_, _, rfl, rfl⟩, ⟨_, _, rfl, rfl⟩, trivial⟩)
    (case lo_SIZES => rfl)
    (case h_SIZES_0 => k_is)
    (case h_SIZES_1 => k_is)
    (case h_SIZES_2 => k_is)
    (case h_SIZES_3 => k_is)
    (case z_abs => k_is)
    (case z_all => k_is)
    (case z_int => k_is)
    (case z_isinstance => k_is)
    (case z_len => k_is)
    (case z_list => k_is)
    (case z_max => k_is)
    (case z_min => k_is)
    (case z_range => k_is)
    (case z_repr => k_is)
    (case z_set => k_is)
    (case z_sorted => k_is)
    (case z_str => k_is)
    (case z_tuple => k_is)
    (case g_LETTERS => k_is)
