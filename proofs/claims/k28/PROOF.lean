import PyProof.Rows.All
import Wide.All
import OpenK.AllK
import Wide.FinOn
import HandS.ForMost
import HandS.ForExc
import HandS.Flow
import HandS.Wide
import HandS.Walk
import HandS.Deep
import HandS.TupAny
import HandS.Style
import HandS.DictComp
import HandS.SetKeys
import KE.KDictKeyed
import KE.SortData
import KE.SortLaws
import HandS.Conv
import HandS.Replace
import PyProof.StrLawsRepr
import PyProof.FitsInt
import HandS.TryOnly
import HandS.ExcInit
import HandS.ExcField
import HandS.ExcIs
import KE.KExcSuper
import HandS.IsInst
import HandS.HotCalls
import HandS.WordsExc
import KE.KExcIs
import HandS.Star
import HandS.Text
import HandS.SortKw
import KE.DataMinMax
import KE.KDictDisplayH
import PySem.Challenge.RW_pickdepths_k28_errors_of_settled
set_option Elab.async false
set_option linter.all false
set_option maxRecDepth 100000
set_option maxHeartbeats 1000000
/-! DLa: data by value over the hand layer: what a reading does to data, with the heap out of sight -/
namespace DL
open PySem L2
/-- data: a value with all that it holds; ref is an object that is not told here -/
inductive D where
  | non | bl (b : Bool) | int (i : Int) | str (x : Str) | tup (ds : List D) | lst (ds : List D) | ref (a : Addr)
mutual
inductive Rep (K : PySem.W.Frag) (H : Hp) : V → D → Prop
  | non : Rep K H .non .non
  | bl (b : Bool) : Rep K H (.bl b) (.bl b)
  | int (i : Int) : Rep K H (.int i) (.int i)
  | str (x : Str) : Rep K H (.str x) (.str x)
  | ref (a : Addr) : Rep K H (.ref a) (.ref a)
  | tup {a : Addr} {xs : List V} {ds : List D} : SqT K H a xs → RepAll K H xs ds → Rep K H (.ref a) (.tup ds)
  | lst {a : Addr} {xs : List V} {ds : List D} : H a = some (.lst xs) → RepAll K H xs ds → Rep K H (.ref a) (.lst ds)
inductive RepAll (K : PySem.W.Frag) (H : Hp) : List V → List D → Prop
  | nil : RepAll K H [] []
  | cons {v : V} {vs : List V} {d : D} {ds : List D} : Rep K H v d → RepAll K H vs ds → RepAll K H (v :: vs) (d :: ds)
end
theorem same_t {K : PySem.W.Frag} {H H' : Hp} {a : Addr} {xs : List V} (e : Same H H') (h : SqT K H a xs) : SqT K H' a xs := by
  rcases h with (q | ⟨o, q⟩) | q
  · exact .inl (.inl (e _ _ q))
  · exact .inl (.inr ⟨o, e _ _ q⟩)
  · exact .inr q
mutual
theorem Rep.mono {K : PySem.W.Frag} {H H' : Hp} (e : Same H H') : ∀ {v : V} {d : D}, Rep K H v d → Rep K H' v d
  | _, _, .non => .non
  | _, _, .bl b => .bl b
  | _, _, .int i => .int i
  | _, _, .str x => .str x
  | _, _, .ref a => .ref a
  | _, _, .tup h r => .tup (same_t e h) (RepAll.mono e r)
  | _, _, .lst h r => .lst (e _ _ h) (RepAll.mono e r)
theorem RepAll.mono {K : PySem.W.Frag} {H H' : Hp} (e : Same H H') : ∀ {vs : List V} {ds : List D}, RepAll K H vs ds → RepAll K H' vs ds
  | _, _, .nil => .nil
  | _, _, .cons r t => .cons (Rep.mono e r) (RepAll.mono e t)
end
section
variable {K : PySem.W.Frag} {H H' : Hp}
theorem RepAll.len : ∀ {vs : List V} {ds : List D}, RepAll K H vs ds → vs.length = ds.length
  | _, _, .nil => rfl
  | _, _, .cons _ t => congrArg (· + 1) (RepAll.len t)
theorem RepAll.get : ∀ {vs : List V} {ds : List D} {i : Nat} {d : D}, RepAll K H vs ds → ds[i]? = some d → ∃ v, vs[i]? = some v ∧ Rep K H v d
  | _, _, _, _, .nil, e => by simp at e
  | _, _, 0, _, .cons r _, e => by simp at e; subst e; exact ⟨_, rfl, r⟩
  | _, _, i + 1, d, .cons _ t, e => by
    obtain ⟨v, h1, h2⟩ := RepAll.get (i := i) t (by simpa using e)
    exact ⟨v, by simpa using h1, h2⟩
theorem RepAll.getV : ∀ {vs : List V} {ds : List D} {i : Nat} {v : V}, RepAll K H vs ds → vs[i]? = some v → ∃ d, ds[i]? = some d ∧ Rep K H v d
  | _, _, _, _, .nil, e => by simp at e
  | _, _, 0, _, .cons r _, e => by simp at e; subst e; exact ⟨_, rfl, r⟩
  | _, _, i + 1, v, .cons _ t, e => by
    obtain ⟨d, h1, h2⟩ := RepAll.getV (i := i) t (by simpa using e)
    exact ⟨d, by simpa using h1, h2⟩
theorem RepAll.app : ∀ {vs ws : List V} {ds es : List D}, RepAll K H vs ds → RepAll K H ws es → RepAll K H (vs ++ ws) (ds ++ es)
  | _, _, _, _, .nil, s => s
  | _, _, _, _, .cons r t, s => .cons r (RepAll.app t s)
theorem RepAll.tk : ∀ {vs : List V} {ds : List D} (n : Nat), RepAll K H vs ds → RepAll K H (vs.take n) (ds.take n)
  | _, _, 0, _ => .nil
  | _, _, _ + 1, .nil => .nil
  | _, _, n + 1, .cons r t => .cons r (RepAll.tk n t)
theorem RepAll.dr : ∀ {vs : List V} {ds : List D} (n : Nat), RepAll K H vs ds → RepAll K H (vs.drop n) (ds.drop n)
  | _, _, 0, r => r
  | _, _, _ + 1, .nil => .nil
  | _, _, n + 1, .cons _ t => RepAll.dr n t
theorem RepAll.put {v : V} {d : D} (r : Rep K H v d) : ∀ {vs : List V} {ds : List D} (i : Nat), RepAll K H vs ds → RepAll K H (vs.set i v) (ds.set i d)
  | _, _, _, .nil => .nil
  | _, _, 0, .cons _ t => .cons r t
  | _, _, i + 1, .cons q t => .cons q (RepAll.put r i t)
theorem RepAll.ints : ∀ {vs : List V} {ns : List Int}, RepAll K H vs (ns.map D.int) → vs = ns.map V.int
  | _, [], .nil => rfl
  | _, n :: ns, .cons r t => by
    cases r
    rw [RepAll.ints t]
    rfl
theorem RepAll.bls : ∀ {vs : List V} {ns : List Bool}, RepAll K H vs (ns.map D.bl) → vs = ns.map V.bl
  | _, [], .nil => rfl
  | _, n :: ns, .cons r t => by
    cases r
    rw [RepAll.bls t]
    rfl
theorem RepAll.strs : ∀ {vs : List V} {ns : List Str}, RepAll K H vs (ns.map D.str) → vs = ns.map V.str
  | _, [], .nil => rfl
  | _, n :: ns, .cons r t => by
    cases r
    rw [RepAll.strs t]
    rfl
theorem RepAll.ofInts : ∀ (ns : List Int), RepAll K H (ns.map V.int) (ns.map D.int)
  | [] => .nil
  | n :: ns => .cons (.int n) (RepAll.ofInts ns)
end
/-- what is known of a place alone -/
theorem Rep.refOf {K : PySem.W.Frag} {H : Hp} {v : V} {a : Addr} (r : Rep K H v (.ref a)) : v = .ref a := by
  cases r
  rfl
/-- an object of one's own that may still change: a list, a dict with int and text keys, one with tuple keys -/
inductive OV where
  | lst (ds : List D) | dk (kvs : List (Key × D)) | dt (kvs : List (List Key × D)) | ob (R : Addr → Hp → HO → Prop)
/-- what a name holds: nothing known, data, an object of one's own -/
inductive Sl where
  | un | dat (d : D) | own (w : OV)
def OvOk (K : PySem.W.Frag) (H0 : Hp) (p : Addr) : HO → OV → Prop
  | .lst xs, .lst ds => RepAll K H0 xs ds
  | .dK kvs, .dk es => Paired (fun (p : Key × V) (q : Key × D) => p.1 = q.1 ∧ Rep K H0 p.2 q.2) kvs es
  | .dT kvs, .dt es => Paired (fun (p : List Key × V) (q : List Key × D) => p.1 = q.1 ∧ Rep K H0 p.2 q.2) kvs es
  | u, .ob R => ∃ Hx, Same Hx H0 ∧ R p Hx u
  | _, _ => False
theorem OvOk.mono {K : PySem.W.Frag} {H H' : Hp} (e : Same H H') {p : Addr} {u : HO} {w : OV} (h : OvOk K H p u w) : OvOk K H' p u w := by
  unfold OvOk at h ⊢
  split at h
  · exact h.mono e
  · exact Paired.mapP h fun _ _ q => ⟨q.1, q.2.mono e⟩
  · exact Paired.mapP h fun _ _ q => ⟨q.1, q.2.mono e⟩
  · obtain ⟨Hx, a, b⟩ := h
    exact ⟨Hx, a.trans e, b⟩
  · exact h.elim
/-- the ground on which a def runs: what its objects are (R, at the places B), the heap at its entry (E0 of it is known to stay), what is wanted of an error -/
structure Ct where
  K : PySem.W.Frag
  S : Type
  R : S → Hp → Hp → Prop
  B : Addr → Prop
  stab : ∀ s H0 H H0' H', R s H0 H → Same H0 H0' → (∀ a o, B a → H a = some o → H' a = some o) → R s H0' H'
  there : ∀ s H0 H a, R s H0 H → B a → H a ≠ none
  E0 : Hp
  E : Hp
  EX : XK
  X : Addr → D → S → Prop
  okX : ∀ C d s v a H0' H', X C d s → Same E0 H0' → Same H0' H' → (∀ a o, E a = some o → ¬ B a → H' a = some o) → (∀ a, E a ≠ none → E0 a = none → H0' a = none) → (∀ a, B a → H0' a = none) →
    R s H0' H' → (E a = none ∧ H' a = some (.xd [("value", v)])) → Rep K H0' v d → EX (.ref C) (some a) H'
def Own (c : Ct) (H0 H : Hp) (p : Addr) (w : OV) : Prop := H0 p = none ∧ c.E p = none ∧ ¬ c.B p ∧ ∃ u, H p = some u ∧ OvOk c.K H0 p u w
def SlOk (c : Ct) (H0 H : Hp) (o : Option V) : Sl → Prop
  | .un => True
  | .dat d => ∃ v, o = some v ∧ Rep c.K H0 v d
  | .own w => ∃ p, o = some (.ref p) ∧ Own c H0 H p w
structure Good (c : Ct) (G : List Sl) (s : c.S) (σ : L2.St) (H0 H : Hp) : Prop where
  sub : Same H0 H
  av : ∀ a, c.B a → H0 a = none
  e0 : Same c.E0 H0
  e1 : ∀ a o, c.E a = some o → ¬ c.B a → H a = some o
  e2 : ∀ a, c.E a ≠ none → c.E0 a = none → H0 a = none
  rs : c.R s H0 H
  len : σ.length = G.length
  sl : ∀ (i : Nat) (x : Sl), G[i]? = some x → SlOk c H0 H (σ[i]?.join) x
  ds : ∀ (i j : Nat) (p : Addr) (w w' : OV), i ≠ j → G[i]? = some (.own w) → G[j]? = some (.own w') → σ[i]? = some (some (.ref p)) → σ[j]? = some (some (.ref p)) → False
/-- a value that is not one of the objects that a name holds for itself -/
def Apart (G : List Sl) (σ : L2.St) (p : Addr) : Prop := ∀ (i : Nat) (w : OV), G[i]? = some (.own w) → σ[i]? ≠ some (some (.ref p))
/-- what comes out -/
def ROk (c : Ct) (G : List Sl) (σ : L2.St) (H0 H : Hp) (v : V) : Sl → Prop
  | .un => True
  | .dat d => Rep c.K H0 v d
  | .own w => ∃ p, v = .ref p ∧ Own c H0 H p w ∧ Apart G σ p
/-- values that are kept beside the names: what they are, what they are worth -/
abbrev Frm := List Sl × L2.St
structure Gd (c : Ct) (G : List Sl) (s : c.S) (σ : L2.St) (F : Frm) (H0 H : Hp) : Prop where
  ln : σ.length = G.length
  gd : Good c (G ++ F.1) s (σ ++ F.2) H0 H
abbrev RO (c : Ct) (G : List Sl) (σ : L2.St) (F : Frm) (H0 H : Hp) (v : V) (x : Sl) : Prop := ROk c (G ++ F.1) (σ ++ F.2) H0 H v x
def WE (c : Ct) (te : TE) (G : List Sl) (s : c.S) (P : Sl → c.S → Prop) : Prop :=
  ∀ σ F H0 H, Gd c G s σ F H0 H → ∀ Q : VK, (∀ x s' v H0' H', P x s' → Gd c G s' σ F H0' H' → Same H0 H0' → RO c G σ F H0' H' v x → Q v H') → te σ H Q
def WA (c : Ct) (ta : TA) (G : List Sl) (s : c.S) (P : List D → c.S → Prop) : Prop :=
  ∀ σ F H0 H, Gd c G s σ F H0 H → ∀ Q : List V → Hp → Prop, (∀ ds s' vs H0' H', P ds s' → Gd c G s' σ F H0' H' → Same H0 H0' → RepAll c.K H0' vs ds → Q vs H') → ta σ H Q
def WT (c : Ct) (tt : TT) (G : List Sl) (s : c.S) (P : Bool → c.S → Prop) : Prop :=
  ∀ σ F H0 H, Gd c G s σ F H0 H → ∀ Q : Bool → Hp → Prop, (∀ b s' H0' H', P b s' → Gd c G s' σ F H0' H' → Same H0 H0' → Q b H') → tt σ H Q
/-- arguments, objects of one's own among them: kept beside the names -/
def WAO (c : Ct) (ta : TA) (G : List Sl) (s : c.S) (P : List Sl → c.S → Prop) : Prop :=
  ∀ σ F H0 H, Gd c G s σ F H0 H → ∀ Q : List V → Hp → Prop, (∀ xs s' vs H0' H', P xs s' → Gd c G s' σ (F.1 ++ xs, F.2 ++ vs.map some) H0' H' → Same H0 H0' → vs.length = xs.length → Q vs H') → ta σ H Q
/-- an object of one's own may be taken as data, from then on it stays -/
def FZ {S : Type} (P : D → S → Prop) : Sl → S → Prop
  | .dat d, s => P d s
  | .own (.lst ds), s => P (.lst ds) s
  | _, _ => False
section
variable {c : Ct} {G : List Sl} {s s' : c.S} {σ : L2.St} {H0 H H0' H' : Hp} {p : Addr} {w : OV} {d : D} {v : V}
theorem Own.step (h : Own c H0 H p w) (e : Same H0 H0') (n : H0' p = none) (hp : ∀ o, H p = some o → H' p = some o) : Own c H0' H' p w := by
  obtain ⟨a, b, c1, u, hu, k⟩ := h
  exact ⟨n, b, c1, u, hp _ hu, k.mono e⟩
/-- the ground goes on: H0 to H0', H to H', nothing of one's own is touched -/
theorem Good.go (g : Good c G s σ H0 H) (e : Same H0 H0') (sub : Same H0' H') (av : ∀ a, c.B a → H0' a = none)
    (k : ∀ a o, H a = some o → ¬ c.B a → H' a = some o) (n : ∀ a, H a ≠ none → H0 a = none → H0' a = none) (rs : c.R s' H0' H') : Good c G s' σ H0' H' where
  sub := sub
  av := av
  e0 := g.e0.trans e
  e1 := fun a o h hb => k a o (g.e1 a o h hb) hb
  e2 := fun a h h0 => by
    have q := g.e2 a h h0
    by_cases hb : c.B a
    · exact av a hb
    · refine n a ?_ q
      cases hE : c.E a with
      | none => exact (h hE).elim
      | some o => rw [g.e1 a o hE hb]; simp
  rs := rs
  len := g.len
  sl := fun i x hx => by
    have q := g.sl i x hx
    cases x with
    | un => trivial
    | dat d =>
      obtain ⟨v, h1, h2⟩ := q
      exact ⟨v, h1, h2.mono e⟩
    | own w =>
      obtain ⟨p, h1, h2⟩ := q
      have h3 := h2
      obtain ⟨a, b, cb, u, hu, _⟩ := h3
      exact ⟨p, h1, h2.step e (n p (by rw [hu]; simp) a) fun o ho => k p o ho cb⟩
  ds := g.ds
/-- more is there -/
theorem Good.ext (g : Good c G s σ H0 H) (e : Same H0 H0') (sub : Same H0' H') (k : Same H H') (n : ∀ a, H a ≠ none → H0 a = none → H0' a = none) (nB : ∀ a, c.B a → H a = none → H0' a = none) : Good c G s σ H0' H' :=
  g.go e sub (fun a hb => by
    by_cases h : H a = none
    · exact nB a hb h
    · exact n a h (g.av a hb)) (fun a o h _ => k a o h) n (c.stab _ _ _ _ _ g.rs e fun a o _ h => k a o h)
/-- an object of one's own, from now on data -/
theorem Good.freeze {xs : List V} {ds : List D} (g : Good c G s σ H0 H) (o : Own c H0 H p (.lst ds)) (ap : Apart G σ p) : ∃ H0', Good c G s σ H0' H ∧ Same H0 H0' ∧ Rep c.K H0' (.ref p) (.lst ds) := by
  obtain ⟨a, b, nb, u, hu, k⟩ := o
  cases u with
  | lst xs =>
    have e : Same H0 (upd H0 p (.lst xs)) := fun q o hq => by
      rw [upd_ne (ne_of_none hq a)]
      exact hq
    have sub : Same (upd H0 p (.lst xs)) H := fun q o hq => by
      by_cases hp : q = p
      · subst hp
        rw [upd_same] at hq
        rw [hu]
        exact hq
      · rw [upd_ne hp] at hq
        exact g.sub _ _ hq
    refine ⟨_, ?_, e, .lst upd_same (RepAll.mono e k)⟩
    have nne : ∀ q, q ≠ p → H0 q = none → upd H0 p (.lst xs) q = none := fun q hq h => by
      rw [upd_ne hq]
      exact h
    refine ⟨sub, fun q hb => nne q (fun z => nb (z ▸ hb)) (g.av q hb), g.e0.trans e, g.e1, fun q h h0 => nne q (fun z => h (z ▸ b)) (g.e2 q h h0), c.stab _ _ _ _ _ g.rs e fun _ _ _ h => h, g.len, fun i x hx => ?_, g.ds⟩
    have q := g.sl i x hx
    cases x with
    | un => trivial
    | dat d =>
      obtain ⟨v, h1, h2⟩ := q
      exact ⟨v, h1, h2.mono e⟩
    | own w =>
      obtain ⟨r, h1, h2⟩ := q
      refine ⟨r, h1, h2.step e (nne r (fun z => ?_) h2.1) fun o h => h⟩
      subst z
      refine ap i w hx ?_
      cases hs : σ[i]? with
      | none =>
        rw [hs] at h1
        cases h1
      | some y =>
        rw [hs] at h1
        exact congrArg some h1
  | _ => exact False.elim k
theorem WE.mono {te : TE} {P P' : Sl → c.S → Prop} (h : WE c te G s P) (k : ∀ x s', P x s' → P' x s') : WE c te G s P' := fun σ F H0 H g Q q => h σ F H0 H g Q fun x s' v H0' H' hp => q x s' v H0' H' (k x s' hp)
theorem WT.mono {tt : TT} {P P' : Bool → c.S → Prop} (h : WT c tt G s P) (k : ∀ x s', P x s' → P' x s') : WT c tt G s P' := fun σ F H0 H g Q q => h σ F H0 H g Q fun x s' H0' H' hp => q x s' H0' H' (k x s' hp)
theorem WA.mono {ta : TA} {P P' : List D → c.S → Prop} (h : WA c ta G s P) (k : ∀ x s', P x s' → P' x s') : WA c ta G s P' := fun σ F H0 H g Q q => h σ F H0 H g Q fun x s' v H0' H' hp => q x s' v H0' H' (k x s' hp)
theorem Good.at (g : Good c G s σ H0 H) {i : Nat} {d : D} (h : G[i]? = some (.dat d)) : ∃ v, σ[i]? = some (some v) ∧ Rep c.K H0 v d := by
  obtain ⟨v, h1, h2⟩ := g.sl i _ h
  refine ⟨v, ?_, h2⟩
  cases hs : σ[i]? with
  | none =>
    rw [hs] at h1
    cases h1
  | some y =>
    rw [hs] at h1
    exact congrArg some h1
theorem Good.ownAt (g : Good c G s σ H0 H) {i : Nat} {w : OV} (h : G[i]? = some (.own w)) : ∃ p, σ[i]? = some (some (.ref p)) ∧ Own c H0 H p w := by
  obtain ⟨v, h1, h2⟩ := g.sl i _ h
  refine ⟨v, ?_, h2⟩
  cases hs : σ[i]? with
  | none =>
    rw [hs] at h1
    cases h1
  | some y =>
    rw [hs] at h1
    exact congrArg some h1
/-- a name gets what came out -/
theorem Good.setSl {x : Sl} (g : Good c G s σ H0 H) (i : Nat) (r : ROk c G σ H0 H v x) : Good c (G.set i x) s (σ.set i (some v)) H0 H where
  sub := g.sub
  av := g.av
  e0 := g.e0
  e1 := g.e1
  e2 := g.e2
  rs := g.rs
  len := by rw [List.length_set, List.length_set, g.len]
  sl := fun j y hy => by
    rw [List.getElem?_set] at hy
    rw [List.getElem?_set]
    by_cases hij : i = j
    · subst hij
      rw [if_pos rfl] at hy
      rw [if_pos rfl]
      split at hy
      · cases hy
        rename_i hl
        rw [if_pos (by rw [g.len]; exact hl)]
        cases x with
        | un => trivial
        | dat d => exact ⟨v, rfl, r⟩
        | own w =>
          obtain ⟨p, rfl, o, _⟩ := r
          exact ⟨p, rfl, o⟩
      · cases hy
    · rw [if_neg hij] at hy
      rw [if_neg hij]
      exact g.sl j y hy
  ds := fun a b p w w' hab ha hb h1 h2 => by
    rw [List.getElem?_set] at ha hb h1 h2
    by_cases hia : i = a
    · subst hia
      rw [if_neg hab] at hb h2
      rw [if_pos rfl] at ha h1
      split at ha
      · cases ha
        split at h1
        · cases h1
          obtain ⟨q, hq, _, ap⟩ := r
          cases hq
          exact ap b w' hb h2
        · cases h1
      · cases ha
    · rw [if_neg hia] at ha h1
      by_cases hib : i = b
      · subst hib
        rw [if_pos rfl] at hb h2
        split at hb
        · cases hb
          split at h2
          · cases h2
            obtain ⟨q, hq, _, ap⟩ := r
            cases hq
            exact ap a w ha h1
          · cases h2
        · cases hb
      · rw [if_neg hib] at hb h2
        exact g.ds a b p w w' hab ha hb h1 h2
theorem Good.newE (g : Good c G s σ H0 H) {p : Addr} (hp : H p = none) : c.E p = none ∧ ¬ c.B p ∧ H0 p = none := by
  have nb : ¬ c.B p := fun h => c.there _ _ _ _ g.rs h hp
  refine ⟨?_, nb, g.sub.free hp⟩
  cases h : c.E p with
  | none => rfl
  | some o =>
    have q := g.e1 p o h nb
    rw [hp] at q
    cases q
theorem Good.apart (g : Good c G s σ H0 H) {p : Addr} (hp : H p = none) : Apart G σ p := fun i w hw hs => by
  obtain ⟨q, h1, o⟩ := g.ownAt hw
  rw [h1] at hs
  cases hs
  obtain ⟨_, _, _, u, hu, _⟩ := o
  rw [hp] at hu
  cases hu
/-- a new object, seen by nobody else -/
theorem Good.push (g : Good c G s σ H0 H) {p : Addr} {o : HO} (hp : H p = none) : Good c G s σ H0 (upd H p o) := by
  have k : Same H (upd H p o) := fun a u h => by
    rw [upd_ne (ne_of_none h hp)]
    exact h
  exact g.ext (Same.refl _) (g.sub.trans k) k (fun _ _ h => h) fun a hb _ => g.av a hb
/-- a new object, data from now on -/
theorem Good.lay (g : Good c G s σ H0 H) {p : Addr} {o : HO} (hp : H p = none) : Good c G s σ (upd H0 p o) (upd H p o) ∧ Same H0 (upd H0 p o) := by
  obtain ⟨n1, n2, n3⟩ := g.newE hp
  have k : Same H (upd H p o) := fun a u h => by
    rw [upd_ne (ne_of_none h hp)]
    exact h
  have k0 : Same H0 (upd H0 p o) := fun a u h => by
    rw [upd_ne (ne_of_none h n3)]
    exact h
  refine ⟨g.ext k0 (fun a u h => ?_) k (fun a h h0 => ?_) fun a hb _ => ?_, k0⟩
  · by_cases e : a = p
    · subst e
      rw [upd_same] at h ⊢
      exact h
    · rw [upd_ne e] at h ⊢
      exact g.sub a u h
  · rw [upd_ne (fun z => by subst z; exact h hp)]
    exact h0
  · rw [upd_ne (fun z => by subst z; exact n2 hb)]
    exact g.av a hb
theorem Good.rok (g : Good c G s σ H0 H) {p : Addr} {u : HO} (hp : H p = none) (k : OvOk c.K H0 p u w) : ROk c G σ H0 (upd H p u) (.ref p) (.own w) := by
  obtain ⟨n1, n2, n3⟩ := g.newE hp
  exact ⟨p, rfl, ⟨n3, n1, n2, u, upd_same, k⟩, g.apart hp⟩
end
section
variable {c : Ct} {G : List Sl} {s s' : c.S} {σ : L2.St} {F : Frm} {H0 H H0' H' : Hp} {p : Addr} {w : OV} {d : D} {v : V}
theorem Gd.at (g : Gd c G s σ F H0 H) {i : Nat} (h : G[i]? = some (.dat d)) : ∃ v, σ[i]? = some (some v) ∧ Rep c.K H0 v d := by
  have hi : i < G.length := (List.getElem?_eq_some_iff.mp h).1
  obtain ⟨v, h1, h2⟩ := g.gd.at (i := i) (d := d) (by rw [List.getElem?_append_left hi]; exact h)
  rw [List.getElem?_append_left (by rw [g.ln]; exact hi)] at h1
  exact ⟨v, h1, h2⟩
theorem Gd.ownAt (g : Gd c G s σ F H0 H) {i : Nat} (h : G[i]? = some (.own w)) : ∃ p, σ[i]? = some (some (.ref p)) ∧ Own c H0 H p w := by
  have hi : i < G.length := (List.getElem?_eq_some_iff.mp h).1
  obtain ⟨v, h1, h2⟩ := g.gd.ownAt (i := i) (w := w) (by rw [List.getElem?_append_left hi]; exact h)
  rw [List.getElem?_append_left (by rw [g.ln]; exact hi)] at h1
  exact ⟨v, h1, h2⟩
theorem Gd.push (g : Gd c G s σ F H0 H) {o : HO} (hp : H p = none) : Gd c G s σ F H0 (upd H p o) := ⟨g.ln, g.gd.push hp⟩
theorem Gd.lay (g : Gd c G s σ F H0 H) {o : HO} (hp : H p = none) : Gd c G s σ F (upd H0 p o) (upd H p o) ∧ Same H0 (upd H0 p o) := ⟨⟨g.ln, (g.gd.lay hp).1⟩, (g.gd.lay (o := o) hp).2⟩
theorem Gd.rok (g : Gd c G s σ F H0 H) {u : HO} (hp : H p = none) (k : OvOk c.K H0 p u w) : RO c G σ F H0 (upd H p u) (.ref p) (.own w) := g.gd.rok hp k
theorem WE.use {te : TE} {P : D → c.S → Prop} (h : WE c te G s (FZ P)) (g : Gd c G s σ F H0 H) {Q : VK}
    (q : ∀ d s' v H0' H', P d s' → Gd c G s' σ F H0' H' → Same H0 H0' → Rep c.K H0' v d → Q v H') : te σ H Q :=
  h σ F H0 H g Q fun x s' v H0' H' hp g' e r => by
    cases x with
    | un => exact False.elim hp
    | dat d => exact q d s' v H0' H' hp g' e r
    | own w =>
      obtain ⟨p, rfl, o, ap⟩ := r
      cases w with
      | lst ds =>
        obtain ⟨H1, g1, e1, r1⟩ := g'.gd.freeze (xs := []) o ap
        exact q _ s' _ H1 H' hp ⟨g'.ln, g1⟩ (e.trans e1) r1
      | dk _ => exact False.elim hp
      | dt _ => exact False.elim hp
      | ob _ => exact False.elim hp
/-- a value more beside the names -/
theorem Good.more {x : Sl} (g : Good c G s σ H0 H) (r : ROk c G σ H0 H v x) : Good c (G ++ [x]) s (σ ++ [some v]) H0 H where
  sub := g.sub
  av := g.av
  e0 := g.e0
  e1 := g.e1
  e2 := g.e2
  rs := g.rs
  len := by rw [List.length_append, List.length_append, g.len]; rfl
  sl := fun i y hy => by
    by_cases hi : i < G.length
    · rw [List.getElem?_append_left hi] at hy
      rw [List.getElem?_append_left (by rw [g.len]; exact hi)]
      exact g.sl i y hy
    · rw [List.getElem?_append_right (by omega)] at hy
      rw [List.getElem?_append_right (by rw [g.len]; omega), g.len]
      have hz : i - G.length = 0 := by
        have := (List.getElem?_eq_some_iff.mp hy).1
        simp at this
        omega
      rw [hz] at hy ⊢
      cases hy
      cases x with
      | un => trivial
      | dat d => exact ⟨v, rfl, r⟩
      | own w =>
        obtain ⟨p, rfl, o, _⟩ := r
        exact ⟨p, rfl, o⟩
  ds := fun a b p w w' hab ha hb h1 h2 => by
    have key : ∀ (i : Nat) (w : OV), (G ++ [x])[i]? = some (.own w) → (σ ++ [some v])[i]? = some (some (.ref p)) → (G[i]? = some (.own w) ∧ σ[i]? = some (some (.ref p))) ∨ (i = G.length ∧ x = .own w ∧ v = .ref p) := fun i w hi hs => by
      by_cases hl : i < G.length
      · rw [List.getElem?_append_left hl] at hi
        rw [List.getElem?_append_left (by rw [g.len]; exact hl)] at hs
        exact .inl ⟨hi, hs⟩
      · rw [List.getElem?_append_right (by omega)] at hi
        rw [List.getElem?_append_right (by rw [g.len]; omega), g.len] at hs
        have hz : i - G.length = 0 := by
          have := (List.getElem?_eq_some_iff.mp hi).1
          simp at this
          omega
        rw [hz] at hi hs
        simp at hi hs
        exact .inr ⟨by omega, hi, hs⟩
    rcases key a w ha h1 with q1 | q1 <;> rcases key b w' hb h2 with q2 | q2
    · exact g.ds a b p w w' hab q1.1 q2.1 q1.2 q2.2
    · obtain ⟨_, rfl, rfl⟩ := q2
      obtain ⟨q, hq, _, ap⟩ := r
      cases hq
      exact ap a w q1.1 q1.2
    · obtain ⟨_, rfl, rfl⟩ := q1
      obtain ⟨q, hq, _, ap⟩ := r
      cases hq
      exact ap b w' q2.1 q2.2
    · exact hab (q1.1.trans q2.1.symm)
theorem Gd.more {x : Sl} (g : Gd c G s σ F H0 H) (r : RO c G σ F H0 H v x) : Gd c G s σ (F.1 ++ [x], F.2 ++ [some v]) H0 H :=
  ⟨g.ln, by rw [← List.append_assoc, ← List.append_assoc]; exact g.gd.more r⟩
/-- what is beside the names may be forgotten -/
theorem Good.less {X : List Sl} {ξ : L2.St} (g : Good c (G ++ X) s (σ ++ ξ) H0 H) (hl : σ.length = G.length) : Good c G s σ H0 H where
  sub := g.sub
  av := g.av
  e0 := g.e0
  e1 := g.e1
  e2 := g.e2
  rs := g.rs
  len := hl
  sl := fun i y hy => by
    have hi : i < G.length := (List.getElem?_eq_some_iff.mp hy).1
    have q := g.sl i y (by rw [List.getElem?_append_left hi]; exact hy)
    rw [List.getElem?_append_left (by rw [hl]; exact hi)] at q
    exact q
  ds := fun a b p w w' hab ha hb h1 h2 => by
    have ia : a < G.length := (List.getElem?_eq_some_iff.mp ha).1
    have ib : b < G.length := (List.getElem?_eq_some_iff.mp hb).1
    exact g.ds a b p w w' hab (by rw [List.getElem?_append_left ia]; exact ha) (by rw [List.getElem?_append_left ib]; exact hb) (by rw [List.getElem?_append_left (by rw [hl]; exact ia)]; exact h1) (by rw [List.getElem?_append_left (by rw [hl]; exact ib)]; exact h2)
theorem Gd.less {X : List Sl} {ξ : L2.St} (g : Gd c G s σ (F.1 ++ X, F.2 ++ ξ) H0 H) (hl : F.2.length = F.1.length) : Gd c G s σ F H0 H :=
  ⟨g.ln, by
    have q := g.gd
    rw [← List.append_assoc, ← List.append_assoc] at q
    exact q.less (by rw [List.length_append, List.length_append, g.ln, hl])⟩
theorem Gd.fl (g : Gd c G s σ F H0 H) : F.2.length = F.1.length := by
  have q := g.gd.len
  rw [List.length_append, List.length_append, g.ln] at q
  omega
theorem Gd.of (g : Good c G s σ H0 H) : Gd c G s σ ([], []) H0 H := ⟨g.len, by rw [List.append_nil, List.append_nil]; exact g⟩
theorem Gd.to (g : Gd c G s σ F H0 H) : Good c G s σ H0 H := g.gd.less g.ln
/-- a name is forgotten -/
theorem Good.forget (g : Good c G s σ H0 H) (i : Nat) : Good c (G.set i .un) s σ H0 H where
  sub := g.sub
  av := g.av
  e0 := g.e0
  e1 := g.e1
  e2 := g.e2
  rs := g.rs
  len := by rw [List.length_set]; exact g.len
  sl := fun j y hy => by
    rw [List.getElem?_set] at hy
    split at hy
    · split at hy
      · cases hy
        trivial
      · cases hy
    · exact g.sl j y hy
  ds := fun a b p w w' hab ha hb h1 h2 => by
    rw [List.getElem?_set] at ha hb
    split at ha
    · split at ha <;> cases ha
    · split at hb
      · split at hb <;> cases hb
      · exact g.ds a b p w w' hab ha hb h1 h2
end
end DL
/-! DLb: rules for expressions -/
namespace DL
open PySem L2
section
variable {c : Ct} {G : List Sl} {s : c.S} {P : Sl → c.S → Prop}
theorem we_var {i : Nat} {d : D} (h : G[i]? = some (.dat d)) (k : P (.dat d) s) : WE c (tVar i) G s P := fun σ F H0 H g Q q => by
  obtain ⟨v, h1, r⟩ := g.at h
  exact ⟨v, h1, q _ s v H0 H k g (Same.refl _) r⟩
theorem we_int {i : Int} (k : P (.dat (.int i)) s) : WE c (tC (.int i)) G s P := fun σ F H0 H g Q q => q _ s _ H0 H k g (Same.refl _) (.int i)
theorem we_str {x : Str} (k : P (.dat (.str x)) s) : WE c (tC (.str x)) G s P := fun σ F H0 H g Q q => q _ s _ H0 H k g (Same.refl _) (.str x)
theorem we_bl {b : Bool} (k : P (.dat (.bl b)) s) : WE c (tC (.bl b)) G s P := fun σ F H0 H g Q q => q _ s _ H0 H k g (Same.refl _) (.bl b)
theorem we_non (k : P (.dat .non) s) : WE c (tC .non) G s P := fun σ F H0 H g Q q => q _ s _ H0 H k g (Same.refl _) .non
theorem we_ref {a : Addr} (k : P (.dat (.ref a)) s) : WE c (tC (.ref a)) G s P := fun σ F H0 H g Q q => q _ s _ H0 H k g (Same.refl _) (.ref a)
/-- an operation on two data -/
def DOp (c : Ct) (r : R2) (x y : D) (G : List Sl) (s : c.S) (P : Sl → c.S → Prop) : Prop :=
  ∀ σ F H0 H v w, Gd c G s σ F H0 H → Rep c.K H0 v x → Rep c.K H0 w y → ∀ Q : VK, (∀ z s' u H0' H', P z s' → Gd c G s' σ F H0' H' → Same H0 H0' → RO c G σ F H0' H' u z → Q u H') → r v w H Q
def DUn (c : Ct) (r : V → Hp → VK → Prop) (x : D) (G : List Sl) (s : c.S) (P : Sl → c.S → Prop) : Prop :=
  ∀ σ F H0 H v, Gd c G s σ F H0 H → Rep c.K H0 v x → ∀ Q : VK, (∀ z s' u H0' H', P z s' → Gd c G s' σ F H0' H' → Same H0 H0' → RO c G σ F H0' H' u z → Q u H') → r v H Q
/-- a call of what is built in, on data -/
def DCB (c : Ct) (r : List V → Hp → VK → Prop) (ds : List D) (G : List Sl) (s : c.S) (P : Sl → c.S → Prop) : Prop :=
  ∀ σ F H0 H vs, Gd c G s σ F H0 H → RepAll c.K H0 vs ds → ∀ Q : VK, (∀ z s' u H0' H', P z s' → Gd c G s' σ F H0' H' → Same H0 H0' → RO c G σ F H0' H' u z → Q u H') → r vs H Q
theorem we_op {r : R2} {ta tb : TE} (h : WE c ta G s (FZ fun x s1 => WE c tb G s1 (FZ fun y s2 => DOp c r x y G s2 P))) : WE c (tOp r ta tb) G s P := fun σ F H0 H g Q q =>
  h.use g fun x s1 v H1 H1' hp g1 e1 r1 => hp.use g1 fun y s2 w H2 H2' hp2 g2 e2 r2 =>
    hp2 σ F H2 H2' v w g2 (r1.mono e2) r2 Q fun z s' u H3 H3' a b e d => q z s' u H3 H3' a b ((e1.trans e2).trans e) d
theorem we_un {r : V → Hp → VK → Prop} {ta : TE} (h : WE c ta G s (FZ fun x s1 => DUn c r x G s1 P)) : WE c (tUn r ta) G s P := fun σ F H0 H g Q q =>
  h.use g fun x s1 v H1 H1' hp g1 e1 r1 => hp σ F H1 H1' v g1 r1 Q fun z s' u H3 H3' a b e d => q z s' u H3 H3' a b (e1.trans e) d
theorem wa_nil {P : List D → c.S → Prop} (k : P [] s) : WA c tNil G s P := fun σ F H0 H g Q q => q [] s [] H0 H k g (Same.refl _) .nil
theorem wa_cons {P : List D → c.S → Prop} {ta : TE} {tr : TA} (h : WE c ta G s (FZ fun x s1 => WA c tr G s1 fun ds s2 => P (x :: ds) s2)) : WA c (tCons ta tr) G s P := fun σ F H0 H g Q q =>
  h.use g fun x s1 v H1 H1' hp g1 e1 r1 => hp σ F H1 H1' g1 _ fun ds s2 vs H2 H2' hp2 g2 e2 r2 => q _ s2 _ H2 H2' hp2 g2 (e1.trans e2) (.cons (r1.mono e2) r2)
theorem we_cb {r : List V → Hp → VK → Prop} {ta : TA} (h : WA c ta G s fun ds s1 => DCB c r ds G s1 P) : WE c (tCB r ta) G s P := fun σ F H0 H g Q q =>
  h σ F H0 H g _ fun ds s1 vs H1 H1' hp g1 e1 r1 => hp σ F H1 H1' vs g1 r1 Q fun z s' u H3 H3' a b e d => q z s' u H3 H3' a b (e1.trans e) d
/-- a tuple made -/
theorem we_tup {ta : TA} (h : WA c ta G s fun ds s1 => ds.length ≤ 100000 ∧ P (.dat (.tup ds)) s1) : WE c (tTup ta) G s P := fun σ F H0 H g Q q =>
  h σ F H0 H g _ fun ds s1 vs H1 H1' hp g1 e1 r1 => ⟨by rw [r1.len]; exact Nat.le_trans hp.1 (by decide), fun p hn => by
    obtain ⟨g2, e2⟩ := g1.lay (o := .tup vs) hn
    exact q _ s1 _ _ _ hp.2 g2 (e1.trans e2) (.tup (.inl (.inl upd_same)) (r1.mono e2))⟩
theorem we_lst {ta : TA} (h : WA c ta G s fun ds s1 => ds.length ≤ 100000 ∧ P (.own (.lst ds)) s1) : WE c (tLst ta) G s P := fun σ F H0 H g Q q =>
  h σ F H0 H g _ fun ds s1 vs H1 H1' hp g1 e1 r1 => ⟨by rw [r1.len]; exact Nat.le_trans hp.1 (by decide), fun p hn => q _ s1 _ _ _ hp.2 (g1.push hn) e1 (g1.rok (u := .lst vs) hn r1)⟩
/-! ### tests -/
theorem wt_test {ta : TE} {P : Bool → c.S → Prop} (h : WE c ta G s (FZ fun x s1 => ∃ b, x = .bl b ∧ P b s1)) : WT c (tTest ta) G s P := fun σ F H0 H g Q q =>
  h.use g fun x s1 v H1 H1' hp g1 e1 r1 => by
    obtain ⟨b, rfl, hb⟩ := hp
    cases r1
    exact ⟨b, rfl, q b s1 H1 H1' hb g1 e1⟩
theorem wt_B {ta : TE} {P : Bool → c.S → Prop} (h : WE c ta G s (FZ fun x s1 => ∃ b, x = .bl b ∧ P b s1)) : WT c (tB ta) G s P := fun σ F H0 H g Q q =>
  h.use g fun x s1 v H1 H1' hp g1 e1 r1 => by
    obtain ⟨b, rfl, hb⟩ := hp
    cases r1
    exact ⟨b, rfl, q b s1 H1 H1' hb g1 e1⟩
theorem wt_not {t : TT} {P : Bool → c.S → Prop} (h : WT c t G s fun b s1 => P (!b) s1) : WT c (tNot t) G s P := fun σ F H0 H g Q q =>
  h σ F H0 H g _ fun b s1 H1 H1' hp g1 e1 => q _ s1 H1 H1' hp g1 e1
theorem wt_and {t u : TT} {P : Bool → c.S → Prop} (h : WT c t G s fun b s1 => if b = true then WT c u G s1 P else P false s1) : WT c (tAnd t u) G s P := fun σ F H0 H g Q q =>
  h σ F H0 H g _ fun b s1 H1 H1' hp g1 e1 => by
    cases b with
    | true => exact iteT ((show WT c u G s1 P from hp) σ F H1 H1' g1 Q fun b s2 H2 H2' a b e => q _ s2 H2 H2' a b (e1.trans e))
    | false => exact iteF (q false s1 H1 H1' (show P false s1 from hp) g1 e1)
theorem wt_or {t u : TT} {P : Bool → c.S → Prop} (h : WT c t G s fun b s1 => if b = true then P true s1 else WT c u G s1 P) : WT c (tOr t u) G s P := fun σ F H0 H g Q q =>
  h σ F H0 H g _ fun b s1 H1 H1' hp g1 e1 => by
    cases b with
    | false => exact iteF ((show WT c u G s1 P from hp) σ F H1 H1' g1 Q fun b s2 H2 H2' a b e => q _ s2 H2 H2' a b (e1.trans e))
    | true => exact iteT (q true s1 H1 H1' (show P true s1 from hp) g1 e1)
theorem wt_yes {P : Bool → c.S → Prop} (h : P true s) : WT c tYes G s P := fun σ F H0 H g Q q => q true s H0 H h g (Same.refl _)
theorem we_if {t : TT} {ta tb : TE} (h : WT c t G s fun b s1 => if b = true then WE c ta G s1 P else WE c tb G s1 P) : WE c (tIf t ta tb) G s P := fun σ F H0 H g Q q =>
  h σ F H0 H g _ fun b s1 H1 H1' hp g1 e1 => by
    cases b with
    | true => exact iteT ((show WE c ta G s1 P from hp) σ F H1 H1' g1 Q fun x s2 v H2 H2' a b e r => q _ s2 v H2 H2' a b (e1.trans e) r)
    | false => exact iteF ((show WE c tb G s1 P from hp) σ F H1 H1' g1 Q fun x s2 v H2 H2' a b e r => q _ s2 v H2 H2' a b (e1.trans e) r)
theorem we_andV {ta tb : TE} (h : WE c ta G s (FZ fun x s1 => ∃ b, x = .bl b ∧ if b = true then WE c tb G s1 P else P (.dat (.bl false)) s1)) : WE c (tAndV ta tb) G s P := fun σ F H0 H g Q q =>
  h.use g fun x s1 v H1 H1' hp g1 e1 r1 => by
    obtain ⟨b, rfl, hb⟩ := hp
    cases r1
    refine ⟨b, rfl, ?_⟩
    cases b with
    | true => exact iteT ((show WE c tb G s1 P from hb) σ F H1 H1' g1 Q fun x s2 v H2 H2' a b e r => q _ s2 v H2 H2' a b (e1.trans e) r)
    | false => exact iteF (q _ s1 _ H1 H1' (show P (.dat (.bl false)) s1 from hb) g1 e1 (.bl false))
theorem we_orV {ta tb : TE} (h : WE c ta G s (FZ fun x s1 => ∃ b, x = .bl b ∧ if b = true then P (.dat (.bl true)) s1 else WE c tb G s1 P)) : WE c (tOrV ta tb) G s P := fun σ F H0 H g Q q =>
  h.use g fun x s1 v H1 H1' hp g1 e1 r1 => by
    obtain ⟨b, rfl, hb⟩ := hp
    cases r1
    refine ⟨b, rfl, ?_⟩
    cases b with
    | false => exact iteF ((show WE c tb G s1 P from hb) σ F H1 H1' g1 Q fun x s2 v H2 H2' a b e r => q _ s2 v H2 H2' a b (e1.trans e) r)
    | true => exact iteT (q _ s1 _ H1 H1' (show P (.dat (.bl true)) s1 from hb) g1 e1 (.bl true))
theorem we_notV {ta : TE} (h : WE c ta G s (FZ fun x s1 => ∃ b, x = .bl b ∧ P (.dat (.bl (!b))) s1)) : WE c (tNotV ta) G s P := fun σ F H0 H g Q q =>
  h.use g fun x s1 v H1 H1' hp g1 e1 r1 => by
    obtain ⟨b, rfl, hb⟩ := hp
    cases r1
    exact ⟨b, rfl, q _ s1 _ H1 H1' hb g1 e1 (.bl _)⟩
/-- a < b < c -/
theorem we_chain {r r' : R2} {ta tb tc : TE} (h : WE c ta G s (FZ fun x s1 => WE c tb G s1 (FZ fun y s2 => DOp c r x y G s2 fun z s3 => ∃ b, z = .dat (.bl b) ∧ if b = true then WE c tc G s3 (FZ fun w s4 => DOp c r' y w G s4 P) else P (.dat (.bl false)) s3))) : WE c (tChain r r' ta tb tc) G s P := fun σ F H0 H g Q q =>
  h.use g fun x s1 v H1 H1' hp g1 e1 r1 => hp.use g1 fun y s2 w H2 H2' hp2 g2 e2 r2 =>
    hp2 σ F H2 H2' v w g2 (r1.mono e2) r2 _ fun z s3 u H3 H3' a g3 e3 r3 => by
      obtain ⟨b, rfl, hb⟩ := a
      cases r3
      refine ⟨b, rfl, ?_⟩
      cases b with
      | true =>
        refine iteT ?_
        exact (show WE c tc G s3 _ from hb).use g3 fun y4 s4 w4 H4 H4' hp4 g4 e4 r4 => hp4 σ F H4 H4' w w4 g4 ((r2.mono e3).mono e4) r4 Q fun z5 s5 u5 H5 H5' a5 b5 e5 d5 => q z5 s5 u5 H5 H5' a5 b5 (((e1.trans e2).trans e3).trans (e4.trans e5)) d5
      | false => exact iteF (q _ s3 _ H3 H3' (show P (.dat (.bl false)) s3 from hb) g3 ((e1.trans e2).trans e3) (.bl false))
/-! ### operators -/
theorem dop_I0 {g : Int → Int → V} {f : Int → Int → D} {i j : Int} (hr : ∀ K H0, Rep K H0 (g i j) (f i j)) (k : P (.dat (f i j)) s) : DOp c (rI0 g) (.int i) (.int j) G s P := fun σ F H0 H v w gd r1 r2 Q q => by
  cases r1
  cases r2
  exact ⟨i, j, rfl, rfl, q _ s _ H0 H k gd (Same.refl _) (hr _ _)⟩
theorem dop_add {i j : Int} (k : P (.dat (.int (i + j))) s) : DOp c (rI0 fun i j => .int (i + j)) (.int i) (.int j) G s P := dop_I0 (f := fun i j => .int (i + j)) (fun _ _ => .int _) k
theorem dop_sub {i j : Int} (k : P (.dat (.int (i - j))) s) : DOp c (rI0 fun i j => .int (i - j)) (.int i) (.int j) G s P := dop_I0 (f := fun i j => .int (i - j)) (fun _ _ => .int _) k
theorem dop_lt {i j : Int} (k : P (.dat (.bl (decide (i < j)))) s) : DOp c (rI0 fun i j => .bl (decide (i < j))) (.int i) (.int j) G s P := dop_I0 (f := fun i j => .bl (decide (i < j))) (fun _ _ => .bl _) k
theorem dop_le {i j : Int} (k : P (.dat (.bl (decide (i ≤ j)))) s) : DOp c (rI0 fun i j => .bl (decide (i ≤ j))) (.int i) (.int j) G s P := dop_I0 (f := fun i j => .bl (decide (i ≤ j))) (fun _ _ => .bl _) k
theorem dop_gt {i j : Int} (k : P (.dat (.bl (decide (j < i)))) s) : DOp c (rI0 fun i j => .bl (decide (j < i))) (.int i) (.int j) G s P := dop_I0 (f := fun i j => .bl (decide (j < i))) (fun _ _ => .bl _) k
theorem dop_ge {i j : Int} (k : P (.dat (.bl (decide (j ≤ i)))) s) : DOp c (rI0 fun i j => .bl (decide (j ≤ i))) (.int i) (.int j) G s P := dop_I0 (f := fun i j => .bl (decide (j ≤ i))) (fun _ _ => .bl _) k
theorem dop_I {C : Int → Int → Prop} {g : Int → Int → V} {f : Int → Int → D} {i j : Int} (hc : C i j) (hr : ∀ K H0, Rep K H0 (g i j) (f i j)) (k : P (.dat (f i j)) s) : DOp c (rI C g) (.int i) (.int j) G s P := fun σ F H0 H v w gd r1 r2 Q q => by
  cases r1
  cases r2
  exact ⟨i, j, rfl, rfl, hc, q _ s _ H0 H k gd (Same.refl _) (hr _ _)⟩
/-- == and != of plain values -/
def scD : D → D → Option Bool
  | .int i, .int j => some (decide (i = j))
  | .str x, .str y => some (decide (x = y))
  | .bl x, .bl y => some (decide (x = y))
  | .non, .non => some true
  | _, _ => none
theorem scD_V {K : PySem.W.Frag} {H : Hp} {v w : V} {x y : D} {b : Bool} (r1 : Rep K H v x) (r2 : Rep K H w y) (h : scD x y = some b) : scal v w = true ∧ decide (v = w) = b := by
  unfold scD at h
  split at h <;> cases h <;> cases r1 <;> cases r2 <;> refine ⟨rfl, ?_⟩ <;> first | rfl | simp
theorem dop_eq {x y : D} {b : Bool} (h : scD x y = some b) (k : P (.dat (.bl b)) s) : DOp c rEq x y G s P := fun σ F H0 H v w gd r1 r2 Q q => by
  obtain ⟨h1, h2⟩ := scD_V r1 r2 h
  exact ⟨h1, by rw [h2]; exact q _ s _ H0 H k gd (Same.refl _) (.bl b)⟩
theorem dop_ne {x y : D} {b : Bool} (h : scD x y = some b) (k : P (.dat (.bl (!b))) s) : DOp c rNe x y G s P := fun σ F H0 H v w gd r1 r2 Q q => by
  obtain ⟨h1, h2⟩ := scD_V r1 r2 h
  exact ⟨h1, by rw [h2]; exact q _ s _ H0 H k gd (Same.refl _) (.bl _)⟩
end
end DL
/-! DLc: statements, calls, loops, comprehensions, what a def promises -/
namespace DL
open PySem L2
structure Ds (S : Type) where
  nx : List Sl → S → Prop
  rt : Sl → S → Prop
  bk : List Sl → S → Prop := fun _ _ => False
  ct : List Sl → S → Prop := fun _ _ => False
/-- what follows is served: H0 the ground at the start, n how many names -/
structure EOk (c : Ct) (D : Ends) (P : Ds c.S) (H0 : Hp) (n : Nat) : Prop where
  nx : ∀ G s σ H0' H, P.nx G s → Good c G s σ H0' H → Same H0 H0' → G.length = n → D.nx σ H
  rt : ∀ x s v G σ H0 H, P.rt x s → Good c G s σ H0 H → ROk c G σ H0 H v x → D.rt v H
  bk : ∀ G s σ H0' H, P.bk G s → Good c G s σ H0' H → Same H0 H0' → G.length = n → D.bk σ H
  ct : ∀ G s σ H0' H, P.ct G s → Good c G s σ H0' H → Same H0 H0' → G.length = n → D.ct σ H
theorem EOk.on {c : Ct} {D : Ends} {P : Ds c.S} {H0 H1 : Hp} {n : Nat} (e : EOk c D P H0 n) (k : Same H0 H1) : EOk c D P H1 n :=
  ⟨fun G s σ H0' H a b d l => e.nx G s σ H0' H a b (k.trans d) l, e.rt, fun G s σ H0' H a b d l => e.bk G s σ H0' H a b (k.trans d) l, fun G s σ H0' H a b d l => e.ct G s σ H0' H a b (k.trans d) l⟩
def WS (c : Ct) (t : TS) (G : List Sl) (s : c.S) (P : Ds c.S) : Prop := ∀ σ H0 H, Good c G s σ H0 H → ∀ D : Ends, EOk c D P H0 G.length → t D σ H
section
variable {c : Ct} {G : List Sl} {s : c.S} {P : Ds c.S}
/-! ### arguments, objects of one's own among them -/
theorem wao_nil {P : List Sl → c.S → Prop} (k : P [] s) : WAO c tNil G s P := fun σ F H0 H g Q q => q [] s [] H0 H k (by simpa using g) (Same.refl _) rfl
theorem wao_cons {P : List Sl → c.S → Prop} {ta : TE} {tr : TA} (h : WE c ta G s fun x s1 => WAO c tr G s1 fun xs s2 => P (x :: xs) s2) : WAO c (tCons ta tr) G s P := fun σ F H0 H g Q q =>
  h σ F H0 H g _ fun x s1 v H1 H1' hp g1 e1 r1 => hp σ _ H1 H1' (g1.more r1) _ fun xs s2 vs H2 H2' hp2 g2 e2 hl =>
    q _ s2 _ H2 H2' hp2 (by simpa [List.append_assoc] using g2) (e1.trans e2) (by simp [hl])
/-! ### statements -/
theorem ws_next (k : P.nx G s) : WS c tNext G s P := fun σ H0 H g D e => e.nx G s σ H0 H k g (Same.refl _) rfl
theorem ws_brk (k : P.bk G s) : WS c tBreak G s P := fun σ H0 H g D e => e.bk G s σ H0 H k g (Same.refl _) rfl
theorem ws_cnt (k : P.ct G s) : WS c tCont G s P := fun σ H0 H g D e => e.ct G s σ H0 H k g (Same.refl _) rfl
theorem ws_seq {t u : TS} (h : WS c t G s { P with nx := fun G1 s1 => WS c u G1 s1 P }) : WS c (tSeq t u) G s P := fun σ H0 H g D e =>
  h σ H0 H g { D with nx := u D } ⟨fun G1 s1 σ1 H1 H1' hp g1 k hl => hp σ1 H1 H1' g1 D (hl ▸ e.on k), e.rt, e.bk, e.ct⟩
theorem ws_asg {te : TE} {i : Nat} (h : WE c te G s fun x s1 => P.nx (G.set i x) s1) : WS c (tAsg te (gName i)) G s P := fun σ H0 H g D e =>
  h σ ([], []) H0 H (Gd.of g) _ fun x s1 v H1 H1' hp g1 e1 r1 => by
    have g2 := g1.to
    refine e.nx _ s1 _ H1 H1' hp (g2.setSl i ?_) e1 (List.length_set ..)
    simpa [RO] using r1
theorem ws_drop {te : TE} (h : WE c te G s fun _ s1 => P.nx G s1) : WS c (tDrop te) G s P := fun σ H0 H g D e =>
  h σ ([], []) H0 H (Gd.of g) _ fun x s1 v H1 H1' hp g1 e1 r1 => e.nx _ s1 _ H1 H1' hp g1.to e1 rfl
theorem ws_ret {te : TE} (h : WE c te G s P.rt) : WS c (tRet te) G s P := fun σ H0 H g D e =>
  h σ ([], []) H0 H (Gd.of g) _ fun x s1 v H1 H1' hp g1 e1 r1 => e.rt x s1 v G σ H1 H1' hp g1.to (by simpa [RO] using r1)
theorem ws_retN (h : P.rt (.dat .non) s) : WS c tRetN G s P := fun σ H0 H g D e => e.rt _ s _ G σ H0 H h g .non
/-- return x, an object of one's own -/
theorem ws_retOwn {i : Nat} {w : OV} (hi : G[i]? = some (.own w)) (h : P.rt (.own w) s) : WS c (tRet (tVar i)) G s P := fun σ H0 H g D e => by
  obtain ⟨p, h1, o⟩ := g.ownAt hi
  refine ⟨.ref p, h1, e.rt _ s _ (G.set i .un) σ H0 H h (g.forget i) ⟨p, rfl, o, fun j w' hj hs => ?_⟩⟩
  rw [List.getElem?_set] at hj
  split at hj
  · split at hj <;> cases hj
  · rename_i hne
    exact g.ds i j p w w' hne hi hj h1 hs
theorem ws_if {t : TT} {tu tw : TS} (h : WT c t G s fun b s1 => if b = true then WS c tu G s1 P else WS c tw G s1 P) : WS c (tIfS t tu tw) G s P := fun σ H0 H g D e =>
  h σ ([], []) H0 H (Gd.of g) _ fun b s1 H1 H1' hp g1 e1 => by
    cases b with
    | true => exact iteT ((show WS c tu G s1 P from hp) σ H1 H1' g1.to D (e.on e1))
    | false => exact iteF ((show WS c tw G s1 P from hp) σ H1 H1' g1.to D (e.on e1))
/-- an object of one's own is data from here on -/
theorem ws_freeze {t : TS} (i : Nat) {ds : List D} (hi : G[i]? = some (.own (.lst ds))) (h : WS c t (G.set i (.dat (.lst ds))) s P) : WS c t G s P := fun σ H0 H g D e => by
  obtain ⟨p, h1, o⟩ := g.ownAt hi
  have g1 := g.forget i
  obtain ⟨H1, g2, e2, r⟩ := g1.freeze (xs := []) o fun j w' hj hs => by
    rw [List.getElem?_set] at hj
    split at hj
    · split at hj <;> cases hj
    · rename_i hne
      exact g.ds i j p _ w' hne hi hj h1 hs
  have g3 := g2.setSl (v := .ref p) (x := .dat (.lst ds)) i r
  have e3 : σ.set i (some (.ref p)) = σ := by
    apply List.ext_getElem?
    intro j
    rw [List.getElem?_set]
    split
    · rename_i hij
      subst hij
      rw [h1]
      split
      · rfl
      · rename_i hl
        exact absurd (List.getElem?_eq_some_iff.mp h1).1 hl
    · rfl
  rw [List.set_set, e3] at g3
  exact h σ H1 H g3 D (by rw [List.length_set]; exact e.on e2)
theorem WS.mono {t : TS} {P' : Ds c.S} (h : WS c t G s P) (k1 : ∀ G s, P.nx G s → P'.nx G s) (k2 : ∀ x s, P.rt x s → P'.rt x s) (k3 : ∀ G s, P.bk G s → P'.bk G s) (k4 : ∀ G s, P.ct G s → P'.ct G s) : WS c t G s P' := fun σ H0 H g D e =>
  h σ H0 H g D ⟨fun G s σ H0 H hp => e.nx G s σ H0 H (k1 G s hp), fun x s v G σ H0 H hp => e.rt x s v G σ H0 H (k2 x s hp), fun G s σ H0 H hp => e.bk G s σ H0 H (k3 G s hp), fun G s σ H0 H hp => e.ct G s σ H0 H (k4 G s hp)⟩
/-! ### targets -/
/-- what a target does with a datum -/
def Tg (c : Ct) (g : TG) (is : List Nat) (d : D) (G G' : List Sl) : Prop := ∀ s σ F H0 H v, Gd c G s σ F H0 H → Rep c.K H0 v d → ∀ Q : L2.St → Hp → Prop, (∀ σ', σ'.length = σ.length → (∀ j : Nat, j ∉ is → σ'[j]? = σ[j]?) → Gd c G' s σ' F H0 H → Q σ' H) → g v σ H Q
theorem Gd.set {σ : L2.St} {F : Frm} {H0 H : Hp} {v : V} {x : Sl} (g : Gd c G s σ F H0 H) (i : Nat) (hi : i < G.length) (r : RO c G σ F H0 H v x) : Gd c (G.set i x) s (σ.set i (some v)) F H0 H :=
  ⟨by rw [List.length_set, List.length_set, g.ln], by
    have q := g.gd.setSl i r
    rw [List.set_append_left _ _ hi, List.set_append_left _ _ (by rw [g.ln]; exact hi)] at q
    exact q⟩
theorem tg_name {i : Nat} {d : D} (hi : i < G.length) : Tg c (gName i) [i] d G (G.set i (.dat d)) := fun s σ F H0 H v g r Q q => q _ (List.length_set ..) (fun j hj => List.getElem?_set_ne (fun z => hj (by subst z; exact List.mem_cons_self ..))) (g.set i hi r)
inductive TgL : List Nat → List D → List Sl → List Sl → Prop
  | nil {G : List Sl} : TgL [] [] G G
  | cons {i : Nat} {is : List Nat} {d : D} {ds : List D} {G G' : List Sl} : i < G.length → TgL is ds (G.set i (.dat d)) G' → TgL (i :: is) (d :: ds) G G'
def gNames : List Nat → TGs
  | [] => gNil
  | i :: is => gCons (gName i) (gNames is)
theorem tgs_names : ∀ {is : List Nat} {ds : List D} {G G' : List Sl}, TgL is ds G G' → ∀ s σ F H0 H vs, Gd c G s σ F H0 H → RepAll c.K H0 vs ds → ∀ Q : L2.St → Hp → Prop, (∀ σ', σ'.length = σ.length → (∀ j : Nat, j ∉ is → σ'[j]? = σ[j]?) → Gd c G' s σ' F H0 H → Q σ' H) → gNames is vs σ H Q
  | _, _, _, _, .nil, s, σ, F, H0, H, vs, g, r, Q, q => by
    cases r
    exact ⟨rfl, q σ rfl (fun _ _ => rfl) g⟩
  | _, _, _, _, .cons hi t, s, σ, F, H0, H, vs, g, r, Q, q => by
    cases r with
    | cons r rs => exact ⟨_, _, rfl, tgs_names t s _ F H0 H _ (g.set _ hi r) rs Q fun σ' hl hk => q σ' (hl.trans (List.length_set ..)) fun j hj => (hk j fun z => hj (List.mem_cons_of_mem _ z)).trans (List.getElem?_set_ne (fun z => hj (by subst z; exact List.mem_cons_self ..)))⟩
theorem RepAll.toT {K : PySem.W.Frag} {H0 H : Hp} {v : V} {ds : List D} (e : Same H0 H) (r : Rep K H0 v (.tup ds)) : ∃ a xs, v = .ref a ∧ SqT K H a xs ∧ RepAll K H0 xs ds := by
  cases r with
  | tup h t => exact ⟨_, _, rfl, same_t e h, t⟩
theorem tg_tup {is : List Nat} {n : Nat} {ds : List D} {G' : List Sl} (hn : ds.length = n) (t : TgL is ds G G') : Tg c (gTup c.K n (gNames is)) is (.tup ds) G G' := fun s σ F H0 H v g r Q q => by
  obtain ⟨a, xs, rfl, h, ra⟩ := RepAll.toT g.gd.sub r
  exact ⟨a, xs, rfl, h, ra.len.trans hn, tgs_names t s σ F H0 H xs g ra Q q⟩
theorem ws_asgT {te : TE} {g : TG} (h : WE c te G s (FZ fun d s1 => ∃ is G', Tg c g is d G G' ∧ P.nx G' s1)) : WS c (tAsg te g) G s P := fun σ H0 H gd D e =>
  h.use (Gd.of gd) fun d s1 v H1 H1' hp g1 e1 r1 => by
    obtain ⟨is, G', t, hp⟩ := hp
    exact t s1 σ _ H1 H1' v g1 r1 _ fun σ' hl _ g2 => e.nx _ s1 _ _ _ hp g2.to e1 (by rw [← g2.ln, hl, g1.ln])
/-- several names get several things, objects of one's own among them -/
inductive TgO : List Nat → List Sl → List Sl → List Sl → Prop
  | nil {G : List Sl} : TgO [] [] G G
  | cons {i : Nat} {is : List Nat} {d : Sl} {ds : List Sl} {G G' : List Sl} : i < G.length → TgO is ds (G.set i d) G' → TgO (i :: is) (d :: ds) G G'
/-- the first value beside the names goes to a name -/
theorem Good.take {σ ξ : L2.St} {X : List Sl} {H0 H : Hp} {v : V} {x : Sl} (g : Good c (G ++ x :: X) s (σ ++ some v :: ξ) H0 H) (hl : σ.length = G.length) (i : Nat) (hi : i < G.length) : Good c (G.set i x ++ X) s (σ.set i (some v) ++ ξ) H0 H := by
  have hlen := g.len
  have hX : ξ.length = X.length := by
    simp [hl] at hlen
    omega
  -- the value ahead of the rest
  have hx : (G ++ x :: X)[G.length]? = some x := by rw [List.getElem?_append_right (Nat.le_refl _)]; simp
  have hv : (σ ++ some v :: ξ)[G.length]? = some (some v) := by rw [List.getElem?_append_right (by rw [hl]; exact Nat.le_refl _), hl]; simp
  have ix : ∀ j : Nat, j ≠ i → (G.set i x ++ X)[j]? = (G ++ x :: X)[if j < G.length then j else j + 1]? ∧ (σ.set i (some v) ++ ξ)[j]? = (σ ++ some v :: ξ)[if j < G.length then j else j + 1]? := fun j hj => by
    by_cases h : j < G.length
    · rw [if_pos h, List.getElem?_append_left (by rw [List.length_set]; exact h), List.getElem?_append_left h, List.getElem?_append_left (by rw [List.length_set, hl]; exact h), List.getElem?_append_left (by rw [hl]; exact h), List.getElem?_set_ne (Ne.symm hj), List.getElem?_set_ne (Ne.symm hj)]
      exact ⟨rfl, rfl⟩
    · rw [if_neg h, List.getElem?_append_right (by rw [List.length_set]; omega), List.getElem?_append_right (by omega), List.getElem?_append_right (by rw [List.length_set, hl]; omega), List.getElem?_append_right (by rw [hl]; omega), List.length_set, List.length_set, hl]
      have : j + 1 - G.length = (j - G.length) + 1 := by omega
      rw [this]
      exact ⟨by simp, by simp⟩
  have xi : (G.set i x ++ X)[i]? = some x ∧ (σ.set i (some v) ++ ξ)[i]? = some (some v) := by
    rw [List.getElem?_append_left (by rw [List.length_set]; exact hi), List.getElem?_append_left (by rw [List.length_set, hl]; exact hi)]
    exact ⟨List.getElem?_set_self hi, List.getElem?_set_self (by rw [hl]; exact hi)⟩
  refine ⟨g.sub, g.av, g.e0, g.e1, g.e2, g.rs, by simp [hl, hX], fun j y hy => ?_, fun a b p w w' hab ha hb h1 h2 => ?_⟩
  · by_cases hj : j = i
    · subst hj
      rw [xi.1] at hy
      cases hy
      rw [xi.2]
      have q := g.sl _ _ hx
      rw [hv] at q
      exact q
    · rw [(ix j hj).1] at hy
      rw [(ix j hj).2]
      exact g.sl _ _ hy
  · have key : ∀ (j : Nat) (w : OV), (G.set i x ++ X)[j]? = some (.own w) → (σ.set i (some v) ++ ξ)[j]? = some (some (.ref p)) →
        (G ++ x :: X)[if j = i then G.length else if j < G.length then j else j + 1]? = some (.own w) ∧ (σ ++ some v :: ξ)[if j = i then G.length else if j < G.length then j else j + 1]? = some (some (.ref p)) := fun j w q1 q2 => by
      by_cases hj : j = i
      · subst hj
        rw [if_pos rfl, hx, hv]
        rw [xi.1] at q1
        rw [xi.2] at q2
        exact ⟨q1, q2⟩
      · rw [if_neg hj, ← (ix j hj).1, ← (ix j hj).2]
        exact ⟨q1, q2⟩
    obtain ⟨a1, a2⟩ := key a w ha h1
    obtain ⟨b1, b2⟩ := key b w' hb h2
    refine g.ds _ _ p w w' ?_ a1 b1 a2 b2
    intro z
    by_cases e1 : a = i <;> by_cases e2 : b = i
    · exact hab (e1.trans e2.symm)
    · rw [if_pos e1, if_neg e2] at z
      split at z <;> omega
    · rw [if_neg e1, if_pos e2] at z
      split at z <;> omega
    · rw [if_neg e1, if_neg e2] at z
      split at z <;> split at z <;> omega
theorem tgo_names : ∀ {is : List Nat} {xs : List Sl} {G G' : List Sl}, TgO is xs G G' → ∀ s σ H0 H vs, σ.length = G.length → vs.length = xs.length → Good c (G ++ xs) s (σ ++ vs.map some) H0 H → ∀ Q : L2.St → Hp → Prop, (∀ σ', σ'.length = σ.length → Good c G' s σ' H0 H → Q σ' H) → gNames is vs σ H Q
  | _, _, _, _, .nil, s, σ, H0, H, vs, hl, hv, g, Q, q => by
    cases vs with
    | nil => exact ⟨rfl, q σ rfl (by simpa using g)⟩
    | cons _ _ => cases hv
  | _, _, _, _, .cons hi t, s, σ, H0, H, vs, hl, hv, g, Q, q => by
    cases vs with
    | nil => cases hv
    | cons v vs => exact ⟨_, _, rfl, tgo_names t s _ H0 H _ (by rw [List.length_set, List.length_set, hl]) (Nat.succ.inj hv) (g.take hl _ hi) Q fun σ' hl => q σ' (hl.trans (List.length_set ..))⟩
/-- a, b, c = e1, e2, e3 -/
theorem ws_asgO {ta : TA} {n : Nat} {is : List Nat} (h : WAO c ta G s fun xs s1 => xs.length = n ∧ n ≤ 100000 ∧ ∃ G', TgO is xs G G' ∧ P.nx G' s1) : WS c (tAsg (tTup ta) (gTup c.K n (gNames is))) G s P := fun σ H0 H g D e =>
  h σ ([], []) H0 H (Gd.of g) _ fun xs s1 vs H1 H1' hp g1 e1 hl => by
    obtain ⟨hn, hz, G', t, hp⟩ := hp
    have g2 : Good c (G ++ xs) s1 (σ ++ vs.map some) H1 H1' := by simpa using g1.gd
    refine ⟨by rw [hl, hn]; exact Nat.le_trans hz (by decide), fun p hp' => ⟨p, vs, rfl, .inl (.inl upd_same), hl.trans hn, ?_⟩⟩
    exact tgo_names t s1 σ H1 _ vs g1.ln hl (g2.push hp') _ fun σ' hs g3 => e.nx _ s1 σ' H1 _ hp g3 e1 (by rw [← g3.len, hs, g1.ln])
theorem ws_par {ta : TA} {i j : Nat} (hi : i < G.length) (hj : j < G.length) (h : WAO c ta G s fun xs s1 => ∃ x y, xs = [x, y] ∧ P.nx ((G.set i x).set j y) s1) : WS c (tPar i j ta) G s P := fun σ H0 H g D e =>
  h σ ([], []) H0 H (Gd.of g) _ fun xs s1 vs H1 H1' hp g1 e1 hl => by
    obtain ⟨x, y, rfl, hp⟩ := hp
    have g2 : Good c (G ++ [x, y]) s1 (σ ++ vs.map some) H1 H1' := by simpa using g1.gd
    match vs, hl, g2 with
    | [v, w], _, g2 =>
      refine ⟨v, w, rfl, e.nx _ s1 _ H1 H1' hp ?_ e1 (by rw [List.length_set, List.length_set])⟩
      have g3 := g2.take g1.ln i hi
      have g4 := g3.take (x := y) (X := []) (by rw [List.length_set, List.length_set, g1.ln]) j (by rw [List.length_set]; exact hj)
      simpa using g4
end
end DL
/-! DLd: promises of defs over data, their calls; loops; comprehensions -/
namespace DL
open PySem L2
/-- what comes back from a def: v in H', where the caller's heap was H -/
def ResOk (K : PySem.W.Frag) (B : Addr → Prop) (H H0' H' : Hp) (v : V) : Sl → Prop
  | .un => True
  | .dat d => Rep K H0' v d
  | .own w => ∃ p, v = .ref p ∧ H0' p = none ∧ H p = none ∧ ¬ B p ∧ ∃ u, H' p = some u ∧ OvOk K H0' p u w
/-- how the ground lies behind a call -/
structure Step {S : Type} (R : S → Hp → Hp → Prop) (B : Addr → Prop) (s' : S) (H0 H H0' H' : Hp) : Prop where
  ex : Same H0 H0'
  sub : Same H0' H'
  fr : ∀ a o, H a = some o → ¬ B a → H' a = some o
  nw : ∀ a, H a ≠ none → H0 a = none → H0' a = none
  av : ∀ a, B a → H0' a = none
  rs : R s' H0' H'
/-- the promise of a def at given data: P of what it hands back, XP of the errors that leave it -/
def SpOf (K : PySem.W.Frag) {S : Type} (R : S → Hp → Hp → Prop) (B : Addr → Prop) (ds : List D) (s : S) (P : Sl → S → Prop) (XP : Addr → D → S → Prop) : Sp := fun vs H Q E =>
  ∃ H0, Same H0 H ∧ (∀ a, B a → H0 a = none) ∧ RepAll K H0 vs ds ∧ R s H0 H ∧
    (∀ x s' v H0' H', P x s' → Step R B s' H0 H H0' H' → ResOk K B H H0' H' v x → Q v H') ∧
    (∀ C d s' v a H0' H', XP C d s' → Step R B s' H0 H H0' H' → (H a = none ∧ H' a = some (.xd [("value", v)])) → Rep K H0' v d → E (.ref C) (some a) H')
/-- a def that touches nothing -/
def noR : Unit → Hp → Hp → Prop := fun _ _ _ => True
def noB : Addr → Prop := fun _ => False
abbrev FSpec := List D → (Sl → Prop) → (Addr → D → Prop) → Prop
def PureSp (K : PySem.W.Frag) (f : FSpec) : Sp := fun vs H Q E => ∃ ds P XP, f ds P XP ∧ SpOf K noR noB ds () (fun x _ => P x) (fun C d _ => XP C d) vs H Q E
/-- a def that works on the object at the place of its first argument -/
structure Res where
  S : Type
  R : Addr → S → Hp → Hp → Prop
  B : Addr → Addr → Prop
  stab : ∀ p s H0 H H0' H', R p s H0 H → Same H0 H0' → (∀ a o, B p a → H a = some o → H' a = some o) → R p s H0' H'
  there : ∀ p s H0 H a, R p s H0 H → B p a → H a ≠ none
abbrev RSpec (r : Res) := Addr → List D → r.S → (Sl → r.S → Prop) → (Addr → D → r.S → Prop) → Prop
def ResSp (K : PySem.W.Frag) (r : Res) (f : RSpec r) : Sp := fun vs H Q E => ∃ p ds s P XP, f p ds s P XP ∧ SpOf K (r.R p) (r.B p) (.ref p :: ds) s P XP vs H Q E
section
variable {c : Ct} {G : List Sl} {s : c.S} {P : Sl → c.S → Prop}
/-- behind a call of a def that touches nothing -/
theorem Gd.stepPure {σ : L2.St} {F : Frm} {H0 H H0' H' : Hp} (g : Gd c G s σ F H0 H) (t : Step noR noB () H0 H H0' H') : Gd c G s σ F H0' H' :=
  ⟨g.ln, g.gd.ext t.ex t.sub (fun a o h => t.fr a o h (fun z => z)) t.nw fun a hb h => by
    exact absurd h (c.there _ _ _ _ g.gd.rs hb)⟩
theorem Gd.resPure {σ : L2.St} {F : Frm} {H0 H H0' H' : Hp} {v : V} {x : Sl} (g : Gd c G s σ F H0 H) (t : Step noR noB () H0 H H0' H') (r : ResOk c.K noB H H0' H' v x) : RO c G σ F H0' H' v x := by
  cases x with
  | un => trivial
  | dat d => exact r
  | own w =>
    obtain ⟨p, rfl, n0, n1, nb, u, hu, k⟩ := r
    obtain ⟨n2, n3, n4⟩ := g.gd.newE n1
    exact ⟨p, rfl, ⟨n0, n2, n3, u, hu, k⟩, g.gd.apart n1⟩
/-- the errors that a call may raise are such as the caller may raise; E is what is wanted of them -/
def XIn (c : Ct) (E : XK) (s : c.S) (XP : Addr → D → Prop) : Prop := (∀ C d, ¬ XP C d) ∨ (E = c.EX ∧ ∀ C d, XP C d → c.X C d s)
theorem we_callF {f : FSpec} {E : XK} {ta : TA} (h : WA c ta G s fun ds s1 => ∃ XP, XIn c E s1 XP ∧ f ds (fun x => P x s1) XP) : WE c (tCall (PureSp c.K f) [] E ta) G s P := fun σ F H0 H g Q q =>
  h σ F H0 H g _ fun ds s1 vs H1 H1' hp g1 e1 r1 => by
    obtain ⟨XP, hx, hf⟩ := hp
    refine ⟨ds, _, XP, hf, H1, g1.gd.sub, fun _ z => z.elim, by rw [List.append_nil]; exact r1, trivial, fun x s2 v H2 H2' hp t r => ?_, fun C d s2 v a H2 H2' hp t ha r => ?_⟩
    · exact q x s1 v H2 H2' hp (g1.stepPure t) (e1.trans t.ex) (g1.resPure t r)
    · rcases hx with hx | ⟨rfl, hx⟩
      · exact (hx C d hp).elim
      · have g2 := (g1.stepPure t).gd
        exact c.okX C d s1 v a H2 H2' (hx C d hp) g2.e0 g2.sub g2.e1 g2.e2 g2.av g2.rs ⟨(g1.gd.newE ha.1).1, ha.2⟩ r
/-- on the ground of the resource r at p -/
structure CtR (c : Ct) (r : Res) (p : Addr) (to : c.S → r.S) (put : c.S → r.S → c.S) : Prop where
  B : ∀ a, r.B p a → c.B a
  R : ∀ s H0 H, c.R s H0 H → r.R p (to s) H0 H
  back : ∀ s s' H0 H H0' H', c.R s H0 H → (∀ a, c.B a → H0 a = none) → Step (r.R p) (r.B p) s' H0 H H0' H' → c.R (put s s') H0' H' ∧ ∀ a, c.B a → H0' a = none
theorem we_callR {r : Res} {f : RSpec r} {E : XK} {ta : TA} {p : Addr} {to : c.S → r.S} {put : c.S → r.S → c.S} (hc : CtR c r p to put)
    (h : WA c ta G s fun ds s1 => ∃ es XP, ds = .ref p :: es ∧ ((∀ C d s', ¬ XP C d s') ∨ (E = c.EX ∧ ∀ C d s', XP C d s' → c.X C d (put s1 s'))) ∧ f p es (to s1) (fun x s2 => P x (put s1 s2)) XP) : WE c (tCall (ResSp c.K r f) [] E ta) G s P := fun σ F H0 H g Q q =>
  h σ F H0 H g _ fun ds s1 vs H1 H1' hp g1 e1 r1 => by
    obtain ⟨es, XP, rfl, hx, hf⟩ := hp
    have gg : ∀ s2 H2 H2', Step (r.R p) (r.B p) s2 H1 H1' H2 H2' → Gd c G (put s1 s2) σ F H2 H2' := fun s2 H2 H2' t =>
      ⟨g1.ln, g1.gd.go t.ex t.sub (hc.back s1 s2 _ _ _ _ g1.gd.rs g1.gd.av t).2 (fun a o h hb => t.fr a o h fun z => hb (hc.B a z)) t.nw (hc.back s1 s2 _ _ _ _ g1.gd.rs g1.gd.av t).1⟩
    refine ⟨p, es, to s1, _, XP, hf, H1, g1.gd.sub, fun a hb => g1.gd.av a (hc.B a hb), by rw [List.append_nil]; exact r1, hc.R _ _ _ g1.gd.rs, fun x s2 v H2 H2' hp t rr => ?_, fun C d s2 v a H2 H2' hp t ha rr => ?_⟩
    · refine q x _ v H2 H2' hp (gg s2 H2 H2' t) (e1.trans t.ex) ?_
      cases x with
      | un => trivial
      | dat d => exact rr
      | own w =>
        obtain ⟨a, rfl, n0, n1, nb, u, hu, k⟩ := rr
        obtain ⟨n2, n3, n4⟩ := g1.gd.newE n1
        exact ⟨a, rfl, ⟨n0, n2, n3, u, hu, k⟩, g1.gd.apart n1⟩
    · rcases hx with hx | ⟨rfl, hx⟩
      · exact (hx C d s2 hp).elim
      · have g2 := (gg s2 H2 H2' t).gd
        exact c.okX C d _ v a H2 H2' (hx C d s2 hp) g2.e0 g2.sub g2.e1 g2.e2 g2.av g2.rs ⟨(g1.gd.newE ha.1).1, ha.2⟩ rr
/-! ### what is walked -/
/-- the data that come, turn by turn -/
def Yd (c : Ct) (H0 : Hp) (its : List D) (i : Nat) (H1 : Hp) (x : V) (H2 : Hp) : Prop :=
  ∃ d, its[i]? = some d ∧ ∀ Ha, Same H0 Ha → Same Ha H1 → (H2 = H1 ∧ Rep c.K Ha x d) ∨ (∃ T xs ds, x = .ref T ∧ H1 T = none ∧ H2 = upd H1 T (.tup xs) ∧ RepAll c.K Ha xs ds ∧ d = .tup ds)
def WI (c : Ct) (ti : TI) (G : List Sl) (s : c.S) (P : List D → c.S → Prop) : Prop :=
  ∀ σ F H0 H, Gd c G s σ F H0 H → ∀ R : It → Hp → Prop,
    (∀ its s' J H0' H' Gw Y, P its s' → Gd c G s' σ F H0' H' → Same H0 H0' → Walk J its.length Gw Y → (∀ H0a Ha, Same H0' H0a → Same H0a Ha → Gw Ha) → (∀ i H1 x H2, i < its.length → Y i H1 x H2 → Yd c H0' its i H1 x H2) → R J H') → ti σ H R
/-- a turn's datum reaches the target -/
theorem tg_turn {g : TG} {d : D} {G' : List Sl} {σ : L2.St} {F : Frm} {H0 H0a H1 H2 : Hp} {its : List D} {i : Nat} {x : V} {is : List Nat} (t : Tg c g is d G G') (hd : its[i]? = some d) (y : Yd c H0 its i H1 x H2) (e : Same H0 H0a) (gd : Gd c G s σ F H0a H1)
    {Q : L2.St → Hp → Prop} (q : ∀ σ' H0', σ'.length = σ.length → (∀ j : Nat, j ∉ is → σ'[j]? = σ[j]?) → Gd c G' s σ' F H0' H2 → Same H0a H0' → Q σ' H2) : g x σ H2 Q := by
  obtain ⟨d', hd', k⟩ := y
  rw [hd] at hd'
  cases hd'
  rcases k H0a e gd.gd.sub with ⟨rfl, r⟩ | ⟨T, xs, ds, rfl, hT, rfl, ra, rfl⟩
  · exact t s σ F H0a _ x gd r Q fun σ' hl hk g' => q σ' H0a hl hk g' (Same.refl _)
  · obtain ⟨g2, e2⟩ := gd.lay (o := .tup xs) hT
    exact t s σ F _ _ (.ref T) g2 (.tup (.inl (.inl upd_same)) (ra.mono e2)) Q fun σ' hl hk g' => q σ' _ hl hk g' e2
theorem ws_for {ti : TI} {g : TG} {tb : TS} {P : Ds c.S} (h : WI c ti G s fun its s1 => ∃ I : Nat → List Sl → c.S → Prop, I 0 G s1 ∧
      (∀ i d Gi si, its[i]? = some d → Gi.length = G.length → I i Gi si → ∃ is G', Tg c g is d Gi G' ∧ WS c tb G' si { nx := I (i + 1), ct := I (i + 1), bk := P.nx, rt := P.rt }) ∧
      ∀ Gn sn, Gn.length = G.length → I its.length Gn sn → P.nx Gn sn) : WS c (tFor ti g tb) G s P := fun σ H0 H gd D e =>
  h σ ([], []) H0 H (Gd.of gd) _ fun its s1 J H1 H1' Gw Y hp g1 e1 w hG hY => by
    obtain ⟨I, h0, hs, hd⟩ := hp
    refine for_it w (fun i σ' H' => ∃ Gi si H0a, I i Gi si ∧ Gi.length = G.length ∧ Same H1 H0a ∧ Good c Gi si σ' H0a H') ⟨G, s1, H1, h0, rfl, Same.refl _, g1.to⟩ (fun i σ' H' _ p => ?_) (fun i x σ' Hb H2 hi p y => ?_) fun σ' H' p => ?_
    · obtain ⟨Gi, si, H0a, _, _, ea, ga⟩ := p
      exact hG H0a H' ea ga.sub
    · obtain ⟨Gi, si, H0a, hI, hgl, ea, ga⟩ := p
      have yy := hY i Hb x H2 hi y
      obtain ⟨d, hd', _⟩ := id yy
      obtain ⟨is, G', t, hb⟩ := hs i d Gi si hd' hgl hI
      refine tg_turn t hd' yy ea (Gd.of ga) fun σ2 H0b hl _ gb eb => ?_
      have hl' : G'.length = G.length := by rw [← gb.ln, hl, ga.len, hgl]
      have nx : ∀ Gn sn σ3 H3 H3', I (i + 1) Gn sn → Good c Gn sn σ3 H3 H3' → Same H0b H3 → Gn.length = G'.length → ∃ Gi si H0a, I (i + 1) Gi si ∧ Gi.length = G.length ∧ Same H1 H0a ∧ Good c Gi si σ3 H0a H3' := fun Gn sn σ3 H3 H3' hn gn e3 hl3 =>
        ⟨Gn, sn, H3, hn, hl3.trans hl', (ea.trans eb).trans e3, gn⟩
      exact hb σ2 H0b H2 gb.to _ ⟨nx, e.rt, fun Gn sn σ3 H3 H3' hn gn e3 hl3 => e.nx Gn sn σ3 H3 H3' hn gn (((e1.trans ea).trans eb).trans e3) (hl3.trans hl'), nx⟩
    · obtain ⟨Gi, si, H0a, hI, hgl, ea, ga⟩ := p
      exact e.nx Gi si σ' H0a H' (hd Gi si hgl hI) ga (e1.trans ea) hgl
/-- while: I by a number that falls -/
theorem ws_while {t : TT} {tb : TS} {P : Ds c.S} (I : Nat → List Sl → c.S → Prop) (m : Nat) (h0 : I m G s)
    (hs : ∀ m Gi si, Gi.length = G.length → I m Gi si → WT c t Gi si fun b s1 => if b = true then WS c tb Gi s1 { nx := fun Gn sn => ∃ m', m' < m ∧ I m' Gn sn, ct := fun Gn sn => ∃ m', m' < m ∧ I m' Gn sn, bk := P.nx, rt := P.rt } else P.nx Gi s1) : WS c (tWhile t tb) G s P := fun σ H0 H gd D e => by
  refine ⟨fun m σ' H' => ∃ Gi si H0a, I m Gi si ∧ Gi.length = G.length ∧ Same H0 H0a ∧ Good c Gi si σ' H0a H', ⟨m, G, s, H0, h0, rfl, Same.refl _, gd⟩, fun m σ' H' p => ?_⟩
  obtain ⟨Gi, si, H0a, hI, hgl, ea, ga⟩ := p
  refine hs m Gi si hgl hI σ' ([], []) H0a H' (Gd.of ga) _ fun b s1 H1 H1' hp g1 e1 => ?_
  cases b with
  | true =>
    refine iteT ⟨fun σ' H' => ∃ m', m' < m ∧ ∃ Gi si H0a, I m' Gi si ∧ Gi.length = G.length ∧ Same H0 H0a ∧ Good c Gi si σ' H0a H', fun _ _ z => z, ?_⟩
    have nx : ∀ Gn sn σ3 H3 H3', (∃ m', m' < m ∧ I m' Gn sn) → Good c Gn sn σ3 H3 H3' → Same H1 H3 → Gn.length = Gi.length → ∃ m', m' < m ∧ ∃ Gi si H0a, I m' Gi si ∧ Gi.length = G.length ∧ Same H0 H0a ∧ Good c Gi si σ3 H0a H3' := fun Gn sn σ3 H3 H3' hn gn e3 hl3 => by
      obtain ⟨m', hm, hn⟩ := hn
      exact ⟨m', hm, Gn, sn, H3, hn, hl3.trans hgl, (ea.trans e1).trans e3, gn⟩
    exact (show WS c tb Gi s1 _ from hp) σ' H1 H1' g1.to _ ⟨nx, e.rt, fun Gn sn σ3 H3 H3' hn gn e3 hl3 => e.nx Gn sn σ3 H3 H3' hn gn ((ea.trans e1).trans e3) (hl3.trans hgl), nx⟩
  | false => exact iteF (e.nx Gi s1 σ' H1 H1' (show P.nx Gi s1 from hp) g1.to (ea.trans e1) hgl)
/-! ### what is walked: lists, tuples, ranges, texts, enumerate, zip -/
theorem wi_tup {tl : TE} {P : List D → c.S → Prop} (h : WE c tl G s (FZ fun d s1 => ∃ ds, d = .tup ds ∧ P ds s1)) : WI c (iTup c.K tl) G s P := fun σ F H0 H g R q =>
  h.use g fun d s1 v H1 H1' hp g1 e1 r1 => by
    obtain ⟨ds, rfl, hp⟩ := hp
    cases r1 with
    | tup ha ra =>
      rename_i a xs
      have w := walk_tup (K := c.K) (a := a) (xs := xs)
      rw [ra.len] at w
      refine ⟨a, rfl, ⟨xs, same_t g1.gd.sub ha⟩, q ds s1 _ H1 H1' _ _ hp g1 e1 w (fun H0a Ha k1 k2 => same_t (k1.trans k2) ha) fun i Hb x H2 hi y => ?_⟩
      obtain ⟨rfl, hx⟩ := y
      obtain ⟨d, hd, r⟩ := ra.getV hx
      exact ⟨d, hd, fun Hc k1 k2 => .inl ⟨rfl, r.mono k1⟩⟩
def rangeD (lo : Int) (n : Nat) : List D := (List.range n).map fun (i : Nat) => D.int (lo + (i : Int))
theorem rangeD_len (lo : Int) (n : Nat) : (rangeD lo n).length = n := by simp [rangeD]
theorem rangeD_get {lo : Int} {n i : Nat} {d : D} (h : (rangeD lo n)[i]? = some d) : i < n ∧ d = .int (lo + (i : Int)) := by
  unfold rangeD at h
  rw [List.getElem?_map] at h
  by_cases hi : i < n
  · rw [List.getElem?_range hi] at h
    cases h
    exact ⟨hi, rfl⟩
  · rw [List.getElem?_eq_none (by simp; omega)] at h
    cases h
theorem rangeD_at {lo : Int} {n i : Nat} (h : i < n) : (rangeD lo n)[i]? = some (.int (lo + (i : Int))) := by
  unfold rangeD
  rw [List.getElem?_map, List.getElem?_range h]
  rfl
theorem wi_range1 {ta : TA} {P : List D → c.S → Prop} (h : WA c ta G s fun ds s1 => ∃ n : Int, ds = [.int n] ∧ -1000000000 ≤ n ∧ n ≤ 1000000000 ∧ P (rangeD 0 n.toNat) s1) : WI c (iRng1 ta) G s P := fun σ F H0 H g R q =>
  h σ F H0 H g _ fun ds s1 vs H1 H1' hp g1 e1 r1 => by
    obtain ⟨n, rfl, h1, h2, hp⟩ := hp
    cases r1 with
    | cons r rs =>
      cases r
      cases rs
      have w := walk_range (lo := 0) (n := n.toNat)
      refine ⟨n, rfl, by omega, by omega, q _ s1 _ H1 H1' _ _ hp g1 e1 (by rw [rangeD_len]; exact w) (fun _ _ _ _ => trivial) fun i Hb x H2 hi y => ?_⟩
      obtain ⟨rfl, rfl⟩ := y
      rw [rangeD_len] at hi
      exact ⟨_, rangeD_at hi, fun Hc k1 k2 => .inl ⟨rfl, .int _⟩⟩
/-- the signs of a text -/
def signsD (z : Str) : List D := z.cps.toList.map fun k => .str ⟨#[k]⟩
theorem signsD_len (z : Str) : (signsD z).length = z.cps.size := by simp [signsD]
theorem wi_str {te : TE} {P : List D → c.S → Prop} (h : WE c te G s (FZ fun d s1 => ∃ z, d = .str z ∧ P (signsD z) s1)) : WI c (iStr te) G s P := fun σ F H0 H g R q =>
  h.use g fun d s1 v H1 H1' hp g1 e1 r1 => by
    obtain ⟨z, rfl, hp⟩ := hp
    cases r1
    have w := walk_str (z := z)
    refine ⟨z, rfl, q _ s1 _ H1 H1' _ _ hp g1 e1 (by rw [signsD_len]; exact w) (fun _ _ _ _ => trivial) fun i Hb x H2 hi y => ?_⟩
    obtain ⟨rfl, k, hk, rfl⟩ := y
    refine ⟨.str ⟨#[k]⟩, ?_, fun Hc k1 k2 => .inl ⟨rfl, .str _⟩⟩
    unfold signsD
    rw [List.getElem?_map]
    have : z.cps.toList[i]? = some k := by simpa using hk
    rw [this]
    rfl
def enumD (ds : List D) : List D := ds.zipIdx.map fun p => .tup [.int (p.2 : Nat), p.1]
theorem enumD_len (ds : List D) : (enumD ds).length = ds.length := by simp [enumD]
theorem enumD_at {ds : List D} {i : Nat} {d : D} (h : ds[i]? = some d) : (enumD ds)[i]? = some (.tup [.int (i : Nat), d]) := by
  unfold enumD
  rw [List.getElem?_map, List.getElem?_zipIdx, h]
  simp
theorem enumD_get {ds : List D} {i : Nat} {e : D} (h : (enumD ds)[i]? = some e) : ∃ d, ds[i]? = some d ∧ e = .tup [.int (i : Nat), d] := by
  have hi : i < ds.length := by
    have := (List.getElem?_eq_some_iff.mp h).1
    rwa [enumD_len] at this
  have q := List.getElem?_eq_getElem hi
  rw [enumD_at q] at h
  cases h
  exact ⟨_, q, rfl⟩
/-! ### list comprehensions -/
def unAll (G : List Sl) : List Nat → List Sl
  | [] => G
  | v :: vs => (unAll G vs).set v .un
theorem Good.wipe {σ : L2.St} {H0 H : Hp} {X : List Sl} {ξ : L2.St} (hl : σ.length = G.length) : ∀ {vs : List Nat}, Good c (G ++ X) s (σ ++ ξ) H0 H → Good c (unAll G vs ++ X) s (L2.wipe σ vs ++ ξ) H0 H ∧ (unAll G vs).length = G.length ∧ (L2.wipe σ vs).length = σ.length
  | [], g => ⟨g, rfl, rfl⟩
  | v :: vs, g => by
    obtain ⟨g1, l1, l2⟩ := Good.wipe hl (vs := vs) g
    refine ⟨?_, by show ((unAll G vs).set v .un).length = _; rw [List.length_set, l1], by show ((L2.wipe σ vs).set v none).length = _; rw [List.length_set, l2]⟩
    show Good c ((unAll G vs).set v .un ++ X) s ((L2.wipe σ vs).set v none ++ ξ) H0 H
    by_cases hv : v < G.length
    · rw [← List.set_append_left _ _ (by rw [l1]; exact hv), ← List.set_append_left _ _ (by rw [l2, hl]; exact hv)]
      have g2 := g1.forget v
      refine ⟨g2.sub, g2.av, g2.e0, g2.e1, g2.e2, g2.rs, by rw [List.length_set]; exact g2.len, fun j y hy => ?_, fun a b p w w' hab ha hb h1 h2 => ?_⟩
      · have q := g2.sl j y hy
        by_cases hj : v = j
        · subst hj
          rw [List.getElem?_set] at hy
          rw [if_pos rfl] at hy
          split at hy
          · cases hy
            trivial
          · cases hy
        · rw [List.getElem?_set_ne hj]
          exact q
      · have ne : ∀ j w, ((unAll G vs ++ X).set v .un)[j]? = some (.own w) → v ≠ j := fun j w hj z => by
          subst z
          rw [List.getElem?_set, if_pos rfl] at hj
          split at hj <;> cases hj
        rw [List.getElem?_set_ne (ne a w ha)] at h1
        rw [List.getElem?_set_ne (ne b w' hb)] at h2
        exact g2.ds a b p w w' hab ha hb h1 h2
    · rw [List.set_eq_of_length_le (by rw [l1]; omega), List.set_eq_of_length_le (by rw [l2, hl]; omega)]
      exact g1
theorem Good.unwipe {σ σ2 : L2.St} {s' : c.S} {H0' H' : Hp} {X : List Sl} {ξ : L2.St} {vs : List Nat} (hl : σ.length = G.length) (hG : unAll G vs = G) (hs : L2.wipe σ2 vs = L2.wipe σ vs) (g : Good c (unAll G vs ++ X) s' (L2.wipe σ vs ++ ξ) H0' H') : Good c (G ++ X) s' (σ ++ ξ) H0' H' := by
  have un : ∀ j : Nat, ∀ x, G[j]? = some x → x ≠ .un → j ∉ vs := fun j x hx hne => by
    rw [← hG] at hx
    intro hj
    have : ∀ us : List Nat, j ∈ us → (unAll G us)[j]? = some x → False := fun us => by
      induction us with
      | nil => intro h; cases h
      | cons u us ih =>
        intro hm he
        change ((unAll G us).set u .un)[j]? = some x at he
        by_cases hu : u = j
        · subst hu
          rw [List.getElem?_set, if_pos rfl] at he
          split at he
          · cases he
            exact hne rfl
          · cases he
        · rw [List.getElem?_set_ne hu] at he
          rcases List.mem_cons.mp hm with e | e
          · exact hu e.symm
          · exact ih e he
    exact this vs hj hx
  have wi : ∀ j : Nat, j ∉ vs → (L2.wipe σ vs)[j]? = σ[j]? := fun j hj => by
    clear hs g hG un
    induction vs with
    | nil => rfl
    | cons u us ih =>
      show ((L2.wipe σ us).set u none)[j]? = _
      rw [List.getElem?_set_ne (fun z => hj (by subst z; exact List.mem_cons_self ..))]
      exact ih fun z => hj (List.mem_cons_of_mem _ z)
  rw [hG] at g
  have hw : (L2.wipe σ vs).length = σ.length := L2.wipe_length σ vs
  have same : ∀ (j : Nat) (x : Sl), (G ++ X)[j]? = some x → x ≠ .un → (L2.wipe σ vs ++ ξ)[j]? = (σ ++ ξ)[j]? := fun j x hx hne => by
    by_cases h : j < G.length
    · rw [List.getElem?_append_left h] at hx
      rw [List.getElem?_append_left (by rw [hw, hl]; exact h), List.getElem?_append_left (by rw [hl]; exact h)]
      exact wi j (un j x hx hne)
    · rw [List.getElem?_append_right (by rw [hw, hl]; omega), List.getElem?_append_right (by rw [hl]; omega), hw]
  refine ⟨g.sub, g.av, g.e0, g.e1, g.e2, g.rs, by have := g.len; simp [hw] at this ⊢; exact this, fun j y hy => ?_, fun a b p w w' hab ha hb h1 h2 => ?_⟩
  · have q := g.sl j y hy
    cases y with
    | un => trivial
    | dat d =>
      rw [same j _ hy (fun z => nomatch z)] at q
      exact q
    | own w =>
      rw [same j _ hy (fun z => nomatch z)] at q
      exact q
  · refine g.ds a b p w w' hab ha hb ?_ ?_
    · rw [same a _ ha (fun z => nomatch z)]
      exact h1
    · rw [same b _ hb (fun z => nomatch z)]
      exact h2
theorem wipe_out (σ : L2.St) {j : Nat} : ∀ {vs : List Nat}, j ∉ vs → (L2.wipe σ vs)[j]? = σ[j]?
  | [], _ => rfl
  | u :: us, hj => by
    show ((L2.wipe σ us).set u none)[j]? = _
    rw [List.getElem?_set_ne (fun z => hj (by subst z; exact List.mem_cons_self ..))]
    exact wipe_out σ fun z => hj (List.mem_cons_of_mem _ z)
/-- a list comprehension, by a word I of the turn, what is made so far, the object -/
theorem we_lc {ti : TI} {g : TG} {tt : TT} {te : TE} {vs : List Nat} (hG : unAll G vs = G) (h : WI c ti G s fun its s1 => its.length ≤ 1000000 ∧ ∃ I : Nat → List D → c.S → Prop, I 0 [] s1 ∧
      (∀ i d acc si, its[i]? = some d → acc.length ≤ i → I i acc si → ∃ is G', Tg c g is d G G' ∧ (∀ i ∈ is, i ∈ vs) ∧ unAll G' vs = G ∧ WT c tt G' si fun b s2 => if b = true then WE c te G' s2 (FZ fun y s3 => I (i + 1) (acc ++ [y]) s3) else I (i + 1) acc s2) ∧
      ∀ acc sn, acc.length ≤ its.length → I its.length acc sn → P (.own (.lst acc)) sn) : WE c (tLc ti g tt te vs) G s P := fun σ F H0 H gd Q q =>
  h σ F H0 H gd _ fun its s1 J H1 H1' Gw Y hp g1 e1 w hGw hY Dl hD => by
    obtain ⟨hz, I, h0, hs, hd⟩ := hp
    have wl := g1.gd.wipe g1.ln (vs := vs)
    refine lc_it w (fun i H' => ∃ acc si H0a us, i ≤ its.length ∧ I i acc si ∧ acc.length ≤ i ∧ Same H1 H0a ∧ Gd c G si σ F H0a H' ∧ H' Dl = some (.lst us) ∧ RepAll c.K H0a us acc ∧ Own c H0a H' Dl (.lst acc) ∧ Apart (G ++ F.1) (σ ++ F.2) Dl) ?_ (fun i H' _ p => ?_) (fun i x Hb H2 hi p y => ?_) fun H' p => ?_
    · obtain ⟨r1, r2, r3⟩ := g1.rok (u := .lst []) (w := .lst []) hD RepAll.nil
      cases r2
      exact ⟨[], s1, H1, [], Nat.zero_le _, h0, Nat.le_refl _, Same.refl _, g1.push hD, upd_same, .nil, r3.1, r3.2⟩
    · obtain ⟨acc, si, H0a, us, _, _, _, ea, ga, _⟩ := p
      exact hGw H0a H' ea ga.gd.sub
    · obtain ⟨acc, si, H0a, us, hle, hI, hal, ea, ga, hDl, hus, own, ap⟩ := p
      have yy := hY i Hb x H2 hi y
      obtain ⟨d, hd', _⟩ := id yy
      obtain ⟨is, G', t, his, hG', hb⟩ := hs i d acc si hd' hal hI
      -- the names of the comprehension are forgotten; the new list is kept beside the names
      have gm := ga.more (x := .own (.lst acc)) (v := .ref Dl) ⟨Dl, rfl, own, ap⟩
      have gw : Gd c G si (L2.wipe σ vs) (F.1 ++ [.own (.lst acc)], F.2 ++ [some (.ref Dl)]) H0a Hb := by
        have q := gm.gd.wipe gm.ln (vs := vs)
        rw [hG] at q
        exact ⟨by rw [q.2.2, ga.ln], q.1⟩
      refine tg_turn t hd' yy ea gw fun σ2 H0b hl2 hk gb eb => ?_
      have hw : L2.wipe σ2 vs = L2.wipe σ vs := by
        apply List.ext_getElem?
        intro j
        by_cases hj : j ∈ vs
        · have e0 : ∀ τ : L2.St, τ.length = σ.length → (L2.wipe τ vs)[j]? = if j < σ.length then some none else none := fun τ hτ => by
            by_cases h : j < σ.length
            · rw [if_pos h]
              cases hq : (L2.wipe τ vs)[j]? with
              | none =>
                rw [List.getElem?_eq_none_iff, L2.wipe_length] at hq
                omega
              | some o =>
                cases o with
                | none => rfl
                | some x => exact absurd hj (L2.wipe_some hq).2
            · rw [if_neg h, List.getElem?_eq_none_iff, L2.wipe_length]
              omega
          rw [e0 σ2 (by rw [hl2, L2.wipe_length]), e0 σ rfl]
        · rw [wipe_out σ2 hj, wipe_out σ hj, hk j (fun z => hj (his j z)), wipe_out σ hj]
      -- what stands behind the target
      have back : ∀ s2 H3 H3', Gd c G' s2 σ2 (F.1 ++ [.own (.lst acc)], F.2 ++ [some (.ref Dl)]) H3 H3' → Gd c G s2 σ (F.1 ++ [.own (.lst acc)], F.2 ++ [some (.ref Dl)]) H3 H3' := fun s2 H3 H3' g3 => by
        have q := g3.gd.wipe g3.ln (vs := vs)
        refine ⟨ga.ln, Good.unwipe ga.ln hG hw ?_⟩
        have q1 := q.1
        rw [hG', hw] at q1
        rw [hG]
        exact q1
      have fin : ∀ s2 H3 H3' acc' u, Gd c G s2 σ (F.1 ++ [.own (.lst acc)], F.2 ++ [some (.ref Dl)]) H3 H3' → Same H1 H3 → RepAll c.K H3 u acc' → acc'.length ≤ i + 1 → I (i + 1) acc' s2 →
          ∃ acc si H0a us, i + 1 ≤ its.length ∧ I (i + 1) acc si ∧ acc.length ≤ i + 1 ∧ Same H1 H0a ∧ Gd c G si σ F H0a (upd H3' Dl (.lst u)) ∧ (upd H3' Dl (.lst u)) Dl = some (.lst us) ∧ RepAll c.K H0a us acc ∧ Own c H0a (upd H3' Dl (.lst u)) Dl (.lst acc) ∧ Apart (G ++ F.1) (σ ++ F.2) Dl := fun s2 H3 H3' acc' u g3 e3 ru hl hI' => by
        have o3 := g3.gd.ownAt (i := (G ++ F.1).length) (w := .lst acc) (by rw [← List.append_assoc, List.getElem?_append_right (Nat.le_refl _)]; simp)
        obtain ⟨p, hp, o3⟩ := o3
        have hpD : p = Dl := by
          have l1 : (G ++ F.1).length = (σ ++ F.2).length := by rw [List.length_append, List.length_append, ga.ln, ga.fl]
          rw [l1, ← List.append_assoc, List.getElem?_append_right (Nat.le_refl _)] at hp
          simp at hp
          exact hp.symm
        subst hpD
        obtain ⟨n0, n1, nb, _, _, _⟩ := o3
        have g4 : Gd c G s2 σ F H3 (upd H3' p (.lst u)) := by
          have gl := g3.less ga.fl
          refine ⟨gl.ln, ?_⟩
          have gg := gl.gd
          have kk : ∀ a o, H3' a = some o → a ≠ p → upd H3' p (.lst u) a = some o := fun a o h hn => by rw [upd_ne hn]; exact h
          refine ⟨fun a o h => kk a o (gg.sub a o h) (fun z => by subst z; rw [n0] at h; cases h), gg.av, gg.e0, fun a o h hb => kk a o (gg.e1 a o h hb) (fun z => by subst z; rw [n1] at h; cases h), gg.e2,
            c.stab _ _ _ _ _ gg.rs (Same.refl _) (fun a o hb h => kk a o h (fun z => by subst z; exact nb hb)), gg.len, fun j y hy => ?_, gg.ds⟩
          have q := gg.sl j y hy
          cases y with
          | un => trivial
          | dat d => exact q
          | own w =>
            obtain ⟨r, hr, o⟩ := q
            refine ⟨r, hr, o.step (Same.refl _) o.1 fun o' h => kk r o' h fun z => ?_⟩
            subst z
            refine ap j w hy ?_
            cases hs : (σ ++ F.2)[j]? with
            | none =>
              rw [hs] at hr
              cases hr
            | some y =>
              rw [hs] at hr
              exact congrArg some hr
        exact ⟨acc', s2, H3, u, hi, hI', hl, e3, g4, upd_same, ru, ⟨n0, n1, nb, _, upd_same, ru⟩, ap⟩
      refine ⟨hw, hb σ2 _ H0b H2 gb _ fun b s2 H3 H3' hp3 g3 e3 => ?_⟩
      cases b with
      | true =>
        refine iteT ?_
        refine (show WE c te G' s2 (FZ fun y s3 => I (i + 1) (acc ++ [y]) s3) from hp3).use g3 fun y s4 v H4 H4' hp4 g4 e4 r4 => ?_
        have gB := back s4 H4 H4' g4
        have o4 := gB.gd.ownAt (i := (G ++ F.1).length) (w := .lst acc) (by rw [← List.append_assoc, List.getElem?_append_right (Nat.le_refl _)]; simp)
        obtain ⟨p, hpp, n0, n1, nb, u, hu, ku⟩ := o4
        have hpD : p = Dl := by
          have l1 : (G ++ F.1).length = (σ ++ F.2).length := by rw [List.length_append, List.length_append, ga.ln, ga.fl]
          rw [l1, ← List.append_assoc, List.getElem?_append_right (Nat.le_refl _)] at hpp
          simp at hpp
          exact hpp.symm
        subst hpD
        cases u with
        | lst u =>
          have ku' : RepAll c.K H4 u acc := ku
          refine ⟨u, hu, ?_, fin s4 H4 H4' (acc ++ [y]) (u ++ [v]) gB (((ea.trans eb).trans e3).trans e4) (ku'.app (.cons r4 .nil)) (by rw [List.length_append]; simp; omega) hp4⟩
          rw [ku'.len]
          exact Nat.lt_of_le_of_lt (Nat.le_trans hal (Nat.le_trans (Nat.le_of_lt hi) hz)) (by decide)
        | _ => exact False.elim ku
      | false =>
        refine iteF ?_
        have gB := back s2 H3 H3' g3
        have o4 := gB.gd.ownAt (i := (G ++ F.1).length) (w := .lst acc) (by rw [← List.append_assoc, List.getElem?_append_right (Nat.le_refl _)]; simp)
        obtain ⟨p, hpp, n0, n1, nb, u, hu, ku⟩ := o4
        have hpD : p = Dl := by
          have l1 : (G ++ F.1).length = (σ ++ F.2).length := by rw [List.length_append, List.length_append, ga.ln, ga.fl]
          rw [l1, ← List.append_assoc, List.getElem?_append_right (Nat.le_refl _)] at hpp
          simp at hpp
          exact hpp.symm
        subst hpD
        cases u with
        | lst u =>
          have q := fin s2 H3 H3' acc u gB ((ea.trans eb).trans e3) ku (by omega) hp3
          have e : upd H3' p (.lst u) = H3' := by
            funext a
            by_cases h : a = p
            · rw [h, upd_same, hu]
            · rw [upd_ne h]
          rw [e] at q
          exact q
        | _ => exact False.elim ku
    · obtain ⟨acc, si, H0a, us, _, hI, hal, ea, ga, hDl, hus, own, ap⟩ := p
      exact q _ si _ H0a H' (hd acc si hal hI) ga (e1.trans ea) ⟨Dl, rfl, own, ap⟩
end
end DL
/-! DLe: operators and calls by any data; the rule for a def -/
namespace DL
open PySem PySem.Spec PyProof.Rows L2
/-! ### data as the library's own -/
mutual
def D.py : D → PyData
  | .non => .none
  | .bl b => .bool b
  | .int i => .int i
  | .str x => .str x
  | .tup ds => .tuple (D.pys ds)
  | .lst ds => .list (D.pys ds)
  | .ref _ => .none
def D.pys : List D → List PyData
  | [] => []
  | d :: ds => d.py :: D.pys ds
end
mutual
def D.plain : D → Bool
  | .tup ds => D.plains ds
  | .lst ds => D.plains ds
  | .ref _ => false
  | _ => true
def D.plains : List D → Bool
  | [] => true
  | d :: ds => d.plain && D.plains ds
end
mutual
theorem Rep.dp {K : PySem.W.Frag} {H0 H : Hp} (e : Same H0 H) : ∀ {v : V} {d : D}, Rep K H0 v d → d.plain = true → Dp K H v d.py
  | _, _, .non, _ => .non
  | _, _, .bl b, _ => .bl b
  | _, _, .int i, _ => .int i
  | _, _, .str x, _ => .str x
  | _, _, .ref a, h => nomatch h
  | _, _, .tup h r, p => .tup (same_t e h) (RepAll.dp e r p)
  | _, _, .lst h r, p => .lst (.inl (.inl (e _ _ h))) (RepAll.dp e r p)
theorem RepAll.dp {K : PySem.W.Frag} {H0 H : Hp} (e : Same H0 H) : ∀ {vs : List V} {ds : List D}, RepAll K H0 vs ds → D.plains ds = true → DpAll K H vs (D.pys ds)
  | _, _, .nil, _ => .nil
  | _, _, .cons r t, p => by
    have q : (_ && _) = true := p
    rw [Bool.and_eq_true] at q
    exact .cons (Rep.dp e r q.1) (RepAll.dp e t q.2)
end
section
variable {X : Cx}
theorem orR {f : Value → Value → Sem Value} {r r' : R2} (h : OpR X f r) (h' : OpR X f r') : OpR X f (fun x y H Q => r x y H Q ∨ r' x y H Q) := fun pins s σ H x y v u Q I rx ry q => q.elim (h pins s σ H x y v u Q I rx ry) (h' pins s σ H x y v u Q I rx ry)
def qLen (K : PySem.W.Frag) : List V → Hp → VK → Prop := fun xs H Q => ∃ x n, xs = [x] ∧ LenV K x H n ∧ Q (.int n) H
/-- s * n -/
theorem foldl_rep (cs : Array Nat) : ∀ (m : Nat) (acc : Array Nat), ((List.replicate m cs).foldl (· ++ ·) acc).toList = acc.toList ++ (List.replicate m cs.toList).flatten
  | 0, acc => by simp
  | m + 1, acc => by
    rw [List.replicate_succ, List.foldl_cons, foldl_rep cs m]
    simp [List.replicate_succ]
def repS (x : Str) (n : Int) : Str := ⟨(List.replicate n.toNat x.cps.toList).flatten.toArray⟩
def rRepS : R2 := fun x y H Q => ∃ z n, x = .str z ∧ y = .int n ∧ n ≤ 1000 ∧ -1000 ≤ n ∧ z.length ≤ 1000 ∧ Q (.str (repS z n)) H
theorem op_repS : OpR X (binaryOp .Mult) rRepS := by
  intro pins s σ H x y v u Q I rx ry h
  obtain ⟨z, n, rfl, rfl, h1, h0, h2, q⟩ := h
  obtain ⟨t, rfl⟩ := rx
  obtain ⟨t', rfl⟩ := ry
  have fin : ∀ (y : Str) (tk : Nat), y = repS z n → EP X pins σ Q (.str y tk) { s with toks := tk + 1 } := fun y tk e => by
    subst e
    exact ⟨.str _, H, I.tok _, ⟨_, rfl⟩, q⟩
  have e1 : n < 1 → repS z n = Str.empty := fun hn => by
    have : n.toNat = 0 := by omega
    unfold repS
    rw [this]
    rfl
  refine PySem.P.mul_str (by
      have a1 : ¬ n < -(2 ^ 63 : Int) := by omega
      have a2 : ¬ n ≥ 2 ^ 63 := by omega
      rw [decide_eq_false a1, decide_eq_false a2]; rfl) (fun hn _ => ?_) (fun hn _ => ?_) ?_
  · have : (1000 : Int) ≤ (2 ^ 63 - 1) / n := by
      apply Int.le_ediv_of_mul_le (by omega)
      omega
    omega
  · have a : z.length * n.toNat ≤ 1000 * 1000 := Nat.mul_le_mul h2 (by omega)
    unfold PySem.Builtin.Str.tooLong
    have hs : sizeLine = 16777216 := sizeLine_eq
    rw [hs]
    exact decide_eq_false (by omega)
  · by_cases hn : n < 1
    · rw [if_pos hn]
      exact ⟨by decide, fin _ _ (e1 hn).symm⟩
    · rw [if_neg hn]
      by_cases hq : (n == 1 || z.length == 0) = true
      · rw [if_pos hq]
        refine ⟨.str z, H, I, ⟨t, rfl⟩, ?_⟩
        have : repS z n = z := by
          unfold repS
          rw [Bool.or_eq_true] at hq
          rcases hq with hq | hq
          · have : n = 1 := by simpa using hq
            subst this
            simp
          · have : z.cps.toList = [] := by
              have hz : z.cps.size = 0 := by simpa [PySem.Str.length] using hq
              simpa using hz
            rw [this]
            have fl : ∀ m : Nat, (List.replicate m ([] : List Nat)).flatten = [] := fun m => by simp
            rw [fl]
            cases z with
            | mk cs =>
              have : cs = #[] := by simpa using this
              rw [this]
        rw [← this]
        exact q
      · rw [if_neg hq]
        have e : (⟨(List.replicate n.toNat z.cps).foldl (· ++ ·) #[]⟩ : Str) = repS z n := by
          unfold repS
          congr 1
          apply Array.toList_inj.mp
          rw [foldl_rep]
          simp
        refine ⟨?_, fin _ _ e⟩
        rw [e]
        unfold repS PySem.Str.length
        have a : z.length * n.toNat ≤ 1000 * 1000 := Nat.mul_le_mul h2 (by omega)
        have b : ((List.replicate n.toNat z.cps.toList).flatten.toArray).size = n.toNat * z.length := by simp [PySem.Str.length]
        rw [b, Nat.mul_comm]
        exact Nat.le_trans a (by decide)
/-- i ** n, a great i -/
def CPw (i j : Int) : Prop := 0 ≤ j ∧ (Builtin.Int.intBits i : Int) * j ≤ 2 ^ 27
theorem op_powB : OpR X (binaryOp .Pow) (rI CPw fun i j => .int (i ^ j.toNat)) := opI fun _ _ _ _ _ _ _ hc q => PyProof.Rows.pow_int hc.1 hc.2 q
def qAdd (K : PySem.W.Frag) : R2 := fun x y H Q => (rI0 (fun i j => .int (i + j)) x y H Q ∨ ∃ i j, x = .str i ∧ y = .str j ∧ i.length + j.length ≤ sizeLine ∧ Q (.str (i ++ j)) H) ∨ (rCat x y H Q ∨ rCatA K x y H Q)
theorem op_addQ : OpR X (binaryOp .Add) (qAdd X.K) := orR (orR op_add op_add_str) (orR op_cat op_catA)
def qMul : R2 := fun x y H Q => rI CMulW (fun i j => .int (i * j)) x y H Q ∨ (rRepS x y H Q ∨ rRep x y H Q)
theorem op_mulQ : OpR X (binaryOp .Mult) qMul := orR op_mulW (orR op_repS op_rep)
def qEq (K : PySem.W.Frag) : R2 := fun x y H Q => rEq x y H Q ∨ rEqD K x y H Q
theorem op_eqQ (hu : X.A.units + 64 < cLine) : OpR X (compareOp .Eq) (qEq X.K) := orR op_eq (op_eqD hu)
def qNe (K : PySem.W.Frag) : R2 := fun x y H Q => rNe x y H Q ∨ rNeD K x y H Q
theorem op_neQ (hu : X.A.units + 64 < cLine) : OpR X (compareOp .NotEq) (qNe X.K) := orR op_ne (op_neD hu)
def qLt : R2 := fun x y H Q => rI0 (fun i j => .bl (decide (i < j))) x y H Q ∨ ∃ i j, x = .str i ∧ y = .str j ∧ Q (.bl (decide (i.cps.toList < j.cps.toList))) H
theorem op_ltQ : OpR X (compareOp .Lt) qLt := orR op_lt op_lt_str
def qLe : R2 := fun x y H Q => rI0 (fun i j => .bl (decide (i ≤ j))) x y H Q ∨ ∃ i j, x = .str i ∧ y = .str j ∧ Q (.bl (!decide (j.cps.toList < i.cps.toList))) H
theorem op_leQ : OpR X (compareOp .LtE) qLe := orR op_le op_le_str
/-- one sign in a text; a plain thing in a list or tuple; any data in a list -/
def qIn (K : PySem.W.Frag) : R2 := fun x y H Q => (∃ (c : Nat) (z : Str), x = .str ⟨#[c]⟩ ∧ y = .str z ∧ Q (.bl (decide (c ∈ z.cps.toList))) H) ∨ ((∃ i j, x = .str i ∧ y = .str j ∧ Q (.bl (!(Builtin.Str.occurrences j i 0 j.length 1).isEmpty)) H) ∨ (rIn K false x y H Q ∨ rInD K x y H Q))
def qNotIn (K : PySem.W.Frag) : R2 := fun x y H Q => (∃ (c : Nat) (z : Str), x = .str ⟨#[c]⟩ ∧ y = .str z ∧ Q (.bl (!decide (c ∈ z.cps.toList))) H) ∨ ((∃ i j, x = .str i ∧ y = .str j ∧ Q (.bl (!(!(Builtin.Str.occurrences j i 0 j.length 1).isEmpty))) H) ∨ (rIn K true x y H Q ∨ rNotInD K x y H Q))
theorem op_notInQ (hu : X.A.units + 65 < cLine) : OpR X (compareOp .NotIn) (qNotIn X.K) := orR op_notIn_sign (orR op_notin_str (orR op_notIn_seq (op_notInD hu)))
def qSl (K : PySem.W.Frag) : V → Option Int → Option Int → Hp → VK → Prop := fun x lo hi H Q => rSlL K x lo hi H Q ∨ (rSlA K x lo hi H Q ∨ rSlS x lo hi H Q)
theorem sl_Q : SlR X (qSl X.K) := SlR.or sl_list (SlR.or sl_tupA sl_str)
end
section
variable {c : Ct} {G : List Sl} {s : c.S} {P : Sl → c.S → Prop}
theorem sizeL {n : Nat} (h : n ≤ 1000000) : n ≤ sizeLine := Nat.le_trans h (by decide)
/-! ### + -/
theorem da_int {i j : Int} (k : P (.dat (.int (i + j))) s) : DOp c (qAdd c.K) (.int i) (.int j) G s P := fun σ F H0 H v w gd r1 r2 Q q => .inl (.inl (dop_add k σ F H0 H v w gd r1 r2 Q q))
theorem da_str {x y : Str} (hl : x.length + y.length ≤ 1000000) (k : P (.dat (.str (x ++ y))) s) : DOp c (qAdd c.K) (.str x) (.str y) G s P := fun σ F H0 H v w gd r1 r2 Q q => by
  cases r1
  cases r2
  exact .inl (.inr ⟨x, y, rfl, rfl, sizeL hl, q _ s _ H0 H k gd (Same.refl _) (.str _)⟩)
theorem da_lst {xs ys : List D} (hl : xs.length + ys.length ≤ 1000000) (k : P (.own (.lst (xs ++ ys))) s) : DOp c (qAdd c.K) (.lst xs) (.lst ys) G s P := fun σ F H0 H v w gd r1 r2 Q q => by
  cases r1 with
  | lst ha ra =>
  cases r2 with
  | lst hb rb =>
    refine .inr (.inl ⟨_, _, _, _, rfl, rfl, gd.gd.sub _ _ ha, gd.gd.sub _ _ hb, by rw [ra.len, rb.len]; exact sizeL hl, fun p hp => ?_⟩)
    exact q _ s _ H0 _ k (gd.push hp) (Same.refl _) (gd.rok (u := .lst _) hp (ra.app rb))
/-! ### * -/
theorem dm_str {x : Str} {n : Int} (h1 : n ≤ 1000) (h0 : -1000 ≤ n) (h2 : x.length ≤ 1000) (k : P (.dat (.str (repS x n))) s) : DOp c qMul (.str x) (.int n) G s P := fun σ F H0 H v w gd r1 r2 Q q => by
  cases r1
  cases r2
  exact .inr (.inl ⟨x, n, rfl, rfl, h1, h0, h2, q _ s _ H0 H k gd (Same.refl _) (.str _)⟩)
/-! ### == -/
theorem deq {x y : D} {b : Bool} (hx : x.plain = true) (hy : y.plain = true) (sx : SeqAt.shaped x.py = true) (sy : SeqAt.shaped y.py = true) (hb : PyData.eqv x.py y.py = b) (k : P (.dat (.bl b)) s) : DOp c (qEq c.K) x y G s P := fun σ F H0 H v w gd r1 r2 Q q =>
  .inr ⟨x.py, y.py, r1.dp gd.gd.sub hx, r2.dp gd.gd.sub hy, sx, sy, by rw [hb]; exact q _ s _ H0 H k gd (Same.refl _) (.bl b)⟩
theorem dne {x y : D} {b : Bool} (hx : x.plain = true) (hy : y.plain = true) (sx : SeqAt.shaped x.py = true) (sy : SeqAt.shaped y.py = true) (hb : PyData.eqv x.py y.py = b) (k : P (.dat (.bl (!b))) s) : DOp c (qNe c.K) x y G s P := fun σ F H0 H v w gd r1 r2 Q q =>
  .inr ⟨x.py, y.py, r1.dp gd.gd.sub hx, r2.dp gd.gd.sub hy, sx, sy, by rw [hb]; exact q _ s _ H0 H k gd (Same.refl _) (.bl _)⟩
theorem de_sc {x y : D} {b : Bool} (h : scD x y = some b) (k : P (.dat (.bl b)) s) : DOp c (qEq c.K) x y G s P := fun σ F H0 H v w gd r1 r2 Q q => .inl (dop_eq h k σ F H0 H v w gd r1 r2 Q q)
theorem dn_sc {x y : D} {b : Bool} (h : scD x y = some b) (k : P (.dat (.bl (!b))) s) : DOp c (qNe c.K) x y G s P := fun σ F H0 H v w gd r1 r2 Q q => .inl (dop_ne h k σ F H0 H v w gd r1 r2 Q q)
/-! ### <, <=, in -/
theorem dlt_int {i j : Int} (k : P (.dat (.bl (decide (i < j)))) s) : DOp c qLt (.int i) (.int j) G s P := fun σ F H0 H v w gd r1 r2 Q q => .inl (dop_lt k σ F H0 H v w gd r1 r2 Q q)
theorem dle_int {i j : Int} (k : P (.dat (.bl (decide (i ≤ j)))) s) : DOp c qLe (.int i) (.int j) G s P := fun σ F H0 H v w gd r1 r2 Q q => .inl (dop_le k σ F H0 H v w gd r1 r2 Q q)
theorem dle_str {x y : Str} (k : P (.dat (.bl (!decide (y.cps.toList < x.cps.toList)))) s) : DOp c qLe (.str x) (.str y) G s P := fun σ F H0 H v w gd r1 r2 Q q => by
  cases r1
  cases r2
  exact .inr ⟨x, y, rfl, rfl, q _ s _ H0 H k gd (Same.refl _) (.bl _)⟩
theorem dnin_sign {a : Nat} {z : Str} (k : P (.dat (.bl (!decide (a ∈ z.cps.toList)))) s) : DOp c (qNotIn c.K) (.str ⟨#[a]⟩) (.str z) G s P := fun σ F H0 H v w gd r1 r2 Q q => by
  cases r1
  cases r2
  exact .inl ⟨a, z, rfl, rfl, q _ s _ H0 H k gd (Same.refl _) (.bl _)⟩
theorem din_str {x z : Str} (k : P (.dat (.bl (!(Builtin.Str.occurrences z x 0 z.length 1).isEmpty))) s) : DOp c (qIn c.K) (.str x) (.str z) G s P := fun σ F H0 H v w gd r1 r2 Q q => by
  cases r1
  cases r2
  exact .inr (.inl ⟨x, z, rfl, rfl, q _ s _ H0 H k gd (Same.refl _) (.bl _)⟩)
/-! ### x[i] -/
theorem di_lst {xs : List D} {i : Int} {d : D} (h : atI xs i = some d) (k : P (.dat d) s) : DOp c (rIx c.K) (.lst xs) (.int i) G s P := fun σ F H0 H v w gd r1 r2 Q q => by
  cases r2
  cases r1 with
  | lst ha ra =>
    unfold atI at h
    cases e : ixN xs.length i with
    | none =>
      rw [e] at h
      cases h
    | some j =>
      rw [e] at h
      obtain ⟨u, hu, r⟩ := ra.get (show xs[j]? = some d from h)
      exact .inl ⟨_, _, i, u, rfl, rfl, .inl (.inl (gd.gd.sub _ _ ha)), by unfold atI; rw [ra.len, e]; exact hu, q _ s _ H0 H k gd (Same.refl _) r⟩
theorem di_tup {xs : List D} {i : Int} {d : D} (h : atI xs i = some d) (k : P (.dat d) s) : DOp c (rIx c.K) (.tup xs) (.int i) G s P := fun σ F H0 H v w gd r1 r2 Q q => by
  cases r2
  cases r1 with
  | tup ha ra =>
    unfold atI at h
    cases e : ixN xs.length i with
    | none =>
      rw [e] at h
      cases h
    | some j =>
      rw [e] at h
      obtain ⟨u, hu, r⟩ := ra.get (show xs[j]? = some d from h)
      exact .inr (.inl ⟨_, _, i, u, rfl, rfl, same_t gd.gd.sub ha, by unfold atI; rw [ra.len, e]; exact hu, q _ s _ H0 H k gd (Same.refl _) r⟩)
theorem di_str {x : Str} {i : Int} {a : Nat} (hl : x.length ≤ 1000000) (h : atI x.cps.toList i = some a) (k : P (.dat (.str ⟨#[a]⟩)) s) : DOp c (rIx c.K) (.str x) (.int i) G s P := fun σ F H0 H v w gd r1 r2 Q q => by
  cases r2
  cases r1
  exact .inr (.inr ⟨x, i, a, rfl, rfl, sizeL hl, h, q _ s _ H0 H k gd (Same.refl _) (.str _)⟩)
theorem atI_nat {α : Type} {xs : List α} {i : Int} {a : α} {n : Nat} (h0 : i = (n : Int)) (h : xs[n]? = some a) : atI xs i = some a := by
  subst h0
  have hn := (List.getElem?_eq_some_iff.mp h).1
  unfold atI ixN
  rw [if_pos (by omega), if_pos (by omega)]
  simpa using h
/-! ### x[a:b] -/
def DSl (c : Ct) (r : V → Option Int → Option Int → Hp → VK → Prop) (x : D) (lo hi : Option Int) (G : List Sl) (s : c.S) (P : Sl → c.S → Prop) : Prop :=
  ∀ σ F H0 H v, Gd c G s σ F H0 H → Rep c.K H0 v x → ∀ Q : VK, (∀ z s' u H0' H', P z s' → Gd c G s' σ F H0' H' → Same H0 H0' → RO c G σ F H0' H' u z → Q u H') → r v lo hi H Q
def WO (c : Ct) (to : TO) (G : List Sl) (s : c.S) (P : Option Int → c.S → Prop) : Prop :=
  ∀ σ F H0 H, Gd c G s σ F H0 H → ∀ Q : Option Int → Hp → Prop, (∀ o s' H0' H', P o s' → Gd c G s' σ F H0' H' → Same H0 H0' → Q o H') → to σ H Q
theorem wo_none {P : Option Int → c.S → Prop} (k : P none s) : WO c tNoPart G s P := fun σ F H0 H g Q q => q none s H0 H k g (Same.refl _)
theorem wo_some {te : TE} {P : Option Int → c.S → Prop} (h : WE c te G s (FZ fun d s1 => ∃ i, d = .int i ∧ P (some i) s1)) : WO c (tPart te) G s P := fun σ F H0 H g Q q =>
  h.use g fun d s1 v H1 H1' hp g1 e1 r1 => by
    obtain ⟨i, rfl, hp⟩ := hp
    cases r1
    exact ⟨i, rfl, q _ s1 H1 H1' hp g1 e1⟩
theorem we_sl {r : V → Option Int → Option Int → Hp → VK → Prop} {te : TE} {tl th : TO} (h : WE c te G s (FZ fun x s1 => WO c tl G s1 fun l s2 => WO c th G s2 fun u s3 => DSl c r x l u G s3 P)) : WE c (tSl r te tl th) G s P := fun σ F H0 H g Q q =>
  h.use g fun x s1 v H1 H1' hp g1 e1 r1 => hp σ F H1 H1' g1 _ fun l s2 H2 H2' hp2 g2 e2 => hp2 σ F H2 H2' g2 _ fun u s3 H3 H3' hp3 g3 e3 =>
    hp3 σ F H3 H3' v g3 ((r1.mono e2).mono e3) Q fun z s' w H4 H4' a b e d => q z s' w H4 H4' a b (((e1.trans e2).trans e3).trans e) d
def cutD (xs : List D) (lo hi : Option Int) : List D := (xs.drop (HT.sIx xs.length 0 lo)).take (HT.sIx xs.length xs.length hi - HT.sIx xs.length 0 lo)
theorem RepAll.cut {K : PySem.W.Frag} {H : Hp} {vs : List V} {ds : List D} (r : RepAll K H vs ds) (lo hi : Option Int) : RepAll K H (cutV vs lo hi) (cutD ds lo hi) := by
  unfold cutV cutD
  rw [r.len]
  exact (r.dr _).tk _
theorem ds_lst {xs : List D} {lo hi : Option Int} (k : P (.own (.lst (cutD xs lo hi))) s) : DSl c (qSl c.K) (.lst xs) lo hi G s P := fun σ F H0 H v gd r1 Q q => by
  cases r1 with
  | lst ha ra =>
    exact .inl ⟨_, _, rfl, .inl (.inl (gd.gd.sub _ _ ha)), fun p hp => q _ s _ H0 _ k (gd.push hp) (Same.refl _) (gd.rok (u := .lst _) hp (ra.cut lo hi))⟩
theorem ds_tup {xs : List D} {lo hi : Option Int} (k : P (.dat (.tup (cutD xs lo hi))) s) : DSl c (qSl c.K) (.tup xs) lo hi G s P := fun σ F H0 H v gd r1 Q q => by
  cases r1 with
  | tup ha ra =>
    refine .inr (.inl ⟨_, _, rfl, same_t gd.gd.sub ha, fun e => ?_, fun _ p hp => ?_⟩)
    · have : cutD xs lo hi = xs := by
        unfold cutD
        rw [ra.len] at e
        rw [e.1, e.2]
        simp
      rw [this] at k
      exact q _ s _ H0 _ k gd (Same.refl _) (.tup ha ra)
    · obtain ⟨g2, e2⟩ := gd.lay (o := .tup _) hp
      exact q _ s _ _ _ k g2 e2 (.tup (.inl (.inl upd_same)) ((ra.cut lo hi).mono e2))
theorem ds_str {x : Str} {lo hi : Option Int} (hl : x.length ≤ 1000000) (k : P (.dat (.str (cutS x lo hi))) s) : DSl c (qSl c.K) (.str x) lo hi G s P := fun σ F H0 H v gd r1 Q q => by
  cases r1
  exact .inr (.inr ⟨x, rfl, sizeL hl, q _ s _ H0 H k gd (Same.refl _) (.str _)⟩)
/-! ### calls of what is built in -/
theorem dl_str {x : Str} (hl : x.length ≤ 1000000) (k : P (.dat (.int x.length)) s) : DCB c (qLen c.K) [.str x] G s P := fun σ F H0 H vs gd r Q q => by
  cases r with
  | cons r rs =>
    cases rs
    cases r
    exact ⟨.str x, _, rfl, ⟨sizeL hl, rfl⟩, q _ s _ H0 H k gd (Same.refl _) (.int _)⟩
theorem dl_lst {xs : List D} (k : P (.dat (.int xs.length)) s) : DCB c (qLen c.K) [.lst xs] G s P := fun σ F H0 H vs gd r Q q => by
  cases r with
  | cons r rs =>
    cases rs
    cases r with
    | lst ha ra => exact ⟨.ref _, _, rfl, .inl ⟨_, .inl (.inl (gd.gd.sub _ _ ha)), ra.len.symm⟩, q _ s _ H0 H k gd (Same.refl _) (.int _)⟩
theorem dl_tup {xs : List D} (k : P (.dat (.int xs.length)) s) : DCB c (qLen c.K) [.tup xs] G s P := fun σ F H0 H vs gd r Q q => by
  cases r with
  | cons r rs =>
    cases rs
    cases r with
    | tup ha ra => exact ⟨.ref _, _, rfl, .inr ⟨_, same_t gd.gd.sub ha, ra.len.symm⟩, q _ s _ H0 H k gd (Same.refl _) (.int _)⟩
theorem db_max {i j : Int} (k : P (.dat (.int (if j > i then j else i))) s) : DCB c (fun xs H Q => ∃ i j, xs = [.int i, .int j] ∧ Q (.int (if j > i then j else i)) H) [.int i, .int j] G s P := fun σ F H0 H vs gd r Q q => by
  cases r with
  | cons r rs =>
  cases rs with
  | cons r2 rs =>
    cases rs
    cases r
    cases r2
    exact ⟨i, j, rfl, q _ s _ H0 H k gd (Same.refl _) (.int _)⟩
theorem db_min {i j : Int} (k : P (.dat (.int (if j < i then j else i))) s) : DCB c (fun xs H Q => ∃ i j, xs = [.int i, .int j] ∧ Q (.int (if j < i then j else i)) H) [.int i, .int j] G s P := fun σ F H0 H vs gd r Q q => by
  cases r with
  | cons r rs =>
  cases rs with
  | cons r2 rs =>
    cases rs
    cases r
    cases r2
    exact ⟨i, j, rfl, q _ s _ H0 H k gd (Same.refl _) (.int _)⟩
theorem db_abs {i : Int} (k : P (.dat (.int (if i < 0 then -i else i))) s) : DCB c (fun xs H Q => ∃ i, xs = [.int i] ∧ Q (.int (if i < 0 then -i else i)) H) [.int i] G s P := fun σ F H0 H vs gd r Q q => by
  cases r with
  | cons r rs =>
    cases rs
    cases r
    exact ⟨i, rfl, q _ s _ H0 H k gd (Same.refl _) (.int _)⟩
theorem db_intI {i : Int} (k : P (.dat (.int i)) s) : DCB c (fun xs H Q => (∃ i, xs = [.int i] ∧ Q (.int i) H) ∨ ∃ k, xs = [.bl k] ∧ Q (.int (if k = true then 1 else 0)) H) [.int i] G s P := fun σ F H0 H vs gd r Q q => by
  cases r with
  | cons r rs =>
    cases rs
    cases r
    exact .inl ⟨i, rfl, q _ s _ H0 H k gd (Same.refl _) (.int _)⟩
theorem db_intB {b : Bool} (k : P (.dat (.int (if b = true then 1 else 0))) s) : DCB c (fun xs H Q => (∃ i, xs = [.int i] ∧ Q (.int i) H) ∨ ∃ k, xs = [.bl k] ∧ Q (.int (if k = true then 1 else 0)) H) [.bl b] G s P := fun σ F H0 H vs gd r Q q => by
  cases r with
  | cons r rs =>
    cases rs
    cases r
    exact .inr ⟨b, rfl, q _ s _ H0 H k gd (Same.refl _) (.int _)⟩
/-- sep.join(list of texts) -/
theorem we_join {to te : TE} (h : WE c to G s (FZ fun o s1 => ∃ a, o = .str a ∧ WE c te G s1 (FZ fun d s2 => ∃ ys, d = .lst (ys.map D.str) ∧ (ys.map fun x => x.length).sum + ys.length * a.length ≤ 1000000 ∧ P (.dat (.str (Txt.join a ys))) s2))) :
    WE c (tM1 (fun x xs H Q => ∃ a p ys, x = .str a ∧ xs = [.ref p] ∧ (SqL c.K H p (ys.map V.str) ∨ SqT c.K H p (ys.map V.str)) ∧ (ys.map fun x => x.length).sum + ys.length * a.length ≤ 16777216 ∧ Q (.str (Txt.join a ys)) H) to te) G s P := fun σ F H0 H g Q q =>
  h.use g fun o s1 v H1 H1' hp g1 e1 r1 => by
    obtain ⟨a, rfl, hp⟩ := hp
    cases r1
    refine ⟨⟨a, rfl⟩, hp.use g1 fun d s2 w H2 H2' hp2 g2 e2 r2 => ?_⟩
    obtain ⟨ys, rfl, hl, hp2⟩ := hp2
    cases r2 with
    | lst ha ra =>
      have e := ra.strs
      subst e
      exact ⟨a, _, ys, rfl, rfl, .inl (.inl (.inl (g2.gd.sub _ _ ha))), by omega, q _ s2 _ H2 H2' hp2 g2 (e1.trans e2) (.str _)⟩
/-- the object of one's own that a name holds is changed -/
theorem Good.chg {σ : L2.St} {H0 H : Hp} {i : Nat} {p : Addr} {w w' : OV} {u : HO} (g : Good c G s σ H0 H) (hi : G[i]? = some (.own w)) (hs : σ[i]? = some (some (.ref p))) (hw : OvOk c.K H0 p u w') : Good c (G.set i (.own w')) s σ H0 (upd H p u) := by
  obtain ⟨p', h1, n0, n1, nb, v, hv, _⟩ := g.ownAt hi
  rw [hs] at h1
  cases h1
  have kk : ∀ a o, H a = some o → a ≠ p → upd H p u a = some o := fun a o h hn => by rw [upd_ne hn]; exact h
  refine ⟨fun a o h => kk a o (g.sub a o h) (fun z => by subst z; rw [n0] at h; cases h), g.av, g.e0, fun a o h hb => kk a o (g.e1 a o h hb) (fun z => by subst z; rw [n1] at h; cases h), g.e2,
    c.stab _ _ _ _ _ g.rs (Same.refl _) (fun a o hb h => kk a o h (fun z => by subst z; exact nb hb)), by rw [List.length_set]; exact g.len, fun j y hy => ?_, fun a b q w1 w2 hab ha hb h1 h2 => ?_⟩
  · rw [List.getElem?_set] at hy
    split at hy
    · rename_i hij
      subst hij
      split at hy
      · cases hy
        rw [hs]
        exact ⟨p, rfl, n0, n1, nb, u, upd_same, hw⟩
      · cases hy
    · rename_i hij
      have q := g.sl j y hy
      cases y with
      | un => trivial
      | dat d => exact q
      | own w3 =>
        obtain ⟨r, hr, o⟩ := q
        refine ⟨r, hr, o.step (Same.refl _) o.1 fun o' h => kk r o' h fun z => ?_⟩
        subst z
        refine g.ds i j r _ w3 hij hi hy hs ?_
        cases hj : σ[j]? with
        | none =>
          rw [hj] at hr
          cases hr
        | some y =>
          rw [hj] at hr
          exact congrArg some hr
  · have own : ∀ (j : Nat) (w1 : OV), (G.set i (.own w'))[j]? = some (.own w1) → ∃ w2, G[j]? = some (.own w2) := fun j w1 hj => by
      rw [List.getElem?_set] at hj
      split at hj
      · rename_i hij
        subst hij
        exact ⟨w, hi⟩
      · exact ⟨w1, hj⟩
    obtain ⟨x1, hx1⟩ := own a w1 ha
    obtain ⟨x2, hx2⟩ := own b w2 hb
    exact g.ds a b q x1 x2 hab hx1 hx2 h1 h2
theorem Good.ovAt {σ : L2.St} {H0 H : Hp} {i : Nat} {ds : List D} (g : Good c G s σ H0 H) (hi : G[i]? = some (.own (.lst ds))) : ∃ p xs, σ[i]? = some (some (.ref p)) ∧ H p = some (.lst xs) ∧ RepAll c.K H0 xs ds := by
  obtain ⟨p, h1, n0, n1, nb, v, hv, k⟩ := g.ownAt hi
  cases v with
  | lst xs => exact ⟨p, xs, h1, hv, k⟩
  | _ => exact False.elim k
/-- xs.append(e), xs an object of one's own -/
theorem ws_app {i : Nat} {te : TE} {ds : List D} {P : Ds c.S} (hi : G[i]? = some (.own (.lst ds))) (hl : ds.length ≤ 1000000) (h : WE c te G s (FZ fun d s1 => P.nx (G.set i (.own (.lst (ds ++ [d])))) s1)) : WS c (tDrop (tBM c.K "list" rAppend (tVar i) (tCons te tNil))) G s P := fun σ H0 H g D e => by
  obtain ⟨p, xs, h1, hp, _⟩ := g.ovAt hi
  refine ⟨.ref p, h1, .inl ⟨rfl, xs, .inl (.inl hp)⟩, h.use (Gd.of g) fun d s1 v H1 H1' hp1 g1 e1 r1 => ?_⟩
  obtain ⟨p', ys, h2, hp2, ra⟩ := g1.to.ovAt hi
  rw [h1] at h2
  cases h2
  exact ⟨p, ys, v, rfl, rfl, hp2, Nat.lt_of_le_of_lt (by rw [ra.len]; exact hl) (by decide : 1000000 < sizeLine), e.nx _ s1 _ H1 _ hp1 (g1.to.chg hi h1 (ra.app (.cons r1 .nil))) e1 (List.length_set ..)⟩
end
/-! ### the rule for a def -/
section
variable {P : Program} {w : World} {K : PySem.W.Frag} {mg : Str → Option Value} {base : Heap}
abbrev pureCt (K : PySem.W.Frag) (H0 H : Hp) (E : XK) (XP : Addr → D → Prop) (okX : ∀ C d s' v a H0' H', XP C d → Step noR noB s' H0 H H0' H' → (H a = none ∧ H' a = some (.xd [("value", v)])) → Rep K H0' v d → E (.ref C) (some a) H') : Ct where
  K := K
  S := Unit
  R := noR
  B := noB
  stab := fun _ _ _ _ _ _ _ _ => trivial
  there := fun _ _ _ _ _ h => h.elim
  E0 := H0
  E := H
  EX := E
  X := fun C d _ => XP C d
  okX := fun C d s v a H0' H' x e sub k n av rs ha r => okX C d s v a H0' H' x ⟨e, sub, k, n, av, rs⟩ ha r
abbrev resCt (K : PySem.W.Frag) (r : Res) (p : Addr) (H0 H : Hp) (E : XK) (XP : Addr → D → r.S → Prop) (okX : ∀ C d s' v a H0' H', XP C d s' → Step (r.R p) (r.B p) s' H0 H H0' H' → (H a = none ∧ H' a = some (.xd [("value", v)])) → Rep K H0' v d → E (.ref C) (some a) H') : Ct where
  K := K
  S := r.S
  R := r.R p
  B := r.B p
  stab := r.stab p
  there := r.there p
  E0 := H0
  E := H
  EX := E
  X := XP
  okX := fun C d s v a H0' H' x e sub k n av rs ha rr => okX C d s v a H0' H' x ⟨e, sub, k, n, av, rs⟩ ha rr
theorem Good.start {c : Ct} {s : c.S} {vs : List V} {ds : List D} {N : List Str} (r : RepAll c.K c.E0 vs ds) (sub : Same c.E0 c.E) (av : ∀ a, c.B a → c.E0 a = none) (rs : c.R s c.E0 c.E) : Good c (ds.map Sl.dat ++ List.replicate (N.length - ds.length) .un) s (L2.start N vs) c.E0 c.E where
  sub := sub
  av := av
  e0 := Same.refl _
  e1 := fun _ _ h _ => h
  e2 := fun _ _ h => h
  rs := rs
  len := by unfold L2.start; simp [r.len]
  sl := fun i x hx => by
    unfold L2.start
    by_cases h : i < ds.length
    · rw [List.getElem?_append_left (by simpa using h), List.getElem?_map] at hx
      rw [List.getElem?_append_left (by simpa [r.len] using h), List.getElem?_map]
      cases hd : ds[i]? with
      | none =>
        rw [hd] at hx
        cases hx
      | some d =>
        rw [hd] at hx
        cases hx
        obtain ⟨v, hv, rv⟩ := r.get hd
        rw [hv]
        exact ⟨v, rfl, rv⟩
    · rw [List.getElem?_append_right (by simpa using h), List.getElem?_replicate] at hx
      split at hx
      · cases hx
        trivial
      · cases hx
  ds := fun a b p w w' _ ha => by
    exfalso
    by_cases h : a < ds.length
    · rw [List.getElem?_append_left (by simpa using h), List.getElem?_map] at ha
      cases hd : ds[a]? with
      | none =>
        rw [hd] at ha
        cases ha
      | some d =>
        rw [hd] at ha
        cases ha
    · rw [List.getElem?_append_right (by simpa using h), List.getElem?_replicate] at ha
      split at ha <;> cases ha
/-- a def on the object at its first argument -/
theorem ok_res {x qual : Str} {st : Stmt} {f : Addr} {fd : FuncData} {N ps : List Str} {k : Nat} {r : Res} (fs : RSpec r) (F : Fun K x qual st f fd) (S : FnScope N ps (defScope st)) (hl : ∀ p ds s P XP, fs p ds s P XP → (ds.length + 1) = ps.length)
    (hbody : ∀ (cdv : Value) (A : Around) (outer : List Env) (s : Shared) (H : Hp) (E : XK), Room k (A.deeper (envOfC qual (defScope st) s.heap.objs.size f cdv)) →
      ∃ t, PSs (cxOf CX0 P w K mg base N qual (defScope st) f cdv A outer s H E).nox (defBody st) t ∧
        ∀ p ds s0 Q XP, fs p ds s0 Q XP → ∀ H0 okX, WS (resCt K r p H0 H E XP okX) t ((.ref p :: ds).map Sl.dat ++ List.replicate (N.length - (ds.length + 1)) .un) s0 { nx := fun _ s1 => Q (.dat .non) s1, rt := Q }) : FnOk P w K mg base CX0 (k + 1) f fd ps (ResSp K r fs) := by
  refine F.ok S (fun vs H Q E h => ?_) (fun cdv A outer s H vs Q E hr h => ?_)
  · obtain ⟨p, ds, s, P, XP, hf, H0, _, _, ra, _⟩ := h
    rw [ra.len]
    exact hl _ _ _ _ _ hf
  · obtain ⟨t, ht, hb⟩ := hbody cdv A outer s H E hr
    refine ⟨t, ht, ?_⟩
    obtain ⟨p, ds, s0, P, XP, hf, H0, sub, av, ra, rs, kQ, kX⟩ := h
    have hw := hb p ds s0 P XP hf H0 kX
    refine hw _ _ _ (Good.start (c := resCt K r p H0 H E XP kX) (N := N) ra sub av rs) _ ⟨fun G s1 σ H0' H' hp g _ _ => ?_, fun y s1 v G σ H0' H' hp g ro => ?_, fun _ _ _ _ _ h => h.elim, fun _ _ _ _ _ h => h.elim⟩
    · exact kQ _ s1 _ H0' H' hp ⟨g.e0, g.sub, g.e1, g.e2, g.av, g.rs⟩ .non
    · refine kQ _ s1 _ H0' H' hp ⟨g.e0, g.sub, g.e1, g.e2, g.av, g.rs⟩ ?_
      cases y with
      | un => trivial
      | dat d => exact ro
      | own w =>
        obtain ⟨a, rfl, ⟨n0, n1, nb, u, hu, k⟩, _⟩ := ro
        exact ⟨a, rfl, n0, n1, nb, u, hu, k⟩
theorem ok_pure {x qual : Str} {st : Stmt} {f : Addr} {fd : FuncData} {N ps : List Str} {k : Nat} (fs : FSpec) (F : Fun K x qual st f fd) (S : FnScope N ps (defScope st)) (hl : ∀ ds P XP, fs ds P XP → ds.length = ps.length)
    (hbody : ∀ (cdv : Value) (A : Around) (outer : List Env) (s : Shared) (H : Hp) (E : XK), Room k (A.deeper (envOfC qual (defScope st) s.heap.objs.size f cdv)) →
      ∃ t, PSs (cxOf CX0 P w K mg base N qual (defScope st) f cdv A outer s H E).nox (defBody st) t ∧
        ∀ ds Q XP, fs ds Q XP → ∀ H0 okX, WS (pureCt K H0 H E XP okX) t (ds.map Sl.dat ++ List.replicate (N.length - ds.length) .un) () { nx := fun _ _ => Q (.dat .non), rt := fun x _ => Q x }) : FnOk P w K mg base CX0 (k + 1) f fd ps (PureSp K fs) := by
  refine F.ok S (fun vs H Q E h => ?_) (fun cdv A outer s H vs Q E hr h => ?_)
  · obtain ⟨ds, P, XP, hf, H0, _, _, ra, _⟩ := h
    rw [ra.len]
    exact hl _ _ _ hf
  · obtain ⟨t, ht, hb⟩ := hbody cdv A outer s H E hr
    refine ⟨t, ht, ?_⟩
    obtain ⟨ds, P, XP, hf, H0, sub, av, ra, rs, kQ, kX⟩ := h
    have hw := hb ds P XP hf H0 kX
    refine hw _ _ _ (Good.start (c := pureCt K H0 H E XP kX) (N := N) ra sub av rs) _ ⟨fun G s1 σ H0' H' hp g _ _ => ?_, fun y s1 v G σ H0' H' hp g ro => ?_, fun _ _ _ _ _ h => h.elim, fun _ _ _ _ _ h => h.elim⟩
    · exact kQ _ s1 _ H0' H' hp ⟨g.e0, g.sub, g.e1, g.e2, g.av, g.rs⟩ .non
    · refine kQ _ s1 _ H0' H' hp ⟨g.e0, g.sub, g.e1, g.e2, g.av, g.rs⟩ ?_
      cases y with
      | un => trivial
      | dat d => exact ro
      | own w =>
        obtain ⟨a, rfl, ⟨n0, n1, nb, u, hu, k⟩, _⟩ := ro
        exact ⟨a, rfl, n0, n1, nb, u, hu, k⟩
end
end DL
/-! DLf: enumerate(text); whatever is walked -/
namespace DL
open PySem PySem.Spec PyProof.Rows L2
/-- the signs of a text, each in a new pair with its place -/
def Ites (x : Str) : It :=
  ⟨fun i _ => i < x.cps.size, fun i H v H' => ∃ T k, v = .ref T ∧ H T = none ∧ H' = upd H T (.tup [.int (i : Nat), .str ⟨#[k]⟩]) ∧ x.cps[i]? = some k, fun i _ => i = x.cps.size⟩
theorem strIter_two (x : Str) : PySem.strIterType x = "str_ascii_iterator" ∨ PySem.strIterType x = "str_iterator" := by
  unfold PySem.strIterType
  split <;> simp
theorem draws_str {prog : Program} {w : World} {A : Around} (hh : A.handled = none) (it : Addr) (x : Str) (t : Tok) :
    Draws prog w A it [it] x.cps.size (fun i v => ∃ c u, x.cps[i]? = some c ∧ v = .str ⟨#[c]⟩ u) (fun i h => h.IsStrIter it (PySem.strIterType x) x t i) := by
  rcases strIter_two x with e | e
  · rw [e]
    exact Draws.strAscii hh it x t
  · rw [e]
    exact Draws.strWide hh it x t
theorem turn_enumS {P : Program} {w : World} {K : PySem.W.Frag} {elts : List Expr} {kk : Nat} {tpos : Pos} (x : Str) (tx : Tok) (e it : Addr) :
    Turn P w K (.Tuple elts kk tpos) (Ites x) [e, it] e (fun i h => (∃ old, IsEnum h e it ((i : Nat) : Int) old) ∧ h.IsStrIter it (PySem.strIterType x) x tx i ∧ e ≠ it) where
  mem := by simp
  obj := fun i h st b hb => by
    obtain ⟨⟨old, he⟩, hit, _⟩ := st
    obtain ⟨o, ho, _, hd⟩ := hit
    have two : b = e ∨ b = it := by simpa using hb
    rcases two with z | z
    · subst z
      exact ⟨_, he, fun v q => nomatch q⟩
    · subst z
      refine ⟨o, ho, fun v q => ?_⟩
      simp [q] at hd
  keep := fun i h h' st k => by
    obtain ⟨⟨old, he⟩, ⟨o, ho, r⟩, hne⟩ := st
    exact ⟨⟨old, k e (by simp) _ he⟩, ⟨o, k it (by simp) _ ho, r⟩, hne⟩
  item := by
    intro X hP hw hK hc i pins s σ H E I hf st hg
    subst hP hw hK
    obtain ⟨⟨old, he⟩, hit, hne⟩ := st
    have hel : e < s.heap.objs.size := Heap.lt_size he
    have hil : it < s.heap.objs.size := by
      obtain ⟨_, q, _⟩ := hit
      exact Heap.lt_size q
    refine wpAny_pyNext_enum_itemD (draws_str (show X.A.in1.handled = none from I.ok.hd hc) it x tx) he hit hg hne (by simpa using hne) fun y h' tk hy ho hit' hT hsz hk => ?_
    obtain ⟨k, u, hx, rfl⟩ := hy
    refine ⟨_, rfl, wpAny_letOwnedTupleGo_enum (s := { s with heap := h', toks := tk + 1 }) ho fun h'' he' sb => ?_⟩
    have hT2 : h''.get? s.heap.objs.size = some { cls := .type "tuple", data := .seq #[.int i tk, .str ⟨#[k]⟩ u] } := (sb.2 _ (Nat.ne_of_gt hel)).trans hT
    have new : ObjOk X.prog X.w (upd H s.heap.objs.size (.tup [.int (i : Nat), .str ⟨#[k]⟩])) h'' s.heap.objs.size (.tup [.int (i : Nat), .str ⟨#[k]⟩]) :=
      ⟨by show 2 ≤ sizeLine; decide, [.int i tk, .str ⟨#[k]⟩ u], .cons ⟨_, rfl⟩ (.cons ⟨_, rfl⟩ .nil), ⟨_, hT2, rfl, _, rfl⟩⟩
    have I1 : Inv X pins σ (upd H s.heap.objs.size (.tup [.int (i : Nat), .str ⟨#[k]⟩])) { s with heap := h'', toks := tk + 1 } :=
      I.turnedNew (ch := [e, it]) (fun b ob hb q => (sb.2 b (fun z => hb (by simp [z]))).trans (hk b ob (fun z => hb (by simp [z])) (fun z => hb (by simp [z])) q)) hf (Nat.le_refl _) new
    refine ⟨.ref s.heap.objs.size, _, I1, rfl, ⟨_, k, rfl, I.hok.fresh (Nat.le_refl _), rfl, hx⟩, ⟨⟨.str ⟨#[k]⟩ u, ?_⟩, ?_, hne⟩, fun b hb => ?_⟩
    · have e1 : ((i + 1 : Nat) : Int) = (i : Int) + 1 := by omega
      rw [e1]
      exact he'
    · obtain ⟨o, ho2, r⟩ := hit'
      exact ⟨o, (sb.2 it (Ne.symm hne)).trans ho2, r⟩
    · have hb' : b < s.heap.objs.size := by
        have two : b = e ∨ b = it := by simpa using hb
        rcases two with z | z
        · subst z
          exact hel
        · subst z
          exact hil
      rw [upd_ne (Nat.ne_of_lt hb')]
      exact (hf b hb).1
  done := by
    intro X hP hw hK hc i pins s σ H E I hf st hg
    subst hP hw hK
    obtain ⟨⟨old, he⟩, hit, hne⟩ := st
    obtain ⟨f0, f1, f2, f3, f4, f5⟩ := hf it (by simp)
    have hi : i = x.cps.size := hg
    subst hi
    exact wpAny_pyNext_enum_endD (draws_str (show X.A.in1.handled = none from I.ok.hd hc) it x tx) he hit fun h' eb => ⟨rfl, I.turned (t' := s.toks) (fun b o hb q => eb b o hb q) f0 f1 f3 f4 f5⟩
  self := fun A i s Q E st h => by
    obtain ⟨⟨_, he⟩, _⟩ := st
    exact wpAny_pyIter_enum he h
def iEnumS (ta : TA) : TI := fun σ H R => ta σ H fun vs H1 => ∃ x, vs = [.str x] ∧ R (Ites x) H1
theorem pi_enumS {X : Cx} {e : Expr} {ta : TA} {p pos tpos : Pos} {elts : List Expr} {kk : Nat} (hg : Gl X "enumerate") (hm : X.mg "enumerate" = none) (ha : PA X [e] ta) (hs : starEach [e] X.env = [(false, eval e X.env)] := by rfl) :
    PI X (.Tuple elts kk tpos) (.Call (.Name "enumerate" p) [e] [] pos) (iEnumS ta) := by
  refine ⟨fun pins s σ H R I h => ?_⟩
  refine Call_ (ld_blt I hg hm boot_enumerate (PyProof.Rows.callWith_type1 (thn (ha.run pos pins s σ H _ I h) fun us s1 ⟨vs, H1, I1, r1, q1⟩ => ?_) hs rfl))
  obtain ⟨x, rfl, q⟩ := q1
  cases r1 with
  | cons r rr =>
    cases rr
    obtain ⟨t, rfl⟩ := r
    refine call_enumerate_str fun h' he hit hsz hk => wpAny_pyIter_enum he ?_
    have I2 : Inv X pins σ H1 { s1 with heap := h' } := I1.kept (t' := s1.toks) hk
    refine ⟨s1.heap.objs.size + 1, [s1.heap.objs.size + 1, s1.heap.objs.size], _, _, H1, rfl, I2, turn_enumS x t (s1.heap.objs.size + 1) s1.heap.objs.size, ⟨⟨.none, he⟩, hit, Nat.succ_ne_self _⟩, fun b hb => ?_, q⟩
    have two : b = s1.heap.objs.size + 1 ∨ b = s1.heap.objs.size := by simpa using hb
    have hle : s1.heap.objs.size ≤ b := by
      rcases two with z | z <;> subst z <;> simp
    exact I1.fpOk hle (I1.hok.fresh hle)
theorem pi_or {X : Cx} {tg it : Expr} {a b : TI} (h : PI X tg it a) (h' : PI X tg it b) : PI X tg it (fun σ H R => a σ H R ∨ b σ H R) :=
  ⟨fun pins s σ H R I q => q.elim (h.run pins s σ H R I) (h'.run pins s σ H R I)⟩
def iEnumQ (K : PySem.W.Frag) (ta : TA) : TI := fun σ H R => iEnum K ta σ H R ∨ iEnumS ta σ H R
theorem pi_enumQ {X : Cx} {e : Expr} {ta : TA} {p pos tpos : Pos} {elts : List Expr} {kk : Nat} (hg : Gl X "enumerate") (hm : X.mg "enumerate" = none) (ha : PA X [e] ta) (hs : starEach [e] X.env = [(false, eval e X.env)] := by rfl) :
    PI X (.Tuple elts kk tpos) (.Call (.Name "enumerate" p) [e] [] pos) (iEnumQ X.K ta) := pi_or (pi_enum hg hm ha hs) (pi_enumS hg hm ha hs)
/-- a list, a tuple, a text -/
def iAny (K : PySem.W.Frag) (te : TE) : TI := fun σ H R => iList K te σ H R ∨ (iTup K te σ H R ∨ iStr te σ H R)
theorem pi_any {X : Cx} {tg e : Expr} {te : TE} (he : PE X e te) : PI X tg e (iAny X.K te) := pi_or (pi_list he) (pi_or (pi_tup he) (pi_str he))
section
variable {c : Ct} {G : List Sl} {s : c.S} {P : List D → c.S → Prop}
theorem wi_t {te : TE} (h : WE c te G s (FZ fun d s1 => ∃ ds, d = .tup ds ∧ P ds s1)) : WI c (iAny c.K te) G s P := fun σ F H0 H g R q => .inr (.inl (wi_tup h σ F H0 H g R q))
theorem wi_s {te : TE} (h : WE c te G s (FZ fun d s1 => ∃ z, d = .str z ∧ P (signsD z) s1)) : WI c (iAny c.K te) G s P := fun σ F H0 H g R q => .inr (.inr (wi_str h σ F H0 H g R q))
theorem walk_enumS {x : Str} : Walk (Ites x) x.cps.size (fun _ => True) (fun i H v H' => ∃ T k, v = .ref T ∧ H T = none ∧ H' = upd H T (.tup [.int (i : Nat), .str ⟨#[k]⟩]) ∧ x.cps[i]? = some k) :=
  ⟨fun _ _ hi _ => hi, fun _ _ => rfl, fun _ _ _ _ _ _ y => y⟩
theorem wi_enS {ta : TA} (h : WA c ta G s fun es s1 => ∃ x, es = [.str x] ∧ P (enumD (signsD x)) s1) : WI c (iEnumQ c.K ta) G s P := fun σ F H0 H g R q =>
  .inr (h σ F H0 H g _ fun es s1 vs H1 H1' hp g1 e1 r1 => by
    obtain ⟨x, rfl, hp⟩ := hp
    cases r1 with
    | cons r rs =>
      cases rs
      cases r
      have w := walk_enumS (x := x)
      refine ⟨x, rfl, q _ s1 _ H1 H1' _ _ hp g1 e1 (by rw [enumD_len, signsD_len]; exact w) (fun H0a Ha k1 k2 => trivial) fun i Hb v H2 hi y => ?_⟩
      obtain ⟨T, k, rfl, hT, rfl, hk⟩ := y
      refine ⟨_, enumD_at (d := .str ⟨#[k]⟩) ?_, fun Hc k1 k2 => .inr ⟨T, _, _, rfl, hT, rfl, .cons (.int _) (.cons (.str _) .nil), rfl⟩⟩
      unfold signsD
      rw [List.getElem?_map]
      have : x.cps.toList[i]? = some k := by simpa using hk
      rw [this]
      rfl)
end
/-! ### the same with the written part told -/
section
variable {X : Cx} {K : PySem.W.Frag} {pos apos tpos p : Pos} {e o e2 : Expr} {te to ti tl : TE} {es : List Expr} {ta : TA} {elts : List Expr} {kk : Nat}
theorem op_addK (h : X.K = K) : OpR X (binaryOp .Add) (qAdd K) := by subst h; exact op_addQ
theorem op_eqK (h : X.K = K) (hu : X.A.units + 64 < cLine) : OpR X (compareOp .Eq) (qEq K) := by subst h; exact op_eqQ hu
theorem op_neK (h : X.K = K) (hu : X.A.units + 64 < cLine) : OpR X (compareOp .NotEq) (qNe K) := by subst h; exact op_neQ hu
theorem op_notInK (h : X.K = K) (hu : X.A.units + 65 < cLine) : OpR X (compareOp .NotIn) (qNotIn K) := by subst h; exact op_notInQ hu
theorem ix_K (h : X.K = K) : IxR X (rIx K) := by subst h; exact ix_seq
theorem sl_K (h : X.K = K) : SlR X (qSl K) := by subst h; exact sl_Q
theorem call_lenK (h : X.K = K) : CallR X (.builtin "len") (qLen K) := by subst h; exact call_len
def qList (K : PySem.W.Frag) : List V → Hp → VK → Prop := fun xs H Q => ∃ p ys, xs = [.ref p] ∧ (SqL K H p ys ∨ SqT K H p ys) ∧ ∀ l, H l = none → Q (.ref l) (upd H l (.lst ys))
def qTuple (K : PySem.W.Frag) : List V → Hp → VK → Prop := fun xs H Q => ∃ p ys, xs = [.ref p] ∧ ((SqL K H p ys ∧ ∀ l, H l = none → Q (.ref l) (upd H l (.tup ys))) ∨ (SqT K H p ys ∧ Q (.ref p) H))
theorem call_tupleK (h : X.K = K) : CallR X (.type "tuple") (qTuple K) := by subst h; exact call_tuple_of
theorem pi_anyK {tg : Expr} (h : X.K = K) (he : PE X e te) : PI X tg e (iAny K te) := by subst h; exact pi_any he
theorem pi_enumK (h : X.K = K) (hg : Gl X "enumerate") (hm : X.mg "enumerate" = none) (ha : PA X [e] ta) (hs : starEach [e] X.env = [(false, eval e X.env)] := by rfl) :
    PI X (.Tuple elts kk tpos) (.Call (.Name "enumerate" p) [e] [] pos) (iEnumQ K ta) := by subst h; exact pi_enumQ hg hm ha hs
theorem pg_tupK {t : TGs} {n : Nat} {k : Nat} (h : X.K = K) (hc : X.calm = true) (ht : PGs X es t) (hn : (assignEach es X.env).length = n := by rfl) (hst : (assignEach es X.env).findIdx? (·.1) = none := by rfl) : PG X (.Tuple es k pos) (gTup K n t) := by subst h; exact pg_tup hc ht hn hst
theorem pe_appK {cpos : Pos} (h : X.K = K) (ho : PE X o to) (ha : PA X [e] ta) (hb : attributeBase o "append" X.env (eval o X.env) = eval o X.env := by rfl)
    (h1 : ((backTo cpos (starEach [e] X.env)).all (fun x => !x.1) && (backToKw cpos (keywordEach [] X.env)).all (fun x => x.1.isSome) && decide ([e].length + ([] : List Keyword).length + (if ([] : List Keyword).isEmpty = true then 0 else 1) < 30)) = true := by rfl)
    (h2 : (apos.endLine == cpos.line) = true := by rfl) (h3 : starEach [e] X.env = (false, eval e X.env) :: starEach [] X.env := by rfl) (h4 : (backTo cpos (starEach [] X.env)).any (·.1) = false := by rfl) :
    PE X (.Call (.Attribute o "append" apos) [e] [] cpos) (tBM K "list" rAppend to ta) := by
  subst h
  exact pe_bm PySem.F.plainAttrs_list PySem.F.slot_list_append PySem.F.type_list_append mt_append ho ha hb h1 h2 h3 h4
theorem pe_joinK (h : X.K = K) (ho : PE X o to) (he : PE X e te) (hs : starEach [e] X.env = [(false, eval e X.env)] := by rfl) (hb : attributeBase o "join" X.env (eval o X.env) = eval o X.env := by rfl) (h2 : (apos.endLine == pos.line) = true := by rfl) :
    PE X (.Call (.Attribute o "join" apos) [e] [] pos) (tM1 (fun x xs H Q => ∃ a p ys, x = .str a ∧ xs = [.ref p] ∧ (SqL K H p (ys.map V.str) ∨ SqT K H p (ys.map V.str)) ∧ (ys.map fun x => x.length).sum + ys.length * a.length ≤ 16777216 ∧ Q (.str (Txt.join a ys)) H) to te) := by subst h; exact pe_join ho he hs hb h2
end
end DL
/-! DLg: callees, the pool that a law draws from -/
namespace DL
open PySem PySem.Spec PyProof.Rows L2
theorem hu65 {A : Around} {k : Nat} (hr : Room k A) : A.units + 65 < cLine := by
  have := hr.un
  omega
/-- a def that may be called -/
structure Callee (P : Program) (w : World) (K : PySem.W.Frag) (mg : Str → Option Value) (base : Heap) (CX : CXT) (x : Str) (params : List Str) (k : Nat) (sp : Sp) (f : Addr) (fd : FuncData) : Prop where
  ok : FnOk P w K mg base CX k f fd params sp
  mg : mg x = some (.ref f)
  kp : PySem.W.keepIn K (.ref f) = true
  bd : Binds K fd params []
  ps : ∀ X : Cx, X.prog = P → X.w = w → Passes CX X E0
/-- the pool: three whole numbers, no more than n draws to come -/
def poolR (p : Addr) (n : Nat) (H0 H : Hp) : Prop := ∃ a b m : Int, H p = some (.lst [.int a, .int b, .int m]) ∧ 0 ≤ a ∧ 0 ≤ b ∧ b < 2 ^ 62 ∧ 0 ≤ m ∧ m + n ≤ 1000000000000
abbrev poolRes : Res where
  S := Nat
  R := poolR
  B := fun p a => a = p
  stab := fun p n H0 H H0' H' h e k => by
    obtain ⟨a, b, m, q, r⟩ := h
    exact ⟨a, b, m, k _ _ rfl q, r⟩
  there := fun p n H0 H a h e z => by
    subst e
    obtain ⟨_, _, _, q, _⟩ := h
    rw [z] at q
    cases q
/-- _law_pool -/
def spPool (K : PySem.W.Frag) : Sp := fun vs H Q _ => ∃ (a : Addr) (ns : List Int) (i : Nat), vs = [.ref a, .int (i : Int)] ∧ SqL K H a (ns.map V.int) ∧ i ≤ 100 ∧
  ∀ p x y H', H p = none → Same H H' → H' p = some (.lst [.int x, .int y, .int 0]) → 0 ≤ x → 0 ≤ y → y < 2 ^ 62 → Q (.ref p) H'
/-- _law_draw: some number below span -/
def drawS : RSpec poolRes := fun _ ds (n : Nat) P _ => ∃ span : Int, ds = [.int span] ∧ 0 < span ∧ span ≤ 10 ^ 70 ∧ 1 ≤ n ∧ ∀ z : Int, 0 ≤ z → z < span → P (.dat (.int z)) (n - 1)
theorem pool_dec {m m' : Int} {n : Nat} (h : m + n ≤ 1000000000000) (hn : 1 ≤ n) (h' : m' ≤ m + 1) : m' + ((n - 1 : Nat) : Int) ≤ 1000000000000 := by omega
theorem bits_lt {i : Int} {k : Nat} (h : i.natAbs < 2 ^ k) : Builtin.Int.intBits i ≤ k := by
  unfold Builtin.Int.intBits
  split
  · omega
  · rename_i hz
    have h0 : i.natAbs ≠ 0 := by
      intro z
      apply hz
      have : i = 0 := by omega
      rw [this]
      rfl
    have := (Nat.log2_lt h0).mpr h
    omega
theorem cpw {i : Int} {j : Nat} {k : Nat} (h : i.natAbs < 2 ^ k) (h2 : k * j ≤ 2 ^ 27) : CPw i (j : Int) := by
  refine ⟨by omega, ?_⟩
  have h3 := bits_lt h
  have : Builtin.Int.intBits i * j ≤ k * j := Nat.mul_le_mul_right _ h3
  have h4 : ((Builtin.Int.intBits i * j : Nat) : Int) ≤ 2 ^ 27 := by
    have : Builtin.Int.intBits i * j ≤ 2 ^ 27 := Nat.le_trans this h2
    exact_mod_cast this
  rw [Int.natCast_mul] at h4
  exact h4
section
variable {c : Ct} {s : c.S}
theorem fz_dat {P : D → c.S → Prop} {d : D} (h : P d s) : FZ P (.dat d) s := h
theorem fz_own {P : D → c.S → Prop} {ds : List D} (h : P (.lst ds) s) : FZ P (.own (.lst ds)) s := h
end
/-- on the ground of the pool itself -/
theorem poolC (K : PySem.W.Frag) (p : Addr) (H0 H : Hp) (E : XK) (XP : Addr → D → Nat → Prop) (okX) : CtR (resCt K poolRes p H0 H E XP okX) poolRes p (fun n => n) (fun _ n => n) where
  B := fun _ h => h
  R := fun _ _ _ h => h
  back := fun _ _ _ _ _ _ _ _ t => ⟨t.rs, t.av⟩
/-- a draw, on the pool's own ground -/
theorem we_drawB {K : PySem.W.Frag} {p : Addr} {H0 H : Hp} {E E' : XK} {XP okX} {G : List Sl} {n : Nat} {P : Sl → Nat → Prop} {ta : TA} (h : WA (resCt K poolRes p H0 H E XP okX) ta G n fun ds (n1 : Nat) => ∃ span : Int, ds = [.ref p, .int span] ∧ 0 < span ∧ span ≤ 10 ^ 70 ∧ 1 ≤ n1 ∧ ∀ z : Int, 0 ≤ z → z < span → P (.dat (.int z)) (n1 - 1)) :
    WE (resCt K poolRes p H0 H E XP okX) (tCall (ResSp K poolRes drawS) [] E' ta) G n P :=
  we_callR (c := resCt K poolRes p H0 H E XP okX) (poolC K p H0 H E XP okX) (WA.mono h fun ds (n1 : Nat) hd => by
    obtain ⟨span, rfl, h1, h2, h3, h4⟩ := hd
    exact ⟨[.int span], fun _ _ _ => False, rfl, .inl fun _ _ _ z => z, span, rfl, h1, h2, h3, h4⟩)
theorem we_draw {K : PySem.W.Frag} {p : Addr} {H0 H : Hp} {E E' : XK} {XP okX} {G : List Sl} {n : Nat} {P : Sl → Nat → Prop} {ta : TA} (h : WA (resCt K poolRes p H0 H E XP okX) ta G n fun ds (n1 : Nat) => ∃ span : Int, ds = [.ref p, .int span] ∧ (0 < span ∧ span ≤ 1000000000) ∧ 1 ≤ n1 ∧ ∀ z : Int, 0 ≤ z → z < span → P (.dat (.int z)) (n1 - 1)) :
    WE (resCt K poolRes p H0 H E XP okX) (tCall (ResSp K poolRes drawS) [] E' ta) G n P :=
  we_drawB (WA.mono h fun ds (n1 : Nat) hd => by
    obtain ⟨span, e, ⟨h1, h2⟩, h3, h4⟩ := hd
    exact ⟨span, e, h1, Int.le_trans h2 (by decide), h3, h4⟩)
theorem str_ext {x y : Str} (h : x.cps.toList = y.cps.toList) : x = y := by
  cases x
  cases y
  congr 1
  exact Array.toList_inj.mp h
theorem lens_one (l : List Nat) : ((l.map fun a => (⟨#[a]⟩ : Str)).map fun x => x.length).sum = l.length := by
  induction l with
  | nil => rfl
  | cons a l ih =>
    rw [List.map_cons, List.map_cons, List.sum_cons, ih, List.length_cons]
    show 1 + l.length = l.length + 1
    omega
theorem joinL_nil (ps : List (List Nat)) : TL.joinL [] ps = ps.flatten := by
  induction ps with
  | nil => rfl
  | cons p ps ih =>
    cases ps with
    | nil => simp [TL.joinL]
    | cons q r =>
      show p ++ ([] ++ TL.joinL [] (q :: r)) = _
      rw [ih]
      simp
theorem join_nil (ys : List Str) : (Txt.join (PySem.Str.ofString "") ys).cps.toList = (ys.map fun x => x.cps.toList).flatten := by
  rw [TL.join_eq]
  have := TL.tl_join (PySem.Str.ofString "") ys
  have e : TL.tl (PySem.Str.ofString "") = [] := by decide +kernel
  rw [e, joinL_nil] at this
  exact this
theorem join_letters (l : List Nat) : Txt.join (PySem.Str.ofString "") (l.map fun a => (⟨#[a]⟩ : Str)) = ⟨l.toArray⟩ := by
  apply str_ext
  rw [join_nil]
  induction l with
  | nil => rfl
  | cons a l ih => simpa using ih
/-- letters to choose from: a text or a list of letters -/
def Names (names : D) (A : List Nat) : Prop := A ≠ [] ∧ A.length ≤ 1000 ∧ (names = .str ⟨A.toArray⟩ ∨ names = .lst (A.map fun a => .str ⟨#[a]⟩))
def RowIn (A : List Nat) (n : Nat) (x : Str) : Prop := (∀ a ∈ x.cps.toList, a ∈ A) ∧ x.length ≤ n
/-- _law_line -/
def lineS : RSpec poolRes := fun _ ds (n : Nat) P _ => ∃ (names : D) (A : List Nat) (L : Nat), ds = [names, .int (L : Int)] ∧ Names names A ∧ L ≤ 60 ∧ 64 ≤ n ∧ ∀ (x : Str) (n' : Nat), RowIn A L x → n ≤ n' + 64 → P (.dat (.str x)) n'
end DL
/-! DLh: defs that need to know that nothing is being shown around them; repr -/
namespace DL
open PySem PySem.Spec PyProof.Rows L2
/-- as FnOk, where no repr runs around the call -/
structure FnG (P : Program) (w : World) (K : PySem.W.Frag) (mg : Str → Option Value) (base : Heap) (CX : CXT) (k : Nat) (f : Addr) (fd : FuncData) (ps : List Str) (sp : Sp) : Prop where
  len : ∀ vs H Q E, sp vs H Q E → vs.length = ps.length
  go : ∀ (A : Around) (outer : List Env) (s : Shared) (H : Hp) (args : Args) (us : List Value) (vs : List V) (Q : VK) (E : XK), A.guards = some [] → Room k A → Env0 P w K mg base A outer s H → BindsTo s fd args (ps.zip us) → Vals vs us → sp vs H Q E →
    codeAny (model P w) A (.call (.ref f) args) (CR CX outer P w H s Q E) s
theorem FnG.of {P : Program} {w : World} {K : PySem.W.Frag} {mg : Str → Option Value} {base : Heap} {CX : CXT} {k : Nat} {f : Addr} {fd : FuncData} {ps : List Str} {sp : Sp} (F : FnOk P w K mg base CX k f fd ps sp) : FnG P w K mg base CX k f fd ps sp :=
  ⟨F.len, fun A outer s H args us vs Q E _ => F.run A outer s H args us vs Q E⟩
theorem FnG.mono {P : Program} {w : World} {K : PySem.W.Frag} {mg : Str → Option Value} {base : Heap} {CX : CXT} {j k : Nat} {f : Addr} {fd : FuncData} {ps : List Str} {sp : Sp} (F : FnG P w K mg base CX j f fd ps sp) (h : j ≤ k) : FnG P w K mg base CX k f fd ps sp :=
  ⟨F.len, fun A outer s H args us vs Q E hg hr => F.go A outer s H args us vs Q E hg (hr.mono h)⟩
/-- a def by its body, which may use that nothing is being shown -/
theorem okG {CX : CXT} {P : Program} {w : World} {K : PySem.W.Frag} {mg : Str → Option Value} {base : Heap} {x qual : Str} {st : Stmt} {f : Addr} {fd : FuncData} {N ps : List Str} {k : Nat} {sp : Sp} (F : Fun K x qual st f fd) (S : FnScope N ps (defScope st))
    (len : ∀ vs H Q E, sp vs H Q E → vs.length = ps.length)
    (hb : ∀ (cdv : Value) (A : Around) (outer : List Env) (s : Shared) (H : Hp) (vs : List V) (Q : VK) (E : XK), A.guards = some [] → Room k (A.deeper (envOfC qual (defScope st) s.heap.objs.size f cdv)) → sp vs H Q E →
      ∃ t, PSs (cxOf CX P w K mg base N qual (defScope st) f cdv A outer s H E) (defBody st) t ∧ t { nx := fun _ H' => Q .non H', rt := Q } (start N vs) H) : FnG P w K mg base CX (k + 1) f fd ps sp := by
  obtain ⟨c1, d1, k1, e1, p1, a1, v1, t1, sl1, hfd, hlk, hcode⟩ := F.ex
  subst hfd
  constructor
  · exact len
  intro A outer s H args us vs Q E hgu hroom env hbind hv hsp
  have hin : K.In s.heap := env.mod.kin.keeps fun b o e => (env.bs b o e).1
  have hlim : s.heap.NoLimit := env.mod.nolimit.keeps fun b o e => (env.bs b o e).1
  have hl := len _ _ _ _ hsp
  have hkinds : ∀ y ∈ ps.zip us, (defScope st).names.lookup y.1 = some .local ∨ ((defScope st).names.lookup y.1 = some .cell ∧ ((cellsFrom (s.heap.objs.size + 1) (defScope st).names []).lookup y.1).isSome = true) := by
    rintro ⟨n, v⟩ hy
    rcases S.par n (List.of_mem_zip hy).1 with q | q
    · exact Or.inl q
    · exact Or.inr ⟨q, PySem.W.cellsFrom_some _ _ _ (Or.inl q)⟩
  refine codeAny_call_function hroom.depth (hin _ _ hlk) rfl S.co S.gen rfl (PySem.W.codeRec_of hin hcode) (hbind _ _ _ _ ?_)
  refine wpAny_newFunctionEnv_cells S.kind hkinds fun ev hev s1 inn => ?_
  subst hev
  refine ⟨hlim.keeps inn.toInCall.keep, codeAny_func ?_⟩
  obtain ⟨t, ht, hq⟩ := hb v1 A outer s H vs Q E hgu (hroom.deeper _) hsp
  have inv := inv_start (CX := CX) (E := E) S hroom.hd env hl hv inn
  refine wpAny_mono (ht.run [] s1 (start N vs) H _ inv hq) (fun fl s2 hs => ?_) fun _ _ z => z
  cases fl with
  | ret u =>
    obtain ⟨v, σ2, H2, J, rv, q⟩ := hs
    exact ⟨v, H2, J.os, J.bare, J.base, J.hok, rv, q⟩
  | next =>
    obtain ⟨σ2, H2, J, q⟩ := hs
    exact ⟨V.non, H2, J.os, J.bare, J.base, J.hok, rfl, q⟩
  | brk =>
    obtain ⟨_, _, _, q⟩ := hs
    exact q.elim
  | cont =>
    obtain ⟨_, _, _, q⟩ := hs
    exact q.elim
/-- f(e, ..) of such a def -/
theorem pe_callG {X : Cx} {CX : CXT} {k : Nat} {f : Addr} {fd : FuncData} {ps : List Str} {sp : Sp} {E : XK} {x : Str} {p pos : Pos} {e : Expr} {es : List Expr} {t : TA} (F : FnG X.prog X.w X.K X.mg X.base CX k f fd ps sp) (hgu : X.A.guards = some []) (hr : Room k X.A)
    (hg : Gl X x) (hm : X.mg x = some (.ref f)) (hk : PySem.W.keepIn X.K (.ref f) = true) (hb : Binds X.K fd ps []) (hx : Passes CX X E) (ha : PA X (e :: es) t)
    (hdb : (x == ("__debug__" : Str)) = false := by decide) (he : starEach (e :: es) X.env = (false, eval e X.env) :: starEach es X.env := by rfl) (hpl : (backTo pos (starEach es X.env)).any (·.1) = false := by rfl) :
    PE X (.Call (.Name x p) (e :: es) [] pos) (tCall sp [] E t) := by
  constructor
  intro pins s σ H Q I h
  refine wpAny_Call_Name_kw (ld_glob I hg hm ?_ hdb)
  refine PySem.W.callWith_K (h₀ := X.base) I.ok.mod.kin hk (thn (ha.run pos pins s σ H _ I h) fun us s1 ⟨vs, H1, I1, r, q⟩ => ⟨I1.kIn, ?_⟩) he hpl
  have r2 : Vals (vs ++ []) (us ++ []) := r.append .nil
  have hl : (us ++ []).length = ps.length := by
    rw [← r2.length]
    exact F.len _ _ _ _ q
  refine wpAny_call (codeAny_mono (F.go X.A X.stack s1 H1 ⟨us, []⟩ (us ++ []) (vs ++ []) Q E hgu hr I1.env0 (hb s1 us I1.kIn hl) r2 q) fun res s2 hq => ?_)
  match res, hq with
  | .error er, hq => exact hx pins σ H1 s1 er s2 I1 hq
  | .ok (.ret u), hq => exact I1.after hq
  | .ok .next, hq => exact False.elim hq
  | .ok .brk, hq => exact False.elim hq
  | .ok .cont, hq => exact False.elim hq
structure CalleeG (P : Program) (w : World) (K : PySem.W.Frag) (mg : Str → Option Value) (base : Heap) (CX : CXT) (x : Str) (params : List Str) (k : Nat) (sp : Sp) (f : Addr) (fd : FuncData) : Prop where
  ok : FnG P w K mg base CX k f fd params sp
  mg : mg x = some (.ref f)
  kp : PySem.W.keepIn K (.ref f) = true
  bd : Binds K fd params []
  ps : ∀ X : Cx, X.prog = P → X.w = w → Passes CX X E0
/-- repr(x) of data -/
def rRepr (K : PySem.W.Frag) : List V → Hp → VK → Prop := fun xs H Q => ∃ v d, xs = [v] ∧ Dp K H v d ∧ d.showable = true ∧ d.hasDict = false ∧ d.depth ≤ 60 ∧ d.shown.length ≤ sizeLine ∧ Q (.str d.shown) H
theorem call_reprK {X : Cx} {K : PySem.W.Frag} (hK : X.K = K) (hgu : X.A.guards = some []) (hu : X.A.units + 64 < cLine) : CallR X (.builtin "repr") (rRepr K) := by
  subst hK
  intro pins s σ H xs us Q I r h
  obtain ⟨v, d, rfl, hd, hs, hdd, hdep, hl, q⟩ := h
  obtain ⟨u, rfl, rv⟩ := vals1 r
  obtain ⟨as, rd⟩ := Dp.reads I d v u hd rv
  have fin : ∀ (h' : Heap) (tk tk' : Nat), (∀ b o, s.heap.get? b = some o → h'.get? b = some o) → EP X pins σ Q (.str d.shown tk') { s with heap := h', toks := tk } := fun h' tk tk' hk =>
    ⟨.str d.shown, H, I.kept (t' := tk) hk, ⟨_, rfl⟩, q⟩
  have stay : ∀ b o, s.heap.get? b = some o → s.heap.get? b = some o := fun _ _ e => e
  cases rd with
  | none =>
    simp only [PyData.shown] at fin
    exact PySem.P.repr_of_none (fin _ _ _ stay)
  | bool b =>
    simp only [PyData.shown] at fin
    exact PySem.P.repr_of_bool (fin _ _ _ stay)
  | int i t =>
    simp only [PyData.shown] at fin
    exact PySem.P.repr_of_int (by simpa [PyData.showable] using hs) (fin _ _ _ stay)
  | str y t =>
    simp only [PyData.shown] at fin
    exact PySem.P.repr_of_str (fin _ _ _ stay) (by simpa only [PyData.shown] using hl)
  | list h1 h2 h3 h4 => exact PySem.repr_of_reads' (.list h1 h2 h3 h4) hs (fun z => by rw [hdd] at z; cases z) hgu (by omega) stay (fun h' u tk hk => fin h' tk u hk) hl
  | tuple h1 h2 h3 h4 => exact PySem.repr_of_reads' (.tuple h1 h2 h3 h4) hs (fun z => by rw [hdd] at z; cases z) hgu (by omega) stay (fun h' u tk hk => fin h' tk u hk) hl
  | dict h1 h2 h3 h4 h5 => simp [PyData.hasDict] at hdd
section
variable {c : Ct} {G : List Sl} {s : c.S} {P : Sl → c.S → Prop}
theorem db_repr {d : D} (hp : d.plain = true) (hs : d.py.showable = true) (hd : d.py.hasDict = false) (hdep : d.py.depth ≤ 60) (hl : d.py.shown.length ≤ sizeLine) (k : P (.dat (.str d.py.shown)) s) : DCB c (rRepr c.K) [d] G s P := fun σ F H0 H vs gd r Q q => by
  cases r with
  | cons r rs =>
    cases rs
    exact ⟨_, d.py, rfl, r.dp gd.gd.sub hp, hs, hd, hdep, hl, q _ s _ H0 H k gd (Same.refl _) (.str _)⟩
end
/-! ### the end of a law -/
/-- the script, as the law's def meets it -/
theorem enterG {P : Program} {w : World} {K : PySem.W.Frag} {mg mb : Str → Option Value} {k : Nat} {fa a : Addr} {fd : FuncData} {x : Str} {sp : Sp} {s1 : Shared} {vs : List Value} {ns : List Int}
    (hin : K.In s1.heap) (hns : s1.heap.Ns mainGlobals mg) (hb : s1.heap.Ns builtinsNs mb) (hbb : ∀ x : Str, x ≠ "__name__" → mb x = bootBuiltins x) (hlim : s1.heap.NoLimit) (hgens : s1.gens = #[])
    (ha : s1.heap.get? a = some { cls := .type "list", data := .seq vs.toArray }) (hi : IntsAre vs ns) (hl : ns.length ≤ sizeLine) (hr : Room k callerA)
    (hF : ∀ base : Heap, K.In base → base.Ns mainGlobals mg → FnG P w K mg base CX0 k fa fd [x] sp) (hbind : ∀ (s : Shared) (u : Value), BindsTo s fd ⟨[u], []⟩ [(x, u)])
    (hsp : ∀ H : Hp, SqL K H a (ns.map V.int) → sp [.ref a] H (fun v _ => v = .bl true) fun _ _ _ => False) :
    codeAny (model P w) callerA (.call (.ref fa) ⟨[.ref a], []⟩) (fun r s' => r = .ok (.ret (.bool true)) ∧ OldK s1.heap s'.heap ∧ s'.os = s1.os ∧ AllBare s'.gens) s1 := by
  have hvs : Vals (ns.map V.int) vs := vals_ints hi
  have hlen := hi.length
  suffices main : ∀ H : Hp, (∀ b o, H b = some o → b = a ∧ K.lookup a = none ∧ o = .frz { cls := .type "list", data := .seq vs.toArray } (.lst (ns.map V.int))) → SqL K H a (ns.map V.int) → HOk P w H s1.heap →
      codeAny (model P w) callerA (.call (.ref fa) ⟨[.ref a], []⟩) (fun r s' => r = .ok (.ret (.bool true)) ∧ OldK s1.heap s'.heap ∧ s'.os = s1.os ∧ AllBare s'.gens) s1 by
    cases hk : K.lookup a with
    | some o =>
      have e := hin a o hk
      rw [ha] at e
      cases e
      refine main (fun _ => none) (fun b o z => nomatch z) (Or.inr ⟨_, vs.toArray, _, hk, rfl, rfl, rfl, ?_, by simpa using hvs⟩) fun b u z => nomatch z
      rw [List.size_toArray, hlen]
      exact hl
    | none =>
      have here : (fun b => if b = a then some (HO.frz { cls := .type "list", data := .seq vs.toArray } (.lst (ns.map V.int))) else none) a = some (HO.frz { cls := .type "list", data := .seq vs.toArray } (.lst (ns.map V.int))) := if_pos rfl
      refine main (fun b => if b = a then some (HO.frz { cls := .type "list", data := .seq vs.toArray } (.lst (ns.map V.int))) else none) (fun b o z => ?_) (Or.inl (Or.inr ⟨_, here⟩)) fun b o z => ?_
      · by_cases e : b = a
        · have z' := (if_pos e).symm.trans z
          cases z'
          exact ⟨e, hk, rfl⟩
        · have z' := (if_neg e).symm.trans z
          cases z'
      · by_cases e : b = a
        · have z' := (if_pos e).symm.trans z
          cases z'
          subst e
          refine ⟨ha, ?_, vs, _, hvs, ha⟩
          rw [List.length_map]
          exact hl
        · have z' := (if_neg e).symm.trans z
          cases z'
  intro H hH hS hok
  have gone : ∀ {b : Addr} {o : Obj}, s1.heap.get? b = some o → o ≠ { cls := .type "list", data := .seq vs.toArray } → H b = none := fun {b o} e ne => by
    cases q : H b with
    | none => rfl
    | some u =>
      obtain ⟨rfl, _⟩ := hH b u q
      rw [ha] at e
      exact absurd (Option.some.inj e).symm ne
  have nsB : ∀ {b : Addr} {m : Str → Option Value}, s1.heap.Ns b m → (hidT s1.heap H).Ns b m := fun {b m} z => by
    obtain ⟨o, es, ep, e, d, r⟩ := z
    refine ⟨o, es, ep, hidT_get e (gone e fun z => ?_), d, r⟩
    subst z
    cases d
  have inB : K.In (hidT s1.heap H) := fun b o e => hidT_get (hin b o e) (by
    cases q : H b with
    | none => rfl
    | some u =>
      obtain ⟨rfl, hk, _⟩ := hH b u q
      rw [hk] at e
      cases e)
  have mod : Mod K mg (hidT s1.heap H) := by
    refine ⟨inB, nsB hns, ⟨mb, nsB hb, hbb⟩, ?_⟩
    obtain ⟨mc, h1, h2⟩ := hlim
    exact ⟨mc, nsB h1, h2⟩
  have env : Env0 P w K mg (hidT s1.heap H) callerA [] s1 H :=
    ⟨rfl, mod, fun b o e => of_hidT e, Nat.le_of_eq (hidT_size _ _), trivial, fun b hb => absurd (show b ∈ ([] : List Addr) from hb) (by simp), hok, .of_eq hgens⟩
  refine codeAny_mono ((hF _ inB (nsB hns)).go callerA [] s1 H ⟨[.ref a], []⟩ [.ref a] [.ref a] _ _ rfl hr env (hbind s1 (.ref a)) (.cons rfl .nil) (hsp H hS)) fun res s2 h => ?_
  match res, h with
  | .error e, h => exact False.elim h
  | .ok .next, h => exact False.elim h
  | .ok .brk, h => exact False.elim h
  | .ok .cont, h => exact False.elim h
  | .ok (.ret u), h =>
    obtain ⟨v, H', os, bare, un, hok', rv, q⟩ := h
    have q' : v = .bl true := q
    subst q'
    obtain rfl : u = Value.bool true := rv
    refine ⟨rfl, OldK.of_keep fun b o e => ?_, os, bare⟩
    cases q : H b with
    | none => exact un.keep b o e q (by intro z; exact absurd (show b ∈ ([] : List Addr) from z) (by simp)) (by simp)
    | some u =>
      obtain ⟨rfl, _, rfl⟩ := hH b u q
      obtain ⟨e1, _⟩ := hok b _ q
      obtain ⟨e2, _⟩ := hok' b _ (un.frzs b _ _ q)
      rw [e] at e1
      cases e1
      exact e2
theorem walkG {l : PySem.W.OpenLaw} {n k : Nat} {q : Program} {loose : List Str} {XP : (Str → Option Value) → Heap → Prop} {YP : World → Heap → Prop} {d : DefRec} {K : Params → PySem.W.Frag} {sp : PySem.W.Frag → Sp} {x : Str}
    (hn : l.most = some n) (hn2 : n ≤ sizeLine) (hdf : d.params.defaults = []) (hr : Room k callerA) (hY : ∀ (w : World) (h : Heap), YP w h → (K w.params).In h)
    (F : ∀ (w : World) (mg : Str → Option Value) (fa : Addr) (h : Heap), (K w.params).In h → h.Ns mainGlobals mg → mg d.name = some (.ref fa) →
      ∃ fd : FuncData, (∀ (s : Shared) (u : Value), BindsTo s fd ⟨[u], []⟩ [(x, u)]) ∧ ∀ base : Heap, (K w.params).In base → base.Ns mainGlobals mg → FnG l.prog w (K w.params) mg base CX0 k fa fd [x] (sp (K w.params)))
    (hsp : ∀ (K : PySem.W.Frag) (H : Hp) (a : Addr) (ns : List Int), ns.length ≤ n → SqL K H a (ns.map V.int) → sp K [.ref a] H (fun v _ => v = .bl true) fun _ _ _ => False) :
    PySem.W.WalkO q loose XP YP l.row.toRowW d [] (fun f vs => PySem.call f vs) := by
  refine Att.attach_call hn hdf fun w s0 s1 mg mb fa o pm cd doc a vs ns G Y ho hd hcd hmg hobj hints hlen hg => ?_
  obtain ⟨fd, hb, hF⟩ := F w mg fa _ (hY w _ Y) G.T.g hmg
  exact enterG (hY w _ Y) G.T.g G.T.b G.T.builtins G.T.nolimit hg hobj hints (Nat.le_trans hlen hn2) hr hF hb fun H hS => hsp _ H a ns hlen hS
/-! ### calls by names alone -/
def pick {α : Type} (perm : List Nat) (l : List α) : List α := perm.filterMap fun i => l[i]?
theorem pick_vals {zs : List V} {ws : List Value} (r : Vals zs ws) : ∀ perm : List Nat, Vals (pick perm zs) (pick perm ws)
  | [] => .nil
  | i :: perm => by
    show Vals (List.filterMap _ (i :: perm)) (List.filterMap _ (i :: perm))
    rw [List.filterMap_cons, List.filterMap_cons]
    cases hz : zs[i]? with
    | none =>
      rw [r.none_of hz]
      exact pick_vals r perm
    | some z =>
      obtain ⟨u, hu, ru⟩ := r.get hz
      rw [hu]
      exact .cons ru (pick_vals r perm)
theorem pick_rep {K : PySem.W.Frag} {H : Hp} {zs : List V} {ds : List D} (r : RepAll K H zs ds) : ∀ perm : List Nat, RepAll K H (pick perm zs) (pick perm ds)
  | [] => .nil
  | i :: perm => by
    show RepAll K H (List.filterMap _ (i :: perm)) (List.filterMap _ (i :: perm))
    rw [List.filterMap_cons, List.filterMap_cons]
    cases hz : zs[i]? with
    | none =>
      have : ds[i]? = none := by
        rw [List.getElem?_eq_none_iff] at hz ⊢
        rw [← r.len]
        exact hz
      rw [this]
      exact pick_rep r perm
    | some z =>
      obtain ⟨d, hd, rd⟩ := r.getV hz
      rw [hd]
      exact .cons rd (pick_rep r perm)
/-- how names bind: ks as they are written, perm the place of each parameter among them -/
def KB (fd : FuncData) (ps ks : List Str) (perm : List Nat) : Prop := ∀ ws : List Value, ws.length = ks.length → bindArgs fd ⟨[], ks.zip ws⟩ = pure (ps.zip (pick perm ws))
def tCallN (sp : Sp) (n : Nat) (perm : List Nat) (E : XK) (t : TA) : TE := fun σ H Q => t σ H fun zs H1 => zs.length = n ∧ sp (pick perm zs) H1 Q E
section
variable {c : Ct} {G : List Sl} {s : c.S} {P : Sl → c.S → Prop}
theorem we_callNF {f : FSpec} {E : XK} {ta : TA} {n : Nat} {perm : List Nat} (h : WA c ta G s fun ds s1 => ds.length = n ∧ ∃ XP, XIn c E s1 XP ∧ f (pick perm ds) (fun x => P x s1) XP) : WE c (tCallN (PureSp c.K f) n perm E ta) G s P := fun σ F H0 H g Q q =>
  h σ F H0 H g _ fun ds s1 vs H1 H1' hp g1 e1 r1 => by
    obtain ⟨hl, XP, hx, hf⟩ := hp
    refine ⟨by rw [r1.len]; exact hl, pick perm ds, _, XP, hf, H1, g1.gd.sub, fun _ z => z.elim, pick_rep r1 perm, trivial, fun x s2 v H2 H2' hp t r => ?_, fun C d s2 v a H2 H2' hp t ha r => ?_⟩
    · exact q x s1 v H2 H2' hp (g1.stepPure t) (e1.trans t.ex) (g1.resPure t r)
    · rcases hx with hx | ⟨rfl, hx⟩
      · exact (hx C d hp).elim
      · have g2 := (g1.stepPure t).gd
        exact c.okX C d s1 v a H2 H2' (hx C d hp) g2.e0 g2.sub g2.e1 g2.e2 g2.av g2.rs ⟨(g1.gd.newE ha.1).1, ha.2⟩ r
end
end DL
/-! DLk: dicts whose keys are tuples of tuples -/
namespace DL
open PySem PySem.Spec PyProof.Rows L2
mutual
/-- a datum as a key -/
def D.nk : D → NestedKey
  | .non => .none
  | .int i => .num i
  | .str x => .text x
  | .tup ds => .tup (D.nks ds)
  | _ => .none
def D.nks : List D → List NestedKey
  | [] => []
  | d :: ds => d.nk :: D.nks ds
end
mutual
def D.keyable : D → Bool
  | .non => true
  | .int _ => true
  | .str _ => true
  | .tup ds => D.keyables ds
  | _ => false
def D.keyables : List D → Bool
  | [] => true
  | d :: ds => d.keyable && D.keyables ds
end
mutual
theorem D.nk_inj : ∀ {a b : D}, a.keyable = true → b.keyable = true → a.nk = b.nk → a = b
  | .non, .non, _, _, _ => rfl
  | .int i, .int j, _, _, h => by cases h; rfl
  | .str i, .str j, _, _, h => by cases h; rfl
  | .tup as, .tup bs, ha, hb, h => by
    have h' : NestedKey.tup (D.nks as) = NestedKey.tup (D.nks bs) := h
    injection h' with h'
    rw [D.nks_inj (as := as) (bs := bs) ha hb h']
  | .non, .int _, _, _, h => nomatch h
  | .non, .str _, _, _, h => nomatch h
  | .non, .tup _, _, _, h => nomatch h
  | .int _, .non, _, _, h => nomatch h
  | .int _, .str _, _, _, h => nomatch h
  | .int _, .tup _, _, _, h => nomatch h
  | .str _, .non, _, _, h => nomatch h
  | .str _, .int _, _, _, h => nomatch h
  | .str _, .tup _, _, _, h => nomatch h
  | .tup _, .non, _, _, h => nomatch h
  | .tup _, .int _, _, _, h => nomatch h
  | .tup _, .str _, _, _, h => nomatch h
  | .bl _, _, h, _, _ => nomatch h
  | .lst _, _, h, _, _ => nomatch h
  | .ref _, _, h, _, _ => nomatch h
  | _, .bl _, _, h, _ => nomatch h
  | _, .lst _, _, h, _ => nomatch h
  | _, .ref _, _, h, _ => nomatch h
theorem D.nks_inj : ∀ {as bs : List D}, D.keyables as = true → D.keyables bs = true → D.nks as = D.nks bs → as = bs
  | [], [], _, _, _ => rfl
  | a :: as, b :: bs, ha, hb, h => by
    have ha' : (a.keyable && D.keyables as) = true := ha
    have hb' : (b.keyable && D.keyables bs) = true := hb
    rw [Bool.and_eq_true] at ha' hb'
    have h' : a.nk :: D.nks as = b.nk :: D.nks bs := h
    injection h' with h1 h2
    rw [D.nk_inj ha'.1 hb'.1 h1, D.nks_inj ha'.2 hb'.2 h2]
  | [], _ :: _, _, _, h => nomatch h
  | _ :: _, [], _, _, h => nomatch h
end
section
variable {X : Cx} {pins : List (Addr × Obj)} {σ : L2.St} {H : Hp} {s : Shared}
mutual
theorem nested_of (I : Inv X pins σ H s) : ∀ {v : V} {d : D} {u : Value}, Rep X.K H v d → d.keyable = true → RelV v u → NestedIs s.heap d.nk u
  | _, _, _, .non, _, r => by
    cases r
    exact .none
  | _, _, _, .int i, _, r => by
    obtain ⟨t, rfl⟩ := r
    exact .int i t
  | _, _, _, .str x, _, r => by
    obtain ⟨t, rfl⟩ := r
    exact .text x t
  | _, _, _, .tup hs ra, h, r => by
    cases r
    obtain ⟨its, rv, ⟨o, ho, hc, n, hd⟩, _⟩ := I.tuple hs
    exact .tup ho hc hd (nested_all I ra h rv)
theorem nested_all (I : Inv X pins σ H s) : ∀ {vs : List V} {ds : List D} {us : List Value}, RepAll X.K H vs ds → D.keyables ds = true → Vals vs us → NestedAll s.heap (D.nks ds) us
  | _, _, _, .nil, _, r => by
    cases r
    exact .nil
  | _, _, _, .cons r1 r2, h, r => by
    have h' : (_ && _) = true := h
    rw [Bool.and_eq_true] at h'
    cases r with
    | cons q1 q2 => exact .cons (nested_of I r1 h'.1 q1) (nested_all I r2 h'.2 q2)
end
end
/-- a dict with nested keys: keys, where their tuples stand, values -/
abbrev NDs := List (D × Addr × V)
def ndPhi (P : Program) (w : World) (d : Addr) (xs : NDs) (h : Heap) : Prop :=
  (d == sysModules) = false ∧ ∃ us : List (NestedKey × Addr × Value), Paired (fun (p : D × Addr × V) (q : NestedKey × Addr × Value) => p.1.nk = q.1 ∧ p.2.1 = q.2.1 ∧ RelV p.2.2 q.2.2) xs us ∧ (us.map (·.1)).Nodup ∧
    ∃ o es ep, h.get? d = some o ∧ o.ExactDict ∧ o.data = .dict es ep ∧ es.toList = us.map (entryOfKey (nestedKind P w))
/-- the nested dict d as an object -/
def ndO (P : Program) (w : World) (d : Addr) (xs : NDs) : HO := .ext (ndPhi P w d xs)
/-- the keys are there -/
def NdK (K : PySem.W.Frag) (H : Hp) (xs : NDs) : Prop := ∀ x ∈ xs, Rep K H (.ref x.2.1) x.1 ∧ x.1.keyable = true ∧ x.1.nk.depth ≤ 8
theorem NdK.mono {K : PySem.W.Frag} {H H' : Hp} {xs : NDs} (e : Same H H') (h : NdK K H xs) : NdK K H' xs := fun x hx => ⟨(h x hx).1.mono e, (h x hx).2⟩
def ndAt (xs : NDs) (k : D) : Option V := (xs.find? fun x => decide (x.1.nk = k.nk)).map (·.2.2)
section
variable {X : Cx} {pins : List (Addr × Obj)} {σ : L2.St} {H : Hp} {s : Shared} {d : Addr} {xs : NDs}
theorem nd_ok {P : Program} {w : World} {H : Hp} {h : Heap} (p : ndPhi P w d xs h) : ObjOk P w H h d (ndO P w d xs) := by
  refine ⟨p, ?_, fun h1 h2 q k => ?_⟩
  · obtain ⟨_, us, _, _, o, es, ep, ho, _⟩ := p
    exact ⟨o, ho⟩
  · obtain ⟨a, us, b, c, o, es, ep, ho, r⟩ := q
    exact ⟨a, us, b, c, o, es, ep, k o ho, r⟩
theorem nd_phi {P : Program} {w : World} {H : Hp} {h : Heap} (hok : HOk P w H h) (e : H d = some (ndO P w d xs)) : ndPhi P w d xs h := (hok d _ e).1
theorem paired_mem {α β : Type} {F : α → β → Prop} : ∀ {l : List α} {m : List β}, Paired F l m → ∀ b ∈ m, ∃ a ∈ l, F a b
  | _, _, .nil, b, hb => by simp at hb
  | _, _, .cons r t, b, hb => by
    rcases List.mem_cons.mp hb with rfl | hb
    · exact ⟨_, List.mem_cons_self .., r⟩
    · obtain ⟨a, ha, f⟩ := paired_mem t b hb
      exact ⟨a, List.mem_cons_of_mem _ ha, f⟩
theorem nd_of (I : Inv X pins σ H s) (e : H d = some (ndO X.prog X.w d xs)) (hk : NdK X.K H xs) : (d == sysModules) = false ∧ ∃ us : List (NestedKey × Addr × Value),
    Paired (fun (p : D × Addr × V) (q : NestedKey × Addr × Value) => p.1.nk = q.1 ∧ p.2.1 = q.2.1 ∧ RelV p.2.2 q.2.2) xs us ∧ s.heap.DictOfH (nestedKind X.prog X.w) d us := by
  obtain ⟨a, us, b, c, o, es, ep, ho, hx, hd, he⟩ := nd_phi I.hok e
  refine ⟨a, us, b, o, es, ep, ho, hx, hd, he, fun y hy => ?_, c⟩
  obtain ⟨x, hx, h1, h2, _⟩ := paired_mem b y hy
  obtain ⟨r, q1, q2⟩ := hk x hx
  have n := nested_of I r q1 (show RelV (.ref x.2.1) (.ref x.2.1) from rfl)
  rw [h1, h2] at n
  refine ⟨n, ?_⟩
  rw [← h1]
  exact q2
theorem atKey_of {us : List (NestedKey × Addr × Value)} (k : NestedKey) : ∀ {xs : NDs} {us : List (NestedKey × Addr × Value)}, Paired (fun (p : D × Addr × V) (q : NestedKey × Addr × Value) => p.1.nk = q.1 ∧ p.2.1 = q.2.1 ∧ RelV p.2.2 q.2.2) xs us →
    match xs.find? fun x => decide (x.1.nk = k) with
    | some x => ∃ u, atKey us k = some (x.2.1, u) ∧ RelV x.2.2 u
    | none => atKey us k = none
  | _, _, .nil => rfl
  | _, _, .cons (a := p) (b := q) r t => by
    obtain ⟨r1, r2, r3⟩ := r
    unfold atKey
    rw [List.find?_cons, List.find?_cons]
    by_cases hk : p.1.nk = k
    · have hq : q.1 = k := r1 ▸ hk
      rw [decide_eq_true hk, decide_eq_true hq]
      exact ⟨q.2.2, by rw [r2]; rfl, r3⟩
    · have hq : ¬ q.1 = k := fun z => hk (r1.trans z)
      rw [decide_eq_false hk, decide_eq_false hq]
      exact atKey_of (us := us) k t
theorem paired_snoc {α β : Type} {F : α → β → Prop} {a : α} {b : β} (f : F a b) : ∀ {l : List α} {m : List β}, Paired F l m → Paired F (l ++ [a]) (m ++ [b])
  | _, _, .nil => .cons f .nil
  | _, _, .cons r t => .cons r (paired_snoc f t)
/-- {} that is to hold such keys -/
def tDNewN (P : Program) (w : World) : TE := fun _ H Q => ∀ p, H p = none → Q (.ref p) (upd H p (ndO P w p []))
end
end DL
/-! DLl: {k: v for x in xs} whose keys are tuples -/
namespace DL
open PySem PySem.Spec PyProof.Rows L2
section
variable {X : Cx}
/-- a stored item -/
def ndPut (xs : NDs) (k : D) (a : Addr) (v : V) : NDs := if (ndAt xs k).isSome then xs.map (fun x => if x.1.nk = k.nk then (x.1, x.2.1, v) else x) else xs ++ [(k, a, v)]
theorem paired_map {α β : Type} {F F' : α → β → Prop} {f : α → α} {g : β → β} (h : ∀ a b, F a b → F' (f a) (g b)) : ∀ {l : List α} {m : List β}, Paired F l m → Paired F' (l.map f) (m.map g)
  | _, _, .nil => .nil
  | _, _, .cons r t => .cons (h _ _ r) (paired_map h t)
/-- the store of such a comprehension -/
theorem put_nested {pins : List (Addr × Obj)} {σ : L2.St} {H : Hp} {s : Shared} {E : Value → Shared → Prop} {dst b : Addr} {xs : NDs} {k : D} {v : V} {r : Value} {Q : Unit → Shared → Prop} {A : Around} (hu : A.units + 8 < cLine) (I : Inv X pins σ H s) (e : H dst = some (ndO X.prog X.w dst xs)) (hk : NdK X.K H xs) (l : xs.length < 1000000)
    (rk : Rep X.K H (.ref b) k) (kk : k.keyable = true) (kd : k.nk.depth ≤ 8) (rv : RelV v r) (h : ∀ s', Inv X pins σ (upd H dst (ndO X.prog X.w dst (ndPut xs k b v))) s' → Q () s') : wpAny (model X.prog X.w) A (dictSet dst (.ref b) r) Q E s := by
  obtain ⟨hsys, us, pr, dh⟩ := nd_of I e hk
  have hkey : (nestedKind X.prog X.w).is s.heap k.nk b := ⟨nested_of I rk kk rfl, kd⟩
  have key := atKey_of (us := us) k.nk pr
  refine wpAny_dictSet_heap (hsz := by rw [← Paired.length pr]; exact sizeL (by omega)) hu hkey dh fun h2 d2 hs => h _ ?_
  obtain ⟨o, es, ep, ho, hx, hdat, he, _, hnd⟩ := d2
  refine d_write I (by rw [e]; exact True.intro) hs ⟨o, ho⟩ (nd_ok ⟨hsys, _, ?_, hnd, o, es, ep, ho, hx, hdat, he⟩)
  unfold ndPut ndAt
  cases e : xs.find? fun x => decide (x.1.nk = k.nk) with
  | some x =>
    rw [e] at key
    obtain ⟨y, h1, h2⟩ := key
    rw [storedH_old h1]
    show Paired _ (if true = true then _ else _) _
    rw [if_pos rfl]
    refine paired_map (fun p q hpq => ?_) pr
    obtain ⟨q1, q2, q3⟩ := hpq
    unfold putAt
    by_cases hk : p.1.nk = k.nk
    · have hq : q.1 = k.nk := q1 ▸ hk
      rw [if_pos hk, if_pos hq]
      first | exact ⟨q1, q2, rv⟩ | exact ⟨hk, q2, rv⟩
    · have hq : ¬ q.1 = k.nk := fun z => hk (q1.trans z)
      rw [if_neg hk, if_neg hq]
      exact ⟨q1, q2, q3⟩
  | none =>
    rw [e] at key
    have key : atKey us k.nk = none := key
    rw [storedH_new key]
    exact paired_snoc ⟨rfl, rfl, rv⟩ pr
/-- {k: v for target in iter}: the keys are tuples -/
def tDcT (P : Program) (w : World) (K : PySem.W.Frag) (wi : TI) (g : TG) (tk tv : TE) (vs : List Nat) : TE := fun σ H Q => wi σ H fun J H1 => ∀ dst, H1 dst = none → ∃ W : Nat → Nat → Hp → Prop, (∃ m, W 0 m (upd H1 dst (ndO P w dst []))) ∧ ∀ i m H, W i m H →
  (J.stop i H ∧ Q (.ref dst) H) ∨ (J.go i H ∧ ∃ Nx : Hp → Prop, (∀ H', Nx H' → ∃ m', m' < m ∧ W (i + 1) m' H') ∧ ∀ x H', J.yld i H x H' → g x (L2.wipe σ vs) H' fun σ2 H2 => L2.wipe σ2 vs = L2.wipe σ vs ∧
    tk σ2 H2 fun y H4 => tv σ2 H4 fun z H5 => ∃ xs k b, y = .ref b ∧ Rep K H5 (.ref b) k ∧ k.keyable = true ∧ k.nk.depth ≤ 8 ∧ H5 dst = some (ndO P w dst xs) ∧ NdK K H5 xs ∧ xs.length < 1000000 ∧ Nx (upd H5 dst (ndO P w dst (ndPut xs k b z))))
theorem pe_dcT {kx vx tg iter : Expr} {scope : Scope} {own : List (Str × Nat)} {pos : Pos} {wi : TI} {g : TG} {tk tv : TE} (hu : X.A.units + 64 < cLine) (calm : X.calm = true) (nd : X.N.Nodup) (walked : PI X tg iter wi) (blk : BlkOk X.N X.env.scope scope own)
    (hg : ∀ (s : Shared) (H : Hp) (C : Addr) (cl : List (Str × Addr)) (fp : List Addr), PG (X.blk s H scope (compEnvC scope cl C X.env) fp) tg g)
    (hk : ∀ (s : Shared) (H : Hp) (C : Addr) (cl : List (Str × Addr)) (fp : List Addr), PE (X.blk s H scope (compEnvC scope cl C X.env) fp) kx tk)
    (hv : ∀ (s : Shared) (H : Hp) (C : Addr) (cl : List (Str × Addr)) (fp : List Addr), PE (X.blk s H scope (compEnvC scope cl C X.env) fp) vx tv) (hs : ∀ x, foldedSetIterable iter X.env x = pure x := by intro _; rfl) :
    PE X (.DictComp kx vx [⟨tg, iter, [], 0⟩] scope pos) (tDcT X.prog X.w X.K wi g tk tv (own.map (·.2))) := by
  constructor
  intro pins s σ H Q I h
  rw [arm_eval_DictComp]
  have bound : ∀ y ∈ scope.names, y.2 = .free → ∃ c, X.env.cells.lookup y.1 = some c := fun y hy e => (blk.free y hy e).elim (fun q => I.ok.has _ (Or.inl q)) fun q => I.ok.has _ (Or.inr q)
  refine wpAny_comprehension_free rfl hs (closure_ok bound) blk.kind (fun y hy e => by rw [blk.uniq y hy, e]) (thn (walked.run pins s σ H _ I h) fun src s1 hsrc => thn hsrc fun itv s2 h2 => ?_)
  obtain ⟨it, fp, tn, J, H2, rfl, I2, T, st2, f2, q⟩ := h2
  refine wpAny_newObj_type (newEnv_comp ?_)
  -- the new dict
  obtain ⟨W, ⟨m0, w0⟩, turn⟩ := q s2.heap.objs.size (I2.hok.fresh (Nat.le_refl _))
  have I3 : Inv X pins σ (upd H2 s2.heap.objs.size (ndO X.prog X.w s2.heap.objs.size [])) { s2 with heap := s2.heap.push { cls := .type "dict", data := .dict #[] } } :=
    I2.laid (t' := s2.toks) (fun b o e => Heap.get?_push_of_some _ e) (Nat.le_refl _) (nd_ok ⟨beq_eq_false_iff_ne.mpr (Nat.ne_of_gt I2.big), [], .nil, .nil, _, _, _, Heap.get?_push_size _ rfl, ⟨rfl, rfl, rfl⟩, rfl, rfl⟩)
  have old : ∀ b ∈ fp, b < s2.heap.objs.size := fun b hb => (T.obj _ _ st2 b hb).elim fun o e => Heap.lt_size e.1
  have f3 : ∀ b ∈ fp, FpOk X pins (upd H2 s2.heap.objs.size (ndO X.prog X.w s2.heap.objs.size [])) b ∧ b < (s2.heap.push { cls := .type "dict", data := .dict #[] }).objs.size := fun b hb =>
    ⟨⟨by rw [upd_ne (Nat.ne_of_lt (old b hb))]; exact (f2 b hb).1, (f2 b hb).2⟩, by rw [Heap.size_push]; exact Nat.lt_succ_of_lt (old b hb)⟩
  have st3 : tn 0 (s2.heap.push { cls := .type "dict", data := .dict #[] }) := T.keep _ _ _ st2 fun b _ o e => Heap.get?_push_of_some _ e
  generalize hs3 : ({ s2 with heap := s2.heap.push { cls := .type "dict", data := .dict #[] } } : Shared) = s3 at I3
  have e3 : s2.heap.push { cls := .type "dict", data := .dict #[] } = s3.heap := by rw [← hs3]
  rw [e3] at f3 st3
  have I4 := block_start I3 blk nd f3
  show codeAny _ _ (.compStart (.DictComp kx vx [⟨tg, iter, [], 0⟩] scope pos) 0 (.ref it) (.ref s2.heap.objs.size) (compEnvC scope (cellsFrom (s3.heap.objs.size + 1) scope.names (cloFrom X.env.cells scope.names [])) s3.heap.objs.size X.env)) _
    { s3 with heap := pushCells (s3.heap.push { cls := .type "dict", data := .dict #[] }) scope.names }
  have pg := hg s3 (upd H2 s2.heap.objs.size (ndO X.prog X.w s2.heap.objs.size [])) s3.heap.objs.size (cellsFrom (s3.heap.objs.size + 1) scope.names (cloFrom X.env.cells scope.names [])) fp
  have pk := hk s3 (upd H2 s2.heap.objs.size (ndO X.prog X.w s2.heap.objs.size [])) s3.heap.objs.size (cellsFrom (s3.heap.objs.size + 1) scope.names (cloFrom X.env.cells scope.names [])) fp
  have pv := hv s3 (upd H2 s2.heap.objs.size (ndO X.prog X.w s2.heap.objs.size [])) s3.heap.objs.size (cellsFrom (s3.heap.objs.size + 1) scope.names (cloFrom X.env.cells scope.names [])) fp
  generalize hce : compEnvC scope (cellsFrom (s3.heap.objs.size + 1) scope.names (cloFrom X.env.cells scope.names [])) s3.heap.objs.size X.env = ce at I4 pg pk pv ⊢
  have loc : ce.locals = s3.heap.objs.size := by rw [← hce]; rfl
  have nfp : ∀ b ∈ fp, (upd H2 s2.heap.objs.size (ndO X.prog X.w s2.heap.objs.size [])) b = none := fun b hb => (f3 b hb).1.1
  generalize hH3 : upd H2 s2.heap.objs.size (ndO X.prog X.w s2.heap.objs.size []) = H3 at I3 I4 pg pk pv w0 nfp f3
  generalize hs4 : ({ s3 with heap := pushCells (s3.heap.push { cls := .type "dict", data := .dict #[] }) scope.names } : Shared) = s4 at I4 ⊢
  have st4 : tn 0 s4.heap := T.keep _ _ _ st3 fun b _ o e => by rw [← hs4]; exact pushCells_keeps _ _ _ _ (Heap.get?_push_of_some _ e)
  have fpk : ∀ {τ : L2.St} {Hx : Hp} {sx : Shared}, Inv (X.blk s3 H3 scope ce fp) [] τ Hx sx → (∀ b ∈ fp, Hx b = none) → ∀ b ∈ fp, FpOk (X.blk s3 H3 scope ce fp) [] Hx b := fun {τ Hx sx} Ix hn b hb =>
    ⟨hn b hb, (Ix.ok.exf b hb).1, Ix.ok.exfs b hb, .inl hb, fun x c e => (Ix.ok.exf b hb).2 x c e, fun p hp => by simp [Cx.blk] at hp⟩
  refine codeAny_compStart_dict ?lp (T.self X.A 0 _ _ _ st4 ?lp)
  refine compLoop_anyD (fun n sx => ∃ i Hx, Inv (X.blk s3 H3 scope ce fp) [] (L2.wipe σ (own.map (·.2))) Hx sx ∧ tn i sx.heap ∧ (∀ b ∈ fp, Hx b = none) ∧ W i n Hx) ?_ m0 ⟨0, H3, I4, st4, nfp, w0⟩
  rintro n s5 ⟨i, H5, I5, st5, n5, w5⟩
  rcases turn i n H5 w5 with ⟨stop, fine⟩ | ⟨go, Nx, hNx, step⟩
  · refine thnF (T.done (X.blk s3 H3 scope ce fp) rfl rfl rfl calm i [] s5 _ H5 (fun _ _ => False) I5 (fpk I5 n5) st5 stop) fun r s6 ⟨hr, I6⟩ => ?_
    subst hr
    have I7 : Inv X pins σ H5 s6 := I3.call' (ch := fp) I6.os I6.base I6.hok I6.bare fun b hb => ⟨(f3 b hb).1.2.2.2.1, (f3 b hb).1.2.1, (f3 b hb).1.2.2.2.2.1, (f3 b hb).1.2.2.2.2.2⟩
    obtain ⟨mm, hns, _⟩ := I6.loc
    have hns' : s6.heap.Ns s3.heap.objs.size mm := loc ▸ hns
    have hfree : H5 s3.heap.objs.size = none := loc ▸ I6.free
    have fpc := I3.fpOk (Nat.le_refl _) hfree
    obtain ⟨g0, g1, g2, g3, g4, g5⟩ := fpc
    exact ⟨mm, hns', fun h'' sb => ⟨.ref s2.heap.objs.size, H5, I7.turned (t' := s6.toks) (fun b o hb e => (sb.2 b hb).trans e) g0 g1 g3 g4 g5, rfl, fine⟩⟩
  · refine thnF (T.item (X.blk s3 H3 scope ce fp) rfl rfl rfl calm i [] s5 _ H5 (fun _ _ => False) I5 (fpk I5 n5) st5 go) fun r s6 ⟨u, hr, h6⟩ => ?_
    subst hr
    refine thnF h6 fun _ s7 ⟨x, H7, I7, r7, y7, st7, n7⟩ => ?_
    refine thnF (pg.run _ s7 _ H7 x u _ (I7.pinned (fpk I7 n7) (T.obj _ _ st7)) r7 (step x H7 y7)) fun _ s8 ⟨σ8, H8, I8, hw8, q8⟩ => ?_
    refine thnF (wpAny_pure (a := true) ?_) fun ok s9 (h9 : ok = true ∧ s9 = s8) => ?_
    · exact ⟨rfl, rfl⟩
    obtain ⟨rfl, rfl⟩ := h9
    rw [if_pos rfl]
    refine thnF (pk.run _ s9 σ8 H8 _ I8 q8) fun kk s10 ⟨yk, H10, I10, r10, q10⟩ => ?_
    refine thnF (pv.run _ s10 σ8 H10 _ I10 q10) fun vv s11 ⟨yv, H11, I11, r11, kvs, k, b, ek, rkk, kkk, kdk, hD, hNK, hz, nx⟩ => ?_
    subst ek
    cases r10
    refine put_nested (X := X.blk s3 H3 scope ce fp) (A := X.A) (by omega) I11 hD hNK hz rkk kkk kdk r11 fun s12 I12 => ?_
    obtain ⟨m', hm, w'⟩ := hNx _ nx
    have pin : ∀ c ∈ fp, ∀ o, s7.heap.get? c = some o → s12.heap.get? c = some o ∧ (upd H11 s2.heap.objs.size (ndO X.prog X.w s2.heap.objs.size (ndPut kvs k b yv))) c = none := fun c hc o e =>
      ⟨(I12.pin (c, o) (List.mem_append_right _ (List.mem_append_right _ (mem_pinsAt hc e)))).1, (I12.pin (c, o) (List.mem_append_right _ (List.mem_append_right _ (mem_pinsAt hc e)))).2.1⟩
    have len : (L2.wipe σ (own.map (·.2))).length = σ8.length := by rw [← hw8, L2.wipe_length]
    refine ⟨m', hm, i + 1, _, (I12.unpinned (pins := [])).weak len (fun j v e => ?_), T.keep _ _ _ st7 fun c hc o e => (pin c hc o e).1, fun c hc => ?_, w'⟩
    · rw [← hw8] at e
      exact (L2.wipe_some e).1
    · exact (T.obj _ _ st7 c hc).elim fun o e => (pin c hc o e.1).2
end
end DL
/-! DLm: sorted(d) of a dict whose keys are tuples (int, text, int) -/
namespace DL
open PySem PySem.Spec PyProof.Rows L2
abbrev M3 : Type := Int × Str × Int
def enc3 (m : M3) : PyData := .tuple [.int m.1, .str m.2.1, .int m.2.2]
def m3D (m : M3) : D := .tup [.int m.1, .str m.2.1, .int m.2.2]
def le3 : M3 → M3 → Bool := PySem.W.dataLe false enc3
theorem m3D_inj {a b : M3} (h : m3D a = m3D b) : a = b := by
  obtain ⟨a1, a2, a3⟩ := a
  obtain ⟨b1, b2, b3⟩ := b
  simp only [m3D, D.tup.injEq, List.cons.injEq, D.int.injEq, D.str.injEq, and_true] at h
  obtain ⟨rfl, rfl, rfl⟩ := h
  rfl
theorem le3_total : PySem.W.TotalLe le3 := PySem.W.sortLe_total (listOrd itemOrd) false fun b => PySem.W.keyToks (enc3 b)
theorem dataLt_tri {x y z x' y' z' : PyData} (h : PySem.W.alike x x' = true) (h' : PySem.W.alike y y' = true) (h'' : PySem.W.alike z z' = true) : PySem.W.dataLt (.tuple [x, y, z]) (.tuple [x', y', z']) =
    if PyData.eqv x x' = true then (if PyData.eqv y y' = true then (if PyData.eqv z z' = true then false else PySem.W.dataLt z z') else PySem.W.dataLt y y') else PySem.W.dataLt x x' := by
  rw [PySem.W.dataLt_tuple, PySem.W.dataLt_cons h, PySem.W.dataLt_cons h', PySem.W.dataLt_cons h'']
  have e : PyProof.Rows.lexLt itemOrd (PySem.W.keyToksAll []) (PySem.W.keyToksAll []) = false := lex_irrefl _
  rw [e]
theorem le3_eq (a b : M3) : le3 a b = !(if b.1 = a.1 then (if b.2.1 = a.2.1 then (if b.2.2 = a.2.2 then false else decide (b.2.2 < a.2.2)) else decide (b.2.1.cps.toList < a.2.1.cps.toList)) else decide (b.1 < a.1)) := by
  show (!PySem.W.dataLt (enc3 b) (enc3 a)) = _
  rw [enc3, enc3, dataLt_tri (by simp [PySem.W.alike]) (by simp [PySem.W.alike]) (by simp [PySem.W.alike]), PySem.W.dataLt_int, PySem.W.dataLt_int, PySem.W.dataLt_str]
  simp only [PyData.eqv, beq_iff_eq]
theorem cps_inj {x y : Str} (h : x.cps.toList = y.cps.toList) : x = y := by
  cases x
  cases y
  simp_all
theorem le3_anti {a b : M3} (h1 : le3 a b = true) (h2 : le3 b a = true) : a = b := by
  rw [le3_eq] at h1 h2
  obtain ⟨a1, a2, a3⟩ := a
  obtain ⟨b1, b2, b3⟩ := b
  simp only [Bool.not_eq_true'] at h1 h2
  by_cases e1 : b1 = a1
  · subst e1
    rw [if_pos rfl] at h1 h2
    by_cases e2 : b2 = a2
    · subst e2
      rw [if_pos rfl] at h1 h2
      by_cases e3 : b3 = a3
      · rw [e3]
      · rw [if_neg e3, decide_eq_false_iff_not] at h1
        rw [if_neg (Ne.symm e3), decide_eq_false_iff_not] at h2
        omega
    · rw [if_neg e2, decide_eq_false_iff_not] at h1
      rw [if_neg (Ne.symm e2), decide_eq_false_iff_not] at h2
      exact absurd (cps_inj (List.le_antisymm (List.not_lt.mp h2) (List.not_lt.mp h1))) e2
  · rw [if_neg e1, decide_eq_false_iff_not] at h1
    rw [if_neg (Ne.symm e1), decide_eq_false_iff_not] at h2
    omega
/-- the canonical list of the members of a list -/
def canon3 (ms : List M3) : List M3 := ms.mergeSort le3
theorem canon3_perm {a b : List M3} (h : a.Perm b) : canon3 a = canon3 b :=
  List.Perm.eq_of_pairwise (le := fun x y => le3 x y = true) (fun _ _ _ _ => le3_anti) (PySem.W.sort_pairwise le3_total a) (PySem.W.sort_pairwise le3_total b)
    (((List.mergeSort_perm a le3).trans h).trans (List.mergeSort_perm b le3).symm)
theorem canon3_mem {ms : List M3} {m : M3} : m ∈ canon3 ms ↔ m ∈ ms := List.mem_mergeSort
section
variable {X : Cx}
theorem reads3 {pins : List (Addr × Obj)} {σ : L2.St} {H : Hp} {s : Shared} {b : Addr} {m : M3} (I : Inv X pins σ H s) (e : Rep X.K H (.ref b) (m3D m)) : ∃ o vs n, s.heap.get? b = some o ∧ o.cls = .type "tuple" ∧ o.data = .seq vs n ∧ ∃ t1 t2 t3, vs.toList = [.int m.1 t1, .str m.2.1 t2, .int m.2.2 t3] := by
  cases e with
  | tup hs ra =>
    obtain ⟨its, rv, ⟨o, ho, hc, n, hd⟩, _⟩ := I.tuple hs
    refine ⟨o, _, n, ho, hc, hd, ?_⟩
    cases ra with
    | cons q1 ra => cases ra with
      | cons q2 ra => cases ra with
        | cons q3 ra =>
          cases ra
          cases q1
          cases q2
          cases q3
          cases rv with
          | cons r1 rv => cases rv with
            | cons r2 rv => cases rv with
              | cons r3 rv =>
                cases rv
                obtain ⟨t1, rfl⟩ := r1
                obtain ⟨t2, rfl⟩ := r2
                obtain ⟨t3, rfl⟩ := r3
                exact ⟨t1, t2, t3, rfl⟩
/-- b is the place of the key m -/
def KeyAt (xs : NDs) (m : M3) (b : Addr) : Prop := ∃ x ∈ xs, x.1 = m3D m ∧ x.2.1 = b
theorem each3 : ∀ {xs : NDs} {us : List (NestedKey × Addr × Value)} (pr : Paired (fun (p : D × Addr × V) (q : NestedKey × Addr × Value) => p.1.nk = q.1 ∧ p.2.1 = q.2.1 ∧ RelV p.2.2 q.2.2) xs us) (zs : NDs) (hz : ∀ x ∈ xs, x ∈ zs) (ms : List M3), xs.map (·.1) = ms.map m3D →
    PySem.W.EachIs (fun (v : Value) (b : M3 × Addr) => v = .ref b.2 ∧ KeyAt zs b.1 b.2) (us.map fun x => Value.ref x.2.1) (ms.zip (us.map fun x => x.2.1))
  | _, _, .nil, _, _, ms, hks => by
    cases ms with
    | nil => exact .nil
    | cons m ms => cases hks
  | _, _, .cons (a := p) (b := q) hq t, zs, hz, ms, hks => by
    cases ms with
    | nil => cases hks
    | cons m ms =>
      obtain ⟨e1, e2⟩ := List.cons.inj hks
      exact .cons ⟨rfl, p, hz p (List.mem_cons_self ..), e1, hq.2.1⟩ (each3 t zs (fun x hx => hz x (List.mem_cons_of_mem _ hx)) ms e2)
/-- sorted(d) of a dict whose keys are such tuples -/
theorem call_sortedT3 (hu : X.A.units + 8 < cLine) (hcalm : X.calm = true) : CallR X (.builtin "sorted") (fun vs H Q => ∃ (a : Addr) (xs : NDs) (ms : List M3), vs = [.ref a] ∧ H a = some (ndO X.prog X.w a xs) ∧ NdK X.K H xs ∧ xs.length < 1000000 ∧ xs.map (·.1) = ms.map m3D ∧
    ∀ (bs : List Addr) (p : Addr), Paired (KeyAt xs) (canon3 ms) bs → H p = none → Q (.ref p) (upd H p (.lst (bs.map V.ref)))) := by
  intro pins s σ H vs us Q I r q
  obtain ⟨d, xs, ms, ex, hd, hnk, hlx, hks, q⟩ := q
  subst ex
  obtain ⟨u, eu, rx⟩ := vals1 r
  subst eu
  cases rx
  obtain ⟨hs, ks, pr, hn, o, es, ep, ho, hx, hdt, he⟩ := nd_phi I.hok hd
  have l1 : es.size = ks.length := size_of_entries he
  have l2 : xs.length = ks.length := Paired.length pr
  have hsl : sizeLine = 16777216 := sizeLine_eq
  refine Calls.call_function_entry PyProof.Rows.kind_sorted PyProof.Rows.plain_sorted PyProof.Rows.entry_sorted (PyProof.Rows.args_sorted1 _) ?_
  unfold Builtin.«sorted»
  refine wpAny_bind (m := checkCount "sorted" 1 1 _) (wpAny_pure ?_)
  refine wpAny_bind (PySem.W.kdu_collect (A := X.A.in1) (kdl_raw hs hx hdt) (I.ok.hd hcalm) ho (by omega) fun h' tk acc kp it => ?_)
  have ea : acc.toList = ks.map fun x => Value.ref x.2.1 := by
    have hl : acc.toList.length = ks.length := by rw [Array.length_toList, it.1]; exact l1
    apply List.ext_getElem?
    intro j
    rw [List.getElem?_map]
    cases hj : acc.toList[j]? with
    | none =>
      have h1 := List.getElem?_eq_none_iff.mp hj
      rw [List.getElem?_eq_none (by omega)]
      all_goals rfl
    | some v =>
      obtain ⟨en, hen, hv⟩ := it.2 j v (by rw [← Array.getElem?_toList]; exact hj)
      have qe := entry_at he j
      rw [hen] at qe
      cases hb : ks[j]? with
      | none =>
        rw [hb] at qe
        exact nomatch (show some en = none from qe)
      | some b =>
        rw [hb] at qe
        have e2 : en = entryOfKey (nestedKind X.prog X.w) b := Option.some.inj qe
        rw [hv, e2]
        all_goals rfl
  have I1 : Inv X pins σ H { s with heap := h', toks := tk } := I.kept kp
  -- keys with their addresses
  have each := each3 pr xs (fun _ h => h) ms hks
  have fstz : (ms.zip (ks.map fun x => x.2.1)).map Prod.fst = ms := by
    apply List.map_fst_zip
    have e1 := congrArg List.length hks
    rw [List.length_map, List.length_map] at e1
    rw [List.length_map]
    omega
  generalize hbs : ms.zip (ks.map fun x => x.2.1) = bs at each fstz
  rw [← ea] at each
  have hal : acc.toList.length = bs.length := each.length
  have hlen : bs.length ≤ sizeLine := by rw [← hal, ea, List.length_map]; omega
  refine wpAny_bind (wpAny_newList ?_ (by rw [hal]; exact hlen))
  have hoL : (h'.push (seqObj "list" acc.toList.toArray 0)).get? h'.objs.size = some (seqObj "list" acc.toList.toArray 0) := Heap.get?_push_size _ rfl
  show wpAny _ _ _ _ _ { s with heap := h'.push (seqObj "list" acc.toList.toArray 0), toks := tk }
  refine wpAny_bind (wpAny_holding (PySem.W.list_sort_data (s := { s with heap := h'.push (seqObj "list" acc.toList.toArray 0), toks := tk }) (enc := fun b : M3 × Addr => enc3 b.1) hoL each ?_ ?_ ?_ hlen ?_ fun out hol eo => ?_))
  · refine each.mono fun v b hb => ?_
    obtain ⟨rfl, x, hx1, hx2, hx3⟩ := hb
    have eb := (hnk x hx1).1
    rw [hx2, hx3] at eb
    refine ⟨[], ?_, List.not_mem_nil⟩
    obtain ⟨o2, vs2, n2, h1, h2, h3, t1, t2, t3, e3⟩ := reads3 I1 eb
    refine .tuple (Heap.get?_push_of_some _ h1) h2 h3 ?_
    rw [e3]
    exact .cons (.int _ _) (.cons (.str _ _) (.cons (.int _ _) .nil))
  · exact PySem.W.AllAlike.of fun b b' => by simp [enc3, PySem.W.alike, PySem.W.alikeAll]
  · exact PySem.W.Sortable.tuples fun b => ⟨_, _, rfl⟩
  · intro b _
    have : (enc3 b.1).depth ≤ 3 := by simp [enc3, PyData.depth, PyData.depthAll]
    show X.A.in1.units + 1 + (enc3 b.1).depth < cLine
    have e : X.A.in1.units = X.A.units + 1 := rfl
    omega
  obtain ⟨e', he'⟩ := PyProof.Rows.sortedHeap_at (vs := acc.toList) (out := out.toArray) hoL
  have emap : (bs.mergeSort (PySem.W.dataLe false fun b : M3 × Addr => enc3 b.1)).map Prod.fst = canon3 ms := by
    rw [← fstz]
    exact PySem.W.sort_maps Prod.fst fun _ _ _ _ => rfl
  generalize hsd : bs.mergeSort (PySem.W.dataLe false fun b : M3 × Addr => enc3 b.1) = sd at eo emap
  have eout : out = (sd.map Prod.snd).map Value.ref := by
    clear hol he' emap hsd
    induction eo with
    | nil => rfl
    | cons h t ih => rw [h.1, ih]; rfl
  have epair : Paired (KeyAt xs) (canon3 ms) (sd.map Prod.snd) := by
    rw [← emap]
    clear hol he' emap hsd eout
    induction eo with
    | nil => exact Paired.nil
    | cons h t ih => exact Paired.cons h.2 ih
  have hl2 : ((sd.map Prod.snd).map V.ref).length ≤ sizeLine := by
    have := congrArg List.length eout
    rw [List.length_map, List.length_map] at this
    rw [List.length_map, List.length_map]
    omega
  refine wpAny_pure ⟨_, rfl, .ref h'.objs.size, upd H h'.objs.size (.lst ((sd.map Prod.snd).map V.ref)), I1.laid (t' := tk) (fun b u e => ?_) (Nat.le_refl _)
    (show ObjOk X.prog X.w _ _ _ (.lst ((sd.map Prod.snd).map V.ref)) from ⟨hl2, out, e', by rw [eout]; exact vals_refs _, he'⟩), rfl, q _ _ epair (I1.hok.fresh (Nat.le_refl _))⟩
  have hb : b < h'.objs.size := Heap.lt_size e
  rw [PyProof.Rows.sortedHeap_old (Nat.ne_of_lt hb) (by rw [size_push']; exact Nat.lt_succ_of_lt hb)]
  exact Heap.get?_push_of_some _ e
end
end DL
/-! DLn: rows alike to a depth, and their kinds as numbers (no program in sight) -/
namespace DL
open PySem
abbrev LRow := List Nat
def rowS (l : LRow) : Str := ⟨l.toArray⟩
theorem rowS_inj {a b : LRow} (h : rowS a = rowS b) : a = b := by
  have h2 := congrArg (fun x : Str => x.cps.toList) h
  simpa [rowS] using h2
theorem rowS_of (x : Str) : x = rowS x.cps.toList := by
  cases x
  simp [rowS]
/-- the members, each once -/
def dd3 (ms : List M3) : List M3 := ms.foldl (fun acc m => if m ∈ acc then acc else acc ++ [m]) []
theorem dd3_go (ms : List M3) : ∀ acc : List M3, acc.Nodup → (ms.foldl (fun acc m => if m ∈ acc then acc else acc ++ [m]) acc).Nodup ∧ ∀ x, x ∈ ms.foldl (fun acc m => if m ∈ acc then acc else acc ++ [m]) acc ↔ x ∈ acc ∨ x ∈ ms := by
  induction ms with
  | nil => exact fun acc h => ⟨h, fun x => by simp⟩
  | cons m ms ih =>
    intro acc h
    rw [List.foldl_cons]
    by_cases hm : m ∈ acc
    · rw [if_pos hm]
      obtain ⟨h1, h2⟩ := ih acc h
      refine ⟨h1, fun x => ?_⟩
      rw [h2 x, List.mem_cons]
      constructor
      · rintro (q | q)
        · exact .inl q
        · exact .inr (.inr q)
      · rintro (q | rfl | q)
        · exact .inl q
        · exact .inl hm
        · exact .inr q
    · rw [if_neg hm]
      have hn : (acc ++ [m]).Nodup := by
        rw [List.nodup_append]
        refine ⟨h, by simp, fun a ha b hb e => ?_⟩
        rw [List.mem_singleton.mp hb] at e
        exact hm (e ▸ ha)
      obtain ⟨h1, h2⟩ := ih _ hn
      refine ⟨h1, fun x => ?_⟩
      rw [h2 x, List.mem_append, List.mem_singleton, List.mem_cons, or_assoc]
theorem dd3_nodup (ms : List M3) : (dd3 ms).Nodup := (dd3_go ms [] List.nodup_nil).1
theorem dd3_mem (ms : List M3) (x : M3) : x ∈ dd3 ms ↔ x ∈ ms := by
  have := (dd3_go ms [] List.nodup_nil).2 x
  simpa [dd3] using this
theorem nodup_len {α : Type} [DecidableEq α] : ∀ {a b : List α}, a.Nodup → (∀ x ∈ a, x ∈ b) → a.length ≤ b.length
  | [], _, _, _ => Nat.zero_le _
  | x :: a, b, hn, hs => by
    have hx := hs x (List.mem_cons_self ..)
    have hn' := List.nodup_cons.mp hn
    have h := nodup_len (a := a) (b := b.erase x) hn'.2 fun y hy => by
      have hne : y ≠ x := fun e => hn'.1 (e ▸ hy)
      exact (List.mem_erase_of_ne hne).mpr (hs y (List.mem_cons_of_mem _ hy))
    rw [List.length_erase_of_mem hx] at h
    have : 0 < b.length := List.length_pos_of_mem hx
    rw [List.length_cons]
    omega
theorem nodup_perm {α : Type} [DecidableEq α] : ∀ {a b : List α}, a.Nodup → b.Nodup → (∀ x, x ∈ a ↔ x ∈ b) → a.Perm b
  | [], b, _, _, h => by
    have : b = [] := List.eq_nil_iff_forall_not_mem.mpr fun x hx => by simpa using (h x).mpr hx
    rw [this]
  | x :: a, b, ha, hb, h => by
    have hx := (h x).mp (List.mem_cons_self ..)
    have ha' := List.nodup_cons.mp ha
    have p := nodup_perm (a := a) (b := b.erase x) ha'.2 (hb.erase x) fun y => by
      by_cases e : y = x
      · subst e
        constructor
        · exact fun q => absurd q ha'.1
        · exact fun q => absurd q (List.Nodup.not_mem_erase hb)
      · rw [List.mem_erase_of_ne e, ← h y, List.mem_cons]
        simp [e]
    exact (p.cons x).trans (List.perm_cons_erase hx).symm
def canonS (ms : List M3) : List M3 := canon3 (dd3 ms)
theorem canonS_mem {ms : List M3} {m : M3} : m ∈ canonS ms ↔ m ∈ ms := by unfold canonS; rw [canon3_mem, dd3_mem]
theorem canonS_iff {a b : List M3} : canonS a = canonS b ↔ ∀ m, m ∈ a ↔ m ∈ b := by
  constructor
  · intro h m
    rw [← canonS_mem, h, canonS_mem]
  · intro h
    unfold canonS
    exact canon3_perm (nodup_perm (dd3_nodup a) (dd3_nodup b) fun x => by rw [dd3_mem, dd3_mem]; exact h x)
/-- rows alike to a depth, by the words of the document -/
def Alike : Nat → LRow → LRow → Prop
  | 0, _, _ => True
  | d + 1, l, m => (∀ (i a : Nat), l[i]? = some a → ∃ j, m[j]? = some a ∧ Alike d (l.take i) (m.take j) ∧ Alike d (l.drop (i + 1)) (m.drop (j + 1))) ∧
    (∀ (i a : Nat), m[i]? = some a → ∃ j, l[j]? = some a ∧ Alike d (m.take i) (l.take j) ∧ Alike d (m.drop (i + 1)) (l.drop (j + 1)))
theorem Alike.refl : ∀ (d : Nat) (l : LRow), Alike d l l
  | 0, _ => trivial
  | d + 1, l => ⟨fun i a h => ⟨i, h, Alike.refl d _, Alike.refl d _⟩, fun i a h => ⟨i, h, Alike.refl d _, Alike.refl d _⟩⟩
theorem Alike.symm : ∀ {d : Nat} {l m : LRow}, Alike d l m → Alike d m l
  | 0, _, _, _ => trivial
  | _ + 1, _, _, h => ⟨h.2, h.1⟩
theorem Alike.trans : ∀ {d : Nat} {l m k : LRow}, Alike d l m → Alike d m k → Alike d l k
  | 0, _, _, _, _, _ => trivial
  | d + 1, l, m, k, h1, h2 => ⟨fun i a ha => by
      obtain ⟨j, hj, q1, q2⟩ := h1.1 i a ha
      obtain ⟨j', hj', p1, p2⟩ := h2.1 j a hj
      exact ⟨j', hj', q1.trans p1, q2.trans p2⟩, fun i a ha => by
      obtain ⟨j, hj, q1, q2⟩ := h2.2 i a ha
      obtain ⟨j', hj', p1, p2⟩ := h1.2 j a hj
      exact ⟨j', hj', q1.trans p1, q2.trans p2⟩⟩
/-- the members of a row, their kinds by f -/
def Mem3 (f : LRow → Int → Prop) (l : LRow) (ms : List M3) : Prop := ms.length = l.length ∧ ∀ (i a : Nat), l[i]? = some a → ∃ x y, ms[i]? = some (x, ⟨#[a]⟩, y) ∧ f (l.take i) x ∧ f (l.drop (i + 1)) y
theorem Mem3.mono {f g : LRow → Int → Prop} {l : LRow} {ms : List M3} (h : ∀ r n, f r n → g r n) (m : Mem3 f l ms) : Mem3 g l ms := ⟨m.1, fun i a e => by
  obtain ⟨x, y, q1, q2, q3⟩ := m.2 i a e
  exact ⟨x, y, q1, h _ _ q2, h _ _ q3⟩⟩
/-- n is the kind of the row to the depth, where the kinds are numbered by tab -/
def Kd (tab : List (List M3)) : Nat → LRow → Int → Prop
  | 0, _, n => n = -1
  | d + 1, l, n => ∃ ms : List M3, Mem3 (Kd tab d) l ms ∧ 0 ≤ n ∧ tab[n.toNat]? = some (canonS ms)
theorem Kd.mono {t t' : List (List M3)} (h : t <+: t') : ∀ {d : Nat} {l : LRow} {n : Int}, Kd t d l n → Kd t' d l n
  | 0, _, _, e => e
  | d + 1, l, n, ⟨ms, m, h0, e⟩ => ⟨ms, m.mono fun r n q => Kd.mono h q, h0, by
      obtain ⟨r, rfl⟩ := h
      have := (List.getElem?_eq_some_iff.mp e).1
      rw [List.getElem?_append_left this]
      exact e⟩
theorem nodup_at {α : Type} {t : List α} (h : t.Nodup) {i j : Nat} {a : α} (hi : t[i]? = some a) (hj : t[j]? = some a) : i = j :=
  (List.getElem?_inj (List.getElem?_eq_some_iff.mp hi).1 h).mp (hi.trans hj.symm)
theorem str1_inj {a b : Nat} (h : (⟨#[a]⟩ : Str) = ⟨#[b]⟩) : a = b := by
  have := congrArg (fun x : Str => x.cps.toList) h
  simpa using this
theorem Mem3.at {f : LRow → Int → Prop} {l : LRow} {ms : List M3} (m : Mem3 f l ms) {i : Nat} {x : M3} (h : ms[i]? = some x) : ∃ a, l[i]? = some a ∧ x.2.1 = ⟨#[a]⟩ ∧ f (l.take i) x.1 ∧ f (l.drop (i + 1)) x.2.2 := by
  have hi : i < l.length := by rw [← m.1]; exact (List.getElem?_eq_some_iff.mp h).1
  obtain ⟨u, v, q1, q2, q3⟩ := m.2 i l[i] (List.getElem?_eq_getElem hi)
  rw [h] at q1
  cases q1
  exact ⟨l[i], List.getElem?_eq_getElem hi, rfl, q2, q3⟩
/-! ### what a Kinds object holds -/
structure KSt where
  tab : List (List M3)
  kn : List ((LRow × Nat) × Int)
/-- what holds of it; U: all the parts of rows that may ever be asked for -/
structure KInv (U : List (LRow × Nat)) (st : KSt) : Prop where
  len : U.length < 900000
  nd : st.tab.Nodup
  kd : (st.kn.map (·.1)).Nodup
  sub : ∀ e ∈ st.kn, e.1 ∈ U
  val : ∀ e ∈ st.kn, Kd st.tab e.1.2 e.1.1 e.2
  onto : ∀ i : Nat, i < st.tab.length → ∃ e ∈ st.kn, e.2 = (i : Int)
theorem KInv.empty {U : List (LRow × Nat)} (h : U.length < 900000) : KInv U ⟨[], []⟩ := ⟨h, List.nodup_nil, List.nodup_nil, fun _ h => by simp at h, fun _ h => by simp at h, fun _ h => by simp at h⟩
/-- the state behind it -/
def KSt.num (st : KSt) (ms : List M3) : KSt := if canonS ms ∈ st.tab then st else ⟨st.tab ++ [canonS ms], st.kn⟩
/-- a row's kind noted -/
def KSt.put (st : KSt) (r : LRow) (d : Nat) (n : Int) : KSt := if (st.kn.any fun e => decide (e.1 = (r, d))) = true then st else ⟨st.tab, st.kn ++ [((r, d), n)]⟩
/-- all parts of the row, to the depth, may be asked for -/
def InU (U : List (LRow × Nat)) (l : LRow) (d : Nat) : Prop := ∀ (a b e : Nat), 1 ≤ e → e ≤ d → ((l.drop a).take b, e) ∈ U
theorem InU.self {U : List (LRow × Nat)} {l : LRow} {d : Nat} (h : InU U l (d + 1)) : (l, d + 1) ∈ U := by
  have := h 0 l.length (d + 1) (by omega) (Nat.le_refl _)
  simpa using this
theorem InU.take {U : List (LRow × Nat)} {l : LRow} {d : Nat} (h : InU U l (d + 1)) (i : Nat) : InU U (l.take i) d := fun a b e h1 h2 => by
  have := h a (min b (i - a)) e h1 (by omega)
  rw [List.drop_take, List.take_take]
  exact this
theorem InU.drop {U : List (LRow × Nat)} {l : LRow} {d : Nat} (h : InU U l (d + 1)) (i : Nat) : InU U (l.drop i) d := fun a b e h1 h2 => by
  have := h (i + a) b e h1 (by omega)
  rw [List.drop_drop]
  exact this
theorem InU.mono {U : List (LRow × Nat)} {l : LRow} {d d' : Nat} (h : InU U l d) (k : d' ≤ d) : InU U l d' := fun a b e h1 h2 => h a b e h1 (Nat.le_trans h2 k)
/-- such a list of parts -/
def partsU (l : LRow) (d : Nat) : List (LRow × Nat) := (List.range (l.length + 1)).flatMap fun a => (List.range (l.length + 1)).flatMap fun b => (List.range d).map fun e => ((l.drop a).take b, e + 1)
theorem partsU_in (l : LRow) (d : Nat) : InU (partsU l d) l d := fun a b e h1 h2 => by
  unfold partsU
  have key : (l.drop a).take b = (l.drop (min a l.length)).take (min b l.length) := by
    by_cases ha : a ≤ l.length
    · rw [Nat.min_eq_left ha]
      by_cases hb : b ≤ l.length
      · rw [Nat.min_eq_left hb]
      · rw [Nat.min_eq_right (by omega), List.take_of_length_le (by rw [List.length_drop]; omega), List.take_of_length_le (by rw [List.length_drop]; omega)]
    · rw [List.drop_of_length_le (show l.length ≤ a by omega), List.drop_of_length_le (show l.length ≤ min a l.length by omega)]
      simp
  refine List.mem_flatMap.mpr ⟨min a l.length, List.mem_range.mpr (by omega), List.mem_flatMap.mpr ⟨min b l.length, List.mem_range.mpr (by omega), List.mem_map.mpr ⟨e - 1, List.mem_range.mpr (by omega), ?_⟩⟩⟩
  rw [← key, show e - 1 + 1 = e by omega]
theorem flatMap_len {α β : Type} {f : α → List β} {k : Nat} (l : List α) (h : ∀ a ∈ l, (f a).length = k) : (l.flatMap f).length = l.length * k := by
  induction l with
  | nil => simp
  | cons a l ih =>
    rw [List.flatMap_cons, List.length_append, h a (List.mem_cons_self ..), ih fun b hb => h b (List.mem_cons_of_mem _ hb), List.length_cons, Nat.succ_mul]
    omega
theorem partsU_len (l : LRow) (d : Nat) : (partsU l d).length = (l.length + 1) * ((l.length + 1) * d) := by
  unfold partsU
  rw [flatMap_len (k := (l.length + 1) * d) _ fun a _ => ?_, List.length_range]
  rw [flatMap_len (k := d) _ fun b _ => by rw [List.length_map, List.length_range], List.length_range]
theorem InU.left {U V : List (LRow × Nat)} {l : LRow} {d : Nat} (h : InU U l d) : InU (U ++ V) l d := fun a b e h1 h2 => List.mem_append_left _ (h a b e h1 h2)
theorem InU.right {U V : List (LRow × Nat)} {l : LRow} {d : Nat} (h : InU V l d) : InU (U ++ V) l d := fun a b e h1 h2 => List.mem_append_right _ (h a b e h1 h2)
end DL
/-! DLo: a Kinds object as a ground; what its methods read and write -/
namespace DL
open PySem PySem.Spec PyProof.Rows L2
def keyD (ms : List M3) : D := .tup (ms.map m3D)
theorem m3D_depth (m : M3) : (m3D m).nk.depth ≤ 8 := by
  show (1 : Nat) ≤ 8
  decide
theorem keyD_keyable (ms : List M3) : (keyD ms).keyable = true := by
  show D.keyables (ms.map m3D) = true
  induction ms with
  | nil => rfl
  | cons m ms ih =>
    show (_ && _) = true
    rw [Bool.and_eq_true]
    exact ⟨rfl, ih⟩
theorem keyD_inj {a b : List M3} (h : keyD a = keyD b) : a = b := by
  have h1 : a.map m3D = b.map m3D := by
    unfold keyD at h
    cases h1 : a.map m3D with
    | nil => rw [h1] at h; injection h
    | cons x xs => rw [h1] at h; injection h
  exact List.map_inj_right (fun _ _ => m3D_inj) |>.mp h1
theorem nk_find {xs : NDs} (hk : ∀ x ∈ xs, x.1.keyable = true) {k : D} (kk : k.keyable = true) : ndAt xs k = none ↔ ∀ x ∈ xs, x.1 ≠ k := by
  unfold ndAt
  rw [Option.map_eq_none_iff, List.find?_eq_none]
  refine ⟨fun h x hx e => h x hx (by rw [e]; exact decide_eq_true rfl), fun h x hx q => h x hx (D.nk_inj (hk x hx) kk (of_decide_eq_true q))⟩
/-- what the keys of a growing dict are -/
theorem ndPut_keys {xs : NDs} {ms : List M3} (h : xs.map (·.1) = ms.map m3D) (m : M3) (b : Addr) (v : V) : (ndPut xs (m3D m) b v).map (·.1) = (if m ∈ ms then ms else ms ++ [m]).map m3D := by
  have hk : ∀ x ∈ xs, x.1.keyable = true := fun x hx => by
    have : x.1 ∈ ms.map m3D := h ▸ List.mem_map.mpr ⟨x, hx, rfl⟩
    obtain ⟨q, _, e⟩ := List.mem_map.mp this
    rw [← e]
    rfl
  have key := nk_find hk (k := m3D m) rfl
  have mm : (∀ x ∈ xs, x.1 ≠ m3D m) ↔ m ∉ ms := by
    constructor
    · intro q hm
      have : m3D m ∈ xs.map (·.1) := h ▸ List.mem_map.mpr ⟨m, hm, rfl⟩
      obtain ⟨x, hx, e⟩ := List.mem_map.mp this
      exact q x hx e
    · intro q x hx e
      have : m3D m ∈ ms.map m3D := h ▸ List.mem_map.mpr ⟨x, hx, e⟩
      obtain ⟨y, hy, e2⟩ := List.mem_map.mp this
      exact q (m3D_inj e2 ▸ hy)
  unfold ndPut
  by_cases hm : m ∈ ms
  · rw [if_pos hm, if_pos (Option.isSome_iff_ne_none.mpr fun e => (mm.mp (key.mp e)) hm)]
    rw [List.map_map, ← h]
    apply List.map_congr_left
    intro x hx
    show (if _ then _ else _ : D × Addr × V).1 = x.1
    split <;> rfl
  · rw [if_neg hm, if_neg (by rw [key.mpr (mm.mpr hm)]; simp)]
    rw [List.map_append, List.map_append, h]
    rfl
theorem ndPut_mem {xs : NDs} {k : D} {b : Addr} {v : V} {x : D × Addr × V} (h : x ∈ ndPut xs k b v) : (∃ y ∈ xs, y.1 = x.1 ∧ y.2.1 = x.2.1) ∨ (x.1 = k ∧ x.2.1 = b) := by
  unfold ndPut at h
  split at h
  · obtain ⟨y, hy, e⟩ := List.mem_map.mp h
    refine .inl ⟨y, hy, ?_⟩
    split at e <;> rw [← e] <;> exact ⟨rfl, rfl⟩
  · rcases List.mem_append.mp h with h | h
    · exact .inl ⟨x, h, rfl, rfl⟩
    · rw [List.mem_singleton.mp h]
      exact .inr ⟨rfl, rfl⟩
theorem ndPut_len {xs : NDs} {k : D} {b : Addr} {v : V} : (ndPut xs k b v).length ≤ xs.length + 1 := by
  unfold ndPut
  split
  · rw [List.length_map]
    omega
  · simp
/-! ### tuple(sorted({member: True for member in members})) -/
/-- sorted of such a dict -/
def rSort3 (P : Program) (w : World) (K : PySem.W.Frag) : List V → Hp → VK → Prop := fun vs H Q => ∃ (a : Addr) (xs : NDs) (ms : List M3), vs = [.ref a] ∧ H a = some (ndO P w a xs) ∧ NdK K H xs ∧ xs.length < 1000000 ∧ xs.map (·.1) = ms.map m3D ∧
    ∀ (bs : List Addr) (p : Addr), Paired (KeyAt xs) (canon3 ms) bs → H p = none → Q (.ref p) (upd H p (.lst (bs.map V.ref)))
theorem call_sort3 {X : Cx} (hu : X.A.units + 64 < cLine) (hcalm : X.calm = true) : CallR X (.builtin "sorted") (rSort3 X.prog X.w X.K) := call_sortedT3 (by omega) hcalm
section
variable {c : Ct} {G : List Sl} {s : c.S} {P : Sl → c.S → Prop}
theorem rep3 {K : PySem.W.Frag} {H : Hp} {v : V} {m : M3} (r : Rep K H v (m3D m)) : ∃ b, v = .ref b := by
  cases r
  exact ⟨_, rfl⟩
theorem we_canon {Pg : Program} {w : World} {i j : Nat} {ms : List M3} (hi : G[i]? = some (.dat (.lst (ms.map m3D)))) (hl : ms.length ≤ 100000) (hj : j < G.length) (k : P (.dat (keyD (canonS ms))) s) :
    WE c (tCB (qTuple c.K) (tCons (tCB (rSort3 Pg w c.K) (tCons (tDcT Pg w c.K (iAny c.K (tVar i)) (gName j) (tVar j) (tC (.bl true)) [j]) tNil)) tNil)) G s P := fun σ F H0 H g Q q => by
  obtain ⟨v, h1, r⟩ := g.at hi
  cases r with
  | lst ha ra =>
  rename_i a vs
  have hv : vs.length = ms.length := by rw [ra.len, List.length_map]
  have hja : j < σ.length := by rw [g.ln]; exact hj
  refine .inl ⟨_, h1, a, rfl, ⟨vs, .inl (.inl (g.gd.sub _ _ ha))⟩, fun dst hdst => ?_⟩
  have n0 : H0 dst = none := g.gd.sub.free hdst
  have hsub : ∀ o, Same H0 (upd H dst o) := fun o p u hp => by
    rw [upd_ne (ne_of_none hp n0)]
    exact g.gd.sub _ _ hp
  have wl := walk_list (K := c.K) (a := a) (xs := vs)
  have hat : ∀ o, SqL c.K (upd H dst o) a vs := fun o => .inl (.inl (hsub o _ _ ha))
  refine ⟨fun t m Hx => t + m = vs.length ∧ ∃ xs : NDs, Hx = upd H dst (ndO Pg w dst xs) ∧ xs.map (·.1) = (dd3 (ms.take t)).map m3D ∧ (∀ x ∈ xs, Rep c.K H0 (.ref x.2.1) x.1) ∧ xs.length ≤ t, ⟨vs.length, by omega, [], rfl, rfl, fun _ h => by simp at h, Nat.le_refl _⟩, ?_⟩
  rintro t m Hx ⟨htm, xs, rfl, hks, hrep, hxl⟩
  have hkey : ∀ x ∈ xs, ∃ m : M3, x.1 = m3D m := fun x hx => by
    have : x.1 ∈ (dd3 (ms.take t)).map m3D := hks ▸ List.mem_map.mpr ⟨x, hx, rfl⟩
    obtain ⟨y, _, e⟩ := List.mem_map.mp this
    exact ⟨y, e.symm⟩
  have hNK : NdK c.K (upd H dst (ndO Pg w dst xs)) xs := fun x hx => by
    obtain ⟨m, e⟩ := hkey x hx
    refine ⟨(hrep x hx).mono (hsub _), by rw [e]; rfl, by rw [e]; exact m3D_depth m⟩
  by_cases hlt : t < vs.length
  · refine .inr ⟨wl.goes t _ hlt (hat _), fun H' => ∃ xs' : NDs, H' = upd H dst (ndO Pg w dst xs') ∧ xs'.map (·.1) = (dd3 (ms.take (t + 1))).map m3D ∧ (∀ x ∈ xs', Rep c.K H0 (.ref x.2.1) x.1) ∧ xs'.length ≤ t + 1, fun H' h => ?_, fun x H' y => ?_⟩
    · obtain ⟨xs', e⟩ := h
      exact ⟨m - 1, by omega, by omega, xs', e⟩
    · obtain ⟨rfl, hx⟩ := wl.yields t _ x H' hlt (hat _) y
      have hm : t < ms.length := by omega
      obtain ⟨d, hd, rd⟩ := ra.getV hx
      have ed : d = m3D ms[t] := by
        rw [List.getElem?_map, List.getElem?_eq_getElem hm] at hd
        exact (Option.some.inj hd).symm
      subst ed
      obtain ⟨b, rfl⟩ := rep3 rd
      show L2.wipe ((L2.wipe σ [j]).set j (some (.ref b))) [j] = _ ∧ _
      refine ⟨by show ((σ.set j none).set j _).set j none = σ.set j none; rw [List.set_set, List.set_set], .ref b, ?_, xs, m3D ms[t], b, rfl, rd.mono (hsub _), rfl, m3D_depth _, upd_same, hNK, by omega, ndPut xs (m3D ms[t]) b (.bl true), ?_, ?_, ?_, ?_⟩
      · show (((σ.set j none).set j (some (.ref b)))[j]?) = _
        rw [List.getElem?_set_self (by rw [List.length_set]; exact hja)]
      · funext z
        unfold upd
        split <;> rfl
      · rw [ndPut_keys hks, List.take_add_one, List.getElem?_eq_getElem hm]
        show _ = ((ms.take t ++ [ms[t]]).foldl _ []).map m3D
        rw [List.foldl_append]
        rfl
      · intro x hx
        rcases ndPut_mem hx with ⟨y, hy, e1, e2⟩ | ⟨e1, e2⟩
        · rw [← e1, ← e2]
          exact hrep y hy
        · rw [e1, e2]
          exact rd
      · exact Nat.le_trans ndPut_len (by omega)
  · have et : t = vs.length := by omega
    subst et
    refine .inl ⟨wl.stops _ (hat _), dst, xs, dd3 ms, rfl, upd_same, hNK, by omega, by rw [hks, List.take_of_length_le (by omega)], fun bs p hp hpn => ?_⟩
    refine ⟨p, bs.map V.ref, rfl, .inl ⟨.inl (.inl upd_same), fun l hln => ?_⟩⟩
    have g1 := (g.push (o := ndO Pg w dst xs) hdst).push (o := .lst (bs.map V.ref)) hpn
    obtain ⟨g2, e2⟩ := g1.lay (o := .tup (bs.map V.ref)) hln
    refine q _ s _ _ _ k g2 e2 (.tup (.inl (.inl upd_same)) ?_)
    have key : ∀ {cs : List M3} {bs : List Addr}, Paired (KeyAt xs) cs bs → RepAll c.K (upd H0 l (.tup (bs.map V.ref))) (bs.map V.ref) (cs.map m3D) → True := fun _ _ => trivial
    have go : ∀ {cs : List M3} {bs : List Addr}, Paired (KeyAt xs) cs bs → RepAll c.K H0 (bs.map V.ref) (cs.map m3D) := by
      intro cs bs pr
      induction pr with
      | nil => exact .nil
      | cons h t ih =>
        obtain ⟨x, hx, h1, h2⟩ := h
        refine .cons ?_ ih
        have := hrep x hx
        rw [h1, h2] at this
        exact this
    exact (go hp).mono e2
end
end DL
/-! DLp: a Kinds object as a ground -/
namespace DL
open PySem PySem.Spec PyProof.Rows L2
def knV (st : KSt) : List (List Key × V) := st.kn.map fun e => ([.inr (rowS e.1.1), .inl ((e.1.2 : Nat) : Int)], V.int e.2)
def kinR (Pg : Program) (w : World) (K : PySem.W.Frag) (C nu kn p : Addr) (st : KSt) (H0 H : Hp) : Prop :=
  nu ≠ kn ∧ (∃ dx, H0 p = some (.ins C dx [("numbers", .ref nu), ("known", .ref kn)])) ∧
  (∃ xs : NDs, H nu = some (ndO Pg w nu xs) ∧ (∀ x ∈ xs, Rep K H0 (.ref x.2.1) x.1) ∧ xs.map (fun x => (x.1, x.2.2)) = st.tab.zipIdx.map fun e => (keyD e.1, V.int ((e.2 : Nat) : Int))) ∧
  H kn = some (.dT (knV st))
abbrev kinRes (Pg : Program) (w : World) (K : PySem.W.Frag) (C nu kn : Addr) : Res where
  S := KSt
  R := kinR Pg w K C nu kn
  B := fun _ a => a = nu ∨ a = kn
  stab := fun p st H0 H H0' H' h e k => by
    obtain ⟨h1, ⟨dx, h2⟩, ⟨xs, h3, h4, h5⟩, h6⟩ := h
    exact ⟨h1, ⟨dx, e _ _ h2⟩, ⟨xs, k _ _ (.inl rfl) h3, fun x hx => (h4 x hx).mono e, h5⟩, k _ _ (.inr rfl) h6⟩
  there := fun p st H0 H a h hb z => by
    obtain ⟨_, _, ⟨xs, h3, _⟩, h6⟩ := h
    rcases hb with rfl | rfl
    · rw [z] at h3
      cases h3
    · rw [z] at h6
      cases h6
abbrev KSpec := Addr → List D → KSt → (Sl → KSt → Prop) → (Addr → D → KSt → Prop) → Prop
/-- a def on a Kinds object -/
def KSp (Pg : Program) (w : World) (K : PySem.W.Frag) (C : Addr) (f : KSpec) : Sp := fun vs H Q E => ∃ nu kn, ResSp K (kinRes Pg w K C nu kn) f vs H Q E
/-- a method that may be called -/
structure MCallee (P : Program) (w : World) (K : PySem.W.Frag) (mg : Str → Option Value) (base : Heap) (CX : CXT) (C : Addr) (m : Str) (params : List Str) (k : Nat) (sp : Sp) (f : Addr) (fd : FuncData) : Prop where
  ok : FnOk P w K mg base CX k f fd params sp
  me : Meth K C m f
  bd : Binds K fd params []
  ps : ∀ X : Cx, X.prog = P → X.w = w → Passes CX X E0
section
variable {c : Ct} {G : List Sl} {s : c.S} {P : Sl → c.S → Prop}
/-- a call on the resource r at p -/
theorem res_call {r : Res} {f : RSpec r} {E : XK} {p : Addr} {to : c.S → r.S} {put : c.S → r.S → c.S} (hc : CtR c r p to put) {s1 : c.S} {es : List D} {XP : Addr → D → r.S → Prop} {vs : List V} {σ : L2.St} {F : Frm} {H1 H1' : Hp} {Q : VK}
    (hx : (∀ C d s', ¬ XP C d s') ∨ (E = c.EX ∧ ∀ C d s', XP C d s' → c.X C d (put s1 s'))) (hf : f p es (to s1) (fun x s2 => P x (put s1 s2)) XP) (g1 : Gd c G s1 σ F H1 H1') (r1 : RepAll c.K H1 vs es)
    (q : ∀ x s' v H0' H', P x s' → Gd c G s' σ F H0' H' → Same H1 H0' → RO c G σ F H0' H' v x → Q v H') : ResSp c.K r f (.ref p :: vs) H1' Q E := by
  have gg : ∀ s2 H2 H2', Step (r.R p) (r.B p) s2 H1 H1' H2 H2' → Gd c G (put s1 s2) σ F H2 H2' := fun s2 H2 H2' t =>
    ⟨g1.ln, g1.gd.go t.ex t.sub (hc.back s1 s2 _ _ _ _ g1.gd.rs g1.gd.av t).2 (fun a o h hb => t.fr a o h fun z => hb (hc.B a z)) t.nw (hc.back s1 s2 _ _ _ _ g1.gd.rs g1.gd.av t).1⟩
  refine ⟨p, es, to s1, _, XP, hf, H1, g1.gd.sub, fun a hb => g1.gd.av a (hc.B a hb), .cons (.ref p) r1, hc.R _ _ _ g1.gd.rs, fun x s2 v H2 H2' hp t rr => ?_, fun C d s2 v a H2 H2' hp t ha rr => ?_⟩
  · refine q x _ v H2 H2' hp (gg s2 H2 H2' t) t.ex ?_
    cases x with
    | un => trivial
    | dat d => exact rr
    | own w =>
      obtain ⟨a, rfl, n0, n1, nb, u, hu, k⟩ := rr
      obtain ⟨n2, n3, n4⟩ := g1.gd.newE n1
      exact ⟨a, rfl, ⟨n0, n2, n3, u, hu, k⟩, g1.gd.apart n1⟩
  · rcases hx with hx | ⟨rfl, hx⟩
    · exact (hx C d s2 hp).elim
    · have g2 := (gg s2 H2 H2' t).gd
      exact c.okX C d _ v a H2 H2' (hx C d s2 hp) g2.e0 g2.sub g2.e1 g2.e2 g2.av g2.rs ⟨(g1.gd.newE ha.1).1, ha.2⟩ rr
/-- the ground is that of the Kinds object at p -/
structure OnK (c : Ct) (Pg : Program) (w : World) (C nu kn p : Addr) (to : c.S → KSt) (put : c.S → KSt → c.S) : Prop where
  ct : CtR c (kinRes Pg w c.K C nu kn) p to put
  get : ∀ s t, to (put s t) = t
  pp : ∀ s t u, put (put s t) u = put s u
  gp : ∀ s, put s (to s) = s
variable {Pg : Program} {w : World} {C nu kn p : Addr} {to : c.S → KSt} {put : c.S → KSt → c.S}
/-- kinds.m(..) -/
theorem we_meth {f : KSpec} {m : Str} {ta : TE} {t : TA} {E : XK} (hc : OnK c Pg w C nu kn p to put) (hm : ([("numbers", V.ref nu), ("known", V.ref kn)] : List (Str × V)).lookup m = none)
    (h : WE c ta G s (FZ fun x s1 => x = .ref p ∧ WA c t G s1 fun ds s2 => f p ds (to s2) (fun x s3 => P x (put s2 s3)) (fun _ _ _ => False))) : WE c (tMeth C m (KSp Pg w c.K C f) [] E ta t) G s P := fun σ F H0 H g Q q =>
  h.use g fun x s1 v H1 H1' hp g1 e1 r1 => by
    obtain ⟨rfl, hp⟩ := hp
    cases r1
    obtain ⟨_, ⟨dx, hd⟩, _⟩ := hc.ct.R _ _ _ g1.gd.rs
    refine ⟨p, dx, _, rfl, g1.gd.sub _ _ hd, hm, hp σ F H1 H1' g1 _ fun ds s2 vs H2 H2' hf g2 e2 r2 => ?_⟩
    rw [List.append_nil]
    exact ⟨nu, kn, res_call hc.ct (.inl fun _ _ _ z => z) hf g2 r2 fun x s' v H3 H3' a b e d => q x s' v H3 H3' a b ((e1.trans e2).trans e) d⟩
/-- f(kinds, ..) -/
theorem we_callK {f : KSpec} {t : TA} {E : XK} (hc : OnK c Pg w C nu kn p to put)
    (h : WA c t G s fun ds s2 => ∃ es, ds = .ref p :: es ∧ f p es (to s2) (fun x s3 => P x (put s2 s3)) (fun _ _ _ => False)) : WE c (tCall (KSp Pg w c.K C f) [] E t) G s P := fun σ F H0 H g Q q =>
  h σ F H0 H g _ fun ds s2 vs H2 H2' hp g2 e2 r2 => by
    obtain ⟨es, rfl, hf⟩ := hp
    cases r2 with
    | cons r rs =>
      cases r
      rw [List.append_nil]
      exact ⟨nu, kn, res_call hc.ct (.inl fun _ _ _ z => z) hf g2 rs fun x s' v H3 H3' a b e d => q x s' v H3 H3' a b (e2.trans e) d⟩
end
end DL
/-! DLq: a new Kinds object on a ground; what the methods promise -/
namespace DL
open PySem PySem.Spec PyProof.Rows L2
/-- the places of the object's dicts are new to the ground -/
structure NewAt (c : Ct) (nu kn : Addr) : Prop where
  e1 : c.E nu = none
  e2 : c.E kn = none
  b1 : ¬ c.B nu
  b2 : ¬ c.B kn
/-- the ground with a Kinds object at p beside it -/
abbrev kinCt (c : Ct) (Pg : Program) (w : World) (C p nu kn : Addr) (hn : NewAt c nu kn) : Ct where
  K := c.K
  S := c.S × KSt
  R := fun s H0 H => c.R s.1 H0 H ∧ kinR Pg w c.K C nu kn p s.2 H0 H
  B := fun a => c.B a ∨ a = nu ∨ a = kn
  stab := fun s H0 H H0' H' h e k => ⟨c.stab _ _ _ _ _ h.1 e fun a o hb => k a o (.inl hb), (kinRes Pg w c.K C nu kn).stab p _ _ _ _ _ h.2 e fun a o hb => k a o (.inr hb)⟩
  there := fun s H0 H a h hb => hb.elim (fun hb => c.there _ _ _ _ h.1 hb) fun hb => (kinRes Pg w c.K C nu kn).there p _ _ _ _ h.2 hb
  E0 := c.E0
  E := c.E
  EX := c.EX
  X := fun C d s => c.X C d s.1
  okX := fun C d s v a H0' H' x e sub k n av rs ha r => c.okX C d s.1 v a H0' H' x e sub (fun b o hE hb => k b o hE fun z => by
    rcases z with z | z | z
    · exact hb z
    · rw [z, hn.e1] at hE; cases hE
    · rw [z, hn.e2] at hE; cases hE) n (fun b hb => av b (.inl hb)) rs.1 ha r
section
variable {c : Ct} {G : List Sl} {s : c.S} {Pg : Program} {w : World} {C p nu kn : Addr} {hn : NewAt c nu kn}
theorem onK : OnK (kinCt c Pg w C p nu kn hn) Pg w C nu kn p Prod.snd (fun s t => (s.1, t)) where
  ct := {
    B := fun a h => .inr h
    R := fun _ _ _ h => h.2
    back := fun s t H0 H H0' H' h av st => ⟨⟨c.stab _ _ _ _ _ h.1 st.ex fun a o hb ho => st.fr a o ho fun z => by
        rcases z with z | z
        · exact hn.b1 (z ▸ hb)
        · exact hn.b2 (z ▸ hb), st.rs⟩, fun a hb => by
      rcases hb with hb | hb
      · exact st.nw a (c.there _ _ _ _ h.1 hb) (av a (.inl hb))
      · exact st.av a hb⟩ }
  get := fun _ _ => rfl
  pp := fun _ _ _ => rfl
  gp := fun _ => rfl
theorem onK0 {K : PySem.W.Frag} {H0 H : Hp} {E : XK} {XP : Addr → D → KSt → Prop} {okX} : OnK (resCt K (kinRes Pg w K C nu kn) p H0 H E XP okX) Pg w C nu kn p (fun s => s) (fun _ t => t) where
  ct := { B := fun _ h => h, R := fun _ _ _ h => h, back := fun _ _ _ _ _ _ _ _ t => ⟨t.rs, t.av⟩ }
  get := fun _ _ => rfl
  pp := fun _ _ _ => rfl
  gp := fun _ => rfl
theorem SlOk.out {H0 H : Hp} {o : Option V} {x : Sl} (h : SlOk (kinCt c Pg w C p nu kn hn) H0 H o x) : SlOk c H0 H o x := by
  cases x with
  | un => trivial
  | dat d => exact h
  | own u =>
    obtain ⟨q, h1, h2, h3, h4, h5⟩ := h
    exact ⟨q, h1, h2, h3, fun z => h4 (.inl z), h5⟩
theorem Gd.out {s : c.S × KSt} {σ : L2.St} {F : Frm} {H0 H : Hp} (g : Gd (kinCt c Pg w C p nu kn hn) G s σ F H0 H) : Gd c G s.1 σ F H0 H where
  ln := g.ln
  gd := {
    sub := g.gd.sub
    av := fun a hb => g.gd.av a (.inl hb)
    e0 := g.gd.e0
    e1 := fun a o hE hb => g.gd.e1 a o hE fun z => by
      rcases z with z | z | z
      · exact hb z
      · have hE : c.E a = some o := hE
        rw [z, hn.e1] at hE; cases hE
      · have hE : c.E a = some o := hE
        rw [z, hn.e2] at hE; cases hE
    e2 := g.gd.e2
    rs := g.gd.rs.1
    len := g.gd.len
    sl := fun i x hx => SlOk.out (g.gd.sl i x hx)
    ds := g.gd.ds }
theorem RO.out {σ : L2.St} {F : Frm} {H0 H : Hp} {v : V} {x : Sl} (h : RO (kinCt c Pg w C p nu kn hn) G σ F H0 H v x) : RO c G σ F H0 H v x := by
  cases x with
  | un => trivial
  | dat d => exact h
  | own u =>
    obtain ⟨q, h1, ⟨h2, h3, h4, h5⟩, h6⟩ := h
    exact ⟨q, h1, ⟨h2, h3, fun z => h4 (.inl z), h5⟩, h6⟩
/-- what __init__ promises -/
def spKInit (Pg : Program) (w : World) (C : Addr) : Sp := fun vs H Q _ => ∃ (p dx : Addr), vs = [.ref p] ∧ H p = some (.ins C dx []) ∧
  ∀ (nu kn : Addr) (H' : Hp), nu ≠ kn → H nu = none → H kn = none → H' p = some (.ins C dx [("numbers", .ref nu), ("known", .ref kn)]) → H' nu = some (ndO Pg w nu []) → H' kn = some (.dT []) → (∀ b o, H b = some o → b ≠ p → H' b = some o) → Q .non H'
/-- the object is there -/
theorem Gd.inK {σ : L2.St} {F : Frm} {H0 H H' : Hp} {dx : Addr} (g : Gd c G s σ F H0 H) (np : H p = none) (ndx : H dx = none) (hpd : dx ≠ p) (hne : nu ≠ kn) (nnu : upd (upd H dx (.own p)) p (.ins C dx []) nu = none) (nkn : upd (upd H dx (.own p)) p (.ins C dx []) kn = none)
    (hp : H' p = some (.ins C dx [("numbers", .ref nu), ("known", .ref kn)])) (hu : H' nu = some (ndO Pg w nu [])) (hk : H' kn = some (.dT [])) (fr : ∀ b o, upd (upd H dx (.own p)) p (.ins C dx []) b = some o → b ≠ p → H' b = some o) :
    ∃ hn : NewAt c nu kn, Gd (kinCt c Pg w C p nu kn hn) G (s, ⟨[], []⟩) σ F (upd (upd H0 dx (.own p)) p (.ins C dx [("numbers", .ref nu), ("known", .ref kn)])) H' ∧ Same H0 (upd (upd H0 dx (.own p)) p (.ins C dx [("numbers", .ref nu), ("known", .ref kn)])) := by
  have fnu : H nu = none ∧ nu ≠ p ∧ nu ≠ dx := by
    have a1 : nu ≠ p := fun z => by rw [z, upd_same] at nnu; cases nnu
    rw [upd_ne a1] at nnu
    have a2 : nu ≠ dx := fun z => by rw [z, upd_same] at nnu; cases nnu
    rw [upd_ne a2] at nnu
    exact ⟨nnu, a1, a2⟩
  have fkn : H kn = none ∧ kn ≠ p ∧ kn ≠ dx := by
    have a1 : kn ≠ p := fun z => by rw [z, upd_same] at nkn; cases nkn
    rw [upd_ne a1] at nkn
    have a2 : kn ≠ dx := fun z => by rw [z, upd_same] at nkn; cases nkn
    rw [upd_ne a2] at nkn
    exact ⟨nkn, a1, a2⟩
  obtain ⟨u1, u2, u3⟩ := g.gd.newE fnu.1
  obtain ⟨k1, k2, k3⟩ := g.gd.newE fkn.1
  obtain ⟨p1, p2, p3⟩ := g.gd.newE np
  obtain ⟨d1, d2, d3⟩ := g.gd.newE ndx
  have old : ∀ b o, H b = some o → H' b = some o := fun b o h => fr b o (by rw [upd_ne (ne_of_none h np), upd_ne (ne_of_none h ndx)]; exact h) (ne_of_none h np)
  have hdx : H' dx = some (.own p) := fr dx _ (by rw [upd_ne hpd, upd_same]) hpd
  have e0 : Same H0 (upd (upd H0 dx (.own p)) p (.ins C dx [("numbers", .ref nu), ("known", .ref kn)])) := fun a o h => by
    rw [upd_ne (ne_of_none h p3), upd_ne (ne_of_none h d3)]
    exact h
  have sub : Same (upd (upd H0 dx (.own p)) p (.ins C dx [("numbers", .ref nu), ("known", .ref kn)])) H' := fun a o h => by
    by_cases ap : a = p
    · subst ap
      rw [upd_same] at h
      rw [hp]
      exact h
    · rw [upd_ne ap] at h
      by_cases ad : a = dx
      · subst ad
        rw [upd_same] at h
        rw [hdx]
        exact h
      · rw [upd_ne ad] at h
        exact old _ _ (g.gd.sub _ _ h)
  have g1 : Gd c G s σ F (upd (upd H0 dx (.own p)) p (.ins C dx [("numbers", .ref nu), ("known", .ref kn)])) H' :=
    ⟨g.ln, g.gd.ext e0 sub old (fun a h h0 => by
      rw [upd_ne (show a ≠ p from fun z => h (by rw [z]; exact np)), upd_ne (show a ≠ dx from fun z => h (by rw [z]; exact ndx))]
      exact h0) fun a hb h => absurd h (c.there _ _ _ _ g.gd.rs hb)⟩
  refine ⟨⟨u1, k1, u2, k2⟩, ⟨g.ln, ?_⟩, e0⟩
  have h := g1.gd
  exact {
    sub := h.sub
    av := fun a hb => by
      rcases hb with hb | rfl | rfl
      · exact h.av a hb
      · rw [upd_ne fnu.2.1, upd_ne fnu.2.2]
        exact u3
      · rw [upd_ne fkn.2.1, upd_ne fkn.2.2]
        exact k3
    e0 := h.e0
    e1 := fun a o hE hb => h.e1 a o hE fun z => hb (.inl z)
    e2 := h.e2
    rs := ⟨h.rs, hne, ⟨dx, upd_same⟩, ⟨[], hu, fun _ h => by simp at h, rfl⟩, hk⟩
    len := h.len
    sl := fun i x hx => by
      have q := h.sl i x hx
      have q0 := g.gd.sl i x hx
      cases x with
      | un => trivial
      | dat d => exact q
      | own u =>
        obtain ⟨r, h1, h2, h3, h4, h5⟩ := q
        obtain ⟨r', h1', _, _, _, u', hu', _⟩ := q0
        rw [h1] at h1'
        cases h1'
        refine ⟨r, h1, h2, h3, fun z => ?_, h5⟩
        rcases z with z | z | z
        · exact h4 z
        · rw [z, fnu.1] at hu'
          cases hu'
        · rw [z, fkn.1] at hu'
          cases hu'
    ds := h.ds }
theorem EOk.out {D : Ends} {P : Ds c.S} {H0 : Hp} {n : Nat} (e : EOk c D P H0 n) : EOk (kinCt c Pg w C p nu kn hn) D ⟨fun G s => P.nx G s.1, fun x s => P.rt x s.1, fun G s => P.bk G s.1, fun G s => P.ct G s.1⟩ H0 n where
  nx := fun G s σ H0' H a b d l => e.nx G s.1 σ H0' H a (Gd.of b).out.to d l
  rt := fun x s v G σ H0 H a b r => e.rt x s.1 v G σ H0 H a (Gd.of b).out.to (by
    have := RO.out (F := ([], [])) (show RO (kinCt c Pg w C p nu kn hn) G σ ([], []) H0 H v x by simpa [RO] using r)
    simpa [RO] using this)
  bk := fun G s σ H0' H a b d l => e.bk G s.1 σ H0' H a (Gd.of b).out.to d l
  ct := fun G s σ H0' H a b d l => e.ct G s.1 σ H0' H a (Gd.of b).out.to d l
/-- kinds = Kinds(); .. -/
theorem ws_newK {P : Ds c.S} {i : Nat} {E : XK} {u : TS} (h : ∀ p nu kn hn, WS (kinCt c Pg w C p nu kn hn) u (G.set i (.dat (.ref p))) (s, ⟨[], []⟩) ⟨fun G s => P.nx G s.1, fun x s => P.rt x s.1, fun G s => P.bk G s.1, fun G s => P.ct G s.1⟩) :
    WS c (tSeq (tAsg (tMake C (spKInit Pg w C) [] E tNil) (gName i)) u) G s P := fun σ H0 H gd D e => by
  intro p dx np ndx hpd
  refine ⟨p, dx, rfl, upd_same, fun nu kn H' hne nnu nkn hp hu hk fr => ⟨rfl, ?_⟩⟩
  obtain ⟨hn, g2, e2⟩ := (Gd.of gd).inK (Pg := Pg) (w := w) np ndx hpd hne nnu nkn hp hu hk fr
  refine (h p nu kn hn) _ _ _ (g2.to.setSl i (v := .ref p) (x := .dat (.ref p)) (.ref p)) D ?_
  rw [List.length_set]
  exact EOk.out (e.on e2)
end
/-! ### the promises -/
/-- a member of a row -/
def MemAt (tab : List (List M3)) (d : Nat) (l : LRow) (i : Nat) (m : M3) : Prop := ∃ a, l[i]? = some a ∧ m.2.1 = ⟨#[a]⟩ ∧ Kd tab d (l.take i) m.1 ∧ Kd tab d (l.drop (i + 1)) m.2.2
theorem MemAt.mono {t t' : List (List M3)} (h : t <+: t') {d : Nat} {l : LRow} {i : Nat} {m : M3} (k : MemAt t d l i m) : MemAt t' d l i m := by
  obtain ⟨a, h1, h2, h3, h4⟩ := k
  exact ⟨a, h1, h2, h3.mono h, h4.mono h⟩
theorem Mem3.of {tab : List (List M3)} {d : Nat} {l : LRow} {ms : List M3} (hl : ms.length = l.length) (h : ∀ i m, ms[i]? = some m → MemAt tab d l i m) : Mem3 (Kd tab d) l ms := ⟨hl, fun i a ha => by
  have hi : i < ms.length := by rw [hl]; exact (List.getElem?_eq_some_iff.mp ha).1
  obtain ⟨b, h1, h2, h3, h4⟩ := h i ms[i] (List.getElem?_eq_getElem hi)
  rw [ha] at h1
  cases h1
  exact ⟨ms[i].1, ms[i].2.2, by rw [List.getElem?_eq_getElem hi, ← h2], h3, h4⟩⟩
/-- what a cut of a row is -/
theorem rowS_len (l : LRow) : (rowS l).length = l.length := by
  show l.toArray.size = _
  simp
theorem cut_take (l : LRow) (i : Nat) : cutS (rowS l) none (some ((i : Nat) : Int)) = rowS (l.take i) := by
  unfold cutS
  rw [HT.sIx_nat, HT.sIx_none, rowS_len]
  show rowS _ = _
  congr 1
  show (l.toArray.toList.drop 0).take _ = _
  rw [List.drop_zero, Nat.sub_zero]
  show l.take (min i l.length) = _
  by_cases h : i ≤ l.length
  · rw [Nat.min_eq_left h]
  · rw [Nat.min_eq_right (by omega), List.take_of_length_le (Nat.le_refl _), List.take_of_length_le (by omega)]
theorem cut_drop (l : LRow) (i : Nat) : cutS (rowS l) (some ((i : Nat) : Int)) none = rowS (l.drop i) := by
  unfold cutS
  rw [HT.sIx_nat, HT.sIx_none, rowS_len]
  show rowS _ = _
  congr 1
  show (l.toArray.toList.drop (min i l.length)).take (l.length - min i l.length) = _
  show (l.drop (min i l.length)).take (l.length - min i l.length) = _
  by_cases h : i ≤ l.length
  · rw [Nat.min_eq_left h, List.take_of_length_le (by rw [List.length_drop]; omega)]
  · rw [Nat.min_eq_right (by omega), Nat.sub_self, List.drop_of_length_le (show l.length ≤ i by omega), List.take_zero]
theorem cut_drop1 (l : LRow) (i : Nat) : cutS (rowS l) (some ((i : Nat) + 1 : Int)) none = rowS (l.drop (i + 1)) := cut_drop l (i + 1)
end DL
/-! DLr: attributes as targets, with the written part told -/
namespace DL
open PySem PySem.Spec PyProof.Rows L2
section
variable {X : Cx} {K : PySem.W.Frag}
/-- o.f = .. within a target -/
def gFld (K : PySem.W.Frag) (to : TE) (f : Str) : TG := fun v σ H Q => to σ H fun x H1 => ∃ a C dx fs, x = .ref a ∧ H1 a = some (.ins C dx fs) ∧ Cls K C ∧ NoAttr K C f ∧ fs.length < 1000 ∧ Q σ (upd H1 a (.ins C dx (putF f v fs)))
theorem pg_fldK {o : Expr} {to : TE} {f : Str} {pos : Pos} (hK : X.K = K) (ho : PE X o to)
    (ha : ∀ v, assign (.Attribute o f pos) X.env v = (do
      let ov ← holding [v] (eval o X.env)
      standAt pos.atName
      holding [v, ov] (setAttr ov f v)
      release [v, ov] []) := by intro _; rfl) : PG X (.Attribute o f pos) (gFld K to f) := by
  subst hK
  refine ⟨fun pins s σ H v u Q I r h => ?_⟩
  rw [ha]
  refine wpAny_bind (wpAny_holding (thn (ho.run pins s σ H _ I h) fun ov s1 ⟨x, H1, I1, r1, a, C, dx, fs, ex, ea, c, n, l, q⟩ => ?_))
  subst ex
  obtain rfl : ov = Value.ref a := r1
  refine wpAny_bind (wpAny_standAt (wpAny_bind (wpAny_holding (setattr_ok I1 ea c n l r fun s3 I3 => ?_))))
  exact wpAny_release ⟨σ, _, I3, q⟩
theorem pe_fldK {e : Expr} {f : Str} {pos : Pos} {ta : TE} (h : X.K = K) (he : PE X e ta) (hb : attributeBase e f X.env (eval e X.env) = eval e X.env) : PE X (.Attribute e f pos) (tFld K ta f) := by
  subst h
  exact pe_fld he hb
end
/-- a class that may be made -/
structure NCallee (P : Program) (w : World) (K : PySem.W.Frag) (mg : Str → Option Value) (base : Heap) (CX : CXT) (x : Str) (C : Addr) (params : List Str) (k : Nat) (sp : Sp) (f : Addr) (fd : FuncData) : Prop where
  made : Mk K C f
  ok : FnOk P w K mg base CX k f fd params sp
  mg : mg x = some (.ref C)
  bd : Binds K fd params []
  ps : ∀ X : Cx, X.prog = P → X.w = w → Passes CX X E0
end DL
/-! DLs: the list of a row's members -/
namespace DL
open PySem PySem.Spec PyProof.Rows L2
theorem dun_neg {c : Ct} {G : List Sl} {s : c.S} {P : Sl → c.S → Prop} {i : Int} (k : P (.dat (.int (-i))) s) : DUn c (rU fun i => V.int (-i)) (.int i) G s P := fun σ F H0 H v gd r Q q => by
  cases r
  exact ⟨i, rfl, q _ s _ H0 H k gd (Same.refl _) (.int _)⟩
end DL
/-! DLt: texts from behind, written texts, a plainer for -/
namespace DL
open PySem PySem.Spec PyProof.Rows L2
section
variable {X : Cx} {K : PySem.W.Frag}
theorem pe_globS {x y : Str} {pos : Pos} (hg : Gl X x) (h : ∃ t, X.mg x = some (.str y t)) (hd : (x == ("__debug__" : Str)) = false := by decide) : PE X (.Name x pos) (tC (.str y)) := by
  obtain ⟨t, e⟩ := h
  exact pe_glob hg e ⟨t, rfl⟩ hd
def tRevQ (K : PySem.W.Frag) (te : TE) : TE := fun σ H Q => tRevL K te σ H Q ∨ te σ H fun x H1 => ∃ z : Str, x = .str z ∧ z.length ≤ sizeLine ∧ Q (.str ⟨z.cps.toList.reverse.toArray⟩) H1
end
section
variable {c : Ct} {G : List Sl} {s : c.S}
theorem we_revS {P : Sl → c.S → Prop} {te : TE} (h : WE c te G s (FZ fun d s1 => ∃ l : LRow, d = .str (rowS l) ∧ l.length ≤ 1000000 ∧ P (.dat (.str (rowS l.reverse))) s1)) : WE c (tRevQ c.K te) G s P := fun σ F H0 H g Q q => .inr (h.use g fun d s1 v H1 H1' hp g1 e1 r1 => by
  obtain ⟨l, rfl, hl, hp⟩ := hp
  cases r1
  refine ⟨rowS l, rfl, sizeL (by rw [rowS_len]; exact hl), ?_⟩
  have e : (⟨(rowS l).cps.toList.reverse.toArray⟩ : Str) = rowS l.reverse := by simp [rowS]
  rw [e]
  exact q _ s1 _ H1 H1' hp g1 e1 (.str _))
theorem Gd.un {σ : L2.St} {F : Frm} {H0 H : Hp} (g : Gd c G s σ F H0 H) : ∀ is : List Nat, Gd c (unAll G is) s σ F H0 H
  | [] => g
  | i :: is => by
    have h := g.un is
    show Gd c ((unAll G is).set i .un) s σ F H0 H
    by_cases hi : i < (unAll G is).length
    · refine ⟨by rw [List.length_set]; exact h.ln, ?_⟩
      have q := h.gd.forget i
      rw [List.set_append_left _ _ hi] at q
      exact q
    · rw [List.set_eq_of_length_le (by omega)]
      exact h
theorem unAll_len (G : List Sl) : ∀ is : List Nat, (unAll G is).length = G.length
  | [] => rfl
  | i :: is => by
    show ((unAll G is).set i .un).length = _
    rw [List.length_set, unAll_len G is]
/-- for, whose body writes none but the names is -/
theorem ws_forN {ti : TI} {g : TG} {tb : TS} {P : Ds c.S} (is : List Nat) (hG : unAll G is = G) (h : WI c ti G s fun its s1 => ∃ I : Nat → c.S → Prop, I 0 s1 ∧
      (∀ i d si, its[i]? = some d → I i si → ∃ js G', Tg c g js d G G' ∧ WS c tb G' si { nx := fun Gn sn => unAll Gn is = G ∧ I (i + 1) sn, ct := fun Gn sn => unAll Gn is = G ∧ I (i + 1) sn, bk := P.nx, rt := P.rt }) ∧
      ∀ Gn sn, unAll Gn is = G → I its.length sn → P.nx Gn sn) : WS c (tFor ti g tb) G s P := by
  refine ws_for fun σ F H0 H gd R q => h σ F H0 H gd R fun its s1 J H0' H' Gw Y hp => q its s1 J H0' H' Gw Y ?_
  obtain ⟨I, h0, hs, hd⟩ := hp
  refine ⟨fun i Gi si => unAll Gi is = G ∧ I i si, ⟨hG, h0⟩, fun i d Gi si hdd hl hI => ?_, fun Gn sn hl hI => hd Gn sn hI.1 hI.2⟩
  obtain ⟨js, G', t, hb⟩ := hs i d si hdd hI.2
  refine ⟨js, G', fun s σ F H0 H v gg r Q k => t s σ F H0 H v (by rw [← hI.1]; exact gg.un is) r Q k, hb⟩
end
end DL
/-! DLu: for with values that go along; letters drawn; rows put together -/
namespace DL
open PySem PySem.Spec PyProof.Rows L2
section
variable {c : Ct} {G : List Sl} {s : c.S}
theorem ws_un {t : TS} {P : Ds c.S} (is : List Nat) (h : WS c t (unAll G is) s P) : WS c t G s P := fun σ H0 H g D e => h σ H0 H ((Gd.of g).un is).to D (by rw [unAll_len]; exact e)
/-- for, with a value b that tells what the names hold -/
theorem ws_forG {β : Type} {ti : TI} {g : TG} {tb : TS} {P : Ds c.S} (is : List Nat) (Gs : β → List Sl) (b0 : β) (hG : G = Gs b0) (h : WI c ti G s fun its s1 => ∃ I : Nat → β → c.S → Prop, I 0 b0 s1 ∧ unAll G is = G ∧
      (∀ i d b si, its[i]? = some d → I i b si → ∃ js G', Tg c g js d (Gs b) G' ∧ WS c tb G' si { nx := fun Gn sn => ∃ b', unAll Gn is = Gs b' ∧ I (i + 1) b' sn, ct := fun Gn sn => ∃ b', unAll Gn is = Gs b' ∧ I (i + 1) b' sn, bk := P.nx, rt := P.rt }) ∧
      ∀ Gn b sn, unAll Gn is = Gs b → I its.length b sn → P.nx Gn sn) : WS c (tFor ti g tb) G s P := by
  refine ws_for fun σ F H0 H gd R q => h σ F H0 H gd R fun its s1 J H0' H' Gw Y hp => q its s1 J H0' H' Gw Y ?_
  obtain ⟨I, h0, hu, hs, hd⟩ := hp
  refine ⟨fun i Gi si => ∃ b, unAll Gi is = Gs b ∧ I i b si, ⟨b0, by rw [hu, hG], h0⟩, fun i d Gi si hdd hl hI => ?_, fun Gn sn hl hI => ?_⟩
  · obtain ⟨b, hb, hI⟩ := hI
    obtain ⟨js, G', t, hb'⟩ := hs i d b si hdd hI
    exact ⟨js, G', fun s σ F H0 H v gg r Q k => t s σ F H0 H v (by rw [← hb]; exact gg.un is) r Q k, hb'⟩
  · obtain ⟨b, hb, hI⟩ := hI
    exact hd Gn b sn hb hI
end
theorem rowS_app (l m : LRow) : rowS l ++ rowS m = rowS (l ++ m) := by
  apply str_ext
  show ((rowS l).cps ++ (rowS m).cps).toList = _
  simp [rowS]
theorem cut_mid (l : LRow) (i j : Nat) (h : i ≤ j) : cutS (rowS l) (some ((i : Nat) : Int)) (some ((j : Nat) : Int)) = rowS ((l.drop i).take (j - i)) := by
  unfold cutS
  rw [HT.sIx_nat, HT.sIx_nat, rowS_len]
  show rowS _ = _
  congr 1
  show (l.drop (min i l.length)).take (min j l.length - min i l.length) = _
  by_cases hi : i ≤ l.length
  · rw [Nat.min_eq_left hi]
    by_cases hj : j ≤ l.length
    · rw [Nat.min_eq_left hj]
    · rw [Nat.min_eq_right (by omega), List.take_of_length_le (by rw [List.length_drop]; omega), List.take_of_length_le (by rw [List.length_drop]; omega)]
  · rw [Nat.min_eq_right (by omega), Nat.min_eq_right (by omega), Nat.sub_self, List.take_zero, List.drop_of_length_le (show l.length ≤ i by omega), List.take_nil]
theorem da_row {c : Ct} {G : List Sl} {s : c.S} {P : Sl → c.S → Prop} {l m : LRow} (hl : l.length + m.length ≤ 1000000) (k : P (.dat (.str (rowS (l ++ m)))) s) : DOp c (qAdd c.K) (.str (rowS l)) (.str (rowS m)) G s P :=
  da_str (by rw [rowS_len, rowS_len]; exact hl) (by rw [rowS_app]; exact k)
end DL
/-! DLv: the pool as a ground beside another; the law itself -/
namespace DL
open PySem PySem.Spec PyProof.Rows L2
theorem ok_resG {P : Program} {w : World} {K : PySem.W.Frag} {mg : Str → Option Value} {base : Heap} {x qual : Str} {st : Stmt} {f : Addr} {fd : FuncData} {N ps : List Str} {k : Nat} {r : Res} (fs : RSpec r) (F : Fun K x qual st f fd) (S : FnScope N ps (defScope st)) (hl : ∀ p ds s P XP, fs p ds s P XP → (ds.length + 1) = ps.length)
    (hbody : ∀ (cdv : Value) (A : Around) (outer : List Env) (s : Shared) (H : Hp) (E : XK), A.guards = some [] → Room k (A.deeper (envOfC qual (defScope st) s.heap.objs.size f cdv)) →
      ∃ t, PSs (cxOf CX0 P w K mg base N qual (defScope st) f cdv A outer s H E).nox (defBody st) t ∧
        ∀ p ds s0 Q XP, fs p ds s0 Q XP → ∀ H0 okX, WS (resCt K r p H0 H E XP okX) t ((.ref p :: ds).map Sl.dat ++ List.replicate (N.length - (ds.length + 1)) .un) s0 { nx := fun _ s1 => Q (.dat .non) s1, rt := Q }) : FnG P w K mg base CX0 (k + 1) f fd ps (ResSp K r fs) := by
  refine okG F S (fun vs H Q E h => ?_) (fun cdv A outer s H vs Q E hg hr h => ?_)
  · obtain ⟨p, ds, s, P, XP, hf, H0, _, _, ra, _⟩ := h
    rw [ra.len]
    exact hl _ _ _ _ _ hf
  · obtain ⟨t, ht, hb⟩ := hbody cdv A outer s H E hg hr
    refine ⟨t, ht.nox, ?_⟩
    obtain ⟨p, ds, s0, P, XP, hf, H0, sub, av, ra, rs, kQ, kX⟩ := h
    have hw := hb p ds s0 P XP hf H0 kX
    refine hw _ _ _ (Good.start (c := resCt K r p H0 H E XP kX) (N := N) ra sub av rs) _ ⟨fun G s1 σ H0' H' hp g _ _ => ?_, fun y s1 v G σ H0' H' hp g ro => ?_, fun _ _ _ _ _ h => h.elim, fun _ _ _ _ _ h => h.elim⟩
    · exact kQ _ s1 _ H0' H' hp ⟨g.e0, g.sub, g.e1, g.e2, g.av, g.rs⟩ .non
    · refine kQ _ s1 _ H0' H' hp ⟨g.e0, g.sub, g.e1, g.e2, g.av, g.rs⟩ ?_
      cases y with
      | un => trivial
      | dat d => exact ro
      | own w =>
        obtain ⟨a, rfl, ⟨n0, n1, nb, u, hu, k⟩, _⟩ := ro
        exact ⟨a, rfl, n0, n1, nb, u, hu, k⟩
/-! ### the pool beside a ground -/
structure NewP (c : Ct) (p : Addr) : Prop where
  e : c.E p = none
  b : ¬ c.B p
abbrev poolCt (c : Ct) (p : Addr) (hn : NewP c p) : Ct where
  K := c.K
  S := c.S × Nat
  R := fun s H0 H => c.R s.1 H0 H ∧ poolR p s.2 H0 H
  B := fun a => c.B a ∨ a = p
  stab := fun s H0 H H0' H' h e k => ⟨c.stab _ _ _ _ _ h.1 e fun a o hb => k a o (.inl hb), poolRes.stab p s.2 H0 H H0' H' h.2 e fun a o hb => k a o (.inr hb)⟩
  there := fun s H0 H a h hb => hb.elim (fun hb => c.there _ _ _ _ h.1 hb) fun hb => poolRes.there p s.2 H0 H a h.2 hb
  E0 := c.E0
  E := c.E
  EX := c.EX
  X := fun C d s => c.X C d s.1
  okX := fun C d s v a H0' H' x e sub k n av rs ha r => c.okX C d s.1 v a H0' H' x e sub (fun b o hE hb => k b o hE fun z => by
    rcases z with z | z
    · exact hb z
    · rw [z, hn.e] at hE; cases hE) n (fun b hb => av b (.inl hb)) rs.1 ha r
section
variable {c : Ct} {G : List Sl} {s : c.S} {p : Addr} {hn : NewP c p}
theorem onP : CtR (poolCt c p hn) poolRes p Prod.snd (fun s t => (s.1, t)) where
  B := fun a h => .inr h
  R := fun _ _ _ h => h.2
  back := fun s t H0 H H0' H' h av st => ⟨⟨c.stab _ _ _ _ _ h.1 st.ex fun a o hb ho => st.fr a o ho fun z => hn.b ((show a = p from z) ▸ hb), st.rs⟩, fun a hb => by
    rcases hb with hb | hb
    · exact st.nw a (c.there _ _ _ _ h.1 hb) (av a (.inl hb))
    · exact st.av a hb⟩
theorem SlOk.outP {H0 H : Hp} {o : Option V} {x : Sl} (h : SlOk (poolCt c p hn) H0 H o x) : SlOk c H0 H o x := by
  cases x with
  | un => trivial
  | dat d => exact h
  | own u =>
    obtain ⟨q, h1, h2, h3, h4, h5⟩ := h
    exact ⟨q, h1, h2, h3, fun z => h4 (.inl z), h5⟩
theorem Good.outP {s : c.S × Nat} {σ : L2.St} {H0 H : Hp} (g : Good (poolCt c p hn) G s σ H0 H) : Good c G s.1 σ H0 H where
  sub := g.sub
  av := fun a hb => g.av a (.inl hb)
  e0 := g.e0
  e1 := fun a o hE hb => g.e1 a o hE fun z => by
    rcases z with z | z
    · exact hb z
    · have hE : c.E a = some o := hE
      rw [z, hn.e] at hE; cases hE
  e2 := g.e2
  rs := g.rs.1
  len := g.len
  sl := fun i x hx => SlOk.outP (g.sl i x hx)
  ds := g.ds
theorem ROk.outP {σ : L2.St} {H0 H : Hp} {v : V} {x : Sl} (h : ROk (poolCt c p hn) G σ H0 H v x) : ROk c G σ H0 H v x := by
  cases x with
  | un => trivial
  | dat d => exact h
  | own u =>
    obtain ⟨q, h1, ⟨h2, h3, h4, h5⟩, h6⟩ := h
    exact ⟨q, h1, ⟨h2, h3, fun z => h4 (.inl z), h5⟩, h6⟩
theorem EOk.outP {D : Ends} {P : Ds c.S} {H0 : Hp} {n : Nat} (e : EOk c D P H0 n) : EOk (poolCt c p hn) D ⟨fun G s => P.nx G s.1, fun x s => P.rt x s.1, fun G s => P.bk G s.1, fun G s => P.ct G s.1⟩ H0 n where
  nx := fun G s σ H0' H a b d l => e.nx G s.1 σ H0' H a b.outP d l
  rt := fun x s v G σ H0 H a b r => e.rt x s.1 v G σ H0 H a b.outP r.outP
  bk := fun G s σ H0' H a b d l => e.bk G s.1 σ H0' H a b.outP d l
  ct := fun G s σ H0' H a b d l => e.ct G s.1 σ H0' H a b.outP d l
/-- a list of three ints that a name holds for itself is the pool from here on -/
theorem ws_openPool {P : Ds c.S} {u : TS} {i n : Nat} {x y m : Int} (hi : G[i]? = some (.own (.lst [.int x, .int y, .int m]))) (h1 : 0 ≤ x) (h2 : 0 ≤ y) (h3 : y < 2 ^ 62) (h4 : 0 ≤ m) (h5 : m + n ≤ 1000000000000)
    (h : ∀ p hn, WS (poolCt c p hn) u (G.set i (.dat (.ref p))) (s, n) ⟨fun G s => P.nx G s.1, fun x s => P.rt x s.1, fun G s => P.bk G s.1, fun G s => P.ct G s.1⟩) : WS c u G s P := fun σ H0 H gd D e => by
  obtain ⟨p, hp, o1, o2, o3, v, hv, hk⟩ := gd.ownAt hi
  have hil : i < G.length := (List.getElem?_eq_some_iff.mp hi).1
  cases v with
  | lst vs =>
    have ev : vs = [.int x, .int y, .int m] := RepAll.ints (ns := [x, y, m]) hk
    subst ev
    refine h p ⟨o2, o3⟩ σ H0 H ?_ D (by rw [List.length_set]; exact e.outP)
    exact {
      sub := gd.sub
      av := fun a hb => by
        rcases hb with hb | rfl
        · exact gd.av a hb
        · exact o1
      e0 := gd.e0
      e1 := fun a o hE hb => gd.e1 a o hE fun z => hb (.inl z)
      e2 := gd.e2
      rs := ⟨gd.rs, x, y, m, hv, h1, h2, h3, h4, h5⟩
      len := by rw [List.length_set]; exact gd.len
      sl := fun j z hz => by
        by_cases hij : i = j
        · subst hij
          rw [List.getElem?_set_self hil] at hz
          cases hz
          exact ⟨.ref p, by rw [hp]; rfl, .ref p⟩
        · rw [List.getElem?_set_ne hij] at hz
          have q := gd.sl j z hz
          cases z with
          | un => trivial
          | dat d => exact q
          | own w =>
            obtain ⟨r, q1, q2, q3, q4, q5⟩ := q
            refine ⟨r, q1, q2, q3, fun b => ?_, q5⟩
            rcases b with b | b
            · exact q4 b
            · subst b
              refine gd.ds i j r _ w hij hi hz hp ?_
              cases hs : σ[j]? with
              | none =>
                rw [hs] at q1
                cases q1
              | some t =>
                rw [hs] at q1
                exact congrArg some q1
      ds := fun a b q w w' hab ha hb => by
        have ha2 : G[a]? = some (.own w) := by
          by_cases hia : i = a
          · subst hia
            rw [List.getElem?_set_self hil] at ha
            cases ha
          · rw [List.getElem?_set_ne hia] at ha
            exact ha
        have hb2 : G[b]? = some (.own w') := by
          by_cases hib : i = b
          · subst hib
            rw [List.getElem?_set_self hil] at hb
            cases hb
          · rw [List.getElem?_set_ne hib] at hb
            exact hb
        exact gd.ds a b q w w' hab ha2 hb2 }
  | _ => exact False.elim hk
/-- len(script) -/
theorem we_lenScript {P : Sl → c.S → Prop} {i : Nat} {a : Addr} {ns : List Int} (hi : G[i]? = some (.dat (.ref a))) (hS : SqL c.K c.E0 a (ns.map V.int)) (k : P (.dat (.int ns.length)) s) : WE c (tCB (qLen c.K) (tCons (tVar i) tNil)) G s P := fun σ F H0 H g Q q => by
  obtain ⟨v, h1, r⟩ := g.at hi
  cases r
  have hS2 : SqL c.K H a (ns.map V.int) := (g.gd.e0.trans g.gd.sub).seq hS
  exact ⟨_, h1, .ref a, ns.length, rfl, .inl ⟨_, hS2, by rw [List.length_map]⟩, q _ s _ H0 H k g (Same.refl _) (.int _)⟩
/-- _law_pool(script, spot) -/
theorem we_pool {P : Sl → c.S → Prop} {i j : Nat} {a : Addr} {ns : List Int} {t : Nat} {E : XK} (hi : G[i]? = some (.dat (.ref a))) (hj : G[j]? = some (.dat (.int ((t : Nat) : Int)))) (ht : t ≤ 100) (hS : SqL c.K c.E0 a (ns.map V.int))
    (k : ∀ x y : Int, 0 ≤ x → 0 ≤ y → y < 2 ^ 62 → P (.own (.lst [.int x, .int y, .int 0])) s) : WE c (tCall (spPool c.K) [] E (tCons (tVar i) (tCons (tVar j) tNil))) G s P := fun σ F H0 H g Q q => by
  obtain ⟨v, h1, r⟩ := g.at hi
  obtain ⟨v2, h2, r2⟩ := g.at hj
  cases r
  cases r2
  have hS2 : SqL c.K H a (ns.map V.int) := (g.gd.e0.trans g.gd.sub).seq hS
  refine ⟨_, h1, _, h2, a, ns, t, rfl, hS2, ht, fun p x y H' hp hs hl x0 y0 y1 => ?_⟩
  obtain ⟨n1, n2, n3⟩ := g.gd.newE hp
  have g2 : Gd c G s σ F H0 H' := ⟨g.ln, g.gd.ext (Same.refl _) (g.gd.sub.trans hs) hs (fun _ _ h => h) fun a hb _ => g.gd.av a hb⟩
  exact q _ s _ H0 H' (k x y x0 y0 y1) g2 (Same.refl _) ⟨p, rfl, ⟨n3, n1, n2, _, hl, RepAll.ofInts [x, y, 0]⟩, g.gd.apart hp⟩
end
/-- _law_fits -/
abbrev fitsS : RSpec poolRes := fun _ ds (n : Nat) P _ => ds = [] ∧ 1000000 ≤ n ∧ ∀ n' : Nat, n ≤ n' + 1000000 → P (.dat (.bl true)) n'
/-- law -/
def spLaw (K : PySem.W.Frag) : Sp := fun vs H Q _ => ∃ (a : Addr) (ns : List Int), vs = [.ref a] ∧ SqL K H a (ns.map V.int) ∧ ns.length ≤ 63 ∧ ∀ H', Q (.bl true) H'
/-- a row of letters, not too long -/
def LetRow (l : LRow) (L : Nat) : Prop := (∀ a ∈ l, a ∈ ("abcdefghijklmnopqrstuvwxyz" : Str).cps.toList) ∧ l.length ≤ L
/-- a row of letters -/
def Letters (l : LRow) : Prop := (∀ a ∈ l, a ∈ ("abcdefghijklmnopqrstuvwxyz" : Str).cps.toList) ∧ l.length ≤ 1000
/-- _law_pair_of_lines -/
abbrev pairS : RSpec poolRes := fun _ ds (n : Nat) P _ => ∃ L : Nat, ds = [.int ((L : Nat) : Int)] ∧ L ≤ 60 ∧ 1000 ≤ n ∧ ∀ (l m : LRow) (n' : Nat), LetRow l L → LetRow m L → n ≤ n' + 1000 → P (.dat (.tup [.str (rowS l), .str (rowS m)])) n'
theorem law_run {K : PySem.W.Frag} {H : Hp} {E : XK} {a : Addr} {N : List Str} {t : TS} {Q : VK} (h : ∀ okX, WS (pureCt K H H E (fun _ _ => False) okX) t ([.dat (.ref a)] ++ List.replicate (N.length - 1) .un) () { nx := fun _ _ => False, rt := fun x _ => x = .dat (.bl true) })
    (k : ∀ H', Q (.bl true) H') : t { nx := fun _ H' => Q .non H', rt := Q } (start N [.ref a]) H := by
  have g0 : Good (pureCt K H H E (fun _ _ => False) (fun _ _ _ _ _ _ _ x => x.elim)) ([.dat (.ref a)] ++ List.replicate (N.length - 1) .un) () (start N [.ref a]) H H :=
    Good.start (c := pureCt K H H E (fun _ _ => False) (fun _ _ _ _ _ _ _ x => x.elim)) (vs := [.ref a]) (ds := [.ref a]) (N := N) (.cons (.ref a) .nil) (Same.refl _) (fun _ h => h.elim) trivial
  refine h _ _ _ _ g0 _ ⟨fun _ _ _ _ _ h => h.elim, fun y s1 v G σ H0' H' hp g ro => ?_, fun _ _ _ _ _ h => h.elim, fun _ _ _ _ _ h => h.elim⟩
  subst hp
  cases ro
  exact k H'
end DL
/-! DLw: callees made, the walk's end -/
namespace DL
open PySem PySem.Spec PyProof.Rows L2
section
variable {P : Program} {w : World} {K : PySem.W.Frag} {mg : Str → Option Value} {base : Heap} {x : Str} {ps : List Str} {k : Nat} {sp : Sp} {f : Addr} {fd : FuncData}
theorem mkC (ok : FnOk P w K mg base CX0 k f fd ps sp) (m : mg x = some (.ref f)) (kp : PySem.W.keepIn K (.ref f) = true) (bd : Binds K fd ps []) : Callee P w K mg base CX0 x ps k sp f fd := ⟨ok, m, kp, bd, fun _ _ _ => pass0⟩
theorem mkG (ok : FnG P w K mg base CX0 k f fd ps sp) (m : mg x = some (.ref f)) (kp : PySem.W.keepIn K (.ref f) = true) (bd : Binds K fd ps []) : CalleeG P w K mg base CX0 x ps k sp f fd := ⟨ok, m, kp, bd, fun _ _ _ => pass0⟩
theorem mkM {C : Addr} (ok : FnOk P w K mg base CX0 k f fd ps sp) (m : PySem.W.findIn K (.ref C) x = some (some (.ref f))) (i : PySem.W.isFn K (.ref f) = true) (kp : PySem.W.keepIn K (.ref f) = true) (bd : Binds K fd ps []) : MCallee P w K mg base CX0 C x ps k sp f fd := ⟨ok, ⟨m, i, kp⟩, bd, fun _ _ _ => pass0⟩
theorem mkN {C : Addr} (mk : Mk K C f) (ok : FnOk P w K mg base CX0 k f fd ps sp) (m : mg x = some (.ref C)) (bd : Binds K fd ps []) : NCallee P w K mg base CX0 x C ps k sp f fd := ⟨mk, ok, m, bd, fun _ _ _ => pass0⟩
theorem FnOk_none (h : ∀ vs H Q E, ¬ sp vs H Q E) : FnOk P w K mg base CX0 k f fd ps sp := ⟨fun vs H Q E q => (h _ _ _ _ q).elim, fun A outer s H args us vs Q E _ _ _ _ q => (h _ _ _ _ q).elim⟩
theorem KB.of {qual : Str} {st : Stmt} {ks : List Str} {perm : List Nat} (F : Fun K x qual st f fd)
    (h : ∀ (kV doc pm : Value) (an : Option Addr) (cdv ct : Value) (ws : List Value), ws.length = ks.length → bindArgs (PySem.W.fnOf x qual (defArgs st) (defBody st) (defScope st) .none kV doc pm an cdv ct) ⟨[], ks.zip ws⟩ = pure (ps.zip (pick perm ws))) : KB fd ps ks perm := by
  obtain ⟨oc, od, kV, doc, pm, an, cdv, ct, osl, rfl, lk, hcd⟩ := F.ex
  exact fun ws hl => h kV doc pm an cdv ct ws hl
end
end DL
/-! DLx: laws of rows alike to a depth: put together, turned, renamed, repeated -/
namespace DL
theorem Alike.less : ∀ {d : Nat} {l m : LRow}, Alike (d + 1) l m → Alike d l m
  | 0, _, _, _ => trivial
  | d + 1, l, m, h => ⟨fun i a ha => by
      obtain ⟨j, h1, h2, h3⟩ := h.1 i a ha
      exact ⟨j, h1, h2.less, h3.less⟩, fun i a ha => by
      obtain ⟨j, h1, h2, h3⟩ := h.2 i a ha
      exact ⟨j, h1, h2.less, h3.less⟩⟩
theorem Alike.mono {d e : Nat} (h : e ≤ d) {l m : LRow} (k : Alike d l m) : Alike e l m := by
  induction d with
  | zero => rw [Nat.le_zero.mp h]; trivial
  | succ d ih =>
    by_cases he : e = d + 1
    · rw [he]
      exact k
    · exact ih (by omega) k.less
theorem half_app {d : Nat} {a b x y : LRow} (ih : ∀ {a b x y : LRow}, Alike d a b → Alike d x y → Alike d (a ++ x) (b ++ y)) (h1 : Alike (d + 1) a b) (h2 : Alike (d + 1) x y) (i t : Nat) (ht : (a ++ x)[i]? = some t) :
    ∃ j, (b ++ y)[j]? = some t ∧ Alike d ((a ++ x).take i) ((b ++ y).take j) ∧ Alike d ((a ++ x).drop (i + 1)) ((b ++ y).drop (j + 1)) := by
  by_cases hi : i < a.length
  · rw [List.getElem?_append_left hi] at ht
    obtain ⟨j, q1, q2, q3⟩ := h1.1 i t ht
    have hj := (List.getElem?_eq_some_iff.mp q1).1
    refine ⟨j, by rw [List.getElem?_append_left hj]; exact q1, ?_, ?_⟩
    · rw [List.take_append_of_le_length (by omega), List.take_append_of_le_length (by omega)]
      exact q2
    · rw [List.drop_append_of_le_length (by omega), List.drop_append_of_le_length (by omega)]
      exact ih q3 h2.less
  · rw [List.getElem?_append_right (by omega)] at ht
    obtain ⟨j, q1, q2, q3⟩ := h2.1 _ t ht
    refine ⟨b.length + j, by rw [List.getElem?_append_right (by omega), Nat.add_sub_cancel_left]; exact q1, ?_, ?_⟩
    · rw [List.take_append, List.take_append, List.take_of_length_le (show a.length ≤ i by omega), List.take_of_length_le (show b.length ≤ b.length + j by omega), Nat.add_sub_cancel_left]
      exact ih h1.less q2
    · rw [List.drop_append, List.drop_append, List.drop_of_length_le (show a.length ≤ i + 1 by omega), List.drop_of_length_le (show b.length ≤ b.length + j + 1 by omega), List.nil_append, List.nil_append, show i + 1 - a.length = i - a.length + 1 by omega, show b.length + j + 1 - b.length = j + 1 by omega]
      exact q3
theorem Alike.app : ∀ {d : Nat} {a b x y : LRow}, Alike d a b → Alike d x y → Alike d (a ++ x) (b ++ y)
  | 0, _, _, _, _, _, _ => trivial
  | _ + 1, _, _, _, _, h1, h2 => ⟨fun i t ht => half_app (fun p q => Alike.app p q) h1 h2 i t ht, fun i t ht => half_app (fun p q => Alike.app p q) h1.symm h2.symm i t ht⟩
theorem half_map {f : Nat → Nat} {d : Nat} {l m : LRow} (ih : ∀ {l m : LRow}, Alike d l m → Alike d (l.map f) (m.map f)) (h : Alike (d + 1) l m) (i t : Nat) (ht : (l.map f)[i]? = some t) :
    ∃ j, (m.map f)[j]? = some t ∧ Alike d ((l.map f).take i) ((m.map f).take j) ∧ Alike d ((l.map f).drop (i + 1)) ((m.map f).drop (j + 1)) := by
  rw [List.getElem?_map] at ht
  cases e : l[i]? with
  | none => rw [e] at ht; cases ht
  | some a =>
    rw [e] at ht
    obtain ⟨j, q1, q2, q3⟩ := h.1 i a e
    refine ⟨j, by rw [List.getElem?_map, q1]; exact ht, ?_, ?_⟩
    · rw [← List.map_take, ← List.map_take]
      exact ih q2
    · rw [← List.map_drop, ← List.map_drop]
      exact ih q3
theorem Alike.map (f : Nat → Nat) : ∀ {d : Nat} {l m : LRow}, Alike d l m → Alike d (l.map f) (m.map f)
  | 0, _, _, _ => trivial
  | _ + 1, _, _, h => ⟨fun i t ht => half_map (fun p => Alike.map f p) h i t ht, fun i t ht => half_map (fun p => Alike.map f p) h.symm i t ht⟩
/-- so many times -/
def rep (w : LRow) (n : Nat) : LRow := (List.replicate n w).flatten
theorem rep_len (w : LRow) (n : Nat) : (rep w n).length = n * w.length := by
  unfold rep
  rw [List.length_flatten, List.map_replicate, List.sum_replicate_nat]
theorem rep_add (w : LRow) (m n : Nat) : rep w (m + n) = rep w m ++ rep w n := by
  unfold rep
  rw [← List.replicate_append_replicate, List.flatten_append]
theorem rep_one (w : LRow) : rep w 1 = w := by simp [rep]
/-- a place of a repeat: how often ahead of it -/
theorem rep_split (w : LRow) (m q : Nat) (h : q < m) : rep w m = rep w q ++ (w ++ rep w (m - 1 - q)) := by
  have e : m = q + (1 + (m - 1 - q)) := by omega
  conv => lhs; rw [e]
  rw [rep_add, rep_add, rep_one]
theorem rep_at (w : LRow) (m i t : Nat) (h : (rep w m)[i]? = some t) : ∃ q r, q < m ∧ w[r]? = some t ∧ (rep w m).take i = rep w q ++ w.take r ∧ (rep w m).drop (i + 1) = w.drop (r + 1) ++ rep w (m - 1 - q) ∧ i = q * w.length + r := by
  have hi := (List.getElem?_eq_some_iff.mp h).1
  rw [rep_len] at hi
  have hw : 0 < w.length := Nat.pos_of_ne_zero fun z => by rw [z, Nat.mul_zero] at hi; omega
  have hq : i / w.length < m := Nat.div_lt_of_lt_mul (by rw [Nat.mul_comm]; exact hi)
  have hr := Nat.mod_lt i hw
  have ei : i = i / w.length * w.length + i % w.length := by rw [Nat.mul_comm]; exact (Nat.div_add_mod i w.length).symm
  have hs := rep_split w m _ hq
  have hl := rep_len w (i / w.length)
  refine ⟨i / w.length, i % w.length, hq, ?_, ?_, ?_, ei⟩
  · rw [hs, List.getElem?_append_right (by omega), hl, show i - i / w.length * w.length = i % w.length by omega, List.getElem?_append_left hr] at h
    exact h
  · rw [hs, List.take_append, List.take_of_length_le (by omega), hl, show i - i / w.length * w.length = i % w.length by omega, List.take_append_of_le_length (by omega)]
  · rw [hs, List.drop_append, List.drop_of_length_le (by omega), hl, show i + 1 - i / w.length * w.length = i % w.length + 1 by omega, List.nil_append, List.drop_append_of_le_length (by omega)]
theorem rep_get (w : LRow) (n q r t : Nat) (hq : q < n) (hr : w[r]? = some t) : ∃ j, (rep w n)[j]? = some t ∧ (rep w n).take j = rep w q ++ w.take r ∧ (rep w n).drop (j + 1) = w.drop (r + 1) ++ rep w (n - 1 - q) := by
  have hs := rep_split w n q hq
  have hl := rep_len w q
  have hrl := (List.getElem?_eq_some_iff.mp hr).1
  refine ⟨q * w.length + r, ?_, ?_, ?_⟩
  · rw [hs, List.getElem?_append_right (by omega), hl, Nat.add_sub_cancel_left, List.getElem?_append_left hrl]
    exact hr
  · rw [hs, List.take_append, List.take_of_length_le (by omega), hl, Nat.add_sub_cancel_left, List.take_append_of_le_length (by omega)]
  · rw [hs, List.drop_append, List.drop_of_length_le (by omega), hl, show q * w.length + r + 1 - q * w.length = r + 1 by omega, List.nil_append, List.drop_append_of_le_length (by omega)]
/-- equal times, or both great -/
def Enough (d m n : Nat) : Prop := m = n ∨ (2 ^ d - 1 ≤ m ∧ 2 ^ d - 1 ≤ n)
theorem two_pow (d : Nat) : 2 ^ (d + 1) - 1 = 2 * (2 ^ d - 1) + 1 := by
  have := Nat.one_le_two_pow (n := d)
  rw [Nat.pow_succ]
  omega
/-- the answer's number of repeats ahead -/
theorem enough_step {d m n q : Nat} (h : Enough (d + 1) m n) (hq : q < m) : ∃ q', q' < n ∧ Enough d q q' ∧ Enough d (m - 1 - q) (n - 1 - q') := by
  rcases h with rfl | ⟨h1, h2⟩
  · exact ⟨q, hq, .inl rfl, .inl rfl⟩
  · rw [two_pow] at h1 h2
    unfold Enough
    generalize 2 ^ d - 1 = t at h1 h2 ⊢
    by_cases a : q < t
    · exact ⟨q, by omega, .inl rfl, .inr ⟨by omega, by omega⟩⟩
    · by_cases b : m - 1 - q < t
      · exact ⟨n - 1 - (m - 1 - q), by omega, .inr ⟨by omega, by omega⟩, .inl (by omega)⟩
      · exact ⟨t, by omega, .inr ⟨by omega, by omega⟩, .inr ⟨by omega, by omega⟩⟩
theorem half_rep {w : LRow} {d m n : Nat} (ih : ∀ {m n : Nat}, Enough d m n → Alike d (rep w m) (rep w n)) (h : Enough (d + 1) m n) (i t : Nat) (ht : (rep w m)[i]? = some t) :
    ∃ j, (rep w n)[j]? = some t ∧ Alike d ((rep w m).take i) ((rep w n).take j) ∧ Alike d ((rep w m).drop (i + 1)) ((rep w n).drop (j + 1)) := by
  obtain ⟨q, r, hq, hr, e1, e2, _⟩ := rep_at w m i t ht
  obtain ⟨q', hq', n1, n2⟩ := enough_step h hq
  obtain ⟨j, hj, f1, f2⟩ := rep_get w n q' r t hq' hr
  refine ⟨j, hj, ?_, ?_⟩
  · rw [e1, f1]
    exact (ih n1).app (Alike.refl _ _)
  · rw [e2, f2]
    exact (Alike.refl _ _).app (ih n2)
theorem alike_rep (w : LRow) : ∀ {d m n : Nat}, Enough d m n → Alike d (rep w m) (rep w n)
  | 0, _, _, _ => trivial
  | _ + 1, _, _, h => ⟨fun i t ht => half_rep (fun p => alike_rep w p) h i t ht, fun i t ht => half_rep (fun p => alike_rep w p) (by rcases h with h | h; exact .inl h.symm; exact .inr ⟨h.2, h.1⟩) i t ht⟩
open PySem PySem.Spec PyProof.Rows L2 in
theorem repS_row (l : LRow) (n : Nat) : repS (rowS l) ((n : Nat) : Int) = rowS (rep l n) := by
  unfold repS rep rowS
  rw [Int.toNat_natCast]
open PySem in
/-- a drawn row, as a list of letters -/
theorem RowIn.row {A : List Nat} {n : Nat} {x : Str} (h : RowIn A n x) : ∃ l : LRow, x = rowS l ∧ (∀ a ∈ l, a ∈ A) ∧ l.length ≤ n := ⟨x.cps.toList, rowS_of x, h.1, by have := h.2; simpa [PySem.Str.length] using this⟩
end DL
/-! DLy: the place of a text in a text -/
namespace DL
open PySem PySem.Spec PyProof.Rows L2
section
variable {c : Ct} {G : List Sl} {s : c.S} {P : Sl → c.S → Prop}
theorem dl_row {l : LRow} (hl : l.length ≤ 1000000) (k : P (.dat (.int l.length)) s) : DCB c (qLen c.K) [.str (rowS l)] G s P := dl_str (by rw [rowS_len]; exact hl) (by rw [rowS_len]; exact k)
end
end DL
/-! DLz: unlike rows are parted; the least depth that parts -/
namespace DL
open PySem PySem.Spec PyProof.Rows L2
/-- d is the least depth that parts the rows -/
def Parts (d : Nat) (l m : LRow) : Prop := ¬ Alike d l m ∧ ∀ e, e < d → Alike e l m
theorem Parts.one {d e : Nat} {l m : LRow} (h : Parts d l m) (k : Parts e l m) : d = e := by
  rcases Nat.lt_trichotomy d e with q | q | q
  · exact absurd (k.2 d q) h.1
  · exact q
  · exact absurd (h.2 e q) k.1
theorem Parts.pos {d : Nat} {l m : LRow} (h : Parts d l m) : 1 ≤ d := by
  cases d with
  | zero => exact absurd trivial h.1
  | succ d => omega
theorem Parts.symm {d : Nat} {l m : LRow} (h : Parts d l m) : Parts d m l := ⟨fun z => h.1 z.symm, fun e he => (h.2 e he).symm⟩
abbrev partingS : FSpec := fun ds P _ => ∃ (l m : LRow), ds = [.str (rowS l), .str (rowS m)] ∧ Letters l ∧ Letters m ∧ l.length ≤ 60 ∧ m.length ≤ 60 ∧ (l = m → P (.dat .non)) ∧ ∀ d : Nat, l ≠ m → d ≤ 6 → Parts d l m → P (.dat (.int ((d : Nat) : Int)))
end DL
/-! DMa: a dict with nested keys: in, not in, d[k], d[k] = v; as a ground of its own -/
namespace DL
open PySem PySem.Spec PyProof.Rows L2
/-- what the dict at d holds at the key k that stands at a -/
def NDat (P : Program) (w : World) (K : PySem.W.Frag) (H : Hp) (x y : V) (xs : NDs) (k : D) : Prop := ∃ d a, x = .ref d ∧ y = .ref a ∧ H d = some (ndO P w d xs) ∧ NdK K H xs ∧ Rep K H (.ref a) k ∧ k.keyable = true ∧ k.nk.depth ≤ 8
def tNNotIn (P : Program) (w : World) (K : PySem.W.Frag) (ty td : TE) : TE := fun σ H Q => ty σ H fun y H1 => td σ H1 fun x H2 => ∃ xs k, NDat P w K H2 x y xs k ∧ Q (.bl (!(ndAt xs k).isSome)) H2
def tNGet (P : Program) (w : World) (K : PySem.W.Frag) (td ty : TE) : TE := fun σ H Q => td σ H fun x H1 => ty σ H1 fun y H2 => ∃ xs k v, NDat P w K H2 x y xs k ∧ ndAt xs k = some v ∧ Q v H2
def sNPut (P : Program) (w : World) (K : PySem.W.Frag) (td ty tv : TE) : TS := fun D σ H => tv σ H fun v H1 => td σ H1 fun x H2 => ty σ H2 fun y H3 => ∃ xs k d a, x = .ref d ∧ y = .ref a ∧ NDat P w K H3 x y xs k ∧ xs.length < 1000000 ∧ D.nx σ (upd H3 d (ndO P w d (ndPut xs k a v)))
section
variable {X : Cx} {K : PySem.W.Frag} {o i value : Expr} {td ty tv : TE} {pos pos' : Pos} {pins : List (Addr × Obj)} {σ : L2.St} {H : Hp} {s : Shared}
theorem nd_at {x y : V} {u v : Value} {xs : NDs} {k : D} (I : Inv X pins σ H s) (g : NDat X.prog X.w X.K H x y xs k) (rx : RelV x u) (ry : RelV y v) : ∃ d a, x = .ref d ∧ y = .ref a ∧ u = .ref d ∧ v = .ref a ∧ H d = some (ndO X.prog X.w d xs) ∧ (d == sysModules) = false ∧ (nestedKind X.prog X.w).is s.heap k.nk a ∧ s.TypeIs (.ref d) "dict" ∧ ∃ us : List (NestedKey × Addr × Value),
    Paired (fun (p : D × Addr × V) (q : NestedKey × Addr × Value) => p.1.nk = q.1 ∧ p.2.1 = q.2.1 ∧ RelV p.2.2 q.2.2) xs us ∧ s.heap.DictOfH (nestedKind X.prog X.w) d us ∧
    ((ndAt xs k = none ∧ atKey us k.nk = none) ∨ ∃ y b u, ndAt xs k = some y ∧ atKey us k.nk = some (b, u) ∧ RelV y u) := by
  obtain ⟨d, a, rfl, rfl, hd, hk, rk, kk, kd⟩ := g
  cases rx
  cases ry
  obtain ⟨hsys, us, pr, dh⟩ := nd_of I hd hk
  have key := atKey_of (us := us) k.nk pr
  refine ⟨d, a, rfl, rfl, rfl, rfl, hd, hsys, ⟨nested_of I rk kk rfl, kd⟩, dh.typeIs, us, pr, dh, ?_⟩
  unfold ndAt
  cases e : xs.find? fun x => decide (x.1.nk = k.nk) with
  | none =>
    rw [e] at key
    exact .inl ⟨rfl, key⟩
  | some x =>
    rw [e] at key
    obtain ⟨u, h1, h2⟩ := key
    exact .inr ⟨x.2.2, x.2.1, u, rfl, h1, h2⟩
theorem pc_nnotin (hu : X.A.units + 64 < cLine) (hK : X.K = K) (hi : PE X i ty) (ho : PE X o td) : PC X .NotIn i o (tNNotIn X.prog X.w K ty td) := by
  subst hK
  refine ⟨fun pins s σ H Q I h => ?_⟩
  refine thn (hi.run pins s σ H _ I h) fun iv s1 ⟨y, H1, I1, ry, q1⟩ => thn (ho.run pins s1 σ H1 _ I1 q1) fun u s2 ⟨x, H2, I2, rx, xs, k, g, q2⟩ => ?_
  obtain ⟨d, a, rfl, rfl, rfl, rfl, hd, hs, hk, ht, us, pr, dh, key⟩ := nd_at I2 g rx ry
  refine wpAny_notIn_heap (show X.A.units + 1 + 8 < cLine by omega) hk hs dh ⟨_, H2, I2.tok _, ?_, q2⟩
  rcases key with ⟨h1, h2⟩ | ⟨y, b, u, h1, h2, _⟩ <;> rw [h1, h2] <;> rfl
theorem pe_nget (hu : X.A.units + 64 < cLine) (hK : X.K = K) (ho : PE X o td) (hi : PE X i ty) (hs : NoSl i) : PE X (.Subscript o i pos) (tNGet X.prog X.w K td ty) := by
  subst hK
  refine ⟨fun pins s σ H Q I h => ?_⟩
  refine subD_of PySem.F.slot_dict_getitem.lookup hs (thn (ho.run pins s σ H _ I h) fun u s1 ⟨x, H1, I1, rx, q1⟩ => thn (hi.run pins s1 σ H1 _ I1 q1) fun iv s2 ⟨y, H2, I2, ry, xs, k, v, g, hv, q2⟩ => ?_)
  obtain ⟨d, a, rfl, rfl, rfl, rfl, hd, _, hk, ht, us, pr, dh, key⟩ := nd_at I2 g rx ry
  refine ⟨ht, ?_⟩
  rcases key with ⟨h1, h2⟩ | ⟨y, b, u, h1, h2, r⟩
  · rw [h1] at hv
    cases hv
  · rw [h1] at hv
    cases hv
    exact wpAny_getItem_heap (show X.A.units + 1 + 8 < cLine by omega) hk dh h2 ⟨_, H2, I2.tok _, r, q2⟩
theorem ps_nput (hu : X.A.units + 64 < cLine) (hK : X.K = K) (ho : PE X o td) (hi : PE X i ty) (hv : PE X value tv) (hs : swapsWith value (some (.Subscript o i pos')) pos.line X.env = pure false) :
    PS X (.Assign [.Subscript o i pos'] value pos) (sNPut X.prog X.w K td ty tv) := by
  subst hK
  refine ⟨fun pins s σ H D I h => ?_⟩
  refine wpAny_Assign_Subscript (thn (hv.run pins s σ H _ I h) fun r s1 ⟨v, H1, I1, rv, q1⟩ => thn (ho.run pins s1 σ H1 _ I1 q1) fun u s2 ⟨x, H2, I2, rx, q2⟩ => thn (hi.run pins s2 σ H2 _ I2 q2) fun iv s3 ⟨y, H3, I3, ry, xs, k, d, a, ex, ey, g, hl, q3⟩ => ?_) hs
  subst ex ey
  obtain ⟨d', a', e1, e2, rfl, rfl, hd, hsys, hk, ht, us, pr, dh, key⟩ := nd_at I3 g rx ry
  cases e1
  cases e2
  have hss : sizeLine = 16777216 := sizeLine_eq
  refine wpAny_setItem_heap (hsz := by rw [← Paired.length pr]; omega) (show X.A.units + 1 + 8 < cLine by omega) hk dh fun h2 d2 hs => ?_
  obtain ⟨ob, es, ep, h0, hx, hdat, he, _, hnd⟩ := d2
  refine ⟨σ, _, d_write I3 (by rw [hd]; exact True.intro) hs ⟨ob, h0⟩ (nd_ok ⟨hsys, _, ?_, hnd, ob, es, ep, h0, hx, hdat, he⟩), q3⟩
  unfold ndPut
  rcases key with ⟨h1, h2⟩ | ⟨y, b, u, h1, h2, r⟩
  · rw [h1, storedH_new h2]
    exact paired_snoc ⟨rfl, rfl, rv⟩ pr
  · rw [h1, storedH_old h2]
    show Paired _ (if true = true then _ else _) _
    rw [if_pos rfl]
    refine paired_map (fun p q hpq => ?_) pr
    obtain ⟨q1, q2, q3⟩ := hpq
    unfold putAt
    by_cases hk : p.1.nk = k.nk
    · have hq : q.1 = k.nk := q1 ▸ hk
      rw [if_pos hk, if_pos hq]
      first | exact ⟨q1, q2, rv⟩ | exact ⟨hk, q2, rv⟩
    · have hq : ¬ q.1 = k.nk := fun z => hk (q1.trans z)
      rw [if_neg hk, if_neg hq]
      exact ⟨q1, q2, q3⟩
end
end DL
/-! DMb: any object of one's own as a ground beside another; dicts with nested keys -/
namespace DL
open PySem PySem.Spec PyProof.Rows L2
/-- objects with one place -/
structure One (r : Res) : Prop where
  b : ∀ p a, r.B p a ↔ a = p
abbrev besCt (c : Ct) (r : Res) (p : Addr) (h1 : One r) (hn : NewP c p) : Ct where
  K := c.K
  S := c.S × r.S
  R := fun s H0 H => c.R s.1 H0 H ∧ r.R p s.2 H0 H
  B := fun a => c.B a ∨ a = p
  stab := fun s H0 H H0' H' h e k => ⟨c.stab _ _ _ _ _ h.1 e fun a o hb => k a o (.inl hb), r.stab p s.2 H0 H H0' H' h.2 e fun a o hb => k a o (.inr ((h1.b p a).mp hb))⟩
  there := fun s H0 H a h hb => hb.elim (fun hb => c.there _ _ _ _ h.1 hb) fun hb => r.there p s.2 H0 H a h.2 ((h1.b p a).mpr hb)
  E0 := c.E0
  E := c.E
  EX := c.EX
  X := fun C d s => c.X C d s.1
  okX := fun C d s v a H0' H' x e sub k n av rs ha rr => c.okX C d s.1 v a H0' H' x e sub (fun b o hE hb => k b o hE fun z => by
    rcases z with z | z
    · exact hb z
    · rw [z, hn.e] at hE; cases hE) n (fun b hb => av b (.inl hb)) rs.1 ha rr
section
variable {c : Ct} {G : List Sl} {s : c.S} {r : Res} {p : Addr} {h1 : One r} {hn : NewP c p}
theorem onB : CtR (besCt c r p h1 hn) r p Prod.snd (fun s t => (s.1, t)) where
  B := fun a h => .inr ((h1.b p a).mp h)
  R := fun _ _ _ h => h.2
  back := fun s t H0 H H0' H' h av st => ⟨⟨c.stab _ _ _ _ _ h.1 st.ex fun a o hb ho => st.fr a o ho fun z => hn.b ((show a = p from (h1.b p a).mp z) ▸ hb), st.rs⟩, fun a hb => by
    rcases hb with hb | hb
    · exact st.nw a (c.there _ _ _ _ h.1 hb) (av a (.inl hb))
    · exact st.av a ((h1.b p a).mpr hb)⟩
/-- what holds of the ground beneath holds beside it -/
theorem onU {r' : Res} {q : Addr} {to : c.S → r'.S} {put : c.S → r'.S → c.S} (hc : CtR c r' q to put) : CtR (besCt c r p h1 hn) r' q (fun s => to s.1) (fun s t => (put s.1 t, s.2)) where
  B := fun a h => .inl (hc.B a h)
  R := fun s H0 H h => hc.R _ _ _ h.1
  back := fun s t H0 H H0' H' h av st => by
    obtain ⟨b1, b2⟩ := hc.back s.1 t H0 H H0' H' h.1 (fun a hb => av a (.inl hb)) st
    refine ⟨⟨b1, r.stab p s.2 H0 H H0' H' h.2 st.ex fun a o hb ho => st.fr a o ho fun z => hn.b ((h1.b p a).mp hb ▸ hc.B a z)⟩, fun a hb => ?_⟩
    rcases hb with hb | hb
    · exact b2 a hb
    · exact st.nw a (r.there p s.2 H0 H a h.2 ((h1.b p a).mpr hb)) (av a (.inr hb))
end
/-! ### dicts with nested keys -/
abbrev DM := List (D × D)
def dAt (m : DM) (k : D) : Option D := (m.find? fun e => decide (e.1.nk = k.nk)).map (·.2)
def dPut (m : DM) (k v : D) : DM := if (dAt m k).isSome then m.map (fun e => if e.1.nk = k.nk then (e.1, v) else e) else m ++ [(k, v)]
def NdRel (K : PySem.W.Frag) (H0 : Hp) (xs : NDs) (m : DM) : Prop := Paired (fun (x : D × Addr × V) (e : D × D) => x.1 = e.1 ∧ Rep K H0 (.ref x.2.1) x.1 ∧ x.1.keyable = true ∧ x.1.nk.depth ≤ 8 ∧ Rep K H0 x.2.2 e.2) xs m
theorem NdRel.mono {K : PySem.W.Frag} {H0 H0' : Hp} {xs : NDs} {m : DM} (e : Same H0 H0') (h : NdRel K H0 xs m) : NdRel K H0' xs m := Paired.mapP h fun _ _ q => ⟨q.1, q.2.1.mono e, q.2.2.1, q.2.2.2.1, q.2.2.2.2.mono e⟩
theorem NdRel.nk {K : PySem.W.Frag} {H0 H : Hp} {xs : NDs} {m : DM} (e : Same H0 H) (h : NdRel K H0 xs m) : NdK K H xs := by
  induction h with
  | nil => exact fun x hx => by simp at hx
  | cons r t ih =>
    intro x hx
    rcases List.mem_cons.mp hx with rfl | hx
    · exact ⟨r.2.1.mono e, r.2.2.1, r.2.2.2.1⟩
    · exact ih x hx
theorem NdRel.at {K : PySem.W.Frag} {H0 : Hp} (k : D) : ∀ {xs : NDs} {m : DM}, NdRel K H0 xs m → (ndAt xs k = none ∧ dAt m k = none) ∨ ∃ v d, ndAt xs k = some v ∧ dAt m k = some d ∧ Rep K H0 v d
  | _, _, .nil => .inl ⟨rfl, rfl⟩
  | _, _, .cons (a := x) (b := e) r t => by
    obtain ⟨r1, _, _, _, r5⟩ := r
    unfold ndAt dAt
    rw [List.find?_cons, List.find?_cons, ← r1]
    by_cases h : x.1.nk = k.nk
    · rw [decide_eq_true h]
      exact .inr ⟨_, _, rfl, rfl, r5⟩
    · rw [decide_eq_false h]
      exact NdRel.at k t
theorem NdRel.put {K : PySem.W.Frag} {H0 : Hp} {xs : NDs} {m : DM} {k d : D} {a : Addr} {v : V} (h : NdRel K H0 xs m) (rk : Rep K H0 (.ref a) k) (kk : k.keyable = true) (kd : k.nk.depth ≤ 8) (rv : Rep K H0 v d) : NdRel K H0 (ndPut xs k a v) (dPut m k d) := by
  unfold ndPut dPut
  rcases h.at k with ⟨h1, h2⟩ | ⟨v', d', h1, h2, _⟩
  · rw [h1, h2]
    exact paired_snoc ⟨rfl, rk, kk, kd, rv⟩ h
  · rw [h1, h2]
    show NdRel K H0 (if true = true then _ else _) (if true = true then _ else _)
    rw [if_pos rfl, if_pos rfl]
    refine paired_map (fun x e q => ?_) h
    obtain ⟨q1, q2, q3, q4, q5⟩ := q
    by_cases hk : x.1.nk = k.nk
    · have hk2 : e.1.nk = k.nk := q1 ▸ hk
      rw [if_pos hk, if_pos hk2]
      exact ⟨q1, q2, q3, q4, rv⟩
    · have hk2 : ¬ e.1.nk = k.nk := fun z => hk (q1 ▸ z)
      rw [if_neg hk, if_neg hk2]
      exact ⟨q1, q2, q3, q4, q5⟩
abbrev ndRes (Pg : Program) (w : World) (K : PySem.W.Frag) : Res where
  S := DM
  R := fun p m H0 H => ∃ xs, H p = some (ndO Pg w p xs) ∧ NdRel K H0 xs m
  B := fun p a => a = p
  stab := fun p m H0 H H0' H' h e k => by
    obtain ⟨xs, h1, h2⟩ := h
    exact ⟨xs, k _ _ rfl h1, h2.mono e⟩
  there := fun p m H0 H a h e z => by
    subst e
    obtain ⟨_, q, _⟩ := h
    rw [z] at q
    cases q
/-- such a dict as an object of one's own -/
def ndOwn (Pg : Program) (w : World) (K : PySem.W.Frag) (m : DM) : OV := .ob fun p H0 u => ∃ xs, u = ndO Pg w p xs ∧ NdRel K H0 xs m
section
variable {c : Ct} {G : List Sl} {s : c.S} {P : Sl → c.S → Prop} {Pg : Program} {w : World} {p : Addr} {to : c.S → DM} {put : c.S → DM → c.S}
theorem we_dnewN (k : P (.own (ndOwn Pg w c.K [])) s) : WE c (tDNewN Pg w) G s P := fun σ F H0 H g Q q p hp => q _ s _ H0 _ k (g.push hp) (Same.refl _) (g.rok (u := ndO Pg w p []) hp ⟨H0, Same.refl _, [], rfl, .nil⟩)
/-- a key: a tuple of data that may be keys -/
def IsKey (k : D) : Prop := k.keyable = true ∧ k.nk.depth ≤ 8 ∧ ∃ ds, k = .tup ds
theorem key_ref {K : PySem.W.Frag} {H : Hp} {v : V} {k : D} (hk : IsKey k) (r : Rep K H v k) : ∃ a, v = .ref a := by
  obtain ⟨_, _, ds, rfl⟩ := hk
  cases r
  exact ⟨_, rfl⟩
variable (hc : CtR c (ndRes Pg w c.K) p to put)
include hc
theorem nd_dat {σ : L2.St} {F : Frm} {H0 H : Hp} {a : Addr} {k : D} (g : Gd c G s σ F H0 H) (hk : IsKey k) (rk : Rep c.K H0 (.ref a) k) : ∃ xs, H p = some (ndO Pg w p xs) ∧ NdRel c.K H0 xs (to s) ∧ NDat Pg w c.K H (.ref p) (.ref a) xs k := by
  obtain ⟨xs, h1, h2⟩ := hc.R _ _ _ g.gd.rs
  exact ⟨xs, h1, h2, p, a, rfl, rfl, h1, h2.nk g.gd.sub, rk.mono g.gd.sub, hk.1, hk.2.1⟩
theorem we_nnotin {ty td : TE} (h : WE c ty G s (FZ fun k s1 => IsKey k ∧ WE c td G s1 (FZ fun x s2 => x = .ref p ∧ P (.dat (.bl (!(dAt (to s2) k).isSome))) s2))) : WE c (tNNotIn Pg w c.K ty td) G s P := fun σ F H0 H g Q q =>
  h.use g fun k s1 v H1 H1' hp g1 e1 r1 => by
    obtain ⟨hk, hp⟩ := hp
    obtain ⟨a, rfl⟩ := key_ref hk r1
    refine hp.use g1 fun x s2 v H2 H2' hp g2 e2 r2 => ?_
    obtain ⟨rfl, hp⟩ := hp
    cases r2
    obtain ⟨xs, h1, h2, hd⟩ := nd_dat hc g2 hk (r1.mono e2)
    refine ⟨xs, k, hd, ?_⟩
    have : (ndAt xs k).isSome = (dAt (to s2) k).isSome := by rcases h2.at k with ⟨a, b⟩ | ⟨v, d, a, b, _⟩ <;> rw [a, b] <;> rfl
    rw [this]
    exact q _ s2 _ H2 H2' hp g2 (e1.trans e2) (.bl _)
theorem we_nget {ty td : TE} (h : WE c td G s (FZ fun x s1 => x = .ref p ∧ WE c ty G s1 (FZ fun k s2 => IsKey k ∧ ∃ d, dAt (to s2) k = some d ∧ P (.dat d) s2))) : WE c (tNGet Pg w c.K td ty) G s P := fun σ F H0 H g Q q =>
  h.use g fun x s1 v H1 H1' hp g1 e1 r1 => by
    obtain ⟨rfl, hp⟩ := hp
    cases r1
    refine hp.use g1 fun k s2 v H2 H2' hp g2 e2 r2 => ?_
    obtain ⟨hk, d, hd, hp⟩ := hp
    obtain ⟨a, rfl⟩ := key_ref hk r2
    obtain ⟨xs, h1, h2, hn⟩ := nd_dat hc g2 hk r2
    rcases h2.at k with ⟨a1, b1⟩ | ⟨v, d', a1, b1, rv⟩
    · rw [b1] at hd
      cases hd
    · rw [b1] at hd
      cases hd
      exact ⟨xs, k, v, hn, a1, q _ s2 _ H2 H2' hp g2 (e1.trans e2) rv⟩
theorem ws_nput {P : Ds c.S} {td ty tv : TE} (h : WE c tv G s (FZ fun d s1 => WE c td G s1 (FZ fun x s2 => x = .ref p ∧ WE c ty G s2 (FZ fun k s3 => IsKey k ∧ (to s3).length < 1000000 ∧ P.nx G (put s3 (dPut (to s3) k d)))))) : WS c (sNPut Pg w c.K td ty tv) G s P := fun σ H0 H gd D e =>
  h.use (Gd.of gd) fun d s1 v H1 H1' hp g1 e1 r1 => hp.use g1 fun x s2 u H2 H2' hp g2 e2 r2 => by
    obtain ⟨rfl, hp⟩ := hp
    cases r2
    refine hp.use g2 fun k s3 y H3 H3' hp g3 e3 r3 => ?_
    obtain ⟨hk, hl, hp⟩ := hp
    obtain ⟨a, rfl⟩ := key_ref hk r3
    obtain ⟨xs, h1, h2, hn⟩ := nd_dat hc g3 hk r3
    have el := Paired.length h2
    refine ⟨xs, k, p, a, rfl, rfl, hn, by omega, ?_⟩
    have np : H3 p = none := g3.gd.av p (hc.B p rfl)
    have st : Step ((ndRes Pg w c.K).R p) ((ndRes Pg w c.K).B p) (dPut (to s3) k d) H3 H3' H3 (upd H3' p (ndO Pg w p (ndPut xs k a v))) := by
      refine ⟨Same.refl _, fun b o h => ?_, fun b o h hb => ?_, fun _ _ h => h, fun b hb => ?_, _, upd_same, h2.put r3 hk.1 hk.2.1 ((r1.mono e2).mono e3)⟩
      · rw [upd_ne (ne_of_none h np)]
        exact g3.gd.sub _ _ h
      · rw [upd_ne hb]
        exact h
      · rw [show b = p from hb]
        exact np
    have bk := hc.back s3 _ _ _ _ _ g3.gd.rs g3.gd.av st
    have g5 : Gd c G (put s3 (dPut (to s3) k d)) σ ([], []) H3 (upd H3' p (ndO Pg w p (ndPut xs k a v))) :=
      ⟨g3.ln, g3.gd.go st.ex st.sub bk.2 (fun b o h hb => st.fr b o h fun z => hb (hc.B b z)) st.nw bk.1⟩
    exact e.nx G _ σ _ _ hp g5.to ((e1.trans e2).trans e3) rfl
end
end DL
/-! DMc: sorted(list of tuples (int, text, int)) -/
namespace DL
open PySem PySem.Spec PyProof.Rows L2
end DL
/-! DMd: defs on an object that is any of their arguments; kinds by a dict of rows and members -/
namespace DL
open PySem PySem.Spec PyProof.Rows L2
def ResSpX (K : PySem.W.Frag) (r : Res) (f : RSpec r) : Sp := fun vs H Q E => ∃ p ds s P XP, f p ds s P XP ∧ SpOf K (r.R p) (r.B p) ds s P XP vs H Q E
theorem we_callX {c : Ct} {G : List Sl} {s : c.S} {P : Sl → c.S → Prop} {r : Res} {f : RSpec r} {E : XK} {ta : TA} {p : Addr} {to : c.S → r.S} {put : c.S → r.S → c.S} (hc : CtR c r p to put)
    (h : WA c ta G s fun ds s1 => f p ds (to s1) (fun x s2 => P x (put s1 s2)) (fun _ _ _ => False)) : WE c (tCall (ResSpX c.K r f) [] E ta) G s P := fun σ F H0 H g Q q =>
  h σ F H0 H g _ fun ds s1 vs H1 H1' hf g1 e1 r1 => by
    have gg : ∀ s2 H2 H2', Step (r.R p) (r.B p) s2 H1 H1' H2 H2' → Gd c G (put s1 s2) σ F H2 H2' := fun s2 H2 H2' t =>
      ⟨g1.ln, g1.gd.go t.ex t.sub (hc.back s1 s2 _ _ _ _ g1.gd.rs g1.gd.av t).2 (fun a o h hb => t.fr a o h fun z => hb (hc.B a z)) t.nw (hc.back s1 s2 _ _ _ _ g1.gd.rs g1.gd.av t).1⟩
    refine ⟨p, ds, to s1, _, _, hf, H1, g1.gd.sub, fun a hb => g1.gd.av a (hc.B a hb), by rw [List.append_nil]; exact r1, hc.R _ _ _ g1.gd.rs, fun x s2 v H2 H2' hp t rr => ?_, fun C d s2 v a H2 H2' hp t ha rr => hp.elim⟩
    refine q x _ v H2 H2' hp (gg s2 H2 H2' t) (e1.trans t.ex) ?_
    cases x with
    | un => trivial
    | dat d => exact rr
    | own w =>
      obtain ⟨a, rfl, n0, n1, nb, u, hu, k⟩ := rr
      obtain ⟨n2, n3, n4⟩ := g1.gd.newE n1
      exact ⟨a, rfl, ⟨n0, n2, n3, u, hu, k⟩, g1.gd.apart n1⟩
theorem resC {K : PySem.W.Frag} {r : Res} {p : Addr} {H0 H : Hp} {E : XK} {XP : Addr → D → r.S → Prop} {okX} : CtR (resCt K r p H0 H E XP okX) r p (fun s => s) (fun _ t => t) where
  B := fun _ h => h
  R := fun _ _ _ h => h
  back := fun _ _ _ _ _ _ _ _ t => ⟨t.rs, t.av⟩
/-! ### the plain law -/
theorem dAt_put (m : DM) (k k' v : D) : dAt (dPut m k v) k' = if k'.nk = k.nk then some v else dAt m k' := by
  unfold dPut
  by_cases hs : (dAt m k).isSome
  · rw [if_pos hs]
    unfold dAt at hs ⊢
    induction m with
    | nil => cases hs
    | cons e m ih =>
      rw [List.map_cons, List.find?_cons, List.find?_cons]
      rw [List.find?_cons] at hs
      by_cases he : e.1.nk = k.nk
      · rw [if_pos he]
        by_cases hk : k'.nk = k.nk
        · rw [if_pos hk]
          show Option.map _ (match decide (e.1.nk = k'.nk) with | true => _ | false => _) = _
          rw [decide_eq_true (he.trans hk.symm)]
          rfl
        · rw [if_neg hk]
          have h2 : ¬ e.1.nk = k'.nk := fun z => hk (z.symm.trans he)
          show Option.map _ (match decide (e.1.nk = k'.nk) with | true => _ | false => _) = _
          rw [decide_eq_false h2]
          show Option.map _ (List.find? _ (List.map _ m)) = Option.map _ (List.find? _ m)
          have : ∀ m : DM, List.find? (fun e => decide (e.1.nk = k'.nk)) (List.map (fun e => if e.1.nk = k.nk then (e.1, v) else e) m) = List.find? (fun e => decide (e.1.nk = k'.nk)) m := by
            intro m
            induction m with
            | nil => rfl
            | cons f m ih =>
              rw [List.map_cons, List.find?_cons, List.find?_cons, ih]
              by_cases hf : f.1.nk = k.nk
              · rw [if_pos hf]
                have h3 : ¬ f.1.nk = k'.nk := fun z => hk (z.symm.trans hf)
                show (match decide (f.1.nk = k'.nk) with | true => _ | false => _) = _
                rw [decide_eq_false h3]
              · rw [if_neg hf]
          rw [this m]
      · rw [if_neg he]
        rw [decide_eq_false he] at hs
        have ih := ih hs
        by_cases h2 : e.1.nk = k'.nk
        · rw [decide_eq_true h2]
          rw [if_neg fun z => he (h2.trans z)]
        · rw [decide_eq_false h2]
          exact ih
  · rw [if_neg hs]
    unfold dAt at hs ⊢
    rw [List.find?_append]
    by_cases hk : k'.nk = k.nk
    · rw [if_pos hk]
      have hn : List.find? (fun e => decide (e.1.nk = k'.nk)) m = none := by
        rw [hk]
        cases h : List.find? (fun e => decide (e.1.nk = k.nk)) m with
        | none => rfl
        | some x => rw [h] at hs; exact absurd rfl hs
      rw [hn, Option.none_or, List.find?_cons]
      show Option.map _ (match decide (k.nk = k'.nk) with | true => _ | false => _) = _
      rw [decide_eq_true hk.symm]
      rfl
    · rw [if_neg hk]
      cases h : List.find? (fun e => decide (e.1.nk = k'.nk)) m with
      | some x => rfl
      | none =>
        rw [Option.none_or, List.find?_cons]
        show Option.map _ (match decide (k.nk = k'.nk) with | true => _ | false => _) = _
        rw [decide_eq_false (fun z => hk z.symm)]
        rfl
theorem dPut_len (m : DM) (k v : D) : (dPut m k v).length = if (dAt m k).isSome then m.length else m.length + 1 := by
  unfold dPut
  split
  · rw [List.length_map]
  · simp
/-- the keys of the law's dict -/
def lkey (l : LRow) (d : Nat) : D := .tup [.str (rowS l), .int ((d : Nat) : Int)]
def mkey (cs : List M3) : D := .tup [.str (PySem.Str.ofString ""), .tup (cs.map m3D)]
theorem lkey_ok (l : LRow) (d : Nat) : IsKey (lkey l d) := ⟨rfl, by show (1 : Nat) ≤ 8; decide, _, rfl⟩
theorem mkey_able (cs : List M3) : (mkey cs).keyable = true := by
  have := keyD_keyable cs
  show (true && (D.keyable (keyD cs) && true)) = true
  rw [this]
  rfl
theorem lkey_inj {l l' : LRow} {d d' : Nat} : (lkey l d).nk = (lkey l' d').nk ↔ (l, d) = (l', d') := by
  constructor
  · intro h
    have h := D.nk_inj (lkey_ok l d).1 (lkey_ok l' d').1 h
    simp only [lkey, D.tup.injEq, List.cons.injEq, D.str.injEq, D.int.injEq, and_true] at h
    rw [rowS_inj h.1, show d = d' by omega]
  · intro h
    cases h
    rfl
theorem mkey_inj {a b : List M3} : (mkey a).nk = (mkey b).nk ↔ a = b := by
  constructor
  · intro h
    have h := D.nk_inj (mkey_able a) (mkey_able b) h
    simp only [mkey, D.tup.injEq, List.cons.injEq, and_true, true_and] at h
    exact keyD_inj (congrArg D.tup h)
  · intro h
    rw [h]
theorem lm_ne (l : LRow) (d : Nat) (cs : List M3) : ¬ (lkey l d).nk = (mkey cs).nk := fun h => by
  have h := D.nk_inj (lkey_ok l d).1 (mkey_able cs) h
  simp only [lkey, mkey, D.tup.injEq, List.cons.injEq, and_true] at h
  exact nomatch h.2
/-- n is the kind of the row to the depth, by the dict m -/
def Kd2 (m : DM) : Nat → LRow → Int → Prop
  | 0, _, n => n = 0
  | d + 1, l, n => ∃ ms : List M3, Mem3 (Kd2 m d) l ms ∧ dAt m (mkey (canonS ms)) = some (.int n)
def Ext (m m' : DM) : Prop := ∀ (cs : List M3) (v : D), dAt m (mkey cs) = some v → dAt m' (mkey cs) = some v
theorem Ext.refl (m : DM) : Ext m m := fun _ _ h => h
theorem Ext.trans {a b c : DM} (h : Ext a b) (k : Ext b c) : Ext a c := fun cs v q => k cs v (h cs v q)
theorem Kd2.mono {m m' : DM} (h : Ext m m') : ∀ {d : Nat} {l : LRow} {n : Int}, Kd2 m d l n → Kd2 m' d l n
  | 0, _, _, e => e
  | _ + 1, _, _, ⟨ms, q, e⟩ => ⟨ms, q.mono fun _ _ q => Kd2.mono h q, h _ _ e⟩
/-- members have one number -/
def Inj2 (m : DM) : Prop := ∀ (a b : List M3) (n : Int), dAt m (mkey a) = some (.int n) → dAt m (mkey b) = some (.int n) → a = b
theorem kd2_iff {m : DM} (hj : Inj2 m) : ∀ {d : Nat} {l k : LRow} {x y : Int}, Kd2 m d l x → Kd2 m d k y → (x = y ↔ Alike d l k)
  | 0, l, k, x, y, (hx : x = 0), (hy : y = 0) => by rw [hx, hy]; exact ⟨fun _ => trivial, fun _ => rfl⟩
  | d + 1, l, k, x, y, ⟨ms, hm, ex⟩, ⟨ns, hn', ey⟩ => by
    have e1 : x = y ↔ canonS ms = canonS ns := by
      constructor
      · intro e
        subst e
        exact hj _ _ _ ex ey
      · intro e
        rw [e, ey] at ex
        cases ex
        rfl
    rw [e1, canonS_iff]
    have half : ∀ {l k : LRow} {ms ns : List M3}, Mem3 (Kd2 m d) l ms → Mem3 (Kd2 m d) k ns → ((∀ q, q ∈ ms → q ∈ ns) ↔ ∀ (i a : Nat), l[i]? = some a → ∃ j, k[j]? = some a ∧ Alike d (l.take i) (k.take j) ∧ Alike d (l.drop (i + 1)) (k.drop (j + 1))) := by
      intro l k ms ns hm hn'
      constructor
      · intro h i a ha
        obtain ⟨u, v, q1, q2, q3⟩ := hm.2 i a ha
        have q := h _ (List.mem_of_getElem? q1)
        obtain ⟨j, hj2⟩ := List.mem_iff_getElem?.mp q
        obtain ⟨b, hb, e, k1, k2⟩ := hn'.at hj2
        have hab : a = b := str1_inj e
        subst hab
        exact ⟨j, hb, (kd2_iff hj q2 k1).mp rfl, (kd2_iff hj q3 k2).mp rfl⟩
      · intro h q hq
        obtain ⟨i, hi⟩ := List.mem_iff_getElem?.mp hq
        obtain ⟨a, ha, e, k1, k2⟩ := hm.at hi
        obtain ⟨j, hj2, a1, a2⟩ := h i a ha
        obtain ⟨u, v, q1, q2, q3⟩ := hn'.2 j a hj2
        have e1 := (kd2_iff hj k1 q2).mpr a1
        have e2 := (kd2_iff hj k2 q3).mpr a2
        have : q = (u, ⟨#[a]⟩, v) := by
          obtain ⟨q0, q1, q2⟩ := q
          simp only at e e1 e2
          rw [e, e1, e2]
        rw [this]
        exact List.mem_of_getElem? q1
    show _ ↔ _ ∧ _
    rw [← half hm hn', ← half hn' hm]
    exact ⟨fun h => ⟨fun q => (h q).mp, fun q => (h q).mpr⟩, fun h q => ⟨h.1 q, h.2 q⟩⟩
/-- what holds of the law's dict; U: all that may ever be asked for -/
structure KInv2 (U : List (LRow × Nat)) (m : DM) : Prop where
  len : U.length < 400000
  inj : Inj2 m
  bnd : ∀ (k v : D), dAt m k = some v → ∃ n : Nat, v = .int ((n : Nat) : Int) ∧ n < m.length
  val : ∀ (l : LRow) (d : Nat) (v : D), dAt m (lkey l d) = some v → ∃ n : Int, v = .int n ∧ Kd2 m d l n
  few : ∃ L : List (LRow × Nat), L.Nodup ∧ (∀ x ∈ L, x ∈ U) ∧ m.length ≤ 2 * L.length ∧ ∀ x ∈ L, (dAt m (lkey x.1 x.2)).isSome
theorem KInv2.size {U : List (LRow × Nat)} {m : DM} (h : KInv2 U m) : m.length < 800000 := by
  obtain ⟨L, h1, h2, h3, _⟩ := h.few
  have := nodup_len h1 h2
  have := h.len
  omega
theorem KInv2.empty {U : List (LRow × Nat)} (h : U.length < 400000) : KInv2 U [] := ⟨h, fun _ _ _ h => (by simp [dAt] at h), fun _ _ h => (by simp [dAt] at h), fun _ _ _ h => (by simp [dAt] at h), [], List.nodup_nil, fun _ h => by simp at h, Nat.le_refl _, fun _ h => by simp at h⟩
theorem Kd2.one {m : DM} (hj : Inj2 m) {d : Nat} {l : LRow} {x y : Int} (h : Kd2 m d l x) (k : Kd2 m d l y) : x = y := (kd2_iff hj h k).mpr (Alike.refl _ _)
theorem Mem3.one {f : LRow → Int → Prop} (hf : ∀ l x y, f l x → f l y → x = y) {l : LRow} {a b : List M3} (ha : Mem3 f l a) (hb : Mem3 f l b) : a = b := by
  apply List.ext_getElem?
  intro i
  cases h : l[i]? with
  | none =>
    have hi := List.getElem?_eq_none_iff.mp h
    rw [List.getElem?_eq_none (by rw [ha.1]; exact hi), List.getElem?_eq_none (by rw [hb.1]; exact hi)]
  | some c =>
    obtain ⟨x, y, q1, q2, q3⟩ := ha.2 i c h
    obtain ⟨x', y', p1, p2, p3⟩ := hb.2 i c h
    rw [q1, p1, hf _ _ _ q2 p2, hf _ _ _ q3 p3]
/-- the dict behind a new kind -/
def kdPut (m : DM) (l : LRow) (d : Nat) (cs : List M3) : DM :=
  let m1 := if (dAt m (mkey cs)).isSome then m else dPut m (mkey cs) (.int ((m.length : Nat) : Int))
  dPut m1 (lkey l d) ((dAt m1 (mkey cs)).getD .non)
theorem KInv2.put {U : List (LRow × Nat)} {m : DM} (h : KInv2 U m) {l : LRow} {d : Nat} (hu : (l, d + 1) ∈ U) {ms : List M3} (hm : Mem3 (Kd2 m d) l ms) :
    ∃ n : Int, KInv2 U (kdPut m l (d + 1) (canonS ms)) ∧ Ext m (kdPut m l (d + 1) (canonS ms)) ∧ Kd2 (kdPut m l (d + 1) (canonS ms)) (d + 1) l n ∧ dAt (kdPut m l (d + 1) (canonS ms)) (lkey l (d + 1)) = some (.int n) := by
  -- the first store
  obtain ⟨m1, hm1, n, hn, hx, hj, hb, hlen, hlk⟩ : ∃ m1, m1 = (if (dAt m (mkey (canonS ms))).isSome then m else dPut m (mkey (canonS ms)) (.int ((m.length : Nat) : Int))) ∧ ∃ n : Nat, dAt m1 (mkey (canonS ms)) = some (.int ((n : Nat) : Int)) ∧ Ext m m1 ∧ Inj2 m1 ∧
      (∀ (k v : D), dAt m1 k = some v → ∃ n : Nat, v = .int ((n : Nat) : Int) ∧ n < m1.length) ∧ (m1 = m ∨ (dAt m (mkey (canonS ms)) = none ∧ m1.length = m.length + 1)) ∧ ∀ x e, dAt m1 (lkey x e) = dAt m (lkey x e) := by
    refine ⟨_, rfl, ?_⟩
    cases e : dAt m (mkey (canonS ms)) with
    | some v =>
      obtain ⟨n, rfl, hn⟩ := h.bnd _ _ e
      simp only [Option.isSome_some, ↓reduceIte]
      exact ⟨n, e, Ext.refl m, h.inj, h.bnd, by first | exact .inl rfl | exact .inl trivial | trivial, by first | exact fun _ _ => rfl | exact fun _ _ => trivial⟩
    | none =>
      simp only [Option.isSome_none, Bool.false_eq_true, ↓reduceIte]
      have hl : (dPut m (mkey (canonS ms)) (.int ((m.length : Nat) : Int))).length = m.length + 1 := by rw [dPut_len, e]; rfl
      have old : ∀ (b : List M3) (n : Int), dAt m (mkey b) = some (.int n) → n < m.length := fun b n q => by
        obtain ⟨n', e1, e2⟩ := h.bnd _ _ q
        cases e1
        omega
      refine ⟨m.length, by rw [dAt_put, if_pos rfl], fun cs v q => ?_, fun a b n qa qb => ?_, fun k v q => ?_, by first | exact .inr ⟨rfl, hl⟩ | exact .inr ⟨trivial, hl⟩ | exact .inr hl, fun x e2 => ?_⟩
      · rw [dAt_put]
        split
        · rename_i z
          rw [mkey_inj.mp z] at q
          rw [e] at q
          cases q
        · exact q
      · rw [dAt_put] at qa qb
        split at qa <;> split at qb
        · rename_i z1 z2
          rw [mkey_inj.mp z1, mkey_inj.mp z2]
        · cases qa
          have := old _ _ qb
          omega
        · cases qb
          have := old _ _ qa
          omega
        · exact h.inj _ _ _ qa qb
      · rw [dAt_put] at q
        split at q
        · cases q
          exact ⟨m.length, rfl, by omega⟩
        · obtain ⟨n, e1, e2⟩ := h.bnd _ _ q
          exact ⟨n, e1, by omega⟩
      · rw [dAt_put, if_neg (lm_ne _ _ _)]
  have hk1 : Kd2 m1 (d + 1) l ((n : Nat) : Int) := ⟨ms, hm.mono fun _ _ q => q.mono hx, hn⟩
  have ek : kdPut m l (d + 1) (canonS ms) = dPut m1 (lkey l (d + 1)) (.int ((n : Nat) : Int)) := by
    unfold kdPut
    rw [← hm1]
    show dPut m1 _ ((dAt m1 (mkey (canonS ms))).getD .non) = _
    rw [hn]
    rfl
  have x2 : Ext m1 (dPut m1 (lkey l (d + 1)) (.int ((n : Nat) : Int))) := fun cs v q => by
    rw [dAt_put, if_neg fun z => lm_ne _ _ _ z.symm]
    exact q
  have back : ∀ cs, dAt (dPut m1 (lkey l (d + 1)) (.int ((n : Nat) : Int))) (mkey cs) = dAt m1 (mkey cs) := fun cs => by rw [dAt_put, if_neg fun z => lm_ne _ _ _ z.symm]
  rw [ek]
  refine ⟨((n : Nat) : Int), ⟨h.len, fun a b n qa qb => hj a b n (by rw [← back]; exact qa) (by rw [← back]; exact qb), fun k v q => ?_, fun x e v q => ?_, ?_⟩, hx.trans x2, hk1.mono x2, by rw [dAt_put, if_pos rfl]⟩
  · have hl : m1.length ≤ (dPut m1 (lkey l (d + 1)) (.int ((n : Nat) : Int))).length := by
      rw [dPut_len]
      split <;> omega
    rw [dAt_put] at q
    split at q
    · cases q
      obtain ⟨n', e1, e2⟩ := hb _ _ hn
      cases e1
      exact ⟨n, rfl, by omega⟩
    · obtain ⟨n', e1, e2⟩ := hb _ _ q
      exact ⟨n', e1, by omega⟩
  · rw [dAt_put] at q
    split at q
    · rename_i z
      cases lkey_inj.mp z
      cases q
      exact ⟨_, rfl, hk1.mono x2⟩
    · rw [hlk] at q
      obtain ⟨n', e1, e2⟩ := h.val _ _ _ q
      exact ⟨n', e1, (e2.mono hx).mono x2⟩
  · obtain ⟨L, l1, l2, l3, l4⟩ := h.few
    cases e : dAt m (lkey l (d + 1)) with
    | some v =>
      obtain ⟨n', rfl, hk⟩ := h.val _ _ _ e
      obtain ⟨ms', hm', e'⟩ := hk
      have : ms' = ms := hm'.one (fun _ _ _ p q => p.one h.inj q) hm
      subst this
      have e1 : m1 = m := by
        rcases hlen with q | ⟨q, _⟩
        · exact q
        · rw [e'] at q
          cases q
      refine ⟨L, l1, l2, ?_, fun x hx => ?_⟩
      · rw [dPut_len, hlk, e, e1]
        exact l3
      · rw [dAt_put]
        split
        · rfl
        · rw [hlk]
          exact l4 x hx
    | none =>
      refine ⟨(l, d + 1) :: L, List.nodup_cons.mpr ⟨fun z => ?_, l1⟩, fun x hx => ?_, ?_, fun x hx => ?_⟩
      · have := l4 _ z
        rw [e] at this
        cases this
      · rcases List.mem_cons.mp hx with rfl | hx
        · exact hu
        · exact l2 x hx
      · rw [dPut_len, hlk, e, List.length_cons]
        show m1.length + 1 ≤ _
        rcases hlen with q | ⟨_, q⟩
        · rw [q]
          omega
        · omega
      · rw [dAt_put]
        split
        · rfl
        · rename_i z
          rcases List.mem_cons.mp hx with rfl | hx
          · exact absurd rfl z
          · rw [hlk]
            exact l4 x hx
end DL
/-! DMe: is a member in a list of members; what the law's kinds promise -/
namespace DL
open PySem PySem.Spec PyProof.Rows L2
/-- a letter that may stand in data -/
def Ok3 (m : M3) : Prop := SeqAt.shaped (m3D m).py = true
/-- letters that may stand in data -/
def OkRow (l : LRow) : Prop := ∀ a ∈ l, Ok3 (0, rowS [a], 0)
theorem ok3_of {a : Nat} {x y : Int} (h : Ok3 (0, rowS [a], 0)) : Ok3 (x, rowS [a], y) := by
  unfold Ok3 SeqAt.shaped at h ⊢
  have e : PyData.depth (m3D (x, rowS [a], y)).py = PyData.depth (m3D (0, rowS [a], 0)).py := rfl
  rw [e]
  exact h
theorem OkRow.take {l : LRow} (h : OkRow l) (i : Nat) : OkRow (l.take i) := fun a ha => h a (List.mem_of_mem_take ha)
theorem OkRow.drop {l : LRow} (h : OkRow l) (i : Nat) : OkRow (l.drop i) := fun a ha => h a (List.mem_of_mem_drop ha)
def MemAt2 (f : LRow → Int → Prop) (l : LRow) (i : Nat) (m : M3) : Prop := ∃ a, l[i]? = some a ∧ m.2.1 = rowS [a] ∧ f (l.take i) m.1 ∧ f (l.drop (i + 1)) m.2.2
theorem MemAt2.mono {f g : LRow → Int → Prop} (h : ∀ r n, f r n → g r n) {l : LRow} {i : Nat} {m : M3} (k : MemAt2 f l i m) : MemAt2 g l i m := by
  obtain ⟨a, h1, h2, h3, h4⟩ := k
  exact ⟨a, h1, h2, h _ _ h3, h _ _ h4⟩
def optD : Option Nat → D
  | none => .non
  | some e => .int ((e : Nat) : Int)
theorem dnot_non {c : Ct} {G : List Sl} {s : c.S} {P : Sl → c.S → Prop} {x : D} {b : Bool} (hx : (x = .non ∧ b = false) ∨ ((∃ e : Int, x = .int e) ∧ b = true)) (k : P (.dat (.bl b)) s) : DOp c (fun x y H Q => y = V.non ∧ Q (.bl (!decide (x = V.non))) H) x .non G s P := fun σ F H0 H v w gd r1 r2 Q q => by
  cases r2
  refine ⟨rfl, ?_⟩
  rcases hx with ⟨rfl, rfl⟩ | ⟨⟨e, rfl⟩, rfl⟩
  · cases r1
    exact q _ s _ H0 H k gd (Same.refl _) (.bl _)
  · cases r1
    exact q _ s _ H0 H k gd (Same.refl _) (.bl _)
theorem dis_non {c : Ct} {G : List Sl} {s : c.S} {P : Sl → c.S → Prop} {x : D} {b : Bool} (hx : (x = .non ∧ b = true) ∨ ((∃ e : Int, x = .int e) ∧ b = false)) (k : P (.dat (.bl b)) s) : DOp c (fun x y H Q => y = V.non ∧ Q (.bl (decide (x = V.non))) H) x .non G s P := fun σ F H0 H v w gd r1 r2 Q q => by
  cases r2
  refine ⟨rfl, ?_⟩
  rcases hx with ⟨rfl, rfl⟩ | ⟨⟨e, rfl⟩, rfl⟩
  · cases r1
    exact q _ s _ H0 H k gd (Same.refl _) (.bl _)
  · cases r1
    exact q _ s _ H0 H k gd (Same.refl _) (.bl _)
end DL
/-! DMf: answers to a pick, plain -/
namespace DL
open PySem PySem.Spec PyProof.Rows L2
/-- the place j of m answers the pick of i in l, so that d picks more can be answered -/
def Answ (d : Nat) (l m : LRow) (i j : Nat) : Prop := ∃ a, l[i]? = some a ∧ m[j]? = some a ∧ Alike d (l.take i) (m.take j) ∧ Alike d (l.drop (i + 1)) (m.drop (j + 1))
open Classical in
noncomputable def ansL (d : Nat) (l m : LRow) (i n : Nat) : List Nat := (List.range n).filter fun j => decide (Answ d l m i j)
theorem MemAt.ok {t : List (List M3)} {d : Nat} {l : LRow} {i : Nat} {x : M3} (h : MemAt t d l i x) (hl : OkRow l) : Ok3 x := by
  obtain ⟨a, h1, h2, _⟩ := h
  obtain ⟨x1, x2, x3⟩ := x
  have h2 : x2 = rowS [a] := h2
  subst h2
  exact ok3_of (hl a (List.mem_of_getElem? h1))
end DL
/-! DMg: answers by the law's own kinds -/
namespace DL
open PySem PySem.Spec PyProof.Rows L2
end DL
/-! DMh: repr([xs, y]) where xs is a list of one's own that may still change -/
namespace DL
open PySem PySem.Spec PyProof.Rows L2
/-- may be shown -/
def Shows (d : D) : Prop := d.plain = true ∧ d.py.showable = true ∧ d.py.hasDict = false ∧ d.py.depth ≤ 60 ∧ d.py.shown.length ≤ 1000000
section
variable {c : Ct} {G : List Sl} {s : c.S} {P : Sl → c.S → Prop}
theorem we_reprOwn2 {i : Nat} {ds : List D} {te : TE} (hi : G[i]? = some (.own (.lst ds))) (h : WE c te G s (FZ fun y s1 => Shows (.lst [.lst ds, y]) ∧ P (.dat (.str (D.lst [.lst ds, y]).py.shown)) s1)) : WE c (tCB (rRepr c.K) (tCons (tLst (tCons (tVar i) (tCons te tNil))) tNil)) G s P := fun σ F H0 H g Q q => by
  obtain ⟨p, xs, h1, hp, _⟩ := g.to.ovAt hi
  refine ⟨.ref p, h1, h.use g fun y s1 v H1 H1' hp1 g1 e1 r1 => ?_⟩
  obtain ⟨⟨a1, a2, a3, a4, a5⟩, hP⟩ := hp1
  obtain ⟨p', ys, h2, hp2, ra⟩ := g1.to.ovAt hi
  rw [h1] at h2
  cases h2
  refine ⟨by show 2 ≤ sizeLine; decide, fun t ht => ?_⟩
  have k : Same H1' (upd H1' t (.lst [.ref p, v])) := fun a u h => by
    rw [upd_ne (ne_of_none h ht)]
    exact h
  have rep : Rep c.K (upd H1' t (.lst [.ref p, v])) (.ref t) (.lst [.lst ds, y]) :=
    .lst upd_same (.cons (.lst (k _ _ hp2) (ra.mono (g1.gd.sub.trans k))) (.cons (r1.mono (g1.gd.sub.trans k)) .nil))
  exact ⟨_, (D.lst [.lst ds, y]).py, rfl, rep.dp (Same.refl _) a1, a2, a3, a4, sizeL a5, q _ s1 _ H1 _ hP (g1.push ht) e1 (.str _)⟩
end
end DL
/-! DMi: truth of any statement as a bool; data that may be shown and compared; calls without errors -/
namespace DL
open PySem PySem.Spec PyProof.Rows L2
/-! ### truth -/
noncomputable def bB (p : Prop) : Bool := @decide p (Classical.propDecidable p)
theorem bB_iff {p : Prop} : bB p = true ↔ p := by unfold bB; exact @decide_eq_true_iff p (Classical.propDecidable p)
theorem bB_true {p : Prop} (h : p) : bB p = true := bB_iff.mpr h
theorem bB_false {p : Prop} (h : ¬ p) : bB p = false := by
  cases e : bB p with
  | false => rfl
  | true => exact absurd (bB_iff.mp e) h
theorem bB_congr {p q : Prop} (h : p ↔ q) : bB p = bB q := Bool.eq_iff_iff.mpr (bB_iff.trans (h.trans bB_iff.symm))
theorem bB_of {p : Prop} {b : Bool} (h : b = true ↔ p) : b = bB p := Bool.eq_iff_iff.mpr (h.trans bB_iff.symm)
theorem bB_dec {p : Prop} [Decidable p] : decide p = bB p := bB_of decide_eq_true_iff
theorem ite_B {p A B : Prop} (h1 : p → A) (h2 : ¬ p → B) : if bB p = true then A else B := ite2 (fun h => h1 (bB_iff.mp h)) fun h => h2 fun z => h (bB_true z)
theorem ite_BT {p A B : Prop} (h : p) (h1 : A) : if bB p = true then A else B := ite_B (fun _ => h1) fun z => absurd h z
theorem ite_BF {p A B : Prop} (h : ¬ p) (h1 : B) : if bB p = true then A else B := ite_B (fun z => absurd z h) fun _ => h1
theorem ite_n {b : Bool} {A B : Prop} (h : if b = true then B else A) : if (!b) = true then A else B := by
  cases b
  · exact h
  · exact h
theorem ite_d {p A B : Prop} [Decidable p] (h1 : p → A) (h2 : ¬ p → B) : if decide p = true then A else B := ite2 (fun h => h1 (of_decide_eq_true h)) fun h => h2 fun z => h (decide_eq_true z)
theorem ite_dT {p A B : Prop} [Decidable p] (h : p) (h1 : A) : if decide p = true then A else B := ite_d (fun _ => h1) fun z => absurd h z
theorem ite_dF {p A B : Prop} [Decidable p] (h : ¬ p) (h1 : B) : if decide p = true then A else B := ite_d (fun z => absurd z h) fun _ => h1
/-! ### data that may be shown and compared -/
structure Fine (n w : Nat) (d : D) : Prop where
  pl : d.plain = true
  cl : d.py.canLay0 = true
  sh : d.py.showable = true
  hd : d.py.hasDict = false
  dp : d.py.depth ≤ n
  ln : d.py.shown.length ≤ w
theorem Fine.mono {n w n' w' : Nat} {d : D} (h : Fine n w d) (h1 : n ≤ n') (h2 : w ≤ w') : Fine n' w' d := ⟨h.pl, h.cl, h.sh, h.hd, Nat.le_trans h.dp h1, Nat.le_trans h.ln h2⟩
theorem Fine.non : Fine 0 8 .non := ⟨rfl, rfl, rfl, rfl, by decide +kernel, by decide +kernel⟩
theorem Fine.bl (b : Bool) : Fine 0 8 (.bl b) := by cases b <;> exact ⟨rfl, rfl, rfl, rfl, by decide +kernel, by decide +kernel⟩
theorem Fine.int {i : Int} {k : Nat} (hk : 0 < k) (h2 : k ≤ 1920) (h : i.natAbs.log2 < k) : Fine 0 (k + 1) (.int i) :=
  ⟨rfl, rfl, by show decide (i.natAbs.log2 < 1920) = true; exact decide_eq_true (by omega), rfl, Nat.le_refl _, by
    show (PySem.Str.ofString (toString i)).length ≤ _
    have := int_text_length_le hk h
    rw [PySem.ofString_length]
    exact this⟩
theorem Fine.int64 {i : Int} (h : i.natAbs < 2 ^ 64) : Fine 0 66 (.int i) := (Fine.int (k := 65) (by decide) (by decide) (by
  by_cases z : i.natAbs = 0
  · rw [z]; decide
  · exact Nat.lt_of_lt_of_le ((Nat.log2_lt z).mpr h) (by decide))).mono (Nat.le_refl _) (by decide)
theorem Fine.str {x : Str} (h : PyData.strOk x = true) : Fine 0 (10 * x.length + 2) (.str x) :=
  ⟨rfl, h, rfl, rfl, Nat.le_refl _, StrLaws.reprText_len x fun c hc => by
    have h1 : x.cps.all (fun c => decide (c < 0x110000)) = true := h
    rw [← Array.all_toList, List.all_eq_true] at h1
    exact Nat.lt_of_lt_of_le (of_decide_eq_true (h1 c hc)) (by decide)⟩
theorem textFrom_le : ∀ (ts : List Str) (k : Nat) (acc : Str), (textFrom k acc ts).length ≤ acc.length + (ts.map fun t => t.length + 2).sum
  | [], _, _ => Nat.le_add_right _ _
  | t :: ts, k, acc => by
    have h := textFrom_le ts (k + 1) (acc ++ (if k > 0 then ", " else "" : String) ++ t)
    rw [strLen_append, strLen_append] at h
    have e : (PySem.Str.ofString (if k > 0 then ", " else "" : String)).length ≤ 2 := by split <;> decide +kernel
    show (textFrom (k + 1) (acc ++ (if k > 0 then ", " else "" : String) ++ t) ts).length ≤ _
    simp only [List.map_cons, List.sum_cons]
    omega
theorem listText_le (ts : List Str) : (listText ts).length ≤ 2 + (ts.map fun t => t.length + 2).sum := by
  unfold listText
  rw [strLen_append]
  have := textFrom_le ts 0 "["
  have e : (PySem.Str.ofString "[").length = 1 := by decide +kernel
  have e2 : (PySem.Str.ofString "]").length = 1 := by decide +kernel
  omega
inductive FineL (n : Nat) : Nat → List D → Prop
  | nil : FineL n 0 []
  | cons {w v : Nat} {d : D} {ds : List D} : Fine n w d → FineL n v ds → FineL n (v + (w + 2)) (d :: ds)
theorem FineL.mono {n n' : Nat} (h1 : n ≤ n') : ∀ {w : Nat} {ds : List D}, FineL n w ds → FineL n' w ds
  | _, _, .nil => .nil
  | _, _, .cons h t => .cons (h.mono h1 (Nat.le_refl _)) (t.mono h1)
theorem FineL.all {n w : Nat} : ∀ {ds : List D}, (∀ d ∈ ds, Fine n w d) → FineL n (ds.length * (w + 2)) ds
  | [], _ => by rw [List.length_nil, Nat.zero_mul]; exact .nil
  | d :: ds, h => by
    have := FineL.cons (h d (List.mem_cons_self ..)) (FineL.all fun e he => h e (List.mem_cons_of_mem _ he))
    rw [List.length_cons, Nat.add_mul, Nat.one_mul]
    exact this
theorem FineL.out {n : Nat} : ∀ {w : Nat} {ds : List D}, FineL n w ds → D.plains ds = true ∧ PyData.canLayAll0 (D.pys ds) = true ∧ PyData.showableAll (D.pys ds) = true ∧ PyData.hasDictAll (D.pys ds) = false ∧ PyData.depthAll (D.pys ds) ≤ n ∧ ((PyData.shownAll (D.pys ds)).map fun t => t.length + 2).sum ≤ w
  | _, _, .nil => ⟨rfl, rfl, rfl, rfl, Nat.zero_le _, Nat.le_refl _⟩
  | _, _, .cons h t => by
    obtain ⟨a1, a2, a3, a4, a5, a6⟩ := t.out
    refine ⟨?_, ?_, ?_, ?_, ?_, ?_⟩
    · simp [D.plains, h.pl, a1]
    · simp [D.pys, PyData.canLayAll0, h.cl, a2]
    · simp [D.pys, PyData.showableAll, h.sh, a3]
    · simp [D.pys, PyData.hasDictAll, h.hd, a4]
    · have := h.dp
      show max _ _ ≤ n
      omega
    · have := h.ln
      show ((PyData.shownAll (D.pys (_ :: _))).map fun t => t.length + 2).sum ≤ _
      simp only [D.pys, PyData.shownAll, List.map_cons, List.sum_cons]
      omega
theorem Fine.lst {n w : Nat} {ds : List D} (h : FineL n w ds) : Fine (n + 1) (w + 2) (.lst ds) := by
  obtain ⟨a1, a2, a3, a4, a5, a6⟩ := h.out
  refine ⟨a1, a2, a3, a4, ?_, ?_⟩
  · show (PyData.list (D.pys ds)).depth ≤ _
    simp only [PyData.depth]
    omega
  · show (listText (PyData.shownAll (D.pys ds))).length ≤ _
    have := listText_le (PyData.shownAll (D.pys ds))
    omega
theorem tupleText_le (ts : List Str) : (tupleText ts).length ≤ 4 + (ts.map fun t => t.length + 2).sum := by
  unfold tupleText
  rw [strLen_append, strLen_append]
  have e1 : (PySem.Str.ofString "(").length = 1 := by decide +kernel
  have e2 : (PySem.Str.ofString (if ts.length == 1 then ",)" else ")" : String)).length ≤ 2 := by split <;> decide +kernel
  by_cases h : ts = []
  · subst h
    have e3 : (Str.join ", " []).length = 0 := by decide +kernel
    rw [e3]
    omega
  · have := join_length_add ts h
    have e4 : piled ts = (ts.map fun t => t.length + 2).sum := rfl
    omega
theorem Fine.tup {n w : Nat} {ds : List D} (h : FineL n w ds) : Fine (n + 1) (w + 4) (.tup ds) := by
  obtain ⟨a1, a2, a3, a4, a5, a6⟩ := h.out
  refine ⟨a1, a2, a3, a4, ?_, ?_⟩
  · show (PyData.tuple (D.pys ds)).depth ≤ _
    simp only [PyData.depth]
    omega
  · show (tupleText (PyData.shownAll (D.pys ds))).length ≤ _
    have := tupleText_le (PyData.shownAll (D.pys ds))
    omega
theorem Fine.shows {n w : Nat} {d : D} (h : Fine n w d) (h1 : n ≤ 60) (h2 : w ≤ 1000000) : Shows d := ⟨h.pl, h.sh, h.hd, Nat.le_trans h.dp h1, Nat.le_trans h.ln h2⟩
theorem Fine.shaped {n w : Nat} {d : D} (h : Fine n w d) (h1 : n ≤ 64) : SeqAt.shaped d.py = true := by
  unfold SeqAt.shaped
  rw [h.cl, decide_eq_true (Nat.le_trans h.dp h1)]
  rfl
theorem rowS_strOk {l : LRow} (h : ∀ a ∈ l, a < 0x110000) : PyData.strOk (rowS l) = true := by
  show l.toArray.all (fun c => decide (c < 0x110000)) = true
  rw [← Array.all_toList, List.all_eq_true]
  intro c hc
  exact decide_eq_true (h c (by simpa using hc))
theorem Fine.row {l : LRow} (h : ∀ a ∈ l, a < 0x110000) : Fine 0 (10 * l.length + 2) (.str (rowS l)) := by
  have := Fine.str (rowS_strOk h)
  rwa [rowS_len] at this
/-! ### == of data without truth values -/
mutual
def D.nb : D → Bool
  | .bl _ => false
  | .ref _ => false
  | .tup ds => D.nbs ds
  | .lst ds => D.nbs ds
  | _ => true
def D.nbs : List D → Bool
  | [] => true
  | d :: ds => d.nb && D.nbs ds
end
mutual
theorem eqv_nb : ∀ {a b : D}, a.nb = true → b.nb = true → (PyData.eqv a.py b.py = true ↔ a = b)
  | .non, b, _, hb => by cases b <;> simp_all [D.py, PyData.eqv, D.nb]
  | .int i, b, _, hb => by cases b <;> simp_all [D.py, PyData.eqv, D.nb]
  | .str i, b, _, hb => by cases b <;> simp_all [D.py, PyData.eqv, D.nb]
  | .tup as, b, ha, hb => by
    cases b with
    | tup bs => 
      have := eqvs_nb (as := as) (bs := bs) (by simpa [D.nb] using ha) (by simpa [D.nb] using hb)
      simpa [D.py, PyData.eqv] using this
    | _ => simp_all [D.py, PyData.eqv, D.nb]
  | .lst as, b, ha, hb => by
    cases b with
    | lst bs => 
      have := eqvs_nb (as := as) (bs := bs) (by simpa [D.nb] using ha) (by simpa [D.nb] using hb)
      simpa [D.py, PyData.eqv] using this
    | _ => simp_all [D.py, PyData.eqv, D.nb]
  | .bl _, _, ha, _ => by simp [D.nb] at ha
  | .ref _, _, ha, _ => by simp [D.nb] at ha
theorem eqvs_nb : ∀ {as bs : List D}, D.nbs as = true → D.nbs bs = true → (PyData.eqvAll (D.pys as) (D.pys bs) = true ↔ as = bs)
  | [], [], _, _ => by simp [D.pys, PyData.eqvAll]
  | [], _ :: _, _, _ => by simp [D.pys, PyData.eqvAll]
  | _ :: _, [], _, _ => by simp [D.pys, PyData.eqvAll]
  | a :: as, b :: bs, ha, hb => by
    have ha' : a.nb = true ∧ D.nbs as = true := by simpa [D.nbs] using ha
    have hb' : b.nb = true ∧ D.nbs bs = true := by simpa [D.nbs] using hb
    simp only [D.pys, PyData.eqvAll, Bool.and_eq_true, eqv_nb ha'.1 hb'.1, eqvs_nb ha'.2 hb'.2, List.cons.injEq]
end
section
variable {c : Ct} {G : List Sl} {s : c.S} {P : Sl → c.S → Prop}
theorem deqF {x y : D} {n w m v : Nat} (hx : Fine n w x) (hy : Fine m v y) (hn : n ≤ 64) (hm : m ≤ 64) (bx : x.nb = true) (bY : y.nb = true) (k : P (.dat (.bl (bB (x = y)))) s) : DOp c (qEq c.K) x y G s P :=
  deq hx.pl hy.pl (hx.shaped hn) (hy.shaped hm) (bB_of (eqv_nb bx bY)) k
theorem dneF {x y : D} {n w m v : Nat} (hx : Fine n w x) (hy : Fine m v y) (hn : n ≤ 64) (hm : m ≤ 64) (bx : x.nb = true) (bY : y.nb = true) (k : P (.dat (.bl (!bB (x = y)))) s) : DOp c (qNe c.K) x y G s P :=
  dne hx.pl hy.pl (hx.shaped hn) (hy.shaped hm) (bB_of (eqv_nb bx bY)) k
theorem deq_row {l m : LRow} (k : P (.dat (.bl (bB (l = m)))) s) : DOp c (qEq c.K) (.str (rowS l)) (.str (rowS m)) G s P :=
  de_sc rfl (by rw [show decide (rowS l = rowS m) = bB (l = m) from bB_of (decide_eq_true_iff.trans ⟨rowS_inj, fun h => by rw [h]⟩)]; exact k)
theorem dne_row {l m : LRow} (k : P (.dat (.bl (!bB (l = m)))) s) : DOp c (qNe c.K) (.str (rowS l)) (.str (rowS m)) G s P :=
  dn_sc rfl (by rw [show decide (rowS l = rowS m) = bB (l = m) from bB_of (decide_eq_true_iff.trans ⟨rowS_inj, fun h => by rw [h]⟩)]; exact k)
theorem db_reprF {d : D} {n w : Nat} (h : Fine n w d) (h1 : n ≤ 60) (h2 : w ≤ 1000000) (k : P (.dat (.str d.py.shown)) s) : DCB c (rRepr c.K) [d] G s P :=
  have q := h.shows h1 h2
  db_repr q.1 q.2.1 q.2.2.1 q.2.2.2.1 (sizeL q.2.2.2.2) k
/-! ### calls where no error may leave -/
theorem xin_no {E : XK} {f : FSpec} {ds : List D} {Q : Sl → Prop} (h : f ds Q fun _ _ => False) : ∃ XP, XIn c E s XP ∧ f ds Q XP := ⟨_, .inl fun _ _ z => z, h⟩
theorem xr_no {r : Res} {E : XK} {f : RSpec r} {p : Addr} {es : List D} {t : r.S} {put : r.S → c.S} {Q : Sl → r.S → Prop} (h : f p es t Q fun _ _ _ => False) : ∃ es' XP, (D.ref p :: es) = .ref p :: es' ∧ ((∀ C d s', ¬ XP C d s') ∨ (E = c.EX ∧ ∀ C d s', XP C d s' → c.X C d (put s'))) ∧ f p es' t Q XP := ⟨es, _, rfl, .inl fun _ _ _ z => z, h⟩
/-- a draw, as a number from 0 on -/
theorem draw_use {p : Addr} {n : Nat} {span : Int} {Q : Sl → Nat → Prop} {XP : Addr → D → Nat → Prop} (h0 : 0 < span) (h1 : span ≤ 10 ^ 70) (hn : 1 ≤ n) (k : ∀ z : Nat, ((z : Nat) : Int) < span → Q (.dat (.int ((z : Nat) : Int))) (n - 1)) : drawS p [.int span] n Q XP :=
  ⟨span, rfl, h0, h1, hn, fun z a b => by
    obtain ⟨m, rfl⟩ := Int.eq_ofNat_of_zero_le a
    exact k m b⟩
end
end DL
/-! DMj: sorted(list of data of one shape) -/
namespace DL
open PySem PySem.Spec PyProof.Rows L2
def SortAsD (vs : List V) (ds : List D) (m : D) (v : V) : Prop := ∃ i : Nat, vs[i]? = some v ∧ ds[i]? = some m
/-- the data may be sorted -/
structure Sorts (ds : List D) : Prop where
  pl : D.plains ds = true
  al : PySem.W.AllAlike (D.pys ds)
  so : PySem.W.Sortable (D.pys ds)
  dp : ∀ d ∈ ds, d.py.depth ≤ 60
noncomputable def sortD (ds : List D) : List D := ds.mergeSort (PySem.W.dataLe false D.py)
def rSortD (K : PySem.W.Frag) : List V → Hp → VK → Prop := fun xs H Q => ∃ (a : Addr) (vs : List V) (ds : List D), xs = [.ref a] ∧ SqL K H a vs ∧ RepAll K H vs ds ∧ vs.length ≤ 1000000 ∧ Sorts ds ∧
  ∀ (ws : List V) (p : Addr), Paired (SortAsD vs ds) (sortD ds) ws → H p = none → Q (.ref p) (upd H p (.lst ws))
theorem pys_map (ds : List D) : D.pys ds = ds.map D.py := by
  induction ds with
  | nil => rfl
  | cons d ds ih => show d.py :: D.pys ds = _; rw [ih]; rfl
section
variable {c : Ct} {G : List Sl} {s : c.S} {P : Sl → c.S → Prop}
theorem db_sortD {ds : List D} (hl : ds.length ≤ 1000000) (hs : Sorts ds) (k : P (.own (.lst (sortD ds))) s) : DCB c (rSortD c.K) [.lst ds] G s P := fun σ F H0 H vs gd r Q q => by
  cases r with
  | cons r rs =>
    cases rs
    cases r with
    | lst ha ra =>
      rename_i a xs
      refine ⟨a, xs, ds, rfl, .inl (.inl (gd.gd.sub _ _ ha)), ra.mono gd.gd.sub, by rw [ra.len]; exact hl, hs, fun ws p hp hn => ?_⟩
      refine q _ s _ H0 _ k (gd.push hn) (Same.refl _) (gd.rok (u := .lst ws) hn ?_)
      have : ∀ {cs : List D} {ws : List V}, Paired (SortAsD xs ds) cs ws → RepAll c.K H0 ws cs := by
        intro cs ws pr
        induction pr with
        | nil => exact .nil
        | cons h t ih =>
          obtain ⟨i, h1, h2⟩ := h
          obtain ⟨d, hd, rd⟩ := ra.getV h1
          rw [h2] at hd
          cases hd
          exact .cons rd ih
      exact this hp
end
/-! ### pairs of numbers -/
def p2D (p : Nat × Nat) : D := .tup [.int ((p.1 : Nat) : Int), .int ((p.2 : Nat) : Int)]
theorem p2D_inj {a b : Nat × Nat} (h : p2D a = p2D b) : a = b := by
  obtain ⟨a1, a2⟩ := a
  obtain ⟨b1, b2⟩ := b
  simp only [p2D, D.tup.injEq, List.cons.injEq, D.int.injEq, and_true] at h
  simp only [Prod.mk.injEq]
  omega
theorem sorts2 (ps : List (Nat × Nat)) : Sorts (ps.map p2D) where
  pl := by induction ps with
    | nil => rfl
    | cons p ps ih => simpa [D.plains, p2D, D.plain] using ih
  al := by rw [pys_map, List.map_map]; exact PySem.W.AllAlike.of fun b b' => by simp [p2D, D.py, D.pys, PySem.W.alike, PySem.W.alikeAll]
  so := by rw [pys_map, List.map_map]; exact PySem.W.Sortable.tuples fun b => ⟨_, _, rfl⟩
  dp := fun d hd => by
    obtain ⟨p, _, rfl⟩ := List.mem_map.mp hd
    simp [p2D, D.py, D.pys, PyData.depth, PyData.depthAll]
end DL
/-! DMk: callees at greater levels; a pure def that shows; places without an answer -/
namespace DL
open PySem PySem.Spec PyProof.Rows L2
section
variable {P : Program} {w : World} {K : PySem.W.Frag} {mg : Str → Option Value} {base : Heap} {CX : CXT} {x : Str} {ps : List Str} {j k : Nat} {sp : Sp} {f C : Addr} {fd : FuncData}
theorem Callee.lv (c : Callee P w K mg base CX x ps j sp f fd) (h : j ≤ k) : Callee P w K mg base CX x ps k sp f fd := ⟨c.ok.mono h, c.mg, c.kp, c.bd, c.ps⟩
theorem CalleeG.lvG (c : CalleeG P w K mg base CX x ps j sp f fd) (h : j ≤ k) : CalleeG P w K mg base CX x ps k sp f fd := ⟨c.ok.mono h, c.mg, c.kp, c.bd, c.ps⟩
theorem MCallee.lv (c : MCallee P w K mg base CX C x ps j sp f fd) (h : j ≤ k) : MCallee P w K mg base CX C x ps k sp f fd := ⟨c.ok.mono h, c.me, c.bd, c.ps⟩
end
/-! ### comprehensions that change nothing -/
section
variable {c : Ct} {G : List Sl} {s : c.S} {P : Sl → c.S → Prop}
theorem we_lcA {α : Type} {ti : TI} {g : TG} {tt : TT} {te : TE} {vs : List Nat} (fm : α → Option D) (hG : unAll G vs = G) (h : WI c ti G s fun its s1 => ∃ (L : List α) (enc : α → D), its = L.map enc ∧ L.length ≤ 1000000 ∧
      (∀ x ∈ L, ∃ is G', Tg c g is (enc x) G G' ∧ (∀ i ∈ is, i ∈ vs) ∧ unAll G' vs = G ∧ WT c tt G' s1 fun b s2 => if b = true then WE c te G' s2 (FZ fun y s3 => fm x = some y ∧ s3 = s1) else fm x = none ∧ s2 = s1) ∧
      P (.own (.lst (L.filterMap fm))) s1) : WE c (tLc ti g tt te vs) G s P := by
  refine we_lc hG fun σ F H0 H gd R q => h σ F H0 H gd R fun its s1 J H0' H' Gw Y hp => q its s1 J H0' H' Gw Y ?_
  obtain ⟨L, enc, rfl, hl, hs, k⟩ := hp
  refine ⟨by rw [List.length_map]; exact hl, fun i acc si => si = s1 ∧ acc = (L.take i).filterMap fm, ⟨rfl, rfl⟩, fun i d acc si hd _ hI => ?_, fun acc sn _ hI => ?_⟩
  · obtain ⟨rfl, rfl⟩ := hI
    rw [List.getElem?_map] at hd
    cases hx : L[i]? with
    | none => rw [hx] at hd; cases hd
    | some x =>
      rw [hx] at hd
      cases hd
      obtain ⟨is, G', t, h1, h2, hb⟩ := hs x (List.mem_of_getElem? hx)
      have etk : L.take (i + 1) = L.take i ++ [x] := by rw [List.take_add_one, hx]; rfl
      refine ⟨is, G', t, h1, h2, hb.mono fun b s2 hb => ?_⟩
      cases b with
      | true =>
        refine iteT ((show WE c te G' s2 _ from hb).mono fun y s3 hy => ?_)
        have key : ∀ z, fm x = some z → (L.take i).filterMap fm ++ [z] = (L.take (i + 1)).filterMap fm := fun z hz => by rw [etk, List.filterMap_append]; simp [hz]
        unfold FZ at hy ⊢
        split at hy
        · exact ⟨hy.2, key _ hy.1⟩
        · exact ⟨hy.2, key _ hy.1⟩
        · exact hy
      | false =>
        have hb : fm x = none ∧ s2 = si := hb
        refine iteF ⟨hb.2, ?_⟩
        rw [etk, List.filterMap_append]
        simp [hb.1]
  · obtain ⟨rfl, rfl⟩ := hI
    rw [List.length_map, List.take_length]
    exact k
theorem signs_map (l : LRow) : signsD (rowS l) = l.map fun a => D.str (rowS [a]) := by simp [signsD, rowS]
theorem enum_map {α : Type} (L : List α) (f : α → D) : enumD (L.map f) = L.zipIdx.map fun p => D.tup [.int ((p.2 : Nat) : Int), f p.1] := by
  unfold enumD
  rw [List.zipIdx_map, List.map_map]
  rfl
theorem range_map (n : Nat) : rangeD 0 n = (List.range n).map fun (i : Nat) => D.int ((i : Nat) : Int) := by
  unfold rangeD
  simp
end
/-! ### in, not in -/
section
variable {c : Ct} {G : List Sl} {s : c.S} {P : Sl → c.S → Prop}
theorem FineL.shaped {n w : Nat} {ds : List D} (h : FineL n w ds) (hn : n < 64) : SeqAt.shaped (.list (D.pys ds)) = true := (Fine.lst h).shaped (by omega)
end
/-! ### places without an answer -/
noncomputable def uL (d : Nat) (l m : LRow) : List Nat := (List.range l.length).filter fun i => bB (∀ j, ¬ Answ d l m i j)
/-- the picks that win, at depth d + 1 -/
noncomputable def winL (d : Nat) (l m : LRow) : List (Nat × Nat) := (uL d l m).map (fun i => (0, i)) ++ (uL d m l).map fun i => (1, i)
noncomputable def unI (ms ns : List M3) : List Nat := (List.range ms.length).filter fun i => (ms[i]?).any fun x => bB (x ∉ ns)
def unS : FSpec := fun ds P _ => ∃ (ms ns : List M3), ds = [.lst (ms.map m3D), .lst (ns.map m3D)] ∧ (∀ x ∈ ms, Ok3 x) ∧ (∀ x ∈ ns, Ok3 x) ∧ ms.length ≤ 1000 ∧ ns.length ≤ 1000 ∧ P (.own (.lst ((unI ms ns).map fun (i : Nat) => D.int ((i : Nat) : Int))))
/-- the picks that win, as data -/
noncomputable def winD (l m : LRow) : Nat → List (Nat × Nat)
  | 0 => []
  | d + 1 => winL d l m
def winS : FSpec := fun ds P _ => ∃ (l m : LRow) (d : Nat), ds = [.str (rowS l), .str (rowS m), .int ((d : Nat) : Int)] ∧ Letters l ∧ Letters m ∧ d ≤ 6 ∧ l.length ≤ 60 ∧ m.length ≤ 60 ∧ P (.own (.lst ((winD l m d).map p2D)))
end DL
/-! DMl: what the package's defs promise, and how such a promise is used -/
namespace DL
open PySem PySem.Spec PyProof.Rows L2
def check_lettersS : FSpec := fun ds P _ => ∃ (l m : LRow), ds = [.str (rowS l), .str (rowS m)] ∧ (∀ a ∈ l, a ∈ m) ∧ P (.dat .non)
def check_rowS : FSpec := fun ds P _ => ∃ (l : LRow), ds = [.str (rowS l)] ∧ Letters l ∧ P (.dat .non)
def check_depthS : FSpec := fun ds P _ => ∃ (d : Nat), ds = [.int ((d : Nat) : Int)] ∧ P (.dat .non)
def check_bothS : FSpec := fun ds P _ => ∃ (l m : LRow), ds = [.str (rowS l), .str (rowS m)] ∧ Letters l ∧ Letters m ∧ P (.dat .non)
def are_alikeS : FSpec := fun ds P _ => ∃ (l m : LRow) (d : Nat), ds = [.str (rowS l), .str (rowS m), .int ((d : Nat) : Int)] ∧ Letters l ∧ Letters m ∧ d ≤ 6 ∧ l.length ≤ 60 ∧ m.length ≤ 60 ∧ ∀ b : Bool, (b = true ↔ Alike d l m) → P (.dat (.bl b))
def answersS : FSpec := fun ds P _ => ∃ (l m : LRow) (d i : Nat), ds = [.str (rowS l), .str (rowS m), .int (((d + 1 : Nat) : Nat) : Int), .int ((i : Nat) : Int)] ∧ Letters l ∧ Letters m ∧ d + 1 ≤ 6 ∧ i < l.length ∧ l.length ≤ 60 ∧ m.length ≤ 60 ∧ P (.own (.lst ((ansL d l m i m.length).map fun (j : Nat) => DL.D.int ((j : Nat) : Int))))
def wAlikeS (D : Nat) : FSpec := fun ds P _ => ∃ (l m : LRow) (d : Nat), ds = [.str (rowS l), .str (rowS m), .int ((d : Nat) : Int)] ∧ d < D ∧ l.length ≤ 1000 ∧ m.length ≤ 1000 ∧ ∀ b : Bool, (b = true ↔ Alike d l m) → P (.dat (.bl b))
/-! ### which kind of goal -/
theorem tgWE {c : Ct} {t : TE} {G : List Sl} {s : c.S} {P : Sl → c.S → Prop} (h : WE c t G s P) : WE c t G s P := h
theorem tgWA {c : Ct} {t : TA} {G : List Sl} {s : c.S} {P : List D → c.S → Prop} (h : WA c t G s P) : WA c t G s P := h
theorem tgWAO {c : Ct} {t : TA} {G : List Sl} {s : c.S} {P : List Sl → c.S → Prop} (h : WAO c t G s P) : WAO c t G s P := h
theorem tgWT {c : Ct} {t : TT} {G : List Sl} {s : c.S} {P : Bool → c.S → Prop} (h : WT c t G s P) : WT c t G s P := h
theorem tgWS {c : Ct} {t : TS} {G : List Sl} {s : c.S} {P : Ds c.S} (h : WS c t G s P) : WS c t G s P := h
theorem tgFZ {S : Type} {P : D → S → Prop} {x : Sl} {s : S} (h : FZ P x s) : FZ P x s := h
theorem tgDO {c : Ct} {r : R2} {x y : D} {G : List Sl} {s : c.S} {P : Sl → c.S → Prop} (h : DOp c r x y G s P) : DOp c r x y G s P := h
theorem tgDC {c : Ct} {r : List V → Hp → VK → Prop} {ds : List D} {G : List Sl} {s : c.S} {P : Sl → c.S → Prop} (h : DCB c r ds G s P) : DCB c r ds G s P := h
theorem tgSet {c : Ct} {t : TS} {G G' : List Sl} {i : Nat} {x : Sl} {s : c.S} {P : Ds c.S} (e : G.set i x = G') (h : WS c t G' s P) : WS c t (G.set i x) s P := by
  subst e
  exact h
theorem tgSetE {c : Ct} {t : TE} {G G' : List Sl} {i : Nat} {x : Sl} {s : c.S} {P : Sl → c.S → Prop} (e : G.set i x = G') (h : WE c t G' s P) : WE c t (G.set i x) s P := by
  subst e
  exact h
theorem tgSetT {c : Ct} {t : TT} {G G' : List Sl} {i : Nat} {x : Sl} {s : c.S} {P : Bool → c.S → Prop} (e : G.set i x = G') (h : WT c t G' s P) : WT c t (G.set i x) s P := by
  subst e
  exact h
theorem tgIf {b : Bool} {A B : Prop} (h : if b = true then A else B) : if b = true then A else B := h
section
variable {Pg : Program} {w : World} {C p nu kn : Addr} {c : Ct} {to : c.S → KSt} {put : c.S → KSt → c.S} {G : List Sl} {s : c.S} {P : Sl → c.S → Prop}
/-- kinds.m(..), kinds a name -/
theorem we_methV {f : KSpec} {m : Str} {i : Nat} {t : TA} {E : XK} (hc : OnK c Pg w C nu kn p to put) (hm : ([("numbers", V.ref nu), ("known", V.ref kn)] : List (Str × V)).lookup m = none) (hi : G[i]? = some (.dat (.ref p)))
    (h : WA c t G s fun ds s2 => f p ds (to s2) (fun x s3 => P x (put s2 s3)) (fun _ _ _ => False)) : WE c (tMeth C m (KSp Pg w c.K C f) [] E (tVar i) t) G s P :=
  we_meth hc hm (we_var hi (fz_dat ⟨rfl, h⟩))
end
section
variable {l m : LRow} {P : Sl → Prop} {XP : Addr → D → Prop}
theorem u_check_row (h : Letters l) (k : P (.dat .non)) : check_rowS [.str (rowS l)] P XP := ⟨l, rfl, h, k⟩
theorem u_check_both (h : Letters l) (h2 : Letters m) (k : P (.dat .non)) : check_bothS [.str (rowS l), .str (rowS m)] P XP := ⟨l, m, rfl, h, h2, k⟩
theorem u_check_depth {z : Int} (h : 0 ≤ z) (k : P (.dat .non)) : check_depthS [.int z] P XP := ⟨z.toNat, by rw [Int.toNat_of_nonneg h], k⟩
theorem u_are_alikeN {d : Nat} (h : Letters l) (h2 : Letters m) (hd : d ≤ 6) (h3 : l.length ≤ 60) (h4 : m.length ≤ 60) (k : P (.dat (.bl (bB (Alike d l m))))) : are_alikeS [.str (rowS l), .str (rowS m), .int ((d : Nat) : Int)] P XP :=
  ⟨l, m, d, rfl, h, h2, hd, h3, h4, fun b hb => by rw [bB_of hb]; exact k⟩
theorem u_are_alike {z : Int} (h : Letters l) (h2 : Letters m) (h0 : 0 ≤ z) (hd : z ≤ 6) (h3 : l.length ≤ 60) (h4 : m.length ≤ 60) (k : P (.dat (.bl (bB (Alike z.toNat l m))))) : are_alikeS [.str (rowS l), .str (rowS m), .int z] P XP :=
  ⟨l, m, z.toNat, by rw [Int.toNat_of_nonneg h0], h, h2, by omega, h3, h4, fun b hb => by rw [bB_of hb]; exact k⟩
theorem u_wAlikeN {D d : Nat} (hd : d < D) (h3 : l.length ≤ 1000) (h4 : m.length ≤ 1000) (k : P (.dat (.bl (bB (Alike d l m))))) : wAlikeS D [.str (rowS l), .str (rowS m), .int ((d : Nat) : Int)] P XP :=
  ⟨l, m, d, rfl, hd, h3, h4, fun b hb => by rw [bB_of hb]; exact k⟩
theorem u_wAlike {D : Nat} {z : Int} (h0 : 0 ≤ z) (hd : z < D) (h3 : l.length ≤ 1000) (h4 : m.length ≤ 1000) (k : P (.dat (.bl (bB (Alike z.toNat l m))))) : wAlikeS D [.str (rowS l), .str (rowS m), .int z] P XP :=
  ⟨l, m, z.toNat, by rw [Int.toNat_of_nonneg h0], by omega, h3, h4, fun b hb => by rw [bB_of hb]; exact k⟩
/-- the list of the answers, of a place and a depth told as numbers -/
theorem u_answers {z i : Int} (h : Letters l) (h2 : Letters m) (h1 : 1 ≤ z) (hd : z ≤ 6) (hi : 0 ≤ i) (hi2 : i < l.length) (h3 : l.length ≤ 60) (h4 : m.length ≤ 60) (k : P (.own (.lst ((ansL (z - 1).toNat l m i.toNat m.length).map fun (j : Nat) => D.int ((j : Nat) : Int))))) : answersS [.str (rowS l), .str (rowS m), .int z, .int i] P XP :=
  ⟨l, m, (z - 1).toNat, i.toNat, by rw [Int.toNat_of_nonneg hi, show (((z - 1).toNat + 1 : Nat) : Int) = z by omega], h, h2, by omega, by omega, h3, h4, k⟩
theorem u_win {z : Int} (h : Letters l) (h2 : Letters m) (h0 : 0 ≤ z) (hd : z ≤ 6) (h3 : l.length ≤ 60) (h4 : m.length ≤ 60) (k : P (.own (.lst ((winD l m z.toNat).map p2D)))) : winS [.str (rowS l), .str (rowS m), .int z] P XP :=
  ⟨l, m, z.toNat, by rw [Int.toNat_of_nonneg h0], h, h2, by omega, h3, h4, k⟩
theorem u_winN {d : Nat} (h : Letters l) (h2 : Letters m) (hd : d ≤ 6) (h3 : l.length ≤ 60) (h4 : m.length ≤ 60) (k : P (.own (.lst ((winD l m d).map p2D)))) : winS [.str (rowS l), .str (rowS m), .int ((d : Nat) : Int)] P XP :=
  ⟨l, m, d, rfl, h, h2, hd, h3, h4, k⟩
theorem u_un {ms ns : List M3} (h1 : ∀ x ∈ ms, Ok3 x) (h2 : ∀ x ∈ ns, Ok3 x) (h3 : ms.length ≤ 1000) (h4 : ns.length ≤ 1000) (k : P (.own (.lst ((unI ms ns).map fun (i : Nat) => D.int ((i : Nat) : Int))))) : unS [.lst (ms.map m3D), .lst (ns.map m3D)] P XP := ⟨ms, ns, rfl, h1, h2, h3, h4, k⟩
end
end DL
/-! DMm: cuts of rows; for over a list that is told -/
namespace DL
open PySem PySem.Spec PyProof.Rows L2
section
variable {c : Ct} {G : List Sl} {s : c.S} {P : Sl → c.S → Prop}
theorem ds_take {l : LRow} {i : Nat} (hl : l.length ≤ 1000000) (k : P (.dat (.str (rowS (l.take i)))) s) : DSl c (qSl c.K) (.str (rowS l)) none (some ((i : Nat) : Int)) G s P :=
  ds_str (by rw [rowS_len]; exact hl) (by rw [cut_take]; exact k)
theorem ds_drop1 {l : LRow} {i : Nat} (hl : l.length ≤ 1000000) (k : P (.dat (.str (rowS (l.drop (i + 1))))) s) : DSl c (qSl c.K) (.str (rowS l)) (some (((i : Nat) : Int) + 1)) none G s P :=
  ds_str (by rw [rowS_len]; exact hl) (by rw [cut_drop1]; exact k)
theorem ds_drop {l : LRow} {i : Nat} (hl : l.length ≤ 1000000) (k : P (.dat (.str (rowS (l.drop i)))) s) : DSl c (qSl c.K) (.str (rowS l)) (some ((i : Nat) : Int)) none G s P :=
  ds_str (by rw [rowS_len]; exact hl) (by rw [cut_drop]; exact k)
theorem tgDS {r : V → Option Int → Option Int → Hp → VK → Prop} {x : D} {lo hi : Option Int} (h : DSl c r x lo hi G s P) : DSl c r x lo hi G s P := h
/-- for over a list that is told, and what stands behind -/
theorem ws_seqFor {α β : Type} {ti : TI} {g : TG} {tb u : TS} {P : Ds c.S} (L : List α) (enc : α → D) (is js : List Nat) (Gs : β → List Sl) (Gt : β → α → List Sl) (I : Nat → β → c.S → Prop) (b0 : β) (hG : G = Gs b0) (hun : unAll G is = G)
    (hw : WI c ti G s fun its s1 => its = L.map enc ∧ I 0 b0 s1) (ht : ∀ b x, Tg c g js (enc x) (Gs b) (Gt b x))
    (hs : ∀ i x b si, L[i]? = some x → I i b si → WS c tb (Gt b x) si { nx := fun Gn sn => ∃ b', unAll Gn is = Gs b' ∧ I (i + 1) b' sn, ct := fun Gn sn => ∃ b', unAll Gn is = Gs b' ∧ I (i + 1) b' sn, bk := fun Gn sn => WS c u Gn sn P, rt := P.rt })
    (he : ∀ b sn, I L.length b sn → WS c u (Gs b) sn P) : WS c (tSeq (tFor ti g tb) u) G s P := by
  refine ws_seq (ws_forG is Gs b0 hG fun σ F H0 H gd R q => hw σ F H0 H gd R fun its s1 J H0' H' Gw Y hp => q its s1 J H0' H' Gw Y ?_)
  obtain ⟨rfl, h0⟩ := hp
  refine ⟨I, h0, hun, fun i d b si hd hI => ?_, fun Gn b sn hGn hI => ?_⟩
  · rw [List.getElem?_map] at hd
    cases hx : L[i]? with
    | none => rw [hx] at hd; cases hd
    | some x =>
      rw [hx] at hd
      cases hd
      exact ⟨js, _, ht b x, hs i x b si hx hI⟩
  · refine ws_un is ?_
    rw [hGn]
    refine he b sn ?_
    rw [List.length_map] at hI
    exact hI
end
end DL
/-! DMn: what the law's defs on kinds promise (k09) -/
namespace DL
open PySem PySem.Spec PyProof.Rows L2
def sameManyS : FSpec := fun ds P _ => ∃ a b d : Nat, ds = [.int ((a : Nat) : Int), .int ((b : Nat) : Int), .int ((d : Nat) : Int)] ∧ d ≤ 10 ∧ P (.dat (.bl (bB (Enough d a b))))
section
variable {c : Ct} {G : List Sl} {s : c.S} {P : Sl → c.S → Prop}
theorem ws_nx {P : Ds c.S} (k : P.nx G s) : WS c Ends.nx G s P := ws_next k
theorem dop_shl1 {j : Int} (h0 : 0 ≤ j) (h1 : j ≤ 1000) (k : P (.dat (.int ((2 ^ j.toNat : Nat) : Int))) s) : DOp c (rI CPow fun i j => .int (i * 2 ^ j.toNat)) (.int 1) (.int j) G s P :=
  dop_I (f := fun i j => .int (i * 2 ^ j.toNat)) ⟨h0, by omega, by decide⟩ (fun _ _ => .int _) (by
    have e : ((2 ^ j.toNat : Nat) : Int) = 1 * 2 ^ j.toNat := by rw [Int.one_mul]; exact Int.natCast_pow 2 _
    rw [e] at k
    exact k)
end
section
variable {c : Ct} {G : List Sl} {s : c.S}
theorem wi_rng {ta : TA} {P : List D → c.S → Prop} (h : WA c ta G s fun ds s1 => ∃ z : Int, ds = [.int z] ∧ (-1000000000 ≤ z ∧ z ≤ 1000000000) ∧ P ((List.range z.toNat).map fun (i : Nat) => D.int ((i : Nat) : Int)) s1) : WI c (iRng1 ta) G s P :=
  wi_range1 (h.mono fun ds s1 h => by
    obtain ⟨z, rfl, ⟨h1, h2⟩, h3⟩ := h
    exact ⟨z, rfl, h1, h2, by rw [range_map]; exact h3⟩)
end
/-! ### == of lists of one form -/
structure EncOk {α : Type} (enc : α → D) : Prop where
  inj : ∀ x y, enc x = enc y → x = y
  pl : ∀ x, (enc x).plain = true
  cl : ∀ x, (enc x).py.canLay0 = true
  dp : ∀ x, (enc x).py.depth ≤ 50
  nb : ∀ x, (enc x).nb = true
theorem encNat : EncOk fun (i : Nat) => D.int ((i : Nat) : Int) := ⟨fun x y h => by have := D.int.inj h; omega, fun _ => rfl, fun _ => rfl, fun _ => by simp [D.py, PyData.depth], fun _ => rfl⟩
theorem encInt : EncOk fun (i : Int) => D.int i := ⟨fun x y h => by simpa using h, fun _ => rfl, fun _ => rfl, fun _ => by simp [D.py, PyData.depth], fun _ => rfl⟩
theorem encP2 : EncOk p2D := ⟨fun x y h => p2D_inj h, fun _ => rfl, fun _ => rfl, fun _ => by simp [p2D, D.py, D.pys, PyData.depth, PyData.depthAll], fun _ => rfl⟩
theorem EncOk.map {α : Type} {enc : α → D} (e : EncOk enc) (xs : List α) : D.plains (xs.map enc) = true ∧ SeqAt.shaped (D.lst (xs.map enc)).py = true ∧ (D.lst (xs.map enc)).nb = true := by
  have h1 : D.plains (xs.map enc) = true ∧ PyData.canLayAll0 (D.pys (xs.map enc)) = true ∧ PyData.depthAll (D.pys (xs.map enc)) ≤ 50 ∧ D.nbs (xs.map enc) = true := by
    induction xs with
    | nil => exact ⟨rfl, rfl, Nat.zero_le _, rfl⟩
    | cons x xs ih =>
      obtain ⟨a1, a2, a3, a4⟩ := ih
      refine ⟨?_, ?_, ?_, ?_⟩
      · simp [D.plains, e.pl, a1]
      · simp [D.pys, PyData.canLayAll0, e.cl, a2]
      · have := e.dp x
        show max _ _ ≤ 50
        omega
      · simp [D.nbs, e.nb, a4]
  obtain ⟨a1, a2, a3, a4⟩ := h1
  refine ⟨a1, ?_, a4⟩
  unfold SeqAt.shaped
  have e1 : (D.lst (xs.map enc)).py.canLay0 = true := by simpa [D.py, PyData.canLay0] using a2
  have e2 : (D.lst (xs.map enc)).py.depth ≤ 64 := by
    show (PyData.list (D.pys (xs.map enc))).depth ≤ 64
    simp only [PyData.depth]
    omega
  rw [e1, decide_eq_true e2]
  rfl
theorem EncOk.eq {α : Type} {enc : α → D} (e : EncOk enc) {xs ys : List α} : (D.lst (xs.map enc) = D.lst (ys.map enc)) ↔ xs = ys := by
  constructor
  · intro h
    have h := D.lst.inj h
    exact List.map_inj_right (fun x y q => e.inj x y q) |>.mp h
  · rintro rfl
    rfl
section
variable {c : Ct} {G : List Sl} {s : c.S} {P : Sl → c.S → Prop} {α : Type} {enc : α → D}
theorem deq_enc {xs ys : List α} (e : EncOk enc) (k : P (.dat (.bl (bB (xs = ys)))) s) : DOp c (qEq c.K) (.lst (xs.map enc)) (.lst (ys.map enc)) G s P :=
  deq (e.map xs).1 (e.map ys).1 (e.map xs).2.1 (e.map ys).2.1 ((bB_of (eqv_nb (e.map xs).2.2 (e.map ys).2.2)).trans (bB_congr e.eq)) k
theorem dne_enc {xs ys : List α} (e : EncOk enc) (k : P (.dat (.bl (!bB (xs = ys)))) s) : DOp c (qNe c.K) (.lst (xs.map enc)) (.lst (ys.map enc)) G s P :=
  dne (e.map xs).1 (e.map ys).1 (e.map xs).2.1 (e.map ys).2.1 ((bB_of (eqv_nb (e.map xs).2.2 (e.map ys).2.2)).trans (bB_congr e.eq)) k
theorem deq_encN {xs : List α} (e : EncOk enc) (k : P (.dat (.bl (bB (xs = [])))) s) : DOp c (qEq c.K) (.lst (xs.map enc)) (.lst []) G s P := deq_enc (ys := []) e k
theorem dne_encN {xs : List α} (e : EncOk enc) (k : P (.dat (.bl (!bB (xs = [])))) s) : DOp c (qNe c.K) (.lst (xs.map enc)) (.lst []) G s P := dne_enc (ys := []) e k
end
section
variable {P : Sl → Prop} {XP : Addr → D → Prop}
theorem u_sameMany {a b d : Int} (h1 : 0 ≤ a) (h2 : 0 ≤ b) (h3 : 0 ≤ d) (h4 : d ≤ 10) (k : P (.dat (.bl (bB (Enough d.toNat a.toNat b.toNat))))) : sameManyS [.int a, .int b, .int d] P XP := ⟨a.toNat, b.toNat, d.toNat, by rw [Int.toNat_of_nonneg h1, Int.toNat_of_nonneg h2, Int.toNat_of_nonneg h3], by omega, k⟩
end
end DL
/-! DMo: a list as a ground: it may be walked, compared, and changed later -/
namespace DL
open PySem PySem.Spec PyProof.Rows L2
abbrev lsRes (K : PySem.W.Frag) : Res where
  S := List V × List D
  R := fun p st H0 H => H p = some (.lst st.1) ∧ RepAll K H0 st.1 st.2
  B := fun p a => a = p
  stab := fun p st H0 H H0' H' h e k => ⟨k _ _ rfl h.1, h.2.mono e⟩
  there := fun p st H0 H a h e z => by
    subst e
    rw [z] at h
    cases h.1
section
variable {c : Ct} {G : List Sl} {s : c.S}
variable {p : Addr} {to : c.S → List V × List D} {put : c.S → List V × List D → c.S}
theorem lsC (hc : CtR c (lsRes c.K) p to put) {σ : L2.St} {F : Frm} {H0 H : Hp} (g : Gd c G s σ F H0 H) : H p = some (.lst (to s).1) ∧ RepAll c.K H0 (to s).1 (to s).2 := hc.R _ _ _ g.gd.rs
/-- x.append(e) -/
theorem ws_appL (hc : CtR c (lsRes c.K) p to put) {ta tb : TE} {P : Ds c.S} (h : WE c ta G s (FZ fun x s1 => x = .ref p ∧ WE c tb G s1 (FZ fun y s2 => (to s2).2.length ≤ 1000000 ∧ ∀ v, P.nx G (put s2 ((to s2).1 ++ [v], (to s2).2 ++ [y]))))) : WS c (tDrop (tBM c.K "list" rAppend ta (tCons tb tNil))) G s P := fun σ H0 H gd D e =>
  h.use (Gd.of gd) fun x s1 v H1 H1' hp g1 e1 r1 => by
    obtain ⟨rfl, hp⟩ := hp
    cases r1
    refine ⟨.inl ⟨rfl, _, .inl (.inl (lsC hc g1).1)⟩, ?_⟩
    refine hp.use g1 fun y s2 w H2 H2' hp2 g2 e2 r2 => ?_
    obtain ⟨a1, k⟩ := hp2
    obtain ⟨l1, l2⟩ := lsC hc g2
    have hlen : (to s2).1.length ≤ 1000000 := by rw [l2.len]; exact a1
    refine ⟨p, (to s2).1, w, rfl, rfl, l1, Nat.lt_of_le_of_lt hlen (by decide), ?_⟩
    have hav := g2.gd.av p (hc.B p rfl)
    have fr : ∀ a o, H2' a = some o → a ≠ p → upd H2' p (.lst ((to s2).1 ++ [w])) a = some o := fun a o ha hne => by rw [upd_ne hne]; exact ha
    have st : Step ((lsRes c.K).R p) ((lsRes c.K).B p) ((to s2).1 ++ [w], (to s2).2 ++ [y]) H2 H2' H2 (upd H2' p (.lst ((to s2).1 ++ [w]))) :=
      ⟨Same.refl _, fun a o ha => fr a o (g2.gd.sub a o ha) (fun z => by subst z; rw [hav] at ha; cases ha), fun a o ha hb => fr a o ha hb, fun a _ h0 => h0, fun a hb => by cases hb; exact hav, upd_same, l2.app (.cons r2 .nil)⟩
    obtain ⟨b1, b2⟩ := hc.back s2 _ _ _ _ _ g2.gd.rs g2.gd.av st
    have gg : Gd c G (put s2 ((to s2).1 ++ [w], (to s2).2 ++ [y])) σ ([], []) H2 (upd H2' p (.lst ((to s2).1 ++ [w]))) :=
      ⟨g2.ln, g2.gd.go st.ex st.sub b2 (fun a o h hb => st.fr a o h fun z => hb (hc.B a z)) st.nw b1⟩
    exact e.nx _ _ _ _ _ (k w) gg.to (e1.trans e2) rfl
end
/-! ### uses -/
section
variable {n : Nat} {p : Addr} {Q : Sl → Nat → Prop} {XP : Addr → D → Nat → Prop}
theorem u_draw {span : Int} (h0 : 0 < span) (h1 : span ≤ 1000000000) (hn : 1 ≤ n) (k : ∀ z : Nat, ((z : Nat) : Int) < span → Q (.dat (.int ((z : Nat) : Int))) (n - 1)) : drawS p [.int span] n Q XP := draw_use h0 (Int.le_trans h1 (by decide)) hn k
theorem u_pair {z : Int} (h0 : 0 ≤ z) (h1 : z ≤ 60) (hn : 1000 ≤ n) (k : ∀ (l m : LRow) (n' : Nat), LetRow l z.toNat → LetRow m z.toNat → n ≤ n' + 1000 → Q (.dat (.tup [.str (rowS l), .str (rowS m)])) n') : pairS p [.int z] n Q XP :=
  ⟨z.toNat, by rw [Int.toNat_of_nonneg h0], by omega, hn, k⟩
end
/-! ### a name whose list is never changed: data at once -/
def tAsgF (te : TE) (g : TG) : TS := tAsg te g
theorem asF {X : Cx} {st : Stmt} {te : TE} {i : Nat} (h : PS X st (tAsg te (gName i))) : PS X st (tAsgF te (gName i)) := h
def tParF (i j : Nat) (ta : TA) : TS := tPar i j ta
def tPar3F (i j k : Nat) (ta : TA) : TS := tPar3 i j k ta
section
variable {c : Ct} {G : List Sl} {s : c.S}
theorem ws_asgF {te : TE} {i : Nat} {P : Ds c.S} (h : WE c te G s (FZ fun d s1 => P.nx (G.set i (.dat d)) s1)) : WS c (tAsgF te (gName i)) G s P := fun σ H0 H g D e =>
  h.use (Gd.of g) fun d s1 v H1 H1' hp g1 e1 r1 => by
    have g2 := g1.to
    exact e.nx _ s1 _ H1 H1' hp (g2.setSl (x := .dat d) i r1) e1 (List.length_set ..)
theorem ws_parF {ta : TA} {i j : Nat} {P : Ds c.S} (h : WA c ta G s fun ds s1 => ∃ x y, ds = [x, y] ∧ P.nx ((G.set i (.dat x)).set j (.dat y)) s1) : WS c (tParF i j ta) G s P := fun σ H0 H g D e =>
  h σ ([], []) H0 H (Gd.of g) _ fun ds s1 vs H1 H1' hp g1 e1 ra => by
    obtain ⟨x, y, rfl, hp⟩ := hp
    cases ra with
    | cons r1 ra =>
      cases ra with
      | cons r2 ra =>
        cases ra
        have g2 := g1.to
        exact ⟨_, _, rfl, e.nx _ s1 _ H1 H1' hp ((g2.setSl (x := .dat x) i r1).setSl (x := .dat y) j r2) e1 (by rw [List.length_set, List.length_set])⟩
theorem ws_par3F {ta : TA} {i j k : Nat} {P : Ds c.S} (h : WA c ta G s fun ds s1 => ∃ x y z, ds = [x, y, z] ∧ P.nx (((G.set i (.dat x)).set j (.dat y)).set k (.dat z)) s1) : WS c (tPar3F i j k ta) G s P := fun σ H0 H g D e =>
  h σ ([], []) H0 H (Gd.of g) _ fun ds s1 vs H1 H1' hp g1 e1 ra => by
    obtain ⟨x, y, z, rfl, hp⟩ := hp
    cases ra with
    | cons r1 ra =>
      cases ra with
      | cons r2 ra =>
        cases ra with
        | cons r3 ra =>
          cases ra
          have g2 := g1.to
          exact ⟨_, _, _, rfl, e.nx _ s1 _ H1 H1' hp (((g2.setSl (x := .dat x) i r1).setSl (x := .dat y) j r2).setSl (x := .dat z) k r3) e1 (by rw [List.length_set, List.length_set, List.length_set])⟩
end
/-! ### targets -/
section
variable {c : Ct} {G : List Sl} {s : c.S}
theorem ws_asg2 {K : PySem.W.Frag} (hK : c.K = K) {te : TE} {i j : Nat} {P : Ds c.S} (hi : i < G.length) (hj : j < G.length) (h : WE c te G s (FZ fun d s1 => ∃ a b, d = .tup [a, b] ∧ P.nx ((G.set i (.dat a)).set j (.dat b)) s1)) : WS c (tAsg te (gTup K 2 (gCons (gName i) (gCons (gName j) gNil)))) G s P :=
  ws_asgT (h.mono fun x s1 hx => by
    unfold FZ at hx ⊢
    split at hx
    · obtain ⟨a, b, rfl, hx⟩ := hx
      subst hK
      exact ⟨[i, j], _, tg_tup rfl (.cons hi (.cons (by rw [List.length_set]; exact hj) .nil)), hx⟩
    · obtain ⟨a, b, e, hx⟩ := hx
      cases e
    · exact hx)
/-- a, b = a list -/
theorem ws_asgL2 {K : PySem.W.Frag} (hK : c.K = K) {te : TE} {i j : Nat} {P : Ds c.S} (hi : i < G.length) (hj : j < G.length) (h : WE c te G s (FZ fun d s1 => ∃ a b, d = .lst [a, b] ∧ P.nx ((G.set i (.dat a)).set j (.dat b)) s1)) : WS c (tAsg te (gLst K 2 (gCons (gName i) (gCons (gName j) gNil)))) G s P :=
  ws_asgT (h.mono fun x s1 hx => by
    have tl : ∀ a b : D, Tg c (gLst c.K 2 (gCons (gName i) (gCons (gName j) gNil))) [i, j] (.lst [a, b]) G ((G.set i (.dat a)).set j (.dat b)) := fun a b s σ F H0 H v g r Q q => by
      cases r with
      | lst h ra =>
        exact ⟨_, _, rfl, .inl (.inl (g.gd.sub _ _ h)), ra.len, tgs_names (is := [i, j]) (.cons hi (.cons (by rw [List.length_set]; exact hj) .nil)) s σ F H0 H _ g ra Q q⟩
    unfold FZ at hx ⊢
    subst hK
    split at hx
    · obtain ⟨a, b, e, hx⟩ := hx
      subst e
      exact ⟨[i, j], _, tl a b, hx⟩
    · obtain ⟨a, b, e, hx⟩ := hx
      rw [e]
      exact ⟨[i, j], _, tl a b, hx⟩
    · exact hx)
theorem ws_asg3 {K : PySem.W.Frag} (hK : c.K = K) {te : TE} {i j k : Nat} {P : Ds c.S} (hi : i < G.length) (hj : j < G.length) (hk : k < G.length) (h : WE c te G s (FZ fun d s1 => ∃ a b e, d = .tup [a, b, e] ∧ P.nx (((G.set i (.dat a)).set j (.dat b)).set k (.dat e)) s1)) : WS c (tAsg te (gTup K 3 (gCons (gName i) (gCons (gName j) (gCons (gName k) gNil))))) G s P :=
  ws_asgT (h.mono fun x s1 hx => by
    unfold FZ at hx ⊢
    split at hx
    · obtain ⟨a, b, e, rfl, hx⟩ := hx
      subst hK
      exact ⟨[i, j, k], _, tg_tup rfl (.cons hi (.cons (by rw [List.length_set]; exact hj) (.cons (by rw [List.length_set, List.length_set]; exact hk) .nil))), hx⟩
    · obtain ⟨a, b, e, e0, hx⟩ := hx
      cases e0
    · exact hx)
/-- a, b, c = e1, e2, e3 as they are written -/
theorem ws_tup3 {K : PySem.W.Frag} (hK : c.K = K) {ta : TA} {i j k : Nat} {P : Ds c.S} (hi : i < G.length) (hj : j < G.length) (hk : k < G.length) (h : WAO c ta G s fun xs s1 => ∃ x y z, xs = [x, y, z] ∧ P.nx (((G.set i x).set j y).set k z) s1) : WS c (tAsg (tTup ta) (gTup K 3 (gCons (gName i) (gCons (gName j) (gCons (gName k) gNil))))) G s P := by
  subst hK
  refine ws_asgO (is := [i, j, k]) (n := 3) fun σ F H0 H g Q q => h σ F H0 H g Q fun xs s1 vs H0' H' hp => q xs s1 vs H0' H' ?_
  obtain ⟨x, y, z, rfl, hp⟩ := hp
  exact ⟨rfl, by decide, _, .cons hi (.cons (by rw [List.length_set]; exact hj) (.cons (by rw [List.length_set, List.length_set]; exact hk) .nil)), hp⟩
theorem ws_tup4 {K : PySem.W.Frag} (hK : c.K = K) {ta : TA} {i j k m : Nat} {P : Ds c.S} (hi : i < G.length) (hj : j < G.length) (hk : k < G.length) (hm : m < G.length) (h : WAO c ta G s fun xs s1 => ∃ x y z u, xs = [x, y, z, u] ∧ P.nx ((((G.set i x).set j y).set k z).set m u) s1) : WS c (tAsg (tTup ta) (gTup K 4 (gCons (gName i) (gCons (gName j) (gCons (gName k) (gCons (gName m) gNil)))))) G s P := by
  subst hK
  refine ws_asgO (is := [i, j, k, m]) (n := 4) fun σ F H0 H g Q q => h σ F H0 H g Q fun xs s1 vs H0' H' hp => q xs s1 vs H0' H' ?_
  obtain ⟨x, y, z, u, rfl, hp⟩ := hp
  exact ⟨rfl, by decide, _, .cons hi (.cons (by rw [List.length_set]; exact hj) (.cons (by rw [List.length_set, List.length_set]; exact hk) (.cons (by rw [List.length_set, List.length_set, List.length_set]; exact hm) .nil))), hp⟩
theorem ws_par3 {ta : TA} {i j k : Nat} {P : Ds c.S} (hi : i < G.length) (hj : j < G.length) (hk : k < G.length) (h : WAO c ta G s fun xs s1 => ∃ x y z, xs = [x, y, z] ∧ P.nx (((G.set i x).set j y).set k z) s1) : WS c (tPar3 i j k ta) G s P := fun σ H0 H g D e =>
  h σ ([], []) H0 H (Gd.of g) _ fun xs s1 vs H1 H1' hp g1 e1 hl => by
    obtain ⟨x, y, z, rfl, hp⟩ := hp
    have g2 : Good c (G ++ [x, y, z]) s1 (σ ++ vs.map some) H1 H1' := by simpa using g1.gd
    match vs, hl, g2 with
    | [v, w, u], _, g2 =>
      refine ⟨v, w, u, rfl, e.nx _ s1 _ H1 H1' hp ?_ e1 (by rw [List.length_set, List.length_set, List.length_set])⟩
      have g3 := g2.take g1.ln i hi
      have g4 := g3.take (x := y) (X := [z]) (by rw [List.length_set, List.length_set, g1.ln]) j (by rw [List.length_set]; exact hj)
      have g5 := g4.take (x := z) (X := []) (by rw [List.length_set, List.length_set, List.length_set, List.length_set, g1.ln]) k (by rw [List.length_set, List.length_set]; exact hk)
      simpa using g5
theorem tgNew {Pg : Program} {w : World} {P : Sl → c.S → Prop} (h : WE c (tDNewN Pg w) G s P) : WE c (tDNewN Pg w) G s P := h
theorem tgPick {f : FSpec} {perm : List Nat} {ds es : List D} {P : Sl → Prop} {XP : Addr → D → Prop} (e : pick perm ds = es) (h : f es P XP) : f (pick perm ds) P XP := by
  subst e
  exact h
theorem dm_lit {x : Str} (l : LRow) {z : Int} {P : Sl → c.S → Prop} (e : x = rowS l) (h0 : 0 ≤ z) (h1 : z ≤ 1000) (hl : l.length ≤ 1000) (k : P (.dat (.str (rowS (rep l z.toNat)))) s) : DOp c qMul (.str x) (.int z) G s P := by
  subst e
  refine dm_str h1 (by omega) (by rw [rowS_len]; exact hl) ?_
  have : repS (rowS l) z = rowS (rep l z.toNat) := by
    have q := repS_row l z.toNat
    rwa [Int.toNat_of_nonneg h0] at q
  rw [this]
  exact k
theorem tgA2 {a b : D} {R : D → D → Prop} (h : R a b) : ∃ x y, [a, b] = [x, y] ∧ R x y := ⟨a, b, rfl, h⟩
theorem tgA3 {a b d : D} {R : D → D → D → Prop} (h : R a b d) : ∃ x y z, [a, b, d] = [x, y, z] ∧ R x y z := ⟨a, b, d, rfl, h⟩
theorem tgEx2 {a b : Sl} {R : Sl → Sl → Prop} (h : R a b) : ∃ x y, [a, b] = [x, y] ∧ R x y := ⟨a, b, rfl, h⟩
theorem tgEx3 {a b d : Sl} {R : Sl → Sl → Sl → Prop} (h : R a b d) : ∃ x y z, [a, b, d] = [x, y, z] ∧ R x y z := ⟨a, b, d, rfl, h⟩
theorem tgEx4 {a b d e : Sl} {R : Sl → Sl → Sl → Sl → Prop} (h : R a b d e) : ∃ x y z u, [a, b, d, e] = [x, y, z, u] ∧ R x y z u := ⟨a, b, d, e, rfl, h⟩
theorem tgT2 {a b : D} {R : D → D → Prop} (h : R a b) : ∃ x y, D.tup [a, b] = .tup [x, y] ∧ R x y := ⟨a, b, rfl, h⟩
theorem tgL2 {a b : D} {R : D → D → Prop} (h : R a b) : ∃ x y, D.lst [a, b] = .lst [x, y] ∧ R x y := ⟨a, b, rfl, h⟩
theorem tgT3 {a b d : D} {R : D → D → D → Prop} (h : R a b d) : ∃ x y z, D.tup [a, b, d] = .tup [x, y, z] ∧ R x y z := ⟨a, b, d, rfl, h⟩
end
theorem Answ.symm {d : Nat} {l m : LRow} {i j : Nat} (h : Answ d l m i j) : Answ d m l j i := by
  obtain ⟨a, h1, h2, h3, h4⟩ := h
  exact ⟨a, h2, h1, h3.symm, h4.symm⟩
theorem fine_two {n w : Nat} {x : D} (h : Fine n w x) : Fine (n + 1) (2 * (w + 2) + 2) (.lst [x, x]) := (Fine.lst (.cons h (.cons h .nil))).mono (Nat.le_refl _) (by omega)
end DL
/-! DMp: ranges that go down, cuts of lists, four targets; a game played by answers (k20) -/
namespace DL
open PySem PySem.Spec PyProof.Rows L2
section
variable {c : Ct} {G : List Sl} {s : c.S}
theorem cutD_take (xs : List D) (i : Nat) : cutD xs none (some ((i : Nat) : Int)) = xs.take i := by
  unfold cutD
  rw [HT.sIx_none, HT.sIx_nat, List.drop_zero, Nat.sub_zero]
  by_cases h : i ≤ xs.length
  · rw [Nat.min_eq_left h]
  · rw [Nat.min_eq_right (by omega), List.take_length, List.take_of_length_le (by omega)]
theorem cutD_drop (xs : List D) (i : Nat) : cutD xs (some ((i : Nat) : Int)) none = xs.drop i := by
  unfold cutD
  rw [HT.sIx_none, HT.sIx_nat]
  by_cases h : i ≤ xs.length
  · rw [Nat.min_eq_left h, List.take_of_length_le (by rw [List.length_drop]; omega)]
  · rw [Nat.min_eq_right (by omega), Nat.sub_self, List.take_zero, List.drop_eq_nil_of_le (by omega)]
theorem dsl_take {α : Type} {enc : α → D} {L : List α} {i : Nat} {P : Sl → c.S → Prop} (k : P (.own (.lst ((L.take i).map enc))) s) : DSl c (qSl c.K) (.lst (L.map enc)) none (some ((i : Nat) : Int)) G s P := ds_lst (by rw [cutD_take, ← List.map_take]; exact k)
theorem dsl_drop {α : Type} {enc : α → D} {L : List α} {i : Nat} {P : Sl → c.S → Prop} (k : P (.own (.lst ((L.drop i).map enc))) s) : DSl c (qSl c.K) (.lst (L.map enc)) (some ((i : Nat) : Int)) none G s P := ds_lst (by rw [cutD_drop, ← List.map_drop]; exact k)
theorem dsl_drop1 {α : Type} {enc : α → D} {L : List α} {i : Nat} {P : Sl → c.S → Prop} (k : P (.own (.lst ((L.drop (i + 1)).map enc))) s) : DSl c (qSl c.K) (.lst (L.map enc)) (some (((i : Nat) : Int) + 1)) none G s P := dsl_drop (i := i + 1) k
theorem ds_mid {l : LRow} {i j : Nat} {P : Sl → c.S → Prop} (hl : l.length ≤ 1000000) (hij : i ≤ j) (k : P (.dat (.str (rowS ((l.drop i).take (j - i))))) s) : DSl c (qSl c.K) (.str (rowS l)) (some ((i : Nat) : Int)) (some ((j : Nat) : Int)) G s P :=
  ds_str (by rw [rowS_len]; exact hl) (by rw [cut_mid l i j hij]; exact k)
theorem da_map {α : Type} {enc : α → D} {L M : List α} {P : Sl → c.S → Prop} (hl : L.length + M.length ≤ 1000000) (k : P (.own (.lst ((L ++ M).map enc))) s) : DOp c (qAdd c.K) (.lst (L.map enc)) (.lst (M.map enc)) G s P :=
  da_lst (by rw [List.length_map, List.length_map]; exact hl) (by rw [← List.map_append]; exact k)
theorem dl_map {α : Type} {enc : α → D} {L : List α} {P : Sl → c.S → Prop} (k : P (.dat (.int ((L.length : Nat) : Int))) s) : DCB c (qLen c.K) [.lst (L.map enc)] G s P := dl_lst (by rw [List.length_map]; exact k)
theorem ws_asg4 {K : PySem.W.Frag} (hK : c.K = K) {te : TE} {i j k m : Nat} {P : Ds c.S} (hi : i < G.length) (hj : j < G.length) (hk : k < G.length) (hm : m < G.length) (h : WE c te G s (FZ fun d s1 => ∃ a b e f, d = .tup [a, b, e, f] ∧ P.nx ((((G.set i (.dat a)).set j (.dat b)).set k (.dat e)).set m (.dat f)) s1)) : WS c (tAsg te (gTup K 4 (gCons (gName i) (gCons (gName j) (gCons (gName k) (gCons (gName m) gNil)))))) G s P :=
  ws_asgT (h.mono fun x s1 hx => by
    subst hK
    have tl : ∀ a b e f : D, Tg c (gTup c.K 4 (gCons (gName i) (gCons (gName j) (gCons (gName k) (gCons (gName m) gNil))))) [i, j, k, m] (.tup [a, b, e, f]) G ((((G.set i (.dat a)).set j (.dat b)).set k (.dat e)).set m (.dat f)) := fun a b e f =>
      tg_tup rfl (.cons hi (.cons (by rw [List.length_set]; exact hj) (.cons (by rw [List.length_set, List.length_set]; exact hk) (.cons (by rw [List.length_set, List.length_set, List.length_set]; exact hm) .nil))))
    unfold FZ at hx ⊢
    split at hx
    · obtain ⟨a, b, e, f, e0, hx⟩ := hx
      subst e0
      exact ⟨[i, j, k, m], _, tl a b e f, hx⟩
    · obtain ⟨a, b, e, f, e0, hx⟩ := hx
      cases e0
    · exact hx)
theorem tgT4 {a b d e : D} {R : D → D → D → D → Prop} (h : R a b d e) : ∃ x y z u, D.tup [a, b, d, e] = .tup [x, y, z, u] ∧ R x y z u := ⟨a, b, d, e, rfl, h⟩
end
abbrev Sp4 := Nat × Nat × Nat × Nat
/-- a part of a row -/
def sl (l : LRow) (b e : Nat) : LRow := (l.drop b).take (e - b)
/-- the parts of a game: alike to what is left -/
def GoodSp (l m : LRow) (d : Nat) (x : Sp4) : Prop := x.1 ≤ x.2.1 ∧ x.2.1 ≤ l.length ∧ x.2.2.1 ≤ x.2.2.2 ∧ x.2.2.2 ≤ m.length ∧ Alike d (sl l x.1 x.2.1) (sl m x.2.2.1 x.2.2.2)
theorem GoodSp.less {l m : LRow} {d : Nat} {x : Sp4} (h : GoodSp l m (d + 1) x) : GoodSp l m d x := ⟨h.1, h.2.1, h.2.2.1, h.2.2.2.1, h.2.2.2.2.less⟩
theorem Letters.take {l : LRow} (h : Letters l) (i : Nat) : Letters (l.take i) := ⟨fun a ha => h.1 a (List.mem_of_mem_take ha), by rw [List.length_take]; have := h.2; omega⟩
theorem Letters.drop {l : LRow} (h : Letters l) (i : Nat) : Letters (l.drop i) := ⟨fun a ha => h.1 a (List.mem_of_mem_drop ha), by rw [List.length_drop]; have := h.2; omega⟩
theorem Letters.sl {l : LRow} (h : Letters l) (b e : Nat) : Letters (sl l b e) := (h.drop b).take _
end DL
/-! DMq: the game with all places picked so far, and rows alike to a depth (k03; no program in sight) -/
namespace DL
open PySem PySem.Spec PyProof.Rows L2
/-- in one sequence with what was picked -/
def InStep (S : Nat → Nat → Prop) (i j : Nat) : Prop := ∀ a b, S a b → (i < a ↔ j < b) ∧ (i = a ↔ j = b)
def addP (S : Nat → Nat → Prop) (i j : Nat) : Nat → Nat → Prop := fun a b => S a b ∨ (a = i ∧ b = j)
def Lasts : Nat → LRow → LRow → (Nat → Nat → Prop) → Prop
  | 0, _, _, _ => True
  | k + 1, l, m, S => (∀ i a, l[i]? = some a → ∃ j, m[j]? = some a ∧ InStep S i j ∧ Lasts k l m (addP S i j)) ∧ (∀ j a, m[j]? = some a → ∃ i, l[i]? = some a ∧ InStep S i j ∧ Lasts k l m (addP S i j))
theorem Lasts.less : ∀ {k : Nat} {l m : LRow} {S : Nat → Nat → Prop}, Lasts (k + 1) l m S → Lasts k l m S
  | 0, _, _, _, _ => trivial
  | k + 1, l, m, S, h => ⟨fun i a ha => by
      obtain ⟨j, h1, h2, h3⟩ := h.1 i a ha
      exact ⟨j, h1, h2, h3.less⟩, fun j a ha => by
      obtain ⟨i, h1, h2, h3⟩ := h.2 j a ha
      exact ⟨i, h1, h2, h3.less⟩⟩
/-- what was picked, as a list -/
def ofL (ps : List (Nat × Nat)) : Nat → Nat → Prop := fun a b => (a, b) ∈ ps
def inStepS : FSpec := fun ds P _ => ∃ (ps : List (Nat × Nat)) (i j : Nat), ds = [.lst (ps.map p2D), .int ((i : Nat) : Int), .int ((j : Nat) : Int)] ∧ ps.length ≤ 1000 ∧ P (.dat (.bl (bB (InStep (ofL ps) i j))))
def lastsS (D : Nat) : FSpec := fun ds P _ => ∃ k : Nat, k < D ∧ ∃ (l m : LRow) (ps : List (Nat × Nat)), ds = [.str (rowS l), .str (rowS m), .lst (ps.map p2D), .int ((k : Nat) : Int)] ∧ l.length ≤ 100 ∧ m.length ≤ 100 ∧ ps.length + k ≤ 100 ∧ P (.dat (.bl (bB (Lasts k l m (ofL ps)))))
theorem u_inStep {ps : List (Nat × Nat)} {i j : Nat} {P : Sl → Prop} {XP : Addr → D → Prop} (h : ps.length ≤ 1000) (k : P (.dat (.bl (bB (InStep (ofL ps) i j))))) : inStepS [.lst (ps.map p2D), .int ((i : Nat) : Int), .int ((j : Nat) : Int)] P XP := ⟨ps, i, j, rfl, h, k⟩
theorem u_lasts {D : Nat} {l m : LRow} {ps : List (Nat × Nat)} {z : Int} {P : Sl → Prop} {XP : Addr → DL.D → Prop} (h0 : 0 ≤ z) (h1 : z < D) (h2 : l.length ≤ 100) (h3 : m.length ≤ 100) (h4 : ps.length + z.toNat ≤ 100) (k : P (.dat (.bl (bB (Lasts z.toNat l m (ofL ps)))))) : lastsS D [.str (rowS l), .str (rowS m), .lst (ps.map p2D), .int z] P XP :=
  ⟨z.toNat, by omega, l, m, ps, by rw [Int.toNat_of_nonneg h0], h2, h3, h4, k⟩
section
variable {c : Ct} {G : List Sl} {s : c.S}
theorem da_snoc2 {L : List (Nat × Nat)} {i j : Nat} {P : Sl → c.S → Prop} (hl : L.length ≤ 100000) (k : P (.own (.lst ((L ++ [(i, j)]).map p2D))) s) : DOp c (qAdd c.K) (.lst (L.map p2D)) (.lst [.tup [.int ((i : Nat) : Int), .int ((j : Nat) : Int)]]) G s P :=
  da_lst (by rw [List.length_map]; simp; omega) (by rw [List.map_append] at k; exact k)
end
end DL
/-! DMr: errors: an own class over ValueError whose __init__ says super().__init__(value) -/
namespace DL
open PySem PySem.Spec PyProof.Rows L2
/-- what __init__ does with the new object -/
def supS (K : PySem.W.Frag) (D : Addr) : Sp := fun vs H Q _ => ∃ (a C : Addr) (v : V), vs = [.ref a, v] ∧ OexC K C ∧ PySem.W.mroIn K C (.ref D) = some true ∧ PySem.W.ks_superIn K C D "__init__" = some (some (.builtin "ValueError.__init__")) ∧
  PySem.W.subIn K (.ref C) (.type "ValueError") = some true ∧ PySem.W.findIn K (.ref C) "value" = some none ∧ H a = some (exo a C none) ∧ ∀ dx, H dx = none → dx ≠ a → Q .non (upd (upd H dx (exd dx [("value", v)])) a (exo a C (some dx)))
abbrev supBody (p0 p1 p2 p3 p4 p5 p6 p7 p8 p9 : Pos) : List Stmt := [.Expr (.Call (.Attribute (.Call (.Name "super" p0) [] [] p1) "__init__" p2) [.Name "value" p3] [] p4) p5, .Assign [.Attribute (.Name "self" p6) "value" p7] (.Name "value" p8) p9]
theorem super_boot : bootBuiltins "super" = some (.type "super") := by first | exact PyProof.Rows.Boot.«super» | kernel_rfl
/-- what the written part and the text say of the def -/
structure SupOk (P : Program) (K : PySem.W.Frag) (f D : Addr) (fd : FuncData) : Prop where
  all : ∃ (name qual : Str) (params : Arguments) (scope : Scope) (dV kV doc pm ct oc : Value) (an od : Option Addr) (osl : Array (Option Value)) (cda cc : Addr) (p0 p1 p2 p3 p4 p5 p6 p7 p8 p9 : Pos) (ar : Arg) (vs : Array Value) (file : Str) (tf : Tok) (ccl cl : Value) (cdd cld : Option Addr) (ccs csl : Array (Option Value)) (cdD : ClassData),
    fd = PySem.W.ksFn name qual params (supBody p0 p1 p2 p3 p4 p5 p6 p7 p8 p9) scope dV kV doc pm an (.ref cda) ct cc ∧
    K.lookup f = some ⟨oc, od, .func fd, osl⟩ ∧ PySem.W.codeIn K (.ref cda) qual = true ∧
    (params.posonlyargs ++ params.args).head? = some ar ∧ ar.arg = "self" ∧ K.lookup cda = some ⟨ccl, cdd, .fields vs, ccs⟩ ∧ vs[2]? = some (.str file tf) ∧ ((P.main.file : Str) == file) = true ∧
    K.lookup cc = some ⟨cl, cld, .cell (some (.ref D)), csl⟩ ∧ PySem.W.clsIn K D = some cdD ∧ scope.names.lookup ("super" : Str) = some .globalImplicit ∧ scope.names.lookup ("__class__" : Str) = some .free ∧ (∀ y : Str, scope.names.lookup y = some .free → y = "__class__") ∧
    scope.names.lookup ("self" : Str) = some .local ∧ scope.names.lookup ("value" : Str) = some .local ∧ scope.kind = .function ∧ scope.isCoroutine = false ∧ scope.isGenerator = false ∧ (∀ x ∈ scope.names, x.2 ≠ .cell) ∧ (P.main.scope.names.lookup ("super" : Str)).isSome = false ∧
    (∃ pl : Sem Bool, ∀ L : Addr, eval (.Call (.Attribute (.Call (.Name "super" p0) [] [] p1) "__init__" p2) [.Name "value" p3] [] p4) (PySem.W.ksEnv qual scope L f (.ref cda) cc) = (do
      let ov ← attributeBase (.Call (.Name "super" p0) [] [] p1) "__init__" (PySem.W.ksEnv qual scope L f (.ref cda) cc) (eval (.Call (.Name "super" p0) [] [] p1) (PySem.W.ksEnv qual scope L f (.ref cda) cc))
      standAt p2.atName
      let (g, first) ← holding [ov] (getMethod ov "__init__" pl)
      callWith p4 g first (backTo p4 (starEach [.Name "value" p3] (PySem.W.ksEnv qual scope L f (.ref cda) cc))) [])) ∧
    (∀ L : Addr, interactive (PySem.W.ksEnv qual scope L f (.ref cda) cc) = false ∧ swapsWith (.Call (.Attribute (.Call (.Name "super" p0) [] [] p1) "__init__" p2) [.Name "value" p3] [] p4) none p5.line (PySem.W.ksEnv qual scope L f (.ref cda) cc) = pure false) ∧
    ∀ L : Addr, swapsWith (.Name "value" p8) (some (.Attribute (.Name "self" p6) "value" p7)) p9.line (PySem.W.ksEnv qual scope L f (.ref cda) cc) = pure false
abbrev cxS (P : Program) (w : World) (K : PySem.W.Frag) (mg : Str → Option Value) (base : Heap) (env : Env) (A : Around) (outer : List Env) (s : Shared) (H : Hp) (E : XK) : Cx :=
  { prog := P, w := w, K := K, mg := mg, base := base, A := A.deeper env, N := ["self", "value"], s_0 := s, H_0 := H, env := env, outer := outer, stack := env :: outer, ex := [], calm := true, fn := fun _ => false, pn := [],
    xe := fun e s' => wpAny (model P w) (A.deeper env) (leaving env e) (fun _ s'' => CX0 outer H s E e s'') (fun e' s'' => CX0 outer H s E e' s'') s' }
theorem ok_super {P : Program} {w : World} {K : PySem.W.Frag} {mg : Str → Option Value} {base : Heap} {f D : Addr} {fd : FuncData} {k : Nat} (S : SupOk P K f D fd) (hsuper : mg "super" = none) (ho : PySem.W.nsIn K cStatics "thirdparty.any" = some none) :
    FnOk P w K mg base CX0 (k + 1) f fd ["self", "value"] (supS K D) := by
  obtain ⟨name, qual, params, scope, dV, kV, doc, pm, ct, oc, an, od, osl, cda, cc, p0, p1, p2, p3, p4, p5, p6, p7, p8, p9, ar, vs0, file, tf, ccl, cl, cdd, cld, ccs, csl, cdD, rfl, lk, hcd, hp, har, hcode, hvs, hfile, hcell, hD, hks, hkc, honly, hself, hvalue, hkind, hco, hgen, hcell0, htop, ⟨pl, hpl⟩, hsx, hsw⟩ := S.all
  refine ⟨fun vs H Q E h => ?_, fun A outer s H args us vs Q E hr e0 hb r hsp => ?_⟩
  · obtain ⟨a, C, v, rfl, _⟩ := h
    rfl
  obtain ⟨a, C, v, rfl, T, hm, hsi, hsub, hno, ea, q⟩ := hsp
  cases r with
  | cons ra r =>
  cases r with
  | @cons _ u _ _ rv r =>
  cases r
  rename_i u0
  obtain rfl : u0 = Value.ref a := ra
  have KX : K.In s.heap := e0.mod.kin.keeps fun b o e => (e0.bs b o e).1
  have lim : s.heap.NoLimit := e0.mod.nolimit.keeps fun b o e => (e0.bs b o e).1
  refine PySem.ks_codeAny_call_defAt (binds := [("self" : Str), "value"].zip [.ref a, u]) hr.depth (KX _ _ lk) rfl lim (PySem.W.codeRec_of KX hcd) rfl hb hcell0 (fun y hy => ?_) (fun h1 hns hk => ?_) hco hgen hkind
  · simp at hy
    rcases hy with rfl | rfl
    · exact hself
    · exact hvalue
  have kb : ∀ b o, base.get? b = some o → h1.get? b = some o := fun b o e => hk b o (e0.bs b o e).1
  have I0 : Inv (cxS P w K mg base (PySem.W.ksEnv qual scope s.heap.objs.size f (.ref cda) cc) A outer s H E) [] [some (.ref a), some v] H { s with heap := h1, toks := s.toks + ([("self" : Str), "value"].zip [Value.ref a, u]).length } := by
    have one : ∀ (x : Str) (c : Addr), (cxS P w K mg base (PySem.W.ksEnv qual scope s.heap.objs.size f (.ref cda) cc) A outer s H E).env.cells.lookup x = some c → x = "__class__" ∧ c = cc := fun x c h => by
      have h' : ([(("__class__" : Str), cc)] : List (Str × Addr)).lookup x = some c := h
      by_cases e : x = "__class__"
      · subst e
        simp at h'
        exact ⟨rfl, h'.symm⟩
      · have e' : (x == ("__class__" : Str)) = false := by simpa using e
        simp [List.lookup, e'] at h'
    have Kcc : base.get? cc = some _ := e0.mod.kin _ _ hcell
    have hcc : H cc = none := (e0.bs _ _ Kcc).2
    refine ⟨⟨e0.mod, hkind, rfl, rfl, Nat.le_refl _, fun y z c h1 h2 => ?_, fun y hy => ?_, fun y c h _ => Bool.noConfusion h, fun _ => hr.hd, Around.frames_deeper e0.frames, .inr ⟨rfl, rfl⟩, fun b z => absurd z (by simp), e0.bs, e0.bsz, fun b _ _ z => absurd z (by simp), fun b z => absurd z (by simp), e0.funs, e0.frf⟩,
      rfl, e0.bare, Un.kept hk, ⟨_, hns, fun i y v' h1 h2 h3 => ?_⟩, fun y c h => ?_, e0.hok.fresh (Nat.le_refl _), fun y c h => ?_, fun p hp => absurd hp (by simp), e0.hok.kept hk, rfl⟩
    · rw [(one _ _ h1).1, (one _ _ h2).1]
    · have hy' : scope.names.lookup y = some .cell ∨ scope.names.lookup y = some .free := hy
      by_cases e : y = "__class__"
      · subst e
        exact ⟨cc, by show ([(("__class__" : Str), cc)] : List (Str × Addr)).lookup _ = _; simp⟩
      · rcases hy' with hy | hy
        · exact absurd rfl (hcell0 _ (PySem.mem_of_lookup hy))
        · exact absurd (honly y hy) e
    · have hi : i = 0 ∨ i = 1 := by
        have : i < 2 := by
          by_cases h : i < 2
          · exact h
          · rw [List.getElem?_eq_none (by simp; omega)] at h2
            cases h2
        omega
      rcases hi with rfl | rfl
      · cases h1
        cases h2
        exact ⟨_, rfl, .inl ⟨hself, by rfl⟩⟩
      · cases h1
        cases h2
        exact ⟨u, rv, .inl ⟨hvalue, by rfl⟩⟩
    · obtain ⟨_, rfl⟩ := one _ _ h
      exact ⟨_, _, kb _ _ Kcc, rfl⟩
    · obtain ⟨_, rfl⟩ := one _ _ h
      exact hcc
  show PySem.wpAt (model P w) (A.deeper (PySem.W.ksEnv qual scope s.heap.objs.size f (.ref cda) cc)) (.func (supBody p0 p1 p2 p3 p4 p5 p6 p7 p8 p9) (PySem.W.ksEnv qual scope s.heap.objs.size f (.ref cda) cc)) (execs (supBody p0 p1 p2 p3 p4 p5 p6 p7 p8 p9) (PySem.W.ksEnv qual scope s.heap.objs.size f (.ref cda) cc)) _ _ _
  generalize hX : cxS P w K mg base (PySem.W.ksEnv qual scope s.heap.objs.size f (.ref cda) cc) A outer s H E = X at I0
  have KX1 : K.In h1 := e0.mod.kin.keeps kb
  obtain ⟨nmC, qC, NC, bsC, bmC, snC, subC, abC, colC, ddC, k0, k1, k2, k3, k5, hC, hbm⟩ := T.cls
  obtain ⟨t1, hox⟩ := exo_at I0.hok ea
  have hcl : PySem.W.clsIn K C = some { name := nmC, bases := bsC, mro := .ref C :: bmC, ns := NC, qualname := qC, hasDict := true, slotNames := snC, subclasses := subC, abstract := abC, collection := colC, hasDel := false } := by unfold PySem.W.clsIn; rw [hC] <;> rfl
  obtain ⟨oD, hD1, hD2⟩ : ∃ oD, h1.get? D = some oD ∧ oD.data = .cls cdD := by
    unfold PySem.W.clsIn at hD
    split at hD
    · rename_i c d cd' sl ho
      cases hD
      exact ⟨_, KX1 _ _ ho, rfl⟩
    · cases hD
  have IA : PySem.W.InstAt h1 a { cls := .ref C, dict := none, data := .fields #[.ref t1, .none, .none, .none, .bool false, .none] } C none := ⟨hox, rfl, rfl, trivial⟩
  obtain ⟨mb, hbm', hbb⟩ := e0.mod.blt
  refine ks_wpAt_execs_cons (ks_wpAt_Expr_any (ks_wpAt_MethodCall (ks_wpAt_super_base hks hkc rfl rfl (KX1 _ _ lk) rfl hp rfl (KX1 _ _ hcode) rfl hvs hfile htop ?_) (hpl _)) (hsx _).1 (hsx _).2)
  refine PySem.W.ks_loadName_global hkind hks (PySem.Calls.loadGlobal_builtin (e0.mod.glob.keeps kb) hsuper (hbm'.keeps kb) ((hbb _ (by decide +kernel)).trans super_boot) ⟨rfl, ?_⟩)
  refine wpAny_loadName_free hkind hkc rfl ⟨_, KX1 _ _ hcell, rfl⟩ ?_
  rw [har]
  refine wpAny_loadName_local hkind hself hns rfl ?_
  refine ks_wpAny_isType_cls hD1 hD2 ⟨rfl, ?_⟩
  refine ks_wpAny_call_super hD1 hD2 hox rfl (fun c z => nomatch z) (PySem.W.looks_mroIn KX1 hm) (fun h2 e2 k2 => ?_)
  have hsi' := hsi
  unfold PySem.W.ks_superIn at hsi'
  rw [hcl] at hsi'
  have KX2 : K.In h2 := fun b o z => k2 _ _ (KX1 b o z)
  refine PySem.W.kxs_getMethod PySem.W.kxs_ValueError e2 (PySem.W.looks_opaque KX2 ho) (l₀ := .ref C :: bmC) (fun A Q E s k q => wpAny_bind ((PySem.W.looks_clsIn KX2 hcl) A _ E s k (wpAny_pure q))) rfl KX2 hsi' ((PySem.W.InstAt.type (show PySem.W.InstAt h2 a _ C none from ⟨k2 _ _ hox, rfl, rfl, trivial⟩)).andThen (PySem.W.looks_subIn KX2 hsub)) (PySem.W.ks_ne KX1 IA hcl) rfl ?_
  have Ih2 : Inv X [] [some (.ref a), some v] H { s with heap := h2, toks := s.toks } := I0.kept k2
  have Iu : Inv X [] [some (.ref a), some v] H { s with heap := h2.push (PySem.W.kxs_mw "ValueError.__init__" a), toks := s.toks + ([("self" : Str), "value"].zip [Value.ref a, u]).length + 1 } := Ih2.kept fun b o z => Heap.get?_push_of_some _ z
  have I3 : Inv X [(h2.objs.size, PySem.W.kxs_mw "ValueError.__init__" a)] [some (.ref a), some v] H { s with heap := h2.push (PySem.W.kxs_mw "ValueError.__init__" a), toks := s.toks + ([("self" : Str), "value"].zip [Value.ref a, u]).length + 1 } :=
    Iu.pins_of fun p hp => by
      rw [List.mem_singleton] at hp
      subst hp
      exact ⟨Heap.get?_push_at rfl rfl, Ih2.hok.fresh (Nat.le_refl _), Nat.ne_of_gt Ih2.lt, Ih2.nofs (Nat.le_refl _), fun v z => nomatch z⟩
  have hN0 : X.N[0]? = some ("self" : Str) := by subst hX; rfl
  have hN1 : X.N[1]? = some ("value" : Str) := by subst hX; rfl
  have hV0 : Vis X.env.scope "self" := by subst hX; exact .inl hself
  have hV1 : Vis X.env.scope "value" := by subst hX; exact .inl hvalue
  have ePA : PA X [.Name "value" p3] (tCons (tVar 1) tNil) := pa_cons (pe_var hN1 hV1) pa_nil
  have eX : X.env = PySem.W.ksEnv qual scope s.heap.objs.size f (.ref cda) cc := by subst hX; rfl
  have eA : X.A = A.deeper (PySem.W.ksEnv qual scope s.heap.objs.size f (.ref cda) cc) := by subst hX; rfl
  have eP : X.prog = P := by subst hX; rfl
  have eW : X.w = w := by subst hX; rfl
  have eK : X.K = K := by subst hX; rfl
  have main : wpAny (model X.prog X.w) X.A (callWith p4 (.ref h2.objs.size) [] (backTo p4 (starEach [.Name "value" p3] X.env)) [])
      (fun _ s' => wpAny (model X.prog X.w) X.A (execs [.Assign [.Attribute (.Name "self" p6) "value" p7] (.Name "value" p8) p9] X.env) (fun f s'' => CR CX0 outer P w H s Q E (.ok (.ret (match f with | .ret v => v | _ => .none))) s'') X.xe s') X.xe
      { s with heap := h2.push (PySem.W.kxs_mw "ValueError.__init__" a), toks := s.toks + ([("self" : Str), "value"].zip [Value.ref a, u]).length + 1 } := by
    refine PySem.W.kxs_callWith1 (x := a) (i := "ValueError.__init__") (h₀ := base) (L := X.env.locals) (news := [(h2.objs.size, PySem.W.kxs_mw "ValueError.__init__" a)]) (fun p hp => ?_) (by simp) ?_
    · rw [List.mem_singleton] at hp
      subst hp
      exact ⟨Heap.get?_push_at rfl rfl, Nat.ne_of_gt Ih2.lt, Heap.get?_none_of_le (Nat.le_trans e0.bsz (by subst hX; exact Ih2.sz))⟩
    refine thn (ePA.run p4 _ _ _ H (fun vs H1 => vs = [v] ∧ H = H1) I3 ⟨v, rfl, rfl, rfl⟩) fun us s1 hh => ?_
    obtain ⟨vs, H1, I1, r1, ev, eH⟩ := hh
    subst ev
    subst eH
    have hu : s1.heap.get? h2.objs.size = some (PySem.W.kxs_mw "ValueError.__init__" a) := (I1.pin (h2.objs.size, _) (List.mem_append_right _ (List.mem_singleton.mpr rfl))).1
    refine ⟨hu, ?_⟩
    have I1' : Inv X [] [some (.ref a), some v] H s1 := I1.pins_of fun p hp => absurd hp (by simp)
    have hC1 : s1.heap.get? C = some _ := (eK ▸ I1'.kIn : K.In s1.heap) _ _ hC
    obtain ⟨t2, ho2⟩ := exo_at (by rw [eP, eW] at *; exact I1'.hok) ea
    have hlen : us.length ≤ sizeLine := by
      rw [← Paired.length r1, sizeLine_eq]
      simp
    obtain ⟨hh, g, d, tk, os⟩ := s1
    refine wpAny_call (codeAny_of_tree ?_)
    show wpAny _ X.A.in1 (callAny (.ref h2.objs.size) ⟨us, []⟩) _ _ _
    simp only [callAny]
    refine wpAny_bind (wpAny_load hu ?_)
    simp only [PySem.W.kxs_mw, show (Value.type "method-wrapper" == Value.type "method" || Value.type "method-wrapper" == Value.type "builtin_function_or_method" || Value.type "method-wrapper" == Value.type "method-wrapper") = true by decide, if_true]
    refine PySem.W.KFB.if_so (by decide) ?_
    refine wpAny_bind (PySem.W.check_bound_init F.excBase_ValueError.toExcCallFacts hC1 ho2 rfl ?_)
    refine wpAny_bind (wpAny_pure (wpAny_pure ?_))
    refine ⟨plainId_quiet F.excBase_ValueError.init.plain _, codeAny_builtin F.excBase_ValueError.initEntry ?_⟩
    refine PySem.W.exc_init_tree (cls := .ref C) (t0 := t2) (dv := none) (c2 := .none) (c3 := .none) (b4 := .bool false) ho2 hlen (fun h' k e' t' => ?_)
    have J := I1'.write (t' := tk) (x := a) (e := a) (o := exo a C none) (by rw [ea]; exact True.intro) (.inl rfl) k ⟨_, e'⟩ (exo_ok e')
    have eu : upd H a (exo a C none) = H := by
      funext b
      by_cases hb : b = a
      · rw [hb, upd_same, ea]
      · rw [upd_ne hb]
    rw [eu] at J
    have ps : PS X (.Assign [.Attribute (.Name "self" p6) "value" p7] (.Name "value" p8) p9) (tOst X.K "value" (tVar 0) (tVar 1)) := ps_ost (pe_var hN0 hV0) (pe_var hN1 hV1) (by rw [eX]; exact hsw _)
    refine wpAny_mono ((pss_cons ps pss_nil).run [] _ _ H { nx := fun _ H' => Q .non H', rt := Q } J ⟨v, rfl, .ref a, rfl, a, C, rfl, eK ▸ T, eK ▸ hno, .inl ⟨ea, fun dx n ne => q dx n ne⟩⟩) (fun fl s' hs => ?_) (fun _ _ z => z)
    cases fl with
    | ret u =>
      obtain ⟨v, σ', H', J, rv, q⟩ := hs
      subst hX
      exact ⟨v, H', J.os, J.bare, J.base, J.hok, rv, q⟩
    | next =>
      obtain ⟨σ', H', J, q⟩ := hs
      subst hX
      exact ⟨V.non, H', J.os, J.bare, J.base, J.hok, rfl, q⟩
    | brk =>
      obtain ⟨_, _, _, q⟩ := hs
      exact False.elim q
    | cont =>
      obtain ⟨_, _, _, q⟩ := hs
      exact False.elim q
  subst hX
  exact wpAny_mono main (fun _ s' h => PySem.wpAt_of_wpAny h) (fun _ _ z => z)
end DL
/-! DMs: an error that an except suite holds (a pinned object): isinstance, its value, a def that is called with it -/
namespace DL
open PySem PySem.Spec PyProof.Rows L2
open L2H (RoomH PinOk cxH inv_startH)
/-- what the written part says of a class of errors -/
structure ErrC (K : PySem.W.Frag) (D fI C : Addr) : Prop where
  ox : OexC K C
  ec : ExcC K C
  xf : XfC K C
  nv : PySem.W.findIn K (.ref C) "value" = some none
  mr : PySem.W.mroIn K C (.ref D) = some true
  si : PySem.W.ks_superIn K C D "__init__" = some (some (.builtin "ValueError.__init__"))
  sv : PySem.W.subIn K (.ref C) (.type "ValueError") = some true
  iC : PySem.W.findIn K (.ref C) "__init__" = some (some (.ref fI))
/-- the context holds the error at a -/
def Held (X : Cx) (a : Addr) (cls : Value) (d : Option Addr) : Prop := ∃ oe : Obj, (a, oe) ∈ X.pn ∧ Zc cls d oe ∧ ∃ vs, oe.data = .fields vs
theorem held_suite {X : Cx} {a : Addr} {oe : Obj} {cls : Value} {d : Option Addr} {pn : List (Addr × Obj)} (hz : Zc cls d oe) (hf : ∃ vs, oe.data = .fields vs) : Held (X.suite a ((a, oe) :: pn)) a cls d := ⟨oe, List.mem_cons_self .., hz, hf⟩
section
variable {X : Cx} {a : Addr} {cls : Value} {d : Option Addr}
theorem Held.inst (h : Held X a cls d) {C dd : Addr} {fs : List (Str × V)} {pins : List (Addr × Obj)} {σ : L2.St} {H : Hp} {s : Shared} (I : Inv X pins σ H s) (hc : cls = .ref C) (hd : d = some dd) (e : H dd = some (.xd fs)) :
    ∃ oe od mA, PySem.W.InstAt s.heap a oe C (some od) ∧ s.heap.get? dd = some od ∧ s.heap.Ns1 dd mA ∧ ∀ f, RelO (fs.lookup f) (mA f) := by
  obtain ⟨oe, hm, hz, vs, hv⟩ := h
  subst hc
  subst hd
  have hx : ObjOk X.prog X.w H s.heap dd (.xd fs) := I.hok dd _ e
  obtain ⟨mA, hns, hr⟩ := hx
  obtain ⟨od, es, ep, ho, hr'⟩ := id hns
  exact ⟨oe, od, mA, ⟨(I.pin (a, oe) (List.mem_append_left _ hm)).1, hz.1, by unfold PySem.W.notCls; rw [hv], by rw [hz.2]; exact ho⟩, ho, hns, hr⟩
theorem exc_kit {K : PySem.W.Frag} {D x : Addr} {ox : Obj} {od : Option Obj} (c : ExcC K D) : PySem.W.KitX K (.ref x) (.ref D) (fun h => PySem.W.InstAt h x ox D od) :=
  PySem.W.kitx_exc (by obtain ⟨cd, hc, _⟩ := PySem.W.any_some c.hd; rw [hc]; rfl) c.hg c.hk c.hs c.ha c.hn c.ht c.hm
/-- isinstance(e, c) -/
def rIsX (K : PySem.W.Frag) (a : Addr) (cls : Value) (d : Option Addr) : List V → Hp → VK → Prop := fun xs H Q => ∃ (C dd : Addr) (fs : List (Str × V)) (c : V) (cv : Value) (b : Bool), xs = [.ref a, c] ∧ cls = .ref C ∧ d = some dd ∧ H dd = some (.xd fs) ∧ ExcC K C ∧ ClsV c cv ∧ PySem.W.kitOne K (.ref C) cv = some b ∧ Q (.bl b) H
theorem call_isX (hh : Held X a cls d) : CallR X (.builtin "isinstance") (rIsX X.K a cls d) := by
  intro pins s σ H xs us Q I r h
  obtain ⟨C, dd, fs, c, cv, b, rfl, hc, hd, hx, ec, k, e, q⟩ := h
  obtain ⟨u1, u2, rfl, r1, r2⟩ := vals2 r
  cases (show u1 = Value.ref a from r1)
  have e2 := k.eq r2
  subst e2
  obtain ⟨oe, od, _, J, _⟩ := hh.inst I hc hd hx
  exact PySem.W.kia_one (exc_kit ec) I.kIn J e (fun z => nomatch z) fun tk => ⟨.bl b, H, I.tok tk, rfl, q⟩
/-- isinstance(e, (c1, ..)) -/
def rIsXT (K : PySem.W.Frag) (a : Addr) (cls : Value) (d : Option Addr) : List V → Hp → VK → Prop := fun xs H Q => ∃ (C dd tp : Addr) (fs : List (Str × V)) (cs : List V) (cv : List Value) (b : Bool), xs = [.ref a, .ref tp] ∧ cls = .ref C ∧ d = some dd ∧ H dd = some (.xd fs) ∧ ExcC K C ∧ H tp = some (.tup cs) ∧ Paired ClsV cs cv ∧ PySem.W.kitAny K (.ref C) cv = some b ∧ Q (.bl b) H
theorem call_isXT (hh : Held X a cls d) : CallR X (.builtin "isinstance") (rIsXT X.K a cls d) := by
  intro pins s σ H xs us Q I r h
  obtain ⟨C, dd, tp, fs, cs, ws, b, rfl, hc, hd, hx, ec, hT, k, e, q⟩ := h
  obtain ⟨u1, u2, rfl, r1, r2⟩ := vals2 r
  cases (show u1 = Value.ref a from r1)
  cases (show u2 = Value.ref tp from r2)
  obtain ⟨oe, od, _, J, _⟩ := hh.inst I hc hd hx
  obtain ⟨_, its, rv, o, h1, h2, n, h3⟩ := (show ObjOk X.prog X.w H s.heap tp (.tup cs) from I.hok tp _ hT)
  have e3 := ClsV.all k rv
  subst e3
  obtain ⟨oc, od', dt, sl⟩ := o
  simp only at h2 h3
  subst h2 h3
  exact PySem.W.kia_tup (exc_kit ec) I.kIn J h1 e (fun z => nomatch z) fun tk => ⟨.bl b, H, I.tok tk, rfl, q⟩
/-- e.value -/
def tXv (K : PySem.W.Frag) (a : Addr) (cls : Value) (d : Option Addr) (f : Str) (te : TE) : TE := fun σ H Q => te σ H fun x H1 => ∃ (C dd : Addr) (fs : List (Str × V)) (v : V), x = .ref a ∧ cls = .ref C ∧ d = some dd ∧ XfC K C ∧ PySem.W.findIn K (.ref C) f = some none ∧ H1 dd = some (.xd fs) ∧ fs.lookup f = some v ∧ Q v H1
theorem pe_xv {e : Expr} {te : TE} {pos : Pos} {n : Str} (hh : Held X a cls d) (he : PE X e te) (hb : attributeBase e n X.env (eval e X.env) = eval e X.env := by rfl) : PE X (.Attribute e n pos) (tXv X.K a cls d n te) := by
  refine ⟨fun pins s σ H Q I h => attr_of hb (thn (he.run pins s σ H _ I h) fun u s1 h1 => ?_)⟩
  obtain ⟨x, H1, I1, rx, C, dd, fs, v, ex, hc, hd, T, hno, hx, l, q⟩ := h1
  subst ex
  obtain rfl : u = Value.ref a := rx
  obtain ⟨oe, od, mA, J, ho, hns, hr⟩ := hh.inst I1 hc hd hx
  obtain ⟨od', ho', hl⟩ := lookIn_ns hns
  rw [ho] at ho'
  cases ho'
  obtain ⟨u, hu, ru⟩ := RelO.some_of (v := v) (o := mA n) (by rw [← l]; exact hr n)
  exact HandSPX.exc_get I1.kIn J T.ga T.gg T.exC (PySem.W.findObj_own T.hdC hno rfl (by rw [hl, hu])) (handed_of ru) ⟨v, H1, I1.tok _, ru, q⟩
/-! ### a def that is called with the error -/
end
end DL
/-! DMt: errors over data: raise, try, what a suite asks of the error -/
namespace DL
open PySem PySem.Spec PyProof.Rows L2
section
variable {c : Ct} {G : List Sl} {s : c.S} {σ : L2.St} {H0 H : Hp} {P : Ds c.S}
/-- an object that nobody owns is known from here on -/
theorem Good.know {p : Addr} {o : HO} (g : Good c G s σ H0 H) (e : H p = some o) (ap : Apart G σ p) (hE : c.E p = none) (hB : ¬ c.B p) : Good c G s σ (upd H0 p o) H ∧ Same H0 (upd H0 p o) := by
  have e1 : Same H0 (upd H0 p o) := fun q u hq => by
    by_cases h : q = p
    · subst h
      rw [upd_same]
      exact e.symm.trans (g.sub _ _ hq)
    · rw [upd_ne h]
      exact hq
  have nne : ∀ q, q ≠ p → H0 q = none → upd H0 p o q = none := fun q hq h => by
    rw [upd_ne hq]
    exact h
  refine ⟨⟨fun q u hq => ?_, fun q hb => nne q (fun z => hB (z ▸ hb)) (g.av q hb), g.e0.trans e1, g.e1, fun q h h0 => nne q (fun z => h (z ▸ hE)) (g.e2 q h h0), c.stab _ _ _ _ _ g.rs e1 fun _ _ _ h => h, g.len, fun i x hx => ?_, g.ds⟩, e1⟩
  · by_cases h : q = p
    · subst h
      rw [upd_same] at hq
      rw [e]
      exact hq
    · rw [upd_ne h] at hq
      exact g.sub _ _ hq
  · have q := g.sl i x hx
    cases x with
    | un => trivial
    | dat d =>
      obtain ⟨v, h1, h2⟩ := q
      exact ⟨v, h1, h2.mono e1⟩
    | own w =>
      obtain ⟨r, h1, h2⟩ := q
      refine ⟨r, h1, h2.step e1 (nne r (fun z => ?_) h2.1) fun o h => h⟩
      subst z
      refine ap i w hx ?_
      cases hs : σ[i]? with
      | none =>
        rw [hs] at h1
        cases h1
      | some y =>
        rw [hs] at h1
        exact congrArg some h1
/-- a name that holds nothing -/
theorem Good.setNone (g : Good c G s σ H0 H) (i : Nat) : Good c (G.set i .un) s (σ.set i none) H0 H := by
  have g2 := g.forget i
  refine ⟨g2.sub, g2.av, g2.e0, g2.e1, g2.e2, g2.rs, by rw [List.length_set]; exact g2.len, fun j x hx => ?_, fun a b p w w' hab ha hb h1 h2 => ?_⟩
  · by_cases h : i = j
    · subst h
      have : x = .un := by
        rw [List.getElem?_set, if_pos rfl] at hx
        split at hx
        · exact (Option.some.inj hx).symm
        · cases hx
      subst this
      trivial
    · rw [List.getElem?_set_ne h]
      exact g2.sl j x hx
  · have ne : ∀ j w, (G.set i .un)[j]? = some (.own w) → i ≠ j := fun j w hj z => by
      subst z
      rw [List.getElem?_set, if_pos rfl] at hj
      split at hj <;> cases hj
    rw [List.getElem?_set_ne (ne a w ha)] at h1
    rw [List.getElem?_set_ne (ne b w' hb)] at h2
    exact g2.ds a b p w w' hab ha hb h1 h2
/-! ### raise -/
def tRaise (C : Addr) (sp : Sp) (ta : TA) (E : XK) : TS := fun _ σ H => tMkO C sp [] ta σ H fun cls d H' => E cls d H'
theorem ws_raise {Dp fI C : Addr} {E : XK} {ta : TA} (ec : ErrC c.K Dp fI C) (hE : E = c.EX) (h : WA c ta G s fun ds s1 => ∃ d, ds = [d] ∧ c.X C d s1) : WS c (tRaise C (supS c.K Dp) ta E) G s P := fun σ H0 H g D e =>
  h σ ([], []) H0 H (Gd.of g) _ fun ds s1 vs H1 H1' hp g1 e1 r1 => by
    obtain ⟨d, rfl, hx⟩ := hp
    cases r1 with
    | @cons v _ _ _ rv r1 =>
    cases r1
    refine ⟨by show 1 ≤ 1000; decide, fun a ha => ⟨a, C, v, rfl, ec.ox, ec.mr, ec.si, ec.sv, ec.nv, upd_same, fun dx n ne => ⟨rfl, dx, [("value", v)], upd_same, ?_, ?_, ?_⟩⟩⟩
    · rw [upd_ne ne, upd_same]
    · rw [upd_ne ne] at n
      exact n
    · rw [upd_ne ne] at n
      have eq : upd (del (upd (upd (upd H1' a (exo a C none)) dx (exd dx [("value", v)])) a (exo a C (some dx))) a) dx (.xd [("value", v)]) = upd H1' dx (.xd [("value", v)]) := by
        funext b
        by_cases hb : b = dx
        · rw [hb, upd_same, upd_same]
        · rw [upd_ne hb, upd_ne hb]
          by_cases hba : b = a
          · rw [hba, del_same, ha]
          · rw [del_ne hba, upd_ne hba, upd_ne hb, upd_ne hba]
      rw [eq, hE]
      have g2 := g1.gd
      have k : ∀ b o, H1' b = some o → upd H1' dx (.xd [("value", v)]) b = some o := fun b o z => by
        rw [upd_ne (ne_of_none z n)]
        exact z
      exact c.okX C d s1 v dx H1 _ hx g2.e0 (fun b o z => k b o (g2.sub b o z)) (fun b o hb hn => k b o (g2.e1 b o hb hn)) g2.e2 g2.av (c.stab _ _ _ _ _ g2.rs (Same.refl _) fun b o _ z => k b o z) ⟨(g2.newE n).1, upd_same⟩ rv
end
/-! ### what is known of a held error -/
def ErrAt (K : PySem.W.Frag) (H0 : Hp) (d : Option Addr) (dat : D) : Prop := ∃ dd v, d = some dd ∧ H0 dd = some (.xd [("value", v)]) ∧ Rep K H0 v dat
theorem ErrAt.mono {K : PySem.W.Frag} {H0 H : Hp} {d : Option Addr} {dat : D} (h : ErrAt K H0 d dat) (e : Same H0 H) : ErrAt K H d dat := by
  obtain ⟨dd, v, h1, h2, h3⟩ := h
  exact ⟨dd, v, h1, e _ _ h2, h3.mono e⟩
abbrev excCt (c : Ct) (d : Option Addr) (dat : D) : Ct where
  K := c.K
  S := c.S
  R := fun s H0 H => c.R s H0 H ∧ ErrAt c.K H0 d dat
  B := c.B
  stab := fun s H0 H H0' H' h e k => ⟨c.stab _ _ _ _ _ h.1 e k, h.2.mono e⟩
  there := fun s H0 H a h hb => c.there _ _ _ _ h.1 hb
  E0 := c.E0
  E := c.E
  EX := c.EX
  X := c.X
  okX := fun C d s v a H0' H' x e sub k n av rs ha r => c.okX C d s v a H0' H' x e sub k n av rs.1 ha r
section
variable {c : Ct} {G : List Sl} {s : c.S} {σ : L2.St} {H0 H : Hp} {d : Option Addr} {dat : D}
theorem Good.exc (g : Good c G s σ H0 H) (h : ErrAt c.K H0 d dat) : Good (excCt c d dat) G s σ H0 H := ⟨g.sub, g.av, g.e0, g.e1, g.e2, ⟨g.rs, h⟩, g.len, g.sl, g.ds⟩
theorem Good.unexc (g : Good (excCt c d dat) G s σ H0 H) : Good c G s σ H0 H := ⟨g.sub, g.av, g.e0, g.e1, g.e2, g.rs.1, g.len, g.sl, g.ds⟩
end
/-! ### try -/
/-- what a body that may raise has to be: its names stay -/
def WSX (c : Ct) (tb : WX → TS) (G : List Sl) (s : c.S) (P : Ds c.S) (XP : Addr → D → c.S → Prop) : Prop := ∀ σ H0 H, Good c G s σ H0 H → ∀ D : Ends, EOk c D P H0 G.length → ∀ W : WX,
  (∀ C d s' v dd H0' H', XP C d s' → Good c G s' σ H0' H' → Same H0 H0' → Apart G σ dd → c.E dd = none → ¬ c.B dd → H' dd = some (.xd [("value", v)]) → Rep c.K H0' v d → W (.ref C) (some dd) σ H') → tb W D σ H
def tIfX (t : TT) (u w : WX → TS) : WX → TS := fun W => tIfS t (u W) (w W)
def tDropX (te : WX → TE) : WX → TS := fun W => tDrop (te W)
def tTry (K : PySem.W.Frag) (c : Value) (i : Nat) (tb : WX → TS) (ts : Addr → Value → Option Addr → TS) (Wout : WX) : TS := fun D σ H => tb (wAs K c i ts Wout D) D σ H
section
variable {c : Ct} {G : List Sl} {s : c.S} {P : Ds c.S} {XP : Addr → D → c.S → Prop}
theorem wsx_if {t : TT} {u w : WX → TS} (h : WT c t G s fun b s1 => if b = true then WSX c u G s1 P XP else WSX c w G s1 P XP) : WSX c (tIfX t u w) G s P XP := fun σ H0 H g D e W wx =>
  h σ ([], []) H0 H (Gd.of g) _ fun b s1 H1 H1' hp g1 e1 => by
    cases b with
    | true => exact iteT ((show WSX c u G s1 P XP from hp) σ H1 H1' g1.to D (e.on e1) W fun C d s' v dd H0' H' a b k => wx C d s' v dd H0' H' a b (e1.trans k))
    | false => exact iteF ((show WSX c w G s1 P XP from hp) σ H1 H1' g1.to D (e.on e1) W fun C d s' v dd H0' H' a b k => wx C d s' v dd H0' H' a b (e1.trans k))
theorem wsx_call {f : FSpec} {ta : TA} (h : WA c ta G s fun ds s1 => ∃ XP', (∀ C d, XP' C d → XP C d s1) ∧ f ds (fun _ => P.nx G s1) XP') : WSX c (tDropX fun W => tCallS (PureSp c.K f) (L2.WE W) ta) G s P XP := fun σ H0 H g D e W wx =>
  h σ ([], []) H0 H (Gd.of g) _ fun ds s1 vs H1 H1' hp g1 e1 r1 => by
    obtain ⟨XP', hx, hf⟩ := hp
    refine ⟨ds, _, XP', hf, H1, g1.gd.sub, fun _ z => z.elim, r1, trivial, fun x s2 v H2 H2' hp t r => ?_, fun C d s2 v a H2 H2' hp t ha r => ?_⟩
    · exact e.nx _ s1 _ H2 H2' hp (g1.stepPure t).to (e1.trans t.ex) rfl
    · have n := g1.to.newE ha.1
      exact wx C d s1 v a H2 H2' (hx C d hp) (g1.stepPure t).to (e1.trans t.ex) (g1.to.apart ha.1) n.1 n.2.1 ha.2 r
/-- try: tb / except X as e: ts -/
theorem ws_try {K : PySem.W.Frag} {c0 : Value} {i : Nat} {tb : WX → TS} {ts : Addr → Value → Option Addr → TS} {Wout : WX} (hK : K = c.K) (XP : Addr → D → c.S → Prop) (h : WSX c tb G s P XP)
    (hs : ∀ C d s', XP C d s' → PySem.W.exmOne c.K (.ref C) c0 = some true ∧ ∀ a dd, WS (excCt c (some dd) d) (ts a (.ref C) (some dd)) (G.set i (.dat (.ref a))) s'
      { nx := fun G' s'' => P.nx (G'.set i .un) s'', rt := P.rt, bk := fun G' s'' => P.bk (G'.set i .un) s'', ct := fun G' s'' => P.ct (G'.set i .un) s'' }) : WS c (tTry K c0 i tb ts Wout) G s P := fun σ H0 H g D e => by
  subst hK
  refine h σ H0 H g D e _ fun C d s' v dd H0' H' hx g1 e1 ap nE nB hd r => ?_
  obtain ⟨h1, h2⟩ := hs C d s' hx
  refine ⟨true, h1, fun _ a ha => ?_, fun z => Bool.noConfusion z⟩
  obtain ⟨g2, e2⟩ := g1.know hd ap nE nB
  have g3 := (g2.setSl (v := .ref a) (x := .dat (.ref a)) i (.ref a)).exc (d := some dd) (dat := d) ⟨dd, v, rfl, upd_same, r.mono e2⟩
  have e3 := e1.trans e2
  have hl : ∀ {G' : List Sl}, G'.length = (G.set i (.dat (.ref a))).length → (G'.set i .un).length = G.length := fun {G'} z => by rw [List.length_set, z, List.length_set]
  refine h2 a dd _ _ _ g3 _ ⟨fun G' s'' σ' H0'' H'' hp g' k l => ?_, fun x s'' v G' σ' H0'' H'' hp g' ro => ?_, fun G' s'' σ' H0'' H'' hp g' k l => ?_, fun G' s'' σ' H0'' H'' hp g' k l => ?_⟩
  · exact e.nx _ s'' _ H0'' H'' hp (g'.unexc.setNone i) (e3.trans k) (hl l)
  · exact e.rt x s'' v G' σ' H0'' H'' hp g'.unexc ro
  · exact e.bk _ s'' _ H0'' H'' hp (g'.unexc.setNone i) (e3.trans k) (hl l)
  · exact e.ct _ s'' _ H0'' H'' hp (g'.unexc.setNone i) (e3.trans k) (hl l)
end
/-! ### what is asked of a held error -/
/-- a ground that knows the error -/
def Knows (c : Ct) (d : Option Addr) (dat : D) : Prop := ∀ s H0 H, c.R s H0 H → ErrAt c.K H0 d dat
theorem knows_exc {c : Ct} {d : Option Addr} {dat : D} : Knows (excCt c d dat) d dat := fun _ _ _ h => h.2
section
variable {c : Ct} {G : List Sl} {s : c.S} {P : Sl → c.S → Prop} {a C : Addr} {d : Option Addr} {dat : D} {i : Nat}
theorem we_isX {v : V} {u : Value} {b : Bool} (kn : Knows c d dat) (hi : G[i]? = some (.dat (.ref a))) (ec : ExcC c.K C) (k : ClsV v u) (e : PySem.W.kitOne c.K (.ref C) u = some b) (h : P (.dat (.bl b)) s) :
    WE c (tCB (rIsX c.K a (.ref C) d) (tCons (tVar i) (tCons (tC v) tNil))) G s P := fun σ F H0 H g Q q =>
  (we_var (P := FZ fun y s1 => y = .ref a ∧ s1 = s) hi (fz_dat ⟨rfl, rfl⟩)).use g fun y s1 w H1 H1' hp g1 e1 r1 => by
    obtain ⟨rfl, rfl⟩ := hp
    obtain ⟨dd, v', rfl, hd, _⟩ := kn _ _ _ g1.gd.rs
    exact ⟨C, dd, _, v, u, b, by rw [r1.refOf], rfl, rfl, g1.gd.sub _ _ hd, ec, k, e, q _ s1 _ H1 H1' h g1 e1 (.bl b)⟩
/-- the classes of a tuple that is written out -/
def tCs : List V → TA
  | [] => tNil
  | v :: vs => tCons (tC v) (tCs vs)
theorem tCs_go : ∀ {vs : List V} {σ : L2.St} {H : Hp} {Q : List V → Hp → Prop}, Q vs H → tCs vs σ H Q
  | [], _, _, _, q => q
  | v :: vs, _, _, _, q => tCs_go (vs := vs) q
theorem we_isXT {vs : List V} {us : List Value} {b : Bool} (kn : Knows c d dat) (hi : G[i]? = some (.dat (.ref a))) (ec : ExcC c.K C) (hl : vs.length ≤ 1000) (k : Paired ClsV vs us) (e : PySem.W.kitAny c.K (.ref C) us = some b) (h : P (.dat (.bl b)) s) :
    WE c (tCB (rIsXT c.K a (.ref C) d) (tCons (tVar i) (tCons (tTup (tCs vs)) tNil))) G s P := fun σ F H0 H g Q q =>
  show tVar i σ H (fun x H1 => tTup (tCs vs) σ H1 fun y H2 => rIsXT c.K a (.ref C) d [x, y] H2 Q) from (we_var (P := FZ fun y s1 => y = .ref a ∧ s1 = s) hi (fz_dat ⟨rfl, rfl⟩)).use g fun y s1 w H1 H1' hp g1 e1 r1 => by
    obtain ⟨rfl, rfl⟩ := hp
    obtain ⟨dd, v', rfl, hd, _⟩ := kn _ _ _ g1.gd.rs
    refine tCs_go ⟨Nat.le_trans hl (by decide), fun T hT => ?_⟩
    obtain ⟨g2, e2⟩ := g1.lay (o := .tup vs) hT
    exact ⟨C, dd, T, _, vs, us, b, by rw [r1.refOf], rfl, rfl, g2.gd.sub _ _ (e2 _ _ hd), ec, upd_same, k, e, q _ s1 _ _ _ h g2 (e1.trans e2) (.bl b)⟩
theorem we_xv (kn : Knows c d dat) (hi : G[i]? = some (.dat (.ref a))) (T : XfC c.K C) (hno : PySem.W.findIn c.K (.ref C) "value" = some none) (h : P (.dat dat) s) :
    WE c (tXv c.K a (.ref C) d "value" (tVar i)) G s P := fun σ F H0 H g Q q =>
  (we_var (P := FZ fun y s1 => y = .ref a ∧ s1 = s) hi (fz_dat ⟨rfl, rfl⟩)).use g fun y s1 w H1 H1' hp g1 e1 r1 => by
    obtain ⟨rfl, rfl⟩ := hp
    obtain ⟨dd, v', rfl, hd, rv⟩ := kn _ _ _ g1.gd.rs
    exact ⟨C, dd, _, v', r1.refOf, rfl, rfl, T, hno, g1.gd.sub _ _ hd, by rfl, q _ s1 _ H1 H1' h g1 e1 rv⟩
end
/-! ### defs -/
section
variable {P : Program} {w : World} {K : PySem.W.Frag} {mg : Str → Option Value} {base : Heap}
/-- a def that may raise -/
theorem ok_pureX {x qual : Str} {st : Stmt} {f : Addr} {fd : FuncData} {N ps : List Str} {k : Nat} (fs : FSpec) (F : L2.Fun K x qual st f fd) (S : FnScope N ps (defScope st)) (hl : ∀ ds P XP, fs ds P XP → ds.length = ps.length)
    (hbody : ∀ (cdv : Value) (A : Around) (outer : List Env) (s : Shared) (H : Hp) (E : XK), Room k (A.deeper (envOfC qual (defScope st) s.heap.objs.size f cdv)) →
      ∃ t, PSs (cxOf (L2.CX P w) P w K mg base N qual (defScope st) f cdv A outer s H E) (defBody st) t ∧
        ∀ ds Q XP, fs ds Q XP → ∀ H0 okX, WS (pureCt K H0 H E XP okX) t (ds.map Sl.dat ++ List.replicate (N.length - ds.length) .un) () { nx := fun _ _ => Q (.dat .non), rt := fun x _ => Q x }) : FnOk P w K mg base (L2.CX P w) (k + 1) f fd ps (PureSp K fs) := by
  refine F.okX S (fun vs H Q E h => ?_) (fun cdv A outer s H vs Q E hr h => ?_)
  · obtain ⟨ds, P, XP, hf, H0, _, _, ra, _⟩ := h
    rw [ra.len]
    exact hl _ _ _ hf
  · obtain ⟨t, ht, hb⟩ := hbody cdv A outer s H E hr
    refine ⟨t, ht, ?_⟩
    obtain ⟨ds, P, XP, hf, H0, sub, av, ra, rs, kQ, kX⟩ := h
    have hw := hb ds P XP hf H0 kX
    refine hw _ _ _ (Good.start (c := pureCt K H0 H E XP kX) (N := N) ra sub av rs) _ ⟨fun G s1 σ H0' H' hp g _ _ => ?_, fun y s1 v G σ H0' H' hp g ro => ?_, fun _ _ _ _ _ h => h.elim, fun _ _ _ _ _ h => h.elim⟩
    · exact kQ _ s1 _ H0' H' hp ⟨g.e0, g.sub, g.e1, g.e2, g.av, g.rs⟩ .non
    · refine kQ _ s1 _ H0' H' hp ⟨g.e0, g.sub, g.e1, g.e2, g.av, g.rs⟩ ?_
      cases y with
      | un => trivial
      | dat d => exact ro
      | own w =>
        obtain ⟨a, rfl, ⟨n0, n1, nb, u, hu, k⟩, _⟩ := ro
        exact ⟨a, rfl, n0, n1, nb, u, hu, k⟩
end
end DL
/-! DMu: raise, try and held errors as rules for the text -/
namespace DL
open PySem PySem.Spec PyProof.Rows L2
/-- what the text says of an __init__ that says super().__init__(value) -/
structure SupTxt (P : Program) (st : Stmt) : Prop where
  all : ∃ (p0 p1 p2 p3 p4 p5 p6 p7 p8 p9 : Pos) (ar : Arg), defBody st = supBody p0 p1 p2 p3 p4 p5 p6 p7 p8 p9 ∧ ((defArgs st).posonlyargs ++ (defArgs st).args).head? = some ar ∧ ar.arg = "self" ∧
    (defScope st).names.lookup ("super" : Str) = some .globalImplicit ∧ (defScope st).names.lookup ("__class__" : Str) = some .free ∧ (∀ y : Str, (defScope st).names.lookup y = some .free → y = "__class__") ∧
    (defScope st).names.lookup ("self" : Str) = some .local ∧ (defScope st).names.lookup ("value" : Str) = some .local ∧ (defScope st).kind = .function ∧ (defScope st).isCoroutine = false ∧ (defScope st).isGenerator = false ∧ (∀ x ∈ (defScope st).names, x.2 ≠ .cell) ∧
    (∀ (qual : Str) (f cda cc : Addr), ∃ pl : Sem Bool, ∀ L : Addr, eval (.Call (.Attribute (.Call (.Name "super" p0) [] [] p1) "__init__" p2) [.Name "value" p3] [] p4) (PySem.W.ksEnv qual (defScope st) L f (.ref cda) cc) = (do
      let ov ← attributeBase (.Call (.Name "super" p0) [] [] p1) "__init__" (PySem.W.ksEnv qual (defScope st) L f (.ref cda) cc) (eval (.Call (.Name "super" p0) [] [] p1) (PySem.W.ksEnv qual (defScope st) L f (.ref cda) cc))
      standAt p2.atName
      let (g, first) ← holding [ov] (getMethod ov "__init__" pl)
      callWith p4 g first (backTo p4 (starEach [.Name "value" p3] (PySem.W.ksEnv qual (defScope st) L f (.ref cda) cc))) [])) ∧
    (∀ (qual : Str) (f cda cc L : Addr), interactive (PySem.W.ksEnv qual (defScope st) L f (.ref cda) cc) = false ∧ swapsWith (.Call (.Attribute (.Call (.Name "super" p0) [] [] p1) "__init__" p2) [.Name "value" p3] [] p4) none p5.line (PySem.W.ksEnv qual (defScope st) L f (.ref cda) cc) = pure false) ∧
    ∀ (qual : Str) (f cda cc L : Addr), swapsWith (.Name "value" p8) (some (.Attribute (.Name "self" p6) "value" p7)) p9.line (PySem.W.ksEnv qual (defScope st) L f (.ref cda) cc) = pure false
theorem sup_mk {P : Program} {K : PySem.W.Frag} {f D cda cc : Addr} {st : Stmt} {name qual : Str} {dV kV doc pm ct oc ccl cl : Value} {an od cdd cld : Option Addr} {osl ccs csl : Array (Option Value)} {vs : Array Value} {file : Str} {tf : Tok} {cdD : ClassData} (txt : SupTxt P st) (htop : (P.main.scope.names.lookup ("super" : Str)).isSome = false)
    (l : K.lookup f = some ⟨oc, od, .func (PySem.W.ksFn name qual (defArgs st) (defBody st) (defScope st) dV kV doc pm an (.ref cda) ct cc), osl⟩) (c : PySem.W.codeIn K (.ref cda) qual = true) (lc : K.lookup cda = some ⟨ccl, cdd, .fields vs, ccs⟩) (hv : vs[2]? = some (.str file tf)) (hf : ((P.main.file : Str) == file) = true)
    (lcc : K.lookup cc = some ⟨cl, cld, .cell (some (.ref D)), csl⟩) (hD : PySem.W.clsIn K D = some cdD) : SupOk P K f D (PySem.W.ksFn name qual (defArgs st) (defBody st) (defScope st) dV kV doc pm an (.ref cda) ct cc) := by
  obtain ⟨p0, p1, p2, p3, p4, p5, p6, p7, p8, p9, ar, hb, h1, h2, h3, h4, h5, h6, h7, h8, h9, h10, h11, h13, h14, h15⟩ := txt.all
  rw [hb] at l ⊢
  exact ⟨name, qual, defArgs st, defScope st, dV, kV, doc, pm, ct, oc, an, od, osl, cda, cc, p0, p1, p2, p3, p4, p5, p6, p7, p8, p9, ar, vs, file, tf, ccl, cl, cdd, cld, ccs, csl, cdD, rfl, l, c, h1, h2, lc, hv, hf, lcc, hD, h3, h4, h5, h6, h7, h8, h9, h10, h11, htop, h13 _ _ _ _, h14 _ _ _ _, h15 _ _ _ _⟩
/-- the errors' own __init__ -/
structure ErrEnv (P : Program) (w : World) (K : PySem.W.Frag) (mg : Str → Option Value) (base : Heap) (Dp fI : Addr) (fd : FuncData) : Prop where
  ok : FnOk P w K mg base CX0 1 fI fd ["self", "value"] (supS K Dp)
  bd : Binds K fd ["self", "value"] []
  ty : PySem.W.typeIn K (.ref fI) = some (.type "function")
/-- a class of errors by its name -/
structure ErrName (K : PySem.W.Frag) (mg : Str → Option Value) (Dp fI : Addr) (x : Str) (C : Addr) : Prop where
  ec : ErrC K Dp fI C
  mg : mg x = some (.ref C)
theorem passD0 {X : Cx} {E : XK} : Passes CX0 X E := fun _ _ _ _ _ _ _ z => z.elim
theorem RoomH.units {k : Nat} {A : Around} (r : L2H.RoomH k A) : A.units + 64 < cLine := by
  have := r.un
  omega
section
variable {X : Cx} {K : PySem.W.Frag}
/-- raise C(e) -/
theorem ps_rz {Dp fI C : Addr} {fd : FuncData} {E : XK} {x : Str} {e : Expr} {es : List Expr} {p pos pos2 : Pos} {ta : TA} (hK : X.K = K) (hc : X.calm = true) (tk : Takes X fun cls d _ H => E cls d H) (V : ErrEnv X.prog X.w K X.mg X.base Dp fI fd) (N : ErrName K X.mg Dp fI x C) (hr : Room 2 X.A) (hg : Gl X x) (ha : PA X (e :: es) ta)
    (hdb : (x == ("__debug__" : Str)) = false := by decide) (he : starEach (e :: es) X.env = (false, eval e X.env) :: starEach es X.env := by rfl) (hpl : (backTo pos (starEach es X.env)).any (·.1) = false := by rfl) :
    PS X (.Raise (some (.Call (.Name x p) (e :: es) [] pos)) none pos2) (tRaise C (supS K Dp) ta E) := by
  subst hK
  exact ps_raise hc tk (pmk_oex N.ec.ox N.ec.iC V.ty V.ok hr V.bd .nil passD0 hg N.mg ha hdb he hpl)
theorem call_isXK {a : Addr} {cls : Value} {d : Option Addr} (hK : X.K = K) (hh : Held X a cls d) : CallR X (.builtin "isinstance") (rIsX K a cls d) := by
  subst hK
  exact call_isX hh
theorem call_isXTK {a : Addr} {cls : Value} {d : Option Addr} (hK : X.K = K) (hh : Held X a cls d) : CallR X (.builtin "isinstance") (rIsXT K a cls d) := by
  subst hK
  exact call_isXT hh
theorem pe_xvK {a : Addr} {cls : Value} {d : Option Addr} {e : Expr} {te : TE} {pos : Pos} {n : Str} (hK : X.K = K) (hh : Held X a cls d) (he : PE X e te) (hb : attributeBase e n X.env (eval e X.env) = eval e X.env := by rfl) : PE X (.Attribute e n pos) (tXv K a cls d n te) := by
  subst hK
  exact pe_xv hh he hb
/-- try: body / except x as n: suite -/
theorem ps_tryK {x n : Str} {c : Value} {i : Nat} {body suite : List Stmt} {b₀ : Stmt} {np pos pos' : Pos} {tb : WX → TS} {ts : Addr → Value → Option Addr → TS} {Wout : WX} (hK : X.K = K) (hs : X.stack = X.env :: X.outer) (hf : X.env.frame = some X.env.locals) (hN : X.N.Nodup) (hi : X.N[i]? = some n) (hln : X.env.kindOf n = some .local) (hc : L2.Names X x c) (tk : Takes X Wout)
    (hb : ∀ (W : WX) (pn : List (Addr × Obj)) (xe : Value → Shared → Prop), Takes (X.tr pn xe) W → PassesOwn (model X.prog X.w) X.A X.env xe → PSs (X.tr pn xe) body (tb W))
    (hsu : ∀ (a : Addr) (oe : Obj) (cls : Value) (d : Option Addr) (pn : List (Addr × Obj)), Zc cls d oe → (∃ vs, oe.data = .fields vs) → PSs (X.suite a ((a, oe) :: pn)) (b₀ :: suite) (ts a cls d)) :
    PS X (.Try body [.ExceptHandler (some (.Name x np)) (some n) (b₀ :: suite) pos'] [] [] pos) (tTry K c i tb ts Wout) := by
  subst hK
  exact ps_try_as hs hf hN hi hln hc tk hb hsu
/-- f(x=e, ..) of a def that may raise -/
def tCallNS (sp : Sp) (n : Nat) (perm : List Nat) (E : L2.St → XK) (t : TA) : TE := fun σ H Q => t σ H fun zs H1 => zs.length = n ∧ sp (pick perm zs) H1 Q (E σ)
theorem pe_callNS {CX : CXT} {k : Nat} {f : Addr} {fd : FuncData} {ps ks : List Str} {sp : Sp} {E : L2.St → XK} {x : Str} {p pos : Pos} {kws : List Keyword} {t : TA} {perm : List Nat} (F : FnOk X.prog X.w X.K X.mg X.base CX k f fd ps sp) (hr : Room k X.A) (hg : Gl X x) (hm : X.mg x = some (.ref f)) (hk : PySem.W.keepIn X.K (.ref f) = true)
    (hb : KB fd ps ks perm) (hx : ∀ σ, PassesAt CX X σ (E σ)) (hkw : PK X kws t)
    (hall : (backToKw pos (keywordEach kws X.env)).all (·.1.isSome) = true := by rfl) (hks : (backToKw pos (keywordEach kws X.env)).filterMap (·.1) = ks := by rfl) (hdb : (x == ("__debug__" : Str)) = false := by decide)
    (hpl : ((backTo pos (starEach [] X.env)).any (·.1) || (backToKw pos (keywordEach kws X.env)).any (·.1.isNone)) = false := by rfl) : PE X (.Call (.Name x p) [] kws pos) (tCallNS sp ks.length perm E t) := by
  constructor
  intro pins s σ H Q I h
  refine wpAny_Call_Name_kw (ld_glob I hg hm ?_ hdb)
  refine PySem.W.callWith_KW0 (h₀ := X.base) I.ok.mod.kin hk hall (thn (hkw.run pos pins s σ H _ I h) fun ws s1 ⟨zs, H1, I1, r, hl, q⟩ => ⟨I1.kIn, ?_⟩) hpl
  rw [hks]
  have hlw : ws.length = ks.length := by
    rw [← r.length]
    exact hl
  refine wpAny_call (codeAny_mono (F.run X.A X.stack s1 H1 ⟨[], ks.zip ws⟩ (pick perm ws) (pick perm zs) Q (E σ) hr I1.env0 (.of_eq (hb ws hlw)) (pick_vals r perm) q) fun res s2 hq => ?_)
  match res, hq with
  | .error er, hq => exact hx σ pins H1 s1 er s2 I1 hq
  | .ok (.ret u), hq => exact I1.after hq
  | .ok .next, hq => exact False.elim hq
  | .ok .brk, hq => exact False.elim hq
  | .ok .cont, hq => exact False.elim hq
end
section
variable {c : Ct} {G : List Sl} {s : c.S} {P : Ds c.S} {XP : Addr → D → c.S → Prop}
theorem wsx_callN {f : FSpec} {ta : TA} {n : Nat} {perm : List Nat} (h : WA c ta G s fun ds s1 => ds.length = n ∧ ∃ XP', (∀ C d, XP' C d → XP C d s1) ∧ f (pick perm ds) (fun _ => P.nx G s1) XP') : WSX c (fun W => tDrop (tCallNS (PureSp c.K f) n perm (L2.WE W) ta)) G s P XP := fun σ H0 H g D e W wx =>
  h σ ([], []) H0 H (Gd.of g) _ fun ds s1 vs H1 H1' hp g1 e1 r1 => by
    obtain ⟨hl, XP', hx, hf⟩ := hp
    refine ⟨by rw [r1.len]; exact hl, pick perm ds, _, XP', hf, H1, g1.gd.sub, fun _ z => z.elim, pick_rep r1 perm, trivial, fun x s2 v H2 H2' hp t r => ?_, fun C d s2 v a H2 H2' hp t ha r => ?_⟩
    · exact e.nx _ s1 _ H2 H2' hp (g1.stepPure t).to (e1.trans t.ex) rfl
    · have n := g1.to.newE ha.1
      exact wx C d s1 v a H2 H2' (hx C d hp) (g1.stepPure t).to (e1.trans t.ex) (g1.to.apart ha.1) n.1 n.2.1 ha.2 r
theorem wsx_if' {t : TT} {u w : WX → TS} (h : WT c t G s fun b s1 => if b = true then WSX c u G s1 P XP else WSX c w G s1 P XP) : WSX c (fun W => tIfS t (u W) (w W)) G s P XP := wsx_if h
theorem wsx_call' {f : FSpec} {ta : TA} (h : WA c ta G s fun ds s1 => ∃ XP', (∀ C d, XP' C d → XP C d s1) ∧ f ds (fun _ => P.nx G s1) XP') : WSX c (fun W => tDrop (tCallS (PureSp c.K f) (L2.WE W) ta)) G s P XP := wsx_call h
end
end DL
/-! DMv: questions -/
namespace DL
open PySem PySem.Spec PyProof.Rows L2
inductive Qn where
  | any | neg (q : Qn) | both (p q : Qn) | some (p : Qn) (a : Nat) (q : Qn)
  deriving DecidableEq
namespace Qn
def D : Qn → DL.D
  | .any => .tup [.str "any"]
  | .neg q => .tup [.str "not", q.D]
  | .both p q => .tup [.str "both", p.D, q.D]
  | .some p a q => .tup [.str "some", p.D, .str (rowS [a]), q.D]
def parts : Qn → List DL.D
  | .any => [.str "any"]
  | .neg q => [.str "not", q.D]
  | .both p q => [.str "both", p.D, q.D]
  | .some p a q => [.str "some", p.D, .str (rowS [a]), q.D]
theorem D_parts : ∀ q : Qn, q.D = .tup q.parts
  | .any => rfl
  | .neg _ => rfl
  | .both _ _ => rfl
  | .some _ _ _ => rfl
def size : Qn → Nat
  | .any => 1
  | .neg q => q.size + 1
  | .both p q => p.size + q.size + 1
  | .some p _ q => p.size + q.size + 1
/-- how deep it lies within itself -/
def ht : Qn → Nat
  | .any => 1
  | .neg q => q.ht + 1
  | .both p q => max p.ht q.ht + 1
  | .some p _ q => max p.ht q.ht + 1
def depth : Qn → Nat
  | .any => 0
  | .neg q => q.depth
  | .both p q => max p.depth q.depth
  | .some p _ q => max p.depth q.depth + 1
/-- its letters are among A -/
def In (A : List Nat) : Qn → Prop
  | .any => True
  | .neg q => q.In A
  | .both p q => p.In A ∧ q.In A
  | .some p a q => p.In A ∧ a ∈ A ∧ q.In A
def lets : Qn → LRow → Bool
  | .any, _ => true
  | .neg q, l => !q.lets l
  | .both p q, l => p.lets l && q.lets l
  | .some p a q, l => (List.range l.length).any fun i => l[i]? == Option.some a && (p.lets (l.take i) && q.lets (l.drop (i + 1)))
def turn : Qn → Qn
  | .any => .any
  | .neg q => .neg q.turn
  | .both p q => .both p.turn q.turn
  | .some p a q => .some q.turn a p.turn
theorem ht_le : ∀ q : Qn, q.ht ≤ q.size
  | .any => Nat.le_refl _
  | .neg q => by have := q.ht_le; show q.ht + 1 ≤ q.size + 1; omega
  | .both p q => by have := p.ht_le; have := q.ht_le; show max p.ht q.ht + 1 ≤ p.size + q.size + 1; omega
  | .some p a q => by have := p.ht_le; have := q.ht_le; show max p.ht q.ht + 1 ≤ p.size + q.size + 1; omega
theorem In.mono {A B : List Nat} (h : ∀ a ∈ A, a ∈ B) : ∀ {q : Qn}, q.In A → q.In B
  | .any, _ => trivial
  | .neg q, k => In.mono (q := q) h k
  | .both p q, k => ⟨In.mono (q := p) h k.1, In.mono (q := q) h k.2⟩
  | .some p a q, k => ⟨In.mono (q := p) h k.1, h a k.2.1, In.mono (q := q) h k.2.2⟩
def Met (l : LRow) (p : Qn) (a : Nat) (q : Qn) (i : Nat) : Prop := l[i]? = Option.some a ∧ p.lets (l.take i) = true ∧ q.lets (l.drop (i + 1)) = true
end Qn
/-- _law_query -/
def qryS (D : Nat) : RSpec poolRes := fun _ ds (n : Nat) P _ => ∃ wd : Nat, wd < D ∧ ∃ (names : DL.D) (A : List Nat) (dp : Nat), ds = [names, .int ((dp : Nat) : Int), .int ((wd : Nat) : Int)] ∧ Names names A ∧ wd ≤ 1000 ∧ dp ≤ 100 ∧ 6 * wd + 4 ≤ n ∧
  ∀ (q : Qn) (n' : Nat), q.In A → q.depth ≤ dp → q.size ≤ max wd 1 → n ≤ n' + 6 * wd + 4 → P (.dat q.D) n'
theorem u_qry {D n : Nat} {names : DL.D} {A : List Nat} {dI wI : Int} {p : Addr} {Q : Sl → Nat → Prop} {XP : Addr → DL.D → Nat → Prop} (hN : Names names A) (h1 : 0 ≤ wI) (h2 : wI < D) (h3 : wI ≤ 1000) (h4 : 0 ≤ dI) (h5 : dI ≤ 100) (h6 : 6 * wI.toNat + 4 ≤ n)
    (k : ∀ (q : Qn) (n' : Nat), q.In A → q.depth ≤ dI.toNat → q.size ≤ max wI.toNat 1 → n ≤ n' + 6 * wI.toNat + 4 → Q (.dat q.D) n') : qryS D p [names, .int dI, .int wI] n Q XP :=
  ⟨wI.toNat, by omega, names, A, dI.toNat, by rw [Int.toNat_of_nonneg h1, Int.toNat_of_nonneg h4], hN, by omega, by omega, h6, k⟩
/-- _law_steep -/
def steepS (D : Nat) : RSpec poolRes := fun _ ds (n : Nat) P _ => ∃ dp : Nat, dp < D ∧ ∃ (names : DL.D) (A : List Nat), ds = [names, .int ((dp : Nat) : Int)] ∧ Names names A ∧ dp ≤ 100 ∧ 50 * dp + 4 ≤ n ∧
  ∀ (q : Qn) (n' : Nat), q.In A → q.depth ≤ dp → q.size ≤ 8 * dp + 1 → n ≤ n' + 50 * dp + 4 → P (.dat q.D) n'
theorem u_steep {D n : Nat} {names : DL.D} {A : List Nat} {dI : Int} {p : Addr} {Q : Sl → Nat → Prop} {XP : Addr → DL.D → Nat → Prop} (hN : Names names A) (h1 : 0 ≤ dI) (h2 : dI < D) (h3 : dI ≤ 100) (h6 : 50 * dI.toNat + 4 ≤ n)
    (k : ∀ (q : Qn) (n' : Nat), q.In A → q.depth ≤ dI.toNat → q.size ≤ 8 * dI.toNat + 1 → n ≤ n' + 50 * dI.toNat + 4 → Q (.dat q.D) n') : steepS D p [names, .int dI] n Q XP :=
  ⟨dI.toNat, by omega, names, A, by rw [Int.toNat_of_nonneg h1], hN, by omega, h6, k⟩
/-- _law_any_query -/
def anyqS : RSpec poolRes := fun _ ds (n : Nat) P _ => ∃ (dp wd : Nat) (names : DL.D) (A : List Nat), ds = [names, .int ((dp : Nat) : Int), .int ((wd : Nat) : Int)] ∧ Names names A ∧ dp ≤ 10 ∧ wd ≤ 60 ∧ 1000 ≤ n ∧
  ∀ (q : Qn) (n' : Nat), q.In A → q.depth ≤ dp → q.size ≤ max wd (8 * dp + 1) → n ≤ n' + 1000 → P (.dat q.D) n'
theorem u_anyq {n : Nat} {names : DL.D} {A : List Nat} {dI wI : Int} {p : Addr} {Q : Sl → Nat → Prop} {XP : Addr → DL.D → Nat → Prop} (hN : Names names A) (h1 : 0 ≤ wI ∧ wI ≤ 60) (h4 : 0 ≤ dI ∧ dI ≤ 10) (h6 : 1000 ≤ n)
    (k : ∀ (q : Qn) (n' : Nat), q.In A → q.depth ≤ dI.toNat → q.size ≤ max wI.toNat (8 * dI.toNat + 1) → n ≤ n' + 1000 → Q (.dat q.D) n') : anyqS p [names, .int dI, .int wI] n Q XP :=
  ⟨dI.toNat, wI.toNat, names, A, by rw [Int.toNat_of_nonneg h1.1, Int.toNat_of_nonneg h4.1], hN, by omega, by omega, h6, k⟩
/-- _law_lets -/
def letsS (D : Nat) : FSpec := fun ds P _ => ∃ sz : Nat, sz < D ∧ ∃ (l : LRow) (q : Qn), ds = [.str (rowS l), q.D] ∧ q.ht = sz ∧ l.length ≤ 1000 ∧ P (.dat (.bl (q.lets l)))
theorem u_letsH {D : Nat} {l : LRow} {q : Qn} {P : Sl → Prop} {XP : Addr → DL.D → Prop} (h : q.ht < D) (hl : l.length ≤ 1000) (k : P (.dat (.bl (q.lets l)))) : letsS D [.str (rowS l), q.D] P XP := ⟨_, h, l, q, rfl, rfl, hl, k⟩
theorem u_lets {D : Nat} {l : LRow} {q : Qn} {P : Sl → Prop} {XP : Addr → DL.D → Prop} (h : q.size < D) (hl : l.length ≤ 1000) (k : P (.dat (.bl (q.lets l)))) : letsS D [.str (rowS l), q.D] P XP := u_letsH (Nat.lt_of_le_of_lt q.ht_le h) hl k
section
variable {c : Ct} {G : List Sl} {s : c.S} {P : Sl → c.S → Prop}
theorem dop_fdivN {i j : Int} (h1 : 0 < j) (h3 : j < 2 ^ 60) (k : P (.dat (.int (i / j))) s) : DOp c (rI CDivW fun i j => V.int (i / j)) (.int i) (.int j) G s P := fun σ F H0 H v w gd r1 r2 Q q => by
  cases r1
  cases r2
  exact ⟨i, j, rfl, rfl, ⟨h1, by
    by_cases z : j.natAbs = 0
    · rw [z]; decide
    · have := (Nat.log2_lt z).mpr (show j.natAbs < 2 ^ 60 by omega); omega⟩, q _ s _ H0 H k gd (Same.refl _) (.int _)⟩
theorem dl_names {names : DL.D} {A : List Nat} (hN : Names names A) (k : P (.dat (.int A.length)) s) : DCB c (qLen c.K) [names] G s P := by
  obtain ⟨hA0, hA1, hN⟩ := hN
  rcases hN with rfl | rfl
  · have e : (PySem.Str.length ⟨A.toArray⟩ : Nat) = A.length := by simp [PySem.Str.length]
    exact dl_str (by rw [e]; omega) (by rw [e]; exact k)
  · exact dl_lst (by rw [List.length_map]; exact k)
theorem di_names {names : DL.D} {A : List Nat} {z : Int} (hN : Names names A) (h0 : 0 ≤ z) (h1 : z < A.length) (k : ∀ a, a ∈ A → P (.dat (.str (rowS [a]))) s) : DOp c (rIx c.K) names (.int z) G s P := by
  obtain ⟨hA0, hA1, hN⟩ := hN
  obtain ⟨m, rfl⟩ := Int.eq_ofNat_of_zero_le h0
  have hm : m < A.length := by omega
  rcases hN with rfl | rfl
  · have e : (PySem.Str.length ⟨A.toArray⟩ : Nat) = A.length := by simp [PySem.Str.length]
    exact di_str (a := A[m]) (by rw [e]; omega) (atI_nat rfl (by simp [hm])) (k _ (List.getElem_mem hm))
  · exact di_lst (d := .str ⟨#[A[m]]⟩) (atI_nat rfl (by simp [hm])) (k _ (List.getElem_mem hm))
theorem Names.pos {names : DL.D} {A : List Nat} (hN : Names names A) : 0 < A.length ∧ A.length ≤ 1000 := ⟨List.length_pos_iff.mpr hN.1, hN.2.1⟩
theorem di_qn {q : Qn} {i : Int} {d : DL.D} (h : atI q.parts i = Option.some d) (k : P (.dat d) s) : DOp c (rIx c.K) q.D (.int i) G s P := by
  rw [q.D_parts]
  exact di_tup h k
end
end DL
/-! DMw: types of data, a dict of the module, all and any, questions in parts -/
namespace DL
open PySem PySem.Spec PyProof.Rows L2
def D.ty : DL.D → Option String
  | .non => Option.some "NoneType"
  | .bl _ => Option.some "bool"
  | .int _ => Option.some "int"
  | .str _ => Option.some "str"
  | .tup _ => Option.some "tuple"
  | .lst _ => Option.some "list"
  | .ref _ => Option.none
theorem Rep.ty {K : PySem.W.Frag} {H0 H : Hp} {v : V} {d : D} {n : String} (e : Same H0 H) (r : Rep K H0 v d) (h : d.ty = Option.some n) : TyX K H v (.type n) := by
  cases r with
  | non => cases h; exact .base .non
  | bl b => cases h; exact .base (.bl b)
  | int i => cases h; exact .base (.int i)
  | str x => cases h; exact .base (.str x)
  | ref a => cases h
  | tup h1 _ =>
    cases h
    rcases h1 with (q | ⟨o, q⟩) | ⟨o, its, n, q, c, _⟩
    · exact .base (.tup (e _ _ q))
    · exact .fTuple (e _ _ q)
    · exact .kTuple q c
  | lst h1 _ => cases h; exact .base (.lst (e _ _ h1))
/-- a dict of the module: texts to numbers -/
structure KTab (K : PySem.W.Frag) (w : World) (mg : Str → Option Value) (x : Str) (a : Addr) (tab : List (Str × Int)) : Prop where
  mg : mg x = Option.some (.ref a)
  kd : ∃ es n, KDict K w a es n
  hit : ∀ p ∈ tab, ∃ t, PySem.W.nsIn K a p.1 = Option.some (Option.some (.int p.2 t))
def rNinTab (K : PySem.W.Frag) (a : Addr) : R2 := fun x y H Q => ∃ (z : Str) (r : Option Value), x = .str z ∧ y = .ref a ∧ PySem.W.nsIn K a z = Option.some r ∧ Q (.bl (!r.isSome)) H
section
variable {c : Ct} {G : List Sl} {s : c.S} {P : Sl → c.S → Prop}
theorem we_isi {te : TE} {n : String} (h : WE c te G s (FZ fun d s1 => d.ty = Option.some n ∧ P (.dat (.bl true)) s1)) : WE c (tCB (rIsi c.K) (tCons te (tCons (tC (.ty n)) tNil))) G s P := fun σ F H0 H g Q q =>
  h.use g fun d s1 v H1 H1' hp g1 e1 r1 => by
    obtain ⟨hd, hp⟩ := hp
    exact ⟨v, .ty n, .type n, .type n, true, rfl, .ty n, r1.ty g1.gd.sub hd, by unfold PySem.W.kitOne; rw [if_pos (beq_self_eq_true _)], q _ s1 _ H1 H1' hp g1 e1 (.bl true)⟩
theorem dnin_tab {w : World} {mg : Str → Option Value} {x z : Str} {a : Addr} {tab : List (Str × Int)} {i : Int} (D : KTab c.K w mg x a tab) (h : (z, i) ∈ tab) (k : P (.dat (.bl false)) s) : DOp c (rNinTab c.K a) (.str z) (.ref a) G s P := fun σ F H0 H v u gd r1 r2 Q q => by
  cases r1
  cases r2
  obtain ⟨t, e⟩ := D.hit _ h
  exact ⟨z, _, rfl, rfl, e, q _ s _ H0 H k gd (Same.refl _) (.bl false)⟩
theorem di_tab {w : World} {mg : Str → Option Value} {x z : Str} {a : Addr} {tab : List (Str × Int)} {i : Int} (D : KTab c.K w mg x a tab) (h : (z, i) ∈ tab) (k : P (.dat (.int i)) s) : DOp c (rIxD c.K w) (.ref a) (.str z) G s P := fun σ F H0 H v u gd r1 r2 Q q => by
  cases r1
  cases r2
  obtain ⟨t, e⟩ := D.hit _ h
  obtain ⟨es, n, kd⟩ := D.kd
  exact ⟨a, z, .int i, rfl, rfl, ⟨es, n, _, kd.at_, kd.lit, e, ⟨t, rfl⟩⟩, q _ s _ H0 H k gd (Same.refl _) (.int i)⟩
theorem bls_map {α : Type} (f : α → Bool) (L : List α) : (L.map fun x => DL.D.bl (f x)) = (L.map f).map DL.D.bl := by rw [List.map_map]; rfl
theorem db_all {α : Type} {f : α → Bool} {L : List α} (k : P (.dat (.bl (L.all f))) s) : DCB c (rAll c.K) [.lst (L.map fun x => .bl (f x))] G s P := fun σ F H0 H vs gd r Q q => by
  cases r with
  | cons r rs =>
    cases rs
    cases r with
    | lst ha ra =>
      rw [bls_map] at ra
      have e := ra.bls
      subst e
      refine ⟨_, L.map f, rfl, .inl (.inl (gd.gd.sub _ _ ha)), ?_⟩
      have : ((L.map f).all id) = L.all f := by rw [List.all_map]; rfl
      rw [this]
      exact q _ s _ H0 H k gd (Same.refl _) (.bl _)
theorem db_anyB {α : Type} {f : α → Bool} {L : List α} (k : P (.dat (.bl (L.any f))) s) : DCB c (rAny c.K) [.lst (L.map fun x => .bl (f x))] G s P := fun σ F H0 H vs gd r Q q => by
  cases r with
  | cons r rs =>
    cases rs
    cases r with
    | lst ha ra =>
      rw [bls_map] at ra
      have e := ra.bls
      subst e
      refine ⟨_, L.map f, rfl, .inl (.inl (gd.gd.sub _ _ ha)), ?_⟩
      have : ((L.map f).any id) = L.any f := by rw [List.any_map]; rfl
      rw [this]
      exact q _ s _ H0 H k gd (Same.refl _) (.bl _)
theorem db_listT {xs : List DL.D} (k : P (.own (.lst xs)) s) : DCB c (qList c.K) [.tup xs] G s P := fun σ F H0 H vs gd r Q q => by
  cases r with
  | cons r rs =>
    cases rs
    cases r with
    | tup ha ra =>
      exact ⟨_, _, rfl, .inr (same_t gd.gd.sub ha), fun p hp => q _ s _ H0 _ k (gd.push hp) (Same.refl _) (gd.rok (u := .lst _) hp ra)⟩
theorem db_listL {xs : List DL.D} (k : P (.own (.lst xs)) s) : DCB c (qList c.K) [.lst xs] G s P := fun σ F H0 H vs gd r Q q => by
  cases r with
  | cons r rs =>
    cases rs
    cases r with
    | lst ha ra =>
      exact ⟨_, _, rfl, .inl (.inl (.inl (gd.gd.sub _ _ ha))), fun p hp => q _ s _ H0 _ k (gd.push hp) (Same.refl _) (gd.rok (u := .lst _) hp ra)⟩
end
/-! ### questions -/
abbrev LET : List Nat := ("abcdefghijklmnopqrstuvwxyz" : Str).cps.toList
theorem LET_lt : ∀ a ∈ LET, a < 0x110000 := by decide +kernel
namespace Qn
def kids : Qn → List Qn
  | .any => []
  | .neg q => [q]
  | .both p q => [p, q]
  | .some p _ q => [p, q]
theorem fine : ∀ {q : Qn}, q.In LET → Fine q.ht (80 * q.size) q.D
  | .any, _ => (Fine.tup (.cons (Fine.str (x := "any") (by decide +kernel)) .nil)).mono (by decide) (by decide +kernel)
  | .neg q, h => (Fine.tup (.cons ((Fine.str (x := "not") (by decide +kernel)).mono (Nat.zero_le _) (show _ ≤ 32 by decide +kernel)) (.cons (fine (q := q) h) .nil))).mono (Nat.le_refl _) (by
      show 0 + (80 * q.size + 2) + (32 + 2) + 4 ≤ 80 * (q.size + 1)
      omega)
  | .both p q, h => (Fine.tup (.cons ((Fine.str (x := "both") (by decide +kernel)).mono (Nat.zero_le _) (show _ ≤ 42 by decide +kernel)) (.cons ((fine (q := p) h.1).mono (show p.ht ≤ max p.ht q.ht by omega) (Nat.le_refl _)) (.cons ((fine (q := q) h.2).mono (show q.ht ≤ max p.ht q.ht by omega) (Nat.le_refl _)) .nil)))).mono (Nat.le_refl _) (by
      show 0 + (80 * q.size + 2) + (80 * p.size + 2) + (42 + 2) + 4 ≤ 80 * (p.size + q.size + 1)
      omega)
  | .some p a q, h => by
    have hp := fine (q := p) h.1
    have hq := fine (q := q) h.2.2
    have ha : Fine 0 12 (.str (rowS [a])) := Fine.row (l := [a]) fun b hb => by
      rw [List.mem_singleton.mp hb]
      exact LET_lt a h.2.1
    refine (Fine.tup (.cons ((Fine.str (x := "some") (by decide +kernel)).mono (Nat.zero_le _) (show _ ≤ 42 by decide +kernel)) (.cons (hp.mono (show p.ht ≤ max p.ht q.ht by omega) (Nat.le_refl _)) (.cons (ha.mono (Nat.zero_le _) (Nat.le_refl _)) (.cons (hq.mono (show q.ht ≤ max p.ht q.ht by omega) (Nat.le_refl _)) .nil))))).mono (Nat.le_refl _) ?_
    show 0 + (80 * q.size + 2) + (12 + 2) + (80 * p.size + 2) + (42 + 2) + 4 ≤ 80 * (p.size + q.size + 1)
    omega
end Qn
section
variable {c : Ct} {G : List Sl} {s : c.S} {P : Sl → c.S → Prop}
theorem dl_qn {q : Qn} {z : Int} (h : ((q.parts.length : Nat) : Int) = z) (k : P (.dat (.int z)) s) : DCB c (qLen c.K) [q.D] G s P := by
  rw [q.D_parts]
  exact dl_tup (by rw [h]; exact k)
theorem ds_qn {q : Qn} (k : P (.dat (.tup (q.parts.drop 1))) s) : DSl c (qSl c.K) q.D (Option.some 1) none G s P := by
  rw [q.D_parts]
  have e : cutD q.parts (Option.some (((1 : Nat) : Nat) : Int)) none = q.parts.drop 1 := cutD_drop _ _
  exact ds_tup (by rw [show (1 : Int) = ((1 : Nat) : Int) from rfl, e]; exact k)
theorem Qn.ty (q : Qn) : q.D.ty = Option.some "tuple" := by rw [q.D_parts]; rfl
theorem Qn.D_ne (q : Qn) : q.D ≠ .tup [] := by cases q <;> exact fun h => by cases h
theorem Qn.nb : ∀ q : Qn, q.D.nb = true
  | .any => rfl
  | .neg q => by simp [Qn.D, DL.D.nb, DL.D.nbs, Qn.nb q]
  | .both p q => by simp [Qn.D, DL.D.nb, DL.D.nbs, Qn.nb p, Qn.nb q]
  | .some p a q => by simp [Qn.D, DL.D.nb, DL.D.nbs, Qn.nb p, Qn.nb q]
theorem deq_qn0 {q : Qn} (h : q.In LET) (hs : q.ht ≤ 60) (k : P (.dat (.bl false)) s) : DOp c (qEq c.K) q.D (.tup []) G s P :=
  deqF (q.fine h) (Fine.tup (n := 0) .nil) (by omega) (by decide) q.nb rfl (by rw [bB_false q.D_ne]; exact k)
/-! ### promises -/
abbrev isletS : FSpec := fun ds P _ => ∃ a : Nat, ds = [.str (rowS [a])] ∧ a ∈ LET ∧ P (.dat (.bl true))
abbrev innerS : FSpec := fun ds P _ => ∃ q : Qn, ds = [q.D] ∧ P (.own (.lst (q.kids.map Qn.D)))
abbrev isqS (D : Nat) : FSpec := fun ds P _ => ∃ k, k < D ∧ ∃ q : Qn, ds = [q.D] ∧ q.ht = k ∧ q.In LET ∧ q.ht ≤ 60 ∧ P (.dat (.bl true))
abbrev chqS : FSpec := fun ds P _ => ∃ q : Qn, ds = [q.D] ∧ q.In LET ∧ q.ht ≤ 60 ∧ P (.dat .non)
end
section
variable {q : Qn} {P : Sl → Prop} {XP : Addr → DL.D → Prop}
theorem u_islet {a : Nat} (h : a ∈ LET) (k : P (.dat (.bl true))) : isletS [.str (rowS [a])] P XP := ⟨a, rfl, h, k⟩
theorem u_inner (k : P (.own (.lst (q.kids.map Qn.D)))) : innerS [q.D] P XP := ⟨q, rfl, k⟩
theorem u_isqH {D : Nat} (h : q.ht < D) (h1 : q.In LET) (h2 : q.ht ≤ 60) (k : P (.dat (.bl true))) : isqS D [q.D] P XP := ⟨_, h, q, rfl, rfl, h1, h2, k⟩
theorem u_isq {D : Nat} (h : q.size < D) (h1 : q.In LET) (h2 : q.size ≤ 60) (k : P (.dat (.bl true))) : isqS D [q.D] P XP := u_isqH (Nat.lt_of_le_of_lt q.ht_le h) h1 (Nat.le_trans q.ht_le h2) k
theorem u_chqH (h1 : q.In LET) (h2 : q.ht ≤ 60) (k : P (.dat .non)) : chqS [q.D] P XP := ⟨q, rfl, h1, h2, k⟩
theorem u_chq (h1 : q.In LET) (h2 : q.size ≤ 60) (k : P (.dat .non)) : chqS [q.D] P XP := u_chqH h1 (Nat.le_trans q.ht_le h2) k
end
end DL
/-! DMx: parts of a ground that are grounds of their own; dicts with tuple keys and lists as grounds -/
namespace DL
open PySem PySem.Spec PyProof.Rows L2
/-- r' at p' is a part of r at p -/
structure Sub (r r' : Res) (p p' : Addr) (f : r.S → r'.S) (g : r.S → r'.S → r.S) : Prop where
  B : ∀ a, r'.B p' a → r.B p a
  R : ∀ s H0 H, r.R p s H0 H → r'.R p' (f s) H0 H
  W : ∀ s t H0 H H0' H', r.R p s H0 H → Step (r'.R p') (r'.B p') t H0 H H0' H' → r.R p (g s t) H0' H'
theorem CtR.part {c : Ct} {r r' : Res} {p p' : Addr} {to : c.S → r.S} {put : c.S → r.S → c.S} {f : r.S → r'.S} {g : r.S → r'.S → r.S} (hc : CtR c r p to put) (h : Sub r r' p p' f g) : CtR c r' p' (fun s => f (to s)) (fun s t => put s (g (to s) t)) where
  B := fun a hb => hc.B a (h.B a hb)
  R := fun s H0 H hr => h.R _ _ _ (hc.R s H0 H hr)
  back := fun s t H0 H H0' H' hr av st => hc.back s (g (to s) t) H0 H H0' H' hr av ⟨st.ex, st.sub, fun a o ha hb => st.fr a o ha fun z => hb (h.B a z), st.nw, fun a hb => st.nw a (r.there p _ _ _ a (hc.R s H0 H hr) hb) (av a (hc.B a hb)), h.W _ _ _ _ _ _ (hc.R s H0 H hr) st⟩
/-! ### a dict with tuple keys -/
abbrev DT := List (List Key × D)
def dtAt (st : DT) (k : List Key) : Option D := (st.find? fun e => decide (e.1 = k)).map (·.2)
def dtPut (st : DT) (k : List Key) (d : D) : DT := if (st.any fun e => decide (e.1 = k)) = true then st.map (fun e => if e.1 = k then (e.1, d) else e) else st ++ [(k, d)]
def DtOk (K : PySem.W.Frag) (H0 : Hp) (kvs : List (List Key × V)) (st : DT) : Prop := Paired (fun a b => a.1 = b.1 ∧ Rep K H0 a.2 b.2) kvs st
theorem DtOk.mono {K : PySem.W.Frag} {H0 H0' : Hp} (e : Same H0 H0') {kvs : List (List Key × V)} {st : DT} (h : DtOk K H0 kvs st) : DtOk K H0' kvs st := Paired.mapP h fun _ _ q => ⟨q.1, q.2.mono e⟩
theorem DtOk.at {K : PySem.W.Frag} {H0 : Hp} {k : List Key} : ∀ {kvs : List (List Key × V)} {st : DT}, DtOk K H0 kvs st → (valV kvs k).isSome = (dtAt st k).isSome ∧ ∀ d, dtAt st k = some d → ∃ v, valV kvs k = some v ∧ Rep K H0 v d
  | _, _, .nil => ⟨rfl, fun _ h => nomatch h⟩
  | a :: kvs, b :: st, .cons q t => by
    unfold valV dtAt
    rw [List.find?_cons, List.find?_cons, q.1]
    by_cases h : b.1 = k
    · rw [decide_eq_true h]
      exact ⟨rfl, fun d hd => ⟨a.2, rfl, by cases hd; exact q.2⟩⟩
    · rw [decide_eq_false h]
      exact DtOk.at (k := k) t
theorem DtOk.put {K : PySem.W.Frag} {H0 : Hp} {k : List Key} {v : V} {d : D} (r : Rep K H0 v d) {kvs : List (List Key × V)} {st : DT} (h : DtOk K H0 kvs st) : DtOk K H0 (putK kvs k v) (dtPut st k d) := by
  have ha : (kvs.any fun kv => decide (kv.1 = k)) = st.any fun e => decide (e.1 = k) := by
    induction h with
    | nil => rfl
    | cons q t ih => rw [List.any_cons, List.any_cons, ih, q.1]
  unfold putK dtPut
  rw [ha]
  split
  · clear ha
    rename_i hx
    clear hx
    induction h with
    | nil => exact .nil
    | @cons a b l1 l2 q t ih =>
      refine .cons ?_ ih
      show (if a.1 = k then (a.1, v) else a).1 = (if b.1 = k then (b.1, d) else b).1 ∧ Rep K H0 (if a.1 = k then (a.1, v) else a).2 (if b.1 = k then (b.1, d) else b).2
      by_cases hb : b.1 = k
      · rw [if_pos hb, if_pos (q.1.trans hb)]
        exact ⟨q.1, r⟩
      · rw [if_neg hb, if_neg (fun z => hb (q.1.symm.trans z))]
        exact q
  · exact h.snoc ⟨rfl, r⟩
abbrev dtRes (K : PySem.W.Frag) : Res where
  S := DT
  R := fun p st H0 H => ∃ kvs, H p = some (.dT kvs) ∧ DtOk K H0 kvs st
  B := fun p a => a = p
  stab := fun p st H0 H H0' H' h e k => by
    obtain ⟨kvs, h1, h2⟩ := h
    exact ⟨kvs, k _ _ rfl h1, h2.mono e⟩
  there := fun p st H0 H a h e z => by
    obtain ⟨kvs, h1, h2⟩ := h
    subst e
    rw [z] at h1
    cases h1
def kD : Key → D
  | .inl i => .int i
  | .inr x => .str x
theorem keys_vs {K : PySem.W.Frag} {H : Hp} : ∀ {vs : List V} {ks : List Key}, RepAll K H vs (ks.map kD) → vs = ks.map kV
  | [], [], _ => rfl
  | v :: vs, k :: ks, r => by
    cases r with
    | cons r rs =>
      rw [keys_vs (vs := vs) (ks := ks) rs]
      cases k with
      | inl i => cases r; rfl
      | inr x => cases r; rfl
section
variable {c : Ct} {G : List Sl} {s : c.S} {p : Addr} {to : c.S → DT} {put : c.S → DT → c.S}
/-- (k, ..) not in d -/
theorem we_dtnin {ta : TA} {td : TE} {P : Sl → c.S → Prop} (hc : CtR c (dtRes c.K) p to put) (h : WA c ta G s fun ds s1 => ∃ ks, ds = ks.map kD ∧ ks.length ≤ 1000 ∧ WE c td G s1 (FZ fun y s2 => y = .ref p ∧ P (.dat (.bl (!(dtAt (to s2) ks).isSome))) s2)) : WE c (tDNotIn (tTup ta) td) G s P := fun σ F H0 H g Q q =>
  h σ F H0 H g _ fun ds s1 vs H1 H1' hp g1 e1 r1 => by
    obtain ⟨ks, rfl, hl, hp⟩ := hp
    have hv := keys_vs r1
    refine ⟨by rw [hv, List.length_map]; exact Nat.le_trans hl (by decide), fun b hb => ?_⟩
    obtain ⟨g2, e2⟩ := g1.lay (o := .tup vs) hb
    refine hp.use g2 fun y s2 v H3 H3' hp g3 e3 r3 => ?_
    obtain ⟨rfl, hp⟩ := hp
    cases r3
    obtain ⟨kvs, hk, ok⟩ := hc.R _ _ _ g3.gd.rs
    have hbk : H3' b = some (.tup (ks.map kV)) := by rw [← hv]; exact g3.gd.sub _ _ (e3 _ _ upd_same)
    refine ⟨p, _, rfl, DGet.t hk hbk, ?_⟩
    rw [(ok.at (k := ks)).1]
    exact q _ s2 _ H3 H3' hp g3 ((e1.trans e2).trans e3) (.bl _)
/-- d[k, ..] -/
theorem we_dtget {ta : TA} {td : TE} {P : Sl → c.S → Prop} (hc : CtR c (dtRes c.K) p to put) (h : WE c td G s (FZ fun y s1 => y = .ref p ∧ WA c ta G s1 fun ds s2 => ∃ ks d, ds = ks.map kD ∧ ks.length ≤ 1000 ∧ dtAt (to s2) ks = some d ∧ P (.dat d) s2)) : WE c (tDGet td (tTup ta)) G s P := fun σ F H0 H g Q q =>
  h.use g fun y s1 v H1 H1' hp g1 e1 r1 => by
    obtain ⟨rfl, hp⟩ := hp
    cases r1
    refine hp σ F H1 H1' g1 _ fun ds s2 vs H2 H2' hp g2 e2 r2 => ?_
    obtain ⟨ks, d, rfl, hl, hn, hp⟩ := hp
    have hv := keys_vs r2
    refine ⟨by rw [hv, List.length_map]; exact Nat.le_trans hl (by decide), fun b hb => ?_⟩
    obtain ⟨g3, e3⟩ := g2.lay (o := .tup vs) hb
    obtain ⟨kvs, hk, ok⟩ := hc.R _ _ _ g3.gd.rs
    have hbk : (upd H2' b (.tup vs)) b = some (.tup (ks.map kV)) := by rw [← hv]; exact upd_same
    obtain ⟨v, hv1, hv2⟩ := (ok.at (k := ks)).2 d hn
    refine ⟨p, v, rfl, ?_, q _ s2 _ _ _ hp g3 ((e1.trans e2).trans e3) hv2⟩
    have := DGet.t hk hbk
    rw [hv1] at this
    exact this
/-- d[k, ..] = e -/
theorem ws_dtput {P : Ds c.S} {ta : TA} {td tv : TE} (hc : CtR c (dtRes c.K) p to put) (h : WE c tv G s (FZ fun x s1 => WE c td G s1 (FZ fun y s2 => y = .ref p ∧ WA c ta G s2 fun ds s3 => ∃ ks, ds = ks.map kD ∧ ks.length ≤ 1000 ∧ (to s3).length < 1000000 ∧ P.nx G (put s3 (dtPut (to s3) ks x))))) : WS c (sDPut td (tTup ta) tv) G s P := fun σ H0 H gd D e =>
  h.use (Gd.of gd) fun x s1 v H1 H1' hp g1 e1 r1 => by
    refine hp.use g1 fun y s2 w H2 H2' hp g2 e2 r2 => ?_
    obtain ⟨rfl, hp⟩ := hp
    cases r2
    refine hp σ ([], []) H2 H2' g2 _ fun ds s3 vs H3 H3' hp g3 e3 r3 => ?_
    obtain ⟨ks, rfl, hl, hlen, hp⟩ := hp
    have hv := keys_vs r3
    refine ⟨by rw [hv, List.length_map]; exact Nat.le_trans hl (by decide), fun b hb => ?_⟩
    obtain ⟨g4, e4⟩ := g3.lay (o := .tup vs) hb
    obtain ⟨kvs, hk, ok⟩ := hc.R _ _ _ g4.gd.rs
    have hbk : (upd H3' b (.tup vs)) b = some (.tup (ks.map kV)) := by rw [← hv]; exact upd_same
    have hav := g4.gd.av p (hc.B p rfl)
    have rx := ((r1.mono e2).mono e3).mono e4
    refine ⟨p, _, rfl, DPut.t hk hbk (by rw [ok.length, sizeLine_eq]; omega), ?_⟩
    have st : Step ((dtRes c.K).R p) ((dtRes c.K).B p) (dtPut (to s3) ks x) (upd H3 b (.tup vs)) (upd H3' b (.tup vs)) (upd H3 b (.tup vs)) (upd (upd H3' b (.tup vs)) p (.dT (putK kvs ks v))) :=
      ⟨Same.refl _, fun a o h => by
        rw [upd_ne (ne_of_none h hav)]
        exact g4.gd.sub _ _ h, fun a o h hb => by
        rw [upd_ne hb]
        exact h, fun _ _ h => h, fun a hb => by cases hb; exact hav, ⟨_, upd_same, ok.put rx⟩⟩
    have bk := hc.back s3 _ _ _ _ _ g4.gd.rs g4.gd.av st
    have g5 : Gd c G (put s3 (dtPut (to s3) ks x)) σ ([], []) (upd H3 b (.tup vs)) (upd (upd H3' b (.tup vs)) p (.dT (putK kvs ks v))) :=
      ⟨g4.ln, g4.gd.go st.ex st.sub bk.2 (fun a o h hb => st.fr a o h fun z => hb (hc.B a z)) st.nw bk.1⟩
    exact e.nx G _ σ _ _ hp g5.to (((e1.trans e2).trans e3).trans e4) rfl
end
section
variable {c : Ct} {G : List Sl} {s : c.S} {p : Addr} {to : c.S → List V × List D} {put : c.S → List V × List D → c.S} {P : Sl → c.S → Prop}
/-- x[i], x a list that is a ground -/
theorem we_ixL (hc : CtR c (lsRes c.K) p to put) {ta tb : TE} (h : WE c ta G s (FZ fun x s1 => x = .ref p ∧ WE c tb G s1 (FZ fun y s2 => ∃ i d, y = .int i ∧ atI (to s2).2 i = some d ∧ P (.dat d) s2))) : WE c (tOp (rIx c.K) ta tb) G s P := fun σ F H0 H g Q q =>
  h.use g fun x s1 v H1 H1' hp g1 e1 r1 => by
    obtain ⟨rfl, hp⟩ := hp
    cases r1
    exact hp.use g1 fun y s2 w H2 H2' hp2 g2 e2 r2 => by
      obtain ⟨i, d, rfl, h, k⟩ := hp2
      cases r2
      obtain ⟨l1, l2⟩ := lsC hc g2
      unfold atI at h
      cases e : ixN (to s2).2.length i with
      | none =>
        rw [e] at h
        cases h
      | some j =>
        rw [e] at h
        obtain ⟨u, hu, r⟩ := l2.get (show (to s2).2[j]? = some d from h)
        exact .inl ⟨_, _, i, u, rfl, rfl, .inl (.inl l1), by unfold atI; rw [l2.len, e]; exact hu, q _ s2 _ H2 H2' k g2 (e1.trans e2) r⟩
/-- len(x) -/
theorem we_lenL (hc : CtR c (lsRes c.K) p to put) {ta : TE} (h : WE c ta G s (FZ fun x s1 => x = .ref p ∧ P (.dat (.int (to s1).2.length)) s1)) : WE c (tCB (qLen c.K) (tCons ta tNil)) G s P := fun σ F H0 H g Q q =>
  h.use g fun x s1 v H1 H1' hp g1 e1 r1 => by
    obtain ⟨rfl, hp⟩ := hp
    cases r1
    obtain ⟨l1, l2⟩ := lsC hc g1
    exact ⟨.ref _, _, rfl, .inl ⟨_, .inl (.inl l1), l2.len.symm⟩, q _ s1 _ H1 H1' hp g1 e1 (.int _)⟩
end
end DL
/-! DMy: a question asked (class Asked) as a ground -/
namespace DL
open PySem PySem.Spec PyProof.Rows L2
structure ACls (K : PySem.W.Frag) (C : Addr) : Prop where
  cls : Cls K C
  nn : NoAttr K C "nodes"
  nk : NoAttr K C "known"
  nl : NoAttr K C "last"
abbrev ASt := (List V × List D) × DT
def askR (K : PySem.W.Frag) (C nu kn : Addr) (L : Option Nat) (p : Addr) (st : ASt) (H0 H : Hp) : Prop :=
  nu ≠ kn ∧ (∃ dx fs, H0 p = some (.ins C dx fs) ∧ fs.lookup ("nodes" : Str) = some (.ref nu) ∧ fs.lookup ("known" : Str) = some (.ref kn) ∧ (∀ m : Str, m ≠ "nodes" → m ≠ "known" → m ≠ "last" → fs.lookup m = none) ∧ ∀ n : Nat, L = some n → fs.lookup ("last" : Str) = some (.int ((n : Nat) : Int))) ∧
  (lsRes K).R nu st.1 H0 H ∧ (dtRes K).R kn st.2 H0 H
abbrev askRes (K : PySem.W.Frag) (C nu kn : Addr) (L : Option Nat) : Res where
  S := ASt
  R := askR K C nu kn L
  B := fun _ a => a = nu ∨ a = kn
  stab := fun p st H0 H H0' H' h e k => by
    obtain ⟨h1, ⟨dx, fs, h2, h3⟩, h4, h5⟩ := h
    exact ⟨h1, ⟨dx, fs, e _ _ h2, h3⟩, (lsRes K).stab nu _ _ _ _ _ h4 e fun a o hb => k a o (.inl hb), (dtRes K).stab kn _ _ _ _ _ h5 e fun a o hb => k a o (.inr hb)⟩
  there := fun p st H0 H a h hb => by
    obtain ⟨_, _, h4, h5⟩ := h
    rcases hb with hb | hb
    · exact (lsRes K).there nu _ _ _ a h4 hb
    · exact (dtRes K).there kn _ _ _ a h5 hb
abbrev ASpec := Addr → List D → ASt → (Sl → ASt → Prop) → (Addr → D → ASt → Prop) → Prop
/-- a method of Asked -/
def ASp (K : PySem.W.Frag) (C : Addr) (f : Option Nat → ASpec) : Sp := fun vs H Q E => ∃ nu kn L, ResSp K (askRes K C nu kn L) (f L) vs H Q E
section
variable {c : Ct} {G : List Sl} {s : c.S} {P : Sl → c.S → Prop} {C nu kn p : Addr} {L : Option Nat} {to : c.S → ASt} {put : c.S → ASt → c.S}
/-- asked.m(..) -/
theorem we_methA {f : Option Nat → ASpec} {m : Str} {ta : TE} {t : TA} {E : XK} (hc : CtR c (askRes c.K C nu kn L) p to put) (h1 : m ≠ "nodes") (h2 : m ≠ "known") (h3 : m ≠ "last")
    (h : WE c ta G s (FZ fun x s1 => x = .ref p ∧ WA c t G s1 fun ds s2 => f L p ds (to s2) (fun x s3 => P x (put s2 s3)) (fun _ _ _ => False))) : WE c (tMeth C m (ASp c.K C f) [] E ta t) G s P := fun σ F H0 H g Q q =>
  h.use g fun x s1 v H1 H1' hp g1 e1 r1 => by
    obtain ⟨rfl, hp⟩ := hp
    cases r1
    obtain ⟨_, ⟨dx, fs, hd, _, _, hm, _⟩, _⟩ := hc.R _ _ _ g1.gd.rs
    refine ⟨p, dx, fs, rfl, g1.gd.sub _ _ hd, hm m h1 h2 h3, hp σ F H1 H1' g1 _ fun ds s2 vs H2 H2' hf g2 e2 r2 => ?_⟩
    rw [List.append_nil]
    exact ⟨nu, kn, L, res_call hc (.inl fun _ _ _ z => z) hf g2 r2 fun x s' v H3 H3' a b e d => q x s' v H3 H3' a b ((e1.trans e2).trans e) d⟩
/-- asked.nodes, asked.known -/
theorem we_fldAn {ta : TE} (hc : CtR c (askRes c.K C nu kn L) p to put) (kc : ACls c.K C) (h : WE c ta G s (FZ fun x s1 => x = .ref p ∧ P (.dat (.ref nu)) s1)) : WE c (tFld c.K ta "nodes") G s P := fun σ F H0 H g Q q =>
  h.use g fun x s1 v H1 H1' hp g1 e1 r1 => by
    obtain ⟨rfl, hp⟩ := hp
    cases r1
    obtain ⟨_, ⟨dx, fs, hd, hn, _⟩, _⟩ := hc.R _ _ _ g1.gd.rs
    exact ⟨p, C, dx, fs, .ref nu, rfl, g1.gd.sub _ _ hd, kc.cls, kc.nn, hn, q _ s1 _ H1 H1' hp g1 e1 (.ref nu)⟩
theorem we_fldAk {ta : TE} (hc : CtR c (askRes c.K C nu kn L) p to put) (kc : ACls c.K C) (h : WE c ta G s (FZ fun x s1 => x = .ref p ∧ P (.dat (.ref kn)) s1)) : WE c (tFld c.K ta "known") G s P := fun σ F H0 H g Q q =>
  h.use g fun x s1 v H1 H1' hp g1 e1 r1 => by
    obtain ⟨rfl, hp⟩ := hp
    cases r1
    obtain ⟨_, ⟨dx, fs, hd, _, hk, _⟩, _⟩ := hc.R _ _ _ g1.gd.rs
    exact ⟨p, C, dx, fs, .ref kn, rfl, g1.gd.sub _ _ hd, kc.cls, kc.nk, hk, q _ s1 _ H1 H1' hp g1 e1 (.ref kn)⟩
theorem we_fldAl {ta : TE} {n : Nat} (hc : CtR c (askRes c.K C nu kn (some n)) p to put) (kc : ACls c.K C) (h : WE c ta G s (FZ fun x s1 => x = .ref p ∧ P (.dat (.int ((n : Nat) : Int))) s1)) : WE c (tFld c.K ta "last") G s P := fun σ F H0 H g Q q =>
  h.use g fun x s1 v H1 H1' hp g1 e1 r1 => by
    obtain ⟨rfl, hp⟩ := hp
    cases r1
    obtain ⟨_, ⟨dx, fs, hd, _, _, _, hl⟩, _⟩ := hc.R _ _ _ g1.gd.rs
    exact ⟨p, C, dx, fs, .int _, rfl, g1.gd.sub _ _ hd, kc.cls, kc.nl, hl n rfl, q _ s1 _ H1 H1' hp g1 e1 (.int _)⟩
end
theorem ac0 {K : PySem.W.Frag} {C nu kn p : Addr} {L : Option Nat} {H0 H : Hp} {E : XK} {XP : Addr → D → ASt → Prop} {okX} : CtR (resCt K (askRes K C nu kn L) p H0 H E XP okX) (askRes K C nu kn L) p (fun s => s) (fun _ t => t) := resC
/-! ### the parts of a question, numbered -/
/-- a node -/
def nodeD (tag : Str) (a : Str) (js : List Nat) : D := .tup [.str tag, .str a, .lst (js.map fun (j : Nat) => .int ((j : Nat) : Int))]
/-- the node at n is the question q -/
inductive Nd (ns : List D) : Nat → Qn → Prop
  | any {n : Nat} : ns[n]? = some (nodeD "any" "" []) → Nd ns n .any
  | neg {n j : Nat} {q : Qn} : ns[n]? = some (nodeD "not" "" [j]) → j < n → Nd ns j q → Nd ns n (.neg q)
  | both {n i j : Nat} {p q : Qn} : ns[n]? = some (nodeD "both" "" [i, j]) → i < n → j < n → Nd ns i p → Nd ns j q → Nd ns n (.both p q)
  | some {n i j a : Nat} {p q : Qn} : ns[n]? = some (nodeD "some" (rowS [a]) [i, j]) → i < n → j < n → Nd ns i p → Nd ns j q → Nd ns n (.some p a q)
theorem Nd.mono {ns ms : List D} (h : ns <+: ms) : ∀ {n : Nat} {q : Qn}, Nd ns n q → Nd ms n q := fun {n q} k => by
  obtain ⟨t, rfl⟩ := h
  have up : ∀ {i : Nat} {d : D}, ns[i]? = Option.some d → (ns ++ t)[i]? = Option.some d := fun {i d} e => by
    rw [List.getElem?_append_left (List.getElem?_eq_some_iff.mp e).1]
    exact e
  induction k with
  | any e => exact .any (up e)
  | neg e h1 _ ih => exact .neg (up e) h1 ih
  | both e h1 h2 _ _ i1 i2 => exact .both (up e) h1 h2 i1 i2
  | some e h1 h2 _ _ i1 i2 => exact .some (up e) h1 h2 i1 i2
theorem Nd.lt {ns : List D} {n : Nat} {q : Qn} (h : Nd ns n q) : n < ns.length := by
  cases h with
  | any e => exact (List.getElem?_eq_some_iff.mp e).1
  | neg e => exact (List.getElem?_eq_some_iff.mp e).1
  | both e => exact (List.getElem?_eq_some_iff.mp e).1
  | some e => exact (List.getElem?_eq_some_iff.mp e).1
/-- the numbers js are the questions qs -/
def Nds (ns : List D) (js : List Nat) (qs : List Qn) : Prop := Paired (Nd ns) js qs
theorem Nds.mono {ns ms : List D} {js : List Nat} {qs : List Qn} (h : ns <+: ms) (k : Nds ns js qs) : Nds ms js qs := Paired.mapP k fun _ _ q => q.mono h
def Qn.tag : Qn → Str
  | .any => "any"
  | .neg _ => "not"
  | .both _ _ => "both"
  | .some _ _ _ => "some"
def Qn.let1 : Qn → Str
  | .some _ a _ => rowS [a]
  | _ => ""
/-- a new node behind its parts -/
theorem Nd.new {ns : List D} {js : List Nat} : ∀ {q : Qn}, Nds ns js q.kids → Nd (ns ++ [nodeD q.tag q.let1 js]) ns.length q := fun {q} h => by
  have at_ : (ns ++ [nodeD q.tag q.let1 js])[ns.length]? = Option.some (nodeD q.tag q.let1 js) := by simp
  have h' := h.mono (List.prefix_append ns [nodeD q.tag q.let1 js])
  cases q with
  | any =>
    cases h
    exact .any at_
  | neg q =>
    cases h' with
    | cons k1 t =>
      cases t
      cases h with
      | cons k _ => exact .neg at_ k.lt k1
  | both p q =>
    cases h' with
    | cons k1 t =>
      cases t with
      | cons k2 t =>
        cases t
        cases h with
        | cons k h => cases h with
          | cons k' _ => exact .both at_ k.lt k'.lt k1 k2
  | some p a q =>
    cases h' with
    | cons k1 t =>
      cases t with
      | cons k2 t =>
        cases t
        cases h with
        | cons k h => cases h with
          | cons k' _ => exact .some at_ k.lt k'.lt k1 k2
def addS (D : Nat) : Option Nat → ASpec := fun _ _ ds st P _ => ∃ k, k < D ∧ ∃ q : Qn, ds = [q.D] ∧ q.ht = k ∧ st.1.2.length + q.size ≤ 1000 ∧
  ∀ (n : Nat) (st' : ASt), st'.2 = st.2 → st.1.2 <+: st'.1.2 → st'.1.2.length = st.1.2.length + q.size → Nd st'.1.2 n q → n + 1 = st'.1.2.length → P (.dat (.int ((n : Nat) : Int))) st'
theorem u_addH {D : Nat} {L : Option Nat} {p : Addr} {q : Qn} {st : ASt} {P : Sl → ASt → Prop} {XP : Addr → DL.D → ASt → Prop} (h1 : q.ht < D) (h2 : st.1.2.length + q.size ≤ 1000)
    (k : ∀ (n : Nat) (st' : ASt), st'.2 = st.2 → st.1.2 <+: st'.1.2 → st'.1.2.length = st.1.2.length + q.size → Nd st'.1.2 n q → n + 1 = st'.1.2.length → P (.dat (.int ((n : Nat) : Int))) st') : addS D L p [q.D] st P XP := ⟨_, h1, q, rfl, rfl, h2, k⟩
theorem u_add {D : Nat} {L : Option Nat} {p : Addr} {q : Qn} {st : ASt} {P : Sl → ASt → Prop} {XP : Addr → DL.D → ASt → Prop} (h1 : q.size < D) (h2 : st.1.2.length + q.size ≤ 1000)
    (k : ∀ (n : Nat) (st' : ASt), st'.2 = st.2 → st.1.2 <+: st'.1.2 → st'.1.2.length = st.1.2.length + q.size → Nd st'.1.2 n q → n + 1 = st'.1.2.length → P (.dat (.int ((n : Nat) : Int))) st') : addS D L p [q.D] st P XP := u_addH (Nat.lt_of_le_of_lt q.ht_le h1) h2 k
/-! ### what was answered -/
def aKey (n : Nat) (l : LRow) : List Key := [.inl ((n : Nat) : Int), .inr (rowS l)]
theorem aKey_inj {n m : Nat} {l k : LRow} (h : aKey n l = aKey m k) : n = m ∧ l = k := by
  unfold aKey at h
  simp only [List.cons.injEq, Sum.inl.injEq, Sum.inr.injEq, and_true] at h
  exact ⟨by omega, rowS_inj h.2⟩
structure KnA (U : List (LRow × Nat)) (ns : List D) (kn : DT) : Prop where
  len : U.length < 900000
  kd : (kn.map (·.1)).Nodup
  val : ∀ e ∈ kn, ∃ (l : LRow) (n : Nat) (b : Bool), e = (aKey n l, .bl b) ∧ (l, n + 1) ∈ U ∧ ∀ q, Nd ns n q → b = q.lets l
theorem KnA.at {U : List (LRow × Nat)} {ns : List D} {kn : DT} {n : Nat} {l : LRow} {d : D} {q : Qn} (h : KnA U ns kn) (k : Nd ns n q) (e : dtAt kn (aKey n l) = some d) : d = .bl (q.lets l) := by
  unfold dtAt at e
  cases hf : kn.find? fun e => decide (e.1 = aKey n l) with
  | none =>
    rw [hf] at e
    cases e
  | some x =>
    rw [hf] at e
    cases e
    have h1 := List.mem_of_find?_eq_some hf
    have h2 := of_decide_eq_true (List.find?_some (p := fun e : List Key × D => decide (e.1 = aKey n l)) hf)
    obtain ⟨l', n', b, rfl, _, hb⟩ := h.val x h1
    obtain ⟨rfl, rfl⟩ := aKey_inj h2
    exact congrArg D.bl (hb q k)
theorem dtPut_new {kn : DT} {k : List Key} {d : D} (h : dtAt kn k = none) : dtPut kn k d = kn ++ [(k, d)] := by
  unfold dtPut
  rw [if_neg]
  intro z
  obtain ⟨e, he, hk⟩ := List.any_eq_true.mp z
  unfold dtAt at h
  cases hf : kn.find? fun e => decide (e.1 = k) with
  | none => exact absurd hk (List.find?_eq_none.mp hf e he)
  | some x =>
    rw [hf] at h
    cases h
theorem dtPut_at {kn : DT} {k : List Key} {d : D} : dtAt (dtPut kn k d) k = some d := by
  unfold dtPut
  split
  · rename_i z
    unfold dtAt
    induction kn with
    | nil => simp at z
    | cons e es ih =>
      rw [List.map_cons, List.find?_cons]
      by_cases he : e.1 = k
      · rw [if_pos he, decide_eq_true (show (e.1, d).1 = k from he)]
        rfl
      · rw [if_neg he, decide_eq_false he]
        exact ih (by simpa [he] using z)
  · rename_i z
    unfold dtAt
    have : kn.find? (fun e => decide (e.1 = k)) = none := by
      rw [List.find?_eq_none]
      intro e he hk
      exact z (List.any_eq_true.mpr ⟨e, he, hk⟩)
    rw [List.find?_append, this]
    simp
theorem KnA.put {U : List (LRow × Nat)} {ns : List D} {kn : DT} {n : Nat} {l : LRow} {q : Qn} (h : KnA U ns kn) (hu : (l, n + 1) ∈ U) (k : Nd ns n q) (un : ∀ q', Nd ns n q' → q' = q) : KnA U ns (dtPut kn (aKey n l) (.bl (q.lets l))) := by
  have hv : ∀ q', Nd ns n q' → q.lets l = q'.lets l := fun q' k' => by rw [un q' k']
  unfold dtPut
  split
  · refine ⟨h.len, ?_, fun e he => ?_⟩
    · have : (kn.map fun e => if e.1 = aKey n l then (e.1, D.bl (q.lets l)) else e).map (·.1) = kn.map (·.1) := by
        rw [List.map_map]
        apply List.map_congr_left
        intro e _
        show (if e.1 = aKey n l then (e.1, D.bl (q.lets l)) else e).1 = e.1
        split <;> rfl
      rw [this]
      exact h.kd
    · obtain ⟨e0, he0, rfl⟩ := List.mem_map.mp he
      by_cases z : e0.1 = aKey n l
      · rw [if_pos z]
        exact ⟨l, n, _, by rw [z], hu, hv⟩
      · rw [if_neg z]
        exact h.val e0 he0
  · rename_i z
    refine ⟨h.len, ?_, fun e he => ?_⟩
    · rw [List.map_append, List.nodup_append]
      refine ⟨h.kd, by simp, fun a ha b hb => ?_⟩
      intro hab
      obtain ⟨e, he, rfl⟩ := List.mem_map.mp ha
      simp at hb
      exact z (List.any_eq_true.mpr ⟨e, he, decide_eq_true (hab.trans hb)⟩)
    · rcases List.mem_append.mp he with he | he
      · exact h.val e he
      · rw [List.mem_singleton.mp he]
        exact ⟨l, n, _, rfl, hu, hv⟩
/-- the number tells the question -/
theorem Nd.un {ns : List D} : ∀ {n : Nat} {q r : Qn}, Nd ns n q → Nd ns n r → q = r := fun {n q r} h => by
  have inj : ∀ {t t' a a' : Str} {js js' : List Nat}, nodeD t a js = nodeD t' a' js' → t = t' ∧ a = a' ∧ js = js' := fun {t t' a a' js js'} e => by
    unfold nodeD at e
    simp only [D.tup.injEq, List.cons.injEq, D.str.injEq, D.lst.injEq, and_true] at e
    refine ⟨e.1, e.2.1, ?_⟩
    have hi : Function.Injective fun (j : Nat) => D.int ((j : Nat) : Int) := fun x y h => by
      have := D.int.inj h
      omega
    exact List.map_inj_right (fun x y h => hi h) |>.mp e.2.2
  induction h generalizing r with
  | any e =>
    intro h'
    cases h' with
    | any _ => rfl
    | neg e' => rw [e] at e'; exact absurd (inj (Option.some.inj e')).1 (by decide)
    | both e' => rw [e] at e'; exact absurd (inj (Option.some.inj e')).1 (by decide)
    | some e' => rw [e] at e'; exact absurd (inj (Option.some.inj e')).1 (by decide)
  | neg e _ _ ih =>
    intro h'
    cases h' with
    | any e' => rw [e] at e'; exact absurd (inj (Option.some.inj e')).1 (by decide)
    | neg e' _ k =>
      rw [e] at e'
      have := (inj (Option.some.inj e')).2.2
      cases this
      rw [ih k]
    | both e' => rw [e] at e'; exact absurd (inj (Option.some.inj e')).1 (by decide)
    | some e' => rw [e] at e'; exact absurd (inj (Option.some.inj e')).1 (by decide)
  | both e _ _ _ _ i1 i2 =>
    intro h'
    cases h' with
    | any e' => rw [e] at e'; exact absurd (inj (Option.some.inj e')).1 (by decide)
    | neg e' => rw [e] at e'; exact absurd (inj (Option.some.inj e')).1 (by decide)
    | both e' _ _ k1 k2 =>
      rw [e] at e'
      have := (inj (Option.some.inj e')).2.2
      cases this
      rw [i1 k1, i2 k2]
    | some e' => rw [e] at e'; exact absurd (inj (Option.some.inj e')).1 (by decide)
  | some e _ _ _ _ i1 i2 =>
    intro h'
    cases h' with
    | any e' => rw [e] at e'; exact absurd (inj (Option.some.inj e')).1 (by decide)
    | neg e' => rw [e] at e'; exact absurd (inj (Option.some.inj e')).1 (by decide)
    | both e' => rw [e] at e'; exact absurd (inj (Option.some.inj e')).1 (by decide)
    | some e' _ _ k1 k2 =>
      rw [e] at e'
      obtain ⟨_, ha, hj⟩ := inj (Option.some.inj e')
      cases hj
      have := rowS_inj ha
      cases this
      rw [i1 k1, i2 k2]
def isletA (D : Nat) : Option Nat → ASpec := fun _ _ ds st P _ => ∃ h0, h0 < D ∧ ∃ (n : Nat) (l : LRow) (q : Qn) (U : List (LRow × Nat)), ds = [.int ((n : Nat) : Int), .str (rowS l)] ∧ q.ht = h0 ∧ Nd st.1.2 n q ∧ KnA U st.1.2 st.2 ∧ InU U l (n + 1) ∧ l.length ≤ 1000 ∧
  ∀ st' : ASt, st'.1 = st.1 → KnA U st'.1.2 st'.2 → P (.dat (.bl (q.lets l))) st'
def metA (D : Nat) : Option Nat → ASpec := fun _ _ ds st P _ => ∃ h0, h0 < D ∧ ∃ (n : Nat) (l : LRow) (i : Nat) (p : Qn) (a : Nat) (q : Qn) (U : List (LRow × Nat)), ds = [.int ((n : Nat) : Int), .str (rowS l), .int ((i : Nat) : Int)] ∧ (Qn.some p a q).ht = h0 ∧ i < l.length ∧ Nd st.1.2 n (.some p a q) ∧ KnA U st.1.2 st.2 ∧ InU U l (n + 1) ∧ l.length ≤ 1000 ∧
  ∀ st' : ASt, st'.1 = st.1 → KnA U st'.1.2 st'.2 → P (.dat (.bl (bB (Qn.Met l p a q i)))) st'
section
variable {D : Nat} {L : Option Nat} {p : Addr} {st : ASt} {P : Sl → ASt → Prop} {XP : Addr → DL.D → ASt → Prop} {n : Nat} {l : LRow} {q : Qn} {U : List (LRow × Nat)}
theorem u_isletA (nd : Nd st.1.2 n q) (h : q.ht < D) (ka : KnA U st.1.2 st.2) (iu : InU U l (n + 1)) (hl : l.length ≤ 1000) (k : ∀ st' : ASt, st'.1 = st.1 → KnA U st'.1.2 st'.2 → P (.dat (.bl (q.lets l))) st') : isletA D L p [.int ((n : Nat) : Int), .str (rowS l)] st P XP :=
  ⟨_, h, n, l, q, U, rfl, rfl, nd, ka, iu, hl, k⟩
theorem u_metA {i a : Nat} {p' : Qn} (nd : Nd st.1.2 n (.some p' a q)) (h : (Qn.some p' a q).ht < D) (hi : i < l.length) (ka : KnA U st.1.2 st.2) (iu : InU U l (n + 1)) (hl : l.length ≤ 1000) (k : ∀ st' : ASt, st'.1 = st.1 → KnA U st'.1.2 st'.2 → P (.dat (.bl (bB (Qn.Met l p' a q i)))) st') : metA D L p [.int ((n : Nat) : Int), .str (rowS l), .int ((i : Nat) : Int)] st P XP :=
  ⟨_, h, n, l, i, p', a, q, U, rfl, rfl, hi, nd, ka, iu, hl, k⟩
end
theorem InU.at {U : List (LRow × Nat)} {l : LRow} {n j i : Nat} (h : InU U l (n + 1)) (hj : j < n) : InU U (l.take i) (j + 1) ∧ InU U (l.drop i) (j + 1) :=
  ⟨(h.take i).mono hj, (h.drop i).mono hj⟩
/-! ### made -/
/-- what Asked.__init__ promises -/
def spAInit (K : PySem.W.Frag) (C : Addr) : Sp := fun vs H Q _ => ∃ (p dx : Addr) (vq : V) (q : Qn) (H0 : Hp), vs = [.ref p, vq] ∧ H p = some (.ins C dx []) ∧ H0 p = none ∧ Same H0 H ∧ Rep K H0 vq q.D ∧ q.ht ≤ 60 ∧ q.size ≤ 240 ∧
  ∀ (nu kn n : Nat) (st : ASt) (H0' H' : Hp), H nu = none → H kn = none → nu ≠ kn → Same H0 H0' → Same H0' H' → (∀ b o, H b = some o → b ≠ p → H' b = some o) → (∀ b, H b ≠ none → b ≠ p → H0 b = none → H0' b = none) → H0' nu = none → H0' kn = none →
    askR K C nu kn (some n) p st H0' H' → st.2 = [] → Nd st.1.2 n q → n + 1 = q.size → Q .non H'
end DL
/-! DMz: a new Asked object beside a ground -/
namespace DL
open PySem PySem.Spec PyProof.Rows L2
abbrev askCt (c : Ct) (C p nu kn n : Addr) (hn : NewAt c nu kn) : Ct where
  K := c.K
  S := c.S × ASt
  R := fun s H0 H => c.R s.1 H0 H ∧ askR c.K C nu kn (some n) p s.2 H0 H
  B := fun a => c.B a ∨ a = nu ∨ a = kn
  stab := fun s H0 H H0' H' h e k => ⟨c.stab _ _ _ _ _ h.1 e fun a o hb => k a o (.inl hb), (askRes c.K C nu kn (some n)).stab p _ _ _ _ _ h.2 e fun a o hb => k a o (.inr hb)⟩
  there := fun s H0 H a h hb => hb.elim (fun hb => c.there _ _ _ _ h.1 hb) fun hb => (askRes c.K C nu kn (some n)).there p _ _ _ _ h.2 hb
  E0 := c.E0
  E := c.E
  EX := c.EX
  X := fun C d s => c.X C d s.1
  okX := fun C d s v a H0' H' x e sub k n av rs ha r => c.okX C d s.1 v a H0' H' x e sub (fun b o hE hb => k b o hE fun z => by
    rcases z with z | z | z
    · exact hb z
    · rw [z, hn.e1] at hE; cases hE
    · rw [z, hn.e2] at hE; cases hE) n (fun b hb => av b (.inl hb)) rs.1 ha r
section
variable {c : Ct} {G : List Sl} {s : c.S} {C p nu kn n : Addr} {hn : NewAt c nu kn}
theorem onA : CtR (askCt c C p nu kn n hn) (askRes c.K C nu kn (some n)) p Prod.snd (fun s t => (s.1, t)) where
  B := fun a h => .inr h
  R := fun _ _ _ h => h.2
  back := fun s t H0 H H0' H' h av st => ⟨⟨c.stab _ _ _ _ _ h.1 st.ex fun a o hb ho => st.fr a o ho fun z => by
      rcases z with z | z
      · exact hn.b1 (z ▸ hb)
      · exact hn.b2 (z ▸ hb), st.rs⟩, fun a hb => by
    rcases hb with hb | hb
    · exact st.nw a (c.there _ _ _ _ h.1 hb) (av a (.inl hb))
    · exact st.av a hb⟩
theorem SlOk.outA {H0 H : Hp} {o : Option V} {x : Sl} (h : SlOk (askCt c C p nu kn n hn) H0 H o x) : SlOk c H0 H o x := by
  cases x with
  | un => trivial
  | dat d => exact h
  | own u =>
    obtain ⟨q, h1, h2, h3, h4, h5⟩ := h
    exact ⟨q, h1, h2, h3, fun z => h4 (.inl z), h5⟩
theorem Gd.outA {s : c.S × ASt} {σ : L2.St} {F : Frm} {H0 H : Hp} (g : Gd (askCt c C p nu kn n hn) G s σ F H0 H) : Gd c G s.1 σ F H0 H where
  ln := g.ln
  gd := {
    sub := g.gd.sub
    av := fun a hb => g.gd.av a (.inl hb)
    e0 := g.gd.e0
    e1 := fun a o hE hb => g.gd.e1 a o hE fun z => by
      have hE : c.E a = some o := hE
      rcases z with z | z | z
      · exact hb z
      · rw [z, hn.e1] at hE; cases hE
      · rw [z, hn.e2] at hE; cases hE
    e2 := g.gd.e2
    rs := g.gd.rs.1
    len := g.gd.len
    sl := fun i x hx => SlOk.outA (g.gd.sl i x hx)
    ds := g.gd.ds }
theorem RO.outA {σ : L2.St} {F : Frm} {H0 H : Hp} {v : V} {x : Sl} (h : RO (askCt c C p nu kn n hn) G σ F H0 H v x) : RO c G σ F H0 H v x := by
  cases x with
  | un => trivial
  | dat d => exact h
  | own u =>
    obtain ⟨q, h1, ⟨h2, h3, h4, h5⟩, h6⟩ := h
    exact ⟨q, h1, ⟨h2, h3, fun z => h4 (.inl z), h5⟩, h6⟩
theorem EOk.outA {D : Ends} {P : Ds c.S} {H0 : Hp} {m : Nat} (e : EOk c D P H0 m) : EOk (askCt c C p nu kn n hn) D ⟨fun G s => P.nx G s.1, fun x s => P.rt x s.1, fun G s => P.bk G s.1, fun G s => P.ct G s.1⟩ H0 m where
  nx := fun G s σ H0' H a b d l => e.nx G s.1 σ H0' H a (Gd.of b).outA.to d l
  rt := fun x s v G σ H0 H a b r => e.rt x s.1 v G σ H0 H a (Gd.of b).outA.to (by
    have := RO.outA (F := ([], [])) (show RO (askCt c C p nu kn n hn) G σ ([], []) H0 H v x by simpa [RO] using r)
    simpa [RO] using this)
  bk := fun G s σ H0' H a b d l => e.bk G s.1 σ H0' H a (Gd.of b).outA.to d l
  ct := fun G s σ H0' H a b d l => e.ct G s.1 σ H0' H a (Gd.of b).outA.to d l
/-- asked = Asked(question); .. -/
theorem ws_newA {P : Ds c.S} {i : Nat} {E : XK} {tq : TE} {u : TS} (h : WE c tq G s (FZ fun d s1 => ∃ q : Qn, d = q.D ∧ q.ht ≤ 60 ∧ q.size ≤ 240 ∧ ∀ p nu kn n hn (st : ASt), st.2 = [] → Nd st.1.2 n q → n + 1 = q.size →
      WS (askCt c C p nu kn n hn) u (G.set i (.dat (.ref p))) (s1, st) ⟨fun G s => P.nx G s.1, fun x s => P.rt x s.1, fun G s => P.bk G s.1, fun G s => P.ct G s.1⟩)) :
    WS c (tSeq (tAsg (tMake C (spAInit c.K C) [] E (tCons tq tNil)) (gName i)) u) G s P := fun σ H0 H gd D e =>
  h.use (Gd.of gd) fun d s1 vq H1 H1' hp g1 e1 r1 => by
    obtain ⟨q, rfl, hs0, hs, hp⟩ := hp
    intro p dx np ndx hpd
    obtain ⟨p1, p2, p3⟩ := g1.gd.newE np
    obtain ⟨d1, d2, d3⟩ := g1.gd.newE ndx
    have sx : Same H1 (upd H1 dx (.own p)) := fun b o hb => by
      rw [upd_ne (ne_of_none hb d3)]
      exact hb
    refine ⟨p, dx, vq, q, upd H1 dx (.own p), rfl, upd_same, by rw [upd_ne (Ne.symm hpd)]; exact p3, fun b o hb => ?_, r1.mono sx, hs0, hs, fun nu kn n st H0' H' nn nk hne s1' s2' fr nw v1 v2 ra h1 h2 h3 => ⟨rfl, ?_⟩⟩
    · by_cases hd : b = dx
      · subst hd
        rw [upd_same] at hb
        rw [upd_ne hpd, upd_same]
        exact hb
      · rw [upd_ne hd] at hb
        rw [upd_ne (ne_of_none hb p3), upd_ne hd]
        exact g1.gd.sub _ _ hb
    · have fnu : H1' nu = none ∧ nu ≠ p ∧ nu ≠ dx := by
        have a1 : nu ≠ p := fun z => by rw [z, upd_same] at nn; cases nn
        rw [upd_ne a1] at nn
        have a2 : nu ≠ dx := fun z => by rw [z, upd_same] at nn; cases nn
        rw [upd_ne a2] at nn
        exact ⟨nn, a1, a2⟩
      have fkn : H1' kn = none ∧ kn ≠ p ∧ kn ≠ dx := by
        have a1 : kn ≠ p := fun z => by rw [z, upd_same] at nk; cases nk
        rw [upd_ne a1] at nk
        have a2 : kn ≠ dx := fun z => by rw [z, upd_same] at nk; cases nk
        rw [upd_ne a2] at nk
        exact ⟨nk, a1, a2⟩
      obtain ⟨u1, u2, u3⟩ := g1.gd.newE fnu.1
      obtain ⟨k1, k2, k3⟩ := g1.gd.newE fkn.1
      have old : ∀ b o, H1' b = some o → H' b = some o := fun b o hb => fr b o (by rw [upd_ne (ne_of_none hb np), upd_ne (ne_of_none hb ndx)]; exact hb) (ne_of_none hb np)
      have hE : NewAt c nu kn := ⟨u1, k1, u2, k2⟩
      have g2 : Gd c G s1 σ ([], []) H0' H' := ⟨g1.ln, g1.gd.ext (sx.trans s1') s2' old (fun a ha h0 => nw a (by rw [upd_ne (fun z => ha (by rw [z]; exact np)), upd_ne (fun z => ha (by rw [z]; exact ndx))]; exact ha) (fun z => ha (by rw [z]; exact np)) (by rw [upd_ne (fun z => ha (by rw [z]; exact ndx))]; exact h0)) fun a hb ha => absurd ha (c.there _ _ _ _ g1.gd.rs hb)⟩
      have g3 : Gd (askCt c C p nu kn n hE) G (s1, st) σ ([], []) H0' H' := ⟨g2.ln, {
        sub := g2.gd.sub
        av := fun a hb => by
          rcases hb with hb | rfl | rfl
          · exact g2.gd.av a hb
          · exact v1
          · exact v2
        e0 := g2.gd.e0
        e1 := fun a o hE hb => g2.gd.e1 a o hE fun z => hb (.inl z)
        e2 := g2.gd.e2
        rs := ⟨g2.gd.rs, ra⟩
        len := g2.gd.len
        sl := fun i x hx => by
          have q := g2.gd.sl i x hx
          have q0 := g1.gd.sl i x hx
          cases x with
          | un => trivial
          | dat d => exact q
          | own u =>
            obtain ⟨r, h1, h2, h3, h4, h5⟩ := q
            obtain ⟨r', h1', _, _, _, u', hu', _⟩ := q0
            rw [h1] at h1'
            cases h1'
            refine ⟨r, h1, h2, h3, fun z => ?_, h5⟩
            rcases z with z | z | z
            · exact h4 z
            · rw [z, fnu.1] at hu'
              cases hu'
            · rw [z, fkn.1] at hu'
              cases hu'
        ds := g2.gd.ds }⟩
      refine (hp p nu kn n hE st h1 h2 h3) _ _ _ (g3.to.setSl i (v := .ref p) (x := .dat (.ref p)) (.ref p)) D ?_
      rw [List.length_set]
      exact EOk.outA (e.on (e1.trans (sx.trans s1')))
end
abbrev lets1S : FSpec := fun ds P _ => ∃ (l : LRow) (q : Qn), ds = [.str (rowS l), q.D] ∧ l.length ≤ 60 ∧ q.ht ≤ 60 ∧ q.size ≤ 240 ∧ P (.dat (.bl (q.lets l)))
abbrev letsP : FSpec := fun ds P _ => ∃ (l : LRow) (q : Qn), ds = [.str (rowS l), q.D] ∧ Letters l ∧ l.length ≤ 60 ∧ q.In LET ∧ q.ht ≤ 60 ∧ q.size ≤ 240 ∧ P (.dat (.bl (q.lets l)))
section
variable {l : LRow} {q : Qn} {P : Sl → Prop} {XP : Addr → DL.D → Prop}
theorem u_lets1H (h : l.length ≤ 60) (h1 : q.ht ≤ 60) (h2 : q.size ≤ 240) (k : P (.dat (.bl (q.lets l)))) : lets1S [.str (rowS l), q.D] P XP := ⟨l, q, rfl, h, h1, h2, k⟩
theorem u_lets1 (h : l.length ≤ 60) (h2 : q.size ≤ 60) (k : P (.dat (.bl (q.lets l)))) : lets1S [.str (rowS l), q.D] P XP := u_lets1H h (Nat.le_trans q.ht_le h2) (Nat.le_trans h2 (by decide)) k
theorem u_letsPH (h0 : Letters l) (h : l.length ≤ 60) (h1 : q.In LET) (h3 : q.ht ≤ 60) (h2 : q.size ≤ 240) (k : P (.dat (.bl (q.lets l)))) : letsP [.str (rowS l), q.D] P XP := ⟨l, q, rfl, h0, h, h1, h3, h2, k⟩
theorem u_letsP (h0 : Letters l) (h : l.length ≤ 60) (h1 : q.In LET) (h2 : q.size ≤ 60) (k : P (.dat (.bl (q.lets l)))) : letsP [.str (rowS l), q.D] P XP := u_letsPH h0 h h1 (Nat.le_trans q.ht_le h2) (Nat.le_trans h2 (by decide)) k
end
theorem KnA.nil {ns : List D} {l : LRow} {n : Nat} (hl : l.length ≤ 60) (hn : n < 240) : KnA (partsU l (n + 1)) ns [] ∧ InU (partsU l (n + 1)) l (n + 1) := by
  refine ⟨⟨?_, .nil, fun e he => nomatch he⟩, partsU_in _ _⟩
  rw [partsU_len]
  have h1 : (l.length + 1) * (n + 1) ≤ 61 * 240 := Nat.mul_le_mul (by omega) (by omega)
  have h2 : (l.length + 1) * ((l.length + 1) * (n + 1)) ≤ 61 * (61 * 240) := Nat.mul_le_mul (by omega) h1
  omega
theorem u_line {n : Nat} {names : D} {A : List Nat} {L : Int} {p : Addr} {Q : Sl → Nat → Prop} {XP : Addr → D → Nat → Prop} (hN : Names names A) (h : 0 ≤ L ∧ L ≤ 60) (hn : 64 ≤ n)
    (k : ∀ (l : LRow) (n' : Nat), (∀ a ∈ l, a ∈ A) → l.length ≤ L.toNat → n ≤ n' + 64 → Q (.dat (.str (rowS l))) n') : lineS p [names, .int L] n Q XP :=
  ⟨names, A, L.toNat, by rw [Int.toNat_of_nonneg h.1], hN, by omega, hn, fun x n' hx h2 => by
    obtain ⟨l, rfl, h3, h4⟩ := hx.row
    exact k l n' h3 h4 h2⟩
section
variable {l : LRow} {q r : Qn} {a : Nat} {P : Sl → Prop} {XP : Addr → DL.D → Prop}
theorem u_letsPa (h0 : Letters l) (h : l.length ≤ 60) (k : P (.dat (.bl true))) : letsP [.str (rowS l), .tup [.str "any"]] P XP := u_letsP (q := .any) h0 h trivial (by decide) k
theorem u_letsPn (h0 : Letters l) (h : l.length ≤ 60) (h1 : q.In LET) (h2 : q.size ≤ 59) (k : P (.dat (.bl (!q.lets l)))) : letsP [.str (rowS l), .tup [.str "not", q.D]] P XP := u_letsP (q := .neg q) h0 h h1 (by show q.size + 1 ≤ 60; omega) k
theorem u_letsPb (h0 : Letters l) (h : l.length ≤ 60) (h1 : q.In LET) (h2 : r.In LET) (h3 : q.size + r.size ≤ 59) (k : P (.dat (.bl (q.lets l && r.lets l)))) : letsP [.str (rowS l), .tup [.str "both", q.D, r.D]] P XP := u_letsP (q := .both q r) h0 h ⟨h1, h2⟩ (by show q.size + r.size + 1 ≤ 60; omega) k
theorem u_letsPs (h0 : Letters l) (h : l.length ≤ 60) (h1 : q.In LET) (h2 : r.In LET) (ha : a ∈ LET) (h3 : q.size + r.size ≤ 59) (k : P (.dat (.bl ((Qn.some q a r).lets l)))) : letsP [.str (rowS l), .tup [.str "some", q.D, .str (rowS [a]), r.D]] P XP := u_letsP (q := .some q a r) h0 h ⟨h1, ha, h2⟩ (by show q.size + r.size + 1 ≤ 60; omega) k
theorem u_letsS {D : Nat} (h : q.size + r.size + 1 < D) (hl : l.length ≤ 1000) (k : P (.dat (.bl ((Qn.some q a r).lets l)))) : letsS D [.str (rowS l), .tup [.str "some", q.D, .str (rowS [a]), r.D]] P XP := u_lets (q := .some q a r) h hl k
end
theorem db_repr2 {c : Ct} {G : List Sl} {s : c.S} {P : Sl → c.S → Prop} {a b : Bool} (k : P (.dat (.str (DL.D.lst [.bl a, .bl b]).py.shown)) s) : DCB c (rRepr c.K) [.lst [.bl a, .bl b]] G s P :=
  db_reprF (Fine.lst (.cons (Fine.bl _) (.cons (Fine.bl _) .nil))) (by decide) (by decide) k
end DL
/-! DNa: starred items, comprehensions with a test that works on the ground, questions turned about, places where a question is met -/
namespace DL
open PySem PySem.Spec PyProof.Rows L2
open StX (tStar pa_star)
section
variable {c : Ct} {G : List Sl} {s : c.S}
theorem sq_of {K : PySem.W.Frag} {H0 H : Hp} (e : Same H0 H) {v : V} {d : D} {ds : List D} (hd : d = .lst ds ∨ d = .tup ds) (r : Rep K H0 v d) : ∃ a xs, v = .ref a ∧ (SqT K H a xs ∨ SqL K H a xs) ∧ RepAll K H0 xs ds := by
  rcases hd with rfl | rfl
  · cases r with
    | lst h1 h2 => exact ⟨_, _, rfl, .inr (.inl (.inl (e _ _ h1))), h2⟩
  · obtain ⟨a, xs, e1, e2, e3⟩ := RepAll.toT e r
    exact ⟨a, xs, e1, .inl e2, e3⟩
theorem wa_star {P : List D → c.S → Prop} {te : TE} {t : TA} (h : WE c te G s (FZ fun d s1 => ∃ ds, (d = .lst ds ∨ d = .tup ds) ∧ WA c t G s1 fun es s2 => P (ds ++ es) s2)) : WA c (tStar c.K te t) G s P := fun σ F H0 H g Q q =>
  h.use g fun d s1 v H1 H1' hp g1 e1 r1 => by
    obtain ⟨ds, hd, hp⟩ := hp
    obtain ⟨a, xs, rfl, hs, r⟩ := sq_of g1.gd.sub hd r1
    refine ⟨a, xs, rfl, hs, hp σ F H1 H1' g1 _ fun es s2 vs H2 H2' hp2 g2 e2 r2 => ?_⟩
    exact q _ s2 _ H2 H2' hp2 g2 (e1.trans e2) ((r.mono e2).app r2)
/-- for a in a text: .. -/
theorem ws_forStr {β : Type} {K : PySem.W.Frag} (hK : c.K = K) {v i0 : Nat} {l : LRow} {tb u : TS} {P : Ds c.S} (is : List Nat) (Gs : β → List Sl) (I : Nat → β → c.S → Prop) (b0 : β) (hG : G = Gs b0) (hv : G[v]? = some (.dat (.str (rowS l)))) (hun : unAll G is = G) (hi : ∀ b, i0 < (Gs b).length) (h0 : I 0 b0 s)
    (hs : ∀ (i a : Nat) b si, l[i]? = some a → I i b si → WS c tb ((Gs b).set i0 (.dat (.str (rowS [a])))) si { nx := fun Gn sn => ∃ b', unAll Gn is = Gs b' ∧ I (i + 1) b' sn, ct := fun Gn sn => ∃ b', unAll Gn is = Gs b' ∧ I (i + 1) b' sn, bk := fun Gn sn => WS c u Gn sn P, rt := P.rt })
    (he : ∀ b sn, I l.length b sn → WS c u (Gs b) sn P) : WS c (tSeq (tFor (iAny K (tVar v)) (gName i0) tb) u) G s P := by
  subst hK
  refine ws_seqFor l (fun a => D.str (rowS [a])) is [i0] Gs (fun b a => (Gs b).set i0 (.dat (.str (rowS [a])))) I b0 hG hun ?_ (fun b a => tg_name (hi b)) (fun i a b si ha hI => hs i a b si ha hI) he
  exact wi_s (we_var hv (fz_dat ⟨_, rfl, signs_map l, h0⟩))
end
/-! ### questions turned about -/
def turnAS (D : Nat) : FSpec := fun ds P _ => ∃ sz : Nat, sz < D ∧ ∃ q : Qn, ds = [q.D] ∧ q.ht = sz ∧ P (.dat q.turn.D)
def turnQS : FSpec := fun ds P _ => ∃ q : Qn, ds = [q.D] ∧ q.In LET ∧ q.ht ≤ 60 ∧ P (.dat q.turn.D)
/-- the places where a question is met -/
noncomputable def metL (l : LRow) (p : Qn) (a : Nat) (q : Qn) (n : Nat) : List Nat := (List.range n).filter fun i => bB (Qn.Met l p a q i)
def placesS : FSpec := fun ds P _ => ∃ (l : LRow) (p : Qn) (a : Nat) (q : Qn), ds = [.str (rowS l), (Qn.some p a q).D] ∧ Letters l ∧ l.length ≤ 60 ∧ (Qn.some p a q).In LET ∧ (Qn.some p a q).size ≤ 60 ∧ P (.own (.lst ((metL l p a q l.length).map fun (i : Nat) => D.int ((i : Nat) : Int))))
section
variable {l : LRow} {q p : Qn} {a : Nat} {P : Sl → Prop} {XP : Addr → DL.D → Prop}
theorem u_turnAH {D : Nat} (h : q.ht < D) (k : P (.dat q.turn.D)) : turnAS D [q.D] P XP := ⟨_, h, q, rfl, rfl, k⟩
theorem u_turnA {D : Nat} (h : q.size < D) (k : P (.dat q.turn.D)) : turnAS D [q.D] P XP := u_turnAH (Nat.lt_of_le_of_lt q.ht_le h) k
theorem u_turnQH (h : q.In LET) (h2 : q.ht ≤ 60) (k : P (.dat q.turn.D)) : turnQS [q.D] P XP := ⟨q, rfl, h, h2, k⟩
theorem u_turnQ (h : q.In LET) (h2 : q.size ≤ 60) (k : P (.dat q.turn.D)) : turnQS [q.D] P XP := u_turnQH h (Nat.le_trans q.ht_le h2) k
theorem u_turnQS (h : p.In LET) (ha : a ∈ LET) (h3 : q.In LET) (h2 : p.size + q.size ≤ 59) (k : P (.dat (.tup [.str "some", q.turn.D, .str (rowS [a]), p.turn.D]))) : turnQS [.tup [.str "some", p.D, .str (rowS [a]), q.D]] P XP := u_turnQ (q := .some p a q) ⟨h, ha, h3⟩ (by show p.size + q.size + 1 ≤ 60; omega) k
theorem u_places (h0 : Letters l) (h : l.length ≤ 60) (h1 : (Qn.some p a q).In LET) (h2 : (Qn.some p a q).size ≤ 60) (k : P (.own (.lst ((metL l p a q l.length).map fun (i : Nat) => D.int ((i : Nat) : Int))))) : placesS [.str (rowS l), (Qn.some p a q).D] P XP := ⟨l, p, a, q, rfl, h0, h, h1, h2, k⟩
theorem u_placesS (h0 : Letters l) (h : l.length ≤ 60) (h1 : p.In LET) (ha : a ∈ LET) (h3 : q.In LET) (h2 : p.size + q.size ≤ 59) (k : P (.own (.lst ((metL l p a q l.length).map fun (i : Nat) => D.int ((i : Nat) : Int))))) : placesS [.str (rowS l), .tup [.str "some", p.D, .str (rowS [a]), q.D]] P XP := ⟨l, p, a, q, rfl, h0, h, ⟨h1, ha, h3⟩, by show p.size + q.size + 1 ≤ 60; omega, k⟩
end
/-! ### sorted numbers -/
abbrev nD (i : Nat) : D := .int ((i : Nat) : Int)
theorem sortsN (ns : List Nat) : Sorts (ns.map nD) where
  pl := by induction ns with
    | nil => rfl
    | cons p ps ih => exact ih
  al := by rw [pys_map, List.map_map]; exact PySem.W.AllAlike.of fun b b' => by simp [nD, D.py, PySem.W.alike]
  so := by rw [pys_map, List.map_map]; exact PySem.W.Sortable.others fun b => ⟨PyData.noConfusion, fun xs h => PyData.noConfusion h⟩
  dp := fun d hd => by
    obtain ⟨p, _, rfl⟩ := List.mem_map.mp hd
    simp [nD, D.py, PyData.depth]
/-! ### the least depth that parts, as a number or none -/
open Classical in
noncomputable def partN (l m : LRow) : Option Nat := if h : ∃ e, Parts e l m then some h.choose else none
theorem partN_some {l m : LRow} {e : Nat} (h : Parts e l m) : partN l m = some e := by
  unfold partN
  rw [dif_pos ⟨e, h⟩]
  exact congrArg some ((Exists.choose_spec (⟨e, h⟩ : ∃ e, Parts e l m)).one h)
theorem partN_self (l : LRow) : partN l l = none := by
  unfold partN
  rw [dif_neg]
  rintro ⟨e, h⟩
  exact h.1 (Alike.refl _ _)
theorem u_parting {l m : LRow} {P : Sl → Prop} {XP : Addr → D → Prop} (h1 : Letters l) (h2 : Letters m) (h3 : l.length ≤ 60) (h4 : m.length ≤ 60) (k : P (.dat (optD (partN l m)))) : partingS [.str (rowS l), .str (rowS m)] P XP :=
  ⟨l, m, rfl, h1, h2, h3, h4, fun e => by subst e; rw [partN_self] at k; exact k, fun d _ _ hd => by rw [partN_some hd] at k; exact k⟩
section
variable {c : Ct} {G : List Sl} {s : c.S} {P : Sl → c.S → Prop}
theorem deq_opt {a b : Option Nat} (k : P (.dat (.bl (bB (a = b)))) s) : DOp c (qEq c.K) (optD a) (optD b) G s P := by
  cases a with
  | none => cases b with
    | none => exact de_sc rfl (by rwa [bB_true rfl] at k)
    | some j => exact deq (b := false) rfl rfl rfl rfl rfl (by rwa [bB_false (by simp)] at k)
  | some i => cases b with
    | none => exact deq (b := false) rfl rfl rfl rfl rfl (by rwa [bB_false (by simp)] at k)
    | some j =>
      refine de_sc rfl ?_
      have e : decide (((i : Nat) : Int) = ((j : Nat) : Int)) = bB (some i = some j) := by
        rw [bB_dec]
        exact bB_congr ⟨fun h => by rw [show i = j by omega], fun h => by rw [Option.some.inj h]⟩
      rw [e]
      exact k
theorem dne_opt {a b : Option Nat} (k : P (.dat (.bl (!bB (a = b)))) s) : DOp c (qNe c.K) (optD a) (optD b) G s P := by
  cases a with
  | none => cases b with
    | none => exact dn_sc rfl (by rwa [bB_true rfl] at k)
    | some j => exact dne (b := false) rfl rfl rfl rfl rfl (by rwa [bB_false (by simp)] at k)
  | some i => cases b with
    | none => exact dne (b := false) rfl rfl rfl rfl rfl (by rwa [bB_false (by simp)] at k)
    | some j =>
      refine dn_sc rfl ?_
      have e : decide (((i : Nat) : Int) = ((j : Nat) : Int)) = bB (some i = some j) := by
        rw [bB_dec]
        exact bB_congr ⟨fun h => by rw [show i = j by omega], fun h => by rw [Option.some.inj h]⟩
      rw [e]
      exact k
end
section
variable {c : Ct} {G : List Sl} {s : c.S} {P : Sl → c.S → Prop}
theorem db_sortN {ns : List Nat} (hl : ns.length ≤ 1000000) (k : P (.own (.lst (sortD (ns.map nD)))) s) : DCB c (rSortD c.K) [.lst (ns.map nD)] G s P := db_sortD (by rw [List.length_map]; exact hl) (sortsN ns) k
theorem db_sortP {ns : List (Nat × Nat)} (hl : ns.length ≤ 1000000) (k : P (.own (.lst (sortD (ns.map p2D)))) s) : DCB c (rSortD c.K) [.lst (ns.map p2D)] G s P := db_sortD (by rw [List.length_map]; exact hl) (sorts2 ns) k
theorem we_revR {i : Nat} {l : LRow} (hi : G[i]? = some (.dat (.str (rowS l)))) (hl : l.length ≤ 1000000) (k : P (.dat (.str (rowS l.reverse))) s) : WE c (tRevQ c.K (tVar i)) G s P := we_revS (we_var hi (fz_dat ⟨l, rfl, hl, k⟩))
end
end DL
/-! DNb: count, startswith, endswith, in, of rows; questions for patterns (k14) -/
namespace DL
open PySem PySem.Spec PyProof.Rows L2 PySem.StrLaws
def rS1 (g : Str → Str → V) : V → List V → Hp → VK → Prop := fun x xs H Q => ∃ a b, x = .str a ∧ xs = [.str b] ∧ Q (g a b) H
section
variable {c : Ct} {G : List Sl} {s : c.S} {P : Sl → c.S → Prop}
theorem we_s1 {g : Str → Str → V} {gd : Str → Str → D} (hr : ∀ K H a b, Rep K H (g a b) (gd a b)) {to : TE} {ta : TA} (h : WE c to G s (FZ fun x s1 => ∃ z, x = .str z ∧ WA c ta G s1 fun ds s2 => ∃ y : Str, ds = [.str y] ∧ P (.dat (gd z y)) s2)) : WE c (tBM c.K "str" (rS1 g) to ta) G s P := fun σ F H0 H g0 Q q =>
  h.use g0 fun x s1 v H1 H1' hp g1 e1 r1 => by
    obtain ⟨z, rfl, hp⟩ := hp
    cases r1
    refine ⟨rfl, hp σ F H1 H1' g1 _ fun ds s2 vs H2 H2' hp g2 e2 r2 => ?_⟩
    obtain ⟨y, rfl, hp⟩ := hp
    cases r2 with
    | cons r rs =>
      cases r
      cases rs
      exact ⟨z, y, rfl, rfl, q _ s2 _ H2 H2' hp g2 (e1.trans e2) (hr _ _ _ _)⟩
end
/-! ### what these are, of rows -/
theorem at1 {l : LRow} {a i : Nat} : At (rowS l) (rowS [a]) (rowS l).length i ↔ l[i]? = some a := by
  rw [TL.at_iff (x := rowS l) (y := rowS [a]) (by show [a] ≠ []; simp)]
  show (((l.drop i).take 1) == [a]) = true ↔ _
  rw [beq_iff_eq]
  constructor
  · intro h
    have := congrArg (fun z => z[0]?) h
    simpa using this
  · intro h
    obtain ⟨hi, h⟩ := List.getElem?_eq_some_iff.mp h
    rw [List.drop_eq_getElem_cons hi, h]
    rfl
theorem count_chain {l : LRow} {c : Nat} : ∀ (cuts : List Nat) (a f : Nat), ChainG (rowS l) (rowS [c]) (rowS l).length a cuts f → (∀ k, f ≤ k → ¬ At (rowS l) (rowS [c]) (rowS l).length k) → cuts.length = (l.drop a).count c
  | [], a, f, h, hn => by
    have e : f = a := h
    subst e
    symm
    rw [List.length_nil, List.count_eq_zero]
    intro hc
    obtain ⟨i, hi⟩ := List.mem_iff_getElem?.mp hc
    rw [List.getElem?_drop] at hi
    exact hn _ (Nat.le_add_right _ _) (at1.mpr hi)
  | x :: r, a, f, h, hn => by
    obtain ⟨h1, h2, h3, h4⟩ := h
    have ih := count_chain r (x + 1) f h4 hn
    have hx := at1.mp h2
    obtain ⟨hxl, hx2⟩ := List.getElem?_eq_some_iff.mp hx
    have e : l.drop a = (l.drop a).take (x - a) ++ c :: l.drop (x + 1) := by
      have e1 : (l.drop a).drop (x - a) = l.drop x := by rw [List.drop_drop]; congr 1; omega
      rw [← hx2, ← List.drop_eq_getElem_cons hxl, ← e1, List.take_append_drop]
    have z : ((l.drop a).take (x - a)).count c = 0 := by
      rw [List.count_eq_zero]
      intro hc
      obtain ⟨i, hi⟩ := List.mem_iff_getElem?.mp hc
      have hi2 := (List.getElem?_eq_some_iff.mp hi).1
      rw [List.length_take] at hi2
      rw [List.getElem?_take_of_lt (by omega), List.getElem?_drop] at hi
      exact h3 (a + i) (by omega) (by omega) (at1.mpr hi)
    rw [e, List.count_append, z, List.count_cons_self, List.length_cons, ih, Nat.zero_add]
theorem count_row (l : LRow) (c : Nat) : Txt.count (rowS l) (rowS [c]) = ((l.count c : Nat) : Int) := by
  unfold Txt.count
  obtain ⟨f, h, hn⟩ := occ_tight (rowS l) (rowS [c]) (Nat.le_refl _)
  rw [count_chain _ 0 f h hn, List.drop_zero]
theorem sub_row (l m : LRow) (i : Nat) : Builtin.Str.subAt (rowS l) (rowS m) i = ((l.drop i).take m.length == m) := by
  have := StrLaws.subAt_eq (rowS l) (rowS m) i
  rw [rowS_len] at this
  exact this
theorem starts_row (l : LRow) (a : Nat) : Txt.startswith (rowS l) (rowS [a]) = bB (l.head? = some a) := by
  refine bB_of ?_
  unfold Txt.startswith
  rw [sub_row, rowS_len, rowS_len]
  cases l with
  | nil => simp
  | cons b l => simp
theorem ends_row (l : LRow) (a : Nat) : Txt.endswith (rowS l) (rowS [a]) = bB (l.getLast? = some a) := by
  refine bB_of ?_
  unfold Txt.endswith
  rw [sub_row, rowS_len, rowS_len]
  show (decide (0 + 1 ≤ l.length) && (((l.drop (l.length - 1)).take 1) == [a])) = true ↔ _
  rw [List.getLast?_eq_getElem?]
  by_cases h : l.length = 0
  · have : l = [] := List.length_eq_zero_iff.mp h
    subst this
    simp
  · have hi : l.length - 1 < l.length := by omega
    rw [List.drop_eq_getElem_cons hi, List.getElem?_eq_getElem hi]
    simp only [Bool.and_eq_true, decide_eq_true_eq, List.take_succ_cons, List.take_zero, beq_iff_eq, Option.some.injEq, List.cons.injEq, and_true]
    exact ⟨fun h => h.2, fun h => ⟨by omega, h⟩⟩
theorem in_row2 (l : LRow) (a b : Nat) : (!(Builtin.Str.occurrences (rowS l) (rowS [a, b]) 0 (rowS l).length 1).isEmpty) = bB (∃ i, l[i]? = some a ∧ l[i + 1]? = some b) := by
  refine bB_of ?_
  rw [found_iff]
  constructor
  · rintro ⟨i, hi, h⟩
    rw [sub_row, beq_iff_eq] at h
    rw [rowS_len, rowS_len] at hi
    have h0 := congrArg (fun z => z[0]?) h
    have h1 := congrArg (fun z => z[1]?) h
    refine ⟨i, ?_, ?_⟩
    · simpa using h0
    · simpa using h1
  · rintro ⟨i, h0, h1⟩
    obtain ⟨i0, e0⟩ := List.getElem?_eq_some_iff.mp h0
    obtain ⟨i1, e1⟩ := List.getElem?_eq_some_iff.mp h1
    refine ⟨i, by rw [rowS_len, rowS_len]; exact i1, ?_⟩
    rw [sub_row, beq_iff_eq, List.drop_eq_getElem_cons i0, List.drop_eq_getElem_cons i1, e0, e1]
    rfl
section
variable {c : Ct} {G : List Sl} {s : c.S} {P : Sl → c.S → Prop}
theorem we_scount {to : TE} {ta : TA} (h : WE c to G s (FZ fun x s1 => ∃ l : LRow, x = .str (rowS l) ∧ WA c ta G s1 fun ds s2 => ∃ a : Nat, ds = [.str (rowS [a])] ∧ P (.dat (.int ((l.count a : Nat) : Int))) s2)) : WE c (tBM c.K "str" (rS1 fun a b => .int (Txt.count a b)) to ta) G s P :=
  we_s1 (gd := fun a b => .int (Txt.count a b)) (fun _ _ _ _ => .int _) (h.mono fun x s' hx => by
    cases x with
    | un => exact hx
    | own w => cases w with
      | lst ds => obtain ⟨l, e, _⟩ := hx; cases e
      | dk _ => exact hx
      | dt _ => exact hx
      | ob _ => exact hx
    | dat d =>
      obtain ⟨l, rfl, hx⟩ := hx
      refine ⟨_, rfl, hx.mono fun ds s2 hd => ?_⟩
      obtain ⟨a, rfl, hd⟩ := hd
      refine ⟨_, rfl, ?_⟩
      rw [count_row]
      exact hd)
theorem we_sstarts {to : TE} {ta : TA} (h : WE c to G s (FZ fun x s1 => ∃ l : LRow, x = .str (rowS l) ∧ WA c ta G s1 fun ds s2 => ∃ a : Nat, ds = [.str (rowS [a])] ∧ P (.dat (.bl (bB (l.head? = some a)))) s2)) : WE c (tBM c.K "str" (rS1 fun a b => .bl (Txt.startswith a b)) to ta) G s P :=
  we_s1 (gd := fun a b => .bl (Txt.startswith a b)) (fun _ _ _ _ => .bl _) (h.mono fun x s' hx => by
    cases x with
    | un => exact hx
    | own w => cases w with
      | lst ds => obtain ⟨l, e, _⟩ := hx; cases e
      | dk _ => exact hx
      | dt _ => exact hx
      | ob _ => exact hx
    | dat d =>
      obtain ⟨l, rfl, hx⟩ := hx
      refine ⟨_, rfl, hx.mono fun ds s2 hd => ?_⟩
      obtain ⟨a, rfl, hd⟩ := hd
      refine ⟨_, rfl, ?_⟩
      rw [starts_row]
      exact hd)
theorem we_sends {to : TE} {ta : TA} (h : WE c to G s (FZ fun x s1 => ∃ l : LRow, x = .str (rowS l) ∧ WA c ta G s1 fun ds s2 => ∃ a : Nat, ds = [.str (rowS [a])] ∧ P (.dat (.bl (bB (l.getLast? = some a)))) s2)) : WE c (tBM c.K "str" (rS1 fun a b => .bl (Txt.endswith a b)) to ta) G s P :=
  we_s1 (gd := fun a b => .bl (Txt.endswith a b)) (fun _ _ _ _ => .bl _) (h.mono fun x s' hx => by
    cases x with
    | un => exact hx
    | own w => cases w with
      | lst ds => obtain ⟨l, e, _⟩ := hx; cases e
      | dk _ => exact hx
      | dt _ => exact hx
      | ob _ => exact hx
    | dat d =>
      obtain ⟨l, rfl, hx⟩ := hx
      refine ⟨_, rfl, hx.mono fun ds s2 hd => ?_⟩
      obtain ⟨a, rfl, hd⟩ := hd
      refine ⟨_, rfl, ?_⟩
      rw [ends_row]
      exact hd)
theorem din_row2 {l : LRow} {a b : Nat} (k : P (.dat (.bl (bB (∃ i, l[i]? = some a ∧ l[i + 1]? = some b)))) s) : DOp c (qIn c.K) (.str (rowS [a, b])) (.str (rowS l)) G s P := din_str (by rw [in_row2]; exact k)
theorem dm_row {l : LRow} {z : Int} (h0 : 0 ≤ z) (h1 : z ≤ 1000) (hl : l.length ≤ 1000) (k : P (.dat (.str (rowS (rep l z.toNat)))) s) : DOp c qMul (.str (rowS l)) (.int z) G s P := dm_lit l rfl h0 h1 hl k
end
/-! ### questions for patterns -/
def patQ (l : LRow) : Qn := l.foldl (fun q a => .some q a .any) .any
def bareQ (A : LRow) : Qn := A.foldl (fun q a => .both q (.neg (.some .any a .any))) .any
abbrev patS : FSpec := fun ds P _ => ∃ l : LRow, ds = [.str (rowS l)] ∧ P (.dat (patQ l).D)
abbrev bareS : FSpec := fun ds P _ => ∃ l : LRow, ds = [.str (rowS l)] ∧ P (.dat (bareQ l).D)
abbrev hasS : FSpec := fun ds P _ => ∃ l m : LRow, ds = [.str (rowS l), .str (rowS m)] ∧ l.length ≤ 1000 ∧ m.length ≤ 1000 ∧ P (.dat (.bl (bB (m.Sublist l))))
section
variable {l m : LRow} {P : Sl → Prop} {XP : Addr → DL.D → Prop}
theorem u_pat (k : P (.dat (patQ l).D)) : patS [.str (rowS l)] P XP := ⟨l, rfl, k⟩
theorem u_bare (k : P (.dat (bareQ l).D)) : bareS [.str (rowS l)] P XP := ⟨l, rfl, k⟩
theorem u_has (h : l.length ≤ 1000) (h2 : m.length ≤ 1000) (k : P (.dat (.bl (bB (m.Sublist l))))) : hasS [.str (rowS l), .str (rowS m)] P XP := ⟨l, m, rfl, h, h2, k⟩
end
end DL
/-! DNc: questions that part rows -/
namespace DL
open PySem PySem.Spec PyProof.Rows L2
/-! ### all of some questions -/
namespace Qn
theorem parts_inj : ∀ {p q : Qn}, p.D = q.D → p = q
  | .any, .any, _ => rfl
  | .any, .neg _, h => by injection h with h; simp at h
  | .any, .both _ _, h => by injection h with h; simp at h
  | .any, .some _ _ _, h => by injection h with h; simp at h
  | .neg _, .any, h => by injection h with h; simp at h
  | .neg p, .neg q, h => by
    injection h with h
    simp only [List.cons.injEq, and_true, true_and] at h
    rw [parts_inj h]
  | .neg _, .both _ _, h => by injection h with h; simp at h
  | .neg _, .some _ _ _, h => by injection h with h; simp at h
  | .both _ _, .any, h => by injection h with h; simp at h
  | .both _ _, .neg _, h => by injection h with h; simp at h
  | .both p q, .both r t, h => by
    injection h with h
    simp only [List.cons.injEq, and_true, true_and] at h
    rw [parts_inj h.1, parts_inj h.2]
  | .both _ _, .some _ _ _, h => by injection h with h; simp at h
  | .some _ _ _, .any, h => by injection h with h; simp at h
  | .some _ _ _, .neg _, h => by injection h with h; simp at h
  | .some _ _ _, .both _ _, h => by injection h with h; simp at h
  | .some p a q, .some r b t, h => by
    injection h with h
    simp only [List.cons.injEq, and_true, true_and] at h
    obtain ⟨h1, h2, h3⟩ := h
    injection h2 with h2
    have h2 := rowS_inj h2
    simp only [List.cons.injEq, and_true] at h2
    rw [parts_inj h1, parts_inj h3, h2]
end Qn
section
variable {c : Ct} {G : List Sl} {s : c.S} {P : Sl → c.S → Prop}
theorem deq_qn {p q : Qn} (h1 : p.In LET) (h2 : q.In LET) (h3 : p.ht ≤ 60) (h4 : q.ht ≤ 60) (k : P (.dat (.bl (bB (p = q)))) s) : DOp c (qEq c.K) p.D q.D G s P :=
  deqF (Qn.fine h1) (Qn.fine h2) (by omega) (by omega) (Qn.nb p) (Qn.nb q) (by rw [bB_congr (⟨Qn.parts_inj, fun e => by rw [e]⟩ : p.D = q.D ↔ p = q)]; exact k)
theorem dne_qn {p q : Qn} (h1 : p.In LET) (h2 : q.In LET) (h3 : p.ht ≤ 60) (h4 : q.ht ≤ 60) (k : P (.dat (.bl (!bB (p = q)))) s) : DOp c (qNe c.K) p.D q.D G s P :=
  dneF (Qn.fine h1) (Qn.fine h2) (by omega) (by omega) (Qn.nb p) (Qn.nb q) (by rw [bB_congr (⟨Qn.parts_inj, fun e => by rw [e]⟩ : p.D = q.D ↔ p = q)]; exact k)
/-- a tuple of the module -/
structure KTup (K : PySem.W.Frag) (mg : Str → Option Value) (x : Str) (a : Addr) (ds : List D) : Prop where
  mg : mg x = some (.ref a)
  rep : ∀ H0, Rep K H0 (.ref a) (.tup ds)
theorem we_ktup {mg : Str → Option Value} {x : Str} {a : Addr} {ds : List D} (h : KTup c.K mg x a ds) (k : P (.dat (.tup ds)) s) : WE c (tC (.ref a)) G s P := fun σ F H0 H g Q q => q _ _ _ H0 H k g (Same.refl _) (h.rep H0)
end
def stepQ (f q : Qn) : Qn := if f = .any then q else if q = f then f else .both f q
def allQ (qs : List Qn) : Qn := qs.foldl stepQ .any
def sizeB : Nat → Nat
  | 0 => 0
  | 1 => 4
  | d + 2 => 6 * (sizeB (d + 1) + 1) + 4
def htB : Nat → Nat
  | 0 => 0
  | d + 1 => 8 * d + 3
theorem sizeB_mono : ∀ {d e : Nat}, e ≤ d → sizeB e ≤ sizeB d := fun {d e} h => by
  have st : ∀ d, sizeB d ≤ sizeB (d + 1) := fun d => by
    match d with
    | 0 => decide
    | 1 => decide
    | d + 2 => show sizeB (d + 2) ≤ 6 * (sizeB (d + 2) + 1) + 4; omega
  induction h with
  | refl => exact Nat.le_refl _
  | step _ ih => exact Nat.le_trans ih (st _)
theorem htB_mono {d e : Nat} (h : e ≤ d) : htB e ≤ htB d := by
  cases e with
  | zero => exact Nat.zero_le _
  | succ e => cases d with
    | zero => omega
    | succ d => show 8 * e + 3 ≤ 8 * d + 3; omega
/-! ### promises -/
def allOfS : FSpec := fun ds P _ => ∃ qs : List Qn, ds = [.lst (qs.map Qn.D)] ∧ (∀ q ∈ qs, q.In LET) ∧ (∀ q ∈ qs, q.ht ≤ 40) ∧ qs.length ≤ 10 ∧ P (.dat (allQ qs).D)
def leastOfS : KSpec := fun _ ds st P _ => ∃ (l m : LRow) (U : List (LRow × Nat)), ds = [.str (rowS l), .str (rowS m)] ∧ l.length ≤ 60 ∧ m.length ≤ 60 ∧ KInv U st ∧ InU U l 6 ∧ InU U m 6 ∧
  ∀ st', KInv U st' → st.tab <+: st'.tab → P (.dat (optD (partN l m))) st'
theorem u_allOf {qs : List Qn} {P : Sl → Prop} {XP : Addr → DL.D → Prop} (h1 : ∀ q ∈ qs, q.In LET) (h2 : ∀ q ∈ qs, q.ht ≤ 40) (h3 : qs.length ≤ 10) (k : P (.dat (allQ qs).D)) : allOfS [.lst (qs.map Qn.D)] P XP := ⟨qs, rfl, h1, h2, h3, k⟩
section
variable {c : Ct} {G : List Sl} {s : c.S} {P : Sl → c.S → Prop}
theorem dis_opt {o : Option Nat} (k : P (.dat (.bl o.isNone)) s) : DOp c (fun x y H Q => y = V.non ∧ Q (.bl (decide (x = V.non))) H) (optD o) .non G s P := by
  cases o with
  | none => exact dis_non (.inl ⟨rfl, rfl⟩) k
  | some e => exact dis_non (.inr ⟨⟨_, rfl⟩, rfl⟩) k
theorem dnis_opt {o : Option Nat} (k : P (.dat (.bl o.isSome)) s) : DOp c (fun x y H Q => y = V.non ∧ Q (.bl (!decide (x = V.non))) H) (optD o) .non G s P := by
  cases o with
  | none => exact dnot_non (.inl ⟨rfl, rfl⟩) k
  | some e => exact dnot_non (.inr ⟨⟨_, rfl⟩, rfl⟩) k
theorem dle_opt {a b : Nat} (k : P (.dat (.bl (decide (a ≤ b)))) s) : DOp c qLe (optD (some a)) (optD (some b)) G s P := by
  refine dle_int ?_
  rw [show decide (((a : Nat) : Int) ≤ ((b : Nat) : Int)) = decide (a ≤ b) from decide_eq_decide.mpr (by omega)]
  exact k
end
section
variable {l m : LRow} {U : List (LRow × Nat)} {p : Addr} {st : KSt} {P : Sl → KSt → Prop} {XP : Addr → D → KSt → Prop}
theorem u_leastOf (hI : KInv U st) (hU : InU U l 6) (hV : InU U m 6) (h1 : l.length ≤ 60) (h2 : m.length ≤ 60) (k : ∀ st', KInv U st' → st.tab <+: st'.tab → P (.dat (optD (partN l m))) st') : leastOfS p [.str (rowS l), .str (rowS m)] st P XP := ⟨l, m, U, rfl, h1, h2, hI, hU, hV, k⟩
end
/-- a question of those gathered at a pick -/
def PartOk (d : Nat) (x : LRow) (q : Qn) : Prop := q.In LET ∧ q.depth ≤ d ∧ q.size ≤ sizeB d ∧ q.ht ≤ htB d ∧ q.lets x = true
theorem PartOk.mono {d e : Nat} {x : LRow} {q : Qn} (h : e ≤ d) (k : PartOk e x q) : PartOk d x q := ⟨k.1, Nat.le_trans k.2.1 h, Nat.le_trans k.2.2.1 (sizeB_mono h), Nat.le_trans k.2.2.2.1 (htB_mono h), k.2.2.2.2⟩
theorem map_get {α : Type} {L : List α} {f : α → D} {i : Nat} {x : D} (h : (L.map f)[i]? = some x) : ∃ a, L[i]? = some a ∧ x = f a := by
  rw [List.getElem?_map] at h
  cases e : L[i]? with
  | none => rw [e] at h; cases h
  | some a =>
    rw [e] at h
    cases h
    exact ⟨a, rfl, rfl⟩
end DL
/-! DNd: max of a list, with a default -/
namespace DL
open PySem PySem.Spec PyProof.Rows L2
/-- the greatest, d of none -/
def maxI (d : Int) : List Int → Int
  | [] => d
  | n :: ns => ns.foldl max n
def rMaxDf (K : PySem.W.Frag) : List V → List V → Hp → VK → Prop := fun vs zs H Q => ∃ (a : Addr) (ns : List Int) (d : Int), vs = [.ref a] ∧ zs = [.int d] ∧ SqL K H a (ns.map V.int) ∧ Q (.int (maxI d ns)) H
def maxN (d : Nat) (ns : List Nat) : Nat := ns.foldl max d
theorem foldl_maxN : ∀ (ns : List Nat) (d : Nat), (ns.map fun (i : Nat) => ((i : Nat) : Int)).foldl max ((d : Nat) : Int) = ((ns.foldl max d : Nat) : Int)
  | [], d => rfl
  | n :: ns, d => by
    show (ns.map _).foldl max (max ((d : Nat) : Int) ((n : Nat) : Int)) = ((ns.foldl max (max d n) : Nat) : Int)
    rw [← foldl_maxN ns (max d n)]
    congr 1
    omega
theorem maxI_nats (ns : List Nat) : maxI 0 (ns.map fun (i : Nat) => ((i : Nat) : Int)) = ((maxN 0 ns : Nat) : Int) := by
  cases ns with
  | nil => rfl
  | cons n ns =>
    show (ns.map _).foldl max ((n : Nat) : Int) = ((ns.foldl max (max 0 n) : Nat) : Int)
    rw [foldl_maxN, Nat.zero_max]
section
variable {c : Ct} {G : List Sl} {s : c.S} {P : Sl → c.S → Prop}
/-- max(list of numbers, default=0) -/
theorem we_maxDf {ta tk : TA} (h : WA c ta G s fun ds s1 => ∃ ns : List Nat, ds = [.lst (ns.map fun (i : Nat) => D.int ((i : Nat) : Int))] ∧ WA c tk G s1 fun es s2 => es = [.int 0] ∧ P (.dat (.int ((maxN 0 ns : Nat) : Int))) s2) : WE c (tCKw (rMaxDf c.K) ta tk) G s P := fun σ F H0 H g Q q =>
  h σ F H0 H g _ fun ds s1 vs H1 H1' hp g1 e1 r1 => by
    obtain ⟨ns, rfl, hp⟩ := hp
    refine hp σ F H1 H1' g1 _ fun es s2 ws H2 H2' hp2 g2 e2 r2 => ?_
    obtain ⟨rfl, k⟩ := hp2
    cases r1 with
    | cons r rs =>
    cases rs
    cases r2 with
    | cons z zs =>
    cases zs
    cases z
    cases r with
    | lst hl ha =>
      rw [show (ns.map fun (i : Nat) => D.int ((i : Nat) : Int)) = (ns.map fun (i : Nat) => ((i : Nat) : Int)).map D.int by rw [List.map_map]; rfl] at ha
      have hv := ha.ints
      subst hv
      refine ⟨_, ns.map fun (i : Nat) => ((i : Nat) : Int), 0, rfl, rfl, .inl (.inl (g2.gd.sub _ _ (e2 _ _ hl))), ?_⟩
      rw [maxI_nats]
      exact q _ s2 _ H2 H2' k g2 (e1.trans e2) (.int _)
end
def depInS (D : Nat) : FSpec := fun ds P _ => ∃ sz : Nat, sz < D ∧ ∃ q : Qn, ds = [q.D] ∧ q.ht = sz ∧ P (.dat (.int ((q.depth : Nat) : Int)))
def depOfS : FSpec := fun ds P _ => ∃ q : Qn, ds = [q.D] ∧ q.In LET ∧ q.ht ≤ 60 ∧ P (.dat (.int ((q.depth : Nat) : Int)))
section
variable {q : Qn} {P : Sl → Prop} {XP : Addr → DL.D → Prop}
theorem u_depIn {D : Nat} (h : q.ht < D) (k : P (.dat (.int ((q.depth : Nat) : Int)))) : depInS D [q.D] P XP := ⟨_, h, q, rfl, rfl, k⟩
theorem u_depOfH (h1 : q.In LET) (h2 : q.ht ≤ 60) (k : P (.dat (.int ((q.depth : Nat) : Int)))) : depOfS [q.D] P XP := ⟨q, rfl, h1, h2, k⟩
theorem u_depOf (h1 : q.In LET) (h2 : q.size ≤ 60) (k : P (.dat (.int ((q.depth : Nat) : Int)))) : depOfS [q.D] P XP := u_depOfH h1 (Nat.le_trans q.ht_le h2) k
end
section
variable {c : Ct} {G : List Sl} {s : c.S} {P : Sl → c.S → Prop}
theorem qn_ref {K : PySem.W.Frag} {H : Hp} {v : V} {q : Qn} (r : Rep K H v q.D) : v ≠ .non := by
  rw [q.D_parts] at r
  cases r
  intro h
  cases h
theorem dis_qn {q : Qn} (k : P (.dat (.bl false)) s) : DOp c (fun x y H Q => y = V.non ∧ Q (.bl (decide (x = V.non))) H) q.D .non G s P := fun σ F H0 H v w g r1 r2 Q qq => by
  cases r2
  refine ⟨rfl, ?_⟩
  rw [decide_eq_false (qn_ref r1)]
  exact qq _ s _ H0 H k g (Same.refl _) (.bl _)
theorem dnis_qn {q : Qn} (k : P (.dat (.bl true)) s) : DOp c (fun x y H Q => y = V.non ∧ Q (.bl (!decide (x = V.non))) H) q.D .non G s P := fun σ F H0 H v w g r1 r2 Q qq => by
  cases r2
  refine ⟨rfl, ?_⟩
  rw [decide_eq_false (qn_ref r1)]
  exact qq _ s _ H0 H k g (Same.refl _) (.bl _)
theorem dnis_bl {a b : Bool} (k : P (.dat (.bl (!decide (a = b)))) s) : DOp c rNotB (.bl a) (.bl b) G s P := fun σ F H0 H v w g r1 r2 Q q => by
  cases r1
  cases r2
  exact ⟨a, b, rfl, rfl, q _ s _ H0 H k g (Same.refl _) (.bl _)⟩
theorem dis_non0 (k : P (.dat (.bl true)) s) : DOp c (fun x y H Q => y = V.non ∧ Q (.bl (decide (x = V.non))) H) .non .non G s P := dis_non (.inl ⟨rfl, rfl⟩) k
theorem dnis_non0 (k : P (.dat (.bl false)) s) : DOp c (fun x y H Q => y = V.non ∧ Q (.bl (!decide (x = V.non))) H) .non .non G s P := dnot_non (.inl ⟨rfl, rfl⟩) k
end
end DL
/-! DNe: {k: v} with a nested key; dicts of ints as grounds -/
namespace DL
open PySem PySem.Spec PyProof.Rows L2
/-- {k: v}, k a tuple -/
def tDisp1N (P : Program) (w : World) (K : PySem.W.Frag) (tk tv : TE) : TE := fun σ H Q => ∀ p, H p = none → tk σ (upd H p (ndO P w p [])) fun y H1 => tv σ H1 fun z H2 => ∃ k b, y = .ref b ∧ Rep K H2 (.ref b) k ∧ k.keyable = true ∧ k.nk.depth ≤ 8 ∧ H2 p = some (ndO P w p []) ∧ Q (.ref p) (upd H2 p (ndO P w p [(k, b, z)]))
theorem pe_disp1N {X : Cx} {pos : Pos} {ke ve : Expr} {tk tv : TE} (hu : X.A.units + 64 < cLine) (hk : PE X ke tk) (hv : PE X ve tv) : PE X (.Dict [some ke] [ve] pos) (tDisp1N X.prog X.w X.K tk tv) := by
  refine ⟨fun pins s σ H Q I q => ?_⟩
  have hn := I.hok.fresh (Nat.le_refl s.heap.objs.size)
  have I1 := I.laid (a := s.heap.objs.size) (o := ndO X.prog X.w s.heap.objs.size []) (h' := s.heap.push { cls := .type "dict", data := .dict #[] }) (t' := s.toks) (fun _ _ q => Heap.get?_push_of_some _ q) (Nat.le_refl _) (nd_ok ⟨beq_eq_false_iff_ne.mpr (Nat.ne_of_gt I.big), [], .nil, .nil, _, _, _, Heap.get?_push_size _ rfl, ⟨rfl, rfl, rfl⟩, rfl, rfl⟩)
  rw [arm_eval_Dict, zip_pairTrees [some ke] [ve] X.env pos rfl rfl, dictDisplay_pairs _ (by simp [pairTrees]) (by simp [pairTrees])]
  refine wpAny_bind (wpAny_standAt (wpAny_bind (wpAny_subDictH (knd := nestedKind X.prog X.w) (by show X.A.units + 8 < cLine; omega) (by simp [pairTrees]) ?_)))
  refine pairTrees_cons_walk (thn (hk.run pins _ σ _ _ I1 (q _ hn)) fun u s1 ⟨y, H1, I2, ry, q1⟩ => thn (hv.run pins s1 σ H1 _ I2 q1) fun r s2 ⟨z, H2, I3, rz, q2⟩ => pairTrees_nil_walk ?_)
  obtain ⟨k, b, rfl, rk, kk, kd, e, q3⟩ := q2
  obtain rfl : u = .ref b := ry
  obtain ⟨hsys, us, pr, dh⟩ := nd_of I3 e (fun x hx => nomatch hx)
  cases pr
  have hkey : (nestedKind X.prog X.w).is s2.heap k.nk b := ⟨nested_of I3 rk kk rfl, kd⟩
  refine ⟨[(k.nk, b, r)], ⟨rfl, rfl, hkey, trivial⟩, dh, fun h' tk d2 hs => wpAny_pure ?_⟩
  obtain ⟨o, es, ep, ho, hx, hdat, he, _, hnd⟩ := d2
  refine ⟨.ref s.heap.objs.size, _, d_write I3 (by rw [e]; exact True.intro) hs ⟨o, ho⟩ (nd_ok ⟨hsys, _, ?_, hnd, o, es, ep, ho, hx, hdat, he⟩), rfl, q3⟩
  exact .cons ⟨rfl, rfl, rz⟩ .nil
end DL
/-! DNf: kinds that are put together, as numbers of a table (no program in sight) -/
namespace DL
open PySem PySem.Spec PyProof.Rows L2
/-- for each number its depth and its triples -/
abbrev JTab := List (Nat × List M3)
/-- T are the triples of the row's places, their kinds by f -/
def JTr (f : LRow → Int → Prop) (l : LRow) (T : List M3) : Prop :=
  (∀ (i a : Nat), l[i]? = some a → ∃ x y, ((x, rowS [a], y) : M3) ∈ T ∧ f (l.take i) x ∧ f (l.drop (i + 1)) y) ∧
  ∀ m ∈ T, ∃ i a : Nat, l[i]? = some a ∧ m.2.1 = rowS [a] ∧ f (l.take i) m.1 ∧ f (l.drop (i + 1)) m.2.2
theorem JTr.mono {f g : LRow → Int → Prop} (h : ∀ r n, f r n → g r n) {l : LRow} {T : List M3} (k : JTr f l T) : JTr g l T :=
  ⟨fun i a ha => by
    obtain ⟨x, y, h1, h2, h3⟩ := k.1 i a ha
    exact ⟨x, y, h1, h _ _ h2, h _ _ h3⟩, fun m hm => by
    obtain ⟨i, a, h1, h2, h3, h4⟩ := k.2 m hm
    exact ⟨i, a, h1, h2, h _ _ h3, h _ _ h4⟩⟩
/-- n is the kind of the row to the depth -/
def JK (t : JTab) : Nat → LRow → Int → Prop
  | 0, _, n => n = 0
  | d + 1, l, n => ∃ T : List M3, JTr (JK t d) l T ∧ 0 ≤ n ∧ t[n.toNat]? = some (d + 1, canonS T)
theorem JK.mono {t t' : JTab} (h : t <+: t') : ∀ {d : Nat} {l : LRow} {n : Int}, JK t d l n → JK t' d l n
  | 0, _, _, k => k
  | d + 1, l, n, ⟨T, k1, k2, k3⟩ => by
    refine ⟨T, k1.mono fun _ _ z => JK.mono h z, k2, ?_⟩
    obtain ⟨r, rfl⟩ := h
    rw [List.getElem?_append_left (List.getElem?_eq_some_iff.mp k3).1]
    exact k3
theorem jk_iff {t : JTab} (hn : t.Nodup) : ∀ {d : Nat} {l m : LRow} {x y : Int}, JK t d l x → JK t d m y → (x = y ↔ Alike d l m)
  | 0, _, _, x, y, (hx : x = 0), (hy : y = 0) => by rw [hx, hy]; exact ⟨fun _ => trivial, fun _ => rfl⟩
  | d + 1, l, m, x, y, ⟨ms, hm, x0, ex⟩, ⟨ns, hn', y0, ey⟩ => by
    have e1 : x = y ↔ canonS ms = canonS ns := by
      constructor
      · intro e
        rw [e, ey] at ex
        have := Option.some.inj ex
        injection this with _ h
        exact h.symm
      · intro e
        rw [e] at ex
        have := nodup_at hn ex ey
        omega
    rw [e1, canonS_iff]
    have half : ∀ {l m : LRow} {ms ns : List M3}, JTr (JK t d) l ms → JTr (JK t d) m ns → ((∀ q, q ∈ ms → q ∈ ns) ↔ ∀ (i a : Nat), l[i]? = some a → ∃ j, m[j]? = some a ∧ Alike d (l.take i) (m.take j) ∧ Alike d (l.drop (i + 1)) (m.drop (j + 1))) := by
      intro l m ms ns hm hn'
      constructor
      · intro h i a ha
        obtain ⟨u, v, q1, q2, q3⟩ := hm.1 i a ha
        obtain ⟨j, b, hb, e, k1, k2⟩ := hn'.2 _ (h _ q1)
        have hab : a = b := str1_inj e
        subst hab
        exact ⟨j, hb, (jk_iff hn q2 k1).mp rfl, (jk_iff hn q3 k2).mp rfl⟩
      · intro h q hq
        obtain ⟨i, a, ha, e, k1, k2⟩ := hm.2 q hq
        obtain ⟨j, hj, a1, a2⟩ := h i a ha
        obtain ⟨u, v, q1, q2, q3⟩ := hn'.1 j a hj
        have e1 := (jk_iff hn k1 q2).mpr a1
        have e2 := (jk_iff hn k2 q3).mpr a2
        have : q = (u, rowS [a], v) := by
          obtain ⟨q0, q1, q2⟩ := q
          simp only at e e1 e2
          rw [e, e1, e2]
        rw [this]
        exact q1
    show _ ↔ _ ∧ _
    rw [← half hm hn', ← half hn' hm]
    exact ⟨fun h => ⟨fun q => (h q).mp, fun q => (h q).mpr⟩, fun h q => ⟨h.1 q, h.2 q⟩⟩
theorem JK.one {t : JTab} (hn : t.Nodup) {d : Nat} {l : LRow} {x y : Int} (h : JK t d l x) (k : JK t d l y) : x = y := (jk_iff hn h k).mpr (Alike.refl _ _)
theorem JK.depth {t : JTab} {d e : Nat} {l m : LRow} {n : Int} (h : JK t (d + 1) l n) (k : JK t (e + 1) m n) : d = e := by
  obtain ⟨_, _, _, h⟩ := h
  obtain ⟨_, _, _, k⟩ := k
  rw [h] at k
  have := Option.some.inj k
  injection this with h _
  omega
theorem JK.lt {t : JTab} {d : Nat} {l : LRow} {n : Int} (h : JK t (d + 1) l n) : 0 ≤ n ∧ n.toNat < t.length := by
  obtain ⟨_, _, h0, h⟩ := h
  exact ⟨h0, (List.getElem?_eq_some_iff.mp h).1⟩
/-- rows that are alike have one kind -/
theorem JK.alike {t : JTab} (hn : t.Nodup) : ∀ {d : Nat} {l m : LRow} {n : Int}, JK t d l n → Alike d l m → JK t d m n
  | 0, _, _, _, h, _ => h
  | d + 1, l, m, n, ⟨T, h1, h2, h3⟩, k => by
    refine ⟨T, ⟨fun j a hj => ?_, fun q hq => ?_⟩, h2, h3⟩
    · obtain ⟨i, hi, a1, a2⟩ := k.2 j a hj
      obtain ⟨x, y, q1, q2, q3⟩ := h1.1 i a hi
      exact ⟨x, y, q1, JK.alike hn q2 a1.symm, JK.alike hn q3 a2.symm⟩
    · obtain ⟨i, a, hi, e, q2, q3⟩ := h1.2 q hq
      obtain ⟨j, hj, a1, a2⟩ := k.1 i a hi
      exact ⟨j, a, hj, e, JK.alike hn q2 a1, JK.alike hn q3 a2⟩
/-! ### what a Joints object holds -/
def jkey (e : Nat × List M3) : D := .tup [.int ((e.1 : Nat) : Int), keyD e.2]
theorem jkey_able (e : Nat × List M3) : (jkey e).keyable = true := by
  show (true && ((keyD e.2).keyable && true)) = true
  rw [keyD_keyable]
  rfl
theorem jkey_ok (e : Nat × List M3) : IsKey (jkey e) := ⟨jkey_able e, by
  have h : NestedKey.depthAll (D.nks (e.2.map m3D)) ≤ 1 := by
    induction e.2 with
    | nil => exact Nat.zero_le _
    | cons m ms ih =>
      show max (NestedKey.depth (m3D m).nk) (NestedKey.depthAll (D.nks (ms.map m3D))) ≤ 1
      exact Nat.max_le.mpr ⟨Nat.le_refl _, ih⟩
  show max 0 (max (NestedKey.depthAll (D.nks (e.2.map m3D)) + 1) 0) + 1 ≤ 8
  omega, _, rfl⟩
theorem jkey_inj {a b : Nat × List M3} : (jkey a).nk = (jkey b).nk ↔ a = b := by
  constructor
  · intro h
    have := D.nk_inj (jkey_able a) (jkey_able b) h
    unfold jkey at this
    injection this with this
    simp only [List.cons.injEq, and_true] at this
    obtain ⟨h1, h2⟩ := this
    injection h1 with h1
    have e1 : a.1 = b.1 := by omega
    have e2 := keyD_inj h2
    exact Prod.ext e1 e2
  · intro h
    rw [h]
abbrev DI := List (Int × Int)
def diAt (st : DI) (k : Int) : Option Int := (st.find? fun e => decide (e.1 = k)).map (·.2)
abbrev JSt := ((List V × List D) × DM) × (DI × DT)
def spOf (t : JTab) (n : Nat) : DM := (t.zipIdx n).map fun e => (jkey e.1, .int ((e.2 : Nat) : Int))
theorem spOf_at : ∀ {t : JTab} {n i : Nat} {e : Nat × List M3}, t.Nodup → t[i]? = some e → dAt (spOf t n) (jkey e) = some (.int ((n + i : Nat) : Int))
  | [], _, _, _, _, h => by simp at h
  | f :: t, n, 0, e, hn, h => by
    have h : f = e := by simpa using h
    subst h
    unfold spOf dAt
    rw [List.zipIdx_cons, List.map_cons, List.find?_cons_of_pos (by simp)]
    rfl
  | f :: t, n, i + 1, e, hn, h => by
    have h : t[i]? = some e := by simpa using h
    have hne : f ≠ e := fun z => (List.nodup_cons.mp hn).1 (z ▸ List.mem_of_getElem? h)
    have ih := spOf_at (n := n + 1) (List.nodup_cons.mp hn).2 h
    unfold spOf dAt at ih ⊢
    rw [List.zipIdx_cons, List.map_cons, List.find?_cons_of_neg (by simpa using fun z => hne (jkey_inj.mp z)), ih]
    congr 2
    omega
theorem spOf_no : ∀ {t : JTab} {n : Nat} {e : Nat × List M3}, e ∉ t → dAt (spOf t n) (jkey e) = none
  | [], _, _, _ => rfl
  | f :: t, n, e, h => by
    have hne : f ≠ e := fun z => h (z ▸ List.mem_cons_self ..)
    have ih := spOf_no (n := n + 1) (fun z => h (List.mem_cons_of_mem _ z) : e ∉ t)
    unfold spOf dAt at ih ⊢
    rw [List.zipIdx_cons, List.map_cons, List.find?_cons_of_neg (by simpa using fun z => hne (jkey_inj.mp z)), ih]
theorem spOf_len (t : JTab) (n : Nat) : (spOf t n).length = t.length := by unfold spOf; rw [List.length_map, List.length_zipIdx]
theorem spOf_snoc (t : JTab) (e : Nat × List M3) : spOf (t ++ [e]) 0 = spOf t 0 ++ [(jkey e, .int ((t.length : Nat) : Int))] := by
  unfold spOf
  rw [List.zipIdx_append, List.map_append]
  simp
/-- all that may ever be asked for: parts of rows, rows in two parts -/
structure JU where
  U : List (LRow × Nat)
  W : List (LRow × LRow × Nat)
structure JOk (u : JU) (t : JTab) (st : JSt) : Prop where
  ulen : u.U.length < 900000
  wlen : u.W.length < 900000
  nd : t.Nodup
  t0 : t[0]? = some (0, [])
  tr : st.1.1.2 = t.map fun e => keyD e.2
  sp : st.1.2 = spOf t 0
  pos : ∀ (i : Nat), i < t.length → i = 0 ∨ ∃ x ∈ u.U, ∃ d, x.2 = d + 1 ∧ JK t (d + 1) x.1 (i : Int)
  lo : ∀ e ∈ st.2.1, ∃ d l, JK t (d + 1) l e.1 ∧ JK t d l e.2
  lok : (st.2.1.map (·.1)).Nodup
  jo : ∀ e ∈ st.2.2, ∃ (a b c : Int) (d : Nat) (l m : LRow), e = ([.inl a, .inl b], .int c) ∧ (l, m, d + 1) ∈ u.W ∧ JK t (d + 1) l a ∧ JK t (d + 1) m b ∧ JK t (d + 1) (l ++ m) c
  jok : (st.2.2.map (·.1)).Nodup
theorem inj_len {α β : Type} [DecidableEq β] {F : α → β → Prop} : ∀ {l : List α} {m : List β}, l.Nodup → (∀ a ∈ l, ∃ b ∈ m, F a b) → (∀ a a' b, a ∈ l → a' ∈ l → F a b → F a' b → a = a') → l.length ≤ m.length
  | [], _, _, _, _ => Nat.zero_le _
  | a :: l, m, nd, h, inj => by
    obtain ⟨b, hb, hf⟩ := h a (List.mem_cons_self ..)
    have hna := (List.nodup_cons.mp nd).1
    have := inj_len (F := F) (l := l) (m := m.erase b) (List.nodup_cons.mp nd).2 (fun x hx => by
      obtain ⟨y, hy, hg⟩ := h x (List.mem_cons_of_mem _ hx)
      refine ⟨y, (List.mem_erase_of_ne fun z => ?_).mpr hy, hg⟩
      subst z
      exact hna ((inj x a y (List.mem_cons_of_mem _ hx) (List.mem_cons_self ..) hg hf) ▸ hx)) fun x x' y hx hx' => inj x x' y (List.mem_cons_of_mem _ hx) (List.mem_cons_of_mem _ hx')
    rw [List.length_erase_of_mem hb] at this
    have pos : 0 < m.length := List.length_pos_of_mem hb
    rw [List.length_cons]
    omega
section
variable {u : JU} {t : JTab} {st : JSt}
theorem JOk.tlen (h : JOk u t st) : t.length ≤ u.U.length + 1 := by
  have := inj_len (F := fun (i : Nat) (x : LRow × Nat) => ∃ d, x.2 = d + 1 ∧ JK t (d + 1) x.1 ((i + 1 : Nat) : Int)) (l := List.range (t.length - 1)) (m := u.U) List.nodup_range (fun i hi => by
    have hi := List.mem_range.mp hi
    rcases h.pos (i + 1) (by omega) with z | ⟨x, hx, d, h1, h2⟩
    · omega
    · exact ⟨x, hx, d, h1, h2⟩) fun i j x _ _ ⟨d, h1, h2⟩ ⟨e, h3, h4⟩ => by
    have : d = e := by omega
    subst this
    have := h2.one h.nd h4
    omega
  rw [List.length_range] at this
  omega
theorem JOk.lolen (h : JOk u t st) : st.2.1.length < 1000000 := by
  have hb := h.tlen
  have hu := h.ulen
  have := inj_len (F := fun (k : Int) (i : Nat) => k = (i : Int)) (l := st.2.1.map (·.1)) (m := List.range t.length) h.lok (fun k hk => by
    obtain ⟨e, he, rfl⟩ := List.mem_map.mp hk
    obtain ⟨d, l, h1, _⟩ := h.lo e he
    have := h1.lt
    exact ⟨e.1.toNat, List.mem_range.mpr this.2, by omega⟩) fun a b i _ _ h1 h2 => h1.trans h2.symm
  rw [List.length_map, List.length_range] at this
  omega
theorem JOk.jolen (h : JOk u t st) : st.2.2.length < 1000000 := by
  have hw := h.wlen
  have := inj_len (F := fun (k : List Key) (x : LRow × LRow × Nat) => ∃ (a b : Int) (d : Nat), x.2.2 = d + 1 ∧ k = [.inl a, .inl b] ∧ JK t (d + 1) x.1 a ∧ JK t (d + 1) x.2.1 b) (l := st.2.2.map (·.1)) (m := u.W) h.jok (fun k hk => by
    obtain ⟨e, he, rfl⟩ := List.mem_map.mp hk
    obtain ⟨a, b, c, d, l, m, rfl, h1, h2, h3, _⟩ := h.jo e he
    exact ⟨(l, m, d + 1), h1, a, b, d, rfl, rfl, h2, h3⟩) fun k k' x _ _ ⟨a, b, d, h1, h2, h3, h4⟩ ⟨a', b', d', g1, g2, g3, g4⟩ => by
    have : d = d' := by omega
    subst this
    rw [h2, g2, h3.one h.nd g3, h4.one h.nd g4]
  rw [List.length_map] at this
  omega
/-- the number is there -/
theorem JOk.has (h : JOk u t st) {i : Nat} {e : Nat × List M3} (he : t[i]? = some e) : dAt st.1.2 (jkey e) = some (.int ((i : Nat) : Int)) := by
  rw [h.sp, spOf_at h.nd he, Nat.zero_add]
theorem JOk.no (h : JOk u t st) {e : Nat × List M3} (he : e ∉ t) : dAt st.1.2 (jkey e) = none := by
  rw [h.sp, spOf_no he]
theorem jk_at {t : JTab} {d : Nat} {l : LRow} {T : List M3} {i : Nat} (hT : JTr (JK t d) l T) (h : t[i]? = some (d + 1, canonS T)) : JK t (d + 1) l ((i : Nat) : Int) := ⟨T, hT, Int.natCast_nonneg _, by rw [Int.toNat_natCast]; exact h⟩
/-- a new number -/
theorem JOk.new (h : JOk u t st) {d : Nat} {l : LRow} {T : List M3} (hT : JTr (JK t d) l T) (hu : (l, d + 1) ∈ u.U) (hn : (d + 1, canonS T) ∉ t) (v : V) :
    JOk u (t ++ [(d + 1, canonS T)]) (((st.1.1.1 ++ [v], st.1.1.2 ++ [keyD (canonS T)]), dPut st.1.2 (jkey (d + 1, canonS T)) (.int ((t.length : Nat) : Int))), st.2) := by
  have pre : t <+: t ++ [(d + 1, canonS T)] := List.prefix_append _ _
  have hdp : dPut st.1.2 (jkey (d + 1, canonS T)) (.int ((t.length : Nat) : Int)) = spOf (t ++ [(d + 1, canonS T)]) 0 := by
    unfold dPut
    rw [h.no hn, h.sp, spOf_snoc]
    rfl
  refine ⟨h.ulen, h.wlen, ?_, ?_, ?_, hdp, fun i hi => ?_, fun e he => ?_, h.lok, fun e he => ?_, h.jok⟩
  · rw [List.nodup_append]
    refine ⟨h.nd, by simp, fun a ha b hb z => ?_⟩
    rw [List.mem_singleton.mp hb] at z
    exact hn (z ▸ ha)
  · rw [List.getElem?_append_left (List.getElem?_eq_some_iff.mp h.t0).1]
    exact h.t0
  · show st.1.1.2 ++ [_] = _
    rw [h.tr, List.map_append]
    rfl
  · rw [List.length_append] at hi
    by_cases z : i < t.length
    · rcases h.pos i z with z | ⟨x, hx, e, h1, h2⟩
      · exact .inl z
      · exact .inr ⟨x, hx, e, h1, h2.mono pre⟩
    · have hi : i = t.length := by
        simp at hi
        omega
      subst hi
      exact .inr ⟨(l, d + 1), hu, d, rfl, jk_at (hT.mono fun _ _ z => JK.mono pre z) (by simp)⟩
  · obtain ⟨d, l, h1, h2⟩ := h.lo e he
    exact ⟨d, l, h1.mono pre, h2.mono pre⟩
  · obtain ⟨a, b, c, d, l, m, h1, h2, h3, h4, h5⟩ := h.jo e he
    exact ⟨a, b, c, d, l, m, h1, h2, h3.mono pre, h4.mono pre, h5.mono pre⟩
/-- what was lowered -/
theorem JOk.lowGet (h : JOk u t st) {d : Nat} {l : LRow} {n k : Int} (hk : JK t (d + 1) l n) (e : diAt st.2.1 n = some k) : JK t d l k := by
  unfold diAt at e
  cases z : st.2.1.find? fun e => decide (e.1 = n) with
  | none => rw [z] at e; cases e
  | some x =>
    rw [z] at e
    have hx := List.mem_of_find?_eq_some z
    have hx2 : x.1 = n := by
      have := List.find?_some z
      simpa using this
    obtain ⟨d', l', h1, h2⟩ := h.lo x hx
    rw [hx2] at h1
    have := h1.depth hk
    subst this
    rw [← Option.some.inj e]
    exact h2.alike h.nd (((jk_iff h.nd h1 hk).mp rfl).less)
theorem JOk.lowPut (h : JOk u t st) {d : Nat} {l : LRow} {n k : Int} (h1 : JK t (d + 1) l n) (h2 : JK t d l k) (e : diAt st.2.1 n = none) : JOk u t (st.1, (st.2.1 ++ [(n, k)], st.2.2)) := by
  refine ⟨h.ulen, h.wlen, h.nd, h.t0, h.tr, h.sp, h.pos, fun x hx => ?_, ?_, h.jo, h.jok⟩
  · rcases List.mem_append.mp hx with hx | hx
    · exact h.lo x hx
    · rw [List.mem_singleton.mp hx]
      exact ⟨d, l, h1, h2⟩
  · show ((st.2.1 ++ [(n, k)]).map (·.1)).Nodup
    rw [List.map_append, List.nodup_append]
    refine ⟨h.lok, by simp, fun a ha b hb z => ?_⟩
    have hb : b = n := by simpa using hb
    obtain ⟨x, hx, rfl⟩ := List.mem_map.mp ha
    unfold diAt at e
    have := List.find?_eq_none.mp (Option.map_eq_none_iff.mp e) x hx
    simp only [decide_eq_true_eq] at this
    exact this (z.trans hb)
theorem JOk.joinGet (h : JOk u t st) {d : Nat} {l m : LRow} {a b : Int} {v : D} (ha : JK t (d + 1) l a) (hb : JK t (d + 1) m b) (e : dtAt st.2.2 [.inl a, .inl b] = some v) : ∃ c : Int, v = .int c ∧ JK t (d + 1) (l ++ m) c := by
  unfold dtAt at e
  cases z : st.2.2.find? fun e => decide (e.1 = [.inl a, .inl b]) with
  | none => rw [z] at e; cases e
  | some x =>
    rw [z] at e
    have hx := List.mem_of_find?_eq_some z
    have hx2 : x.1 = [.inl a, .inl b] := by
      have := List.find?_some z
      simpa using this
    obtain ⟨a', b', c, d', l', m', rfl, _, h1, h2, h3⟩ := h.jo x hx
    simp only [List.cons.injEq, Sum.inl.injEq, and_true] at hx2
    obtain ⟨rfl, rfl⟩ := hx2
    have := h1.depth ha
    subst this
    refine ⟨c, (Option.some.inj e).symm, ?_⟩
    exact h3.alike h.nd (Alike.app ((jk_iff h.nd h1 ha).mp rfl) ((jk_iff h.nd h2 hb).mp rfl))
theorem JOk.joinPut (h : JOk u t st) {d : Nat} {l m : LRow} {a b c : Int} (hw : (l, m, d + 1) ∈ u.W) (ha : JK t (d + 1) l a) (hb : JK t (d + 1) m b) (hc : JK t (d + 1) (l ++ m) c) (e : dtAt st.2.2 [.inl a, .inl b] = none) : JOk u t (st.1, (st.2.1, dtPut st.2.2 [.inl a, .inl b] (.int c))) := by
  rw [dtPut_new e]
  refine ⟨h.ulen, h.wlen, h.nd, h.t0, h.tr, h.sp, h.pos, h.lo, h.lok, fun x hx => ?_, ?_⟩
  · rcases List.mem_append.mp hx with hx | hx
    · exact h.jo x hx
    · rw [List.mem_singleton.mp hx]
      exact ⟨a, b, c, d, l, m, rfl, hw, ha, hb, hc⟩
  · show ((st.2.2 ++ [(([.inl a, .inl b] : List Key), D.int c)]).map (·.1)).Nodup
    rw [List.map_append, List.nodup_append]
    refine ⟨h.jok, by simp, fun x hx y hy z => ?_⟩
    have hy : y = [.inl a, .inl b] := by simpa using hy
    obtain ⟨w, hw, rfl⟩ := List.mem_map.mp hx
    unfold dtAt at e
    have := List.find?_eq_none.mp (Option.map_eq_none_iff.mp e) w hw
    simp only [decide_eq_true_eq] at this
    exact this (z.trans hy)
/-- the triples of a number -/
theorem JOk.trAt (h : JOk u t st) {d : Nat} {l : LRow} {n : Int} (k : JK t (d + 1) l n) : ∃ T : List M3, JTr (JK t d) l T ∧ st.1.1.2[n.toNat]? = some (keyD (canonS T)) ∧ 0 ≤ n := by
  obtain ⟨T, h1, h2, h3⟩ := k
  refine ⟨T, h1, ?_, h2⟩
  rw [h.tr, List.getElem?_map, h3]
  rfl
end
theorem JTr.canon {f : LRow → Int → Prop} {l : LRow} {T : List M3} (h : JTr f l T) : JTr f l (canonS T) :=
  ⟨fun i a ha => by
    obtain ⟨x, y, h1, h2, h3⟩ := h.1 i a ha
    exact ⟨x, y, canonS_mem.mpr h1, h2, h3⟩, fun m hm => h.2 m (canonS_mem.mp hm)⟩
end DL
/-! DNg: any new object as a ground beside another -/
namespace DL
open PySem PySem.Spec PyProof.Rows L2
/-- the places of the object are new to the ground -/
def NewR (c : Ct) (r : Res) (p : Addr) : Prop := ∀ a, r.B p a → c.E a = none ∧ ¬ c.B a
abbrev addCt (c : Ct) (r : Res) (p : Addr) (hn : NewR c r p) : Ct where
  K := c.K
  S := c.S × r.S
  R := fun s H0 H => c.R s.1 H0 H ∧ r.R p s.2 H0 H
  B := fun a => c.B a ∨ r.B p a
  stab := fun s H0 H H0' H' h e k => ⟨c.stab _ _ _ _ _ h.1 e fun a o hb => k a o (.inl hb), r.stab p _ _ _ _ _ h.2 e fun a o hb => k a o (.inr hb)⟩
  there := fun s H0 H a h hb => hb.elim (fun hb => c.there _ _ _ _ h.1 hb) fun hb => r.there p _ _ _ _ h.2 hb
  E0 := c.E0
  E := c.E
  EX := c.EX
  X := fun C d s => c.X C d s.1
  okX := fun C d s v a H0' H' x e sub k n av rs ha rr => c.okX C d s.1 v a H0' H' x e sub (fun b o hE hb => k b o hE fun z => by
    rcases z with z | z
    · exact hb z
    · rw [(hn b z).1] at hE; cases hE) n (fun b hb => av b (.inl hb)) rs.1 ha rr
section
variable {c : Ct} {G : List Sl} {s : c.S} {r : Res} {p : Addr} {hn : NewR c r p}
theorem onR : CtR (addCt c r p hn) r p Prod.snd (fun s t => (s.1, t)) where
  B := fun a h => .inr h
  R := fun _ _ _ h => h.2
  back := fun s t H0 H H0' H' h av st => ⟨⟨c.stab _ _ _ _ _ h.1 st.ex fun a o hb ho => st.fr a o ho fun z => (hn a z).2 hb, st.rs⟩, fun a hb => by
    rcases hb with hb | hb
    · exact st.nw a (c.there _ _ _ _ h.1 hb) (av a (.inl hb))
    · exact st.av a hb⟩
theorem SlOk.outR {H0 H : Hp} {o : Option V} {x : Sl} (h : SlOk (addCt c r p hn) H0 H o x) : SlOk c H0 H o x := by
  cases x with
  | un => trivial
  | dat d => exact h
  | own u =>
    obtain ⟨q, h1, h2, h3, h4, h5⟩ := h
    exact ⟨q, h1, h2, h3, fun z => h4 (.inl z), h5⟩
theorem Gd.outR {s : c.S × r.S} {σ : L2.St} {F : Frm} {H0 H : Hp} (g : Gd (addCt c r p hn) G s σ F H0 H) : Gd c G s.1 σ F H0 H where
  ln := g.ln
  gd := {
    sub := g.gd.sub
    av := fun a hb => g.gd.av a (.inl hb)
    e0 := g.gd.e0
    e1 := fun a o hE hb => g.gd.e1 a o hE fun z => by
      have hE : c.E a = some o := hE
      rcases z with z | z
      · exact hb z
      · rw [(hn a z).1] at hE; cases hE
    e2 := g.gd.e2
    rs := g.gd.rs.1
    len := g.gd.len
    sl := fun i x hx => SlOk.outR (g.gd.sl i x hx)
    ds := g.gd.ds }
theorem RO.outR {σ : L2.St} {F : Frm} {H0 H : Hp} {v : V} {x : Sl} (h : RO (addCt c r p hn) G σ F H0 H v x) : RO c G σ F H0 H v x := by
  cases x with
  | un => trivial
  | dat d => exact h
  | own u =>
    obtain ⟨q, h1, ⟨h2, h3, h4, h5⟩, h6⟩ := h
    exact ⟨q, h1, ⟨h2, h3, fun z => h4 (.inl z), h5⟩, h6⟩
theorem EOk.outR {D : Ends} {P : Ds c.S} {H0 : Hp} {m : Nat} (e : EOk c D P H0 m) : EOk (addCt c r p hn) D ⟨fun G s => P.nx G s.1, fun x s => P.rt x s.1, fun G s => P.bk G s.1, fun G s => P.ct G s.1⟩ H0 m where
  nx := fun G s σ H0' H a b d l => e.nx G s.1 σ H0' H a (Gd.of b).outR.to d l
  rt := fun x s v G σ H0 H a b r' => e.rt x s.1 v G σ H0 H a (Gd.of b).outR.to (by
    have := RO.outR (F := ([], [])) (show RO (addCt c r p hn) G σ ([], []) H0 H v x by simpa [RO] using r')
    simpa [RO] using this)
  bk := fun G s σ H0' H a b d l => e.bk G s.1 σ H0' H a (Gd.of b).outR.to d l
  ct := fun G s σ H0' H a b d l => e.ct G s.1 σ H0' H a (Gd.of b).outR.to d l
end
/-- a new object is there -/
theorem Gd.addR {c : Ct} {G : List Sl} {s : c.S} {σ : L2.St} {F : Frm} {H1 H1' H0' H' : Hp} {r : Res} {p dx C : Addr} {st : r.S} (g1 : Gd c G s σ F H1 H1') (np : H1' p = none) (ndx : H1' dx = none) (hpd : dx ≠ p)
    (nB : ∀ a, r.B p a → a ≠ p → upd (upd H1' dx (.own p)) p (.ins C dx []) a = none) (s1' : Same (upd H1 dx (.own p)) H0') (s2' : Same H0' H') (fr : ∀ b o, upd (upd H1' dx (.own p)) p (.ins C dx []) b = some o → b ≠ p → H' b = some o)
    (nw : ∀ b, upd (upd H1' dx (.own p)) p (.ins C dx []) b ≠ none → b ≠ p → upd H1 dx (.own p) b = none → H0' b = none) (vB : ∀ a, r.B p a → H0' a = none) (ra : r.R p st H0' H') : ∃ hn : NewR c r p, Gd (addCt c r p hn) G (s, st) σ F H0' H' ∧ Same H1 H0' := by
  obtain ⟨p1, p2, p3⟩ := g1.gd.newE np
  obtain ⟨d1, d2, d3⟩ := g1.gd.newE ndx
  have sx : Same H1 (upd H1 dx (.own p)) := fun b o hb => by
    rw [upd_ne (ne_of_none hb d3)]
    exact hb
  have fB : ∀ a, r.B p a → H1' a = none := fun a ha => by
    by_cases z : a = p
    · rw [z]; exact np
    · have nn := nB a ha z
      rw [upd_ne z] at nn
      have a2 : a ≠ dx := fun z => by rw [z, upd_same] at nn; cases nn
      rw [upd_ne a2] at nn
      exact nn
  have hn : NewR c r p := fun a ha => by
    obtain ⟨u1, u2, _⟩ := g1.gd.newE (fB a ha)
    exact ⟨u1, u2⟩
  have old : ∀ b o, H1' b = some o → H' b = some o := fun b o hb => fr b o (by rw [upd_ne (ne_of_none hb np), upd_ne (ne_of_none hb ndx)]; exact hb) (ne_of_none hb np)
  have g2 : Gd c G s σ F H0' H' := ⟨g1.ln, g1.gd.ext (sx.trans s1') s2' old (fun a ha h0 => nw a (by rw [upd_ne (fun z => ha (by rw [z]; exact np)), upd_ne (fun z => ha (by rw [z]; exact ndx))]; exact ha) (fun z => ha (by rw [z]; exact np)) (by rw [upd_ne (fun z => ha (by rw [z]; exact ndx))]; exact h0)) fun a hb ha => absurd ha (c.there _ _ _ _ g1.gd.rs hb)⟩
  refine ⟨hn, ⟨g2.ln, {
    sub := g2.gd.sub
    av := fun a hb => by
      rcases hb with hb | hb
      · exact g2.gd.av a hb
      · exact vB a hb
    e0 := g2.gd.e0
    e1 := fun a o hE hb => g2.gd.e1 a o hE fun z => hb (.inl z)
    e2 := g2.gd.e2
    rs := ⟨g2.gd.rs, ra⟩
    len := g2.gd.len
    sl := fun i x hx => by
      have q := g2.gd.sl i x hx
      have q0 := g1.gd.sl i x hx
      cases x with
      | un => trivial
      | dat d => exact q
      | own u =>
        obtain ⟨r', h1, h2, h3, h4, h5⟩ := q
        obtain ⟨r'', h1', _, _, _, u', hu', _⟩ := q0
        rw [h1] at h1'
        cases h1'
        refine ⟨r', h1, h2, h3, fun z => ?_, h5⟩
        rcases z with z | z
        · exact h4 z
        · rw [fB _ z] at hu'
          cases hu'
    ds := g2.gd.ds }⟩, sx.trans s1'⟩
/-- what an __init__ promises: of what is given (A), an object of a family (rf, its places by i) -/
def spIni (K : PySem.W.Frag) (C : Addr) {ι : Type} (rf : ι → Res) (A : List D → Prop) (post : (i : ι) → (rf i).S → List D → Prop) : Sp := fun vs H Q _ => ∃ (p dx : Addr) (vds : List V) (ds : List D) (H0 : Hp), vs = .ref p :: vds ∧ H p = some (.ins C dx []) ∧ H0 p = none ∧ Same H0 H ∧ RepAll K H0 vds ds ∧ A ds ∧
  ∀ (i : ι) (st : (rf i).S) (H0' H' : Hp), (∀ a, (rf i).B p a → a ≠ p → H a = none) → Same H0 H0' → Same H0' H' → (∀ b o, H b = some o → b ≠ p → H' b = some o) → (∀ b, H b ≠ none → b ≠ p → H0 b = none → H0' b = none) → (∀ a, (rf i).B p a → H0' a = none) →
    (rf i).R p st H0' H' → post i st ds → Q .non H'
section
variable {c : Ct} {G : List Sl} {s : c.S} {ι : Type} {rf : ι → Res} {A : List D → Prop} {post : (i : ι) → (rf i).S → List D → Prop} {C : Addr}
/-- the object made -/
theorem make_core {E : XK} {ta : TA} {σ : L2.St} {F : Frm} {H0 H : Hp} (gd : Gd c G s σ F H0 H) {Q : VK}
    (h : WA c ta G s fun ds s1 => A ds ∧ ∀ p i (hn : NewR c (rf i) p) (st : (rf i).S), post i st ds → ∀ H0' H', Gd (addCt c (rf i) p hn) G (s1, st) σ F H0' H' → Same H0 H0' → Q (.ref p) H') : tMake C (spIni c.K C rf A post) [] E ta σ H Q :=
  h σ F H0 H gd _ fun ds s1 vds H1 H1' hp g1 e1 r1 => by
    obtain ⟨ha, hp⟩ := hp
    intro p dx np ndx hpd
    obtain ⟨p1, p2, p3⟩ := g1.gd.newE np
    obtain ⟨d1, d2, d3⟩ := g1.gd.newE ndx
    have sx : Same H1 (upd H1 dx (.own p)) := fun b o hb => by
      rw [upd_ne (ne_of_none hb d3)]
      exact hb
    rw [List.append_nil]
    refine ⟨p, dx, vds, ds, upd H1 dx (.own p), rfl, upd_same, by rw [upd_ne (Ne.symm hpd)]; exact p3, fun b o hb => ?_, r1.mono sx, ha, fun i st H0' H' nB s1' s2' fr nw vB ra po => ⟨rfl, ?_⟩⟩
    · by_cases hd : b = dx
      · subst hd
        rw [upd_same] at hb
        rw [upd_ne hpd, upd_same]
        exact hb
      · rw [upd_ne hd] at hb
        rw [upd_ne (ne_of_none hb p3), upd_ne hd]
        exact g1.gd.sub _ _ hb
    · obtain ⟨hn, g2, e2⟩ := Gd.addR g1 np ndx hpd nB s1' s2' fr nw vB ra
      exact hp p i hn st po H0' H' g2 (e1.trans e2)
/-- x = C(..); .. -/
theorem ws_newR {P : Ds c.S} {j : Nat} {E : XK} {ta : TA} {u : TS} (h : WA c ta G s fun ds s1 => A ds ∧ ∀ p i (hn : NewR c (rf i) p) (st : (rf i).S), post i st ds →
      WS (addCt c (rf i) p hn) u (G.set j (.dat (.ref p))) (s1, st) ⟨fun G s => P.nx G s.1, fun x s => P.rt x s.1, fun G s => P.bk G s.1, fun G s => P.ct G s.1⟩) :
    WS c (tSeq (tAsg (tMake C (spIni c.K C rf A post) [] E ta) (gName j)) u) G s P := fun σ H0 H gd D e =>
  make_core (Q := fun v H1 => u D (σ.set j (some v)) H1) (Gd.of gd) fun σ' F H0' H' g' R q => h σ' F H0' H' g' R fun ds s1 vs H1 H1' hp g1 e1 r1 => q ds s1 vs H1 H1' ⟨hp.1, fun p i hn st po H2 H2' g2 e2 => by
    refine (hp.2 p i hn st po) _ _ _ (g2.to.setSl j (v := .ref p) (x := .dat (.ref p)) (.ref p)) D ?_
    rw [List.length_set]
    exact EOk.outR (e.on e2)⟩ g1 e1 r1
/-- x, y = C(..), z; .. -/
theorem ws_newR2 {P : Ds c.S} {i j : Nat} {z : Int} {E : XK} {ta : TA} {u : TS} (h : WA c ta G s fun ds s1 => A ds ∧ ∀ p i' (hn : NewR c (rf i') p) (st : (rf i').S), post i' st ds →
      WS (addCt c (rf i') p hn) u ((G.set i (.dat (.ref p))).set j (.dat (.int z))) (s1, st) ⟨fun G s => P.nx G s.1, fun x s => P.rt x s.1, fun G s => P.bk G s.1, fun G s => P.ct G s.1⟩) :
    WS c (tSeq (tPar i j (tCons (tMake C (spIni c.K C rf A post) [] E ta) (tCons (tC (.int z)) tNil))) u) G s P := fun σ H0 H gd D e => by
  refine make_core (Q := fun v H1 => ∃ v' w, [v, V.int z] = [v', w] ∧ u D ((σ.set i (some v')).set j (some w)) H1) (Gd.of gd) fun σ' F H0' H' g' R q => h σ' F H0' H' g' R fun ds s1 vs H1 H1' hp g1 e1 r1 => q ds s1 vs H1 H1' ⟨hp.1, fun p i' hn st po H2 H2' g2 e2 => ?_⟩ g1 e1 r1
  refine ⟨.ref p, .int z, rfl, ?_⟩
  refine (hp.2 p i' hn st po) _ _ _ ((g2.to.setSl i (v := .ref p) (x := .dat (.ref p)) (.ref p)).setSl j (v := .int z) (x := .dat (.int z)) (.int z)) D ?_
  rw [List.length_set, List.length_set]
  exact EOk.outR (e.on e2)
end
end DL
/-! DNh: kinds that are put together (class Joints) as a ground; dicts of ints -/
namespace DL
open PySem PySem.Spec PyProof.Rows L2
/-! ### a dict of ints -/
def diV (st : DI) : List (Key × V) := st.map fun e => (.inl e.1, .int e.2)
def diPut (st : DI) (k v : Int) : DI := if (st.any fun e => decide (e.1 = k)) = true then st.map (fun e => if e.1 = k then (e.1, v) else e) else st ++ [(k, v)]
theorem diV_at {k : Int} : ∀ {st : DI}, valV (diV st) (.inl k) = (diAt st k).map V.int
  | [] => rfl
  | e :: st => by
    have ih := diV_at (k := k) (st := st)
    unfold valV diAt diV at ih ⊢
    rw [List.map_cons, List.find?_cons, List.find?_cons]
    by_cases h : e.1 = k
    · rw [decide_eq_true h, decide_eq_true (show ((Sum.inl e.1 : Key)) = .inl k by rw [h])]
      rfl
    · rw [decide_eq_false h, decide_eq_false (show ¬ ((Sum.inl e.1 : Key)) = .inl k from fun z => h (Sum.inl.inj z))]
      exact ih
theorem diV_put {st : DI} {k v : Int} : putK (diV st) (.inl k) (.int v) = diV (diPut st k v) := by
  have ha : ((diV st).any fun kv => decide (kv.1 = (.inl k : Key))) = st.any fun e => decide (e.1 = k) := by
    unfold diV
    rw [List.any_map]
    congr 1
    funext e
    show decide ((Sum.inl e.1 : Key) = .inl k) = decide (e.1 = k)
    exact decide_eq_decide.mpr ⟨fun z => Sum.inl.inj z, fun z => by rw [z]⟩
  unfold putK diPut
  rw [ha]
  split
  · unfold diV
    rw [List.map_map, List.map_map]
    apply List.map_congr_left
    intro e _
    show (if (Sum.inl e.1 : Key) = .inl k then ((Sum.inl e.1 : Key), V.int v) else (.inl e.1, .int e.2)) = ((.inl (if e.1 = k then (e.1, v) else e).1 : Key), V.int (if e.1 = k then (e.1, v) else e).2)
    by_cases h : e.1 = k
    · rw [if_pos h, if_pos (by rw [h])]
    · rw [if_neg h, if_neg (fun z => h (Sum.inl.inj z))]
  · unfold diV
    rw [List.map_append]
    rfl
abbrev diRes (K : PySem.W.Frag) : Res where
  S := DI
  R := fun p st H0 H => H p = some (.dK (diV st))
  B := fun p a => a = p
  stab := fun p st H0 H H0' H' h e k => k _ _ rfl h
  there := fun p st H0 H a h e z => by
    subst e
    rw [z] at h
    cases h
section
variable {c : Ct} {G : List Sl} {s : c.S} {p : Addr} {to : c.S → DI} {put : c.S → DI → c.S}
/-- k not in d -/
theorem we_dinin {ty td : TE} {P : Sl → c.S → Prop} (hc : CtR c (diRes c.K) p to put) (h : WE c ty G s (FZ fun k s1 => ∃ n : Int, k = .int n ∧ WE c td G s1 (FZ fun y s2 => y = .ref p ∧ P (.dat (.bl (!(diAt (to s2) n).isSome))) s2))) : WE c (tDNotIn ty td) G s P := fun σ F H0 H g Q q =>
  h.use g fun k s1 v H1 H1' hp g1 e1 r1 => by
    obtain ⟨n, rfl, hp⟩ := hp
    cases r1
    refine hp.use g1 fun y s2 w H2 H2' hp g2 e2 r2 => ?_
    obtain ⟨rfl, hp⟩ := hp
    cases r2
    have hk := hc.R _ _ _ g2.gd.rs
    refine ⟨p, _, rfl, DGet.k (k := .inl n) hk, ?_⟩
    rw [diV_at, Option.isSome_map]
    exact q _ s2 _ H2 H2' hp g2 (e1.trans e2) (.bl _)
/-- d[k] -/
theorem we_diget {ty td : TE} {P : Sl → c.S → Prop} (hc : CtR c (diRes c.K) p to put) (h : WE c td G s (FZ fun y s1 => y = .ref p ∧ WE c ty G s1 (FZ fun k s2 => ∃ n m : Int, k = .int n ∧ diAt (to s2) n = some m ∧ P (.dat (.int m)) s2))) : WE c (tDGet td ty) G s P := fun σ F H0 H g Q q =>
  h.use g fun y s1 v H1 H1' hp g1 e1 r1 => by
    obtain ⟨rfl, hp⟩ := hp
    cases r1
    refine hp.use g1 fun k s2 w H2 H2' hp g2 e2 r2 => ?_
    obtain ⟨n, m, rfl, hn, hp⟩ := hp
    cases r2
    have hk := hc.R _ _ _ g2.gd.rs
    refine ⟨p, .int m, rfl, ?_, q _ s2 _ H2 H2' hp g2 (e1.trans e2) (.int _)⟩
    have := DGet.k (k := .inl n) (show H2' p = some (.dK (diV (to s2))) from hk)
    rw [diV_at, hn] at this
    exact this
/-- d[k] = e -/
theorem ws_diput {P : Ds c.S} {ty td tv : TE} (hc : CtR c (diRes c.K) p to put) (h : WE c tv G s (FZ fun x s1 => ∃ m : Int, x = .int m ∧ WE c td G s1 (FZ fun y s2 => y = .ref p ∧ WE c ty G s2 (FZ fun k s3 => ∃ n : Int, k = .int n ∧ (to s3).length < 1000000 ∧ P.nx G (put s3 (diPut (to s3) n m)))))) : WS c (sDPut td ty tv) G s P := fun σ H0 H gd D e =>
  h.use (Gd.of gd) fun x s1 v H1 H1' hp g1 e1 r1 => by
    obtain ⟨m, rfl, hp⟩ := hp
    cases r1
    refine hp.use g1 fun y s2 w H2 H2' hp g2 e2 r2 => ?_
    obtain ⟨rfl, hp⟩ := hp
    cases r2
    refine hp.use g2 fun k s3 w H3 H3' hp g3 e3 r3 => ?_
    obtain ⟨n, rfl, hl, hp⟩ := hp
    cases r3
    have hk : H3' p = some (.dK (diV (to s3))) := hc.R _ _ _ g3.gd.rs
    have hav := g3.gd.av p (hc.B p rfl)
    refine ⟨p, _, rfl, DPut.k (k := .inl n) hk (by unfold diV; rw [List.length_map, sizeLine_eq]; omega), ?_⟩
    rw [diV_put]
    have st : Step ((diRes c.K).R p) ((diRes c.K).B p) (diPut (to s3) n m) H3 H3' H3 (upd H3' p (.dK (diV (diPut (to s3) n m)))) :=
      ⟨Same.refl _, fun a o h => by
        rw [upd_ne (ne_of_none h hav)]
        exact g3.gd.sub _ _ h, fun a o h hb => by
        rw [upd_ne hb]
        exact h, fun _ _ h => h, fun a hb => by cases hb; exact hav, upd_same⟩
    have bk := hc.back s3 _ _ _ _ _ g3.gd.rs g3.gd.av st
    have g5 : Gd c G (put s3 (diPut (to s3) n m)) σ ([], []) H3 (upd H3' p (.dK (diV (diPut (to s3) n m)))) :=
      ⟨g3.ln, g3.gd.go st.ex st.sub bk.2 (fun a o h hb => st.fr a o h fun z => hb (hc.B a z)) st.nw bk.1⟩
    exact e.nx G _ σ _ _ hp g5.to ((e1.trans e2).trans e3) rfl
end
/-! ### the object -/
structure JCls (K : PySem.W.Frag) (C : Addr) : Prop where
  cls : Cls K C
  nt : NoAttr K C "triples"
  ns : NoAttr K C "spots"
  nl : NoAttr K C "lowered"
  nj : NoAttr K C "joined"
abbrev J4 := Addr × Addr × Addr × Addr
structure JFld (a : J4) (fs : List (Str × V)) : Prop where
  t : fs.lookup ("triples" : Str) = some (.ref a.1)
  s : fs.lookup ("spots" : Str) = some (.ref a.2.1)
  l : fs.lookup ("lowered" : Str) = some (.ref a.2.2.1)
  j : fs.lookup ("joined" : Str) = some (.ref a.2.2.2)
  no : ∀ m : Str, m ≠ "triples" → m ≠ "spots" → m ≠ "lowered" → m ≠ "joined" → fs.lookup m = none
structure JDis (a : J4) : Prop where
  ts : a.1 ≠ a.2.1
  tl : a.1 ≠ a.2.2.1
  tj : a.1 ≠ a.2.2.2
  sl : a.2.1 ≠ a.2.2.1
  sj : a.2.1 ≠ a.2.2.2
  lj : a.2.2.1 ≠ a.2.2.2
def joiR (Pg : Program) (w : World) (K : PySem.W.Frag) (C : Addr) (a : J4) (p : Addr) (st : JSt) (H0 H : Hp) : Prop :=
  JDis a ∧ (∃ dx fs, H0 p = some (.ins C dx fs) ∧ JFld a fs) ∧ (lsRes K).R a.1 st.1.1 H0 H ∧ (ndRes Pg w K).R a.2.1 st.1.2 H0 H ∧ (diRes K).R a.2.2.1 st.2.1 H0 H ∧ (dtRes K).R a.2.2.2 st.2.2 H0 H
abbrev joiRes (Pg : Program) (w : World) (K : PySem.W.Frag) (C : Addr) (a : J4) : Res where
  S := JSt
  R := joiR Pg w K C a
  B := fun _ b => b = a.1 ∨ b = a.2.1 ∨ b = a.2.2.1 ∨ b = a.2.2.2
  stab := fun p st H0 H H0' H' h e k => by
    obtain ⟨h1, ⟨dx, fs, h2, h3⟩, h4, h5, h6, h7⟩ := h
    exact ⟨h1, ⟨dx, fs, e _ _ h2, h3⟩, (lsRes K).stab _ _ _ _ _ _ h4 e fun b o hb => k b o (.inl hb), (ndRes Pg w K).stab _ _ _ _ _ _ h5 e fun b o hb => k b o (.inr (.inl hb)), (diRes K).stab _ _ _ _ _ _ h6 e fun b o hb => k b o (.inr (.inr (.inl hb))), (dtRes K).stab _ _ _ _ _ _ h7 e fun b o hb => k b o (.inr (.inr (.inr hb)))⟩
  there := fun p st H0 H b h hb => by
    obtain ⟨_, _, h4, h5, h6, h7⟩ := h
    rcases hb with hb | hb | hb | hb
    · exact (lsRes K).there _ _ _ _ b h4 hb
    · exact (ndRes Pg w K).there _ _ _ _ b h5 hb
    · exact (diRes K).there _ st.2.1 H0 H b h6 hb
    · exact (dtRes K).there _ _ _ _ b h7 hb
section
variable {Pg : Program} {w : World} {K : PySem.W.Frag} {C p : Addr} {a : J4}
theorem subJt : Sub (joiRes Pg w K C a) (lsRes K) p a.1 (fun s => s.1.1) (fun s t => ((t, s.1.2), s.2)) where
  B := fun b h => .inl h
  R := fun s H0 H h => h.2.2.1
  W := fun s t H0 H H0' H' h st => by
    obtain ⟨h1, ⟨dx, fs, h2, h3⟩, h4, h5, h6, h7⟩ := h
    exact ⟨h1, ⟨dx, fs, st.ex _ _ h2, h3⟩, st.rs, (ndRes Pg w K).stab _ _ _ _ _ _ h5 st.ex fun b o hb ho => st.fr b o ho fun z => h1.ts (z.symm.trans hb), st.fr _ _ h6 fun z => h1.tl z.symm, (dtRes K).stab _ _ _ _ _ _ h7 st.ex fun b o hb ho => st.fr b o ho fun z => h1.tj (z.symm.trans hb)⟩
theorem subJs : Sub (joiRes Pg w K C a) (ndRes Pg w K) p a.2.1 (fun s => s.1.2) (fun s t => ((s.1.1, t), s.2)) where
  B := fun b h => .inr (.inl h)
  R := fun s H0 H h => h.2.2.2.1
  W := fun s t H0 H H0' H' h st => by
    obtain ⟨h1, ⟨dx, fs, h2, h3⟩, h4, h5, h6, h7⟩ := h
    exact ⟨h1, ⟨dx, fs, st.ex _ _ h2, h3⟩, (lsRes K).stab _ _ _ _ _ _ h4 st.ex fun b o hb ho => st.fr b o ho fun z => h1.ts (hb.symm.trans z), st.rs, st.fr _ _ h6 fun z => h1.sl z.symm, (dtRes K).stab _ _ _ _ _ _ h7 st.ex fun b o hb ho => st.fr b o ho fun z => h1.sj (z.symm.trans hb)⟩
theorem subJl : Sub (joiRes Pg w K C a) (diRes K) p a.2.2.1 (fun s => s.2.1) (fun s t => (s.1, (t, s.2.2))) where
  B := fun b h => .inr (.inr (.inl h))
  R := fun s H0 H h => h.2.2.2.2.1
  W := fun s t H0 H H0' H' h st => by
    obtain ⟨h1, ⟨dx, fs, h2, h3⟩, h4, h5, h6, h7⟩ := h
    exact ⟨h1, ⟨dx, fs, st.ex _ _ h2, h3⟩, (lsRes K).stab _ _ _ _ _ _ h4 st.ex fun b o hb ho => st.fr b o ho fun z => h1.tl (hb.symm.trans z), (ndRes Pg w K).stab _ _ _ _ _ _ h5 st.ex fun b o hb ho => st.fr b o ho fun z => h1.sl (hb.symm.trans z), st.rs, (dtRes K).stab _ _ _ _ _ _ h7 st.ex fun b o hb ho => st.fr b o ho fun z => h1.lj (z.symm.trans hb)⟩
theorem subJj : Sub (joiRes Pg w K C a) (dtRes K) p a.2.2.2 (fun s => s.2.2) (fun s t => (s.1, (s.2.1, t))) where
  B := fun b h => .inr (.inr (.inr h))
  R := fun s H0 H h => h.2.2.2.2.2
  W := fun s t H0 H H0' H' h st => by
    obtain ⟨h1, ⟨dx, fs, h2, h3⟩, h4, h5, h6, h7⟩ := h
    exact ⟨h1, ⟨dx, fs, st.ex _ _ h2, h3⟩, (lsRes K).stab _ _ _ _ _ _ h4 st.ex fun b o hb ho => st.fr b o ho fun z => h1.tj (hb.symm.trans z), (ndRes Pg w K).stab _ _ _ _ _ _ h5 st.ex fun b o hb ho => st.fr b o ho fun z => h1.sj (hb.symm.trans z), st.fr _ _ h6 fun z => h1.lj z, st.rs⟩
end
abbrev JSpec := Addr → List D → JSt → (Sl → JSt → Prop) → (Addr → D → JSt → Prop) → Prop
/-- a method of Joints -/
def JSp (Pg : Program) (w : World) (K : PySem.W.Frag) (C : Addr) (f : JSpec) : Sp := fun vs H Q E => ∃ a : J4, ResSp K (joiRes Pg w K C a) f vs H Q E
theorem ok_joi {P : Program} {w : World} {K : PySem.W.Frag} {mg : Str → Option Value} {base : Heap} {C f : Addr} {fd : FuncData} {ps : List Str} {k : Nat} {fs : JSpec} (h : ∀ a : J4, FnOk P w K mg base CX0 k f fd ps (ResSp K (joiRes P w K C a) fs)) : FnOk P w K mg base CX0 k f fd ps (JSp P w K C fs) :=
  ⟨fun vs H Q E ⟨a, q⟩ => (h a).len vs H Q E q, fun A outer s H args us vs Q E hr e b r ⟨a, q⟩ => (h a).run A outer s H args us vs Q E hr e b r q⟩
section
variable {Pg : Program} {w : World} {c : Ct} {G : List Sl} {s : c.S} {P : Sl → c.S → Prop} {C p : Addr} {a : J4} {to : c.S → JSt} {put : c.S → JSt → c.S}
/-- joints.m(..) -/
theorem we_methJ {f : JSpec} {m : Str} {ta : TE} {t : TA} {E : XK} (hc : CtR c (joiRes Pg w c.K C a) p to put) (h1 : m ≠ "triples") (h2 : m ≠ "spots") (h3 : m ≠ "lowered") (h4 : m ≠ "joined")
    (h : WE c ta G s (FZ fun x s1 => x = .ref p ∧ WA c t G s1 fun ds s2 => f p ds (to s2) (fun x s3 => P x (put s2 s3)) (fun _ _ _ => False))) : WE c (tMeth C m (JSp Pg w c.K C f) [] E ta t) G s P := fun σ F H0 H g Q q =>
  h.use g fun x s1 v H1 H1' hp g1 e1 r1 => by
    obtain ⟨rfl, hp⟩ := hp
    cases r1
    obtain ⟨_, ⟨dx, fs, hd, hf⟩, _⟩ := hc.R _ _ _ g1.gd.rs
    refine ⟨p, dx, fs, rfl, g1.gd.sub _ _ hd, hf.no m h1 h2 h3 h4, hp σ F H1 H1' g1 _ fun ds s2 vs H2 H2' hf g2 e2 r2 => ?_⟩
    rw [List.append_nil]
    exact ⟨a, res_call hc (.inl fun _ _ _ z => z) hf g2 r2 fun x s' v H3 H3' a b e d => q x s' v H3 H3' a b ((e1.trans e2).trans e) d⟩
/-- its attributes -/
theorem we_fldJt {ta : TE} (hc : CtR c (joiRes Pg w c.K C a) p to put) (kc : JCls c.K C) (h : WE c ta G s (FZ fun x s1 => x = .ref p ∧ P (.dat (.ref a.1)) s1)) : WE c (tFld c.K ta "triples") G s P := fun σ F H0 H g Q q =>
  h.use g fun x s1 v H1 H1' hp g1 e1 r1 => by
    obtain ⟨rfl, hp⟩ := hp
    cases r1
    obtain ⟨_, ⟨dx, fs, hd, hf⟩, _⟩ := hc.R _ _ _ g1.gd.rs
    exact ⟨p, C, dx, fs, .ref _, rfl, g1.gd.sub _ _ hd, kc.cls, kc.nt, hf.t, q _ s1 _ H1 H1' hp g1 e1 (.ref _)⟩
theorem we_fldJs {ta : TE} (hc : CtR c (joiRes Pg w c.K C a) p to put) (kc : JCls c.K C) (h : WE c ta G s (FZ fun x s1 => x = .ref p ∧ P (.dat (.ref a.2.1)) s1)) : WE c (tFld c.K ta "spots") G s P := fun σ F H0 H g Q q =>
  h.use g fun x s1 v H1 H1' hp g1 e1 r1 => by
    obtain ⟨rfl, hp⟩ := hp
    cases r1
    obtain ⟨_, ⟨dx, fs, hd, hf⟩, _⟩ := hc.R _ _ _ g1.gd.rs
    exact ⟨p, C, dx, fs, .ref _, rfl, g1.gd.sub _ _ hd, kc.cls, kc.ns, hf.s, q _ s1 _ H1 H1' hp g1 e1 (.ref _)⟩
theorem we_fldJl {ta : TE} (hc : CtR c (joiRes Pg w c.K C a) p to put) (kc : JCls c.K C) (h : WE c ta G s (FZ fun x s1 => x = .ref p ∧ P (.dat (.ref a.2.2.1)) s1)) : WE c (tFld c.K ta "lowered") G s P := fun σ F H0 H g Q q =>
  h.use g fun x s1 v H1 H1' hp g1 e1 r1 => by
    obtain ⟨rfl, hp⟩ := hp
    cases r1
    obtain ⟨_, ⟨dx, fs, hd, hf⟩, _⟩ := hc.R _ _ _ g1.gd.rs
    exact ⟨p, C, dx, fs, .ref _, rfl, g1.gd.sub _ _ hd, kc.cls, kc.nl, hf.l, q _ s1 _ H1 H1' hp g1 e1 (.ref _)⟩
theorem we_fldJj {ta : TE} (hc : CtR c (joiRes Pg w c.K C a) p to put) (kc : JCls c.K C) (h : WE c ta G s (FZ fun x s1 => x = .ref p ∧ P (.dat (.ref a.2.2.2)) s1)) : WE c (tFld c.K ta "joined") G s P := fun σ F H0 H g Q q =>
  h.use g fun x s1 v H1 H1' hp g1 e1 r1 => by
    obtain ⟨rfl, hp⟩ := hp
    cases r1
    obtain ⟨_, ⟨dx, fs, hd, hf⟩, _⟩ := hc.R _ _ _ g1.gd.rs
    exact ⟨p, C, dx, fs, .ref _, rfl, g1.gd.sub _ _ hd, kc.cls, kc.nj, hf.j, q _ s1 _ H1 H1' hp g1 e1 (.ref _)⟩
end
theorem jc0 {Pg : Program} {w : World} {K : PySem.W.Frag} {C p : Addr} {a : J4} {H0 H : Hp} {E : XK} {XP : Addr → D → JSt → Prop} {okX} : CtR (resCt K (joiRes Pg w K C a) p H0 H E XP okX) (joiRes Pg w K C a) p (fun s => s) (fun _ t => t) := resC
end DL
/-! DNi: kinds that are put together: what the methods promise (no program in sight) -/
namespace DL
open PySem PySem.Spec PyProof.Rows L2
/-- all parts of the row may be asked for -/
structure Cov (u : JU) (d : Nat) (l : LRow) : Prop where
  len : l.length ≤ 50000
  one : ∀ (x : LRow) (e : Nat), x <:+: l → e + 1 ≤ d → ∃ x', Alike (e + 1) x x' ∧ (x', e + 1) ∈ u.U
  two : ∀ (x y : LRow) (e : Nat), x ++ y <:+: l → e + 1 ≤ d → ∃ x' y', Alike (e + 1) x x' ∧ Alike (e + 1) y y' ∧ (x', y', e + 1) ∈ u.W
theorem Cov.less {u : JU} {d e : Nat} {l : LRow} (h : Cov u d l) (k : e ≤ d) : Cov u e l := ⟨h.len, fun x f hx hf => h.one x f hx (Nat.le_trans hf k), fun x y f hx hf => h.two x y f hx (Nat.le_trans hf k)⟩
theorem Cov.sub {u : JU} {d : Nat} {l m : LRow} (h : Cov u d l) (k : m <:+: l) : Cov u d m := ⟨Nat.le_trans k.length_le h.len, fun x f hx hf => h.one x f (hx.trans k) hf, fun x y f hx hf => h.two x y f (hx.trans k) hf⟩
theorem Cov.nil {u : JU} {d : Nat} {l : LRow} (h : Cov u d l) : Cov u d [] := h.sub (List.nil_infix)
theorem Cov.take {u : JU} {d : Nat} {l : LRow} (h : Cov u d l) (i : Nat) : Cov u d (l.take i) := h.sub (List.take_prefix i l).isInfix
theorem Cov.drop {u : JU} {d : Nat} {l : LRow} (h : Cov u d l) (i : Nat) : Cov u d (l.drop i) := h.sub (List.drop_suffix i l).isInfix
theorem Cov.left {u : JU} {d : Nat} {l m : LRow} (h : Cov u d (l ++ m)) : Cov u d l := h.sub (List.prefix_append l m).isInfix
theorem Cov.right {u : JU} {d : Nat} {l m : LRow} (h : Cov u d (l ++ m)) : Cov u d m := h.sub (List.suffix_append l m).isInfix
theorem JTr.alike {t : JTab} (hn : t.Nodup) {d : Nat} {l m : LRow} {T : List M3} (h1 : JTr (JK t d) l T) (k : Alike (d + 1) l m) : JTr (JK t d) m T :=
  ⟨fun j a hj => by
    obtain ⟨i, hi, a1, a2⟩ := k.2 j a hj
    obtain ⟨x, y, q1, q2, q3⟩ := h1.1 i a hi
    exact ⟨x, y, q1, JK.alike hn q2 a1.symm, JK.alike hn q3 a2.symm⟩, fun q hq => by
    obtain ⟨i, a, hi, e, q2, q3⟩ := h1.2 q hq
    obtain ⟨j, hj, a1, a2⟩ := k.1 i a hi
    exact ⟨j, a, hj, e, JK.alike hn q2 a1, JK.alike hn q3 a2⟩⟩
/-- the triples are no more than the places -/
theorem JTr.len {t : JTab} (hn : t.Nodup) {d : Nat} {l : LRow} {T : List M3} (h : JTr (JK t d) l T) (nd : T.Nodup) : T.length ≤ l.length := by
  have := inj_len (F := fun (m : M3) (i : Nat) => ∃ a : Nat, l[i]? = some a ∧ m.2.1 = rowS [a] ∧ JK t d (l.take i) m.1 ∧ JK t d (l.drop (i + 1)) m.2.2) (l := T) (m := List.range l.length) nd (fun m hm => by
    obtain ⟨i, a, h1, h2, h3, h4⟩ := h.2 m hm
    exact ⟨i, List.mem_range.mpr (List.getElem?_eq_some_iff.mp h1).1, a, h1, h2, h3, h4⟩) fun m m' i _ _ ⟨a, h1, h2, h3, h4⟩ ⟨b, g1, g2, g3, g4⟩ => by
    rw [h1] at g1
    cases g1
    obtain ⟨m0, m1, m2⟩ := m
    obtain ⟨n0, n1, n2⟩ := m'
    simp only at h2 h3 h4 g2 g3 g4
    rw [h2, g2, h3.one hn g3, h4.one hn g4]
  rw [List.length_range] at this
  exact this
theorem canonS_nodup (T : List M3) : (canonS T).Nodup := by
  unfold canonS
  exact (List.mergeSort_perm _ _).nodup_iff.mpr (dd3_nodup T)
/-- what triples become, place by place -/
theorem JTr.via {f f' : LRow → Int → Prop} {l : LRow} {T acc : List M3} (pre post : Nat → LRow) (hT : JTr f l T)
    (hp : Paired (fun (m m' : M3) => m'.2.1 = m.2.1 ∧ ∀ i a : Nat, l[i]? = some a → f (l.take i) m.1 → f (l.drop (i + 1)) m.2.2 → f' (pre i) m'.1 ∧ f' (post i) m'.2.2) T acc) :
    (∀ i a : Nat, l[i]? = some a → ∃ x y, ((x, rowS [a], y) : M3) ∈ acc ∧ f' (pre i) x ∧ f' (post i) y) ∧ ∀ m ∈ acc, ∃ i a : Nat, l[i]? = some a ∧ m.2.1 = rowS [a] ∧ f' (pre i) m.1 ∧ f' (post i) m.2.2 := by
  have fwd : ∀ {T acc : List M3}, Paired (fun (m m' : M3) => m'.2.1 = m.2.1 ∧ ∀ i a : Nat, l[i]? = some a → f (l.take i) m.1 → f (l.drop (i + 1)) m.2.2 → f' (pre i) m'.1 ∧ f' (post i) m'.2.2) T acc →
      (∀ m ∈ T, ∃ m' ∈ acc, m'.2.1 = m.2.1 ∧ ∀ i a : Nat, l[i]? = some a → f (l.take i) m.1 → f (l.drop (i + 1)) m.2.2 → f' (pre i) m'.1 ∧ f' (post i) m'.2.2) ∧
      ∀ m' ∈ acc, ∃ m ∈ T, m'.2.1 = m.2.1 ∧ ∀ i a : Nat, l[i]? = some a → f (l.take i) m.1 → f (l.drop (i + 1)) m.2.2 → f' (pre i) m'.1 ∧ f' (post i) m'.2.2 := by
    intro T acc h
    induction h with
    | nil => exact ⟨fun _ h => (nomatch h), fun _ h => (nomatch h)⟩
    | @cons a b l1 l2 q t ih =>
      refine ⟨fun m hm => ?_, fun m hm => ?_⟩
      · rcases List.mem_cons.mp hm with rfl | hm
        · exact ⟨b, List.mem_cons_self .., q⟩
        · obtain ⟨m', h1, h2⟩ := ih.1 m hm
          exact ⟨m', List.mem_cons_of_mem _ h1, h2⟩
      · rcases List.mem_cons.mp hm with rfl | hm
        · exact ⟨a, List.mem_cons_self .., q⟩
        · obtain ⟨m', h1, h2⟩ := ih.2 m hm
          exact ⟨m', List.mem_cons_of_mem _ h1, h2⟩
  obtain ⟨h1, h2⟩ := fwd hp
  refine ⟨fun i a ha => ?_, fun m' hm => ?_⟩
  · obtain ⟨x, y, q1, q2, q3⟩ := hT.1 i a ha
    obtain ⟨m', g1, g2, g3⟩ := h1 _ q1
    obtain ⟨m0, m1, m2⟩ := m'
    simp only at g2 g3
    subst g2
    have := g3 i a ha q2 q3
    exact ⟨m0, m2, g1, this.1, this.2⟩
  · obtain ⟨m, g1, g2, g3⟩ := h2 m' hm
    obtain ⟨i, a, q1, q2, q3, q4⟩ := hT.2 m g1
    exact ⟨i, a, q1, g2.trans q2, g3 i a q1 q3 q4⟩
/-- places of two rows, one behind the other -/
theorem JTr.app {f : LRow → Int → Prop} {l m : LRow} {A B : List M3}
    (hA : (∀ i a : Nat, l[i]? = some a → ∃ x y, ((x, rowS [a], y) : M3) ∈ A ∧ f (l.take i) x ∧ f (l.drop (i + 1) ++ m) y) ∧ ∀ q ∈ A, ∃ i a : Nat, l[i]? = some a ∧ q.2.1 = rowS [a] ∧ f (l.take i) q.1 ∧ f (l.drop (i + 1) ++ m) q.2.2)
    (hB : (∀ i a : Nat, m[i]? = some a → ∃ x y, ((x, rowS [a], y) : M3) ∈ B ∧ f (l ++ m.take i) x ∧ f (m.drop (i + 1)) y) ∧ ∀ q ∈ B, ∃ i a : Nat, m[i]? = some a ∧ q.2.1 = rowS [a] ∧ f (l ++ m.take i) q.1 ∧ f (m.drop (i + 1)) q.2.2) : JTr f (l ++ m) (A ++ B) := by
  have t1 : ∀ i, i < l.length → (l ++ m).take i = l.take i ∧ (l ++ m).drop (i + 1) = l.drop (i + 1) ++ m := fun i hi => by
    rw [List.take_append, List.drop_append, show i - l.length = 0 by omega, show i + 1 - l.length = 0 by omega]
    simp
  have t2 : ∀ i, (l ++ m).take (l.length + i) = l ++ m.take i ∧ (l ++ m).drop (l.length + i + 1) = m.drop (i + 1) := fun i => by
    rw [List.take_append, List.drop_append, show l.length + i - l.length = i by omega, show l.length + i + 1 - l.length = i + 1 by omega, List.take_of_length_le (by omega), List.drop_of_length_le (by omega)]
    simp
  refine ⟨fun i a ha => ?_, fun q hq => ?_⟩
  · by_cases hi : i < l.length
    · rw [List.getElem?_append_left hi] at ha
      obtain ⟨x, y, h1, h2, h3⟩ := hA.1 i a ha
      exact ⟨x, y, List.mem_append_left _ h1, by rw [(t1 i hi).1]; exact h2, by rw [(t1 i hi).2]; exact h3⟩
    · rw [List.getElem?_append_right (by omega)] at ha
      obtain ⟨x, y, h1, h2, h3⟩ := hB.1 _ a ha
      have e : l.length + (i - l.length) = i := by omega
      have := t2 (i - l.length)
      rw [e] at this
      exact ⟨x, y, List.mem_append_right _ h1, by rw [this.1]; exact h2, by rw [this.2]; exact h3⟩
  · rcases List.mem_append.mp hq with hq | hq
    · obtain ⟨i, a, h1, h2, h3, h4⟩ := hA.2 q hq
      have hi := (List.getElem?_eq_some_iff.mp h1).1
      exact ⟨i, a, by rw [List.getElem?_append_left hi]; exact h1, h2, by rw [(t1 i hi).1]; exact h3, by rw [(t1 i hi).2]; exact h4⟩
    · obtain ⟨i, a, h1, h2, h3, h4⟩ := hB.2 q hq
      exact ⟨l.length + i, a, by rw [List.getElem?_append_right (by omega), show l.length + i - l.length = i by omega]; exact h1, h2, by rw [(t2 i).1]; exact h3, by rw [(t2 i).2]; exact h4⟩
section
variable {u : JU} {t : JTab} {st : JSt}
/-- a new number, by rows alike -/
theorem JOk.newA (h : JOk u t st) {d : Nat} {l : LRow} {T : List M3} (hT : JTr (JK t d) l T) (hc : Cov u (d + 1) l) (hn : (d + 1, canonS T) ∉ t) (v : V) :
    JOk u (t ++ [(d + 1, canonS T)]) (((st.1.1.1 ++ [v], st.1.1.2 ++ [keyD (canonS T)]), dPut st.1.2 (jkey (d + 1, canonS T)) (.int ((t.length : Nat) : Int))), st.2) := by
  obtain ⟨x, h1, h2⟩ := hc.one l d List.infix_rfl (Nat.le_refl _)
  exact h.new (hT.alike h.nd h1) h2 hn v
theorem diPut_at {st : DI} {k v : Int} : diAt (diPut st k v) k = some v := by
  unfold diPut
  split
  · rename_i z
    unfold diAt
    induction st with
    | nil => simp at z
    | cons e es ih =>
      rw [List.map_cons, List.find?_cons]
      by_cases he : e.1 = k
      · rw [if_pos he, decide_eq_true (show (e.1, v).1 = k from he)]
        rfl
      · rw [if_neg he, decide_eq_false he]
        exact ih (by simpa [he] using z)
  · rename_i z
    unfold diAt
    have : st.find? (fun e => decide (e.1 = k)) = none := by
      rw [List.find?_eq_none]
      intro e he hk
      exact z (List.any_eq_true.mpr ⟨e, he, hk⟩)
    rw [List.find?_append, this]
    simp
theorem JOk.lowPut2 (h : JOk u t st) {d : Nat} {l : LRow} {n k : Int} (h1 : JK t (d + 1) l n) (h2 : JK t d l k) : JOk u t (st.1, (diPut st.2.1 n k, st.2.2)) := by
  unfold diPut
  split
  · refine ⟨h.ulen, h.wlen, h.nd, h.t0, h.tr, h.sp, h.pos, fun x hx => ?_, ?_, h.jo, h.jok⟩
    · obtain ⟨e, he, rfl⟩ := List.mem_map.mp hx
      by_cases z : e.1 = n
      · rw [if_pos z]
        exact ⟨d, l, by rw [z]; exact h1, h2⟩
      · rw [if_neg z]
        exact h.lo e he
    · show ((st.2.1.map fun e => if e.1 = n then (e.1, k) else e).map (·.1)).Nodup
      have : (st.2.1.map fun e => if e.1 = n then (e.1, k) else e).map (·.1) = st.2.1.map (·.1) := by
        rw [List.map_map]
        apply List.map_congr_left
        intro e _
        show (if e.1 = n then (e.1, k) else e).1 = e.1
        split <;> rfl
      rw [this]
      exact h.lok
  · rename_i z
    refine h.lowPut h1 h2 ?_
    unfold diAt
    rw [Option.map_eq_none_iff, List.find?_eq_none]
    intro e he hk
    exact z (List.any_eq_true.mpr ⟨e, he, hk⟩)
theorem JOk.joinPut2 (h : JOk u t st) {d : Nat} {l m : LRow} {a b c : Int} (hw : Cov u (d + 1) (l ++ m)) (ha : JK t (d + 1) l a) (hb : JK t (d + 1) m b) (hc : JK t (d + 1) (l ++ m) c) : JOk u t (st.1, (st.2.1, dtPut st.2.2 [.inl a, .inl b] (.int c))) := by
  obtain ⟨l', m', k1, k2, k3⟩ := hw.two l m d List.infix_rfl (Nat.le_refl _)
  have ha := JK.alike h.nd ha k1
  have hb := JK.alike h.nd hb k2
  have hc := JK.alike h.nd hc (Alike.app k1 k2)
  cases e : dtAt st.2.2 [.inl a, .inl b] with
  | none => exact h.joinPut k3 ha hb hc e
  | some v =>
    unfold dtPut
    split
    · refine ⟨h.ulen, h.wlen, h.nd, h.t0, h.tr, h.sp, h.pos, h.lo, h.lok, fun x hx => ?_, ?_⟩
      · obtain ⟨e, he, rfl⟩ := List.mem_map.mp hx
        by_cases z : e.1 = [.inl a, .inl b]
        · rw [if_pos z]
          exact ⟨a, b, c, d, l', m', by rw [z], k3, ha, hb, hc⟩
        · rw [if_neg z]
          exact h.jo e he
      · show ((st.2.2.map fun e => if e.1 = [.inl a, .inl b] then (e.1, D.int c) else e).map (·.1)).Nodup
        have : (st.2.2.map fun e => if e.1 = [.inl a, .inl b] then (e.1, D.int c) else e).map (·.1) = st.2.2.map (·.1) := by
          rw [List.map_map]
          apply List.map_congr_left
          intro e _
          show (if e.1 = [.inl a, .inl b] then (e.1, D.int c) else e).1 = e.1
          split <;> rfl
        rw [this]
        exact h.jok
    · rename_i z
      have := h.joinPut k3 ha hb hc (by
        unfold dtAt
        rw [Option.map_eq_none_iff, List.find?_eq_none]
        intro e he hk
        exact z (List.any_eq_true.mpr ⟨e, he, hk⟩))
      unfold dtPut at this
      rw [if_neg z] at this
      exact this
/-- lowered, whatever the row -/
theorem JK.low {t t' : JTab} (hn : t.Nodup) (hn' : t'.Nodup) {d : Nat} {l m : LRow} {n k : Int} (h1 : JK t (d + 1) l n) (h2 : JK t (d + 1) m n) (h : JK t' d l k) : JK t' d m k := h.alike hn' ((jk_iff hn h1 h2).mp rfl).less
end
theorem jtr_nil {f : LRow → Int → Prop} : JTr f [] [] := ⟨fun i a h => by simp at h, fun _ h => nomatch h⟩
theorem jtr_one {f : LRow → Int → Prop} {a : Nat} {x y : Int} (h1 : f [] x) (h2 : f [] y) : JTr f [a] [(x, rowS [a], y)] :=
  ⟨fun i b h => by
    cases i with
    | zero => cases h; exact ⟨x, y, List.mem_singleton.mpr rfl, h1, h2⟩
    | succ i => simp at h, fun m hm => by
    rw [List.mem_singleton.mp hm]
    exact ⟨0, a, rfl, rfl, h1, h2⟩⟩
/-! ### what the methods promise -/
abbrev naS : JSpec := fun _ ds st P _ => ∃ (u : JU) (t : JTab) (d : Nat) (l : LRow) (ms : List M3), ds = [.lst (ms.map m3D), .int ((d + 1 : Nat) : Int)] ∧ ms.length ≤ 100000 ∧ JOk u t st ∧ JTr (JK t d) l ms ∧ Cov u (d + 1) l ∧
  ∀ (n : Int) (t' : JTab) (st' : JSt), JOk u t' st' → t <+: t' → JK t' (d + 1) l n → P (.dat (.int n)) st'
abbrev emptyS : JSpec := fun _ ds st P _ => ∃ (u : JU) (t : JTab) (d : Nat), ds = [.int ((d : Nat) : Int)] ∧ JOk u t st ∧ Cov u d [] ∧
  ∀ (n : Int) (t' : JTab) (st' : JSt), JOk u t' st' → t <+: t' → JK t' d [] n → P (.dat (.int n)) st'
def lowerS (D : Nat) : JSpec := fun _ ds st P _ => ∃ d, d < D ∧ ∃ (u : JU) (t : JTab) (l : LRow) (n : Int), ds = [.int n, .int ((d + 1 : Nat) : Int)] ∧ JOk u t st ∧ JK t (d + 1) l n ∧ Cov u d l ∧
  ∀ (k : Int) (t' : JTab) (st' : JSt), JOk u t' st' → t <+: t' → JK t' d l k → P (.dat (.int k)) st'
def togS (D : Nat) : JSpec := fun _ ds st P _ => ∃ d, d < D ∧ ∃ _ : d ≤ 6, ∃ (u : JU) (t : JTab) (l m : LRow) (x y : Int), ds = [.int x, .int y, .int ((d : Nat) : Int)] ∧ JOk u t st ∧ JK t d l x ∧ JK t d m y ∧ Cov u d (l ++ m) ∧
  ∀ (k : Int) (t' : JTab) (st' : JSt), JOk u t' st' → t <+: t' → JK t' d (l ++ m) k → P (.dat (.int k)) st'
abbrev korS (D : Nat) : JSpec := fun _ ds st P _ => ∃ (u : JU) (t : JTab) (l : LRow) (d : Nat), ds = [.str (rowS l), .int ((d : Nat) : Int)] ∧ d < D ∧ l.length ≤ 50000 ∧ JOk u t st ∧ Cov u d l ∧
  ∀ (k : Int) (t' : JTab) (st' : JSt), JOk u t' st' → t <+: t' → JK t' d l k → P (.dat (.int k)) st'
section
variable {u : JU} {t : JTab} {st : JSt} {D d : Nat} {p : Addr} {l m : LRow} {P : Sl → JSt → Prop} {XP : Addr → DL.D → JSt → Prop} {x y z n : Int}
theorem u_na {ms : List M3} {e : DL.D} (d : Nat) (l : LRow) (he : e = .lst (ms.map m3D)) (hz : z = ((d + 1 : Nat) : Int)) (hl : ms.length ≤ 100000) (hJ : JOk u t st) (hT : JTr (JK t d) l ms) (hc : Cov u (d + 1) l) (k : ∀ (n : Int) (t' : JTab) (st' : JSt), JOk u t' st' → t <+: t' → JK t' (d + 1) l n → P (.dat (.int n)) st') : naS p [e, .int z] st P XP :=
  ⟨u, t, d, l, ms, by rw [hz, he], hl, hJ, hT, hc, k⟩
theorem u_empty (d : Nat) (hz : z = ((d : Nat) : Int)) (hJ : JOk u t st) (hc : Cov u d []) (k : ∀ (n : Int) (t' : JTab) (st' : JSt), JOk u t' st' → t <+: t' → JK t' d [] n → P (.dat (.int n)) st') : emptyS p [.int z] st P XP :=
  ⟨u, t, d, by rw [hz], hJ, hc, k⟩
theorem u_lower (d : Nat) (l : LRow) (hz : z = ((d + 1 : Nat) : Int)) (hd : d < D) (hJ : JOk u t st) (hk : JK t (d + 1) l n) (hc : Cov u d l) (k : ∀ (k : Int) (t' : JTab) (st' : JSt), JOk u t' st' → t <+: t' → JK t' d l k → P (.dat (.int k)) st') : lowerS D p [.int n, .int z] st P XP :=
  ⟨d, hd, u, t, l, n, by rw [hz], hJ, hk, hc, k⟩
theorem u_tog (d : Nat) (l m : LRow) (hz : z = ((d : Nat) : Int)) (hd : d < D) (h6 : d ≤ 6) (hJ : JOk u t st) (h1 : JK t d l x) (h2 : JK t d m y) (hc : Cov u d (l ++ m)) (k : ∀ (k : Int) (t' : JTab) (st' : JSt), JOk u t' st' → t <+: t' → JK t' d (l ++ m) k → P (.dat (.int k)) st') : togS D p [.int x, .int y, .int z] st P XP :=
  ⟨d, hd, h6, u, t, l, m, x, y, by rw [hz], hJ, h1, h2, hc, k⟩
theorem u_kor (d : Nat) (hz : z = ((d : Nat) : Int)) (hd : d < D) (hJ : JOk u t st) (hc : Cov u d l) (k : ∀ (k : Int) (t' : JTab) (st' : JSt), JOk u t' st' → t <+: t' → JK t' d l k → P (.dat (.int k)) st') : korS D p [.str (rowS l), .int z] st P XP :=
  ⟨u, t, l, d, by rw [hz], hd, hc.len, hJ, hc, k⟩
end
end DL
/-! DNj: new objects, how __init__ ends; where repeats settle -/
namespace DL
open PySem PySem.Spec PyProof.Rows L2
theorem upd_kp {H : Hp} {a : Addr} {o : HO} (h : H a = none) {b : Addr} {x : HO} (hb : H b = some x) : upd H a o b = some x := by
  rw [upd_ne (ne_of_none hb h)]
  exact hb
theorem upd_kp2 {H : Hp} {p : Addr} {o : HO} {b : Addr} {x : HO} (hb : H b = some x) (n : b ≠ p) : upd H p o b = some x := by
  rw [upd_ne n]
  exact hb
/-- the told heap behind an __init__ -/
theorem ini_done {B : Addr → Prop} {p : Addr} {H H0 H' : Hp} (n0 : H0 p = none) (sub : Same H0 H) (kp : ∀ b o, H b = some o → b ≠ p → H' b = some o) (hB : ∀ a, B a → a ≠ p → H a = none) :
    ∃ H0', Same H0 H0' ∧ Same H0' H' ∧ (∀ b, H b ≠ none → b ≠ p → H0 b = none → H0' b = none) ∧ (∀ a, B a → H0' a = none) ∧ ∀ x, ¬ B x → x = p ∨ H x = none → H0' x = H' x := by
  classical
  refine ⟨fun b => if B b then none else if b ≠ p ∧ H b ≠ none then H0 b else H' b, fun b o h => ?_, fun b o h => ?_, fun b h1 h2 h3 => ?_, fun a h => if_pos h, fun x h1 h2 => ?_⟩
  · have hp : b ≠ p := fun z => by rw [z, n0] at h; cases h
    have hH := sub _ _ h
    show (if B b then none else if b ≠ p ∧ H b ≠ none then H0 b else H' b) = some o
    rw [if_neg (fun z => by rw [hB b z hp] at hH; cases hH), if_pos ⟨hp, by rw [hH]; simp⟩]
    exact h
  · have h : (if B b then none else if b ≠ p ∧ H b ≠ none then H0 b else H' b) = some o := h
    split at h
    · cases h
    · split at h
      · rename_i h2
        exact kp b o (sub _ _ h) h2.1
      · exact h
  · show (if B b then none else if b ≠ p ∧ H b ≠ none then H0 b else H' b) = none
    split
    · rfl
    · rw [if_pos ⟨h2, h1⟩]
      exact h3
  · show (if B x then none else if x ≠ p ∧ H x ≠ none then H0 x else H' x) = H' x
    rw [if_neg h1, if_neg]
    rintro ⟨a, b⟩
    rcases h2 with z | z
    · exact a z
    · exact b z
/-- a new Joints object -/
def jPost : J4 → JSt → List D → Prop := fun _ st _ => st.1.1.2 = [keyD []] ∧ st.1.2 = spOf [(0, [])] 0 ∧ st.2 = ([], [])
abbrev spJ (Pg : Program) (w : World) (K : PySem.W.Frag) (C : Addr) : Sp := spIni K C (joiRes Pg w K C) (fun ds => ds = []) jPost
theorem JOk.ini {u : JU} {st : JSt} {a : J4} {ds : List D} (hu : u.U.length < 900000) (hw : u.W.length < 900000) (h : jPost a st ds) : JOk u [(0, [])] st := by
  obtain ⟨h1, h2, h3⟩ := h
  refine ⟨hu, hw, by simp, rfl, h1, h2, fun i hi => .inl (by simp at hi; exact hi), fun e he => ?_, ?_, fun e he => ?_, ?_⟩
  · rw [h3] at he
    cases he
  · rw [h3]
    exact .nil
  · rw [h3] at he
    cases he
  · rw [h3]
    exact .nil
/-! ### all parts of one row -/
def allJ (l : LRow) (d : Nat) : JU where
  U := (List.range (l.length + 1)).flatMap fun i => (List.range (l.length + 1)).flatMap fun j => (List.range d).map fun e => ((l.drop i).take j, e + 1)
  W := (List.range (l.length + 1)).flatMap fun i => (List.range (l.length + 1)).flatMap fun j => (List.range (l.length + 1)).flatMap fun k => (List.range d).map fun e => ((l.drop i).take j, (l.drop (i + j)).take k, e + 1)
theorem flatMap_len2 {α β : Type} {f : α → List β} {n : Nat} : ∀ {l : List α}, (∀ x ∈ l, (f x).length = n) → (l.flatMap f).length = l.length * n
  | [], _ => by simp
  | a :: l, h => by
    rw [List.flatMap_cons, List.length_append, h a (List.mem_cons_self ..), flatMap_len2 fun x hx => h x (List.mem_cons_of_mem _ hx), List.length_cons, Nat.succ_mul, Nat.add_comm]
theorem allJ_len {l : LRow} {d : Nat} : (allJ l d).U.length = (l.length + 1) * ((l.length + 1) * d) ∧ (allJ l d).W.length = (l.length + 1) * ((l.length + 1) * ((l.length + 1) * d)) := by
  constructor
  · show (List.flatMap _ _).length = _
    rw [flatMap_len2 (n := (l.length + 1) * d) fun i _ => by
      rw [flatMap_len2 (n := d) fun j _ => by rw [List.length_map, List.length_range]]
      rw [List.length_range], List.length_range]
  · show (List.flatMap _ _).length = _
    rw [flatMap_len2 (n := (l.length + 1) * ((l.length + 1) * d)) fun i _ => by
      rw [flatMap_len2 (n := (l.length + 1) * d) fun j _ => by
        rw [flatMap_len2 (n := d) fun k _ => by rw [List.length_map, List.length_range]]
        rw [List.length_range]]
      rw [List.length_range], List.length_range]
theorem infix_at {x l : LRow} (h : x <:+: l) : ∃ i, i ≤ l.length ∧ x = (l.drop i).take x.length := by
  obtain ⟨p, q, rfl⟩ := h
  refine ⟨p.length, by rw [List.length_append, List.length_append]; omega, ?_⟩
  rw [List.append_assoc, List.drop_left, List.take_left]
theorem allJ_cov {l : LRow} {d : Nat} (hl : l.length ≤ 50000) : Cov (allJ l d) d l := by
  refine ⟨hl, fun x e hx he => ⟨x, Alike.refl _ _, ?_⟩, fun x y e hx he => ⟨x, y, Alike.refl _ _, Alike.refl _ _, ?_⟩⟩
  · obtain ⟨i, hi, ex⟩ := infix_at hx
    have hxl := hx.length_le
    refine List.mem_flatMap.mpr ⟨i, List.mem_range.mpr (by omega), List.mem_flatMap.mpr ⟨x.length, List.mem_range.mpr (by omega), List.mem_map.mpr ⟨e, List.mem_range.mpr (by omega), ?_⟩⟩⟩
    rw [← ex]
  · obtain ⟨i, hi, ex⟩ := infix_at hx
    have hxl := hx.length_le
    rw [List.length_append] at hxl
    have e1 : (l.drop i).take x.length = x := by
      have := congrArg (List.take x.length) ex
      rw [List.take_left, List.take_take, List.length_append, Nat.min_eq_left (by omega)] at this
      exact this.symm
    have e2 : (l.drop (i + x.length)).take y.length = y := by
      have := congrArg (List.drop x.length) ex
      rw [List.drop_left, List.drop_take, List.drop_drop, List.length_append, show x.length + y.length - x.length = y.length by omega] at this
      exact this.symm
    refine List.mem_flatMap.mpr ⟨i, List.mem_range.mpr (by omega), List.mem_flatMap.mpr ⟨x.length, List.mem_range.mpr (by omega), List.mem_flatMap.mpr ⟨y.length, List.mem_range.mpr (by omega), List.mem_map.mpr ⟨e, List.mem_range.mpr (by omega), ?_⟩⟩⟩⟩
    rw [e1, e2]
theorem allJ_ok {l : LRow} {d : Nat} (hl : l.length ≤ 48) (hd : d ≤ 6) : (allJ l d).U.length < 900000 ∧ (allJ l d).W.length < 900000 := by
  rw [allJ_len.1, allJ_len.2]
  have h1 : (l.length + 1) * d ≤ 49 * 6 := Nat.mul_le_mul (by omega) hd
  have h2 : (l.length + 1) * ((l.length + 1) * d) ≤ 49 * (49 * 6) := Nat.mul_le_mul (by omega) h1
  have h3 : (l.length + 1) * ((l.length + 1) * ((l.length + 1) * d)) ≤ 49 * (49 * (49 * 6)) := Nat.mul_le_mul (by omega) h2
  omega
/-! ### where repeats settle -/
/-- k is the least number of times from which on one more makes no difference -/
def Settles (d : Nat) (l : LRow) (k : Nat) : Prop := Alike d (rep l k) (rep l (k + 1)) ∧ ∀ j, j < k → ¬ Alike d (rep l j) (rep l (j + 1))
theorem Settles.one {d : Nat} {l : LRow} {j k : Nat} (h : Settles d l j) (h' : Settles d l k) : j = k := by
  rcases Nat.lt_trichotomy j k with z | z | z
  · exact absurd h.1 (h'.2 j z)
  · exact z
  · exact absurd h'.1 (h.2 k z)
theorem least_nat {p : Nat → Prop} : ∀ {n : Nat}, p n → ∃ k, k ≤ n ∧ p k ∧ ∀ j, j < k → ¬ p j := fun {n} h => by
  classical
  induction n using Nat.strongRecOn with
  | _ n ih =>
    by_cases z : ∃ j, j < n ∧ p j
    · obtain ⟨j, hj, pj⟩ := z
      obtain ⟨k, h1, h2, h3⟩ := ih j hj pj
      exact ⟨k, by omega, h2, h3⟩
    · exact ⟨n, Nat.le_refl _, h, fun j hj pj => z ⟨j, hj, pj⟩⟩
theorem Settles.some (d : Nat) (l : LRow) : ∃ k, Settles d l k ∧ k ≤ 2 ^ d - 1 := by
  obtain ⟨k, h1, h2, h3⟩ := least_nat (p := fun k => Alike d (rep l k) (rep l (k + 1))) (n := 2 ^ d - 1) (alike_rep l (.inr ⟨Nat.le_refl _, by omega⟩))
  exact ⟨k, ⟨h2, h3⟩, h1⟩
theorem rep_snoc (l : LRow) (n : Nat) : rep l n ++ l = rep l (n + 1) := by
  unfold rep
  rw [List.replicate_succ', List.flatten_append]
  simp
theorem rep_length (l : LRow) (n : Nat) : (rep l n).length = n * l.length := by
  unfold rep
  simp
noncomputable def settle (d : Nat) (l : LRow) : Nat := Classical.choose (Settles.some d l)
theorem settle_is (d : Nat) (l : LRow) : Settles d l (settle d l) := (Classical.choose_spec (Settles.some d l)).1
abbrev settledS : FSpec := fun ds P _ => ∃ (l : LRow) (d : Nat), ds = [.str (rowS l), .int ((d : Nat) : Int)] ∧ Letters l ∧ l.length * 2 ^ d ≤ 48 ∧ d ≤ 3 ∧ P (.dat (.int ((settle d l : Nat) : Int)))
theorem u_settled {l : LRow} {z : Int} {P : Sl → Prop} {XP : Addr → D → Prop} (h : Letters l) (hz : 0 ≤ z ∧ z ≤ 3) (hl : l.length * 2 ^ z.toNat ≤ 48) (k : P (.dat (.int ((settle z.toNat l : Nat) : Int)))) : settledS [.str (rowS l), .int z] P XP :=
  ⟨l, z.toNat, by rw [Int.toNat_of_nonneg hz.1], h, hl, by omega, k⟩
theorem db_reprN2 {c : Ct} {G : List Sl} {s : c.S} {P : Sl → c.S → Prop} {a b : Nat} (h1 : a ≤ 1000000) (h2 : b ≤ 1000000) (k : P (.dat (.str (D.lst [.int ((a : Nat) : Int), .int ((b : Nat) : Int)]).py.shown)) s) : DCB c (rRepr c.K) [.lst [.int ((a : Nat) : Int), .int ((b : Nat) : Int)]] G s P :=
  db_reprF (Fine.lst (.cons (Fine.int64 (by omega)) (.cons (Fine.int64 (by omega)) .nil))) (by decide) (by decide) k
theorem u_settledN {l : LRow} {d : Nat} {P : Sl → Prop} {XP : Addr → D → Prop} (h : Letters l) (hz : d ≤ 3) (hl : l.length * 2 ^ d ≤ 48) (k : P (.dat (.int ((settle d l : Nat) : Int)))) : settledS [.str (rowS l), .int ((d : Nat) : Int)] P XP :=
  ⟨l, d, rfl, h, hl, hz, k⟩
theorem dop_pow2 {c : Ct} {G : List Sl} {s : c.S} {P : Sl → c.S → Prop} {j : Int} (h0 : 0 ≤ j) (h1 : j ≤ 1000) (k : P (.dat (.int ((2 ^ j.toNat : Nat) : Int))) s) : DOp c (rI CPw fun i j => .int (i ^ j.toNat)) (.int 2) (.int j) G s P := by
  have e : (2 : Int) ^ j.toNat = ((2 ^ j.toNat : Nat) : Int) := (Int.natCast_pow 2 _).symm
  refine dop_I (f := fun i j => .int (i ^ j.toNat)) ?_ (fun _ _ => .int _) (by rw [e]; exact k)
  have := cpw (i := 2) (j := j.toNat) (k := 2) (by decide) (by omega)
  rwa [Int.toNat_of_nonneg h0] at this
end DL
/-! DNk: far rows (lists of blocks) -/
namespace DL
open PySem PySem.Spec PyProof.Rows L2
mutual
/-- a row, or a list of blocks -/
inductive Part
  | row (l : LRow) : Part
  | blk (b : Blk) : Part
inductive Blk
  | nil : Blk
  | cons (p : Part) (n : Nat) (b : Blk) : Blk
end
mutual
def Part.D : Part → DL.D
  | .row l => .str (rowS l)
  | .blk b => .lst b.Ds
def Blk.Ds : Blk → List DL.D
  | .nil => []
  | .cons p n b => .tup [p.D, .int ((n : Nat) : Int)] :: b.Ds
end
mutual
/-- written out -/
def Part.out : Part → LRow
  | .row l => l
  | .blk b => b.out
def Blk.out : Blk → LRow
  | .nil => []
  | .cons p n b => rep p.out n ++ b.out
end
mutual
/-- written out, times cut -/
def Part.cut (d : Nat) : Part → LRow
  | .row l => l
  | .blk b => b.cut d
def Blk.cut (d : Nat) : Blk → LRow
  | .nil => []
  | .cons p n b => rep (p.cut d) (min n (2 ^ d - 1)) ++ b.cut d
end
mutual
def Part.dep : Part → Nat
  | .row _ => 0
  | .blk b => b.dep
def Blk.dep : Blk → Nat
  | .nil => 1
  | .cons p _ b => max (1 + p.dep) b.dep
end
def Blk.list : Blk → List (Part × Nat)
  | .nil => []
  | .cons p n b => (p, n) :: b.list
def Part.isBlk : Part → Bool
  | .row _ => false
  | .blk _ => true
mutual
def Part.Ok : Part → Prop
  | .row l => l.length ≤ 1000
  | .blk b => b.list.length ≤ 1000 ∧ b.Ok
def Blk.Ok : Blk → Prop
  | .nil => True
  | .cons p _ b => p.Ok ∧ b.Ok
end
mutual
/-- all parts may be asked for -/
def Part.Cov (u : JU) (d : Nat) : Part → Prop
  | .row l => DL.Cov u d l
  | .blk b => DL.Cov u d (b.cut d) ∧ b.Cov u d
def Blk.Cov (u : JU) (d : Nat) : Blk → Prop
  | .nil => True
  | .cons p _ b => p.Cov u d ∧ b.Cov u d
end
theorem Alike.reps {d : Nat} {l m : LRow} (h : Alike d l m) : ∀ n, Alike d (rep l n) (rep m n)
  | 0 => Alike.refl _ _
  | n + 1 => by
    rw [← rep_snoc, ← rep_snoc]
    exact Alike.app (Alike.reps h n) h
theorem enough_min (d n : Nat) : Enough d n (min n (2 ^ d - 1)) := by
  rcases Nat.le_total n (2 ^ d - 1) with h | h
  · exact .inl (by omega)
  · exact .inr ⟨h, by omega⟩
mutual
/-- times cut make no difference -/
theorem Part.alike_cut (d : Nat) : ∀ (p : Part), Alike d p.out (p.cut d)
  | .row _ => Alike.refl _ _
  | .blk b => Blk.alike_cut d b
theorem Blk.alike_cut (d : Nat) : ∀ (b : Blk), Alike d b.out (b.cut d)
  | .nil => Alike.refl _ _
  | .cons p n b => Alike.app ((alike_rep p.out (enough_min d n)).trans (Alike.reps (Part.alike_cut d p) _)) (Blk.alike_cut d b)
end
/-! ### what may be asked for, of two -/
def JU.app (u v : JU) : JU := ⟨u.U ++ v.U, u.W ++ v.W⟩
theorem Cov.inl {u v : JU} {d : Nat} {l : LRow} (h : Cov u d l) : Cov (u.app v) d l := ⟨h.len, fun x e h1 h2 => by
  obtain ⟨x', a, b⟩ := h.one x e h1 h2
  exact ⟨x', a, List.mem_append_left _ b⟩, fun x y e h1 h2 => by
  obtain ⟨x', y', a, b, c⟩ := h.two x y e h1 h2
  exact ⟨x', y', a, b, List.mem_append_left _ c⟩⟩
theorem Cov.inr {u v : JU} {d : Nat} {l : LRow} (h : Cov v d l) : Cov (u.app v) d l := ⟨h.len, fun x e h1 h2 => by
  obtain ⟨x', a, b⟩ := h.one x e h1 h2
  exact ⟨x', a, List.mem_append_right _ b⟩, fun x y e h1 h2 => by
  obtain ⟨x', y', a, b, c⟩ := h.two x y e h1 h2
  exact ⟨x', y', a, b, List.mem_append_right _ c⟩⟩
mutual
theorem Part.Cov.to {u v : JU} {d : Nat} (h : ∀ l, DL.Cov u d l → DL.Cov v d l) : ∀ {p : Part}, p.Cov u d → p.Cov v d
  | .row l, k => h l k
  | .blk b, k => ⟨h _ k.1, Blk.Cov.to h k.2⟩
theorem Blk.Cov.to {u v : JU} {d : Nat} (h : ∀ l, DL.Cov u d l → DL.Cov v d l) : ∀ {b : Blk}, b.Cov u d → b.Cov v d
  | .nil, _ => trivial
  | .cons p n b, k => ⟨Part.Cov.to h k.1, Blk.Cov.to h k.2⟩
end
mutual
/-- all rows that are looked at -/
def Part.rows (d : Nat) : Part → List LRow
  | .row l => [l]
  | .blk b => b.cut d :: b.rows d
def Blk.rows (d : Nat) : Blk → List LRow
  | .nil => []
  | .cons p _ b => p.rows d ++ b.rows d
end
def allsJ (d : Nat) : List LRow → JU
  | [] => ⟨[], []⟩
  | l :: ls => (allJ l d).app (allsJ d ls)
theorem allsJ_cov {d : Nat} {l : LRow} : ∀ {ls : List LRow}, l ∈ ls → (∀ x ∈ ls, x.length ≤ 50000) → Cov (allsJ d ls) d l
  | [], h, _ => nomatch h
  | m :: ls, h, k => by
    rcases List.mem_cons.mp h with rfl | h
    · exact (allJ_cov (k _ (List.mem_cons_self ..))).inl
    · exact (allsJ_cov h fun x hx => k x (List.mem_cons_of_mem _ hx)).inr
def sizeJ (d : Nat) (ls : List LRow) : Nat := (ls.map fun l => (l.length + 1) * ((l.length + 1) * ((l.length + 1) * d))).sum
theorem allsJ_len {d : Nat} : ∀ (ls : List LRow), (allsJ d ls).W.length = sizeJ d ls ∧ (allsJ d ls).U.length ≤ sizeJ d ls
  | [] => ⟨rfl, Nat.le_refl _⟩
  | l :: ls => by
    obtain ⟨h1, h2⟩ := allsJ_len (d := d) ls
    have e : sizeJ d (l :: ls) = (l.length + 1) * ((l.length + 1) * ((l.length + 1) * d)) + sizeJ d ls := rfl
    constructor
    · show ((allJ l d).W ++ (allsJ d ls).W).length = _
      rw [List.length_append, allJ_len.2, h1, e]
    · show ((allJ l d).U ++ (allsJ d ls).U).length ≤ _
      rw [List.length_append, allJ_len.1, e]
      have : 1 * ((l.length + 1) * ((l.length + 1) * d)) ≤ (l.length + 1) * ((l.length + 1) * ((l.length + 1) * d)) := Nat.mul_le_mul_right _ (by omega)
      omega
/-! ### what the defs promise -/
abbrev isBlkS : FSpec := fun ds P _ => ∃ p : Part, ds = [p.D] ∧ P (.dat (.bl p.isBlk))
def depBS (D : Nat) : FSpec := fun ds P _ => ∃ k, k < D ∧ ∃ b : Blk, ds = [.lst b.Ds] ∧ b.dep = k ∧ b.list.length ≤ 1000 ∧ b.Ok ∧ P (.dat (.int ((b.dep : Nat) : Int)))
def ctS (D : Nat) : FSpec := fun ds P _ => ∃ k, k < D ∧ ∃ b : Blk, ds = [.lst b.Ds] ∧ b.dep = k ∧ b.list.length ≤ 1000 ∧ b.Ok ∧ P (.dat .non)
abbrev cbS : FSpec := fun ds P _ => ∃ b : Blk, ds = [.lst b.Ds] ∧ b.dep ≤ 2 ∧ b.list.length ≤ 1000 ∧ b.Ok ∧ P (.dat .non)
section
variable {u : JU} {t : JTab} {st : JSt} {D d : Nat} {p : Addr} {b c : Blk} {q : Part} {P : Sl → JSt → Prop} {P' : Sl → Prop} {XP : Addr → DL.D → JSt → Prop} {XP' : Addr → DL.D → Prop} {z : Int}
theorem u_isBlk (k : P' (.dat (.bl q.isBlk))) : isBlkS [q.D] P' XP' := ⟨q, rfl, k⟩
theorem u_depB (h1 : b.dep < D) (h2 : b.list.length ≤ 1000) (h3 : b.Ok) (k : P' (.dat (.int ((b.dep : Nat) : Int)))) : depBS D [.lst b.Ds] P' XP' := ⟨_, h1, b, rfl, rfl, h2, h3, k⟩
theorem u_ct (h1 : b.dep < D) (h2 : b.list.length ≤ 1000) (h3 : b.Ok) (k : P' (.dat .non)) : ctS D [.lst b.Ds] P' XP' := ⟨_, h1, b, rfl, rfl, h2, h3, k⟩
theorem u_cb (h1 : b.dep ≤ 2) (h2 : b.list.length ≤ 1000) (h3 : b.Ok) (k : P' (.dat .non)) : cbS [.lst b.Ds] P' XP' := ⟨b, rfl, h1, h2, h3, k⟩
end
def Fit (b c : Blk) (d : Nat) : Prop := ∃ u : JU, u.U.length < 900000 ∧ u.W.length < 900000 ∧ ∀ l ∈ b.cut d :: (b.rows d ++ (c.cut d :: c.rows d)), DL.Cov u d l
theorem Fit.size {b c : Blk} {d : Nat} (hl : ∀ l ∈ b.cut d :: (b.rows d ++ (c.cut d :: c.rows d)), l.length ≤ 50000) (hs : sizeJ d (b.cut d :: (b.rows d ++ (c.cut d :: c.rows d))) < 900000) : Fit b c d :=
  have h := allsJ_len (d := d) (b.cut d :: (b.rows d ++ (c.cut d :: c.rows d)))
  ⟨_, by omega, by omega, fun l hm => allsJ_cov hm hl⟩
end DL
/-! DNl: {text: text}[k]; far rows that fit; where rows settle (plain) -/
namespace DL
open PySem PySem.Spec PyProof.Rows L2
/-- blocks whose rows are short -/
structure Bd (b : Blk) (d m r s : Nat) : Prop where
  cut : (b.cut d).length ≤ m
  num : (b.rows d).length ≤ r
  rows : ∀ l ∈ b.rows d, l.length ≤ s
/-! ### where rows settle -/
theorem dop_pow10 {c : Ct} {G : List Sl} {s : c.S} {P : Sl → c.S → Prop} {j : Int} (h0 : 0 ≤ j) (h1 : j ≤ 1000) (k : P (.dat (.int (10 ^ j.toNat))) s) : DOp c (rI CPw fun i j => .int (i ^ j.toNat)) (.int 10) (.int j) G s P := by
  refine dop_I (f := fun i j => .int (i ^ j.toNat)) ?_ (fun _ _ => .int _) k
  have := cpw (i := 10) (j := j.toNat) (k := 4) (by decide) (by omega)
  rwa [Int.toNat_of_nonneg h0] at this
end DL
/-! DNm: far rows written out to a number of times; what tells a row from a list -/
namespace DL
open PySem PySem.Spec PyProof.Rows L2
mutual
/-- written out, times to c -/
def Part.wr (c : Nat) : Part → LRow
  | .row l => l
  | .blk b => b.wr c
def Blk.wr (c : Nat) : Blk → LRow
  | .nil => []
  | .cons p n b => rep (p.wr c) (min n c) ++ b.wr c
end
mutual
theorem Part.cut_wr (d : Nat) : ∀ (p : Part), p.cut d = p.wr (2 ^ d - 1)
  | .row _ => rfl
  | .blk b => Blk.cut_wr d b
theorem Blk.cut_wr (d : Nat) : ∀ (b : Blk), b.cut d = b.wr (2 ^ d - 1)
  | .nil => rfl
  | .cons p n b => by
    show rep (p.cut d) (min n (2 ^ d - 1)) ++ b.cut d = rep (p.wr (2 ^ d - 1)) (min n (2 ^ d - 1)) ++ b.wr (2 ^ d - 1)
    rw [Part.cut_wr d p, Blk.cut_wr d b]
end
mutual
/-- rows and what is written out are short -/
def Part.Sh (c : Nat) : Part → Prop
  | .row l => l.length ≤ 1000
  | .blk b => (b.wr c).length ≤ 1000 ∧ b.Sh c
def Blk.Sh (c : Nat) : Blk → Prop
  | .nil => True
  | .cons p _ b => p.Sh c ∧ b.Sh c
end
theorem Part.Sh.len {c : Nat} : ∀ {p : Part}, p.Sh c → (p.wr c).length ≤ 1000
  | .row _, h => h
  | .blk _, h => h.1
mutual
/-- letters of A alone -/
def Part.In (A : List Nat) : Part → Prop
  | .row l => ∀ a ∈ l, a ∈ A
  | .blk b => b.In A
def Blk.In (A : List Nat) : Blk → Prop
  | .nil => True
  | .cons p _ b => p.In A ∧ b.In A
end
end DL
/-! DNn: questions to far rows -/
namespace DL
open PySem PySem.Spec PyProof.Rows L2
end DL
/-! DNo: drawn far rows of few short blocks -/
namespace DL
open PySem PySem.Spec PyProof.Rows L2
def Blk.of : List (Part × Nat) → Blk
  | [] => .nil
  | x :: L => .cons x.1 x.2 (Blk.of L)
def Row4 (A : List Nat) (l : LRow) : Prop := l.length ≤ 4 ∧ ∀ a ∈ l, a ∈ A
def Sm1 (A : List Nat) (m : Nat) (L : List (Part × Nat)) : Prop := ∀ x ∈ L, x.2 ≤ m ∧ ∃ l, x.1 = .row l ∧ Row4 A l
def Sm2 (A : List Nat) (m : Nat) (L : List (Part × Nat)) : Prop := ∀ x ∈ L, x.2 ≤ m ∧ ((∃ l, x.1 = .row l ∧ Row4 A l) ∨ ∃ c, x.1 = .blk c ∧ c.list.length ≤ 2 ∧ Sm1 A 2 c.list)
end DL
/-! DNp: drawn far rows are shown; how they fit -/
namespace DL
open PySem PySem.Spec PyProof.Rows L2
end DL
/-! DNq: far rows near one another -/
namespace DL
open PySem PySem.Spec PyProof.Rows L2
theorem Sm2.sub {A : List Nat} {m : Nat} {L M : List (Part × Nat)} (h : Sm2 A m L) (hs : ∀ x ∈ M, x ∈ L) : Sm2 A m M := fun x hx => h x (hs x hx)
theorem Sm2.app {A : List Nat} {m : Nat} {L M : List (Part × Nat)} (h : Sm2 A m L) (k : Sm2 A m M) : Sm2 A m (L ++ M) := fun x hx => (List.mem_append.mp hx).elim (h x) (k x)
mutual
theorem Part.nb : ∀ p : Part, p.D.nb = true
  | .row _ => rfl
  | .blk b => Blk.nbs b
theorem Blk.nbs : ∀ b : Blk, D.nbs b.Ds = true
  | .nil => rfl
  | .cons p n b => by
    show ((p.D.nb && (true && true)) && D.nbs b.Ds) = true
    rw [Part.nb p, Blk.nbs b]
    rfl
end
end DL
/-! DNr: a shorter list of all parts of a row; far rows that fit by it -/
namespace DL
open PySem PySem.Spec PyProof.Rows L2
def preS : LRow → List LRow
  | [] => [[]]
  | a :: l => [] :: (preS l).map (a :: ·)
def pre2 : LRow → List (LRow × LRow)
  | [] => [([], [])]
  | a :: l => (preS (a :: l)).map (fun y => ([], y)) ++ (pre2 l).map fun e => (a :: e.1, e.2)
end DL
/-! DNs: one far row told in other ways (plain) -/
namespace DL
open PySem PySem.Spec PyProof.Rows L2
def w0 (l m : LRow) (o : Nat) : Blk := .cons (.row l) o (.cons (.row m) 2 .nil)
end DL
/-! DNt: few blocks, written out, their times raised; where rows settle, by more than one depth; questions that count -/
namespace DL
open PySem PySem.Spec PyProof.Rows L2
/-! ### few blocks -/
/-! ### what the defs promise -/
/-! ### times raised -/
mutual
inductive PRs : Part → Part → Prop
  | row (l : LRow) : PRs (.row l) (.row l)
  | blk {b c : Blk} : BRs b c → PRs (.blk b) (.blk c)
inductive BRs : Blk → Blk → Prop
  | nil : BRs .nil .nil
  | cons {p q : Part} {n m : Nat} {b c : Blk} : PRs p q → (n = m ∨ 3 ≤ n ∧ 3 ≤ m) → BRs b c → BRs (.cons p n b) (.cons q m c)
end
theorem BRs.snoc {x y : Part × Nat} (h1 : PRs x.1 y.1) (h2 : x.2 = y.2 ∨ 3 ≤ x.2 ∧ 3 ≤ y.2) : ∀ {L M : List (Part × Nat)}, BRs (Blk.of L) (Blk.of M) → BRs (Blk.of (L ++ [x])) (Blk.of (M ++ [y]))
  | [], [], _ => .cons h1 h2 .nil
  | [], b :: M, h => nomatch h
  | a :: L, [], h => nomatch h
  | a :: L, b :: M, .cons k1 k2 k3 => .cons k1 k2 (BRs.snoc h1 h2 k3)
mutual
theorem PRs.wr {c : Nat} (hc : c ≤ 3) : ∀ {p q : Part}, PRs p q → p.wr c = q.wr c
  | .row l, _, .row _ => rfl
  | .blk b, _, .blk h => BRs.wr hc h
theorem BRs.wr {c : Nat} (hc : c ≤ 3) : ∀ {p q : Blk}, BRs p q → p.wr c = q.wr c
  | .nil, _, .nil => rfl
  | .cons p n b, _, .cons (q := q) (m := m) (c := b') h1 h2 h3 => by
    show rep (p.wr c) (min n c) ++ b.wr c = rep (q.wr c) (min m c) ++ b'.wr c
    rw [PRs.wr hc h1, BRs.wr hc h3, show min n c = min m c by omega]
end
theorem pow3 {d : Nat} (hd : d ≤ 2) : 2 ^ d - 1 ≤ 3 := by
  have : 2 ^ d ≤ 4 := Nat.pow_le_pow_right (n := 2) (j := 2) (by decide) hd
  omega
theorem BRs.cut {d : Nat} (hd : d ≤ 2) {p q : Blk} (h : BRs p q) : p.cut d = q.cut d := by
  rw [Blk.cut_wr, Blk.cut_wr]
  exact BRs.wr (pow3 hd) h
mutual
theorem PRs.rows {d : Nat} (hd : d ≤ 2) : ∀ {p q : Part}, PRs p q → p.rows d = q.rows d
  | .row l, _, .row _ => rfl
  | .blk b, _, .blk (c := c) h => by
    show b.cut d :: b.rows d = c.cut d :: c.rows d
    rw [BRs.cut hd h, BRs.rows hd h]
theorem BRs.rows {d : Nat} (hd : d ≤ 2) : ∀ {p q : Blk}, BRs p q → p.rows d = q.rows d
  | .nil, _, .nil => rfl
  | .cons p n b, _, .cons (q := q) (c := c) h1 h2 h3 => by
    show p.rows d ++ b.rows d = q.rows d ++ c.rows d
    rw [PRs.rows hd h1, BRs.rows hd h3]
end
mutual
theorem PRs.dep : ∀ {p q : Part}, PRs p q → p.dep = q.dep
  | .row l, _, .row _ => rfl
  | .blk b, _, .blk h => BRs.dep h
theorem BRs.dep : ∀ {p q : Blk}, BRs p q → p.dep = q.dep
  | .nil, _, .nil => rfl
  | .cons p n b, _, .cons (q := q) (c := c) h1 h2 h3 => by
    show max (1 + p.dep) b.dep = max (1 + q.dep) c.dep
    rw [PRs.dep h1, BRs.dep h3]
end
theorem BRs.len : ∀ {p q : Blk}, BRs p q → p.list.length = q.list.length
  | .nil, _, .nil => rfl
  | .cons p n b, _, .cons (q := q) (c := c) h1 h2 h3 => congrArg (· + 1) (BRs.len h3)
mutual
theorem PRs.ok : ∀ {p q : Part}, PRs p q → p.Ok → q.Ok
  | .row l, _, .row _, h => h
  | .blk b, _, .blk (c := c) h, k => ⟨by rw [← BRs.len h]; exact k.1, BRs.ok h k.2⟩
theorem BRs.ok : ∀ {p q : Blk}, BRs p q → p.Ok → q.Ok
  | .nil, _, .nil, h => h
  | .cons p n b, _, .cons h1 h2 h3, k => ⟨PRs.ok h1 k.1, BRs.ok h3 k.2⟩
end
theorem PRs.isBlk : ∀ {p q : Part}, PRs p q → p.isBlk = q.isBlk
  | .row l, _, .row _ => rfl
  | .blk b, _, .blk h => rfl
theorem BRs.isBlk : ∀ {p q : Blk}, BRs p q → (p.list.any fun x => x.1.isBlk) = q.list.any fun x => x.1.isBlk
  | .nil, _, .nil => rfl
  | .cons p n b, _, .cons (q := q) (c := c) h1 h2 h3 => by
    show (p.isBlk || b.list.any fun x => x.1.isBlk) = (q.isBlk || c.list.any fun x => x.1.isBlk)
    rw [PRs.isBlk h1, BRs.isBlk h3]
theorem BRs.alike {d : Nat} (hd : d ≤ 2) {p q : Blk} (h : BRs p q) : Alike d p.out q.out := (Blk.alike_cut d p).trans (by rw [h.cut hd]; exact (Blk.alike_cut d q).symm)
theorem BRs.bd {d m r s : Nat} (hd : d ≤ 2) {p q : Blk} (h : BRs p q) (k : Bd p d m r s) : Bd q d m r s := ⟨by rw [← h.cut hd]; exact k.cut, by rw [← h.rows hd]; exact k.num, by rw [← h.rows hd]; exact k.rows⟩
/-! ### where rows settle -/
/-! ### so many letters at least -/
/-! ### a letter more -/
def Blk.put : Blk → Blk
  | .nil => .cons (.row [99]) 1 .nil
  | .cons p n b => .cons p n b.put
end DL
/-! DNu: what the defs promise that raise -/
namespace DL
open PySem PySem.Spec PyProof.Rows L2
def Qn.isSome : Qn → Bool
  | .some _ _ _ => true
  | _ => false
end DL
/-! DNv: defs that raise at some of what they are given -/
namespace DL
open PySem PySem.Spec PyProof.Rows L2
abbrev orS (A B : FSpec) : FSpec := fun ds P XP => A ds P XP ∨ B ds P XP
theorem fnok_or {P : Program} {w : World} {K : PySem.W.Frag} {mg : Str → Option Value} {base : Heap} {i j k : Nat} {f : Addr} {fd : FuncData} {ps : List Str} {A B : FSpec} (h1 : FnOk P w K mg base (L2.CX P w) i f fd ps (PureSp K A)) (h2 : FnOk P w K mg base CX0 j f fd ps (PureSp K B)) (hi : i ≤ k) (hj : j ≤ k) :
    FnOk P w K mg base (L2.CX P w) k f fd ps (PureSp K (orS A B)) := by
  have sp : ∀ {vs H Q E}, PureSp K (orS A B) vs H Q E → PureSp K A vs H Q E ∨ PureSp K B vs H Q E := fun {vs H Q E} h => by
    obtain ⟨ds, P', XP, hf, rest⟩ := h
    rcases hf with hf | hf
    · exact .inl ⟨ds, P', XP, hf, rest⟩
    · exact .inr ⟨ds, P', XP, hf, rest⟩
  refine ⟨fun vs H Q E h => (sp h).elim (h1.len vs H Q E) (h2.len vs H Q E), fun A' outer s H args us vs Q E hr e0 hb r h => ?_⟩
  rcases sp h with h | h
  · exact (h1.mono hi).run A' outer s H args us vs Q E hr e0 hb r h
  · refine codeAny_mono ((h2.mono hj).run A' outer s H args us vs Q E hr e0 hb r h) fun res s' hq => ?_
    match res, hq with
    | .ok (.ret u), hq => exact hq
    | .ok .next, hq => exact hq
    | .ok .brk, hq => exact hq
    | .ok .cont, hq => exact hq
    | .error e, hq => exact False.elim hq
/-- the first sign that is none of these -/
def FirstBad (l m : LRow) (i : Nat) : Prop := (∃ a, l[i]? = some a ∧ a ∉ m) ∧ ∀ j a, j < i → l[j]? = some a → a ∈ m
abbrev check_lettersXS (C : Addr) : FSpec := fun ds _ XP => ∃ (l m : LRow) (i : Nat), ds = [.str (rowS l), .str (rowS m)] ∧ FirstBad l m i ∧ XP C (.int ((i : Nat) : Int))
abbrev check_rowXS (C : Addr) : FSpec := fun ds _ XP => ∃ (l : LRow) (i : Nat), ds = [.str (rowS l)] ∧ FirstBad l LET i ∧ XP C (.int ((i : Nat) : Int))
abbrev check_depthXS (C : Addr) : FSpec := fun ds _ XP => ∃ (z : Int), ds = [.int z] ∧ z < 0 ∧ XP C (.int z)
abbrev settledXS (CN CR : Addr) : FSpec := fun ds _ XP => ∃ (l : LRow) (z : Int), ds = [.str (rowS l), .int z] ∧ ((∃ i, FirstBad l LET i ∧ XP CR (.int ((i : Nat) : Int))) ∨ (Letters l ∧ z < 0 ∧ XP CN (.int z)))
/-! ### what the end shows of the classes of errors -/
theorem val_ne {C D : Addr} (ne : (C == D) = false) : (Value.ref C == Value.ref D) = false := by
  have h : C ≠ D := fun z => by rw [z] at ne; simp at ne
  exact beq_eq_false_iff_ne.mpr fun z => h (by injection z)
theorem super_mk {K : PySem.W.Frag} {C D : Addr} {nm q : Str} {N : Addr} {bs : List Value} {sn : List Str} {sub : List Value} {ab : Bool} {col : Option Bool} {dd : Option Addr} {m0 m1 m2 m3 m5 : Option Value}
    (hl : K.lookup C = some (excClassObj nm q C N bs [.ref D, .type "ValueError", .type "Exception", .type "BaseException", .type "object"] true sn sub ab col dd m0 m1 m2 m3 m5 "ValueError.__new__")) (ne : (C == D) = false) :
    PySem.W.ks_superIn K C D "__init__" = some (some (.builtin "ValueError.__init__")) := by
  have hcl : ∃ cd, PySem.W.clsIn K C = some cd ∧ cd.mro = .ref C :: [.ref D, .type "ValueError", .type "Exception", .type "BaseException", .type "object"] := by
    unfold PySem.W.clsIn
    rw [hl]
    exact ⟨_, rfl, rfl⟩
  obtain ⟨cd, h1, h2⟩ := hcl
  unfold PySem.W.ks_superIn
  rw [h1]
  show PySem.W.alongIn K "__init__" ((cd.mro.dropWhile (· != .ref D)).drop 1) = _
  rw [h2, List.dropWhile_cons_of_pos (by show (!(Value.ref C == Value.ref D)) = true; rw [val_ne ne]; rfl), List.dropWhile_cons_of_neg (by show ¬ (!(Value.ref D == Value.ref D)) = true; rw [beq_self_eq_true]; simp)]
  rfl
theorem exm_mk {K : PySem.W.Frag} {C D : Addr} (h1 : PySem.W.subIn K (.ref D) (.type "BaseException") = some true) (h2 : PySem.W.isClsIn K D = true) (h3 : PySem.W.typeIn K (.ref D) = some (.type "type")) {b : Bool} (h4 : PySem.W.subIn K (.ref C) (.ref D) = some b) : PySem.W.exmOne K (.ref C) (.ref D) = some b := by
  have e2 : ((PySem.W.clsIn K D).isSome && PySem.W.typeIn K (.ref D) == some (.type "type")) = true := by
    have h2' : (PySem.W.clsIn K D).isSome = true := h2
    rw [h2', h3]
    rfl
  unfold PySem.W.exmOne PySem.W.kitCls
  rw [h1, if_pos (by rfl)]
  show (if _ then _ else _) = _
  rw [if_pos e2]
  exact h4
theorem kit_self {K : PySem.W.Frag} {C : Addr} : PySem.W.kitOne K (.ref C) (.ref C) = some true := by
  unfold PySem.W.kitOne
  rw [if_pos (beq_self_eq_true _)]
theorem kit_other {K : PySem.W.Frag} {C D : Addr} (ne : (C == D) = false) (h2 : PySem.W.isClsIn K D = true) (h3 : PySem.W.typeIn K (.ref D) = some (.type "type")) {b : Bool} (h4 : PySem.W.subIn K (.ref C) (.ref D) = some b) : PySem.W.kitOne K (.ref C) (.ref D) = some b := by
  have e2 : ((PySem.W.clsIn K D).isSome && PySem.W.typeIn K (.ref D) == some (.type "type")) = true := by
    have h2' : (PySem.W.clsIn K D).isSome = true := h2
    rw [h2', h3]
    rfl
  unfold PySem.W.kitOne PySem.W.kitCls
  rw [if_neg (by rw [val_ne ne]; simp)]
  show (if _ then _ else _) = _
  rw [if_pos e2]
  exact h4
theorem kit_ve {K : PySem.W.Frag} {C : Addr} (h : PySem.W.subIn K (.ref C) (.type "ValueError") = some true) : PySem.W.kitOne K (.ref C) (.type "ValueError") = some true := by
  unfold PySem.W.kitOne PySem.W.kitCls
  rw [if_neg (by rw [show (Value.ref C == Value.type "ValueError") = false from rfl]; simp)]
  show (if _ then _ else _) = _
  rw [if_pos (by rfl)]
  exact h
theorem kit_any {K : PySem.W.Frag} {t : Value} : ∀ {cs : List Value}, (∀ c ∈ cs, PySem.W.kitOne K t c = some false) → PySem.W.kitAny K t cs = some false
  | [], _ => rfl
  | c :: cs, h => by
    show (match PySem.W.kitOne K t c with
      | some true => some true
      | some false => PySem.W.kitAny K t cs
      | none => none) = _
    rw [h c (List.mem_cons_self ..)]
    exact kit_any fun d hd => h d (List.mem_cons_of_mem _ hd)
abbrev caughtRS : FSpec := fun ds P _ => ∃ (l : LRow) (z : Int) (nm : Bool), ds = [.str (rowS l), .int z, .bl nm] ∧ l.length ≤ 6 ∧ z ≤ 3 ∧ (0 ≤ z → l.length * 2 ^ z.toNat ≤ 48) ∧
  (∀ i, FirstBad l LET i → P (.own (.lst [.str "r", .int ((i : Nat) : Int)]))) ∧ (Letters l → z < 0 → P (.own (.lst [.str "n", .int z]))) ∧ (Letters l → 0 ≤ z → P (.own (.lst [])))
theorem first_bad (l m : LRow) : (∃ i, FirstBad l m i) ∨ ∀ a ∈ l, a ∈ m := by
  classical
  by_cases h : ∃ i : Nat, ∃ a : Nat, l[i]? = some a ∧ a ∉ m
  · obtain ⟨n, hn⟩ := h
    obtain ⟨k, _, h2, h3⟩ := least_nat (p := fun (i : Nat) => ∃ a : Nat, l[i]? = some a ∧ a ∉ m) hn
    refine .inl ⟨k, h2, fun j a hj ha => ?_⟩
    by_cases z : a ∈ m
    · exact z
    · exact absurd ⟨a, ha, z⟩ (h3 j hj)
  · refine .inr fun a ha => ?_
    obtain ⟨i, hi, e⟩ := List.getElem_of_mem ha
    by_cases z : a ∈ m
    · exact z
    · exact absurd ⟨i, a, by rw [List.getElem?_eq_getElem hi, e], z⟩ h
theorem FirstBad.not {l m : LRow} {i : Nat} (h : FirstBad l m i) : ¬ ∀ a ∈ l, a ∈ m := fun z => by
  obtain ⟨⟨a, h1, h2⟩, _⟩ := h
  exact h2 (z a (List.mem_of_getElem? h1))
section
variable {c : Ct} {G : List Sl} {s : c.S} {P : Sl → c.S → Prop} {a C C2 : Addr} {d : Option Addr} {dat : D} {b : Bool}
/-- isinstance(e, C2) of the error that is held -/
theorem db_isX (kn : Knows c d dat) (ec : ExcC c.K C) (e : PySem.W.kitOne c.K (.ref C) (.ref C2) = some b) (h : P (.dat (.bl b)) s) : DCB c (rIsX c.K a (.ref C) d) [.ref a, .ref C2] G s P := fun σ F H0 H vs gd r Q q => by
  cases r with
  | cons r1 r =>
  cases r with
  | cons r2 r =>
  cases r
  cases r1
  cases r2
  obtain ⟨dd, v', rfl, hd, _⟩ := kn _ _ _ gd.gd.rs
  exact ⟨C, dd, _, .ref C2, .ref C2, b, rfl, rfl, rfl, gd.gd.sub _ _ hd, ec, .own C2, e, q _ s _ _ _ h gd (Same.refl _) (.bl b)⟩
end
theorem u_caughtR {l : LRow} {z : Int} {nm : Bool} {P : Sl → Prop} {XP : Addr → DL.D → Prop} (hl : l.length ≤ 6) (hz : z ≤ 3) (h2 : 0 ≤ z → l.length * 2 ^ z.toNat ≤ 48)
    (k : (∀ i, FirstBad l LET i → P (.own (.lst [.str "r", .int ((i : Nat) : Int)]))) ∧ (Letters l → z < 0 → P (.own (.lst [.str "n", .int z]))) ∧ (Letters l → 0 ≤ z → P (.own (.lst [])))) : caughtRS [.str (rowS l), .int z, .bl nm] P XP := ⟨l, z, nm, rfl, hl, hz, h2, k.1, k.2.1, k.2.2⟩
theorem lt_sign (a b : Nat) : decide ((rowS [a]).cps.toList < (rowS [b]).cps.toList) = decide (a < b) := by
  refine decide_eq_decide.mpr ?_
  show [a] < [b] ↔ a < b
  constructor
  · intro h
    cases h with
    | rel h => exact h
    | cons h => cases h
  · exact fun h => .rel h
theorem mem_LET (a : Nat) : a ∈ LET ↔ 97 ≤ a ∧ a ≤ 122 := by
  constructor
  · have : ∀ a ∈ LET, 97 ≤ a ∧ a ≤ 122 := by decide +kernel
    exact this a
  · rintro ⟨h1, h2⟩
    have : ∀ k, k < 26 → 97 + k ∈ LET := by decide +kernel
    have := this (a - 97) (by omega)
    rwa [show 97 + (a - 97) = a by omega] at this
/-- the places of signs that are no letters -/
def badL (l : LRow) : List Nat := (l.zipIdx).filterMap fun x => if x.1 ∈ LET then none else some x.2
theorem badL_nil {l : LRow} : badL l = [] ↔ ∀ a ∈ l, a ∈ LET := by
  unfold badL
  rw [List.filterMap_eq_nil_iff]
  constructor
  · intro h a ha
    obtain ⟨i, hi, e⟩ := List.getElem_of_mem ha
    have := h (a, i) (List.mem_zipIdx_iff_getElem?.mpr (by show l[i]? = some a; rw [List.getElem?_eq_getElem hi, e]))
    by_cases z : a ∈ LET
    · exact z
    · rw [if_neg z] at this
      cases this
  · rintro h ⟨a, i⟩ hx
    exact if_pos (h a (List.mem_of_getElem? (List.mem_zipIdx_iff_getElem?.mp hx)))
theorem badL_first {l : LRow} {i : Nat} (h : FirstBad l LET i) : (badL l)[0]? = some i := by
  have hcon : ∀ (l : LRow) (n i : Nat), FirstBad l LET i → ((l.zipIdx n).filterMap fun x => if x.1 ∈ LET then none else some x.2)[0]? = some (n + i) := by
    intro l
    induction l with
    | nil =>
      intro n i h
      obtain ⟨⟨a, h1, _⟩, _⟩ := h
      simp at h1
    | cons b l ih =>
      intro n i h
      rw [List.zipIdx_cons]
      cases i with
      | zero =>
        obtain ⟨⟨a, h1, h2⟩, _⟩ := h
        have : b = a := by simpa using h1
        subst this
        rw [List.filterMap_cons_some (f := fun (x : Nat × Nat) => if x.1 ∈ LET then none else some x.2) (a := (b, n)) (b := n) (if_neg h2)]
        rfl
      | succ i =>
        have hb : b ∈ LET := h.2 0 b (by omega) rfl
        rw [List.filterMap_cons_none (f := fun (x : Nat × Nat) => if x.1 ∈ LET then none else some x.2) (a := (b, n)) (if_pos hb), ih (n + 1) i ⟨by
          obtain ⟨⟨a, h1, h2⟩, _⟩ := h
          exact ⟨a, by simpa using h1, h2⟩, fun j a hj ha => h.2 (j + 1) a (by omega) (by simpa using ha)⟩]
        congr 1
        omega
  have := hcon l 0 i h
  rwa [Nat.zero_add] at this
theorem badL_D (l : LRow) : (l.zipIdx).filterMap (fun x => if x.1 ∈ LET then none else some (DL.D.int ((x.2 : Nat) : Int))) = (badL l).map fun (i : Nat) => DL.D.int ((i : Nat) : Int) := by
  unfold badL
  rw [List.map_filterMap]
  congr 1
  funext x
  split <;> rfl
theorem sign_in (a : Nat) : (if (!decide ((rowS [a]).cps.toList < (rowS [97]).cps.toList)) = true then !decide ((rowS [122]).cps.toList < (rowS [a]).cps.toList) else false) = decide (a ∈ LET) := by
  rw [lt_sign, lt_sign, decide_eq_decide.mpr (mem_LET a)]
  by_cases h0 : 97 ≤ a ∧ a ≤ 122
  · rw [decide_eq_true h0, decide_eq_false (show ¬ a < 97 by omega), decide_eq_false (show ¬ 122 < a by omega)]
    rfl
  rw [decide_eq_false h0]
  by_cases h1 : a < 97
  · rw [decide_eq_true h1]
    rfl
  · rw [decide_eq_false h1, decide_eq_true (show 122 < a by omega)]
    rfl
theorem FirstBad.one {l : LRow} {i j : Nat} (h : FirstBad l LET i) (h' : FirstBad l LET j) : j = i := by
  have h1 := badL_first h
  have h2 := badL_first h'
  rw [h1] at h2
  exact (Option.some.inj h2).symm
theorem fine_tag {a : Nat} {z : Int} (ha : a < 0x110000) (hz : z.natAbs < 1000000) : Fine 1 150 (.lst [.str (rowS [a]), .int z]) := by
  refine (Fine.lst (n := 0) (FineL.all (w := 66) ?_)).mono (by decide) (show 2 * (66 + 2) + 2 ≤ 150 by decide)
  intro x hx
  simp only [List.mem_cons, List.not_mem_nil, or_false] at hx
  rcases hx with rfl | rfl
  · exact (Fine.row (l := [a]) fun b hb => by rw [List.mem_singleton.mp hb]; exact ha).mono (Nat.le_refl _) (show 10 * 1 + 2 ≤ 66 by decide)
  · exact Fine.int64 (by omega)
theorem fine_nil : Fine 1 150 (.lst []) := (Fine.lst (n := 0) .nil).mono (by decide) (by decide)
end DL
set_option maxHeartbeats 1000000
namespace My
open PySem PySem.Spec PyProof.Rows L2 DL
def topS (i : Nat) : Stmt := PySem.Challenge.pw_pickdepths_k28_errors_of_settled.main.body.getD i (.Pass ⟨0, 0, 0, 0⟩)
structure Txt (K : PySem.W.Frag) (mg : Str → Option Value) : Prop where
  n_ValueError : mg "ValueError" = none
  n_abs : mg "abs" = none
  n_enumerate : mg "enumerate" = none
  n_int : mg "int" = none
  n_isinstance : mg "isinstance" = none
  n_len : mg "len" = none
  n_max : mg "max" = none
  n_min : mg "min" = none
  n_range : mg "range" = none
  n_repr : mg "repr" = none
  n_sorted : mg "sorted" = none
  n_super : mg "super" = none
  n_tuple : mg "tuple" = none
  g_LETTERS : ∃ t, mg "LETTERS" = some (.str "abcdefghijklmnopqrstuvwxyz" t)
local macro_rules | `(tactic| walk_at "dl") => `(tactic| first
  | with_reducible refine fz_dat ?_
  | with_reducible refine fz_own ?_
  | ((with_reducible apply we_var); focus rfl)
  | with_reducible refine we_int ?_
  | with_reducible refine we_str ?_
  | with_reducible refine we_bl ?_
  | with_reducible refine we_non ?_
  | with_reducible refine wa_nil ?_
  | with_reducible refine wa_cons ?_
  | with_reducible refine wao_nil ?_
  | with_reducible refine wao_cons ?_
  | with_reducible refine wt_yes ?_
  | with_reducible refine wt_test ?_
  | with_reducible refine wt_B ?_
  | with_reducible refine wt_not ?_
  | with_reducible refine wt_and ?_
  | with_reducible refine wt_or ?_
  | with_reducible refine ws_seq ?_
  | with_reducible refine ws_next ?_
  | with_reducible refine ws_cnt ?_
  | with_reducible refine ws_brk ?_
  | with_reducible refine ws_if ?_
  | with_reducible refine ws_retN ?_
  | with_reducible refine ws_ret ?_
  | with_reducible refine ws_asg ?_
  | with_reducible refine ws_drop ?_
  | with_reducible refine we_op ?_
  | with_reducible refine we_un ?_
  | with_reducible refine we_chain ?_
  | with_reducible refine we_cb ?_
  | with_reducible refine we_tup ?_
  | with_reducible refine we_lst ?_
  | with_reducible refine we_if ?_
  | with_reducible refine we_andV ?_
  | with_reducible refine we_orV ?_
  | with_reducible refine we_notV ?_
  | with_reducible refine we_sl ?_
  | with_reducible refine wo_none ?_
  | with_reducible refine wo_some ?_
  | with_reducible refine we_join ?_
  | with_reducible refine da_int ?_
  | with_reducible refine dop_sub ?_
  | with_reducible refine dlt_int ?_
  | with_reducible refine dle_int ?_
  | with_reducible refine dop_gt ?_
  | with_reducible refine dop_ge ?_
  | with_reducible refine dl_lst ?_
  | with_reducible refine dl_tup ?_
  | with_reducible refine db_max ?_
  | with_reducible refine db_min ?_
  | with_reducible refine db_abs ?_
  | with_reducible refine db_intI ?_
  | with_reducible refine db_intB ?_
  | ((with_reducible apply de_sc); focus rfl)
  | ((with_reducible apply dn_sc); focus rfl)
  | with_reducible refine we_draw ?_
  | ((with_reducible apply di_tup); focus rfl)
  | ((with_reducible apply di_lst); focus rfl)
  | with_reducible refine dl_row (by omega) ?_
  | with_reducible refine ds_lst ?_
  | with_reducible refine ds_tup ?_
  | refine ⟨_, rfl, ?_⟩)
local macro_rules | `(tactic| walk_at "dls") => `(tactic| repeat (walk_at "dl"))
local macro_rules | `(tactic| walk_at "e") => `(tactic| repeat (first
  | ((with_reducible refine tgWE ?_); first
      | ((with_reducible apply tgSetE); (focus (simp only [List.set_cons_succ, List.set_cons_zero]; rfl)))
      | ((with_reducible apply we_callX); (focus (first | exact poolC _ _ _ _ _ _ _ | exact resC | exact onP | exact onB | exact onU onP | exact onU resC | exact onU (poolC _ _ _ _ _ _ _) | exact onU onB | exact onU (onU onP) | exact onU (onU (poolC _ _ _ _ _ _ _)))))
      | ((with_reducible refine tgNew ?_); refine we_dnewN ?_)
      | ((with_reducible apply we_methV); (focus (first | exact onK | exact onK0)); exact rfl; exact rfl)
      | with_reducible refine we_callF ?_
      | with_reducible refine we_callNF ?_
      | ((with_reducible apply we_callR); (focus (first | exact poolC _ _ _ _ _ _ _ | exact resC | exact onP | exact onB | exact onU onP | exact onU resC | exact onU (poolC _ _ _ _ _ _ _) | exact onU onB | exact onU (onU onP) | exact onU (onU (poolC _ _ _ _ _ _ _)))))
      | ((with_reducible apply we_methA); (focus (first | exact ac0 | exact onA)); (focus decide); (focus decide); (focus decide))
      | ((with_reducible apply we_fldAn); (focus (first | exact ac0 | exact onA)); assumption)
      | ((with_reducible apply we_fldAk); (focus (first | exact ac0 | exact onA)); assumption)
      | ((with_reducible apply we_fldAl); (focus (first | exact ac0 | exact onA)); assumption)
      | ((with_reducible apply we_dtnin); (focus (first | exact jc0.part subJj | exact onR.part subJj)))
      | ((with_reducible apply we_dtget); (focus (first | exact jc0.part subJj | exact onR.part subJj)))
      | ((with_reducible apply we_dinin); (focus (first | exact jc0.part subJl | exact onR.part subJl)))
      | ((with_reducible apply we_diget); (focus (first | exact jc0.part subJl | exact onR.part subJl)))
      | ((with_reducible apply we_methJ); (focus (first | exact jc0 | exact onR)); (focus decide); (focus decide); (focus decide); (focus decide))
      | ((with_reducible apply we_fldJt); (focus (first | exact jc0 | exact onR)); assumption)
      | ((with_reducible apply we_fldJs); (focus (first | exact jc0 | exact onR)); assumption)
      | ((with_reducible apply we_fldJl); (focus (first | exact jc0 | exact onR)); assumption)
      | ((with_reducible apply we_fldJj); (focus (first | exact jc0 | exact onR)); assumption)
      | ((with_reducible apply we_reprOwn2); exact rfl)
      | with_reducible refine we_maxDf ?_
      | ((with_reducible apply we_ktup); assumption)
      | with_reducible refine we_ref ?_
      | ((with_reducible apply we_callK); (focus (first | exact onK | exact onK0)))
      | with_reducible refine we_scount ?_
      | with_reducible refine we_sstarts ?_
      | with_reducible refine we_sends ?_
      | ((with_reducible apply we_revR); (focus (exact rfl)); (focus (first | assumption | omega | decide | (simp; done) | (simp; omega))))
      | with_reducible refine we_isi ?_
      | ((with_reducible apply we_var); focus rfl)
      | with_reducible refine we_int ?_
      | with_reducible refine we_str ?_
      | with_reducible refine we_bl ?_
      | with_reducible refine we_non ?_
      | with_reducible refine we_op ?_
      | with_reducible refine we_un ?_
      | with_reducible refine we_chain ?_
      | with_reducible refine we_cb ?_
      | with_reducible refine we_tup ?_
      | with_reducible refine we_lst ?_
      | with_reducible refine we_if ?_
      | with_reducible refine we_andV ?_
      | with_reducible refine we_orV ?_
      | with_reducible refine we_notV ?_
      | with_reducible refine we_sl ?_
      | with_reducible refine we_join ?_
      | with_reducible refine we_draw ?_)
  | ((with_reducible refine tgFZ ?_); first
      | with_reducible refine fz_dat ?_
      | with_reducible refine fz_own ?_)
  | ((with_reducible refine tgWA ?_); first
      | with_reducible refine wa_star ?_
      | with_reducible refine wa_nil ?_
      | with_reducible refine wa_cons ?_)
  | ((with_reducible refine tgWT ?_); first
      | ((with_reducible apply tgSetT); (focus (simp only [List.set_cons_succ, List.set_cons_zero]; rfl)))
      | with_reducible refine wt_yes ?_
      | with_reducible refine wt_test ?_
      | with_reducible refine wt_B ?_
      | with_reducible refine wt_not ?_
      | with_reducible refine wt_and ?_
      | with_reducible refine wt_or ?_)
  | ((with_reducible refine tgWAO ?_); first
      | with_reducible refine wao_nil ?_
      | with_reducible refine wao_cons ?_)
  | ((with_reducible refine tgDO ?_); first
      | ((with_reducible refine dop_shl1 ?_ ?_ ?_); (focus omega); (focus omega))
      | with_reducible refine deq_row ?_
      | ((with_reducible apply deq_enc); (focus (first | exact encNat | exact encP2 | exact encInt)))
      | ((with_reducible apply dne_enc); (focus (first | exact encNat | exact encP2 | exact encInt)))
      | ((with_reducible apply deq_encN); (focus (first | exact encNat | exact encP2 | exact encInt)))
      | ((with_reducible apply dne_encN); (focus (first | exact encNat | exact encP2 | exact encInt)))
      | ((with_reducible refine da_map ?_ ?_); (focus (first | assumption | omega | decide | (simp; done) | (simp; omega))))
      | ((with_reducible refine da_snoc2 ?_ ?_); (focus omega))
      | with_reducible refine dne_row ?_
      | ((with_reducible refine dop_fdivN ?_ ?_ ?_); (focus omega); (focus omega))
      | ((with_reducible apply di_names); assumption; (focus omega); (focus omega))
      | ((with_reducible apply di_qn); exact rfl)
      | ((with_reducible apply dnin_tab); assumption; (focus (first | exact .head _ | exact .tail _ (.head _) | exact .tail _ (.tail _ (.head _)) | exact .tail _ (.tail _ (.tail _ (.head _))))))
      | ((with_reducible apply di_tab); assumption; (focus (first | exact .head _ | exact .tail _ (.head _) | exact .tail _ (.tail _ (.head _)) | exact .tail _ (.tail _ (.tail _ (.head _))))))
      | ((with_reducible refine dop_pow2 ?_ ?_ ?_); (focus omega); (focus omega))
      | ((with_reducible refine dop_pow10 ?_ ?_ ?_); (focus omega); (focus omega))
      | with_reducible refine dis_opt ?_
      | with_reducible refine dnis_bl ?_
      | with_reducible refine dis_qn ?_
      | with_reducible refine dnis_qn ?_
      | with_reducible refine dis_non0 ?_
      | with_reducible refine dnis_non0 ?_
      | with_reducible refine dnis_opt ?_
      | with_reducible refine dle_opt ?_
      | ((with_reducible refine deq_qn ?_ ?_ ?_ ?_ ?_); (focus (first | assumption | omega | decide | (simp; done) | (simp; omega))); (focus (first | assumption | omega | decide | (simp; done) | (simp; omega))); (focus (first | assumption | omega | decide | (simp; done) | (simp; omega))); (focus (first | assumption | omega | decide | (simp; done) | (simp; omega))))
      | ((with_reducible refine dne_qn ?_ ?_ ?_ ?_ ?_); (focus (first | assumption | omega | decide | (simp; done) | (simp; omega))); (focus (first | assumption | omega | decide | (simp; done) | (simp; omega))); (focus (first | assumption | omega | decide | (simp; done) | (simp; omega))); (focus (first | assumption | omega | decide | (simp; done) | (simp; omega))))
      | with_reducible refine din_row2 ?_
      | ((with_reducible refine dm_row ?_ ?_ ?_ ?_); (focus (first | assumption | omega | decide | (simp; done) | (simp; omega))); (focus (first | assumption | omega | decide | (simp; done) | (simp; omega))); (focus (first | assumption | omega | decide | (simp; done) | (simp; omega))))
      | with_reducible refine deq_opt ?_
      | with_reducible refine dne_opt ?_
      | ((with_reducible refine deq_qn0 ?_ ?_ ?_); assumption; (focus omega))
      | with_reducible refine da_int ?_
      | with_reducible refine dop_sub ?_
      | with_reducible refine dlt_int ?_
      | with_reducible refine dle_int ?_
      | with_reducible refine dop_gt ?_
      | with_reducible refine dop_ge ?_
      | ((with_reducible apply de_sc); focus rfl)
      | ((with_reducible apply dn_sc); focus rfl)
      | ((with_reducible apply di_tup); focus rfl)
      | ((with_reducible apply di_lst); focus rfl))
  | ((with_reducible refine tgDC ?_); first
      | ((with_reducible refine dl_row ?_ ?_); (focus (first | omega | (simp; done))))
      | with_reducible refine dl_map ?_
      | ((with_reducible apply dl_names); assumption)
      | with_reducible refine db_repr2 ?_
      | ((with_reducible refine db_reprN2 ?_ ?_ ?_); (focus (first | assumption | omega | decide | (simp; done) | (simp; omega))); (focus (first | assumption | omega | decide | (simp; done) | (simp; omega))))
      | ((with_reducible refine db_sortN ?_ ?_); (focus (first | assumption | omega | decide | (simp; done) | (simp; omega))))
      | ((with_reducible refine db_sortP ?_ ?_); (focus (first | assumption | omega | decide | (simp; done) | (simp; omega))))
      | ((with_reducible apply dl_qn); exact rfl)
      | with_reducible refine db_all ?_
      | ((with_reducible apply db_isX); (focus (exact knows_exc)); (focus assumption); (focus assumption))
      | with_reducible refine db_anyB ?_
      | with_reducible refine db_listT ?_
      | with_reducible refine db_listL ?_
      | with_reducible refine dl_lst ?_
      | with_reducible refine dl_tup ?_
      | with_reducible refine db_max ?_
      | with_reducible refine db_min ?_
      | with_reducible refine db_abs ?_
      | with_reducible refine db_intI ?_
      | with_reducible refine db_intB ?_)
  | ((with_reducible refine tgDS ?_); first
      | with_reducible refine dsl_take ?_
      | with_reducible refine dsl_drop1 ?_
      | with_reducible refine dsl_drop ?_
      | ((with_reducible refine ds_mid ?_ ?_ ?_); (focus omega); (focus omega))
      | ((with_reducible refine ds_take ?_ ?_); (focus omega))
      | ((with_reducible refine ds_drop1 ?_ ?_); (focus omega))
      | ((with_reducible refine ds_drop ?_ ?_); (focus omega))
      | with_reducible refine ds_qn ?_
      | with_reducible refine ds_lst ?_
      | with_reducible refine ds_tup ?_)
  | ((with_reducible refine tgIf ?_); first
      | with_reducible refine ite_n ?_
      | ((with_reducible refine ite_BT ?_ ?_); (focus (first | assumption | (with_reducible rfl))))
      | ((with_reducible refine ite_BF ?_ ?_); (focus assumption))
      | ((with_reducible refine ite_dT ?_ ?_); (focus (first | assumption | omega | (with_reducible rfl) | (simp; done) | exact rfl)))
      | ((with_reducible refine ite_dF ?_ ?_); (focus (first | omega | decide)))
      | with_reducible refine iteT ?_
      | with_reducible refine iteF ?_)
  | ((with_reducible apply tgPick); (focus (simp only [pick, List.filterMap_cons, List.filterMap_nil, List.getElem?_cons_zero, List.getElem?_cons_succ]; rfl)))
  | ((with_reducible refine u_check_row ?_ ?_); (focus (first | assumption | omega | decide | (simp; done) | (simp; omega))))
  | ((with_reducible refine u_check_both ?_ ?_ ?_); (focus (first | assumption | omega | decide | (simp; done) | (simp; omega))); (focus (first | assumption | omega | decide | (simp; done) | (simp; omega))))
  | ((with_reducible refine u_check_depth ?_ ?_); (focus (first | assumption | omega | decide | (simp; done) | (simp; omega))))
  | ((with_reducible refine u_are_alikeN ?_ ?_ ?_ ?_ ?_ ?_); (focus (first | assumption | omega | decide | (simp; done) | (simp; omega))); (focus (first | assumption | omega | decide | (simp; done) | (simp; omega))); (focus (first | assumption | omega | decide | (simp; done) | (simp; omega))); (focus (first | assumption | omega | decide | (simp; done) | (simp; omega))); (focus (first | assumption | omega | decide | (simp; done) | (simp; omega))))
  | ((with_reducible refine u_are_alike ?_ ?_ ?_ ?_ ?_ ?_ ?_); (focus (first | assumption | omega | decide | (simp; done) | (simp; omega))); (focus (first | assumption | omega | decide | (simp; done) | (simp; omega))); (focus (first | assumption | omega | decide | (simp; done) | (simp; omega))); (focus (first | assumption | omega | decide | (simp; done) | (simp; omega))); (focus (first | assumption | omega | decide | (simp; done) | (simp; omega))); (focus (first | assumption | omega | decide | (simp; done) | (simp; omega))))
  | ((with_reducible refine u_wAlikeN ?_ ?_ ?_ ?_); (focus (first | assumption | omega | decide | (simp; done) | (simp; omega))); (focus (first | assumption | omega | decide | (simp; done) | (simp; omega))); (focus (first | assumption | omega | decide | (simp; done) | (simp; omega))))
  | ((with_reducible refine u_wAlike ?_ ?_ ?_ ?_ ?_); (focus (first | assumption | omega | decide | (simp; done) | (simp; omega))); (focus (first | assumption | omega | decide | (simp; done) | (simp; omega))); (focus (first | assumption | omega | decide | (simp; done) | (simp; omega))); (focus (first | assumption | omega | decide | (simp; done) | (simp; omega))))
  | ((with_reducible refine u_answers ?_ ?_ ?_ ?_ ?_ ?_ ?_ ?_ ?_); (focus (first | assumption | omega | decide | (simp; done) | (simp; omega))); (focus (first | assumption | omega | decide | (simp; done) | (simp; omega))); (focus (first | assumption | omega | decide | (simp; done) | (simp; omega))); (focus (first | assumption | omega | decide | (simp; done) | (simp; omega))); (focus (first | assumption | omega | decide | (simp; done) | (simp; omega))); (focus (first | assumption | omega | decide | (simp; done) | (simp; omega))); (focus (first | assumption | omega | decide | (simp; done) | (simp; omega))); (focus (first | assumption | omega | decide | (simp; done) | (simp; omega))))
  | ((with_reducible refine u_winN ?_ ?_ ?_ ?_ ?_ ?_); (focus (first | assumption | omega | decide | (simp; done) | (simp; omega))); (focus (first | assumption | omega | decide | (simp; done) | (simp; omega))); (focus (first | assumption | omega | decide | (simp; done) | (simp; omega))); (focus (first | assumption | omega | decide | (simp; done) | (simp; omega))); (focus (first | assumption | omega | decide | (simp; done) | (simp; omega))))
  | ((with_reducible refine u_win ?_ ?_ ?_ ?_ ?_ ?_ ?_); (focus (first | assumption | omega | decide | (simp; done) | (simp; omega))); (focus (first | assumption | omega | decide | (simp; done) | (simp; omega))); (focus (first | assumption | omega | decide | (simp; done) | (simp; omega))); (focus (first | assumption | omega | decide | (simp; done) | (simp; omega))); (focus (first | assumption | omega | decide | (simp; done) | (simp; omega))); (focus (first | assumption | omega | decide | (simp; done) | (simp; omega))))
  | ((with_reducible refine u_un ?_ ?_ ?_ ?_ ?_); (focus (first | assumption | omega | decide | (simp; done) | (simp; omega))); (focus (first | assumption | omega | decide | (simp; done) | (simp; omega))); (focus (first | assumption | omega | decide | (simp; done) | (simp; omega))); (focus (first | assumption | omega | decide | (simp; done) | (simp; omega))))
  | ((with_reducible refine u_draw ?_ ?_ ?_ ?_); (focus (first | assumption | omega | decide | (simp; done) | (simp; omega))); (focus (first | assumption | omega | decide | (simp; done) | (simp; omega))); (focus (first | assumption | omega | decide | (simp; done) | (simp; omega))))
  | ((with_reducible refine u_pair ?_ ?_ ?_ ?_); (focus (first | assumption | omega | decide | (simp; done) | (simp; omega))); (focus (first | assumption | omega | decide | (simp; done) | (simp; omega))); (focus (first | assumption | omega | decide | (simp; done) | (simp; omega))))
  | ((with_reducible refine u_inStep ?_ ?_); (focus (first | assumption | omega | decide | (simp; done) | (simp; omega))))
  | ((with_reducible refine u_lasts ?_ ?_ ?_ ?_ ?_ ?_); (focus (first | assumption | omega | decide | (simp; done) | (simp; omega))); (focus (first | assumption | omega | decide | (simp; done) | (simp; omega))); (focus (first | assumption | omega | decide | (simp; done) | (simp; omega))); (focus (first | assumption | omega | decide | (simp; done) | (simp; omega))); (focus (first | assumption | omega | decide | (simp; done) | (simp; omega))))
  | ((with_reducible apply u_qry); (focus (first | assumption | omega | decide | (simp; done) | (simp; omega))); (focus (first | assumption | omega | decide | (simp; done) | (simp; omega))); (focus (first | assumption | omega | decide | (simp; done) | (simp; omega))); (focus (first | assumption | omega | decide | (simp; done) | (simp; omega))); (focus (first | assumption | omega | decide | (simp; done) | (simp; omega))); (focus (first | assumption | omega | decide | (simp; done) | (simp; omega))); (focus (first | assumption | omega | decide | (simp; done) | (simp; omega))))
  | ((with_reducible apply u_steep); (focus (first | assumption | omega | decide | (simp; done) | (simp; omega))); (focus (first | assumption | omega | decide | (simp; done) | (simp; omega))); (focus (first | assumption | omega | decide | (simp; done) | (simp; omega))); (focus (first | assumption | omega | decide | (simp; done) | (simp; omega))); (focus (first | assumption | omega | decide | (simp; done) | (simp; omega))))
  | ((with_reducible apply u_anyq); (focus (first | assumption | omega | decide | (simp; done) | (simp; omega))); (focus (first | assumption | omega | decide | (simp; done) | (simp; omega))); (focus (first | assumption | omega | decide | (simp; done) | (simp; omega))); (focus (first | assumption | omega | decide | (simp; done) | (simp; omega))))
  | ((with_reducible refine u_lets ?_ ?_ ?_); (focus (first | assumption | omega | decide | (simp; done) | (simp; omega))); (focus (first | assumption | omega | decide | (simp; done) | (simp; omega))))
  | ((with_reducible refine u_letsH ?_ ?_ ?_); (focus (first | assumption | omega | decide | (simp; done) | (simp; omega))); (focus (first | assumption | omega | decide | (simp; done) | (simp; omega))))
  | ((with_reducible refine u_islet ?_ ?_); (focus (first | assumption | omega | decide | (simp; done) | (simp; omega))))
  | ((with_reducible refine u_inner ?_))
  | ((with_reducible refine u_isq ?_ ?_ ?_ ?_); (focus (first | assumption | omega | decide | (simp; done) | (simp; omega))); (focus (first | assumption | omega | decide | (simp; done) | (simp; omega))); (focus (first | assumption | omega | decide | (simp; done) | (simp; omega))))
  | ((with_reducible refine u_isqH ?_ ?_ ?_ ?_); (focus (first | assumption | omega | decide | (simp; done) | (simp; omega))); (focus (first | assumption | omega | decide | (simp; done) | (simp; omega))); (focus (first | assumption | omega | decide | (simp; done) | (simp; omega))))
  | ((with_reducible refine u_chq ?_ ?_ ?_); (focus (first | assumption | omega | decide | (simp; done) | (simp; omega))); (focus (first | assumption | omega | decide | (simp; done) | (simp; omega))))
  | ((with_reducible refine u_chqH ?_ ?_ ?_); (focus (first | assumption | omega | decide | (simp; done) | (simp; omega))); (focus (first | assumption | omega | decide | (simp; done) | (simp; omega))))
  | ((with_reducible refine u_add ?_ ?_ ?_); (focus (first | assumption | omega | decide | (simp; done) | (simp; omega))); (focus (first | assumption | omega | decide | (simp; done) | (simp; omega))))
  | ((with_reducible refine u_addH ?_ ?_ ?_); (focus (first | assumption | omega | decide | (simp; done) | (simp; omega))); (focus (first | assumption | omega | decide | (simp; done) | (simp; omega))))
  | ((with_reducible apply u_isletA); (focus (first | assumption | omega | decide | (simp; done) | (simp; omega))); (focus (first | assumption | omega | decide | (simp; done) | (simp; omega))); (focus (first | assumption | omega | decide | (simp; done) | (simp; omega))); (focus (first | assumption | omega | decide | (simp; done) | (simp; omega))); (focus (first | assumption | omega | decide | (simp; done) | (simp; omega))))
  | ((with_reducible apply u_metA); (focus (first | assumption | omega | decide | (simp; done) | (simp; omega))); (focus (first | assumption | omega | decide | (simp; done) | (simp; omega))); (focus (first | assumption | omega | decide | (simp; done) | (simp; omega))); (focus (first | assumption | omega | decide | (simp; done) | (simp; omega))); (focus (first | assumption | omega | decide | (simp; done) | (simp; omega))); (focus (first | assumption | omega | decide | (simp; done) | (simp; omega))))
  | ((with_reducible refine u_lets1 ?_ ?_ ?_); (focus (first | assumption | omega | decide | (simp; done) | (simp; omega))); (focus (first | assumption | omega | decide | (simp; done) | (simp; omega))))
  | ((with_reducible refine u_lets1H ?_ ?_ ?_ ?_); (focus (first | assumption | omega | decide | (simp; done) | (simp; omega))); (focus (first | assumption | omega | decide | (simp; done) | (simp; omega))); (focus (first | assumption | omega | decide | (simp; done) | (simp; omega))))
  | ((with_reducible refine u_letsPH ?_ ?_ ?_ ?_ ?_ ?_); (focus (first | assumption | omega | decide | (simp; done) | (simp; omega))); (focus (first | assumption | omega | decide | (simp; done) | (simp; omega))); (focus (first | assumption | omega | decide | (simp; done) | (simp; omega))); (focus (first | assumption | omega | decide | (simp; done) | (simp; omega))); (focus (first | assumption | omega | decide | (simp; done) | (simp; omega))))
  | ((with_reducible refine u_letsPa ?_ ?_ ?_); (focus (first | assumption | omega | decide | (simp; done) | (simp; omega))); (focus (first | assumption | omega | decide | (simp; done) | (simp; omega))))
  | ((with_reducible refine u_letsPn ?_ ?_ ?_ ?_ ?_); (focus (first | assumption | omega | decide | (simp; done) | (simp; omega))); (focus (first | assumption | omega | decide | (simp; done) | (simp; omega))); (focus (first | assumption | omega | decide | (simp; done) | (simp; omega))); (focus (first | assumption | omega | decide | (simp; done) | (simp; omega))))
  | ((with_reducible refine u_letsPb ?_ ?_ ?_ ?_ ?_ ?_); (focus (first | assumption | omega | decide | (simp; done) | (simp; omega))); (focus (first | assumption | omega | decide | (simp; done) | (simp; omega))); (focus (first | assumption | omega | decide | (simp; done) | (simp; omega))); (focus (first | assumption | omega | decide | (simp; done) | (simp; omega))); (focus (first | assumption | omega | decide | (simp; done) | (simp; omega))))
  | ((with_reducible refine u_letsPs ?_ ?_ ?_ ?_ ?_ ?_ ?_); (focus (first | assumption | omega | decide | (simp; done) | (simp; omega))); (focus (first | assumption | omega | decide | (simp; done) | (simp; omega))); (focus (first | assumption | omega | decide | (simp; done) | (simp; omega))); (focus (first | assumption | omega | decide | (simp; done) | (simp; omega))); (focus (first | assumption | omega | decide | (simp; done) | (simp; omega))); (focus (first | assumption | omega | decide | (simp; done) | (simp; omega))))
  | ((with_reducible refine u_letsS ?_ ?_ ?_); (focus (first | assumption | omega | decide | (simp; done) | (simp; omega))); (focus (first | assumption | omega | decide | (simp; done) | (simp; omega))))
  | ((with_reducible refine u_letsP ?_ ?_ ?_ ?_ ?_); (focus (first | assumption | omega | decide | (simp; done) | (simp; omega))); (focus (first | assumption | omega | decide | (simp; done) | (simp; omega))); (focus (first | assumption | omega | decide | (simp; done) | (simp; omega))); (focus (first | assumption | omega | decide | (simp; done) | (simp; omega))))
  | ((with_reducible apply u_line); (focus (first | assumption | omega | decide | (simp; done) | (simp; omega))); (focus (first | assumption | omega | decide | (simp; done) | (simp; omega))); (focus (first | assumption | omega | decide | (simp; done) | (simp; omega))))
  | ((with_reducible refine u_turnA ?_ ?_); (focus (first | assumption | omega | decide | (simp; done) | (simp; omega))))
  | ((with_reducible refine u_turnAH ?_ ?_); (focus (first | assumption | omega | decide | (simp; done) | (simp; omega))))
  | ((with_reducible refine u_turnQ ?_ ?_ ?_); (focus (first | assumption | omega | decide | (simp; done) | (simp; omega))); (focus (first | assumption | omega | decide | (simp; done) | (simp; omega))))
  | ((with_reducible refine u_turnQH ?_ ?_ ?_); (focus (first | assumption | omega | decide | (simp; done) | (simp; omega))); (focus (first | assumption | omega | decide | (simp; done) | (simp; omega))))
  | ((with_reducible refine u_turnQS ?_ ?_ ?_ ?_ ?_); (focus (first | assumption | omega | decide | (simp; done) | (simp; omega))); (focus (first | assumption | omega | decide | (simp; done) | (simp; omega))); (focus (first | assumption | omega | decide | (simp; done) | (simp; omega))); (focus (first | assumption | omega | decide | (simp; done) | (simp; omega))))
  | ((with_reducible refine u_places ?_ ?_ ?_ ?_ ?_); (focus (first | assumption | omega | decide | (simp; done) | (simp; omega))); (focus (first | assumption | omega | decide | (simp; done) | (simp; omega))); (focus (first | assumption | omega | decide | (simp; done) | (simp; omega))); (focus (first | assumption | omega | decide | (simp; done) | (simp; omega))))
  | ((with_reducible refine u_placesS ?_ ?_ ?_ ?_ ?_ ?_ ?_); (focus (first | assumption | omega | decide | (simp; done) | (simp; omega))); (focus (first | assumption | omega | decide | (simp; done) | (simp; omega))); (focus (first | assumption | omega | decide | (simp; done) | (simp; omega))); (focus (first | assumption | omega | decide | (simp; done) | (simp; omega))); (focus (first | assumption | omega | decide | (simp; done) | (simp; omega))); (focus (first | assumption | omega | decide | (simp; done) | (simp; omega))))
  | ((with_reducible refine u_parting ?_ ?_ ?_ ?_ ?_); (focus (first | assumption | omega | decide | (simp; done) | (simp; omega))); (focus (first | assumption | omega | decide | (simp; done) | (simp; omega))); (focus (first | assumption | omega | decide | (simp; done) | (simp; omega))); (focus (first | assumption | omega | decide | (simp; done) | (simp; omega))))
  | ((with_reducible refine u_pat ?_))
  | ((with_reducible refine u_bare ?_))
  | ((with_reducible refine u_has ?_ ?_ ?_); (focus (first | assumption | omega | decide | (simp; done) | (simp; omega))); (focus (first | assumption | omega | decide | (simp; done) | (simp; omega))))
  | ((with_reducible refine u_allOf ?_ ?_ ?_ ?_); (focus (first | assumption | omega | decide | (simp; done) | (simp; omega))); (focus (first | assumption | omega | decide | (simp; done) | (simp; omega))); (focus (first | assumption | omega | decide | (simp; done) | (simp; omega))))
  | ((with_reducible apply u_leastOf); (focus (first | assumption | omega | decide | (simp; done) | (simp; omega))); (focus (first | assumption | omega | decide | (simp; done) | (simp; omega))); (focus (first | assumption | omega | decide | (simp; done) | (simp; omega))); (focus (first | assumption | omega | decide | (simp; done) | (simp; omega))); (focus (first | assumption | omega | decide | (simp; done) | (simp; omega))))
  | ((with_reducible refine u_depIn ?_ ?_); (focus (first | assumption | omega | decide | (simp; done) | (simp; omega))))
  | ((with_reducible refine u_depOf ?_ ?_ ?_); (focus (first | assumption | omega | decide | (simp; done) | (simp; omega))); (focus (first | assumption | omega | decide | (simp; done) | (simp; omega))))
  | ((with_reducible refine u_depOfH ?_ ?_ ?_); (focus (first | assumption | omega | decide | (simp; done) | (simp; omega))); (focus (first | assumption | omega | decide | (simp; done) | (simp; omega))))
  | ((with_reducible refine u_sameMany ?_ ?_ ?_ ?_ ?_); (focus (first | assumption | omega | decide | (simp; done) | (simp; omega))); (focus (first | assumption | omega | decide | (simp; done) | (simp; omega))); (focus (first | assumption | omega | decide | (simp; done) | (simp; omega))); (focus (first | assumption | omega | decide | (simp; done) | (simp; omega))))
  | ((with_reducible refine u_settledN ?_ ?_ ?_ ?_); (focus (first | assumption | omega | decide | (simp; done) | (simp; omega))); (focus (first | assumption | omega | decide | (simp; done) | (simp; omega))); (focus (first | assumption | omega | decide | (simp; done) | (simp; omega))))
  | ((with_reducible refine u_isBlk ?_))
  | ((with_reducible refine u_depB ?_ ?_ ?_ ?_); (focus (first | assumption | omega | decide | (simp; done) | (simp; omega))); (focus (first | assumption | omega | decide | (simp; done) | (simp; omega))); (focus (first | assumption | omega | decide | (simp; done) | (simp; omega))))
  | ((with_reducible refine u_ct ?_ ?_ ?_ ?_); (focus (first | assumption | omega | decide | (simp; done) | (simp; omega))); (focus (first | assumption | omega | decide | (simp; done) | (simp; omega))); (focus (first | assumption | omega | decide | (simp; done) | (simp; omega))))
  | ((with_reducible refine u_cb ?_ ?_ ?_ ?_); (focus (first | assumption | omega | decide | (simp; done) | (simp; omega))); (focus (first | assumption | omega | decide | (simp; done) | (simp; omega))); (focus (first | assumption | omega | decide | (simp; done) | (simp; omega))))
  | with_reducible refine dun_neg ?_
  | with_reducible refine tgA2 ?_
  | with_reducible refine tgA3 ?_
  | with_reducible refine tgEx2 ?_
  | with_reducible refine tgEx3 ?_
  | with_reducible refine tgEx4 ?_
  | with_reducible refine tgT2 ?_
  | with_reducible refine tgT3 ?_
  | with_reducible refine tgL2 ?_
  | with_reducible refine tgT4 ?_
  | refine ⟨_, (Or.inl rfl : DL.D.lst _ = DL.D.lst _ ∨ _), ?_⟩
  | refine ⟨_, (Or.inr rfl : _ ∨ DL.D.tup _ = DL.D.tup _), ?_⟩
  | with_reducible refine xin_no ?_
  | with_reducible refine xr_no ?_
  | refine ⟨(rfl : DL.D.ref _ = DL.D.ref _), ?_⟩
  | refine ⟨(rfl : DL.D.ty _ = Option.some _), ?_⟩
  | refine ⟨Qn.ty _, ?_⟩
  | refine ⟨(by simp : List.length _ ≤ 100000), ?_⟩
  | refine ⟨(by simp : List.length _ = _), ?_⟩
  | with_reducible refine wo_none ?_
  | with_reducible refine wo_some ?_
  | refine ⟨_, rfl, ?_⟩))
local macro_rules | `(tactic| walk_at "hl") => `(tactic| first
  | (rintro ⟨e, _⟩; rw [e]; rfl)
  | (rintro ⟨_, e, _⟩; rw [e]; rfl)
  | (rintro ⟨_, _, e, _⟩; rw [e]; rfl)
  | (rintro ⟨_, _, _, e, _⟩; rw [e]; rfl)
  | (rintro ⟨_, _, _, _, e, _⟩; rw [e]; rfl)
  | (rintro ⟨_, _, _, _, _, e, _⟩; rw [e]; rfl)
  | (rintro ⟨_, _, _, _, _, _, e, _⟩; rw [e]; rfl)
  | (rintro ⟨_, _, _, _, _, _, _, e, _⟩; rw [e]; rfl)
  | (rintro ⟨_, _, _, _, _, _, _, _, e, _⟩; rw [e]; rfl)
  | (rintro ⟨_, _, _, _, _, _, _, _, _, e, _⟩; rw [e]; rfl)
  | (rintro ⟨_, _, _, _, _, _, _, _, _, _, e, _⟩; rw [e]; rfl)
  | (rintro ⟨_, _, _, _, _, _, _, _, _, _, _, e, _⟩; rw [e]; rfl))
local macro_rules | `(tactic| walk_at "rec0") => `(tactic| first
  | (rintro ⟨_, _, _, _, _, _, _, _, ⟨_, h0, _⟩, _⟩; exact absurd h0 (Nat.not_lt_zero _))
  | (rintro ⟨_, _, _, ⟨_, h0, _⟩, _⟩; exact absurd h0 (Nat.not_lt_zero _))
  | (rintro ⟨_, _, _, _, _, ⟨_, h0, _⟩, _⟩; exact absurd h0 (Nat.not_lt_zero _))
  | (rintro ⟨_, _, _, _, _, _, ⟨_, h0, _⟩, _⟩; exact absurd h0 (Nat.not_lt_zero _)))
local macro_rules | `(tactic| walk_at "v") => `(tactic| repeat (first
  | ((with_reducible refine tgWE ?_); first
      | ((with_reducible apply tgSetE); (focus (simp only [List.set_cons_succ, List.set_cons_zero]; rfl)))
      | ((with_reducible apply we_callX); (focus (first | exact poolC _ _ _ _ _ _ _ | exact resC | exact onP | exact onB | exact onU onP | exact onU resC | exact onU (poolC _ _ _ _ _ _ _) | exact onU onB | exact onU (onU onP) | exact onU (onU (poolC _ _ _ _ _ _ _)))))
      | ((with_reducible refine tgNew ?_); refine we_dnewN ?_)
      | ((with_reducible apply we_methV); (focus (first | exact onK | exact onK0)); exact rfl; exact rfl)
      | with_reducible refine we_callF ?_
      | with_reducible refine we_callNF ?_
      | ((with_reducible apply we_callR); (focus (first | exact poolC _ _ _ _ _ _ _ | exact resC | exact onP | exact onB | exact onU onP | exact onU resC | exact onU (poolC _ _ _ _ _ _ _) | exact onU onB | exact onU (onU onP) | exact onU (onU (poolC _ _ _ _ _ _ _)))))
      | ((with_reducible apply we_methA); (focus (first | exact ac0 | exact onA)); (focus decide); (focus decide); (focus decide))
      | ((with_reducible apply we_fldAn); (focus (first | exact ac0 | exact onA)); assumption)
      | ((with_reducible apply we_fldAk); (focus (first | exact ac0 | exact onA)); assumption)
      | ((with_reducible apply we_fldAl); (focus (first | exact ac0 | exact onA)); assumption)
      | ((with_reducible apply we_dtnin); (focus (first | exact jc0.part subJj | exact onR.part subJj)))
      | ((with_reducible apply we_dtget); (focus (first | exact jc0.part subJj | exact onR.part subJj)))
      | ((with_reducible apply we_dinin); (focus (first | exact jc0.part subJl | exact onR.part subJl)))
      | ((with_reducible apply we_diget); (focus (first | exact jc0.part subJl | exact onR.part subJl)))
      | ((with_reducible apply we_methJ); (focus (first | exact jc0 | exact onR)); (focus decide); (focus decide); (focus decide); (focus decide))
      | ((with_reducible apply we_fldJt); (focus (first | exact jc0 | exact onR)); assumption)
      | ((with_reducible apply we_fldJs); (focus (first | exact jc0 | exact onR)); assumption)
      | ((with_reducible apply we_fldJl); (focus (first | exact jc0 | exact onR)); assumption)
      | ((with_reducible apply we_fldJj); (focus (first | exact jc0 | exact onR)); assumption)
      | ((with_reducible apply we_reprOwn2); exact rfl)
      | with_reducible refine we_maxDf ?_
      | ((with_reducible apply we_ktup); assumption)
      | with_reducible refine we_ref ?_
      | ((with_reducible apply we_callK); (focus (first | exact onK | exact onK0)))
      | with_reducible refine we_scount ?_
      | with_reducible refine we_sstarts ?_
      | with_reducible refine we_sends ?_
      | ((with_reducible apply we_revR); (focus (exact rfl)); (focus (first | assumption | omega | decide | (simp; done) | (simp; omega))))
      | with_reducible refine we_isi ?_
      | ((with_reducible apply we_var); focus rfl)
      | with_reducible refine we_int ?_
      | with_reducible refine we_str ?_
      | with_reducible refine we_bl ?_
      | with_reducible refine we_non ?_
      | with_reducible refine we_op ?_
      | with_reducible refine we_un ?_
      | with_reducible refine we_chain ?_
      | with_reducible refine we_cb ?_
      | with_reducible refine we_tup ?_
      | with_reducible refine we_lst ?_
      | with_reducible refine we_if ?_
      | with_reducible refine we_andV ?_
      | with_reducible refine we_orV ?_
      | with_reducible refine we_notV ?_
      | with_reducible refine we_sl ?_
      | with_reducible refine we_join ?_
      | with_reducible refine we_draw ?_)
  | ((with_reducible refine tgWS ?_); first
      | ((with_reducible apply tgSet); (focus (simp only [List.set_cons_succ, List.set_cons_zero]; rfl)))
      | ((with_reducible apply ws_retOwn); exact rfl)
      | ((with_reducible apply ws_app); exact rfl; (focus (first | assumption | omega | decide | (simp; done) | (simp; omega))))
      | with_reducible refine ws_nx ?_
      | with_reducible refine ws_asgF ?_
      | with_reducible refine ws_parF ?_
      | with_reducible refine ws_par3F ?_
      | ((with_reducible refine ws_par3 ?_ ?_ ?_ ?_); (focus (simp; done)); (focus (simp; done)); (focus (simp; done)))
      | ((with_reducible refine ws_tup3 rfl ?_ ?_ ?_ ?_); (focus (simp; done)); (focus (simp; done)); (focus (simp; done)))
      | ((with_reducible refine ws_tup4 rfl ?_ ?_ ?_ ?_ ?_); (focus (simp; done)); (focus (simp; done)); (focus (simp; done)); (focus (simp; done)))
      | ((with_reducible refine ws_asg2 rfl ?_ ?_ ?_); (focus (simp; done)); (focus (simp; done)))
      | ((with_reducible refine ws_asgL2 rfl ?_ ?_ ?_); (focus (simp; done)); (focus (simp; done)))
      | ((with_reducible refine ws_asg3 rfl ?_ ?_ ?_ ?_); (focus (simp; done)); (focus (simp; done)); (focus (simp; done)))
      | ((with_reducible refine ws_par ?_ ?_ ?_); (focus (simp; done)); (focus (simp; done)))
      | with_reducible refine ws_newK fun _ _ _ _ => ?_
      | with_reducible refine ws_newA ?_
      | with_reducible refine ws_newR ?_
      | with_reducible refine ws_newR2 ?_
      | ((with_reducible refine ws_asg4 rfl ?_ ?_ ?_ ?_ ?_); (focus (simp; done)); (focus (simp; done)); (focus (simp; done)); (focus (simp; done)))
      | with_reducible refine ws_seq ?_
      | with_reducible refine ws_next ?_
      | with_reducible refine ws_cnt ?_
      | with_reducible refine ws_brk ?_
      | with_reducible refine ws_if ?_
      | with_reducible refine ws_retN ?_
      | with_reducible refine ws_ret ?_
      | with_reducible refine ws_asg ?_
      | with_reducible refine ws_drop ?_)
  | ((with_reducible refine tgFZ ?_); first
      | with_reducible refine fz_dat ?_
      | with_reducible refine fz_own ?_)
  | ((with_reducible refine tgWA ?_); first
      | with_reducible refine wa_star ?_
      | with_reducible refine wa_nil ?_
      | with_reducible refine wa_cons ?_)
  | ((with_reducible refine tgWT ?_); first
      | ((with_reducible apply tgSetT); (focus (simp only [List.set_cons_succ, List.set_cons_zero]; rfl)))
      | with_reducible refine wt_yes ?_
      | with_reducible refine wt_test ?_
      | with_reducible refine wt_B ?_
      | with_reducible refine wt_not ?_
      | with_reducible refine wt_and ?_
      | with_reducible refine wt_or ?_)
  | ((with_reducible refine tgWAO ?_); first
      | with_reducible refine wao_nil ?_
      | with_reducible refine wao_cons ?_)
  | ((with_reducible refine tgDO ?_); first
      | ((with_reducible refine dop_shl1 ?_ ?_ ?_); (focus omega); (focus omega))
      | with_reducible refine deq_row ?_
      | ((with_reducible apply deq_enc); (focus (first | exact encNat | exact encP2 | exact encInt)))
      | ((with_reducible apply dne_enc); (focus (first | exact encNat | exact encP2 | exact encInt)))
      | ((with_reducible apply deq_encN); (focus (first | exact encNat | exact encP2 | exact encInt)))
      | ((with_reducible apply dne_encN); (focus (first | exact encNat | exact encP2 | exact encInt)))
      | ((with_reducible refine da_map ?_ ?_); (focus (first | assumption | omega | decide | (simp; done) | (simp; omega))))
      | ((with_reducible refine da_snoc2 ?_ ?_); (focus omega))
      | with_reducible refine dne_row ?_
      | ((with_reducible refine dop_fdivN ?_ ?_ ?_); (focus omega); (focus omega))
      | ((with_reducible apply di_names); assumption; (focus omega); (focus omega))
      | ((with_reducible apply di_qn); exact rfl)
      | ((with_reducible apply dnin_tab); assumption; (focus (first | exact .head _ | exact .tail _ (.head _) | exact .tail _ (.tail _ (.head _)) | exact .tail _ (.tail _ (.tail _ (.head _))))))
      | ((with_reducible apply di_tab); assumption; (focus (first | exact .head _ | exact .tail _ (.head _) | exact .tail _ (.tail _ (.head _)) | exact .tail _ (.tail _ (.tail _ (.head _))))))
      | ((with_reducible refine dop_pow2 ?_ ?_ ?_); (focus omega); (focus omega))
      | ((with_reducible refine dop_pow10 ?_ ?_ ?_); (focus omega); (focus omega))
      | with_reducible refine dis_opt ?_
      | with_reducible refine dnis_bl ?_
      | with_reducible refine dis_qn ?_
      | with_reducible refine dnis_qn ?_
      | with_reducible refine dis_non0 ?_
      | with_reducible refine dnis_non0 ?_
      | with_reducible refine dnis_opt ?_
      | with_reducible refine dle_opt ?_
      | ((with_reducible refine deq_qn ?_ ?_ ?_ ?_ ?_); (focus (first | assumption | omega | decide | (simp; done) | (simp; omega))); (focus (first | assumption | omega | decide | (simp; done) | (simp; omega))); (focus (first | assumption | omega | decide | (simp; done) | (simp; omega))); (focus (first | assumption | omega | decide | (simp; done) | (simp; omega))))
      | ((with_reducible refine dne_qn ?_ ?_ ?_ ?_ ?_); (focus (first | assumption | omega | decide | (simp; done) | (simp; omega))); (focus (first | assumption | omega | decide | (simp; done) | (simp; omega))); (focus (first | assumption | omega | decide | (simp; done) | (simp; omega))); (focus (first | assumption | omega | decide | (simp; done) | (simp; omega))))
      | with_reducible refine din_row2 ?_
      | ((with_reducible refine dm_row ?_ ?_ ?_ ?_); (focus (first | assumption | omega | decide | (simp; done) | (simp; omega))); (focus (first | assumption | omega | decide | (simp; done) | (simp; omega))); (focus (first | assumption | omega | decide | (simp; done) | (simp; omega))))
      | with_reducible refine deq_opt ?_
      | with_reducible refine dne_opt ?_
      | ((with_reducible refine deq_qn0 ?_ ?_ ?_); assumption; (focus omega))
      | with_reducible refine da_int ?_
      | with_reducible refine dop_sub ?_
      | with_reducible refine dlt_int ?_
      | with_reducible refine dle_int ?_
      | with_reducible refine dop_gt ?_
      | with_reducible refine dop_ge ?_
      | ((with_reducible apply de_sc); focus rfl)
      | ((with_reducible apply dn_sc); focus rfl)
      | ((with_reducible apply di_tup); focus rfl)
      | ((with_reducible apply di_lst); focus rfl))
  | ((with_reducible refine tgDC ?_); first
      | ((with_reducible refine dl_row ?_ ?_); (focus (first | omega | (simp; done))))
      | with_reducible refine dl_map ?_
      | ((with_reducible apply dl_names); assumption)
      | with_reducible refine db_repr2 ?_
      | ((with_reducible refine db_reprN2 ?_ ?_ ?_); (focus (first | assumption | omega | decide | (simp; done) | (simp; omega))); (focus (first | assumption | omega | decide | (simp; done) | (simp; omega))))
      | ((with_reducible refine db_sortN ?_ ?_); (focus (first | assumption | omega | decide | (simp; done) | (simp; omega))))
      | ((with_reducible refine db_sortP ?_ ?_); (focus (first | assumption | omega | decide | (simp; done) | (simp; omega))))
      | ((with_reducible apply dl_qn); exact rfl)
      | with_reducible refine db_all ?_
      | ((with_reducible apply db_isX); (focus (exact knows_exc)); (focus assumption); (focus assumption))
      | with_reducible refine db_anyB ?_
      | with_reducible refine db_listT ?_
      | with_reducible refine db_listL ?_
      | with_reducible refine dl_lst ?_
      | with_reducible refine dl_tup ?_
      | with_reducible refine db_max ?_
      | with_reducible refine db_min ?_
      | with_reducible refine db_abs ?_
      | with_reducible refine db_intI ?_
      | with_reducible refine db_intB ?_)
  | ((with_reducible refine tgDS ?_); first
      | with_reducible refine dsl_take ?_
      | with_reducible refine dsl_drop1 ?_
      | with_reducible refine dsl_drop ?_
      | ((with_reducible refine ds_mid ?_ ?_ ?_); (focus omega); (focus omega))
      | ((with_reducible refine ds_take ?_ ?_); (focus omega))
      | ((with_reducible refine ds_drop1 ?_ ?_); (focus omega))
      | ((with_reducible refine ds_drop ?_ ?_); (focus omega))
      | with_reducible refine ds_qn ?_
      | with_reducible refine ds_lst ?_
      | with_reducible refine ds_tup ?_)
  | ((with_reducible refine tgIf ?_); first
      | with_reducible refine ite_n ?_
      | ((with_reducible refine ite_BT ?_ ?_); (focus (first | assumption | (with_reducible rfl))))
      | ((with_reducible refine ite_BF ?_ ?_); (focus assumption))
      | ((with_reducible refine ite_dT ?_ ?_); (focus (first | assumption | omega | (with_reducible rfl) | (simp; done) | exact rfl)))
      | ((with_reducible refine ite_dF ?_ ?_); (focus (first | omega | decide)))
      | with_reducible refine iteT ?_
      | with_reducible refine iteF ?_)
  | ((with_reducible apply tgPick); (focus (simp only [pick, List.filterMap_cons, List.filterMap_nil, List.getElem?_cons_zero, List.getElem?_cons_succ]; rfl)))
  | ((with_reducible refine u_check_row ?_ ?_); (focus (first | assumption | omega | decide | (simp; done) | (simp; omega))))
  | ((with_reducible refine u_check_both ?_ ?_ ?_); (focus (first | assumption | omega | decide | (simp; done) | (simp; omega))); (focus (first | assumption | omega | decide | (simp; done) | (simp; omega))))
  | ((with_reducible refine u_check_depth ?_ ?_); (focus (first | assumption | omega | decide | (simp; done) | (simp; omega))))
  | ((with_reducible refine u_are_alikeN ?_ ?_ ?_ ?_ ?_ ?_); (focus (first | assumption | omega | decide | (simp; done) | (simp; omega))); (focus (first | assumption | omega | decide | (simp; done) | (simp; omega))); (focus (first | assumption | omega | decide | (simp; done) | (simp; omega))); (focus (first | assumption | omega | decide | (simp; done) | (simp; omega))); (focus (first | assumption | omega | decide | (simp; done) | (simp; omega))))
  | ((with_reducible refine u_are_alike ?_ ?_ ?_ ?_ ?_ ?_ ?_); (focus (first | assumption | omega | decide | (simp; done) | (simp; omega))); (focus (first | assumption | omega | decide | (simp; done) | (simp; omega))); (focus (first | assumption | omega | decide | (simp; done) | (simp; omega))); (focus (first | assumption | omega | decide | (simp; done) | (simp; omega))); (focus (first | assumption | omega | decide | (simp; done) | (simp; omega))); (focus (first | assumption | omega | decide | (simp; done) | (simp; omega))))
  | ((with_reducible refine u_wAlikeN ?_ ?_ ?_ ?_); (focus (first | assumption | omega | decide | (simp; done) | (simp; omega))); (focus (first | assumption | omega | decide | (simp; done) | (simp; omega))); (focus (first | assumption | omega | decide | (simp; done) | (simp; omega))))
  | ((with_reducible refine u_wAlike ?_ ?_ ?_ ?_ ?_); (focus (first | assumption | omega | decide | (simp; done) | (simp; omega))); (focus (first | assumption | omega | decide | (simp; done) | (simp; omega))); (focus (first | assumption | omega | decide | (simp; done) | (simp; omega))); (focus (first | assumption | omega | decide | (simp; done) | (simp; omega))))
  | ((with_reducible refine u_answers ?_ ?_ ?_ ?_ ?_ ?_ ?_ ?_ ?_); (focus (first | assumption | omega | decide | (simp; done) | (simp; omega))); (focus (first | assumption | omega | decide | (simp; done) | (simp; omega))); (focus (first | assumption | omega | decide | (simp; done) | (simp; omega))); (focus (first | assumption | omega | decide | (simp; done) | (simp; omega))); (focus (first | assumption | omega | decide | (simp; done) | (simp; omega))); (focus (first | assumption | omega | decide | (simp; done) | (simp; omega))); (focus (first | assumption | omega | decide | (simp; done) | (simp; omega))); (focus (first | assumption | omega | decide | (simp; done) | (simp; omega))))
  | ((with_reducible refine u_winN ?_ ?_ ?_ ?_ ?_ ?_); (focus (first | assumption | omega | decide | (simp; done) | (simp; omega))); (focus (first | assumption | omega | decide | (simp; done) | (simp; omega))); (focus (first | assumption | omega | decide | (simp; done) | (simp; omega))); (focus (first | assumption | omega | decide | (simp; done) | (simp; omega))); (focus (first | assumption | omega | decide | (simp; done) | (simp; omega))))
  | ((with_reducible refine u_win ?_ ?_ ?_ ?_ ?_ ?_ ?_); (focus (first | assumption | omega | decide | (simp; done) | (simp; omega))); (focus (first | assumption | omega | decide | (simp; done) | (simp; omega))); (focus (first | assumption | omega | decide | (simp; done) | (simp; omega))); (focus (first | assumption | omega | decide | (simp; done) | (simp; omega))); (focus (first | assumption | omega | decide | (simp; done) | (simp; omega))); (focus (first | assumption | omega | decide | (simp; done) | (simp; omega))))
  | ((with_reducible refine u_un ?_ ?_ ?_ ?_ ?_); (focus (first | assumption | omega | decide | (simp; done) | (simp; omega))); (focus (first | assumption | omega | decide | (simp; done) | (simp; omega))); (focus (first | assumption | omega | decide | (simp; done) | (simp; omega))); (focus (first | assumption | omega | decide | (simp; done) | (simp; omega))))
  | ((with_reducible refine u_draw ?_ ?_ ?_ ?_); (focus (first | assumption | omega | decide | (simp; done) | (simp; omega))); (focus (first | assumption | omega | decide | (simp; done) | (simp; omega))); (focus (first | assumption | omega | decide | (simp; done) | (simp; omega))))
  | ((with_reducible refine u_pair ?_ ?_ ?_ ?_); (focus (first | assumption | omega | decide | (simp; done) | (simp; omega))); (focus (first | assumption | omega | decide | (simp; done) | (simp; omega))); (focus (first | assumption | omega | decide | (simp; done) | (simp; omega))))
  | ((with_reducible refine u_inStep ?_ ?_); (focus (first | assumption | omega | decide | (simp; done) | (simp; omega))))
  | ((with_reducible refine u_lasts ?_ ?_ ?_ ?_ ?_ ?_); (focus (first | assumption | omega | decide | (simp; done) | (simp; omega))); (focus (first | assumption | omega | decide | (simp; done) | (simp; omega))); (focus (first | assumption | omega | decide | (simp; done) | (simp; omega))); (focus (first | assumption | omega | decide | (simp; done) | (simp; omega))); (focus (first | assumption | omega | decide | (simp; done) | (simp; omega))))
  | ((with_reducible apply u_qry); (focus (first | assumption | omega | decide | (simp; done) | (simp; omega))); (focus (first | assumption | omega | decide | (simp; done) | (simp; omega))); (focus (first | assumption | omega | decide | (simp; done) | (simp; omega))); (focus (first | assumption | omega | decide | (simp; done) | (simp; omega))); (focus (first | assumption | omega | decide | (simp; done) | (simp; omega))); (focus (first | assumption | omega | decide | (simp; done) | (simp; omega))); (focus (first | assumption | omega | decide | (simp; done) | (simp; omega))))
  | ((with_reducible apply u_steep); (focus (first | assumption | omega | decide | (simp; done) | (simp; omega))); (focus (first | assumption | omega | decide | (simp; done) | (simp; omega))); (focus (first | assumption | omega | decide | (simp; done) | (simp; omega))); (focus (first | assumption | omega | decide | (simp; done) | (simp; omega))); (focus (first | assumption | omega | decide | (simp; done) | (simp; omega))))
  | ((with_reducible apply u_anyq); (focus (first | assumption | omega | decide | (simp; done) | (simp; omega))); (focus (first | assumption | omega | decide | (simp; done) | (simp; omega))); (focus (first | assumption | omega | decide | (simp; done) | (simp; omega))); (focus (first | assumption | omega | decide | (simp; done) | (simp; omega))))
  | ((with_reducible refine u_lets ?_ ?_ ?_); (focus (first | assumption | omega | decide | (simp; done) | (simp; omega))); (focus (first | assumption | omega | decide | (simp; done) | (simp; omega))))
  | ((with_reducible refine u_letsH ?_ ?_ ?_); (focus (first | assumption | omega | decide | (simp; done) | (simp; omega))); (focus (first | assumption | omega | decide | (simp; done) | (simp; omega))))
  | ((with_reducible refine u_islet ?_ ?_); (focus (first | assumption | omega | decide | (simp; done) | (simp; omega))))
  | ((with_reducible refine u_inner ?_))
  | ((with_reducible refine u_isq ?_ ?_ ?_ ?_); (focus (first | assumption | omega | decide | (simp; done) | (simp; omega))); (focus (first | assumption | omega | decide | (simp; done) | (simp; omega))); (focus (first | assumption | omega | decide | (simp; done) | (simp; omega))))
  | ((with_reducible refine u_isqH ?_ ?_ ?_ ?_); (focus (first | assumption | omega | decide | (simp; done) | (simp; omega))); (focus (first | assumption | omega | decide | (simp; done) | (simp; omega))); (focus (first | assumption | omega | decide | (simp; done) | (simp; omega))))
  | ((with_reducible refine u_chq ?_ ?_ ?_); (focus (first | assumption | omega | decide | (simp; done) | (simp; omega))); (focus (first | assumption | omega | decide | (simp; done) | (simp; omega))))
  | ((with_reducible refine u_chqH ?_ ?_ ?_); (focus (first | assumption | omega | decide | (simp; done) | (simp; omega))); (focus (first | assumption | omega | decide | (simp; done) | (simp; omega))))
  | ((with_reducible refine u_add ?_ ?_ ?_); (focus (first | assumption | omega | decide | (simp; done) | (simp; omega))); (focus (first | assumption | omega | decide | (simp; done) | (simp; omega))))
  | ((with_reducible refine u_addH ?_ ?_ ?_); (focus (first | assumption | omega | decide | (simp; done) | (simp; omega))); (focus (first | assumption | omega | decide | (simp; done) | (simp; omega))))
  | ((with_reducible apply u_isletA); (focus (first | assumption | omega | decide | (simp; done) | (simp; omega))); (focus (first | assumption | omega | decide | (simp; done) | (simp; omega))); (focus (first | assumption | omega | decide | (simp; done) | (simp; omega))); (focus (first | assumption | omega | decide | (simp; done) | (simp; omega))); (focus (first | assumption | omega | decide | (simp; done) | (simp; omega))))
  | ((with_reducible apply u_metA); (focus (first | assumption | omega | decide | (simp; done) | (simp; omega))); (focus (first | assumption | omega | decide | (simp; done) | (simp; omega))); (focus (first | assumption | omega | decide | (simp; done) | (simp; omega))); (focus (first | assumption | omega | decide | (simp; done) | (simp; omega))); (focus (first | assumption | omega | decide | (simp; done) | (simp; omega))); (focus (first | assumption | omega | decide | (simp; done) | (simp; omega))))
  | ((with_reducible refine u_lets1 ?_ ?_ ?_); (focus (first | assumption | omega | decide | (simp; done) | (simp; omega))); (focus (first | assumption | omega | decide | (simp; done) | (simp; omega))))
  | ((with_reducible refine u_lets1H ?_ ?_ ?_ ?_); (focus (first | assumption | omega | decide | (simp; done) | (simp; omega))); (focus (first | assumption | omega | decide | (simp; done) | (simp; omega))); (focus (first | assumption | omega | decide | (simp; done) | (simp; omega))))
  | ((with_reducible refine u_letsPH ?_ ?_ ?_ ?_ ?_ ?_); (focus (first | assumption | omega | decide | (simp; done) | (simp; omega))); (focus (first | assumption | omega | decide | (simp; done) | (simp; omega))); (focus (first | assumption | omega | decide | (simp; done) | (simp; omega))); (focus (first | assumption | omega | decide | (simp; done) | (simp; omega))); (focus (first | assumption | omega | decide | (simp; done) | (simp; omega))))
  | ((with_reducible refine u_letsPa ?_ ?_ ?_); (focus (first | assumption | omega | decide | (simp; done) | (simp; omega))); (focus (first | assumption | omega | decide | (simp; done) | (simp; omega))))
  | ((with_reducible refine u_letsPn ?_ ?_ ?_ ?_ ?_); (focus (first | assumption | omega | decide | (simp; done) | (simp; omega))); (focus (first | assumption | omega | decide | (simp; done) | (simp; omega))); (focus (first | assumption | omega | decide | (simp; done) | (simp; omega))); (focus (first | assumption | omega | decide | (simp; done) | (simp; omega))))
  | ((with_reducible refine u_letsPb ?_ ?_ ?_ ?_ ?_ ?_); (focus (first | assumption | omega | decide | (simp; done) | (simp; omega))); (focus (first | assumption | omega | decide | (simp; done) | (simp; omega))); (focus (first | assumption | omega | decide | (simp; done) | (simp; omega))); (focus (first | assumption | omega | decide | (simp; done) | (simp; omega))); (focus (first | assumption | omega | decide | (simp; done) | (simp; omega))))
  | ((with_reducible refine u_letsPs ?_ ?_ ?_ ?_ ?_ ?_ ?_); (focus (first | assumption | omega | decide | (simp; done) | (simp; omega))); (focus (first | assumption | omega | decide | (simp; done) | (simp; omega))); (focus (first | assumption | omega | decide | (simp; done) | (simp; omega))); (focus (first | assumption | omega | decide | (simp; done) | (simp; omega))); (focus (first | assumption | omega | decide | (simp; done) | (simp; omega))); (focus (first | assumption | omega | decide | (simp; done) | (simp; omega))))
  | ((with_reducible refine u_letsS ?_ ?_ ?_); (focus (first | assumption | omega | decide | (simp; done) | (simp; omega))); (focus (first | assumption | omega | decide | (simp; done) | (simp; omega))))
  | ((with_reducible refine u_letsP ?_ ?_ ?_ ?_ ?_); (focus (first | assumption | omega | decide | (simp; done) | (simp; omega))); (focus (first | assumption | omega | decide | (simp; done) | (simp; omega))); (focus (first | assumption | omega | decide | (simp; done) | (simp; omega))); (focus (first | assumption | omega | decide | (simp; done) | (simp; omega))))
  | ((with_reducible apply u_line); (focus (first | assumption | omega | decide | (simp; done) | (simp; omega))); (focus (first | assumption | omega | decide | (simp; done) | (simp; omega))); (focus (first | assumption | omega | decide | (simp; done) | (simp; omega))))
  | ((with_reducible refine u_turnA ?_ ?_); (focus (first | assumption | omega | decide | (simp; done) | (simp; omega))))
  | ((with_reducible refine u_turnAH ?_ ?_); (focus (first | assumption | omega | decide | (simp; done) | (simp; omega))))
  | ((with_reducible refine u_turnQ ?_ ?_ ?_); (focus (first | assumption | omega | decide | (simp; done) | (simp; omega))); (focus (first | assumption | omega | decide | (simp; done) | (simp; omega))))
  | ((with_reducible refine u_turnQH ?_ ?_ ?_); (focus (first | assumption | omega | decide | (simp; done) | (simp; omega))); (focus (first | assumption | omega | decide | (simp; done) | (simp; omega))))
  | ((with_reducible refine u_turnQS ?_ ?_ ?_ ?_ ?_); (focus (first | assumption | omega | decide | (simp; done) | (simp; omega))); (focus (first | assumption | omega | decide | (simp; done) | (simp; omega))); (focus (first | assumption | omega | decide | (simp; done) | (simp; omega))); (focus (first | assumption | omega | decide | (simp; done) | (simp; omega))))
  | ((with_reducible refine u_places ?_ ?_ ?_ ?_ ?_); (focus (first | assumption | omega | decide | (simp; done) | (simp; omega))); (focus (first | assumption | omega | decide | (simp; done) | (simp; omega))); (focus (first | assumption | omega | decide | (simp; done) | (simp; omega))); (focus (first | assumption | omega | decide | (simp; done) | (simp; omega))))
  | ((with_reducible refine u_placesS ?_ ?_ ?_ ?_ ?_ ?_ ?_); (focus (first | assumption | omega | decide | (simp; done) | (simp; omega))); (focus (first | assumption | omega | decide | (simp; done) | (simp; omega))); (focus (first | assumption | omega | decide | (simp; done) | (simp; omega))); (focus (first | assumption | omega | decide | (simp; done) | (simp; omega))); (focus (first | assumption | omega | decide | (simp; done) | (simp; omega))); (focus (first | assumption | omega | decide | (simp; done) | (simp; omega))))
  | ((with_reducible refine u_parting ?_ ?_ ?_ ?_ ?_); (focus (first | assumption | omega | decide | (simp; done) | (simp; omega))); (focus (first | assumption | omega | decide | (simp; done) | (simp; omega))); (focus (first | assumption | omega | decide | (simp; done) | (simp; omega))); (focus (first | assumption | omega | decide | (simp; done) | (simp; omega))))
  | ((with_reducible refine u_pat ?_))
  | ((with_reducible refine u_bare ?_))
  | ((with_reducible refine u_has ?_ ?_ ?_); (focus (first | assumption | omega | decide | (simp; done) | (simp; omega))); (focus (first | assumption | omega | decide | (simp; done) | (simp; omega))))
  | ((with_reducible refine u_allOf ?_ ?_ ?_ ?_); (focus (first | assumption | omega | decide | (simp; done) | (simp; omega))); (focus (first | assumption | omega | decide | (simp; done) | (simp; omega))); (focus (first | assumption | omega | decide | (simp; done) | (simp; omega))))
  | ((with_reducible apply u_leastOf); (focus (first | assumption | omega | decide | (simp; done) | (simp; omega))); (focus (first | assumption | omega | decide | (simp; done) | (simp; omega))); (focus (first | assumption | omega | decide | (simp; done) | (simp; omega))); (focus (first | assumption | omega | decide | (simp; done) | (simp; omega))); (focus (first | assumption | omega | decide | (simp; done) | (simp; omega))))
  | ((with_reducible refine u_depIn ?_ ?_); (focus (first | assumption | omega | decide | (simp; done) | (simp; omega))))
  | ((with_reducible refine u_depOf ?_ ?_ ?_); (focus (first | assumption | omega | decide | (simp; done) | (simp; omega))); (focus (first | assumption | omega | decide | (simp; done) | (simp; omega))))
  | ((with_reducible refine u_depOfH ?_ ?_ ?_); (focus (first | assumption | omega | decide | (simp; done) | (simp; omega))); (focus (first | assumption | omega | decide | (simp; done) | (simp; omega))))
  | ((with_reducible refine u_sameMany ?_ ?_ ?_ ?_ ?_); (focus (first | assumption | omega | decide | (simp; done) | (simp; omega))); (focus (first | assumption | omega | decide | (simp; done) | (simp; omega))); (focus (first | assumption | omega | decide | (simp; done) | (simp; omega))); (focus (first | assumption | omega | decide | (simp; done) | (simp; omega))))
  | ((with_reducible refine u_settledN ?_ ?_ ?_ ?_); (focus (first | assumption | omega | decide | (simp; done) | (simp; omega))); (focus (first | assumption | omega | decide | (simp; done) | (simp; omega))); (focus (first | assumption | omega | decide | (simp; done) | (simp; omega))))
  | ((with_reducible refine u_isBlk ?_))
  | ((with_reducible refine u_depB ?_ ?_ ?_ ?_); (focus (first | assumption | omega | decide | (simp; done) | (simp; omega))); (focus (first | assumption | omega | decide | (simp; done) | (simp; omega))); (focus (first | assumption | omega | decide | (simp; done) | (simp; omega))))
  | ((with_reducible refine u_ct ?_ ?_ ?_ ?_); (focus (first | assumption | omega | decide | (simp; done) | (simp; omega))); (focus (first | assumption | omega | decide | (simp; done) | (simp; omega))); (focus (first | assumption | omega | decide | (simp; done) | (simp; omega))))
  | ((with_reducible refine u_cb ?_ ?_ ?_ ?_); (focus (first | assumption | omega | decide | (simp; done) | (simp; omega))); (focus (first | assumption | omega | decide | (simp; done) | (simp; omega))); (focus (first | assumption | omega | decide | (simp; done) | (simp; omega))))
  | with_reducible refine dun_neg ?_
  | with_reducible refine tgA2 ?_
  | with_reducible refine tgA3 ?_
  | with_reducible refine tgEx2 ?_
  | with_reducible refine tgEx3 ?_
  | with_reducible refine tgEx4 ?_
  | with_reducible refine tgT2 ?_
  | with_reducible refine tgT3 ?_
  | with_reducible refine tgL2 ?_
  | with_reducible refine tgT4 ?_
  | refine ⟨_, (Or.inl rfl : DL.D.lst _ = DL.D.lst _ ∨ _), ?_⟩
  | refine ⟨_, (Or.inr rfl : _ ∨ DL.D.tup _ = DL.D.tup _), ?_⟩
  | with_reducible refine xin_no ?_
  | with_reducible refine xr_no ?_
  | refine ⟨(rfl : DL.D.ref _ = DL.D.ref _), ?_⟩
  | refine ⟨(rfl : DL.D.ty _ = Option.some _), ?_⟩
  | refine ⟨Qn.ty _, ?_⟩
  | refine ⟨(by simp : List.length _ ≤ 100000), ?_⟩
  | refine ⟨(by simp : List.length _ = _), ?_⟩
  | with_reducible refine wo_none ?_
  | with_reducible refine wo_some ?_
  | refine ⟨_, rfl, ?_⟩))
local macro_rules | `(tactic| walk_at "side") => `(tactic| first | assumption | omega | decide | (simp; done) | (simp; omega))
section
variable {P : Program} {w : World} {K : PySem.W.Frag} {mg : Str → Option Value} {base : Heap}
abbrev s_law_pool : Stmt := topS 23
theorem sc_law_pool : FnScope ["script", "spot", "cell"] ["script", "spot"] (defScope s_law_pool) := ⟨rfl, rfl, rfl, by decide +kernel, rfl, by decide +kernel, by decide +kernel⟩
theorem ok_law_pool {f : Addr} {fd : FuncData} (T : Txt K mg) (F : Fun K "_law_pool" "_law_pool" s_law_pool f fd) : FnOk P w K mg base CX0 1 f fd ["script", "spot"] (spPool K) := by
  refine F.ok sc_law_pool (fun vs H Q E h => ?_) (fun cdv A outer s H vs Q E hr h => ?_)
  · obtain ⟨a, ns, i, rfl, _⟩ := h
    rfl
  · obtain ⟨a, ns, i, rfl, hS, hi, k⟩ := h
    refine ⟨_, (pss_cons (ps_set (i := 2) sc_law_pool.nd rfl (Or.inl rfl) pe_int) (pss_cons (ps_if (pt_cmpR op_ltQ (pv 1) (pe_callB (call_lenK (K := K) rfl) (by rfl) T.n_len PySem.boot_len (pa_cons (pv 0) pa_nil)) (nomark _)) (pss_one (ps_set (i := 2) sc_law_pool.nd rfl (Or.inl rfl) (pe_ix (ix_K (K := K) rfl) (pv 0) (pv 1) (fun _ _ => rfl)))) pss_nil) (pss_one (ps_ret (pe_lst (pa_cons (pe_callB (call_max2 rfl) (by rfl) T.n_max (by decide +kernel) (pa_cons pe_int (pa_cons (pe_op op_sub (pe_callB call_abs (by rfl) T.n_abs (by decide +kernel) (pa_cons (pv 2) pa_nil)) (pe_op op_powB pe_int pe_int)) pa_nil))) (pa_cons (pe_op (op_addK (K := K) rfl) (pe_op op_mod (pe_callTy call_int1 (by rfl) T.n_int (by decide +kernel) (pa_cons (pv 2) pa_nil)) pe_int) (pe_op op_mulQ pe_int (pe_op (op_addK (K := K) rfl) (pv 1) pe_int))) (pa_cons pe_int pa_nil)))))))), ?_⟩
    have hm : (0 : Int) < 2305843009213693951 := by decide
    refine ⟨_, rfl, _, rfl, _, _, rfl, .inl ⟨_, hS, rfl⟩, .inl ⟨_, _, rfl, rfl, _, rfl, ?_⟩⟩
    refine ite2 (fun h => ?_) (fun h => ?_)
    · have hl : i < ns.length := by
        have := of_decide_eq_true h
        rw [List.length_map] at this
        omega
      refine ⟨_, rfl, _, rfl, .inl ⟨a, _, _, .int ns[i], rfl, rfl, hS, atI_nat rfl (by simp [hl]), ?_⟩⟩
      refine ⟨_, rfl, _, rfl, _, _, rfl, rfl, cpw (j := 18) (k := 4) (by decide) (by decide), _, _, rfl, rfl, _, _, rfl, ?_⟩
      refine ⟨_, rfl, .inl ⟨_, rfl, _, _, rfl, rfl, hm, _, rfl, .inl (.inl ⟨_, _, rfl, rfl, .inl ⟨_, _, rfl, rfl, ?_, .inl (.inl ⟨_, _, rfl, rfl, ?_⟩)⟩⟩)⟩⟩
      · exact wide_mul (a := 23) (b := 7) (by decide) (by omega) (by decide) (by decide) (by decide)
      · refine ⟨by show 3 ≤ sizeLine; decide, fun p hp => k p _ _ _ hp (fun b o e => by rw [upd_ne (ne_of_none e hp)]; exact e) upd_same ?_ ?_ ?_⟩
        · split <;> omega
        · have := Int.emod_nonneg ns[i] (show (2305843009213693951 : Int) ≠ 0 by decide)
          omega
        · have := Int.emod_lt_of_pos ns[i] hm
          omega
    · refine ⟨_, rfl, _, rfl, _, _, rfl, rfl, cpw (j := 18) (k := 4) (by decide) (by decide), _, _, rfl, rfl, _, _, rfl, ?_⟩
      refine ⟨_, rfl, .inl ⟨_, rfl, _, _, rfl, rfl, hm, _, rfl, .inl (.inl ⟨_, _, rfl, rfl, .inl ⟨_, _, rfl, rfl, ?_, .inl (.inl ⟨_, _, rfl, rfl, ?_⟩)⟩⟩)⟩⟩
      · exact wide_mul (a := 23) (b := 7) (by decide) (by omega) (by decide) (by decide) (by decide)
      · refine ⟨by show 3 ≤ sizeLine; decide, fun p hp => k p _ _ _ hp (fun b o e => by rw [upd_ne (ne_of_none e hp)]; exact e) upd_same ?_ ?_ ?_⟩
        · decide
        · have := Int.emod_nonneg 0 (show (2305843009213693951 : Int) ≠ 0 by decide)
          omega
        · have := Int.emod_lt_of_pos 0 hm
          omega
abbrev s_law_draw : Stmt := topS 24
theorem sc_law_draw : FnScope ["pool", "span", "drawn", "mixed"] ["pool", "span"] (defScope s_law_draw) := ⟨rfl, rfl, rfl, by decide +kernel, rfl, by decide +kernel, by decide +kernel⟩
theorem ok_law_draw {f : Addr} {fd : FuncData} (T : Txt K mg) (F : Fun K "_law_draw" "_law_draw" s_law_draw f fd) : FnOk P w K mg base CX0 1 f fd ["pool", "span"] (ResSp K poolRes drawS) := by
  refine F.ok sc_law_draw (fun vs H Q E h => ?_) (fun cdv A outer s H vs Q E hr h => ?_)
  · obtain ⟨p, ds, n, P, XP, hf, H0, _, _, ra, _⟩ := h
    rw [ra.len]
    obtain ⟨span, rfl, _⟩ := hf
    rfl
  · refine ⟨_, (pss_cons (ps_if (pt_cmpR op_gt (pe_ix (ix_K (K := K) rfl) (pv 0) pe_int (fun _ _ => rfl)) pe_int (nomark _)) (pss_cons (ps_set (i := 2) sc_law_draw.nd rfl (Or.inl rfl) (pe_op op_mod (pe_callTy call_int1 (by rfl) T.n_int (by decide +kernel) (pa_cons (pe_ix (ix_K (K := K) rfl) (pv 0) pe_int (fun _ _ => rfl)) pa_nil)) (pv 1))) (pss_cons (ps_asg (pe_op op_fdivW (pe_ix (ix_K (K := K) rfl) (pv 0) pe_int (fun _ _ => rfl)) (pv 1)) (pg_sub (pv 0) pe_int set_list)) (pss_one (ps_ret (pv 2))))) pss_nil) (pss_cons (ps_asg (pe_op (op_addK (K := K) rfl) (pe_ix (ix_K (K := K) rfl) (pv 0) pe_int (fun _ _ => rfl)) pe_int) (pg_sub (pv 0) pe_int set_list)) (pss_cons (ps_set (i := 3) sc_law_draw.nd rfl (Or.inl rfl) (pe_op op_mod (pe_callTy call_int1 (by rfl) T.n_int (by decide +kernel) (pa_cons (pe_op op_powB (pe_op (op_addK (K := K) rfl) (pe_ix (ix_K (K := K) rfl) (pv 0) pe_int (fun _ _ => rfl)) (pe_op op_mulQ pe_int (pe_ix (ix_K (K := K) rfl) (pv 0) pe_int (fun _ _ => rfl)))) pe_int) pa_nil)) pe_int)) (pss_cons (ps_set (i := 3) sc_law_draw.nd rfl (Or.inl rfl) (pe_op op_mod (pe_callTy call_int1 (by rfl) T.n_int (by decide +kernel) (pa_cons (pe_op op_powB (pe_op (op_addK (K := K) rfl) (pv 3) (pe_op op_mulQ pe_int (pe_ix (ix_K (K := K) rfl) (pv 0) pe_int (fun _ _ => rfl)))) pe_int) pa_nil)) pe_int)) (pss_one (ps_ret (pe_op op_mod (pe_callTy call_int1 (by rfl) T.n_int (by decide +kernel) (pa_cons (pe_op op_fdivW (pv 3) pe_int) pa_nil)) (pv 1)))))))), ?_⟩
    obtain ⟨p, ds, n, P, XP, hf, H0, sub, av, ra, rs, kQ, kX⟩ := h
    obtain ⟨span, rfl, hs0, hs1, hn, kP⟩ := hf
    have n0 : H0 p = none := av p rfl
    cases ra with
    | cons r1 ra =>
    cases ra with
    | cons r2 ra =>
    cases ra
    cases r2
    have hv := r1.refOf
    subst hv
    obtain ⟨a, b, m, hp, ha, hb, hb2, hm, hmn⟩ := rs
    have hP : (0 : Int) < 162259276829213363391578010288127 := by decide
    have hP2 : (0 : Int) < 170141183460469231731687303715884105727 := by decide
    have hq : SqL K H p [.int a, .int b, .int m] := .inl (.inl hp)
    have fin : ∀ (a' b' m' z : Int) (H' : Hp), H' = upd H p (.lst [.int a', .int b', .int m']) → 0 ≤ a' → 0 ≤ b' → b' < 2 ^ 62 → 0 ≤ m' → m' ≤ m + 1 → 0 ≤ z → z < span → Q (.int z) H' := fun a' b' m' z H' e q1 q2 q3 q4 q5 q6 q7 => by
      subst e
      refine kQ _ (n - 1) _ H0 _ (kP z q6 q7) ⟨Same.refl _, fun x o h => ?_, fun x o h hx => by rw [upd_ne hx]; exact h, fun _ _ h => h, fun x hx => av x hx, ⟨a', b', m', upd_same, q1, q2, q3, q4, pool_dec hmn hn q5⟩⟩ (.int z)
      rw [upd_ne (ne_of_none h n0)]
      exact sub x o h
    have hlog : ∀ x : Int, 0 < x → x ≤ 10 ^ 70 → CDivW 0 x := fun x h1 h2 => wide_div (i := 0) (b := 240) h1 (by
      have : x.natAbs ≤ 10 ^ 70 := by omega
      exact Nat.lt_of_le_of_lt this (by decide)) (by decide) (by decide)
    refine ⟨_, rfl, .inl ⟨p, _, 0, _, rfl, rfl, hq, rfl, _, _, rfl, rfl, _, rfl, ?_⟩⟩
    refine ite2 (fun h => ?_) (fun h => ?_)
    · have h0 := of_decide_eq_true h
      refine ⟨_, rfl, .inl ⟨p, _, 0, _, rfl, rfl, hq, rfl, .inl ⟨_, rfl, _, rfl, _, _, rfl, rfl, hs0, ?_⟩⟩⟩
      refine ⟨_, rfl, .inl ⟨p, _, 0, _, rfl, rfl, hq, rfl, _, rfl, _, _, rfl, rfl, hlog span hs0 hs1, _, rfl, p, _, 0, 0, rfl, rfl, hp, rfl, _, rfl, ?_⟩⟩
      exact fin (a / span) b m _ _ rfl (Int.ediv_nonneg ha (by omega)) hb hb2 hm (by omega) (Int.emod_nonneg _ (by omega)) (Int.emod_lt_of_pos _ hs0)
    · have hq1 : SqL K (upd H p (.lst [.int a, .int b, .int (m + 1)])) p [.int a, .int b, .int (m + 1)] := .inl (.inl upd_same)
      have nat1 : ∀ x : Int, 0 ≤ x → x < 2 ^ 120 → x.natAbs < 2 ^ 120 := fun x h1 h2 => by omega
      have mul1 : ∀ x : Int, 0 ≤ x → x < 2 ^ 30 → CMulW x (m + 1) := fun x h1 h2 => wide_mul (a := 30) (b := 60) (by omega) (by omega) (by decide) (by decide) (by decide)
      have bnd : ∀ x y : Int, 0 ≤ x → x ≤ 2 ^ 110 → 0 ≤ y → y < 2 ^ 30 → 0 ≤ x + y * (m + 1) ∧ x + y * (m + 1) < 2 ^ 120 := fun x y h1 h2 h3 h4 => by
        have e1 : 0 ≤ y * (m + 1) := Int.mul_nonneg h3 (by omega)
        have e2 : y * (m + 1) ≤ 2 ^ 30 * 2 ^ 60 := Int.mul_le_mul (by omega) (by omega) (by omega) (by decide)
        omega
      refine ⟨_, rfl, .inl ⟨p, _, 2, _, rfl, rfl, hq, rfl, .inl (.inl ⟨_, _, rfl, rfl, _, rfl, p, _, 2, 2, rfl, rfl, hp, rfl, ?_⟩)⟩⟩
      obtain ⟨b1, b2⟩ := bnd b 15485863 hb (by omega) (by decide) (by decide)
      refine ⟨_, rfl, .inl ⟨p, _, 1, _, rfl, rfl, hq1, rfl, _, rfl, .inl ⟨p, _, 2, _, rfl, rfl, hq1, rfl, .inl ⟨_, _, rfl, rfl, mul1 _ (by decide) (by decide), .inl (.inl ⟨_, _, rfl, rfl, _, _, rfl, rfl, cpw (j := 3) (nat1 _ b1 b2) (by decide), .inl ⟨_, rfl, _, _, rfl, rfl, hP, ?_⟩⟩)⟩⟩⟩⟩
      have c1 := Int.emod_nonneg ((b + 15485863 * (m + 1)) ^ (3 : Int).toNat) (show (162259276829213363391578010288127 : Int) ≠ 0 by decide)
      have c2 := Int.emod_lt_of_pos ((b + 15485863 * (m + 1)) ^ (3 : Int).toNat) hP
      obtain ⟨d1, d2⟩ := bnd _ 32452843 c1 (Int.le_of_lt (Int.lt_trans c2 (by decide))) (by decide) (by decide)
      refine ⟨_, rfl, _, rfl, .inl ⟨p, _, 2, _, rfl, rfl, hq1, rfl, .inl ⟨_, _, rfl, rfl, mul1 _ (by decide) (by decide), .inl (.inl ⟨_, _, rfl, rfl, _, _, rfl, rfl, cpw (j := 3) (nat1 _ d1 d2) (by decide), .inl ⟨_, rfl, _, _, rfl, rfl, hP2, ?_⟩⟩)⟩⟩⟩
      refine ⟨_, rfl, _, _, rfl, rfl, hlog _ (by decide) (by decide), .inl ⟨_, rfl, _, rfl, _, _, rfl, rfl, hs0, ?_⟩⟩
      exact fin a b (m + 1) _ _ rfl ha hb hb2 (by omega) (by omega) (Int.emod_nonneg _ (by omega)) (Int.emod_lt_of_pos _ hs0)
abbrev s_law_line : Stmt := topS 25
theorem sc_law_line : FnScope ["pool", "names", "longest", "turn"] ["pool", "names", "longest"] (defScope s_law_line) := ⟨rfl, rfl, rfl, by decide +kernel, rfl, by decide +kernel, by decide +kernel⟩
theorem ok_law_line {f f1 : Addr} {fd fd1 : FuncData} (T : Txt K mg) (F : Fun K "_law_line" "_law_line" s_law_line f fd) (C_law_draw : Callee P w K mg base CX0 "_law_draw" ["pool", "span"] 1 (ResSp K poolRes drawS) f1 fd1) : FnOk P w K mg base CX0 2 f fd ["pool", "names", "longest"] (ResSp K poolRes lineS) := by
  refine ok_res lineS F sc_law_line (fun p ds n P X h => by obtain ⟨_, _, _, rfl, _⟩ := h; rfl) fun cdv A outer s H E hr => ⟨_, (pss_one (ps_ret (pe_joinK (K := K) rfl pe_str (pe_lc (own := [("turn", 3)]) rfl sc_law_line.nd (pi_range1 (by rfl) T.n_range (pa_cons (pe_call C_law_draw.ok (hr.mono (by first | decide | omega)) (by rfl) C_law_draw.mg C_law_draw.kp C_law_draw.bd .nil (C_law_draw.ps _ rfl rfl) (pa_cons (pv 0) (pa_cons (pe_op (op_addK (K := K) rfl) (pv 2) pe_int) pa_nil))) pa_nil)) (blkOk_by (own := [("turn", 3)]) (N := ["pool", "names", "longest", "turn"]) (sc := defScope s_law_line) (by decide +kernel)) (fun _ _ _ _ _ => (pg_name (i := 3) sc_law_line.nd rfl (by first | exact Or.inl rfl | exact Or.inr rfl))) (fun _ _ _ _ _ => pts_nil) (fun _ _ _ _ _ => (pe_ix (ix_K (K := K) rfl) (pv 1) (pe_call C_law_draw.ok (hr.mono (by first | decide | omega)) (by rfl) C_law_draw.mg C_law_draw.kp C_law_draw.bd .nil (C_law_draw.ps _ rfl rfl) (pa_cons (pv 0) (pa_cons (pe_callB (call_lenK (K := K) rfl) (by rfl) T.n_len PySem.boot_len (pa_cons (pv 1) pa_nil)) pa_nil))) (fun _ _ => rfl))))))), fun p ds (n : Nat) (Q : Sl → Nat → Prop) XP h H0 okX => ?_⟩
  obtain ⟨names, A, L, rfl, ⟨hA0, hA1, hN⟩, hL, hn, k⟩ := h
  have hA2 : 0 < A.length := List.length_pos_iff.mpr hA0
  change DL.WS _ _ [.dat _, .dat _, .dat _, .un] _ _
  walk_at "dls"
  refine we_lc rfl (wi_range1 ?_)
  walk_at "dls"
  refine ⟨by omega, by omega, fun z hz0 hz1 => ?_⟩
  walk_at "dls"
  refine ⟨by omega, by omega, ?_⟩
  refine ⟨by rw [rangeD_len]; omega, fun i acc (si : Nat) => acc.length = i ∧ n ≤ si + 1 + i ∧ ∃ l : List Nat, (∀ a ∈ l, a ∈ A) ∧ acc = l.map fun a => D.str ⟨#[a]⟩, ⟨rfl, by omega, [], by simp, rfl⟩, fun i d acc (si : Nat) hd hl hI => ?_, fun acc (sn : Nat) hl hI => ?_⟩
  · obtain ⟨hi, rfl⟩ := rangeD_get hd
    obtain ⟨h1, h2, l, hA, rfl⟩ := hI
    refine ⟨[3], _, tg_name (by simp), by simp, rfl, ?_⟩
    walk_at "dls"
    refine iteT ?_
    have fin : ∀ a ∈ A, (l.map fun a => D.str ⟨#[a]⟩) ++ [D.str ⟨#[a]⟩] = (l ++ [a]).map fun a => D.str ⟨#[a]⟩ := fun a _ => by simp
    have fin2 : ∀ a ∈ A, ((l.map fun a => D.str ⟨#[a]⟩) ++ [D.str ⟨#[a]⟩]).length = i + 1 ∧ n ≤ (si - 1) + 1 + (i + 1) ∧ ∃ l1 : List Nat, (∀ a ∈ l1, a ∈ A) ∧ (l.map fun a => D.str ⟨#[a]⟩) ++ [D.str ⟨#[a]⟩] = l1.map fun a => D.str ⟨#[a]⟩ := fun a ha =>
      ⟨by rw [List.length_append, h1]; rfl, by omega, l ++ [a], fun b hb => by
        rcases List.mem_append.mp hb with hb | hb
        · exact hA b hb
        · rw [List.mem_singleton.mp hb]
          exact ha, fin a ha⟩
    rcases hN with rfl | rfl
    · walk_at "dls"
      refine dl_str (by show A.toArray.size ≤ 1000000; simp; omega) ?_
      walk_at "dls"
      have e : (PySem.Str.length ⟨A.toArray⟩ : Nat) = A.length := by simp [PySem.Str.length]
      rw [e]
      refine ⟨by omega, by omega, fun y hy0 hy1 => ?_⟩
      walk_at "dls"
      obtain ⟨m, rfl⟩ := Int.eq_ofNat_of_zero_le hy0
      have hm : m < A.length := by omega
      refine di_str (a := A[m]) (by show A.toArray.size ≤ 1000000; simp; omega) (atI_nat rfl (by simp [hm])) ?_
      exact fin2 _ (List.getElem_mem hm)
    · walk_at "dls"
      rw [List.length_map]
      refine ⟨by omega, by omega, fun y hy0 hy1 => ?_⟩
      walk_at "dls"
      obtain ⟨m, rfl⟩ := Int.eq_ofNat_of_zero_le hy0
      have hm : m < A.length := by omega
      refine di_lst (d := .str ⟨#[A[m]]⟩) (atI_nat rfl (by simp [hm])) ?_
      exact fin2 _ (List.getElem_mem hm)
  · obtain ⟨h1, h2, l, hA, rfl⟩ := hI
    rw [rangeD_len] at h1 h2
    rw [List.length_map] at h1
    walk_at "dls"
    have e : (l.map fun a => D.str ⟨#[a]⟩) = (l.map fun a => (⟨#[a]⟩ : Str)).map D.str := by simp
    refine ⟨l.map fun a => ⟨#[a]⟩, congrArg D.lst e, ?_, ?_⟩
    · have e0 : (PySem.Str.ofString "").length = 0 := by decide +kernel
      rw [lens_one, e0]
      omega
    · rw [join_letters]
      refine k _ sn ⟨?_, ?_⟩ ?_
      · simpa using hA
      · show l.toArray.size ≤ L
        simp
        omega
      · omega
abbrev s_check_letters : Stmt := topS 16
theorem sc_check_letters : FnScope ["row", "letters", "index", "sign"] ["row", "letters"] (defScope s_check_letters) := ⟨rfl, rfl, rfl, by decide +kernel, rfl, by decide +kernel, by decide +kernel⟩
theorem ok_check_letters {f : Addr} {fd : FuncData} (T : Txt K mg) (F : Fun K "check_letters" "check_letters" s_check_letters f fd) : FnOk P w K mg base CX0 1 f fd ["row", "letters"] (PureSp K check_lettersS) := by
  refine ok_pure check_lettersS F sc_check_letters (fun ds P X h => by obtain ⟨l, m, rfl, _⟩ := h; rfl) fun cdv A outer s H E hr => ⟨_, (pss_one (ps_for PassesOwn.never rfl (pi_enumK (K := K) rfl (by rfl) T.n_enumerate (pa_cons (pv 0) pa_nil)) (pg_tupK (K := K) (n := 2) rfl rfl (pgs_cons (pg_name (i := 2) sc_check_letters.nd rfl (by first | exact Or.inl rfl | exact Or.inr rfl)) (pgs_cons (pg_name (i := 3) sc_check_letters.nd rfl (by first | exact Or.inl rfl | exact Or.inr rfl)) pgs_nil))) (pss_one (ps_if (pt_cmpR (op_notInK (K := K) rfl (hu65 hr)) (pv 3) (pv 1) rfl) (pss_one ps_never) pss_nil)))), fun ds Q XP h H0 okX => ?_⟩
  obtain ⟨l, m, rfl, hm, k⟩ := h
  /- 0:row 1:letters 2:index 3:sign -/
  change DL.WS _ _ [.dat _, .dat _, .un, .un] _ _
  refine ws_forN [2, 3] rfl (wi_enS ?_)
  walk_at "dls"
  refine ⟨fun _ _ => True, trivial, fun i d si hd _ => ?_, fun Gn sn _ _ => k⟩
  obtain ⟨e, he, rfl⟩ := enumD_get hd
  obtain ⟨a, ha, rfl⟩ : ∃ a, l[i]? = some a ∧ e = .str ⟨#[a]⟩ := by
    unfold signsD rowS at he
    rw [List.getElem?_map] at he
    cases h : l[i]? with
    | none => simp [h] at he
    | some a =>
      simp [h] at he
      exact ⟨a, rfl, he.symm⟩
  refine ⟨[2, 3], _, tg_tup rfl (.cons (by simp) (.cons (by simp) .nil)), ?_⟩
  walk_at "dls"
  refine dnin_sign ?_
  walk_at "dls"
  have hin : a ∈ (rowS m).cps.toList := by
    simp [rowS]
    exact hm a (List.mem_of_getElem? ha)
  rw [decide_eq_true hin]
  refine iteF ?_
  walk_at "dls"
  exact ⟨rfl, trivial⟩
abbrev s_check_row : Stmt := topS 17
theorem sc_check_row : FnScope ["row"] ["row"] (defScope s_check_row) := ⟨rfl, rfl, rfl, by decide +kernel, rfl, by decide +kernel, by decide +kernel⟩
theorem ok_check_row {f f1 : Addr} {fd fd1 : FuncData} (T : Txt K mg) (F : Fun K "check_row" "check_row" s_check_row f fd) (C_check_letters : Callee P w K mg base CX0 "check_letters" ["row", "letters"] 1 (PureSp K check_lettersS) f1 fd1) : FnOk P w K mg base CX0 2 f fd ["row"] (PureSp K check_rowS) := by
  refine ok_pure check_rowS F sc_check_row (fun ds P X h => by obtain ⟨l, rfl, _⟩ := h; rfl) fun cdv A outer s H E hr => ⟨_, (pss_one (ps_expr (pe_call C_check_letters.ok (hr.mono (by first | decide | omega)) (by rfl) C_check_letters.mg C_check_letters.kp C_check_letters.bd .nil (C_check_letters.ps _ rfl rfl) (pa_cons (pv 0) (pa_cons (pe_globS rfl T.g_LETTERS) pa_nil))))), fun ds Q XP h H0 okX => ?_⟩
  obtain ⟨l, rfl, hm, k⟩ := h
  change DL.WS _ _ [.dat _] _ _
  refine ws_drop (we_callF ?_)
  walk_at "dls"
  exact ⟨fun _ _ => False, .inl fun _ _ z => z, l, _, by rw [← rowS_of], hm.1, k⟩
abbrev s_check_depth : Stmt := topS 18
theorem sc_check_depth : FnScope ["depth"] ["depth"] (defScope s_check_depth) := ⟨rfl, rfl, rfl, by decide +kernel, rfl, by decide +kernel, by decide +kernel⟩
theorem ok_check_depth {f : Addr} {fd : FuncData} (T : Txt K mg) (F : Fun K "check_depth" "check_depth" s_check_depth f fd) : FnOk P w K mg base CX0 1 f fd ["depth"] (PureSp K check_depthS) := by
  refine ok_pure check_depthS F sc_check_depth (fun ds P X h => by obtain ⟨l, rfl, _⟩ := h; rfl) fun cdv A outer s H E hr => ⟨_, (pss_one (ps_if (pt_cmpR op_ltQ (pv 0) pe_int (nomark _)) (pss_one ps_never) pss_nil)), fun ds Q XP h H0 okX => ?_⟩
  obtain ⟨d, rfl, k⟩ := h
  change DL.WS _ _ [.dat _] _ _
  walk_at "dls"
  rw [decide_eq_false (show ¬ ((d : Nat) : Int) < 0 by omega)]
  refine iteF ?_
  walk_at "dls"
  exact k
abbrev s_Joints_number_of_all : Stmt := inClass (topS 20) 1
theorem sc_Joints_number_of_all : FnScope ["self", "triples", "depth", "key", "triple"] ["self", "triples", "depth"] (defScope s_Joints_number_of_all) := ⟨rfl, rfl, rfl, by decide +kernel, rfl, by decide +kernel, by decide +kernel⟩
theorem ok_Joints_number_of_all {f  C_Joints : Addr} {fd  : FuncData} (T : Txt K mg) (kc_Joints : JCls K C_Joints) (F : Fun K "number_of_all" "Joints.number_of_all" s_Joints_number_of_all f fd)  : FnOk P w K mg base CX0 (1) f fd ["self", "triples", "depth"] (JSp P w K C_Joints naS) := by
  refine ok_joi fun jj => ok_res (r := joiRes P w K C_Joints jj) naS F sc_Joints_number_of_all (fun p ds st P X h => by revert h; walk_at "hl") fun cdv A outer s H E hr => ⟨_, (pss_cons (ps_set (i := 3) sc_Joints_number_of_all.nd rfl (Or.inl rfl) (pe_tup (pa_cons (pv 2) (pa_cons (pe_callTy (call_tupleK (K := K) rfl) (by rfl) T.n_tuple (by decide +kernel) (pa_cons (pe_callB (call_sort3 hr.units rfl) (by rfl) T.n_sorted (by decide +kernel) (pa_cons (pe_dcT (own := [("triple", 4)]) hr.units rfl sc_Joints_number_of_all.nd (pi_anyK (K := K) rfl (pv 1)) (blkOk_by (own := [("triple", 4)]) (N := ["self", "triples", "depth", "key", "triple"]) (sc := defScope s_Joints_number_of_all) (by decide +kernel)) (fun _ _ _ _ _ => (pg_name (i := 4) sc_Joints_number_of_all.nd rfl (by first | exact Or.inl rfl | exact Or.inr rfl))) (fun _ _ _ _ _ => (pv 4)) (fun _ _ _ _ _ => pe_bl)) pa_nil)) pa_nil)) pa_nil)))) (pss_cons (ps_if (pt_cmp (pc_nnotin hr.units (K := K) rfl (pv 3) (pe_fldK (K := K) rfl (pv 0) rfl))) (pss_cons (ps_nput hr.units (K := K) rfl (pe_fldK (K := K) rfl (pv 0) rfl) (pv 3) (pe_callB (call_lenK (K := K) rfl) (by rfl) T.n_len PySem.boot_len (pa_cons (pe_fldK (K := K) rfl (pv 0) rfl) pa_nil)) rfl) (pss_one (ps_expr (pe_appK (K := K) rfl (pe_fldK (K := K) rfl (pv 0) rfl) (pa_cons (pe_ix (ix_K (K := K) rfl) (pv 3) pe_int (fun _ _ => rfl)) pa_nil))))) pss_nil) (pss_one (ps_ret (pe_nget hr.units (K := K) rfl (pe_fldK (K := K) rfl (pv 0) rfl) (pv 3) (fun _ _ => rfl)))))), fun p ds (st : JSt) (Q : Sl → JSt → Prop) XP h H0 okX => ?_⟩
  obtain ⟨u, t, d, l, ms, rfl, hl, hJ, hT, hc, k⟩ := h
  /- 0:self 1:triples 2:depth 3:key 4:triple -/
  change DL.WS _ _ [.dat _, .dat _, .dat _, .un, .un] _ _
  refine ws_seq (ws_asg (we_tup (wa_cons (we_var rfl (fz_dat (wa_cons (we_canon (ms := ms) rfl hl (by simp) (fz_dat (wa_nil ⟨by simp, ?_⟩)))))))))
  have get : ∀ (G : List Sl) (i : Nat) (t' : JTab) (st' : JSt), G[0]? = some (.dat (.ref p)) → G[3]? = some (.dat (jkey (d + 1, canonS ms))) → JOk u t' st' → t <+: t' → t'[i]? = some (d + 1, canonS ms) →
      WS (resCt K (joiRes P w K C_Joints jj) p H0 H E XP okX) (tRet (tNGet P w K (tFld K (tVar 0) "spots") (tVar 3))) G st' { nx := fun _ s1 => Q (.dat .non) s1, rt := Q } := fun G i t' st' g0 g3 hJ' pre hi => by
    refine ws_ret (we_nget (jc0.part subJs) (we_fldJs jc0 kc_Joints (we_var g0 (fz_dat ⟨rfl, fz_dat ⟨rfl, we_var g3 (fz_dat ⟨jkey_ok _, _, hJ'.has hi, ?_⟩)⟩⟩))))
    exact k _ t' st' hJ' pre (jk_at (hT.mono fun _ _ z => JK.mono pre z) hi)
  refine ws_seq (ws_if (wt_test (we_nnotin (jc0.part subJs) (we_var rfl (fz_dat ⟨jkey_ok (d + 1, canonS ms), we_fldJs jc0 kc_Joints (we_var rfl (fz_dat ⟨rfl, fz_dat ⟨rfl, fz_dat ⟨_, rfl, ?_⟩⟩⟩))⟩)))))
  show if (!(dAt st.1.2 (jkey (d + 1, canonS ms))).isSome) = true then _ else _
  by_cases hin : (d + 1, canonS ms) ∈ t
  · obtain ⟨i, hi⟩ := List.mem_iff_getElem?.mp hin
    rw [hJ.has hi]
    refine iteF (ws_next ?_)
    exact get _ i t st rfl rfl hJ List.prefix_rfl hi
  · rw [hJ.no hin]
    refine iteT ?_
    refine ws_seq (ws_nput (jc0.part subJs) (we_lenL (jc0.part subJt) (we_fldJt jc0 kc_Joints (we_var rfl (fz_dat ⟨rfl, fz_dat ⟨rfl, fz_dat (we_fldJs jc0 kc_Joints (we_var rfl (fz_dat ⟨rfl, fz_dat ⟨rfl, we_var rfl (fz_dat ⟨jkey_ok (d + 1, canonS ms), ?_, ?_⟩)⟩⟩)))⟩⟩)))))
    · show st.1.2.length < 1000000
      rw [hJ.sp, spOf_len]
      have := hJ.tlen
      have := hJ.ulen
      omega
    · refine ws_appL (jc0.part subJt) ?_
      walk_at "v"
      have hlen : st.1.1.2.length = t.length := by rw [hJ.tr, List.length_map]
      have h1 := hJ.tlen
      have h2 := hJ.ulen
      refine ⟨by show st.1.1.2.length ≤ _; omega, fun v => ?_⟩
      have hN := hJ.newA hT hc hin v
      rw [← hlen] at hN
      exact get _ t.length (t ++ [(d + 1, canonS ms)]) _ rfl rfl hN (List.prefix_append _ _) (by simp)
abbrev s_Joints_empty : Stmt := inClass (topS 20) 2
theorem sc_Joints_empty : FnScope ["self", "depth"] ["self", "depth"] (defScope s_Joints_empty) := ⟨rfl, rfl, rfl, by decide +kernel, rfl, by decide +kernel, by decide +kernel⟩
theorem ok_Joints_empty {f f_Joints_number_of_all C_Joints : Addr} {fd fd_Joints_number_of_all : FuncData} (T : Txt K mg) (kc_Joints : JCls K C_Joints) (F : Fun K "empty" "Joints.empty" s_Joints_empty f fd) (M_Joints_number_of_all : MCallee P w K mg base CX0 C_Joints "number_of_all" ["self", "triples", "depth"] 1 (JSp P w K C_Joints naS) f_Joints_number_of_all fd_Joints_number_of_all) : FnOk P w K mg base CX0 (2) f fd ["self", "depth"] (JSp P w K C_Joints emptyS) := by
  refine ok_joi fun jj => ok_res (r := joiRes P w K C_Joints jj) emptyS F sc_Joints_empty (fun p ds st P X h => by revert h; walk_at "hl") fun cdv A outer s H E hr => ⟨_, (pss_one (ps_ret (pe_ifExp (pt_cmpR (op_eqK (K := K) rfl hr.units) (pv 1) pe_int (nomark _)) pe_int (pe_meth (pv 0) kc_Joints.cls M_Joints_number_of_all.me M_Joints_number_of_all.ok (hr.mono (by first | decide | omega)) M_Joints_number_of_all.bd .nil (M_Joints_number_of_all.ps _ rfl rfl) (pa_cons (pe_lst pa_nil) (pa_cons (pv 1) pa_nil)))))), fun p ds (st : JSt) (Q : Sl → JSt → Prop) XP h H0 okX => ?_⟩
  obtain ⟨u, t, d, rfl, hJ, hc, k⟩ := h
  /- 0:self 1:depth -/
  change DL.WS _ _ [.dat _, .dat _] _ _
  cases d with
  | zero =>
    walk_at "v"
    exact k 0 t st hJ List.prefix_rfl rfl
  | succ d =>
    walk_at "v"
    exact u_na (ms := []) d [] rfl rfl (by simp) hJ jtr_nil hc k
abbrev s_Joints_lower : Stmt := inClass (topS 20) 3
theorem sc_Joints_lower : FnScope ["self", "number", "depth", "triples", "ahead", "letter", "behind"] ["self", "number", "depth"] (defScope s_Joints_lower) := ⟨rfl, rfl, rfl, by decide +kernel, rfl, by decide +kernel, by decide +kernel⟩
theorem ok_Joints_lower {f f_Joints_number_of_all C_Joints : Addr} {fd fd_Joints_number_of_all : FuncData} {D k : Nat} (T : Txt K mg) (kc_Joints : JCls K C_Joints) (F : Fun K "lower" "Joints.lower" s_Joints_lower f fd) (hk : 2 ≤ k) (M_Joints_lower : MCallee P w K mg base CX0 C_Joints "lower" ["self", "number", "depth"] k (JSp P w K C_Joints (lowerS D)) f fd) (M_Joints_number_of_all : MCallee P w K mg base CX0 C_Joints "number_of_all" ["self", "triples", "depth"] 1 (JSp P w K C_Joints naS) f_Joints_number_of_all fd_Joints_number_of_all) : FnOk P w K mg base CX0 (k + 1) f fd ["self", "number", "depth"] (JSp P w K C_Joints (lowerS (D + 1))) := by
  refine ok_joi fun jj => ok_res (r := joiRes P w K C_Joints jj) (lowerS (D + 1)) F sc_Joints_lower (fun p ds st P X h => by revert h; walk_at "hl") fun cdv A outer s H E hr => ⟨_, (pss_cons (ps_if (pt_cmpR (op_eqK (K := K) rfl hr.units) (pv 2) pe_int (nomark _)) (pss_one (ps_ret pe_int)) pss_nil) (pss_cons (ps_if (pt_cmp (pc_dnotin (hu_of hr) (pv 1) (pe_fldK (K := K) rfl (pv 0) rfl))) (pss_cons (ps_set (i := 3) sc_Joints_lower.nd rfl (Or.inl rfl) (pe_lst pa_nil)) (pss_cons (ps_for PassesOwn.never rfl (pi_anyK (K := K) rfl (pe_ix (ix_K (K := K) rfl) (pe_fldK (K := K) rfl (pv 0) rfl) (pv 1) (fun _ _ => rfl))) (pg_tupK (K := K) (n := 3) rfl rfl (pgs_cons (pg_name (i := 4) sc_Joints_lower.nd rfl (by first | exact Or.inl rfl | exact Or.inr rfl)) (pgs_cons (pg_name (i := 5) sc_Joints_lower.nd rfl (by first | exact Or.inl rfl | exact Or.inr rfl)) (pgs_cons (pg_name (i := 6) sc_Joints_lower.nd rfl (by first | exact Or.inl rfl | exact Or.inr rfl)) pgs_nil)))) (pss_one (ps_expr (pe_appK (K := K) rfl (pv 3) (pa_cons (pe_tup (pa_cons (pe_meth (pv 0) kc_Joints.cls M_Joints_lower.me M_Joints_lower.ok (hr.mono (by first | decide | omega)) M_Joints_lower.bd .nil (M_Joints_lower.ps _ rfl rfl) (pa_cons (pv 4) (pa_cons (pe_op op_sub (pv 2) pe_int) pa_nil))) (pa_cons (pv 5) (pa_cons (pe_meth (pv 0) kc_Joints.cls M_Joints_lower.me M_Joints_lower.ok (hr.mono (by first | decide | omega)) M_Joints_lower.bd .nil (M_Joints_lower.ps _ rfl rfl) (pa_cons (pv 6) (pa_cons (pe_op op_sub (pv 2) pe_int) pa_nil))) pa_nil)))) pa_nil))))) (pss_one (ps_dput (hu_of hr) (pe_fldK (K := K) rfl (pv 0) rfl) (pv 1) (pe_meth (pv 0) kc_Joints.cls M_Joints_number_of_all.me M_Joints_number_of_all.ok (hr.mono (by first | decide | omega)) M_Joints_number_of_all.bd .nil (M_Joints_number_of_all.ps _ rfl rfl) (pa_cons (pv 3) (pa_cons (pe_op op_sub (pv 2) pe_int) pa_nil))) rfl)))) pss_nil) (pss_one (ps_ret (pe_dget (hu_of hr) (pe_fldK (K := K) rfl (pv 0) rfl) (pv 1) (fun _ _ => rfl)))))), fun p ds (st : JSt) (Q : Sl → JSt → Prop) XP h H0 okX => ?_⟩
  obtain ⟨d, hd, u, t, l, n, rfl, hJ, hk, hc, k⟩ := h
  /- 0:self 1:number 2:depth 3:triples 4:ahead 5:letter 6:behind -/
  change DL.WS _ _ [.dat _, .dat _, .dat _, .un, .un, .un, .un] _ _
  cases d with
  | zero =>
    walk_at "v"
    exact k 0 t st hJ List.prefix_rfl rfl
  | succ d =>
    walk_at "v"
    have get : ∀ (G : List Sl) (x : Int) (t' : JTab) (st' : JSt), G[0]? = some (.dat (.ref p)) → G[1]? = some (.dat (.int n)) → JOk u t' st' → t <+: t' → diAt st'.2.1 n = some x →
        WS (resCt K (joiRes P w K C_Joints jj) p H0 H E XP okX) (tRet (tDGet (tFld K (tVar 0) "lowered") (tVar 1))) G st' { nx := fun _ s1 => Q (.dat .non) s1, rt := Q } := fun G x t' st' g0 g1 hJ' pre hx => by
      refine ws_ret (we_diget (jc0.part subJl) (we_fldJl jc0 kc_Joints (we_var g0 (fz_dat ⟨rfl, fz_dat ⟨rfl, we_var g1 (fz_dat ⟨n, x, rfl, hx, ?_⟩)⟩⟩))))
      exact k x t' st' hJ' pre (hJ'.lowGet (hk.mono pre) hx)
    cases hx : diAt st.2.1 n with
    | some x =>
      refine iteT (ws_next ?_)
      exact get _ x t st rfl rfl hJ List.prefix_rfl hx
    | none =>
      refine iteF ?_
      obtain ⟨T, hT, hat, h0⟩ := hJ.trAt hk
      have hTl := hT.canon.len hJ.nd (canonS_nodup T)
      have hcl := hc.len
      refine ws_seq (ws_asg ?_)
      walk_at "v"
      refine ws_seqFor (canonS T) m3D [4, 5, 6] [4, 5, 6] (fun (acc : List M3) => [.dat (.ref p), .dat (.int n), .dat (.int ((d + 1 + 1 : Nat) : Int)), .own (.lst (acc.map m3D)), .un, .un, .un]) (fun (acc : List M3) (m : M3) => [.dat (.ref p), .dat (.int n), .dat (.int ((d + 1 + 1 : Nat) : Int)), .own (.lst (acc.map m3D)), .dat (.int m.1), .dat (.str m.2.1), .dat (.int m.2.2)])
        (fun i acc (st' : JSt) => ∃ t', JOk u t' st' ∧ t <+: t' ∧ acc.length = i ∧ Paired (fun (m m' : M3) => m'.2.1 = m.2.1 ∧ ∀ i a : Nat, l[i]? = some a → JK t (d + 1) (l.take i) m.1 → JK t (d + 1) (l.drop (i + 1)) m.2.2 → JK t' d (l.take i) m'.1 ∧ JK t' d (l.drop (i + 1)) m'.2.2) ((canonS T).take i) acc) [] rfl rfl ?_ (fun acc m => tg_tup rfl (.cons (by simp) (.cons (by simp) (.cons (by simp) .nil)))) (fun i m acc (si : JSt) hm hI => ?_) fun acc (sn : JSt) hI => ?_
      · refine wi_t (we_ixL (jc0.part subJt) ?_)
        walk_at "v"
        refine ⟨n, _, rfl, atI_nat (Int.toNat_of_nonneg h0).symm hat, fz_dat ⟨_, rfl, rfl, t, hJ, List.prefix_rfl, rfl, .nil⟩⟩
      · obtain ⟨t1, hJ1, pre1, hlen, hp⟩ := hI
        have hil : i < (canonS T).length := (List.getElem?_eq_some_iff.mp hm).1
        obtain ⟨j, a, q1, q2, q3, q4⟩ := hT.canon.2 m (List.mem_of_getElem? hm)
        refine ws_app rfl (by rw [List.length_map]; omega) ?_
        walk_at "v"
        refine u_lower d (l.take j) (by omega) (by omega) hJ1 (q3.mono pre1) ((hc.take j).less (by omega)) fun x t2 s2 hJ2 pre2 hx2 => ?_
        walk_at "v"
        refine u_lower d (l.drop (j + 1)) (by omega) (by omega) hJ2 (q4.mono (pre1.trans pre2)) ((hc.drop (j + 1)).less (by omega)) fun y t3 s3 hJ3 pre3 hy3 => ?_
        walk_at "v"
        refine ⟨acc ++ [(x, m.2.1, y)], by rw [List.map_append]; rfl, t3, hJ3, pre1.trans (pre2.trans pre3), by simp [hlen], ?_⟩
        rw [List.take_add_one, hm]
        refine (Paired.mapP hp fun _ _ q => ⟨q.1, fun i b h1 h2 h3 => ⟨(q.2 i b h1 h2 h3).1.mono (pre2.trans pre3), (q.2 i b h1 h2 h3).2.mono (pre2.trans pre3)⟩⟩).snoc ⟨rfl, fun i b h1 h2 h3 => ⟨?_, ?_⟩⟩
        · exact JK.low hJ.nd hJ3.nd q3 h2 (hx2.mono pre3)
        · exact JK.low hJ.nd hJ3.nd q4 h3 hy3
      · obtain ⟨t1, hJ1, pre1, hlen, hp⟩ := hI
        rw [List.take_length] at hp
        have hv := JTr.via (f' := JK t1 d) (fun i => l.take i) (fun i => l.drop (i + 1)) hT.canon hp
        refine ws_freeze 3 rfl ?_
        refine ws_nx ?_
        refine ws_diput (jc0.part subJl) ?_
        walk_at "v"
        refine u_na d l rfl (by omega) (by omega) hJ1 hv hc fun x t2 s2 hJ2 pre2 hx2 => fz_dat ⟨x, rfl, ?_⟩
        walk_at "v"
        refine ⟨hJ2.lolen, ?_⟩
        have hJ3 := hJ2.lowPut2 (hk.mono (pre1.trans pre2)) hx2
        refine get _ x t2 _ rfl rfl hJ3 (pre1.trans pre2) diPut_at
theorem all_Joints_lower {f f_Joints_number_of_all C_Joints : Addr} {fd fd_Joints_number_of_all : FuncData} (T : Txt K mg) (kc_Joints : JCls K C_Joints) (F : Fun K "lower" "Joints.lower" s_Joints_lower f fd) (M_Joints_number_of_all : MCallee P w K mg base CX0 C_Joints "number_of_all" ["self", "triples", "depth"] 1 (JSp P w K C_Joints naS) f_Joints_number_of_all fd_Joints_number_of_all) (ha : PySem.W.findIn K (.ref C_Joints) "lower" = some (some (.ref f))) (hi : PySem.W.isFn K (.ref f) = true) (kp : PySem.W.keepIn K (.ref f) = true) (bd : Binds K fd ["self", "number", "depth"] []) : ∀ D : Nat, MCallee P w K mg base CX0 C_Joints "lower" ["self", "number", "depth"] (2 + D) (JSp P w K C_Joints (lowerS D)) f fd
  | 0 => mkM (FnOk_none fun vs H Q E h => by revert h; walk_at "rec0") ha hi kp bd
  | D + 1 => mkM (ok_Joints_lower T kc_Joints F (Nat.le_add_right _ _) (all_Joints_lower T kc_Joints F M_Joints_number_of_all ha hi kp bd D) M_Joints_number_of_all) ha hi kp bd
abbrev s_Joints_together : Stmt := inClass (topS 20) 4
theorem sc_Joints_together : FnScope ["self", "one", "other", "depth", "triples", "first", "last", "ahead", "letter", "behind"] ["self", "one", "other", "depth"] (defScope s_Joints_together) := ⟨rfl, rfl, rfl, by decide +kernel, rfl, by decide +kernel, by decide +kernel⟩
theorem ok_Joints_together {f f_Joints_lower f_Joints_number_of_all C_Joints : Addr} {fd fd_Joints_lower fd_Joints_number_of_all : FuncData} {D k : Nat} (T : Txt K mg) (kc_Joints : JCls K C_Joints) (F : Fun K "together" "Joints.together" s_Joints_together f fd) (hk : 10 ≤ k) (M_Joints_together : MCallee P w K mg base CX0 C_Joints "together" ["self", "one", "other", "depth"] k (JSp P w K C_Joints (togS D)) f fd) (M_Joints_lower : MCallee P w K mg base CX0 C_Joints "lower" ["self", "number", "depth"] 9 (JSp P w K C_Joints (lowerS 7)) f_Joints_lower fd_Joints_lower) (M_Joints_number_of_all : MCallee P w K mg base CX0 C_Joints "number_of_all" ["self", "triples", "depth"] 1 (JSp P w K C_Joints naS) f_Joints_number_of_all fd_Joints_number_of_all) : FnOk P w K mg base CX0 (k + 1) f fd ["self", "one", "other", "depth"] (JSp P w K C_Joints (togS (D + 1))) := by
  refine ok_joi fun jj => ok_res (r := joiRes P w K C_Joints jj) (togS (D + 1)) F sc_Joints_together (fun p ds st P X h => by revert h; walk_at "hl") fun cdv A outer s H E hr => ⟨_, (pss_cons (ps_if (pt_cmpR (op_eqK (K := K) rfl hr.units) (pv 3) pe_int (nomark _)) (pss_one (ps_ret pe_int)) pss_nil) (pss_cons (ps_if (pt_cmp (pc_dnotin (hu_of hr) (pe_tup (pa_cons (pv 1) (pa_cons (pv 2) pa_nil))) (pe_fldK (K := K) rfl (pv 0) rfl))) (pss_cons (ps_par3 (i := 4) (j := 5) (l := 6) (by rfl) sc_Joints_together.nd rfl rfl rfl (by decide) (by decide) (by decide) rfl rfl rfl (pa_cons (pe_lst pa_nil) (pa_cons (pe_meth (pv 0) kc_Joints.cls M_Joints_lower.me M_Joints_lower.ok (hr.mono (by first | decide | omega)) M_Joints_lower.bd .nil (M_Joints_lower.ps _ rfl rfl) (pa_cons (pv 1) (pa_cons (pv 3) pa_nil))) (pa_cons (pe_meth (pv 0) kc_Joints.cls M_Joints_lower.me M_Joints_lower.ok (hr.mono (by first | decide | omega)) M_Joints_lower.bd .nil (M_Joints_lower.ps _ rfl rfl) (pa_cons (pv 2) (pa_cons (pv 3) pa_nil))) pa_nil))) (by rfl)) (pss_cons (ps_for PassesOwn.never rfl (pi_anyK (K := K) rfl (pe_ix (ix_K (K := K) rfl) (pe_fldK (K := K) rfl (pv 0) rfl) (pv 1) (fun _ _ => rfl))) (pg_tupK (K := K) (n := 3) rfl rfl (pgs_cons (pg_name (i := 7) sc_Joints_together.nd rfl (by first | exact Or.inl rfl | exact Or.inr rfl)) (pgs_cons (pg_name (i := 8) sc_Joints_together.nd rfl (by first | exact Or.inl rfl | exact Or.inr rfl)) (pgs_cons (pg_name (i := 9) sc_Joints_together.nd rfl (by first | exact Or.inl rfl | exact Or.inr rfl)) pgs_nil)))) (pss_one (ps_expr (pe_appK (K := K) rfl (pv 4) (pa_cons (pe_tup (pa_cons (pv 7) (pa_cons (pv 8) (pa_cons (pe_meth (pv 0) kc_Joints.cls M_Joints_together.me M_Joints_together.ok (hr.mono (by first | decide | omega)) M_Joints_together.bd .nil (M_Joints_together.ps _ rfl rfl) (pa_cons (pv 9) (pa_cons (pv 6) (pa_cons (pe_op op_sub (pv 3) pe_int) pa_nil)))) pa_nil)))) pa_nil))))) (pss_cons (ps_for PassesOwn.never rfl (pi_anyK (K := K) rfl (pe_ix (ix_K (K := K) rfl) (pe_fldK (K := K) rfl (pv 0) rfl) (pv 2) (fun _ _ => rfl))) (pg_tupK (K := K) (n := 3) rfl rfl (pgs_cons (pg_name (i := 7) sc_Joints_together.nd rfl (by first | exact Or.inl rfl | exact Or.inr rfl)) (pgs_cons (pg_name (i := 8) sc_Joints_together.nd rfl (by first | exact Or.inl rfl | exact Or.inr rfl)) (pgs_cons (pg_name (i := 9) sc_Joints_together.nd rfl (by first | exact Or.inl rfl | exact Or.inr rfl)) pgs_nil)))) (pss_one (ps_expr (pe_appK (K := K) rfl (pv 4) (pa_cons (pe_tup (pa_cons (pe_meth (pv 0) kc_Joints.cls M_Joints_together.me M_Joints_together.ok (hr.mono (by first | decide | omega)) M_Joints_together.bd .nil (M_Joints_together.ps _ rfl rfl) (pa_cons (pv 5) (pa_cons (pv 7) (pa_cons (pe_op op_sub (pv 3) pe_int) pa_nil)))) (pa_cons (pv 8) (pa_cons (pv 9) pa_nil)))) pa_nil))))) (pss_one (ps_dput (hu_of hr) (pe_fldK (K := K) rfl (pv 0) rfl) (pe_tup (pa_cons (pv 1) (pa_cons (pv 2) pa_nil))) (pe_meth (pv 0) kc_Joints.cls M_Joints_number_of_all.me M_Joints_number_of_all.ok (hr.mono (by first | decide | omega)) M_Joints_number_of_all.bd .nil (M_Joints_number_of_all.ps _ rfl rfl) (pa_cons (pv 4) (pa_cons (pv 3) pa_nil))) rfl))))) pss_nil) (pss_one (ps_ret (pe_dget (hu_of hr) (pe_fldK (K := K) rfl (pv 0) rfl) (pe_tup (pa_cons (pv 1) (pa_cons (pv 2) pa_nil))) (fun _ _ => rfl)))))), fun p ds (st : JSt) (Q : Sl → JSt → Prop) XP h H0 okX => ?_⟩
  obtain ⟨d, hd, h6, u, t, l, m, x, y, rfl, hJ, hx, hy, hc, k⟩ := h
  /- 0:self 1:one 2:other 3:depth 4:triples 5:first 6:last 7:ahead 8:letter 9:behind -/
  change DL.WS _ _ [.dat _, .dat _, .dat _, .dat _, .un, .un, .un, .un, .un, .un] _ _
  cases d with
  | zero =>
    walk_at "v"
    exact k 0 t st hJ List.prefix_rfl rfl
  | succ d =>
    have get : ∀ (G : List Sl) (t' : JTab) (st' : JSt) (v : DL.D), G[0]? = some (.dat (.ref p)) → G[1]? = some (.dat (.int x)) → G[2]? = some (.dat (.int y)) → JOk u t' st' → t <+: t' → dtAt st'.2.2 [.inl x, .inl y] = some v →
        WS (resCt K (joiRes P w K C_Joints jj) p H0 H E XP okX) (tRet (tDGet (tFld K (tVar 0) "joined") (tTup (tCons (tVar 1) (tCons (tVar 2) tNil))))) G st' { nx := fun _ s1 => Q (.dat .non) s1, rt := Q } := fun G t' st' v g0 g1 g2 hJ' pre hv => by
      obtain ⟨c, rfl, hc'⟩ := hJ'.joinGet (hx.mono pre) (hy.mono pre) hv
      refine ws_ret (we_dtget (jc0.part subJj) (we_fldJj jc0 kc_Joints (we_var g0 (fz_dat ⟨rfl, fz_dat ⟨rfl, wa_cons (we_var g1 (fz_dat (wa_cons (we_var g2 (fz_dat (wa_nil ⟨[.inl x, .inl y], .int c, rfl, (by show 2 ≤ 1000; decide), hv, ?_⟩))))))⟩⟩))))
      exact k c t' st' hJ' pre hc'
    walk_at "v"
    refine ⟨[.inl x, .inl y], rfl, (by show 2 ≤ 1000; decide), ?_⟩
    walk_at "v"
    cases hv : dtAt st.2.2 [.inl x, .inl y] with
    | some v =>
      refine iteT (ws_next ?_)
      exact get _ t st v rfl rfl rfl hJ List.prefix_rfl hv
    | none =>
      refine iteF ?_
      walk_at "v"
      refine u_lower d l rfl (by omega) hJ hx ((hc.left).less (by omega)) fun f t1 s1 hJ1 pre1 hf => ?_
      walk_at "v"
      refine u_lower d m rfl (by omega) hJ1 (hy.mono pre1) ((hc.right).less (by omega)) fun g t2 s2 hJ2 pre2 hg => ?_
      walk_at "v"
      have hf2 := hf.mono pre2
      have pre12 := pre1.trans pre2
      obtain ⟨T1, hT1, hat1, h01⟩ := hJ2.trAt (hx.mono pre12)
      have hTl1 := hT1.canon.len hJ2.nd (canonS_nodup T1)
      have hcl := hc.left.len
      have hcr := hc.right.len
      refine ws_seqFor (canonS T1) m3D [7, 8, 9] [7, 8, 9] (fun (acc : List M3) => [.dat (.ref p), .dat (.int x), .dat (.int y), .dat (.int ((d + 1 : Nat) : Int)), .own (.lst (acc.map m3D)), .dat (.int f), .dat (.int g), .un, .un, .un]) (fun (acc : List M3) (q : M3) => [.dat (.ref p), .dat (.int x), .dat (.int y), .dat (.int ((d + 1 : Nat) : Int)), .own (.lst (acc.map m3D)), .dat (.int f), .dat (.int g), .dat (.int q.1), .dat (.str q.2.1), .dat (.int q.2.2)])
        (fun i acc (st' : JSt) => ∃ t', JOk u t' st' ∧ t2 <+: t' ∧ acc.length = i ∧ Paired (fun (q q' : M3) => q'.2.1 = q.2.1 ∧ ∀ i a : Nat, l[i]? = some a → JK t2 d (l.take i) q.1 → JK t2 d (l.drop (i + 1)) q.2.2 → JK t' d (l.take i) q'.1 ∧ JK t' d (l.drop (i + 1) ++ m) q'.2.2) ((canonS T1).take i) acc) [] rfl rfl ?_ (fun acc m => tg_tup rfl (.cons (by simp) (.cons (by simp) (.cons (by simp) .nil)))) (fun i q acc (si : JSt) hq hI => ?_) fun acc (sn : JSt) hI => ?_
      · refine wi_t (we_ixL (jc0.part subJt) ?_)
        walk_at "v"
        refine ⟨x, _, rfl, atI_nat (Int.toNat_of_nonneg h01).symm hat1, fz_dat ⟨_, rfl, rfl, t2, hJ2, List.prefix_rfl, rfl, .nil⟩⟩
      · obtain ⟨t3, hJ3, pre3, hlen, hp⟩ := hI
        have hil : i < (canonS T1).length := (List.getElem?_eq_some_iff.mp hq).1
        obtain ⟨j, a, q1, q2, q3, q4⟩ := hT1.canon.2 q (List.mem_of_getElem? hq)
        refine ws_app rfl (by rw [List.length_map]; omega) ?_
        walk_at "v"
        refine u_tog d (l.drop (j + 1)) m (by omega) (by omega) (by omega) hJ3 (q4.mono pre3) (hg.mono pre3) ((hc.sub ?_).less (by omega)) fun z t4 s4 hJ4 pre4 hz => ?_
        · exact ⟨l.take (j + 1), [], by rw [List.append_nil, ← List.append_assoc, List.take_append_drop]⟩
        walk_at "v"
        refine ⟨acc ++ [(q.1, q.2.1, z)], by rw [List.map_append]; rfl, t4, hJ4, pre3.trans pre4, by simp [hlen], ?_⟩
        rw [List.take_add_one, hq]
        refine (Paired.mapP hp fun _ _ w => ⟨w.1, fun i b h1 h2 h3 => ⟨(w.2 i b h1 h2 h3).1.mono pre4, (w.2 i b h1 h2 h3).2.mono pre4⟩⟩).snoc ⟨rfl, fun i b h1 h2 h3 => ⟨?_, ?_⟩⟩
        · exact h2.mono (pre3.trans pre4)
        · exact hz.alike hJ4.nd (Alike.app ((jk_iff hJ2.nd q4 h3).mp rfl) (Alike.refl _ _))
      · obtain ⟨t3, hJ3, pre3, hlen, hp⟩ := hI
        rw [List.take_length] at hp
        have hA := JTr.via (f' := JK t3 d) (fun i => l.take i) (fun i => l.drop (i + 1) ++ m) hT1.canon hp
        refine ws_nx ?_
        have pre13 := pre12.trans pre3
        have hf3 := hf2.mono pre3
        obtain ⟨T2, hT2, hat2, h02⟩ := hJ3.trAt (hy.mono pre13)
        have hTl2 := hT2.canon.len hJ3.nd (canonS_nodup T2)
        refine ws_seqFor (canonS T2) m3D [7, 8, 9] [7, 8, 9] (fun (acc2 : List M3) => [.dat (.ref p), .dat (.int x), .dat (.int y), .dat (.int ((d + 1 : Nat) : Int)), .own (.lst ((acc ++ acc2).map m3D)), .dat (.int f), .dat (.int g), .un, .un, .un]) (fun (acc2 : List M3) (q : M3) => [.dat (.ref p), .dat (.int x), .dat (.int y), .dat (.int ((d + 1 : Nat) : Int)), .own (.lst ((acc ++ acc2).map m3D)), .dat (.int f), .dat (.int g), .dat (.int q.1), .dat (.str q.2.1), .dat (.int q.2.2)])
          (fun i acc2 (st' : JSt) => ∃ t', JOk u t' st' ∧ t3 <+: t' ∧ acc2.length = i ∧ Paired (fun (q q' : M3) => q'.2.1 = q.2.1 ∧ ∀ i a : Nat, m[i]? = some a → JK t3 d (m.take i) q.1 → JK t3 d (m.drop (i + 1)) q.2.2 → JK t' d (l ++ m.take i) q'.1 ∧ JK t' d (m.drop (i + 1)) q'.2.2) ((canonS T2).take i) acc2) [] (by rw [List.append_nil]) rfl ?_ (fun acc m => tg_tup rfl (.cons (by simp) (.cons (by simp) (.cons (by simp) .nil)))) (fun i q acc2 (si : JSt) hq hI => ?_) fun acc2 (sn : JSt) hI => ?_
        · refine wi_t (we_ixL (jc0.part subJt) ?_)
          walk_at "v"
          refine ⟨y, _, rfl, atI_nat (Int.toNat_of_nonneg h02).symm hat2, fz_dat ⟨_, rfl, rfl, t3, hJ3, List.prefix_rfl, rfl, .nil⟩⟩
        · obtain ⟨t4, hJ4, pre4, hlen2, hp2⟩ := hI
          have hil : i < (canonS T2).length := (List.getElem?_eq_some_iff.mp hq).1
          obtain ⟨j, a, q1, q2, q3, q4⟩ := hT2.canon.2 q (List.mem_of_getElem? hq)
          refine ws_app rfl (by rw [List.length_map, List.length_append]; omega) ?_
          walk_at "v"
          refine u_tog d l (m.take j) (by omega) (by omega) (by omega) hJ4 (hf3.mono pre4) (q3.mono pre4) ((hc.sub ?_).less (by omega)) fun z t5 s5 hJ5 pre5 hz => ?_
          · exact ⟨[], m.drop j, by rw [List.nil_append, List.append_assoc, List.take_append_drop]⟩
          walk_at "v"
          refine ⟨acc2 ++ [(z, q.2.1, q.2.2)], by rw [← List.append_assoc, List.map_append (l₁ := acc ++ acc2)]; rfl, t5, hJ5, pre4.trans pre5, by simp [hlen2], ?_⟩
          rw [List.take_add_one, hq]
          refine (Paired.mapP hp2 fun _ _ w => ⟨w.1, fun i b h1 h2 h3 => ⟨(w.2 i b h1 h2 h3).1.mono pre5, (w.2 i b h1 h2 h3).2.mono pre5⟩⟩).snoc ⟨rfl, fun i b h1 h2 h3 => ⟨?_, ?_⟩⟩
          · exact hz.alike hJ5.nd (Alike.app (Alike.refl _ _) ((jk_iff hJ3.nd q3 h2).mp rfl))
          · exact h3.mono (pre4.trans pre5)
        · obtain ⟨t4, hJ4, pre4, hlen2, hp2⟩ := hI
          rw [List.take_length] at hp2
          have hB := JTr.via (f' := JK t4 d) (fun i => l ++ m.take i) (fun i => m.drop (i + 1)) hT2.canon hp2
          have hAB : JTr (JK t4 d) (l ++ m) (acc ++ acc2) := JTr.app ⟨fun i a h => by
            obtain ⟨x, y, h1, h2, h3⟩ := hA.1 i a h
            exact ⟨x, y, h1, h2.mono pre4, h3.mono pre4⟩, fun q hq => by
            obtain ⟨i, a, h1, h2, h3, h4⟩ := hA.2 q hq
            exact ⟨i, a, h1, h2, h3.mono pre4, h4.mono pre4⟩⟩ hB
          refine ws_freeze 4 rfl ?_
          refine ws_dtput (jc0.part subJj) ?_
          walk_at "v"
          refine u_na d (l ++ m) rfl rfl (by rw [List.length_append]; omega) hJ4 hAB hc fun z t5 s5 hJ5 pre5 hz => ?_
          walk_at "v"
          refine ⟨[.inl x, .inl y], rfl, (by show 2 ≤ 1000; decide), hJ5.jolen, ?_⟩
          have pre15 := pre13.trans (pre4.trans pre5)
          exact get _ t5 _ _ rfl rfl rfl (hJ5.joinPut2 hc (hx.mono pre15) (hy.mono pre15) hz) pre15 dtPut_at
theorem all_Joints_together {f f_Joints_lower f_Joints_number_of_all C_Joints : Addr} {fd fd_Joints_lower fd_Joints_number_of_all : FuncData} (T : Txt K mg) (kc_Joints : JCls K C_Joints) (F : Fun K "together" "Joints.together" s_Joints_together f fd) (M_Joints_lower : MCallee P w K mg base CX0 C_Joints "lower" ["self", "number", "depth"] 9 (JSp P w K C_Joints (lowerS 7)) f_Joints_lower fd_Joints_lower) (M_Joints_number_of_all : MCallee P w K mg base CX0 C_Joints "number_of_all" ["self", "triples", "depth"] 1 (JSp P w K C_Joints naS) f_Joints_number_of_all fd_Joints_number_of_all) (ha : PySem.W.findIn K (.ref C_Joints) "together" = some (some (.ref f))) (hi : PySem.W.isFn K (.ref f) = true) (kp : PySem.W.keepIn K (.ref f) = true) (bd : Binds K fd ["self", "one", "other", "depth"] []) : ∀ D : Nat, MCallee P w K mg base CX0 C_Joints "together" ["self", "one", "other", "depth"] (10 + D) (JSp P w K C_Joints (togS D)) f fd
  | 0 => mkM (FnOk_none fun vs H Q E h => by revert h; walk_at "rec0") ha hi kp bd
  | D + 1 => mkM (ok_Joints_together T kc_Joints F (Nat.le_add_right _ _) (all_Joints_together T kc_Joints F M_Joints_lower M_Joints_number_of_all ha hi kp bd D) M_Joints_lower M_Joints_number_of_all) ha hi kp bd
abbrev s_Joints_kind_of_row : Stmt := inClass (topS 20) 5
theorem sc_Joints_kind_of_row : FnScope ["self", "row", "depth", "found", "letter", "alone"] ["self", "row", "depth"] (defScope s_Joints_kind_of_row) := ⟨rfl, rfl, rfl, by decide +kernel, rfl, by decide +kernel, by decide +kernel⟩
theorem ok_Joints_kind_of_row {f f_Joints_empty f_Joints_together f_Joints_number_of_all C_Joints : Addr} {fd fd_Joints_empty fd_Joints_together fd_Joints_number_of_all : FuncData} (T : Txt K mg) (kc_Joints : JCls K C_Joints) (F : Fun K "kind_of_row" "Joints.kind_of_row" s_Joints_kind_of_row f fd) (M_Joints_empty : MCallee P w K mg base CX0 C_Joints "empty" ["self", "depth"] 2 (JSp P w K C_Joints emptyS) f_Joints_empty fd_Joints_empty) (M_Joints_together : MCallee P w K mg base CX0 C_Joints "together" ["self", "one", "other", "depth"] 17 (JSp P w K C_Joints (togS 7)) f_Joints_together fd_Joints_together) (M_Joints_number_of_all : MCallee P w K mg base CX0 C_Joints "number_of_all" ["self", "triples", "depth"] 1 (JSp P w K C_Joints naS) f_Joints_number_of_all fd_Joints_number_of_all) : FnOk P w K mg base CX0 (18) f fd ["self", "row", "depth"] (JSp P w K C_Joints (korS 7)) := by
  refine ok_joi fun jj => ok_res (r := joiRes P w K C_Joints jj) (korS 7) F sc_Joints_kind_of_row (fun p ds st P X h => by revert h; walk_at "hl") fun cdv A outer s H E hr => ⟨_, (pss_cons (ps_set (i := 3) sc_Joints_kind_of_row.nd rfl (Or.inl rfl) (pe_meth (pv 0) kc_Joints.cls M_Joints_empty.me M_Joints_empty.ok (hr.mono (by first | decide | omega)) M_Joints_empty.bd .nil (M_Joints_empty.ps _ rfl rfl) (pa_cons (pv 2) pa_nil))) (pss_cons (ps_for PassesOwn.never rfl (pi_anyK (K := K) rfl (pv 1)) (pg_name (i := 4) sc_Joints_kind_of_row.nd rfl (by first | exact Or.inl rfl | exact Or.inr rfl)) (pss_one (ps_if (pt_cmpR op_gt (pv 2) pe_int (nomark _)) (pss_cons (ps_set (i := 5) sc_Joints_kind_of_row.nd rfl (Or.inl rfl) (pe_tup (pa_cons (pe_meth (pv 0) kc_Joints.cls M_Joints_empty.me M_Joints_empty.ok (hr.mono (by first | decide | omega)) M_Joints_empty.bd .nil (M_Joints_empty.ps _ rfl rfl) (pa_cons (pe_op op_sub (pv 2) pe_int) pa_nil)) (pa_cons (pv 4) (pa_cons (pe_meth (pv 0) kc_Joints.cls M_Joints_empty.me M_Joints_empty.ok (hr.mono (by first | decide | omega)) M_Joints_empty.bd .nil (M_Joints_empty.ps _ rfl rfl) (pa_cons (pe_op op_sub (pv 2) pe_int) pa_nil)) pa_nil))))) (pss_one (ps_set (i := 3) sc_Joints_kind_of_row.nd rfl (Or.inl rfl) (pe_meth (pv 0) kc_Joints.cls M_Joints_together.me M_Joints_together.ok (hr.mono (by first | decide | omega)) M_Joints_together.bd .nil (M_Joints_together.ps _ rfl rfl) (pa_cons (pv 3) (pa_cons (pe_meth (pv 0) kc_Joints.cls M_Joints_number_of_all.me M_Joints_number_of_all.ok (hr.mono (by first | decide | omega)) M_Joints_number_of_all.bd .nil (M_Joints_number_of_all.ps _ rfl rfl) (pa_cons (pe_lst (pa_cons (pv 5) pa_nil)) (pa_cons (pv 2) pa_nil))) (pa_cons (pv 2) pa_nil))))))) pss_nil))) (pss_one (ps_ret (pv 3))))), fun p ds (st : JSt) (Q : Sl → JSt → Prop) XP h H0 okX => ?_⟩
  obtain ⟨u, t, l, d, rfl, hd, hl, hJ, hc, k⟩ := h
  /- 0:self 1:row 2:depth 3:found 4:letter 5:alone -/
  change DL.WS _ _ [.dat _, .dat _, .dat _, .un, .un, .un] _ _
  walk_at "v"
  refine u_empty d rfl hJ hc.nil fun x t1 s1 hJ1 pre1 hx => ?_
  walk_at "v"
  refine ws_forStr rfl (i0 := 4) (l := l) [4, 5] (fun (b : Int) => [.dat (.ref p), .dat (.str (rowS l)), .dat (.int ((d : Nat) : Int)), .dat (.int b), .un, .un]) (fun i b (st' : JSt) => ∃ t', JOk u t' st' ∧ t <+: t' ∧ JK t' d (l.take i) b) x rfl rfl rfl (fun b => by simp) ⟨t1, hJ1, pre1, hx⟩ (fun i a b si ha hI => ?_) fun b sn hI => ?_
  · obtain ⟨t2, hJ2, pre2, hb⟩ := hI
    have htk : l.take (i + 1) = l.take i ++ [a] := by
      rw [List.take_add_one, ha]
      rfl
    have hinf : l.take i ++ [a] <:+: l := ⟨[], l.drop (i + 1), by rw [List.nil_append, ← htk, List.take_append_drop]⟩
    cases d with
    | zero =>
      walk_at "v"
      exact ⟨t2, hJ2, pre2, hb⟩
    | succ d =>
      walk_at "v"
      refine u_empty d (by omega) hJ2 (hc.nil.less (by omega)) fun e t3 s3 hJ3 pre3 he => ?_
      walk_at "v"
      refine u_empty d (by omega) hJ3 (hc.nil.less (by omega)) fun e' t4 s4 hJ4 pre4 he' => ?_
      walk_at "v"
      refine u_na (ms := [(e, rowS [a], e')]) d [a] rfl rfl (by simp) hJ4 (jtr_one (he.mono pre4) he') ((hc.sub hinf).right) fun y t5 s5 hJ5 pre5 hy => ?_
      walk_at "v"
      refine u_tog (d + 1) (l.take i) [a] rfl (by omega) (by omega) hJ5 (hb.mono (pre3.trans (pre4.trans pre5))) hy (hc.sub hinf) fun z t6 s6 hJ6 pre6 hz => ?_
      walk_at "v"
      refine ⟨t6, hJ6, pre2.trans (pre3.trans (pre4.trans (pre5.trans pre6))), ?_⟩
      rw [htk]
      exact hz
  · obtain ⟨t2, hJ2, pre2, hb⟩ := hI
    rw [List.take_length] at hb
    walk_at "v"
    exact k b t2 sn hJ2 pre2 hb
abbrev s_Joints___init__ : Stmt := inClass (topS 20) 0
theorem sc_Joints___init__ : FnScope ["self"] ["self"] (defScope s_Joints___init__) := ⟨rfl, rfl, rfl, by decide +kernel, rfl, by decide +kernel, by decide +kernel⟩
theorem ok_Joints_init {f C_Joints : Addr} {fd : FuncData} (T : Txt K mg) (kc_Joints : JCls K C_Joints) (F : Fun K "__init__" "Joints.__init__" s_Joints___init__ f fd) : FnOk P w K mg base CX0 1 f fd ["self"] (spJ P w K C_Joints) := by
  refine F.ok sc_Joints___init__ (fun vs H Q E h => ?_) (fun cdv A outer s H vs Q E hr h => ?_)
  · obtain ⟨p, dx, vds, ds, H0, rfl, _, _, _, ra, rfl, _⟩ := h
    cases ra
    rfl
  · obtain ⟨p, dx, vds, ds, H0, rfl, hp, n0, sub, ra, rfl, k⟩ := h
    cases ra
    refine ⟨_, pss_cons (ps_asg (pe_tup (pa_cons (pe_lst (pa_cons (pe_tup pa_nil) pa_nil)) (pa_cons (pe_disp1N (by have := hr.units; first | assumption | omega) (pe_tup (pa_cons pe_int (pa_cons (pe_tup pa_nil) pa_nil))) pe_int) pa_nil))) (pg_tupK (K := K) rfl rfl (pgs_cons (pg_fldK (K := K) rfl (pv 0)) (pgs_cons (pg_fldK (K := K) rfl (pv 0)) pgs_nil)))) (pss_one (ps_asg (pe_tup (pa_cons pe_dnewK (pa_cons pe_dnewT pa_nil))) (pg_tupK (K := K) rfl rfl (pgs_cons (pg_fldK (K := K) rfl (pv 0)) (pgs_cons (pg_fldK (K := K) rfl (pv 0)) pgs_nil))))), ?_⟩
    have kp : ∀ b x, H b = some x → b ≠ p → H b = some x := fun _ _ h _ => h
    have hp' := hp
    refine ⟨by show 0 ≤ sizeLine; decide, fun e1 h1 => ?_⟩
    have kq : ∀ b x, H b = some x → upd H e1 (.tup []) b = some x := fun b x hb => upd_kp h1 hb
    have f_e1 : upd H e1 (.tup []) e1 = some (.tup []) := upd_same
    have n_e1 : H e1 = none ∧ e1 ≠ p := by
      have q : e1 ≠ p := fun z => by rw [z, hp'] at h1; cases h1
      refine ⟨?_, q⟩
      cases z : H e1 with
      | none => rfl
      | some o => rw [kp _ _ z q] at h1; cases h1
    generalize upd H e1 (.tup []) = H1 at *
    have kp : ∀ b x, H b = some x → b ≠ p → H1 b = some x := fun b x hb hn => kq _ _ (kp _ _ hb hn)
    replace hp' := kq _ _ hp'
    refine ⟨by show 1 ≤ sizeLine; decide, fun tu h2 => ?_⟩
    have kq : ∀ b x, H1 b = some x → upd H1 tu (.lst [.ref e1]) b = some x := fun b x hb => upd_kp h2 hb
    have f_tu : upd H1 tu (.lst [.ref e1]) tu = some (.lst [.ref e1]) := upd_same
    have n_tu : H tu = none ∧ tu ≠ p := by
      have q : tu ≠ p := fun z => by rw [z, hp'] at h2; cases h2
      refine ⟨?_, q⟩
      cases z : H tu with
      | none => rfl
      | some o => rw [kp _ _ z q] at h2; cases h2
    have d_tu_e1 : tu ≠ e1 := fun z => by rw [z, f_e1] at h2; cases h2
    generalize upd H1 tu (.lst [.ref e1]) = H2 at *
    have kp : ∀ b x, H b = some x → b ≠ p → H2 b = some x := fun b x hb hn => kq _ _ (kp _ _ hb hn)
    replace hp' := kq _ _ hp'
    replace f_e1 := kq _ _ f_e1
    intro su h3
    show tTup _ _ (upd H2 su (ndO P w su [])) _
    have kq : ∀ b x, H2 b = some x → upd H2 su (ndO P w su []) b = some x := fun b x hb => upd_kp h3 hb
    have f_su : upd H2 su (ndO P w su []) su = some (ndO P w su []) := upd_same
    have n_su : H su = none ∧ su ≠ p := by
      have q : su ≠ p := fun z => by rw [z, hp'] at h3; cases h3
      refine ⟨?_, q⟩
      cases z : H su with
      | none => rfl
      | some o => rw [kp _ _ z q] at h3; cases h3
    have d_su_e1 : su ≠ e1 := fun z => by rw [z, f_e1] at h3; cases h3
    have d_su_tu : su ≠ tu := fun z => by rw [z, f_tu] at h3; cases h3
    generalize upd H2 su (ndO P w su []) = H3 at *
    have kp : ∀ b x, H b = some x → b ≠ p → H3 b = some x := fun b x hb hn => kq _ _ (kp _ _ hb hn)
    replace hp' := kq _ _ hp'
    replace f_e1 := kq _ _ f_e1
    replace f_tu := kq _ _ f_tu
    refine ⟨by show 0 ≤ sizeLine; decide, fun e2 h4 => ?_⟩
    have kq : ∀ b x, H3 b = some x → upd H3 e2 (.tup []) b = some x := fun b x hb => upd_kp h4 hb
    have f_e2 : upd H3 e2 (.tup []) e2 = some (.tup []) := upd_same
    have n_e2 : H e2 = none ∧ e2 ≠ p := by
      have q : e2 ≠ p := fun z => by rw [z, hp'] at h4; cases h4
      refine ⟨?_, q⟩
      cases z : H e2 with
      | none => rfl
      | some o => rw [kp _ _ z q] at h4; cases h4
    have d_e2_e1 : e2 ≠ e1 := fun z => by rw [z, f_e1] at h4; cases h4
    have d_e2_tu : e2 ≠ tu := fun z => by rw [z, f_tu] at h4; cases h4
    have d_e2_su : e2 ≠ su := fun z => by rw [z, f_su] at h4; cases h4
    generalize upd H3 e2 (.tup []) = H4 at *
    have kp : ∀ b x, H b = some x → b ≠ p → H4 b = some x := fun b x hb hn => kq _ _ (kp _ _ hb hn)
    replace hp' := kq _ _ hp'
    replace f_e1 := kq _ _ f_e1
    replace f_tu := kq _ _ f_tu
    replace f_su := kq _ _ f_su
    refine ⟨by show 2 ≤ sizeLine; decide, fun kk h5 => ?_⟩
    have kq : ∀ b x, H4 b = some x → upd H4 kk (.tup [.int 0, .ref e2]) b = some x := fun b x hb => upd_kp h5 hb
    have f_kk : upd H4 kk (.tup [.int 0, .ref e2]) kk = some (.tup [.int 0, .ref e2]) := upd_same
    have n_kk : H kk = none ∧ kk ≠ p := by
      have q : kk ≠ p := fun z => by rw [z, hp'] at h5; cases h5
      refine ⟨?_, q⟩
      cases z : H kk with
      | none => rfl
      | some o => rw [kp _ _ z q] at h5; cases h5
    have d_kk_e1 : kk ≠ e1 := fun z => by rw [z, f_e1] at h5; cases h5
    have d_kk_tu : kk ≠ tu := fun z => by rw [z, f_tu] at h5; cases h5
    have d_kk_su : kk ≠ su := fun z => by rw [z, f_su] at h5; cases h5
    have d_kk_e2 : kk ≠ e2 := fun z => by rw [z, f_e2] at h5; cases h5
    generalize upd H4 kk (.tup [.int 0, .ref e2]) = H5 at *
    have kp : ∀ b x, H b = some x → b ≠ p → H5 b = some x := fun b x hb hn => kq _ _ (kp _ _ hb hn)
    replace hp' := kq _ _ hp'
    replace f_e1 := kq _ _ f_e1
    replace f_tu := kq _ _ f_tu
    replace f_su := kq _ _ f_su
    replace f_e2 := kq _ _ f_e2
    refine ⟨jkey (0, []), kk, rfl, .tup (.inl (.inl f_kk)) (.cons (.int 0) (.cons (.tup (.inl (.inl f_e2)) .nil) .nil)), jkey_able _, (jkey_ok _).2.1, f_su, ?_⟩
    show tNil _ (upd H5 su (ndO P w su [(jkey (0, []), kk, .int 0)])) _
    have kq : ∀ b x, H5 b = some x → b ≠ su → upd H5 su (ndO P w su [(jkey (0, []), kk, .int 0)]) b = some x := fun b x hb hn => upd_kp2 hb hn
    have hp'' : upd H5 su (ndO P w su [(jkey (0, []), kk, .int 0)]) p = some (_) := kq _ _ hp' (Ne.symm n_su.2)
    have f_new : upd H5 su (ndO P w su [(jkey (0, []), kk, .int 0)]) su = some (ndO P w su [(jkey (0, []), kk, .int 0)]) := upd_same
    generalize upd H5 su (ndO P w su [(jkey (0, []), kk, .int 0)]) = H6 at *
    have kp : ∀ b x, H b = some x → b ≠ p → H6 b = some x := fun b x hb hn => kq _ _ (kp _ _ hb hn) (fun z => by rw [z, n_su.1] at hb; cases hb)
    clear hp'
    have hp' := hp''
    clear hp''
    replace f_e1 := kq _ _ f_e1 (Ne.symm d_su_e1)
    replace f_tu := kq _ _ f_tu (Ne.symm d_su_tu)
    replace f_e2 := kq _ _ f_e2 d_e2_su
    replace f_kk := kq _ _ f_kk d_kk_su
    clear f_su
    have f_su := f_new
    clear f_new
    refine ⟨by show 2 ≤ sizeLine; decide, fun T1 h7 => ?_⟩
    show gTup K 2 _ (.ref T1) _ (upd H6 T1 (.tup [.ref tu, .ref su])) _
    have kq : ∀ b x, H6 b = some x → upd H6 T1 (.tup [.ref tu, .ref su]) b = some x := fun b x hb => upd_kp h7 hb
    have f_T1 : upd H6 T1 (.tup [.ref tu, .ref su]) T1 = some (.tup [.ref tu, .ref su]) := upd_same
    have n_T1 : H T1 = none ∧ T1 ≠ p := by
      have q : T1 ≠ p := fun z => by rw [z, hp'] at h7; cases h7
      refine ⟨?_, q⟩
      cases z : H T1 with
      | none => rfl
      | some o => rw [kp _ _ z q] at h7; cases h7
    have d_T1_e1 : T1 ≠ e1 := fun z => by rw [z, f_e1] at h7; cases h7
    have d_T1_tu : T1 ≠ tu := fun z => by rw [z, f_tu] at h7; cases h7
    have d_T1_su : T1 ≠ su := fun z => by rw [z, f_su] at h7; cases h7
    have d_T1_e2 : T1 ≠ e2 := fun z => by rw [z, f_e2] at h7; cases h7
    have d_T1_kk : T1 ≠ kk := fun z => by rw [z, f_kk] at h7; cases h7
    generalize upd H6 T1 (.tup [.ref tu, .ref su]) = H7 at *
    have kp : ∀ b x, H b = some x → b ≠ p → H7 b = some x := fun b x hb hn => kq _ _ (kp _ _ hb hn)
    replace hp' := kq _ _ hp'
    replace f_e1 := kq _ _ f_e1
    replace f_tu := kq _ _ f_tu
    replace f_su := kq _ _ f_su
    replace f_e2 := kq _ _ f_e2
    replace f_kk := kq _ _ f_kk
    refine ⟨T1, [.ref tu, .ref su], rfl, .inl (.inl f_T1), rfl, _, _, rfl, .ref p, rfl, p, C_Joints, dx, [], rfl, hp', kc_Joints.cls, kc_Joints.nt, by show 0 < 1000; decide, ?_⟩
    have kq : ∀ b x, H7 b = some x → b ≠ p → upd H7 p (.ins C_Joints dx (putF "triples" (.ref tu) [])) b = some x := fun b x hb hn => upd_kp2 hb hn
    have hp'' : upd H7 p (.ins C_Joints dx (putF "triples" (.ref tu) [])) p = some (.ins C_Joints dx [("triples", .ref tu)]) := upd_same
    generalize upd H7 p (.ins C_Joints dx (putF "triples" (.ref tu) [])) = H8 at *
    have kp : ∀ b x, H b = some x → b ≠ p → H8 b = some x := fun b x hb hn => kq _ _ (kp _ _ hb hn) hn
    clear hp'
    have hp' := hp''
    clear hp''
    replace f_e1 := kq _ _ f_e1 n_e1.2
    replace f_tu := kq _ _ f_tu n_tu.2
    replace f_su := kq _ _ f_su n_su.2
    replace f_e2 := kq _ _ f_e2 n_e2.2
    replace f_kk := kq _ _ f_kk n_kk.2
    replace f_T1 := kq _ _ f_T1 n_T1.2
    refine ⟨_, _, rfl, .ref p, rfl, p, C_Joints, dx, _, rfl, hp', kc_Joints.cls, kc_Joints.ns, by show 1 < 1000; decide, rfl, ?_⟩
    have kq : ∀ b x, H8 b = some x → b ≠ p → upd H8 p (.ins C_Joints dx (putF "spots" (.ref su) [("triples", .ref tu)])) b = some x := fun b x hb hn => upd_kp2 hb hn
    have hp'' : upd H8 p (.ins C_Joints dx (putF "spots" (.ref su) [("triples", .ref tu)])) p = some (.ins C_Joints dx [("triples", .ref tu), ("spots", .ref su)]) := upd_same
    generalize upd H8 p (.ins C_Joints dx (putF "spots" (.ref su) [("triples", .ref tu)])) = H9 at *
    have kp : ∀ b x, H b = some x → b ≠ p → H9 b = some x := fun b x hb hn => kq _ _ (kp _ _ hb hn) hn
    clear hp'
    have hp' := hp''
    clear hp''
    replace f_e1 := kq _ _ f_e1 n_e1.2
    replace f_tu := kq _ _ f_tu n_tu.2
    replace f_su := kq _ _ f_su n_su.2
    replace f_e2 := kq _ _ f_e2 n_e2.2
    replace f_kk := kq _ _ f_kk n_kk.2
    replace f_T1 := kq _ _ f_T1 n_T1.2
    intro lu h10
    have kq : ∀ b x, H9 b = some x → upd H9 lu (.dK []) b = some x := fun b x hb => upd_kp h10 hb
    have f_lu : upd H9 lu (.dK []) lu = some (.dK []) := upd_same
    have n_lu : H lu = none ∧ lu ≠ p := by
      have q : lu ≠ p := fun z => by rw [z, hp'] at h10; cases h10
      refine ⟨?_, q⟩
      cases z : H lu with
      | none => rfl
      | some o => rw [kp _ _ z q] at h10; cases h10
    have d_lu_e1 : lu ≠ e1 := fun z => by rw [z, f_e1] at h10; cases h10
    have d_lu_tu : lu ≠ tu := fun z => by rw [z, f_tu] at h10; cases h10
    have d_lu_su : lu ≠ su := fun z => by rw [z, f_su] at h10; cases h10
    have d_lu_e2 : lu ≠ e2 := fun z => by rw [z, f_e2] at h10; cases h10
    have d_lu_kk : lu ≠ kk := fun z => by rw [z, f_kk] at h10; cases h10
    have d_lu_T1 : lu ≠ T1 := fun z => by rw [z, f_T1] at h10; cases h10
    generalize upd H9 lu (.dK []) = H10 at *
    have kp : ∀ b x, H b = some x → b ≠ p → H10 b = some x := fun b x hb hn => kq _ _ (kp _ _ hb hn)
    replace hp' := kq _ _ hp'
    replace f_e1 := kq _ _ f_e1
    replace f_tu := kq _ _ f_tu
    replace f_su := kq _ _ f_su
    replace f_e2 := kq _ _ f_e2
    replace f_kk := kq _ _ f_kk
    replace f_T1 := kq _ _ f_T1
    intro ju h11
    have kq : ∀ b x, H10 b = some x → upd H10 ju (.dT []) b = some x := fun b x hb => upd_kp h11 hb
    have f_ju : upd H10 ju (.dT []) ju = some (.dT []) := upd_same
    have n_ju : H ju = none ∧ ju ≠ p := by
      have q : ju ≠ p := fun z => by rw [z, hp'] at h11; cases h11
      refine ⟨?_, q⟩
      cases z : H ju with
      | none => rfl
      | some o => rw [kp _ _ z q] at h11; cases h11
    have d_ju_e1 : ju ≠ e1 := fun z => by rw [z, f_e1] at h11; cases h11
    have d_ju_tu : ju ≠ tu := fun z => by rw [z, f_tu] at h11; cases h11
    have d_ju_su : ju ≠ su := fun z => by rw [z, f_su] at h11; cases h11
    have d_ju_e2 : ju ≠ e2 := fun z => by rw [z, f_e2] at h11; cases h11
    have d_ju_kk : ju ≠ kk := fun z => by rw [z, f_kk] at h11; cases h11
    have d_ju_T1 : ju ≠ T1 := fun z => by rw [z, f_T1] at h11; cases h11
    have d_ju_lu : ju ≠ lu := fun z => by rw [z, f_lu] at h11; cases h11
    generalize upd H10 ju (.dT []) = H11 at *
    have kp : ∀ b x, H b = some x → b ≠ p → H11 b = some x := fun b x hb hn => kq _ _ (kp _ _ hb hn)
    replace hp' := kq _ _ hp'
    replace f_e1 := kq _ _ f_e1
    replace f_tu := kq _ _ f_tu
    replace f_su := kq _ _ f_su
    replace f_e2 := kq _ _ f_e2
    replace f_kk := kq _ _ f_kk
    replace f_T1 := kq _ _ f_T1
    replace f_lu := kq _ _ f_lu
    refine ⟨by show 2 ≤ sizeLine; decide, fun T2 h12 => ?_⟩
    show gTup K 2 _ (.ref T2) _ (upd H11 T2 (.tup [.ref lu, .ref ju])) _
    have kq : ∀ b x, H11 b = some x → upd H11 T2 (.tup [.ref lu, .ref ju]) b = some x := fun b x hb => upd_kp h12 hb
    have f_T2 : upd H11 T2 (.tup [.ref lu, .ref ju]) T2 = some (.tup [.ref lu, .ref ju]) := upd_same
    have n_T2 : H T2 = none ∧ T2 ≠ p := by
      have q : T2 ≠ p := fun z => by rw [z, hp'] at h12; cases h12
      refine ⟨?_, q⟩
      cases z : H T2 with
      | none => rfl
      | some o => rw [kp _ _ z q] at h12; cases h12
    have d_T2_e1 : T2 ≠ e1 := fun z => by rw [z, f_e1] at h12; cases h12
    have d_T2_tu : T2 ≠ tu := fun z => by rw [z, f_tu] at h12; cases h12
    have d_T2_su : T2 ≠ su := fun z => by rw [z, f_su] at h12; cases h12
    have d_T2_e2 : T2 ≠ e2 := fun z => by rw [z, f_e2] at h12; cases h12
    have d_T2_kk : T2 ≠ kk := fun z => by rw [z, f_kk] at h12; cases h12
    have d_T2_T1 : T2 ≠ T1 := fun z => by rw [z, f_T1] at h12; cases h12
    have d_T2_lu : T2 ≠ lu := fun z => by rw [z, f_lu] at h12; cases h12
    have d_T2_ju : T2 ≠ ju := fun z => by rw [z, f_ju] at h12; cases h12
    generalize upd H11 T2 (.tup [.ref lu, .ref ju]) = H12 at *
    have kp : ∀ b x, H b = some x → b ≠ p → H12 b = some x := fun b x hb hn => kq _ _ (kp _ _ hb hn)
    replace hp' := kq _ _ hp'
    replace f_e1 := kq _ _ f_e1
    replace f_tu := kq _ _ f_tu
    replace f_su := kq _ _ f_su
    replace f_e2 := kq _ _ f_e2
    replace f_kk := kq _ _ f_kk
    replace f_T1 := kq _ _ f_T1
    replace f_lu := kq _ _ f_lu
    replace f_ju := kq _ _ f_ju
    refine ⟨T2, [.ref lu, .ref ju], rfl, .inl (.inl f_T2), rfl, _, _, rfl, .ref p, rfl, p, C_Joints, dx, _, rfl, hp', kc_Joints.cls, kc_Joints.nl, by show 2 < 1000; decide, ?_⟩
    have kq : ∀ b x, H12 b = some x → b ≠ p → upd H12 p (.ins C_Joints dx (putF "lowered" (.ref lu) [("triples", .ref tu), ("spots", .ref su)])) b = some x := fun b x hb hn => upd_kp2 hb hn
    have hp'' : upd H12 p (.ins C_Joints dx (putF "lowered" (.ref lu) [("triples", .ref tu), ("spots", .ref su)])) p = some (.ins C_Joints dx [("triples", .ref tu), ("spots", .ref su), ("lowered", .ref lu)]) := upd_same
    generalize upd H12 p (.ins C_Joints dx (putF "lowered" (.ref lu) [("triples", .ref tu), ("spots", .ref su)])) = H13 at *
    have kp : ∀ b x, H b = some x → b ≠ p → H13 b = some x := fun b x hb hn => kq _ _ (kp _ _ hb hn) hn
    clear hp'
    have hp' := hp''
    clear hp''
    replace f_e1 := kq _ _ f_e1 n_e1.2
    replace f_tu := kq _ _ f_tu n_tu.2
    replace f_su := kq _ _ f_su n_su.2
    replace f_e2 := kq _ _ f_e2 n_e2.2
    replace f_kk := kq _ _ f_kk n_kk.2
    replace f_T1 := kq _ _ f_T1 n_T1.2
    replace f_lu := kq _ _ f_lu n_lu.2
    replace f_ju := kq _ _ f_ju n_ju.2
    replace f_T2 := kq _ _ f_T2 n_T2.2
    refine ⟨_, _, rfl, .ref p, rfl, p, C_Joints, dx, _, rfl, hp', kc_Joints.cls, kc_Joints.nj, by show 3 < 1000; decide, rfl, ?_⟩
    have kq : ∀ b x, H13 b = some x → b ≠ p → upd H13 p (.ins C_Joints dx (putF "joined" (.ref ju) [("triples", .ref tu), ("spots", .ref su), ("lowered", .ref lu)])) b = some x := fun b x hb hn => upd_kp2 hb hn
    have hp'' : upd H13 p (.ins C_Joints dx (putF "joined" (.ref ju) [("triples", .ref tu), ("spots", .ref su), ("lowered", .ref lu)])) p = some (.ins C_Joints dx [("triples", .ref tu), ("spots", .ref su), ("lowered", .ref lu), ("joined", .ref ju)]) := upd_same
    generalize upd H13 p (.ins C_Joints dx (putF "joined" (.ref ju) [("triples", .ref tu), ("spots", .ref su), ("lowered", .ref lu)])) = H14 at *
    have kp : ∀ b x, H b = some x → b ≠ p → H14 b = some x := fun b x hb hn => kq _ _ (kp _ _ hb hn) hn
    clear hp'
    have hp' := hp''
    clear hp''
    replace f_e1 := kq _ _ f_e1 n_e1.2
    replace f_tu := kq _ _ f_tu n_tu.2
    replace f_su := kq _ _ f_su n_su.2
    replace f_e2 := kq _ _ f_e2 n_e2.2
    replace f_kk := kq _ _ f_kk n_kk.2
    replace f_T1 := kq _ _ f_T1 n_T1.2
    replace f_lu := kq _ _ f_lu n_lu.2
    replace f_ju := kq _ _ f_ju n_ju.2
    replace f_T2 := kq _ _ f_T2 n_T2.2
    obtain ⟨H0', o1, o2, o3, o4, o5⟩ := ini_done (B := fun a => a = tu ∨ a = su ∨ a = lu ∨ a = ju) n0 sub kp fun a ha _ => by
      rcases ha with rfl | rfl | rfl | rfl
      · exact n_tu.1
      · exact n_su.1
      · exact n_lu.1
      · exact n_ju.1
    have nb : ∀ a, a ≠ tu → a ≠ su → a ≠ lu → a ≠ ju → ¬ (a = tu ∨ a = su ∨ a = lu ∨ a = ju) := fun a q1 q2 q3 q4 z => by
      rcases z with z | z | z | z
      · exact q1 z
      · exact q2 z
      · exact q3 z
      · exact q4 z
    have g_e1 : H0' e1 = some (.tup []) := (o5 e1 (nb e1 d_tu_e1.symm d_su_e1.symm d_lu_e1.symm d_ju_e1.symm) (.inr n_e1.1)).trans f_e1
    have g_e2 : H0' e2 = some (.tup []) := (o5 e2 (nb e2 d_e2_tu d_e2_su d_lu_e2.symm d_ju_e2.symm) (.inr n_e2.1)).trans f_e2
    have g_kk : H0' kk = some (.tup [.int 0, .ref e2]) := (o5 kk (nb kk d_kk_tu d_kk_su d_lu_kk.symm d_ju_kk.symm) (.inr n_kk.1)).trans f_kk
    have g_p := (o5 p (nb p n_tu.2.symm n_su.2.symm n_lu.2.symm n_ju.2.symm) (.inl rfl)).trans hp'
    refine k (tu, su, lu, ju) ((([.ref e1], [keyD []]), spOf [(0, [])] 0), ([], [])) H0' _ (fun a ha _ => ?_) o1 o2 kp o3 o4 ⟨⟨d_su_tu.symm, d_lu_tu.symm, d_ju_tu.symm, d_lu_su.symm, d_ju_su.symm, d_ju_lu.symm⟩, ⟨dx, _, g_p, ⟨rfl, rfl, rfl, rfl, fun m q1 q2 q3 q4 => ?_⟩⟩, ⟨f_tu, .cons (.tup (.inl (.inl g_e1)) .nil) .nil⟩, ⟨_, f_su, .cons ⟨rfl, .tup (.inl (.inl g_kk)) (.cons (.int 0) (.cons (.tup (.inl (.inl g_e2)) .nil) .nil)), jkey_able _, (jkey_ok _).2.1, .int 0⟩ .nil⟩, f_lu, ⟨[], f_ju, .nil⟩⟩ ⟨rfl, rfl, rfl⟩
    · rcases ha with ha | ha | ha | ha
      · exact ha ▸ n_tu.1
      · exact ha ▸ n_su.1
      · exact ha ▸ n_lu.1
      · exact ha ▸ n_ju.1
    · rw [List.lookup_cons, List.lookup_cons, List.lookup_cons, List.lookup_cons, show (m == ("triples" : Str)) = false from beq_eq_false_iff_ne.mpr q1, show (m == ("spots" : Str)) = false from beq_eq_false_iff_ne.mpr q2, show (m == ("lowered" : Str)) = false from beq_eq_false_iff_ne.mpr q3, show (m == ("joined" : Str)) = false from beq_eq_false_iff_ne.mpr q4]
      rfl
abbrev s_settled : Stmt := topS 21
theorem sc_settled : FnScope ["row", "depth", "joints", "times", "single", "found", "longer"] ["row", "depth"] (defScope s_settled) := ⟨rfl, rfl, rfl, by decide +kernel, rfl, by decide +kernel, by decide +kernel⟩
theorem ok_settled {f f_check_row f_check_depth f_Joints f_Joints_kind_of_row f_Joints_empty f_Joints_together C_Joints : Addr} {fd fd_check_row fd_check_depth fd_Joints fd_Joints_kind_of_row fd_Joints_empty fd_Joints_together : FuncData} (T : Txt K mg) (kc_Joints : JCls K C_Joints) (F : Fun K "settled" "settled" s_settled f fd) (C_check_row : Callee P w K mg base CX0 "check_row" ["row"] 2 (PureSp K check_rowS) f_check_row fd_check_row) (C_check_depth : Callee P w K mg base CX0 "check_depth" ["depth"] 1 (PureSp K check_depthS) f_check_depth fd_check_depth) (N_Joints : NCallee P w K mg base CX0 "Joints" C_Joints ["self"] 1 (spJ P w K C_Joints) f_Joints fd_Joints) (M_Joints_kind_of_row : MCallee P w K mg base CX0 C_Joints "kind_of_row" ["self", "row", "depth"] 18 (JSp P w K C_Joints (korS 7)) f_Joints_kind_of_row fd_Joints_kind_of_row) (M_Joints_empty : MCallee P w K mg base CX0 C_Joints "empty" ["self", "depth"] 2 (JSp P w K C_Joints emptyS) f_Joints_empty fd_Joints_empty) (M_Joints_together : MCallee P w K mg base CX0 C_Joints "together" ["self", "one", "other", "depth"] 17 (JSp P w K C_Joints (togS 7)) f_Joints_together fd_Joints_together) : FnOk P w K mg base CX0 (19) f fd ["row", "depth"] (PureSp K settledS) := by
  refine ok_pure settledS F sc_settled (fun ds P X h => by revert h; walk_at "hl") fun cdv A outer s H E hr => ⟨_, (pss_cons (ps_expr (pe_call C_check_row.ok (hr.mono (by first | decide | omega)) (by rfl) C_check_row.mg C_check_row.kp C_check_row.bd .nil (C_check_row.ps _ rfl rfl) (pa_cons (pv 0) pa_nil))) (pss_cons (ps_expr (pe_call C_check_depth.ok (hr.mono (by first | decide | omega)) (by rfl) C_check_depth.mg C_check_depth.kp C_check_depth.bd .nil (C_check_depth.ps _ rfl rfl) (pa_cons (pv 1) pa_nil))) (pss_cons (ps_par (i := 2) (j := 3) (by rfl) sc_settled.nd rfl rfl (by decide) rfl rfl (pa_cons (pe_make0 N_Joints.made N_Joints.ok (hr.mono (by first | decide | omega)) (by rfl) N_Joints.mg N_Joints.bd .nil (N_Joints.ps _ rfl rfl)) (pa_cons pe_int pa_nil)) (by rfl)) (pss_cons (ps_par (i := 4) (j := 5) (by rfl) sc_settled.nd rfl rfl (by decide) rfl rfl (pa_cons (pe_meth (pv 2) kc_Joints.cls M_Joints_kind_of_row.me M_Joints_kind_of_row.ok (hr.mono (by first | decide | omega)) M_Joints_kind_of_row.bd .nil (M_Joints_kind_of_row.ps _ rfl rfl) (pa_cons (pv 0) (pa_cons (pv 1) pa_nil))) (pa_cons (pe_meth (pv 2) kc_Joints.cls M_Joints_empty.me M_Joints_empty.ok (hr.mono (by first | decide | omega)) M_Joints_empty.bd .nil (M_Joints_empty.ps _ rfl rfl) (pa_cons (pv 1) pa_nil)) pa_nil)) (by rfl)) (pss_cons (ps_set (i := 6) sc_settled.nd rfl (Or.inl rfl) (pe_meth (pv 2) kc_Joints.cls M_Joints_together.me M_Joints_together.ok (hr.mono (by first | decide | omega)) M_Joints_together.bd .nil (M_Joints_together.ps _ rfl rfl) (pa_cons (pv 5) (pa_cons (pv 4) (pa_cons (pv 1) pa_nil))))) (pss_cons (ps_while PassesOwn.never (pt_cmpR (op_neK (K := K) rfl hr.units) (pv 6) (pv 5) (nomark _)) (pss_cons (ps_par (i := 5) (j := 3) (by rfl) sc_settled.nd rfl rfl (by decide) rfl rfl (pa_cons (pv 6) (pa_cons (pe_op (op_addK (K := K) rfl) (pv 3) pe_int) pa_nil)) (by rfl)) (pss_one (ps_set (i := 6) sc_settled.nd rfl (Or.inl rfl) (pe_meth (pv 2) kc_Joints.cls M_Joints_together.me M_Joints_together.ok (hr.mono (by first | decide | omega)) M_Joints_together.bd .nil (M_Joints_together.ps _ rfl rfl) (pa_cons (pv 5) (pa_cons (pv 4) (pa_cons (pv 1) pa_nil)))))))) (pss_one (ps_ret (pv 3))))))))), fun ds Q XP h H0 okX => ?_⟩
  obtain ⟨l, d, rfl, hL, hl, hd, k⟩ := h
  /- 0:row 1:depth 2:joints 3:times 4:single 5:found 6:longer -/
  change DL.WS _ _ [.dat _, .dat _, .un, .un, .un, .un, .un] _ _
  walk_at "v"
  refine ⟨rfl, fun p jj hn st hpost => ?_⟩
  have hpow : 1 ≤ 2 ^ d := Nat.one_le_two_pow
  have hrl : (rep l (2 ^ d)).length ≤ 48 := by
    rw [rep_length, Nat.mul_comm]
    exact hl
  have hok := allJ_ok hrl (show d ≤ 6 by omega)
  have hJ : JOk (allJ (rep l (2 ^ d)) d) [(0, [])] st := JOk.ini hok.1 hok.2 hpost
  have hcv : Cov (allJ (rep l (2 ^ d)) d) d (rep l (2 ^ d)) := allJ_cov (by omega)
  have hin : ∀ j, j ≤ 2 ^ d → rep l j <:+: rep l (2 ^ d) := fun j hj => by
    refine ⟨[], rep l (2 ^ d - j), ?_⟩
    rw [List.nil_append]
    unfold rep
    rw [← List.flatten_append, List.replicate_append_replicate, show j + (2 ^ d - j) = 2 ^ d by omega]
  have hr1 : rep l 1 = l := by
    unfold rep
    simp
  have hc1 : Cov (allJ (rep l (2 ^ d)) d) d l := by
    have := hcv.sub (hin 1 hpow)
    rwa [show rep l 1 = l from hr1] at this
  walk_at "v"
  refine u_kor d rfl (by omega) hJ hc1 fun s t1 s1 hJ1 pre1 hs => ?_
  walk_at "v"
  refine u_empty d rfl hJ1 hc1.nil fun f t2 s2 hJ2 pre2 hf => ?_
  walk_at "v"
  refine u_tog d [] l rfl (by omega) (by omega) hJ2 hf (hs.mono pre2) hc1 fun g t3 s3 hJ3 pre3 hg => ?_
  walk_at "v"
  refine ws_while (fun m G' (s' : Unit × JSt) => ∃ (kk : Nat) (f g : Int) (t' : JTab), G' = [.dat (.str (rowS l)), .dat (.int ((d : Nat) : Int)), .dat (.ref p), .dat (.int ((kk : Nat) : Int)), .dat (.int s), .dat (.int f), .dat (.int g)] ∧ JOk (allJ (rep l (2 ^ d)) d) t' s'.2 ∧ t1 <+: t' ∧ JK t' d (rep l kk) f ∧ JK t' d (rep l (kk + 1)) g ∧ (∀ j, j < kk → ¬ Alike d (rep l j) (rep l (j + 1))) ∧ kk ≤ 2 ^ d - 1 ∧ m = 2 ^ d - kk) (2 ^ d)
    ⟨0, f, g, t3, rfl, hJ3, pre2.trans pre3, (by show JK t3 d [] f; exact hf.mono pre3), (by rw [show rep l (0 + 1) = l from hr1]; exact hg), fun j hj => by omega, by omega, by omega⟩ fun m G' (s' : Unit × JSt) hGl hI => ?_
  obtain ⟨kk, f, g, t', rfl, hJ', pre', hf', hg', hmin, hkk, rfl⟩ := hI
  walk_at "v"
  have halk : g = f ↔ Alike d (rep l (kk + 1)) (rep l kk) := jk_iff hJ'.nd hg' hf'
  by_cases hgf : g = f
  · refine ite_dT hgf ?_
    walk_at "v"
    have hS : Settles d l kk := ⟨(halk.mp hgf).symm, hmin⟩
    have := (settle_is d l).one hS
    rw [← this]
    exact k
  · refine ite_dF hgf ?_
    have hlt : kk + 1 ≤ 2 ^ d - 1 := by
      rcases Nat.lt_or_ge kk (2 ^ d - 1) with z | z
      · omega
      · exact absurd (halk.mpr (alike_rep l (.inr ⟨by omega, z⟩))) hgf
    walk_at "v"
    refine u_tog d (rep l (kk + 1)) l rfl (by omega) (by omega) hJ' hg' (hs.mono pre') (by rw [rep_snoc]; exact hcv.sub (hin _ (by omega))) fun g2 t4 s4 hJ4 pre4 hg4 => ?_
    walk_at "v"
    rw [rep_snoc] at hg4
    refine ⟨2 ^ d - (kk + 1), by omega, kk + 1, g, g2, t4, rfl, hJ4, pre'.trans pre4, hg'.mono pre4, hg4, fun j hj => ?_, hlt, rfl⟩
    by_cases z : j = kk
    · subst z
      exact fun q => hgf (halk.mpr q.symm)
    · exact hmin j (by omega)
abbrev s_PickError___init__ : Stmt := inClass (topS 2) 0
theorem suptxt {P : Program} : SupTxt P s_PickError___init__ := ⟨_, _, _, _, _, _, _, _, _, _, _, rfl, rfl, rfl, rfl, rfl, fun y h => (by decide +kernel : ∀ p ∈ (defScope s_PickError___init__).names, p.2 = .free → p.1 = "__class__") (y, .free) (PySem.mem_of_lookup h) rfl, rfl, rfl, rfl, rfl, rfl, by decide +kernel, fun _ _ _ _ => ⟨_, fun _ => rfl⟩, fun _ _ _ _ _ => ⟨rfl, rfl⟩, fun _ _ _ _ _ => rfl⟩
theorem ok_check_lettersX {f f_PickError___init__ C_PickError C_InvalidRow : Addr} {fd fd_PickError___init__ : FuncData} (T : Txt K mg) (F : Fun K "check_letters" "check_letters" s_check_letters f fd) (V_err : ErrEnv P w K mg base C_PickError f_PickError___init__ fd_PickError___init__) (E_InvalidRow : ErrName K mg C_PickError f_PickError___init__ "InvalidRow" C_InvalidRow) : FnOk P w K mg base (L2.CX P w) (3) f fd ["row", "letters"] (PureSp K (check_lettersXS C_InvalidRow)) := by
  refine ok_pureX (check_lettersXS C_InvalidRow) F sc_check_letters (fun ds P X h => by revert h; walk_at "hl") fun cdv A outer s H E hr => ⟨_, (pss_one (ps_for (passes_of rfl) rfl (pi_enumK (K := K) rfl (by rfl) T.n_enumerate (pa_cons (pv 0) pa_nil)) (pg_tupK (K := K) (n := 2) rfl rfl (pgs_cons (pg_name (i := 2) sc_check_letters.nd rfl (by first | exact Or.inl rfl | exact Or.inr rfl)) (pgs_cons (pg_name (i := 3) sc_check_letters.nd rfl (by first | exact Or.inl rfl | exact Or.inr rfl)) pgs_nil))) (pss_one (ps_if (pt_cmpR (op_notInK (K := K) rfl (hu65 hr)) (pv 3) (pv 1) rfl) (pss_one (ps_rz (K := K) rfl rfl (takes_of rfl rfl rfl rfl) V_err E_InvalidRow (hr.mono (by first | decide | omega)) rfl (pa_cons (pv 2) pa_nil))) pss_nil)))), fun ds Q XP h H0 okX => ?_⟩
  obtain ⟨l, m, i, rfl, hb, k⟩ := h
  /- 0:row 1:letters 2:index 3:sign -/
  change DL.WS _ _ [.dat _, .dat _, .un, .un] _ _
  refine ws_forN [2, 3] rfl (wi_enS ?_)
  walk_at "v"
  refine ⟨fun t _ => t ≤ i, Nat.zero_le _, fun t d si hd hI => ?_, fun Gn sn _ hI => ?_⟩
  · obtain ⟨e, he, rfl⟩ := enumD_get hd
    obtain ⟨a, ha, rfl⟩ : ∃ a, l[t]? = some a ∧ e = .str ⟨#[a]⟩ := by
      unfold signsD rowS at he
      rw [List.getElem?_map] at he
      cases h : l[t]? with
      | none => simp [h] at he
      | some a =>
        simp [h] at he
        exact ⟨a, rfl, he.symm⟩
    refine ⟨[2, 3], _, tg_tup rfl (.cons (by simp) (.cons (by simp) .nil)), ?_⟩
    walk_at "v"
    refine dnin_sign ?_
    have hcp : (rowS m).cps.toList = m := by simp [rowS]
    rw [hcp]
    obtain ⟨⟨a', h1, h2⟩, h3⟩ := hb
    have hI : t ≤ i := hI
    by_cases hti : t = i
    · subst hti
      rw [ha] at h1
      cases h1
      rw [decide_eq_false h2]
      refine fz_dat ⟨_, rfl, iteT ?_⟩
      exact ws_raise E_InvalidRow.ec rfl (wa_cons (we_var rfl (fz_dat (wa_nil ⟨_, rfl, k⟩))))
    · rw [decide_eq_true (h3 t a (by omega) ha)]
      refine fz_dat ⟨_, rfl, iteF ?_⟩
      walk_at "v"
      exact ⟨rfl, by show t + 1 ≤ i; omega⟩
  · exfalso
    obtain ⟨⟨a', h1, h2⟩, h3⟩ := hb
    have := (List.getElem?_eq_some_iff.mp h1).1
    have hI : (enumD (signsD (rowS l))).length ≤ i := hI
    have e : (enumD (signsD (rowS l))).length = l.length := by
      rw [signs_map, enum_map]
      simp
    omega
theorem ok_check_rowX {f f_check_letters f_PickError___init__ C_PickError C_InvalidRow : Addr} {fd fd_check_letters fd_PickError___init__ : FuncData} (T : Txt K mg) (F : Fun K "check_row" "check_row" s_check_row f fd) (C_check_letters : Callee P w K mg base CX0 "check_letters" ["row", "letters"] 1 (PureSp K check_lettersS) f_check_letters fd_check_letters) (X_check_letters : FnOk P w K mg base (L2.CX P w) 3 f_check_letters fd_check_letters ["row", "letters"] (PureSp K (orS (check_lettersXS C_InvalidRow) check_lettersS))) (V_err : ErrEnv P w K mg base C_PickError f_PickError___init__ fd_PickError___init__) (E_InvalidRow : ErrName K mg C_PickError f_PickError___init__ "InvalidRow" C_InvalidRow) : FnOk P w K mg base (L2.CX P w) (4) f fd ["row"] (PureSp K (check_rowXS C_InvalidRow)) := by
  refine ok_pureX (check_rowXS C_InvalidRow) F sc_check_row (fun ds P X h => by revert h; walk_at "hl") fun cdv A outer s H E hr => ⟨_, (pss_one (ps_expr (pe_call X_check_letters (hr.mono (by first | decide | omega)) (by rfl) C_check_letters.mg C_check_letters.kp C_check_letters.bd .nil (passes_call (takes_of rfl rfl rfl rfl) fun _ _ _ _ h => h) (pa_cons (pv 0) (pa_cons (pe_globS rfl T.g_LETTERS) pa_nil))))), fun ds Q XP h H0 okX => ?_⟩
  obtain ⟨l, i, rfl, hb, k⟩ := h
  /- 0:row -/
  change DL.WS _ _ [.dat _] _ _
  refine ws_drop (we_callF ?_)
  walk_at "dls"
  exact ⟨XP, .inr ⟨rfl, fun C d h => h⟩, .inl ⟨l, LET, i, by rw [← rowS_of], hb, k⟩⟩
theorem ok_check_depthX {f f_PickError___init__ C_PickError C_InvalidNumber : Addr} {fd fd_PickError___init__ : FuncData} (T : Txt K mg) (F : Fun K "check_depth" "check_depth" s_check_depth f fd) (V_err : ErrEnv P w K mg base C_PickError f_PickError___init__ fd_PickError___init__) (E_InvalidNumber : ErrName K mg C_PickError f_PickError___init__ "InvalidNumber" C_InvalidNumber) : FnOk P w K mg base (L2.CX P w) (3) f fd ["depth"] (PureSp K (check_depthXS C_InvalidNumber)) := by
  refine ok_pureX (check_depthXS C_InvalidNumber) F sc_check_depth (fun ds P X h => by revert h; walk_at "hl") fun cdv A outer s H E hr => ⟨_, (pss_one (ps_if (pt_cmpR op_ltQ (pv 0) pe_int (nomark _)) (pss_one (ps_rz (K := K) rfl rfl (takes_of rfl rfl rfl rfl) V_err E_InvalidNumber (hr.mono (by first | decide | omega)) rfl (pa_cons (pv 0) pa_nil))) pss_nil)), fun ds Q XP h H0 okX => ?_⟩
  obtain ⟨z, rfl, hz, k⟩ := h
  /- 0:depth -/
  change DL.WS _ _ [.dat _] _ _
  walk_at "v"
  exact ws_raise E_InvalidNumber.ec rfl (wa_cons (we_var rfl (fz_dat (wa_nil ⟨_, rfl, k⟩))))
theorem ok_settledX {f f_Joints f_Joints_kind_of_row f_Joints_empty f_Joints_together f_check_row f_check_depth f_PickError___init__ C_PickError C_InvalidRow C_InvalidNumber C_Joints : Addr} {fd fd_Joints fd_Joints_kind_of_row fd_Joints_empty fd_Joints_together fd_check_row fd_check_depth fd_PickError___init__ : FuncData} (T : Txt K mg) (kc_Joints : JCls K C_Joints) (F : Fun K "settled" "settled" s_settled f fd) (N_Joints : NCallee P w K mg base CX0 "Joints" C_Joints ["self"] 1 (spJ P w K C_Joints) f_Joints fd_Joints) (M_Joints_kind_of_row : MCallee P w K mg base CX0 C_Joints "kind_of_row" ["self", "row", "depth"] 18 (JSp P w K C_Joints (korS 7)) f_Joints_kind_of_row fd_Joints_kind_of_row) (M_Joints_empty : MCallee P w K mg base CX0 C_Joints "empty" ["self", "depth"] 2 (JSp P w K C_Joints emptyS) f_Joints_empty fd_Joints_empty) (M_Joints_together : MCallee P w K mg base CX0 C_Joints "together" ["self", "one", "other", "depth"] 17 (JSp P w K C_Joints (togS 7)) f_Joints_together fd_Joints_together) (C_check_row : Callee P w K mg base CX0 "check_row" ["row"] 2 (PureSp K check_rowS) f_check_row fd_check_row) (C_check_depth : Callee P w K mg base CX0 "check_depth" ["depth"] 1 (PureSp K check_depthS) f_check_depth fd_check_depth) (X_check_row : FnOk P w K mg base (L2.CX P w) 4 f_check_row fd_check_row ["row"] (PureSp K (orS (check_rowXS C_InvalidRow) check_rowS))) (X_check_depth : FnOk P w K mg base (L2.CX P w) 3 f_check_depth fd_check_depth ["depth"] (PureSp K (orS (check_depthXS C_InvalidNumber) check_depthS))) (V_err : ErrEnv P w K mg base C_PickError f_PickError___init__ fd_PickError___init__) (E_InvalidRow : ErrName K mg C_PickError f_PickError___init__ "InvalidRow" C_InvalidRow) (E_InvalidNumber : ErrName K mg C_PickError f_PickError___init__ "InvalidNumber" C_InvalidNumber) : FnOk P w K mg base (L2.CX P w) (19) f fd ["row", "depth"] (PureSp K (settledXS C_InvalidNumber C_InvalidRow)) := by
  refine ok_pureX (settledXS C_InvalidNumber C_InvalidRow) F sc_settled (fun ds P X h => by revert h; walk_at "hl") fun cdv A outer s H E hr => ⟨_, (pss_cons (ps_expr (pe_call X_check_row (hr.mono (by first | decide | omega)) (by rfl) C_check_row.mg C_check_row.kp C_check_row.bd .nil (passes_call (takes_of rfl rfl rfl rfl) fun _ _ _ _ h => h) (pa_cons (pv 0) pa_nil))) (pss_cons (ps_expr (pe_call X_check_depth (hr.mono (by first | decide | omega)) (by rfl) C_check_depth.mg C_check_depth.kp C_check_depth.bd .nil (passes_call (takes_of rfl rfl rfl rfl) fun _ _ _ _ h => h) (pa_cons (pv 1) pa_nil))) (pss_cons (ps_par (i := 2) (j := 3) (by rfl) sc_settled.nd rfl rfl (by decide) rfl rfl (pa_cons (pe_make0 N_Joints.made N_Joints.ok (hr.mono (by first | decide | omega)) (by rfl) N_Joints.mg N_Joints.bd .nil (N_Joints.ps _ rfl rfl)) (pa_cons pe_int pa_nil)) (by rfl)) (pss_cons (ps_par (i := 4) (j := 5) (by rfl) sc_settled.nd rfl rfl (by decide) rfl rfl (pa_cons (pe_meth (pv 2) kc_Joints.cls M_Joints_kind_of_row.me M_Joints_kind_of_row.ok (hr.mono (by first | decide | omega)) M_Joints_kind_of_row.bd .nil (M_Joints_kind_of_row.ps _ rfl rfl) (pa_cons (pv 0) (pa_cons (pv 1) pa_nil))) (pa_cons (pe_meth (pv 2) kc_Joints.cls M_Joints_empty.me M_Joints_empty.ok (hr.mono (by first | decide | omega)) M_Joints_empty.bd .nil (M_Joints_empty.ps _ rfl rfl) (pa_cons (pv 1) pa_nil)) pa_nil)) (by rfl)) (pss_cons (ps_set (i := 6) sc_settled.nd rfl (Or.inl rfl) (pe_meth (pv 2) kc_Joints.cls M_Joints_together.me M_Joints_together.ok (hr.mono (by first | decide | omega)) M_Joints_together.bd .nil (M_Joints_together.ps _ rfl rfl) (pa_cons (pv 5) (pa_cons (pv 4) (pa_cons (pv 1) pa_nil))))) (pss_cons (ps_while (passes_of rfl) (pt_cmpR (op_neK (K := K) rfl hr.units) (pv 6) (pv 5) (nomark _)) (pss_cons (ps_par (i := 5) (j := 3) (by rfl) sc_settled.nd rfl rfl (by decide) rfl rfl (pa_cons (pv 6) (pa_cons (pe_op (op_addK (K := K) rfl) (pv 3) pe_int) pa_nil)) (by rfl)) (pss_one (ps_set (i := 6) sc_settled.nd rfl (Or.inl rfl) (pe_meth (pv 2) kc_Joints.cls M_Joints_together.me M_Joints_together.ok (hr.mono (by first | decide | omega)) M_Joints_together.bd .nil (M_Joints_together.ps _ rfl rfl) (pa_cons (pv 5) (pa_cons (pv 4) (pa_cons (pv 1) pa_nil)))))))) (pss_one (ps_ret (pv 3))))))))), fun ds Q XP h H0 okX => ?_⟩
  obtain ⟨l, z, rfl, h⟩ := h
  /- 0:row 1:depth 2:joints 3:times 4:single 5:found 6:longer -/
  change DL.WS _ _ [.dat _, .dat _, .un, .un, .un, .un, .un] _ _
  refine ws_seq (ws_drop (we_callF ?_))
  refine wa_cons (we_var rfl (fz_dat (wa_nil ?_)))
  rcases h with ⟨i, hb, k⟩ | ⟨hL, hz, k⟩
  · exact ⟨XP, .inr ⟨rfl, fun C d h => h⟩, .inl ⟨l, i, rfl, hb, k⟩⟩
  · refine ⟨fun _ _ => False, .inl fun _ _ z => z, .inr ⟨l, rfl, hL, ?_⟩⟩
    refine ws_seq (ws_drop (we_callF ?_))
    refine wa_cons (we_var rfl (fz_dat (wa_nil ?_)))
    exact ⟨XP, .inr ⟨rfl, fun C d h => h⟩, .inl ⟨z, rfl, hz, k⟩⟩
local macro_rules | `(tactic| walk_at "e") => `(tactic| repeat (first
  | ((with_reducible refine tgWE ?_); first
      | ((with_reducible apply tgSetE); (focus (simp only [List.set_cons_succ, List.set_cons_zero]; rfl)))
      | ((with_reducible apply we_callX); (focus (first | exact poolC _ _ _ _ _ _ _ | exact resC | exact onP | exact onB | exact onU onP | exact onU resC | exact onU (poolC _ _ _ _ _ _ _) | exact onU onB | exact onU (onU onP) | exact onU (onU (poolC _ _ _ _ _ _ _)))))
      | ((with_reducible refine tgNew ?_); refine we_dnewN ?_)
      | ((with_reducible apply we_methV); (focus (first | exact onK | exact onK0)); exact rfl; exact rfl)
      | with_reducible refine we_callF ?_
      | with_reducible refine we_callNF ?_
      | ((with_reducible apply we_callR); (focus (first | exact poolC _ _ _ _ _ _ _ | exact resC | exact onP | exact onB | exact onU onP | exact onU resC | exact onU (poolC _ _ _ _ _ _ _) | exact onU onB | exact onU (onU onP) | exact onU (onU (poolC _ _ _ _ _ _ _)))))
      | ((with_reducible apply we_methA); (focus (first | exact ac0 | exact onA)); (focus decide); (focus decide); (focus decide))
      | ((with_reducible apply we_fldAn); (focus (first | exact ac0 | exact onA)); assumption)
      | ((with_reducible apply we_fldAk); (focus (first | exact ac0 | exact onA)); assumption)
      | ((with_reducible apply we_fldAl); (focus (first | exact ac0 | exact onA)); assumption)
      | ((with_reducible apply we_dtnin); (focus (first | exact jc0.part subJj | exact onR.part subJj)))
      | ((with_reducible apply we_dtget); (focus (first | exact jc0.part subJj | exact onR.part subJj)))
      | ((with_reducible apply we_dinin); (focus (first | exact jc0.part subJl | exact onR.part subJl)))
      | ((with_reducible apply we_diget); (focus (first | exact jc0.part subJl | exact onR.part subJl)))
      | ((with_reducible apply we_methJ); (focus (first | exact jc0 | exact onR)); (focus decide); (focus decide); (focus decide); (focus decide))
      | ((with_reducible apply we_fldJt); (focus (first | exact jc0 | exact onR)); assumption)
      | ((with_reducible apply we_fldJs); (focus (first | exact jc0 | exact onR)); assumption)
      | ((with_reducible apply we_fldJl); (focus (first | exact jc0 | exact onR)); assumption)
      | ((with_reducible apply we_fldJj); (focus (first | exact jc0 | exact onR)); assumption)
      | ((with_reducible apply we_reprOwn2); exact rfl)
      | with_reducible refine we_maxDf ?_
      | ((with_reducible apply we_ktup); assumption)
      | with_reducible refine we_ref ?_
      | ((with_reducible apply we_callK); (focus (first | exact onK | exact onK0)))
      | with_reducible refine we_scount ?_
      | with_reducible refine we_sstarts ?_
      | with_reducible refine we_sends ?_
      | ((with_reducible apply we_revR); (focus (exact rfl)); (focus (first | assumption | omega | decide | (simp; done) | (simp; omega))))
      | with_reducible refine we_isi ?_
      | ((with_reducible apply we_var); focus rfl)
      | with_reducible refine we_int ?_
      | with_reducible refine we_str ?_
      | with_reducible refine we_bl ?_
      | with_reducible refine we_non ?_
      | with_reducible refine we_op ?_
      | with_reducible refine we_un ?_
      | with_reducible refine we_chain ?_
      | with_reducible refine we_cb ?_
      | with_reducible refine we_tup ?_
      | with_reducible refine we_lst ?_
      | with_reducible refine we_if ?_
      | with_reducible refine we_andV ?_
      | with_reducible refine we_orV ?_
      | with_reducible refine we_notV ?_
      | with_reducible refine we_sl ?_
      | with_reducible refine we_join ?_
      | with_reducible refine we_draw ?_)
  | ((with_reducible refine tgFZ ?_); first
      | with_reducible refine fz_dat ?_
      | with_reducible refine fz_own ?_)
  | ((with_reducible refine tgWA ?_); first
      | with_reducible refine wa_star ?_
      | with_reducible refine wa_nil ?_
      | with_reducible refine wa_cons ?_)
  | ((with_reducible refine tgWT ?_); first
      | ((with_reducible apply tgSetT); (focus (simp only [List.set_cons_succ, List.set_cons_zero]; rfl)))
      | with_reducible refine wt_yes ?_
      | with_reducible refine wt_test ?_
      | with_reducible refine wt_B ?_
      | with_reducible refine wt_not ?_
      | with_reducible refine wt_and ?_
      | with_reducible refine wt_or ?_)
  | ((with_reducible refine tgWAO ?_); first
      | with_reducible refine wao_nil ?_
      | with_reducible refine wao_cons ?_)
  | ((with_reducible refine tgDO ?_); first
      | ((with_reducible refine dop_shl1 ?_ ?_ ?_); (focus omega); (focus omega))
      | with_reducible refine deq_row ?_
      | ((with_reducible apply deq_enc); (focus (first | exact encNat | exact encP2 | exact encInt)))
      | ((with_reducible apply dne_enc); (focus (first | exact encNat | exact encP2 | exact encInt)))
      | ((with_reducible apply deq_encN); (focus (first | exact encNat | exact encP2 | exact encInt)))
      | ((with_reducible apply dne_encN); (focus (first | exact encNat | exact encP2 | exact encInt)))
      | ((with_reducible refine da_map ?_ ?_); (focus (first | assumption | omega | decide | (simp; done) | (simp; omega))))
      | ((with_reducible refine da_snoc2 ?_ ?_); (focus omega))
      | with_reducible refine dne_row ?_
      | ((with_reducible refine dop_fdivN ?_ ?_ ?_); (focus omega); (focus omega))
      | ((with_reducible apply di_names); assumption; (focus omega); (focus omega))
      | ((with_reducible apply di_qn); exact rfl)
      | ((with_reducible apply dnin_tab); assumption; (focus (first | exact .head _ | exact .tail _ (.head _) | exact .tail _ (.tail _ (.head _)) | exact .tail _ (.tail _ (.tail _ (.head _))))))
      | ((with_reducible apply di_tab); assumption; (focus (first | exact .head _ | exact .tail _ (.head _) | exact .tail _ (.tail _ (.head _)) | exact .tail _ (.tail _ (.tail _ (.head _))))))
      | ((with_reducible refine dop_pow2 ?_ ?_ ?_); (focus omega); (focus omega))
      | ((with_reducible refine dop_pow10 ?_ ?_ ?_); (focus omega); (focus omega))
      | with_reducible refine dis_opt ?_
      | with_reducible refine dnis_bl ?_
      | with_reducible refine dis_qn ?_
      | with_reducible refine dnis_qn ?_
      | with_reducible refine dis_non0 ?_
      | with_reducible refine dnis_non0 ?_
      | with_reducible refine dnis_opt ?_
      | with_reducible refine dle_opt ?_
      | ((with_reducible refine deq_qn ?_ ?_ ?_ ?_ ?_); (focus (first | assumption | omega | decide | (simp; done) | (simp; omega))); (focus (first | assumption | omega | decide | (simp; done) | (simp; omega))); (focus (first | assumption | omega | decide | (simp; done) | (simp; omega))); (focus (first | assumption | omega | decide | (simp; done) | (simp; omega))))
      | ((with_reducible refine dne_qn ?_ ?_ ?_ ?_ ?_); (focus (first | assumption | omega | decide | (simp; done) | (simp; omega))); (focus (first | assumption | omega | decide | (simp; done) | (simp; omega))); (focus (first | assumption | omega | decide | (simp; done) | (simp; omega))); (focus (first | assumption | omega | decide | (simp; done) | (simp; omega))))
      | with_reducible refine din_row2 ?_
      | ((with_reducible refine dm_row ?_ ?_ ?_ ?_); (focus (first | assumption | omega | decide | (simp; done) | (simp; omega))); (focus (first | assumption | omega | decide | (simp; done) | (simp; omega))); (focus (first | assumption | omega | decide | (simp; done) | (simp; omega))))
      | with_reducible refine deq_opt ?_
      | with_reducible refine dne_opt ?_
      | ((with_reducible refine deq_qn0 ?_ ?_ ?_); assumption; (focus omega))
      | with_reducible refine da_int ?_
      | with_reducible refine dop_sub ?_
      | with_reducible refine dlt_int ?_
      | with_reducible refine dle_int ?_
      | with_reducible refine dop_gt ?_
      | with_reducible refine dop_ge ?_
      | ((with_reducible apply de_sc); focus rfl)
      | ((with_reducible apply dn_sc); focus rfl)
      | ((with_reducible apply di_tup); focus rfl)
      | ((with_reducible apply di_lst); focus rfl))
  | ((with_reducible refine tgDC ?_); first
      | ((with_reducible refine dl_row ?_ ?_); (focus (first | omega | (simp; done))))
      | with_reducible refine dl_map ?_
      | ((with_reducible apply dl_names); assumption)
      | with_reducible refine db_repr2 ?_
      | ((with_reducible refine db_reprN2 ?_ ?_ ?_); (focus (first | assumption | omega | decide | (simp; done) | (simp; omega))); (focus (first | assumption | omega | decide | (simp; done) | (simp; omega))))
      | ((with_reducible refine db_sortN ?_ ?_); (focus (first | assumption | omega | decide | (simp; done) | (simp; omega))))
      | ((with_reducible refine db_sortP ?_ ?_); (focus (first | assumption | omega | decide | (simp; done) | (simp; omega))))
      | ((with_reducible apply dl_qn); exact rfl)
      | with_reducible refine db_all ?_
      | ((with_reducible apply db_isX); (focus (exact knows_exc)); (focus assumption); (focus assumption))
      | with_reducible refine db_anyB ?_
      | with_reducible refine db_listT ?_
      | with_reducible refine db_listL ?_
      | with_reducible refine dl_lst ?_
      | with_reducible refine dl_tup ?_
      | with_reducible refine db_max ?_
      | with_reducible refine db_min ?_
      | with_reducible refine db_abs ?_
      | with_reducible refine db_intI ?_
      | with_reducible refine db_intB ?_)
  | ((with_reducible refine tgDS ?_); first
      | with_reducible refine dsl_take ?_
      | with_reducible refine dsl_drop1 ?_
      | with_reducible refine dsl_drop ?_
      | ((with_reducible refine ds_mid ?_ ?_ ?_); (focus omega); (focus omega))
      | ((with_reducible refine ds_take ?_ ?_); (focus omega))
      | ((with_reducible refine ds_drop1 ?_ ?_); (focus omega))
      | ((with_reducible refine ds_drop ?_ ?_); (focus omega))
      | with_reducible refine ds_qn ?_
      | with_reducible refine ds_lst ?_
      | with_reducible refine ds_tup ?_)
  | ((with_reducible refine tgIf ?_); first
      | with_reducible refine ite_n ?_
      | ((with_reducible refine ite_BT ?_ ?_); (focus (first | assumption | (with_reducible rfl))))
      | ((with_reducible refine ite_BF ?_ ?_); (focus assumption))
      | ((with_reducible refine ite_dT ?_ ?_); (focus (first | assumption | omega | (with_reducible rfl) | (simp; done) | exact rfl)))
      | ((with_reducible refine ite_dF ?_ ?_); (focus (first | omega | decide)))
      | with_reducible refine iteT ?_
      | with_reducible refine iteF ?_)
  | ((with_reducible apply tgPick); (focus (simp only [pick, List.filterMap_cons, List.filterMap_nil, List.getElem?_cons_zero, List.getElem?_cons_succ]; rfl)))
  | ((with_reducible refine u_check_row ?_ ?_); (focus (first | assumption | omega | decide | (simp; done) | (simp; omega))))
  | ((with_reducible refine u_check_both ?_ ?_ ?_); (focus (first | assumption | omega | decide | (simp; done) | (simp; omega))); (focus (first | assumption | omega | decide | (simp; done) | (simp; omega))))
  | ((with_reducible refine u_check_depth ?_ ?_); (focus (first | assumption | omega | decide | (simp; done) | (simp; omega))))
  | ((with_reducible refine u_are_alikeN ?_ ?_ ?_ ?_ ?_ ?_); (focus (first | assumption | omega | decide | (simp; done) | (simp; omega))); (focus (first | assumption | omega | decide | (simp; done) | (simp; omega))); (focus (first | assumption | omega | decide | (simp; done) | (simp; omega))); (focus (first | assumption | omega | decide | (simp; done) | (simp; omega))); (focus (first | assumption | omega | decide | (simp; done) | (simp; omega))))
  | ((with_reducible refine u_are_alike ?_ ?_ ?_ ?_ ?_ ?_ ?_); (focus (first | assumption | omega | decide | (simp; done) | (simp; omega))); (focus (first | assumption | omega | decide | (simp; done) | (simp; omega))); (focus (first | assumption | omega | decide | (simp; done) | (simp; omega))); (focus (first | assumption | omega | decide | (simp; done) | (simp; omega))); (focus (first | assumption | omega | decide | (simp; done) | (simp; omega))); (focus (first | assumption | omega | decide | (simp; done) | (simp; omega))))
  | ((with_reducible refine u_wAlikeN ?_ ?_ ?_ ?_); (focus (first | assumption | omega | decide | (simp; done) | (simp; omega))); (focus (first | assumption | omega | decide | (simp; done) | (simp; omega))); (focus (first | assumption | omega | decide | (simp; done) | (simp; omega))))
  | ((with_reducible refine u_wAlike ?_ ?_ ?_ ?_ ?_); (focus (first | assumption | omega | decide | (simp; done) | (simp; omega))); (focus (first | assumption | omega | decide | (simp; done) | (simp; omega))); (focus (first | assumption | omega | decide | (simp; done) | (simp; omega))); (focus (first | assumption | omega | decide | (simp; done) | (simp; omega))))
  | ((with_reducible refine u_answers ?_ ?_ ?_ ?_ ?_ ?_ ?_ ?_ ?_); (focus (first | assumption | omega | decide | (simp; done) | (simp; omega))); (focus (first | assumption | omega | decide | (simp; done) | (simp; omega))); (focus (first | assumption | omega | decide | (simp; done) | (simp; omega))); (focus (first | assumption | omega | decide | (simp; done) | (simp; omega))); (focus (first | assumption | omega | decide | (simp; done) | (simp; omega))); (focus (first | assumption | omega | decide | (simp; done) | (simp; omega))); (focus (first | assumption | omega | decide | (simp; done) | (simp; omega))); (focus (first | assumption | omega | decide | (simp; done) | (simp; omega))))
  | ((with_reducible refine u_winN ?_ ?_ ?_ ?_ ?_ ?_); (focus (first | assumption | omega | decide | (simp; done) | (simp; omega))); (focus (first | assumption | omega | decide | (simp; done) | (simp; omega))); (focus (first | assumption | omega | decide | (simp; done) | (simp; omega))); (focus (first | assumption | omega | decide | (simp; done) | (simp; omega))); (focus (first | assumption | omega | decide | (simp; done) | (simp; omega))))
  | ((with_reducible refine u_win ?_ ?_ ?_ ?_ ?_ ?_ ?_); (focus (first | assumption | omega | decide | (simp; done) | (simp; omega))); (focus (first | assumption | omega | decide | (simp; done) | (simp; omega))); (focus (first | assumption | omega | decide | (simp; done) | (simp; omega))); (focus (first | assumption | omega | decide | (simp; done) | (simp; omega))); (focus (first | assumption | omega | decide | (simp; done) | (simp; omega))); (focus (first | assumption | omega | decide | (simp; done) | (simp; omega))))
  | ((with_reducible refine u_un ?_ ?_ ?_ ?_ ?_); (focus (first | assumption | omega | decide | (simp; done) | (simp; omega))); (focus (first | assumption | omega | decide | (simp; done) | (simp; omega))); (focus (first | assumption | omega | decide | (simp; done) | (simp; omega))); (focus (first | assumption | omega | decide | (simp; done) | (simp; omega))))
  | ((with_reducible refine u_draw ?_ ?_ ?_ ?_); (focus (first | assumption | omega | decide | (simp; done) | (simp; omega))); (focus (first | assumption | omega | decide | (simp; done) | (simp; omega))); (focus (first | assumption | omega | decide | (simp; done) | (simp; omega))))
  | ((with_reducible refine u_pair ?_ ?_ ?_ ?_); (focus (first | assumption | omega | decide | (simp; done) | (simp; omega))); (focus (first | assumption | omega | decide | (simp; done) | (simp; omega))); (focus (first | assumption | omega | decide | (simp; done) | (simp; omega))))
  | ((with_reducible refine u_inStep ?_ ?_); (focus (first | assumption | omega | decide | (simp; done) | (simp; omega))))
  | ((with_reducible refine u_lasts ?_ ?_ ?_ ?_ ?_ ?_); (focus (first | assumption | omega | decide | (simp; done) | (simp; omega))); (focus (first | assumption | omega | decide | (simp; done) | (simp; omega))); (focus (first | assumption | omega | decide | (simp; done) | (simp; omega))); (focus (first | assumption | omega | decide | (simp; done) | (simp; omega))); (focus (first | assumption | omega | decide | (simp; done) | (simp; omega))))
  | ((with_reducible apply u_qry); (focus (first | assumption | omega | decide | (simp; done) | (simp; omega))); (focus (first | assumption | omega | decide | (simp; done) | (simp; omega))); (focus (first | assumption | omega | decide | (simp; done) | (simp; omega))); (focus (first | assumption | omega | decide | (simp; done) | (simp; omega))); (focus (first | assumption | omega | decide | (simp; done) | (simp; omega))); (focus (first | assumption | omega | decide | (simp; done) | (simp; omega))); (focus (first | assumption | omega | decide | (simp; done) | (simp; omega))))
  | ((with_reducible apply u_steep); (focus (first | assumption | omega | decide | (simp; done) | (simp; omega))); (focus (first | assumption | omega | decide | (simp; done) | (simp; omega))); (focus (first | assumption | omega | decide | (simp; done) | (simp; omega))); (focus (first | assumption | omega | decide | (simp; done) | (simp; omega))); (focus (first | assumption | omega | decide | (simp; done) | (simp; omega))))
  | ((with_reducible apply u_anyq); (focus (first | assumption | omega | decide | (simp; done) | (simp; omega))); (focus (first | assumption | omega | decide | (simp; done) | (simp; omega))); (focus (first | assumption | omega | decide | (simp; done) | (simp; omega))); (focus (first | assumption | omega | decide | (simp; done) | (simp; omega))))
  | ((with_reducible refine u_lets ?_ ?_ ?_); (focus (first | assumption | omega | decide | (simp; done) | (simp; omega))); (focus (first | assumption | omega | decide | (simp; done) | (simp; omega))))
  | ((with_reducible refine u_letsH ?_ ?_ ?_); (focus (first | assumption | omega | decide | (simp; done) | (simp; omega))); (focus (first | assumption | omega | decide | (simp; done) | (simp; omega))))
  | ((with_reducible refine u_islet ?_ ?_); (focus (first | assumption | omega | decide | (simp; done) | (simp; omega))))
  | ((with_reducible refine u_inner ?_))
  | ((with_reducible refine u_isq ?_ ?_ ?_ ?_); (focus (first | assumption | omega | decide | (simp; done) | (simp; omega))); (focus (first | assumption | omega | decide | (simp; done) | (simp; omega))); (focus (first | assumption | omega | decide | (simp; done) | (simp; omega))))
  | ((with_reducible refine u_isqH ?_ ?_ ?_ ?_); (focus (first | assumption | omega | decide | (simp; done) | (simp; omega))); (focus (first | assumption | omega | decide | (simp; done) | (simp; omega))); (focus (first | assumption | omega | decide | (simp; done) | (simp; omega))))
  | ((with_reducible refine u_chq ?_ ?_ ?_); (focus (first | assumption | omega | decide | (simp; done) | (simp; omega))); (focus (first | assumption | omega | decide | (simp; done) | (simp; omega))))
  | ((with_reducible refine u_chqH ?_ ?_ ?_); (focus (first | assumption | omega | decide | (simp; done) | (simp; omega))); (focus (first | assumption | omega | decide | (simp; done) | (simp; omega))))
  | ((with_reducible refine u_add ?_ ?_ ?_); (focus (first | assumption | omega | decide | (simp; done) | (simp; omega))); (focus (first | assumption | omega | decide | (simp; done) | (simp; omega))))
  | ((with_reducible refine u_addH ?_ ?_ ?_); (focus (first | assumption | omega | decide | (simp; done) | (simp; omega))); (focus (first | assumption | omega | decide | (simp; done) | (simp; omega))))
  | ((with_reducible apply u_isletA); (focus (first | assumption | omega | decide | (simp; done) | (simp; omega))); (focus (first | assumption | omega | decide | (simp; done) | (simp; omega))); (focus (first | assumption | omega | decide | (simp; done) | (simp; omega))); (focus (first | assumption | omega | decide | (simp; done) | (simp; omega))); (focus (first | assumption | omega | decide | (simp; done) | (simp; omega))))
  | ((with_reducible apply u_metA); (focus (first | assumption | omega | decide | (simp; done) | (simp; omega))); (focus (first | assumption | omega | decide | (simp; done) | (simp; omega))); (focus (first | assumption | omega | decide | (simp; done) | (simp; omega))); (focus (first | assumption | omega | decide | (simp; done) | (simp; omega))); (focus (first | assumption | omega | decide | (simp; done) | (simp; omega))); (focus (first | assumption | omega | decide | (simp; done) | (simp; omega))))
  | ((with_reducible refine u_lets1 ?_ ?_ ?_); (focus (first | assumption | omega | decide | (simp; done) | (simp; omega))); (focus (first | assumption | omega | decide | (simp; done) | (simp; omega))))
  | ((with_reducible refine u_lets1H ?_ ?_ ?_ ?_); (focus (first | assumption | omega | decide | (simp; done) | (simp; omega))); (focus (first | assumption | omega | decide | (simp; done) | (simp; omega))); (focus (first | assumption | omega | decide | (simp; done) | (simp; omega))))
  | ((with_reducible refine u_letsPH ?_ ?_ ?_ ?_ ?_ ?_); (focus (first | assumption | omega | decide | (simp; done) | (simp; omega))); (focus (first | assumption | omega | decide | (simp; done) | (simp; omega))); (focus (first | assumption | omega | decide | (simp; done) | (simp; omega))); (focus (first | assumption | omega | decide | (simp; done) | (simp; omega))); (focus (first | assumption | omega | decide | (simp; done) | (simp; omega))))
  | ((with_reducible refine u_letsPa ?_ ?_ ?_); (focus (first | assumption | omega | decide | (simp; done) | (simp; omega))); (focus (first | assumption | omega | decide | (simp; done) | (simp; omega))))
  | ((with_reducible refine u_letsPn ?_ ?_ ?_ ?_ ?_); (focus (first | assumption | omega | decide | (simp; done) | (simp; omega))); (focus (first | assumption | omega | decide | (simp; done) | (simp; omega))); (focus (first | assumption | omega | decide | (simp; done) | (simp; omega))); (focus (first | assumption | omega | decide | (simp; done) | (simp; omega))))
  | ((with_reducible refine u_letsPb ?_ ?_ ?_ ?_ ?_ ?_); (focus (first | assumption | omega | decide | (simp; done) | (simp; omega))); (focus (first | assumption | omega | decide | (simp; done) | (simp; omega))); (focus (first | assumption | omega | decide | (simp; done) | (simp; omega))); (focus (first | assumption | omega | decide | (simp; done) | (simp; omega))); (focus (first | assumption | omega | decide | (simp; done) | (simp; omega))))
  | ((with_reducible refine u_letsPs ?_ ?_ ?_ ?_ ?_ ?_ ?_); (focus (first | assumption | omega | decide | (simp; done) | (simp; omega))); (focus (first | assumption | omega | decide | (simp; done) | (simp; omega))); (focus (first | assumption | omega | decide | (simp; done) | (simp; omega))); (focus (first | assumption | omega | decide | (simp; done) | (simp; omega))); (focus (first | assumption | omega | decide | (simp; done) | (simp; omega))); (focus (first | assumption | omega | decide | (simp; done) | (simp; omega))))
  | ((with_reducible refine u_letsS ?_ ?_ ?_); (focus (first | assumption | omega | decide | (simp; done) | (simp; omega))); (focus (first | assumption | omega | decide | (simp; done) | (simp; omega))))
  | ((with_reducible refine u_letsP ?_ ?_ ?_ ?_ ?_); (focus (first | assumption | omega | decide | (simp; done) | (simp; omega))); (focus (first | assumption | omega | decide | (simp; done) | (simp; omega))); (focus (first | assumption | omega | decide | (simp; done) | (simp; omega))); (focus (first | assumption | omega | decide | (simp; done) | (simp; omega))))
  | ((with_reducible apply u_line); (focus (first | assumption | omega | decide | (simp; done) | (simp; omega))); (focus (first | assumption | omega | decide | (simp; done) | (simp; omega))); (focus (first | assumption | omega | decide | (simp; done) | (simp; omega))))
  | ((with_reducible refine u_turnA ?_ ?_); (focus (first | assumption | omega | decide | (simp; done) | (simp; omega))))
  | ((with_reducible refine u_turnAH ?_ ?_); (focus (first | assumption | omega | decide | (simp; done) | (simp; omega))))
  | ((with_reducible refine u_turnQ ?_ ?_ ?_); (focus (first | assumption | omega | decide | (simp; done) | (simp; omega))); (focus (first | assumption | omega | decide | (simp; done) | (simp; omega))))
  | ((with_reducible refine u_turnQH ?_ ?_ ?_); (focus (first | assumption | omega | decide | (simp; done) | (simp; omega))); (focus (first | assumption | omega | decide | (simp; done) | (simp; omega))))
  | ((with_reducible refine u_turnQS ?_ ?_ ?_ ?_ ?_); (focus (first | assumption | omega | decide | (simp; done) | (simp; omega))); (focus (first | assumption | omega | decide | (simp; done) | (simp; omega))); (focus (first | assumption | omega | decide | (simp; done) | (simp; omega))); (focus (first | assumption | omega | decide | (simp; done) | (simp; omega))))
  | ((with_reducible refine u_places ?_ ?_ ?_ ?_ ?_); (focus (first | assumption | omega | decide | (simp; done) | (simp; omega))); (focus (first | assumption | omega | decide | (simp; done) | (simp; omega))); (focus (first | assumption | omega | decide | (simp; done) | (simp; omega))); (focus (first | assumption | omega | decide | (simp; done) | (simp; omega))))
  | ((with_reducible refine u_placesS ?_ ?_ ?_ ?_ ?_ ?_ ?_); (focus (first | assumption | omega | decide | (simp; done) | (simp; omega))); (focus (first | assumption | omega | decide | (simp; done) | (simp; omega))); (focus (first | assumption | omega | decide | (simp; done) | (simp; omega))); (focus (first | assumption | omega | decide | (simp; done) | (simp; omega))); (focus (first | assumption | omega | decide | (simp; done) | (simp; omega))); (focus (first | assumption | omega | decide | (simp; done) | (simp; omega))))
  | ((with_reducible refine u_parting ?_ ?_ ?_ ?_ ?_); (focus (first | assumption | omega | decide | (simp; done) | (simp; omega))); (focus (first | assumption | omega | decide | (simp; done) | (simp; omega))); (focus (first | assumption | omega | decide | (simp; done) | (simp; omega))); (focus (first | assumption | omega | decide | (simp; done) | (simp; omega))))
  | ((with_reducible refine u_pat ?_))
  | ((with_reducible refine u_bare ?_))
  | ((with_reducible refine u_has ?_ ?_ ?_); (focus (first | assumption | omega | decide | (simp; done) | (simp; omega))); (focus (first | assumption | omega | decide | (simp; done) | (simp; omega))))
  | ((with_reducible refine u_allOf ?_ ?_ ?_ ?_); (focus (first | assumption | omega | decide | (simp; done) | (simp; omega))); (focus (first | assumption | omega | decide | (simp; done) | (simp; omega))); (focus (first | assumption | omega | decide | (simp; done) | (simp; omega))))
  | ((with_reducible apply u_leastOf); (focus (first | assumption | omega | decide | (simp; done) | (simp; omega))); (focus (first | assumption | omega | decide | (simp; done) | (simp; omega))); (focus (first | assumption | omega | decide | (simp; done) | (simp; omega))); (focus (first | assumption | omega | decide | (simp; done) | (simp; omega))); (focus (first | assumption | omega | decide | (simp; done) | (simp; omega))))
  | ((with_reducible refine u_depIn ?_ ?_); (focus (first | assumption | omega | decide | (simp; done) | (simp; omega))))
  | ((with_reducible refine u_depOf ?_ ?_ ?_); (focus (first | assumption | omega | decide | (simp; done) | (simp; omega))); (focus (first | assumption | omega | decide | (simp; done) | (simp; omega))))
  | ((with_reducible refine u_depOfH ?_ ?_ ?_); (focus (first | assumption | omega | decide | (simp; done) | (simp; omega))); (focus (first | assumption | omega | decide | (simp; done) | (simp; omega))))
  | ((with_reducible refine u_sameMany ?_ ?_ ?_ ?_ ?_); (focus (first | assumption | omega | decide | (simp; done) | (simp; omega))); (focus (first | assumption | omega | decide | (simp; done) | (simp; omega))); (focus (first | assumption | omega | decide | (simp; done) | (simp; omega))); (focus (first | assumption | omega | decide | (simp; done) | (simp; omega))))
  | ((with_reducible refine u_settledN ?_ ?_ ?_ ?_); (focus (first | assumption | omega | decide | (simp; done) | (simp; omega))); (focus (first | assumption | omega | decide | (simp; done) | (simp; omega))); (focus (first | assumption | omega | decide | (simp; done) | (simp; omega))))
  | ((with_reducible refine u_isBlk ?_))
  | ((with_reducible refine u_depB ?_ ?_ ?_ ?_); (focus (first | assumption | omega | decide | (simp; done) | (simp; omega))); (focus (first | assumption | omega | decide | (simp; done) | (simp; omega))); (focus (first | assumption | omega | decide | (simp; done) | (simp; omega))))
  | ((with_reducible refine u_ct ?_ ?_ ?_ ?_); (focus (first | assumption | omega | decide | (simp; done) | (simp; omega))); (focus (first | assumption | omega | decide | (simp; done) | (simp; omega))); (focus (first | assumption | omega | decide | (simp; done) | (simp; omega))))
  | ((with_reducible refine u_cb ?_ ?_ ?_ ?_); (focus (first | assumption | omega | decide | (simp; done) | (simp; omega))); (focus (first | assumption | omega | decide | (simp; done) | (simp; omega))); (focus (first | assumption | omega | decide | (simp; done) | (simp; omega))))
  | with_reducible refine dun_neg ?_
  | with_reducible refine tgA2 ?_
  | with_reducible refine tgA3 ?_
  | with_reducible refine tgEx2 ?_
  | with_reducible refine tgEx3 ?_
  | with_reducible refine tgEx4 ?_
  | with_reducible refine tgT2 ?_
  | with_reducible refine tgT3 ?_
  | with_reducible refine tgL2 ?_
  | with_reducible refine tgT4 ?_
  | refine ⟨_, (Or.inl rfl : DL.D.lst _ = DL.D.lst _ ∨ _), ?_⟩
  | refine ⟨_, (Or.inr rfl : _ ∨ DL.D.tup _ = DL.D.tup _), ?_⟩
  | with_reducible refine xin_no ?_
  | with_reducible refine xr_no ?_
  | refine ⟨(rfl : DL.D.ref _ = DL.D.ref _), ?_⟩
  | refine ⟨(rfl : DL.D.ty _ = Option.some _), ?_⟩
  | refine ⟨Qn.ty _, ?_⟩
  | refine ⟨(by simp : List.length _ ≤ 100000), ?_⟩
  | refine ⟨(by simp : List.length _ = _), ?_⟩
  | with_reducible refine wo_none ?_
  | with_reducible refine wo_some ?_
  | refine ⟨_, rfl, ?_⟩))
local macro_rules | `(tactic| walk_at "hl") => `(tactic| first
  | (rintro ⟨e, _⟩; rw [e]; rfl)
  | (rintro ⟨_, e, _⟩; rw [e]; rfl)
  | (rintro ⟨_, _, e, _⟩; rw [e]; rfl)
  | (rintro ⟨_, _, _, e, _⟩; rw [e]; rfl)
  | (rintro ⟨_, _, _, _, e, _⟩; rw [e]; rfl)
  | (rintro ⟨_, _, _, _, _, e, _⟩; rw [e]; rfl)
  | (rintro ⟨_, _, _, _, _, _, e, _⟩; rw [e]; rfl)
  | (rintro ⟨_, _, _, _, _, _, _, e, _⟩; rw [e]; rfl)
  | (rintro ⟨_, _, _, _, _, _, _, _, e, _⟩; rw [e]; rfl)
  | (rintro ⟨_, _, _, _, _, _, _, _, _, e, _⟩; rw [e]; rfl)
  | (rintro ⟨_, _, _, _, _, _, _, _, _, _, e, _⟩; rw [e]; rfl)
  | (rintro ⟨_, _, _, _, _, _, _, _, _, _, _, e, _⟩; rw [e]; rfl))
local macro_rules | `(tactic| walk_at "rec0") => `(tactic| first
  | (rintro ⟨_, _, _, _, _, _, _, _, ⟨_, h0, _⟩, _⟩; exact absurd h0 (Nat.not_lt_zero _))
  | (rintro ⟨_, _, _, ⟨_, h0, _⟩, _⟩; exact absurd h0 (Nat.not_lt_zero _))
  | (rintro ⟨_, _, _, _, _, ⟨_, h0, _⟩, _⟩; exact absurd h0 (Nat.not_lt_zero _))
  | (rintro ⟨_, _, _, _, _, _, ⟨_, h0, _⟩, _⟩; exact absurd h0 (Nat.not_lt_zero _)))
local macro_rules | `(tactic| walk_at "v") => `(tactic| repeat (first
  | ((with_reducible refine tgWE ?_); first
      | ((with_reducible apply tgSetE); (focus (simp only [List.set_cons_succ, List.set_cons_zero]; rfl)))
      | ((with_reducible apply we_callX); (focus (first | exact poolC _ _ _ _ _ _ _ | exact resC | exact onP | exact onB | exact onU onP | exact onU resC | exact onU (poolC _ _ _ _ _ _ _) | exact onU onB | exact onU (onU onP) | exact onU (onU (poolC _ _ _ _ _ _ _)))))
      | ((with_reducible refine tgNew ?_); refine we_dnewN ?_)
      | ((with_reducible apply we_methV); (focus (first | exact onK | exact onK0)); exact rfl; exact rfl)
      | with_reducible refine we_callF ?_
      | with_reducible refine we_callNF ?_
      | ((with_reducible apply we_callR); (focus (first | exact poolC _ _ _ _ _ _ _ | exact resC | exact onP | exact onB | exact onU onP | exact onU resC | exact onU (poolC _ _ _ _ _ _ _) | exact onU onB | exact onU (onU onP) | exact onU (onU (poolC _ _ _ _ _ _ _)))))
      | ((with_reducible apply we_methA); (focus (first | exact ac0 | exact onA)); (focus decide); (focus decide); (focus decide))
      | ((with_reducible apply we_fldAn); (focus (first | exact ac0 | exact onA)); assumption)
      | ((with_reducible apply we_fldAk); (focus (first | exact ac0 | exact onA)); assumption)
      | ((with_reducible apply we_fldAl); (focus (first | exact ac0 | exact onA)); assumption)
      | ((with_reducible apply we_dtnin); (focus (first | exact jc0.part subJj | exact onR.part subJj)))
      | ((with_reducible apply we_dtget); (focus (first | exact jc0.part subJj | exact onR.part subJj)))
      | ((with_reducible apply we_dinin); (focus (first | exact jc0.part subJl | exact onR.part subJl)))
      | ((with_reducible apply we_diget); (focus (first | exact jc0.part subJl | exact onR.part subJl)))
      | ((with_reducible apply we_methJ); (focus (first | exact jc0 | exact onR)); (focus decide); (focus decide); (focus decide); (focus decide))
      | ((with_reducible apply we_fldJt); (focus (first | exact jc0 | exact onR)); assumption)
      | ((with_reducible apply we_fldJs); (focus (first | exact jc0 | exact onR)); assumption)
      | ((with_reducible apply we_fldJl); (focus (first | exact jc0 | exact onR)); assumption)
      | ((with_reducible apply we_fldJj); (focus (first | exact jc0 | exact onR)); assumption)
      | ((with_reducible apply we_reprOwn2); exact rfl)
      | with_reducible refine we_maxDf ?_
      | ((with_reducible apply we_ktup); assumption)
      | with_reducible refine we_ref ?_
      | ((with_reducible apply we_callK); (focus (first | exact onK | exact onK0)))
      | with_reducible refine we_scount ?_
      | with_reducible refine we_sstarts ?_
      | with_reducible refine we_sends ?_
      | ((with_reducible apply we_revR); (focus (exact rfl)); (focus (first | assumption | omega | decide | (simp; done) | (simp; omega))))
      | with_reducible refine we_isi ?_
      | ((with_reducible apply we_var); focus rfl)
      | with_reducible refine we_int ?_
      | with_reducible refine we_str ?_
      | with_reducible refine we_bl ?_
      | with_reducible refine we_non ?_
      | with_reducible refine we_op ?_
      | with_reducible refine we_un ?_
      | with_reducible refine we_chain ?_
      | with_reducible refine we_cb ?_
      | with_reducible refine we_tup ?_
      | with_reducible refine we_lst ?_
      | with_reducible refine we_if ?_
      | with_reducible refine we_andV ?_
      | with_reducible refine we_orV ?_
      | with_reducible refine we_notV ?_
      | with_reducible refine we_sl ?_
      | with_reducible refine we_join ?_
      | with_reducible refine we_draw ?_)
  | ((with_reducible refine tgWS ?_); first
      | ((with_reducible apply tgSet); (focus (simp only [List.set_cons_succ, List.set_cons_zero]; rfl)))
      | ((with_reducible apply ws_retOwn); exact rfl)
      | ((with_reducible apply ws_app); exact rfl; (focus (first | assumption | omega | decide | (simp; done) | (simp; omega))))
      | with_reducible refine ws_nx ?_
      | with_reducible refine ws_asgF ?_
      | with_reducible refine ws_parF ?_
      | with_reducible refine ws_par3F ?_
      | ((with_reducible refine ws_par3 ?_ ?_ ?_ ?_); (focus (simp; done)); (focus (simp; done)); (focus (simp; done)))
      | ((with_reducible refine ws_tup3 rfl ?_ ?_ ?_ ?_); (focus (simp; done)); (focus (simp; done)); (focus (simp; done)))
      | ((with_reducible refine ws_tup4 rfl ?_ ?_ ?_ ?_ ?_); (focus (simp; done)); (focus (simp; done)); (focus (simp; done)); (focus (simp; done)))
      | ((with_reducible refine ws_asg2 rfl ?_ ?_ ?_); (focus (simp; done)); (focus (simp; done)))
      | ((with_reducible refine ws_asgL2 rfl ?_ ?_ ?_); (focus (simp; done)); (focus (simp; done)))
      | ((with_reducible refine ws_asg3 rfl ?_ ?_ ?_ ?_); (focus (simp; done)); (focus (simp; done)); (focus (simp; done)))
      | ((with_reducible refine ws_par ?_ ?_ ?_); (focus (simp; done)); (focus (simp; done)))
      | with_reducible refine ws_newK fun _ _ _ _ => ?_
      | with_reducible refine ws_newA ?_
      | with_reducible refine ws_newR ?_
      | with_reducible refine ws_newR2 ?_
      | ((with_reducible refine ws_asg4 rfl ?_ ?_ ?_ ?_ ?_); (focus (simp; done)); (focus (simp; done)); (focus (simp; done)); (focus (simp; done)))
      | with_reducible refine ws_seq ?_
      | with_reducible refine ws_next ?_
      | with_reducible refine ws_cnt ?_
      | with_reducible refine ws_brk ?_
      | with_reducible refine ws_if ?_
      | with_reducible refine ws_retN ?_
      | with_reducible refine ws_ret ?_
      | with_reducible refine ws_asg ?_
      | with_reducible refine ws_drop ?_)
  | ((with_reducible refine tgFZ ?_); first
      | with_reducible refine fz_dat ?_
      | with_reducible refine fz_own ?_)
  | ((with_reducible refine tgWA ?_); first
      | with_reducible refine wa_star ?_
      | with_reducible refine wa_nil ?_
      | with_reducible refine wa_cons ?_)
  | ((with_reducible refine tgWT ?_); first
      | ((with_reducible apply tgSetT); (focus (simp only [List.set_cons_succ, List.set_cons_zero]; rfl)))
      | with_reducible refine wt_yes ?_
      | with_reducible refine wt_test ?_
      | with_reducible refine wt_B ?_
      | with_reducible refine wt_not ?_
      | with_reducible refine wt_and ?_
      | with_reducible refine wt_or ?_)
  | ((with_reducible refine tgWAO ?_); first
      | with_reducible refine wao_nil ?_
      | with_reducible refine wao_cons ?_)
  | ((with_reducible refine tgDO ?_); first
      | ((with_reducible refine dop_shl1 ?_ ?_ ?_); (focus omega); (focus omega))
      | with_reducible refine deq_row ?_
      | ((with_reducible apply deq_enc); (focus (first | exact encNat | exact encP2 | exact encInt)))
      | ((with_reducible apply dne_enc); (focus (first | exact encNat | exact encP2 | exact encInt)))
      | ((with_reducible apply deq_encN); (focus (first | exact encNat | exact encP2 | exact encInt)))
      | ((with_reducible apply dne_encN); (focus (first | exact encNat | exact encP2 | exact encInt)))
      | ((with_reducible refine da_map ?_ ?_); (focus (first | assumption | omega | decide | (simp; done) | (simp; omega))))
      | ((with_reducible refine da_snoc2 ?_ ?_); (focus omega))
      | with_reducible refine dne_row ?_
      | ((with_reducible refine dop_fdivN ?_ ?_ ?_); (focus omega); (focus omega))
      | ((with_reducible apply di_names); assumption; (focus omega); (focus omega))
      | ((with_reducible apply di_qn); exact rfl)
      | ((with_reducible apply dnin_tab); assumption; (focus (first | exact .head _ | exact .tail _ (.head _) | exact .tail _ (.tail _ (.head _)) | exact .tail _ (.tail _ (.tail _ (.head _))))))
      | ((with_reducible apply di_tab); assumption; (focus (first | exact .head _ | exact .tail _ (.head _) | exact .tail _ (.tail _ (.head _)) | exact .tail _ (.tail _ (.tail _ (.head _))))))
      | ((with_reducible refine dop_pow2 ?_ ?_ ?_); (focus omega); (focus omega))
      | ((with_reducible refine dop_pow10 ?_ ?_ ?_); (focus omega); (focus omega))
      | with_reducible refine dis_opt ?_
      | with_reducible refine dnis_bl ?_
      | with_reducible refine dis_qn ?_
      | with_reducible refine dnis_qn ?_
      | with_reducible refine dis_non0 ?_
      | with_reducible refine dnis_non0 ?_
      | with_reducible refine dnis_opt ?_
      | with_reducible refine dle_opt ?_
      | ((with_reducible refine deq_qn ?_ ?_ ?_ ?_ ?_); (focus (first | assumption | omega | decide | (simp; done) | (simp; omega))); (focus (first | assumption | omega | decide | (simp; done) | (simp; omega))); (focus (first | assumption | omega | decide | (simp; done) | (simp; omega))); (focus (first | assumption | omega | decide | (simp; done) | (simp; omega))))
      | ((with_reducible refine dne_qn ?_ ?_ ?_ ?_ ?_); (focus (first | assumption | omega | decide | (simp; done) | (simp; omega))); (focus (first | assumption | omega | decide | (simp; done) | (simp; omega))); (focus (first | assumption | omega | decide | (simp; done) | (simp; omega))); (focus (first | assumption | omega | decide | (simp; done) | (simp; omega))))
      | with_reducible refine din_row2 ?_
      | ((with_reducible refine dm_row ?_ ?_ ?_ ?_); (focus (first | assumption | omega | decide | (simp; done) | (simp; omega))); (focus (first | assumption | omega | decide | (simp; done) | (simp; omega))); (focus (first | assumption | omega | decide | (simp; done) | (simp; omega))))
      | with_reducible refine deq_opt ?_
      | with_reducible refine dne_opt ?_
      | ((with_reducible refine deq_qn0 ?_ ?_ ?_); assumption; (focus omega))
      | with_reducible refine da_int ?_
      | with_reducible refine dop_sub ?_
      | with_reducible refine dlt_int ?_
      | with_reducible refine dle_int ?_
      | with_reducible refine dop_gt ?_
      | with_reducible refine dop_ge ?_
      | ((with_reducible apply de_sc); focus rfl)
      | ((with_reducible apply dn_sc); focus rfl)
      | ((with_reducible apply di_tup); focus rfl)
      | ((with_reducible apply di_lst); focus rfl))
  | ((with_reducible refine tgDC ?_); first
      | ((with_reducible refine dl_row ?_ ?_); (focus (first | omega | (simp; done))))
      | with_reducible refine dl_map ?_
      | ((with_reducible apply dl_names); assumption)
      | with_reducible refine db_repr2 ?_
      | ((with_reducible refine db_reprN2 ?_ ?_ ?_); (focus (first | assumption | omega | decide | (simp; done) | (simp; omega))); (focus (first | assumption | omega | decide | (simp; done) | (simp; omega))))
      | ((with_reducible refine db_sortN ?_ ?_); (focus (first | assumption | omega | decide | (simp; done) | (simp; omega))))
      | ((with_reducible refine db_sortP ?_ ?_); (focus (first | assumption | omega | decide | (simp; done) | (simp; omega))))
      | ((with_reducible apply dl_qn); exact rfl)
      | with_reducible refine db_all ?_
      | ((with_reducible apply db_isX); (focus (exact knows_exc)); (focus assumption); (focus assumption))
      | with_reducible refine db_anyB ?_
      | with_reducible refine db_listT ?_
      | with_reducible refine db_listL ?_
      | with_reducible refine dl_lst ?_
      | with_reducible refine dl_tup ?_
      | with_reducible refine db_max ?_
      | with_reducible refine db_min ?_
      | with_reducible refine db_abs ?_
      | with_reducible refine db_intI ?_
      | with_reducible refine db_intB ?_)
  | ((with_reducible refine tgDS ?_); first
      | with_reducible refine dsl_take ?_
      | with_reducible refine dsl_drop1 ?_
      | with_reducible refine dsl_drop ?_
      | ((with_reducible refine ds_mid ?_ ?_ ?_); (focus omega); (focus omega))
      | ((with_reducible refine ds_take ?_ ?_); (focus omega))
      | ((with_reducible refine ds_drop1 ?_ ?_); (focus omega))
      | ((with_reducible refine ds_drop ?_ ?_); (focus omega))
      | with_reducible refine ds_qn ?_
      | with_reducible refine ds_lst ?_
      | with_reducible refine ds_tup ?_)
  | ((with_reducible refine tgIf ?_); first
      | with_reducible refine ite_n ?_
      | ((with_reducible refine ite_BT ?_ ?_); (focus (first | assumption | (with_reducible rfl))))
      | ((with_reducible refine ite_BF ?_ ?_); (focus assumption))
      | ((with_reducible refine ite_dT ?_ ?_); (focus (first | assumption | omega | (with_reducible rfl) | (simp; done) | exact rfl)))
      | ((with_reducible refine ite_dF ?_ ?_); (focus (first | omega | decide)))
      | with_reducible refine iteT ?_
      | with_reducible refine iteF ?_)
  | ((with_reducible apply tgPick); (focus (simp only [pick, List.filterMap_cons, List.filterMap_nil, List.getElem?_cons_zero, List.getElem?_cons_succ]; rfl)))
  | ((with_reducible refine u_check_row ?_ ?_); (focus (first | assumption | omega | decide | (simp; done) | (simp; omega))))
  | ((with_reducible refine u_check_both ?_ ?_ ?_); (focus (first | assumption | omega | decide | (simp; done) | (simp; omega))); (focus (first | assumption | omega | decide | (simp; done) | (simp; omega))))
  | ((with_reducible refine u_check_depth ?_ ?_); (focus (first | assumption | omega | decide | (simp; done) | (simp; omega))))
  | ((with_reducible refine u_are_alikeN ?_ ?_ ?_ ?_ ?_ ?_); (focus (first | assumption | omega | decide | (simp; done) | (simp; omega))); (focus (first | assumption | omega | decide | (simp; done) | (simp; omega))); (focus (first | assumption | omega | decide | (simp; done) | (simp; omega))); (focus (first | assumption | omega | decide | (simp; done) | (simp; omega))); (focus (first | assumption | omega | decide | (simp; done) | (simp; omega))))
  | ((with_reducible refine u_are_alike ?_ ?_ ?_ ?_ ?_ ?_ ?_); (focus (first | assumption | omega | decide | (simp; done) | (simp; omega))); (focus (first | assumption | omega | decide | (simp; done) | (simp; omega))); (focus (first | assumption | omega | decide | (simp; done) | (simp; omega))); (focus (first | assumption | omega | decide | (simp; done) | (simp; omega))); (focus (first | assumption | omega | decide | (simp; done) | (simp; omega))); (focus (first | assumption | omega | decide | (simp; done) | (simp; omega))))
  | ((with_reducible refine u_wAlikeN ?_ ?_ ?_ ?_); (focus (first | assumption | omega | decide | (simp; done) | (simp; omega))); (focus (first | assumption | omega | decide | (simp; done) | (simp; omega))); (focus (first | assumption | omega | decide | (simp; done) | (simp; omega))))
  | ((with_reducible refine u_wAlike ?_ ?_ ?_ ?_ ?_); (focus (first | assumption | omega | decide | (simp; done) | (simp; omega))); (focus (first | assumption | omega | decide | (simp; done) | (simp; omega))); (focus (first | assumption | omega | decide | (simp; done) | (simp; omega))); (focus (first | assumption | omega | decide | (simp; done) | (simp; omega))))
  | ((with_reducible refine u_answers ?_ ?_ ?_ ?_ ?_ ?_ ?_ ?_ ?_); (focus (first | assumption | omega | decide | (simp; done) | (simp; omega))); (focus (first | assumption | omega | decide | (simp; done) | (simp; omega))); (focus (first | assumption | omega | decide | (simp; done) | (simp; omega))); (focus (first | assumption | omega | decide | (simp; done) | (simp; omega))); (focus (first | assumption | omega | decide | (simp; done) | (simp; omega))); (focus (first | assumption | omega | decide | (simp; done) | (simp; omega))); (focus (first | assumption | omega | decide | (simp; done) | (simp; omega))); (focus (first | assumption | omega | decide | (simp; done) | (simp; omega))))
  | ((with_reducible refine u_winN ?_ ?_ ?_ ?_ ?_ ?_); (focus (first | assumption | omega | decide | (simp; done) | (simp; omega))); (focus (first | assumption | omega | decide | (simp; done) | (simp; omega))); (focus (first | assumption | omega | decide | (simp; done) | (simp; omega))); (focus (first | assumption | omega | decide | (simp; done) | (simp; omega))); (focus (first | assumption | omega | decide | (simp; done) | (simp; omega))))
  | ((with_reducible refine u_win ?_ ?_ ?_ ?_ ?_ ?_ ?_); (focus (first | assumption | omega | decide | (simp; done) | (simp; omega))); (focus (first | assumption | omega | decide | (simp; done) | (simp; omega))); (focus (first | assumption | omega | decide | (simp; done) | (simp; omega))); (focus (first | assumption | omega | decide | (simp; done) | (simp; omega))); (focus (first | assumption | omega | decide | (simp; done) | (simp; omega))); (focus (first | assumption | omega | decide | (simp; done) | (simp; omega))))
  | ((with_reducible refine u_un ?_ ?_ ?_ ?_ ?_); (focus (first | assumption | omega | decide | (simp; done) | (simp; omega))); (focus (first | assumption | omega | decide | (simp; done) | (simp; omega))); (focus (first | assumption | omega | decide | (simp; done) | (simp; omega))); (focus (first | assumption | omega | decide | (simp; done) | (simp; omega))))
  | ((with_reducible refine u_draw ?_ ?_ ?_ ?_); (focus (first | assumption | omega | decide | (simp; done) | (simp; omega))); (focus (first | assumption | omega | decide | (simp; done) | (simp; omega))); (focus (first | assumption | omega | decide | (simp; done) | (simp; omega))))
  | ((with_reducible refine u_pair ?_ ?_ ?_ ?_); (focus (first | assumption | omega | decide | (simp; done) | (simp; omega))); (focus (first | assumption | omega | decide | (simp; done) | (simp; omega))); (focus (first | assumption | omega | decide | (simp; done) | (simp; omega))))
  | ((with_reducible refine u_inStep ?_ ?_); (focus (first | assumption | omega | decide | (simp; done) | (simp; omega))))
  | ((with_reducible refine u_lasts ?_ ?_ ?_ ?_ ?_ ?_); (focus (first | assumption | omega | decide | (simp; done) | (simp; omega))); (focus (first | assumption | omega | decide | (simp; done) | (simp; omega))); (focus (first | assumption | omega | decide | (simp; done) | (simp; omega))); (focus (first | assumption | omega | decide | (simp; done) | (simp; omega))); (focus (first | assumption | omega | decide | (simp; done) | (simp; omega))))
  | ((with_reducible apply u_qry); (focus (first | assumption | omega | decide | (simp; done) | (simp; omega))); (focus (first | assumption | omega | decide | (simp; done) | (simp; omega))); (focus (first | assumption | omega | decide | (simp; done) | (simp; omega))); (focus (first | assumption | omega | decide | (simp; done) | (simp; omega))); (focus (first | assumption | omega | decide | (simp; done) | (simp; omega))); (focus (first | assumption | omega | decide | (simp; done) | (simp; omega))); (focus (first | assumption | omega | decide | (simp; done) | (simp; omega))))
  | ((with_reducible apply u_steep); (focus (first | assumption | omega | decide | (simp; done) | (simp; omega))); (focus (first | assumption | omega | decide | (simp; done) | (simp; omega))); (focus (first | assumption | omega | decide | (simp; done) | (simp; omega))); (focus (first | assumption | omega | decide | (simp; done) | (simp; omega))); (focus (first | assumption | omega | decide | (simp; done) | (simp; omega))))
  | ((with_reducible apply u_anyq); (focus (first | assumption | omega | decide | (simp; done) | (simp; omega))); (focus (first | assumption | omega | decide | (simp; done) | (simp; omega))); (focus (first | assumption | omega | decide | (simp; done) | (simp; omega))); (focus (first | assumption | omega | decide | (simp; done) | (simp; omega))))
  | ((with_reducible refine u_lets ?_ ?_ ?_); (focus (first | assumption | omega | decide | (simp; done) | (simp; omega))); (focus (first | assumption | omega | decide | (simp; done) | (simp; omega))))
  | ((with_reducible refine u_letsH ?_ ?_ ?_); (focus (first | assumption | omega | decide | (simp; done) | (simp; omega))); (focus (first | assumption | omega | decide | (simp; done) | (simp; omega))))
  | ((with_reducible refine u_islet ?_ ?_); (focus (first | assumption | omega | decide | (simp; done) | (simp; omega))))
  | ((with_reducible refine u_inner ?_))
  | ((with_reducible refine u_isq ?_ ?_ ?_ ?_); (focus (first | assumption | omega | decide | (simp; done) | (simp; omega))); (focus (first | assumption | omega | decide | (simp; done) | (simp; omega))); (focus (first | assumption | omega | decide | (simp; done) | (simp; omega))))
  | ((with_reducible refine u_isqH ?_ ?_ ?_ ?_); (focus (first | assumption | omega | decide | (simp; done) | (simp; omega))); (focus (first | assumption | omega | decide | (simp; done) | (simp; omega))); (focus (first | assumption | omega | decide | (simp; done) | (simp; omega))))
  | ((with_reducible refine u_chq ?_ ?_ ?_); (focus (first | assumption | omega | decide | (simp; done) | (simp; omega))); (focus (first | assumption | omega | decide | (simp; done) | (simp; omega))))
  | ((with_reducible refine u_chqH ?_ ?_ ?_); (focus (first | assumption | omega | decide | (simp; done) | (simp; omega))); (focus (first | assumption | omega | decide | (simp; done) | (simp; omega))))
  | ((with_reducible refine u_add ?_ ?_ ?_); (focus (first | assumption | omega | decide | (simp; done) | (simp; omega))); (focus (first | assumption | omega | decide | (simp; done) | (simp; omega))))
  | ((with_reducible refine u_addH ?_ ?_ ?_); (focus (first | assumption | omega | decide | (simp; done) | (simp; omega))); (focus (first | assumption | omega | decide | (simp; done) | (simp; omega))))
  | ((with_reducible apply u_isletA); (focus (first | assumption | omega | decide | (simp; done) | (simp; omega))); (focus (first | assumption | omega | decide | (simp; done) | (simp; omega))); (focus (first | assumption | omega | decide | (simp; done) | (simp; omega))); (focus (first | assumption | omega | decide | (simp; done) | (simp; omega))); (focus (first | assumption | omega | decide | (simp; done) | (simp; omega))))
  | ((with_reducible apply u_metA); (focus (first | assumption | omega | decide | (simp; done) | (simp; omega))); (focus (first | assumption | omega | decide | (simp; done) | (simp; omega))); (focus (first | assumption | omega | decide | (simp; done) | (simp; omega))); (focus (first | assumption | omega | decide | (simp; done) | (simp; omega))); (focus (first | assumption | omega | decide | (simp; done) | (simp; omega))); (focus (first | assumption | omega | decide | (simp; done) | (simp; omega))))
  | ((with_reducible refine u_lets1 ?_ ?_ ?_); (focus (first | assumption | omega | decide | (simp; done) | (simp; omega))); (focus (first | assumption | omega | decide | (simp; done) | (simp; omega))))
  | ((with_reducible refine u_lets1H ?_ ?_ ?_ ?_); (focus (first | assumption | omega | decide | (simp; done) | (simp; omega))); (focus (first | assumption | omega | decide | (simp; done) | (simp; omega))); (focus (first | assumption | omega | decide | (simp; done) | (simp; omega))))
  | ((with_reducible refine u_letsPH ?_ ?_ ?_ ?_ ?_ ?_); (focus (first | assumption | omega | decide | (simp; done) | (simp; omega))); (focus (first | assumption | omega | decide | (simp; done) | (simp; omega))); (focus (first | assumption | omega | decide | (simp; done) | (simp; omega))); (focus (first | assumption | omega | decide | (simp; done) | (simp; omega))); (focus (first | assumption | omega | decide | (simp; done) | (simp; omega))))
  | ((with_reducible refine u_letsPa ?_ ?_ ?_); (focus (first | assumption | omega | decide | (simp; done) | (simp; omega))); (focus (first | assumption | omega | decide | (simp; done) | (simp; omega))))
  | ((with_reducible refine u_letsPn ?_ ?_ ?_ ?_ ?_); (focus (first | assumption | omega | decide | (simp; done) | (simp; omega))); (focus (first | assumption | omega | decide | (simp; done) | (simp; omega))); (focus (first | assumption | omega | decide | (simp; done) | (simp; omega))); (focus (first | assumption | omega | decide | (simp; done) | (simp; omega))))
  | ((with_reducible refine u_letsPb ?_ ?_ ?_ ?_ ?_ ?_); (focus (first | assumption | omega | decide | (simp; done) | (simp; omega))); (focus (first | assumption | omega | decide | (simp; done) | (simp; omega))); (focus (first | assumption | omega | decide | (simp; done) | (simp; omega))); (focus (first | assumption | omega | decide | (simp; done) | (simp; omega))); (focus (first | assumption | omega | decide | (simp; done) | (simp; omega))))
  | ((with_reducible refine u_letsPs ?_ ?_ ?_ ?_ ?_ ?_ ?_); (focus (first | assumption | omega | decide | (simp; done) | (simp; omega))); (focus (first | assumption | omega | decide | (simp; done) | (simp; omega))); (focus (first | assumption | omega | decide | (simp; done) | (simp; omega))); (focus (first | assumption | omega | decide | (simp; done) | (simp; omega))); (focus (first | assumption | omega | decide | (simp; done) | (simp; omega))); (focus (first | assumption | omega | decide | (simp; done) | (simp; omega))))
  | ((with_reducible refine u_letsS ?_ ?_ ?_); (focus (first | assumption | omega | decide | (simp; done) | (simp; omega))); (focus (first | assumption | omega | decide | (simp; done) | (simp; omega))))
  | ((with_reducible refine u_letsP ?_ ?_ ?_ ?_ ?_); (focus (first | assumption | omega | decide | (simp; done) | (simp; omega))); (focus (first | assumption | omega | decide | (simp; done) | (simp; omega))); (focus (first | assumption | omega | decide | (simp; done) | (simp; omega))); (focus (first | assumption | omega | decide | (simp; done) | (simp; omega))))
  | ((with_reducible apply u_line); (focus (first | assumption | omega | decide | (simp; done) | (simp; omega))); (focus (first | assumption | omega | decide | (simp; done) | (simp; omega))); (focus (first | assumption | omega | decide | (simp; done) | (simp; omega))))
  | ((with_reducible refine u_turnA ?_ ?_); (focus (first | assumption | omega | decide | (simp; done) | (simp; omega))))
  | ((with_reducible refine u_turnAH ?_ ?_); (focus (first | assumption | omega | decide | (simp; done) | (simp; omega))))
  | ((with_reducible refine u_turnQ ?_ ?_ ?_); (focus (first | assumption | omega | decide | (simp; done) | (simp; omega))); (focus (first | assumption | omega | decide | (simp; done) | (simp; omega))))
  | ((with_reducible refine u_turnQH ?_ ?_ ?_); (focus (first | assumption | omega | decide | (simp; done) | (simp; omega))); (focus (first | assumption | omega | decide | (simp; done) | (simp; omega))))
  | ((with_reducible refine u_turnQS ?_ ?_ ?_ ?_ ?_); (focus (first | assumption | omega | decide | (simp; done) | (simp; omega))); (focus (first | assumption | omega | decide | (simp; done) | (simp; omega))); (focus (first | assumption | omega | decide | (simp; done) | (simp; omega))); (focus (first | assumption | omega | decide | (simp; done) | (simp; omega))))
  | ((with_reducible refine u_places ?_ ?_ ?_ ?_ ?_); (focus (first | assumption | omega | decide | (simp; done) | (simp; omega))); (focus (first | assumption | omega | decide | (simp; done) | (simp; omega))); (focus (first | assumption | omega | decide | (simp; done) | (simp; omega))); (focus (first | assumption | omega | decide | (simp; done) | (simp; omega))))
  | ((with_reducible refine u_placesS ?_ ?_ ?_ ?_ ?_ ?_ ?_); (focus (first | assumption | omega | decide | (simp; done) | (simp; omega))); (focus (first | assumption | omega | decide | (simp; done) | (simp; omega))); (focus (first | assumption | omega | decide | (simp; done) | (simp; omega))); (focus (first | assumption | omega | decide | (simp; done) | (simp; omega))); (focus (first | assumption | omega | decide | (simp; done) | (simp; omega))); (focus (first | assumption | omega | decide | (simp; done) | (simp; omega))))
  | ((with_reducible refine u_parting ?_ ?_ ?_ ?_ ?_); (focus (first | assumption | omega | decide | (simp; done) | (simp; omega))); (focus (first | assumption | omega | decide | (simp; done) | (simp; omega))); (focus (first | assumption | omega | decide | (simp; done) | (simp; omega))); (focus (first | assumption | omega | decide | (simp; done) | (simp; omega))))
  | ((with_reducible refine u_pat ?_))
  | ((with_reducible refine u_bare ?_))
  | ((with_reducible refine u_has ?_ ?_ ?_); (focus (first | assumption | omega | decide | (simp; done) | (simp; omega))); (focus (first | assumption | omega | decide | (simp; done) | (simp; omega))))
  | ((with_reducible refine u_allOf ?_ ?_ ?_ ?_); (focus (first | assumption | omega | decide | (simp; done) | (simp; omega))); (focus (first | assumption | omega | decide | (simp; done) | (simp; omega))); (focus (first | assumption | omega | decide | (simp; done) | (simp; omega))))
  | ((with_reducible apply u_leastOf); (focus (first | assumption | omega | decide | (simp; done) | (simp; omega))); (focus (first | assumption | omega | decide | (simp; done) | (simp; omega))); (focus (first | assumption | omega | decide | (simp; done) | (simp; omega))); (focus (first | assumption | omega | decide | (simp; done) | (simp; omega))); (focus (first | assumption | omega | decide | (simp; done) | (simp; omega))))
  | ((with_reducible refine u_depIn ?_ ?_); (focus (first | assumption | omega | decide | (simp; done) | (simp; omega))))
  | ((with_reducible refine u_depOf ?_ ?_ ?_); (focus (first | assumption | omega | decide | (simp; done) | (simp; omega))); (focus (first | assumption | omega | decide | (simp; done) | (simp; omega))))
  | ((with_reducible refine u_depOfH ?_ ?_ ?_); (focus (first | assumption | omega | decide | (simp; done) | (simp; omega))); (focus (first | assumption | omega | decide | (simp; done) | (simp; omega))))
  | ((with_reducible refine u_sameMany ?_ ?_ ?_ ?_ ?_); (focus (first | assumption | omega | decide | (simp; done) | (simp; omega))); (focus (first | assumption | omega | decide | (simp; done) | (simp; omega))); (focus (first | assumption | omega | decide | (simp; done) | (simp; omega))); (focus (first | assumption | omega | decide | (simp; done) | (simp; omega))))
  | ((with_reducible refine u_settledN ?_ ?_ ?_ ?_); (focus (first | assumption | omega | decide | (simp; done) | (simp; omega))); (focus (first | assumption | omega | decide | (simp; done) | (simp; omega))); (focus (first | assumption | omega | decide | (simp; done) | (simp; omega))))
  | ((with_reducible refine u_isBlk ?_))
  | ((with_reducible refine u_depB ?_ ?_ ?_ ?_); (focus (first | assumption | omega | decide | (simp; done) | (simp; omega))); (focus (first | assumption | omega | decide | (simp; done) | (simp; omega))); (focus (first | assumption | omega | decide | (simp; done) | (simp; omega))))
  | ((with_reducible refine u_ct ?_ ?_ ?_ ?_); (focus (first | assumption | omega | decide | (simp; done) | (simp; omega))); (focus (first | assumption | omega | decide | (simp; done) | (simp; omega))); (focus (first | assumption | omega | decide | (simp; done) | (simp; omega))))
  | ((with_reducible refine u_cb ?_ ?_ ?_ ?_); (focus (first | assumption | omega | decide | (simp; done) | (simp; omega))); (focus (first | assumption | omega | decide | (simp; done) | (simp; omega))); (focus (first | assumption | omega | decide | (simp; done) | (simp; omega))))
  | with_reducible refine dun_neg ?_
  | with_reducible refine tgA2 ?_
  | with_reducible refine tgA3 ?_
  | with_reducible refine tgEx2 ?_
  | with_reducible refine tgEx3 ?_
  | with_reducible refine tgEx4 ?_
  | with_reducible refine tgT2 ?_
  | with_reducible refine tgT3 ?_
  | with_reducible refine tgL2 ?_
  | with_reducible refine tgT4 ?_
  | refine ⟨_, (Or.inl rfl : DL.D.lst _ = DL.D.lst _ ∨ _), ?_⟩
  | refine ⟨_, (Or.inr rfl : _ ∨ DL.D.tup _ = DL.D.tup _), ?_⟩
  | with_reducible refine xin_no ?_
  | with_reducible refine xr_no ?_
  | refine ⟨(rfl : DL.D.ref _ = DL.D.ref _), ?_⟩
  | refine ⟨(rfl : DL.D.ty _ = Option.some _), ?_⟩
  | refine ⟨Qn.ty _, ?_⟩
  | refine ⟨(by simp : List.length _ ≤ 100000), ?_⟩
  | refine ⟨(by simp : List.length _ = _), ?_⟩
  | with_reducible refine wo_none ?_
  | with_reducible refine wo_some ?_
  | refine ⟨_, rfl, ?_⟩))
local macro_rules | `(tactic| walk_at "side") => `(tactic| first | assumption | omega | decide | (simp; done) | (simp; omega))
abbrev s_law_caught : Stmt := topS 26
theorem sc_law_caught : FnScope ["line", "deep", "is_named", "e", "odd", "kinds"] ["line", "deep", "is_named"] (defScope s_law_caught) := ⟨rfl, rfl, rfl, by decide +kernel, rfl, by decide +kernel, by decide +kernel⟩
theorem ok_law_caught {f f_settled f_PickError___init__ C_PickError C_InvalidRow C_InvalidNumber C_GameOver C_InvalidAnswer C_InvalidBlocks C_InvalidPlace C_InvalidQuestion C_InvalidScope C_NothingToUndo C_NotLet C_Unreadable : Addr} {fd fd_settled : FuncData} (T : Txt K mg) (F : Fun K "_law_caught" "_law_caught" s_law_caught f fd) (C_settled : Callee P w K mg base CX0 "settled" ["row", "depth"] 19 (PureSp K settledS) f_settled fd_settled) (X_settled : FnOk P w K mg base (L2.CX P w) 19 f_settled fd_settled ["row", "depth"] (PureSp K (orS (settledXS C_InvalidNumber C_InvalidRow) settledS))) (m_PickError : mg "PickError" = some (.ref C_PickError)) (E_InvalidRow : ErrName K mg C_PickError f_PickError___init__ "InvalidRow" C_InvalidRow) (xm_InvalidRow : PySem.W.exmOne K (.ref C_InvalidRow) (.ref C_PickError) = some true) (E_InvalidNumber : ErrName K mg C_PickError f_PickError___init__ "InvalidNumber" C_InvalidNumber) (xm_InvalidNumber : PySem.W.exmOne K (.ref C_InvalidNumber) (.ref C_PickError) = some true) (m_InvalidRow : mg "InvalidRow" = some (.ref C_InvalidRow)) (m_InvalidNumber : mg "InvalidNumber" = some (.ref C_InvalidNumber)) (m_GameOver : mg "GameOver" = some (.ref C_GameOver)) (m_InvalidAnswer : mg "InvalidAnswer" = some (.ref C_InvalidAnswer)) (m_InvalidBlocks : mg "InvalidBlocks" = some (.ref C_InvalidBlocks)) (m_InvalidPlace : mg "InvalidPlace" = some (.ref C_InvalidPlace)) (m_InvalidQuestion : mg "InvalidQuestion" = some (.ref C_InvalidQuestion)) (m_InvalidScope : mg "InvalidScope" = some (.ref C_InvalidScope)) (m_NothingToUndo : mg "NothingToUndo" = some (.ref C_NothingToUndo)) (m_NotLet : mg "NotLet" = some (.ref C_NotLet)) (m_Unreadable : mg "Unreadable" = some (.ref C_Unreadable)) (ki_InvalidRow_InvalidRow : PySem.W.kitOne K (.ref C_InvalidRow) (.ref C_InvalidRow) = some true) (ki_InvalidRow_InvalidNumber : PySem.W.kitOne K (.ref C_InvalidRow) (.ref C_InvalidNumber) = some false) (ki_InvalidRow_GameOver : PySem.W.kitOne K (.ref C_InvalidRow) (.ref C_GameOver) = some false) (ki_InvalidRow_InvalidAnswer : PySem.W.kitOne K (.ref C_InvalidRow) (.ref C_InvalidAnswer) = some false) (ki_InvalidRow_InvalidBlocks : PySem.W.kitOne K (.ref C_InvalidRow) (.ref C_InvalidBlocks) = some false) (ki_InvalidRow_InvalidPlace : PySem.W.kitOne K (.ref C_InvalidRow) (.ref C_InvalidPlace) = some false) (ki_InvalidRow_InvalidQuestion : PySem.W.kitOne K (.ref C_InvalidRow) (.ref C_InvalidQuestion) = some false) (ki_InvalidRow_InvalidScope : PySem.W.kitOne K (.ref C_InvalidRow) (.ref C_InvalidScope) = some false) (ki_InvalidRow_NothingToUndo : PySem.W.kitOne K (.ref C_InvalidRow) (.ref C_NothingToUndo) = some false) (ki_InvalidRow_NotLet : PySem.W.kitOne K (.ref C_InvalidRow) (.ref C_NotLet) = some false) (ki_InvalidRow_Unreadable : PySem.W.kitOne K (.ref C_InvalidRow) (.ref C_Unreadable) = some false) (ki_InvalidNumber_InvalidRow : PySem.W.kitOne K (.ref C_InvalidNumber) (.ref C_InvalidRow) = some false) (ki_InvalidNumber_InvalidNumber : PySem.W.kitOne K (.ref C_InvalidNumber) (.ref C_InvalidNumber) = some true) (ki_InvalidNumber_GameOver : PySem.W.kitOne K (.ref C_InvalidNumber) (.ref C_GameOver) = some false) (ki_InvalidNumber_InvalidAnswer : PySem.W.kitOne K (.ref C_InvalidNumber) (.ref C_InvalidAnswer) = some false) (ki_InvalidNumber_InvalidBlocks : PySem.W.kitOne K (.ref C_InvalidNumber) (.ref C_InvalidBlocks) = some false) (ki_InvalidNumber_InvalidPlace : PySem.W.kitOne K (.ref C_InvalidNumber) (.ref C_InvalidPlace) = some false) (ki_InvalidNumber_InvalidQuestion : PySem.W.kitOne K (.ref C_InvalidNumber) (.ref C_InvalidQuestion) = some false) (ki_InvalidNumber_InvalidScope : PySem.W.kitOne K (.ref C_InvalidNumber) (.ref C_InvalidScope) = some false) (ki_InvalidNumber_NothingToUndo : PySem.W.kitOne K (.ref C_InvalidNumber) (.ref C_NothingToUndo) = some false) (ki_InvalidNumber_NotLet : PySem.W.kitOne K (.ref C_InvalidNumber) (.ref C_NotLet) = some false) (ki_InvalidNumber_Unreadable : PySem.W.kitOne K (.ref C_InvalidNumber) (.ref C_Unreadable) = some false) (kv_InvalidRow : PySem.W.kitOne K (.ref C_InvalidRow) (.type "ValueError") = some true) (kv_InvalidNumber : PySem.W.kitOne K (.ref C_InvalidNumber) (.type "ValueError") = some true) (kb_settled_10 : KB fd_settled ["row", "depth"] ["depth", "row"] [1, 0]) : FnOk P w K mg base CX0 (20) f fd ["line", "deep", "is_named"] (PureSp K caughtRS) := by
  refine ok_pure caughtRS F sc_law_caught (fun ds P X h => by revert h; walk_at "hl") fun cdv A outer s H E hr => ⟨_, (pss_cons (ps_tryK (K := K) (i := 3) (c := .ref C_PickError) (tb := fun W => _) (ts := fun a cls d => _) (Wout := fun _ _ _ _ => False) rfl rfl rfl sc_law_caught.nd rfl rfl ⟨rfl, by decide, Or.inl m_PickError⟩ takes0 (fun W pn xe tk _ => (pss_one (ps_if (pt_val (pv 2)) (pss_one (ps_expr (by exact (pe_callNS X_settled (hr.mono (by first | decide | omega)) rfl C_settled.mg C_settled.kp kb_settled_10 (fun σ => passAt tk σ) (pk_cons (pv 1) (pk_cons (pv 0) pk_nil)))))) (pss_one (ps_expr (by exact (pe_callS X_settled (hr.mono (by first | decide | omega)) rfl C_settled.mg C_settled.kp C_settled.bd (fun σ => passAt tk σ) (by exact (pa_cons (pv 0) (pa_cons (pv 1) pa_nil)))))))))) (fun a oe cls d pn hz hf => (pss_cons (asF (ps_set (i := 4) sc_law_caught.nd rfl (Or.inl rfl) (pe_callB (call_isXTK (K := K) rfl (held_suite hz hf)) (by rfl) T.n_isinstance (by decide +kernel) (pa_cons (pv 3) (pa_cons (pe_tup (pa_cons (pe_glob (v := .ref C_GameOver) (u := .ref C_GameOver) (by rfl) m_GameOver rfl) (pa_cons (pe_glob (v := .ref C_InvalidAnswer) (u := .ref C_InvalidAnswer) (by rfl) m_InvalidAnswer rfl) (pa_cons (pe_glob (v := .ref C_InvalidBlocks) (u := .ref C_InvalidBlocks) (by rfl) m_InvalidBlocks rfl) (pa_cons (pe_glob (v := .ref C_InvalidPlace) (u := .ref C_InvalidPlace) (by rfl) m_InvalidPlace rfl) (pa_cons (pe_glob (v := .ref C_InvalidQuestion) (u := .ref C_InvalidQuestion) (by rfl) m_InvalidQuestion rfl) (pa_cons (pe_glob (v := .ref C_InvalidScope) (u := .ref C_InvalidScope) (by rfl) m_InvalidScope rfl) pa_nil))))))) pa_nil))))) (pss_cons (asF (ps_set (i := 4) sc_law_caught.nd rfl (Or.inl rfl) (pe_or (pv 4) (pe_or (pe_callB (call_isXTK (K := K) rfl (held_suite hz hf)) (by rfl) T.n_isinstance (by decide +kernel) (pa_cons (pv 3) (pa_cons (pe_tup (pa_cons (pe_glob (v := .ref C_NothingToUndo) (u := .ref C_NothingToUndo) (by rfl) m_NothingToUndo rfl) (pa_cons (pe_glob (v := .ref C_NotLet) (u := .ref C_NotLet) (by rfl) m_NotLet rfl) (pa_cons (pe_glob (v := .ref C_Unreadable) (u := .ref C_Unreadable) (by rfl) m_Unreadable rfl) pa_nil)))) pa_nil))) (pe_one (pe_not (pe_callB (call_isXK (K := K) rfl (held_suite hz hf)) (by rfl) T.n_isinstance (by decide +kernel) (pa_cons (pv 3) (pa_cons (pe_bltn (v := .ty "ValueError") (u := .type "ValueError") (by rfl) T.n_ValueError (by decide +kernel) rfl) pa_nil))))))))) (pss_cons (ps_set (i := 5) sc_law_caught.nd rfl (Or.inl rfl) (pe_op (op_addK (K := K) rfl) (pe_op op_mulQ pe_str (pe_callTy call_int1 (by rfl) T.n_int (by decide +kernel) (pa_cons (pe_callB (call_isXK (K := K) rfl (held_suite hz hf)) (by rfl) T.n_isinstance (by decide +kernel) (pa_cons (pv 3) (pa_cons (pe_glob (v := .ref C_InvalidRow) (u := .ref C_InvalidRow) (by rfl) m_InvalidRow rfl) pa_nil))) pa_nil))) (pe_op op_mulQ pe_str (pe_callTy call_int1 (by rfl) T.n_int (by decide +kernel) (pa_cons (pe_callB (call_isXK (K := K) rfl (held_suite hz hf)) (by rfl) T.n_isinstance (by decide +kernel) (pa_cons (pv 3) (pa_cons (pe_glob (v := .ref C_InvalidNumber) (u := .ref C_InvalidNumber) (by rfl) m_InvalidNumber rfl) pa_nil))) pa_nil))))) (pss_one (ps_ret (pe_lst (pa_cons (pe_ifExp (pt_val (pv 4)) pe_str (pv 5)) (pa_cons (pe_xvK (K := K) rfl (held_suite hz hf) (pv 3)) pa_nil)))))))))) (pss_one (ps_ret (pe_lst pa_nil)))), fun ds Q XP h H0 okX => ?_⟩
  obtain ⟨l, z, nm, rfl, hl, hz3, hz, k1, k2, k3⟩ := h
  /- 0:line 1:deep 2:is_named 3:e 4:odd 5:kinds -/
  change DL.WS _ _ [.dat _, .dat _, .dat _, .un, .un, .un] _ _
  have ecR := E_InvalidRow.ec.ec
  have ecN := E_InvalidNumber.ec.ec
  have hLl : (∀ a ∈ l, a ∈ LET) → Letters l := fun h => ⟨h, by omega⟩
  have hset : ∀ {R : Prop}, (Letters l → 0 ≤ z → R) → orS (settledXS C_InvalidNumber C_InvalidRow) settledS [.str (rowS l), .int z] (fun _ => R) fun C d => (∃ i, FirstBad l LET i ∧ C = C_InvalidRow ∧ d = .int ((i : Nat) : Int)) ∨ (Letters l ∧ z < 0 ∧ C = C_InvalidNumber ∧ d = .int z) := fun hR => by
    rcases first_bad l LET with ⟨i, hi⟩ | hA
    · exact .inl ⟨l, z, rfl, .inl ⟨i, hi, .inl ⟨i, hi, rfl, rfl⟩⟩⟩
    · have hL := hLl hA
      by_cases h0 : z < 0
      · exact .inl ⟨l, z, rfl, .inr ⟨hL, h0, .inr ⟨hL, h0, rfl, rfl⟩⟩⟩
      · have h0' : 0 ≤ z := by omega
        exact .inr (u_settled (z := z) hL ⟨h0', hz3⟩ (hz h0') (hR hL h0'))
  refine ws_seq (ws_try rfl (fun C d _ => (∃ i, FirstBad l LET i ∧ C = C_InvalidRow ∧ d = .int ((i : Nat) : Int)) ∨ (Letters l ∧ z < 0 ∧ C = C_InvalidNumber ∧ d = .int z)) (wsx_if' (wt_B (we_var rfl (fz_dat ⟨nm, rfl, ?_⟩)))) fun C d s' h => ?_)
  · cases nm with
    | true =>
      refine iteT (wsx_callN (wa_cons (we_var rfl (fz_dat (wa_cons (we_var rfl (fz_dat (wa_nil ⟨rfl, _, fun C d h => h, hset fun hL h0 => ?_⟩)))))))) 
      walk_at "v"
      exact k3 hL h0
    | false =>
      refine iteF (wsx_call' (wa_cons (we_var rfl (fz_dat (wa_cons (we_var rfl (fz_dat (wa_nil ⟨_, fun C d h => h, hset fun hL h0 => ?_⟩)))))))) 
      walk_at "v"
      exact k3 hL h0
  rcases h with ⟨i, hi, rfl, rfl⟩ | ⟨hL, h0, rfl, rfl⟩
  · refine ⟨xm_InvalidRow, fun a dd => ?_⟩
    refine ws_seq (ws_asgF (we_isXT (vs := [V.ref C_GameOver, V.ref C_InvalidAnswer, V.ref C_InvalidBlocks, V.ref C_InvalidPlace, V.ref C_InvalidQuestion, V.ref C_InvalidScope]) (us := [Value.ref C_GameOver, Value.ref C_InvalidAnswer, Value.ref C_InvalidBlocks, Value.ref C_InvalidPlace, Value.ref C_InvalidQuestion, Value.ref C_InvalidScope]) (b := false) knows_exc rfl E_InvalidRow.ec.ec (by simp) (.cons (.own C_GameOver) (.cons (.own C_InvalidAnswer) (.cons (.own C_InvalidBlocks) (.cons (.own C_InvalidPlace) (.cons (.own C_InvalidQuestion) (.cons (.own C_InvalidScope) (.nil))))))) (kit_any fun c hc => by
        simp only [List.mem_cons, List.not_mem_nil, or_false] at hc
        rcases hc with rfl | rfl | rfl | rfl | rfl | rfl <;> assumption) (fz_dat ?_)))
    refine ws_seq (ws_asgF (we_orV (we_var rfl (fz_dat ⟨false, rfl, iteF (we_orV (we_isXT (vs := [V.ref C_NothingToUndo, V.ref C_NotLet, V.ref C_Unreadable]) (us := [Value.ref C_NothingToUndo, Value.ref C_NotLet, Value.ref C_Unreadable]) (b := false) knows_exc rfl E_InvalidRow.ec.ec (by simp) (.cons (.own C_NothingToUndo) (.cons (.own C_NotLet) (.cons (.own C_Unreadable) (.nil)))) (kit_any fun c hc => by
        simp only [List.mem_cons, List.not_mem_nil, or_false] at hc
        rcases hc with rfl | rfl | rfl <;> assumption) (fz_dat ⟨false, rfl, iteF (we_notV (we_isX knows_exc rfl E_InvalidRow.ec.ec (.ty _) kv_InvalidRow (fz_dat ⟨true, rfl, ?_⟩)))⟩)))⟩))))
    walk_at "v"
    refine dm_lit [114] rfl (by decide) (by decide) (by decide) ?_
    walk_at "e"
    refine dm_lit [110] rfl (by decide) (by decide) (by decide) ?_
    walk_at "e"
    refine da_row (l := [114]) (m := []) (by decide) ?_
    walk_at "v"
    refine we_xv knows_exc rfl E_InvalidRow.ec.xf E_InvalidRow.ec.nv (fz_dat (wa_nil ⟨by simp, ?_⟩))
    exact k1 i hi
  · refine ⟨xm_InvalidNumber, fun a dd => ?_⟩
    refine ws_seq (ws_asgF (we_isXT (vs := [V.ref C_GameOver, V.ref C_InvalidAnswer, V.ref C_InvalidBlocks, V.ref C_InvalidPlace, V.ref C_InvalidQuestion, V.ref C_InvalidScope]) (us := [Value.ref C_GameOver, Value.ref C_InvalidAnswer, Value.ref C_InvalidBlocks, Value.ref C_InvalidPlace, Value.ref C_InvalidQuestion, Value.ref C_InvalidScope]) (b := false) knows_exc rfl E_InvalidNumber.ec.ec (by simp) (.cons (.own C_GameOver) (.cons (.own C_InvalidAnswer) (.cons (.own C_InvalidBlocks) (.cons (.own C_InvalidPlace) (.cons (.own C_InvalidQuestion) (.cons (.own C_InvalidScope) (.nil))))))) (kit_any fun c hc => by
        simp only [List.mem_cons, List.not_mem_nil, or_false] at hc
        rcases hc with rfl | rfl | rfl | rfl | rfl | rfl <;> assumption) (fz_dat ?_)))
    refine ws_seq (ws_asgF (we_orV (we_var rfl (fz_dat ⟨false, rfl, iteF (we_orV (we_isXT (vs := [V.ref C_NothingToUndo, V.ref C_NotLet, V.ref C_Unreadable]) (us := [Value.ref C_NothingToUndo, Value.ref C_NotLet, Value.ref C_Unreadable]) (b := false) knows_exc rfl E_InvalidNumber.ec.ec (by simp) (.cons (.own C_NothingToUndo) (.cons (.own C_NotLet) (.cons (.own C_Unreadable) (.nil)))) (kit_any fun c hc => by
        simp only [List.mem_cons, List.not_mem_nil, or_false] at hc
        rcases hc with rfl | rfl | rfl <;> assumption) (fz_dat ⟨false, rfl, iteF (we_notV (we_isX knows_exc rfl E_InvalidNumber.ec.ec (.ty _) kv_InvalidNumber (fz_dat ⟨true, rfl, ?_⟩)))⟩)))⟩))))
    walk_at "v"
    refine dm_lit [114] rfl (by decide) (by decide) (by decide) ?_
    walk_at "e"
    refine dm_lit [110] rfl (by decide) (by decide) (by decide) ?_
    walk_at "e"
    refine da_row (l := []) (m := [110]) (by decide) ?_
    walk_at "v"
    refine we_xv knows_exc rfl E_InvalidNumber.ec.xf E_InvalidNumber.ec.nv (fz_dat (wa_nil ⟨by simp, ?_⟩))
    exact k2 hL h0
local macro_rules | `(tactic| walk_at "e") => `(tactic| repeat (first
  | ((with_reducible refine tgWE ?_); first
      | ((with_reducible apply tgSetE); (focus (simp only [List.set_cons_succ, List.set_cons_zero]; rfl)))
      | ((with_reducible apply we_callX); (focus (first | exact poolC _ _ _ _ _ _ _ | exact resC | exact onP | exact onB | exact onU onP | exact onU resC | exact onU (poolC _ _ _ _ _ _ _) | exact onU onB | exact onU (onU onP) | exact onU (onU (poolC _ _ _ _ _ _ _)))))
      | ((with_reducible refine tgNew ?_); refine we_dnewN ?_)
      | ((with_reducible apply we_methV); (focus (first | exact onK | exact onK0)); exact rfl; exact rfl)
      | with_reducible refine we_callF ?_
      | with_reducible refine we_callNF ?_
      | ((with_reducible apply we_callR); (focus (first | exact poolC _ _ _ _ _ _ _ | exact resC | exact onP | exact onB | exact onU onP | exact onU resC | exact onU (poolC _ _ _ _ _ _ _) | exact onU onB | exact onU (onU onP) | exact onU (onU (poolC _ _ _ _ _ _ _)))))
      | ((with_reducible apply we_methA); (focus (first | exact ac0 | exact onA)); (focus decide); (focus decide); (focus decide))
      | ((with_reducible apply we_fldAn); (focus (first | exact ac0 | exact onA)); assumption)
      | ((with_reducible apply we_fldAk); (focus (first | exact ac0 | exact onA)); assumption)
      | ((with_reducible apply we_fldAl); (focus (first | exact ac0 | exact onA)); assumption)
      | ((with_reducible apply we_dtnin); (focus (first | exact jc0.part subJj | exact onR.part subJj)))
      | ((with_reducible apply we_dtget); (focus (first | exact jc0.part subJj | exact onR.part subJj)))
      | ((with_reducible apply we_dinin); (focus (first | exact jc0.part subJl | exact onR.part subJl)))
      | ((with_reducible apply we_diget); (focus (first | exact jc0.part subJl | exact onR.part subJl)))
      | ((with_reducible apply we_methJ); (focus (first | exact jc0 | exact onR)); (focus decide); (focus decide); (focus decide); (focus decide))
      | ((with_reducible apply we_fldJt); (focus (first | exact jc0 | exact onR)); assumption)
      | ((with_reducible apply we_fldJs); (focus (first | exact jc0 | exact onR)); assumption)
      | ((with_reducible apply we_fldJl); (focus (first | exact jc0 | exact onR)); assumption)
      | ((with_reducible apply we_fldJj); (focus (first | exact jc0 | exact onR)); assumption)
      | ((with_reducible apply we_reprOwn2); exact rfl)
      | with_reducible refine we_maxDf ?_
      | ((with_reducible apply we_ktup); assumption)
      | with_reducible refine we_ref ?_
      | ((with_reducible apply we_callK); (focus (first | exact onK | exact onK0)))
      | with_reducible refine we_scount ?_
      | with_reducible refine we_sstarts ?_
      | with_reducible refine we_sends ?_
      | ((with_reducible apply we_revR); (focus (exact rfl)); (focus (first | assumption | omega | decide | (simp; done) | (simp; omega))))
      | with_reducible refine we_isi ?_
      | ((with_reducible apply we_var); focus rfl)
      | with_reducible refine we_int ?_
      | with_reducible refine we_str ?_
      | with_reducible refine we_bl ?_
      | with_reducible refine we_non ?_
      | with_reducible refine we_op ?_
      | with_reducible refine we_un ?_
      | with_reducible refine we_chain ?_
      | with_reducible refine we_cb ?_
      | with_reducible refine we_tup ?_
      | with_reducible refine we_lst ?_
      | with_reducible refine we_if ?_
      | with_reducible refine we_andV ?_
      | with_reducible refine we_orV ?_
      | with_reducible refine we_notV ?_
      | with_reducible refine we_sl ?_
      | with_reducible refine we_join ?_
      | with_reducible refine we_draw ?_)
  | ((with_reducible refine tgFZ ?_); first
      | with_reducible refine fz_dat ?_
      | with_reducible refine fz_own ?_)
  | ((with_reducible refine tgWA ?_); first
      | with_reducible refine wa_star ?_
      | with_reducible refine wa_nil ?_
      | with_reducible refine wa_cons ?_)
  | ((with_reducible refine tgWT ?_); first
      | ((with_reducible apply tgSetT); (focus (simp only [List.set_cons_succ, List.set_cons_zero]; rfl)))
      | with_reducible refine wt_yes ?_
      | with_reducible refine wt_test ?_
      | with_reducible refine wt_B ?_
      | with_reducible refine wt_not ?_
      | with_reducible refine wt_and ?_
      | with_reducible refine wt_or ?_)
  | ((with_reducible refine tgWAO ?_); first
      | with_reducible refine wao_nil ?_
      | with_reducible refine wao_cons ?_)
  | ((with_reducible refine tgDO ?_); first
      | ((with_reducible refine dop_shl1 ?_ ?_ ?_); (focus omega); (focus omega))
      | with_reducible refine deq_row ?_
      | ((with_reducible apply deq_enc); (focus (first | exact encNat | exact encP2 | exact encInt)))
      | ((with_reducible apply dne_enc); (focus (first | exact encNat | exact encP2 | exact encInt)))
      | ((with_reducible apply deq_encN); (focus (first | exact encNat | exact encP2 | exact encInt)))
      | ((with_reducible apply dne_encN); (focus (first | exact encNat | exact encP2 | exact encInt)))
      | ((with_reducible refine da_map ?_ ?_); (focus (first | assumption | omega | decide | (simp; done) | (simp; omega))))
      | ((with_reducible refine da_snoc2 ?_ ?_); (focus omega))
      | with_reducible refine dne_row ?_
      | ((with_reducible refine dop_fdivN ?_ ?_ ?_); (focus omega); (focus omega))
      | ((with_reducible apply di_names); assumption; (focus omega); (focus omega))
      | ((with_reducible apply di_qn); exact rfl)
      | ((with_reducible apply dnin_tab); assumption; (focus (first | exact .head _ | exact .tail _ (.head _) | exact .tail _ (.tail _ (.head _)) | exact .tail _ (.tail _ (.tail _ (.head _))))))
      | ((with_reducible apply di_tab); assumption; (focus (first | exact .head _ | exact .tail _ (.head _) | exact .tail _ (.tail _ (.head _)) | exact .tail _ (.tail _ (.tail _ (.head _))))))
      | ((with_reducible refine dop_pow2 ?_ ?_ ?_); (focus omega); (focus omega))
      | ((with_reducible refine dop_pow10 ?_ ?_ ?_); (focus omega); (focus omega))
      | with_reducible refine dis_opt ?_
      | with_reducible refine dnis_bl ?_
      | with_reducible refine dis_qn ?_
      | with_reducible refine dnis_qn ?_
      | with_reducible refine dis_non0 ?_
      | with_reducible refine dnis_non0 ?_
      | with_reducible refine dnis_opt ?_
      | with_reducible refine dle_opt ?_
      | ((with_reducible refine deq_qn ?_ ?_ ?_ ?_ ?_); (focus (first | assumption | omega | decide | (simp; done) | (simp; omega))); (focus (first | assumption | omega | decide | (simp; done) | (simp; omega))); (focus (first | assumption | omega | decide | (simp; done) | (simp; omega))); (focus (first | assumption | omega | decide | (simp; done) | (simp; omega))))
      | ((with_reducible refine dne_qn ?_ ?_ ?_ ?_ ?_); (focus (first | assumption | omega | decide | (simp; done) | (simp; omega))); (focus (first | assumption | omega | decide | (simp; done) | (simp; omega))); (focus (first | assumption | omega | decide | (simp; done) | (simp; omega))); (focus (first | assumption | omega | decide | (simp; done) | (simp; omega))))
      | with_reducible refine din_row2 ?_
      | ((with_reducible refine dm_row ?_ ?_ ?_ ?_); (focus (first | assumption | omega | decide | (simp; done) | (simp; omega))); (focus (first | assumption | omega | decide | (simp; done) | (simp; omega))); (focus (first | assumption | omega | decide | (simp; done) | (simp; omega))))
      | with_reducible refine deq_opt ?_
      | with_reducible refine dne_opt ?_
      | ((with_reducible refine deq_qn0 ?_ ?_ ?_); assumption; (focus omega))
      | with_reducible refine da_int ?_
      | with_reducible refine dop_sub ?_
      | with_reducible refine dlt_int ?_
      | with_reducible refine dle_int ?_
      | with_reducible refine dop_gt ?_
      | with_reducible refine dop_ge ?_
      | ((with_reducible apply de_sc); focus rfl)
      | ((with_reducible apply dn_sc); focus rfl)
      | ((with_reducible apply di_tup); focus rfl)
      | ((with_reducible apply di_lst); focus rfl))
  | ((with_reducible refine tgDC ?_); first
      | ((with_reducible refine dl_row ?_ ?_); (focus (first | omega | (simp; done))))
      | with_reducible refine dl_map ?_
      | ((with_reducible apply dl_names); assumption)
      | with_reducible refine db_repr2 ?_
      | ((with_reducible refine db_reprN2 ?_ ?_ ?_); (focus (first | assumption | omega | decide | (simp; done) | (simp; omega))); (focus (first | assumption | omega | decide | (simp; done) | (simp; omega))))
      | ((with_reducible refine db_sortN ?_ ?_); (focus (first | assumption | omega | decide | (simp; done) | (simp; omega))))
      | ((with_reducible refine db_sortP ?_ ?_); (focus (first | assumption | omega | decide | (simp; done) | (simp; omega))))
      | ((with_reducible apply dl_qn); exact rfl)
      | with_reducible refine db_all ?_
      | ((with_reducible apply db_isX); (focus (exact knows_exc)); (focus assumption); (focus assumption))
      | with_reducible refine db_anyB ?_
      | with_reducible refine db_listT ?_
      | with_reducible refine db_listL ?_
      | with_reducible refine dl_lst ?_
      | with_reducible refine dl_tup ?_
      | with_reducible refine db_max ?_
      | with_reducible refine db_min ?_
      | with_reducible refine db_abs ?_
      | with_reducible refine db_intI ?_
      | with_reducible refine db_intB ?_)
  | ((with_reducible refine tgDS ?_); first
      | with_reducible refine dsl_take ?_
      | with_reducible refine dsl_drop1 ?_
      | with_reducible refine dsl_drop ?_
      | ((with_reducible refine ds_mid ?_ ?_ ?_); (focus omega); (focus omega))
      | ((with_reducible refine ds_take ?_ ?_); (focus omega))
      | ((with_reducible refine ds_drop1 ?_ ?_); (focus omega))
      | ((with_reducible refine ds_drop ?_ ?_); (focus omega))
      | with_reducible refine ds_qn ?_
      | with_reducible refine ds_lst ?_
      | with_reducible refine ds_tup ?_)
  | ((with_reducible refine tgIf ?_); first
      | with_reducible refine ite_n ?_
      | ((with_reducible refine ite_BT ?_ ?_); (focus (first | assumption | (with_reducible rfl))))
      | ((with_reducible refine ite_BF ?_ ?_); (focus assumption))
      | ((with_reducible refine ite_dT ?_ ?_); (focus (first | assumption | omega | (with_reducible rfl) | (simp; done) | exact rfl)))
      | ((with_reducible refine ite_dF ?_ ?_); (focus (first | omega | decide)))
      | with_reducible refine iteT ?_
      | with_reducible refine iteF ?_)
  | ((with_reducible apply tgPick); (focus (simp only [pick, List.filterMap_cons, List.filterMap_nil, List.getElem?_cons_zero, List.getElem?_cons_succ]; rfl)))
  | ((with_reducible refine u_check_row ?_ ?_); (focus (first | assumption | omega | decide | (simp; done) | (simp; omega))))
  | ((with_reducible refine u_check_both ?_ ?_ ?_); (focus (first | assumption | omega | decide | (simp; done) | (simp; omega))); (focus (first | assumption | omega | decide | (simp; done) | (simp; omega))))
  | ((with_reducible refine u_check_depth ?_ ?_); (focus (first | assumption | omega | decide | (simp; done) | (simp; omega))))
  | ((with_reducible refine u_are_alikeN ?_ ?_ ?_ ?_ ?_ ?_); (focus (first | assumption | omega | decide | (simp; done) | (simp; omega))); (focus (first | assumption | omega | decide | (simp; done) | (simp; omega))); (focus (first | assumption | omega | decide | (simp; done) | (simp; omega))); (focus (first | assumption | omega | decide | (simp; done) | (simp; omega))); (focus (first | assumption | omega | decide | (simp; done) | (simp; omega))))
  | ((with_reducible refine u_are_alike ?_ ?_ ?_ ?_ ?_ ?_ ?_); (focus (first | assumption | omega | decide | (simp; done) | (simp; omega))); (focus (first | assumption | omega | decide | (simp; done) | (simp; omega))); (focus (first | assumption | omega | decide | (simp; done) | (simp; omega))); (focus (first | assumption | omega | decide | (simp; done) | (simp; omega))); (focus (first | assumption | omega | decide | (simp; done) | (simp; omega))); (focus (first | assumption | omega | decide | (simp; done) | (simp; omega))))
  | ((with_reducible refine u_wAlikeN ?_ ?_ ?_ ?_); (focus (first | assumption | omega | decide | (simp; done) | (simp; omega))); (focus (first | assumption | omega | decide | (simp; done) | (simp; omega))); (focus (first | assumption | omega | decide | (simp; done) | (simp; omega))))
  | ((with_reducible refine u_wAlike ?_ ?_ ?_ ?_ ?_); (focus (first | assumption | omega | decide | (simp; done) | (simp; omega))); (focus (first | assumption | omega | decide | (simp; done) | (simp; omega))); (focus (first | assumption | omega | decide | (simp; done) | (simp; omega))); (focus (first | assumption | omega | decide | (simp; done) | (simp; omega))))
  | ((with_reducible refine u_answers ?_ ?_ ?_ ?_ ?_ ?_ ?_ ?_ ?_); (focus (first | assumption | omega | decide | (simp; done) | (simp; omega))); (focus (first | assumption | omega | decide | (simp; done) | (simp; omega))); (focus (first | assumption | omega | decide | (simp; done) | (simp; omega))); (focus (first | assumption | omega | decide | (simp; done) | (simp; omega))); (focus (first | assumption | omega | decide | (simp; done) | (simp; omega))); (focus (first | assumption | omega | decide | (simp; done) | (simp; omega))); (focus (first | assumption | omega | decide | (simp; done) | (simp; omega))); (focus (first | assumption | omega | decide | (simp; done) | (simp; omega))))
  | ((with_reducible refine u_winN ?_ ?_ ?_ ?_ ?_ ?_); (focus (first | assumption | omega | decide | (simp; done) | (simp; omega))); (focus (first | assumption | omega | decide | (simp; done) | (simp; omega))); (focus (first | assumption | omega | decide | (simp; done) | (simp; omega))); (focus (first | assumption | omega | decide | (simp; done) | (simp; omega))); (focus (first | assumption | omega | decide | (simp; done) | (simp; omega))))
  | ((with_reducible refine u_win ?_ ?_ ?_ ?_ ?_ ?_ ?_); (focus (first | assumption | omega | decide | (simp; done) | (simp; omega))); (focus (first | assumption | omega | decide | (simp; done) | (simp; omega))); (focus (first | assumption | omega | decide | (simp; done) | (simp; omega))); (focus (first | assumption | omega | decide | (simp; done) | (simp; omega))); (focus (first | assumption | omega | decide | (simp; done) | (simp; omega))); (focus (first | assumption | omega | decide | (simp; done) | (simp; omega))))
  | ((with_reducible refine u_un ?_ ?_ ?_ ?_ ?_); (focus (first | assumption | omega | decide | (simp; done) | (simp; omega))); (focus (first | assumption | omega | decide | (simp; done) | (simp; omega))); (focus (first | assumption | omega | decide | (simp; done) | (simp; omega))); (focus (first | assumption | omega | decide | (simp; done) | (simp; omega))))
  | ((with_reducible refine u_draw ?_ ?_ ?_ ?_); (focus (first | assumption | omega | decide | (simp; done) | (simp; omega))); (focus (first | assumption | omega | decide | (simp; done) | (simp; omega))); (focus (first | assumption | omega | decide | (simp; done) | (simp; omega))))
  | ((with_reducible refine u_pair ?_ ?_ ?_ ?_); (focus (first | assumption | omega | decide | (simp; done) | (simp; omega))); (focus (first | assumption | omega | decide | (simp; done) | (simp; omega))); (focus (first | assumption | omega | decide | (simp; done) | (simp; omega))))
  | ((with_reducible refine u_inStep ?_ ?_); (focus (first | assumption | omega | decide | (simp; done) | (simp; omega))))
  | ((with_reducible refine u_lasts ?_ ?_ ?_ ?_ ?_ ?_); (focus (first | assumption | omega | decide | (simp; done) | (simp; omega))); (focus (first | assumption | omega | decide | (simp; done) | (simp; omega))); (focus (first | assumption | omega | decide | (simp; done) | (simp; omega))); (focus (first | assumption | omega | decide | (simp; done) | (simp; omega))); (focus (first | assumption | omega | decide | (simp; done) | (simp; omega))))
  | ((with_reducible apply u_qry); (focus (first | assumption | omega | decide | (simp; done) | (simp; omega))); (focus (first | assumption | omega | decide | (simp; done) | (simp; omega))); (focus (first | assumption | omega | decide | (simp; done) | (simp; omega))); (focus (first | assumption | omega | decide | (simp; done) | (simp; omega))); (focus (first | assumption | omega | decide | (simp; done) | (simp; omega))); (focus (first | assumption | omega | decide | (simp; done) | (simp; omega))); (focus (first | assumption | omega | decide | (simp; done) | (simp; omega))))
  | ((with_reducible apply u_steep); (focus (first | assumption | omega | decide | (simp; done) | (simp; omega))); (focus (first | assumption | omega | decide | (simp; done) | (simp; omega))); (focus (first | assumption | omega | decide | (simp; done) | (simp; omega))); (focus (first | assumption | omega | decide | (simp; done) | (simp; omega))); (focus (first | assumption | omega | decide | (simp; done) | (simp; omega))))
  | ((with_reducible apply u_anyq); (focus (first | assumption | omega | decide | (simp; done) | (simp; omega))); (focus (first | assumption | omega | decide | (simp; done) | (simp; omega))); (focus (first | assumption | omega | decide | (simp; done) | (simp; omega))); (focus (first | assumption | omega | decide | (simp; done) | (simp; omega))))
  | ((with_reducible refine u_lets ?_ ?_ ?_); (focus (first | assumption | omega | decide | (simp; done) | (simp; omega))); (focus (first | assumption | omega | decide | (simp; done) | (simp; omega))))
  | ((with_reducible refine u_letsH ?_ ?_ ?_); (focus (first | assumption | omega | decide | (simp; done) | (simp; omega))); (focus (first | assumption | omega | decide | (simp; done) | (simp; omega))))
  | ((with_reducible refine u_islet ?_ ?_); (focus (first | assumption | omega | decide | (simp; done) | (simp; omega))))
  | ((with_reducible refine u_inner ?_))
  | ((with_reducible refine u_isq ?_ ?_ ?_ ?_); (focus (first | assumption | omega | decide | (simp; done) | (simp; omega))); (focus (first | assumption | omega | decide | (simp; done) | (simp; omega))); (focus (first | assumption | omega | decide | (simp; done) | (simp; omega))))
  | ((with_reducible refine u_isqH ?_ ?_ ?_ ?_); (focus (first | assumption | omega | decide | (simp; done) | (simp; omega))); (focus (first | assumption | omega | decide | (simp; done) | (simp; omega))); (focus (first | assumption | omega | decide | (simp; done) | (simp; omega))))
  | ((with_reducible refine u_chq ?_ ?_ ?_); (focus (first | assumption | omega | decide | (simp; done) | (simp; omega))); (focus (first | assumption | omega | decide | (simp; done) | (simp; omega))))
  | ((with_reducible refine u_chqH ?_ ?_ ?_); (focus (first | assumption | omega | decide | (simp; done) | (simp; omega))); (focus (first | assumption | omega | decide | (simp; done) | (simp; omega))))
  | ((with_reducible refine u_add ?_ ?_ ?_); (focus (first | assumption | omega | decide | (simp; done) | (simp; omega))); (focus (first | assumption | omega | decide | (simp; done) | (simp; omega))))
  | ((with_reducible refine u_addH ?_ ?_ ?_); (focus (first | assumption | omega | decide | (simp; done) | (simp; omega))); (focus (first | assumption | omega | decide | (simp; done) | (simp; omega))))
  | ((with_reducible apply u_isletA); (focus (first | assumption | omega | decide | (simp; done) | (simp; omega))); (focus (first | assumption | omega | decide | (simp; done) | (simp; omega))); (focus (first | assumption | omega | decide | (simp; done) | (simp; omega))); (focus (first | assumption | omega | decide | (simp; done) | (simp; omega))); (focus (first | assumption | omega | decide | (simp; done) | (simp; omega))))
  | ((with_reducible apply u_metA); (focus (first | assumption | omega | decide | (simp; done) | (simp; omega))); (focus (first | assumption | omega | decide | (simp; done) | (simp; omega))); (focus (first | assumption | omega | decide | (simp; done) | (simp; omega))); (focus (first | assumption | omega | decide | (simp; done) | (simp; omega))); (focus (first | assumption | omega | decide | (simp; done) | (simp; omega))); (focus (first | assumption | omega | decide | (simp; done) | (simp; omega))))
  | ((with_reducible refine u_lets1 ?_ ?_ ?_); (focus (first | assumption | omega | decide | (simp; done) | (simp; omega))); (focus (first | assumption | omega | decide | (simp; done) | (simp; omega))))
  | ((with_reducible refine u_lets1H ?_ ?_ ?_ ?_); (focus (first | assumption | omega | decide | (simp; done) | (simp; omega))); (focus (first | assumption | omega | decide | (simp; done) | (simp; omega))); (focus (first | assumption | omega | decide | (simp; done) | (simp; omega))))
  | ((with_reducible refine u_letsPH ?_ ?_ ?_ ?_ ?_ ?_); (focus (first | assumption | omega | decide | (simp; done) | (simp; omega))); (focus (first | assumption | omega | decide | (simp; done) | (simp; omega))); (focus (first | assumption | omega | decide | (simp; done) | (simp; omega))); (focus (first | assumption | omega | decide | (simp; done) | (simp; omega))); (focus (first | assumption | omega | decide | (simp; done) | (simp; omega))))
  | ((with_reducible refine u_letsPa ?_ ?_ ?_); (focus (first | assumption | omega | decide | (simp; done) | (simp; omega))); (focus (first | assumption | omega | decide | (simp; done) | (simp; omega))))
  | ((with_reducible refine u_letsPn ?_ ?_ ?_ ?_ ?_); (focus (first | assumption | omega | decide | (simp; done) | (simp; omega))); (focus (first | assumption | omega | decide | (simp; done) | (simp; omega))); (focus (first | assumption | omega | decide | (simp; done) | (simp; omega))); (focus (first | assumption | omega | decide | (simp; done) | (simp; omega))))
  | ((with_reducible refine u_letsPb ?_ ?_ ?_ ?_ ?_ ?_); (focus (first | assumption | omega | decide | (simp; done) | (simp; omega))); (focus (first | assumption | omega | decide | (simp; done) | (simp; omega))); (focus (first | assumption | omega | decide | (simp; done) | (simp; omega))); (focus (first | assumption | omega | decide | (simp; done) | (simp; omega))); (focus (first | assumption | omega | decide | (simp; done) | (simp; omega))))
  | ((with_reducible refine u_letsPs ?_ ?_ ?_ ?_ ?_ ?_ ?_); (focus (first | assumption | omega | decide | (simp; done) | (simp; omega))); (focus (first | assumption | omega | decide | (simp; done) | (simp; omega))); (focus (first | assumption | omega | decide | (simp; done) | (simp; omega))); (focus (first | assumption | omega | decide | (simp; done) | (simp; omega))); (focus (first | assumption | omega | decide | (simp; done) | (simp; omega))); (focus (first | assumption | omega | decide | (simp; done) | (simp; omega))))
  | ((with_reducible refine u_letsS ?_ ?_ ?_); (focus (first | assumption | omega | decide | (simp; done) | (simp; omega))); (focus (first | assumption | omega | decide | (simp; done) | (simp; omega))))
  | ((with_reducible refine u_letsP ?_ ?_ ?_ ?_ ?_); (focus (first | assumption | omega | decide | (simp; done) | (simp; omega))); (focus (first | assumption | omega | decide | (simp; done) | (simp; omega))); (focus (first | assumption | omega | decide | (simp; done) | (simp; omega))); (focus (first | assumption | omega | decide | (simp; done) | (simp; omega))))
  | ((with_reducible apply u_line); (focus (first | assumption | omega | decide | (simp; done) | (simp; omega))); (focus (first | assumption | omega | decide | (simp; done) | (simp; omega))); (focus (first | assumption | omega | decide | (simp; done) | (simp; omega))))
  | ((with_reducible refine u_turnA ?_ ?_); (focus (first | assumption | omega | decide | (simp; done) | (simp; omega))))
  | ((with_reducible refine u_turnAH ?_ ?_); (focus (first | assumption | omega | decide | (simp; done) | (simp; omega))))
  | ((with_reducible refine u_turnQ ?_ ?_ ?_); (focus (first | assumption | omega | decide | (simp; done) | (simp; omega))); (focus (first | assumption | omega | decide | (simp; done) | (simp; omega))))
  | ((with_reducible refine u_turnQH ?_ ?_ ?_); (focus (first | assumption | omega | decide | (simp; done) | (simp; omega))); (focus (first | assumption | omega | decide | (simp; done) | (simp; omega))))
  | ((with_reducible refine u_turnQS ?_ ?_ ?_ ?_ ?_); (focus (first | assumption | omega | decide | (simp; done) | (simp; omega))); (focus (first | assumption | omega | decide | (simp; done) | (simp; omega))); (focus (first | assumption | omega | decide | (simp; done) | (simp; omega))); (focus (first | assumption | omega | decide | (simp; done) | (simp; omega))))
  | ((with_reducible refine u_places ?_ ?_ ?_ ?_ ?_); (focus (first | assumption | omega | decide | (simp; done) | (simp; omega))); (focus (first | assumption | omega | decide | (simp; done) | (simp; omega))); (focus (first | assumption | omega | decide | (simp; done) | (simp; omega))); (focus (first | assumption | omega | decide | (simp; done) | (simp; omega))))
  | ((with_reducible refine u_placesS ?_ ?_ ?_ ?_ ?_ ?_ ?_); (focus (first | assumption | omega | decide | (simp; done) | (simp; omega))); (focus (first | assumption | omega | decide | (simp; done) | (simp; omega))); (focus (first | assumption | omega | decide | (simp; done) | (simp; omega))); (focus (first | assumption | omega | decide | (simp; done) | (simp; omega))); (focus (first | assumption | omega | decide | (simp; done) | (simp; omega))); (focus (first | assumption | omega | decide | (simp; done) | (simp; omega))))
  | ((with_reducible refine u_parting ?_ ?_ ?_ ?_ ?_); (focus (first | assumption | omega | decide | (simp; done) | (simp; omega))); (focus (first | assumption | omega | decide | (simp; done) | (simp; omega))); (focus (first | assumption | omega | decide | (simp; done) | (simp; omega))); (focus (first | assumption | omega | decide | (simp; done) | (simp; omega))))
  | ((with_reducible refine u_pat ?_))
  | ((with_reducible refine u_bare ?_))
  | ((with_reducible refine u_has ?_ ?_ ?_); (focus (first | assumption | omega | decide | (simp; done) | (simp; omega))); (focus (first | assumption | omega | decide | (simp; done) | (simp; omega))))
  | ((with_reducible refine u_allOf ?_ ?_ ?_ ?_); (focus (first | assumption | omega | decide | (simp; done) | (simp; omega))); (focus (first | assumption | omega | decide | (simp; done) | (simp; omega))); (focus (first | assumption | omega | decide | (simp; done) | (simp; omega))))
  | ((with_reducible apply u_leastOf); (focus (first | assumption | omega | decide | (simp; done) | (simp; omega))); (focus (first | assumption | omega | decide | (simp; done) | (simp; omega))); (focus (first | assumption | omega | decide | (simp; done) | (simp; omega))); (focus (first | assumption | omega | decide | (simp; done) | (simp; omega))); (focus (first | assumption | omega | decide | (simp; done) | (simp; omega))))
  | ((with_reducible refine u_depIn ?_ ?_); (focus (first | assumption | omega | decide | (simp; done) | (simp; omega))))
  | ((with_reducible refine u_depOf ?_ ?_ ?_); (focus (first | assumption | omega | decide | (simp; done) | (simp; omega))); (focus (first | assumption | omega | decide | (simp; done) | (simp; omega))))
  | ((with_reducible refine u_depOfH ?_ ?_ ?_); (focus (first | assumption | omega | decide | (simp; done) | (simp; omega))); (focus (first | assumption | omega | decide | (simp; done) | (simp; omega))))
  | ((with_reducible refine u_sameMany ?_ ?_ ?_ ?_ ?_); (focus (first | assumption | omega | decide | (simp; done) | (simp; omega))); (focus (first | assumption | omega | decide | (simp; done) | (simp; omega))); (focus (first | assumption | omega | decide | (simp; done) | (simp; omega))); (focus (first | assumption | omega | decide | (simp; done) | (simp; omega))))
  | ((with_reducible refine u_settledN ?_ ?_ ?_ ?_); (focus (first | assumption | omega | decide | (simp; done) | (simp; omega))); (focus (first | assumption | omega | decide | (simp; done) | (simp; omega))); (focus (first | assumption | omega | decide | (simp; done) | (simp; omega))))
  | ((with_reducible refine u_isBlk ?_))
  | ((with_reducible refine u_depB ?_ ?_ ?_ ?_); (focus (first | assumption | omega | decide | (simp; done) | (simp; omega))); (focus (first | assumption | omega | decide | (simp; done) | (simp; omega))); (focus (first | assumption | omega | decide | (simp; done) | (simp; omega))))
  | ((with_reducible refine u_ct ?_ ?_ ?_ ?_); (focus (first | assumption | omega | decide | (simp; done) | (simp; omega))); (focus (first | assumption | omega | decide | (simp; done) | (simp; omega))); (focus (first | assumption | omega | decide | (simp; done) | (simp; omega))))
  | ((with_reducible refine u_cb ?_ ?_ ?_ ?_); (focus (first | assumption | omega | decide | (simp; done) | (simp; omega))); (focus (first | assumption | omega | decide | (simp; done) | (simp; omega))); (focus (first | assumption | omega | decide | (simp; done) | (simp; omega))))
  | ((with_reducible refine u_caughtR ?_ ?_ ?_ ?_); (focus (first | assumption | omega | decide | (simp; done) | (simp; omega))); (focus (first | assumption | omega | decide | (simp; done) | (simp; omega))); (focus (first | assumption | omega | decide | (simp; done) | (simp; omega))))
  | with_reducible refine dun_neg ?_
  | with_reducible refine tgA2 ?_
  | with_reducible refine tgA3 ?_
  | with_reducible refine tgEx2 ?_
  | with_reducible refine tgEx3 ?_
  | with_reducible refine tgEx4 ?_
  | with_reducible refine tgT2 ?_
  | with_reducible refine tgT3 ?_
  | with_reducible refine tgL2 ?_
  | with_reducible refine tgT4 ?_
  | refine ⟨_, (Or.inl rfl : DL.D.lst _ = DL.D.lst _ ∨ _), ?_⟩
  | refine ⟨_, (Or.inr rfl : _ ∨ DL.D.tup _ = DL.D.tup _), ?_⟩
  | with_reducible refine xin_no ?_
  | with_reducible refine xr_no ?_
  | refine ⟨(rfl : DL.D.ref _ = DL.D.ref _), ?_⟩
  | refine ⟨(rfl : DL.D.ty _ = Option.some _), ?_⟩
  | refine ⟨Qn.ty _, ?_⟩
  | refine ⟨(by simp : List.length _ ≤ 100000), ?_⟩
  | refine ⟨(by simp : List.length _ = _), ?_⟩
  | with_reducible refine wo_none ?_
  | with_reducible refine wo_some ?_
  | refine ⟨_, rfl, ?_⟩))
local macro_rules | `(tactic| walk_at "hl") => `(tactic| first
  | (rintro ⟨e, _⟩; rw [e]; rfl)
  | (rintro ⟨_, e, _⟩; rw [e]; rfl)
  | (rintro ⟨_, _, e, _⟩; rw [e]; rfl)
  | (rintro ⟨_, _, _, e, _⟩; rw [e]; rfl)
  | (rintro ⟨_, _, _, _, e, _⟩; rw [e]; rfl)
  | (rintro ⟨_, _, _, _, _, e, _⟩; rw [e]; rfl)
  | (rintro ⟨_, _, _, _, _, _, e, _⟩; rw [e]; rfl)
  | (rintro ⟨_, _, _, _, _, _, _, e, _⟩; rw [e]; rfl)
  | (rintro ⟨_, _, _, _, _, _, _, _, e, _⟩; rw [e]; rfl)
  | (rintro ⟨_, _, _, _, _, _, _, _, _, e, _⟩; rw [e]; rfl)
  | (rintro ⟨_, _, _, _, _, _, _, _, _, _, e, _⟩; rw [e]; rfl)
  | (rintro ⟨_, _, _, _, _, _, _, _, _, _, _, e, _⟩; rw [e]; rfl))
local macro_rules | `(tactic| walk_at "rec0") => `(tactic| first
  | (rintro ⟨_, _, _, _, _, _, _, _, ⟨_, h0, _⟩, _⟩; exact absurd h0 (Nat.not_lt_zero _))
  | (rintro ⟨_, _, _, ⟨_, h0, _⟩, _⟩; exact absurd h0 (Nat.not_lt_zero _))
  | (rintro ⟨_, _, _, _, _, ⟨_, h0, _⟩, _⟩; exact absurd h0 (Nat.not_lt_zero _))
  | (rintro ⟨_, _, _, _, _, _, ⟨_, h0, _⟩, _⟩; exact absurd h0 (Nat.not_lt_zero _)))
local macro_rules | `(tactic| walk_at "v") => `(tactic| repeat (first
  | ((with_reducible refine tgWE ?_); first
      | ((with_reducible apply tgSetE); (focus (simp only [List.set_cons_succ, List.set_cons_zero]; rfl)))
      | ((with_reducible apply we_callX); (focus (first | exact poolC _ _ _ _ _ _ _ | exact resC | exact onP | exact onB | exact onU onP | exact onU resC | exact onU (poolC _ _ _ _ _ _ _) | exact onU onB | exact onU (onU onP) | exact onU (onU (poolC _ _ _ _ _ _ _)))))
      | ((with_reducible refine tgNew ?_); refine we_dnewN ?_)
      | ((with_reducible apply we_methV); (focus (first | exact onK | exact onK0)); exact rfl; exact rfl)
      | with_reducible refine we_callF ?_
      | with_reducible refine we_callNF ?_
      | ((with_reducible apply we_callR); (focus (first | exact poolC _ _ _ _ _ _ _ | exact resC | exact onP | exact onB | exact onU onP | exact onU resC | exact onU (poolC _ _ _ _ _ _ _) | exact onU onB | exact onU (onU onP) | exact onU (onU (poolC _ _ _ _ _ _ _)))))
      | ((with_reducible apply we_methA); (focus (first | exact ac0 | exact onA)); (focus decide); (focus decide); (focus decide))
      | ((with_reducible apply we_fldAn); (focus (first | exact ac0 | exact onA)); assumption)
      | ((with_reducible apply we_fldAk); (focus (first | exact ac0 | exact onA)); assumption)
      | ((with_reducible apply we_fldAl); (focus (first | exact ac0 | exact onA)); assumption)
      | ((with_reducible apply we_dtnin); (focus (first | exact jc0.part subJj | exact onR.part subJj)))
      | ((with_reducible apply we_dtget); (focus (first | exact jc0.part subJj | exact onR.part subJj)))
      | ((with_reducible apply we_dinin); (focus (first | exact jc0.part subJl | exact onR.part subJl)))
      | ((with_reducible apply we_diget); (focus (first | exact jc0.part subJl | exact onR.part subJl)))
      | ((with_reducible apply we_methJ); (focus (first | exact jc0 | exact onR)); (focus decide); (focus decide); (focus decide); (focus decide))
      | ((with_reducible apply we_fldJt); (focus (first | exact jc0 | exact onR)); assumption)
      | ((with_reducible apply we_fldJs); (focus (first | exact jc0 | exact onR)); assumption)
      | ((with_reducible apply we_fldJl); (focus (first | exact jc0 | exact onR)); assumption)
      | ((with_reducible apply we_fldJj); (focus (first | exact jc0 | exact onR)); assumption)
      | ((with_reducible apply we_reprOwn2); exact rfl)
      | with_reducible refine we_maxDf ?_
      | ((with_reducible apply we_ktup); assumption)
      | with_reducible refine we_ref ?_
      | ((with_reducible apply we_callK); (focus (first | exact onK | exact onK0)))
      | with_reducible refine we_scount ?_
      | with_reducible refine we_sstarts ?_
      | with_reducible refine we_sends ?_
      | ((with_reducible apply we_revR); (focus (exact rfl)); (focus (first | assumption | omega | decide | (simp; done) | (simp; omega))))
      | with_reducible refine we_isi ?_
      | ((with_reducible apply we_var); focus rfl)
      | with_reducible refine we_int ?_
      | with_reducible refine we_str ?_
      | with_reducible refine we_bl ?_
      | with_reducible refine we_non ?_
      | with_reducible refine we_op ?_
      | with_reducible refine we_un ?_
      | with_reducible refine we_chain ?_
      | with_reducible refine we_cb ?_
      | with_reducible refine we_tup ?_
      | with_reducible refine we_lst ?_
      | with_reducible refine we_if ?_
      | with_reducible refine we_andV ?_
      | with_reducible refine we_orV ?_
      | with_reducible refine we_notV ?_
      | with_reducible refine we_sl ?_
      | with_reducible refine we_join ?_
      | with_reducible refine we_draw ?_)
  | ((with_reducible refine tgWS ?_); first
      | ((with_reducible apply tgSet); (focus (simp only [List.set_cons_succ, List.set_cons_zero]; rfl)))
      | ((with_reducible apply ws_retOwn); exact rfl)
      | ((with_reducible apply ws_app); exact rfl; (focus (first | assumption | omega | decide | (simp; done) | (simp; omega))))
      | with_reducible refine ws_nx ?_
      | with_reducible refine ws_asgF ?_
      | with_reducible refine ws_parF ?_
      | with_reducible refine ws_par3F ?_
      | ((with_reducible refine ws_par3 ?_ ?_ ?_ ?_); (focus (simp; done)); (focus (simp; done)); (focus (simp; done)))
      | ((with_reducible refine ws_tup3 rfl ?_ ?_ ?_ ?_); (focus (simp; done)); (focus (simp; done)); (focus (simp; done)))
      | ((with_reducible refine ws_tup4 rfl ?_ ?_ ?_ ?_ ?_); (focus (simp; done)); (focus (simp; done)); (focus (simp; done)); (focus (simp; done)))
      | ((with_reducible refine ws_asg2 rfl ?_ ?_ ?_); (focus (simp; done)); (focus (simp; done)))
      | ((with_reducible refine ws_asgL2 rfl ?_ ?_ ?_); (focus (simp; done)); (focus (simp; done)))
      | ((with_reducible refine ws_asg3 rfl ?_ ?_ ?_ ?_); (focus (simp; done)); (focus (simp; done)); (focus (simp; done)))
      | ((with_reducible refine ws_par ?_ ?_ ?_); (focus (simp; done)); (focus (simp; done)))
      | with_reducible refine ws_newK fun _ _ _ _ => ?_
      | with_reducible refine ws_newA ?_
      | with_reducible refine ws_newR ?_
      | with_reducible refine ws_newR2 ?_
      | ((with_reducible refine ws_asg4 rfl ?_ ?_ ?_ ?_ ?_); (focus (simp; done)); (focus (simp; done)); (focus (simp; done)); (focus (simp; done)))
      | with_reducible refine ws_seq ?_
      | with_reducible refine ws_next ?_
      | with_reducible refine ws_cnt ?_
      | with_reducible refine ws_brk ?_
      | with_reducible refine ws_if ?_
      | with_reducible refine ws_retN ?_
      | with_reducible refine ws_ret ?_
      | with_reducible refine ws_asg ?_
      | with_reducible refine ws_drop ?_)
  | ((with_reducible refine tgFZ ?_); first
      | with_reducible refine fz_dat ?_
      | with_reducible refine fz_own ?_)
  | ((with_reducible refine tgWA ?_); first
      | with_reducible refine wa_star ?_
      | with_reducible refine wa_nil ?_
      | with_reducible refine wa_cons ?_)
  | ((with_reducible refine tgWT ?_); first
      | ((with_reducible apply tgSetT); (focus (simp only [List.set_cons_succ, List.set_cons_zero]; rfl)))
      | with_reducible refine wt_yes ?_
      | with_reducible refine wt_test ?_
      | with_reducible refine wt_B ?_
      | with_reducible refine wt_not ?_
      | with_reducible refine wt_and ?_
      | with_reducible refine wt_or ?_)
  | ((with_reducible refine tgWAO ?_); first
      | with_reducible refine wao_nil ?_
      | with_reducible refine wao_cons ?_)
  | ((with_reducible refine tgDO ?_); first
      | ((with_reducible refine dop_shl1 ?_ ?_ ?_); (focus omega); (focus omega))
      | with_reducible refine deq_row ?_
      | ((with_reducible apply deq_enc); (focus (first | exact encNat | exact encP2 | exact encInt)))
      | ((with_reducible apply dne_enc); (focus (first | exact encNat | exact encP2 | exact encInt)))
      | ((with_reducible apply deq_encN); (focus (first | exact encNat | exact encP2 | exact encInt)))
      | ((with_reducible apply dne_encN); (focus (first | exact encNat | exact encP2 | exact encInt)))
      | ((with_reducible refine da_map ?_ ?_); (focus (first | assumption | omega | decide | (simp; done) | (simp; omega))))
      | ((with_reducible refine da_snoc2 ?_ ?_); (focus omega))
      | with_reducible refine dne_row ?_
      | ((with_reducible refine dop_fdivN ?_ ?_ ?_); (focus omega); (focus omega))
      | ((with_reducible apply di_names); assumption; (focus omega); (focus omega))
      | ((with_reducible apply di_qn); exact rfl)
      | ((with_reducible apply dnin_tab); assumption; (focus (first | exact .head _ | exact .tail _ (.head _) | exact .tail _ (.tail _ (.head _)) | exact .tail _ (.tail _ (.tail _ (.head _))))))
      | ((with_reducible apply di_tab); assumption; (focus (first | exact .head _ | exact .tail _ (.head _) | exact .tail _ (.tail _ (.head _)) | exact .tail _ (.tail _ (.tail _ (.head _))))))
      | ((with_reducible refine dop_pow2 ?_ ?_ ?_); (focus omega); (focus omega))
      | ((with_reducible refine dop_pow10 ?_ ?_ ?_); (focus omega); (focus omega))
      | with_reducible refine dis_opt ?_
      | with_reducible refine dnis_bl ?_
      | with_reducible refine dis_qn ?_
      | with_reducible refine dnis_qn ?_
      | with_reducible refine dis_non0 ?_
      | with_reducible refine dnis_non0 ?_
      | with_reducible refine dnis_opt ?_
      | with_reducible refine dle_opt ?_
      | ((with_reducible refine deq_qn ?_ ?_ ?_ ?_ ?_); (focus (first | assumption | omega | decide | (simp; done) | (simp; omega))); (focus (first | assumption | omega | decide | (simp; done) | (simp; omega))); (focus (first | assumption | omega | decide | (simp; done) | (simp; omega))); (focus (first | assumption | omega | decide | (simp; done) | (simp; omega))))
      | ((with_reducible refine dne_qn ?_ ?_ ?_ ?_ ?_); (focus (first | assumption | omega | decide | (simp; done) | (simp; omega))); (focus (first | assumption | omega | decide | (simp; done) | (simp; omega))); (focus (first | assumption | omega | decide | (simp; done) | (simp; omega))); (focus (first | assumption | omega | decide | (simp; done) | (simp; omega))))
      | with_reducible refine din_row2 ?_
      | ((with_reducible refine dm_row ?_ ?_ ?_ ?_); (focus (first | assumption | omega | decide | (simp; done) | (simp; omega))); (focus (first | assumption | omega | decide | (simp; done) | (simp; omega))); (focus (first | assumption | omega | decide | (simp; done) | (simp; omega))))
      | with_reducible refine deq_opt ?_
      | with_reducible refine dne_opt ?_
      | ((with_reducible refine deq_qn0 ?_ ?_ ?_); assumption; (focus omega))
      | with_reducible refine da_int ?_
      | with_reducible refine dop_sub ?_
      | with_reducible refine dlt_int ?_
      | with_reducible refine dle_int ?_
      | with_reducible refine dop_gt ?_
      | with_reducible refine dop_ge ?_
      | ((with_reducible apply de_sc); focus rfl)
      | ((with_reducible apply dn_sc); focus rfl)
      | ((with_reducible apply di_tup); focus rfl)
      | ((with_reducible apply di_lst); focus rfl))
  | ((with_reducible refine tgDC ?_); first
      | ((with_reducible refine dl_row ?_ ?_); (focus (first | omega | (simp; done))))
      | with_reducible refine dl_map ?_
      | ((with_reducible apply dl_names); assumption)
      | with_reducible refine db_repr2 ?_
      | ((with_reducible refine db_reprN2 ?_ ?_ ?_); (focus (first | assumption | omega | decide | (simp; done) | (simp; omega))); (focus (first | assumption | omega | decide | (simp; done) | (simp; omega))))
      | ((with_reducible refine db_sortN ?_ ?_); (focus (first | assumption | omega | decide | (simp; done) | (simp; omega))))
      | ((with_reducible refine db_sortP ?_ ?_); (focus (first | assumption | omega | decide | (simp; done) | (simp; omega))))
      | ((with_reducible apply dl_qn); exact rfl)
      | with_reducible refine db_all ?_
      | ((with_reducible apply db_isX); (focus (exact knows_exc)); (focus assumption); (focus assumption))
      | with_reducible refine db_anyB ?_
      | with_reducible refine db_listT ?_
      | with_reducible refine db_listL ?_
      | with_reducible refine dl_lst ?_
      | with_reducible refine dl_tup ?_
      | with_reducible refine db_max ?_
      | with_reducible refine db_min ?_
      | with_reducible refine db_abs ?_
      | with_reducible refine db_intI ?_
      | with_reducible refine db_intB ?_)
  | ((with_reducible refine tgDS ?_); first
      | with_reducible refine dsl_take ?_
      | with_reducible refine dsl_drop1 ?_
      | with_reducible refine dsl_drop ?_
      | ((with_reducible refine ds_mid ?_ ?_ ?_); (focus omega); (focus omega))
      | ((with_reducible refine ds_take ?_ ?_); (focus omega))
      | ((with_reducible refine ds_drop1 ?_ ?_); (focus omega))
      | ((with_reducible refine ds_drop ?_ ?_); (focus omega))
      | with_reducible refine ds_qn ?_
      | with_reducible refine ds_lst ?_
      | with_reducible refine ds_tup ?_)
  | ((with_reducible refine tgIf ?_); first
      | with_reducible refine ite_n ?_
      | ((with_reducible refine ite_BT ?_ ?_); (focus (first | assumption | (with_reducible rfl))))
      | ((with_reducible refine ite_BF ?_ ?_); (focus assumption))
      | ((with_reducible refine ite_dT ?_ ?_); (focus (first | assumption | omega | (with_reducible rfl) | (simp; done) | exact rfl)))
      | ((with_reducible refine ite_dF ?_ ?_); (focus (first | omega | decide)))
      | with_reducible refine iteT ?_
      | with_reducible refine iteF ?_)
  | ((with_reducible apply tgPick); (focus (simp only [pick, List.filterMap_cons, List.filterMap_nil, List.getElem?_cons_zero, List.getElem?_cons_succ]; rfl)))
  | ((with_reducible refine u_check_row ?_ ?_); (focus (first | assumption | omega | decide | (simp; done) | (simp; omega))))
  | ((with_reducible refine u_check_both ?_ ?_ ?_); (focus (first | assumption | omega | decide | (simp; done) | (simp; omega))); (focus (first | assumption | omega | decide | (simp; done) | (simp; omega))))
  | ((with_reducible refine u_check_depth ?_ ?_); (focus (first | assumption | omega | decide | (simp; done) | (simp; omega))))
  | ((with_reducible refine u_are_alikeN ?_ ?_ ?_ ?_ ?_ ?_); (focus (first | assumption | omega | decide | (simp; done) | (simp; omega))); (focus (first | assumption | omega | decide | (simp; done) | (simp; omega))); (focus (first | assumption | omega | decide | (simp; done) | (simp; omega))); (focus (first | assumption | omega | decide | (simp; done) | (simp; omega))); (focus (first | assumption | omega | decide | (simp; done) | (simp; omega))))
  | ((with_reducible refine u_are_alike ?_ ?_ ?_ ?_ ?_ ?_ ?_); (focus (first | assumption | omega | decide | (simp; done) | (simp; omega))); (focus (first | assumption | omega | decide | (simp; done) | (simp; omega))); (focus (first | assumption | omega | decide | (simp; done) | (simp; omega))); (focus (first | assumption | omega | decide | (simp; done) | (simp; omega))); (focus (first | assumption | omega | decide | (simp; done) | (simp; omega))); (focus (first | assumption | omega | decide | (simp; done) | (simp; omega))))
  | ((with_reducible refine u_wAlikeN ?_ ?_ ?_ ?_); (focus (first | assumption | omega | decide | (simp; done) | (simp; omega))); (focus (first | assumption | omega | decide | (simp; done) | (simp; omega))); (focus (first | assumption | omega | decide | (simp; done) | (simp; omega))))
  | ((with_reducible refine u_wAlike ?_ ?_ ?_ ?_ ?_); (focus (first | assumption | omega | decide | (simp; done) | (simp; omega))); (focus (first | assumption | omega | decide | (simp; done) | (simp; omega))); (focus (first | assumption | omega | decide | (simp; done) | (simp; omega))); (focus (first | assumption | omega | decide | (simp; done) | (simp; omega))))
  | ((with_reducible refine u_answers ?_ ?_ ?_ ?_ ?_ ?_ ?_ ?_ ?_); (focus (first | assumption | omega | decide | (simp; done) | (simp; omega))); (focus (first | assumption | omega | decide | (simp; done) | (simp; omega))); (focus (first | assumption | omega | decide | (simp; done) | (simp; omega))); (focus (first | assumption | omega | decide | (simp; done) | (simp; omega))); (focus (first | assumption | omega | decide | (simp; done) | (simp; omega))); (focus (first | assumption | omega | decide | (simp; done) | (simp; omega))); (focus (first | assumption | omega | decide | (simp; done) | (simp; omega))); (focus (first | assumption | omega | decide | (simp; done) | (simp; omega))))
  | ((with_reducible refine u_winN ?_ ?_ ?_ ?_ ?_ ?_); (focus (first | assumption | omega | decide | (simp; done) | (simp; omega))); (focus (first | assumption | omega | decide | (simp; done) | (simp; omega))); (focus (first | assumption | omega | decide | (simp; done) | (simp; omega))); (focus (first | assumption | omega | decide | (simp; done) | (simp; omega))); (focus (first | assumption | omega | decide | (simp; done) | (simp; omega))))
  | ((with_reducible refine u_win ?_ ?_ ?_ ?_ ?_ ?_ ?_); (focus (first | assumption | omega | decide | (simp; done) | (simp; omega))); (focus (first | assumption | omega | decide | (simp; done) | (simp; omega))); (focus (first | assumption | omega | decide | (simp; done) | (simp; omega))); (focus (first | assumption | omega | decide | (simp; done) | (simp; omega))); (focus (first | assumption | omega | decide | (simp; done) | (simp; omega))); (focus (first | assumption | omega | decide | (simp; done) | (simp; omega))))
  | ((with_reducible refine u_un ?_ ?_ ?_ ?_ ?_); (focus (first | assumption | omega | decide | (simp; done) | (simp; omega))); (focus (first | assumption | omega | decide | (simp; done) | (simp; omega))); (focus (first | assumption | omega | decide | (simp; done) | (simp; omega))); (focus (first | assumption | omega | decide | (simp; done) | (simp; omega))))
  | ((with_reducible refine u_draw ?_ ?_ ?_ ?_); (focus (first | assumption | omega | decide | (simp; done) | (simp; omega))); (focus (first | assumption | omega | decide | (simp; done) | (simp; omega))); (focus (first | assumption | omega | decide | (simp; done) | (simp; omega))))
  | ((with_reducible refine u_pair ?_ ?_ ?_ ?_); (focus (first | assumption | omega | decide | (simp; done) | (simp; omega))); (focus (first | assumption | omega | decide | (simp; done) | (simp; omega))); (focus (first | assumption | omega | decide | (simp; done) | (simp; omega))))
  | ((with_reducible refine u_inStep ?_ ?_); (focus (first | assumption | omega | decide | (simp; done) | (simp; omega))))
  | ((with_reducible refine u_lasts ?_ ?_ ?_ ?_ ?_ ?_); (focus (first | assumption | omega | decide | (simp; done) | (simp; omega))); (focus (first | assumption | omega | decide | (simp; done) | (simp; omega))); (focus (first | assumption | omega | decide | (simp; done) | (simp; omega))); (focus (first | assumption | omega | decide | (simp; done) | (simp; omega))); (focus (first | assumption | omega | decide | (simp; done) | (simp; omega))))
  | ((with_reducible apply u_qry); (focus (first | assumption | omega | decide | (simp; done) | (simp; omega))); (focus (first | assumption | omega | decide | (simp; done) | (simp; omega))); (focus (first | assumption | omega | decide | (simp; done) | (simp; omega))); (focus (first | assumption | omega | decide | (simp; done) | (simp; omega))); (focus (first | assumption | omega | decide | (simp; done) | (simp; omega))); (focus (first | assumption | omega | decide | (simp; done) | (simp; omega))); (focus (first | assumption | omega | decide | (simp; done) | (simp; omega))))
  | ((with_reducible apply u_steep); (focus (first | assumption | omega | decide | (simp; done) | (simp; omega))); (focus (first | assumption | omega | decide | (simp; done) | (simp; omega))); (focus (first | assumption | omega | decide | (simp; done) | (simp; omega))); (focus (first | assumption | omega | decide | (simp; done) | (simp; omega))); (focus (first | assumption | omega | decide | (simp; done) | (simp; omega))))
  | ((with_reducible apply u_anyq); (focus (first | assumption | omega | decide | (simp; done) | (simp; omega))); (focus (first | assumption | omega | decide | (simp; done) | (simp; omega))); (focus (first | assumption | omega | decide | (simp; done) | (simp; omega))); (focus (first | assumption | omega | decide | (simp; done) | (simp; omega))))
  | ((with_reducible refine u_lets ?_ ?_ ?_); (focus (first | assumption | omega | decide | (simp; done) | (simp; omega))); (focus (first | assumption | omega | decide | (simp; done) | (simp; omega))))
  | ((with_reducible refine u_letsH ?_ ?_ ?_); (focus (first | assumption | omega | decide | (simp; done) | (simp; omega))); (focus (first | assumption | omega | decide | (simp; done) | (simp; omega))))
  | ((with_reducible refine u_islet ?_ ?_); (focus (first | assumption | omega | decide | (simp; done) | (simp; omega))))
  | ((with_reducible refine u_inner ?_))
  | ((with_reducible refine u_isq ?_ ?_ ?_ ?_); (focus (first | assumption | omega | decide | (simp; done) | (simp; omega))); (focus (first | assumption | omega | decide | (simp; done) | (simp; omega))); (focus (first | assumption | omega | decide | (simp; done) | (simp; omega))))
  | ((with_reducible refine u_isqH ?_ ?_ ?_ ?_); (focus (first | assumption | omega | decide | (simp; done) | (simp; omega))); (focus (first | assumption | omega | decide | (simp; done) | (simp; omega))); (focus (first | assumption | omega | decide | (simp; done) | (simp; omega))))
  | ((with_reducible refine u_chq ?_ ?_ ?_); (focus (first | assumption | omega | decide | (simp; done) | (simp; omega))); (focus (first | assumption | omega | decide | (simp; done) | (simp; omega))))
  | ((with_reducible refine u_chqH ?_ ?_ ?_); (focus (first | assumption | omega | decide | (simp; done) | (simp; omega))); (focus (first | assumption | omega | decide | (simp; done) | (simp; omega))))
  | ((with_reducible refine u_add ?_ ?_ ?_); (focus (first | assumption | omega | decide | (simp; done) | (simp; omega))); (focus (first | assumption | omega | decide | (simp; done) | (simp; omega))))
  | ((with_reducible refine u_addH ?_ ?_ ?_); (focus (first | assumption | omega | decide | (simp; done) | (simp; omega))); (focus (first | assumption | omega | decide | (simp; done) | (simp; omega))))
  | ((with_reducible apply u_isletA); (focus (first | assumption | omega | decide | (simp; done) | (simp; omega))); (focus (first | assumption | omega | decide | (simp; done) | (simp; omega))); (focus (first | assumption | omega | decide | (simp; done) | (simp; omega))); (focus (first | assumption | omega | decide | (simp; done) | (simp; omega))); (focus (first | assumption | omega | decide | (simp; done) | (simp; omega))))
  | ((with_reducible apply u_metA); (focus (first | assumption | omega | decide | (simp; done) | (simp; omega))); (focus (first | assumption | omega | decide | (simp; done) | (simp; omega))); (focus (first | assumption | omega | decide | (simp; done) | (simp; omega))); (focus (first | assumption | omega | decide | (simp; done) | (simp; omega))); (focus (first | assumption | omega | decide | (simp; done) | (simp; omega))); (focus (first | assumption | omega | decide | (simp; done) | (simp; omega))))
  | ((with_reducible refine u_lets1 ?_ ?_ ?_); (focus (first | assumption | omega | decide | (simp; done) | (simp; omega))); (focus (first | assumption | omega | decide | (simp; done) | (simp; omega))))
  | ((with_reducible refine u_lets1H ?_ ?_ ?_ ?_); (focus (first | assumption | omega | decide | (simp; done) | (simp; omega))); (focus (first | assumption | omega | decide | (simp; done) | (simp; omega))); (focus (first | assumption | omega | decide | (simp; done) | (simp; omega))))
  | ((with_reducible refine u_letsPH ?_ ?_ ?_ ?_ ?_ ?_); (focus (first | assumption | omega | decide | (simp; done) | (simp; omega))); (focus (first | assumption | omega | decide | (simp; done) | (simp; omega))); (focus (first | assumption | omega | decide | (simp; done) | (simp; omega))); (focus (first | assumption | omega | decide | (simp; done) | (simp; omega))); (focus (first | assumption | omega | decide | (simp; done) | (simp; omega))))
  | ((with_reducible refine u_letsPa ?_ ?_ ?_); (focus (first | assumption | omega | decide | (simp; done) | (simp; omega))); (focus (first | assumption | omega | decide | (simp; done) | (simp; omega))))
  | ((with_reducible refine u_letsPn ?_ ?_ ?_ ?_ ?_); (focus (first | assumption | omega | decide | (simp; done) | (simp; omega))); (focus (first | assumption | omega | decide | (simp; done) | (simp; omega))); (focus (first | assumption | omega | decide | (simp; done) | (simp; omega))); (focus (first | assumption | omega | decide | (simp; done) | (simp; omega))))
  | ((with_reducible refine u_letsPb ?_ ?_ ?_ ?_ ?_ ?_); (focus (first | assumption | omega | decide | (simp; done) | (simp; omega))); (focus (first | assumption | omega | decide | (simp; done) | (simp; omega))); (focus (first | assumption | omega | decide | (simp; done) | (simp; omega))); (focus (first | assumption | omega | decide | (simp; done) | (simp; omega))); (focus (first | assumption | omega | decide | (simp; done) | (simp; omega))))
  | ((with_reducible refine u_letsPs ?_ ?_ ?_ ?_ ?_ ?_ ?_); (focus (first | assumption | omega | decide | (simp; done) | (simp; omega))); (focus (first | assumption | omega | decide | (simp; done) | (simp; omega))); (focus (first | assumption | omega | decide | (simp; done) | (simp; omega))); (focus (first | assumption | omega | decide | (simp; done) | (simp; omega))); (focus (first | assumption | omega | decide | (simp; done) | (simp; omega))); (focus (first | assumption | omega | decide | (simp; done) | (simp; omega))))
  | ((with_reducible refine u_letsS ?_ ?_ ?_); (focus (first | assumption | omega | decide | (simp; done) | (simp; omega))); (focus (first | assumption | omega | decide | (simp; done) | (simp; omega))))
  | ((with_reducible refine u_letsP ?_ ?_ ?_ ?_ ?_); (focus (first | assumption | omega | decide | (simp; done) | (simp; omega))); (focus (first | assumption | omega | decide | (simp; done) | (simp; omega))); (focus (first | assumption | omega | decide | (simp; done) | (simp; omega))); (focus (first | assumption | omega | decide | (simp; done) | (simp; omega))))
  | ((with_reducible apply u_line); (focus (first | assumption | omega | decide | (simp; done) | (simp; omega))); (focus (first | assumption | omega | decide | (simp; done) | (simp; omega))); (focus (first | assumption | omega | decide | (simp; done) | (simp; omega))))
  | ((with_reducible refine u_turnA ?_ ?_); (focus (first | assumption | omega | decide | (simp; done) | (simp; omega))))
  | ((with_reducible refine u_turnAH ?_ ?_); (focus (first | assumption | omega | decide | (simp; done) | (simp; omega))))
  | ((with_reducible refine u_turnQ ?_ ?_ ?_); (focus (first | assumption | omega | decide | (simp; done) | (simp; omega))); (focus (first | assumption | omega | decide | (simp; done) | (simp; omega))))
  | ((with_reducible refine u_turnQH ?_ ?_ ?_); (focus (first | assumption | omega | decide | (simp; done) | (simp; omega))); (focus (first | assumption | omega | decide | (simp; done) | (simp; omega))))
  | ((with_reducible refine u_turnQS ?_ ?_ ?_ ?_ ?_); (focus (first | assumption | omega | decide | (simp; done) | (simp; omega))); (focus (first | assumption | omega | decide | (simp; done) | (simp; omega))); (focus (first | assumption | omega | decide | (simp; done) | (simp; omega))); (focus (first | assumption | omega | decide | (simp; done) | (simp; omega))))
  | ((with_reducible refine u_places ?_ ?_ ?_ ?_ ?_); (focus (first | assumption | omega | decide | (simp; done) | (simp; omega))); (focus (first | assumption | omega | decide | (simp; done) | (simp; omega))); (focus (first | assumption | omega | decide | (simp; done) | (simp; omega))); (focus (first | assumption | omega | decide | (simp; done) | (simp; omega))))
  | ((with_reducible refine u_placesS ?_ ?_ ?_ ?_ ?_ ?_ ?_); (focus (first | assumption | omega | decide | (simp; done) | (simp; omega))); (focus (first | assumption | omega | decide | (simp; done) | (simp; omega))); (focus (first | assumption | omega | decide | (simp; done) | (simp; omega))); (focus (first | assumption | omega | decide | (simp; done) | (simp; omega))); (focus (first | assumption | omega | decide | (simp; done) | (simp; omega))); (focus (first | assumption | omega | decide | (simp; done) | (simp; omega))))
  | ((with_reducible refine u_parting ?_ ?_ ?_ ?_ ?_); (focus (first | assumption | omega | decide | (simp; done) | (simp; omega))); (focus (first | assumption | omega | decide | (simp; done) | (simp; omega))); (focus (first | assumption | omega | decide | (simp; done) | (simp; omega))); (focus (first | assumption | omega | decide | (simp; done) | (simp; omega))))
  | ((with_reducible refine u_pat ?_))
  | ((with_reducible refine u_bare ?_))
  | ((with_reducible refine u_has ?_ ?_ ?_); (focus (first | assumption | omega | decide | (simp; done) | (simp; omega))); (focus (first | assumption | omega | decide | (simp; done) | (simp; omega))))
  | ((with_reducible refine u_allOf ?_ ?_ ?_ ?_); (focus (first | assumption | omega | decide | (simp; done) | (simp; omega))); (focus (first | assumption | omega | decide | (simp; done) | (simp; omega))); (focus (first | assumption | omega | decide | (simp; done) | (simp; omega))))
  | ((with_reducible apply u_leastOf); (focus (first | assumption | omega | decide | (simp; done) | (simp; omega))); (focus (first | assumption | omega | decide | (simp; done) | (simp; omega))); (focus (first | assumption | omega | decide | (simp; done) | (simp; omega))); (focus (first | assumption | omega | decide | (simp; done) | (simp; omega))); (focus (first | assumption | omega | decide | (simp; done) | (simp; omega))))
  | ((with_reducible refine u_depIn ?_ ?_); (focus (first | assumption | omega | decide | (simp; done) | (simp; omega))))
  | ((with_reducible refine u_depOf ?_ ?_ ?_); (focus (first | assumption | omega | decide | (simp; done) | (simp; omega))); (focus (first | assumption | omega | decide | (simp; done) | (simp; omega))))
  | ((with_reducible refine u_depOfH ?_ ?_ ?_); (focus (first | assumption | omega | decide | (simp; done) | (simp; omega))); (focus (first | assumption | omega | decide | (simp; done) | (simp; omega))))
  | ((with_reducible refine u_sameMany ?_ ?_ ?_ ?_ ?_); (focus (first | assumption | omega | decide | (simp; done) | (simp; omega))); (focus (first | assumption | omega | decide | (simp; done) | (simp; omega))); (focus (first | assumption | omega | decide | (simp; done) | (simp; omega))); (focus (first | assumption | omega | decide | (simp; done) | (simp; omega))))
  | ((with_reducible refine u_settledN ?_ ?_ ?_ ?_); (focus (first | assumption | omega | decide | (simp; done) | (simp; omega))); (focus (first | assumption | omega | decide | (simp; done) | (simp; omega))); (focus (first | assumption | omega | decide | (simp; done) | (simp; omega))))
  | ((with_reducible refine u_isBlk ?_))
  | ((with_reducible refine u_depB ?_ ?_ ?_ ?_); (focus (first | assumption | omega | decide | (simp; done) | (simp; omega))); (focus (first | assumption | omega | decide | (simp; done) | (simp; omega))); (focus (first | assumption | omega | decide | (simp; done) | (simp; omega))))
  | ((with_reducible refine u_ct ?_ ?_ ?_ ?_); (focus (first | assumption | omega | decide | (simp; done) | (simp; omega))); (focus (first | assumption | omega | decide | (simp; done) | (simp; omega))); (focus (first | assumption | omega | decide | (simp; done) | (simp; omega))))
  | ((with_reducible refine u_cb ?_ ?_ ?_ ?_); (focus (first | assumption | omega | decide | (simp; done) | (simp; omega))); (focus (first | assumption | omega | decide | (simp; done) | (simp; omega))); (focus (first | assumption | omega | decide | (simp; done) | (simp; omega))))
  | ((with_reducible refine u_caughtR ?_ ?_ ?_ ?_); (focus (first | assumption | omega | decide | (simp; done) | (simp; omega))); (focus (first | assumption | omega | decide | (simp; done) | (simp; omega))); (focus (first | assumption | omega | decide | (simp; done) | (simp; omega))))
  | with_reducible refine dun_neg ?_
  | with_reducible refine tgA2 ?_
  | with_reducible refine tgA3 ?_
  | with_reducible refine tgEx2 ?_
  | with_reducible refine tgEx3 ?_
  | with_reducible refine tgEx4 ?_
  | with_reducible refine tgT2 ?_
  | with_reducible refine tgT3 ?_
  | with_reducible refine tgL2 ?_
  | with_reducible refine tgT4 ?_
  | refine ⟨_, (Or.inl rfl : DL.D.lst _ = DL.D.lst _ ∨ _), ?_⟩
  | refine ⟨_, (Or.inr rfl : _ ∨ DL.D.tup _ = DL.D.tup _), ?_⟩
  | with_reducible refine xin_no ?_
  | with_reducible refine xr_no ?_
  | refine ⟨(rfl : DL.D.ref _ = DL.D.ref _), ?_⟩
  | refine ⟨(rfl : DL.D.ty _ = Option.some _), ?_⟩
  | refine ⟨Qn.ty _, ?_⟩
  | refine ⟨(by simp : List.length _ ≤ 100000), ?_⟩
  | refine ⟨(by simp : List.length _ = _), ?_⟩
  | with_reducible refine wo_none ?_
  | with_reducible refine wo_some ?_
  | refine ⟨_, rfl, ?_⟩))
local macro_rules | `(tactic| walk_at "side") => `(tactic| first | assumption | omega | decide | (simp; done) | (simp; omega))
abbrev s_law_right : Stmt := topS 27
theorem sc_law_right : FnScope ["pool", "line", "turn", "at", "wrong", "deep", "due", "sign"] ["pool"] (defScope s_law_right) := ⟨rfl, rfl, rfl, by decide +kernel, rfl, by decide +kernel, by decide +kernel⟩
theorem ok_law_right {f f_law_line f_law_draw f_law_caught : Addr} {fd fd_law_line fd_law_draw fd_law_caught : FuncData} (T : Txt K mg) (F : Fun K "_law_right" "_law_right" s_law_right f fd) (C_law_line : Callee P w K mg base CX0 "_law_line" ["pool", "names", "longest"] 2 (ResSp K poolRes lineS) f_law_line fd_law_line) (C_law_draw : Callee P w K mg base CX0 "_law_draw" ["pool", "span"] 1 (ResSp K poolRes drawS) f_law_draw fd_law_draw) (C_law_caught : Callee P w K mg base CX0 "_law_caught" ["line", "deep", "is_named"] 20 (PureSp K caughtRS) f_law_caught fd_law_caught) : FnG P w K mg base CX0 (21) f fd ["pool"] (ResSp K poolRes fitsS) := by
  refine ok_resG fitsS F sc_law_right (fun p ds n P X h => by revert h; walk_at "hl") fun cdv A outer s H E hg hr => ⟨_, (pss_cons (asF (ps_set (i := 1) sc_law_right.nd rfl (Or.inl rfl) (pe_call C_law_line.ok (hr.mono (by first | decide | omega)) (by rfl) C_law_line.mg C_law_line.kp C_law_line.bd .nil (C_law_line.ps _ rfl rfl) (pa_cons (pv 0) (pa_cons (pe_lst (pa_cons pe_str (pa_cons pe_str (pa_cons pe_str pa_nil)))) (pa_cons pe_int pa_nil)))))) (pss_cons (ps_for PassesOwn.never rfl (pi_range1 (by rfl) T.n_range (pa_cons (pe_ix (ix_K (K := K) rfl) (pe_lst (pa_cons pe_int (pa_cons pe_int (pa_cons pe_int (pa_cons pe_int pa_nil))))) (pe_call C_law_draw.ok (hr.mono (by first | decide | omega)) (by rfl) C_law_draw.mg C_law_draw.kp C_law_draw.bd .nil (C_law_draw.ps _ rfl rfl) (pa_cons (pv 0) (pa_cons pe_int pa_nil))) (fun _ _ => rfl)) pa_nil)) (pg_name (i := 2) sc_law_right.nd rfl (by first | exact Or.inl rfl | exact Or.inr rfl)) (pss_cons (asF (ps_set (i := 3) sc_law_right.nd rfl (Or.inl rfl) (pe_call C_law_draw.ok (hr.mono (by first | decide | omega)) (by rfl) C_law_draw.mg C_law_draw.kp C_law_draw.bd .nil (C_law_draw.ps _ rfl rfl) (pa_cons (pv 0) (pa_cons (pe_op (op_addK (K := K) rfl) (pe_callB (call_lenK (K := K) rfl) (by rfl) T.n_len PySem.boot_len (pa_cons (pv 1) pa_nil)) pe_int) pa_nil))))) (pss_one (asF (ps_set (i := 1) sc_law_right.nd rfl (Or.inl rfl) (pe_slice (sl_K (K := K) rfl) (pe_op (op_addK (K := K) rfl) (pe_op (op_addK (K := K) rfl) (pe_slice (sl_K (K := K) rfl) (pv 1) po_none (po_some (pv 3))) (pe_ix (ix_K (K := K) rfl) pe_str (pe_call C_law_draw.ok (hr.mono (by first | decide | omega)) (by rfl) C_law_draw.mg C_law_draw.kp C_law_draw.bd .nil (C_law_draw.ps _ rfl rfl) (pa_cons (pv 0) (pa_cons pe_int pa_nil))) (fun _ _ => rfl))) (pe_slice (sl_K (K := K) rfl) (pv 1) (po_some (pv 3)) po_none)) po_none (po_some pe_int))))))) (pss_cons (asF (ps_setLc (i := 4) (own := [("at", 3), ("sign", 7)]) rfl sc_law_right.nd rfl rfl (sw_true rfl rfl rfl (by decide +kernel)) (pi_enumK (K := K) rfl (by rfl) T.n_enumerate (pa_cons (pv 1) pa_nil)) (blkOk_by (own := [("at", 3), ("sign", 7)]) (N := ["pool", "line", "turn", "at", "wrong", "deep", "due", "sign"]) (sc := defScope s_law_right) (by decide +kernel)) (fun _ _ _ _ _ => (pg_tupK (K := K) (n := 2) rfl rfl (pgs_cons (pg_name (i := 3) sc_law_right.nd rfl (by first | exact Or.inl rfl | exact Or.inr rfl)) (pgs_cons (pg_name (i := 7) sc_law_right.nd rfl (by first | exact Or.inl rfl | exact Or.inr rfl)) pgs_nil)))) (fun _ _ _ _ _ => (pts_one (pt_not (pt_chain op_leQ op_leQ pe_str (pv 7) pe_str)))) (fun _ _ _ _ _ => (pv 3)))) (pss_cons (asF (ps_set (i := 5) sc_law_right.nd rfl (Or.inl rfl) (pe_ix (ix_K (K := K) rfl) (pe_lst (pa_cons pe_int (pa_cons pe_int (pa_cons pe_int (pa_cons pe_int (pa_cons (pe_un un_neg pe_int) (pa_cons (pe_op op_sub (pe_op op_sub pe_int pe_int) (pe_call C_law_draw.ok (hr.mono (by first | decide | omega)) (by rfl) C_law_draw.mg C_law_draw.kp C_law_draw.bd .nil (C_law_draw.ps _ rfl rfl) (pa_cons (pv 0) (pa_cons pe_int pa_nil)))) pa_nil))))))) (pe_call C_law_draw.ok (hr.mono (by first | decide | omega)) (by rfl) C_law_draw.mg C_law_draw.kp C_law_draw.bd .nil (C_law_draw.ps _ rfl rfl) (pa_cons (pv 0) (pa_cons pe_int pa_nil))) (fun _ _ => rfl)))) (pss_cons (asF (ps_set (i := 6) sc_law_right.nd rfl (Or.inl rfl) (pe_ifExp (pt_cmpR (op_neK (K := K) rfl hr.units) (pv 4) (pe_lst pa_nil) (nomark _)) (pe_lst (pa_cons pe_str (pa_cons (pe_ix (ix_K (K := K) rfl) (pv 4) pe_int (fun _ _ => rfl)) pa_nil))) (pe_ifExp (pt_cmpR op_ltQ (pv 5) pe_int (nomark _)) (pe_lst (pa_cons pe_str (pa_cons (pv 5) pa_nil))) (pe_lst pa_nil))))) (pss_one (ps_ret (pe_cmpR (op_eqK (K := K) rfl hr.units) (pe_callB (call_reprK (K := K) rfl hg hr.units) (by rfl) T.n_repr (by decide +kernel) (pa_cons (pe_lst (pa_cons (pe_call C_law_caught.ok (hr.mono (by first | decide | omega)) (by rfl) C_law_caught.mg C_law_caught.kp C_law_caught.bd .nil (C_law_caught.ps _ rfl rfl) (pa_cons (pv 1) (pa_cons (pv 5) (pa_cons pe_bl pa_nil)))) (pa_cons (pe_call C_law_caught.ok (hr.mono (by first | decide | omega)) (by rfl) C_law_caught.mg C_law_caught.kp C_law_caught.bd .nil (C_law_caught.ps _ rfl rfl) (pa_cons (pv 1) (pa_cons (pv 5) (pa_cons pe_bl pa_nil)))) pa_nil))) pa_nil)) (pe_callB (call_reprK (K := K) rfl hg hr.units) (by rfl) T.n_repr (by decide +kernel) (pa_cons (pe_lst (pa_cons (pv 6) (pa_cons (pv 6) pa_nil))) pa_nil)) (nomark _))))))))), fun p ds (n : Nat) (Q : Sl → Nat → Prop) XP h H0 okX => ?_⟩
  obtain ⟨rfl, hn, k⟩ := h
  /- 0:pool 1:line 2:turn 3:at 4:wrong 5:deep 6:due 7:sign -/
  change DL.WS _ _ [.dat _, .un, .un, .un, .un, .un, .un, .un] _ _
  have hN : DL.Names (.lst [.str "a", .str "m", .str "z"]) [97, 109, 122] := ⟨by simp, by decide, .inr rfl⟩
  walk_at "v"
  intro l n1 l1 l2 l3
  have hl6 : l.length ≤ 6 := l2
  walk_at "v"
  refine ws_forG [2, 3] (fun (l' : LRow) => [.dat (.ref p), .dat (.str (rowS l')), .un, .un, .un, .un, .un, .un]) l rfl (wi_rng ?_)
  walk_at "v"
  intro z hz
  obtain ⟨m, hat, hm⟩ : ∃ m : Nat, atI [DL.D.int 0, .int 0, .int 1, .int 2] ((z : Nat) : Int) = some (.int ((m : Nat) : Int)) ∧ m ≤ 2 := by
    rcases (by omega : z = 0 ∨ z = 1 ∨ z = 2 ∨ z = 3) with rfl | rfl | rfl | rfl
    · exact ⟨0, rfl, by decide⟩
    · exact ⟨0, rfl, by decide⟩
    · exact ⟨1, rfl, by decide⟩
    · exact ⟨2, rfl, by decide⟩
  refine fz_dat (di_lst hat (fz_dat ?_))
  walk_at "v"
  refine ⟨by omega, fun t l' (st : Nat) => l'.length ≤ 6 ∧ n1 ≤ st + 2 * t + 1, ⟨hl6, by omega⟩, rfl, fun t dd l' (st : Nat) hdd hI => ?_, fun Gn l' (st : Nat) hG hI => ?_⟩
  · obtain ⟨hl', hst⟩ := hI
    obtain ⟨j, hj, rfl⟩ := map_get hdd
    have hj2 := (List.getElem?_eq_some_iff.mp hj).1
    rw [List.length_range] at hj2
    refine ⟨[2], _, tg_name (by simp), ?_⟩
    clear hat hdd hj
    refine ws_seq (ws_asgF (we_callR (poolC _ _ _ _ _ _ _) (wa_cons (we_var rfl (fz_dat (wa_cons (we_op (we_cb (wa_cons (we_var rfl (fz_dat (wa_nil ?_)))))))))))) 
    refine dl_row (by omega) (fz_dat ?_)
    refine we_int (fz_dat (da_int (fz_dat (wa_nil ⟨[_], fun _ _ _ => False, rfl, .inl fun _ _ _ z => z, ?_⟩))))
    refine u_draw (by omega) (by omega) (by omega) fun at_ hat_ => fz_dat ?_
    refine ws_asgF (we_sl (we_op ?_))
    walk_at "e"
    intro d hd8
    obtain ⟨a, ha⟩ : ∃ a, atI ("A1 ~{`-Z" : Str).cps.toList ((d : Nat) : Int) = some a := by
      rcases (by omega : d = 0 ∨ d = 1 ∨ d = 2 ∨ d = 3 ∨ d = 4 ∨ d = 5 ∨ d = 6 ∨ d = 7) with rfl | rfl | rfl | rfl | rfl | rfl | rfl | rfl <;> exact ⟨_, rfl⟩
    refine fz_dat (di_str (by decide) ha (fz_dat ?_))
    refine da_row (l := l'.take at_) (m := [a]) (by rw [List.length_take]; simp; omega) (fz_dat ?_)
    refine we_sl (we_var rfl (fz_dat ?_))
    walk_at "e"
    refine da_row (l := l'.take at_ ++ [a]) (m := l'.drop at_) (by rw [List.length_append, List.length_take, List.length_drop]; simp; omega) (fz_dat ?_)
    walk_at "e"
    refine ds_take (i := 6) (l := l'.take at_ ++ [a] ++ l'.drop at_) (by rw [List.length_append, List.length_append, List.length_take, List.length_drop]; simp; omega) ?_
    walk_at "e"
    exact ⟨by rw [List.length_take]; omega, by omega⟩
  · obtain ⟨hl', hst⟩ := hI
    rw [List.length_map, List.length_range] at hst
    refine ws_un [2, 3] ?_
    rw [hG]
    walk_at "v"
    refine we_lcA (α := Nat × Nat) (fun x => if x.1 ∈ LET then none else some (DL.D.int ((x.2 : Nat) : Int))) rfl (wi_enS (wa_cons (we_var rfl (fz_dat (wa_nil ⟨_, rfl, l'.zipIdx, fun x => D.tup [.int ((x.2 : Nat) : Int), .str (rowS [x.1])], by rw [signs_map, enum_map], by rw [List.length_zipIdx]; omega, fun x hx => ⟨[3, 7], _, tg_tup rfl (.cons (by simp) (.cons (by simp) .nil)), by simp, rfl, ?_⟩, ?_⟩)))))
    · have sg := sign_in x.1
      refine wt_not (wt_test (we_chain (we_str (fz_dat (we_var rfl (fz_dat (dle_str (x := rowS [97]) (y := rowS [x.1]) ⟨_, rfl, ?_⟩)))))))
      generalize decide ((rowS [x.1]).cps.toList < (rowS [97]).cps.toList) = b1 at sg ⊢
      cases b1 with
      | true =>
        refine iteF (fz_dat ⟨false, rfl, ?_⟩)
        have hn : x.1 ∉ LET := of_decide_eq_false sg.symm
        exact iteT (we_var rfl (fz_dat ⟨if_neg hn, rfl⟩))
      | false =>
        refine iteT (we_str (fz_dat (dle_str (x := rowS [x.1]) (y := rowS [122]) (fz_dat ⟨_, rfl, ?_⟩))))
        generalize decide ((rowS [122]).cps.toList < (rowS [x.1]).cps.toList) = b2 at sg ⊢
        cases b2 with
        | true =>
          have hn : x.1 ∉ LET := of_decide_eq_false sg.symm
          exact iteT (we_var rfl (fz_dat ⟨if_neg hn, rfl⟩))
        | false =>
          have hn : x.1 ∈ LET := of_decide_eq_true sg.symm
          exact iteF ⟨if_pos hn, rfl⟩
    · rw [badL_D]
      refine fz_own ?_
      have hbl : (badL l').length ≤ 6 := by
        unfold badL
        exact Nat.le_trans (List.length_filterMap_le _ _) (by rw [List.length_zipIdx]; exact hl')
      walk_at "e"
      walk_at "v"
      intro y hy
      walk_at "v"
      intro v hv
      obtain ⟨d, hat2, hd3, hd0⟩ : ∃ d : Int, atI [DL.D.int 0, .int 1, .int 2, .int 3, .int (-1), .int (0 - 1 - ((y : Nat) : Int))] ((v : Nat) : Int) = some (.int d) ∧ d ≤ 3 ∧ -1000 ≤ d := by
        rcases (by omega : v = 0 ∨ v = 1 ∨ v = 2 ∨ v = 3 ∨ v = 4 ∨ v = 5) with rfl | rfl | rfl | rfl | rfl | rfl
        · exact ⟨0, rfl, by omega, by omega⟩
        · exact ⟨1, rfl, by omega, by omega⟩
        · exact ⟨2, rfl, by omega, by omega⟩
        · exact ⟨3, rfl, by omega, by omega⟩
        · exact ⟨-1, rfl, by omega, by omega⟩
        · exact ⟨0 - 1 - ((y : Nat) : Int), rfl, by omega, by omega⟩
      refine fz_dat (di_lst hat2 (fz_dat ?_))
      have h48 : 0 ≤ d → l'.length * 2 ^ d.toNat ≤ 48 := fun h0 => Nat.le_trans (Nat.mul_le_mul hl' (Nat.pow_le_pow_right (n := 2) (j := 3) (by decide) (by omega))) (by decide)
      refine ws_seq (ws_asgF (we_if (wt_test ?_)))
      walk_at "e"
      rcases first_bad l' LET with ⟨i, hi⟩ | hAll
      · have hne : badL l' ≠ [] := fun z => hi.not (badL_nil.mp z)
        have hi1 := (List.getElem?_eq_some_iff.mp hi.1.choose_spec.1).1
        refine ite_BF hne ?_
        walk_at "e"
        have hix : atI ((badL l').map fun (i : Nat) => DL.D.int ((i : Nat) : Int)) ((0 : Nat) : Int) = some (.int ((i : Nat) : Int)) := atI_nat (n := 0) rfl (by rw [List.getElem?_map, badL_first hi]; rfl)
        refine di_lst hix (fz_dat ?_)
        have fD := fine_two (fine_tag (a := 114) (z := ((i : Nat) : Int)) (by decide) (by omega))
        walk_at "v"
        refine ⟨fun i' hi' => ?_, fun h _ => absurd h.1 hi.not, fun h _ => absurd h.1 hi.not⟩
        rw [hi.one hi']
        walk_at "v"
        refine ⟨fun i' hi' => ?_, fun h _ => absurd h.1 hi.not, fun h _ => absurd h.1 hi.not⟩
        rw [hi.one hi']
        walk_at "v"
        refine db_reprF fD (by decide) (by decide) ?_
        walk_at "v"
        refine db_reprF fD (by decide) (by decide) ?_
        walk_at "v"
        rw [decide_eq_true rfl]
        exact k _ (by omega)
      · have hL : Letters l' := ⟨hAll, by omega⟩
        refine ite_BT (badL_nil.mpr hAll) ?_
        walk_at "e"
        by_cases hd : d < 0
        · refine ite_dT hd ?_
          have fD := fine_two (fine_tag (a := 110) (z := d) (by decide) (by omega))
          walk_at "v"
          refine ⟨fun i' hi' => absurd hAll hi'.not, fun _ _ => ?_, fun _ h0 => absurd hd (by omega)⟩
          walk_at "v"
          refine ⟨fun i' hi' => absurd hAll hi'.not, fun _ _ => ?_, fun _ h0 => absurd hd (by omega)⟩
          walk_at "v"
          refine db_reprF fD (by decide) (by decide) ?_
          walk_at "v"
          refine db_reprF fD (by decide) (by decide) ?_
          walk_at "v"
          rw [decide_eq_true rfl]
          exact k _ (by omega)
        · refine ite_dF hd ?_
          have fD := fine_two fine_nil
          walk_at "v"
          refine ⟨fun i' hi' => absurd hAll hi'.not, fun _ h0 => absurd h0 hd, fun _ _ => ?_⟩
          walk_at "v"
          refine ⟨fun i' hi' => absurd hAll hi'.not, fun _ h0 => absurd h0 hd, fun _ _ => ?_⟩
          walk_at "v"
          refine db_reprF fD (by decide) (by decide) ?_
          walk_at "v"
          refine db_reprF fD (by decide) (by decide) ?_
          walk_at "v"
          rw [decide_eq_true rfl]
          exact k _ (by omega)
abbrev s_law : Stmt := topS 28
theorem sc_law : FnScope ["script", "spot", "pool", "turn"] ["script"] (defScope s_law) := ⟨rfl, rfl, rfl, by decide +kernel, rfl, by decide +kernel, by decide +kernel⟩
theorem ok_law {f f_law_pool f_law_right : Addr} {fd fd_law_pool fd_law_right : FuncData} (T : Txt K mg) (F : Fun K "law" "law" s_law f fd) (C_law_pool : Callee P w K mg base CX0 "_law_pool" ["script", "spot"] 1 (spPool K) f_law_pool fd_law_pool) (C_law_right : CalleeG P w K mg base CX0 "_law_right" ["pool"] 21 (ResSp K poolRes fitsS) f_law_right fd_law_right) : FnG P w K mg base CX0 22 f fd ["script"] (spLaw K) := by
  refine okG F sc_law (fun vs H Q E h => ?_) (fun cdv A outer s H vs Q E hg hr h => ?_)
  · obtain ⟨a, ns, rfl, _⟩ := h
    rfl
  · refine ⟨_, (show PSs (cxOf CX0 P w K mg base _ "law" (defScope s_law) f cdv A outer s H E).nox (defBody s_law) _ from (pss_cons (ps_for PassesOwn.never rfl (pi_range1 (by rfl) T.n_range (pa_cons (pe_callB (call_max2 rfl) (by rfl) T.n_max (by decide +kernel) (pa_cons pe_int (pa_cons (pe_callB (call_min2 rfl) (by rfl) T.n_min (by decide +kernel) (pa_cons pe_int (pa_cons (pe_callB (call_lenK (K := K) rfl) (by rfl) T.n_len PySem.boot_len (pa_cons (pv 0) pa_nil)) pa_nil))) pa_nil))) pa_nil)) (pg_name (i := 1) sc_law.nd rfl (by first | exact Or.inl rfl | exact Or.inr rfl)) (pss_cons (ps_set (i := 2) sc_law.nd rfl (Or.inl rfl) (pe_call C_law_pool.ok (hr.mono (by first | decide | omega)) (by rfl) C_law_pool.mg C_law_pool.kp C_law_pool.bd .nil (C_law_pool.ps _ rfl rfl) (pa_cons (pv 0) (pa_cons (pv 1) pa_nil)))) (pss_one (ps_for PassesOwn.never rfl (pi_range1 (by rfl) T.n_range (pa_cons pe_int pa_nil)) (pg_name (i := 3) sc_law.nd rfl (by first | exact Or.inl rfl | exact Or.inr rfl)) (pss_one (ps_if (pt_not (pt_val (pe_callG C_law_right.ok hg (hr.mono (by first | decide | omega)) (by rfl) C_law_right.mg C_law_right.kp C_law_right.bd (C_law_right.ps _ rfl rfl) (pa_cons (pv 2) pa_nil)))) (pss_one (ps_ret pe_bl)) pss_nil)))))) (pss_one (ps_ret pe_bl)))).nox, ?_⟩
    obtain ⟨a, ns, rfl, hS, hl, k⟩ := h
    refine law_run (K := K) (E := E) (fun okX => ?_) k
    change DL.WS _ _ [.dat (.ref a), .un, .un, .un] _ _
    refine ws_seq (ws_forN [1, 2, 3] rfl (wi_range1 ?_))
    refine wa_cons (we_cb (wa_cons (we_int (fz_dat (wa_cons (we_cb (wa_cons (we_int (fz_dat (wa_cons (we_lenScript rfl hS (fz_dat (wa_nil ?_)))))))))))))
    refine db_min (fz_dat (wa_nil (db_max (fz_dat (wa_nil ⟨_, rfl, ?_, ?_, fun _ _ => True, trivial, fun i d si hd _ => ?_, fun Gn sn hG _ => ?_⟩)))))
    · omega
    · omega
    · obtain ⟨hi, rfl⟩ := rangeD_get hd
      rw [Int.zero_add]
      refine ⟨[1], _, tg_name (by simp), ?_⟩
      refine ws_seq (ws_asg (we_pool (t := i) rfl rfl (by omega) hS fun x y x0 y0 y1 => ?_))
      refine ws_openPool (n := 1000000000) (i := 2) rfl x0 y0 y1 (by decide) (by decide) fun p hn => ?_
      refine ws_forN [3] rfl (wi_range1 ?_)
      refine wa_cons (we_int (fz_dat (wa_nil ⟨_, rfl, by decide, by decide, fun t (s : Unit × Nat) => 1000000000 ≤ s.2 + 1000000 * t, by show 1000000000 ≤ 1000000000 + 1000000 * 0; omega, fun t d (st : Unit × Nat) hd hI => ?_, fun Gn (sn : Unit × Nat) hG hI => ?_⟩)))
      · obtain ⟨ht, rfl⟩ := rangeD_get hd
        have ht2 : t < 6 := Nat.lt_of_lt_of_le ht (by decide)
        refine ⟨[3], _, tg_name (by simp), ?_⟩
        refine ws_if (wt_not (wt_B (we_callR onP ?_)))
        refine wa_cons (we_var rfl (fz_dat (wa_nil ⟨[], fun _ _ _ => False, rfl, .inl fun _ _ _ z => z, rfl, ?_, fun m0 hm0 => fz_dat ⟨true, rfl, ?_⟩⟩)))
        · show 1000000 ≤ st.2
          omega
        refine iteF ?_
        refine ws_next ⟨rfl, ?_⟩
        show 1000000000 ≤ m0 + 1000000 * (t + 1)
        omega
      · have hq : 1000000000 ≤ sn.2 + 1000000 * (rangeD 0 (Int.toNat 6)).length := hI
        rw [rangeD_len, show Int.toNat 6 = 6 from rfl] at hq
        refine ⟨?_, trivial⟩
        show unAll Gn [1, 2, 3] = _
        have e : unAll Gn [1, 2, 3] = unAll (unAll Gn [3]) [1, 2] := by unfold unAll; first | rfl | (simp [unAll, List.set_comm]; done)
        rw [e, hG]
        rfl
    · exact ws_ret (we_bl rfl)
end
theorem all_mk {l : PySem.W.OpenLaw} {w : World} {K : PySem.W.Frag} {h : Heap} {mg : Str → Option Value} {fa : Addr} (X : K.In h) (G : h.Ns mainGlobals mg) (hfa : mg "law" = some (.ref fa))
    {C_Joints : Addr}
    {f_law_pool : Addr} {od_law_pool an_law_pool : Option Addr} {sl_law_pool : Array (Option Value)} {oc_law_pool kV_law_pool dc_law_pool pm_law_pool cd_law_pool ct_law_pool : Value}
    {f_law_draw : Addr} {od_law_draw an_law_draw : Option Addr} {sl_law_draw : Array (Option Value)} {oc_law_draw kV_law_draw dc_law_draw pm_law_draw cd_law_draw ct_law_draw : Value}
    {f_law_line : Addr} {od_law_line an_law_line : Option Addr} {sl_law_line : Array (Option Value)} {oc_law_line kV_law_line dc_law_line pm_law_line cd_law_line ct_law_line : Value}
    {f_check_letters : Addr} {od_check_letters an_check_letters : Option Addr} {sl_check_letters : Array (Option Value)} {oc_check_letters kV_check_letters dc_check_letters pm_check_letters cd_check_letters ct_check_letters : Value}
    {f_check_row : Addr} {od_check_row an_check_row : Option Addr} {sl_check_row : Array (Option Value)} {oc_check_row kV_check_row dc_check_row pm_check_row cd_check_row ct_check_row : Value}
    {f_check_depth : Addr} {od_check_depth an_check_depth : Option Addr} {sl_check_depth : Array (Option Value)} {oc_check_depth kV_check_depth dc_check_depth pm_check_depth cd_check_depth ct_check_depth : Value}
    {f_Joints___init__ : Addr} {od_Joints___init__ an_Joints___init__ : Option Addr} {sl_Joints___init__ : Array (Option Value)} {oc_Joints___init__ kV_Joints___init__ dc_Joints___init__ pm_Joints___init__ cd_Joints___init__ ct_Joints___init__ : Value}
    {f_Joints_number_of_all : Addr} {od_Joints_number_of_all an_Joints_number_of_all : Option Addr} {sl_Joints_number_of_all : Array (Option Value)} {oc_Joints_number_of_all kV_Joints_number_of_all dc_Joints_number_of_all pm_Joints_number_of_all cd_Joints_number_of_all ct_Joints_number_of_all : Value}
    {f_Joints_empty : Addr} {od_Joints_empty an_Joints_empty : Option Addr} {sl_Joints_empty : Array (Option Value)} {oc_Joints_empty kV_Joints_empty dc_Joints_empty pm_Joints_empty cd_Joints_empty ct_Joints_empty : Value}
    {f_Joints_lower : Addr} {od_Joints_lower an_Joints_lower : Option Addr} {sl_Joints_lower : Array (Option Value)} {oc_Joints_lower kV_Joints_lower dc_Joints_lower pm_Joints_lower cd_Joints_lower ct_Joints_lower : Value}
    {f_Joints_together : Addr} {od_Joints_together an_Joints_together : Option Addr} {sl_Joints_together : Array (Option Value)} {oc_Joints_together kV_Joints_together dc_Joints_together pm_Joints_together cd_Joints_together ct_Joints_together : Value}
    {f_Joints_kind_of_row : Addr} {od_Joints_kind_of_row an_Joints_kind_of_row : Option Addr} {sl_Joints_kind_of_row : Array (Option Value)} {oc_Joints_kind_of_row kV_Joints_kind_of_row dc_Joints_kind_of_row pm_Joints_kind_of_row cd_Joints_kind_of_row ct_Joints_kind_of_row : Value}
    {f_settled : Addr} {od_settled an_settled : Option Addr} {sl_settled : Array (Option Value)} {oc_settled kV_settled dc_settled pm_settled cd_settled ct_settled : Value}
    {f_law_caught : Addr} {od_law_caught an_law_caught : Option Addr} {sl_law_caught : Array (Option Value)} {oc_law_caught kV_law_caught dc_law_caught pm_law_caught cd_law_caught ct_law_caught : Value}
    {f_law_right : Addr} {od_law_right an_law_right : Option Addr} {sl_law_right : Array (Option Value)} {oc_law_right kV_law_right dc_law_right pm_law_right cd_law_right ct_law_right : Value}
    {f_law : Addr} {od_law an_law : Option Addr} {sl_law : Array (Option Value)} {oc_law kV_law dc_law pm_law cd_law ct_law : Value}
    {tk_LETTERS : Tok}
    {C_PickError f_PickError___init__ cda_E cc_E : Addr} {od_E an_E cdd_E cld_E : Option Addr} {osl_E ccs_E csl_E : Array (Option Value)} {oc_E kV_E dc_E pm_E ct_E ccl_E cl_E : Value} {vs_E : Array Value} {file_E : Str} {tf_E : Tok} {cdD_E : ClassData}
    {C_InvalidRow N_InvalidRow : Addr} {nm_InvalidRow q_InvalidRow : Str} {bs_InvalidRow : List Value} {sn_InvalidRow : List Str} {sub_InvalidRow : List Value} {ab_InvalidRow : Bool} {col_InvalidRow : Option Bool} {dd_InvalidRow : Option Addr} {m0_InvalidRow m1_InvalidRow m2_InvalidRow m3_InvalidRow m5_InvalidRow : Option Value}
    {C_InvalidNumber N_InvalidNumber : Addr} {nm_InvalidNumber q_InvalidNumber : Str} {bs_InvalidNumber : List Value} {sn_InvalidNumber : List Str} {sub_InvalidNumber : List Value} {ab_InvalidNumber : Bool} {col_InvalidNumber : Option Bool} {dd_InvalidNumber : Option Addr} {m0_InvalidNumber m1_InvalidNumber m2_InvalidNumber m3_InvalidNumber m5_InvalidNumber : Option Value}
    {C_GameOver : Addr}
    {C_InvalidAnswer : Addr}
    {C_InvalidBlocks : Addr}
    {C_InvalidPlace : Addr}
    {C_InvalidQuestion : Addr}
    {C_InvalidScope : Addr}
    {C_NothingToUndo : Addr}
    {C_NotLet : Addr}
    {C_Unreadable : Addr}
    (aC_Joints : PySem.W.nsIn K mainGlobals "Joints" = some (some (.ref C_Joints)))
    (pg_Joints : PySem.W.plainGet K C_Joints Str.empty = true)
    (hd_Joints : PySem.W.hasDictIn K C_Joints = true)
    (po_Joints : PySem.W.plainOver K C_Joints = true)
    (sa_Joints : PySem.W.findIn K (.ref C_Joints) "__setattr__" = some (some (.builtin "object.__setattr__")))
    (mk_Joints : PySem.W.makesIn K C_Joints = true)
    (kq_Joints : PySem.W.keepIn K (.ref C_Joints) = true)
    (n_Joints_triples : PySem.W.findIn K (.ref C_Joints) "triples" = some none)
    (n_Joints_spots : PySem.W.findIn K (.ref C_Joints) "spots" = some none)
    (n_Joints_lowered : PySem.W.findIn K (.ref C_Joints) "lowered" = some none)
    (n_Joints_joined : PySem.W.findIn K (.ref C_Joints) "joined" = some none)
    (a_law_pool : PySem.W.nsIn K mainGlobals "_law_pool" = some (some (.ref f_law_pool)))
    (l_law_pool : K.lookup f_law_pool = some ⟨oc_law_pool, od_law_pool, .func (PySem.W.fnOf "_law_pool" "_law_pool" (defArgs s_law_pool) (defBody s_law_pool) (defScope s_law_pool) .none kV_law_pool dc_law_pool pm_law_pool an_law_pool cd_law_pool ct_law_pool), sl_law_pool⟩) (c_law_pool : PySem.W.codeIn K cd_law_pool "_law_pool" = true) (k_law_pool : PySem.W.keepIn K (.ref f_law_pool) = true)
    (a_law_draw : PySem.W.nsIn K mainGlobals "_law_draw" = some (some (.ref f_law_draw)))
    (l_law_draw : K.lookup f_law_draw = some ⟨oc_law_draw, od_law_draw, .func (PySem.W.fnOf "_law_draw" "_law_draw" (defArgs s_law_draw) (defBody s_law_draw) (defScope s_law_draw) .none kV_law_draw dc_law_draw pm_law_draw an_law_draw cd_law_draw ct_law_draw), sl_law_draw⟩) (c_law_draw : PySem.W.codeIn K cd_law_draw "_law_draw" = true) (k_law_draw : PySem.W.keepIn K (.ref f_law_draw) = true)
    (a_law_line : PySem.W.nsIn K mainGlobals "_law_line" = some (some (.ref f_law_line)))
    (l_law_line : K.lookup f_law_line = some ⟨oc_law_line, od_law_line, .func (PySem.W.fnOf "_law_line" "_law_line" (defArgs s_law_line) (defBody s_law_line) (defScope s_law_line) .none kV_law_line dc_law_line pm_law_line an_law_line cd_law_line ct_law_line), sl_law_line⟩) (c_law_line : PySem.W.codeIn K cd_law_line "_law_line" = true) (k_law_line : PySem.W.keepIn K (.ref f_law_line) = true)
    (a_check_letters : PySem.W.nsIn K mainGlobals "check_letters" = some (some (.ref f_check_letters)))
    (l_check_letters : K.lookup f_check_letters = some ⟨oc_check_letters, od_check_letters, .func (PySem.W.fnOf "check_letters" "check_letters" (defArgs s_check_letters) (defBody s_check_letters) (defScope s_check_letters) .none kV_check_letters dc_check_letters pm_check_letters an_check_letters cd_check_letters ct_check_letters), sl_check_letters⟩) (c_check_letters : PySem.W.codeIn K cd_check_letters "check_letters" = true) (k_check_letters : PySem.W.keepIn K (.ref f_check_letters) = true)
    (a_check_row : PySem.W.nsIn K mainGlobals "check_row" = some (some (.ref f_check_row)))
    (l_check_row : K.lookup f_check_row = some ⟨oc_check_row, od_check_row, .func (PySem.W.fnOf "check_row" "check_row" (defArgs s_check_row) (defBody s_check_row) (defScope s_check_row) .none kV_check_row dc_check_row pm_check_row an_check_row cd_check_row ct_check_row), sl_check_row⟩) (c_check_row : PySem.W.codeIn K cd_check_row "check_row" = true) (k_check_row : PySem.W.keepIn K (.ref f_check_row) = true)
    (a_check_depth : PySem.W.nsIn K mainGlobals "check_depth" = some (some (.ref f_check_depth)))
    (l_check_depth : K.lookup f_check_depth = some ⟨oc_check_depth, od_check_depth, .func (PySem.W.fnOf "check_depth" "check_depth" (defArgs s_check_depth) (defBody s_check_depth) (defScope s_check_depth) .none kV_check_depth dc_check_depth pm_check_depth an_check_depth cd_check_depth ct_check_depth), sl_check_depth⟩) (c_check_depth : PySem.W.codeIn K cd_check_depth "check_depth" = true) (k_check_depth : PySem.W.keepIn K (.ref f_check_depth) = true)
    (a_Joints___init__ : PySem.W.findIn K (.ref C_Joints) "__init__" = some (some (.ref f_Joints___init__))) (i_Joints___init__ : PySem.W.isFn K (.ref f_Joints___init__) = true)
    (l_Joints___init__ : K.lookup f_Joints___init__ = some ⟨oc_Joints___init__, od_Joints___init__, .func (PySem.W.fnOf "__init__" "Joints.__init__" (defArgs s_Joints___init__) (defBody s_Joints___init__) (defScope s_Joints___init__) .none kV_Joints___init__ dc_Joints___init__ pm_Joints___init__ an_Joints___init__ cd_Joints___init__ ct_Joints___init__), sl_Joints___init__⟩) (c_Joints___init__ : PySem.W.codeIn K cd_Joints___init__ "Joints.__init__" = true) (k_Joints___init__ : PySem.W.keepIn K (.ref f_Joints___init__) = true)
    (a_Joints_number_of_all : PySem.W.findIn K (.ref C_Joints) "number_of_all" = some (some (.ref f_Joints_number_of_all))) (i_Joints_number_of_all : PySem.W.isFn K (.ref f_Joints_number_of_all) = true)
    (l_Joints_number_of_all : K.lookup f_Joints_number_of_all = some ⟨oc_Joints_number_of_all, od_Joints_number_of_all, .func (PySem.W.fnOf "number_of_all" "Joints.number_of_all" (defArgs s_Joints_number_of_all) (defBody s_Joints_number_of_all) (defScope s_Joints_number_of_all) .none kV_Joints_number_of_all dc_Joints_number_of_all pm_Joints_number_of_all an_Joints_number_of_all cd_Joints_number_of_all ct_Joints_number_of_all), sl_Joints_number_of_all⟩) (c_Joints_number_of_all : PySem.W.codeIn K cd_Joints_number_of_all "Joints.number_of_all" = true) (k_Joints_number_of_all : PySem.W.keepIn K (.ref f_Joints_number_of_all) = true)
    (a_Joints_empty : PySem.W.findIn K (.ref C_Joints) "empty" = some (some (.ref f_Joints_empty))) (i_Joints_empty : PySem.W.isFn K (.ref f_Joints_empty) = true)
    (l_Joints_empty : K.lookup f_Joints_empty = some ⟨oc_Joints_empty, od_Joints_empty, .func (PySem.W.fnOf "empty" "Joints.empty" (defArgs s_Joints_empty) (defBody s_Joints_empty) (defScope s_Joints_empty) .none kV_Joints_empty dc_Joints_empty pm_Joints_empty an_Joints_empty cd_Joints_empty ct_Joints_empty), sl_Joints_empty⟩) (c_Joints_empty : PySem.W.codeIn K cd_Joints_empty "Joints.empty" = true) (k_Joints_empty : PySem.W.keepIn K (.ref f_Joints_empty) = true)
    (a_Joints_lower : PySem.W.findIn K (.ref C_Joints) "lower" = some (some (.ref f_Joints_lower))) (i_Joints_lower : PySem.W.isFn K (.ref f_Joints_lower) = true)
    (l_Joints_lower : K.lookup f_Joints_lower = some ⟨oc_Joints_lower, od_Joints_lower, .func (PySem.W.fnOf "lower" "Joints.lower" (defArgs s_Joints_lower) (defBody s_Joints_lower) (defScope s_Joints_lower) .none kV_Joints_lower dc_Joints_lower pm_Joints_lower an_Joints_lower cd_Joints_lower ct_Joints_lower), sl_Joints_lower⟩) (c_Joints_lower : PySem.W.codeIn K cd_Joints_lower "Joints.lower" = true) (k_Joints_lower : PySem.W.keepIn K (.ref f_Joints_lower) = true)
    (a_Joints_together : PySem.W.findIn K (.ref C_Joints) "together" = some (some (.ref f_Joints_together))) (i_Joints_together : PySem.W.isFn K (.ref f_Joints_together) = true)
    (l_Joints_together : K.lookup f_Joints_together = some ⟨oc_Joints_together, od_Joints_together, .func (PySem.W.fnOf "together" "Joints.together" (defArgs s_Joints_together) (defBody s_Joints_together) (defScope s_Joints_together) .none kV_Joints_together dc_Joints_together pm_Joints_together an_Joints_together cd_Joints_together ct_Joints_together), sl_Joints_together⟩) (c_Joints_together : PySem.W.codeIn K cd_Joints_together "Joints.together" = true) (k_Joints_together : PySem.W.keepIn K (.ref f_Joints_together) = true)
    (a_Joints_kind_of_row : PySem.W.findIn K (.ref C_Joints) "kind_of_row" = some (some (.ref f_Joints_kind_of_row))) (i_Joints_kind_of_row : PySem.W.isFn K (.ref f_Joints_kind_of_row) = true)
    (l_Joints_kind_of_row : K.lookup f_Joints_kind_of_row = some ⟨oc_Joints_kind_of_row, od_Joints_kind_of_row, .func (PySem.W.fnOf "kind_of_row" "Joints.kind_of_row" (defArgs s_Joints_kind_of_row) (defBody s_Joints_kind_of_row) (defScope s_Joints_kind_of_row) .none kV_Joints_kind_of_row dc_Joints_kind_of_row pm_Joints_kind_of_row an_Joints_kind_of_row cd_Joints_kind_of_row ct_Joints_kind_of_row), sl_Joints_kind_of_row⟩) (c_Joints_kind_of_row : PySem.W.codeIn K cd_Joints_kind_of_row "Joints.kind_of_row" = true) (k_Joints_kind_of_row : PySem.W.keepIn K (.ref f_Joints_kind_of_row) = true)
    (a_settled : PySem.W.nsIn K mainGlobals "settled" = some (some (.ref f_settled)))
    (l_settled : K.lookup f_settled = some ⟨oc_settled, od_settled, .func (PySem.W.fnOf "settled" "settled" (defArgs s_settled) (defBody s_settled) (defScope s_settled) .none kV_settled dc_settled pm_settled an_settled cd_settled ct_settled), sl_settled⟩) (c_settled : PySem.W.codeIn K cd_settled "settled" = true) (k_settled : PySem.W.keepIn K (.ref f_settled) = true)
    (a_law_caught : PySem.W.nsIn K mainGlobals "_law_caught" = some (some (.ref f_law_caught)))
    (l_law_caught : K.lookup f_law_caught = some ⟨oc_law_caught, od_law_caught, .func (PySem.W.fnOf "_law_caught" "_law_caught" (defArgs s_law_caught) (defBody s_law_caught) (defScope s_law_caught) .none kV_law_caught dc_law_caught pm_law_caught an_law_caught cd_law_caught ct_law_caught), sl_law_caught⟩) (c_law_caught : PySem.W.codeIn K cd_law_caught "_law_caught" = true) (k_law_caught : PySem.W.keepIn K (.ref f_law_caught) = true)
    (a_law_right : PySem.W.nsIn K mainGlobals "_law_right" = some (some (.ref f_law_right)))
    (l_law_right : K.lookup f_law_right = some ⟨oc_law_right, od_law_right, .func (PySem.W.fnOf "_law_right" "_law_right" (defArgs s_law_right) (defBody s_law_right) (defScope s_law_right) .none kV_law_right dc_law_right pm_law_right an_law_right cd_law_right ct_law_right), sl_law_right⟩) (c_law_right : PySem.W.codeIn K cd_law_right "_law_right" = true) (k_law_right : PySem.W.keepIn K (.ref f_law_right) = true)
    (a_law : PySem.W.nsIn K mainGlobals "law" = some (some (.ref f_law)))
    (l_law : K.lookup f_law = some ⟨oc_law, od_law, .func (PySem.W.fnOf "law" "law" (defArgs s_law) (defBody s_law) (defScope s_law) .none kV_law dc_law pm_law an_law cd_law ct_law), sl_law⟩) (c_law : PySem.W.codeIn K cd_law "law" = true) (k_law : PySem.W.keepIn K (.ref f_law) = true)
    (z_ValueError : PySem.W.nsIn K mainGlobals "ValueError" = some none)
    (z_abs : PySem.W.nsIn K mainGlobals "abs" = some none)
    (z_enumerate : PySem.W.nsIn K mainGlobals "enumerate" = some none)
    (z_int : PySem.W.nsIn K mainGlobals "int" = some none)
    (z_isinstance : PySem.W.nsIn K mainGlobals "isinstance" = some none)
    (z_len : PySem.W.nsIn K mainGlobals "len" = some none)
    (z_max : PySem.W.nsIn K mainGlobals "max" = some none)
    (z_min : PySem.W.nsIn K mainGlobals "min" = some none)
    (z_range : PySem.W.nsIn K mainGlobals "range" = some none)
    (z_repr : PySem.W.nsIn K mainGlobals "repr" = some none)
    (z_sorted : PySem.W.nsIn K mainGlobals "sorted" = some none)
    (z_super : PySem.W.nsIn K mainGlobals "super" = some none)
    (z_tuple : PySem.W.nsIn K mainGlobals "tuple" = some none)
    (g_LETTERS : PySem.W.nsIn K mainGlobals "LETTERS" = some (some (.str "abcdefghijklmnopqrstuvwxyz" tk_LETTERS)))
    (aC_PickError : PySem.W.nsIn K mainGlobals "PickError" = some (some (.ref C_PickError)))
    (aC_InvalidRow : PySem.W.nsIn K mainGlobals "InvalidRow" = some (some (.ref C_InvalidRow)))
    (l_InvalidRow : K.lookup C_InvalidRow = some (excClassObj nm_InvalidRow q_InvalidRow C_InvalidRow N_InvalidRow bs_InvalidRow [.ref C_PickError, .type "ValueError", .type "Exception", .type "BaseException", .type "object"] true sn_InvalidRow sub_InvalidRow ab_InvalidRow col_InvalidRow dd_InvalidRow m0_InvalidRow m1_InvalidRow m2_InvalidRow m3_InvalidRow m5_InvalidRow "ValueError.__new__"))
    (sa_InvalidRow : PySem.W.findIn K (.ref C_InvalidRow) "__setattr__" = some (some (.builtin "object.__setattr__")))
    (ga_InvalidRow : PySem.W.findIn K (.ref C_InvalidRow) "__getattribute__" = some (some (.builtin "BaseException.__getattribute__")))
    (gg_InvalidRow : PySem.W.findIn K (.ref C_InvalidRow) "__getattr__" = some none)
    (nv_InvalidRow : PySem.W.findIn K (.ref C_InvalidRow) "value" = some none)
    (iC_InvalidRow : PySem.W.findIn K (.ref C_InvalidRow) "__init__" = some (some (.ref f_PickError___init__)))
    (kC_InvalidRow : PySem.W.keepIn K (.ref C_InvalidRow) = true)
    (eC_InvalidRow : PySem.W.subIn K (.ref C_InvalidRow) (.type "BaseException") = some true)
    (tC_InvalidRow : PySem.W.typeIn K (.ref C_InvalidRow) = some (.type "type"))
    (hc_InvalidRow : PySem.W.findIn K (.ref C_InvalidRow) "__class__" = some (some (.builtin "object.__class__")))
    (sv_InvalidRow : PySem.W.subIn K (.ref C_InvalidRow) (.type "ValueError") = some true)
    (hd_InvalidRow : PySem.W.hasDictIn K C_InvalidRow = true)
    (hm_InvalidRow : PySem.W.mroIn K C_InvalidRow (.type "object") = some true)
    (mr_InvalidRow : PySem.W.mroIn K C_InvalidRow (.ref C_PickError) = some true)
    (lo_ne_InvalidRow : (C_InvalidRow == C_PickError) = false)
    (su_InvalidRow : PySem.W.subIn K (.ref C_InvalidRow) (.ref C_PickError) = some true)
    (ic_InvalidRow : PySem.W.isClsIn K C_InvalidRow = true)
    (aC_InvalidNumber : PySem.W.nsIn K mainGlobals "InvalidNumber" = some (some (.ref C_InvalidNumber)))
    (l_InvalidNumber : K.lookup C_InvalidNumber = some (excClassObj nm_InvalidNumber q_InvalidNumber C_InvalidNumber N_InvalidNumber bs_InvalidNumber [.ref C_PickError, .type "ValueError", .type "Exception", .type "BaseException", .type "object"] true sn_InvalidNumber sub_InvalidNumber ab_InvalidNumber col_InvalidNumber dd_InvalidNumber m0_InvalidNumber m1_InvalidNumber m2_InvalidNumber m3_InvalidNumber m5_InvalidNumber "ValueError.__new__"))
    (sa_InvalidNumber : PySem.W.findIn K (.ref C_InvalidNumber) "__setattr__" = some (some (.builtin "object.__setattr__")))
    (ga_InvalidNumber : PySem.W.findIn K (.ref C_InvalidNumber) "__getattribute__" = some (some (.builtin "BaseException.__getattribute__")))
    (gg_InvalidNumber : PySem.W.findIn K (.ref C_InvalidNumber) "__getattr__" = some none)
    (nv_InvalidNumber : PySem.W.findIn K (.ref C_InvalidNumber) "value" = some none)
    (iC_InvalidNumber : PySem.W.findIn K (.ref C_InvalidNumber) "__init__" = some (some (.ref f_PickError___init__)))
    (kC_InvalidNumber : PySem.W.keepIn K (.ref C_InvalidNumber) = true)
    (eC_InvalidNumber : PySem.W.subIn K (.ref C_InvalidNumber) (.type "BaseException") = some true)
    (tC_InvalidNumber : PySem.W.typeIn K (.ref C_InvalidNumber) = some (.type "type"))
    (hc_InvalidNumber : PySem.W.findIn K (.ref C_InvalidNumber) "__class__" = some (some (.builtin "object.__class__")))
    (sv_InvalidNumber : PySem.W.subIn K (.ref C_InvalidNumber) (.type "ValueError") = some true)
    (hd_InvalidNumber : PySem.W.hasDictIn K C_InvalidNumber = true)
    (hm_InvalidNumber : PySem.W.mroIn K C_InvalidNumber (.type "object") = some true)
    (mr_InvalidNumber : PySem.W.mroIn K C_InvalidNumber (.ref C_PickError) = some true)
    (lo_ne_InvalidNumber : (C_InvalidNumber == C_PickError) = false)
    (su_InvalidNumber : PySem.W.subIn K (.ref C_InvalidNumber) (.ref C_PickError) = some true)
    (ic_InvalidNumber : PySem.W.isClsIn K C_InvalidNumber = true)
    (aC_GameOver : PySem.W.nsIn K mainGlobals "GameOver" = some (some (.ref C_GameOver)))
    (ic_GameOver : PySem.W.isClsIn K C_GameOver = true)
    (tC_GameOver : PySem.W.typeIn K (.ref C_GameOver) = some (.type "type"))
    (aC_InvalidAnswer : PySem.W.nsIn K mainGlobals "InvalidAnswer" = some (some (.ref C_InvalidAnswer)))
    (ic_InvalidAnswer : PySem.W.isClsIn K C_InvalidAnswer = true)
    (tC_InvalidAnswer : PySem.W.typeIn K (.ref C_InvalidAnswer) = some (.type "type"))
    (aC_InvalidBlocks : PySem.W.nsIn K mainGlobals "InvalidBlocks" = some (some (.ref C_InvalidBlocks)))
    (ic_InvalidBlocks : PySem.W.isClsIn K C_InvalidBlocks = true)
    (tC_InvalidBlocks : PySem.W.typeIn K (.ref C_InvalidBlocks) = some (.type "type"))
    (aC_InvalidPlace : PySem.W.nsIn K mainGlobals "InvalidPlace" = some (some (.ref C_InvalidPlace)))
    (ic_InvalidPlace : PySem.W.isClsIn K C_InvalidPlace = true)
    (tC_InvalidPlace : PySem.W.typeIn K (.ref C_InvalidPlace) = some (.type "type"))
    (aC_InvalidQuestion : PySem.W.nsIn K mainGlobals "InvalidQuestion" = some (some (.ref C_InvalidQuestion)))
    (ic_InvalidQuestion : PySem.W.isClsIn K C_InvalidQuestion = true)
    (tC_InvalidQuestion : PySem.W.typeIn K (.ref C_InvalidQuestion) = some (.type "type"))
    (aC_InvalidScope : PySem.W.nsIn K mainGlobals "InvalidScope" = some (some (.ref C_InvalidScope)))
    (ic_InvalidScope : PySem.W.isClsIn K C_InvalidScope = true)
    (tC_InvalidScope : PySem.W.typeIn K (.ref C_InvalidScope) = some (.type "type"))
    (aC_NothingToUndo : PySem.W.nsIn K mainGlobals "NothingToUndo" = some (some (.ref C_NothingToUndo)))
    (ic_NothingToUndo : PySem.W.isClsIn K C_NothingToUndo = true)
    (tC_NothingToUndo : PySem.W.typeIn K (.ref C_NothingToUndo) = some (.type "type"))
    (aC_NotLet : PySem.W.nsIn K mainGlobals "NotLet" = some (some (.ref C_NotLet)))
    (ic_NotLet : PySem.W.isClsIn K C_NotLet = true)
    (tC_NotLet : PySem.W.typeIn K (.ref C_NotLet) = some (.type "type"))
    (aC_Unreadable : PySem.W.nsIn K mainGlobals "Unreadable" = some (some (.ref C_Unreadable)))
    (ic_Unreadable : PySem.W.isClsIn K C_Unreadable = true)
    (tC_Unreadable : PySem.W.typeIn K (.ref C_Unreadable) = some (.type "type"))
    (lo_ne_InvalidRow_InvalidNumber : (C_InvalidRow == C_InvalidNumber) = false)
    (su_InvalidRow_InvalidNumber : PySem.W.subIn K (.ref C_InvalidRow) (.ref C_InvalidNumber) = some false)
    (lo_ne_InvalidRow_GameOver : (C_InvalidRow == C_GameOver) = false)
    (su_InvalidRow_GameOver : PySem.W.subIn K (.ref C_InvalidRow) (.ref C_GameOver) = some false)
    (lo_ne_InvalidRow_InvalidAnswer : (C_InvalidRow == C_InvalidAnswer) = false)
    (su_InvalidRow_InvalidAnswer : PySem.W.subIn K (.ref C_InvalidRow) (.ref C_InvalidAnswer) = some false)
    (lo_ne_InvalidRow_InvalidBlocks : (C_InvalidRow == C_InvalidBlocks) = false)
    (su_InvalidRow_InvalidBlocks : PySem.W.subIn K (.ref C_InvalidRow) (.ref C_InvalidBlocks) = some false)
    (lo_ne_InvalidRow_InvalidPlace : (C_InvalidRow == C_InvalidPlace) = false)
    (su_InvalidRow_InvalidPlace : PySem.W.subIn K (.ref C_InvalidRow) (.ref C_InvalidPlace) = some false)
    (lo_ne_InvalidRow_InvalidQuestion : (C_InvalidRow == C_InvalidQuestion) = false)
    (su_InvalidRow_InvalidQuestion : PySem.W.subIn K (.ref C_InvalidRow) (.ref C_InvalidQuestion) = some false)
    (lo_ne_InvalidRow_InvalidScope : (C_InvalidRow == C_InvalidScope) = false)
    (su_InvalidRow_InvalidScope : PySem.W.subIn K (.ref C_InvalidRow) (.ref C_InvalidScope) = some false)
    (lo_ne_InvalidRow_NothingToUndo : (C_InvalidRow == C_NothingToUndo) = false)
    (su_InvalidRow_NothingToUndo : PySem.W.subIn K (.ref C_InvalidRow) (.ref C_NothingToUndo) = some false)
    (lo_ne_InvalidRow_NotLet : (C_InvalidRow == C_NotLet) = false)
    (su_InvalidRow_NotLet : PySem.W.subIn K (.ref C_InvalidRow) (.ref C_NotLet) = some false)
    (lo_ne_InvalidRow_Unreadable : (C_InvalidRow == C_Unreadable) = false)
    (su_InvalidRow_Unreadable : PySem.W.subIn K (.ref C_InvalidRow) (.ref C_Unreadable) = some false)
    (lo_ne_InvalidNumber_InvalidRow : (C_InvalidNumber == C_InvalidRow) = false)
    (su_InvalidNumber_InvalidRow : PySem.W.subIn K (.ref C_InvalidNumber) (.ref C_InvalidRow) = some false)
    (lo_ne_InvalidNumber_GameOver : (C_InvalidNumber == C_GameOver) = false)
    (su_InvalidNumber_GameOver : PySem.W.subIn K (.ref C_InvalidNumber) (.ref C_GameOver) = some false)
    (lo_ne_InvalidNumber_InvalidAnswer : (C_InvalidNumber == C_InvalidAnswer) = false)
    (su_InvalidNumber_InvalidAnswer : PySem.W.subIn K (.ref C_InvalidNumber) (.ref C_InvalidAnswer) = some false)
    (lo_ne_InvalidNumber_InvalidBlocks : (C_InvalidNumber == C_InvalidBlocks) = false)
    (su_InvalidNumber_InvalidBlocks : PySem.W.subIn K (.ref C_InvalidNumber) (.ref C_InvalidBlocks) = some false)
    (lo_ne_InvalidNumber_InvalidPlace : (C_InvalidNumber == C_InvalidPlace) = false)
    (su_InvalidNumber_InvalidPlace : PySem.W.subIn K (.ref C_InvalidNumber) (.ref C_InvalidPlace) = some false)
    (lo_ne_InvalidNumber_InvalidQuestion : (C_InvalidNumber == C_InvalidQuestion) = false)
    (su_InvalidNumber_InvalidQuestion : PySem.W.subIn K (.ref C_InvalidNumber) (.ref C_InvalidQuestion) = some false)
    (lo_ne_InvalidNumber_InvalidScope : (C_InvalidNumber == C_InvalidScope) = false)
    (su_InvalidNumber_InvalidScope : PySem.W.subIn K (.ref C_InvalidNumber) (.ref C_InvalidScope) = some false)
    (lo_ne_InvalidNumber_NothingToUndo : (C_InvalidNumber == C_NothingToUndo) = false)
    (su_InvalidNumber_NothingToUndo : PySem.W.subIn K (.ref C_InvalidNumber) (.ref C_NothingToUndo) = some false)
    (lo_ne_InvalidNumber_NotLet : (C_InvalidNumber == C_NotLet) = false)
    (su_InvalidNumber_NotLet : PySem.W.subIn K (.ref C_InvalidNumber) (.ref C_NotLet) = some false)
    (lo_ne_InvalidNumber_Unreadable : (C_InvalidNumber == C_Unreadable) = false)
    (su_InvalidNumber_Unreadable : PySem.W.subIn K (.ref C_InvalidNumber) (.ref C_Unreadable) = some false)
    (eC_PickError : PySem.W.subIn K (.ref C_PickError) (.type "BaseException") = some true)
    (ic_PickError : PySem.W.isClsIn K C_PickError = true)
    (tC_PickError : PySem.W.typeIn K (.ref C_PickError) = some (.type "type"))
    (hn_E : PySem.W.specialIn K (.builtin "object.__class__") "__get__" = some (some (.builtin "getset_descriptor.__get__")))
    (ht_E : PySem.W.takesIn K (.builtin "object.__class__") = some true)
    (ty_E : PySem.W.typeIn K (.ref f_PickError___init__) = some (.type "function"))
    (l_PickError___init__ : K.lookup f_PickError___init__ = some ⟨oc_E, od_E, .func (PySem.W.ksFn "__init__" "PickError.__init__" (defArgs s_PickError___init__) (defBody s_PickError___init__) (defScope s_PickError___init__) .none kV_E dc_E pm_E an_E (.ref cda_E) ct_E cc_E), osl_E⟩)
    (c_E : PySem.W.codeIn K (.ref cda_E) "PickError.__init__" = true)
    (l_cda_E : K.lookup cda_E = some ⟨ccl_E, cdd_E, .fields vs_E, ccs_E⟩)
    (lv_E : vs_E[2]? = some (.str file_E tf_E))
    (lo_E : (l.prog.main.file == file_E) = true)
    (l_cc_E : K.lookup cc_E = some ⟨cl_E, cld_E, .cell (some (.ref C_PickError)), csl_E⟩)
    (cl_E2 : PySem.W.clsIn K C_PickError = some cdD_E)
    (op_E : PySem.W.nsIn K cStatics "thirdparty.any" = some none)
    (lt_E : (l.prog.main.scope.names.lookup ("super" : Str)).isSome = false)
    : ∃ fd : FuncData, (∀ (s : Shared) (v : Value), BindsTo s fd ⟨[v], []⟩ [("script", v)]) ∧ ∀ base : Heap, K.In base → base.Ns mainGlobals mg → FnG l.prog w K mg base CX0 22 fa fd ["script"] (spLaw K) := by
  have e := hfa.symm.trans (PySem.W.mg_of X G a_law)
  cases e
  have T : Txt K mg := ⟨PySem.W.mg_none_of X G z_ValueError, PySem.W.mg_none_of X G z_abs, PySem.W.mg_none_of X G z_enumerate, PySem.W.mg_none_of X G z_int, PySem.W.mg_none_of X G z_isinstance, PySem.W.mg_none_of X G z_len, PySem.W.mg_none_of X G z_max, PySem.W.mg_none_of X G z_min, PySem.W.mg_none_of X G z_range, PySem.W.mg_none_of X G z_repr, PySem.W.mg_none_of X G z_sorted, PySem.W.mg_none_of X G z_super, PySem.W.mg_none_of X G z_tuple, ⟨_, PySem.W.mg_of X G g_LETTERS⟩⟩
  have kc_Joints : JCls K C_Joints := ⟨⟨pg_Joints, hd_Joints, po_Joints, sa_Joints⟩, n_Joints_triples, n_Joints_spots, n_Joints_lowered, n_Joints_joined⟩
  have F_law_pool := fun_mk (st := s_law_pool) l_law_pool c_law_pool k_law_pool
  have b_law_pool := F_law_pool.binds (ps := ["script", "spot"]) fun _ _ _ _ _ _ us hl => match us, hl with | [_, _], _ => rfl
  have F_law_draw := fun_mk (st := s_law_draw) l_law_draw c_law_draw k_law_draw
  have b_law_draw := F_law_draw.binds (ps := ["pool", "span"]) fun _ _ _ _ _ _ us hl => match us, hl with | [_, _], _ => rfl
  have F_law_line := fun_mk (st := s_law_line) l_law_line c_law_line k_law_line
  have b_law_line := F_law_line.binds (ps := ["pool", "names", "longest"]) fun _ _ _ _ _ _ us hl => match us, hl with | [_, _, _], _ => rfl
  have F_check_letters := fun_mk (st := s_check_letters) l_check_letters c_check_letters k_check_letters
  have b_check_letters := F_check_letters.binds (ps := ["row", "letters"]) fun _ _ _ _ _ _ us hl => match us, hl with | [_, _], _ => rfl
  have F_check_row := fun_mk (st := s_check_row) l_check_row c_check_row k_check_row
  have b_check_row := F_check_row.binds (ps := ["row"]) fun _ _ _ _ _ _ us hl => match us, hl with | [_], _ => rfl
  have F_check_depth := fun_mk (st := s_check_depth) l_check_depth c_check_depth k_check_depth
  have b_check_depth := F_check_depth.binds (ps := ["depth"]) fun _ _ _ _ _ _ us hl => match us, hl with | [_], _ => rfl
  have F_Joints___init__ := fun_mk (st := s_Joints___init__) l_Joints___init__ c_Joints___init__ k_Joints___init__
  have b_Joints___init__ := F_Joints___init__.binds (ps := ["self"]) fun _ _ _ _ _ _ us hl => match us, hl with | [_], _ => rfl
  have F_Joints_number_of_all := fun_mk (st := s_Joints_number_of_all) l_Joints_number_of_all c_Joints_number_of_all k_Joints_number_of_all
  have b_Joints_number_of_all := F_Joints_number_of_all.binds (ps := ["self", "triples", "depth"]) fun _ _ _ _ _ _ us hl => match us, hl with | [_, _, _], _ => rfl
  have F_Joints_empty := fun_mk (st := s_Joints_empty) l_Joints_empty c_Joints_empty k_Joints_empty
  have b_Joints_empty := F_Joints_empty.binds (ps := ["self", "depth"]) fun _ _ _ _ _ _ us hl => match us, hl with | [_, _], _ => rfl
  have F_Joints_lower := fun_mk (st := s_Joints_lower) l_Joints_lower c_Joints_lower k_Joints_lower
  have b_Joints_lower := F_Joints_lower.binds (ps := ["self", "number", "depth"]) fun _ _ _ _ _ _ us hl => match us, hl with | [_, _, _], _ => rfl
  have F_Joints_together := fun_mk (st := s_Joints_together) l_Joints_together c_Joints_together k_Joints_together
  have b_Joints_together := F_Joints_together.binds (ps := ["self", "one", "other", "depth"]) fun _ _ _ _ _ _ us hl => match us, hl with | [_, _, _, _], _ => rfl
  have F_Joints_kind_of_row := fun_mk (st := s_Joints_kind_of_row) l_Joints_kind_of_row c_Joints_kind_of_row k_Joints_kind_of_row
  have b_Joints_kind_of_row := F_Joints_kind_of_row.binds (ps := ["self", "row", "depth"]) fun _ _ _ _ _ _ us hl => match us, hl with | [_, _, _], _ => rfl
  have F_settled := fun_mk (st := s_settled) l_settled c_settled k_settled
  have b_settled := F_settled.binds (ps := ["row", "depth"]) fun _ _ _ _ _ _ us hl => match us, hl with | [_, _], _ => rfl
  have F_law_caught := fun_mk (st := s_law_caught) l_law_caught c_law_caught k_law_caught
  have b_law_caught := F_law_caught.binds (ps := ["line", "deep", "is_named"]) fun _ _ _ _ _ _ us hl => match us, hl with | [_, _, _], _ => rfl
  have F_law_right := fun_mk (st := s_law_right) l_law_right c_law_right k_law_right
  have b_law_right := F_law_right.binds (ps := ["pool"]) fun _ _ _ _ _ _ us hl => match us, hl with | [_], _ => rfl
  have F_law := fun_mk (st := s_law) l_law c_law k_law
  have b_law := F_law.binds (ps := ["script"]) fun _ _ _ _ _ _ us hl => match us, hl with | [_], _ => rfl
  have kb_settled_10 := KB.of F_settled (ps := ["row", "depth"]) (ks := ["depth", "row"]) (perm := [1, 0]) fun _ _ _ _ _ _ ws hl => match ws, hl with | [_, _], _ => rfl
  have S_err := sup_mk (P := l.prog) suptxt lt_E l_PickError___init__ c_E l_cda_E lv_E lo_E l_cc_E cl_E2
  have V_err : ∀ base, ErrEnv l.prog w K mg base C_PickError f_PickError___init__ _ := fun base => ⟨ok_super S_err (PySem.W.mg_none_of X G z_super) op_E, fun s us _ hl => match us, hl with | [_, _], _ => .of_eq rfl, ty_E⟩
  have m_PickError := PySem.W.mg_of X G aC_PickError
  have E_InvalidRow : ErrName K mg C_PickError f_PickError___init__ "InvalidRow" C_InvalidRow := ⟨⟨⟨⟨_, _, _, _, _, _, _, _, _, _, _, _, _, _, _, l_InvalidRow, by rfl⟩, sa_InvalidRow, eC_InvalidRow, tC_InvalidRow, kC_InvalidRow⟩, ⟨ga_InvalidRow, gg_InvalidRow, eC_InvalidRow, hd_InvalidRow, hc_InvalidRow, hn_E, ht_E, hm_InvalidRow⟩, ⟨ga_InvalidRow, gg_InvalidRow, eC_InvalidRow, hd_InvalidRow⟩, nv_InvalidRow, mr_InvalidRow, super_mk l_InvalidRow lo_ne_InvalidRow, sv_InvalidRow, iC_InvalidRow⟩, PySem.W.mg_of X G aC_InvalidRow⟩
  have xm_InvalidRow := exm_mk eC_PickError ic_PickError tC_PickError su_InvalidRow
  have ki_InvalidRow_InvalidRow : PySem.W.kitOne K (.ref C_InvalidRow) (.ref C_InvalidRow) = some true := kit_self
  have ki_InvalidRow_InvalidNumber := kit_other lo_ne_InvalidRow_InvalidNumber ic_InvalidNumber tC_InvalidNumber su_InvalidRow_InvalidNumber
  have ki_InvalidRow_GameOver := kit_other lo_ne_InvalidRow_GameOver ic_GameOver tC_GameOver su_InvalidRow_GameOver
  have ki_InvalidRow_InvalidAnswer := kit_other lo_ne_InvalidRow_InvalidAnswer ic_InvalidAnswer tC_InvalidAnswer su_InvalidRow_InvalidAnswer
  have ki_InvalidRow_InvalidBlocks := kit_other lo_ne_InvalidRow_InvalidBlocks ic_InvalidBlocks tC_InvalidBlocks su_InvalidRow_InvalidBlocks
  have ki_InvalidRow_InvalidPlace := kit_other lo_ne_InvalidRow_InvalidPlace ic_InvalidPlace tC_InvalidPlace su_InvalidRow_InvalidPlace
  have ki_InvalidRow_InvalidQuestion := kit_other lo_ne_InvalidRow_InvalidQuestion ic_InvalidQuestion tC_InvalidQuestion su_InvalidRow_InvalidQuestion
  have ki_InvalidRow_InvalidScope := kit_other lo_ne_InvalidRow_InvalidScope ic_InvalidScope tC_InvalidScope su_InvalidRow_InvalidScope
  have ki_InvalidRow_NothingToUndo := kit_other lo_ne_InvalidRow_NothingToUndo ic_NothingToUndo tC_NothingToUndo su_InvalidRow_NothingToUndo
  have ki_InvalidRow_NotLet := kit_other lo_ne_InvalidRow_NotLet ic_NotLet tC_NotLet su_InvalidRow_NotLet
  have ki_InvalidRow_Unreadable := kit_other lo_ne_InvalidRow_Unreadable ic_Unreadable tC_Unreadable su_InvalidRow_Unreadable
  have m_InvalidRow := PySem.W.mg_of X G aC_InvalidRow
  have kv_InvalidRow : PySem.W.kitOne K (.ref C_InvalidRow) (.type "ValueError") = some true := kit_ve sv_InvalidRow
  have m_GameOver := PySem.W.mg_of X G aC_GameOver
  have m_InvalidAnswer := PySem.W.mg_of X G aC_InvalidAnswer
  have m_InvalidBlocks := PySem.W.mg_of X G aC_InvalidBlocks
  have m_InvalidPlace := PySem.W.mg_of X G aC_InvalidPlace
  have m_InvalidQuestion := PySem.W.mg_of X G aC_InvalidQuestion
  have m_InvalidScope := PySem.W.mg_of X G aC_InvalidScope
  have m_NothingToUndo := PySem.W.mg_of X G aC_NothingToUndo
  have m_NotLet := PySem.W.mg_of X G aC_NotLet
  have m_Unreadable := PySem.W.mg_of X G aC_Unreadable
  have E_InvalidNumber : ErrName K mg C_PickError f_PickError___init__ "InvalidNumber" C_InvalidNumber := ⟨⟨⟨⟨_, _, _, _, _, _, _, _, _, _, _, _, _, _, _, l_InvalidNumber, by rfl⟩, sa_InvalidNumber, eC_InvalidNumber, tC_InvalidNumber, kC_InvalidNumber⟩, ⟨ga_InvalidNumber, gg_InvalidNumber, eC_InvalidNumber, hd_InvalidNumber, hc_InvalidNumber, hn_E, ht_E, hm_InvalidNumber⟩, ⟨ga_InvalidNumber, gg_InvalidNumber, eC_InvalidNumber, hd_InvalidNumber⟩, nv_InvalidNumber, mr_InvalidNumber, super_mk l_InvalidNumber lo_ne_InvalidNumber, sv_InvalidNumber, iC_InvalidNumber⟩, PySem.W.mg_of X G aC_InvalidNumber⟩
  have xm_InvalidNumber := exm_mk eC_PickError ic_PickError tC_PickError su_InvalidNumber
  have ki_InvalidNumber_InvalidNumber : PySem.W.kitOne K (.ref C_InvalidNumber) (.ref C_InvalidNumber) = some true := kit_self
  have ki_InvalidNumber_InvalidRow := kit_other lo_ne_InvalidNumber_InvalidRow ic_InvalidRow tC_InvalidRow su_InvalidNumber_InvalidRow
  have ki_InvalidNumber_GameOver := kit_other lo_ne_InvalidNumber_GameOver ic_GameOver tC_GameOver su_InvalidNumber_GameOver
  have ki_InvalidNumber_InvalidAnswer := kit_other lo_ne_InvalidNumber_InvalidAnswer ic_InvalidAnswer tC_InvalidAnswer su_InvalidNumber_InvalidAnswer
  have ki_InvalidNumber_InvalidBlocks := kit_other lo_ne_InvalidNumber_InvalidBlocks ic_InvalidBlocks tC_InvalidBlocks su_InvalidNumber_InvalidBlocks
  have ki_InvalidNumber_InvalidPlace := kit_other lo_ne_InvalidNumber_InvalidPlace ic_InvalidPlace tC_InvalidPlace su_InvalidNumber_InvalidPlace
  have ki_InvalidNumber_InvalidQuestion := kit_other lo_ne_InvalidNumber_InvalidQuestion ic_InvalidQuestion tC_InvalidQuestion su_InvalidNumber_InvalidQuestion
  have ki_InvalidNumber_InvalidScope := kit_other lo_ne_InvalidNumber_InvalidScope ic_InvalidScope tC_InvalidScope su_InvalidNumber_InvalidScope
  have ki_InvalidNumber_NothingToUndo := kit_other lo_ne_InvalidNumber_NothingToUndo ic_NothingToUndo tC_NothingToUndo su_InvalidNumber_NothingToUndo
  have ki_InvalidNumber_NotLet := kit_other lo_ne_InvalidNumber_NotLet ic_NotLet tC_NotLet su_InvalidNumber_NotLet
  have ki_InvalidNumber_Unreadable := kit_other lo_ne_InvalidNumber_Unreadable ic_Unreadable tC_Unreadable su_InvalidNumber_Unreadable
  have m_InvalidNumber := PySem.W.mg_of X G aC_InvalidNumber
  have kv_InvalidNumber : PySem.W.kitOne K (.ref C_InvalidNumber) (.type "ValueError") = some true := kit_ve sv_InvalidNumber
  refine ⟨PySem.W.fnOf "law" "law" (defArgs s_law) (defBody s_law) (defScope s_law) .none kV_law dc_law pm_law an_law cd_law ct_law, fun s v => .of_eq rfl, fun base _ _ => ?_⟩
  have C_law_pool : Callee l.prog w K mg base CX0 "_law_pool" ["script", "spot"] 1 (spPool K) _ _ := (mkC (ok_law_pool T F_law_pool) (PySem.W.mg_of X G a_law_pool) k_law_pool b_law_pool).lv (by decide)
  have C_law_draw : Callee l.prog w K mg base CX0 "_law_draw" ["pool", "span"] 1 (ResSp K poolRes drawS) _ _ := (mkC (ok_law_draw T F_law_draw) (PySem.W.mg_of X G a_law_draw) k_law_draw b_law_draw).lv (by decide)
  have C_law_line : Callee l.prog w K mg base CX0 "_law_line" ["pool", "names", "longest"] 2 (ResSp K poolRes lineS) _ _ := (mkC (ok_law_line T F_law_line C_law_draw) (PySem.W.mg_of X G a_law_line) k_law_line b_law_line).lv (by decide)
  have C_check_letters : Callee l.prog w K mg base CX0 "check_letters" ["row", "letters"] 1 (PureSp K check_lettersS) _ _ := (mkC (ok_check_letters T F_check_letters) (PySem.W.mg_of X G a_check_letters) k_check_letters b_check_letters).lv (by decide)
  have C_check_row : Callee l.prog w K mg base CX0 "check_row" ["row"] 2 (PureSp K check_rowS) _ _ := (mkC (ok_check_row T F_check_row C_check_letters) (PySem.W.mg_of X G a_check_row) k_check_row b_check_row).lv (by decide)
  have C_check_depth : Callee l.prog w K mg base CX0 "check_depth" ["depth"] 1 (PureSp K check_depthS) _ _ := (mkC (ok_check_depth T F_check_depth) (PySem.W.mg_of X G a_check_depth) k_check_depth b_check_depth).lv (by decide)
  have N_Joints : NCallee l.prog w K mg base CX0 "Joints" C_Joints ["self"] 1 (spJ l.prog w K C_Joints) _ _ := (mkN ⟨mk_Joints, a_Joints___init__, i_Joints___init__, kq_Joints⟩ (ok_Joints_init T kc_Joints F_Joints___init__) (PySem.W.mg_of X G aC_Joints) b_Joints___init__)
  have M_Joints_number_of_all : MCallee l.prog w K mg base CX0 C_Joints "number_of_all" ["self", "triples", "depth"] 1 (JSp l.prog w K C_Joints naS) _ _ := (mkM (ok_Joints_number_of_all T kc_Joints F_Joints_number_of_all) a_Joints_number_of_all i_Joints_number_of_all k_Joints_number_of_all b_Joints_number_of_all).lv (by decide)
  have M_Joints_empty : MCallee l.prog w K mg base CX0 C_Joints "empty" ["self", "depth"] 2 (JSp l.prog w K C_Joints emptyS) _ _ := (mkM (ok_Joints_empty T kc_Joints F_Joints_empty M_Joints_number_of_all) a_Joints_empty i_Joints_empty k_Joints_empty b_Joints_empty).lv (by decide)
  have M_Joints_lower : MCallee l.prog w K mg base CX0 C_Joints "lower" ["self", "number", "depth"] 9 (JSp l.prog w K C_Joints (lowerS 7)) _ _ := (all_Joints_lower (P := l.prog) (w := w) (base := base) T kc_Joints F_Joints_lower M_Joints_number_of_all a_Joints_lower i_Joints_lower k_Joints_lower b_Joints_lower 7).lv (by decide)
  have M_Joints_together : MCallee l.prog w K mg base CX0 C_Joints "together" ["self", "one", "other", "depth"] 17 (JSp l.prog w K C_Joints (togS 7)) _ _ := (all_Joints_together (P := l.prog) (w := w) (base := base) T kc_Joints F_Joints_together M_Joints_lower M_Joints_number_of_all a_Joints_together i_Joints_together k_Joints_together b_Joints_together 7).lv (by decide)
  have M_Joints_kind_of_row : MCallee l.prog w K mg base CX0 C_Joints "kind_of_row" ["self", "row", "depth"] 18 (JSp l.prog w K C_Joints (korS 7)) _ _ := (mkM (ok_Joints_kind_of_row T kc_Joints F_Joints_kind_of_row M_Joints_empty M_Joints_together M_Joints_number_of_all) a_Joints_kind_of_row i_Joints_kind_of_row k_Joints_kind_of_row b_Joints_kind_of_row).lv (by decide)
  have C_settled : Callee l.prog w K mg base CX0 "settled" ["row", "depth"] 19 (PureSp K settledS) _ _ := (mkC (ok_settled T kc_Joints F_settled C_check_row C_check_depth N_Joints M_Joints_kind_of_row M_Joints_empty M_Joints_together) (PySem.W.mg_of X G a_settled) k_settled b_settled).lv (by decide)
  have C_law_caught : Callee l.prog w K mg base CX0 "_law_caught" ["line", "deep", "is_named"] 20 (PureSp K caughtRS) _ _ := (mkC (ok_law_caught T F_law_caught C_settled (fnok_or (ok_settledX T kc_Joints F_settled N_Joints M_Joints_kind_of_row M_Joints_empty M_Joints_together C_check_row C_check_depth (fnok_or (ok_check_rowX T F_check_row C_check_letters (fnok_or (ok_check_lettersX T F_check_letters (V_err base) E_InvalidRow) C_check_letters.ok (by decide) (by decide)) (V_err base) E_InvalidRow) C_check_row.ok (by decide) (by decide)) (fnok_or (ok_check_depthX T F_check_depth (V_err base) E_InvalidNumber) C_check_depth.ok (by decide) (by decide)) (V_err base) E_InvalidRow E_InvalidNumber) C_settled.ok (by decide) (by decide)) m_PickError E_InvalidRow xm_InvalidRow E_InvalidNumber xm_InvalidNumber m_InvalidRow m_InvalidNumber m_GameOver m_InvalidAnswer m_InvalidBlocks m_InvalidPlace m_InvalidQuestion m_InvalidScope m_NothingToUndo m_NotLet m_Unreadable ki_InvalidRow_InvalidRow ki_InvalidRow_InvalidNumber ki_InvalidRow_GameOver ki_InvalidRow_InvalidAnswer ki_InvalidRow_InvalidBlocks ki_InvalidRow_InvalidPlace ki_InvalidRow_InvalidQuestion ki_InvalidRow_InvalidScope ki_InvalidRow_NothingToUndo ki_InvalidRow_NotLet ki_InvalidRow_Unreadable ki_InvalidNumber_InvalidRow ki_InvalidNumber_InvalidNumber ki_InvalidNumber_GameOver ki_InvalidNumber_InvalidAnswer ki_InvalidNumber_InvalidBlocks ki_InvalidNumber_InvalidPlace ki_InvalidNumber_InvalidQuestion ki_InvalidNumber_InvalidScope ki_InvalidNumber_NothingToUndo ki_InvalidNumber_NotLet ki_InvalidNumber_Unreadable kv_InvalidRow kv_InvalidNumber kb_settled_10) (PySem.W.mg_of X G a_law_caught) k_law_caught b_law_caught).lv (by decide)
  have C_law_right : CalleeG l.prog w K mg base CX0 "_law_right" ["pool"] 21 (ResSp K poolRes fitsS) _ _ := (mkG (ok_law_right T F_law_right C_law_line C_law_draw C_law_caught) (PySem.W.mg_of X G a_law_right) k_law_right b_law_right).lvG (by decide)
  exact ok_law T F_law C_law_pool C_law_right
theorem walk {l : PySem.W.OpenLaw} {q : Program} {loose : List Str} {XP : (Str → Option Value) → Heap → Prop} {YP : World → Heap → Prop} {d : DefRec} {K : Params → PySem.W.Frag} (hn : l.most = some 63) (hdf : d.params.defaults = [])
    (hY : ∀ (w : World) (h : Heap), YP w h → (K w.params).In h)
    (F : ∀ (w : World) (mg : Str → Option Value) (fa : Addr) (h : Heap), (K w.params).In h → h.Ns mainGlobals mg → mg d.name = some (.ref fa) →
      ∃ fd : FuncData, (∀ (s : Shared) (u : Value), BindsTo s fd ⟨[u], []⟩ [("script", u)]) ∧ ∀ base : Heap, (K w.params).In base → base.Ns mainGlobals mg → FnG l.prog w (K w.params) mg base CX0 22 fa fd ["script"] (spLaw (K w.params))) :
    PySem.W.WalkO q loose XP YP l.row.toRowW d [] (fun f vs => PySem.call f vs) :=
  walkG (n := 63) (k := 22) (sp := fun K => spLaw K) hn (by decide) hdf ⟨rfl, by decide, by decide⟩ hY F (fun _ _ a ns hl hS => ⟨a, ns, rfl, hS, hl, fun _ => rfl⟩)
end My
open PySem PySem.W PyProof.Rows
set_option maxRecDepth 100000 in
set_option maxHeartbeats 0 in
theorem PySem.Challenge.cw_pickdepths_k28_errors_of_settled_holds : PySem.Challenge.rw_pickdepths_k28_errors_of_settled.Holds := by
  w_on; o_law; k_head; (case hw => w_witness2)
  k_fill
  refine My.walk (l := PySem.Challenge.rw_pickdepths_k28_errors_of_settled) rfl rfl (fun w h Y => PySem.W.kIn_of Y) ?F
  case F =>
    intro w mg fa h KX G hmg
    refine' My.all_mk KX G hmg ?aC_Joints ?pg_Joints ?hd_Joints ?po_Joints ?sa_Joints ?mk_Joints ?kq_Joints ?n_Joints_triples ?n_Joints_spots ?n_Joints_lowered ?n_Joints_joined ?a_law_pool ?l_law_pool ?c_law_pool ?k_law_pool ?a_law_draw ?l_law_draw ?c_law_draw ?k_law_draw ?a_law_line ?l_law_line ?c_law_line ?k_law_line ?a_check_letters ?l_check_letters ?c_check_letters ?k_check_letters ?a_check_row ?l_check_row ?c_check_row ?k_check_row ?a_check_depth ?l_check_depth ?c_check_depth ?k_check_depth ?a_Joints___init__ ?i_Joints___init__ ?l_Joints___init__ ?c_Joints___init__ ?k_Joints___init__ ?a_Joints_number_of_all ?i_Joints_number_of_all ?l_Joints_number_of_all ?c_Joints_number_of_all ?k_Joints_number_of_all ?a_Joints_empty ?i_Joints_empty ?l_Joints_empty ?c_Joints_empty ?k_Joints_empty ?a_Joints_lower ?i_Joints_lower ?l_Joints_lower ?c_Joints_lower ?k_Joints_lower ?a_Joints_together ?i_Joints_together ?l_Joints_together ?c_Joints_together ?k_Joints_together ?a_Joints_kind_of_row ?i_Joints_kind_of_row ?l_Joints_kind_of_row ?c_Joints_kind_of_row ?k_Joints_kind_of_row ?a_settled ?l_settled ?c_settled ?k_settled ?a_law_caught ?l_law_caught ?c_law_caught ?k_law_caught ?a_law_right ?l_law_right ?c_law_right ?k_law_right ?a_law ?l_law ?c_law ?k_law ?z_ValueError ?z_abs ?z_enumerate ?z_int ?z_isinstance ?z_len ?z_max ?z_min ?z_range ?z_repr ?z_sorted ?z_super ?z_tuple ?g_LETTERS ?aC_PickError ?aC_InvalidRow ?l_InvalidRow ?sa_InvalidRow ?ga_InvalidRow ?gg_InvalidRow ?nv_InvalidRow ?iC_InvalidRow ?kC_InvalidRow ?eC_InvalidRow ?tC_InvalidRow ?hc_InvalidRow ?sv_InvalidRow ?hd_InvalidRow ?hm_InvalidRow ?mr_InvalidRow ?lo_ne_InvalidRow ?su_InvalidRow ?ic_InvalidRow ?aC_InvalidNumber ?l_InvalidNumber ?sa_InvalidNumber ?ga_InvalidNumber ?gg_InvalidNumber ?nv_InvalidNumber ?iC_InvalidNumber ?kC_InvalidNumber ?eC_InvalidNumber ?tC_InvalidNumber ?hc_InvalidNumber ?sv_InvalidNumber ?hd_InvalidNumber ?hm_InvalidNumber ?mr_InvalidNumber ?lo_ne_InvalidNumber ?su_InvalidNumber ?ic_InvalidNumber ?aC_GameOver ?ic_GameOver ?tC_GameOver ?aC_InvalidAnswer ?ic_InvalidAnswer ?tC_InvalidAnswer ?aC_InvalidBlocks ?ic_InvalidBlocks ?tC_InvalidBlocks ?aC_InvalidPlace ?ic_InvalidPlace ?tC_InvalidPlace ?aC_InvalidQuestion ?ic_InvalidQuestion ?tC_InvalidQuestion ?aC_InvalidScope ?ic_InvalidScope ?tC_InvalidScope ?aC_NothingToUndo ?ic_NothingToUndo ?tC_NothingToUndo ?aC_NotLet ?ic_NotLet ?tC_NotLet ?aC_Unreadable ?ic_Unreadable ?tC_Unreadable ?lo_ne_InvalidRow_InvalidNumber ?su_InvalidRow_InvalidNumber ?lo_ne_InvalidRow_GameOver ?su_InvalidRow_GameOver ?lo_ne_InvalidRow_InvalidAnswer ?su_InvalidRow_InvalidAnswer ?lo_ne_InvalidRow_InvalidBlocks ?su_InvalidRow_InvalidBlocks ?lo_ne_InvalidRow_InvalidPlace ?su_InvalidRow_InvalidPlace ?lo_ne_InvalidRow_InvalidQuestion ?su_InvalidRow_InvalidQuestion ?lo_ne_InvalidRow_InvalidScope ?su_InvalidRow_InvalidScope ?lo_ne_InvalidRow_NothingToUndo ?su_InvalidRow_NothingToUndo ?lo_ne_InvalidRow_NotLet ?su_InvalidRow_NotLet ?lo_ne_InvalidRow_Unreadable ?su_InvalidRow_Unreadable ?lo_ne_InvalidNumber_InvalidRow ?su_InvalidNumber_InvalidRow ?lo_ne_InvalidNumber_GameOver ?su_InvalidNumber_GameOver ?lo_ne_InvalidNumber_InvalidAnswer ?su_InvalidNumber_InvalidAnswer ?lo_ne_InvalidNumber_InvalidBlocks ?su_InvalidNumber_InvalidBlocks ?lo_ne_InvalidNumber_InvalidPlace ?su_InvalidNumber_InvalidPlace ?lo_ne_InvalidNumber_InvalidQuestion ?su_InvalidNumber_InvalidQuestion ?lo_ne_InvalidNumber_InvalidScope ?su_InvalidNumber_InvalidScope ?lo_ne_InvalidNumber_NothingToUndo ?su_InvalidNumber_NothingToUndo ?lo_ne_InvalidNumber_NotLet ?su_InvalidNumber_NotLet ?lo_ne_InvalidNumber_Unreadable ?su_InvalidNumber_Unreadable ?eC_PickError ?ic_PickError ?tC_PickError ?hn_E ?ht_E ?ty_E ?l_PickError___init__ ?c_E ?l_cda_E ?lv_E ?lo_E ?l_cc_E ?cl_E2 ?op_E ?lt_E
    (case aC_Joints => k_is)
    (case pg_Joints => k_is)
    (case hd_Joints => k_is)
    (case po_Joints => k_is)
    (case sa_Joints => k_is)
    (case mk_Joints => k_is)
    (case kq_Joints => k_is)
    (case n_Joints_triples => k_is)
    (case n_Joints_spots => k_is)
    (case n_Joints_lowered => k_is)
    (case n_Joints_joined => k_is)
    (case a_law_pool => k_is)
    (case l_law_pool => k_is)
    (case c_law_pool => k_is)
    (case k_law_pool => k_is)
    (case a_law_draw => k_is)
    (case l_law_draw => k_is)
    (case c_law_draw => k_is)
    (case k_law_draw => k_is)
    (case a_law_line => k_is)
    (case l_law_line => k_is)
    (case c_law_line => k_is)
    (case k_law_line => k_is)
    (case a_check_letters => k_is)
    (case l_check_letters => k_is)
    (case c_check_letters => k_is)
    (case k_check_letters => k_is)
    (case a_check_row => k_is)
    (case l_check_row => k_is)
    (case c_check_row => k_is)
    (case k_check_row => k_is)
    (case a_check_depth => k_is)
    (case l_check_depth => k_is)
    (case c_check_depth => k_is)
    (case k_check_depth => k_is)
    (case a_Joints___init__ => k_is)
    (case i_Joints___init__ => k_is)
    (case l_Joints___init__ => k_is)
    (case c_Joints___init__ => k_is)
    (case k_Joints___init__ => k_is)
    (case a_Joints_number_of_all => k_is)
    (case i_Joints_number_of_all => k_is)
    (case l_Joints_number_of_all => k_is)
    (case c_Joints_number_of_all => k_is)
    (case k_Joints_number_of_all => k_is)
    (case a_Joints_empty => k_is)
    (case i_Joints_empty => k_is)
    (case l_Joints_empty => k_is)
    (case c_Joints_empty => k_is)
    (case k_Joints_empty => k_is)
    (case a_Joints_lower => k_is)
    (case i_Joints_lower => k_is)
    (case l_Joints_lower => k_is)
    (case c_Joints_lower => k_is)
    (case k_Joints_lower => k_is)
    (case a_Joints_together => k_is)
    (case i_Joints_together => k_is)
    (case l_Joints_together => k_is)
    (case c_Joints_together => k_is)
    (case k_Joints_together => k_is)
    (case a_Joints_kind_of_row => k_is)
    (case i_Joints_kind_of_row => k_is)
    (case l_Joints_kind_of_row => k_is)
    (case c_Joints_kind_of_row => k_is)
    (case k_Joints_kind_of_row => k_is)
    (case a_settled => k_is)
    (case l_settled => k_is)
    (case c_settled => k_is)
    (case k_settled => k_is)
    (case a_law_caught => k_is)
    (case l_law_caught => k_is)
    (case c_law_caught => k_is)
    (case k_law_caught => k_is)
    (case a_law_right => k_is)
    (case l_law_right => k_is)
    (case c_law_right => k_is)
    (case k_law_right => k_is)
    (case a_law => k_is)
    (case l_law => k_is)
    (case c_law => k_is)
    (case k_law => k_is)
    (case z_ValueError => k_is)
    (case z_abs => k_is)
    (case z_enumerate => k_is)
    (case z_int => k_is)
    (case z_isinstance => k_is)
    (case z_len => k_is)
    (case z_max => k_is)
    (case z_min => k_is)
    (case z_range => k_is)
    (case z_repr => k_is)
    (case z_sorted => k_is)
    (case z_super => k_is)
    (case z_tuple => k_is)
    (case g_LETTERS => k_is)
    (case aC_PickError => k_is)
    (case aC_InvalidRow => k_is)
    (case l_InvalidRow => k_is)
    (case sa_InvalidRow => k_is)
    (case ga_InvalidRow => k_is)
    (case gg_InvalidRow => k_is)
    (case nv_InvalidRow => k_is)
    (case iC_InvalidRow => k_is)
    (case kC_InvalidRow => k_is)
    (case eC_InvalidRow => k_is)
    (case tC_InvalidRow => k_is)
    (case hc_InvalidRow => k_is)
    (case sv_InvalidRow => k_is)
    (case hd_InvalidRow => k_is)
    (case hm_InvalidRow => k_is)
    (case mr_InvalidRow => k_is)
    (case lo_ne_InvalidRow => rfl)
    (case su_InvalidRow => k_is)
    (case ic_InvalidRow => k_is)
    (case aC_InvalidNumber => k_is)
    (case l_InvalidNumber => k_is)
    (case sa_InvalidNumber => k_is)
    (case ga_InvalidNumber => k_is)
    (case gg_InvalidNumber => k_is)
    (case nv_InvalidNumber => k_is)
    (case iC_InvalidNumber => k_is)
    (case kC_InvalidNumber => k_is)
    (case eC_InvalidNumber => k_is)
    (case tC_InvalidNumber => k_is)
    (case hc_InvalidNumber => k_is)
    (case sv_InvalidNumber => k_is)
    (case hd_InvalidNumber => k_is)
    (case hm_InvalidNumber => k_is)
    (case mr_InvalidNumber => k_is)
    (case lo_ne_InvalidNumber => rfl)
    (case su_InvalidNumber => k_is)
    (case ic_InvalidNumber => k_is)
    (case aC_GameOver => k_is)
    (case ic_GameOver => k_is)
    (case tC_GameOver => k_is)
    (case aC_InvalidAnswer => k_is)
    (case ic_InvalidAnswer => k_is)
    (case tC_InvalidAnswer => k_is)
    (case aC_InvalidBlocks => k_is)
    (case ic_InvalidBlocks => k_is)
    (case tC_InvalidBlocks => k_is)
    (case aC_InvalidPlace => k_is)
    (case ic_InvalidPlace => k_is)
    (case tC_InvalidPlace => k_is)
    (case aC_InvalidQuestion => k_is)
    (case ic_InvalidQuestion => k_is)
    (case tC_InvalidQuestion => k_is)
    (case aC_InvalidScope => k_is)
    (case ic_InvalidScope => k_is)
    (case tC_InvalidScope => k_is)
    (case aC_NothingToUndo => k_is)
    (case ic_NothingToUndo => k_is)
    (case tC_NothingToUndo => k_is)
    (case aC_NotLet => k_is)
    (case ic_NotLet => k_is)
    (case tC_NotLet => k_is)
    (case aC_Unreadable => k_is)
    (case ic_Unreadable => k_is)
    (case tC_Unreadable => k_is)
    (case lo_ne_InvalidRow_InvalidNumber => rfl)
    (case su_InvalidRow_InvalidNumber => k_is)
    (case lo_ne_InvalidRow_GameOver => rfl)
    (case su_InvalidRow_GameOver => k_is)
    (case lo_ne_InvalidRow_InvalidAnswer => rfl)
    (case su_InvalidRow_InvalidAnswer => k_is)
    (case lo_ne_InvalidRow_InvalidBlocks => rfl)
    (case su_InvalidRow_InvalidBlocks => k_is)
    (case lo_ne_InvalidRow_InvalidPlace => rfl)
    (case su_InvalidRow_InvalidPlace => k_is)
    (case lo_ne_InvalidRow_InvalidQuestion => rfl)
    (case su_InvalidRow_InvalidQuestion => k_is)
    (case lo_ne_InvalidRow_InvalidScope => rfl)
    (case su_InvalidRow_InvalidScope => k_is)
    (case lo_ne_InvalidRow_NothingToUndo => rfl)
    (case su_InvalidRow_NothingToUndo => k_is)
    (case lo_ne_InvalidRow_NotLet => rfl)
    (case su_InvalidRow_NotLet => k_is)
    (case lo_ne_InvalidRow_Unreadable => rfl)
    (case su_InvalidRow_Unreadable => k_is)
    (case lo_ne_InvalidNumber_InvalidRow => rfl)
    (case su_InvalidNumber_InvalidRow => k_is)
    (case lo_ne_InvalidNumber_GameOver => rfl)
    (case su_InvalidNumber_GameOver => k_is)
    (case lo_ne_InvalidNumber_InvalidAnswer => rfl)
    (case su_InvalidNumber_InvalidAnswer => k_is)
    (case lo_ne_InvalidNumber_InvalidBlocks => rfl)
    (case su_InvalidNumber_InvalidBlocks => k_is)
    (case lo_ne_InvalidNumber_InvalidPlace => rfl)
    (case su_InvalidNumber_InvalidPlace => k_is)
    (case lo_ne_InvalidNumber_InvalidQuestion => rfl)
    (case su_InvalidNumber_InvalidQuestion => k_is)
    (case lo_ne_InvalidNumber_InvalidScope => rfl)
    (case su_InvalidNumber_InvalidScope => k_is)
    (case lo_ne_InvalidNumber_NothingToUndo => rfl)
    (case su_InvalidNumber_NothingToUndo => k_is)
    (case lo_ne_InvalidNumber_NotLet => rfl)
    (case su_InvalidNumber_NotLet => k_is)
    (case lo_ne_InvalidNumber_Unreadable => rfl)
    (case su_InvalidNumber_Unreadable => k_is)
    (case eC_PickError => k_is)
    (case ic_PickError => k_is)
    (case tC_PickError => k_is)
    (case hn_E => k_is)
    (case ht_E => k_is)
    (case ty_E => k_is)
    (case l_PickError___init__ => k_is)
    (case c_E => k_is)
    (case l_cda_E => k_is)
    (case lv_E => rfl)
    (case lo_E => rfl)
    (case l_cc_E => k_is)
    (case cl_E2 => k_is)
    (case op_E => k_is)
    (case lt_E => decide +kernel)
