import PyProof.Rows.All
import Wide.All
import OpenK.AllK
import Wide.FinOn
import HandS.ForExc
import HandS.Comp
import HandS.Iter
import HandS.Text
import HandS.Zip
import HandS.IsInst
import HandS.Flow
import HandS.Wide
import HandS.WordsExc
import HandS.ExcIs
import HandS.TupAny
import HandS.Deep
import HandS.TupLe
import HandS.Style
import HandS.RaiseMore
import HandS.Sort
import HandS.TupMul
import KE.DataCmp
import PyProof.FString5
import PyProof.StrOps
import PyProof.ReprBulk
import PyProof.FitsInt
import KE.GoesMore
import KE.GoesEnum
import HandS.Rev
import PySem.Challenge.RW_textsturned_k50_patterns_judged
set_option Elab.async false
set_option linter.all false
set_option maxRecDepth 100000
set_option maxHeartbeats 8000000
namespace DL
open PySem PySem.Spec PyProof.Rows L2

/-! values as data: tuples by value -/
inductive D where
  | non | bl (b : Bool) | int (i : Int) | str (x : Str) | tup (ds : List D) | lst (ds : List D) | rng (lo hi : Int) | ref (a : Addr) | ty (n : String)

mutual
inductive RD (K : PySem.W.Frag) (H : Hp) : D → V → Prop
  | non : RD K H .non .non
  | bl (b : Bool) : RD K H (.bl b) (.bl b)
  | int (i : Int) : RD K H (.int i) (.int i)
  | str (x : Str) : RD K H (.str x) (.str x)
  | ty (n : String) : RD K H (.ty n) (.ty n)
  | ref (a : Addr) : RD K H (.ref a) (.ref a)
  | tup {a : Addr} {vs : List V} {ds : List D} : SqT K H a vs → RDs K H ds vs → RD K H (.tup ds) (.ref a)
  | rng {a : Addr} {lo hi : Int} : H a = some (.rng lo hi) → RD K H (.rng lo hi) (.ref a)
  /-- a list that is only read from now on -/
  | lst {a : Addr} {vs : List V} {ds : List D} {o : Obj} : H a = some (.frz o (.lst vs)) → RDs K H ds vs → RD K H (.lst ds) (.ref a)
inductive RDs (K : PySem.W.Frag) (H : Hp) : List D → List V → Prop
  | nil : RDs K H [] []
  | cons {d : D} {v : V} {ds : List D} {vs : List V} : RD K H d v → RDs K H ds vs → RDs K H (d :: ds) (v :: vs)
end

/-- tuples stay, and what is only read -/
structure TLe (K : PySem.W.Frag) (H H' : Hp) : Prop where
  sq : ∀ a xs, SqT K H a xs → SqT K H' a xs
  fz : ∀ a o u, H a = some (.frz o u) → H' a = some (.frz o u)
  rg : ∀ a lo hi, H a = some (.rng lo hi) → H' a = some (.rng lo hi)
theorem TLe.refl {K H} : TLe K H H := ⟨fun _ _ h => h, fun _ _ _ h => h, fun _ _ _ h => h⟩
theorem TLe.trans {K H H1 H2} (a : TLe K H H1) (b : TLe K H1 H2) : TLe K H H2 := ⟨fun _ _ h => b.sq _ _ (a.sq _ _ h), fun _ _ _ h => b.fz _ _ _ (a.fz _ _ _ h), fun _ _ _ h => b.rg _ _ _ (a.rg _ _ _ h)⟩
section
variable {K : PySem.W.Frag} {H H' : Hp}
mutual
theorem RD.mono (t : TLe K H H') : ∀ (d : D) (v : V), RD K H d v → RD K H' d v
  | .non, _, h => by cases h; exact .non
  | .bl _, _, h => by cases h; exact .bl _
  | .int _, _, h => by cases h; exact .int _
  | .str _, _, h => by cases h; exact .str _
  | .ty _, _, h => by cases h; exact .ty _
  | .ref _, _, h => by cases h; exact .ref _
  | .tup ds, _, h => by
    cases h with
    | tup hs ha => exact .tup (t.sq _ _ hs) (RDs.mono t ds _ ha)
  | .rng lo hi, _, h => by
    cases h with
    | rng hs => exact .rng (t.rg _ _ _ hs)
  | .lst ds, _, h => by
    cases h with
    | lst hs ha => exact .lst (t.fz _ _ _ hs) (RDs.mono t ds _ ha)
theorem RDs.mono (t : TLe K H H') : ∀ (ds : List D) (vs : List V), RDs K H ds vs → RDs K H' ds vs
  | [], _, h => by cases h; exact .nil
  | d :: ds, _, h => by
    cases h with
    | cons h1 h2 => exact .cons (RD.mono t d _ h1) (RDs.mono t ds _ h2)
end
theorem RDs.length : ∀ {ds : List D} {vs : List V}, RDs K H ds vs → ds.length = vs.length
  | [], _, h => by cases h; rfl
  | d :: ds, _, h => by
    cases h with
    | cons h1 h2 => simp [RDs.length h2]
theorem RDs.get : ∀ {ds : List D} {vs : List V} {i : Nat} {d : D}, RDs K H ds vs → ds[i]? = some d → ∃ v, vs[i]? = some v ∧ RD K H d v
  | [], _, _, _, h, e => by simp at e
  | x :: ds, _, 0, d, h, e => by
    cases h with
    | cons h1 h2 => simp at e; subst e; exact ⟨_, rfl, h1⟩
  | x :: ds, _, i + 1, d, h, e => by
    cases h with
    | cons h1 h2 =>
      obtain ⟨v, e1, e2⟩ := RDs.get (i := i) (d := d) h2 (by simpa using e)
      exact ⟨v, by simpa using e1, e2⟩
theorem RDs.get' : ∀ {ds : List D} {vs : List V} {i : Nat} {v : V}, RDs K H ds vs → vs[i]? = some v → ∃ d, ds[i]? = some d ∧ RD K H d v
  | [], _, _, _, h, e => by cases h; simp at e
  | x :: ds, _, 0, d, h, e => by
    cases h with
    | cons h1 h2 => simp at e; subst e; exact ⟨_, rfl, h1⟩
  | x :: ds, _, i + 1, d, h, e => by
    cases h with
    | cons h1 h2 =>
      obtain ⟨v, e1, e2⟩ := RDs.get' (i := i) (v := d) h2 (by simpa using e)
      exact ⟨v, by simpa using e1, e2⟩
theorem RDs.append : ∀ {ds es : List D} {vs ws : List V}, RDs K H ds vs → RDs K H es ws → RDs K H (ds ++ es) (vs ++ ws)
  | [], _, _, _, h, g => by cases h; exact g
  | d :: ds, _, _, _, h, g => by
    cases h with
    | cons h1 h2 => exact .cons h1 (RDs.append h2 g)
theorem RDs.take : ∀ {ds : List D} {vs : List V} (n : Nat), RDs K H ds vs → RDs K H (ds.take n) (vs.take n)
  | _, _, 0, _ => by simp; exact .nil
  | [], _, n + 1, h => by cases h; exact .nil
  | d :: ds, _, n + 1, h => by
    cases h with
    | cons h1 h2 => exact .cons h1 (RDs.take n h2)
theorem RDs.drop : ∀ {ds : List D} {vs : List V} (n : Nat), RDs K H ds vs → RDs K H (ds.drop n) (vs.drop n)
  | _, _, 0, h => by simpa using h
  | [], _, n + 1, h => by cases h; exact .nil
  | d :: ds, _, n + 1, h => by
    cases h with
    | cons h1 h2 => exact RDs.drop n h2
theorem RDs.set {d : D} {v : V} (r : RD K H d v) : ∀ {ds : List D} {vs : List V} (n : Nat), RDs K H ds vs → RDs K H (ds.set n d) (vs.set n v)
  | [], _, n, h => by cases h; exact .nil
  | _ :: ds, _, 0, h => by
    cases h with
    | cons h1 h2 => exact .cons r h2
  | _ :: ds, _, n + 1, h => by
    cases h with
    | cons h1 h2 => exact .cons h1 (RDs.set r n h2)
theorem RDs.reverse : ∀ {ds : List D} {vs : List V}, RDs K H ds vs → RDs K H ds.reverse vs.reverse
  | [], _, h => by cases h; exact .nil
  | d :: ds, _, h => by
    cases h with
    | cons h1 h2 =>
      rw [List.reverse_cons, List.reverse_cons]
      exact RDs.append (RDs.reverse h2) (.cons h1 .nil)
theorem RDs.ints : ∀ (ns : List Int), RDs K H (ns.map D.int) (ns.map V.int)
  | [] => .nil
  | n :: ns => .cons (.int n) (RDs.ints ns)
theorem RDs.ints_inv : ∀ {ns : List Int} {vs : List V}, RDs K H (ns.map D.int) vs → vs = ns.map V.int
  | [], _, h => by cases h; rfl
  | n :: ns, _, h => by
    cases h with
    | cons h1 h2 => cases h1; rw [RDs.ints_inv h2]; rfl
theorem RDs.bls_inv : ∀ {ns : List Bool} {vs : List V}, RDs K H (ns.map D.bl) vs → vs = ns.map V.bl
  | [], _, h => by cases h; rfl
  | n :: ns, _, h => by
    cases h with
    | cons h1 h2 => cases h1; rw [RDs.bls_inv h2]; rfl
theorem RDs.strs_inv : ∀ {ns : List Str} {vs : List V}, RDs K H (ns.map D.str) vs → vs = ns.map V.str
  | [], _, h => by cases h; rfl
  | n :: ns, _, h => by
    cases h with
    | cons h1 h2 => cases h1; rw [RDs.strs_inv h2]; rfl
theorem RDs.strs : ∀ (ns : List Str), RDs K H (ns.map D.str) (ns.map V.str)
  | [] => .nil
  | n :: ns => .cons (.str n) (RDs.strs ns)
end

/-! the mutable objects that are known -/
inductive DO where
  | lst (ds : List D)
  | ho (o : HO)
abbrev GH := Addr → Option DO
def updG (G : GH) (a : Addr) (o : DO) : GH := fun b => if b = a then some o else G b
theorem updG_same {G : GH} {a : Addr} {o : DO} : updG G a o a = some o := by unfold updG; rw [if_pos rfl]
theorem updG_ne {G : GH} {a b : Addr} {o : DO} (h : b ≠ a) : updG G a o b = G b := by unfold updG; rw [if_neg h]
theorem updG_updG {G : GH} {a : Addr} {o u : DO} : updG (updG G a o) a u = updG G a u := by
  funext b; unfold updG; split <;> rfl
theorem ne_ofG {G : GH} {a b : Addr} {o : DO} (h : G a = some o) (h' : G b = none) : a ≠ b := by
  intro e; subst e; rw [h] at h'; cases h'

/-- no tuple, nothing that is only read -/
def nt : HO → Bool
  | .tup _ => false
  | .frz _ _ => false
  | .rng _ _ => false
  | _ => true
def RO (K : PySem.W.Frag) (H : Hp) (a : Addr) : DO → Prop
  | .lst ds => ∃ vs, H a = some (.lst vs) ∧ RDs K H ds vs
  | .ho o => H a = some o ∧ nt o = true
theorem RO.some {K : PySem.W.Frag} {H : Hp} {a : Addr} {o : DO} (r : RO K H a o) : ∃ u, H a = some u ∧ nt u = true := by
  cases o with
  | lst ds => obtain ⟨vs, e, _⟩ := r; exact ⟨_, e, rfl⟩
  | ho o => exact ⟨o, r.1, r.2⟩
def RH (K : PySem.W.Frag) (H : Hp) (G : GH) : Prop := ∀ a o, G a = some o → RO K H a o

/-- what lies between two states: what is not known stays -/
structure Fr (G : GH) (H : Hp) (G' : GH) (H' : Hp) : Prop where
  frm : ∀ a o, H a = some o → G a = none → H' a = some o
  new : ∀ a, H a ≠ none → G a = none → G' a = none
theorem Fr.refl {G H} : Fr G H G H := ⟨fun _ _ h _ => h, fun _ _ h => h⟩
theorem Fr.trans {G H G1 H1 G2 H2} (x : Fr G H G1 H1) (y : Fr G1 H1 G2 H2) : Fr G H G2 H2 :=
  ⟨fun a o h g => y.frm a o (x.frm a o h g) (x.new a (by rw [h]; simp) g),
   fun a h g => y.new a (by
     cases e : H a with
     | none => exact absurd e h
     | some o => rw [x.frm a o e g]; simp) (x.new a h g)⟩
theorem RH.un {K : PySem.W.Frag} {H : Hp} {G : GH} {a : Addr} {u : HO} (r : RH K H G) (h : H a = some u) (n : nt u = false) : G a = none := by
  cases e : G a with
  | none => rfl
  | some o =>
    obtain ⟨w, e1, e2⟩ := (r a o e).some
    rw [h] at e1; cases e1; rw [n] at e2; cases e2
theorem Fr.tle {K : PySem.W.Frag} {G H G' H'} (f : Fr G H G' H') (r : RH K H G) : TLe K H H' where
  sq := fun a xs h => by
    rcases h with (h | ⟨o, h⟩) | h
    · exact .inl (.inl (f.frm a _ h (r.un h rfl)))
    · exact .inl (.inr ⟨o, f.frm a _ h (r.un h rfl)⟩)
    · exact .inr h
  fz := fun a o u h => f.frm a _ h (r.un h rfl)
  rg := fun a lo hi h => f.frm a _ h (r.un h rfl)

/-- a new object -/
theorem Fr.alloc {G : GH} {H : Hp} {p : Addr} {o : HO} (h : H p = none) : Fr G H G (upd H p o) :=
  ⟨fun a u e _ => by rw [upd_ne (ne_of_none e h)]; exact e, fun _ _ g => g⟩
theorem Fr.allocG {G : GH} {H : Hp} {p : Addr} {o : HO} {u : DO} (h : H p = none) : Fr G H (updG G p u) (upd H p o) :=
  ⟨fun a u e _ => by rw [upd_ne (ne_of_none e h)]; exact e, fun a z g => by
    rw [updG_ne]; exact g
    intro e; subst e; exact z h⟩
theorem RH.free {K : PySem.W.Frag} {H : Hp} {G : GH} {p : Addr} (r : RH K H G) (h : H p = none) : G p = none := by
  cases e : G p with
  | none => rfl
  | some o =>
    obtain ⟨u, e1, _⟩ := (r p o e).some
    rw [h] at e1; cases e1
theorem TLe.alloc {K : PySem.W.Frag} {H : Hp} {p : Addr} {o : HO} (h : H p = none) : TLe K H (upd H p o) where
  sq := fun a xs q => by
    rcases q with (q | ⟨_, q⟩) | q
    · exact .inl (.inl (by rw [upd_ne (ne_of_none q h)]; exact q))
    · exact .inl (.inr ⟨_, by rw [upd_ne (ne_of_none q h)]; exact q⟩)
    · exact .inr q
  fz := fun a o u q => by rw [upd_ne (ne_of_none q h)]; exact q
  rg := fun a o u q => by rw [upd_ne (ne_of_none q h)]; exact q
/-- the known objects move along -/
theorem RO.mono {K : PySem.W.Frag} {H H' : Hp} {a : Addr} {o : DO} (t : TLe K H H') (e : H' a = H a) (r : RO K H a o) : RO K H' a o := by
  cases o with
  | lst ds => obtain ⟨vs, h, q⟩ := r; exact ⟨vs, by rw [e]; exact h, RDs.mono t _ _ q⟩
  | ho o => exact ⟨by rw [e]; exact r.1, r.2⟩
theorem RH.alloc {K : PySem.W.Frag} {H : Hp} {G : GH} {p : Addr} {o : HO} (r : RH K H G) (h : H p = none) : RH K (upd H p o) G := fun a u e =>
  (r a u e).mono (TLe.alloc h) (upd_ne (by
    obtain ⟨z, e1, _⟩ := (r a u e).some
    exact ne_of_none e1 h))
theorem RH.allocG {K : PySem.W.Frag} {H : Hp} {G : GH} {p : Addr} {o : HO} {u : DO} (r : RH K H G) (h : H p = none) (n : RO K (upd H p o) p u) : RH K (upd H p o) (updG G p u) := fun a v e => by
  by_cases z : a = p
  · subst z; rw [updG_same] at e; cases e; exact n
  · rw [updG_ne z] at e; exact r.alloc h a v e
/-- a known list is written -/
theorem TLe.write {K : PySem.W.Frag} {H : Hp} {p : Addr} {o u : HO} (h : H p = some u) (nu : nt u = true) : TLe K H (upd H p o) where
  sq := fun a xs q => by
    rcases q with (q | ⟨ob, q⟩) | q
    · refine .inl (.inl ?_)
      rw [upd_ne]; exact q
      intro e; subst e; rw [h] at q; cases q; cases nu
    · refine .inl (.inr ⟨ob, ?_⟩)
      rw [upd_ne]; exact q
      intro e; subst e; rw [h] at q; cases q; cases nu
    · exact .inr q
  fz := fun a o u q => by
    rw [upd_ne]; exact q
    intro e; subst e; rw [h] at q; cases q; cases nu
  rg := fun a o u q => by
    rw [upd_ne]; exact q
    intro e; subst e; rw [h] at q; cases q; cases nu
theorem RH.write {K : PySem.W.Frag} {H : Hp} {G : GH} {p : Addr} {o u : HO} {v : DO} (r : RH K H G) (h : H p = some u) (nu : nt u = true) (n : RO K (upd H p o) p v) : RH K (upd H p o) (updG G p v) := fun a w e => by
  by_cases z : a = p
  · subst z; rw [updG_same] at e; cases e; exact n
  · rw [updG_ne z] at e; exact (r a w e).mono (TLe.write h nu) (upd_ne z)
theorem Fr.write {G : GH} {H : Hp} {p : Addr} {o : HO} {u v : DO} (g : G p = some u) : Fr G H (updG G p v) (upd H p o) where
  frm := fun a w e n => by
    rw [upd_ne]
    · exact e
    · intro z; subst z; rw [g] at n; cases n
  new := fun a z n => by
    rw [updG_ne]
    · exact n
    · intro e; subst e; rw [g] at n; cases n
/-! a known list becomes one that is only read -/
def eraseG (G : GH) (p : Addr) : GH := fun b => if b = p then none else G b
theorem eraseG_same {G : GH} {p : Addr} : eraseG G p p = none := if_pos rfl
theorem eraseG_ne {G : GH} {p a : Addr} (h : a ≠ p) : eraseG G p a = G a := if_neg h
theorem eraseG_upd {G : GH} {p : Addr} {o : DO} (h : G p = none) : eraseG (updG G p o) p = G := by
  funext b
  by_cases e : b = p
  · subst e; rw [eraseG_same, h]
  · rw [eraseG_ne e, updG_ne e]
theorem RH.lock {K : PySem.W.Frag} {H : Hp} {G : GH} {p : Addr} {vs : List V} {od : Obj} (r : RH K H G) (h : H p = some (.lst vs)) : RH K (upd H p (.frz od (.lst vs))) (eraseG G p) := fun a o e => by
  by_cases z : a = p
  · subst z; rw [eraseG_same] at e; cases e
  · rw [eraseG_ne z] at e; exact (r a o e).mono (TLe.write h rfl) (upd_ne z)
theorem Fr.lock {G : GH} {H : Hp} {p : Addr} {o : HO} {u : DO} (g : G p = some u) : Fr G H (eraseG G p) (upd H p o) where
  frm := fun a w e n => by
    rw [upd_ne]
    · exact e
    · intro z; subst z; rw [g] at n; cases n
  new := fun a _ n => by
    by_cases z : a = p
    · subst z; exact eraseG_same
    · rw [eraseG_ne z]; exact n
/-- a new object that stays unknown -/
theorem Fr.hidden {G : GH} {H : Hp} {p : Addr} {o u : HO} (h : H p = none) : Fr G H G (upd (upd H p o) p u) :=
  ⟨fun a w e _ => by rw [upd_ne (ne_of_none e h), upd_ne (ne_of_none e h)]; exact e, fun _ _ g => g⟩
theorem TLe.hidden {K : PySem.W.Frag} {H : Hp} {p : Addr} {o u : HO} (h : H p = none) (n : nt o = true) : TLe K H (upd (upd H p o) p u) := (TLe.alloc h).trans (TLe.write upd_same n)
theorem RH.hidden {K : PySem.W.Frag} {H : Hp} {G : GH} {p : Addr} {o u : HO} (r : RH K H G) (h : H p = none) (n : nt o = true) : RH K (upd (upd H p o) p u) G := fun a v e =>
  (r a v e).mono (TLe.hidden h n) (by
    obtain ⟨z, e1, _⟩ := (r a v e).some
    rw [upd_ne (ne_of_none e1 h), upd_ne (ne_of_none e1 h)])
/-- the wish behind a lock -/
def LockQ (Q : VK) : VK := fun v H => ∃ a vs, v = .ref a ∧ H a = some (.lst vs) ∧ ∀ od, Q v (upd H a (.frz od (.lst vs)))
theorem LockQ.ep {X : Cx} {pins : List (Addr × Obj)} {σ : L2.St} {Q : VK} {u : Value} {s' : Shared} (h : EP X pins σ (LockQ Q) u s') : EP X pins σ Q u s' := by
  obtain ⟨v, H', I, r, a, vs, rfl, e, k⟩ := h
  obtain ⟨od, J⟩ := I.lock e trivial
  exact ⟨_, _, J, r, k od⟩
end DL
namespace DL
open PySem PySem.Spec PyProof.Rows L2

abbrev Sl := List (Option D)
def RS (K : PySem.W.Frag) (H : Hp) (δ : Sl) (σ : L2.St) : Prop := ∀ (i : Nat) (d : D), δ[i]? = some (some d) → ∃ v, σ[i]? = some (some v) ∧ RD K H d v
abbrev KD := D → GH → Prop
abbrev ME := Sl → GH → KD → Prop
abbrev MT := Sl → GH → (Bool → GH → Prop) → Prop
abbrev MA := Sl → GH → (List D → GH → Prop) → Prop
abbrev MO := Sl → GH → (Option Int → GH → Prop) → Prop
structure Nd where
  nx : Sl → GH → Prop
  rt : KD
  bk : Sl → GH → Prop := fun _ _ => False
  ct : Sl → GH → Prop := fun _ _ => False
abbrev MS := Nd → Sl → GH → Prop
abbrev MG := D → Sl → GH → (Sl → GH → Prop) → Prop
abbrev MGs := List D → Sl → GH → (Sl → GH → Prop) → Prop

structure Rl (K : PySem.W.Frag) (G0 : GH) (H0 : Hp) (δ : Sl) (G : GH) (σ : L2.St) (H : Hp) : Prop where
  fr : Fr G0 H0 G H
  rs : RS K H δ σ
  rh : RH K H G
section
variable {K : PySem.W.Frag} {G0 G G' : GH} {H0 H H' : Hp} {δ δ' : Sl} {σ σ' : L2.St}
theorem RS.mono (t : TLe K H H') (r : RS K H δ σ) : RS K H' δ σ := fun i d e => by
  obtain ⟨v, h, q⟩ := r i d e
  exact ⟨v, h, RD.mono t _ _ q⟩
theorem RS.set {d : D} {v : V} {i : Nat} (r : RS K H δ σ) (q : RD K H d v) (hi : i < σ.length) : RS K H (δ.set i (some d)) (σ.set i (some v)) := fun j e h => by
  by_cases z : j = i
  · subst z
    have hj : j < δ.length := by
      have := (List.getElem?_eq_some_iff.mp h).1
      simpa using this
    rw [List.getElem?_set_self hj] at h
    cases h
    exact ⟨v, by rw [List.getElem?_set_self hi], q⟩
  · rw [List.getElem?_set_ne (Ne.symm z)] at h ⊢
    exact r j e h
theorem Rl.step (R : Rl K G0 H0 δ G σ H) (f : Fr G H G' H') (rh : RH K H' G') : Rl K G0 H0 δ G' σ H' :=
  ⟨R.fr.trans f, R.rs.mono (f.tle R.rh), rh⟩
theorem Rl.stepS (R : Rl K G0 H0 δ G σ H) (f : Fr G H G' H') (rs : RS K H' δ' σ') (rh : RH K H' G') : Rl K G0 H0 δ' G' σ' H' :=
  ⟨R.fr.trans f, rs, rh⟩
end

/-! the readings by data, as readings -/
section
variable (K : PySem.W.Frag) (G0 : GH) (H0 : Hp)
/-- a wish about a value, by data -/
def KV' (G : GH) (H : Hp) (Qd : KD) (Q : VK) : Prop := ∀ v H' d G', Fr G H G' H' → RD K H' d v → RH K H' G' → Qd d G' → Q v H'
def tE (m : ME) : TE := fun σ H Q => ∃ δ G Qd, Rl K G0 H0 δ G σ H ∧ m δ G Qd ∧ KV' K G H Qd Q
def tT (m : MT) : TT := fun σ H Q => ∃ δ G Qd, Rl K G0 H0 δ G σ H ∧ m δ G Qd ∧ ∀ b H' G', Fr G H G' H' → RH K H' G' → Qd b G' → Q b H'
def tA (n : Nat) (m : MA) : TA := fun σ H Q => ∃ δ G Qd, Rl K G0 H0 δ G σ H ∧ m δ G Qd ∧ ∀ vs H' ds G', Fr G H G' H' → RDs K H' ds vs → RH K H' G' → Qd ds G' → ds.length = n → Q vs H'
def tO (m : MO) : TO := fun σ H Q => ∃ δ G Qd, Rl K G0 H0 δ G σ H ∧ m δ G Qd ∧ ∀ o H' G', Fr G H G' H' → RH K H' G' → Qd o G' → Q o H'
/-- what is wanted behind a statement, by data -/
structure LE (G : GH) (H : Hp) (N : Nd) (E : Ends) : Prop where
  nx : ∀ σ' H' δ' G', Fr G H G' H' → RS K H' δ' σ' → RH K H' G' → N.nx δ' G' → E.nx σ' H'
  bk : ∀ σ' H' δ' G', Fr G H G' H' → RS K H' δ' σ' → RH K H' G' → N.bk δ' G' → E.bk σ' H'
  ct : ∀ σ' H' δ' G', Fr G H G' H' → RS K H' δ' σ' → RH K H' G' → N.ct δ' G' → E.ct σ' H'
  rt : ∀ v H' d G', Fr G H G' H' → RD K H' d v → RH K H' G' → N.rt d G' → E.rt v H'
def tS (m : MS) : TS := fun E σ H => ∃ δ G N, Rl K G0 H0 δ G σ H ∧ m N δ G ∧ LE K G H N E
def tG (m : MG) : TG := fun v σ H Q => ∃ d δ G Qd, Rl K G0 H0 δ G σ H ∧ RD K H d v ∧ m d δ G Qd ∧ ∀ σ' H' δ' G', Fr G H G' H' → RS K H' δ' σ' → RH K H' G' → Qd δ' G' → Q σ' H'
def tGs (m : MGs) : TGs := fun vs σ H Q => ∃ ds δ G Qd, Rl K G0 H0 δ G σ H ∧ RDs K H ds vs ∧ m ds δ G Qd ∧ ∀ σ' H' δ' G', Fr G H G' H' → RS K H' δ' σ' → RH K H' G' → Qd δ' G' → Q σ' H'
/-- an operator by data, as an operator by values -/
def r2D (r : D → D → GH → KD → Prop) : R2 := fun x y H Q => ∃ dx dy G Qd, RD K H dx x ∧ RD K H dy y ∧ RH K H G ∧ r dx dy G Qd ∧ KV' K G H Qd Q
def r1D (r : D → GH → KD → Prop) : V → Hp → VK → Prop := fun x H Q => ∃ dx G Qd, RD K H dx x ∧ RH K H G ∧ r dx G Qd ∧ KV' K G H Qd Q
def rLD (r : List D → GH → KD → Prop) : List V → Hp → VK → Prop := fun xs H Q => ∃ ds G Qd, RDs K H ds xs ∧ RH K H G ∧ r ds G Qd ∧ KV' K G H Qd Q
def rMD (r : D → List D → GH → KD → Prop) : V → List V → Hp → VK → Prop := fun x xs H Q => ∃ dx ds G Qd, RD K H dx x ∧ RDs K H ds xs ∧ RH K H G ∧ r dx ds G Qd ∧ KV' K G H Qd Q
end
section
variable {K : PySem.W.Frag} {G G' : GH} {H H' : Hp} {Qd : KD} {Q : VK}
theorem KV'.here {d : D} {v : V} (k : KV' K G H Qd Q) (rd : RD K H d v) (rh : RH K H G) (q : Qd d G) : Q v H := k v H d G Fr.refl rd rh q
theorem KV'.step (k : KV' K G H Qd Q) (f : Fr G H G' H') : KV' K G' H' Qd Q := fun v H2 d G2 f2 rd rh q => k v H2 d G2 (f.trans f2) rd rh q
/-- a new tuple -/
theorem KV'.tup {ds : List D} {vs : List V} {p : Addr} (k : KV' K G H Qd Q) (rs : RDs K H ds vs) (rh : RH K H G) (np : H p = none) (q : Qd (.tup ds) G) : Q (.ref p) (upd H p (.tup vs)) :=
  k _ _ (.tup ds) G (Fr.alloc np) (.tup (.of upd_same) (RDs.mono (TLe.alloc np) _ _ rs)) (rh.alloc np) q
/-- a new list that is only read -/
theorem KV'.lstV {ds : List D} {vs : List V} {p : Addr} (k : KV' K G H Qd Q) (rs : RDs K H ds vs) (rh : RH K H G) (np : H p = none) (q : Qd (.lst ds) G) : LockQ Q (.ref p) (upd H p (.lst vs)) :=
  ⟨p, vs, rfl, upd_same, fun _ => k _ _ (.lst ds) G (Fr.hidden np) (.lst upd_same (RDs.mono (TLe.hidden np rfl) _ _ rs)) (rh.hidden np rfl) q⟩
/-- a new list -/
theorem KV'.lst {ds : List D} {vs : List V} {p : Addr} (k : KV' K G H Qd Q) (rs : RDs K H ds vs) (rh : RH K H G) (np : H p = none) (q : ∀ p, G p = none → Qd (.ref p) (updG G p (.lst ds))) : Q (.ref p) (upd H p (.lst vs)) :=
  k _ _ (.ref p) (updG G p (.lst ds)) (Fr.allocG np) (.ref p) (rh.allocG np (u := .lst ds) ⟨vs, upd_same, RDs.mono (TLe.alloc np) _ _ rs⟩) (q p (rh.free np))
end

theorem _root_.L2.PE.dimp {X : Cx} {e : Expr} {t t' : TE} (h : PE X e t) (c : ∀ σ H Q, t' σ H Q → t σ H Q) : PE X e t' := ⟨fun p s σ H Q I q => h.run p s σ H Q I (c σ H Q q)⟩
theorem _root_.L2.PT.dimp {X : Cx} {e : Expr} {t t' : TT} (h : PT X e t) (c : ∀ σ H Q, t' σ H Q → t σ H Q) : PT X e t' := ⟨fun p s σ H Q I q => h.run p s σ H Q I (c σ H Q q)⟩
theorem _root_.L2.PW.dimp {X : Cx} {e : Expr} {t t' : TT} (h : PW X e t) (c : ∀ σ H Q, t' σ H Q → t σ H Q) : PW X e t' := ⟨fun w p s σ H Q I q => h.run w p s σ H Q I (c σ H Q q)⟩
theorem _root_.L2.PA.dimp {X : Cx} {e : List Expr} {t t' : TA} (h : PA X e t) (c : ∀ σ H Q, t' σ H Q → t σ H Q) : PA X e t' := ⟨fun w p s σ H Q I q => h.run w p s σ H Q I (c σ H Q q)⟩
theorem _root_.L2.PO.dimp {X : Cx} {e : Option Expr} {t t' : TO} (h : PO X e t) (c : ∀ σ H Q, t' σ H Q → t σ H Q) : PO X e t' := ⟨fun p s σ H Q I q => h.run p s σ H Q I (c σ H Q q)⟩
theorem _root_.L2.PS.dimp {X : Cx} {e : Stmt} {t t' : TS} (h : PS X e t) (c : ∀ E σ H, t' E σ H → t E σ H) : PS X e t' := ⟨fun p s σ H E I q => h.run p s σ H E I (c E σ H q)⟩
theorem _root_.L2.PSs.dimp {X : Cx} {e : List Stmt} {t t' : TS} (h : PSs X e t) (c : ∀ E σ H, t' E σ H → t E σ H) : PSs X e t' := ⟨fun p s σ H E I q => h.run p s σ H E I (c E σ H q)⟩
theorem _root_.L2.PG.dimp {X : Cx} {e : Expr} {t t' : TG} (h : PG X e t) (c : ∀ v σ H Q, t' v σ H Q → t v σ H Q) : PG X e t' := ⟨fun p s σ H v u Q I r q => h.run p s σ H v u Q I r (c v σ H Q q)⟩
theorem _root_.L2.PGs.dimp {X : Cx} {e : List Expr} {t t' : TGs} (h : PGs X e t) (c : ∀ v σ H Q, t' v σ H Q → t v σ H Q) : PGs X e t' := ⟨fun p s σ H v u Q I r q => h.run p s σ H v u Q I r (c v σ H Q q)⟩
theorem OpR_imp {X : Cx} {f : Value → Value → Sem Value} {r r' : R2} (h : OpR X f r) (c : ∀ x y H Q, r' x y H Q → r x y H Q) : OpR X f r' := fun p s σ H x y v u Q I rx ry q => h p s σ H x y v u Q I rx ry (c x y H Q q)

theorem _root_.L2.PE.lock {X : Cx} {e : Expr} {t : TE} (h : PE X e t) : PE X e (fun σ H Q => t σ H (LockQ Q)) := ⟨fun p s σ H Q I q => wpAny_mono (h.run p s σ H _ I q) (fun _ _ x => LockQ.ep x) fun _ _ x => x⟩
def LockOr (Q : VK) : VK := fun v H => Q v H ∨ LockQ Q v H
theorem LockOr.ep {X : Cx} {pins : List (Addr × Obj)} {σ : L2.St} {Q : VK} {u : Value} {s' : Shared} (h : EP X pins σ (LockOr Q) u s') : EP X pins σ Q u s' := by
  obtain ⟨v, H', I, r, q | q⟩ := h
  · exact ⟨v, H', I, r, q⟩
  · exact LockQ.ep ⟨v, H', I, r, q⟩
theorem _root_.L2.PE.lockOr {X : Cx} {e : Expr} {t : TE} (h : PE X e t) : PE X e (fun σ H Q => t σ H (LockOr Q)) := ⟨fun p s σ H Q I q => wpAny_mono (h.run p s σ H _ I q) (fun _ _ x => LockOr.ep x) fun _ _ x => x⟩

abbrev DE (X : Cx) (G0 : GH) (H0 : Hp) (e : Expr) (m : ME) := PE X e (tE X.K G0 H0 m)
abbrev DT (X : Cx) (G0 : GH) (H0 : Hp) (e : Expr) (m : MT) := PT X e (tT X.K G0 H0 m)
abbrev DW (X : Cx) (G0 : GH) (H0 : Hp) (e : Expr) (m : MT) := PW X e (tT X.K G0 H0 m)
abbrev DA (X : Cx) (G0 : GH) (H0 : Hp) (e : List Expr) (m : MA) := PA X e (tA X.K G0 H0 e.length m)
abbrev DOp (X : Cx) (G0 : GH) (H0 : Hp) (e : Option Expr) (m : MO) := PO X e (tO X.K G0 H0 m)
abbrev DS (X : Cx) (G0 : GH) (H0 : Hp) (e : Stmt) (m : MS) := PS X e (tS X.K G0 H0 m)
abbrev DSs (X : Cx) (G0 : GH) (H0 : Hp) (e : List Stmt) (m : MS) := PSs X e (tS X.K G0 H0 m)
abbrev DG (X : Cx) (G0 : GH) (H0 : Hp) (e : Expr) (m : MG) := PG X e (tG X.K G0 H0 m)
abbrev DGs (X : Cx) (G0 : GH) (H0 : Hp) (e : List Expr) (m : MGs) := PGs X e (tGs X.K G0 H0 m)

/-! names, constants, displays -/
def slot : Sl → Nat → Option D
  | [], _ => none
  | x :: _, 0 => x
  | _ :: r, n + 1 => slot r n
theorem slot_some : ∀ {δ : Sl} {i : Nat} {d : D}, slot δ i = some d → δ[i]? = some (some d)
  | [], _, _, h => by cases h
  | x :: _, 0, d, h => by
    have h' : x = some d := h
    rw [h']; rfl
  | _ :: r, n + 1, d, h => by
    have h' : slot r n = some d := h
    rw [List.getElem?_cons_succ]
    exact slot_some h'
def mVar (i : Nat) : ME := fun δ G Q => match slot δ i with | some d => Q d G | none => False
def mC (d : D) : ME := fun _ G Q => Q d G
def aNil : MA := fun _ G Q => Q [] G
def aCons (m : ME) (a : MA) : MA := fun δ G Q => m δ G fun x G1 => a δ G1 fun xs G2 => Q (x :: xs) G2
def mTup (a : MA) : ME := fun δ G Q => a δ G fun xs G1 => xs.length ≤ sizeLine ∧ Q (.tup xs) G1
def mLst (a : MA) : ME := fun δ G Q => a δ G fun xs G1 => xs.length ≤ sizeLine ∧ ∀ p, G1 p = none → Q (.ref p) (updG G1 p (.lst xs))
def mOp (r : D → D → GH → KD → Prop) (a b : ME) : ME := fun δ G Q => a δ G fun x G1 => b δ G1 fun y G2 => r x y G2 Q
def mUn (r : D → GH → KD → Prop) (a : ME) : ME := fun δ G Q => a δ G fun x G1 => r x G1 Q
section
variable {X : Cx} {G0 : GH} {H0 : Hp} {e a b : Expr} {es rest : List Expr} {m ma mb : ME} {aa : MA} {pos : Pos}

theorem dv (i : Nat) {x : Str} {pos : Pos} (hN : X.N[i]? = some x := by rfl) (hv : Vis X.env.scope x := by first | exact Or.inl rfl | exact Or.inr (Or.inl rfl) | exact Or.inr (Or.inr rfl)) (hd : (x == ("__debug__" : Str)) = false := by decide)
    (hcd : (x == ("__classdict__" : Str)) = false := by decide) : DE X G0 H0 (.Name x pos) (mVar i) :=
  (pe_var hN hv hd hcd).dimp fun σ H Q ⟨δ, G, Qd, R, h, k⟩ => by
    unfold mVar at h
    cases e : slot δ i with
    | none => rw [e] at h; exact h.elim
    | some d =>
      rw [e] at h
      have e' : δ[i]? = some (some d) := slot_some e
      obtain ⟨v, e1, rd⟩ := R.rs i d e'
      exact ⟨v, e1, k.here rd R.rh h⟩
/-- a constant of no address -/
theorem de_c {d : D} {v : V} (h : PE X e (tC v)) (rd : ∀ K H, RD K H d v) : DE X G0 H0 e (mC d) := h.dimp fun σ H Q ⟨δ, G, Qd, R, h, k⟩ => k.here (rd _ _) R.rh h
theorem d_int {i : Int} {j pos} : DE X G0 H0 (.Constant (.int i) j pos) (mC (.int i)) := de_c pe_int fun _ _ => .int _
theorem d_bl {b : Bool} {j pos} : DE X G0 H0 (.Constant (.bool b) j pos) (mC (.bl b)) := de_c pe_bl fun _ _ => .bl _
theorem d_non {j pos} : DE X G0 H0 (.Constant .none j pos) (mC .non) := de_c pe_non fun _ _ => .non
theorem d_str {x : Str} {j pos} : DE X G0 H0 (.Constant (.str x) j pos) (mC (.str x)) := de_c pe_str fun _ _ => .str _
/-- a def or class of the module as a value -/
theorem d_glob {x : Str} {f : Addr} {pos : Pos} (hg : Gl X x) (hm : X.mg x = some (.ref f)) (hd : (x == ("__debug__" : Str)) = false := by decide) : DE X G0 H0 (.Name x pos) (mC (.ref f)) := de_c (pe_glob (v := .ref f) hg hm rfl hd) fun _ _ => .ref _
theorem d_globStr {x : Str} {s : Str} {t : Tok} {pos : Pos} (hg : Gl X x) (hm : X.mg x = some (.str s t)) (hd : (x == ("__debug__" : Str)) = false := by decide) : DE X G0 H0 (.Name x pos) (mC (.str s)) := de_c (pe_glob (v := .str s) hg hm ⟨_, rfl⟩ hd) fun _ _ => .str _
theorem d_globInt {x : Str} {s : Int} {t : Tok} {pos : Pos} (hg : Gl X x) (hm : X.mg x = some (.int s t)) (hd : (x == ("__debug__" : Str)) = false := by decide) : DE X G0 H0 (.Name x pos) (mC (.int s)) := de_c (pe_glob (v := .int s) hg hm ⟨_, rfl⟩ hd) fun _ _ => .int _
theorem d_bty {x : Str} {n : String} {pos : Pos} (hg : Gl X x) (hm : X.mg x = none) (hv : bootBuiltins x = some (.type n)) (hn : x ≠ "__name__" := by decide) (hd : (x == ("__debug__" : Str)) = false := by decide) : DE X G0 H0 (.Name x pos) (mC (.ty n)) := de_c (pe_bltn (v := .ty n) hg hm hv rfl hn hd) fun _ _ => .ty _

theorem da_nil : DA X G0 H0 [] aNil := pa_nil.dimp fun σ H Q ⟨δ, G, Qd, R, h, k⟩ => k [] H [] G Fr.refl .nil R.rh h rfl
theorem da_cons (h1 : DE X G0 H0 e m) (h2 : DA X G0 H0 es aa) (hs : starEach (e :: es) X.env = (false, eval e X.env) :: starEach es X.env := by rfl) : DA X G0 H0 (e :: es) (aCons m aa) :=
  (pa_cons h1 h2 hs).dimp fun σ H Q ⟨δ, G, Qd, R, h, k⟩ =>
    ⟨δ, G, _, R, h, fun v H1 d G1 f1 rd1 rh1 q1 => ⟨δ, G1, _, R.step f1 rh1, q1, fun vs H2 ds G2 f2 rd2 rh2 q2 l2 =>
      k _ _ (d :: ds) G2 (f1.trans f2) (.cons (RD.mono (f2.tle rh1) _ _ rd1) rd2) rh2 q2 (by rw [List.length_cons, List.length_cons, l2])⟩⟩
theorem d_tup {x1} (h : DA X G0 H0 es aa) : DE X G0 H0 (.Tuple es x1 pos) (mTup aa) :=
  (pe_tup h).dimp fun σ H Q ⟨δ, G, Qd, R, h, k⟩ => ⟨δ, G, _, R, h, fun vs H1 ds G1 f1 rd1 rh1 q1 _ => ⟨by rw [← rd1.length]; exact q1.1, fun p np => (k.step f1).tup rd1 rh1 np q1.2⟩⟩
theorem d_lst (h : DA X G0 H0 es aa) : DE X G0 H0 (.List es pos) (mLst aa) :=
  (pe_lst h).dimp fun σ H Q ⟨δ, G, Qd, R, h, k⟩ => ⟨δ, G, _, R, h, fun vs H1 ds G1 f1 rd1 rh1 q1 _ => ⟨by rw [← rd1.length]; exact q1.1, fun p np => (k.step f1).lst rd1 rh1 np q1.2⟩⟩

/-- a new list that is only read -/
def mLstV (a : MA) : ME := fun δ G Q => a δ G fun xs G1 => xs.length ≤ sizeLine ∧ Q (.lst xs) G1
theorem d_lstV (h : DA X G0 H0 es aa) : DE X G0 H0 (.List es pos) (mLstV aa) :=
  (pe_lst h).lock.dimp fun σ H Q ⟨δ, G, Qd, R, h, k⟩ => ⟨δ, G, _, R, h, fun vs H1 ds G1 f1 rd1 rh1 q1 _ => ⟨by rw [← rd1.length]; exact q1.1, fun p np => (k.step f1).lstV rd1 rh1 np q1.2⟩⟩
/-- from here on the list is only read -/
def frzK (Q : KD) : KD := fun d G => match d with
  | .ref p => match G p with
    | some (.lst ds) => Q (.lst ds) (eraseG G p)
    | _ => False
  | d => Q d G
def mFrz (m : ME) : ME := fun δ G Q => m δ G (frzK Q)
theorem frzK_sem {K : PySem.W.Frag} {G : GH} {H : Hp} {Qd : KD} {Q : VK} {d : D} {v : V} (k : KV' K G H Qd Q) (rd : RD K H d v) (rh : RH K H G) (q : frzK Qd d G) : LockOr Q v H := by
  cases rd with
  | ref p =>
    unfold frzK at q
    dsimp only at q
    split at q
    · rename_i ds e
      obtain ⟨vs, e1, a1⟩ := rh _ _ e
      exact .inr ⟨p, vs, rfl, e1, fun od => k _ _ (.lst ds) (eraseG G p) (Fr.lock e) (.lst upd_same (RDs.mono (TLe.write e1 rfl) _ _ a1)) (rh.lock e1) q⟩
    · exact q.elim
  | non => exact .inl (k.here .non rh q)
  | bl b => exact .inl (k.here (.bl b) rh q)
  | int i => exact .inl (k.here (.int i) rh q)
  | str x => exact .inl (k.here (.str x) rh q)
  | ty n => exact .inl (k.here (.ty n) rh q)
  | tup a b => exact .inl (k.here (.tup a b) rh q)
  | lst a b => exact .inl (k.here (.lst a b) rh q)
  | rng a => exact .inl (k.here (.rng a) rh q)
theorem d_frz (h : DE X G0 H0 e m) : DE X G0 H0 e (mFrz m) :=
  (PE.lockOr h).dimp fun σ H Q ⟨δ, G, Qd, R, h, k⟩ => ⟨δ, G, _, R, h, fun v H1 d G1 f1 rd1 rh1 q1 => frzK_sem (k.step f1) rd1 rh1 q1⟩

/-! operators -/
theorem d_op {op : Operator} {r : D → D → GH → KD → Prop} (ho : OpR X (binaryOp op) (r2D X.K r)) (ha : DE X G0 H0 a ma) (hb : DE X G0 H0 b mb) : DE X G0 H0 (.BinOp a op b pos) (mOp r ma mb) :=
  (pe_op ho ha hb).dimp fun σ H Q ⟨δ, G, Qd, R, h, k⟩ =>
    ⟨δ, G, _, R, h, fun v H1 d G1 f1 rd1 rh1 q1 => ⟨δ, G1, _, R.step f1 rh1, q1, fun u H2 d2 G2 f2 rd2 rh2 q2 =>
      ⟨d, d2, G2, Qd, RD.mono (f2.tle rh1) _ _ rd1, rd2, rh2, q2, k.step (f1.trans f2)⟩⟩⟩
theorem d_cmp {op : CmpOp} {r : D → D → GH → KD → Prop} (ho : OpR X (compareOp op) (r2D X.K r)) (ha : DE X G0 H0 a ma) (hb : DE X G0 H0 b mb) (hm : behindInMarks op b = false) : DE X G0 H0 (.Compare a [op] [b] pos) (mOp r ma mb) :=
  (pe_cmpR ho ha hb hm).dimp fun σ H Q ⟨δ, G, Qd, R, h, k⟩ =>
    ⟨δ, G, _, R, h, fun v H1 d G1 f1 rd1 rh1 q1 => ⟨δ, G1, _, R.step f1 rh1, q1, fun u H2 d2 G2 f2 rd2 rh2 q2 =>
      ⟨d, d2, G2, Qd, RD.mono (f2.tle rh1) _ _ rd1, rd2, rh2, q2, k.step (f1.trans f2)⟩⟩⟩
theorem d_un {op : UnaryOp} {r : D → GH → KD → Prop} (ho : UnR X (unaryOp op) (r1D X.K r)) (ha : DE X G0 H0 a ma) : DE X G0 H0 (.UnaryOp op a pos) (mUn r ma) :=
  (pe_un ho ha).dimp fun σ H Q ⟨δ, G, Qd, R, h, k⟩ =>
    ⟨δ, G, _, R, h, fun v H1 d G1 f1 rd1 rh1 q1 => ⟨d, G1, Qd, rd1, rh1, q1, k.step f1⟩⟩
/-- its answer is a truth -/
def blOf (Q : Bool → GH → Prop) : KD := fun d G => match d with | .bl b => Q b G | _ => False
def tCmpD (r : D → D → GH → KD → Prop) (a b : ME) : MT := fun δ G Q => mOp r a b δ G (blOf Q)
theorem dt_cmp {op : CmpOp} {r : D → D → GH → KD → Prop} (ho : OpR X (compareOp op) (r2D X.K r)) (ha : DE X G0 H0 a ma) (hb : DE X G0 H0 b mb) (hm : behindInMarks op b = false) : DT X G0 H0 (.Compare a [op] [b] pos) (tCmpD r ma mb) :=
  (pt_cmpR ho ha hb hm).dimp fun σ H Q ⟨δ, G, Qd, R, h, k⟩ =>
    ⟨δ, G, _, R, h, fun v H1 d G1 f1 rd1 rh1 q1 => ⟨δ, G1, _, R.step f1 rh1, q1, fun u H2 d2 G2 f2 rd2 rh2 q2 =>
      ⟨d, d2, G2, _, RD.mono (f2.tle rh1) _ _ rd1, rd2, rh2, q2, fun w H3 d3 G3 f3 rd3 rh3 q3 => by
        cases rd3 with
        | bl b => exact ⟨b, rfl, k b H3 G3 ((f1.trans f2).trans f3) rh3 q3⟩
        | _ => exact q3.elim⟩⟩⟩
end
end DL
namespace DL
open PySem PySem.Spec PyProof.Rows L2

/-- a list that may be changed -/
def rdL (G : GH) (p : Addr) : Option (List D) := match G p with
  | some (.lst ds) => some ds
  | _ => none
theorem rdL_some {K : PySem.W.Frag} {H : Hp} {G : GH} {p : Addr} {ds : List D} (rh : RH K H G) (h : rdL G p = some ds) : ∃ vs, H p = some (.lst vs) ∧ RDs K H ds vs := by
  unfold rdL at h
  split at h
  · rename_i e; cases h
    exact rh _ _ e
  · cases h
theorem rdL_at {G : GH} {p : Addr} {ds : List D} (h : rdL G p = some ds) : G p = some (.lst ds) := by
  unfold rdL at h
  split at h
  · rename_i e; cases h; exact e
  · cases h
/-- a list, by value or where it stands -/
def lsD (G : GH) : D → Option (List D)
  | .lst ds => some ds
  | .ref p => rdL G p
  | _ => none
theorem lsD_some {K : PySem.W.Frag} {H : Hp} {G : GH} {d : D} {v : V} {ds : List D} (rh : RH K H G) (rd : RD K H d v) (h : lsD G d = some ds) : ∃ a vs, v = .ref a ∧ Rd H a (.lst vs) ∧ RDs K H ds vs := by
  cases rd with
  | lst e r => cases h; exact ⟨_, _, rfl, .inr ⟨_, e⟩, r⟩
  | ref p =>
    obtain ⟨vs, e, r⟩ := rdL_some rh h
    exact ⟨_, _, rfl, .inl e, r⟩
  | _ => cases h
theorem lsD_ref {G : GH} {d : D} {ds : List D} (h : lsD G d = some ds) : d = .lst ds ∨ ∃ p, d = .ref p ∧ G p = some (.lst ds) := by
  cases d with
  | lst es => cases h; exact .inl rfl
  | ref p => exact .inr ⟨p, rfl, rdL_at h⟩
  | _ => cases h
/-- a list or a tuple -/
def sqD (G : GH) : D → Option (List D)
  | .tup ds => some ds
  | .lst ds => some ds
  | .ref p => rdL G p
  | _ => none
/-! data of a value, lists read where they stand -/
def pyL (f : D → Option PyData) : List D → Option (List PyData)
  | [] => some []
  | d :: ds => match f d, pyL f ds with
    | some x, some xs => some (x :: xs)
    | _, _ => none
def pyN : Nat → GH → D → Option PyData
  | 0, _, _ => none
  | _ + 1, _, .non => some .none
  | _ + 1, _, .bl b => some (.bool b)
  | _ + 1, _, .int i => some (.int i)
  | _ + 1, _, .str x => if PyData.canLay0 (.str x) = true then some (.str x) else none
  | n + 1, G, .tup ds => (pyL (pyN n G) ds).map .tuple
  | n + 1, G, .lst ds => (pyL (pyN n G) ds).map .list
  | n + 1, G, .ref a => match rdL G a with
    | some ds => (pyL (pyN n G) ds).map .list
    | none => none
  | _ + 1, _, .ty _ => none
  | _ + 1, _, .rng _ _ => none

theorem pyL_dp {K : PySem.W.Frag} {H : Hp} {f : D → Option PyData} (hf : ∀ d v p, f d = some p → RD K H d v → Dp K H v p) : ∀ {ds : List D} {vs : List V} {ps : List PyData}, pyL f ds = some ps → RDs K H ds vs → DpAll K H vs ps
  | [], _, _, h, r => by cases r; cases h; exact .nil
  | d :: ds, _, ps, h, r => by
    cases r with
    | cons r1 r2 =>
      unfold pyL at h
      cases e1 : f d with
      | none => rw [e1] at h; cases h
      | some x =>
        cases e2 : pyL f ds with
        | none => rw [e1, e2] at h; cases h
        | some xs =>
          rw [e1, e2] at h; cases h
          exact .cons (hf _ _ _ e1 r1) (pyL_dp hf e2 r2)
theorem pyN_dp {K : PySem.W.Frag} {H : Hp} {G : GH} (rh : RH K H G) : ∀ (n : Nat) (d : D) (v : V) (p : PyData), pyN n G d = some p → RD K H d v → Dp K H v p := by
  intro n
  induction n with
  | zero => intro d v p h r; unfold pyN at h; cases h
  | succ n ih =>
    intro d v p h r
    cases r with
    | non => unfold pyN at h; cases h; exact .non
    | bl b => unfold pyN at h; cases h; exact .bl b
    | int i => unfold pyN at h; cases h; exact .int i
    | str x =>
      unfold pyN at h
      split at h
      · cases h; exact .str x
      · cases h
    | ty t => unfold pyN at h; cases h
    | tup hs ha =>
      unfold pyN at h
      obtain ⟨ps, e, rfl⟩ := Option.map_eq_some_iff.mp h
      exact .tup hs (pyL_dp ih e ha)
    | rng _ => unfold pyN at h; cases h
    | lst hs ha =>
      unfold pyN at h
      obtain ⟨ps, e, rfl⟩ := Option.map_eq_some_iff.mp h
      exact .lst (.inl (.inr ⟨_, hs⟩)) (pyL_dp ih e ha)
    | ref a =>
      unfold pyN at h
      split at h
      · rename_i ds e
        obtain ⟨ps, e2, rfl⟩ := Option.map_eq_some_iff.mp h
        obtain ⟨vs, e3, rs⟩ := rdL_some rh e
        exact .lst (.of e3) (pyL_dp ih e2 rs)
      · cases h
theorem pyL_lay {f : D → Option PyData} {n : Nat} (hf : ∀ d p, f d = some p → p.canLay0 = true ∧ p.depth ≤ n) : ∀ {ds : List D} {ps : List PyData}, pyL f ds = some ps → PyData.canLayAll0 ps = true ∧ PyData.depthAll ps ≤ n
  | [], _, h => by cases h; exact ⟨rfl, Nat.zero_le _⟩
  | d :: ds, ps, h => by
    unfold pyL at h
    cases e1 : f d with
    | none => rw [e1] at h; cases h
    | some x =>
      cases e2 : pyL f ds with
      | none => rw [e1, e2] at h; cases h
      | some xs =>
        rw [e1, e2] at h; cases h
        obtain ⟨a1, a2⟩ := hf _ _ e1
        obtain ⟨b1, b2⟩ := pyL_lay hf e2
        refine ⟨by unfold PyData.canLayAll0; rw [a1, b1]; rfl, ?_⟩
        unfold PyData.depthAll
        exact Nat.max_le.mpr ⟨a2, b2⟩
theorem pyN_lay {G : GH} : ∀ (n : Nat) (d : D) (p : PyData), pyN n G d = some p → p.canLay0 = true ∧ p.depth ≤ n := by
  intro n
  induction n with
  | zero => intro d p h; unfold pyN at h; cases h
  | succ n ih =>
    intro d p h
    cases d with
    | non => unfold pyN at h; cases h; exact ⟨rfl, Nat.zero_le _⟩
    | bl b => unfold pyN at h; cases h; exact ⟨rfl, Nat.zero_le _⟩
    | int i => unfold pyN at h; cases h; exact ⟨rfl, Nat.zero_le _⟩
    | str x =>
      unfold pyN at h
      split at h
      · rename_i e; cases h; exact ⟨e, Nat.zero_le _⟩
      · cases h
    | ty t => unfold pyN at h; cases h
    | rng _ _ => unfold pyN at h; cases h
    | tup ds =>
      unfold pyN at h
      obtain ⟨ps, e, rfl⟩ := Option.map_eq_some_iff.mp h
      obtain ⟨a, b⟩ := pyL_lay ih e
      exact ⟨by unfold PyData.canLay0; exact a, by unfold PyData.depth; omega⟩
    | lst ds =>
      unfold pyN at h
      obtain ⟨ps, e, rfl⟩ := Option.map_eq_some_iff.mp h
      obtain ⟨a, b⟩ := pyL_lay ih e
      exact ⟨by unfold PyData.canLay0; exact a, by unfold PyData.depth; omega⟩
    | ref a =>
      unfold pyN at h
      split at h
      · obtain ⟨ps, e, rfl⟩ := Option.map_eq_some_iff.mp h
        obtain ⟨a, b⟩ := pyL_lay ih e
        exact ⟨by unfold PyData.canLay0; exact a, by unfold PyData.depth; omega⟩
      · cases h
theorem pyN_shaped {G : GH} {n : Nat} {d : D} {p : PyData} (h : pyN n G d = some p) (hn : n ≤ 64) : SeqAt.shaped p = true := by
  obtain ⟨a, b⟩ := pyN_lay n d p h
  unfold SeqAt.shaped
  rw [a, decide_eq_true (Nat.le_trans b hn)]; rfl

/-! arithmetic -/
def rAdd : D → D → GH → KD → Prop := fun x y G Q => match x, y with
  | .int i, .int j => Q (.int (i + j)) G
  | .str a, .str b => a.length + b.length ≤ sizeLine ∧ Q (.str (a ++ b)) G
  | .tup a, .tup b => a.length + b.length ≤ sizeLine ∧ Q (.tup (a ++ b)) G
  | x, y => match lsD G x, lsD G y with
    | some a, some b => a.length + b.length ≤ sizeLine ∧ Q (.lst (a ++ b)) G
    | _, _ => False
/-- a new list that may be changed -/
def rAddM : D → D → GH → KD → Prop := fun x y G Q => match lsD G x, lsD G y with
    | some a, some b => a.length + b.length ≤ sizeLine ∧ ∀ r, G r = none → Q (.ref r) (updG G r (.lst (a ++ b)))
    | _, _ => False
def rSub : D → D → GH → KD → Prop := fun x y G Q => match x, y with
  | .int i, .int j => Q (.int (i - j)) G
  | _, _ => False
def rMul : D → D → GH → KD → Prop := fun x y G Q => match x, y with
  | .int i, .int j => (CMul i j ∨ CMulW i j) ∧ Q (.int (i * j)) G
  | .tup a, .int k => (1 ≤ k ∧ k ≤ 1000 ∧ a.length ≤ 1000) ∧ Q (.tup (List.replicate k.toNat a).flatten) G
  | .ref p, .int k => match rdL G p with
    | some a => (-(2 ^ 63) ≤ k ∧ k < 2 ^ 63) ∧ a.length * k.toNat ≤ sizeLine ∧ Q (.lst (List.replicate k.toNat a).flatten) G
    | none => False
  | _, _ => False
def rMulM : D → D → GH → KD → Prop := fun x y G Q => match x, y with
  | .ref p, .int k => match rdL G p with
    | some a => (-(2 ^ 63) ≤ k ∧ k < 2 ^ 63) ∧ a.length * k.toNat ≤ sizeLine ∧ ∀ r, G r = none → Q (.ref r) (updG G r (.lst (List.replicate k.toNat a).flatten))
    | none => False
  | _, _ => False
def rFdiv : D → D → GH → KD → Prop := fun x y G Q => match x, y with
  | .int i, .int j => (0 < j ∧ j < 2 ^ 62) ∧ Q (.int (i / j)) G
  | _, _ => False
def rMod : D → D → GH → KD → Prop := fun x y G Q => match x, y with
  | .int i, .int j => 0 < j ∧ Q (.int (i % j)) G
  | _, _ => False
def rPow : D → D → GH → KD → Prop := fun x y G Q => match x, y with
  | .int i, .int j => (0 ≤ j ∧ j ≤ 100000 ∧ i.natAbs < 2 ^ 256) ∧ Q (.int (i ^ j.toNat)) G
  | _, _ => False
theorem intBits_le256 {a : Int} (h : a.natAbs < 2 ^ 256) : Builtin.Int.intBits a ≤ 256 := by
  unfold Builtin.Int.intBits
  split
  · omega
  · rename_i h0
    have h0' : a ≠ 0 := by simpa using h0
    have : a.natAbs.log2 < 256 := (Nat.log2_lt (by omega)).mpr h
    omega
theorem lstR {X : Cx} {pins : List (Addr × Obj)} {σ : L2.St} {H : Hp} {s : Shared} {l : Addr} {xs : List V} (I : Inv X pins σ H s) (h : Rd H l (.lst xs)) :
    ∃ (its : List Value) (n : Nat), Vals xs its ∧ its.length = xs.length ∧ xs.length ≤ sizeLine ∧ s.heap.get? l = some { cls := .type "list", data := .seq its.toArray n } := by
  obtain ⟨z, its, n, r, e⟩ := h.ok I.hok
  exact ⟨its, n, r, r.length.symm, z, e⟩
/-- a list and a list, to be read alone or not -/
theorem catR {X : Cx} {pins : List (Addr × Obj)} {σ : L2.St} {H : Hp} {s : Shared} {p q : Addr} {xs ys : List V} {Q : VK} (I : Inv X pins σ H s) (h1 : Rd H p (.lst xs)) (h2 : Rd H q (.lst ys)) (hl : xs.length + ys.length ≤ sizeLine)
    (k : ∀ r, H r = none → Q (.ref r) (upd H r (.lst (xs ++ ys)))) : wpAny (model X.prog X.w) X.A (binaryOp .Add (.ref p) (.ref q)) (EP X pins σ Q) X.xe s := by
  obtain ⟨as, n, r1, l1, _, e1⟩ := lstR I h1
  obtain ⟨bs, m, r2, l2, _, e2⟩ := lstR I h2
  refine PySem.P.add_list e1 e2 ?_ (by simp only [List.size_toArray]; omega)
  have ea : as.toArray ++ bs.toArray = (as ++ bs).toArray := by simp
  have hz : (xs ++ ys).length ≤ sizeLine := by rw [List.length_append]; exact hl
  rw [ea]
  exact ⟨.ref _, _, I.lnew (t' := s.toks) (r1.append r2) hz, rfl, k _ I.fresh⟩
/-! a tuple, k times -/
theorem tup_once (l : Addr) (items : Array Value) (n : Nat) (dd : Option Addr) (sl : Array (Option Value)) (x : Int) (u : Tok) (c0 : (decide (x < -(2 ^ 63)) || decide (x ≥ 2 ^ 63)) = false) (c1 : (items.isEmpty || x == 1) = true) :
    Meets (Builtin.«tuple.__mul__» ⟨[.ref l, .int x u], []⟩) (fun _ R s => s.heap.get? l = some { cls := .type "tuple", dict := dd, data := .seq items n, slots := sl } ∧ R (.ok (.ret (.ref l))) s) :=
  .of_wp fun prog w A R s h => by
    obtain ⟨hp, g, d, tk, os⟩ := s
    obtain ⟨hl, h⟩ := h
    have f1 := AutoSeq1.idx_int
    wp_walk using AutoSeq1.wpAny_loadPart' hl
    repeat (first
      | (refine wpAny_ite_false (decide_eq_false (by rw [c0]; exact Bool.false_ne_true)) ?_; wp_walk using AutoSeq1.wpAny_loadPart' hl)
      | (refine wpAny_ite_true (decide_eq_true (by rw [c1])) ?_; wp_walk using AutoSeq1.wpAny_loadPart' hl))
    exact ⟨_, rfl, h⟩
theorem repTupR {X : Cx} {pins : List (Addr × Obj)} {σ : L2.St} {H : Hp} {s : Shared} {l : Addr} {xs : List V} {k : Int} {t : Tok} {Q : VK} (I : Inv X pins σ H s) (hT : SqT X.K H l xs) (h1 : k = 1 ∨ xs = []) (hk : 1 ≤ k) (hk2 : k ≤ 1000) (q : Q (.ref l) H) :
    wpAny (model X.prog X.w) X.A (binaryOp .Mult (.ref l) (.int k t)) (EP X pins σ Q) X.xe s := by
  obtain ⟨its, r, ⟨⟨cls, dd, data, sl⟩, ho, hc, n, hd⟩, hs⟩ := I.tuple hT
  simp only at hc hd
  subst hc hd
  have c0 : (decide (k < -(2 ^ 63)) || decide (k ≥ 2 ^ 63)) = false := by
    rw [decide_eq_false (by omega), decide_eq_false (by omega)] <;> rfl
  have c1 : (its.toArray.isEmpty || k == 1) = true := by
    rcases h1 with e | e
    · subst e; simp
    · subst e
      cases r
      simp
  exact wpAny_binaryOp_repeat_ref (T := "tuple") (U := "int") (by decide) ⟨_, ho, rfl⟩ (fun s' => typeIs_int s' k t) noFill_tuple_mul F.fills_int_mul F.slot_int_rmul repeat_tuple F.slot_int_index.lookup
    (call_meets F.slot_int_rmul (typeIs_int s k t) F.entry_int_rmul (F.args_int_rmul_2 _ _) (int_rmul_tuple k t l its.toArray n dd sl)
      ⟨ho, rfl, ⟨_, ho, rfl⟩, call_meets F.slot_tuple_mul ⟨_, ho, rfl⟩ F.entry_tuple_mul (F.args_tuple_mul_2 _ _) (tup_once l its.toArray n dd sl k t c0 c1) ⟨ho, ⟨.ref l, H, I, rfl, q⟩⟩⟩)
section
variable {X : Cx}
theorem o_add : OpR X (binaryOp .Add) (r2D X.K rAdd) := by
  rintro pins s σ H x y v u Q I rx ry ⟨dx, dy, G, Qd, h1, h2, rh, h, k⟩
  unfold rAdd at h
  split at h
  · cases h1; cases h2
    exact op_add pins s σ H _ _ v u Q I rx ry ⟨_, _, rfl, rfl, k.here (.int _) rh h⟩
  · cases h1; cases h2
    exact op_add_str pins s σ H _ _ v u Q I rx ry ⟨_, _, rfl, rfl, h.1, k.here (.str _) rh h.2⟩
  · cases h1 with
    | tup s1 r1 =>
      cases h2 with
      | tup s2 r2 =>
        have l1 := r1.length
        have l2 := r2.length
        refine op_catA pins s σ H _ _ v u Q I rx ry ⟨_, _, _, _, rfl, rfl, s1, s2, by rw [← l1, ← l2]; exact h.1, fun e => ?_, fun e1 e2 => ?_, fun _ _ p np => k.tup (RDs.append r1 r2) rh np h.2⟩
        · subst e
          cases r1
          exact k.here (.tup s2 r2) rh h.2
        · subst e2
          cases r2
          refine k.here (.tup s1 r1) rh ?_
          have := h.2
          rw [List.append_nil] at this; exact this
  · split at h
    · rename_i e1 e2
      obtain ⟨p, vs, rfl, f1, r1⟩ := lsD_some rh h1 e1
      obtain ⟨q, ws, rfl, f2, r2⟩ := lsD_some rh h2 e2
      cases rx
      cases ry
      have l1 := r1.length
      have l2 := r2.length
      exact wpAny_mono (catR I f1 f2 (by rw [← l1, ← l2]; exact h.1) fun p np => k.lstV (RDs.append r1 r2) rh np h.2) (fun _ _ x => LockQ.ep x) fun _ _ x => x
    · exact h.elim
theorem o_addM : OpR X (binaryOp .Add) (r2D X.K rAddM) := by
  rintro pins s σ H x y v u Q I rx ry ⟨dx, dy, G, Qd, h1, h2, rh, h, k⟩
  unfold rAddM at h
  split at h
  · rename_i e1 e2
    obtain ⟨p, vs, rfl, f1, r1⟩ := lsD_some rh h1 e1
    obtain ⟨q, ws, rfl, f2, r2⟩ := lsD_some rh h2 e2
    cases rx
    cases ry
    have l1 := r1.length
    have l2 := r2.length
    exact catR I f1 f2 (by rw [← l1, ← l2]; exact h.1) fun p np => k.lst (RDs.append r1 r2) rh np h.2
  · exact h.elim
theorem o_sub : OpR X (binaryOp .Sub) (r2D X.K rSub) := by
  rintro pins s σ H x y v u Q I rx ry ⟨dx, dy, G, Qd, h1, h2, rh, h, k⟩
  unfold rSub at h
  split at h
  · cases h1; cases h2
    exact op_sub pins s σ H _ _ v u Q I rx ry ⟨_, _, rfl, rfl, k.here (.int _) rh h⟩
  · exact h.elim
theorem RDs.rep {K : PySem.W.Frag} {H : Hp} {ds : List D} {vs : List V} (r : RDs K H ds vs) : ∀ (n : Nat), RDs K H (List.replicate n ds).flatten (List.replicate n vs).flatten
  | 0 => .nil
  | n + 1 => by rw [List.replicate_succ, List.replicate_succ, List.flatten_cons, List.flatten_cons]; exact RDs.append r (RDs.rep r n)
theorem o_mul : OpR X (binaryOp .Mult) (r2D X.K rMul) := by
  rintro pins s σ H x y v u Q I rx ry ⟨dx, dy, G, Qd, h1, h2, rh, h, k⟩
  unfold rMul at h
  split at h
  · cases h1; cases h2
    rcases h.1 with c | c
    · exact op_mul pins s σ H _ _ v u Q I rx ry ⟨_, _, rfl, rfl, c, k.here (.int _) rh h.2⟩
    · exact op_mulW pins s σ H _ _ v u Q I rx ry ⟨_, _, rfl, rfl, c, k.here (.int _) rh h.2⟩
  · rename_i ds kk
    cases h2
    cases h1 with
    | tup s1 a1 =>
      have l1 := a1.length
      obtain ⟨⟨k1, k2, k3⟩, q⟩ := h
      by_cases e : kk = 1 ∨ ds = []
      · have e' : (List.replicate kk.toNat ds).flatten = ds := by
          rcases e with e | e
          · subst e; simp
          · subst e; simp
        rw [e'] at q
        cases rx
        obtain ⟨t, rfl⟩ := ry
        exact repTupR I s1 (e.imp id fun z => by subst z; cases a1; rfl) k1 k2 (k.here (.tup s1 a1) rh q)
      · simp only [not_or] at e
        exact op_repT pins s σ H _ _ v u Q I rx ry ⟨_, kk, _, rfl, rfl, s1, fun z => e.2 (by subst z; cases a1; rfl), by omega, k2, by rw [← l1]; exact k3, fun p np => k.tup (a1.rep _) rh np q⟩
  · cases h1; cases h2
    split at h
    · rename_i e1
      obtain ⟨vs, f1, r1⟩ := rdL_some rh e1
      have l1 := r1.length
      exact wpAny_mono (op_rep pins s σ H _ _ v u (LockQ Q) I rx ry ⟨_, _, _, rfl, rfl, f1, h.1.1, h.1.2, by rw [← l1]; exact h.2.1, fun p np => k.lstV (r1.rep _) rh np h.2.2⟩) (fun _ _ x => LockQ.ep x) fun _ _ x => x
    · exact h.elim
  · exact h.elim
theorem o_mulM : OpR X (binaryOp .Mult) (r2D X.K rMulM) := by
  rintro pins s σ H x y v u Q I rx ry ⟨dx, dy, G, Qd, h1, h2, rh, h, k⟩
  unfold rMulM at h
  split at h
  · cases h1; cases h2
    split at h
    · rename_i e1
      obtain ⟨vs, f1, r1⟩ := rdL_some rh e1
      have l1 := r1.length
      exact op_rep pins s σ H _ _ v u Q I rx ry ⟨_, _, _, rfl, rfl, f1, h.1.1, h.1.2, by rw [← l1]; exact h.2.1, fun p np => k.lst (r1.rep _) rh np h.2.2⟩
    · exact h.elim
  · exact h.elim
theorem o_fdiv : OpR X (binaryOp .FloorDiv) (r2D X.K rFdiv) := by
  rintro pins s σ H x y v u Q I rx ry ⟨dx, dy, G, Qd, h1, h2, rh, h, k⟩
  unfold rFdiv at h
  split at h
  · cases h1; cases h2
    exact op_fdivW pins s σ H _ _ v u Q I rx ry ⟨_, _, rfl, rfl, wide_div h.1.1 (b := 62) (by have := h.1; omega) (by decide) (by decide), k.here (.int _) rh h.2⟩
  · exact h.elim
theorem o_mod : OpR X (binaryOp .Mod) (r2D X.K rMod) := by
  rintro pins s σ H x y v u Q I rx ry ⟨dx, dy, G, Qd, h1, h2, rh, h, k⟩
  unfold rMod at h
  split at h
  · cases h1; cases h2
    exact op_mod pins s σ H _ _ v u Q I rx ry ⟨_, _, rfl, rfl, h.1, k.here (.int _) rh h.2⟩
  · exact h.elim
theorem o_pow : OpR X (binaryOp .Pow) (r2D X.K rPow) := by
  rintro pins s σ H x y v u Q I rx ry ⟨dx, dy, G, Qd, h1, h2, rh, h, k⟩
  unfold rPow at h
  split at h
  · rename_i i j
    cases h1; cases h2
    obtain ⟨t, rfl⟩ := rx
    obtain ⟨t', rfl⟩ := ry
    have hb : Builtin.Int.intBits i ≤ 256 := intBits_le256 h.1.2.2
    have h3 : (Builtin.Int.intBits i : Int) * j ≤ 256 * j := Int.mul_le_mul_of_nonneg_right (by omega) h.1.1
    exact PyProof.Rows.pow_int h.1.1 (by have := h.1.2.1; omega) ⟨.int _, H, I.tok _, ⟨_, rfl⟩, k.here (.int _) rh h.2⟩
  · exact h.elim
def rNeg : D → GH → KD → Prop := fun x G Q => match x with | .int i => Q (.int (-i)) G | _ => False
theorem o_neg : UnR X (unaryOp .USub) (r1D X.K rNeg) := by
  rintro pins s σ H x v Q I rx ⟨dx, G, Qd, h1, rh, h, k⟩
  unfold rNeg at h
  split at h
  · cases h1
    exact un_neg pins s σ H _ v Q I rx ⟨_, rfl, k.here (.int _) rh h⟩
  · exact h.elim

/-! comparisons -/
def rEq : D → D → GH → KD → Prop := fun x y G Q => match x, y with
  | .int i, .int j => Q (.bl (decide (i = j))) G
  | .str a, .str b => Q (.bl (decide (a = b))) G
  | .bl a, .bl b => Q (.bl (decide (a = b))) G
  | x, y => match pyN 60 G x, pyN 60 G y with
    | some p, some q => Q (.bl (PyData.eqv p q)) G
    | _, _ => False
def rNe : D → D → GH → KD → Prop := fun x y G Q => rEq x y G fun d G' => match d with | .bl b => Q (.bl (!b)) G' | _ => False
theorem o_eq (hu : X.A.units + 64 < cLine) : OpR X (compareOp .Eq) (r2D X.K rEq) := by
  rintro pins s σ H x y v u Q I rx ry ⟨dx, dy, G, Qd, h1, h2, rh, h, k⟩
  unfold rEq at h
  split at h
  · cases h1; cases h2
    refine op_eq pins s σ H _ _ v u Q I rx ry ⟨rfl, ?_⟩
    rename_i a b
    rw [show decide (V.int a = V.int b) = decide (a = b) from by by_cases e : a = b <;> simp [e]]; exact k.here (.bl _) rh h
  · cases h1; cases h2
    refine op_eq pins s σ H _ _ v u Q I rx ry ⟨rfl, ?_⟩
    rename_i a b
    rw [show decide (V.str a = V.str b) = decide (a = b) from by by_cases e : a = b <;> simp [e]]; exact k.here (.bl _) rh h
  · cases h1; cases h2
    refine op_eq pins s σ H _ _ v u Q I rx ry ⟨rfl, ?_⟩
    rename_i a b
    rw [show decide (V.bl a = V.bl b) = decide (a = b) from by by_cases e : a = b <;> simp [e]]; exact k.here (.bl _) rh h
  · split at h
    · rename_i p q e1 e2
      exact op_eqD hu pins s σ H _ _ v u Q I rx ry ⟨p, q, pyN_dp rh _ _ _ _ e1 h1, pyN_dp rh _ _ _ _ e2 h2, pyN_shaped e1 (by decide), pyN_shaped e2 (by decide), k.here (.bl _) rh h⟩
    · exact h.elim
theorem o_ne (hu : X.A.units + 64 < cLine) : OpR X (compareOp .NotEq) (r2D X.K rNe) := by
  rintro pins s σ H x y v u Q I rx ry ⟨dx, dy, G, Qd, h1, h2, rh, h, k⟩
  unfold rNe rEq at h
  split at h
  · cases h1; cases h2
    refine op_ne pins s σ H _ _ v u Q I rx ry ⟨rfl, ?_⟩
    rename_i a b
    rw [show decide (V.int a = V.int b) = decide (a = b) from by by_cases e : a = b <;> simp [e]]; exact k.here (.bl _) rh h
  · cases h1; cases h2
    refine op_ne pins s σ H _ _ v u Q I rx ry ⟨rfl, ?_⟩
    rename_i a b
    rw [show decide (V.str a = V.str b) = decide (a = b) from by by_cases e : a = b <;> simp [e]]; exact k.here (.bl _) rh h
  · cases h1; cases h2
    refine op_ne pins s σ H _ _ v u Q I rx ry ⟨rfl, ?_⟩
    rename_i a b
    rw [show decide (V.bl a = V.bl b) = decide (a = b) from by by_cases e : a = b <;> simp [e]]; exact k.here (.bl _) rh h
  · split at h
    · rename_i p q e1 e2
      exact op_neD hu pins s σ H _ _ v u Q I rx ry ⟨p, q, pyN_dp rh _ _ _ _ e1 h1, pyN_dp rh _ _ _ _ e2 h2, pyN_shaped e1 (by decide), pyN_shaped e2 (by decide), k.here (.bl _) rh h⟩
    · exact h.elim
/-- is None -/
def isNon : D → Bool | .non => true | _ => false
def rIs : D → D → GH → KD → Prop := fun x y G Q => match x, y with
  | .bl a, .bl b => Q (.bl (decide (a = b))) G
  | x, .non => Q (.bl (isNon x)) G
  | _, _ => False
def rIsNot : D → D → GH → KD → Prop := fun x y G Q => match x, y with
  | .bl a, .bl b => Q (.bl (!decide (a = b))) G
  | x, .non => Q (.bl (!isNon x)) G
  | _, _ => False
theorem isNon_rd {K : PySem.W.Frag} {H : Hp} {d : D} {v : V} (r : RD K H d v) : decide (v = .non) = isNon d := by
  cases r <;> simp [isNon]
theorem o_is : OpR X (compareOp .Is) (r2D X.K rIs) := by
  rintro pins s σ H x y v u Q I rx ry ⟨dx, dy, G, Qd, h1, h2, rh, h, k⟩
  unfold rIs at h
  split at h
  · cases h1; cases h2
    exact op_is_bl pins s σ H _ _ v u Q I rx ry ⟨_, _, rfl, rfl, k.here (.bl _) rh h⟩
  · cases h2
    refine op_isN pins s σ H _ _ v u Q I rx ry ⟨rfl, ?_⟩
    rw [isNon_rd h1]; exact k.here (.bl _) rh h
  · exact h.elim
theorem o_isnot : OpR X (compareOp .IsNot) (r2D X.K rIsNot) := by
  rintro pins s σ H x y v u Q I rx ry ⟨dx, dy, G, Qd, h1, h2, rh, h, k⟩
  unfold rIsNot at h
  split at h
  · cases h1; cases h2
    exact op_isnot_bl pins s σ H _ _ v u Q I rx ry ⟨_, _, rfl, rfl, k.here (.bl _) rh h⟩
  · cases h2
    refine op_notN pins s σ H _ _ v u Q I rx ry ⟨rfl, ?_⟩
    rw [isNon_rd h1]; exact k.here (.bl _) rh h
  · exact h.elim
/-- x in a tuple, a list, a text, a range -/
def rngOf : D → Option (Int × Int)
  | .rng lo hi => some (lo, hi)
  | _ => none
def rIn : D → D → GH → KD → Prop := fun x y G Q => match x, y with
  | .str a, .str b => Q (.bl (!(Builtin.Str.occurrences b a 0 b.length 1).isEmpty)) G
  | x, y => match rngOf y with
    | some (lo, hi) => match x with
      | .int i => Q (.bl (decide (lo ≤ i ∧ i < hi))) G
      | _ => False
    | none => match pyN 60 G x, pyN 60 G y with
      | some p, some (.tuple qs) => Q (.bl (qs.any fun z => PyData.eqv z p)) G
      | some p, some (.list qs) => Q (.bl (qs.any fun z => PyData.eqv z p)) G
      | _, _ => False
def rNotIn : D → D → GH → KD → Prop := fun x y G Q => rIn x y G fun d G' => match d with | .bl b => Q (.bl (!b)) G' | _ => False
theorem rngOf_some {K : PySem.W.Frag} {H : Hp} {d : D} {v : V} {lo hi : Int} (rd : RD K H d v) (h : rngOf d = some (lo, hi)) : ∃ a, v = .ref a ∧ H a = some (.rng lo hi) := by
  cases rd with
  | rng e => cases h; exact ⟨_, rfl, e⟩
  | _ => cases h
theorem op_notin_rng : OpR X (compareOp .NotIn) (fun x y H Q => ∃ i a lo hi, x = V.int i ∧ y = V.ref a ∧ H a = some (.rng lo hi) ∧ Q (.bl (!decide (lo ≤ i ∧ i < hi))) H) := by
  rintro pins s σ H x y v u Q I rx ry ⟨i, a, lo, hi, rfl, rfl, ha, q⟩
  obtain ⟨k, rfl⟩ := rx
  obtain rfl : u = Value.ref a := ry
  obtain ⟨t1, t2, t3, ho⟩ := I.hok a _ ha
  show wpAny _ _ (do return Value.bool (!(← contains (Value.ref a) (Value.int i k)))) _ _ s
  refine wpAny_bind (wpAny_contains_slot (T := "range") ⟨_, ho, rfl⟩ F.slot_range_contains
    (call_meets F.slot_range_contains ⟨_, ho, rfl⟩ F.entry_range_contains
      (F.args_range_contains_2 _ _) (q_contains a lo hi i t1 t2 t3 k) ⟨ho, wpAny_truthy_bool (wpAny_pure ⟨.bl _, H, I, rfl, ?_⟩)⟩))
  rw [place1]; exact q
theorem o_in (hu : X.A.units + 65 < cLine) : OpR X (compareOp .In) (r2D X.K rIn) := by
  rintro pins s σ H x y v u Q I rx ry ⟨dx, dy, G, Qd, h1, h2, rh, h, k⟩
  unfold rIn at h
  split at h
  · cases h1; cases h2
    exact op_in_str pins s σ H _ _ v u Q I rx ry ⟨_, _, rfl, rfl, k.here (.bl _) rh h⟩
  · split at h
    · rename_i lo hi e
      obtain ⟨a, rfl, ha⟩ := rngOf_some h2 e
      split at h
      · cases h1
        exact op_in_rng pins s σ H _ _ v u Q I rx ry ⟨_, _, _, _, rfl, rfl, ha, k.here (.bl _) rh h⟩
      · exact h.elim
    · split at h
      · rename_i p q e1 e2
        obtain ⟨as, r1⟩ := Dp.reads I _ _ _ (pyN_dp rh _ _ _ _ e1 h1) rx
        obtain ⟨bs, r2⟩ := Dp.reads I _ _ _ (pyN_dp rh _ _ _ _ e2 h2) ry
        exact SeqAt.in_tuple_reads r2 r1 (SeqAt.canLay_of_shaped (pyN_shaped e2 (by decide))) (SeqAt.canLay_of_shaped (pyN_shaped e1 (by decide))) (room_in_shaped (pyN_shaped e1 (by decide)) hu) ⟨.bl _, H, I, rfl, k.here (.bl _) rh h⟩
      · rename_i p q e1 e2
        exact op_inD hu pins s σ H _ _ v u Q I rx ry ⟨p, q, pyN_dp rh _ _ _ _ e1 h1, pyN_dp rh _ _ _ _ e2 h2, pyN_shaped e1 (by decide), pyN_shaped e2 (by decide), k.here (.bl _) rh h⟩
      · exact h.elim
theorem o_notin (hu : X.A.units + 65 < cLine) : OpR X (compareOp .NotIn) (r2D X.K rNotIn) := by
  rintro pins s σ H x y v u Q I rx ry ⟨dx, dy, G, Qd, h1, h2, rh, h, k⟩
  unfold rNotIn rIn at h
  split at h
  · cases h1; cases h2
    exact op_notIn_str pins s σ H _ _ v u Q I rx ry ⟨_, _, rfl, rfl, k.here (.bl _) rh h⟩
  · split at h
    · rename_i lo hi e
      obtain ⟨a, rfl, ha⟩ := rngOf_some h2 e
      split at h
      · cases h1
        exact op_notin_rng pins s σ H _ _ v u Q I rx ry ⟨_, _, _, _, rfl, rfl, ha, k.here (.bl _) rh h⟩
      · exact h.elim
    · split at h
      · rename_i p q e1 e2
        obtain ⟨as, r1⟩ := Dp.reads I _ _ _ (pyN_dp rh _ _ _ _ e1 h1) rx
        obtain ⟨bs, r2⟩ := Dp.reads I _ _ _ (pyN_dp rh _ _ _ _ e2 h2) ry
        exact SeqAt.notIn_tuple_reads r2 r1 (SeqAt.canLay_of_shaped (pyN_shaped e2 (by decide))) (SeqAt.canLay_of_shaped (pyN_shaped e1 (by decide))) (room_in_shaped (pyN_shaped e1 (by decide)) hu) ⟨.bl _, H, I, rfl, k.here (.bl _) rh h⟩
      · rename_i p q e1 e2
        exact op_notInD hu pins s σ H _ _ v u Q I rx ry ⟨p, q, pyN_dp rh _ _ _ _ e1 h1, pyN_dp rh _ _ _ _ e2 h2, pyN_shaped e1 (by decide), pyN_shaped e2 (by decide), k.here (.bl _) rh h⟩
      · exact h.elim
end
end DL
namespace DL
open PySem PySem.Spec PyProof.Rows L2

/-! order: ints, texts (only <), tuples of such -/
inductive Cm where | lt | le | gt | ge
def Cm.op : Cm → CmpOp | .lt => .Lt | .le => .LtE | .gt => .Gt | .ge => .GtE
def Cm.i (c : Cm) (i j : Int) : Bool := match c with
  | .lt => decide (i < j) | .le => decide (i ≤ j) | .gt => decide (j < i) | .ge => decide (j ≤ i)
def Cm.s (c : Cm) (a b : Str) : Bool := match c with
  | .lt => decide (a.cps.toList < b.cps.toList) | .le => !decide (b.cps.toList < a.cps.toList) | .gt => decide (b.cps.toList < a.cps.toList) | .ge => !decide (a.cps.toList < b.cps.toList)
def ordL (c : Cm) (e : D → D → Option Bool) (f : D → D → Option Bool) : List D → List D → Option Bool
  | [], ys => some (c.i 0 ys.length)
  | x :: xs, [] => some (c.i (xs.length + 1) 0)
  | x :: xs, y :: ys => match ordL c e f xs ys, e x y with
    | some r, some b => if b = true then some r else f x y
    | _, _ => none
def eqN (G : GH) (x y : D) : Option Bool := match pyN 60 G x, pyN 60 G y with
  | some p, some q => some (PyData.eqv p q)
  | _, _ => none
def ordD (c : Cm) (G : GH) : Nat → D → D → Option Bool
  | _, .int i, .int j => some (c.i i j)
  | _, .str a, .str b => some (c.s a b)
  | n + 1, .tup xs, .tup ys => ordL c (eqN G) (ordD c G n) xs ys
  | n + 1, x, y => match lsD G x, lsD G y with
    | some xs, some ys => ordL c (eqN G) (ordD c G n) xs ys
    | _, _ => none
  | _, _, _ => none

def RcG (c : Cm) (A : Around) (s : Shared) (x y : Value) (b : Bool) : Prop :=
  ∀ (prog : Program) (w : World) (E : Value → Shared → Prop) (Q : Value → Shared → Prop), Q (.bool b) s → wpAny (model prog w) A (richCompare (match c with | .lt => .Lt | .le => .LtE | .gt => .Gt | .ge => .GtE) x y) Q E s
theorem RcG.int (c : Cm) {A : Around} {s : Shared} (a b : Int) (t u : Tok) : RcG c A s (.int a t) (.int b u) (c.i a b) := by
  intro P w E Q h
  cases c
  · exact Ob.RcOp.lt_int a b t u P w E Q h
  · exact Ob.RcOp.le_int a b t u P w E Q h
  · exact Ob.RcOp.gt_int a b t u P w E Q h
  · exact Ob.RcOp.ge_int a b t u P w E Q h
theorem RcG.tuples (c : Cm) {A : Around} {s : Shared} {l b : Addr} {items items2 : Array Value} {e r : Nat → Bool} (hl : s.heap.IsTuple l items) (hb : s.heap.IsTuple b items2) (hu : A.units < cLine)
    (he : ∀ j (h1 : j < items.size) (h2 : j < items2.size), SeqAt.EqAt A.in1 s items[j] items2[j] (e j))
    (hr : ∀ j (h1 : j < items.size) (h2 : j < items2.size), e j = false → RcG c A.in1 s items[j] items2[j] (r j)) :
    RcG c A s (.ref l) (.ref b) (Ob.lexAt e r (c.i items.size items2.size) 0 (min items.size items2.size)) := by
  cases c
  · have := Ob.RcOp.tuples_lt hl hb hu he hr
    intro P w E Q h
    refine this P w E Q ?_
    have e : (decide (items.size < items2.size)) = Cm.i .lt items.size items2.size := by simp [Cm.i]
    rw [e]; exact h
  · have := Ob.RcOp.tuples_le hl hb hu he hr
    intro P w E Q h
    refine this P w E Q ?_
    have e : (decide (items.size ≤ items2.size)) = Cm.i .le items.size items2.size := by simp [Cm.i]
    rw [e]; exact h
  · have := Ob.RcOp.tuples_gt hl hb hu he hr
    intro P w E Q h
    refine this P w E Q ?_
    have e : (decide (items.size > items2.size)) = Cm.i .gt items.size items2.size := by simp [Cm.i]
    rw [e]; exact h
  · have := Ob.RcOp.tuples_ge hl hb hu he hr
    intro P w E Q h
    refine this P w E Q ?_
    have e : (decide (items.size ≥ items2.size)) = Cm.i .ge items.size items2.size := by simp [Cm.i]
    rw [e]; exact h

theorem RcG.str (c : Cm) {A : Around} {s : Shared} (a b : Str) (t u : Tok) : RcG c A s (.str a t) (.str b u) (c.s a b) := by
  intro P w E Q h
  cases c
  · exact PySem.P.lt_str h
  · exact PySem.P.le_str h
  · exact PySem.P.gt_str h
  · exact PySem.P.ge_str h
theorem firstLt_lex (e r : Nat → Bool) (z : Bool) : ∀ (k i : Nat), PySem.SeqAt.firstLt e r z (List.range' i k) = Ob.lexAt e r z i k
  | 0, _ => rfl
  | k + 1, i => by
    rw [List.range'_succ, PySem.SeqAt.firstLt, Ob.lexAt_succ, firstLt_lex e r z k (i + 1)]
theorem RcG.lists (c : Cm) {A : Around} {s : Shared} {l b : Addr} {items items2 : Array Value} {e r : Nat → Bool} (hl : s.heap.IsList l items) (hb : s.heap.IsList b items2) (hu : A.units < cLine)
    (he : ∀ j (h1 : j < items.size) (h2 : j < items2.size), SeqAt.EqAt A.in1 s items[j] items2[j] (e j))
    (hr : ∀ j (h1 : j < items.size) (h2 : j < items2.size), e j = false → RcG c A.in1 s items[j] items2[j] (r j)) :
    RcG c A s (.ref l) (.ref b) (Ob.lexAt e r (c.i items.size items2.size) 0 (min items.size items2.size)) := by
  rw [← firstLt_lex, ← List.range_eq_range']
  cases c
  · intro P w E Q h
    refine PySem.SeqAt.RcLt.lists hl hb hu he hr P w E Q ?_
    have e : (decide (items.size < items2.size)) = Cm.i .lt items.size items2.size := by simp [Cm.i]
    rw [e]; exact h
  · intro P w E Q h
    refine PySem.SeqAt.RcOp.lists_le hl hb hu he hr P w E Q ?_
    have e : (decide (items.size ≤ items2.size)) = Cm.i .le items.size items2.size := by simp [Cm.i]
    rw [e]; exact h
  · intro P w E Q h
    refine PySem.SeqAt.RcOp.lists_gt hl hb hu he hr P w E Q ?_
    have e : (decide (items.size > items2.size)) = Cm.i .gt items.size items2.size := by simp [Cm.i]
    rw [e]; exact h
  · intro P w E Q h
    refine PySem.SeqAt.RcOp.lists_ge hl hb hu he hr P w E Q ?_
    have e : (decide (items.size ≥ items2.size)) = Cm.i .ge items.size items2.size := by simp [Cm.i]
    rw [e]; exact h
theorem Cm.shift (c : Cm) (a b k : Int) : c.i (a + k) (b + k) = c.i a b := by
  cases c <;> simp [Cm.i]
theorem lexAt_shift (e r : Nat → Bool) (z : Bool) : ∀ (k i : Nat), Ob.lexAt e r z (i + 1) k = Ob.lexAt (fun j => e (j + 1)) (fun j => r (j + 1)) z i k
  | 0, _ => rfl
  | k + 1, i => by
    rw [Ob.lexAt_succ, Ob.lexAt_succ, lexAt_shift e r z k (i + 1)]
/-- what ordL says, by places -/
theorem ordL_sem {c : Cm} {e f : D → D → Option Bool} {A : Around} {s : Shared} {K : PySem.W.Frag} {H : Hp}
    (he : ∀ x y b v w u t, e x y = some b → RD K H x v → RD K H y w → RelV v u → RelV w t → SeqAt.EqAt A s u t b)
    (hf : ∀ x y b v w u t, f x y = some b → RD K H x v → RD K H y w → RelV v u → RelV w t → RcG c A s u t b) :
    ∀ {xs ys : List D} {b : Bool} {vs ws : List V} {us ts : List Value}, ordL c e f xs ys = some b → RDs K H xs vs → RDs K H ys ws → Vals vs us → Vals ws ts →
    ∃ (E R : Nat → Bool), (∀ (j : Nat) (u t : Value), us[j]? = some u → ts[j]? = some t → SeqAt.EqAt A s u t (E j) ∧ (E j = false → RcG c A s u t (R j))) ∧
      Ob.lexAt E R (c.i us.length ts.length) 0 (min us.length ts.length) = b
  | [], ys, b, _, ws, us, ts, h, h1, h2, r1, r2 => by
    cases h1; cases r1
    unfold ordL at h
    cases h
    refine ⟨fun _ => false, fun _ => false, fun j u t e1 => by simp at e1, ?_⟩
    have l := h2.length
    have l2 := r2.length
    simp only [List.length_nil, Nat.zero_min, Ob.lexAt_zero]
    rw [l, l2]; rfl
  | x :: xs, [], b, _, ws, us, ts, h, h1, h2, r1, r2 => by
    cases h2; cases r2
    unfold ordL at h
    cases h
    refine ⟨fun _ => false, fun _ => false, fun j u t _ e1 => by simp at e1, ?_⟩
    have l := h1.length
    have l2 := r1.length
    simp only [List.length_nil, Nat.min_zero, Ob.lexAt_zero]
    rw [← l2, ← l, List.length_cons]; rfl
  | x :: xs, y :: ys, b, _, _, _, _, h, h1, h2, r1, r2 => by
    cases h1 with
    | cons a1 b1 =>
      cases h2 with
      | cons a2 b2 =>
        cases r1 with
        | cons c1 d1 =>
          cases r2 with
          | cons c2 d2 =>
            unfold ordL at h
            split at h
            · rename_i rr bb e1 e2
              obtain ⟨E, R, q1, q2⟩ := ordL_sem he hf e1 b1 b2 d1 d2
              have hE := he _ _ _ _ _ _ _ e2 a1 a2 c1 c2
              cases bb with
              | true =>
                simp only [if_true, Option.some.injEq] at h
                subst h
                refine ⟨fun j => match j with | 0 => true | j + 1 => E j, fun j => match j with | 0 => false | j + 1 => R j, fun j u t g1 g2 => ?_, ?_⟩
                · cases j with
                  | zero =>
                    simp at g1 g2
                    subst g1 g2
                    exact ⟨hE, fun z => by cases z⟩
                  | succ j => exact q1 j u t (by simpa using g1) (by simpa using g2)
                · rw [List.length_cons, List.length_cons, Nat.add_min_add_right, Ob.lexAt_succ, if_pos rfl, lexAt_shift]
                  rw [show ((↑(List.length _ + 1) : Int)) = _ + 1 from by push_cast; rfl, show ((↑(List.length _ + 1) : Int)) = _ + 1 from by push_cast; rfl, c.shift]
                  exact q2
              | false =>
                simp only [Bool.false_eq_true, if_false] at h
                have hF := hf _ _ _ _ _ _ _ h a1 a2 c1 c2
                refine ⟨fun j => match j with | 0 => false | j + 1 => E j, fun j => match j with | 0 => b | j + 1 => R j, fun j u t g1 g2 => ?_, ?_⟩
                · cases j with
                  | zero =>
                    simp at g1 g2
                    subst g1 g2
                    exact ⟨hE, fun _ => hF⟩
                  | succ j => exact q1 j u t (by simpa using g1) (by simpa using g2)
                · rw [List.length_cons, List.length_cons, Nat.add_min_add_right, Ob.lexAt_succ, if_neg (by simp)]
            · cases h
section
variable {X : Cx} {pins : List (Addr × Obj)} {σ : L2.St} {H : Hp} {s : Shared} {G : GH}
theorem eqN_sem (I : Inv X pins σ H s) (rh : RH X.K H G) {A : Around} (hu : A.units + 64 < cLine) {x y : D} {b : Bool} {v w : V} {u t : Value} (h : eqN G x y = some b) (r1 : RD X.K H x v) (r2 : RD X.K H y w) (q1 : RelV v u) (q2 : RelV w t) : SeqAt.EqAt A s u t b := by
  unfold eqN at h
  split at h
  · rename_i p q e1 e2
    cases h
    obtain ⟨as, z1⟩ := Dp.reads I _ _ _ (pyN_dp rh _ _ _ _ e1 r1) q1
    obtain ⟨bs, z2⟩ := Dp.reads I _ _ _ (pyN_dp rh _ _ _ _ e2 r2) q2
    obtain ⟨c1, d1⟩ := pyN_lay _ _ _ e1
    obtain ⟨c2, d2⟩ := pyN_lay _ _ _ e2
    refine SeqAt.eqAt_reads p q A s u t as bs z1 z2 c1 c2 ?_
    have : min p.depth q.depth ≤ p.depth := Nat.min_le_left _ _
    omega
  · cases h
theorem ordD_sem (I : Inv X pins σ H s) (rh : RH X.K H G) (c : Cm) : ∀ (n : Nat) {A : Around}, A.units + n + 65 < cLine → ∀ (x y : D) (b : Bool) (v w : V) (u t : Value), ordD c G n x y = some b → RD X.K H x v → RD X.K H y w → RelV v u → RelV w t → RcG c A s u t b := by
  intro n
  induction n with
  | zero =>
    intro A hu x y b v w u t h r1 r2 q1 q2
    unfold ordD at h
    split at h
    · cases r1; cases r2; cases h
      obtain ⟨t1, rfl⟩ := q1
      obtain ⟨t2, rfl⟩ := q2
      exact RcG.int c _ _ _ _
    · cases r1; cases r2; cases h
      obtain ⟨t1, rfl⟩ := q1
      obtain ⟨t2, rfl⟩ := q2
      exact RcG.str c _ _ _ _
    · rename_i hq; cases hq
    · rename_i hq _ _ _; cases hq
    · cases h
  | succ n ih =>
    intro A hu x y b v w u t h r1 r2 q1 q2
    have hin : A.in1.units = A.units + 1 := rfl
    unfold ordD at h
    split at h
    · cases r1; cases r2; cases h
      obtain ⟨t1, rfl⟩ := q1
      obtain ⟨t2, rfl⟩ := q2
      exact RcG.int c _ _ _ _
    · cases r1; cases r2; cases h
      obtain ⟨t1, rfl⟩ := q1
      obtain ⟨t2, rfl⟩ := q2
      exact RcG.str c _ _ _ _
    · rename_i hq; cases hq
      cases r1 with
      | tup s1 a1 =>
      cases r2 with
      | tup s2 a2 =>
        cases q1
        cases q2
        obtain ⟨its, v1, p1, _⟩ := I.tuple s1
        obtain ⟨its2, v2, p2, _⟩ := I.tuple s2
        obtain ⟨E, R, g1, g2⟩ := ordL_sem (A := A.in1) (fun x y b v w u t h r1 r2 q1 q2 => eqN_sem I rh (by rw [hin]; omega) h r1 r2 q1 q2) (fun x y b v w u t h r1 r2 q1 q2 => ih (A := A.in1) (by rw [hin]; omega) x y b v w u t h r1 r2 q1 q2) h a1 a2 v1 v2
        have := RcG.tuples c (A := A) (e := E) (r := R) p1 p2 (by omega) (fun j h1 h2 => (g1 j _ _ (by simp at h1 ⊢) (by simp at h2 ⊢)).1) (fun j h1 h2 hz => (g1 j _ _ (by simp at h1 ⊢) (by simp at h2 ⊢)).2 hz)
        simp only [List.size_toArray] at this
        rw [g2] at this
        exact this
    · rename_i hq _ _ _; cases hq
      split at h
      · rename_i xs ys e1 e2
        obtain ⟨_, vs, rfl, s1, a1⟩ := lsD_some rh r1 e1
        obtain ⟨_, ws, rfl, s2, a2⟩ := lsD_some rh r2 e2
        cases q1
        cases q2
        obtain ⟨its, v1, p1, _⟩ := I.list (.inl s1)
        obtain ⟨its2, v2, p2, _⟩ := I.list (.inl s2)
        obtain ⟨E, R, g1, g2⟩ := ordL_sem (A := A.in1) (fun x y b v w u t h r1 r2 q1 q2 => eqN_sem I rh (by rw [hin]; omega) h r1 r2 q1 q2) (fun x y b v w u t h r1 r2 q1 q2 => ih (A := A.in1) (by rw [hin]; omega) x y b v w u t h r1 r2 q1 q2) h a1 a2 v1 v2
        have := RcG.lists c (A := A) (e := E) (r := R) p1.isList p2.isList (by omega) (fun j h1 h2 => (g1 j _ _ (by simp at h1 ⊢) (by simp at h2 ⊢)).1) (fun j h1 h2 hz => (g1 j _ _ (by simp at h1 ⊢) (by simp at h2 ⊢)).2 hz)
        simp only [List.size_toArray] at this
        rw [g2] at this
        exact this
      · cases h
    · cases h
end
/-- order: ints and tuples of such | texts -/
def rOrd (c : Cm) : D → D → GH → KD → Prop := fun x y G Q => match x, y with
  | .int i, .int j => Q (.bl (c.i i j)) G
  | .str i, .str j => Q (.bl (c.s i j)) G
  | x, y => match ordD c G 8 x y with
    | some b => Q (.bl b) G
    | none => False
section
variable {X : Cx}
theorem o_ord (c : Cm) (hu : X.A.units + 128 < cLine) : OpR X (compareOp c.op) (r2D X.K (rOrd c)) := by
  rintro pins s σ H x y v u Q I rx ry ⟨dx, dy, G, Qd, h1, h2, rh, h, k⟩
  have key : ∀ b, ordD c G 8 dx dy = some b → Qd (.bl b) G → wpAny (model X.prog X.w) X.A (compareOp c.op v u) (EP X pins σ Q) X.xe s := fun b e q => by
    have := ordD_sem I rh c 8 (A := X.A) (by omega) dx dy b x y v u e h1 h2 rx ry
    have z := this X.prog X.w X.xe (EP X pins σ Q) ⟨.bl b, H, I, rfl, k.here (.bl _) rh q⟩
    cases c <;> exact z
  unfold rOrd at h
  split at h
  · rename_i i j
    exact key _ (by unfold ordD; rfl) h
  · rename_i i j
    exact key _ (by unfold ordD; rfl) h
  · split at h
    · rename_i b e; exact key b e h
    · exact h.elim
theorem o_lt (hu : X.A.units + 128 < cLine) : OpR X (compareOp .Lt) (r2D X.K (rOrd .lt)) := o_ord .lt hu
theorem o_le (hu : X.A.units + 128 < cLine) : OpR X (compareOp .LtE) (r2D X.K (rOrd .le)) := o_ord .le hu
theorem o_gt (hu : X.A.units + 128 < cLine) : OpR X (compareOp .Gt) (r2D X.K (rOrd .gt)) := o_ord .gt hu
theorem o_ge (hu : X.A.units + 128 < cLine) : OpR X (compareOp .GtE) (r2D X.K (rOrd .ge)) := o_ord .ge hu
end
end DL
namespace DL
open PySem PySem.Spec PyProof.Rows L2

/-! subscripts, slices -/
theorem RDs.atI {K : PySem.W.Frag} {H : Hp} {ds : List D} {vs : List V} {i : Int} {d : D} (r : RDs K H ds vs) (h : L2.atI ds i = some d) : ∃ v, L2.atI vs i = some v ∧ RD K H d v := by
  unfold L2.atI at h ⊢
  rw [← r.length]
  cases e : ixN ds.length i with
  | none => rw [e] at h; cases h
  | some j =>
    rw [e] at h
    simp only [Option.bind_some] at h ⊢
    exact r.get h
def rIx : D → D → GH → KD → Prop := fun x y G Q => match x, y with
  | .tup ds, .int i => match L2.atI ds i with | some d => Q d G | none => False
  | .str z, .int i => z.length ≤ sizeLine ∧ match L2.atI z.cps.toList i with | some c => Q (.str ⟨#[c]⟩) G | none => False
  | x, .int i => match lsD G x with
    | some ds => match L2.atI ds i with | some d => Q d G | none => False
    | none => False
  | _, _ => False
def cutD {α : Type} (xs : List α) (lo hi : Option Int) : List α := (xs.drop (HT.sIx xs.length 0 lo)).take (HT.sIx xs.length xs.length hi - HT.sIx xs.length 0 lo)
theorem RDs.cut {K : PySem.W.Frag} {H : Hp} {ds : List D} {vs : List V} {lo hi : Option Int} (r : RDs K H ds vs) : RDs K H (cutD ds lo hi) (cutV vs lo hi) := by
  unfold cutD cutV
  rw [r.length]
  exact RDs.take _ (RDs.drop _ r)
def rSl : D → Option Int → Option Int → GH → KD → Prop := fun x lo hi G Q => match x with
  | .tup ds => Q (.tup (cutD ds lo hi)) G
  | .str z => z.length ≤ sizeLine ∧ Q (.str (cutS z lo hi)) G
  | x => match lsD G x with
    | some ds => Q (.lst (cutD ds lo hi)) G
    | none => False
/-- a part that may be changed -/
def rSlM : D → Option Int → Option Int → GH → KD → Prop := fun x lo hi G Q => match lsD G x with
    | some ds => ∀ r, G r = none → Q (.ref r) (updG G r (.lst (cutD ds lo hi)))
    | none => False
def mSlG (r : D → Option Int → Option Int → GH → KD → Prop) (m : ME) (a b : MO) : ME := fun δ G Q => m δ G fun x G1 => a δ G1 fun lo G2 => b δ G2 fun hi G3 => r x lo hi G3 Q
abbrev mSl := mSlG rSl
abbrev mSlM := mSlG rSlM
def oNone : MO := fun _ G Q => Q none G
def oSome (m : ME) : MO := fun δ G Q => m δ G fun d G1 => match d with | .int i => Q (some i) G1 | _ => False
section
variable {X : Cx} {G0 : GH} {H0 : Hp} {e a b c : Expr} {es rest : List Expr} {m ma mb mc : ME} {aa : MA} {pos : Pos}
theorem ix_D : IxR X (r2D X.K rIx) := by
  rintro value slice pins s σ H x y v u Q I rx ry ⟨dx, dy, G, Qd, h1, h2, rh, h, k⟩ hs
  unfold rIx at h
  split at h
  · cases h2
    cases h1 with
    | tup s1 a1 =>
      split at h
      · rename_i d e
        obtain ⟨w, e1, rd⟩ := a1.atI e
        exact ix_tup value slice pins s σ H _ _ v u Q I rx ry ⟨_, _, _, _, rfl, rfl, s1, e1, k.here rd rh h⟩ hs
      · exact h.elim
  · cases h2; cases h1
    obtain ⟨hz, h⟩ := h
    split at h
    · rename_i d e
      exact ix_str value slice pins s σ H _ _ v u Q I rx ry ⟨_, _, _, rfl, rfl, hz, e, k.here (.str _) rh h⟩ hs
    · exact h.elim
  · cases h2
    split at h
    · rename_i ds e
      obtain ⟨_, vs, rfl, f1, a1⟩ := lsD_some rh h1 e
      split at h
      · rename_i d e
        obtain ⟨w, e1, rd⟩ := a1.atI e
        exact ix_list value slice pins s σ H _ _ v u Q I rx ry ⟨_, _, _, _, rfl, rfl, .inl f1, e1, k.here rd rh h⟩ hs
      · exact h.elim
    · exact h.elim
  · exact h.elim
theorem d_ix (ha : DE X G0 H0 a ma) (hb : DE X G0 H0 b mb) (hs : PlainIx b := by exact fun _ _ => rfl) : DE X G0 H0 (.Subscript a b pos) (mOp rIx ma mb) :=
  (pe_ix ix_D ha hb hs).dimp fun σ H Q ⟨δ, G, Qd, R, h, k⟩ =>
    ⟨δ, G, _, R, h, fun v H1 d G1 f1 rd1 rh1 q1 => ⟨δ, G1, _, R.step f1 rh1, q1, fun u H2 d2 G2 f2 rd2 rh2 q2 =>
      ⟨d, d2, G2, Qd, RD.mono (f2.tle rh1) _ _ rd1, rd2, rh2, q2, k.step (f1.trans f2)⟩⟩⟩
def rSlV (r : D → Option Int → Option Int → GH → KD → Prop) (K : PySem.W.Frag) : V → Option Int → Option Int → Hp → VK → Prop := fun x lo hi H Q => ∃ dx G Qd, RD K H dx x ∧ RH K H G ∧ r dx lo hi G Qd ∧ KV' K G H Qd Q
theorem sl_D : SlR X (rSlV rSl X.K) := by
  rintro pins s σ H x v vl vu lo hi sl Q I rx hs pl pu ⟨dx, G, Qd, h1, rh, h, k⟩
  unfold rSl at h
  split at h
  · cases h1 with
    | tup s1 a1 =>
      refine sl_tupA pins s σ H _ v vl vu lo hi sl Q I rx hs pl pu ⟨_, _, rfl, s1, fun hw => ?_, fun hw p np => k.tup a1.cut rh np h⟩
      rename_i ds a vs
      have e : cutD ds lo hi = ds := by
        unfold cutD
        rw [a1.length, hw.1, hw.2, List.drop_zero, Nat.sub_zero, ← a1.length, List.take_length]
      rw [e] at h
      exact k.here (.tup s1 a1) rh h
  · cases h1
    exact sl_str pins s σ H _ v vl vu lo hi sl Q I rx hs pl pu ⟨_, rfl, h.1, k.here (.str _) rh h.2⟩
  · split at h
    · rename_i ds e
      obtain ⟨_, vs, rfl, f1, a1⟩ := lsD_some rh h1 e
      obtain ⟨T, id, z1, z2, z3⟩ := sl_list pins s σ H _ v vl vu lo hi sl (LockQ Q) I rx hs pl pu ⟨_, _, rfl, .inl f1, fun p np => k.lstV a1.cut rh np h⟩
      exact ⟨T, id, z1, z2, wpAny_mono z3 (fun _ _ x => LockQ.ep x) fun _ _ x => x⟩
    · exact h.elim
theorem sl_DM : SlR X (rSlV rSlM X.K) := by
  rintro pins s σ H x v vl vu lo hi sl Q I rx hs pl pu ⟨dx, G, Qd, h1, rh, h, k⟩
  unfold rSlM at h
  split at h
  · rename_i ds e
    obtain ⟨_, vs, rfl, f1, a1⟩ := lsD_some rh h1 e
    exact sl_list pins s σ H _ v vl vu lo hi sl Q I rx hs pl pu ⟨_, _, rfl, .inl f1, fun p np => k.lst a1.cut rh np h⟩
  · exact h.elim
theorem do_none : DOp X G0 H0 none oNone := po_none.dimp fun σ H Q ⟨δ, G, Qd, R, h, k⟩ => k none H G Fr.refl R.rh h
theorem do_some (h : DE X G0 H0 e m) : DOp X G0 H0 (some e) (oSome m) := (po_some h).dimp fun σ H Q ⟨δ, G, Qd, R, h, k⟩ =>
  ⟨δ, G, _, R, h, fun v H1 d G1 f1 rd1 rh1 q1 => by
    cases rd1 with
    | int i => exact ⟨i, rfl, k _ H1 G1 f1 rh1 q1⟩
    | _ => exact q1.elim⟩
theorem d_slG {r : D → Option Int → Option Int → GH → KD → Prop} {lo hi : Option Expr} {ol oh : MO} {p2 : Pos} (hr : SlR X (rSlV r X.K)) (he : DE X G0 H0 e m) (hl : DOp X G0 H0 lo ol) (hu : DOp X G0 H0 hi oh) : DE X G0 H0 (.Subscript e (.Slice lo hi none p2) pos) (mSlG r m ol oh) :=
  (pe_slice hr he hl hu).dimp fun σ H Q ⟨δ, G, Qd, R, h, k⟩ =>
    ⟨δ, G, _, R, h, fun v H1 d G1 f1 rd1 rh1 q1 => ⟨δ, G1, _, R.step f1 rh1, q1, fun lo H2 G2 f2 rh2 q2 => ⟨δ, G2, _, (R.step f1 rh1).step f2 rh2, q2, fun hi H3 G3 f3 rh3 q3 =>
      ⟨d, G3, Qd, RD.mono ((f2.trans f3).tle rh1) _ _ rd1, rh3, q3, k.step ((f1.trans f2).trans f3)⟩⟩⟩⟩
theorem d_sl {lo hi : Option Expr} {ol oh : MO} {p2 : Pos} (he : DE X G0 H0 e m) (hl : DOp X G0 H0 lo ol) (hu : DOp X G0 H0 hi oh) : DE X G0 H0 (.Subscript e (.Slice lo hi none p2) pos) (mSl m ol oh) := d_slG sl_D he hl hu
theorem d_slM {lo hi : Option Expr} {ol oh : MO} {p2 : Pos} (he : DE X G0 H0 e m) (hl : DOp X G0 H0 lo ol) (hu : DOp X G0 H0 hi oh) : DE X G0 H0 (.Subscript e (.Slice lo hi none p2) pos) (mSlM m ol oh) := d_slG sl_DM he hl hu

/-! tests -/
def tru (d : D) (G : GH) (Q : Bool → GH → Prop) : Prop := match d with
  | .bl b => Q b G
  | .non => Q false G
  | .int i => Q (decide (i ≠ 0)) G
  | .str z => z.length ≤ sizeLine ∧ Q (decide (z.length ≠ 0)) G
  | .tup ds => Q (!ds.isEmpty) G
  | d => match lsD G d with
    | some ds => Q (!ds.isEmpty) G
    | none => False
theorem RDs.isEmpty {K : PySem.W.Frag} {H : Hp} {ds : List D} {vs : List V} (r : RDs K H ds vs) : vs.isEmpty = ds.isEmpty := by
  cases r <;> rfl
theorem tru_D {K : PySem.W.Frag} {H : Hp} {G : GH} {d : D} {v : V} {Q : Bool → GH → Prop} (rd : RD K H d v) (rh : RH K H G) (h : tru d G Q) : ∃ k, TruV K v H k ∧ Q k G := by
  unfold tru at h
  split at h
  · cases rd; exact ⟨_, rfl, h⟩
  · cases rd; exact ⟨false, rfl, h⟩
  · cases rd
    rename_i i
    refine ⟨_, rfl, ?_⟩
    have e : (i != 0) = decide (i ≠ 0) := by by_cases q : i = 0 <;> simp [bne, q]
    rw [e]; exact h
  · cases rd
    rename_i z
    refine ⟨_, ⟨h.1, rfl⟩, ?_⟩
    have e : ((z.length : Int) != 0) = decide (z.length ≠ 0) := by
      by_cases q : z.length = 0 <;> simp [bne, q]
    rw [e]; exact h.2
  · cases rd with
    | tup s1 a1 => exact ⟨_, .inr (.inl ⟨_, s1, rfl⟩), by rw [a1.isEmpty]; exact h⟩
  · split at h
    · rename_i ds e
      obtain ⟨_, vs, rfl, f1, a1⟩ := lsD_some rh rd e
      exact ⟨_, .inl ⟨_, .inl f1, rfl⟩, by rw [a1.isEmpty]; exact h⟩
    · exact h.elim
def mTru (m : ME) : MT := fun δ G Q => m δ G fun d G1 => tru d G1 Q
theorem dt_val (ha : DE X G0 H0 a ma) (he : ∀ whole, isTrue a X.env whole = (do let v ← whole; standAt a.pos; holding [v] (truthy v)) := by exact fun _ => rfl) : DT X G0 H0 a (mTru ma) :=
  (pt_truth ha he).dimp fun σ H Q ⟨δ, G, Qd, R, h, k⟩ => ⟨δ, G, _, R, h, fun v H1 d G1 f1 rd1 rh1 q1 => by
    obtain ⟨b, t, q⟩ := tru_D rd1 rh1 q1
    exact ⟨b, t, k b H1 G1 f1 rh1 q⟩⟩
def tAnd (t u : MT) : MT := fun δ G Q => t δ G fun c G1 => if c = true then u δ G1 Q else Q false G1
def tOr (t u : MT) : MT := fun δ G Q => t δ G fun c G1 => if c = true then Q true G1 else u δ G1 Q
def tNot (t : MT) : MT := fun δ G Q => t δ G fun c G1 => Q (!c) G1
variable {ta tb : MT}
theorem dw_one {op : BoolOp} (ha : DT X G0 H0 a ta) (ho : op = .And ∨ op = .Or := by first | exact .inl rfl | exact .inr rfl) : DW X G0 H0 (.BoolOp op [a] pos) ta := by
  rcases ho with rfl | rfl
  · exact pw_and1 ha
  · exact pw_or1 ha
theorem dw_and (ha : DT X G0 H0 a ta) (hb : DW X G0 H0 (.BoolOp .And (b :: rest) pos) tb) : DW X G0 H0 (.BoolOp .And (a :: b :: rest) pos) (tAnd ta tb) :=
  (pw_and ha hb).dimp fun σ H Q ⟨δ, G, Qd, R, h, k⟩ => ⟨δ, G, _, R, h, fun c H1 G1 f1 rh1 q1 => by
    cases c with
    | true => exact iteT ⟨δ, G1, _, R.step f1 rh1, q1, fun b H2 G2 f2 rh2 q2 => k b H2 G2 (f1.trans f2) rh2 q2⟩
    | false => exact iteF (k false H1 G1 f1 rh1 q1)⟩
theorem dw_or (ha : DT X G0 H0 a ta) (hb : DW X G0 H0 (.BoolOp .Or (b :: rest) pos) tb) : DW X G0 H0 (.BoolOp .Or (a :: b :: rest) pos) (tOr ta tb) :=
  (pw_or ha hb).dimp fun σ H Q ⟨δ, G, Qd, R, h, k⟩ => ⟨δ, G, _, R, h, fun c H1 G1 f1 rh1 q1 => by
    cases c with
    | true => exact iteT (k true H1 G1 f1 rh1 q1)
    | false => exact iteF ⟨δ, G1, _, R.step f1 rh1, q1, fun b H2 G2 f2 rh2 q2 => k b H2 G2 (f1.trans f2) rh2 q2⟩⟩
theorem dt_w (h : DW X G0 H0 e ta) : DT X G0 H0 e ta := h.pt
theorem dt_not (h : DT X G0 H0 a ta) : DT X G0 H0 (.UnaryOp .Not a pos) (tNot ta) := (pt_not h).dimp fun σ H Q ⟨δ, G, Qd, R, h, k⟩ => ⟨δ, G, _, R, h, fun c H1 G1 f1 rh1 q1 => k _ H1 G1 f1 rh1 q1⟩
/-! truths as values -/
def mAnd (ma mb : ME) : ME := fun δ G Q => ma δ G fun x G1 => tru x G1 fun c G2 => if c = true then mb δ G2 Q else Q x G2
def mOr (ma mb : ME) : ME := fun δ G Q => ma δ G fun x G1 => tru x G1 fun c G2 => if c = true then Q x G2 else mb δ G2 Q
def mNot (ma : ME) : ME := fun δ G Q => ma δ G fun x G1 => tru x G1 fun c G2 => Q (.bl (!c)) G2
theorem d_one {op : BoolOp} (ha : DE X G0 H0 a ma) : DE X G0 H0 (.BoolOp op [a] pos) ma := pe_one ha
theorem d_and (ha : DE X G0 H0 a ma) (hb : DE X G0 H0 (.BoolOp .And (b :: rest) pos) mb) : DE X G0 H0 (.BoolOp .And (a :: b :: rest) pos) (mAnd ma mb) :=
  (pe_andT ha hb).dimp fun σ H Q ⟨δ, G, Qd, R, h, k⟩ => ⟨δ, G, _, R, h, fun v H1 d G1 f1 rd1 rh1 q1 => by
    obtain ⟨c, t, q⟩ := tru_D rd1 rh1 q1
    refine ⟨c, t, ?_⟩
    cases c with
    | true => exact iteT ⟨δ, G1, Qd, R.step f1 rh1, q, k.step f1⟩
    | false => exact iteF (k _ H1 _ G1 f1 rd1 rh1 q)⟩
theorem d_or (ha : DE X G0 H0 a ma) (hb : DE X G0 H0 (.BoolOp .Or (b :: rest) pos) mb) : DE X G0 H0 (.BoolOp .Or (a :: b :: rest) pos) (mOr ma mb) :=
  (pe_orT ha hb).dimp fun σ H Q ⟨δ, G, Qd, R, h, k⟩ => ⟨δ, G, _, R, h, fun v H1 d G1 f1 rd1 rh1 q1 => by
    obtain ⟨c, t, q⟩ := tru_D rd1 rh1 q1
    refine ⟨c, t, ?_⟩
    cases c with
    | true => exact iteT (k _ H1 _ G1 f1 rd1 rh1 q)
    | false => exact iteF ⟨δ, G1, Qd, R.step f1 rh1, q, k.step f1⟩⟩
theorem d_not (ha : DE X G0 H0 a ma) : DE X G0 H0 (.UnaryOp .Not a pos) (mNot ma) :=
  (pe_notT ha).dimp fun σ H Q ⟨δ, G, Qd, R, h, k⟩ => ⟨δ, G, _, R, h, fun v H1 d G1 f1 rd1 rh1 q1 => by
    obtain ⟨c, t, q⟩ := tru_D rd1 rh1 q1
    exact ⟨c, t, k _ H1 _ G1 f1 (.bl _) rh1 q⟩⟩
def mIf (t : MT) (ma mb : ME) : ME := fun δ G Q => t δ G fun c G1 => if c = true then ma δ G1 Q else mb δ G1 Q
theorem d_if (hc : DT X G0 H0 c ta) (ha : DE X G0 H0 a ma) (hb : DE X G0 H0 b mb) : DE X G0 H0 (.IfExp c a b pos) (mIf ta ma mb) :=
  (pe_ifExp hc ha hb).dimp fun σ H Q ⟨δ, G, Qd, R, h, k⟩ => ⟨δ, G, _, R, h, fun c H1 G1 f1 rh1 q1 => by
    cases c with
    | true => exact iteT ⟨δ, G1, Qd, R.step f1 rh1, q1, k.step f1⟩
    | false => exact iteF ⟨δ, G1, Qd, R.step f1 rh1, q1, k.step f1⟩⟩
/-- a < b < c -/
def mChain (r r' : D → D → GH → KD → Prop) (ma mb mc : ME) : ME := fun δ G Q => ma δ G fun x G1 => mb δ G1 fun y G2 => r x y G2 fun z G3 => match z with
  | .bl k => if k = true then mc δ G3 fun w G4 => r' y w G4 Q else Q (.bl false) G3
  | _ => False
theorem d_chain {op op' : CmpOp} {r r' : D → D → GH → KD → Prop} (ho : OpR X (compareOp op) (r2D X.K r)) (ho' : OpR X (compareOp op') (r2D X.K r')) (ha : DE X G0 H0 a ma) (hb : DE X G0 H0 b mb) (hc : DE X G0 H0 c mc)
    (hm : lastMarks [op, op'] [b, c] = false := by with_unfolding_all rfl) : DE X G0 H0 (.Compare a [op, op'] [b, c] pos) (mChain r r' ma mb mc) :=
  (pe_chain ho ho' ha hb hc hm).dimp fun σ H Q ⟨δ, G, Qd, R, h, k⟩ =>
    ⟨δ, G, _, R, h, fun v H1 d G1 f1 rd1 rh1 q1 => ⟨δ, G1, _, R.step f1 rh1, q1, fun u H2 d2 G2 f2 rd2 rh2 q2 =>
      ⟨d, d2, G2, _, RD.mono (f2.tle rh1) _ _ rd1, rd2, rh2, q2, fun w H3 d3 G3 f3 rd3 rh3 q3 => by
        cases rd3 with
        | bl b =>
          refine ⟨b, rfl, ?_⟩
          cases b with
          | true => exact iteT ⟨δ, G3, _, ((R.step f1 rh1).step f2 rh2).step f3 rh3, q3, fun z H4 d4 G4 f4 rd4 rh4 q4 => ⟨d2, d4, G4, Qd, RD.mono ((f3.trans f4).tle rh2) _ _ rd2, rd4, rh4, q4, k.step (((f1.trans f2).trans f3).trans f4)⟩⟩
          | false => exact iteF (k _ H3 _ G3 ((f1.trans f2).trans f3) (.bl false) rh3 q3)
        | _ => exact q3.elim⟩⟩⟩
def tChainD (r r' : D → D → GH → KD → Prop) (ma mb mc : ME) : MT := fun δ G Q => mChain r r' ma mb mc δ G (blOf Q)
theorem dt_chain {op op' : CmpOp} {r r' : D → D → GH → KD → Prop} (ho : OpR X (compareOp op) (r2D X.K r)) (ho' : OpR X (compareOp op') (r2D X.K r')) (ha : DE X G0 H0 a ma) (hb : DE X G0 H0 b mb) (hc : DE X G0 H0 c mc)
    (hm : lastMarks [op, op'] [b, c] = false := by with_unfolding_all rfl) : DT X G0 H0 (.Compare a [op, op'] [b, c] pos) (tChainD r r' ma mb mc) :=
  (pt_chain ho ho' ha hb hc hm).dimp fun σ H Q ⟨δ, G, Qd, R, h, k⟩ =>
    ⟨δ, G, _, R, h, fun v H1 d G1 f1 rd1 rh1 q1 => ⟨δ, G1, _, R.step f1 rh1, q1, fun u H2 d2 G2 f2 rd2 rh2 q2 =>
      ⟨d, d2, G2, _, RD.mono (f2.tle rh1) _ _ rd1, rd2, rh2, q2, fun w H3 d3 G3 f3 rd3 rh3 q3 => by
        cases rd3 with
        | bl b =>
          refine ⟨b, rfl, ?_⟩
          cases b with
          | true => exact iteT ⟨δ, G3, _, ((R.step f1 rh1).step f2 rh2).step f3 rh3, q3, fun z H4 d4 G4 f4 rd4 rh4 q4 => ⟨d2, d4, G4, _, RD.mono ((f3.trans f4).tle rh2) _ _ rd2, rd4, rh4, q4, fun w5 H5 d5 G5 f5 rd5 rh5 q5 => by
            cases rd5 with
            | bl b => exact ⟨b, rfl, k b H5 G5 ((((f1.trans f2).trans f3).trans f4).trans f5) rh5 q5⟩
            | _ => exact q5.elim⟩⟩
          | false => exact iteF ⟨false, rfl, k _ H3 G3 ((f1.trans f2).trans f3) rh3 q3⟩
        | _ => exact q3.elim⟩⟩⟩
end
end DL
namespace DL
open PySem PySem.Spec PyProof.Rows L2

/-! targets -/
def gN (i : Nat) : MG := fun d δ G Q => Q (δ.set i (some d)) G
def gsNil : MGs := fun ds δ G Q => match ds with | [] => Q δ G | _ => False
def gsCons (g : MG) (r : MGs) : MGs := fun ds δ G Q => match ds with | d :: ds => g d δ G fun δ1 G1 => r ds δ1 G1 Q | [] => False
def gT (n : Nat) (r : MGs) : MG := fun d δ G Q => match d with | .tup ds => ds.length = n ∧ r ds δ G Q | _ => False
section
variable {X : Cx} {G0 : GH} {H0 : Hp} {e a b c : Expr} {es rest : List Expr} {m ma mb mc : ME} {aa : MA} {pos : Pos}
theorem dg_name {i : Nat} {x : Str} (hN : X.N.Nodup) (hi : X.N[i]? = some x := by rfl) (hx : Loc X.env.scope x := by first | exact .inl rfl | exact .inr rfl) (hf : X.fn x = true ∨ X.env.scope.names.lookup x = some .local := by first | exact .inl rfl | exact .inr rfl | assumption) : DG X G0 H0 (.Name x pos) (gN i) := by
  refine ⟨fun pins s σ H v u Q I r ⟨d, δ, G, Qd, R, rd, h, k⟩ => ?_⟩
  have hiσ : i < σ.length := by rw [I.len]; exact (List.getElem?_eq_some_iff.mp hi).1
  exact (pg_name hN hi hx hf).run pins s σ H v u Q I r (k (σ.set i (some v)) H (δ.set i (some d)) G Fr.refl (R.rs.set rd hiσ) R.rh h)
theorem dgs_nil : DGs X G0 H0 [] gsNil := pgs_nil.dimp fun vs σ H Q ⟨ds, δ, G, Qd, R, rd, h, k⟩ => by
  unfold gsNil at h
  cases rd with
  | nil => exact ⟨rfl, k σ H δ G Fr.refl R.rs R.rh h⟩
  | cons _ _ => exact h.elim
theorem dgs_cons {g : MG} {r : MGs} (h1 : DG X G0 H0 e g) (h2 : DGs X G0 H0 es r) (hs : (assignEach (e :: es) X.env).map (·.2) = assign e X.env :: (assignEach es X.env).map (·.2) := by rfl) : DGs X G0 H0 (e :: es) (gsCons g r) :=
  (pgs_cons h1 h2 hs).dimp fun vs σ H Q ⟨ds, δ, G, Qd, R, rd, h, k⟩ => by
    cases rd with
    | nil => exact h.elim
    | @cons d v ds vs q1 q2 =>
      refine ⟨v, vs, rfl, d, δ, G, _, R, q1, h, fun σ1 H1 δ1 G1 f1 rs1 rh1 h1 => ?_⟩
      exact ⟨ds, δ1, G1, _, R.stepS f1 rs1 rh1, RDs.mono (f1.tle R.rh) _ _ q2, h1, fun σ2 H2 δ2 G2 f2 rs2 rh2 h2 => k σ2 H2 δ2 G2 (f1.trans f2) rs2 rh2 h2⟩
theorem dg_tup {n k : Nat} {r : MGs} (hc : X.calm = true) (h : DGs X G0 H0 es r) (hn : (assignEach es X.env).length = n := by rfl) (hst : (assignEach es X.env).findIdx? (·.1) = none := by rfl) : DG X G0 H0 (.Tuple es k pos) (gT n r) :=
  (pg_tup hc h hn hst).dimp fun v σ H Q ⟨d, δ, G, Qd, R, rd, h, kk⟩ => by
    cases rd with
    | tup s1 a1 =>
      exact ⟨_, _, rfl, s1, by rw [← a1.length]; exact h.1, _, δ, G, _, R, a1, h.2, kk⟩
    | _ => exact h.elim

/-! statements -/
def sNext : MS := fun N δ G => N.nx δ G
def sSeq (t u : MS) : MS := fun N δ G => t { N with nx := u N } δ G
def sDrop (m : ME) : MS := fun N δ G => m δ G fun _ G1 => N.nx δ G1
def sRet (m : ME) : MS := fun N δ G => m δ G N.rt
def sRetN : MS := fun N _ G => N.rt .non G
def sIf (t : MT) (u v : MS) : MS := fun N δ G => t δ G fun b G1 => if b = true then u N δ G1 else v N δ G1
def sAsg (m : ME) (g : MG) : MS := fun N δ G => m δ G fun d G1 => g d δ G1 N.nx
def sBreak : MS := fun N δ G => N.bk δ G
def sCont : MS := fun N δ G => N.ct δ G
variable {st : Stmt} {sts body : List Stmt} {t u : MS} {ta : MT}
theorem LE.step {K : PySem.W.Frag} {G G1 : GH} {H H1 : Hp} {N : Nd} {E : Ends} (l : LE K G H N E) (f : Fr G H G1 H1) : LE K G1 H1 N E :=
  ⟨fun s h d g f1 => l.nx s h d g (f.trans f1), fun s h d g f1 => l.bk s h d g (f.trans f1), fun s h d g f1 => l.ct s h d g (f.trans f1), fun s h d g f1 => l.rt s h d g (f.trans f1)⟩
theorem LE.at {K : PySem.W.Frag} {G G1 : GH} {H H1 : Hp} {N : Nd} {E : Ends} {δ : Sl} {σ : L2.St} (l : LE K G H N E) (rs : RS K H δ σ) (rh : RH K H G) (h : N.nx δ G) : E.nx σ H := l.nx σ H δ G Fr.refl rs rh h
theorem dss_nil : DSs X G0 H0 [] sNext := pss_nil.dimp fun E σ H ⟨δ, G, N, R, h, l⟩ => l.nx σ H δ G Fr.refl R.rs R.rh h
theorem dss_cons (h1 : DS X G0 H0 st t) (h2 : DSs X G0 H0 sts u) : DSs X G0 H0 (st :: sts) (sSeq t u) := (pss_cons h1 h2).dimp fun E σ H ⟨δ, G, N, R, h, l⟩ =>
  ⟨δ, G, { N with nx := u N }, R, h, fun s1 H1 d1 G1 f1 rs1 rh1 q1 => ⟨d1, G1, N, R.stepS f1 rs1 rh1, q1, l.step f1⟩, l.bk, l.ct, l.rt⟩
theorem dss_one (h1 : DS X G0 H0 st t) : DSs X G0 H0 [st] t := pss_one h1
theorem ds_pass : DS X G0 H0 (.Pass pos) sNext := ps_pass.dimp fun E σ H ⟨δ, G, N, R, h, l⟩ => l.nx σ H δ G Fr.refl R.rs R.rh h
theorem ds_break : DS X G0 H0 (.Break pos) sBreak := ps_break.dimp fun E σ H ⟨δ, G, N, R, h, l⟩ => l.bk σ H δ G Fr.refl R.rs R.rh h
theorem ds_cont : DS X G0 H0 (.Continue pos) sCont := ps_continue.dimp fun E σ H ⟨δ, G, N, R, h, l⟩ => l.ct σ H δ G Fr.refl R.rs R.rh h
theorem ds_doc {x : Str} {j pos'} : DS X G0 H0 (.Expr (.Constant (.str x) j pos) pos') sNext := ps_doc.dimp fun E σ H ⟨δ, G, N, R, h, l⟩ => l.nx σ H δ G Fr.refl R.rs R.rh h
theorem ds_expr (he : DE X G0 H0 e m) (hs : swapsWith e none pos.line X.env = pure false := by rfl) : DS X G0 H0 (.Expr e pos) (sDrop m) := (ps_expr he hs).dimp fun E σ H ⟨δ, G, N, R, h, l⟩ =>
  ⟨δ, G, _, R, h, fun v H1 d G1 f1 rd1 rh1 q1 => l.nx σ H1 δ G1 f1 (R.step f1 rh1).rs rh1 q1⟩
theorem ds_ret (he : DE X G0 H0 e m) : DS X G0 H0 (.Return (some e) pos) (sRet m) := (ps_ret he).dimp fun E σ H ⟨δ, G, N, R, h, l⟩ =>
  ⟨δ, G, _, R, h, fun v H1 d G1 f1 rd1 rh1 q1 => l.rt v H1 d G1 f1 rd1 rh1 q1⟩
theorem ds_retN : DS X G0 H0 (.Return none pos) sRetN := ps_retN.dimp fun E σ H ⟨δ, G, N, R, h, l⟩ => l.rt .non H .non G Fr.refl .non R.rh h
theorem ds_if {sa sb : List Stmt} (hc : DT X G0 H0 c ta) (ha : DSs X G0 H0 sa t) (hb : DSs X G0 H0 sb u) : DS X G0 H0 (.If c sa sb pos) (sIf ta t u) := (ps_if hc ha hb).dimp fun E σ H ⟨δ, G, N, R, h, l⟩ =>
  ⟨δ, G, _, R, h, fun b H1 G1 f1 rh1 q1 => by
    cases b with
    | true => exact iteT ⟨δ, G1, N, R.step f1 rh1, q1, l.step f1⟩
    | false => exact iteF ⟨δ, G1, N, R.step f1 rh1, q1, l.step f1⟩⟩
theorem ds_set {i : Nat} {x : Str} {pos' : Pos} (hN : X.N.Nodup) (he : DE X G0 H0 e m) (hi : X.N[i]? = some x := by rfl) (hx : Loc X.env.scope x := by first | exact .inl rfl | exact .inr rfl) (hs : swapsWith e (some (.Name x pos')) pos.line X.env = pure false := by rfl) (hf : X.fn x = true ∨ X.env.scope.names.lookup x = some .local := by first | exact .inl rfl | exact .inr rfl | assumption) :
    DS X G0 H0 (.Assign [.Name x pos'] e pos) (sAsg m (gN i)) := by
  refine ⟨fun pins s σ H E I ⟨δ, G, N, R, h, l⟩ => ?_⟩
  have hiσ : i < σ.length := by rw [I.len]; exact (List.getElem?_eq_some_iff.mp hi).1
  exact (ps_set hN hi hx he hs hf).run pins s σ H E I ⟨δ, G, _, R, h, fun v H1 d G1 f1 rd1 rh1 q1 => l.nx _ H1 _ G1 f1 ((R.step f1 rh1).rs.set rd1 hiσ) rh1 q1⟩
theorem ds_asg {tg : Expr} {g : MG} (he : DE X G0 H0 e m) (hg : DG X G0 H0 tg g) (hs : swapsWithSole [tg] e pos.line X.env = pure false := by rfl) (hw : swappedStores [tg] e X.env = pure none := by rfl)
    (h1 : (assignEach [tg] X.env).map (·.2) = [assign tg X.env] := by rfl) : DS X G0 H0 (.Assign [tg] e pos) (sAsg m g) := (ps_asg he hg hs hw h1).dimp fun E σ H ⟨δ, G, N, R, h, l⟩ =>
  ⟨δ, G, _, R, h, fun v H1 d G1 f1 rd1 rh1 q1 => ⟨d, δ, G1, _, R.step f1 rh1, rd1, q1, fun s2 H2 d2 G2 f2 rs2 rh2 q2 => l.nx s2 H2 d2 G2 (f1.trans f2) rs2 rh2 q2⟩⟩
/-- a, b = x, y -/
def sPar (i j : Nat) (a : MA) : MS := fun N δ G => a δ G fun ds G1 => match ds with | [v, w] => N.nx ((δ.set i (some v)).set j (some w)) G1 | _ => False
theorem ds_par {i j : Nat} {x y : Str} {px py pt : Pos} {kt k2 pt2} (hc : X.calm = true) (hN : X.N.Nodup) (hi : X.N[i]? = some x) (hj : X.N[j]? = some y) (hij : i ≠ j)
    (hx : X.env.scope.names.lookup x = some .local) (hy : X.env.scope.names.lookup y = some .local) (ha : DA X G0 H0 [a, b] aa)
    (hw : swappedStores [.Tuple [.Name x px, .Name y py] kt pt] (.Tuple [a, b] k2 pt2) X.env = pure (some [x, y]))
    (hs : swapsWithSole [.Tuple [.Name x px, .Name y py] kt pt] (.Tuple [a, b] k2 pt2) pos.line X.env = pure false := by rfl) :
    DS X G0 H0 (.Assign [.Tuple [.Name x px, .Name y py] kt pt] (.Tuple [a, b] k2 pt2) pos) (sPar i j aa) := by
  refine ⟨fun pins s σ H E I ⟨δ, G, N, R, h, l⟩ => ?_⟩
  have hiσ : i < σ.length := by rw [I.len]; exact (List.getElem?_eq_some_iff.mp hi).1
  have hjσ : j < σ.length := by rw [I.len]; exact (List.getElem?_eq_some_iff.mp hj).1
  refine (ps_par hc hN hi hj hij hx hy ha hw hs).run pins s σ H E I ⟨δ, G, _, R, h, fun vs H1 ds G1 f1 rd1 rh1 q1 _ => ?_⟩
  split at q1
  · cases rd1 with
    | cons r1 r2 =>
      cases r2 with
      | cons r3 r4 =>
        cases r4
        exact ⟨_, _, rfl, l.nx _ H1 _ G1 f1 (((R.step f1 rh1).rs.set r1 hiσ).set r3 (by simpa using hjσ)) rh1 q1⟩
  · exact q1.elim
def rIadd : D → D → GH → KD → Prop := fun x y G Q => match x, y with
  | .int i, .int j => Q (.int (i + j)) G
  | _, _ => False
/-- x += e -/
def sAug (i : Nat) (m : ME) (r : D → D → GH → KD → Prop) : MS := fun N δ G => match slot δ i with | some x => m δ G fun y G1 => r x y G1 fun z G2 => N.nx (δ.set i (some z)) G2 | none => False
theorem ds_aug {i : Nat} {x : Str} {op : Operator} {r : D → D → GH → KD → Prop} {pos' : Pos} (hN : X.N.Nodup) (he : DE X G0 H0 e m) (ho : OpR X (inplaceOp op) (r2D X.K r)) (hi : X.N[i]? = some x := by rfl) (hx : Loc X.env.scope x := by first | exact .inl rfl | exact .inr rfl) (hf : X.fn x = true ∨ X.env.scope.names.lookup x = some .local := by first | exact .inl rfl | exact .inr rfl | assumption) :
    DS X G0 H0 (.AugAssign (.Name x pos') op e pos) (sAug i m r) := by
  refine ⟨fun pins s σ H E I ⟨δ, G, N, R, h, l⟩ => ?_⟩
  have hiσ : i < σ.length := by rw [I.len]; exact (List.getElem?_eq_some_iff.mp hi).1
  unfold sAug at h
  cases es : slot δ i with
  | none => rw [es] at h; exact h.elim
  | some d0 =>
    rw [es] at h
    obtain ⟨v0, e0, rd0⟩ := R.rs i d0 (slot_some es)
    refine (ps_aug hN hi hx he (ti := r2D X.K r) ho hf).run pins s σ H E I ⟨v0, e0, δ, G, _, R, h, fun v H1 d G1 f1 rd1 rh1 q1 => ?_⟩
    exact ⟨d0, d, G1, _, RD.mono (f1.tle R.rh) _ _ rd0, rd1, rh1, q1, fun z H2 dz G2 f2 rd2 rh2 q2 => l.nx _ H2 _ G2 (f1.trans f2) ((((R.step f1 rh1).step f2 rh2).rs).set rd2 hiσ) rh2 q2⟩
theorem o_iadd : OpR X (inplaceOp .Add) (r2D X.K rIadd) := by
  rintro pins s σ H x y v u Q I rx ry ⟨dx, dy, G, Qd, h1, h2, rh, h, k⟩
  unfold rIadd at h
  split at h
  · cases h1; cases h2
    exact iop_add pins s σ H _ _ v u Q I rx ry ⟨_, _, rfl, rfl, k.here (.int _) rh h⟩
  · exact h.elim
theorem o_isub : OpR X (inplaceOp .Sub) (r2D X.K rSub) := by
  rintro pins s σ H x y v u Q I rx ry ⟨dx, dy, G, Qd, h1, h2, rh, h, k⟩
  unfold rSub at h
  split at h
  · cases h1; cases h2
    exact iop_sub pins s σ H _ _ v u Q I rx ry ⟨_, _, rfl, rfl, k.here (.int _) rh h⟩
  · exact h.elim

/-! while -/
def sWhile (t : MT) (b : MS) : MS := fun N δ G => ∃ P : Nat → Sl → GH → Prop, (∃ n, P n δ G) ∧ ∀ n δ G, P n δ G → t δ G fun c G1 =>
  if c = true then b { nx := fun δ' G' => ∃ k, k < n ∧ P k δ' G', ct := fun δ' G' => ∃ k, k < n ∧ P k δ' G', bk := N.nx, rt := N.rt } δ G1 else N.nx δ G1
theorem ds_while (hp : PassesOwn (model X.prog X.w) X.A X.env X.xe) (hc : DT X G0 H0 c ta) (hb : DSs X G0 H0 body t) : DS X G0 H0 (.While c body [] pos) (sWhile ta t) := (ps_while hp hc hb).dimp fun E σ H ⟨δ, G, N, R, h, l⟩ => by
  obtain ⟨P, ⟨n, p0⟩, turn⟩ := h
  refine ⟨fun m σ1 H1 => ∃ δ1 G1, Fr G H G1 H1 ∧ RS X.K H1 δ1 σ1 ∧ RH X.K H1 G1 ∧ P m δ1 G1, ⟨n, δ, G, Fr.refl, R.rs, R.rh, p0⟩, ?_⟩
  rintro m σ1 H1 ⟨δ1, G1, f1, rs1, rh1, p1⟩
  refine ⟨δ1, G1, _, R.stepS f1 rs1 rh1, turn m δ1 G1 p1, fun b H2 G2 f2 rh2 q2 => ?_⟩
  cases b with
  | true =>
    refine iteT ⟨fun σ' H' => ∃ m', m' < m ∧ ∃ δ1 G1, Fr G H G1 H' ∧ RS X.K H' δ1 σ' ∧ RH X.K H' G1 ∧ P m' δ1 G1, fun _ _ q => q, δ1, G2, _, (R.stepS f1 rs1 rh1).step f2 rh2, iteT_inv q2, ?_⟩
    refine ⟨fun s3 H3 d3 G3 f3 rs3 rh3 q3 => ?_, fun s3 H3 d3 G3 f3 rs3 rh3 q3 => l.nx s3 H3 d3 G3 ((f1.trans f2).trans f3) rs3 rh3 q3, fun s3 H3 d3 G3 f3 rs3 rh3 q3 => ?_, fun v H3 d G3 f3 rd3 rh3 q3 => l.rt v H3 d G3 ((f1.trans f2).trans f3) rd3 rh3 q3⟩
    · obtain ⟨k, hk, p⟩ := q3
      exact ⟨k, hk, d3, G3, (f1.trans f2).trans f3, rs3, rh3, p⟩
    · obtain ⟨k, hk, p⟩ := q3
      exact ⟨k, hk, d3, G3, (f1.trans f2).trans f3, rs3, rh3, p⟩
  | false => exact iteF (l.nx σ1 H2 δ1 G2 (f1.trans f2) ((R.stepS f1 rs1 rh1).step f2 rh2).rs rh2 (iteF_inv q2))
where
  iteT_inv {A B : Prop} (h : if true = true then A else B) : A := by rw [if_pos rfl] at h; exact h
  iteF_inv {A B : Prop} (h : if false = true then A else B) : B := by rw [if_neg Bool.false_ne_true] at h; exact h
end

/-! what is walked -/
abbrev MI := Sl → GH → (List D → (GH → Prop) → GH → Prop) → Prop
/-- an iterator gives these items, as long as Φ -/
structure Gives (K : PySem.W.Frag) (H1 : Hp) (J : It) (ds : List D) (Φ : GH → Prop) : Prop where
  go : ∀ (i : Nat) (H : Hp) (G : GH) (d : D), TLe K H1 H → RH K H G → Φ G → ds[i]? = some d → J.go i H ∧ ∀ x H', J.yld i H x H' → Fr G H G H' ∧ RH K H' G ∧ RD K H' d x
  stop : ∀ (i : Nat) (H : Hp) (G : GH), TLe K H1 H → RH K H G → Φ G → ds.length ≤ i → J.stop i H
def tI (K : PySem.W.Frag) (G0 : GH) (H0 : Hp) (mi : MI) : TI := fun σ H R => ∃ δ G Rd, Rl K G0 H0 δ G σ H ∧ mi δ G Rd ∧ ∀ J H' ds Φ G', Fr G H G' H' → RH K H' G' → Gives K H' J ds Φ → Rd ds Φ G' → R J H'
theorem _root_.L2.PI.dimp {X : Cx} {tg e : Expr} {t t' : TI} (h : PI X tg e t) (c : ∀ σ H Q, t' σ H Q → t σ H Q) : PI X tg e t' := ⟨fun p s σ H Q I q => h.run p s σ H Q I (c σ H Q q)⟩
abbrev DI (X : Cx) (G0 : GH) (H0 : Hp) (tg e : Expr) (m : MI) := PI X tg e (tI X.K G0 H0 m)
def forL (Φ : GH → Prop) (g : MG) (b : MS) : List D → Nd → Sl → GH → Prop
  | [], N, δ, G => Φ G ∧ N.nx δ G
  | d :: ds, N, δ, G => Φ G ∧ g d δ G fun δ1 G1 => b { nx := fun δ2 G2 => forL Φ g b ds N δ2 G2, ct := fun δ2 G2 => forL Φ g b ds N δ2 G2, bk := N.nx, rt := N.rt } δ1 G1
def sFor (mi : MI) (g : MG) (b : MS) : MS := fun N δ G => mi δ G fun ds Φ G1 => forL Φ g b ds N δ G1
section
variable {X : Cx} {G0 : GH} {H0 : Hp} {e a b c tg iter : Expr} {es rest : List Expr} {m ma mb mc : ME} {aa : MA} {pos : Pos} {body : List Stmt} {t u : MS} {mi : MI} {g : MG}
theorem ds_for (hp : PassesOwn (model X.prog X.w) X.A X.env X.xe) (hc : X.calm = true) (hi : DI X G0 H0 tg iter mi) (hg : DG X G0 H0 tg g) (hb : DSs X G0 H0 body t)
    (hs : ∀ x, foldedSetIterable iter X.env x = pure x := by exact fun _ => rfl) : DS X G0 H0 (.For tg iter body [] pos) (sFor mi g t) := (ps_for hp hc hi hg hb hs).dimp fun E σ H ⟨δ, G, N, R, h, l⟩ => by
  refine ⟨δ, G, _, R, h, fun J H1 ds Φ G1 f1 rh1 gv q1 => ?_⟩
  have t1 := f1.tle R.rh
  refine ⟨fun i m σ' H' => m = ds.length - i ∧ i ≤ ds.length ∧ ∃ δ' G', Fr G1 H1 G' H' ∧ RS X.K H' δ' σ' ∧ RH X.K H' G' ∧ forL Φ g t (ds.drop i) N δ' G', ⟨ds.length, by simp, Nat.zero_le _, δ, G1, Fr.refl, R.rs.mono t1, rh1, by simpa using q1⟩, ?_⟩
  rintro i m σ' H' ⟨rfl, hi, δ', G', f', rs', rh', q'⟩
  have tt : TLe X.K H1 H' := f'.tle rh1
  by_cases hlt : i < ds.length
  · rw [List.drop_eq_getElem_cons hlt] at q'
    obtain ⟨ph, q'⟩ := q'
    obtain ⟨go, yl⟩ := gv.go i H' G' ds[i] tt rh' ph (by simp [hlt])
    have R' : Rl X.K G0 H0 δ' G' σ' H' := R.stepS (f1.trans f') rs' rh'
    refine .inr ⟨go, fun σ2 H2 => ∃ δ' G', Fr G1 H1 G' H2 ∧ RS X.K H2 δ' σ2 ∧ RH X.K H2 G' ∧ forL Φ g t (ds.drop (i + 1)) N δ' G', fun σ2 H2 q => ⟨ds.length - (i + 1), by omega, rfl, hlt, q⟩, fun x H2 y => ?_⟩
    obtain ⟨f2, rh2, rd2⟩ := yl x H2 y
    refine ⟨ds[i], δ', G', _, R'.step f2 rh2, rd2, q', fun σ3 H3 δ3 G3 f3 rs3 rh3 q3 => ?_⟩
    refine ⟨δ3, G3, _, (R'.step f2 rh2).stepS f3 rs3 rh3, q3, ?_, ?_, ?_, ?_⟩
    · intro σ4 H4 δ4 G4 f4 rs4 rh4 q4
      exact ⟨δ4, G4, ((f'.trans f2).trans f3).trans f4, rs4, rh4, q4⟩
    · intro σ4 H4 δ4 G4 f4 rs4 rh4 q4
      exact l.nx σ4 H4 δ4 G4 ((((f1.trans f').trans f2).trans f3).trans f4) rs4 rh4 q4
    · intro σ4 H4 δ4 G4 f4 rs4 rh4 q4
      exact ⟨δ4, G4, ((f'.trans f2).trans f3).trans f4, rs4, rh4, q4⟩
    · intro v H4 d G4 f4 rd4 rh4 q4
      exact l.rt v H4 d G4 ((((f1.trans f').trans f2).trans f3).trans f4) rd4 rh4 q4
  · have e : i = ds.length := by omega
    subst e
    rw [List.drop_length] at q'
    exact .inl ⟨gv.stop _ H' G' tt rh' q'.1 (Nat.le_refl _), l.nx σ' H' δ' G' (f1.trans f') rs' rh' q'.2⟩
/-! iterables -/
/-- the signs of a text -/
def chD (x : Str) : List D := x.cps.toList.map fun c => D.str ⟨#[c]⟩
def iSeq (m : ME) : MI := fun δ G R => m δ G fun d G1 => match d with
  | .tup ds => ds.length ≤ sizeLine → R ds (fun _ => True) G1
  | .lst ds => ds.length ≤ sizeLine → R ds (fun _ => True) G1
  | .str z => R (chD z) (fun _ => True) G1
  | .ref p => match rdL G1 p with
    | some ds => ds.length ≤ sizeLine → R ds (fun G => rdL G p = some ds) G1
    | none => False
  | _ => False
theorem gives_str {K : PySem.W.Frag} {H : Hp} {x : Str} : Gives K H (Its x) (chD x) (fun _ => True) where
  go := fun i H' G d t rh _ e => by
    unfold chD at e
    rw [List.getElem?_map] at e
    obtain ⟨c, hc, rfl⟩ := Option.map_eq_some_iff.mp e
    rw [Array.getElem?_toList] at hc
    refine ⟨?_, fun z H2 yy => ?_⟩
    · have := (Array.getElem?_eq_some_iff.mp hc).1
      exact this
    · obtain ⟨rfl, c', hc', rfl⟩ := yy
      rw [hc] at hc'; cases hc'
      exact ⟨Fr.refl, rh, .str _⟩
  stop := fun i H' G t rh _ h => by
    unfold chD at h
    simp at h
    exact h
theorem gives_tup {K : PySem.W.Frag} {H : Hp} {a : Addr} {vs : List V} {ds : List D} (s1 : SqT K H a vs) (a1 : RDs K H ds vs) : Gives K H (Itt K a) ds (fun _ => True) where
  go := fun i H' G d t rh _ e => by
    obtain ⟨v, ev, rd⟩ := a1.get e
    refine ⟨⟨vs, v, t.sq _ _ s1, ev⟩, fun x H2 y => ?_⟩
    obtain ⟨rfl, y⟩ := y
    have e2 := y vs (t.sq _ _ s1)
    rw [ev] at e2; cases e2
    exact ⟨Fr.refl, rh, RD.mono t _ _ rd⟩
  stop := fun i H' G t rh _ h => ⟨vs, t.sq _ _ s1, by rw [← a1.length]; exact h⟩
theorem gives_frz {K : PySem.W.Frag} {H : Hp} {a : Addr} {vs : List V} {ds : List D} {o : Obj} (s1 : H a = some (.frz o (.lst vs))) (a1 : RDs K H ds vs) : Gives K H (Itl K a) ds (fun _ => True) where
  go := fun i H' G d t rh _ e => by
    obtain ⟨v, ev, rd⟩ := a1.get e
    have sq : SqL K H' a vs := .inl (.inr ⟨o, t.fz _ _ _ s1⟩)
    refine ⟨⟨vs, v, sq, ev⟩, fun x H2 y => ?_⟩
    obtain ⟨rfl, y⟩ := y
    have e2 := y vs sq
    rw [ev] at e2; cases e2
    exact ⟨Fr.refl, rh, RD.mono t _ _ rd⟩
  stop := fun i H' G t rh _ h => ⟨vs, .inl (.inr ⟨o, t.fz _ _ _ s1⟩), by rw [← a1.length]; exact h⟩
theorem gives_lst {K : PySem.W.Frag} {H : Hp} {p : Addr} {ds : List D} : Gives K H (Itl K p) ds (fun G => rdL G p = some ds) where
  go := fun i H' G d t rh ph e => by
    obtain ⟨vs, f1, a1⟩ := rdL_some rh ph
    obtain ⟨v, ev, rd⟩ := a1.get e
    refine ⟨⟨vs, v, .of f1, ev⟩, fun x H2 y => ?_⟩
    obtain ⟨rfl, y⟩ := y
    have e2 := y vs (.of f1)
    rw [ev] at e2; cases e2
    exact ⟨Fr.refl, rh, rd⟩
  stop := fun i H' G t rh ph h => by
    obtain ⟨vs, f1, a1⟩ := rdL_some rh ph
    exact ⟨vs, .of f1, by rw [← a1.length]; exact h⟩
/-- one PI for a list or a tuple -/
theorem pi_seq {l : Expr} {tl : TE} (hl : PE X l tl) : PI X tg l (fun σ H R => tl σ H fun x H1 => (∃ a, x = .ref a ∧ ((∃ xs, SqL X.K H1 a xs ∧ (xs.length ≤ sizeLine → R (Itl X.K a) H1)) ∨ (∃ xs, SqT X.K H1 a xs ∧ (xs.length ≤ sizeLine → R (Itt X.K a) H1)))) ∨ ∃ z, x = .str z ∧ R (Its z) H1) := by
  refine ⟨fun pins s σ H R I h => ?_⟩
  refine thn (hl.run pins s σ H _ I h) fun v s1 ⟨x, H1, I1, r1, q⟩ => ?_
  rcases q with ⟨a, e, q⟩ | ⟨z, e, q⟩
  rotate_left
  · subst e
    obtain ⟨t, rfl⟩ := r1
    cases ha : z.cps.all (· < 128)
    · exact wpAny_pyIter_wide ha (pi_one (tk := s1.toks) I1 _ (turn_str _ z t "str_iterator" (.inr rfl)) ⟨_, Heap.get?_push_size _ rfl, rfl, rfl⟩ q)
    · exact wpAny_pyIter_ascii ha (pi_one (tk := s1.toks) I1 _ (turn_str _ z t "str_ascii_iterator" (.inl rfl)) ⟨_, Heap.get?_push_size _ rfl, rfl, rfl⟩ q)
  subst e
  cases r1
  rcases q with ⟨xs, hq, q⟩ | ⟨xs, hq, q⟩
  · obtain ⟨its, rv, p, hz⟩ := I1.list hq
    refine wpAny_pyIter_list p.isList ?_
    refine ⟨s1.heap.objs.size, [s1.heap.objs.size], _, _, H1, rfl, I1.kept (t' := s1.toks) fun b o e => Heap.get?_push_of_some _ e, turn_list a _, ⟨_, Heap.get?_push_size _ rfl, rfl, rfl⟩, fun b hb => ?_, q hz⟩
    obtain rfl : b = s1.heap.objs.size := by simpa using hb
    exact I1.fpOk (Nat.le_refl _) (I1.hok.fresh (Nat.le_refl _))
  · obtain ⟨its, rv, p, hz⟩ := I1.tuple hq
    refine wpAny_pyIter_tuple (show s1.heap.IsTuple a its.toArray from p) ?_
    refine ⟨s1.heap.objs.size, [s1.heap.objs.size], _, _, H1, rfl, I1.kept (t' := s1.toks) fun b o e => Heap.get?_push_of_some _ e, turn_tuple a _, ⟨_, Heap.get?_push_size _ rfl, rfl, rfl⟩, fun b hb => ?_, q hz⟩
    obtain rfl : b = s1.heap.objs.size := by simpa using hb
    exact I1.fpOk (Nat.le_refl _) (I1.hok.fresh (Nat.le_refl _))
theorem di_seq (hl : DE X G0 H0 e m) : DI X G0 H0 tg e (iSeq m) := (pi_seq hl).dimp fun σ H Rr ⟨δ, G, Rd, R, h, k⟩ =>
  ⟨δ, G, _, R, h, fun v H1 d G1 f1 rd1 rh1 q1 => by
    cases rd1 with
    | tup s1 a1 => exact .inl ⟨_, rfl, .inr ⟨_, s1, fun hz => k _ H1 _ _ G1 f1 rh1 (gives_tup s1 a1) (q1 (by rw [a1.length]; exact hz))⟩⟩
    | str z => exact .inr ⟨z, rfl, k _ H1 _ _ G1 f1 rh1 gives_str q1⟩
    | lst s1 a1 => exact .inl ⟨_, rfl, .inl ⟨_, .inl (.inr ⟨_, s1⟩), fun hz => k _ H1 _ _ G1 f1 rh1 (gives_frz s1 a1) (q1 (by rw [a1.length]; exact hz))⟩⟩
    | ref p =>
      dsimp only at q1
      split at q1
      · rename_i ds e
        obtain ⟨vs, g1, a1⟩ := rdL_some rh1 e
        exact .inl ⟨_, rfl, .inl ⟨_, .of g1, fun hz => k _ H1 _ _ G1 f1 rh1 gives_lst (q1 (by rw [a1.length]; exact hz))⟩⟩
      · exact q1.elim
    | _ => exact q1.elim⟩
/-- range(n) -/
def rngD (lo : Int) (n : Nat) : List D := (List.range n).map fun i => D.int (lo + (i : Nat))
def iRng (m : ME) : MI := fun δ G R => m δ G fun d G1 => match d with | .int n => (-(2 ^ 62) ≤ n ∧ n < 2 ^ 62) ∧ R (rngD 0 n.toNat) (fun _ => True) G1 | _ => False
def iRng2 (m m2 : ME) : MI := fun δ G R => m δ G fun d G1 => m2 δ G1 fun d2 G2 => match d, d2 with | .int i, .int j => (-(2 ^ 62) ≤ i ∧ i < 2 ^ 62 ∧ -(2 ^ 62) ≤ j ∧ j < 2 ^ 62) ∧ R (rngD i (j - i).toNat) (fun _ => True) G2 | _, _ => False
theorem gives_rng {K : PySem.W.Frag} {H : Hp} {lo : Int} {n : Nat} : Gives K H (Itr lo n) (rngD lo n) (fun _ => True) where
  go := fun i H' G d t rh _ e => by
    unfold rngD at e
    rw [List.getElem?_map] at e
    obtain ⟨j, hj, rfl⟩ := Option.map_eq_some_iff.mp e
    have hi : i < n := by have := (List.getElem?_eq_some_iff.mp hj).1; simpa using this
    rw [List.getElem?_range hi] at hj
    cases hj
    refine ⟨hi, fun x H2 y => ?_⟩
    obtain ⟨rfl, rfl⟩ := y
    exact ⟨Fr.refl, rh, .int _⟩
  stop := fun i H' G t rh _ h => by 
    unfold rngD at h
    rw [List.length_map, List.length_range] at h
    exact h
theorem di_rng {p : Pos} (hg : Gl X "range") (hm : X.mg "range" = none) (ha : DE X G0 H0 a ma) (hs : starEach [a] X.env = [(false, eval a X.env)] := by rfl) (hs1 : starEach [a] X.env = (false, eval a X.env) :: starEach [] X.env := by rfl) : DI X G0 H0 tg (.Call (.Name "range" p) [a] [] pos) (iRng ma) :=
  (pi_range1 hg hm (pa_cons ha pa_nil hs1) hs).dimp fun σ H Rr ⟨δ, G, Rd, R, h, k⟩ =>
    ⟨δ, G, _, R, h, fun v H1 d G1 f1 rd1 rh1 q1 => by
      cases rd1 with
      | int n => exact ⟨n, rfl, q1.1.1, q1.1.2, k _ H1 _ _ G1 f1 rh1 gives_rng q1.2⟩
      | _ => exact q1.elim⟩
theorem di_rng2 {p : Pos} (hg : Gl X "range") (hm : X.mg "range" = none) (ha : DE X G0 H0 a ma) (hb : DE X G0 H0 b mb) (hs : starEach [a, b] X.env = [(false, eval a X.env), (false, eval b X.env)] := by rfl) (hs2 : starEach [b] X.env = [(false, eval b X.env)] := by rfl)
    (hs3 : starEach [a, b] X.env = (false, eval a X.env) :: starEach [b] X.env := by rfl) (hs4 : starEach [b] X.env = (false, eval b X.env) :: starEach [] X.env := by rfl) : DI X G0 H0 tg (.Call (.Name "range" p) [a, b] [] pos) (iRng2 ma mb) :=
  (pi_range2 hg hm (pa_cons ha (pa_cons hb pa_nil hs4) hs3) hs hs2).dimp fun σ H Rr ⟨δ, G, Rd, R, h, k⟩ =>
    ⟨δ, G, _, R, h, fun v H1 d G1 f1 rd1 rh1 q1 => ⟨δ, G1, _, R.step f1 rh1, q1, fun u H2 d2 G2 f2 rd2 rh2 q2 => by
      cases rd1 with
      | int i =>
        cases rd2 with
        | int j => exact ⟨i, j, rfl, q2.1, k _ H2 _ _ G2 (f1.trans f2) rh2 gives_rng q2.2⟩
        | _ => exact q2.elim
      | _ => cases rd2 <;> exact q2.elim⟩⟩
end
end DL
namespace DL
open PySem PySem.Spec PyProof.Rows L2

/-! defs -/
abbrev XD := Value → Option (Str × D) → GH → Prop
abbrev SpD := List D → GH → KD → XD → Prop
/-- an exception's own field -/
def FldR (K : PySem.W.Frag) (H : Hp) : Option Addr → Option (Str × D) → Prop
  | none, none => True
  | some d, some (f, v) => ∃ x, H d = some (.xd [(f, x)]) ∧ RD K H v x
  | _, _ => False
def EofD (K : PySem.W.Frag) (G : GH) (H : Hp) (E : XD) : XK := fun cls dx H' => ∃ fld G', Fr G H G' H' ∧ RH K H' G' ∧ FldR K H' dx fld ∧ E cls fld G'
def QofD (K : PySem.W.Frag) (G : GH) (H : Hp) (Q : KD) : VK := fun v H' => ∃ d G', Fr G H G' H' ∧ RD K H' d v ∧ RH K H' G' ∧ Q d G'
abbrev WD := Value → Option (Str × D) → Sl → GH → Prop
def lwD (K : PySem.W.Frag) (G0 : GH) (H0 : Hp) (W : WD) : WX := fun cls dx σ H => ∃ δ G fld, Rl K G0 H0 δ G σ H ∧ FldR K H dx fld ∧ W cls fld δ G
abbrev W0 : WD := fun _ _ _ _ => False
/-- the wish of a def about exceptions -/
def wE (E : XD) : WD := fun cls fld _ G => E cls fld G
structure Ctx (k : Nat) (A : Around) : Prop where
  r : Room k A
  g : A.guards = some []
theorem Ctx.mono {j k : Nat} {A : Around} (c : Ctx k A) (h : j ≤ k := by decide) : Ctx j A := ⟨c.r.mono h, c.g⟩
theorem Ctx.u64 {k : Nat} {A : Around} (c : Ctx k A) : A.units + 64 < cLine := c.r.units
theorem Ctx.u65 {k : Nat} {A : Around} (c : Ctx k A) : A.units + 65 < cLine := by have := c.r.un; omega
theorem Ctx.u128 {k : Nat} {A : Around} (c : Ctx k A) : A.units + 128 < cLine := by have := c.r.un; omega

structure FnD (P : Program) (w : World) (K : PySem.W.Frag) (mg : Str → Option Value) (base : Heap) (k : Nat) (f : Addr) (fd : FuncData) (ps : List Str) (sp : SpD) : Prop where
  len : ∀ ds G Q E, sp ds G Q E → ds.length = ps.length
  run : ∀ (A : Around) (outer : List Env) (s : Shared) (H : Hp) (args : Args) (us : List Value) (vs : List V) (ds : List D) (G : GH) (Q : KD) (E : XD), Ctx k A → Env0 P w K mg base A outer s H → BindsTo s fd args (ps.zip us) → Vals vs us → RDs K H ds vs → RH K H G → sp ds G Q E →
    codeAny (model P w) A (.call (.ref f) args) (CR (L2.CX P w) outer P w H s (QofD K G H Q) (EofD K G H E)) s
theorem FnD.mono {P : Program} {w : World} {K : PySem.W.Frag} {mg : Str → Option Value} {base : Heap} {j k : Nat} {f : Addr} {fd : FuncData} {ps : List Str} {sp : SpD} (F : FnD P w K mg base j f fd ps sp) (h : j ≤ k := by decide) : FnD P w K mg base k f fd ps sp :=
  ⟨F.len, fun A outer s H args us vs ds G Q E c => F.run A outer s H args us vs ds G Q E (c.mono h)⟩
theorem FnD.imp {P : Program} {w : World} {K : PySem.W.Frag} {mg : Str → Option Value} {base : Heap} {k : Nat} {f : Addr} {fd : FuncData} {ps : List Str} {sp sp' : SpD} (F : FnD P w K mg base k f fd ps sp)
    (h : ∀ ds G Q E, sp' ds G Q E → sp ds G Q E) : FnD P w K mg base k f fd ps sp' :=
  ⟨fun ds G Q E q => F.len ds G Q E (h _ _ _ _ q), fun A outer s H args us vs ds G Q E c e b r d g q => F.run A outer s H args us vs ds G Q E c e b r d g (h _ _ _ _ q)⟩

def startD : List Str → List D → Sl
  | [], _ => []
  | _ :: N, d :: ds => some d :: startD N ds
  | _ :: N, [] => none :: startD N []
theorem startD_get : ∀ (N : List Str) (ds : List D) (i : Nat) (d : D), (startD N ds)[i]? = some (some d) → ds[i]? = some d
  | [], _, i, d, h => by simp [startD] at h
  | _ :: N, e :: ds, 0, d, h => by
    unfold startD at h
    simpa using h
  | _ :: N, e :: ds, i + 1, d, h => by
    unfold startD at h
    rw [List.getElem?_cons_succ] at h ⊢
    exact startD_get N ds i d h
  | _ :: N, [], 0, d, h => by
    unfold startD at h
    simp at h
  | _ :: N, [], i + 1, d, h => by
    unfold startD at h
    rw [List.getElem?_cons_succ] at h
    have := startD_get N [] i d h
    simp at this
theorem start_rs {K : PySem.W.Frag} {H : Hp} {N : List Str} {ds : List D} {vs : List V} (r : RDs K H ds vs) : RS K H (startD N ds) (L2.start N vs) := fun i d h => by
  obtain ⟨v, ev, rd⟩ := r.get (startD_get N ds i d h)
  refine ⟨v, ?_, rd⟩
  unfold L2.start
  have hl := (List.getElem?_eq_some_iff.mp ev).1
  rw [List.getElem?_append_left (by rw [List.length_map]; exact hl), List.getElem?_map, ev]; rfl

abbrev cxD (P : Program) (w : World) (K : PySem.W.Frag) (mg : Str → Option Value) (base : Heap) (N : List Str) (qual : Str) (st : Stmt) (f : Addr) (cdv : Value) (A : Around) (outer : List Env) (s : Shared) (H : Hp) (G : GH) (E : XD) : Cx :=
  cxOf (L2.CX P w) P w K mg base N qual (defScope st) f cdv A outer s H (EofD K G H E)
section
variable {P : Program} {w : World} {K : PySem.W.Frag} {mg : Str → Option Value} {base : Heap}
/-- what an exception in the body wishes: that of the def -/
theorem takesD {N : List Str} {qual : Str} {st : Stmt} {f : Addr} {cdv : Value} {A : Around} {outer : List Env} {s : Shared} {H : Hp} {G : GH} {E : XD} :
    Takes (cxD P w K mg base N qual st f cdv A outer s H G E) (lwD K G H (wE E)) :=
  (takes_of (X := cxD P w K mg base N qual st f cdv A outer s H G E) (E := EofD K G H E) rfl rfl rfl rfl).imp fun cls dx σ H' ⟨δ, G', fld, R, fr, e⟩ => ⟨fld, G', R.fr, R.rh, fr, e⟩
theorem passesD {N : List Str} {qual : Str} {st : Stmt} {f : Addr} {cdv : Value} {A : Around} {outer : List Env} {s : Shared} {H : Hp} {G : GH} {E : XD} :
    PassesOwn (model P w) (cxD P w K mg base N qual st f cdv A outer s H G E).A (cxD P w K mg base N qual st f cdv A outer s H G E).env (cxD P w K mg base N qual st f cdv A outer s H G E).xe :=
  passes_of (X := cxD P w K mg base N qual st f cdv A outer s H G E) rfl
/-- the rule of a def -/
theorem okD {x qual : Str} {st : Stmt} {f : Addr} {fd : FuncData} {N ps : List Str} {k : Nat} {sp : SpD} (F : Fun K x qual st f fd) (S : FnScope N ps (defScope st)) (len : ∀ ds G Q E, sp ds G Q E → ds.length = ps.length)
    (hbody : ∀ (cdv : Value) (A : Around) (outer : List Env) (s : Shared) (H : Hp) (G : GH) (ds : List D) (Q : KD) (E : XD), Ctx k (A.deeper (envOfC qual (defScope st) s.heap.objs.size f cdv)) → sp ds G Q E →
      ∃ m, DSs (cxD P w K mg base N qual st f cdv A outer s H G E) G H (defBody st) m ∧ m { nx := fun _ G' => Q .non G', rt := Q } (startD N ds) G) : FnD P w K mg base (k + 1) f fd ps sp := by
  obtain ⟨oc, od, kV, doc, pm, an, cdv, ct, osl, rfl, lk, hcd⟩ := F.ex
  refine ⟨len, fun A outer s H args us vs ds G Q E c e0 hb r rd rh hsp => ?_⟩
  have hl : vs.length = ps.length := by rw [← rd.length]; exact len _ _ _ _ hsp
  have kin : K.In s.heap := e0.mod.kin.keeps fun b o q => (e0.bs b o q).1
  have limit : s.heap.NoLimit := e0.mod.nolimit.keeps fun b o q => (e0.bs b o q).1
  have kinds : ∀ y ∈ ps.zip us, (defScope st).names.lookup y.1 = some .local ∨ ((defScope st).names.lookup y.1 = some .cell ∧ ((cellsFrom (s.heap.objs.size + 1) (defScope st).names []).lookup y.1).isSome = true) := by
    rintro ⟨n, v⟩ hy
    cases S.par n (List.of_mem_zip hy).1 with
    | inl q => exact Or.inl q
    | inr q => exact Or.inr ⟨q, PySem.W.cellsFrom_some _ _ _ (Or.inl q)⟩
  refine codeAny_call_function c.r.depth (kin _ _ lk) rfl S.co S.gen rfl (PySem.W.codeRec_of kin hcd) (hb _ _ _ _ ?_)
  refine wpAny_newFunctionEnv_cells S.kind kinds fun env he s1 x => ?_
  subst he
  refine ⟨limit.keeps x.toInCall.keep, codeAny_func ?_⟩
  obtain ⟨m, hm, hq⟩ := hbody cdv A outer s H G ds Q E ⟨c.r.deeper _, c.g⟩ hsp
  have J := inv_start (CX := L2.CX P w) (E := EofD K G H E) S c.r.hd e0 hl r x
  have start : tS K G H m { nx := fun _ H' => QofD K G H Q .non H', rt := QofD K G H Q } (L2.start N vs) H :=
    ⟨startD N ds, G, _, ⟨Fr.refl, start_rs rd, rh⟩, hq, fun s' H' d' G' f' rs' rh' q' => ⟨.non, G', f', .non, rh', q'⟩, fun _ _ _ _ _ _ _ z => z.elim, fun _ _ _ _ _ _ _ z => z.elim, fun v H' d G' f' rd' rh' q' => ⟨d, G', f', rd', rh', q'⟩⟩
  refine wpAny_mono (hm.run [] s1 (L2.start N vs) H _ J start) ?_ fun e s' he => he
  intro fl s' hs
  have fin : ∀ {σ' : L2.St} {H' : Hp} {v : V} {u : Value}, Inv (cxD P w K mg base N qual st f cdv A outer s H G E) [] σ' H' s' → RelV v u → QofD K G H Q v H' → CE outer P w H s (QofD K G H Q) u s' := by
    intro σ' H' v u J' rv q
    exact ⟨v, H', J'.os, J'.bare, J'.base, J'.hok, rv, q⟩
  cases fl with
  | next => obtain ⟨σ', H', J', q⟩ := hs; exact fin (v := V.non) (u := Value.none) J' rfl q
  | ret u => obtain ⟨v, σ', H', J', rv, q⟩ := hs; exact fin J' rv q
  | brk => obtain ⟨_, _, _, q⟩ := hs; exact q.elim
  | cont => obtain ⟨_, _, _, q⟩ := hs; exact q.elim
end

/-! calls -/
section
variable {X : Cx} {G0 : GH} {H0 : Hp} {k : Nat} {f : Addr} {fd : FuncData} {ps ks : List Str} {sp : SpD} {W : WD} {x : Str} {p pos kpos : Pos} {e : Expr} {es : List Expr} {m : ME} {aa ak : MA}
theorem takes0D : Takes X (lwD X.K G0 H0 W0) := takes0.imp fun _ _ _ _ ⟨_, _, _, _, _, z⟩ => z
theorem run_D {pins : List (Addr × Obj)} {σ : L2.St} {H : Hp} {s : Shared} {Q : VK} {args : Args} {us : List Value} {vs : List V} {ds : List D} {δ : Sl} {G : GH} {Qd : KD} (F : FnD X.prog X.w X.K X.mg X.base k f fd ps sp) (C : Ctx k X.A) (tk : Takes X (lwD X.K G0 H0 W))
    (I : Inv X pins σ H s) (R : Rl X.K G0 H0 δ G σ H) (hb : BindsTo s fd args (ps.zip us)) (r : Vals vs us) (rd : RDs X.K H ds vs) (h : sp ds G Qd fun cls fld G' => W cls fld δ G') (kq : KV' X.K G H Qd Q) :
    wpAny (model X.prog X.w) X.A (call (.ref f) args.pos args.kw) (EP X pins σ Q) X.xe s := by
  refine wpAny_call (codeAny_mono (F.run X.A X.stack s H args us vs ds G Qd _ C I.env0 hb r rd R.rh h) fun res s' hq => ?_)
  cases res with
  | ok fl =>
    cases fl with
    | next => exact hq.elim
    | brk => exact hq.elim
    | cont => exact hq.elim
    | ret u =>
      have aft := I.after hq
      obtain ⟨v, H', J, rv, d, G', fr, rdv, rhv, q⟩ := aft
      exact ⟨v, H', J, rv, kq v H' d G' fr rdv rhv q⟩
  | error e =>
    refine tk e s' (XE.of_call I (fun cls dx H' hE => ?_) hq)
    obtain ⟨fld, G', fr, rh', ff, w⟩ := hE
    exact ⟨δ, G', fld, R.step fr rh', ff, w⟩
def mCall (sp : SpD) (W : WD) (aa : MA) : ME := fun δ G Q => aa δ G fun ds G1 => sp ds G1 Q fun cls fld G' => W cls fld δ G'
theorem d_call (F : FnD X.prog X.w X.K X.mg X.base k f fd ps sp) (C : Ctx k X.A) (tk : Takes X (lwD X.K G0 H0 W)) (hm : X.mg x = some (.ref f)) (hk : PySem.W.keepIn X.K (.ref f) = true) (hb : Binds X.K fd ps []) (ha : DA X G0 H0 (e :: es) aa)
    (hg : Gl X x := by rfl) (hdb : (x == ("__debug__" : Str)) = false := by decide) (he : starEach (e :: es) X.env = (false, eval e X.env) :: starEach es X.env := by rfl) (hpl : (backTo pos (starEach es X.env)).any (·.1) = false := by rfl) :
    DE X G0 H0 (.Call (.Name x p) (e :: es) [] pos) (mCall sp W aa) := by
  refine ⟨fun pins s σ H Q I ⟨δ, G, Qd, R, h, kq⟩ => wpAny_Call_Name_kw (ld_glob I hg hm ?_ hdb)⟩
  refine PySem.W.callWith_K (h₀ := X.base) I.ok.mod.kin hk (thn (ha.run pos pins s σ H (fun vs H1 => ∃ ds G1, Fr G H G1 H1 ∧ RDs X.K H1 ds vs ∧ RH X.K H1 G1 ∧ sp ds G1 Qd fun cls fld G' => W cls fld δ G') I ⟨δ, G, _, R, h, fun vs H1 ds G1 f1 rd1 rh1 q1 _ => ⟨ds, G1, f1, rd1, rh1, q1⟩⟩) fun us s1 hh => ?_) he hpl
  obtain ⟨vs, H1, I1, r1, ds, G1, f1, rd1, rh1, q1⟩ := hh
  refine ⟨I1.kIn, ?_⟩
  have hl : us.length = ps.length := by rw [← r1.length, ← rd1.length]; exact F.len _ _ _ _ q1
  have b := hb s1 us I1.kIn (by rw [List.append_nil]; exact hl)
  rw [List.append_nil] at b
  exact run_D (args := ⟨us, []⟩) F C tk I1 (R.step f1 rh1) b r1 rd1 q1 (kq.step f1)
theorem d_call0 (F : FnD X.prog X.w X.K X.mg X.base k f fd ps sp) (C : Ctx k X.A) (tk : Takes X (lwD X.K G0 H0 W)) (hm : X.mg x = some (.ref f)) (hk : PySem.W.keepIn X.K (.ref f) = true) (hb : Binds X.K fd ps [])
    (hg : Gl X x := by rfl) (hdb : (x == ("__debug__" : Str)) = false := by decide) : DE X G0 H0 (.Call (.Name x p) [] [] pos) (mCall sp W aNil) := by
  refine ⟨fun pins s σ H Q I ⟨δ, G, Qd, R, h, kq⟩ => wpAny_Call_Name_kw (ld_glob I hg hm ?_ hdb)⟩
  have hl : ([] : List Value).length = ps.length := F.len _ _ _ _ h
  have b := hb s [] I.kIn (by rw [List.append_nil]; exact hl)
  exact PySem.W.callWith_K0 I.kIn hk (run_D (args := ⟨[], []⟩) F C tk I R b .nil .nil h kq)

/-! raise -/
/-- a class without its own __init__, made with a text -/
structure Xc (K : PySem.W.Frag) (mg : Str → Option Value) (x : Str) (C : Addr) : Prop where
  q : PySem.W.excIn K C [.type "ValueError", .type "Exception", .type "BaseException", .type "object"] "ValueError.__new__" = true
  g : mg x = some (.ref C)
  kp : PySem.W.keepIn K (.ref C) = true
  sb : PySem.W.subIn K (.ref C) (.type "BaseException") = some true
  ty : PySem.W.typeIn K (.ref C) = some (.type "type")
def sRaise (W : WD) (c : Value) : MS := fun _ δ G => W c none δ G
theorem ds_raise {C : Addr} {msg : Str} {j : Nat} {p2 : Pos} (xc : Xc X.K X.mg x C) (hc : X.calm = true) (tk : Takes X (lwD X.K G0 H0 W)) (hg : Gl X x := by rfl) (hdb : (x == ("__debug__" : Str)) = false := by decide) :
    DS X G0 H0 (.Raise (some (.Call (.Name x p) [.Constant (.str msg) j p2] [] pos)) none kpos) (sRaise W (.ref C)) :=
  (ps_raise hc tk (pmk_own PySem.F.excBase_ValueError xc.q xc.g xc.kp (raises_own xc.sb xc.ty) hg hdb)).dimp fun E σ H ⟨δ, G, N, R, h, l⟩ => ⟨δ, G, none, R, trivial, h⟩

/-! try .. except X: suite -/
def sTry (b : WD → MS) (K : PySem.W.Frag) (c : Value) (su : MS) (Wout : WD) : MS := fun N δ G =>
  b (fun cls fld δ' G' => match PySem.W.exmOne K cls c with
    | some true => su N δ' G'
    | some false => Wout cls fld δ' G'
    | none => False) N δ G
variable {body suite : List Stmt} {b₀ : Stmt} {np pos' : Pos} {tb : WD → MS} {su : MS} {c : Value}
theorem ds_try (hs : X.stack = X.env :: X.outer) (hf : X.env.frame = some X.env.locals) (hc : Names X x c) (tk : Takes X (lwD X.K G0 H0 W))
    (hb : ∀ (W : WD) (pn : List (Addr × Obj)) (xe : Value → Shared → Prop) (G1 : GH) (H1 : Hp), Takes (X.tr pn xe) (lwD X.K G1 H1 W) → PassesOwn (model X.prog X.w) X.A X.env xe → DSs (X.tr pn xe) G1 H1 body (tb W))
    (hsu : ∀ (a : Addr) (oe : Obj) (pn : List (Addr × Obj)), DSs (X.suite a ((a, oe) :: pn)) G0 H0 (b₀ :: suite) su) :
    DS X G0 H0 (.Try body [.ExceptHandler (some (.Name x np)) none (b₀ :: suite) pos'] [] [] pos) (sTry tb X.K c su W) := by
  refine L2.PS.dimp (ps_try_only (tb := fun Wv E σ H => ∃ δ G N Wd, Rl X.K G0 H0 δ G σ H ∧ tb Wd N δ G ∧ LE X.K G H N E ∧ ∀ cls dx σ' H', lwD X.K G H Wd cls dx σ' H' → Wv cls dx σ' H') (ts := fun _ _ _ => tS X.K G0 H0 su) hs hf hc tk ?_ ?_) ?_
  · intro Wv pn xe tk' po
    refine ⟨fun pins s σ H E I ⟨δ, G, N, Wd, R, h, l, imp⟩ => ?_⟩
    exact (hb Wd pn xe G H (tk'.imp imp) po).run pins s σ H E I ⟨δ, G, N, ⟨Fr.refl, R.rs, R.rh⟩, h, l⟩
  · intro a oe cls d pn _ _
    exact hsu a oe pn
  · intro E σ H ⟨δ, G, N, R, h, l⟩
    refine ⟨δ, G, N, _, R, h, l, ?_⟩
    intro cls dx σ' H' ⟨δ', G', fld, R', ff, w⟩
    dsimp only at w
    split at w
    · rename_i e
      exact ⟨true, e, fun _ a na => ⟨δ', G', N, R.stepS R'.fr R'.rs R'.rh, w, l.step R'.fr⟩, (fun z => nomatch z)⟩
    · rename_i e
      exact ⟨false, e, (fun z => nomatch z), fun _ => ⟨δ', G', fld, R.stepS R'.fr R'.rs R'.rh, ff, w⟩⟩
    · exact w.elim
end
end DL
namespace DL
open PySem PySem.Spec PyProof.Rows L2

/-! list comprehensions -/
def wipeD (δ : Sl) : List Nat → Sl
  | [] => δ
  | v :: vs => (wipeD δ vs).set v none
theorem wipeD_some {δ : Sl} {i : Nat} {d : D} : ∀ {vs : List Nat}, (wipeD δ vs)[i]? = some (some d) → δ[i]? = some (some d) ∧ i ∉ vs
  | [], h => ⟨h, by simp⟩
  | v :: vs, h => by
    unfold wipeD at h
    by_cases hi : v = i
    · subst hi
      by_cases hv : v < (wipeD δ vs).length
      · rw [List.getElem?_set_self hv] at h; cases h
      · rw [List.getElem?_eq_none (by simpa using hv)] at h; cases h
    · rw [List.getElem?_set_ne hi] at h
      obtain ⟨h1, h2⟩ := wipeD_some h
      exact ⟨h1, by simp only [List.mem_cons, not_or]; exact ⟨fun e => hi e.symm, h2⟩⟩
theorem RS.wipe {K : PySem.W.Frag} {H : Hp} {δ : Sl} {σ : L2.St} (r : RS K H δ σ) (vs : List Nat) : RS K H (wipeD δ vs) (wipe σ vs) := fun i d h => by
  obtain ⟨h1, h2⟩ := wipeD_some h
  obtain ⟨v, e, rd⟩ := r i d h1
  exact ⟨v, by rw [wipe_out h2]; exact e, rd⟩
theorem wipe_set {σ : L2.St} {i : Nat} {x : Option V} : ∀ {vs : List Nat}, i ∈ vs → wipe (σ.set i x) vs = wipe σ vs
  | v :: vs, h => by
    unfold wipe
    by_cases hi : i ∈ vs
    · rw [wipe_set hi]
    · have hv : i = v := by
        rcases List.mem_cons.mp h with e | e
        · exact e
        · exact absurd e hi
      subst hv
      refine List.ext_getElem? fun j => ?_
      by_cases hj : i = j
      · subst hj
        by_cases hl : i < σ.length
        · rw [List.getElem?_set_self (by rw [wipe_length, List.length_set]; exact hl), List.getElem?_set_self (by rw [wipe_length]; exact hl)]
        · rw [List.getElem?_eq_none (by rw [List.length_set, wipe_length, List.length_set]; omega), List.getElem?_eq_none (by rw [List.length_set, wipe_length]; omega)]
      · rw [List.getElem?_set_ne hj, List.getElem?_set_ne hj]
        by_cases hm : j ∈ vs
        · have key : ∀ (τ : L2.St), (wipe τ vs)[j]? = if j < τ.length then some none else none := fun τ => wipe_in hm
          rw [key, key, List.length_set]
        · rw [wipe_out hm, wipe_out hm, List.getElem?_set_ne hj]
where
  wipe_in {τ : L2.St} {j : Nat} : ∀ {vs : List Nat}, j ∈ vs → (wipe τ vs)[j]? = if j < τ.length then some none else none
    | w :: ws, h => by
      unfold wipe
      by_cases e : w = j
      · subst e
        by_cases hl : w < τ.length
        · rw [List.getElem?_set_self (by rw [wipe_length]; exact hl), if_pos hl]
        · rw [List.getElem?_eq_none (by rw [List.length_set, wipe_length]; omega), if_neg hl]
      · rw [List.getElem?_set_ne e]
        rcases List.mem_cons.mp h with z | z
        · exact absurd z.symm e
        · exact wipe_in z

section
variable (K : PySem.W.Frag)
/-- readings that begin where they stand -/
def tE1 (m : ME) : TE := fun σ H Q => ∃ δ G Qd, RS K H δ σ ∧ RH K H G ∧ m δ G Qd ∧ KV' K G H Qd Q
def tT1 (m : MT) : TT := fun σ H Q => ∃ δ G Qd, RS K H δ σ ∧ RH K H G ∧ m δ G Qd ∧ ∀ b H' G', Fr G H G' H' → RH K H' G' → Qd b G' → Q b H'
/-- targets that touch the places vs alone -/
def tG1 (vs : List Nat) (m : MG) : TG := fun v σ H Q => ∃ d δ G Qd, RS K H δ σ ∧ RH K H G ∧ RD K H d v ∧ m d δ G Qd ∧ ∀ σ' H' δ' G', Fr G H G' H' → RS K H' δ' σ' → RH K H' G' → wipe σ' vs = wipe σ vs → Qd δ' G' → Q σ' H'
def tGs1 (vs : List Nat) (m : MGs) : TGs := fun xs σ H Q => ∃ ds δ G Qd, RS K H δ σ ∧ RH K H G ∧ RDs K H ds xs ∧ m ds δ G Qd ∧ ∀ σ' H' δ' G', Fr G H G' H' → RS K H' δ' σ' → RH K H' G' → wipe σ' vs = wipe σ vs → Qd δ' G' → Q σ' H'
def tI1 (mi : MI) : TI := fun σ H R => ∃ δ G Rd, RS K H δ σ ∧ RH K H G ∧ mi δ G Rd ∧ ∀ J H' ds Φ G', Fr G H G' H' → RH K H' G' → Gives K H' J ds Φ → Rd ds Φ G' → R J H'
end
section
variable {X : Cx} {e : Expr} {es : List Expr} {pos : Pos}
theorem e1_of {m : ME} (h : ∀ G H, DE X G H e m) : PE X e (tE1 X.K m) := ⟨fun p s σ H Q I ⟨δ, G, Qd, rs, rh, q, k⟩ => (h G H).run p s σ H Q I ⟨δ, G, Qd, ⟨Fr.refl, rs, rh⟩, q, k⟩⟩
theorem t1_of {m : MT} (h : ∀ G H, DT X G H e m) : PT X e (tT1 X.K m) := ⟨fun p s σ H Q I ⟨δ, G, Qd, rs, rh, q, k⟩ => (h G H).run p s σ H Q I ⟨δ, G, Qd, ⟨Fr.refl, rs, rh⟩, q, k⟩⟩
theorem i1_of {tg : Expr} {m : MI} (h : ∀ G H, DI X G H tg e m) : PI X tg e (tI1 X.K m) := ⟨fun p s σ H Q I ⟨δ, G, Qd, rs, rh, q, k⟩ => (h G H).run p s σ H Q I ⟨δ, G, Qd, ⟨Fr.refl, rs, rh⟩, q, k⟩⟩
abbrev DG1 (X : Cx) (vs : List Nat) (e : Expr) (m : MG) := PG X e (tG1 X.K vs m)
abbrev DGs1 (X : Cx) (vs : List Nat) (e : List Expr) (m : MGs) := PGs X e (tGs1 X.K vs m)
theorem dg1_name {vs : List Nat} {i : Nat} {x : Str} (hN : X.N.Nodup) (hi : X.N[i]? = some x := by rfl) (hx : Loc X.env.scope x := by first | exact .inl rfl | exact .inr rfl) (hf : X.fn x = true ∨ X.env.scope.names.lookup x = some .local := by first | exact .inl rfl | exact .inr rfl | assumption) (hv : i ∈ vs := by decide) : DG1 X vs (.Name x pos) (gN i) := by
  refine ⟨fun pins s σ H v u Q I r ⟨d, δ, G, Qd, rs, rh, rd, h, k⟩ => ?_⟩
  have hiσ : i < σ.length := by rw [I.len]; exact (List.getElem?_eq_some_iff.mp hi).1
  exact (pg_name hN hi hx hf).run pins s σ H v u Q I r (k (σ.set i (some v)) H (δ.set i (some d)) G Fr.refl (rs.set rd hiσ) rh (wipe_set hv) h)
theorem dgs1_nil {vs : List Nat} : DGs1 X vs [] gsNil := pgs_nil.dimp fun xs σ H Q ⟨ds, δ, G, Qd, rs, rh, rd, h, k⟩ => by
  unfold gsNil at h
  cases rd with
  | nil => exact ⟨rfl, k σ H δ G Fr.refl rs rh rfl h⟩
  | cons _ _ => exact h.elim
theorem dgs1_cons {vs : List Nat} {g : MG} {r : MGs} (h1 : DG1 X vs e g) (h2 : DGs1 X vs es r) (hs : (assignEach (e :: es) X.env).map (·.2) = assign e X.env :: (assignEach es X.env).map (·.2) := by rfl) : DGs1 X vs (e :: es) (gsCons g r) :=
  (pgs_cons h1 h2 hs).dimp fun xs σ H Q ⟨ds, δ, G, Qd, rs, rh, rd, h, k⟩ => by
    cases rd with
    | nil => exact h.elim
    | @cons d v ds vs' q1 q2 =>
      refine ⟨v, vs', rfl, d, δ, G, _, rs, rh, q1, h, fun σ1 H1 δ1 G1 f1 rs1 rh1 w1 h1 => ?_⟩
      exact ⟨ds, δ1, G1, _, rs1, rh1, RDs.mono (f1.tle rh) _ _ q2, h1, fun σ2 H2 δ2 G2 f2 rs2 rh2 w2 h2 => k σ2 H2 δ2 G2 (f1.trans f2) rs2 rh2 (w2.trans w1) h2⟩
theorem dg1_tup {vs : List Nat} {n k : Nat} {r : MGs} (hc : X.calm = true) (h : DGs1 X vs es r) (hn : (assignEach es X.env).length = n := by rfl) (hst : (assignEach es X.env).findIdx? (·.1) = none := by rfl) : DG1 X vs (.Tuple es k pos) (gT n r) :=
  (pg_tup hc h hn hst).dimp fun v σ H Q ⟨d, δ, G, Qd, rs, rh, rd, h, kk⟩ => by
    cases rd with
    | tup s1 a1 => exact ⟨_, _, rfl, s1, by rw [← a1.length]; exact h.1, _, δ, G, _, rs, rh, a1, h.2, kk⟩
    | _ => exact h.elim
end

def lcL (Φ : GH → Prop) (g : MG) (t : MT) (e : ME) (δ0 : Sl) : List D → List D → GH → (List D → GH → Prop) → Prop
  | [], acc, G, Q => Φ G ∧ Q acc G
  | d :: ds, acc, G, Q => Φ G ∧ g d δ0 G fun δ1 G1 => t δ1 G1 fun b G2 => if b = true then e δ1 G2 fun y G3 => acc.length < sizeLine ∧ lcL Φ g t e δ0 ds (acc ++ [y]) G3 Q else lcL Φ g t e δ0 ds acc G2 Q
def tYesD : MT := fun _ G Q => Q true G
def mLc (mi : MI) (g : MG) (t : MT) (e : ME) (vs : List Nat) : ME := fun δ G Q => mi δ G fun ds Φ G1 => lcL Φ g t e (wipeD δ vs) ds [] G1 fun acc G2 => ∀ p, G2 p = none → Q (.ref p) (updG G2 p (.lst acc))
/-- between the turns: D is the new list, known to the comprehension alone -/
structure LcI (K : PySem.W.Frag) (G1 : GH) (H1 : Hp) (L : Addr) (G : GH) (H : Hp) (acc : List D) (av : List V) : Prop where
  fr : Fr G1 H1 G H
  rh : RH K H G
  at_ : H L = some (.lst av)
  un : G L = none
  rd : RDs K H acc av
  fresh : H1 L = none
theorem LcI.tle {K G1 H1 L G H acc av} (i : LcI K G1 H1 L G H acc av) (rh1 : RH K H1 G1) : TLe K H1 H := i.fr.tle rh1
theorem LcI.step {K G1 H1 L G H acc av G' H'} (i : LcI K G1 H1 L G H acc av) (f : Fr G H G' H') (rh : RH K H' G') : LcI K G1 H1 L G' H' acc av :=
  ⟨i.fr.trans f, rh, f.frm _ _ i.at_ i.un, f.new _ (by rw [i.at_]; simp) i.un, RDs.mono (f.tle i.rh) _ _ i.rd, i.fresh⟩
theorem LcI.push {K G1 H1 L G H acc av} {y : D} {v : V} (i : LcI K G1 H1 L G H acc av) (r : RD K H y v) : LcI K G1 H1 L G (upd H L (.lst (av ++ [v]))) (acc ++ [y]) (av ++ [v]) := by
  have t : TLe K H (upd H L (.lst (av ++ [v]))) := TLe.write i.at_ rfl
  refine ⟨⟨fun a o e g => ?_, i.fr.new⟩, fun a o e => ?_, upd_same, i.un, RDs.append (RDs.mono t _ _ i.rd) (.cons (RD.mono t _ _ r) .nil), i.fresh⟩
  · rw [upd_ne (ne_of_none e i.fresh)]; exact i.fr.frm a o e g
  · refine (i.rh a o e).mono t (upd_ne ?_)
    intro z; subst z; rw [i.un] at e; cases e
theorem LcI.start {K G1 H1 L} (rh : RH K H1 G1) (h : H1 L = none) : LcI K G1 H1 L G1 (upd H1 L (.lst [])) [] [] :=
  ⟨Fr.alloc h, rh.alloc h, upd_same, rh.free h, .nil, h⟩
/-- the list becomes known -/
theorem LcI.done {K G1 H1 L G H acc av} (i : LcI K G1 H1 L G H acc av) : Fr G1 H1 (updG G L (.lst acc)) H ∧ RH K H (updG G L (.lst acc)) := by
  refine ⟨⟨i.fr.frm, fun a h g => ?_⟩, fun a o e => ?_⟩
  · rw [updG_ne]; exact i.fr.new a h g
    intro z; subst z; exact h i.fresh
  · by_cases z : a = L
    · subst z; rw [updG_same] at e; cases e; exact ⟨av, i.at_, i.rd⟩
    · rw [updG_ne z] at e; exact i.rh a o e
def lockE (E : Ends) : Ends := { E with nx := fun σ H => E.nx σ H ∨ ∃ a vs, H a = some (.lst vs) ∧ ∀ od, E.nx σ (upd H a (.frz od (.lst vs))) }
theorem SP_lock {X : Cx} {pins : List (Addr × Obj)} {E : Ends} {f : Flow} {s' : Shared} (h : SP X pins (lockE E) f s') : SP X pins E f s' := by
  cases f with
  | next =>
    obtain ⟨σ', H', I, q | ⟨a, vs, e, k⟩⟩ := h
    · exact ⟨σ', H', I, q⟩
    · obtain ⟨od, J⟩ := I.lock e trivial
      exact ⟨σ', _, J, k od⟩
  | brk => exact h
  | cont => exact h
  | ret u => exact h
/-- the list is only read from here on -/
theorem LcI.doneV {K G1 H1 L G H acc av} (i : LcI K G1 H1 L G H acc av) (od : Obj) : Fr G1 H1 G (upd H L (.frz od (.lst av))) ∧ RH K (upd H L (.frz od (.lst av))) G ∧ RD K (upd H L (.frz od (.lst av))) (.lst acc) (.ref L) := by
  have t : TLe K H (upd H L (.frz od (.lst av))) := TLe.write i.at_ rfl
  refine ⟨⟨fun a o e g => ?_, i.fr.new⟩, fun a o e => ?_, .lst upd_same (RDs.mono t _ _ i.rd)⟩
  · rw [upd_ne (ne_of_none e i.fresh)]; exact i.fr.frm a o e g
  · refine (i.rh a o e).mono t (upd_ne ?_)
    intro z; subst z; rw [i.un] at e; cases e
section
variable {X : Cx} {G0 : GH} {H0 : Hp} {elt tg iter : Expr} {ifs : List Expr} {scope : Scope} {own : List (Str × Nat)} {pos : Pos} {mi : MI} {g : MG} {t : MT} {m : ME}
abbrev DTs1 (X : Cx) (e : List Expr) (m : MT) := PTs X e (tT1 X.K m)
theorem dts_nil : DTs1 X [] tYesD := ⟨fun pins s σ H Q I ⟨δ, G, Qd, rs, rh, q, k⟩ => pts_nil.run pins s σ H Q I (k true H G Fr.refl rh q)⟩
theorem dts_one {c : Expr} (h : ∀ G H, DT X G H c t) : DTs1 X [c] t := pts_one (t1_of h)
theorem lc_coreG (σ : L2.St) (H : Hp) (Q : VK) (h : ∃ δ G Fin, Rl X.K G0 H0 δ G σ H ∧ mi δ G (fun ds Φ G1 => lcL Φ g t m (wipeD δ (own.map (·.2))) ds [] G1 Fin) ∧ ∀ acc av L G1 H1 G' H', Fr G H G1 H1 → LcI X.K G1 H1 L G' H' acc av → Fin acc G' → Q (.ref L) H') :
    tLc (tI X.K G0 H0 mi) (tG1 X.K (own.map (·.2)) g) (tT1 X.K t) (tE1 X.K m) (own.map (·.2)) σ H Q := by
  obtain ⟨δ, G, Fin, R, h, k⟩ := h
  refine ⟨δ, G, _, R, h, fun J H1 ds Φ G1 f1 rh1 gv q1 => fun L hL => ?_⟩
  have rs1 : RS X.K H1 (wipeD δ (own.map (·.2))) (wipe σ (own.map (·.2))) := (R.step f1 rh1).rs.wipe _
  refine ⟨fun i n H' => n = ds.length - i ∧ i ≤ ds.length ∧ ∃ G' acc av, LcI X.K G1 H1 L G' H' acc av ∧ lcL Φ g t m (wipeD δ (own.map (·.2))) (ds.drop i) acc G' Fin, ⟨ds.length, by simp, Nat.zero_le _, G1, [], [], .start rh1 hL, by simpa using q1⟩, ?_⟩
  rintro i n H' ⟨rfl, hi, G', acc, av, inv, q'⟩
  have tt := inv.tle rh1
  by_cases hlt : i < ds.length
  · rw [List.drop_eq_getElem_cons hlt] at q'
    obtain ⟨ph, q'⟩ := q'
    obtain ⟨go, yl⟩ := gv.go i H' G' ds[i] tt inv.rh ph (by simp [hlt])
    refine .inr ⟨go, fun H2 => ∃ G' acc av, LcI X.K G1 H1 L G' H2 acc av ∧ lcL Φ g t m (wipeD δ (own.map (·.2))) (ds.drop (i + 1)) acc G' Fin, fun H2 q => ⟨ds.length - (i + 1), by omega, rfl, hlt, q⟩, fun x H2 y => ?_⟩
    obtain ⟨f2, rh2, rd2⟩ := yl x H2 y
    have i2 := inv.step f2 rh2
    refine ⟨ds[i], _, G', _, rs1.mono (i2.tle rh1), rh2, rd2, q', fun σ3 H3 δ3 G3 f3 rs3 rh3 w3 q3 => ⟨by rw [w3, wipe_wipe], δ3, G3, _, rs3, rh3, q3, fun b H4 G4 f4 rh4 q4 => ?_⟩⟩
    have i4 := (i2.step f3 rh3).step f4 rh4
    cases b with
    | false =>
      rw [if_neg Bool.false_ne_true] at q4
      exact iteF ⟨G4, acc, av, i4, q4⟩
    | true =>
      rw [if_pos rfl] at q4
      refine iteT ⟨δ3, G4, _, rs3.mono (f4.tle rh3), rh4, q4, fun v H5 y G5 f5 rd5 rh5 q5 => ?_⟩
      have i5 := i4.step f5 rh5
      exact ⟨av, i5.at_, by rw [← i5.rd.length]; exact q5.1, G5, acc ++ [y], av ++ [v], i5.push rd5, q5.2⟩
  · have e : i = ds.length := by omega
    subst e
    rw [List.drop_length] at q'
    exact .inl ⟨gv.stop _ H' G' tt inv.rh q'.1 (Nat.le_refl _), k acc av L G1 H1 G' H' f1 inv q'.2⟩
where
  wipe_wipe {σ : L2.St} {vs : List Nat} : wipe (wipe σ vs) vs = wipe σ vs := by
    have : ∀ (ws : List Nat), (∀ w ∈ ws, w ∈ vs) → wipe (wipe σ ws) vs = wipe σ vs := by
      intro ws
      induction ws with
      | nil => intro _; rfl
      | cons w ws ih =>
        intro h
        show wipe ((wipe σ ws).set w none) vs = _
        rw [wipe_set (h w (by simp)), ih fun x hx => h x (by simp [hx])]
    exact this vs fun _ h => h
theorem lc_core (σ : L2.St) (H : Hp) (Q : VK) (h : tE X.K G0 H0 (mLc mi g t m (own.map (·.2))) σ H Q) :
    tLc (tI X.K G0 H0 mi) (tG1 X.K (own.map (·.2)) g) (tT1 X.K t) (tE1 X.K m) (own.map (·.2)) σ H Q := by
  obtain ⟨δ, G, Qd, R, h, k⟩ := h
  refine lc_coreG σ H Q ⟨δ, G, _, R, h, fun acc av L G1 H1 G' H' f1 inv q => ?_⟩
  obtain ⟨fd, rhd⟩ := inv.done
  exact k _ H' (.ref L) _ (f1.trans fd) (.ref L) rhd (q L inv.un)
/-- its list is only read -/
def mLcV (mi : MI) (g : MG) (t : MT) (e : ME) (vs : List Nat) : ME := fun δ G Q => mi δ G fun ds Φ G1 => lcL Φ g t e (wipeD δ vs) ds [] G1 fun acc G2 => Q (.lst acc) G2
theorem lc_coreV (σ : L2.St) (H : Hp) (Q : VK) (h : tE X.K G0 H0 (mLcV mi g t m (own.map (·.2))) σ H Q) :
    tLc (tI X.K G0 H0 mi) (tG1 X.K (own.map (·.2)) g) (tT1 X.K t) (tE1 X.K m) (own.map (·.2)) σ H (LockQ Q) := by
  obtain ⟨δ, G, Qd, R, h, k⟩ := h
  refine lc_coreG σ H (LockQ Q) ⟨δ, G, _, R, h, fun acc av L G1 H1 G' H' f1 inv q => ⟨L, av, rfl, inv.at_, fun od => ?_⟩⟩
  obtain ⟨fd, rhd, rd⟩ := inv.doneV od
  exact k _ _ (.lst acc) _ (f1.trans fd) rd rhd q
theorem d_lc (hc : X.calm = true) (hN : X.N.Nodup) (hi : DI X G0 H0 tg iter mi) (ok : BlkOk X.N X.env.scope scope own)
    (hg : ∀ (s : Shared) (H : Hp) (C : Addr) (cl : List (Str × Addr)) (fp : List Addr), DG1 (X.blk s H scope (compEnvC scope cl C X.env) fp) (own.map (·.2)) tg g)
    (ht : ∀ (s : Shared) (H : Hp) (C : Addr) (cl : List (Str × Addr)) (fp : List Addr), DTs1 (X.blk s H scope (compEnvC scope cl C X.env) fp) ifs t)
    (he : ∀ (s : Shared) (H : Hp) (C : Addr) (cl : List (Str × Addr)) (fp : List Addr) (G1 : GH) (H1 : Hp), DE (X.blk s H scope (compEnvC scope cl C X.env) fp) G1 H1 elt m) (hs : ∀ x, foldedSetIterable iter X.env x = pure x := by exact fun _ => rfl) :
    DE X G0 H0 (.ListComp elt [⟨tg, iter, ifs, 0⟩] scope pos) (mLc mi g t m (own.map (·.2))) :=
  (pe_lc (te := tE1 X.K m) hc hN hi ok hg ht (fun s H C cl fp => e1_of (X := X.blk s H scope (compEnvC scope cl C X.env) fp) fun G1 H1 => he s H C cl fp G1 H1) hs).dimp fun σ H Q h => lc_core σ H Q h
theorem d_lcV (hc : X.calm = true) (hN : X.N.Nodup) (hi : DI X G0 H0 tg iter mi) (ok : BlkOk X.N X.env.scope scope own)
    (hg : ∀ (s : Shared) (H : Hp) (C : Addr) (cl : List (Str × Addr)) (fp : List Addr), DG1 (X.blk s H scope (compEnvC scope cl C X.env) fp) (own.map (·.2)) tg g)
    (ht : ∀ (s : Shared) (H : Hp) (C : Addr) (cl : List (Str × Addr)) (fp : List Addr), DTs1 (X.blk s H scope (compEnvC scope cl C X.env) fp) ifs t)
    (he : ∀ (s : Shared) (H : Hp) (C : Addr) (cl : List (Str × Addr)) (fp : List Addr) (G1 : GH) (H1 : Hp), DE (X.blk s H scope (compEnvC scope cl C X.env) fp) G1 H1 elt m) (hs : ∀ x, foldedSetIterable iter X.env x = pure x := by exact fun _ => rfl) :
    DE X G0 H0 (.ListComp elt [⟨tg, iter, ifs, 0⟩] scope pos) (mLcV mi g t m (own.map (·.2))) :=
  (PE.lock (pe_lc (te := tE1 X.K m) hc hN hi ok hg ht (fun s H C cl fp => e1_of (X := X.blk s H scope (compEnvC scope cl C X.env) fp) fun G1 H1 => he s H C cl fp G1 H1) hs)).dimp fun σ H Q h => lc_coreV σ H Q h
theorem ds_setLc {i : Nat} {y : Str} {py spos : Pos} (hc : X.calm = true) (hN : X.N.Nodup) (hi : DI X G0 H0 tg iter mi) (ok : BlkOk X.N X.env.scope scope own)
    (hg : ∀ (s : Shared) (H : Hp) (C : Addr) (cl : List (Str × Addr)) (fp : List Addr), DG1 (X.blk s H scope (compEnvC scope cl C X.env) fp) (own.map (·.2)) tg g)
    (ht : ∀ (s : Shared) (H : Hp) (C : Addr) (cl : List (Str × Addr)) (fp : List Addr), DTs1 (X.blk s H scope (compEnvC scope cl C X.env) fp) ifs t)
    (he : ∀ (s : Shared) (H : Hp) (C : Addr) (cl : List (Str × Addr)) (fp : List Addr) (G1 : GH) (H1 : Hp), DE (X.blk s H scope (compEnvC scope cl C X.env) fp) G1 H1 elt m)
    (hsw : swapsWith (.ListComp elt [⟨tg, iter, ifs, 0⟩] scope pos) (some (.Name y py)) spos.line X.env = pure true) (hy : X.N[i]? = some y := by rfl) (hyl : X.env.scope.names.lookup y = some .local := by rfl) (hs : ∀ x, foldedSetIterable iter X.env x = pure x := by exact fun _ => rfl) :
    DS X G0 H0 (.Assign [.Name y py] (.ListComp elt [⟨tg, iter, ifs, 0⟩] scope pos) spos) (sAsg (mLc mi g t m (own.map (·.2))) (gN i)) := by
  refine ⟨fun pins s σ H E I ⟨δ, G, N, R, h, l⟩ => ?_⟩
  have hiσ : i < σ.length := by rw [I.len]; exact (List.getElem?_eq_some_iff.mp hy).1
  refine (ps_setLc (te := tE1 X.K m) (tt := tT1 X.K t) (g := tG1 X.K (own.map (·.2)) g) hc hN hy hyl hsw hi ok hg ht (fun s H C cl fp => e1_of (X := X.blk s H scope (compEnvC scope cl C X.env) fp) fun G1 H1 => he s H C cl fp G1 H1) hs).run pins s σ H E I ?_
  exact lc_core σ H _ ⟨δ, G, _, R, h, fun v H1 d G1 f1 rd1 rh1 q1 => l.nx _ H1 _ G1 f1 ((R.step f1 rh1).rs.set rd1 hiσ) rh1 q1⟩
theorem ds_setLcV {i : Nat} {y : Str} {py spos : Pos} (hc : X.calm = true) (hN : X.N.Nodup) (hi : DI X G0 H0 tg iter mi) (ok : BlkOk X.N X.env.scope scope own)
    (hg : ∀ (s : Shared) (H : Hp) (C : Addr) (cl : List (Str × Addr)) (fp : List Addr), DG1 (X.blk s H scope (compEnvC scope cl C X.env) fp) (own.map (·.2)) tg g)
    (ht : ∀ (s : Shared) (H : Hp) (C : Addr) (cl : List (Str × Addr)) (fp : List Addr), DTs1 (X.blk s H scope (compEnvC scope cl C X.env) fp) ifs t)
    (he : ∀ (s : Shared) (H : Hp) (C : Addr) (cl : List (Str × Addr)) (fp : List Addr) (G1 : GH) (H1 : Hp), DE (X.blk s H scope (compEnvC scope cl C X.env) fp) G1 H1 elt m)
    (hsw : swapsWith (.ListComp elt [⟨tg, iter, ifs, 0⟩] scope pos) (some (.Name y py)) spos.line X.env = pure true) (hy : X.N[i]? = some y := by rfl) (hyl : X.env.scope.names.lookup y = some .local := by rfl) (hs : ∀ x, foldedSetIterable iter X.env x = pure x := by exact fun _ => rfl) :
    DS X G0 H0 (.Assign [.Name y py] (.ListComp elt [⟨tg, iter, ifs, 0⟩] scope pos) spos) (sAsg (mLcV mi g t m (own.map (·.2))) (gN i)) := by
  refine ⟨fun pins s σ H E I ⟨δ, G, N, R, h, l⟩ => ?_⟩
  have hiσ : i < σ.length := by rw [I.len]; exact (List.getElem?_eq_some_iff.mp hy).1
  refine wpAny_mono ((ps_setLc (te := tE1 X.K m) (tt := tT1 X.K t) (g := tG1 X.K (own.map (·.2)) g) hc hN hy hyl hsw hi ok hg ht (fun s H C cl fp => e1_of (X := X.blk s H scope (compEnvC scope cl C X.env) fp) fun G1 H1 => he s H C cl fp G1 H1) hs).run pins s σ H (lockE E) I ?_) (fun _ _ x => SP_lock x) fun _ _ x => x
  refine lc_coreG σ H _ ⟨δ, G, _, R, h, fun acc av L G1 H1 G' H' f1 inv q => .inr ⟨L, av, inv.at_, fun od => ?_⟩⟩
  obtain ⟨fd, rhd, rd⟩ := inv.doneV od
  exact l.nx _ _ _ G' (f1.trans fd) ((R.step (f1.trans fd) rhd).rs.set rd hiσ) rhd q
end
end DL
namespace DL
open PySem PySem.Spec PyProof.Rows L2

/-! two clauses -/
def lcL2 (Φ : GH → Prop) (g : MG) (t : MT) (mi1 : MI) (g1 : MG) (t1 : MT) (e : ME) (δ0 : Sl) (vs1 : List Nat) : List D → List D → GH → (List D → GH → Prop) → Prop
  | [], acc, G, Q => Φ G ∧ Q acc G
  | d :: ds, acc, G, Q => Φ G ∧ g d δ0 G fun δ1 G1 => t δ1 G1 fun b G2 => if b = true then mi1 δ1 G2 fun es Φ1 G3 => lcL Φ1 g1 t1 e (wipeD δ1 vs1) es acc G3 fun acc' G4 => lcL2 Φ g t mi1 g1 t1 e δ0 vs1 ds acc' G4 Q
      else lcL2 Φ g t mi1 g1 t1 e δ0 vs1 ds acc G2 Q
def mLc2 (mi : MI) (g : MG) (t : MT) (mi1 : MI) (g1 : MG) (t1 : MT) (e : ME) (vs vs1 : List Nat) : ME := fun δ G Q => mi δ G fun ds Φ G1 => lcL2 Φ g t mi1 g1 t1 e (wipeD δ vs) vs1 ds [] G1 fun acc G2 => ∀ p, G2 p = none → Q (.ref p) (updG G2 p (.lst acc))
section
variable {X : Cx} {G0 : GH} {H0 : Hp} {elt tg iter tg1 iter1 : Expr} {ifs ifs1 : List Expr} {scope : Scope} {own : List (Str × Nat)} {vs1 : List Nat} {pos : Pos} {mi mi1 : MI} {g g1 : MG} {t t1 : MT} {m : ME}
theorem wipe_wipe' {σ : L2.St} {vs : List Nat} : wipe (wipe σ vs) vs = wipe σ vs := lc_coreG.wipe_wipe
theorem lc2_coreG (σ : L2.St) (H : Hp) (Q : VK) (h : ∃ δ G Fin, Rl X.K G0 H0 δ G σ H ∧ mi δ G (fun ds Φ G1 => lcL2 Φ g t mi1 g1 t1 m (wipeD δ (own.map (·.2))) vs1 ds [] G1 Fin) ∧ ∀ acc av L G1 H1 G' H', Fr G H G1 H1 → LcI X.K G1 H1 L G' H' acc av → Fin acc G' → Q (.ref L) H') :
    tLc2 (tI X.K G0 H0 mi) (tG1 X.K (own.map (·.2)) g) (tT1 X.K t) (tI1 X.K mi1) (tG1 X.K vs1 g1) (tT1 X.K t1) (tE1 X.K m) (own.map (·.2)) vs1 σ H Q := by
  obtain ⟨δ, G, Fin, R, h, k⟩ := h
  refine ⟨δ, G, _, R, h, fun J H1 ds Φ G1 f1 rh1 gv q1 => fun L hL => ?_⟩
  have rs1 : RS X.K H1 (wipeD δ (own.map (·.2))) (wipe σ (own.map (·.2))) := (R.step f1 rh1).rs.wipe _
  refine ⟨fun i n H' => n = ds.length - i ∧ i ≤ ds.length ∧ ∃ G' acc av, LcI X.K G1 H1 L G' H' acc av ∧ lcL2 Φ g t mi1 g1 t1 m (wipeD δ (own.map (·.2))) vs1 (ds.drop i) acc G' Fin, ⟨ds.length, by simp, Nat.zero_le _, G1, [], [], .start rh1 hL, by simpa using q1⟩, ?_⟩
  rintro i n H' ⟨rfl, hi, G', acc, av, inv, q'⟩
  have tt := inv.tle rh1
  by_cases hlt : i < ds.length
  · rw [List.drop_eq_getElem_cons hlt] at q'
    obtain ⟨ph, q'⟩ := q'
    obtain ⟨go, yl⟩ := gv.go i H' G' ds[i] tt inv.rh ph (by simp [hlt])
    refine .inr ⟨go, fun H2 => ∃ G' acc av, LcI X.K G1 H1 L G' H2 acc av ∧ lcL2 Φ g t mi1 g1 t1 m (wipeD δ (own.map (·.2))) vs1 (ds.drop (i + 1)) acc G' Fin, fun H2 q => ⟨ds.length - (i + 1), by omega, rfl, hlt, q⟩, fun x H2 y => ?_⟩
    obtain ⟨f2, rh2, rd2⟩ := yl x H2 y
    have i2 := inv.step f2 rh2
    refine ⟨ds[i], _, G', _, rs1.mono (i2.tle rh1), rh2, rd2, q', fun σ3 H3 δ3 G3 f3 rs3 rh3 w3 q3 => ⟨by rw [w3, wipe_wipe'], δ3, G3, _, rs3, rh3, q3, fun b H4 G4 f4 rh4 q4 => ?_⟩⟩
    have i4 := (i2.step f3 rh3).step f4 rh4
    have rs4 := rs3.mono (f4.tle rh3)
    cases b with
    | false =>
      rw [if_neg Bool.false_ne_true] at q4
      exact iteF ⟨G4, acc, av, i4, q4⟩
    | true =>
      rw [if_pos rfl] at q4
      refine iteT ⟨δ3, G4, _, rs4, rh4, q4, fun J1 H5 es Φ1 G5 f5 rh5 gv1 q5 => ?_⟩
      have i5 := i4.step f5 rh5
      have rs5 : RS X.K H5 (wipeD δ3 vs1) (wipe σ3 vs1) := (rs4.mono (f5.tle rh4)).wipe _
      refine ⟨fun j n H' => n = es.length - j ∧ j ≤ es.length ∧ ∃ G' acc av, TLe X.K H5 H' ∧ LcI X.K G1 H1 L G' H' acc av ∧ lcL Φ1 g1 t1 m (wipeD δ3 vs1) (es.drop j) acc G' (fun acc' G4 => lcL2 Φ g t mi1 g1 t1 m (wipeD δ (own.map (·.2))) vs1 (ds.drop (i + 1)) acc' G4 Fin), ⟨es.length, by simp, Nat.zero_le _, G5, acc, av, .refl, i5, by simpa using q5⟩, ?_⟩
      rintro j n H' ⟨rfl, hj, G', acc, av, t5, inv, q'⟩
      by_cases hlj : j < es.length
      · rw [List.drop_eq_getElem_cons hlj] at q'
        obtain ⟨ph, q'⟩ := q'
        obtain ⟨go, yl⟩ := gv1.go j H' G' es[j] t5 inv.rh ph (by simp [hlj])
        refine .inr ⟨go, fun H2 => ∃ G' acc av, TLe X.K H5 H2 ∧ LcI X.K G1 H1 L G' H2 acc av ∧ lcL Φ1 g1 t1 m (wipeD δ3 vs1) (es.drop (j + 1)) acc G' (fun acc' G4 => lcL2 Φ g t mi1 g1 t1 m (wipeD δ (own.map (·.2))) vs1 (ds.drop (i + 1)) acc' G4 Fin), fun H2 q => ⟨es.length - (j + 1), by omega, rfl, hlj, q⟩, fun x H6 y => ?_⟩
        obtain ⟨f6, rh6, rd6⟩ := yl x H6 y
        have i6 := inv.step f6 rh6
        have t6 := t5.trans (f6.tle inv.rh)
        refine ⟨es[j], _, G', _, rs5.mono t6, rh6, rd6, q', fun σ7 H7 δ7 G7 f7 rs7 rh7 w7 q7 => ⟨by rw [w7, wipe_wipe'], δ7, G7, _, rs7, rh7, q7, fun b H8 G8 f8 rh8 q8 => ?_⟩⟩
        have i8 := (i6.step f7 rh7).step f8 rh8
        have t8 := (t6.trans (f7.tle rh6)).trans (f8.tle rh7)
        cases b with
        | false =>
          rw [if_neg Bool.false_ne_true] at q8
          exact iteF ⟨G8, acc, av, t8, i8, q8⟩
        | true =>
          rw [if_pos rfl] at q8
          refine iteT ⟨δ7, G8, _, rs7.mono (f8.tle rh7), rh8, q8, fun v H9 y G9 f9 rd9 rh9 q9 => ?_⟩
          have i9 := i8.step f9 rh9
          exact ⟨av, i9.at_, by rw [← i9.rd.length]; exact q9.1, G9, acc ++ [y], av ++ [v], (t8.trans (f9.tle rh8)).trans (TLe.write i9.at_ rfl), i9.push rd9, q9.2⟩
      · have e : j = es.length := by omega
        subst e
        rw [List.drop_length] at q'
        exact .inl ⟨gv1.stop _ H' G' t5 inv.rh q'.1 (Nat.le_refl _), G', acc, av, inv, q'.2⟩
  · have e : i = ds.length := by omega
    subst e
    rw [List.drop_length] at q'
    exact .inl ⟨gv.stop _ H' G' tt inv.rh q'.1 (Nat.le_refl _), k acc av L G1 H1 G' H' f1 inv q'.2⟩
theorem lc2_core' (σ : L2.St) (H : Hp) (Q : VK) (h : tE X.K G0 H0 (mLc2 mi g t mi1 g1 t1 m (own.map (·.2)) vs1) σ H Q) :
    tLc2 (tI X.K G0 H0 mi) (tG1 X.K (own.map (·.2)) g) (tT1 X.K t) (tI1 X.K mi1) (tG1 X.K vs1 g1) (tT1 X.K t1) (tE1 X.K m) (own.map (·.2)) vs1 σ H Q := by
  obtain ⟨δ, G, Qd, R, h, k⟩ := h
  refine lc2_coreG σ H Q ⟨δ, G, _, R, h, fun acc av L G1 H1 G' H' f1 inv q => ?_⟩
  obtain ⟨fd, rhd⟩ := inv.done
  exact k _ H' (.ref L) _ (f1.trans fd) (.ref L) rhd (q L inv.un)
def mLc2V (mi : MI) (g : MG) (t : MT) (mi1 : MI) (g1 : MG) (t1 : MT) (e : ME) (vs vs1 : List Nat) : ME := fun δ G Q => mi δ G fun ds Φ G1 => lcL2 Φ g t mi1 g1 t1 e (wipeD δ vs) vs1 ds [] G1 fun acc G2 => Q (.lst acc) G2
theorem lc2_coreV (σ : L2.St) (H : Hp) (Q : VK) (h : tE X.K G0 H0 (mLc2V mi g t mi1 g1 t1 m (own.map (·.2)) vs1) σ H Q) :
    tLc2 (tI X.K G0 H0 mi) (tG1 X.K (own.map (·.2)) g) (tT1 X.K t) (tI1 X.K mi1) (tG1 X.K vs1 g1) (tT1 X.K t1) (tE1 X.K m) (own.map (·.2)) vs1 σ H (LockQ Q) := by
  obtain ⟨δ, G, Qd, R, h, k⟩ := h
  refine lc2_coreG σ H (LockQ Q) ⟨δ, G, _, R, h, fun acc av L G1 H1 G' H' f1 inv q => ⟨L, av, rfl, inv.at_, fun od => ?_⟩⟩
  obtain ⟨fd, rhd, rd⟩ := inv.doneV od
  exact k _ _ (.lst acc) _ (f1.trans fd) rd rhd q
theorem d_lc2 (hc : X.calm = true) (hN : X.N.Nodup) (hi : DI X G0 H0 tg iter mi) (ok : BlkOk X.N X.env.scope scope own) (hv : ∀ i ∈ vs1, i ∈ own.map (·.2))
    (hg : ∀ (s : Shared) (H : Hp) (C : Addr) (cl : List (Str × Addr)) (fp : List Addr), DG1 (X.blk s H scope (compEnvC scope cl C X.env) fp) (own.map (·.2)) tg g)
    (ht : ∀ (s : Shared) (H : Hp) (C : Addr) (cl : List (Str × Addr)) (fp : List Addr), DTs1 (X.blk s H scope (compEnvC scope cl C X.env) fp) ifs t)
    (hi1 : ∀ (s : Shared) (H : Hp) (C : Addr) (cl : List (Str × Addr)) (fp : List Addr) (G1 : GH) (H1 : Hp), DI (X.blk s H scope (compEnvC scope cl C X.env) fp) G1 H1 tg1 iter1 mi1)
    (hg1 : ∀ (s : Shared) (H : Hp) (C : Addr) (cl : List (Str × Addr)) (fp : List Addr), DG1 (X.blk s H scope (compEnvC scope cl C X.env) fp) vs1 tg1 g1)
    (ht1 : ∀ (s : Shared) (H : Hp) (C : Addr) (cl : List (Str × Addr)) (fp : List Addr), DTs1 (X.blk s H scope (compEnvC scope cl C X.env) fp) ifs1 t1)
    (he : ∀ (s : Shared) (H : Hp) (C : Addr) (cl : List (Str × Addr)) (fp : List Addr) (G1 : GH) (H1 : Hp), DE (X.blk s H scope (compEnvC scope cl C X.env) fp) G1 H1 elt m) (hs : ∀ x, foldedSetIterable iter X.env x = pure x := by exact fun _ => rfl) (hs1 : ∀ env x, foldedSetIterable iter1 env x = pure x := by exact fun _ _ => rfl) :
    DE X G0 H0 (.ListComp elt [⟨tg, iter, ifs, 0⟩, ⟨tg1, iter1, ifs1, 0⟩] scope pos) (mLc2 mi g t mi1 g1 t1 m (own.map (·.2)) vs1) :=
  (pe_lc2 (te := tE1 X.K m) (wi1 := tI1 X.K mi1) (tt := tT1 X.K t) (tt1 := tT1 X.K t1) (g := tG1 X.K (own.map (·.2)) g) (g1 := tG1 X.K vs1 g1) hc hN hi ok hv hg ht (fun s H C cl fp => i1_of (X := X.blk s H scope (compEnvC scope cl C X.env) fp) fun G1 H1 => hi1 s H C cl fp G1 H1) hg1 ht1 (fun s H C cl fp => e1_of (X := X.blk s H scope (compEnvC scope cl C X.env) fp) fun G1 H1 => he s H C cl fp G1 H1) hs hs1).dimp fun σ H Q h => lc2_core' σ H Q h
theorem d_lc2V (hc : X.calm = true) (hN : X.N.Nodup) (hi : DI X G0 H0 tg iter mi) (ok : BlkOk X.N X.env.scope scope own) (hv : ∀ i ∈ vs1, i ∈ own.map (·.2))
    (hg : ∀ (s : Shared) (H : Hp) (C : Addr) (cl : List (Str × Addr)) (fp : List Addr), DG1 (X.blk s H scope (compEnvC scope cl C X.env) fp) (own.map (·.2)) tg g)
    (ht : ∀ (s : Shared) (H : Hp) (C : Addr) (cl : List (Str × Addr)) (fp : List Addr), DTs1 (X.blk s H scope (compEnvC scope cl C X.env) fp) ifs t)
    (hi1 : ∀ (s : Shared) (H : Hp) (C : Addr) (cl : List (Str × Addr)) (fp : List Addr) (G1 : GH) (H1 : Hp), DI (X.blk s H scope (compEnvC scope cl C X.env) fp) G1 H1 tg1 iter1 mi1)
    (hg1 : ∀ (s : Shared) (H : Hp) (C : Addr) (cl : List (Str × Addr)) (fp : List Addr), DG1 (X.blk s H scope (compEnvC scope cl C X.env) fp) vs1 tg1 g1)
    (ht1 : ∀ (s : Shared) (H : Hp) (C : Addr) (cl : List (Str × Addr)) (fp : List Addr), DTs1 (X.blk s H scope (compEnvC scope cl C X.env) fp) ifs1 t1)
    (he : ∀ (s : Shared) (H : Hp) (C : Addr) (cl : List (Str × Addr)) (fp : List Addr) (G1 : GH) (H1 : Hp), DE (X.blk s H scope (compEnvC scope cl C X.env) fp) G1 H1 elt m) (hs : ∀ x, foldedSetIterable iter X.env x = pure x := by exact fun _ => rfl) (hs1 : ∀ env x, foldedSetIterable iter1 env x = pure x := by exact fun _ _ => rfl) :
    DE X G0 H0 (.ListComp elt [⟨tg, iter, ifs, 0⟩, ⟨tg1, iter1, ifs1, 0⟩] scope pos) (mLc2V mi g t mi1 g1 t1 m (own.map (·.2)) vs1) :=
  (PE.lock (pe_lc2 (te := tE1 X.K m) (wi1 := tI1 X.K mi1) (tt := tT1 X.K t) (tt1 := tT1 X.K t1) (g := tG1 X.K (own.map (·.2)) g) (g1 := tG1 X.K vs1 g1) hc hN hi ok hv hg ht (fun s H C cl fp => i1_of (X := X.blk s H scope (compEnvC scope cl C X.env) fp) fun G1 H1 => hi1 s H C cl fp G1 H1) hg1 ht1 (fun s H C cl fp => e1_of (X := X.blk s H scope (compEnvC scope cl C X.env) fp) fun G1 H1 => he s H C cl fp G1 H1) hs hs1)).dimp fun σ H Q h => lc2_coreV σ H Q h
theorem ds_setLc2 {i : Nat} {y : Str} {py spos : Pos} (hc : X.calm = true) (hN : X.N.Nodup) (hi : DI X G0 H0 tg iter mi) (ok : BlkOk X.N X.env.scope scope own) (hv : ∀ i ∈ vs1, i ∈ own.map (·.2))
    (hg : ∀ (s : Shared) (H : Hp) (C : Addr) (cl : List (Str × Addr)) (fp : List Addr), DG1 (X.blk s H scope (compEnvC scope cl C X.env) fp) (own.map (·.2)) tg g)
    (ht : ∀ (s : Shared) (H : Hp) (C : Addr) (cl : List (Str × Addr)) (fp : List Addr), DTs1 (X.blk s H scope (compEnvC scope cl C X.env) fp) ifs t)
    (hi1 : ∀ (s : Shared) (H : Hp) (C : Addr) (cl : List (Str × Addr)) (fp : List Addr) (G1 : GH) (H1 : Hp), DI (X.blk s H scope (compEnvC scope cl C X.env) fp) G1 H1 tg1 iter1 mi1)
    (hg1 : ∀ (s : Shared) (H : Hp) (C : Addr) (cl : List (Str × Addr)) (fp : List Addr), DG1 (X.blk s H scope (compEnvC scope cl C X.env) fp) vs1 tg1 g1)
    (ht1 : ∀ (s : Shared) (H : Hp) (C : Addr) (cl : List (Str × Addr)) (fp : List Addr), DTs1 (X.blk s H scope (compEnvC scope cl C X.env) fp) ifs1 t1)
    (he : ∀ (s : Shared) (H : Hp) (C : Addr) (cl : List (Str × Addr)) (fp : List Addr) (G1 : GH) (H1 : Hp), DE (X.blk s H scope (compEnvC scope cl C X.env) fp) G1 H1 elt m)
    (hsw : swapsWith (.ListComp elt [⟨tg, iter, ifs, 0⟩, ⟨tg1, iter1, ifs1, 0⟩] scope pos) (some (.Name y py)) spos.line X.env = pure true) (hy : X.N[i]? = some y := by rfl) (hyl : X.env.scope.names.lookup y = some .local := by rfl) (hs : ∀ x, foldedSetIterable iter X.env x = pure x := by exact fun _ => rfl) (hs1 : ∀ env x, foldedSetIterable iter1 env x = pure x := by exact fun _ _ => rfl) :
    DS X G0 H0 (.Assign [.Name y py] (.ListComp elt [⟨tg, iter, ifs, 0⟩, ⟨tg1, iter1, ifs1, 0⟩] scope pos) spos) (sAsg (mLc2 mi g t mi1 g1 t1 m (own.map (·.2)) vs1) (gN i)) := by
  refine ⟨fun pins s σ H E I ⟨δ, G, N, R, h, l⟩ => ?_⟩
  have hiσ : i < σ.length := by rw [I.len]; exact (List.getElem?_eq_some_iff.mp hy).1
  refine (ps_setLc2 (te := tE1 X.K m) (wi1 := tI1 X.K mi1) (tt := tT1 X.K t) (tt1 := tT1 X.K t1) (g := tG1 X.K (own.map (·.2)) g) (g1 := tG1 X.K vs1 g1) hc hN hy hyl hsw hi ok hv hg ht (fun s H C cl fp => i1_of (X := X.blk s H scope (compEnvC scope cl C X.env) fp) fun G1 H1 => hi1 s H C cl fp G1 H1) hg1 ht1 (fun s H C cl fp => e1_of (X := X.blk s H scope (compEnvC scope cl C X.env) fp) fun G1 H1 => he s H C cl fp G1 H1) hs hs1).run pins s σ H E I ?_
  exact lc2_core' σ H _ ⟨δ, G, _, R, h, fun v H1 d G1 f1 rd1 rh1 q1 => l.nx _ H1 _ G1 f1 ((R.step f1 rh1).rs.set rd1 hiσ) rh1 q1⟩
theorem ds_setLc2V {i : Nat} {y : Str} {py spos : Pos} (hc : X.calm = true) (hN : X.N.Nodup) (hi : DI X G0 H0 tg iter mi) (ok : BlkOk X.N X.env.scope scope own) (hv : ∀ i ∈ vs1, i ∈ own.map (·.2))
    (hg : ∀ (s : Shared) (H : Hp) (C : Addr) (cl : List (Str × Addr)) (fp : List Addr), DG1 (X.blk s H scope (compEnvC scope cl C X.env) fp) (own.map (·.2)) tg g)
    (ht : ∀ (s : Shared) (H : Hp) (C : Addr) (cl : List (Str × Addr)) (fp : List Addr), DTs1 (X.blk s H scope (compEnvC scope cl C X.env) fp) ifs t)
    (hi1 : ∀ (s : Shared) (H : Hp) (C : Addr) (cl : List (Str × Addr)) (fp : List Addr) (G1 : GH) (H1 : Hp), DI (X.blk s H scope (compEnvC scope cl C X.env) fp) G1 H1 tg1 iter1 mi1)
    (hg1 : ∀ (s : Shared) (H : Hp) (C : Addr) (cl : List (Str × Addr)) (fp : List Addr), DG1 (X.blk s H scope (compEnvC scope cl C X.env) fp) vs1 tg1 g1)
    (ht1 : ∀ (s : Shared) (H : Hp) (C : Addr) (cl : List (Str × Addr)) (fp : List Addr), DTs1 (X.blk s H scope (compEnvC scope cl C X.env) fp) ifs1 t1)
    (he : ∀ (s : Shared) (H : Hp) (C : Addr) (cl : List (Str × Addr)) (fp : List Addr) (G1 : GH) (H1 : Hp), DE (X.blk s H scope (compEnvC scope cl C X.env) fp) G1 H1 elt m)
    (hsw : swapsWith (.ListComp elt [⟨tg, iter, ifs, 0⟩, ⟨tg1, iter1, ifs1, 0⟩] scope pos) (some (.Name y py)) spos.line X.env = pure true) (hy : X.N[i]? = some y := by rfl) (hyl : X.env.scope.names.lookup y = some .local := by rfl) (hs : ∀ x, foldedSetIterable iter X.env x = pure x := by exact fun _ => rfl) (hs1 : ∀ env x, foldedSetIterable iter1 env x = pure x := by exact fun _ _ => rfl) :
    DS X G0 H0 (.Assign [.Name y py] (.ListComp elt [⟨tg, iter, ifs, 0⟩, ⟨tg1, iter1, ifs1, 0⟩] scope pos) spos) (sAsg (mLc2V mi g t mi1 g1 t1 m (own.map (·.2)) vs1) (gN i)) := by
  refine ⟨fun pins s σ H E I ⟨δ, G, N, R, h, l⟩ => ?_⟩
  have hiσ : i < σ.length := by rw [I.len]; exact (List.getElem?_eq_some_iff.mp hy).1
  refine wpAny_mono ((ps_setLc2 (te := tE1 X.K m) (wi1 := tI1 X.K mi1) (tt := tT1 X.K t) (tt1 := tT1 X.K t1) (g := tG1 X.K (own.map (·.2)) g) (g1 := tG1 X.K vs1 g1) hc hN hy hyl hsw hi ok hv hg ht (fun s H C cl fp => i1_of (X := X.blk s H scope (compEnvC scope cl C X.env) fp) fun G1 H1 => hi1 s H C cl fp G1 H1) hg1 ht1 (fun s H C cl fp => e1_of (X := X.blk s H scope (compEnvC scope cl C X.env) fp) fun G1 H1 => he s H C cl fp G1 H1) hs hs1).run pins s σ H (lockE E) I ?_) (fun _ _ x => SP_lock x) fun _ _ x => x
  refine lc2_coreG σ H _ ⟨δ, G, _, R, h, fun acc av L G1 H1 G' H' f1 inv q => .inr ⟨L, av, inv.at_, fun od => ?_⟩⟩
  obtain ⟨fd, rhd, rd⟩ := inv.doneV od
  exact l.nx _ _ _ G' (f1.trans fd) ((R.step (f1.trans fd) rhd).rs.set rd hiσ) rhd q
end
end DL
namespace DL
open PySem PySem.Spec PyProof.Rows L2

def mB (r : List D → GH → KD → Prop) (aa : MA) : ME := fun δ G Q => aa δ G fun ds G1 => r ds G1 Q
section
variable {X : Cx} {G0 : GH} {H0 : Hp} {x : Str} {p pos : Pos} {e : Expr} {es : List Expr} {m : ME} {aa : MA} {r : List D → GH → KD → Prop} {bid T : String}
theorem d_callB (hc : CallR X (.builtin bid) (rLD X.K r)) (hm : X.mg x = none) (hv : bootBuiltins x = some (.builtin bid)) (ha : DA X G0 H0 (e :: es) aa) (hg : Gl X x := by rfl) (hn : x ≠ "__name__" := by decide) (hdb : (x == ("__debug__" : Str)) = false := by decide)
    (he : starEach (e :: es) X.env = (false, eval e X.env) :: starEach es X.env := by rfl) (hpl : (backTo pos (starEach es X.env)).any (·.1) = false := by rfl) : DE X G0 H0 (.Call (.Name x p) (e :: es) [] pos) (mB r aa) :=
  (pe_callB hc hg hm hv ha hn hdb he hpl).dimp fun σ H Q ⟨δ, G, Qd, R, h, k⟩ => ⟨δ, G, _, R, h, fun vs H1 ds G1 f1 rd1 rh1 q1 _ => ⟨ds, G1, Qd, rd1, rh1, q1, k.step f1⟩⟩
theorem d_callTy (hc : CallR X (.type T) (rLD X.K r)) (hm : X.mg x = none) (hv : bootBuiltins x = some (.type T)) (ha : DA X G0 H0 (e :: es) aa) (hg : Gl X x := by rfl) (hn : x ≠ "__name__" := by decide) (hdb : (x == ("__debug__" : Str)) = false := by decide)
    (he : starEach (e :: es) X.env = (false, eval e X.env) :: starEach es X.env := by rfl) (hpl : (backTo pos (starEach es X.env)).any (·.1) = false := by rfl) : DE X G0 H0 (.Call (.Name x p) (e :: es) [] pos) (mB r aa) :=
  (pe_callTy hc hg hm hv ha hn hdb he hpl).dimp fun σ H Q ⟨δ, G, Qd, R, h, k⟩ => ⟨δ, G, _, R, h, fun vs H1 ds G1 f1 rd1 rh1 q1 _ => ⟨ds, G1, Qd, rd1, rh1, q1, k.step f1⟩⟩

/-! the built-ins by data -/
def rLen : List D → GH → KD → Prop := fun ds G Q => match ds with
  | [.tup xs] => Q (.int (xs.length : Nat)) G
  | [.str z] => z.length ≤ sizeLine ∧ Q (.int (z.length : Nat)) G
  | [d] => match lsD G d with
    | some xs => Q (.int (xs.length : Nat)) G
    | none => False
  | _ => False
theorem c_len : CallR X (.builtin "len") (rLD X.K rLen) := by
  rintro pins s σ H xs us Q I r ⟨ds, G, Qd, rd, rh, h, k⟩
  unfold rLen at h
  split at h
  · cases rd with
    | cons r1 r2 =>
      cases r2
      cases r1 with
      | tup s1 a1 => exact call_len pins s σ H _ us Q I r ⟨_, _, rfl, .inr ⟨_, s1, rfl⟩, by rw [← a1.length]; exact k.here (.int _) rh h⟩
  · cases rd with
    | cons r1 r2 =>
      cases r2
      cases r1
      exact call_len pins s σ H _ us Q I r ⟨_, _, rfl, ⟨h.1, rfl⟩, k.here (.int _) rh h.2⟩
  · cases rd with
    | cons r1 r2 =>
      cases r2
      split at h
      · rename_i e
        obtain ⟨_, vs, rfl, f1, a1⟩ := lsD_some rh r1 e
        exact call_len pins s σ H _ us Q I r ⟨_, _, rfl, .inl ⟨_, .inl f1, rfl⟩, by rw [← a1.length]; exact k.here (.int _) rh h⟩
      · exact h.elim
  · exact h.elim
def rAbs : List D → GH → KD → Prop := fun ds G Q => match ds with | [.int i] => Q (.int (if i < 0 then -i else i)) G | _ => False
theorem c_abs : CallR X (.builtin "abs") (rLD X.K rAbs) := by
  rintro pins s σ H xs us Q I r ⟨ds, G, Qd, rd, rh, h, k⟩
  unfold rAbs at h
  split at h
  · cases rd with
    | cons r1 r2 =>
      cases r2; cases r1
      exact call_abs pins s σ H _ us Q I r ⟨_, rfl, k.here (.int _) rh h⟩
  · exact h.elim
/-- max, min: two ints, a list of ints -/
def intsD : List D → Option (List Int)
  | [] => some []
  | .int i :: ds => (intsD ds).map (i :: ·)
  | _ :: _ => none
theorem intsD_some : ∀ {ds : List D} {ns : List Int}, intsD ds = some ns → ds = ns.map D.int
  | [], _, h => by cases h; rfl
  | .int i :: ds, ns, h => by
    unfold intsD at h
    obtain ⟨ms, e, rfl⟩ := Option.map_eq_some_iff.mp h
    rw [intsD_some e]; rfl
  | .non :: _, _, h => by cases h
  | .bl _ :: _, _, h => by cases h
  | .str _ :: _, _, h => by cases h
  | .tup _ :: _, _, h => by cases h
  | .lst _ :: _, _, h => by cases h
  | .rng _ _ :: _, _, h => by cases h
  | .ref _ :: _, _, h => by cases h
  | .ty _ :: _, _, h => by cases h
theorem intsD_map : ∀ (ns : List Int), intsD (ns.map D.int) = some ns
  | [] => rfl
  | n :: ns => by
    show (intsD (ns.map D.int)).map (n :: ·) = _
    rw [intsD_map ns]; rfl
def rMax : List D → GH → KD → Prop := fun ds G Q => match ds with
  | [.int i, .int j] => Q (.int (if j > i then j else i)) G
  | [d] => match (lsD G d).bind intsD with
    | some ns => 0 < ns.length ∧ ∀ m, m ∈ ns → (∀ y, y ∈ ns → y ≤ m) → Q (.int m) G
    | none => False
  | _ => False
def rMin : List D → GH → KD → Prop := fun ds G Q => match ds with
  | [.int i, .int j] => Q (.int (if j < i then j else i)) G
  | [d] => match (lsD G d).bind intsD with
    | some ns => 0 < ns.length ∧ ∀ m, m ∈ ns → (∀ y, y ∈ ns → m ≤ y) → Q (.int m) G
    | none => False
  | _ => False
theorem c_max (hc : X.calm = true) : CallR X (.builtin "max") (rLD X.K rMax) := by
  rintro pins s σ H xs us Q I r ⟨ds, G, Qd, rd, rh, h, k⟩
  unfold rMax at h
  split at h
  · cases rd with
    | cons r1 r2 =>
      cases r2 with
      | cons r3 r4 =>
        cases r4; cases r1; cases r3
        exact call_max2 hc pins s σ H _ us Q I r ⟨_, _, rfl, k.here (.int _) rh h⟩
  · cases rd with
    | cons r1 r2 =>
      cases r2
      split at h
      · rename_i ns e
        obtain ⟨ds, e1, e2⟩ := Option.bind_eq_some_iff.mp e
        obtain ⟨_, vs, rfl, f1, a1⟩ := lsD_some rh r1 e1
        rw [intsD_some e2] at a1
        rw [RDs.ints_inv a1] at f1
        exact cr_max hc pins s σ H _ us Q I r ⟨_, _, rfl, .inl f1, h.1, fun m h1 h2 => k.here (.int _) rh (h.2 m h1 h2)⟩
      · exact h.elim
  · exact h.elim
theorem c_min (hc : X.calm = true) : CallR X (.builtin "min") (rLD X.K rMin) := by
  rintro pins s σ H xs us Q I r ⟨ds, G, Qd, rd, rh, h, k⟩
  unfold rMin at h
  split at h
  · cases rd with
    | cons r1 r2 =>
      cases r2 with
      | cons r3 r4 =>
        cases r4; cases r1; cases r3
        exact call_min2 hc pins s σ H _ us Q I r ⟨_, _, rfl, k.here (.int _) rh h⟩
  · cases rd with
    | cons r1 r2 =>
      cases r2
      split at h
      · rename_i ns e
        obtain ⟨ds, e1, e2⟩ := Option.bind_eq_some_iff.mp e
        obtain ⟨_, vs, rfl, f1, a1⟩ := lsD_some rh r1 e1
        rw [intsD_some e2] at a1
        rw [RDs.ints_inv a1] at f1
        exact cr_min hc pins s σ H _ us Q I r ⟨_, _, rfl, .inl f1, h.1, fun m h1 h2 => k.here (.int _) rh (h.2 m h1 h2)⟩
      · exact h.elim
  · exact h.elim
def rInt : List D → GH → KD → Prop := fun ds G Q => match ds with
  | [.int i] => Q (.int i) G
  | [.bl b] => Q (.int (if b then 1 else 0)) G
  | _ => False
theorem c_int : CallR X (.type "int") (rLD X.K rInt) := by
  rintro pins s σ H xs us Q I r ⟨ds, G, Qd, rd, rh, h, k⟩
  unfold rInt at h
  split at h
  · cases rd with
    | cons r1 r2 =>
      cases r2; cases r1
      exact call_int1 pins s σ H _ us Q I r (.inl ⟨_, rfl, k.here (.int _) rh h⟩)
  · cases rd with
    | cons r1 r2 =>
      cases r2; cases r1
      exact call_int1 pins s σ H _ us Q I r (.inr ⟨_, rfl, k.here (.int _) rh h⟩)
  · exact h.elim
def rTupleOf : List D → GH → KD → Prop := fun ds G Q => match ds with
  | [.tup xs] => Q (.tup xs) G
  | [d] => match lsD G d with | some xs => Q (.tup xs) G | none => False
  | _ => False
theorem c_tuple : CallR X (.type "tuple") (rLD X.K rTupleOf) := by
  rintro pins s σ H xs us Q I r ⟨ds, G, Qd, rd, rh, h, k⟩
  unfold rTupleOf at h
  split at h
  · cases rd with
    | cons r1 r2 =>
      cases r2
      cases r1 with
      | tup s1 a1 => exact call_tuple_of pins s σ H _ us Q I r ⟨_, _, rfl, .inr ⟨s1, k.here (.tup s1 a1) rh h⟩⟩
  · cases rd with
    | cons r1 r2 =>
      cases r2
      split at h
      · rename_i xs e
        obtain ⟨_, vs, rfl, f1, a1⟩ := lsD_some rh r1 e
        exact call_tuple_of pins s σ H _ us Q I r ⟨_, _, rfl, .inl ⟨.inl f1, fun l np => k.tup a1 rh np h⟩⟩
      · exact h.elim
  · exact h.elim
def rListOf : List D → GH → KD → Prop := fun ds G Q => match ds with
  | [d] => match sqD G d with | some xs => Q (.lst xs) G | none => False
  | _ => False
/-- a list that may be changed -/
def rListOfM : List D → GH → KD → Prop := fun ds G Q => match ds with
  | [d] => match sqD G d with | some xs => ∀ p, G p = none → Q (.ref p) (updG G p (.lst xs)) | none => False
  | _ => False
theorem sqD_some {K : PySem.W.Frag} {H : Hp} {G : GH} {d : D} {v : V} {ds : List D} (rh : RH K H G) (rd : RD K H d v) (h : sqD G d = some ds) : ∃ a vs, v = .ref a ∧ (Rd H a (.lst vs) ∨ SqT K H a vs) ∧ RDs K H ds vs := by
  cases rd with
  | tup s1 r => cases h; exact ⟨_, _, rfl, .inr s1, r⟩
  | lst e r => cases h; exact ⟨_, _, rfl, .inl (.inr ⟨_, e⟩), r⟩
  | ref p =>
    obtain ⟨vs, e, r⟩ := rdL_some rh h
    exact ⟨_, _, rfl, .inl (.inl e), r⟩
  | _ => cases h
theorem c_list : CallR X (.type "list") (rLD X.K rListOf) := by
  rintro pins s σ H xs us Q I r ⟨ds, G, Qd, rd, rh, h, k⟩
  unfold rListOf at h
  split at h
  · cases rd with
    | cons r1 r2 =>
      cases r2
      split at h
      · rename_i xs e
        obtain ⟨_, vs, rfl, f1, a1⟩ := sqD_some rh r1 e
        refine wpAny_mono (call_list_of pins s σ H _ us (LockQ Q) I r ⟨_, _, rfl, ?_, fun l np => k.lstV a1 rh np h⟩) (fun _ _ x => LockQ.ep x) fun _ _ x => x
        exact f1.elim (fun f => .inl (.inl f)) .inr
      · exact h.elim
  · exact h.elim
theorem c_listM : CallR X (.type "list") (rLD X.K rListOfM) := by
  rintro pins s σ H xs us Q I r ⟨ds, G, Qd, rd, rh, h, k⟩
  unfold rListOfM at h
  split at h
  · cases rd with
    | cons r1 r2 =>
      cases r2
      split at h
      · rename_i xs e
        obtain ⟨_, vs, rfl, f1, a1⟩ := sqD_some rh r1 e
        exact call_list_of pins s σ H _ us Q I r ⟨_, _, rfl, f1.elim (fun f => .inl (.inl f)) .inr, fun l np => k.lst a1 rh np h⟩
      · exact h.elim
  · exact h.elim
/-- a range as a value -/
def rRange : List D → GH → KD → Prop := fun ds G Q => match ds with
  | [.int n] => Q (.rng 0 n) G
  | [.int i, .int j] => Q (.rng i j) G
  | _ => False
theorem KV'.rng {K : PySem.W.Frag} {G : GH} {H : Hp} {Qd : KD} {Q : VK} {lo hi : Int} {p : Addr} (k : KV' K G H Qd Q) (rh : RH K H G) (np : H p = none) (q : Qd (.rng lo hi) G) : Q (.ref p) (upd H p (.rng lo hi)) :=
  k _ _ (.rng lo hi) G (Fr.alloc np) (.rng upd_same) (rh.alloc np) q
theorem c_range : CallR X (.type "range") (rLD X.K rRange) := by
  rintro pins s σ H xs us Q I r ⟨ds, G, Qd, rd, rh, h, k⟩
  unfold rRange at h
  split at h
  · cases rd with
    | cons r1 r2 =>
      cases r2; cases r1
      obtain ⟨u1, rfl, t, rfl⟩ := vals1 r
      refine call_range_1 ⟨.ref s.heap.objs.size, upd H s.heap.objs.size (.rng 0 _), I.laid (fun b o e => Heap.get?_push_of_some _ e) (Nat.le_refl _) ?_, rfl, k.rng rh (I.hok.fresh (Nat.le_refl _)) h⟩
      exact ⟨_, _, _, Heap.get?_push_size _ rfl⟩
  · cases rd with
    | cons r1 r2 =>
      cases r2 with
      | cons r3 r4 =>
        cases r4; cases r1; cases r3
        exact cr_range2 pins s σ H _ us Q I r ⟨_, _, rfl, fun p np => k.rng rh np h⟩
  · exact h.elim
def blsD : List D → Option (List Bool)
  | [] => some []
  | .bl i :: ds => (blsD ds).map (i :: ·)
  | _ :: _ => none
theorem blsD_some : ∀ {ds : List D} {ns : List Bool}, blsD ds = some ns → ds = ns.map D.bl
  | [], _, h => by cases h; rfl
  | .bl i :: ds, ns, h => by
    unfold blsD at h
    obtain ⟨ms, e, rfl⟩ := Option.map_eq_some_iff.mp h
    rw [blsD_some e]; rfl
  | .non :: _, _, h => by cases h
  | .int _ :: _, _, h => by cases h
  | .str _ :: _, _, h => by cases h
  | .tup _ :: _, _, h => by cases h
  | .lst _ :: _, _, h => by cases h
  | .rng _ _ :: _, _, h => by cases h
  | .ref _ :: _, _, h => by cases h
  | .ty _ :: _, _, h => by cases h
theorem blsD_map : ∀ (ns : List Bool), blsD (ns.map D.bl) = some ns
  | [] => rfl
  | n :: ns => by
    show (blsD (ns.map D.bl)).map (n :: ·) = _
    rw [blsD_map ns]; rfl
def rAll : List D → GH → KD → Prop := fun ds G Q => match ds with
  | [d] => match (lsD G d).bind blsD with | some bs => Q (.bl (bs.all fun b => b)) G | none => False
  | _ => False
def rAny : List D → GH → KD → Prop := fun ds G Q => match ds with
  | [d] => match (lsD G d).bind blsD with | some bs => Q (.bl (bs.any fun b => b)) G | none => False
  | _ => False
def rSum : List D → GH → KD → Prop := fun ds G Q => match ds with
  | [d] => match (lsD G d).bind intsD with | some ns => Q (.int ns.sum) G | none => False
  | _ => False
theorem c_all (hc : X.calm = true) : CallR X (.builtin "all") (rLD X.K rAll) := by
  rintro pins s σ H xs us Q I r ⟨ds, G, Qd, rd, rh, h, k⟩
  unfold rAll at h
  split at h
  · cases rd with
    | cons r1 r2 =>
      cases r2
      split at h
      · rename_i ns e
        obtain ⟨ds, e1, e2⟩ := Option.bind_eq_some_iff.mp e
        obtain ⟨_, vs, rfl, f1, a1⟩ := lsD_some rh r1 e1
        rw [blsD_some e2] at a1
        rw [RDs.bls_inv a1] at f1
        exact cr_all hc pins s σ H _ us Q I r ⟨_, _, rfl, .inl f1, k.here (.bl _) rh h⟩
      · exact h.elim
  · exact h.elim
theorem c_any (hc : X.calm = true) : CallR X (.builtin "any") (rLD X.K rAny) := by
  rintro pins s σ H xs us Q I r ⟨ds, G, Qd, rd, rh, h, k⟩
  unfold rAny at h
  split at h
  · cases rd with
    | cons r1 r2 =>
      cases r2
      split at h
      · rename_i ns e
        obtain ⟨ds, e1, e2⟩ := Option.bind_eq_some_iff.mp e
        obtain ⟨_, vs, rfl, f1, a1⟩ := lsD_some rh r1 e1
        rw [blsD_some e2] at a1
        rw [RDs.bls_inv a1] at f1
        exact cr_any hc pins s σ H _ us Q I r ⟨_, _, rfl, .inl f1, k.here (.bl _) rh h⟩
      · exact h.elim
  · exact h.elim
theorem c_sum (hc : X.calm = true) : CallR X (.builtin "sum") (rLD X.K rSum) := by
  rintro pins s σ H xs us Q I r ⟨ds, G, Qd, rd, rh, h, k⟩
  unfold rSum at h
  split at h
  · cases rd with
    | cons r1 r2 =>
      cases r2
      split at h
      · rename_i ns e
        obtain ⟨ds, e1, e2⟩ := Option.bind_eq_some_iff.mp e
        obtain ⟨_, vs, rfl, f1, a1⟩ := lsD_some rh r1 e1
        rw [intsD_some e2] at a1
        rw [RDs.ints_inv a1] at f1
        exact cr_sum hc pins s σ H _ us Q I r ⟨_, _, rfl, .inl f1, k.here (.int _) rh h⟩
      · exact h.elim
  · exact h.elim
end

/-! isinstance of built-in types -/
inductive Tk where | int | bool | str | tuple | list
def Tk.name : Tk → String | .int => "int" | .bool => "bool" | .str => "str" | .tuple => "tuple" | .list => "list"
def isi (k : Tk) (G : GH) : D → Option Bool
  | .non => some false
  | .bl _ => some (match k with | .int => true | .bool => true | _ => false)
  | .int _ => some (match k with | .int => true | _ => false)
  | .str _ => some (match k with | .str => true | _ => false)
  | .tup _ => some (match k with | .tuple => true | _ => false)
  | .lst _ => some (match k with | .list => true | _ => false)
  | .ref p => match rdL G p with
    | some _ => some (match k with | .list => true | _ => false)
    | none => none
  | .ty _ => none
  | .rng _ _ => none
def mIsi (k : Tk) (m : ME) : ME := fun δ G Q => m δ G fun d G1 => match isi k G1 d with | some b => Q (.bl b) G1 | none => False
theorem tyx_tup {K : PySem.W.Frag} {H : Hp} {a : Addr} {vs : List V} (s1 : SqT K H a vs) : TyX K H (.ref a) (.type "tuple") := by
  rcases s1 with (h | ⟨o, h⟩) | ⟨o, its, n, h1, h2, _⟩
  · exact .base (.tup h)
  · exact .fTuple h
  · exact .kTuple h1 h2
theorem tyx_lst {K : PySem.W.Frag} {H : Hp} {a : Addr} {vs : List V} (s1 : Rd H a (.lst vs)) : TyX K H (.ref a) (.type "list") := by
  rcases s1 with h | ⟨o, h⟩
  · exact .base (.lst h)
  · exact .base (.frz h)
theorem isi_sem {K : PySem.W.Frag} {H : Hp} {G : GH} {k : Tk} {d : D} {v : V} {b : Bool} (rh : RH K H G) (rd : RD K H d v) (h : isi k G d = some b) : ∃ t, TyX K H v t ∧ PySem.W.kitOne K t (.type k.name) = some b := by
  cases rd with
  | non => cases h; exact ⟨_, .base .non, by cases k <;> exact kit_ty (by decide +kernel)⟩
  | bl x => cases h; exact ⟨_, .base (.bl x), by cases k <;> exact kit_ty (by decide +kernel)⟩
  | int x => cases h; exact ⟨_, .base (.int x), by cases k <;> exact kit_ty (by decide +kernel)⟩
  | str x => cases h; exact ⟨_, .base (.str x), by cases k <;> exact kit_ty (by decide +kernel)⟩
  | ty n => cases h
  | rng _ => cases h
  | tup s1 a1 => cases h; exact ⟨_, tyx_tup s1, by cases k <;> exact kit_ty (by decide +kernel)⟩
  | lst s1 a1 => cases h; exact ⟨_, tyx_lst (.inr ⟨_, s1⟩), by cases k <;> exact kit_ty (by decide +kernel)⟩
  | ref p =>
    dsimp only [isi] at h
    split at h
    · rename_i e; cases h
      obtain ⟨vs, f1, a1⟩ := rdL_some rh e
      exact ⟨_, tyx_lst (.inl f1), by cases k <;> exact kit_ty (by decide +kernel)⟩
    · cases h
theorem d_isi {X : Cx} {G0 : GH} {H0 : Hp} {a b : Expr} {m : ME} {p pos : Pos} (k : Tk) (hm : X.mg "isinstance" = none) (ha : DE X G0 H0 a m) (hb : PE X b (tC (.ty k.name))) (hg : Gl X "isinstance" := by rfl)
    (hs : starEach [a, b] X.env = (false, eval a X.env) :: starEach [b] X.env := by rfl) (hs2 : starEach [b] X.env = (false, eval b X.env) :: starEach [] X.env := by rfl) (hpl : (backTo pos (starEach [b] X.env)).any (·.1) = false := by rfl) :
    DE X G0 H0 (.Call (.Name "isinstance" p) [a, b] [] pos) (mIsi k m) :=
  (pe_callB call_isi hg hm (by decide +kernel) (pa_cons ha (pa_cons hb pa_nil hs2) hs) (by decide) (by decide) hs hpl).dimp fun σ H Q ⟨δ, G, Qd, R, h, kk⟩ => ⟨δ, G, _, R, h, fun v H1 d G1 f1 rd1 rh1 q1 => by
    split at q1
    · rename_i b e
      obtain ⟨t, ty, kt⟩ := isi_sem rh1 rd1 e
      exact ⟨v, .ty k.name, t, .type k.name, b, rfl, .ty _, ty, kt, kk _ H1 _ G1 f1 (.bl b) rh1 q1⟩
    · exact q1.elim⟩

/-! repr of data -/
theorem shown_refs {h : Heap} {v : Value} {d : PyData} {as : List Addr} (r : Reads h v d as) : (∃ a, v = .ref a) ∨ (d = .none ∧ v = .none) ∨ (∃ b, d = .bool b ∧ v = .bool b) ∨ (∃ i t, d = .int i ∧ v = .int i t) ∨ (∃ x t, d = .str x ∧ v = .str x t) := by
  cases r with
  | none => exact .inr (.inl ⟨rfl, rfl⟩)
  | bool b => exact .inr (.inr (.inl ⟨b, rfl, rfl⟩))
  | int i t => exact .inr (.inr (.inr (.inl ⟨i, t, rfl, rfl⟩)))
  | str x t => exact .inr (.inr (.inr (.inr ⟨x, t, rfl, rfl⟩)))
  | list => exact .inl ⟨_, rfl⟩
  | tuple => exact .inl ⟨_, rfl⟩
  | dict => exact .inl ⟨_, rfl⟩
/-- a list or a tuple -/
def rl : D → Bool | .ref _ => true | .tup _ => true | .lst _ => true | _ => false
def rRepr : List D → GH → KD → Prop := fun ds G Q => match ds with
  | [x] => rl x = true ∧ match pyN 60 G x with | some d => d.showable = true ∧ d.shown.length ≤ sizeLine ∧ Q (.str d.shown) G | none => False
  | _ => False
theorem c_repr {X : Cx} (hg : X.A.guards = some []) (hu : X.A.units + 128 < cLine) : CallR X (.builtin "repr") (rLD X.K rRepr) := by
  rintro pins s σ H xs us Q I r ⟨ds, G, Qd, rd, rh, h, k⟩
  have key : ∀ (d : D) (v : V) (p : PyData), (∃ a, v = .ref a) → RD X.K H d v → pyN 60 G d = some p → xs = [v] → (p.showable = true ∧ p.shown.length ≤ sizeLine ∧ Qd (.str p.shown) G) → wpAny (model X.prog X.w) X.A (call (.builtin "repr") us) (EP X pins σ Q) X.xe s := by
    rintro d v p ⟨a, rfl⟩ r1 e rfl ⟨h1, h2, h3⟩
    obtain ⟨u, rfl, ru⟩ := vals1 r
    obtain rfl : u = Value.ref a := ru
    obtain ⟨as, rr⟩ := Dp.reads I p (.ref a) (.ref a) (pyN_dp rh _ _ _ _ e r1) rfl
    obtain ⟨cl, dp⟩ := pyN_lay _ _ _ e
    exact repr_of_reads' rr h1 (fun z => by rw [PyData.hasDict_of_canLay _ cl] at z; cases z) hg (by omega) (fun _ _ q => q) (fun h' u tk hk => ⟨.str p.shown, H, I.kept hk, ⟨_, rfl⟩, k.here (.str _) rh h3⟩) h2
  unfold rRepr at h
  split at h
  · cases rd with
    | cons r1 r2 =>
      cases r2
      obtain ⟨hr, h⟩ := h
      split at h
      · rename_i d e
        refine key _ _ d ?_ r1 e rfl h
        cases r1 with
        | tup s1 a1 => exact ⟨_, rfl⟩
        | lst s1 a1 => exact ⟨_, rfl⟩
        | ref p => exact ⟨_, rfl⟩
        | _ => cases hr
      · exact h.elim
  · exact h.elim
end DL
namespace DL
open PySem PySem.Spec PyProof.Rows L2

/-! zip of two lists, of two tuples -/
def zipD (xs ys : List D) : List D := (xs.zip ys).map fun p => D.tup [p.1, p.2]
theorem zipD_get {xs ys : List D} {i : Nat} {d : D} (h : (zipD xs ys)[i]? = some d) : ∃ x y, xs[i]? = some x ∧ ys[i]? = some y ∧ d = .tup [x, y] := by
  unfold zipD at h
  rw [List.getElem?_map] at h
  obtain ⟨p, hp, rfl⟩ := Option.map_eq_some_iff.mp h
  obtain ⟨h1, h2⟩ := List.getElem?_zip_eq_some.mp hp
  exact ⟨p.1, p.2, h1, h2, rfl⟩
theorem zipD_len {xs ys : List D} : (zipD xs ys).length = min xs.length ys.length := by unfold zipD; simp
def iZip (m m2 : ME) : MI := fun δ G R => m δ G fun d G1 => m2 δ G1 fun d2 G2 => match d, d2 with
  | .tup xs, .tup ys => xs.length ≤ sizeLine → R (zipD xs ys) (fun _ => True) G2
  | d, d2 => match lsD G2 d, lsD G2 d2 with
    | some xs, some ys => xs.length ≤ sizeLine → R (zipD xs ys) (fun G => lsD G d = some xs ∧ lsD G d2 = some ys) G2
    | _, _ => False
theorem pair_step {K : PySem.W.Frag} {H : Hp} {G : GH} {T : Addr} {x y : V} {dx dy : D} (rh : RH K H G) (nT : H T = none) (r1 : RD K H dx x) (r2 : RD K H dy y) :
    Fr G H G (upd H T (.tup [x, y])) ∧ RH K (upd H T (.tup [x, y])) G ∧ RD K (upd H T (.tup [x, y])) (.tup [dx, dy]) (.ref T) :=
  ⟨Fr.alloc nT, rh.alloc nT, .tup (.of upd_same) (.cons (RD.mono (TLe.alloc nT) _ _ r1) (.cons (RD.mono (TLe.alloc nT) _ _ r2) .nil))⟩
theorem gives_zipT {K : PySem.W.Frag} {H : Hp} {a b : Addr} {vs ws : List V} {xs ys : List D} (s1 : SqT K H a vs) (a1 : RDs K H xs vs) (s2 : SqT K H b ws) (a2 : RDs K H ys ws) : Gives K H (RZ.ItzT K a b) (zipD xs ys) (fun _ => True) where
  go := fun i H' G d t rh _ e => by
    obtain ⟨x, y, ex, ey, rfl⟩ := zipD_get e
    obtain ⟨v, ev, rv⟩ := a1.get ex
    obtain ⟨w, ew, rw⟩ := a2.get ey
    refine ⟨⟨vs, ws, v, w, t.sq _ _ s1, t.sq _ _ s2, ev, ew⟩, fun z H2 yy => ?_⟩
    obtain ⟨T, v', w', rfl, nT, rfl, q1, q2⟩ := yy
    have e1 := q1 vs (t.sq _ _ s1)
    have e2 := q2 ws (t.sq _ _ s2)
    rw [ev] at e1; rw [ew] at e2; cases e1; cases e2
    exact pair_step rh nT (RD.mono t _ _ rv) (RD.mono t _ _ rw)
  stop := fun i H' G t rh _ h => ⟨vs, ws, t.sq _ _ s1, t.sq _ _ s2, by rw [zipD_len, a1.length, a2.length] at h; omega⟩
theorem gives_zipL {K : PySem.W.Frag} {H : Hp} {d d2 : D} {a b : Addr} {xs ys : List D} (r1 : RD K H d (.ref a)) (r2 : RD K H d2 (.ref b)) : Gives K H (Itz K a b) (zipD xs ys) (fun G => lsD G d = some xs ∧ lsD G d2 = some ys) where
  go := fun i H' G d t rh ph e => by
    obtain ⟨x, y, ex, ey, rfl⟩ := zipD_get e
    obtain ⟨_, vs, z1, s1, a1⟩ := lsD_some rh (RD.mono t _ _ r1) ph.1
    obtain ⟨_, ws, z2, s2, a2⟩ := lsD_some rh (RD.mono t _ _ r2) ph.2
    cases z1; cases z2
    obtain ⟨v, ev, rv⟩ := a1.get ex
    obtain ⟨w, ew, rw⟩ := a2.get ey
    refine ⟨⟨vs, ws, v, w, .inl s1, .inl s2, ev, ew⟩, fun z H2 yy => ?_⟩
    obtain ⟨T, v', w', rfl, nT, rfl, q1, q2⟩ := yy
    have e1 := q1 vs (.inl s1)
    have e2 := q2 ws (.inl s2)
    rw [ev] at e1; rw [ew] at e2; cases e1; cases e2
    exact pair_step rh nT rv rw
  stop := fun i H' G t rh ph h => by
    obtain ⟨_, vs, z1, s1, a1⟩ := lsD_some rh (RD.mono t _ _ r1) ph.1
    obtain ⟨_, ws, z2, s2, a2⟩ := lsD_some rh (RD.mono t _ _ r2) ph.2
    cases z1; cases z2
    exact ⟨vs, ws, .inl s1, .inl s2, by rw [zipD_len, a1.length, a2.length] at h; omega⟩
section
variable {X : Cx} {G0 : GH} {H0 : Hp} {e e2 a b : Expr} {es rest : List Expr} {m m2 : ME} {aa ak : MA} {p pos tpos apos cpos : Pos} {elts : List Expr} {kk : Nat}
theorem sqT_len {K : PySem.W.Frag} {pins : List (Addr × Obj)} {σ : L2.St} {H : Hp} {s : Shared} {a : Addr} {vs : List V} (I : Inv X pins σ H s) (h : SqT X.K H a vs) : vs.length ≤ sizeLine := by
  obtain ⟨_, _, _, z⟩ := I.tuple h; exact z
theorem di_zip (hm : X.mg "zip" = none) (ha : DE X G0 H0 e m) (hb : DE X G0 H0 e2 m2) (hg : Gl X "zip" := by rfl) (hs : starEach [e, e2] X.env = (false, eval e X.env) :: starEach [e2] X.env := by rfl) (hs2 : starEach [e2] X.env = (false, eval e2 X.env) :: starEach [] X.env := by rfl) (hpl : (backTo pos (starEach [e2] X.env)).any (·.1) = false := by rfl) :
    DI X G0 H0 (.Tuple elts kk tpos) (.Call (.Name "zip" p) [e, e2] [] pos) (iZip m m2) := by
  refine ⟨fun pins s σ H Rr I ⟨δ, G, Rd, R, h, k⟩ => ?_⟩
  -- the lengths stand within the line: read off where the iterator comes
  have pa : PA X [e, e2] _ := pa_cons ha (pa_cons hb pa_nil hs2) hs
  have pa' : PA X [e, e2] (fun σ H Q => ∃ (δ : Sl) (G : GH) (Qd : D → D → GH → Prop), Rl X.K G0 H0 δ G σ H ∧ m δ G (fun d G1 => m2 δ G1 fun d2 G2 => Qd d d2 G2) ∧ ∀ v u H' d d2 G', Fr G H G' H' → RD X.K H' d v → RD X.K H' d2 u → RH X.K H' G' → Qd d d2 G' → (∀ a xs, SqT X.K H' a xs → xs.length ≤ sizeLine) → (∀ a xs, SqL X.K H' a xs → xs.length ≤ sizeLine) → Q [v, u] H') := by
    refine ⟨fun ps pins s σ H Q I ⟨δ, G, Qd, R, h, k⟩ => ?_⟩
    refine thn (pa.run ps pins s σ H (fun vs H' => ∃ v u d d2 G', vs = [v, u] ∧ Fr G H G' H' ∧ RD X.K H' d v ∧ RD X.K H' d2 u ∧ RH X.K H' G' ∧ Qd d d2 G') I ⟨δ, G, _, R, h, fun v H1 d G1 f1 rd1 rh1 q1 => ⟨δ, G1, _, R.step f1 rh1, q1, fun u H2 d2 G2 f2 rd2 rh2 q2 => ⟨v, u, d, d2, G2, rfl, f1.trans f2, RD.mono (f2.tle rh1) _ _ rd1, rd2, rh2, q2⟩⟩⟩) fun us s1 hh => ?_
    obtain ⟨vs, H', J, rv, v, u, d, d2, G', rfl, f, rd, rd2, rh, q⟩ := hh
    exact ⟨[v, u], H', J, rv, k v u H' d d2 G' f rd rd2 rh q (fun a xs s1 => by obtain ⟨_, _, _, z⟩ := J.tuple s1; exact z) fun a xs s1 => by obtain ⟨_, _, _, z⟩ := J.list s1; exact z⟩
  refine (RZ.pi_zipA hg hm pa' hs hpl).run pins s σ H Rr I ⟨δ, G, _, R, h, fun v u H2 d d2 G2 f2 rd rd2 rh2 q2 lt ll => ?_⟩
  split at q2
  · cases rd with
    | tup s1 a1 =>
      cases rd2 with
      | tup s2 a2 => exact ⟨_, _, _, _, rfl, .inr ⟨s1, s2, k _ H2 _ _ G2 f2 rh2 (gives_zipT s1 a1 s2 a2) (q2 (by rw [a1.length]; exact lt _ _ s1))⟩⟩
  · split at q2
    · rename_i xs ys e1 e2
      obtain ⟨_, vs, rfl, s1, a1⟩ := lsD_some rh2 rd e1
      obtain ⟨_, ws, rfl, s2, a2⟩ := lsD_some rh2 rd2 e2
      exact ⟨_, _, _, _, rfl, .inl ⟨.inl s1, .inl s2, k _ H2 _ _ G2 f2 rh2 (gives_zipL rd rd2) (q2 (by rw [a1.length]; exact ll _ _ (.inl s1)))⟩⟩
    · exact q2.elim

/-! methods of lists -/
def mMeth (r : D → List D → GH → KD → Prop) (m : ME) (aa : MA) : ME := fun δ G Q => m δ G fun x G1 => (lsD G1 x).isSome = true ∧ aa δ G1 fun ds G2 => r x ds G2 Q
theorem isLst_ty {K : PySem.W.Frag} {H : Hp} {G : GH} {d : D} {v : V} (rh : RH K H G) (rd : RD K H d v) (h : (lsD G d).isSome = true) : tyV K "list" v H := by
  obtain ⟨ds, e⟩ := Option.isSome_iff_exists.mp h
  obtain ⟨a, vs, rfl, f, _⟩ := lsD_some rh rd e
  exact .inl ⟨rfl, vs, .inl f⟩
theorem d_methL {name : Str} {id : String} {r : D → List D → GH → KD → Prop} (slot : Slot "list" name id) (hty : typeOf (.builtin id) = pure (.type "method_descriptor")) (hm : MtR X id (rMD X.K r)) (ho : DE X G0 H0 e m) (ha : DA X G0 H0 (a :: es) aa)
    (hbase : attributeBase e name X.env (eval e X.env) = eval e X.env := by rfl)
    (hfew : ((backTo cpos (starEach (a :: es) X.env)).all (fun x => !x.1) && (backToKw cpos (keywordEach [] X.env)).all (fun x => x.1.isSome)
      && decide ((a :: es).length + ([] : List Keyword).length + (if ([] : List Keyword).isEmpty then 0 else 1) < 30)) = true := by rfl)
    (hline : (apos.endLine == cpos.line) = true := by rfl) (hs : starEach (a :: es) X.env = (false, eval a X.env) :: starEach es X.env := by rfl) (hplain : (backTo cpos (starEach es X.env)).any (·.1) = false := by rfl) :
    DE X G0 H0 (.Call (.Attribute e name apos) (a :: es) [] cpos) (mMeth r m aa) :=
  (pe_bm PySem.F.plainAttrs_list slot hty hm ho ha hbase hfew hline hs hplain).dimp fun σ H Q ⟨δ, G, Qd, R, h, k⟩ => ⟨δ, G, _, R, h, fun v H1 d G1 f1 rd1 rh1 q1 => ⟨isLst_ty rh1 rd1 q1.1, δ, G1, _, R.step f1 rh1, q1.2, fun vs H2 ds G2 f2 rd2 rh2 q2 _ => ⟨d, ds, G2, Qd, RD.mono (f2.tle rh1) _ _ rd1, rd2, rh2, q2, k.step (f1.trans f2)⟩⟩⟩
theorem d_methL0 {name : Str} {id : String} {r : D → List D → GH → KD → Prop} (slot : Slot "list" name id) (hty : typeOf (.builtin id) = pure (.type "method_descriptor")) (hm : MtR X id (rMD X.K r)) (ho : DE X G0 H0 e m)
    (hbase : attributeBase e name X.env (eval e X.env) = eval e X.env := by rfl) (hline : (apos.endLine == cpos.line) = true := by rfl) :
    DE X G0 H0 (.Call (.Attribute e name apos) [] [] cpos) (mMeth r m aNil) :=
  (pe_bm0 PySem.F.plainAttrs_list slot hty hm ho hbase hline).dimp fun σ H Q ⟨δ, G, Qd, R, h, k⟩ => ⟨δ, G, _, R, h, fun v H1 d G1 f1 rd1 rh1 q1 => ⟨isLst_ty rh1 rd1 q1.1, d, [], G1, Qd, rd1, .nil, rh1, q1.2, k.step f1⟩⟩
theorem KV'.wr {K : PySem.W.Frag} {G : GH} {H : Hp} {Qd : KD} {Q : VK} {q : Addr} {ds es : List D} {vs ws : List V} {d : D} {v : V} (k : KV' K G H Qd Q) (rh : RH K H G) (g : G q = some (.lst ds)) (hq : H q = some (.lst vs)) (rs : RDs K H es ws) (rd : RD K H d v) (h : Qd d (updG G q (.lst es))) : Q v (upd H q (.lst ws)) :=
  k v _ d (updG G q (.lst es)) (Fr.write g) (RD.mono (TLe.write hq rfl) _ _ rd) (rh.write hq rfl ⟨ws, upd_same, RDs.mono (TLe.write hq rfl) _ _ rs⟩) h
def rAppendD : D → List D → GH → KD → Prop := fun x ds G Q => match x, ds with
  | .ref p, [d] => match G p with
    | some (.lst xs) => xs.length < sizeLine ∧ Q .non (updG G p (.lst (xs ++ [d])))
    | _ => False
  | _, _ => False
theorem o_append : MtR X "list.append" (rMD X.K rAppendD) := by
  rintro pins s σ H x xs v us Q I rx r ⟨dx, ds, G, Qd, rd, rds, rh, h, k⟩
  unfold rAppendD at h
  split at h
  · cases rd
    cases rds with
    | cons r1 r2 =>
      cases r2
      split at h
      · rename_i e
        obtain ⟨vs, f1, a1⟩ := rh _ _ e
        exact mt_append pins s σ H _ _ v us Q I rx r ⟨_, _, _, rfl, rfl, f1, by rw [← a1.length]; exact h.1, k.wr rh e f1 (RDs.append a1 (.cons r1 .nil)) .non h.2⟩
      · exact h.elim
  · exact h.elim
theorem extR {X : Cx} {pins : List (Addr × Obj)} {σ : L2.St} {H : Hp} {s : Shared} {p q : Addr} {xs ys : List V} {Q : VK} (I : Inv X pins σ H s) (h1 : H p = some (.lst xs)) (h2 : Rd H q (.lst ys)) (hl : xs.length + ys.length ≤ sizeLine)
    (k : Q .non (upd H p (.lst (xs ++ ys)))) : wpAny (model X.prog X.w) X.A (call (.builtin "list.extend") [.ref p, .ref q]) (EP X pins σ Q) X.xe s := by
  obtain ⟨_, as, n, r1, l1, e1⟩ := I.lstM h1
  obtain ⟨bs, m, r2, l2, z2, e2⟩ := lstR I h2
  have hs : as.toArray.size + bs.toArray.size ≤ sizeLine := by simp only [List.size_toArray]; omega
  have hb : ¬ (!as.toArray.isEmpty && Builtin.List.listTooLong (as.toArray.size + bs.toArray.size)) = true := by
    rw [notLongL hs]
    simp
  refine call_meets F.slot_list_extend ⟨_, e1, rfl⟩ F.entry_list_extend (F.args_list_extend_2 _ _) (AutoSeq1.list_extend_list_list_0 p as.toArray n q bs.toArray m hb (by simp only [List.size_toArray]; omega) (by omega)) ⟨e1, e2, ?_⟩
  have hz : (xs ++ ys).length ≤ sizeLine := by rw [List.length_append]; exact hl
  exact ⟨.non, _, I.lset (its' := as ++ bs) h1 e1 (by simp) (r1.append r2) hz, rfl, k⟩
def rExtendD : D → List D → GH → KD → Prop := fun x ds G Q => match x, ds with
  | .ref p, [d] => match rdL G p, lsD G d with
    | some xs, some ys => xs.length + ys.length ≤ sizeLine ∧ Q .non (updG G p (.lst (xs ++ ys)))
    | _, _ => False
  | _, _ => False
theorem o_extend : MtR X "list.extend" (rMD X.K rExtendD) := by
  rintro pins s σ H x xs v us Q I rx r ⟨dx, ds, G, Qd, rd, rds, rh, h, k⟩
  unfold rExtendD at h
  split at h
  · cases rd
    cases rds with
    | cons r1 r2 =>
      cases r2
      split at h
      · rename_i e1 e2
        obtain ⟨vs, f1, a1⟩ := rdL_some rh e1
        obtain ⟨_, ws, rfl, f2, a2⟩ := lsD_some rh r1 e2
        cases r with
        | cons q1 q2 =>
          cases q2
          cases q1
          cases rx
          exact extR I f1 f2 (by rw [← a1.length, ← a2.length]; exact h.1) (k.wr rh (rdL_at e1) f1 (RDs.append a1 a2) .non h.2)
      · exact h.elim
  · exact h.elim
/-- the first place of what is equal -/
def ixE (p : PyData) : List PyData → Option Nat
  | [] => none
  | z :: zs => if PyData.eqv z p = true then some 0 else (ixE p zs).map (· + 1)
theorem ixE_some {p : PyData} : ∀ {zs : List PyData} {j : Nat}, ixE p zs = some j → ∃ z, zs[j]? = some z ∧ PyData.eqv z p = true ∧ ∀ (m : Nat) (z' : PyData), m < j → zs[m]? = some z' → PyData.eqv z' p = false
  | [], j, h => by cases h
  | z :: zs, j, h => by
    unfold ixE at h
    split at h
    · rename_i e; cases h
      exact ⟨z, rfl, e, fun m z' hm => absurd hm (Nat.not_lt_zero _)⟩
    · rename_i e
      obtain ⟨k, hk, rfl⟩ := Option.map_eq_some_iff.mp h
      obtain ⟨w, h1, h2, h3⟩ := ixE_some hk
      refine ⟨w, by simpa using h1, h2, fun m z' hm hz => ?_⟩
      cases m with
      | zero => simp at hz; subst hz; simpa using e
      | succ m => exact h3 m z' (by omega) (by simpa using hz)
def rIndexL : D → List D → GH → KD → Prop := fun x ds G Q => match ds with
  | [d] => match pyN 60 G x, pyN 60 G d with
    | some (.list ps), some p => match ixE p ps with | some j => Q (.int (j : Nat)) G | none => False
    | _, _ => False
  | _ => False
theorem o_index (hu : X.A.units + 65 < cLine) : MtR X "list.index" (rMD X.K rIndexL) := by
  rintro pins s σ H x xs v us Q I rx r ⟨dx, ds, G, Qd, rd, rds, rh, h, k⟩
  unfold rIndexL at h
  split at h
  · cases rds with
    | cons r1 r2 =>
      cases r2
      split at h
      · rename_i ps p e1 e2
        split at h
        · rename_i j ej
          obtain ⟨z, h1, h2, h3⟩ := ixE_some ej
          have dp := pyN_dp rh _ _ _ _ e1 rd
          have : ∃ a, x = V.ref a := by cases dp <;> exact ⟨_, rfl⟩
          obtain ⟨a, rfl⟩ := this
          exact mt_indexD hu pins s σ H _ _ v us Q I rx r ⟨a, _, p, ps, j, z, rfl, rfl, dp, pyN_dp rh _ _ _ _ e2 r1, pyN_shaped e1 (by decide), pyN_shaped e2 (by decide), h1, h2, h3, k.here (.int _) rh h⟩
        · exact h.elim
      · exact h.elim
  · exact h.elim
theorem RDs.dropLast {K : PySem.W.Frag} {H : Hp} {ds : List D} {vs : List V} (r : RDs K H ds vs) : RDs K H ds.dropLast vs.dropLast := by
  rw [List.dropLast_eq_take, List.dropLast_eq_take, r.length]; exact RDs.take _ r
def rPopD : D → List D → GH → KD → Prop := fun x ds G Q => match x, ds with
  | .ref p, [] => match G p with
    | some (.lst xs) => match xs[xs.length - 1]? with
      | some d => Q d (updG G p (.lst xs.dropLast))
      | none => False
    | _ => False
  | _, _ => False
theorem o_pop : MtR X "list.pop" (rMD X.K rPopD) := by
  rintro pins s σ H x xs v us Q I rx r ⟨dx, ds, G, Qd, rd, rds, rh, h, k⟩
  unfold rPopD at h
  split at h
  · cases rd
    cases rds
    split at h
    · rename_i e
      obtain ⟨vs, f1, a1⟩ := rh _ _ e
      split at h
      · rename_i d ed
        obtain ⟨w, ew, rw⟩ := a1.get ed
        rw [a1.length] at ew
        exact mt_pop pins s σ H _ _ v us Q I rx r ⟨_, _, _, rfl, rfl, f1, ew, k.wr rh e f1 a1.dropLast rw h⟩
      · exact h.elim
    · exact h.elim
  · exact h.elim
end

/-! calls with keywords -/
def pick {α : Type} : List Nat → List α → List α
  | [], _ => []
  | i :: r, xs => match xs[i]? with
    | some x => x :: pick r xs
    | none => pick r xs
theorem pick_vals : ∀ (π : List Nat) {xs : List V} {us : List Value}, Vals xs us → Vals (pick π xs) (pick π us)
  | [], _, _, _ => .nil
  | i :: r, xs, us, h => by
    unfold pick
    cases e : xs[i]? with
    | none =>
      rw [h.none_of e]
      exact pick_vals r h
    | some x =>
      obtain ⟨u, eu, ru⟩ := h.get e
      rw [eu]
      exact .cons ru (pick_vals r h)
theorem pick_rds {K : PySem.W.Frag} {H : Hp} : ∀ (π : List Nat) {xs : List D} {us : List V}, RDs K H xs us → RDs K H (pick π xs) (pick π us)
  | [], _, _, _ => .nil
  | i :: r, xs, us, h => by
    unfold pick
    cases e : xs[i]? with
    | none =>
      have e' : us[i]? = none := by
        have := List.getElem?_eq_none_iff.mp e
        rw [h.length] at this
        exact List.getElem?_eq_none_iff.mpr this
      rw [e']
      exact pick_rds r h
    | some x =>
      obtain ⟨u, eu, ru⟩ := h.get e
      rw [eu]
      exact .cons ru (pick_rds r h)
abbrev DK (X : Cx) (G0 : GH) (H0 : Hp) (kws : List Keyword) (a : MA) := PK X kws (tA X.K G0 H0 kws.length a)
def mCallK (sp : SpD) (W : WD) (π : List Nat) (aa ak : MA) : ME := fun δ G Q => aa δ G fun ds G1 => ak δ G1 fun es G2 => sp (pick π (ds ++ es)) G2 Q fun cls fld G' => W cls fld δ G'
/-- how the positional values and the keywords' values come to the parameters -/
def BindsK (K : PySem.W.Frag) (fd : FuncData) (ps ks : List Str) (π : List Nat) (n : Nat) : Prop :=
  ∀ (s : Shared) (us ws : List Value), K.In s.heap → us.length = n → ws.length = ks.length → BindsTo s fd ⟨us, ks.zip ws⟩ (ps.zip (pick π (us ++ ws)))
section
variable {X : Cx} {G0 : GH} {H0 : Hp} {k : Nat} {f : Addr} {fd : FuncData} {ps ks : List Str} {sp : SpD} {W : WD} {x : Str} {p pos kpos : Pos} {e : Expr} {es : List Expr} {m : ME} {aa ak : MA} {kws : List Keyword} {nm : Option Str} {π : List Nat} {n : Nat}
theorem dk_nil : DK X G0 H0 [] aNil := ⟨fun ps pins s σ H Q I ⟨δ, G, Qd, R, h, k⟩ => pk_nil.run ps pins s σ H Q I (k [] H [] G Fr.refl .nil R.rh h rfl)⟩
theorem dk_cons (h1 : DE X G0 H0 e m) (h2 : DK X G0 H0 kws aa) : DK X G0 H0 (⟨nm, e, kpos⟩ :: kws) (aCons m aa) :=
  ⟨fun ps pins s σ H Q I ⟨δ, G, Qd, R, h, k⟩ => (pk_cons h1 h2).run ps pins s σ H Q I ⟨δ, G, _, R, h, fun v H1 d G1 f1 rd1 rh1 q1 => ⟨δ, G1, _, R.step f1 rh1, q1, fun vs H2 ds G2 f2 rd2 rh2 q2 l2 =>
      k _ _ (d :: ds) G2 (f1.trans f2) (.cons (RD.mono (f2.tle rh1) _ _ rd1) rd2) rh2 q2 (by rw [List.length_cons, List.length_cons, l2])⟩⟩⟩
theorem d_callK (F : FnD X.prog X.w X.K X.mg X.base k f fd ps sp) (C : Ctx k X.A) (tk : Takes X (lwD X.K G0 H0 W)) (hm : X.mg x = some (.ref f)) (hk : PySem.W.keepIn X.K (.ref f) = true) (hb : BindsK X.K fd ps ks π (e :: es).length) (ha : DA X G0 H0 (e :: es) aa) (hkw : DK X G0 H0 kws ak)
    (hkl : kws.length = ks.length := by rfl) (hg : Gl X x := by rfl) (hall : (backToKw pos (keywordEach kws X.env)).all (·.1.isSome) = true := by rfl) (hks : (backToKw pos (keywordEach kws X.env)).filterMap (·.1) = ks := by rfl)
    (hdb : (x == ("__debug__" : Str)) = false := by decide) (he : starEach (e :: es) X.env = (false, eval e X.env) :: starEach es X.env := by rfl)
    (hpl : ((backTo pos (starEach (e :: es) X.env)).any (·.1) || (backToKw pos (keywordEach kws X.env)).any (·.1.isNone)) = false := by rfl) :
    DE X G0 H0 (.Call (.Name x p) (e :: es) kws pos) (mCallK sp W π aa ak) := by
  refine ⟨fun pins s σ H Q I ⟨δ, G, Qd, R, h, kq⟩ => wpAny_Call_Name_kw (ld_glob I hg hm ?_ hdb)⟩
  refine PySem.W.callWith_KW (h₀ := X.base) I.ok.mod.kin hk hall (thn (ha.run pos pins s σ H (fun vs H1 => ∃ ds G1, Fr G H G1 H1 ∧ RDs X.K H1 ds vs ∧ RH X.K H1 G1 ∧ ds.length = (e :: es).length ∧ ak δ G1 fun es G2 => sp (pick π (ds ++ es)) G2 Qd fun cls fld G' => W cls fld δ G') I ⟨δ, G, _, R, h, fun vs H1 ds G1 f1 rd1 rh1 q1 l1 => ⟨ds, G1, f1, rd1, rh1, l1, q1⟩⟩) fun us s1 hh => ?_) hpl he
  obtain ⟨vs, H1, I1, r1, ds, G1, f1, rd1, rh1, l1, q1⟩ := hh
  refine thn (hkw.run pos pins s1 σ H1 (fun zs H2 => ∃ es G2, Fr G1 H1 G2 H2 ∧ RDs X.K H2 es zs ∧ RH X.K H2 G2 ∧ es.length = ks.length ∧ sp (pick π (ds ++ es)) G2 Qd fun cls fld G' => W cls fld δ G') I1 ⟨δ, G1, _, R.step f1 rh1, q1, fun vs H2 es G2 f2 rd2 rh2 q2 l2 => ⟨es, G2, f2, rd2, rh2, l2.trans hkl, q2⟩⟩) fun ws s2 hh => ?_
  obtain ⟨zs, H2, I2, r2, es', G2, f2, rd2, rh2, l2, q2⟩ := hh
  refine ⟨I2.kIn, ?_⟩
  rw [hks]
  have lu : us.length = (e :: es).length := by rw [← r1.length, ← rd1.length]; exact l1
  have lw : ws.length = ks.length := by rw [← r2.length, ← rd2.length]; exact l2
  exact run_D (args := ⟨us, ks.zip ws⟩) F C tk I2 ((R.step f1 rh1).step f2 rh2) (hb s2 us ws I2.kIn lu lw) (pick_vals π (r1.append r2)) (pick_rds π (RDs.append (RDs.mono (f2.tle rh1) _ _ rd1) rd2)) q2 (kq.step (f1.trans f2))
theorem d_callK0 (F : FnD X.prog X.w X.K X.mg X.base k f fd ps sp) (C : Ctx k X.A) (tk : Takes X (lwD X.K G0 H0 W)) (hm : X.mg x = some (.ref f)) (hk : PySem.W.keepIn X.K (.ref f) = true) (hb : BindsK X.K fd ps ks π 0) (hkw : DK X G0 H0 kws ak)
    (hkl : kws.length = ks.length := by rfl) (hg : Gl X x := by rfl) (hall : (backToKw pos (keywordEach kws X.env)).all (·.1.isSome) = true := by rfl) (hks : (backToKw pos (keywordEach kws X.env)).filterMap (·.1) = ks := by rfl)
    (hdb : (x == ("__debug__" : Str)) = false := by decide)
    (hpl : ((backTo pos (starEach [] X.env)).any (·.1) || (backToKw pos (keywordEach kws X.env)).any (·.1.isNone)) = false := by rfl) :
    DE X G0 H0 (.Call (.Name x p) [] kws pos) (mCallK sp W π aNil ak) := by
  refine ⟨fun pins s σ H Q I ⟨δ, G, Qd, R, h, kq⟩ => wpAny_Call_Name_kw (ld_glob I hg hm ?_ hdb)⟩
  refine PySem.W.callWith_KW0 (h₀ := X.base) I.ok.mod.kin hk hall (thn (hkw.run pos pins s σ H (fun zs H2 => ∃ es G2, Fr G H G2 H2 ∧ RDs X.K H2 es zs ∧ RH X.K H2 G2 ∧ es.length = ks.length ∧ sp (pick π es) G2 Qd fun cls fld G' => W cls fld δ G') I ⟨δ, G, _, R, h, fun vs H2 es G2 f2 rd2 rh2 q2 l2 => ⟨es, G2, f2, rd2, rh2, l2.trans hkl, q2⟩⟩) fun ws s2 hh => ?_) hpl
  obtain ⟨zs, H2, I2, r2, es', G2, f2, rd2, rh2, l2, q2⟩ := hh
  refine ⟨I2.kIn, ?_⟩
  rw [hks]
  have lw : ws.length = ks.length := by rw [← r2.length, ← rd2.length]; exact l2
  exact run_D (args := ⟨[], ks.zip ws⟩) F C tk I2 (R.step f2 rh2) (hb s2 [] ws I2.kIn rfl lw) (pick_vals π r2) (pick_rds π rd2) q2 (kq.step f2)
end
end DL
namespace DL
open PySem PySem.Spec PyProof.Rows L2

/-! the law's own call -/
/-- no list stands in the written part -/
def noList (K : PySem.W.Frag) : Bool := K.all fun p => match p.2.cls with | .type n => n != "list" | _ => true
theorem noList_at {K : PySem.W.Frag} {a : Addr} {o : Obj} (h : noList K = true) (e : K.lookup a = some o) (c : o.cls = .type "list") : False := by
  unfold noList at h
  have : ∀ (l : PySem.W.Frag), l.all (fun p => match p.2.cls with | .type n => n != "list" | _ => true) = true → l.lookup a = some o → False := by
    intro l
    induction l with
    | nil => intro _ e; cases e
    | cons p l ih =>
      intro h e
      rw [List.all_cons, Bool.and_eq_true] at h
      obtain ⟨q, ob⟩ := p
      rw [List.lookup_cons] at e
      split at e
      · cases e
        have h1 := h.1
        simp only [c] at h1
        exact absurd h1 (by decide)
      · exact ih h.2 e
  exact this K h e
def scriptH (a : Addr) (vs : List Value) (ns : List Int) : Hp := fun b => if b = a then some (.frz { cls := .type "list", data := .seq vs.toArray } (.lst (ns.map V.int))) else none
abbrev noG : GH := fun _ => none
theorem scriptH_none {a b : Addr} {vs : List Value} {ns : List Int} (h : b ≠ a) : scriptH a vs ns b = none := if_neg h
theorem scriptH_at {a : Addr} {vs : List Value} {ns : List Int} : scriptH a vs ns a = some (.frz { cls := .type "list", data := .seq vs.toArray } (.lst (ns.map V.int))) := if_pos rfl
theorem script_rh {K : PySem.W.Frag} {a : Addr} {vs : List Value} {ns : List Int} : RH K (scriptH a vs ns) noG := fun b o e => by cases e
theorem law_runD {P : Program} {w : World} {K : PySem.W.Frag} {mg mb : Str → Option Value} {k : Nat} {fa a : Addr} {fd : FuncData} {x : Str} {sp : SpD} {s1 : Shared} {vs : List Value} {ns : List Int}
    (KX : K.In s1.heap) (hns : s1.heap.Ns mainGlobals mg) (hb : s1.heap.Ns builtinsNs mb) (hbb : ∀ x : Str, x ≠ "__name__" → mb x = bootBuiltins x) (hlim : s1.heap.NoLimit) (hg : s1.gens = #[])
    (ha : s1.heap.get? a = some { cls := .type "list", data := .seq vs.toArray }) (hi : IntsAre vs ns) (hl : ns.length ≤ sizeLine) (C : Ctx k callerA) (nl : noList K = true)
    (F : ∀ base : Heap, K.In base → base.Ns mainGlobals mg → FnD P w K mg base k fa fd [x] sp) (hbind : ∀ (s : Shared) (u : Value), BindsTo s fd ⟨[u], []⟩ [(x, u)])
    (hsp : sp [.lst (ns.map .int)] noG (fun d _ => d = .bl true) fun _ _ _ => False) :
    codeAny (model P w) callerA (.call (.ref fa) ⟨[.ref a], []⟩) (fun r s' => r = .ok (.ret (.bool true)) ∧ OldK s1.heap s'.heap ∧ s'.os = s1.os ∧ AllBare s'.gens) s1 := by
  have rv : Vals (ns.map V.int) vs := vals_ints hi
  have hk : K.lookup a = none := by
    cases e : K.lookup a with
    | none => rfl
    | some o =>
      have e2 := KX a o e
      rw [ha] at e2
      cases e2
      exact (noList_at nl e rfl).elim
  have only : ∀ b, scriptH a vs ns b ≠ none → b = a := fun b h => by
    by_cases q : b = a
    · exact q
    · exact absurd (scriptH_none q) h
  have ok : HOk P w (scriptH a vs ns) s1.heap := fun b u e => by
    have q : b = a := only b (by rw [e]; simp)
    subst q
    rw [scriptH_at] at e; cases e
    exact ⟨ha, by rw [List.length_map]; exact hl, vs, _, rv, ha⟩
  have dictFree : ∀ {b : Addr} {m : Str → Option Value}, s1.heap.Ns b m → (hidT s1.heap (scriptH a vs ns)).Ns b m := by
    rintro b m ⟨o, es, ep, e, d, r⟩
    refine ⟨o, es, ep, hidT_get e ?_, d, r⟩
    by_cases q : b = a
    · subst q
      rw [ha] at e; cases e
      cases d
    · exact scriptH_none q
  have kb : K.In (hidT s1.heap (scriptH a vs ns)) := fun b o e => hidT_get (KX b o e) (by
    by_cases q : b = a
    · subst q; rw [hk] at e; cases e
    · exact scriptH_none q)
  have env0 : Env0 P w K mg (hidT s1.heap (scriptH a vs ns)) callerA [] s1 (scriptH a vs ns) := by
    refine ⟨rfl, ⟨kb, dictFree hns, ⟨mb, dictFree hb, hbb⟩, ?_⟩, fun b o e => of_hidT e, Nat.le_of_eq (hidT_size _ _), trivial, fun b h => absurd (show b ∈ ([] : List Addr) from h) (by simp), ok, .of_eq hg⟩
    obtain ⟨mc, h1, h2⟩ := hlim
    exact ⟨mc, dictFree h1, h2⟩
  have run := (F _ kb (dictFree hns)).run callerA [] s1 (scriptH a vs ns) ⟨[.ref a], []⟩ [.ref a] [.ref a] [.lst (ns.map .int)] noG _ _ C env0 (hbind s1 (.ref a)) (.cons rfl .nil) (.cons (.lst scriptH_at (RDs.ints ns)) .nil) script_rh hsp
  refine codeAny_mono run fun r s' h => ?_
  cases r with
  | error e =>
    obtain ⟨_, _, _, _, _, _, _, _, _, _, _, _, _, _, _, _, _, z⟩ := h
    exact z.elim
  | ok fl =>
    cases fl with
    | next => exact h.elim
    | brk => exact h.elim
    | cont => exact h.elim
    | ret u =>
      obtain ⟨v, H', os, bare, un, ok', rv', d, G', fr, rd, rh, q⟩ := h
      subst q
      cases rd
      obtain rfl : u = Value.bool true := rv'
      refine ⟨rfl, OldK.of_keep fun b o e => ?_, os, bare⟩
      by_cases q : b = a
      · subst q
        have z := un.frzs b _ _ scriptH_at
        obtain ⟨e2, _⟩ := ok' b _ z
        rw [ha] at e; cases e
        exact e2
      · exact un.keep b o e (scriptH_none q) (by intro z; exact absurd (show b ∈ ([] : List Addr) from z) (by simp)) (by simp)
/-- the law's promise -/
def spLaw : SpD := fun ds G Q _ => ∃ (ns : List Int), ds = [.lst (ns.map .int)] ∧ G = noG ∧ ns.length ≤ 63 ∧ ∀ G', Q (.bl true) G'
/-- the goal that the head leaves -/
theorem walk_D {l : PySem.W.OpenLaw} {k : Nat} {q : Program} {loose : List Str} {XP : (Str → Option Value) → Heap → Prop} {YP : World → Heap → Prop} {d : DefRec} {K : Params → PySem.W.Frag} {x : Str}
    (hn : l.most = some 63) (hdf : d.params.defaults = []) (C : Ctx k callerA)
    (hY : ∀ (w : World) (h : Heap), YP w h → (K w.params).In h) (nl : ∀ w : World, noList (K w.params) = true)
    (F : ∀ (w : World) (mg : Str → Option Value) (fa : Addr) (h : Heap), (K w.params).In h → h.Ns mainGlobals mg → mg d.name = some (.ref fa) →
      ∃ fd : FuncData, (∀ (s : Shared) (u : Value), BindsTo s fd ⟨[u], []⟩ [(x, u)]) ∧
        ∀ base : Heap, (K w.params).In base → base.Ns mainGlobals mg → FnD l.prog w (K w.params) mg base k fa fd [x] spLaw) :
    PySem.W.WalkO q loose XP YP l.row.toRowW d [] (fun f vs => PySem.call f vs) := by
  refine Att.attach_call hn hdf fun w s0 s1 mg mb fa o pm cd doc a vs ns G Y ho hd hcd hmg hobj hints hlen hg => ?_
  have KX := hY w _ Y
  obtain ⟨fd, hb, hF⟩ := F w mg fa _ KX G.T.g hmg
  exact law_runD KX G.T.g G.T.b G.T.builtins G.T.nolimit hg hobj hints (Nat.le_trans hlen (by decide)) C (nl w) hF hb ⟨ns, rfl, rfl, hlen, fun _ => rfl⟩
end DL
namespace DL
open PySem PySem.Spec PyProof.Rows L2

/-! stores into a list -/
def rSetD : D → D → D → GH → (GH → Prop) → Prop := fun o i d G Q => match o, i with
  | .ref p, .int k => match G p with
    | some (.lst xs) => match ixN xs.length k with | some j => Q (updG G p (.lst (xs.set j d))) | none => False
    | _ => False
  | _, _ => False
def gSubD (m mi : ME) : MG := fun d δ G Q => m δ G fun o G1 => mi δ G1 fun i G2 => rSetD o i d G2 fun G3 => Q δ G3
section
variable {X : Cx} {G0 : GH} {H0 : Hp} {a b : Expr} {ma mb : ME} {pos : Pos}
def tSetD (K : PySem.W.Frag) : TSet := fun o i v H Q => ∃ do_ di dv G Qd, RD K H do_ o ∧ RD K H di i ∧ RD K H dv v ∧ RH K H G ∧ rSetD do_ di dv G Qd ∧ ∀ H' G', Fr G H G' H' → RH K H' G' → Qd G' → Q H'
theorem set_D : PSet X (tSetD X.K) := by
  intro pins s σ H o i v ov iv u Q I ro ri rv ⟨do_, di, dv, G, Qd, h1, h2, h3, rh, h, k⟩
  unfold rSetD at h
  split at h
  · cases h1; cases h2
    split at h
    · rename_i xs e
      obtain ⟨vs, hp, r⟩ := rh _ _ e
      split at h
      · rename_i j hj
        refine set_list pins s σ H _ _ v ov iv u Q I ro ri rv ⟨_, vs, _, j, rfl, rfl, hp, by rw [← r.length]; exact hj, ?_⟩
        refine k _ _ (Fr.write e) (rh.write hp rfl ?_) h
        exact ⟨_, upd_same, RDs.mono (TLe.write hp rfl) _ _ (r.set h3 j)⟩
      · exact h.elim
    · exact h.elim
  · exact h.elim
theorem dg_sub (ha : DE X G0 H0 a ma) (hb : DE X G0 H0 b mb)
    (hs : ∀ v, assign (.Subscript a b pos) X.env v = (do
      let ov ← holding [v] (eval a X.env)
      let iv ← holding [v, ov] (eval b X.env)
      standAt pos
      holding [v, ov, iv] (setItem ov iv v)
      release [v, ov, iv] []) := by intro _; rfl) : DG X G0 H0 (.Subscript a b pos) (gSubD ma mb) :=
  (pg_sub ha hb set_D hs).dimp fun v σ H Q ⟨d, δ, G, Qd, R, rd, h, k⟩ =>
    ⟨δ, G, _, R, h, fun o H1 d1 G1 f1 rd1 rh1 q1 => ⟨δ, G1, _, R.step f1 rh1, q1, fun i H2 d2 G2 f2 rd2 rh2 q2 =>
      ⟨d1, d2, d, G2, _, RD.mono (f2.tle rh1) _ _ rd1, rd2, RD.mono ((f1.trans f2).tle R.rh) _ _ rd, rh2, q2, fun H3 G3 f3 rh3 q3 =>
        k σ H3 δ G3 ((f1.trans f2).trans f3) ((R.rs.mono ((f1.trans f2).trans f3 |>.tle R.rh))) rh3 q3⟩⟩⟩
end

/-! what may be forgotten -/
def LeS : Sl → Sl → Prop
  | [], _ => True
  | x :: a, [] => x = none ∧ LeS a []
  | x :: a, y :: b => (x = none ∨ x = y) ∧ LeS a b
theorem LeS.refl : ∀ (a : Sl), LeS a a
  | [] => trivial
  | _ :: a => ⟨.inr rfl, LeS.refl a⟩
theorem LeS.get : ∀ {a b : Sl} {i : Nat} {d : D}, LeS a b → a[i]? = some (some d) → b[i]? = some (some d)
  | [], _, _, _, _, e => by simp at e
  | x :: a, [], 0, d, h, e => by
    simp at e; rw [h.1] at e; cases e
  | x :: a, [], i + 1, d, h, e => by
    have := LeS.get (i := i) (d := d) h.2 (by simpa using e)
    simp at this
  | x :: a, y :: b, 0, d, h, e => by
    simp at e
    rcases h.1 with z | z
    · rw [z] at e; cases e
    · rw [← z, e]; rfl
  | x :: a, y :: b, i + 1, d, h, e => by
    have := LeS.get (i := i) (d := d) h.2 (by simpa using e)
    simpa using this
theorem RS.forget {K : PySem.W.Frag} {H : Hp} {δ δ' : Sl} {σ : L2.St} (r : RS K H δ σ) (l : LeS δ' δ) : RS K H δ' σ := fun i d e => r i d (l.get e)
/-- G' knows what G knows, but for the places S -/
def Up (S : List Addr) (G G' : GH) : Prop := ∀ b o, b ∉ S → G b = some o → G' b = some o
abbrev LeG (G G' : GH) : Prop := ∀ b o, G b = some o → G' b = some o
theorem LeG.refl {G : GH} : LeG G G := fun _ _ h => h
theorem LeG.trans {G G1 G2 : GH} (a : LeG G G1) (b : LeG G1 G2) : LeG G G2 := fun x o h => b x o (a x o h)
theorem LeG.new {G G1 : GH} {p : Addr} {o : DO} (a : LeG G G1) (h : G1 p = none) : LeG G (updG G1 p o) := fun x u e => by
  have e1 := a x u e
  rw [updG_ne]; exact e1
  intro z; subst z; rw [h] at e1; cases e1
theorem LeG.upd {G G1 : GH} {p : Addr} {o : DO} (a : LeG G G1) : LeG (updG G p o) (updG G1 p o) := fun x u e => by
  by_cases h : x = p
  · subst h; rw [updG_same] at e ⊢; exact e
  · rw [updG_ne h] at e ⊢; exact a x u e
theorem LeG.none {G G1 : GH} {p : Addr} (a : LeG G G1) (h : G1 p = .none) : G p = .none := by
  cases e : G p with
  | none => rfl
  | some o => rw [a p o e] at h; cases h
theorem RH.forget {K : PySem.W.Frag} {H : Hp} {G G' : GH} (r : RH K H G) (l : LeG G' G) : RH K H G' := fun a o e => r a o (l a o e)
theorem Fr.forget {G0 G G' : GH} {H0 H : Hp} (f : Fr G0 H0 G H) (l : LeG G' G) : Fr G0 H0 G' H :=
  ⟨f.frm, fun a h g => by
    have := f.new a h g
    cases e : G' a with
    | none => rfl
    | some o => rw [l a o e] at this; cases this⟩
def Wk (N : Sl → GH → Prop) : Sl → GH → Prop := fun δ G => ∃ δ' G', LeS δ' δ ∧ LeG G' G ∧ N δ' G'
def WkQ (Q : KD) : KD := fun d G => ∃ G', LeG G' G ∧ Q d G'
def WkN (N : Nd) : Nd := ⟨Wk N.nx, WkQ N.rt, Wk N.bk, Wk N.ct⟩
/-- a statement behind which things are forgotten -/
def sW (m : MS) : MS := fun N δ G => m (WkN N) δ G
theorem LE.wk {K : PySem.W.Frag} {G : GH} {H : Hp} {N : Nd} {E : Ends} (l : LE K G H N E) : LE K G H (WkN N) E :=
  ⟨fun s h d g f rs rh ⟨d', g', a, b, q⟩ => l.nx s h d' g' (f.forget b) (rs.forget a) (rh.forget b) q,
   fun s h d g f rs rh ⟨d', g', a, b, q⟩ => l.bk s h d' g' (f.forget b) (rs.forget a) (rh.forget b) q,
   fun s h d g f rs rh ⟨d', g', a, b, q⟩ => l.ct s h d' g' (f.forget b) (rs.forget a) (rh.forget b) q,
   fun v h d g f rd rh ⟨g', b, q⟩ => l.rt v h d g' (f.forget b) rd (rh.forget b) q⟩
section
variable {X : Cx} {G0 : GH} {H0 : Hp} {st : Stmt} {sts : List Stmt} {m : MS}
theorem ds_w (h : DS X G0 H0 st m) : DS X G0 H0 st (sW m) := h.dimp fun E σ H ⟨δ, G, N, R, q, l⟩ => ⟨δ, G, _, R, q, l.wk⟩
theorem dss_w (h : DSs X G0 H0 sts m) : DSs X G0 H0 sts (sW m) := h.dimp fun E σ H ⟨δ, G, N, R, q, l⟩ => ⟨δ, G, _, R, q, l.wk⟩
end
theorem WkQ.here {Q : KD} {d : D} {G : GH} (h : Q d G) : WkQ Q d G := ⟨G, LeG.refl, h⟩
theorem Wk.here {Q : Sl → GH → Prop} {d : Sl} {G : GH} (h : Q d G) : Wk Q d G := ⟨d, G, LeS.refl d, LeG.refl, h⟩

/-- a statement behind which all goes on from what P tells -/
def sCut (m : MS) : MS := fun N δ G => ∃ P : Sl → GH → Prop, m { N with nx := P } δ G ∧ ∀ δ' G', P δ' G' → N.nx δ' G'
section
variable {X : Cx} {G0 : GH} {H0 : Hp} {st : Stmt} {m : MS}
theorem ds_cut (h : DS X G0 H0 st m) : DS X G0 H0 st (sCut m) := h.dimp fun E σ H ⟨δ, G, N, R, ⟨P, q, k⟩, l⟩ =>
  ⟨δ, G, _, R, q, fun s h d g f rs rh p => l.nx s h d g f rs rh (k d g p), l.bk, l.ct, l.rt⟩
end
/-! Up -/
theorem Up.refl {S : List Addr} {G : GH} : Up S G G := fun _ _ _ h => h
theorem Up.trans {S : List Addr} {G G1 G2 : GH} (a : Up S G G1) (b : Up S G1 G2) : Up S G G2 := fun x o n h => b x o n (a x o n h)
theorem Up.new {S : List Addr} {G G1 : GH} {p : Addr} {o : DO} (a : Up S G G1) (h : G1 p = none) : Up S G (updG G1 p o) := fun x u n e => by
  have e1 := a x u n e
  rw [updG_ne]; exact e1
  intro z; subst z; rw [h] at e1; cases e1
theorem Up.upd {S : List Addr} {G G1 : GH} {p : Addr} {o : DO} (a : Up S G G1) (h : p ∈ S) : Up S G (updG G1 p o) := fun x u n e => by
  rw [updG_ne]; exact a x u n e
  intro z; subst z; exact n h
theorem Up.le {S : List Addr} {G G1 : GH} (a : LeG G G1) : Up S G G1 := fun x o _ h => a x o h
theorem Up.leG {G G1 : GH} (a : Up [] G G1) : LeG G G1 := fun x o h => a x o (by simp) h

/-! loops by an invariant over the place -/
theorem forL_ix {Φ : GH → Prop} {g : MG} {b : MS} {N : Nd} {ds : List D} (I : Nat → Sl → GH → Prop) (hΦ : ∀ i δ G, I i δ G → Φ G) (hend : ∀ δ G, I ds.length δ G → N.nx δ G)
    (step : ∀ i d δ G (nx : Sl → GH → Prop), ds[i]? = some d → I i δ G → (∀ δ' G', I (i + 1) δ' G' → nx δ' G') → g d δ G fun δ1 G1 => b { nx := nx, ct := nx, bk := N.nx, rt := N.rt } δ1 G1)
    {δ : Sl} {G : GH} (h0 : I 0 δ G) : forL Φ g b ds N δ G := by
  have key : ∀ (es pre : List D) (δ : Sl) (G : GH), pre ++ es = ds → I pre.length δ G → forL Φ g b es N δ G := by
    intro es
    induction es with
    | nil =>
      intro pre δ G e h
      rw [List.append_nil] at e; subst e
      exact ⟨hΦ _ _ _ h, hend _ _ h⟩
    | cons d es ih =>
      intro pre δ G e h
      refine ⟨hΦ _ _ _ h, step pre.length d δ G (fun δ2 G2 => forL Φ g b es N δ2 G2) ?_ h ?_⟩
      · rw [← e]; simp
      · intro δ' G' h'
        exact ih (pre ++ [d]) δ' G' (by rw [← e]; simp) (by simpa using h')
  exact key ds [] δ G rfl h0
/-- the same, over a list of other things -/
theorem forL_map {α : Type} {f : α → D} {Φ : GH → Prop} {g : MG} {b : MS} {N : Nd} {xs : List α} (I : Nat → Sl → GH → Prop) (hΦ : ∀ i δ G, I i δ G → Φ G) (hend : ∀ δ G, I xs.length δ G → N.nx δ G)
    (step : ∀ i x δ G (nx : Sl → GH → Prop), xs[i]? = some x → I i δ G → (∀ δ' G', I (i + 1) δ' G' → nx δ' G') → g (f x) δ G fun δ1 G1 => b { nx := nx, ct := nx, bk := N.nx, rt := N.rt } δ1 G1)
    {δ : Sl} {G : GH} (h0 : I 0 δ G) : forL Φ g b (xs.map f) N δ G :=
  forL_ix I hΦ (fun δ G h => hend δ G (by simpa using h)) (fun i d δ G nx e h k => by
    rw [List.getElem?_map] at e
    obtain ⟨x, hx, rfl⟩ := Option.map_eq_some_iff.mp e
    exact step i x δ G nx hx h k) h0
theorem forL_rng {lo : Int} {n : Nat} {Φ : GH → Prop} {g : MG} {b : MS} {N : Nd} (I : Nat → Sl → GH → Prop) (hΦ : ∀ i δ G, I i δ G → Φ G) (hend : ∀ δ G, I n δ G → N.nx δ G)
    (step : ∀ (i : Nat) δ G (nx : Sl → GH → Prop), i < n → I i δ G → (∀ δ' G', I (i + 1) δ' G' → nx δ' G') → g (.int (lo + (i : Nat))) δ G fun δ1 G1 => b { nx := nx, ct := nx, bk := N.nx, rt := N.rt } δ1 G1)
    {δ : Sl} {G : GH} (h0 : I 0 δ G) : forL Φ g b (rngD lo n) N δ G :=
  forL_map (f := fun i : Nat => D.int (lo + (i : Nat))) I hΦ (fun δ G h => hend δ G (by simpa using h)) (fun i x δ G nx e h k => by
    have hi : i < n := by have := (List.getElem?_eq_some_iff.mp e).1; simpa using this
    rw [List.getElem?_range hi] at e; cases e
    exact step i δ G nx hi h k) h0
theorem lcL_ix {Φ : GH → Prop} {g : MG} {t : MT} {e : ME} {δ0 : Sl} {ds : List D} {Q : List D → GH → Prop} (I : Nat → List D → GH → Prop) (hΦ : ∀ i a G, I i a G → Φ G) (hend : ∀ a G, I ds.length a G → Q a G)
    (step : ∀ i d acc G (nx : List D → GH → Prop), ds[i]? = some d → I i acc G → (∀ a' G', I (i + 1) a' G' → nx a' G') → g d δ0 G fun δ1 G1 => t δ1 G1 fun b G2 => if b = true then e δ1 G2 fun y G3 => acc.length < sizeLine ∧ nx (acc ++ [y]) G3 else nx acc G2)
    {acc : List D} {G : GH} (h0 : I 0 acc G) : lcL Φ g t e δ0 ds acc G Q := by
  have key : ∀ (es pre : List D) (acc : List D) (G : GH), pre ++ es = ds → I pre.length acc G → lcL Φ g t e δ0 es acc G Q := by
    intro es
    induction es with
    | nil =>
      intro pre acc G e h
      rw [List.append_nil] at e; subst e
      exact ⟨hΦ _ _ _ h, hend _ _ h⟩
    | cons d es ih =>
      intro pre acc G e h
      exact ⟨hΦ _ _ _ h, step pre.length d acc G (fun a2 G2 => lcL Φ g t _ δ0 es a2 G2 Q) (by rw [← e]; simp) h fun a' G' h' => ih (pre ++ [d]) a' G' (by rw [← e]; simp) (by simpa using h')⟩
  exact key ds [] acc G rfl h0
theorem lcL_rng {lo : Int} {n : Nat} {Φ : GH → Prop} {g : MG} {t : MT} {e : ME} {δ0 : Sl} {Q : List D → GH → Prop} (I : Nat → List D → GH → Prop) (hΦ : ∀ i a G, I i a G → Φ G) (hend : ∀ a G, I n a G → Q a G)
    (step : ∀ (i : Nat) acc G (nx : List D → GH → Prop), i < n → I i acc G → (∀ a' G', I (i + 1) a' G' → nx a' G') → g (.int (lo + (i : Nat))) δ0 G fun δ1 G1 => t δ1 G1 fun b G2 => if b = true then e δ1 G2 fun y G3 => acc.length < sizeLine ∧ nx (acc ++ [y]) G3 else nx acc G2)
    {acc : List D} {G : GH} (h0 : I 0 acc G) : lcL Φ g t e δ0 (rngD lo n) acc G Q :=
  lcL_ix I hΦ (fun a G h => hend a G (by simpa [rngD] using h)) (fun i d acc G nx e h k => by
    unfold rngD at e
    rw [List.getElem?_map] at e
    obtain ⟨x, hx, rfl⟩ := Option.map_eq_some_iff.mp e
    have hi : i < n := by have := (List.getElem?_eq_some_iff.mp hx).1; simpa using this
    rw [List.getElem?_range hi] at hx; cases hx
    exact step i acc G nx hi h k) h0
/-- a comprehension whose element is told by a function, and that changes nothing -/
theorem lcL_fun {α : Type} {Φ : GH → Prop} {g : MG} {e : ME} {δ0 : Sl} {Q : List D → GH → Prop} {G : GH} (φ f : α → D) : ∀ {xs : List α} {acc : List D}, Φ G → acc.length + xs.length ≤ sizeLine →
    (∀ x ∈ xs, ∀ K : D → GH → Prop, K (f x) G → g (φ x) δ0 G fun δ1 G1 => e δ1 G1 K) → Q (acc ++ xs.map f) G → lcL Φ g tYesD e δ0 (xs.map φ) acc G Q
  | [], acc, hΦ, _, _, q => ⟨hΦ, by simpa using q⟩
  | x :: xs, acc, hΦ, hl, h, q => by
    refine ⟨hΦ, ?_⟩
    have := h x (by simp) (fun y G3 => acc.length < sizeLine ∧ lcL Φ g tYesD e δ0 (xs.map φ) (acc ++ [y]) G3 Q) ⟨by simp at hl; omega, ?_⟩
    · simp only [tYesD, if_true]
      exact this
    · exact lcL_fun φ f (xs := xs) hΦ (by simp at hl ⊢; omega) (fun x hx => h x (by simp [hx])) (by simpa using q)
end DL
namespace DL
open PySem PySem.Spec PyProof.Rows L2

/-! what is shown is short -/
mutual
def iB : PyData → Bool
  | .int i => decide (i.natAbs < 10 ^ 60)
  | .list xs => iBs xs
  | .tuple xs => iBs xs
  | .dict _ => false
  | _ => true
def iBs : List PyData → Bool
  | [] => true
  | x :: xs => iB x && iBs xs
end
theorem log2_60 {n : Nat} (h : n < 10 ^ 60) : n.log2 < 1920 := by
  by_cases z : n = 0
  · subst z; decide
  · exact (Nat.log2_lt z).mpr (Nat.lt_trans h (by decide +kernel))
mutual
theorem iB_show : ∀ p : PyData, iB p = true → p.showable = true
  | .none, _ => by simp only [PyData.showable]
  | .bool _, _ => by simp only [PyData.showable]
  | .str _, _ => by simp only [PyData.showable]
  | .int i, h => by
    simp only [iB, decide_eq_true_eq] at h
    simp only [PyData.showable, decide_eq_true_eq]
    exact log2_60 h
  | .list xs, h => by
    simp only [iB] at h
    simp only [PyData.showable]
    exact iBs_show xs h
  | .tuple xs, h => by
    simp only [iB] at h
    simp only [PyData.showable]
    exact iBs_show xs h
  | .dict _, h => by simp [iB] at h
theorem iBs_show : ∀ ps : List PyData, iBs ps = true → PyData.showableAll ps = true
  | [], _ => by simp only [PyData.showableAll]
  | p :: ps, h => by
    simp only [iBs, Bool.and_eq_true] at h
    simp only [PyData.showableAll, iB_show p h.1, iBs_show ps h.2, Bool.and_self]
end
mutual
theorem iB_short : ∀ p : PyData, iB p = true → p.intsShort 64 = true
  | .none, _ => by simp only [PyData.intsShort]
  | .bool _, _ => by simp only [PyData.intsShort]
  | .str _, _ => by simp only [PyData.intsShort]
  | .int i, h => by
    simp only [iB, decide_eq_true_eq] at h
    simp only [PyData.intsShort, decide_eq_true_eq]
    show (Str.ofString (toString i)).length ≤ 64
    rw [PySem.ofString_length]
    exact Nat.le_trans (int_text_length_le10 (k := 60) (by decide) h) (by decide)
  | .list xs, h => by
    simp only [iB] at h
    simp only [PyData.intsShort]
    exact iBs_short xs h
  | .tuple xs, h => by
    simp only [iB] at h
    simp only [PyData.intsShort]
    exact iBs_short xs h
  | .dict _, h => by simp [iB] at h
theorem iBs_short : ∀ ps : List PyData, iBs ps = true → PyData.intsShortAll 64 ps = true
  | [], _ => by simp only [PyData.intsShortAll]
  | p :: ps, h => by
    simp only [iBs, Bool.and_eq_true] at h
    simp only [PyData.intsShortAll, iB_short p h.1, iBs_short ps h.2, Bool.and_self]
end
theorem shows {p : PyData} (hc : p.canLay0 = true) (hi : iB p = true) (hb : p.bulk ≤ 131072) : p.showable = true ∧ p.shown.length ≤ sizeLine := by
  refine ⟨iB_show p hi, ?_⟩
  have := PyData.shown_le_bulk 64 (by decide) p (PyData.leavesShort_of_canLay0 64 p hc (iB_short p hi))
  have e : sizeLine = 16777216 := by decide
  omega

/-! data of values -/
theorem pyL_map {α : Type} {f : D → Option PyData} {φ : α → D} {ψ : α → PyData} : ∀ {xs : List α}, (∀ x ∈ xs, f (φ x) = some (ψ x)) → pyL f (xs.map φ) = some (xs.map ψ)
  | [], _ => rfl
  | x :: xs, h => by
    simp only [List.map_cons, pyL, h x (by simp), pyL_map (xs := xs) fun y hy => h y (by simp [hy])]
theorem pyN_int {n : Nat} {G : GH} {i : Int} : pyN (n + 1) G (.int i) = some (.int i) := rfl
theorem pyN_bl {n : Nat} {G : GH} {i : Bool} : pyN (n + 1) G (.bl i) = some (.bool i) := rfl
theorem pyN_non {n : Nat} {G : GH} : pyN (n + 1) G .non = some .none := rfl
theorem pyN_ints {n : Nat} {G : GH} {xs : List Int} : pyN (n + 2) G (.tup (xs.map D.int)) = some (.tuple (xs.map PyData.int)) := by
  show (pyL (pyN (n + 1) G) (xs.map D.int)).map PyData.tuple = _
  rw [pyL_map (ψ := PyData.int) fun x _ => pyN_int]; rfl
theorem canLay0_map {α : Type} {ψ : α → PyData} : ∀ {xs : List α}, (∀ x ∈ xs, (ψ x).canLay0 = true) → PyData.canLayAll0 (xs.map ψ) = true
  | [], _ => by simp [PyData.canLayAll0]
  | x :: xs, h => by
    simp only [List.map_cons, PyData.canLayAll0, h x (by simp), canLay0_map (xs := xs) fun y hy => h y (by simp [hy]), Bool.and_self]
theorem iBs_map {α : Type} {ψ : α → PyData} : ∀ {xs : List α}, (∀ x ∈ xs, iB (ψ x) = true) → iBs (xs.map ψ) = true
  | [], _ => by simp [iBs]
  | x :: xs, h => by
    simp only [List.map_cons, iBs, h x (by simp), iBs_map (xs := xs) fun y hy => h y (by simp [hy]), Bool.and_self]
theorem bulk_map {α : Type} {ψ : α → PyData} {k : Nat} : ∀ {xs : List α}, (∀ x ∈ xs, (ψ x).bulk ≤ k) → PyData.bulkAll (xs.map ψ) ≤ (k + 1) * xs.length
  | [], _ => by simp [PyData.bulkAll]
  | x :: xs, h => by
    have h1 := h x (by simp)
    have h2 := bulk_map (k := k) (xs := xs) fun y hy => h y (by simp [hy])
    simp only [List.map_cons, PyData.bulkAll, List.length_cons, Nat.mul_add]
    omega

/-! kinds of values -/
def Kn (G : GH) (d : D) : Prop := match d with
  | .ref p => (rdL G p).isSome = true
  | .ty _ => False
  | .rng _ _ => False
  | _ => True
theorem Kn.isi {G : GH} {d : D} {k : Tk} (h : Kn G d) : ∃ b, DL.isi k G d = some b := by
  cases d with
  | ref p =>
    unfold Kn at h
    simp only at h
    unfold DL.isi
    simp only
    split
    · exact ⟨_, rfl⟩
    · rename_i e; rw [e] at h; cases h
  | ty n => exact h.elim
  | rng _ _ => exact h.elim
  | _ => exact ⟨_, rfl⟩
theorem rdL_le {G G' : GH} {p : Addr} {ds : List D} (l : LeG G G') (h : rdL G p = some ds) : rdL G' p = some ds := by
  have e := l _ _ (rdL_at h)
  unfold rdL
  rw [e]
theorem Kn.le {G G' : GH} {d : D} (l : LeG G G') (h : Kn G d) : Kn G' d := by
  cases d with
  | ref p =>
    unfold Kn at h ⊢
    simp only at h ⊢
    cases e : rdL G p with
    | none => rw [e] at h; cases h
    | some ds => rw [rdL_le l e]; rfl
  | ty n => exact h
  | _ => trivial
/-- of which built-in type, as isinstance sees it -/
def isT (k : Tk) : D → Bool
  | .bl _ => match k with | .int => true | .bool => true | _ => false
  | .int _ => match k with | .int => true | _ => false
  | .str _ => match k with | .str => true | _ => false
  | .tup _ => match k with | .tuple => true | _ => false
  | .lst _ => match k with | .list => true | _ => false
  | .ref _ => match k with | .list => true | _ => false
  | _ => false
theorem Kn.isT {G : GH} {d : D} {k : Tk} (h : Kn G d) : DL.isi k G d = some (DL.isT k d) := by
  cases d with
  | ref p =>
    unfold Kn at h
    simp only at h
    unfold DL.isi DL.isT
    simp only
    split
    · rfl
    · rename_i e; rw [e] at h; cases h
  | ty n => exact h.elim
  | rng _ _ => exact h.elim
  | _ => rfl
def isIntD : D → Bool | .int _ => true | _ => false
def fromD (low : Int) : D → Bool | .int i => decide (low ≤ i) | _ => false
def belowD (many : Int) : D → Bool | .int i => decide (0 ≤ i) && decide (i < many) | _ => false
def rowD (many : Int) : D → Bool | .tup es => es.all (belowD many) | _ => false
def KnA (G : GH) (d : D) : Prop := Kn G d ∧ match d with | .tup es => ∀ e ∈ es, Kn G e | _ => True
theorem Kn.tup_ints {G : GH} {xs : List Int} : KnA G (.tup (xs.map D.int)) := ⟨trivial, by
  intro e he
  obtain ⟨x, _, rfl⟩ := List.mem_map.mp he
  trivial⟩
theorem KnA.le {G G' : GH} {d : D} (l : LeG G G') (h : KnA G d) : KnA G' d := ⟨h.1.le l, by
  cases d with
  | tup es => exact fun e he => (h.2 e he).le l
  | _ => trivial⟩
end DL
namespace DL
open PySem PySem.Spec PyProof.Rows

/-! the readings, as rewriting -/
section
variable {G : GH} {Q : KD} {K : Bool → GH → Prop} {p q r : Addr} {i j : Int} {a b : Bool} {x y : Str} {d e : D} {ds es xs ys : List D} {δ : Sl} {c : Cm}
def varK (o : Option D) (G : GH) (Q : KD) : Prop := match o with | some d => Q d G | none => False
theorem mVar_eq {n : Nat} : mVar n δ G Q = varK (slot δ n) G Q := by unfold mVar varK; cases slot δ n <;> rfl
theorem varK_some : varK (some d) G Q = Q d G := rfl
theorem szl : sizeLine = 16777216 := rfl
theorem le_size {n : Nat} (h : n ≤ 1000) : (n ≤ sizeLine) = True := eq_true (Nat.le_trans h (by decide))
theorem lt_size {n : Nat} (h : n ≤ 1000) : (n < sizeLine) = True := eq_true (Nat.lt_of_le_of_lt h (by decide))
theorem blOf_bl : blOf K (.bl b) G = K b G := rfl
theorem gT_tup {n : Nat} {g : MGs} {k : Sl → GH → Prop} : gT n g (.tup ds) δ G k = (ds.length = n ∧ g ds δ G k) := rfl
theorem gsNil_nil {k : Sl → GH → Prop} : gsNil [] δ G k = k δ G := rfl
theorem gsCons_cons {g : MG} {g2 : MGs} {k : Sl → GH → Prop} : gsCons g g2 (d :: ds) δ G k = g d δ G fun δ1 G1 => g2 ds δ1 G1 k := rfl
def intK (Q : Option Int → GH → Prop) : KD := fun d G => match d with | .int i => Q (some i) G | _ => False
theorem oSome_eq {m : ME} {k : Option Int → GH → Prop} : oSome m δ G k = m δ G (intK k) := rfl
theorem intK_int {k : Option Int → GH → Prop} : intK k (.int i) G = k (some i) G := rfl
def rngK (R : List D → (GH → Prop) → GH → Prop) : KD := fun d G => match d with | .int n => (-(2 ^ 62) ≤ n ∧ n < 2 ^ 62) ∧ R (rngD 0 n.toNat) (fun _ => True) G | _ => False
theorem iRng_eq {m : ME} {R : List D → (GH → Prop) → GH → Prop} : iRng m δ G R = m δ G (rngK R) := rfl
theorem rngK_int {R : List D → (GH → Prop) → GH → Prop} : rngK R (.int i) G = ((-(2 ^ 62) ≤ i ∧ i < 2 ^ 62) ∧ R (rngD 0 i.toNat) (fun _ => True) G) := rfl
def rng2K (R : List D → (GH → Prop) → GH → Prop) (d d2 : D) (G2 : GH) : Prop := match d, d2 with | .int i, .int j => (-(2 ^ 62) ≤ i ∧ i < 2 ^ 62 ∧ -(2 ^ 62) ≤ j ∧ j < 2 ^ 62) ∧ R (rngD i (j - i).toNat) (fun _ => True) G2 | _, _ => False
theorem iRng2_eq {m m2 : ME} {R : List D → (GH → Prop) → GH → Prop} : iRng2 m m2 δ G R = m δ G fun d G1 => m2 δ G1 fun d2 G2 => rng2K R d d2 G2 := rfl
theorem rng2K_int {R : List D → (GH → Prop) → GH → Prop} : rng2K R (.int i) (.int j) G = ((-(2 ^ 62) ≤ i ∧ i < 2 ^ 62 ∧ -(2 ^ 62) ≤ j ∧ j < 2 ^ 62) ∧ R (rngD i (j - i).toNat) (fun _ => True) G) := rfl
def seqK (R : List D → (GH → Prop) → GH → Prop) (d : D) (G1 : GH) : Prop := match d with
  | .tup ds => ds.length ≤ sizeLine → R ds (fun _ => True) G1
  | .lst ds => ds.length ≤ sizeLine → R ds (fun _ => True) G1
  | .str z => R (chD z) (fun _ => True) G1
  | .ref p => match rdL G1 p with
    | some ds => ds.length ≤ sizeLine → R ds (fun G => rdL G p = some ds) G1
    | none => False
  | _ => False
theorem iSeq_eq {m : ME} {R : List D → (GH → Prop) → GH → Prop} : iSeq m δ G R = m δ G (seqK R) := rfl
theorem seqK_tup {R : List D → (GH → Prop) → GH → Prop} : seqK R (.tup ds) G = (ds.length ≤ sizeLine → R ds (fun _ => True) G) := rfl
theorem seqK_lstV {R : List D → (GH → Prop) → GH → Prop} : seqK R (.lst ds) G = (ds.length ≤ sizeLine → R ds (fun _ => True) G) := rfl
theorem seqK_str {R : List D → (GH → Prop) → GH → Prop} : seqK R (.str x) G = R (chD x) (fun _ => True) G := rfl
theorem seqK_lst {R : List D → (GH → Prop) → GH → Prop} (h : rdL G p = some ds) : seqK R (.ref p) G = (ds.length ≤ sizeLine → R ds (fun G => rdL G p = some ds) G) := by unfold seqK; simp only [h]
def zipK (R : List D → (GH → Prop) → GH → Prop) (d d2 : D) (G2 : GH) : Prop := match d, d2 with
  | .tup xs, .tup ys => xs.length ≤ sizeLine → R (zipD xs ys) (fun _ => True) G2
  | d, d2 => match lsD G2 d, lsD G2 d2 with
    | some xs, some ys => xs.length ≤ sizeLine → R (zipD xs ys) (fun G => lsD G d = some xs ∧ lsD G d2 = some ys) G2
    | _, _ => False
theorem iZip_eq {m m2 : ME} {R : List D → (GH → Prop) → GH → Prop} : iZip m m2 δ G R = m δ G fun d G1 => m2 δ G1 fun d2 G2 => zipK R d d2 G2 := rfl
theorem zipK_tup {R : List D → (GH → Prop) → GH → Prop} : zipK R (.tup xs) (.tup ys) G = (xs.length ≤ sizeLine → R (zipD xs ys) (fun _ => True) G) := rfl
theorem zipK_lst {R : List D → (GH → Prop) → GH → Prop} : zipK R (.lst xs) (.lst ys) G = (xs.length ≤ sizeLine → R (zipD xs ys) (fun G => lsD G (.lst xs) = some xs ∧ lsD G (.lst ys) = some ys) G) := rfl
def isiK (k : Tk) (Q : KD) (d : D) (G : GH) : Prop := match isi k G d with | some b => Q (.bl b) G | none => False
theorem mIsi_eq {k : Tk} {m : ME} : mIsi k m δ G Q = m δ G (isiK k Q) := rfl
theorem isiK_kn {k : Tk} (h : Kn G d) : isiK k Q d G = Q (.bl (isT k d)) G := by unfold isiK; rw [h.isT]
theorem isiK_ref {k : Tk} (h : rdL G p = some ds) : isiK k Q (.ref p) G = Q (.bl (isT k (.ref p))) G := isiK_kn (by unfold Kn; simp only [h]; rfl)
theorem isiK_lst {k : Tk} : isiK k Q (.lst ds) G = Q (.bl (isT k (.lst ds))) G := rfl
theorem isiK_int {k : Tk} : isiK k Q (.int i) G = Q (.bl (isT k (.int i))) G := rfl
theorem isiK_bl {k : Tk} : isiK k Q (.bl b) G = Q (.bl (isT k (.bl b))) G := rfl
theorem isiK_str {k : Tk} : isiK k Q (.str x) G = Q (.bl (isT k (.str x))) G := rfl
theorem isiK_tup {k : Tk} : isiK k Q (.tup ds) G = Q (.bl (isT k (.tup ds))) G := rfl
theorem isiK_non {k : Tk} : isiK k Q .non G = Q (.bl (isT k .non)) G := rfl
/-- of a list that is known -/
def ixK (o : Option (List D)) (i : Int) (G : GH) (Q : KD) : Prop := match o with | some ds => (match L2.atI ds i with | some d => Q d G | none => False) | none => False
theorem rIx_ref : rIx (.ref p) (.int i) G Q = ixK (rdL G p) i G Q := rfl
theorem rIx_lst : rIx (.lst ds) (.int i) G Q = ixK (some ds) i G Q := rfl
theorem rIx_str : rIx (.str x) (.int i) G Q = (x.length ≤ sizeLine ∧ match L2.atI x.cps.toList i with | some c => Q (.str ⟨#[c]⟩) G | none => False) := rfl
theorem rIx_tup : rIx (.tup ds) (.int i) G Q = ixK (some ds) i G Q := rfl
theorem ixK_some (h : L2.atI ds i = some d) : ixK (some ds) i G Q = Q d G := by unfold ixK; simp only [h]
theorem rdL_lst (h : G p = some (.lst ds)) : rdL G p = some ds := by unfold rdL; rw [h]
theorem rdL_asm (h : rdL G p = some ds) : rdL G p = some ds := h
theorem rdL_same : rdL (updG G p (.lst ds)) p = some ds := rdL_lst updG_same
theorem rdL_ne {o : DO} (h : p ≠ q) : rdL (updG G q o) p = rdL G p := by unfold rdL; rw [updG_ne h]
theorem rAdd_int : rAdd (.int i) (.int j) G Q = Q (.int (i + j)) G := rfl
theorem rAdd_str : rAdd (.str x) (.str y) G Q = (x.length + y.length ≤ sizeLine ∧ Q (.str (x ++ y)) G) := rfl
theorem rAdd_tup : rAdd (.tup xs) (.tup ys) G Q = (xs.length + ys.length ≤ sizeLine ∧ Q (.tup (xs ++ ys)) G) := rfl
theorem rAdd_lst : rAdd (.lst xs) (.lst ys) G Q = (xs.length + ys.length ≤ sizeLine ∧ Q (.lst (xs ++ ys)) G) := rfl
def addK (o o' : Option (List D)) (G : GH) (Q : KD) : Prop := match o, o' with
  | some xs, some ys => xs.length + ys.length ≤ sizeLine ∧ Q (.lst (xs ++ ys)) G
  | _, _ => False
theorem rAdd_refl : rAdd (.ref p) (.lst ys) G Q = addK (rdL G p) (some ys) G Q := rfl
theorem rAdd_refr : rAdd (.lst xs) (.ref q) G Q = addK (some xs) (rdL G q) G Q := rfl
theorem rAdd_ref : rAdd (.ref p) (.ref q) G Q = addK (rdL G p) (rdL G q) G Q := rfl
theorem addK_some : addK (some xs) (some ys) G Q = (xs.length + ys.length ≤ sizeLine ∧ Q (.lst (xs ++ ys)) G) := rfl
def addMK (o o' : Option (List D)) (G : GH) (Q : KD) : Prop := match o, o' with
  | some xs, some ys => xs.length + ys.length ≤ sizeLine ∧ ∀ r, G r = none → Q (.ref r) (updG G r (.lst (xs ++ ys)))
  | _, _ => False
theorem rAddM_eq : rAddM d e G Q = addMK (lsD G d) (lsD G e) G Q := rfl
theorem addMK_some : addMK (some xs) (some ys) G Q = (xs.length + ys.length ≤ sizeLine ∧ ∀ r, G r = none → Q (.ref r) (updG G r (.lst (xs ++ ys)))) := rfl
theorem lsD_lst : lsD G (.lst ds) = some ds := rfl
theorem lsD_ref' : lsD G (.ref p) = rdL G p := rfl
theorem sqD_lst : sqD G (.lst ds) = some ds := rfl
theorem sqD_tup : sqD G (.tup ds) = some ds := rfl
theorem sqD_ref : sqD G (.ref p) = rdL G p := rfl
theorem rSub_int : rSub (.int i) (.int j) G Q = Q (.int (i - j)) G := rfl
theorem rMul_int : rMul (.int i) (.int j) G Q = ((L2.CMul i j ∨ L2.CMulW i j) ∧ Q (.int (i * j)) G) := rfl
theorem rMul_tup : rMul (.tup xs) (.int i) G Q = ((1 ≤ i ∧ i ≤ 1000 ∧ xs.length ≤ 1000) ∧ Q (.tup (List.replicate i.toNat xs).flatten) G) := rfl
theorem rFdiv_int : rFdiv (.int i) (.int j) G Q = ((0 < j ∧ j < 2 ^ 62) ∧ Q (.int (i / j)) G) := rfl
theorem rMod_int : rMod (.int i) (.int j) G Q = (0 < j ∧ Q (.int (i % j)) G) := rfl
theorem rPow_int : rPow (.int i) (.int j) G Q = ((0 ≤ j ∧ j ≤ 100000 ∧ i.natAbs < 2 ^ 256) ∧ Q (.int (i ^ j.toNat)) G) := rfl
theorem rNeg_int : rNeg (.int i) G Q = Q (.int (-i)) G := rfl
theorem rEq_int : rEq (.int i) (.int j) G Q = Q (.bl (decide (i = j))) G := rfl
theorem rEq_str : rEq (.str x) (.str y) G Q = Q (.bl (decide (x = y))) G := rfl
theorem rEq_bl : rEq (.bl a) (.bl b) G Q = Q (.bl (decide (a = b))) G := rfl
def notK (Q : KD) : KD := fun d G' => match d with | .bl b => Q (.bl (!b)) G' | _ => False
theorem notK_bl : notK Q (.bl b) G = Q (.bl (!b)) G := rfl
theorem rNe_eq : rNe d e G Q = rEq d e G (notK Q) := rfl
theorem rNotIn_eq : rNotIn d e G Q = rIn d e G (notK Q) := rfl
theorem rIs_bl : rIs (.bl a) (.bl b) G Q = Q (.bl (decide (a = b))) G := rfl
theorem rIs_non : rIs d .non G Q = Q (.bl (isNon d)) G := by cases d <;> rfl
theorem rIsNot_non : rIsNot d .non G Q = Q (.bl (!isNon d)) G := by cases d <;> rfl
theorem rOrd_int : rOrd c (.int i) (.int j) G Q = Q (.bl (c.i i j)) G := rfl
theorem rOrd_str : rOrd c (.str x) (.str y) G Q = Q (.bl (c.s x y)) G := rfl
theorem ci_lt : Cm.i .lt i j = decide (i < j) := rfl
theorem ci_le : Cm.i .le i j = decide (i ≤ j) := rfl
theorem ci_gt : Cm.i .gt i j = decide (j < i) := rfl
theorem ci_ge : Cm.i .ge i j = decide (j ≤ i) := rfl
theorem rIn_rng {lo hi : Int} : rIn (.int i) (.rng lo hi) G Q = Q (.bl (decide (lo ≤ i ∧ i < hi))) G := rfl
theorem rSl_tup {lo hi : Option Int} : rSl (.tup ds) lo hi G Q = Q (.tup (cutD ds lo hi)) G := rfl
theorem rSl_str {lo hi : Option Int} : rSl (.str x) lo hi G Q = (x.length ≤ sizeLine ∧ Q (.str (L2.cutS x lo hi)) G) := rfl
def slK (o : Option (List D)) (lo hi : Option Int) (G : GH) (Q : KD) : Prop := match o with | some ds => Q (.lst (cutD ds lo hi)) G | none => False
theorem rSl_ref {lo hi : Option Int} : rSl (.ref p) lo hi G Q = slK (rdL G p) lo hi G Q := rfl
theorem rSl_lst {lo hi : Option Int} : rSl (.lst ds) lo hi G Q = Q (.lst (cutD ds lo hi)) G := rfl
theorem slK_some {lo hi : Option Int} : slK (some ds) lo hi G Q = Q (.lst (cutD ds lo hi)) G := rfl
def slMK (o : Option (List D)) (lo hi : Option Int) (G : GH) (Q : KD) : Prop := match o with | some ds => ∀ r, G r = none → Q (.ref r) (updG G r (.lst (cutD ds lo hi))) | none => False
theorem rSlM_eq {lo hi : Option Int} : rSlM d lo hi G Q = slMK (lsD G d) lo hi G Q := rfl
theorem slMK_some {lo hi : Option Int} : slMK (some ds) lo hi G Q = ∀ r, G r = none → Q (.ref r) (updG G r (.lst (cutD ds lo hi))) := rfl
theorem tru_bl : tru (.bl b) G K = K b G := rfl
theorem tru_non : tru .non G K = K false G := rfl
theorem tru_int : tru (.int i) G K = K (decide (i ≠ 0)) G := rfl
theorem tru_str : tru (.str x) G K = (x.length ≤ sizeLine ∧ K (decide (x.length ≠ 0)) G) := rfl
theorem tru_tup : tru (.tup ds) G K = K (!ds.isEmpty) G := rfl
theorem tru_lst : tru (.lst ds) G K = K (!ds.isEmpty) G := rfl
def truK (o : Option (List D)) (G : GH) (K : Bool → GH → Prop) : Prop := match o with | some ds => K (!ds.isEmpty) G | none => False
theorem tru_ref : tru (.ref p) G K = truK (rdL G p) G K := rfl
theorem truK_some : truK (some ds) G K = K (!ds.isEmpty) G := rfl
theorem rIadd_int : rIadd (.int i) (.int j) G Q = Q (.int (i + j)) G := rfl
def lenK (o : Option (List D)) (G : GH) (Q : KD) : Prop := match o with | some ds => Q (.int (ds.length : Nat)) G | none => False
theorem rLen_tup : rLen [.tup ds] G Q = Q (.int (ds.length : Nat)) G := rfl
theorem rLen_str : rLen [.str x] G Q = (x.length ≤ sizeLine ∧ Q (.int (x.length : Nat)) G) := rfl
theorem rLen_ref : rLen [.ref p] G Q = lenK (rdL G p) G Q := rfl
theorem rLen_lst : rLen [.lst ds] G Q = Q (.int (ds.length : Nat)) G := rfl
theorem lenK_some : lenK (some ds) G Q = Q (.int (ds.length : Nat)) G := rfl
theorem rAbs_int : rAbs [.int i] G Q = Q (.int (i.natAbs : Nat)) G := by
  show Q (.int (if i < 0 then -i else i)) G = _
  congr 2; split <;> omega
theorem rInt_int : rInt [.int i] G Q = Q (.int i) G := rfl
theorem rInt_bl : rInt [.bl b] G Q = Q (.int (if b then 1 else 0)) G := rfl
theorem rMax_two : rMax [.int i, .int j] G Q = Q (.int (max i j)) G := by
  show Q (.int (if j > i then j else i)) G = _
  congr 2; split <;> omega
theorem rMin_two : rMin [.int i, .int j] G Q = Q (.int (min i j)) G := by
  show Q (.int (if j < i then j else i)) G = _
  congr 2; split <;> omega
theorem blsD_map' : ∀ (bs : List Bool), blsD (bs.map D.bl) = some bs
  | [] => rfl
  | b :: bs => by
    show (blsD (bs.map D.bl)).map (b :: ·) = _
    rw [blsD_map' bs]; rfl
def allK (o : Option (List Bool)) (G : GH) (Q : KD) : Prop := match o with | some bs => Q (.bl (bs.all fun b => b)) G | none => False
theorem rAll_eq : rAll [d] G Q = allK ((lsD G d).bind blsD) G Q := rfl
def anyK (o : Option (List Bool)) (G : GH) (Q : KD) : Prop := match o with | some bs => Q (.bl (bs.any fun b => b)) G | none => False
theorem rAny_eq : rAny [d] G Q = anyK ((lsD G d).bind blsD) G Q := rfl
theorem allK_map {α : Type} {f : α → Bool} {xs : List α} : allK (blsD (xs.map fun x => D.bl (f x))) G Q = Q (.bl (xs.all f)) G := by
  rw [show (xs.map fun x => D.bl (f x)) = (xs.map f).map D.bl by simp, blsD_map']
  show Q (.bl ((xs.map f).all fun b => b)) G = _
  rw [List.all_map]; rfl
theorem anyK_map {α : Type} {f : α → Bool} {xs : List α} : anyK (blsD (xs.map fun x => D.bl (f x))) G Q = Q (.bl (xs.any f)) G := by
  rw [show (xs.map fun x => D.bl (f x)) = (xs.map f).map D.bl by simp, blsD_map']
  show Q (.bl ((xs.map f).any fun b => b)) G = _
  rw [List.any_map]; rfl
theorem allK_bls {bs : List Bool} : allK (blsD (bs.map D.bl)) G Q = Q (.bl (bs.all fun b => b)) G := by rw [blsD_map']; rfl
theorem anyK_bls {bs : List Bool} : anyK (blsD (bs.map D.bl)) G Q = Q (.bl (bs.any fun b => b)) G := by rw [blsD_map']; rfl
theorem intsD_map' : ∀ (bs : List Int), intsD (bs.map D.int) = some bs
  | [] => rfl
  | b :: bs => by
    show (intsD (bs.map D.int)).map (b :: ·) = _
    rw [intsD_map' bs]; rfl
def sumK (o : Option (List Int)) (G : GH) (Q : KD) : Prop := match o with | some bs => Q (.int bs.sum) G | none => False
theorem rSum_eq : rSum [d] G Q = sumK ((lsD G d).bind intsD) G Q := rfl
theorem sumK_ints {bs : List Int} : sumK (intsD (bs.map D.int)) G Q = Q (.int bs.sum) G := by rw [intsD_map']; rfl
def maxK (o : Option (List Int)) (G : GH) (Q : KD) : Prop := match o with | some ns => 0 < ns.length ∧ ∀ m, m ∈ ns → (∀ y, y ∈ ns → y ≤ m) → Q (.int m) G | none => False
def minK (o : Option (List Int)) (G : GH) (Q : KD) : Prop := match o with | some ns => 0 < ns.length ∧ ∀ m, m ∈ ns → (∀ y, y ∈ ns → m ≤ y) → Q (.int m) G | none => False
theorem rMax_eq : rMax [.lst ds] G Q = maxK (intsD ds) G Q := rfl
theorem rMin_eq : rMin [.lst ds] G Q = minK (intsD ds) G Q := rfl
theorem maxK_ints {bs : List Int} : maxK (intsD (bs.map D.int)) G Q = (0 < bs.length ∧ ∀ m, m ∈ bs → (∀ y, y ∈ bs → y ≤ m) → Q (.int m) G) := by rw [intsD_map']; rfl
theorem minK_ints {bs : List Int} : minK (intsD (bs.map D.int)) G Q = (0 < bs.length ∧ ∀ m, m ∈ bs → (∀ y, y ∈ bs → m ≤ y) → Q (.int m) G) := by rw [intsD_map']; rfl
def tupK (o : Option (List D)) (G : GH) (Q : KD) : Prop := match o with | some ds => Q (.tup ds) G | none => False
theorem rTupleOf_tup : rTupleOf [.tup ds] G Q = Q (.tup ds) G := rfl
theorem rTupleOf_ref : rTupleOf [.ref p] G Q = tupK (rdL G p) G Q := rfl
theorem rTupleOf_lst : rTupleOf [.lst ds] G Q = Q (.tup ds) G := rfl
theorem tupK_some : tupK (some ds) G Q = Q (.tup ds) G := rfl
def lstK (o : Option (List D)) (G : GH) (Q : KD) : Prop := match o with | some xs => Q (.lst xs) G | none => False
theorem rListOf_eq : rListOf [d] G Q = lstK (sqD G d) G Q := rfl
theorem lstK_some : lstK (some ds) G Q = Q (.lst ds) G := rfl
def lstMK (o : Option (List D)) (G : GH) (Q : KD) : Prop := match o with | some xs => ∀ p, G p = none → Q (.ref p) (updG G p (.lst xs)) | none => False
theorem rListOfM_eq : rListOfM [d] G Q = lstMK (sqD G d) G Q := rfl
theorem lstMK_some : lstMK (some ds) G Q = ∀ p, G p = none → Q (.ref p) (updG G p (.lst ds)) := rfl
theorem rRange_one : rRange [.int i] G Q = Q (.rng 0 i) G := rfl
theorem rRange_two : rRange [.int i, .int j] G Q = Q (.rng i j) G := rfl
theorem rAppend_lst (h : G p = some (.lst xs)) : rAppendD (.ref p) [d] G Q = (xs.length < sizeLine ∧ Q .non (updG G p (.lst (xs ++ [d])))) := by unfold rAppendD; simp only [h]
theorem rSet_lst {k : GH → Prop} {n : Nat} (h : G p = some (.lst xs)) (hj : L2.ixN xs.length i = some n) : rSetD (.ref p) (.int i) d G k = k (updG G p (.lst (xs.set n d))) := by unfold rSetD; simp only [h, hj]
/-- data of both sides -/
theorem rEq_py {p q : PyData} (h1 : pyN 60 G d = some p) (h2 : pyN 60 G e = some q) : rEq d e G Q = Q (.bl (PyData.eqv p q)) G := by
  unfold rEq
  split
  · cases h1; cases h2; congr 2
  · simp only [pyN] at h1 h2
    split at h1
    · split at h2
      · cases h1; cases h2; congr 2
      · cases h2
    · cases h1
  · cases h1; cases h2; congr 2
  · simp only [h1, h2]
theorem rOrd_ord (h : ordD c G 8 d e = some b) : rOrd c d e G Q = Q (.bl b) G := by
  unfold rOrd
  split
  · simp only [ordD] at h; cases h; rfl
  · simp only [ordD] at h; cases h; rfl
  · simp only [h]
theorem rRepr_eq {P : PyData} (hr : rl d = true) (h : pyN 60 G d = some P) : rRepr [d] G Q = (P.showable = true ∧ P.shown.length ≤ sizeLine ∧ Q (.str P.shown) G) := by unfold rRepr; simp only [hr, h, true_and]
theorem mChain_eq {r r' : D → D → GH → KD → Prop} {ma mb mc : ME} : mChain r r' ma mb mc δ G Q = ma δ G fun x G1 => mb δ G1 fun y G2 => r x y G2 (blOf fun k G3 => if k = true then mc δ G3 fun w G4 => r' y w G4 Q else Q (.bl false) G3) := rfl
theorem wkn_rt {N : Nd} : (WkN N).rt = WkQ N.rt := rfl
theorem wkn_nx {N : Nd} : (WkN N).nx = Wk N.nx := rfl
theorem wkn_bk {N : Nd} : (WkN N).bk = Wk N.bk := rfl
theorem wkn_ct {N : Nd} : (WkN N).ct = Wk N.ct := rfl
end
theorem emod_ok {i m : Int} (h0 : 0 < m) (h : m ≤ 115792089237316195423570985008687907853269984665640564039457584007913129639936) : (i % m).natAbs < 115792089237316195423570985008687907853269984665640564039457584007913129639936 := by
  have h1 := Int.emod_nonneg i (show m ≠ 0 by omega)
  have h2 := Int.emod_lt_of_pos i h0
  generalize i % m = z at h1 h2
  omega
def tryK (o : Option Bool) (p q : Prop) : Prop := match o with | some true => p | some false => q | none => False
theorem sTry_eq {b : WD → MS} {K : PySem.W.Frag} {c : Value} {su : MS} {W : WD} {N : Nd} {δ : Sl} {G : GH} : sTry b K c su W N δ G = b (fun cls fld δ' G' => tryK (PySem.W.exmOne K cls c) (su N δ' G') (W cls fld δ' G')) N δ G := rfl
theorem tryK_t {p q : Prop} : tryK (some true) p q = p := rfl
theorem tryK_f {p q : Prop} : tryK (some false) p q = q := rfl
/-! lists that may be changed -/
section
variable {G : GH} {Q : KD} {p q : Addr} {i : Int} {d a b c : D} {ds xs ys : List D} {k : GH → Prop}
theorem ixN0 {n : Nat} : L2.ixN (n + 1) 0 = some 0 := by unfold L2.ixN; rw [if_pos (by decide), if_pos (by omega)]; rfl
theorem ixN1 {n : Nat} : L2.ixN (n + 2) 1 = some 1 := by unfold L2.ixN; rw [if_pos (by decide), if_pos (by omega)]; rfl
theorem ixN2 {n : Nat} : L2.ixN (n + 3) 2 = some 2 := by unfold L2.ixN; rw [if_pos (by decide), if_pos (by omega)]; rfl
def setK (o : Option (List D)) (p : Addr) (i : Int) (d : D) (G : GH) (k : GH → Prop) : Prop := match o with
  | some xs => (match L2.ixN xs.length i with | some j => k (updG G p (.lst (xs.set j d))) | none => False)
  | none => False
theorem rSet_ref : rSetD (.ref p) (.int i) d G k = setK (rdL G p) p i d G k := by
  unfold rSetD setK rdL
  simp only
  cases e : G p with
  | none => rfl
  | some o => cases o <;> rfl
theorem set0 : setK (some (a :: xs)) p 0 d G k = k (updG G p (.lst (d :: xs))) := by unfold setK; simp only [List.length_cons, ixN0]; rfl
theorem set1 : setK (some (a :: b :: xs)) p 1 d G k = k (updG G p (.lst (a :: d :: xs))) := by unfold setK; simp only [List.length_cons, ixN1]; rfl
theorem set2 : setK (some (a :: b :: c :: xs)) p 2 d G k = k (updG G p (.lst (a :: b :: d :: xs))) := by unfold setK; simp only [List.length_cons, ixN2]; rfl
def appK (o : Option (List D)) (p : Addr) (d : D) (G : GH) (Q : KD) : Prop := match o with
  | some xs => xs.length < sizeLine ∧ Q .non (updG G p (.lst (xs ++ [d])))
  | none => False
theorem rAppend_ref : rAppendD (.ref p) [d] G Q = appK (rdL G p) p d G Q := by
  unfold rAppendD appK rdL
  simp only
  cases e : G p with
  | none => rfl
  | some o => cases o <;> rfl
theorem appK_some : appK (some xs) p d G Q = (xs.length < sizeLine ∧ Q .non (updG G p (.lst (xs ++ [d])))) := rfl
def extK (o o' : Option (List D)) (p : Addr) (G : GH) (Q : KD) : Prop := match o, o' with
  | some xs, some ys => xs.length + ys.length ≤ sizeLine ∧ Q .non (updG G p (.lst (xs ++ ys)))
  | _, _ => False
theorem rExtend_ref : rExtendD (.ref p) [d] G Q = extK (rdL G p) (lsD G d) p G Q := rfl
theorem extK_some : extK (some xs) (some ys) p G Q = (xs.length + ys.length ≤ sizeLine ∧ Q .non (updG G p (.lst (xs ++ ys)))) := rfl
def popK (o : Option (List D)) (p : Addr) (G : GH) (Q : KD) : Prop := match o with
  | some xs => (match xs[xs.length - 1]? with | some d => Q d (updG G p (.lst xs.dropLast)) | none => False)
  | none => False
theorem rPop_ref : rPopD (.ref p) [] G Q = popK (rdL G p) p G Q := by
  unfold rPopD popK rdL
  simp only
  cases e : G p with
  | none => rfl
  | some o => cases o <;> rfl
def repK (o : Option (List D)) (i : Int) (G : GH) (Q : KD) : Prop := match o with
  | some xs => (-(2 ^ 63) ≤ i ∧ i < 2 ^ 63) ∧ xs.length * i.toNat ≤ sizeLine ∧ Q (.lst (List.replicate i.toNat xs).flatten) G
  | none => False
theorem rMul_ref : rMul (.ref p) (.int i) G Q = repK (rdL G p) i G Q := rfl
theorem repK_some : repK (some xs) i G Q = ((-(2 ^ 63) ≤ i ∧ i < 2 ^ 63) ∧ xs.length * i.toNat ≤ sizeLine ∧ Q (.lst (List.replicate i.toNat xs).flatten) G) := rfl
def repMK (o : Option (List D)) (i : Int) (G : GH) (Q : KD) : Prop := match o with
  | some xs => (-(2 ^ 63) ≤ i ∧ i < 2 ^ 63) ∧ xs.length * i.toNat ≤ sizeLine ∧ ∀ r, G r = none → Q (.ref r) (updG G r (.lst (List.replicate i.toNat xs).flatten))
  | none => False
theorem rMulM_ref : rMulM (.ref p) (.int i) G Q = repMK (rdL G p) i G Q := rfl
theorem repMK_some : repMK (some xs) i G Q = ((-(2 ^ 63) ≤ i ∧ i < 2 ^ 63) ∧ xs.length * i.toNat ≤ sizeLine ∧ ∀ r, G r = none → Q (.ref r) (updG G r (.lst (List.replicate i.toNat xs).flatten))) := rfl
/-! what is only read from here on -/
theorem frzK_ref (h : rdL G p = some ds) : frzK Q (.ref p) G = Q (.lst ds) (eraseG G p) := by unfold frzK; simp only [rdL_at h]
theorem frzK_new (h : G p = none) : frzK Q (.ref p) (updG G p (.lst ds)) = Q (.lst ds) G := by rw [frzK_ref rdL_same, eraseG_upd h]
theorem frzK_lst : frzK Q (.lst ds) G = Q (.lst ds) G := rfl
theorem frzK_tup : frzK Q (.tup ds) G = Q (.tup ds) G := rfl
theorem frzK_int : frzK Q (.int i) G = Q (.int i) G := rfl
theorem frzK_non : frzK Q .non G = Q .non G := rfl
theorem frzK_bl {b : Bool} : frzK Q (.bl b) G = Q (.bl b) G := rfl
theorem frzK_str {x : Str} : frzK Q (.str x) G = Q (.str x) G := rfl
end
/-! isinstance of what is known -/
theorem isT_int_bl {b : Bool} : isT .int (.bl b) = true := rfl
theorem isT_int_int {i : Int} : isT .int (.int i) = true := rfl
theorem isT_int_str {x : Str} : isT .int (.str x) = false := rfl
theorem isT_int_tup {ds : List D} : isT .int (.tup ds) = false := rfl
theorem isT_int_ref {p : Addr} : isT .int (.ref p) = false := rfl
theorem isT_int_non : isT .int .non = false := rfl
theorem isT_bool_bl {b : Bool} : isT .bool (.bl b) = true := rfl
theorem isT_bool_int {i : Int} : isT .bool (.int i) = false := rfl
theorem isT_bool_str {x : Str} : isT .bool (.str x) = false := rfl
theorem isT_bool_tup {ds : List D} : isT .bool (.tup ds) = false := rfl
theorem isT_bool_ref {p : Addr} : isT .bool (.ref p) = false := rfl
theorem isT_bool_non : isT .bool .non = false := rfl
theorem isT_str_bl {b : Bool} : isT .str (.bl b) = false := rfl
theorem isT_str_int {i : Int} : isT .str (.int i) = false := rfl
theorem isT_str_str {x : Str} : isT .str (.str x) = true := rfl
theorem isT_str_tup {ds : List D} : isT .str (.tup ds) = false := rfl
theorem isT_str_ref {p : Addr} : isT .str (.ref p) = false := rfl
theorem isT_str_non : isT .str .non = false := rfl
theorem isT_tuple_bl {b : Bool} : isT .tuple (.bl b) = false := rfl
theorem isT_tuple_int {i : Int} : isT .tuple (.int i) = false := rfl
theorem isT_tuple_str {x : Str} : isT .tuple (.str x) = false := rfl
theorem isT_tuple_tup {ds : List D} : isT .tuple (.tup ds) = true := rfl
theorem isT_tuple_ref {p : Addr} : isT .tuple (.ref p) = false := rfl
theorem isT_tuple_non : isT .tuple .non = false := rfl
theorem isT_list_bl {b : Bool} : isT .list (.bl b) = false := rfl
theorem isT_list_int {i : Int} : isT .list (.int i) = false := rfl
theorem isT_list_str {x : Str} : isT .list (.str x) = false := rfl
theorem isT_list_tup {ds : List D} : isT .list (.tup ds) = false := rfl
theorem isT_list_ref {p : Addr} : isT .list (.ref p) = true := rfl
theorem isT_int_lst {ds : List D} : isT .int (.lst ds) = false := rfl
theorem isT_bool_lst {ds : List D} : isT .bool (.lst ds) = false := rfl
theorem isT_str_lst {ds : List D} : isT .str (.lst ds) = false := rfl
theorem isT_tuple_lst {ds : List D} : isT .tuple (.lst ds) = false := rfl
theorem isT_list_lst {ds : List D} : isT .list (.lst ds) = true := rfl
theorem isT_list_non : isT .list .non = false := rfl
/-! places in a list -/
section
variable {α : Type} {a b c d e f : α} {xs : List α}
theorem at0 : L2.atI (a :: xs) 0 = some a := by
  unfold L2.atI L2.ixN
  rw [if_pos (by decide), if_pos (by simp)]; rfl
theorem at1 : L2.atI (a :: b :: xs) 1 = some b := by
  unfold L2.atI L2.ixN
  rw [if_pos (by decide), if_pos (by simp; omega)]; rfl
theorem at2 : L2.atI (a :: b :: c :: xs) 2 = some c := by
  unfold L2.atI L2.ixN
  rw [if_pos (by decide), if_pos (by simp; omega)]; rfl
theorem at3 : L2.atI (a :: b :: c :: d :: xs) 3 = some d := by
  unfold L2.atI L2.ixN
  rw [if_pos (by decide), if_pos (by simp; omega)]; rfl
theorem at4 : L2.atI (a :: b :: c :: d :: e :: xs) 4 = some e := by
  unfold L2.atI L2.ixN
  rw [if_pos (by decide), if_pos (by simp; omega)]; rfl
theorem at5 : L2.atI (a :: b :: c :: d :: e :: f :: xs) 5 = some f := by
  unfold L2.atI L2.ixN
  rw [if_pos (by decide), if_pos (by simp; omega)]; rfl
theorem at_first {α β : Type} {f : α → β} {xs : List α} {x : α} (h : xs[0]? = some x) : L2.atI (xs.map f) 0 = some (f x) := by
  cases xs with
  | nil => simp at h
  | cons a xs => simp at h; subst h; exact at0
theorem atNat {i : Nat} {x : α} (h : xs[i]? = some x) : L2.atI xs (i : Int) = some x := by
  have hi := (List.getElem?_eq_some_iff.mp h).1
  unfold L2.atI
  have e : L2.ixN xs.length (i : Int) = some i := by
    unfold L2.ixN
    rw [if_pos (by omega), if_pos (by omega)]; simp
  rw [e]; exact h
theorem atInt {i : Int} {x : α} (h0 : 0 ≤ i) (h : xs[i.toNat]? = some x) : L2.atI xs i = some x := by
  have := atNat h
  rwa [Int.toNat_of_nonneg h0] at this
theorem atI_mem {i : Int} (h0 : 0 ≤ i) (h : i < xs.length) : ∃ x, L2.atI xs i = some x ∧ x ∈ xs := by
  have hi : i.toNat < xs.length := by omega
  exact ⟨xs[i.toNat], atInt h0 (by simp [hi]), by simp⟩
end
theorem ix0 {a : D} {xs : List D} {G : GH} {Q : KD} : ixK (some (a :: xs)) 0 G Q = Q a G := by rw [ixK_some at0]
theorem ix1 {a b : D} {xs : List D} {G : GH} {Q : KD} : ixK (some (a :: b :: xs)) 1 G Q = Q b G := by rw [ixK_some at1]
theorem ix2 {a b c : D} {xs : List D} {G : GH} {Q : KD} : ixK (some (a :: b :: c :: xs)) 2 G Q = Q c G := by rw [ixK_some at2]
theorem ix3 {a b c d : D} {xs : List D} {G : GH} {Q : KD} : ixK (some (a :: b :: c :: d :: xs)) 3 G Q = Q d G := by rw [ixK_some at3]
theorem ix4 {a b c d e : D} {xs : List D} {G : GH} {Q : KD} : ixK (some (a :: b :: c :: d :: e :: xs)) 4 G Q = Q e G := by rw [ixK_some at4]
theorem ix5 {a b c d e f : D} {xs : List D} {G : GH} {Q : KD} : ixK (some (a :: b :: c :: d :: e :: f :: xs)) 5 G Q = Q f G := by rw [ixK_some at5]
end DL
namespace DL
open PySem PySem.Spec PyProof.Rows

/-! from statement to statement -/
theorem seq_step {t u : MS} {N : Nd} {δ : Sl} {G : GH} (h : ∀ nx : Sl → GH → Prop, (∀ δ' G', u N δ' G' → nx δ' G') → t { N with nx := nx } δ G) : sSeq t u N δ G := h (u N) fun _ _ x => x
theorem seq_cut {t u : MS} {N : Nd} {δ : Sl} {G : GH} (P : Sl → GH → Prop) (h : ∀ nx : Sl → GH → Prop, (∀ δ' G', P δ' G' → nx δ' G') → t { N with nx := nx } δ G) (k : ∀ δ' G', P δ' G' → u N δ' G') : sSeq t u N δ G := h (u N) k
/-! equality of plain data -/
theorem eqv_int {i j : Int} : PyData.eqv (.int i) (.int j) = decide (i = j) := by
  simp only [PyData.eqv]
  by_cases h : i = j
  · simp [h]
  · simp [h]
theorem eqvAll_map {α : Type} {f : α → PyData} (hf : ∀ x y, PyData.eqv (f x) (f y) = true ↔ x = y) : ∀ {xs ys : List α}, PyData.eqvAll (xs.map f) (ys.map f) = true ↔ xs = ys
  | [], [] => by simp [PyData.eqvAll]
  | [], y :: ys => by simp [PyData.eqvAll]
  | x :: xs, [] => by simp [PyData.eqvAll]
  | x :: xs, y :: ys => by
    simp only [List.map_cons, PyData.eqvAll, Bool.and_eq_true, hf, eqvAll_map hf (xs := xs) (ys := ys), List.cons.injEq]
theorem eqv_ints {xs ys : List Int} : PyData.eqv (.tuple (xs.map PyData.int)) (.tuple (ys.map PyData.int)) = decide (xs = ys) := by
  simp only [PyData.eqv]
  rw [Bool.eq_iff_iff, eqvAll_map (fun x y => by rw [eqv_int]; simp)]
  simp
theorem eqv_intsL {xs ys : List Int} : PyData.eqv (.list (xs.map PyData.int)) (.list (ys.map PyData.int)) = decide (xs = ys) := by
  simp only [PyData.eqv]
  rw [Bool.eq_iff_iff, eqvAll_map (fun x y => by rw [eqv_int]; simp)]
  simp
theorem eqv_bool {a b : Bool} : PyData.eqv (.bool a) (.bool b) = decide (a = b) := by cases a <;> cases b <;> rfl
theorem eqv_str {a b : Str} : PyData.eqv (.str a) (.str b) = decide (a = b) := by
  simp only [PyData.eqv]
  by_cases h : a = b
  · simp [h]
  · simp [h]
/-! data that is short -/
def fit (p : PyData) (n : Nat) : Prop := iB p = true ∧ p.bulk ≤ n
def fitAll (ps : List PyData) (n : Nat) : Prop := iBs ps = true ∧ PyData.bulkAll ps ≤ n
theorem fit_int {i : Int} (h : i.natAbs < 10 ^ 60) : fit (.int i) 0 := ⟨by simp only [iB, decide_eq_true_eq]; exact h, by simp [PyData.bulk]⟩
theorem fit_bool {b : Bool} : fit (.bool b) 0 := ⟨by simp [iB], by simp [PyData.bulk]⟩
theorem fit_none : fit .none 0 := ⟨by simp [iB], by simp [PyData.bulk]⟩
theorem fit_str {x : Str} : fit (.str x) x.cps.size := ⟨by simp [iB], by simp [PyData.bulk]⟩
theorem fit_tuple {ps : List PyData} {n : Nat} (h : fitAll ps n) : fit (.tuple ps) n := ⟨by simp only [iB]; exact h.1, by simp only [PyData.bulk]; exact h.2⟩
theorem fit_list {ps : List PyData} {n : Nat} (h : fitAll ps n) : fit (.list ps) n := ⟨by simp only [iB]; exact h.1, by simp only [PyData.bulk]; exact h.2⟩
theorem fitAll_nil : fitAll [] 0 := ⟨by simp [iBs], by simp [PyData.bulkAll]⟩
theorem fitAll_cons {p : PyData} {ps : List PyData} {a b : Nat} (h : fit p a) (g : fitAll ps b) : fitAll (p :: ps) (a + 1 + b) := ⟨by simp only [iBs, h.1, g.1, Bool.and_self], by have := h.2; have := g.2; simp only [PyData.bulkAll]; omega⟩
theorem fitAll_map {α : Type} {f : α → PyData} {xs : List α} {k n : Nat} (h : ∀ x ∈ xs, fit (f x) k) (hn : (k + 1) * xs.length ≤ n) : fitAll (xs.map f) n :=
  ⟨iBs_map fun x hx => (h x hx).1, Nat.le_trans (bulk_map fun x hx => (h x hx).2) hn⟩
theorem fitAll_ints {xs : List Int} {n : Nat} (h : ∀ x ∈ xs, x.natAbs < 10 ^ 60) (hn : xs.length ≤ n) : fitAll (xs.map PyData.int) n := fitAll_map (k := 0) (fun x hx => fit_int (h x hx)) (by omega)
theorem fit_ints {xs : List Int} {n : Nat} (h : ∀ x ∈ xs, x.natAbs < 10 ^ 60) (hn : xs.length ≤ n) : fit (.tuple (xs.map PyData.int)) n := fit_tuple (fitAll_ints h hn)
theorem fit.le {p : PyData} {a b : Nat} (h : fit p a) (l : a ≤ b) : fit p b := ⟨h.1, Nat.le_trans h.2 l⟩
theorem bulk_ints : ∀ {xs : List Int}, PyData.bulkAll (xs.map PyData.int) = xs.length
  | [] => by simp [PyData.bulkAll]
  | x :: xs => by simp [PyData.bulkAll, PyData.bulk, bulk_ints (xs := xs)]; omega
theorem iB_ints {xs : List Int} (h : ∀ x ∈ xs, x.natAbs < 10 ^ 60) : iBs (xs.map PyData.int) = true := iBs_map fun x hx => (fit_int (h x hx)).1
theorem fit_of {p : PyData} {n : Nat} (h : iB p = true ∧ p.bulk ≤ n) : fit p n := h
theorem pyL_nil {f : D → Option PyData} : pyL f [] = some [] := rfl
theorem pyL_cons {f : D → Option PyData} {d : D} {ds : List D} {p : PyData} {ps : List PyData} (h : f d = some p) (g : pyL f ds = some ps) : pyL f (d :: ds) = some (p :: ps) := by simp only [pyL, h, g]
theorem pyN_tup {n : Nat} {G : GH} {ds : List D} {ps : List PyData} (h : pyL (pyN n G) ds = some ps) : pyN (n + 1) G (.tup ds) = some (.tuple ps) := by
  show (pyL (pyN n G) ds).map PyData.tuple = _
  rw [h]; rfl
theorem pyN_lst {n : Nat} {G : GH} {ds : List D} {ps : List PyData} (h : pyL (pyN n G) ds = some ps) : pyN (n + 1) G (.lst ds) = some (.list ps) := by
  show (pyL (pyN n G) ds).map PyData.list = _
  rw [h]; rfl
theorem pyN_ref {n : Nat} {G : GH} {p : Addr} {ds : List D} {ps : List PyData} (e : rdL G p = some ds) (h : pyL (pyN n G) ds = some ps) : pyN (n + 1) G (.ref p) = some (.list ps) := by
  simp only [pyN, e, h, Option.map_some]
theorem rRepr_py {G : GH} {Q : KD} {d : D} {p : PyData} {n : Nat} (hr : rl d = true) (h : pyN 60 G d = some p) (f : fit p n) (hn : n ≤ 131072) (q : Q (.str p.shown) G) : rRepr [d] G Q := by
  have s := shows (pyN_lay _ _ _ h).1 f.1 (Nat.le_trans f.2 hn)
  rw [rRepr_eq hr h]; exact ⟨s.1, s.2, q⟩
/-! order of rows of integers -/
def lexB (c : Cm) : List Int → List Int → Bool
  | [], ys => c.i 0 ys.length
  | x :: xs, [] => c.i (xs.length + 1) 0
  | x :: xs, y :: ys => if x = y then lexB c xs ys else c.i x y
theorem ordL_ints {c : Cm} {G : GH} {n : Nat} : ∀ {xs ys : List Int}, ordL c (eqN G) (ordD c G n) (xs.map D.int) (ys.map D.int) = some (lexB c xs ys)
  | [], ys => by simp [ordL, lexB]
  | x :: xs, [] => by simp [ordL, lexB]
  | x :: xs, y :: ys => by
    simp only [List.map_cons, ordL, ordL_ints (xs := xs) (ys := ys), lexB]
    have e : eqN G (.int x) (.int y) = some (PyData.eqv (.int x) (.int y)) := rfl
    rw [e, eqv_int]
    have e2 : ordD c G n (.int x) (.int y) = some (c.i x y) := by cases n <;> simp [ordD]
    simp only [e2]
    by_cases h : x = y <;> simp [h]
theorem ordD_ints {c : Cm} {G : GH} {n : Nat} {xs ys : List Int} : ordD c G (n + 1) (.tup (xs.map D.int)) (.tup (ys.map D.int)) = some (lexB c xs ys) := by
  simp only [ordD]; exact ordL_ints
theorem ordD_intsL {c : Cm} {G : GH} {n : Nat} {d e : D} {xs ys : List Int} (h1 : lsD G d = some (xs.map D.int)) (h2 : lsD G e = some (ys.map D.int)) : ordD c G (n + 1) d e = some (lexB c xs ys) := by
  have key : ∀ d e, lsD G d = some (xs.map D.int) → lsD G e = some (ys.map D.int) → ordD c G (n + 1) d e = (match lsD G d, lsD G e with | some xs, some ys => ordL c (eqN G) (ordD c G n) xs ys | _, _ => none) := by
    intro d e h1 h2
    cases d with
    | lst _ => rfl
    | ref _ => rfl
    | _ => cases h1
  rw [key d e h1 h2, h1, h2]
  exact ordL_ints
theorem lexB_same {c : Cm} : ∀ {xs : List Int}, lexB c xs xs = c.i 0 0
  | [] => rfl
  | x :: xs => by simp only [lexB, if_true]; exact lexB_same
/-- first by length, then by the row -/
def shortlexB (c : Cm) (xs ys : List Int) : Bool := if xs.length = ys.length then lexB c xs ys else c.i xs.length ys.length
theorem ordD_shortlex {c : Cm} {G : GH} {n : Nat} {xs ys : List Int} : ordD c G (n + 2) (.tup [.int (xs.length : Nat), .tup (xs.map D.int)]) (.tup [.int (ys.length : Nat), .tup (ys.map D.int)]) = some (shortlexB c xs ys) := by
  have e1 : eqN G (.int (xs.length : Nat)) (.int (ys.length : Nat)) = some (decide (xs.length = ys.length)) := by
    show some (PyData.eqv _ _) = _
    rw [eqv_int]; congr 1; rw [decide_eq_decide]; omega
  have e2 : eqN G (.tup (xs.map D.int)) (.tup (ys.map D.int)) = some (decide (xs = ys)) := by
    unfold eqN
    simp only [pyN_ints, eqv_ints]
  simp only [ordD, ordL, e1, e2, ordL_ints, shortlexB]
  by_cases h : xs = ys
  · subst h; simp [lexB_same]
  · by_cases h2 : xs.length = ys.length <;> simp [h, h2]
/-! parts -/
theorem cut_from {α : Type} {xs : List α} {n : Nat} : cutD xs (some (n : Int)) none = xs.drop n := by
  unfold cutD
  rw [HT.sIx_nat, HT.sIx_none]
  by_cases h : n ≤ xs.length
  · rw [Nat.min_eq_left h]; rw [List.take_of_length_le]; simp
  · rw [Nat.min_eq_right (by omega)]; simp; omega
theorem cut_to {α : Type} {xs : List α} {n : Nat} : cutD xs none (some (n : Int)) = xs.take n := by
  unfold cutD
  rw [HT.sIx_nat, HT.sIx_none]
  simp only [List.drop_zero, Nat.sub_zero]
  by_cases h : n ≤ xs.length
  · rw [Nat.min_eq_left h]
  · rw [Nat.min_eq_right (by omega), List.take_of_length_le (by omega), List.take_of_length_le (by omega)]
theorem cut_both {α : Type} {xs : List α} {m n : Nat} (hm : m ≤ xs.length) : cutD xs (some (m : Int)) (some (n : Int)) = (xs.drop m).take (n - m) := by
  unfold cutD
  rw [HT.sIx_nat, HT.sIx_nat, Nat.min_eq_left hm]
  by_cases h : n ≤ xs.length
  · rw [Nat.min_eq_left h]
  · rw [Nat.min_eq_right (by omega), List.take_of_length_le (by simp), List.take_of_length_le (by simp; omega)]
theorem cutD_map {α β : Type} {f : α → β} {xs : List α} {lo hi : Option Int} : cutD (xs.map f) lo hi = (cutD xs lo hi).map f := by
  unfold cutD; simp [List.map_take, List.map_drop]
/-- the length of the longest common front -/
def cpl : List Int → List Int → Nat
  | x :: xs, y :: ys => if x = y then cpl xs ys + 1 else 0
  | _, _ => 0
theorem cpl_le1 : ∀ {xs ys : List Int}, cpl xs ys ≤ xs.length
  | [], _ => by simp [cpl]
  | _ :: _, [] => by simp [cpl]
  | x :: xs, y :: ys => by
    have := cpl_le1 (xs := xs) (ys := ys)
    simp only [cpl]; split <;> simp; omega
theorem cpl_le2 : ∀ {xs ys : List Int}, cpl xs ys ≤ ys.length
  | [], _ => by simp [cpl]
  | _ :: _, [] => by simp [cpl]
  | x :: xs, y :: ys => by
    have := cpl_le2 (xs := xs) (ys := ys)
    simp only [cpl]; split <;> simp; omega
/-- at the place k both go on with x and y -/
theorem cpl_at : ∀ {xs ys : List Int} {k : Nat} {x y : Int}, k ≤ cpl xs ys → xs[k]? = some x → ys[k]? = some y → (x = y → k + 1 ≤ cpl xs ys) ∧ (x ≠ y → cpl xs ys = k)
  | [], _, k, x, y, _, h, _ => by simp at h
  | _ :: _, [], k, x, y, _, _, h => by simp at h
  | a :: xs, b :: ys, 0, x, y, _, h1, h2 => by
    simp at h1 h2; subst h1 h2
    simp only [cpl]
    exact ⟨fun e => by rw [if_pos e]; omega, fun e => by rw [if_neg e]⟩
  | a :: xs, b :: ys, k + 1, x, y, hk, h1, h2 => by
    simp only [cpl] at hk ⊢
    by_cases e : a = b
    · rw [if_pos e] at hk ⊢
      have := cpl_at (xs := xs) (ys := ys) (k := k) (by omega) (by simpa using h1) (by simpa using h2)
      exact ⟨fun z => by have := this.1 z; omega, fun z => by have := this.2 z; omega⟩
    · rw [if_neg e] at hk; omega
theorem cpl_end {xs ys : List Int} {k : Nat} (hk : k ≤ cpl xs ys) (h : xs.length ≤ k ∨ ys.length ≤ k) : cpl xs ys = k := by
  have h1 := cpl_le1 (xs := xs) (ys := ys)
  have h2 := cpl_le2 (xs := xs) (ys := ys)
  omega
theorem cpl_take : ∀ {xs ys : List Int}, xs.take (cpl xs ys) = ys.take (cpl xs ys)
  | [], _ => by simp [cpl]
  | _ :: _, [] => by simp [cpl]
  | x :: xs, y :: ys => by
    simp only [cpl]
    split
    · rename_i e; simp [e, cpl_take (xs := xs) (ys := ys)]
    · simp
theorem cpl_comm : ∀ {xs ys : List Int}, cpl xs ys = cpl ys xs
  | [], [] => rfl
  | [], _ :: _ => by simp [cpl]
  | _ :: _, [] => by simp [cpl]
  | x :: xs, y :: ys => by
    simp only [cpl, cpl_comm (xs := xs) (ys := ys)]
    by_cases e : x = y
    · simp [e]
    · rw [if_neg e, if_neg (fun z => e z.symm)]
theorem cpl_self : ∀ {xs : List Int}, cpl xs xs = xs.length
  | [] => rfl
  | x :: xs => by simp [cpl, cpl_self (xs := xs)]
/-- zip of rows of integers -/
theorem zipD_int {xs ys : List Int} {i : Nat} {d : D} (h : (zipD (xs.map D.int) (ys.map D.int))[i]? = some d) : ∃ x y, xs[i]? = some x ∧ ys[i]? = some y ∧ d = .tup [.int x, .int y] := by
  obtain ⟨a, b, h1, h2, rfl⟩ := zipD_get h
  rw [List.getElem?_map] at h1 h2
  obtain ⟨x, e1, rfl⟩ := Option.map_eq_some_iff.mp h1
  obtain ⟨y, e2, rfl⟩ := Option.map_eq_some_iff.mp h2
  exact ⟨x, y, e1, e2, rfl⟩
/-- a comprehension over a row, whose element is told by a function, and that changes nothing -/
theorem lcL_fun1 {Φ : GH → Prop} {g : MG} {e : ME} {δ0 : Sl} {Q : List D → GH → Prop} {G : GH} (f : D → D) {xs : List D} (hΦ : Φ G) (hl : xs.length ≤ sizeLine)
    (h : ∀ x ∈ xs, ∀ K : D → GH → Prop, K (f x) G → g x δ0 G fun δ1 G1 => e δ1 G1 K) (q : Q (xs.map f) G) : lcL Φ g tYesD e δ0 xs [] G Q := by
  have := lcL_fun (Φ := Φ) (g := g) (e := e) (δ0 := δ0) (Q := Q) (G := G) id f (xs := xs) (acc := []) hΦ (by simpa using hl) h (by simpa using q)
  simpa using this
theorem Kn.up {S : List Addr} {G G' : GH} {d : D} (h : Kn G d) (u : Up S G G') (n : ∀ a ∈ S, d ≠ .ref a) : Kn G' d := by
  cases d with
  | ref p =>
    have hp : p ∉ S := fun z => n p z rfl
    unfold Kn at h ⊢
    simp only at h ⊢
    obtain ⟨ds, e⟩ := Option.isSome_iff_exists.mp h
    rw [rdL_lst (u p _ hp (rdL_at e))]; rfl
  | ty n => exact h
  | _ => trivial
theorem LeG.mut {G G1 : GH} {p : Addr} {o : DO} (a : LeG G G1) (h : G p = .none) : LeG G (updG G1 p o) := fun x u e => by
  rw [updG_ne]; exact a x u e
  intro z; subst z; rw [h] at e; cases e
section
variable {S : List Addr} {G G' : GH} {a p q : Addr} {o u : DO} {ds : List D}
theorem rdL_new (k : rdL G q = some ds) (h : G p = none) : rdL (updG G p o) q = some ds := rdL_le (LeG.refl.new h) k
theorem rdL_up (k : rdL G q = some ds) (u : Up [a] G G') (n : q ≠ a) : rdL G' q = some ds := rdL_lst (u q _ (by simpa using n) (rdL_at k))
theorem at_new (k : G q = some u) (h : G p = none) : updG G p o q = some u := LeG.refl.new h q u k
theorem at_up (k : G q = some u) (w : Up [a] G G') (n : q ≠ a) : G' q = some u := w q u (by simpa using n) k
theorem at_le (k : G q = some u) (w : LeG G G') : G' q = some u := w q u k
end
/-- all texts of the length k over s signs, and all up to it -/
def layerT (s : Nat) : Nat → List (List Int)
  | 0 => [[]]
  | k + 1 => (layerT s k).flatMap fun t => (List.range s).map fun (g : Nat) => t ++ [(g : Int)]
def textsT (s : Nat) : Nat → List (List Int)
  | 0 => [[]]
  | k + 1 => textsT s k ++ layerT s (k + 1)
def tupI (t : List Int) : D := .tup (t.map .int)
theorem layer_le {s : Nat} : ∀ {n : Nat}, (layerT s n).length ≤ (textsT s n).length
  | 0 => by simp [layerT, textsT]
  | n + 1 => by simp [textsT]
theorem texts_mono {s m n : Nat} (h : m ≤ n) : (textsT s m).length ≤ (textsT s n).length := by
  induction n with
  | zero => rw [Nat.le_zero.mp h]; exact Nat.le_refl _
  | succ n ih =>
    by_cases e : m = n + 1
    · rw [e]; exact Nat.le_refl _
    · exact Nat.le_trans (ih (by omega)) (by simp [textsT])
theorem layer_len {s : Nat} : ∀ {n : Nat} {t : List Int}, t ∈ layerT s n → t.length = n
  | 0, t, h => by simp [layerT] at h; simp [h]
  | n + 1, t, h => by
    simp only [layerT, List.mem_flatMap, List.mem_map] at h
    obtain ⟨u, hu, g, _, rfl⟩ := h
    simp [layer_len hu]
/-- a comprehension whose element is told by a function, while new things may come -/
theorem lcL_grow {Φ : GH → Prop} {g : MG} {e : ME} {δ0 : Sl} {Q : List D → GH → Prop} (f : D → D) : ∀ {xs : List D} {acc : List D} {G : GH}, (∀ G', LeG G G' → Φ G') → acc.length + xs.length ≤ sizeLine →
    (∀ x ∈ xs, ∀ G', LeG G G' → ∀ K : D → GH → Prop, (∀ G'', LeG G' G'' → K (f x) G'') → g x δ0 G' fun δ1 G1 => e δ1 G1 K) → (∀ G', LeG G G' → Q (acc ++ xs.map f) G') → lcL Φ g tYesD e δ0 xs acc G Q
  | [], acc, G, hΦ, _, _, q => ⟨hΦ G LeG.refl, by simpa using q G LeG.refl⟩
  | x :: xs, acc, G, hΦ, hl, h, q => by
    refine ⟨hΦ G LeG.refl, ?_⟩
    simp only [tYesD, if_true]
    refine h x (by simp) G LeG.refl _ fun G2 l2 => ⟨by simp at hl; omega, ?_⟩
    exact lcL_grow f (xs := xs) (fun G' l => hΦ G' (l2.trans l)) (by simp at hl ⊢; omega) (fun x hx G' l => h x (by simp [hx]) G' (l2.trans l)) (fun G' l => by simpa using q G' (l2.trans l))
/-! common fronts -/
theorem cpl_take_left : ∀ {xs ys : List Int} {m : Nat}, cpl (xs.take m) ys = min m (cpl xs ys)
  | [], ys, m => by simp [cpl]
  | x :: xs, ys, 0 => by simp [cpl]
  | x :: xs, [], m + 1 => by simp [cpl]
  | x :: xs, y :: ys, m + 1 => by
    simp only [List.take_succ_cons, cpl, cpl_take_left (xs := xs) (ys := ys) (m := m)]
    split <;> omega
theorem cpl_ultra : ∀ {xs ys zs : List Int}, min (cpl xs ys) (cpl xs zs) ≤ cpl ys zs
  | [], _, _ => by simp [cpl]
  | _ :: _, [], _ => by simp [cpl]
  | _ :: _, _ :: _, [] => by simp [cpl]
  | x :: xs, y :: ys, z :: zs => by
    have := cpl_ultra (xs := xs) (ys := ys) (zs := zs)
    simp only [cpl]
    by_cases h1 : x = y
    · by_cases h2 : x = z
      · subst h1 h2; simp only [if_true]; omega
      · rw [if_neg h2]; omega
    · rw [if_neg h1]; omega
/-- what the counting of texts runs through -/
def sumT (s : Int) : Nat → Int × Int
  | 0 => (0, 1)
  | k + 1 => ((sumT s k).1 + (sumT s k).2, (sumT s k).2 * s)
def stepsB : List (List Int) → Bool
  | x :: y :: r => !shortlexB .ge x y && stepsB (y :: r)
  | _ => true
theorem stepsB_at : ∀ {ts : List (List Int)} {k : Nat} {x y : List Int}, stepsB ts = true → ts[k]? = some x → ts[k + 1]? = some y → shortlexB .ge x y = false
  | [], k, x, y, _, h, _ => by simp at h
  | [_], k, x, y, _, _, h => by simp at h
  | a :: b :: r, 0, x, y, h, h1, h2 => by
    simp at h1 h2; subst h1 h2
    simp only [stepsB, Bool.and_eq_true, Bool.not_eq_true'] at h
    exact h.1
  | a :: b :: r, k + 1, x, y, h, h1, h2 => by
    simp only [stepsB, Bool.and_eq_true] at h
    exact stepsB_at (ts := b :: r) h.2 (by simpa using h1) (by simpa using h2)
end DL
namespace DL
open PySem PySem.Spec PyProof.Rows L2

/-! [..] * n -/
def intQ (Q : Int → GH → Prop) : KD := fun d G => match d with | .int k => Q k G | _ => False
def mRepV (aa : MA) (mb : ME) : ME := fun δ G Q => aa δ G fun xs G1 => xs.length ≤ sizeLine ∧ mb δ G1 (intQ fun k G2 => (-(2 ^ 63) ≤ k ∧ k < 2 ^ 63) ∧ xs.length * k.toNat ≤ sizeLine ∧ Q (.lst (List.replicate k.toNat xs).flatten) G2)
def mRepM (aa : MA) (mb : ME) : ME := fun δ G Q => aa δ G fun xs G1 => xs.length ≤ sizeLine ∧ mb δ G1 (intQ fun k G2 => (-(2 ^ 63) ≤ k ∧ k < 2 ^ 63) ∧ xs.length * k.toNat ≤ sizeLine ∧ ∀ r, G2 r = none → Q (.ref r) (updG G2 r (.lst (List.replicate k.toNat xs).flatten)))
theorem intQ_int {Q : Int → GH → Prop} {k : Int} {G : GH} : intQ Q (.int k) G = Q k G := rfl
section
variable {X : Cx} {G0 : GH} {H0 : Hp} {b : Expr} {es : List Expr} {mb : ME} {aa : MA} {pos p2 : Pos}
theorem d_repG {Qd : KD} {Q : VK} {H : Hp} {σ : L2.St} {δ : Sl} {G : GH} {F : List D → KD} (R : Rl X.K G0 H0 δ G σ H)
    (h : aa δ G fun xs G1 => xs.length ≤ sizeLine ∧ mb δ G1 (F xs)) (k : ∀ xs vs p H2 d w G2, H2 p = some (.lst vs) → RDs X.K H2 xs vs → Fr G H G2 H2 → RD X.K H2 d w → RH X.K H2 G2 → F xs d G2 → rRep (.ref p) w H2 Q) :
    tOp rRep (tLst (tA X.K G0 H0 es.length aa)) (tE X.K G0 H0 mb) σ H Q := by
  refine ⟨δ, G, _, R, h, fun vs H1 xs G1 f1 rd1 rh1 q1 _ => ⟨by rw [← rd1.length]; exact q1.1, fun p np => ?_⟩⟩
  have g1 : G1 p = none := rh1.free np
  have fa : Fr G1 H1 G1 (upd H1 p (.lst vs)) := Fr.alloc np
  have rh2 := rh1.alloc (o := .lst vs) np
  refine ⟨δ, G1, _, R.step (f1.trans fa) rh2, q1.2, fun w H2 d G2 f2 rd2 rh3 q2 => ?_⟩
  exact k xs vs p H2 d w G2 (f2.frm _ _ upd_same g1) (RDs.mono (f2.tle rh2) _ _ (RDs.mono (TLe.alloc np) _ _ rd1)) ((f1.trans fa).trans f2) rd2 rh3 q2
theorem d_repV (ha : DA X G0 H0 es aa) (hb : DE X G0 H0 b mb) : DE X G0 H0 (.BinOp (.List es p2) .Mult b pos) (mRepV aa mb) :=
  (PE.lock (pe_op op_rep (pe_lst ha) hb)).dimp fun σ H Q ⟨δ, G, Qd, R, h, kq⟩ => d_repG (Qd := Qd) R h fun xs vs p H2 d w G2 hp rs f rd rh q => by
    cases rd with
    | int k =>
      have l := rs.length
      exact ⟨p, k, vs, rfl, rfl, hp, q.1.1, q.1.2, by rw [← l]; exact q.2.1, fun r nr => (kq.step f).lstV (rs.rep _) rh nr q.2.2⟩
    | _ => exact q.elim
theorem d_repM (ha : DA X G0 H0 es aa) (hb : DE X G0 H0 b mb) : DE X G0 H0 (.BinOp (.List es p2) .Mult b pos) (mRepM aa mb) :=
  (pe_op op_rep (pe_lst ha) hb).dimp fun σ H Q ⟨δ, G, Qd, R, h, kq⟩ => d_repG (Qd := Qd) R h fun xs vs p H2 d w G2 hp rs f rd rh q => by
    cases rd with
    | int k =>
      have l := rs.length
      exact ⟨p, k, vs, rfl, rfl, hp, q.1.1, q.1.2, by rw [← l]; exact q.2.1, fun r nr => (kq.step f).lst (rs.rep _) rh nr q.2.2⟩
    | _ => exact q.elim
end
/-! constants of the module -/
def Cst (K : PySem.W.Frag) (mg : Str → Option Value) (x : Str) (d : D) : Prop := ∃ (u : Value) (v : V), mg x = some u ∧ RelV v u ∧ ∀ H, RD K H d v
theorem d_cst {X : Cx} {G0 : GH} {H0 : Hp} {x : Str} {pos : Pos} {d : D} (hg : Gl X x) (c : Cst X.K X.mg x d) (hd : (x == ("__debug__" : Str)) = false := by decide) : DE X G0 H0 (.Name x pos) (mC d) := by
  obtain ⟨u, v, hm, rv, rd⟩ := c
  exact (pe_glob hg hm rv hd).dimp fun σ H Q ⟨δ, G, Qd, R, h, k⟩ => k.here (rd _) R.rh h
def TupRel (K : PySem.W.Frag) (ds : List D) (us : List Value) : Prop := ∃ vs, Vals vs us ∧ ∀ H, RDs K H ds vs
theorem tupRel_nil {K : PySem.W.Frag} : TupRel K [] [] := ⟨[], .nil, fun _ => .nil⟩
theorem tupRel_cons {K : PySem.W.Frag} {d : D} {v : V} {u : Value} {ds : List D} {us : List Value} (h : ∀ H, RD K H d v) (r : RelV v u) (t : TupRel K ds us) : TupRel K (d :: ds) (u :: us) := by
  obtain ⟨vs, a, b⟩ := t
  exact ⟨v :: vs, .cons r a, fun H => .cons (h H) (b H)⟩
theorem tupCst {K : PySem.W.Frag} {a : Addr} {od : Option Addr} {its : Array Value} {n : Nat} {sl : Array (Option Value)} {ds : List D} (h : K.lookup a = some ⟨.type "tuple", od, .seq its n, sl⟩) (t : TupRel K ds its.toList) (hz : its.size ≤ 1000 := by decide) (H : Hp) : RD K H (.tup ds) (.ref a) := by
  obtain ⟨vs, rv, rd⟩ := t
  exact .tup (.inr ⟨_, its, n, h, rfl, rfl, Nat.le_trans hz (by decide), rv⟩) (rd H)
end DL
namespace DL
open PySem PySem.Spec PyProof.Rows L2

/-! enumerate of a tuple -/
set_option maxHeartbeats 1000000 in
theorem meets_enum1 {v : Value} {o : Obj} {Z : Heap → Prop} (B : Begins v o Z) :
    Meets (Builtin.«enumerate.__new__» ⟨[.type "enumerate", v], []⟩) (fun _ R s => Z s.heap ∧
      R (.ok (.ret (.ref (s.heap.push o).objs.size))) { s with heap := (s.heap.push o).push { cls := .type "enumerate", data := .fields #[.none, .bool false, .ref s.heap.objs.size, rawInt 0, .none, .none] } }) :=
  .of_wp fun prog w A R s z => by
    obtain ⟨hp, g, d, tk, os⟩ := s
    obtain ⟨z1, z2⟩ := z
    have sub := sub_enumerate
    have it : ∀ {A' : Around} {E : Value → Shared → Prop} {Q : Value → Shared → Prop}, Q (.ref hp.objs.size) ⟨hp.push o, g, d, tk, os⟩ → wpAny (model prog w) A' (pyIter v) Q E ⟨hp, g, d, tk, os⟩ :=
      fun q => B.iter prog w _ _ ⟨hp, g, d, tk, os⟩ _ z1 q
    wp_walk using it
    refine wpAny_stack_any fun _ => wpAny_pure ?_
    split
    · rename_i c _ _ _ _ _
      cases (c == Value.type "enumerate") <;> (wp_walk using it; exact ⟨_, rfl, z2⟩)
    · wp_walk using it
      exact ⟨_, rfl, z2⟩
theorem enum_made {prog : Program} {w : World} {A : Around} {E : Value → Shared → Prop} {s : Shared} {v : Value} {o : Obj} {Z : Heap → Prop} {Q : Value → Shared → Prop} (B : Begins v o Z) (z : Z s.heap)
    (q : ∀ h', IsEnum h' (s.heap.objs.size + 1) s.heap.objs.size 0 .none → h'.get? s.heap.objs.size = some o → h'.objs.size = s.heap.objs.size + 2 → (∀ b u, s.heap.get? b = some u → h'.get? b = some u) → Q (.ref (s.heap.objs.size + 1)) { s with heap := h' }) :
    wpAny (model prog w) A (call (.type "enumerate") [v]) Q E s := by
  refine callType_new F.called_enumerate (by decide) (F.typeCall_enumerate_1 _) (F.newCall_enumerate_1 _) (fun x => F.args_object_init_2 x _) F.entry_enumerate_new (meets_enum1 B) ⟨z, ?_⟩
  have hz : (s.heap.push o).objs.size = s.heap.objs.size + 1 := Heap.size_push ..
  show _ ∧ _
  rw [hz]
  have he : IsEnum ((s.heap.push o).push { cls := .type "enumerate", data := .fields #[.none, .bool false, .ref s.heap.objs.size, rawInt 0, .none, .none] }) (s.heap.objs.size + 1) s.heap.objs.size 0 .none := by
    have t := Heap.get?_push_size (s.heap.push o) (o := { cls := .type "enumerate", data := .fields #[.none, .bool false, .ref s.heap.objs.size, rawInt 0, .none, .none] }) rfl
    rw [hz] at t
    exact t
  have hs : ((s.heap.push o).push { cls := .type "enumerate", data := .fields #[.none, .bool false, .ref s.heap.objs.size, rawInt 0, .none, .none] }).objs.size = s.heap.objs.size + 2 := by rw [Heap.size_push, hz]
  exact ⟨⟨_, he, rfl⟩, q _ he (Heap.get?_push_of_some _ (Heap.get?_push_size _ B.free)) hs fun b u x => Heap.get?_push_of_some _ (Heap.get?_push_of_some _ x)⟩
def IteT (K : PySem.W.Frag) (a : Addr) : It where
  go := fun i H => ∃ (xs : List V) (x : V), SqT K H a xs ∧ xs[i]? = some x
  yld := fun i H v H' => ∃ T x, v = .ref T ∧ H T = none ∧ H' = upd H T (.tup [.int (i : Nat), x]) ∧ ∀ xs, SqT K H a xs → xs[i]? = some x
  stop := fun i H => ∃ xs : List V, SqT K H a xs ∧ xs.length ≤ i
theorem turn_enumT {P : Program} {w : World} {K : PySem.W.Frag} {elts : List Expr} {kk : Nat} {tpos : Pos} (a e it : Addr) (ha : a ≠ it) (hea : e ≠ a) :
    Turn P w K (.Tuple elts kk tpos) (IteT K a) [e, it] e (fun i h => (∃ old, IsEnum h e it ((i : Nat) : Int) old) ∧ h.IsTupleIter it a i ∧ e ≠ it) where
  mem := by simp
  obj := fun i h st b hb => by
    obtain ⟨⟨old, he⟩, ⟨o, ho, hc, hd⟩, _⟩ := st
    rcases (show b = e ∨ b = it by simpa using hb) with rfl | rfl
    · exact ⟨_, he, fun v q => nomatch q⟩
    · exact ⟨o, ho, fun v q => by rw [hd] at q; cases q⟩
  keep := fun i h h' st k => by
    obtain ⟨⟨old, he⟩, hi, hne⟩ := st
    exact ⟨⟨old, k e (by simp) _ he⟩, hi.at fun o q => k it (by simp) o q, hne⟩
  item := by
    intro X hP hw hK hc i pins s σ H E I hf st hg
    subst hP hw hK
    obtain ⟨⟨old, he⟩, hit, hne⟩ := st
    obtain ⟨xs, x, hq, hx⟩ := hg
    obtain ⟨its, rv, p, hz⟩ := I.tuple hq
    obtain ⟨u, hu, ru⟩ := rv.get hx
    have hel : e < s.heap.objs.size := Heap.lt_size he
    have hil : it < s.heap.objs.size := by obtain ⟨_, q, _⟩ := hit; exact Heap.lt_size q
    have hlt : i < its.toArray.size := by
      have := (List.getElem?_eq_some_iff.mp hu).1
      simpa using this
    refine wpAny_pyNext_enum_itemD (Draws.tuple (A := X.A.in1) (I.ok.hd hc) it a ha its.toArray) he ⟨hit, show s.heap.IsTuple a its.toArray from p⟩ hlt hne (by simp [hne, hea]) fun y h' tk hP ho hs' hT hsz hk => ?_
    have hy : y = u := by
      have h1 : its.toArray[i]? = some u := by simpa using hu
      rw [h1] at hP; exact (Option.some.inj hP).symm
    subst hy
    refine ⟨_, rfl, wpAny_letOwnedTupleGo_enum (s := { s with heap := h', toks := tk + 1 }) ho fun h'' he' sb => ?_⟩
    have hT2 : h''.get? s.heap.objs.size = some { cls := .type "tuple", data := .seq #[.int i tk, y] } := (sb.2 _ (Nat.ne_of_gt hel)).trans hT
    have new : ObjOk X.prog X.w (upd H s.heap.objs.size (.tup [.int (i : Nat), x])) h'' s.heap.objs.size (.tup [.int (i : Nat), x]) :=
      ⟨by show 2 ≤ sizeLine; decide, [.int i tk, y], .cons ⟨_, rfl⟩ (.cons ru .nil), ⟨_, hT2, rfl, _, rfl⟩⟩
    have J : Inv X pins σ (upd H s.heap.objs.size (.tup [.int (i : Nat), x])) { s with heap := h'', toks := tk + 1 } :=
      I.turnedNew (ch := [e, it]) (fun b ob hb q => (sb.2 b (fun z => hb (by simp [z]))).trans (hk b ob (fun z => hb (by simp [z])) (fun z => hb (by simp [z])) q)) hf (Nat.le_refl _) new
    refine ⟨.ref s.heap.objs.size, _, J, rfl, ⟨_, x, rfl, I.hok.fresh (Nat.le_refl _), rfl, fun ys hy => by rw [I.tuple_inj hy hq]; exact hx⟩, ⟨⟨y, ?_⟩, hs'.1.at fun o q => (sb.2 it (Ne.symm hne)).trans q, hne⟩, fun b hb => ?_⟩
    · rw [show ((i + 1 : Nat) : Int) = (i : Int) + 1 by omega]; exact he'
    · have hb' : b < s.heap.objs.size := by
        rcases (show b = e ∨ b = it by simpa using hb) with rfl | rfl
        · exact hel
        · exact hil
      rw [upd_ne (Nat.ne_of_lt hb')]
      exact (hf b hb).1
  done := by
    intro X hP hw hK hc i pins s σ H E I hf st hg
    subst hP hw hK
    obtain ⟨⟨old, he⟩, hit, hne⟩ := st
    obtain ⟨xs, hq, hx⟩ := hg
    obtain ⟨its, rv, p, hz⟩ := I.tuple hq
    obtain ⟨f0, f1, f2, f3, f4, f5⟩ := hf it (by simp)
    have hl := rv.length
    unfold pyNext
    have hT : s.TypeIs (.ref e) "enumerate" := ⟨_, he, rfl⟩
    refine wpAny_bind (wpAny_attempt (wpAny_callSpecial?_slot (name := Str.ofString "__next__") hT F.slot_enumerate_next
      (wpAny_call_entry F.slot_enumerate_next hT F.entry_enumerate_next ?_ (F.args_enumerate_next_1 _))))
    show wpAny _ _ (PySem.field (.ref e) 2 >>= _) _ _ _
    refine wpAny_bind (wpAny_field he rfl (x := .ref it) rfl ?_)
    refine wpAny_bind (wpAny_nextOf_tuple_end (A := X.A.in1) (I.ok.hd hc) hit (show s.heap.IsTuple a its.toArray from p) (by simp; omega) fun h' x eb hx' => ?_)
    obtain ⟨o, ho, hc'⟩ := hx'
    refine wpAny_bind (wpAny_isInstance (T := "StopIteration") (b := true) ⟨o, ho, hc'⟩ isSubtype_stop ?_)
    exact wpAny_pure ⟨rfl, I.turned (t' := s.toks) (fun b o hb q => eb b o hb q) f0 f1 f3 f4 f5⟩
  self := fun A i s Q E st h => let ⟨⟨_, he⟩, _⟩ := st; wpAny_pyIter_enum he h
theorem pi_enumA {X : Cx} {e : Expr} {te : TE} {p pos tpos : Pos} {elts : List Expr} {kk : Nat} (he0 : PE X e te) (hm : X.mg "enumerate" = none) (hg : Gl X "enumerate" := by rfl) (hs : starEach [e] X.env = [(false, eval e X.env)] := by rfl) (hs1 : starEach [e] X.env = (false, eval e X.env) :: starEach [] X.env := by rfl) :
    PI X (.Tuple elts kk tpos) (.Call (.Name "enumerate" p) [e] [] pos) (fun σ H R => te σ H fun v H1 => ∃ a xs, v = .ref a ∧ ((SqL X.K H1 a xs ∧ R (Ite X.K a) H1) ∨ (SqT X.K H1 a xs ∧ R (IteT X.K a) H1))) := by
  refine ⟨fun pins s σ H R I h => ?_⟩
  refine Call_ (ld_blt I hg hm boot_enumerate (PyProof.Rows.callWith_type1 (thn ((pa_cons he0 pa_nil hs1).run pos pins s σ H (fun vs H1 => ∃ v, vs = [v] ∧ ∃ a xs, v = .ref a ∧ ((SqL X.K H1 a xs ∧ R (Ite X.K a) H1) ∨ (SqT X.K H1 a xs ∧ R (IteT X.K a) H1))) I (tCons_one h)) fun us s1 ⟨vs, H1, I1, r1, q1⟩ => ?_) hs rfl))
  obtain ⟨v, rfl, a, xs, rfl, hq⟩ := q1
  have fin : ∀ (J : It) (tn : Nat → Heap → Prop) (h' : Heap) , R J H1 → Inv X pins σ H1 { s1 with heap := h' } → Turn X.prog X.w X.K (.Tuple elts kk tpos) J [s1.heap.objs.size + 1, s1.heap.objs.size] (s1.heap.objs.size + 1) tn → tn 0 h' → PIE X pins σ (.Tuple elts kk tpos) R (.ref (s1.heap.objs.size + 1)) { s1 with heap := h' } := by
    intro J tn h' q I2 T t0
    refine ⟨_, _, tn, J, H1, rfl, I2, T, t0, fun b hb => ?_, q⟩
    have hle : s1.heap.objs.size ≤ b := by
      rcases (show b = s1.heap.objs.size + 1 ∨ b = s1.heap.objs.size by simpa using hb) with z | z
      · rw [z]; exact Nat.le_add_right _ _
      · rw [z]; exact Nat.le_refl _
    exact I1.fpOk hle (I1.hok.fresh hle)
  cases r1 with
  | cons r rr =>
    cases rr
    cases r
    rcases hq with ⟨hq, q⟩ | ⟨hq, q⟩
    · obtain ⟨its, rv, p', hz⟩ := I1.list hq
      refine call_enumerate_list p'.isList fun h' he hit hsz hk => wpAny_pyIter_enum he ?_
      exact fin _ _ h' q (I1.kept (t' := s1.toks) hk) (turn_enum a _ _) ⟨⟨.none, he⟩, hit, Nat.succ_ne_self _⟩
    · obtain ⟨its, rv, p', hz⟩ := I1.tuple hq
      have hal : a < s1.heap.objs.size := by
        obtain ⟨o, ho, _⟩ := (show s1.heap.IsTuple a its.toArray from p')
        exact Heap.lt_size ho
      refine enum_made (begins_tuple a its.toArray) (show s1.heap.IsTuple a its.toArray from p') fun h' he hit hsz hk => wpAny_pyIter_enum he ?_
      exact fin _ _ h' q (I1.kept (t' := s1.toks) hk) (turn_enumT a _ _ (Nat.ne_of_lt hal) (Nat.ne_of_gt (Nat.lt_succ_of_lt hal))) ⟨⟨.none, he⟩, ⟨_, hit, rfl, rfl⟩, Nat.succ_ne_self _⟩
where
  tCons_one {te : TE} {σ : L2.St} {H : Hp} {F : V → Hp → Prop} (h : te σ H F) : tCons te tNil σ H (fun vs H1 => ∃ v, vs = [v] ∧ F v H1) := by
    have : te σ H (fun x H1 => tNil σ H1 fun xs H2 => ∃ v, x :: xs = [v] ∧ F v H2) ↔ te σ H F := by
      have e : (fun x H1 => tNil σ H1 fun xs H2 => ∃ v, x :: xs = [v] ∧ F v H2) = F := by
        funext x H1
        refine propext ⟨fun ⟨v, e, q⟩ => ?_, fun q => ⟨x, rfl, q⟩⟩
        cases e; exact q
      rw [e]
    exact this.mpr h
def enumD (xs : List D) : List D := (List.range xs.length).map fun i => D.tup [.int (i : Nat), xs.getD i .non]
theorem enumD_len {xs : List D} : (enumD xs).length = xs.length := by unfold enumD; simp
theorem enumD_get {xs : List D} {i : Nat} {d : D} (h : (enumD xs)[i]? = some d) : ∃ x, xs[i]? = some x ∧ d = .tup [.int (i : Nat), x] := by
  unfold enumD at h
  rw [List.getElem?_map] at h
  obtain ⟨j, hj, rfl⟩ := Option.map_eq_some_iff.mp h
  have hi : i < xs.length := by have := (List.getElem?_eq_some_iff.mp hj).1; simpa using this
  rw [List.getElem?_range hi] at hj
  cases hj
  exact ⟨xs[i], by simp [hi], by simp [hi]⟩
def enumK (R : List D → (GH → Prop) → GH → Prop) (d : D) (G : GH) : Prop := match d with
  | .tup ds => R (enumD ds) (fun _ => True) G
  | .lst ds => R (enumD ds) (fun _ => True) G
  | .ref p => match rdL G p with
    | some ds => R (enumD ds) (fun G => rdL G p = some ds) G
    | none => False
  | _ => False
def iEnum (m : ME) : MI := fun δ G R => m δ G (enumK R)
section
variable {K : PySem.W.Frag} {H : Hp}
theorem enum_step {H' : Hp} {G : GH} {T : Addr} {i : Nat} {x : V} {dx : D} (rh : RH K H' G) (nT : H' T = none) (r : RD K H' dx x) :
    Fr G H' G (upd H' T (.tup [.int (i : Nat), x])) ∧ RH K (upd H' T (.tup [.int (i : Nat), x])) G ∧ RD K (upd H' T (.tup [.int (i : Nat), x])) (.tup [.int (i : Nat), dx]) (.ref T) :=
  ⟨Fr.alloc nT, rh.alloc nT, .tup (.of upd_same) (.cons (.int _) (.cons (RD.mono (TLe.alloc nT) _ _ r) .nil))⟩
theorem gives_enumT {a : Addr} {vs : List V} {ds : List D} (s1 : SqT K H a vs) (a1 : RDs K H ds vs) : Gives K H (IteT K a) (enumD ds) (fun _ => True) where
  go := fun i H' G d t rh _ e => by
    obtain ⟨x, ex, rfl⟩ := enumD_get e
    obtain ⟨v, ev, rv⟩ := a1.get ex
    refine ⟨⟨vs, v, t.sq _ _ s1, ev⟩, fun z H2 yy => ?_⟩
    obtain ⟨T, w, rfl, nT, rfl, q⟩ := yy
    have e1 := q vs (t.sq _ _ s1)
    rw [ev] at e1; cases e1
    exact enum_step rh nT (RD.mono t _ _ rv)
  stop := fun i H' G t rh _ h => ⟨vs, t.sq _ _ s1, by rw [enumD_len, a1.length] at h; exact h⟩
theorem gives_enumL {d : D} {a : Addr} {ds : List D} (r : RD K H d (.ref a)) (ok : lsD noG d = some ds ∨ ∃ p, d = .ref p) : Gives K H (Ite K a) (enumD ds) (fun G => lsD G d = some ds) where
  go := fun i H' G e t rh ph h => by
    obtain ⟨x, ex, rfl⟩ := enumD_get h
    obtain ⟨_, vs, z1, f1, a1⟩ := lsD_some rh (RD.mono t _ _ r) ph
    cases z1
    obtain ⟨v, ev, rv⟩ := a1.get ex
    refine ⟨⟨vs, v, .inl f1, ev⟩, fun z H2 yy => ?_⟩
    obtain ⟨T, w, rfl, nT, rfl, q⟩ := yy
    have e1 := q vs (.inl f1)
    rw [ev] at e1; cases e1
    exact enum_step rh nT rv
  stop := fun i H' G t rh ph h => by
    obtain ⟨_, vs, z1, f1, a1⟩ := lsD_some rh (RD.mono t _ _ r) ph
    cases z1
    exact ⟨vs, .inl f1, by rw [enumD_len, a1.length] at h; exact h⟩
theorem Gives.weak {J : It} {ds : List D} {Φ Ψ : GH → Prop} (g : Gives K H J ds Φ) (h : ∀ G, Ψ G → Φ G) : Gives K H J ds Ψ :=
  ⟨fun i H' G d t rh p e => g.go i H' G d t rh (h G p) e, fun i H' G t rh p e => g.stop i H' G t rh (h G p) e⟩
end
section
variable {X : Cx} {G0 : GH} {H0 : Hp} {e tg : Expr} {m : ME} {p pos tpos : Pos} {elts : List Expr} {kk : Nat}
theorem di_enum (hm : X.mg "enumerate" = none) (he : DE X G0 H0 e m) (hg : Gl X "enumerate" := by rfl) (hs : starEach [e] X.env = [(false, eval e X.env)] := by rfl) (hs1 : starEach [e] X.env = (false, eval e X.env) :: starEach [] X.env := by rfl) :
    DI X G0 H0 (.Tuple elts kk tpos) (.Call (.Name "enumerate" p) [e] [] pos) (iEnum m) :=
  (pi_enumA he hm hg hs hs1).dimp fun σ H Rr ⟨δ, G, Rd, R, h, k⟩ => ⟨δ, G, _, R, h, fun v H1 d G1 f1 rd1 rh1 q1 => by
    unfold enumK at q1
    split at q1
    · cases rd1 with
      | tup s1 a1 => exact ⟨_, _, rfl, .inr ⟨s1, k _ H1 _ _ G1 f1 rh1 (gives_enumT s1 a1) q1⟩⟩
    · have r := rd1
      cases rd1 with
      | lst s1 a1 => exact ⟨_, _, rfl, .inl ⟨.inl (.inr ⟨_, s1⟩), k _ H1 _ _ G1 f1 rh1 ((gives_enumL r (.inl rfl)).weak fun _ _ => rfl) q1⟩⟩
    · cases rd1
      split at q1
      · rename_i ds e
        obtain ⟨vs, f2, a2⟩ := rdL_some rh1 e
        exact ⟨_, _, rfl, .inl ⟨.inl (.inl f2), k _ H1 _ _ G1 f1 rh1 (gives_enumL (.ref _) (.inr ⟨_, rfl⟩)) q1⟩⟩
      · exact q1.elim
    · exact q1.elim⟩
end
theorem iEnum_eq {m : ME} {δ : Sl} {G : GH} {R : List D → (GH → Prop) → GH → Prop} : iEnum m δ G R = m δ G (enumK R) := rfl
theorem enumK_tup {ds : List D} {G : GH} {R : List D → (GH → Prop) → GH → Prop} : enumK R (.tup ds) G = R (enumD ds) (fun _ => True) G := rfl
theorem enumK_lst {ds : List D} {G : GH} {R : List D → (GH → Prop) → GH → Prop} : enumK R (.lst ds) G = R (enumD ds) (fun _ => True) G := rfl
end DL
namespace DL
open PySem PySem.Spec PyProof.Rows L2

/-! values that hold no place -/
mutual
def pv : D → Bool
  | .ref _ => false
  | .ty _ => false
  | .rng _ _ => false
  | .tup ds => pvs ds
  | .lst ds => pvs ds
  | .non => true
  | .bl _ => true
  | .int _ => true
  | .str _ => true
def pvs : List D → Bool
  | [] => true
  | d :: ds => pv d && pvs ds
end
theorem pvs_iff {ds : List D} : pvs ds = true ↔ ∀ d ∈ ds, pv d = true := by
  induction ds with
  | nil => simp [pvs]
  | cons d ds ih => simp [pvs, ih]
theorem pvs_map {α : Type} {f : α → D} {xs : List α} (h : ∀ x, pv (f x) = true) : pvs (xs.map f) = true := pvs_iff.mpr fun d hd => by
  obtain ⟨x, _, rfl⟩ := List.mem_map.mp hd
  exact h x
theorem pvs_append {xs ys : List D} : pvs (xs ++ ys) = (pvs xs && pvs ys) := by
  induction xs with
  | nil => simp [pvs]
  | cons x xs ih => simp [pvs, ih, Bool.and_assoc]
theorem pv_ints {xs : List Int} : pvs (xs.map D.int) = true := pvs_map fun _ => by simp [pv]
theorem pvs_get {ds : List D} {i : Nat} {d : D} (h : pvs ds = true) (e : ds[i]? = some d) : pv d = true := pvs_iff.mp h d (List.mem_of_getElem? e)
theorem pv_tup {ds : List D} : pv (.tup ds) = pvs ds := by simp [pv]
theorem pv_lst {ds : List D} : pv (.lst ds) = pvs ds := by simp [pv]
theorem pv_int {i : Int} : pv (.int i) = true := by simp [pv]
theorem pv_bl {i : Bool} : pv (.bl i) = true := by simp [pv]
theorem pv_str {i : Str} : pv (.str i) = true := by simp [pv]
theorem pv_non : pv .non = true := by simp [pv]
theorem pvs_nil : pvs [] = true := by simp [pvs]
theorem pvs_cons {d : D} {ds : List D} : pvs (d :: ds) = (pv d && pvs ds) := by simp [pvs]
theorem pv_kn {G : GH} {d : D} (h : pv d = true) : Kn G d := by
  cases d with
  | ref p => simp [pv] at h
  | ty n => simp [pv] at h
  | rng _ _ => simp [pv] at h
  | _ => trivial
theorem isiK_pv {k : Tk} {Q : KD} {d : D} {G : GH} (h : pv d = true) : isiK k Q d G = Q (.bl (isT k d)) G := isiK_kn (pv_kn h)
/-! values that may be compared and shown -/
def okV : Nat → D → Bool
  | 0, _ => false
  | n + 1, d => match d with
    | .non => true
    | .bl _ => true
    | .int _ => true
    | .str x => PyData.canLay0 (.str x)
    | .tup ds => ds.all (okV n)
    | .lst ds => ds.all (okV n)
    | _ => false
mutual
def pd : D → PyData
  | .bl b => .bool b
  | .int i => .int i
  | .str x => .str x
  | .tup ds => .tuple (pds ds)
  | .lst ds => .list (pds ds)
  | _ => .none
def pds : List D → List PyData
  | [] => []
  | d :: ds => pd d :: pds ds
end
theorem pds_eq : ∀ {ds : List D}, pds ds = ds.map pd
  | [] => by simp [pds]
  | d :: ds => by simp [pds, pds_eq (ds := ds)]
theorem pd_tup {ds : List D} : pd (.tup ds) = .tuple (ds.map pd) := by simp [pd, pds_eq]
theorem pd_lst {ds : List D} : pd (.lst ds) = .list (ds.map pd) := by simp [pd, pds_eq]
theorem pd_int {i : Int} : pd (.int i) = .int i := by simp [pd]
theorem pd_bl {i : Bool} : pd (.bl i) = .bool i := by simp [pd]
theorem pd_str {i : Str} : pd (.str i) = .str i := by simp [pd]
theorem pd_non : pd .non = .none := by simp [pd]
theorem pd_ints {xs : List Int} : (xs.map D.int).map pd = xs.map PyData.int := by simp [pd]
theorem okV_tup {n : Nat} {ds : List D} : okV (n + 1) (.tup ds) = ds.all (okV n) := rfl
theorem okV_lst {n : Nat} {ds : List D} : okV (n + 1) (.lst ds) = ds.all (okV n) := rfl
theorem okV_int {n : Nat} {i : Int} : okV (n + 1) (.int i) = true := rfl
theorem okV_bl {n : Nat} {i : Bool} : okV (n + 1) (.bl i) = true := rfl
theorem okV_non {n : Nat} : okV (n + 1) .non = true := rfl
theorem okV_str {n : Nat} {x : Str} : okV (n + 1) (.str x) = PyData.canLay0 (.str x) := rfl
theorem okV_ints {n : Nat} {xs : List Int} : (xs.map D.int).all (okV (n + 1)) = true := by simp [okV]
theorem okV_mono : ∀ {n m : Nat} {d : D}, okV n d = true → n ≤ m → okV m d = true
  | 0, _, _, h, _ => by simp [okV] at h
  | n + 1, 0, _, _, h => by omega
  | n + 1, m + 1, d, h, l => by
    cases d with
    | tup ds =>
      rw [okV_tup, List.all_eq_true] at h ⊢
      exact fun x hx => okV_mono (h x hx) (by omega)
    | lst ds =>
      rw [okV_lst, List.all_eq_true] at h ⊢
      exact fun x hx => okV_mono (h x hx) (by omega)
    | ref _ => simp [okV] at h
    | ty _ => simp [okV] at h
    | rng _ _ => simp [okV] at h
    | _ => exact h
theorem okV_pv : ∀ {n : Nat} {d : D}, okV n d = true → pv d = true
  | 0, _, h => by simp [okV] at h
  | n + 1, d, h => by
    cases d with
    | tup ds =>
      rw [okV_tup, List.all_eq_true] at h
      rw [pv_tup, pvs_iff]
      exact fun x hx => okV_pv (h x hx)
    | lst ds =>
      rw [okV_lst, List.all_eq_true] at h
      rw [pv_lst, pvs_iff]
      exact fun x hx => okV_pv (h x hx)
    | ref _ => simp [okV] at h
    | ty _ => simp [okV] at h
    | rng _ _ => simp [okV] at h
    | _ => simp [pv]
theorem pyN_pd {G : GH} : ∀ {n : Nat} {d : D}, okV n d = true → pyN n G d = some (pd d)
  | 0, _, h => by simp [okV] at h
  | n + 1, d, h => by
    cases d with
    | tup ds =>
      rw [okV_tup, List.all_eq_true] at h
      have := pyL_map (f := pyN n G) (φ := id) (ψ := pd) (xs := ds) fun x hx => pyN_pd (h x hx)
      rw [List.map_id] at this
      rw [pd_tup]
      exact pyN_tup this
    | lst ds =>
      rw [okV_lst, List.all_eq_true] at h
      have := pyL_map (f := pyN n G) (φ := id) (ψ := pd) (xs := ds) fun x hx => pyN_pd (h x hx)
      rw [List.map_id] at this
      rw [pd_lst]
      exact pyN_lst this
    | str x => simp only [pyN, pd]; exact if_pos h
    | ref _ => simp [okV] at h
    | ty _ => simp [okV] at h
    | rng _ _ => simp [okV] at h
    | non => simp [pyN, pd]
    | bl _ => simp [pyN, pd]
    | int _ => simp [pyN, pd]
theorem pyN60 {n : Nat} {G : GH} {d : D} (h : okV n d = true) (l : n ≤ 60 := by decide) : pyN 60 G d = some (pd d) := pyN_pd (okV_mono h l)
theorem rEq_ok {G : GH} {Q : KD} {d e : D} {n m : Nat} (h1 : okV n d = true) (h2 : okV m e = true) (l1 : n ≤ 60 := by decide) (l2 : m ≤ 60 := by decide) : rEq d e G Q = Q (.bl (PyData.eqv (pd d) (pd e))) G := rEq_py (pyN60 h1 l1) (pyN60 h2 l2)
/-- what is shown fits -/
def fitD (d : D) (n : Nat) : Prop := fit (pd d) n
theorem rRepr_ok {G : GH} {Q : KD} {d : D} {n m : Nat} (hr : rl d = true) (h : okV n d = true) (f : fit (pd d) m) (hm : m ≤ 131072) (q : Q (.str (pd d).shown) G) (l : n ≤ 60 := by decide) : rRepr [d] G Q := rRepr_py hr (pyN60 h l) f hm q
/-- the source of the draws: n draws may still come -/
def Src (G : GH) (a : Addr) (n : Nat) : Prop := ∃ x y c : Int, G a = some (.lst [.int x, .int y, .int c]) ∧ 0 ≤ x ∧ 0 ≤ y ∧ y < 10000000000000000000000000331 ∧ 0 ≤ c ∧ c + n ≤ 1000000000000
theorem Src.less {G : GH} {a : Addr} {n m : Nat} (h : Src G a n) (l : m ≤ n) : Src G a m := by
  obtain ⟨x, y, c, e, h1, h2, h3, h4, h5⟩ := h
  exact ⟨x, y, c, e, h1, h2, h3, h4, by omega⟩
theorem Src.le {G G' : GH} {a : Addr} {n : Nat} (h : Src G a n) (l : LeG G G') : Src G' a n := by
  obtain ⟨x, y, c, e, h1⟩ := h
  exact ⟨x, y, c, l _ _ e, h1⟩
theorem Src.ne {G : GH} {a p : Addr} {n : Nat} (h : Src G a n) (e : G p = none) : p ≠ a := by
  obtain ⟨x, y, c, g, _⟩ := h
  intro z; subst z; rw [e] at g; cases g
theorem Src.new {G : GH} {a p : Addr} {n m : Nat} {o : DO} (h : Src G a n) (e : G p = none) (l : m ≤ n) : Src (updG G p o) a m := (h.less l).le (LeG.refl.new e)
/-- a list of draws -/
theorem draws_lc {a : Addr} {l : Int} {k n i : Nat} {lo : Int} {e : ME} {δ0 : Sl} {G : GH} {Q : List D → GH → Prop} {Φ : GH → Prop} (hΦ : ∀ G, Φ G) (hk : k ≤ 100000) (s : Src G a (n + k))
    (he : ∀ t G' m Q', Src G' a (m + 1) → (∀ c G'', 0 ≤ c → c < l → Src G'' a m → Up [a] G' G'' → Q' (.int c) G'') → e (δ0.set i (some t)) G' Q')
    (hq : ∀ (xs : List Int) G', xs.length = k → (∀ x ∈ xs, 0 ≤ x ∧ x < l) → Src G' a n → Up [a] G G' → Q (xs.map D.int) G') : lcL Φ (gN i) tYesD e δ0 (rngD lo k) [] G Q := by
  refine lcL_rng (fun i acc G' => i ≤ k ∧ ∃ xs : List Int, acc = xs.map D.int ∧ xs.length = i ∧ (∀ x ∈ xs, 0 ≤ x ∧ x < l) ∧ Src G' a (n + (k - i)) ∧ Up [a] G G') (fun _ _ _ _ => hΦ _) ?_ ?_ ⟨by omega, [], rfl, rfl, by simp, s.less (by omega), Up.refl⟩
  · rintro acc G' ⟨_, xs, rfl, hl, hx, s', u⟩
    exact hq xs G' hl hx (s'.less (by omega)) u
  · rintro j acc G' nx hj ⟨_, xs, rfl, hl, hx, s', u⟩ k1
    refine he _ G' (n + (k - (j + 1))) _ (s'.less (by omega)) fun c G'' c0 c1 s'' u'' => ⟨by simp only [List.length_map, szl]; omega, k1 _ _ ⟨by omega, xs ++ [c], by simp, by simp [hl], ?_, s'', u.trans u''⟩⟩
    intro x hx'
    rcases List.mem_append.mp hx' with z | z
    · exact hx x z
    · simp at z; subst z; exact ⟨c0, c1⟩
theorem at_last {α : Type} {xs : List α} {x : α} : L2.atI (xs ++ [x]) (-1) = some x := by
  unfold L2.atI
  have e : L2.ixN (xs ++ [x]).length (-1) = some xs.length := by
    unfold L2.ixN
    rw [if_neg (by decide), if_pos (by simp; omega)]
    simp only [List.length_append, List.length_cons, List.length_nil]
    congr 1; omega
  rw [e]
  simp
theorem Up.mut {S : List Addr} {G G1 : GH} {p : Addr} {o : DO} (a : Up S G G1) (h : G p = none) : Up S G (updG G1 p o) := fun x u n e => by
  rw [updG_ne]; exact a x u n e
  intro z; subst z; rw [h] at e; cases e
theorem Up.none {S : List Addr} {G G1 : GH} {p : Addr} (a : Up S G G1) (h : G1 p = .none) (n : p ∉ S) : G p = .none := by
  cases e : G p with
  | none => rfl
  | some o => rw [a p o n e] at h; cases h
/-! a cup of draws: three integers -/
def Cup (G : GH) (a : Addr) : Prop := ∃ x y z : Int, G a = some (.lst [.int x, .int y, .int z])
theorem Cup.le {G G' : GH} {a : Addr} (h : Cup G a) (l : LeG G G') : Cup G' a := by
  obtain ⟨x, y, c, e⟩ := h
  exact ⟨x, y, c, l _ _ e⟩
theorem Cup.ne {G : GH} {a p : Addr} (h : Cup G a) (e : G p = none) : p ≠ a := by
  obtain ⟨x, y, c, g⟩ := h
  intro z; subst z; rw [e] at g; cases g
theorem Cup.new {G : GH} {a p : Addr} {o : DO} (h : Cup G a) (e : G p = none) : Cup (updG G p o) a := h.le (LeG.refl.new e)
theorem Cup.upd {G : GH} {a p : Addr} {o : DO} (h : Cup G a) (e : p ≠ a) : Cup (updG G p o) a := by
  obtain ⟨x, y, c, g⟩ := h
  exact ⟨x, y, c, by rw [updG_ne (Ne.symm e)]; exact g⟩
/-- a list of things that are drawn -/
theorem lc_cup {a : Addr} {P : D → Prop} {k i : Nat} {lo : Int} {e : ME} {δ0 : Sl} {G : GH} {Q : List D → GH → Prop} {Φ : GH → Prop} (hΦ : ∀ G, Φ G) (hk : k ≤ 100000) (c : Cup G a)
    (he : ∀ t G' Q', Cup G' a → Up [a] G G' → (∀ d G'', P d → Cup G'' a → Up [a] G' G'' → Q' d G'') → e (δ0.set i (some t)) G' Q')
    (hq : ∀ ds G', ds.length = k → (∀ d ∈ ds, P d) → Cup G' a → Up [a] G G' → Q ds G') : lcL Φ (gN i) tYesD e δ0 (rngD lo k) [] G Q := by
  refine lcL_rng (fun i acc G' => i ≤ k ∧ acc.length = i ∧ (∀ d ∈ acc, P d) ∧ Cup G' a ∧ Up [a] G G') (fun _ _ _ _ => hΦ _) ?_ ?_ ⟨by omega, rfl, by simp, c, Up.refl⟩
  · rintro acc G' ⟨_, hl, hx, c', u⟩
    exact hq acc G' hl hx c' u
  · rintro j acc G' nx hj ⟨_, hl, hx, c', u⟩ k1
    refine he _ G' _ c' u fun d G'' hd c'' u'' => ⟨by simp only [szl]; omega, k1 _ _ ⟨by omega, by simp [hl], ?_, c'', u.trans u''⟩⟩
    intro x hx'
    rcases List.mem_append.mp hx' with z | z
    · exact hx x z
    · simp at z; subst z; exact hd
theorem rIn_py {G : GH} {Q : KD} {x : D} {es : List D} {n m : Nat} (h1 : okV n x = true) (h2 : okV m (.tup es) = true) (l1 : n ≤ 60 := by decide) (l2 : m ≤ 60 := by decide) : rIn x (.tup es) G Q = Q (.bl (es.any fun z => PyData.eqv (pd z) (pd x))) G := by
  have e1 := pyN60 (G := G) h1 l1
  have e2 := pyN60 (G := G) h2 l2
  have e3 : (es.map pd).any (fun z => PyData.eqv z (pd x)) = es.any fun z => PyData.eqv (pd z) (pd x) := by rw [List.any_map]; rfl
  rw [pd_tup] at e2
  unfold rIn
  split
  · rename_i z
    exact absurd z (by intro q; injection q)
  · simp only [rngOf, e1, e2, e3]
end DL
namespace DL
open PySem PySem.Spec PyProof.Rows

/-! patterns, scanners -/
def tupK' (k : Option Int) : D → Bool
  | .tup es => match k with | none => true | some k => decide ((es.length : Int) = k)
  | _ => false
def kOf (d : D) (k : Option Int) : Prop := (d = .non ∧ k = none) ∨ ∃ i, d = .int i ∧ k = some i
def isS (x : Str) : D → Bool | .str y => decide (y = x) | _ => false
def manyP (p : D → Bool) : D → Bool | .tup es => !es.isEmpty && es.all p | _ => false
/-- a pattern for s signs -/
def patN : Nat → Int → D → Bool
  | 0, _, _ => false
  | n + 1, s, d => match d with
    | .tup [] => false
    | .tup (w :: rest) => if isS "any" w || isS "nothing" w then rest.isEmpty else match rest with
      | [x] => if isS "sign" w then belowD s x else if isS "repeat" w || isS "not" w then patN n s x else if isS "row" w || isS "choice" w || isS "both" w then manyP (patN n s) x else false
      | _ => false
    | _ => false
theorem isS_eqv {x : Str} {w : D} (h : pv w = true) : PyData.eqv (pd w) (.str x) = isS x w := by
  cases w with
  | str y => by_cases e : y = x <;> simp [pd, PyData.eqv, isS, e]
  | ref _ => simp [pv] at h
  | ty _ => simp [pv] at h
  | rng _ _ => simp [pv] at h
  | _ => simp [pd, PyData.eqv, isS]
theorem rEq_isS {G : GH} {Q : KD} {w : D} {x : Str} {n : Nat} (h : okV n w = true) (hx : PyData.canLay0 (.str x) = true) (l : n ≤ 60 := by decide) : rEq w (.str x) G Q = Q (.bl (isS x w)) G := by
  rw [rEq_ok (m := 1) h (show okV 1 (.str x) = true from hx) l, pd_str, isS_eqv (okV_pv h)]
theorem len1_rest {α : Type} {r : List α} : decide (((r.length + 1 : Nat) : Int) = 1) = r.isEmpty := by
  cases r with
  | nil => rfl
  | cons x r => simp; omega
def isNilT : D → Bool | .tup [] => true | _ => false
theorem rEq_nilT {G : GH} {Q : KD} {w : D} {n : Nat} (h : okV n w = true) (l : n ≤ 60 := by decide) : rEq w (.tup []) G Q = Q (.bl (isNilT w)) G := by
  rw [rEq_ok (m := 1) h rfl l, pd_tup]
  congr 2
  cases w with
  | tup es => cases es <;> simp [pd_tup, PyData.eqv, PyData.eqvAll, isNilT]
  | ref _ => have := okV_pv h; simp [pv] at this
  | ty _ => have := okV_pv h; simp [pv] at this
  | rng _ _ => have := okV_pv h; simp [pv] at this
  | _ => simp [pd, PyData.eqv, isNilT]
theorem patN_cases {n : Nat} {s : Int} {d : D} (h : patN (n + 1) s d = true) : d = .tup [.str "any"] ∨ d = .tup [.str "nothing"] ∨ (∃ x, d = .tup [.str "sign", x] ∧ belowD s x = true) ∨ (∃ (w : Str) (x : D), (w = ("repeat" : Str) ∨ w = ("not" : Str)) ∧ d = .tup [.str w, x] ∧ patN n s x = true) ∨
    (∃ (w : Str) (es : List D), (w = ("row" : Str) ∨ w = ("choice" : Str) ∨ w = ("both" : Str)) ∧ d = .tup [.str w, .tup es] ∧ es ≠ [] ∧ ∀ e ∈ es, patN n s e = true) := by
  have str : ∀ {x : Str} {w : D}, isS x w = true → w = .str x := by
    intro x w h
    cases w <;> simp [isS] at h
    rw [h]
  unfold patN at h
  split at h
  · cases h
  · rename_i w rest
    split at h
    · rename_i e
      rw [List.isEmpty_iff] at h; subst h
      rw [Bool.or_eq_true] at e
      rcases e with e | e
      · exact .inl (by rw [str e])
      · exact .inr (.inl (by rw [str e]))
    · split at h
      · rename_i x
        split at h
        · rename_i e; exact .inr (.inr (.inl ⟨x, by rw [str e], h⟩))
        · split at h
          · rename_i e
            rw [Bool.or_eq_true] at e
            rcases e with e | e
            · exact .inr (.inr (.inr (.inl ⟨_, x, .inl rfl, by rw [str e], h⟩)))
            · exact .inr (.inr (.inr (.inl ⟨_, x, .inr rfl, by rw [str e], h⟩)))
          · split at h
            · rename_i e
              cases x with
              | tup es =>
                simp only [manyP, Bool.and_eq_true, Bool.not_eq_true', List.all_eq_true] at h
                have ne : es ≠ [] := by intro z; subst z; simp at h
                simp only [Bool.or_eq_true] at e
                rcases e with (e | e) | e
                · exact .inr (.inr (.inr (.inr ⟨_, es, .inl rfl, by rw [str e], ne, h.2⟩)))
                · exact .inr (.inr (.inr (.inr ⟨_, es, .inr (.inl rfl), by rw [str e], ne, h.2⟩)))
                · exact .inr (.inr (.inr (.inr ⟨_, es, .inr (.inr rfl), by rw [str e], ne, h.2⟩)))
              | _ => cases h
            · cases h
      · cases h
  · cases h
theorem belowD_mono {s t : Int} {d : D} (h : belowD s d = true) (l : s ≤ t) : belowD t d = true := by
  cases d with
  | int i => simp [belowD] at h ⊢; omega
  | _ => cases h
theorem lsz {α : Type} {y : α} {ys : List α} (h : ys.length ≤ 16777215) : (y :: ys).length ≤ sizeLine := by simp only [List.length_cons, szl]; omega
theorem patN_leaf {n : Nat} {s : Int} : patN (n + 1) s (.tup [.str "any"]) = true ∧ patN (n + 1) s (.tup [.str "nothing"]) = true := ⟨by simp [patN, isS], by simp [patN, isS]⟩
theorem patN_sign {n : Nat} {s : Int} {x : D} (h : belowD s x = true) : patN (n + 1) s (.tup [.str "sign", x]) = true := by
  simp only [patN, isS, show ("sign" : Str) ≠ "any" by decide, show ("sign" : Str) ≠ "nothing" by decide, decide_true, decide_false, Bool.or_self, if_true, if_false, Bool.false_eq_true]
  exact h
theorem patN_one {n : Nat} {s : Int} {w : Str} {x : D} (hw : w = ("repeat" : Str) ∨ w = ("not" : Str)) (h : patN n s x = true) : patN (n + 1) s (.tup [.str w, x]) = true := by
  rcases hw with rfl | rfl
  · simp only [patN, isS, show ("repeat" : Str) ≠ "any" by decide, show ("repeat" : Str) ≠ "nothing" by decide, show ("repeat" : Str) ≠ "sign" by decide, decide_true, decide_false, Bool.or_self, Bool.true_or, if_true, if_false, Bool.false_eq_true]
    exact h
  · simp only [patN, isS, show ("not" : Str) ≠ "any" by decide, show ("not" : Str) ≠ "nothing" by decide, show ("not" : Str) ≠ "sign" by decide, show ("not" : Str) ≠ "repeat" by decide, decide_true, decide_false, Bool.or_self, Bool.or_true, if_true, if_false, Bool.false_eq_true]
    exact h
theorem patN_many {n : Nat} {s : Int} {w : Str} {es : List D} (hw : w = ("row" : Str) ∨ w = ("choice" : Str) ∨ w = ("both" : Str)) (ne : es ≠ []) (h : ∀ e ∈ es, patN n s e = true) : patN (n + 1) s (.tup [.str w, .tup es]) = true := by
  have g : manyP (patN n s) (.tup es) = true := by simpa [manyP] using ⟨ne, h⟩
  rcases hw with rfl | rfl | rfl
  · simp only [patN, isS, show ("row" : Str) ≠ "any" by decide, show ("row" : Str) ≠ "nothing" by decide, show ("row" : Str) ≠ "sign" by decide, show ("row" : Str) ≠ "repeat" by decide, show ("row" : Str) ≠ "not" by decide, decide_true, decide_false, Bool.or_self, Bool.true_or, if_true, if_false, Bool.false_eq_true]
    exact g
  · simp only [patN, isS, show ("choice" : Str) ≠ "any" by decide, show ("choice" : Str) ≠ "nothing" by decide, show ("choice" : Str) ≠ "sign" by decide, show ("choice" : Str) ≠ "repeat" by decide, show ("choice" : Str) ≠ "not" by decide, show ("choice" : Str) ≠ "row" by decide, decide_true, decide_false, Bool.or_self, Bool.true_or, Bool.or_true, Bool.false_or, if_true, if_false, Bool.false_eq_true]
    exact g
  · simp only [patN, isS, show ("both" : Str) ≠ "any" by decide, show ("both" : Str) ≠ "nothing" by decide, show ("both" : Str) ≠ "sign" by decide, show ("both" : Str) ≠ "repeat" by decide, show ("both" : Str) ≠ "not" by decide, show ("both" : Str) ≠ "row" by decide, show ("both" : Str) ≠ "choice" by decide, decide_true, decide_false, Bool.or_self, Bool.true_or, Bool.or_true, Bool.false_or, if_true, if_false, Bool.false_eq_true]
    exact g
theorem patN_mono : ∀ {n m : Nat} {s t : Int} {d : D}, patN n s d = true → n ≤ m → s ≤ t → patN m t d = true
  | 0, _, _, _, _, h, _, _ => by simp [patN] at h
  | n + 1, 0, _, _, _, _, l, _ => by omega
  | n + 1, m + 1, s, t, d, h, l, k => by
    rcases patN_cases h with rfl | rfl | ⟨x, rfl, hx⟩ | ⟨w, x, hw, rfl, hx⟩ | ⟨w, es, hw, rfl, ne, he⟩
    · exact patN_leaf.1
    · exact patN_leaf.2
    · exact patN_sign (belowD_mono hx k)
    · exact patN_one hw (patN_mono hx (by omega) k)
    · exact patN_many hw ne fun e h => patN_mono (he e h) (by omega) k

theorem eqv_strs {a b : Str} : PyData.eqv (.str a) (.str b) = decide (a = b) := by
  by_cases e : a = b <;> simp [PyData.eqv, e]
theorem rIn_str2 {G : GH} {Q : KD} {w a b : Str} (h : (PyData.canLay0 (.str w) && PyData.canLay0 (.str a) && PyData.canLay0 (.str b)) = true) : rIn (.str w) (.tup [.str a, .str b]) G Q = Q (.bl (decide (a = w) || decide (b = w))) G := by
  simp only [Bool.and_eq_true] at h
  rw [rIn_py (n := 1) (m := 2) (by rw [okV_str]; exact h.1.1) (by rw [okV_tup]; simp only [List.all_cons, List.all_nil, okV_str, h.1.2, h.2]; rfl)]
  simp only [List.any_cons, List.any_nil, pd_str, eqv_strs, Bool.or_false]
theorem rIn_str3 {G : GH} {Q : KD} {w a b c : Str} (h : (PyData.canLay0 (.str w) && PyData.canLay0 (.str a) && PyData.canLay0 (.str b) && PyData.canLay0 (.str c)) = true) : rIn (.str w) (.tup [.str a, .str b, .str c]) G Q = Q (.bl (decide (a = w) || (decide (b = w) || decide (c = w)))) G := by
  simp only [Bool.and_eq_true] at h
  rw [rIn_py (n := 1) (m := 2) (by rw [okV_str]; exact h.1.1.1) (by rw [okV_tup]; simp only [List.all_cons, List.all_nil, okV_str, h.1.1.2, h.1.2, h.2]; rfl)]
  simp only [List.any_cons, List.any_nil, pd_str, eqv_strs, Bool.or_false]
/-- how the faults of scanners are told -/
def wordsD (s l : Int) : D → Bool | .tup ws => decide ((ws.length : Int) = s) && ws.all (rowD l) | _ => false
/-- the first wrong member of a rule -/
def ruleF (s l : Int) : D → Option (List Int)
  | .tup [a, b, c, w, ws, e] => if patN 30 s a = false then some [0] else if patN 30 s b = false then some [1] else if patN 30 s c = false then some [2] else if rowD l w = false then some [3] else if wordsD s l ws = false then some [4] else if rowD l e = false then some [5] else none
  | _ => some []
def plD : Option (List Int) → D | none => .non | some ks => .tup (ks.map .int)
def rulesF (s l : Int) : Nat → List D → Option (List Int)
  | _, [] => none
  | i, r :: rs => match ruleF s l r with | none => rulesF s l (i + 1) rs | some ks => some (2 :: (i : Int) :: ks)
def okOther (s l : Int) (d : D) : Bool := isS "drop" d || isS "fail" d || (isS "copy" d && decide (s ≤ l))
def scanF : D → Option (List Int)
  | .tup [s, l, rs, o] => if fromD 1 s = false then some [0] else if fromD 1 l = false then some [1] else match s, l, rs with
    | .int s, .int l, .tup rs => match rulesF s l 0 rs with | some ks => some ks | none => if okOther s l o then none else some [3]
    | _, _, _ => some [2]
  | _ => some []
theorem rowD_iff {l : Int} {es : List D} : rowD l (.tup es) = true ↔ ∀ e ∈ es, belowD l e = true := by simp [rowD, List.all_eq_true]
theorem belowD_pv {l : Int} {d : D} (h : belowD l d = true) : ∃ i : Int, d = .int i ∧ 0 ≤ i ∧ i < l := by
  cases d with
  | int i => exact ⟨i, rfl, by simpa [belowD] using h⟩
  | _ => cases h
theorem okV_row {l : Int} {es : List D} {n : Nat} (h : ∀ e ∈ es, belowD l e = true) : okV (n + 2) (.tup es) = true := by
  rw [okV_tup, List.all_eq_true]
  intro e he
  obtain ⟨i, rfl, _⟩ := belowD_pv (h e he)
  exact okV_int
/-- a right rule -/
structure RuleOk (s l : Int) (r : D) : Prop where
  f : ruleF s l r = none
  o : okV 20 r = true
theorem ruleF_ok {s l : Int} {a b c w ws e : D} (ha : patN 30 s a = true) (hb : patN 30 s b = true) (hc : patN 30 s c = true) (hw : rowD l w = true) (hws : wordsD s l ws = true) (he : rowD l e = true) : ruleF s l (.tup [a, b, c, w, ws, e]) = none := by
  simp [ruleF, ha, hb, hc, hw, hws, he]
theorem rulesF_ok {s l : Int} : ∀ {rs : List D} {i : Nat}, (∀ r ∈ rs, ruleF s l r = none) → rulesF s l i rs = none
  | [], _, _ => rfl
  | r :: rs, i, h => by
    simp only [rulesF, h r (by simp)]
    exact rulesF_ok fun x hx => h x (by simp [hx])

/-! what is made of what may be compared -/
theorem mem_cutD {α : Type} {xs : List α} {lo hi : Option Int} {x : α} (h : x ∈ cutD xs lo hi) : x ∈ xs := List.mem_of_mem_drop (List.mem_of_mem_take h)
theorem okV_cut {n : Nat} {es : List D} {lo hi : Option Int} (h : okV n (.tup es) = true) : okV n (.tup (cutD es lo hi)) = true := by
  cases n with
  | zero => simp [okV] at h
  | succ n =>
    rw [okV_tup, List.all_eq_true] at h ⊢
    exact fun x hx => h x (mem_cutD hx)
theorem okV_app {n : Nat} {xs ys : List D} (h : okV n (.tup xs) = true) (k : okV n (.tup ys) = true) : okV n (.tup (xs ++ ys)) = true := by
  cases n with
  | zero => simp [okV] at h
  | succ n =>
    rw [okV_tup, List.all_eq_true] at h k ⊢
    intro x hx
    rcases List.mem_append.mp hx with z | z
    · exact h x z
    · exact k x z
theorem okV_one {n : Nat} {x : D} (h : okV n x = true) : okV (n + 1) (.tup [x]) = true := by rw [okV_tup]; simpa using h
theorem okV_onel {n : Nat} {x : D} (h : okV n x = true) : okV (n + 1) (.lst [x]) = true := by rw [okV_lst]; simpa using h
theorem okV_two {n : Nat} {x y : D} (h : okV n x = true) (k : okV n y = true) : okV (n + 1) (.tup [x, y]) = true := by rw [okV_tup]; simp [h, k]
theorem okV_four {n : Nat} {x y z u : D} (h : okV n x = true) (k : okV n y = true) (l : okV n z = true) (m : okV n u = true) : okV (n + 1) (.tup [x, y, z, u]) = true := by rw [okV_tup]; simp [h, k, l, m]
theorem okV_tl {n : Nat} {es : List D} (h : okV n (.tup es) = true) : okV n (.lst es) = true := by
  cases n with
  | zero => simp [okV] at h
  | succ n => rw [okV_tup] at h; rw [okV_lst]; exact h
theorem okV_rep {n : Nat} {k : Nat} {xs : List D} (h : okV n (.tup xs) = true) : okV n (.tup (List.replicate k xs).flatten) = true := by
  cases n with
  | zero => simp [okV] at h
  | succ n =>
    rw [okV_tup, List.all_eq_true] at h ⊢
    intro x hx
    obtain ⟨l, hl, hx⟩ := List.mem_flatten.mp hx
    have e := (List.mem_replicate.mp hl).2
    rw [e] at hx
    exact h x hx
theorem okV_nil {n : Nat} : okV (n + 1) (.tup []) = true := rfl
theorem okV_nill {n : Nat} : okV (n + 1) (.lst []) = true := rfl
theorem okV_get {n : Nat} {es : List D} {i : Nat} {x : D} (h : okV (n + 1) (.tup es) = true) (e : es[i]? = some x) : okV n x = true := by
  rw [okV_tup, List.all_eq_true] at h
  exact h x (List.mem_of_getElem? e)
theorem okV_plD {n : Nat} {f : Option (List Int)} : okV (n + 2) (plD f) = true := by
  cases f with
  | none => rfl
  | some ks => show okV (n + 1 + 1) (.tup _) = true; rw [okV_tup]; exact okV_ints
theorem drop_get {α : Type} {xs : List α} {i : Nat} {x : α} (h : xs[i]? = some x) : xs.drop i = x :: xs.drop (i + 1) := by
  obtain ⟨hi, e⟩ := List.getElem?_eq_some_iff.mp h
  rw [List.drop_eq_getElem_cons hi, e]
theorem rIsNot_bls {G : GH} {Q : KD} {a b : Bool} : rIsNot (.bl a) (.bl b) G Q = Q (.bl (!decide (a = b))) G := rfl
/-- the first False -/
def firstF : List Bool → Option Nat
  | [] => none
  | b :: bs => if b = false then some 0 else (firstF bs).map (· + 1)
theorem pyN_bls {G : GH} {p : Addr} {bs : List Bool} (h : G p = some (.lst (bs.map D.bl))) : pyN 60 G (.ref p) = some (.list (bs.map PyData.bool)) := by
  have e : rdL G p = some (bs.map D.bl) := by unfold rdL; rw [h]
  show (match rdL G p with | some ds => (pyL (pyN 59 G) ds).map PyData.list | none => none) = _
  rw [e]
  have : ∀ bs : List Bool, pyL (pyN 59 G) (bs.map D.bl) = some (bs.map PyData.bool) := by
    intro bs
    induction bs with
    | nil => rfl
    | cons b bs ih => simp only [List.map_cons, pyL, ih]; rfl
  simp [this]
theorem eqv_bls {a b : Bool} : PyData.eqv (.bool a) (.bool b) = decide (a = b) := by
  cases a <;> cases b <;> decide
theorem ixE_bls : ∀ {bs : List Bool}, ixE (.bool false) (bs.map PyData.bool) = firstF bs
  | [] => rfl
  | b :: bs => by
    simp only [List.map_cons, ixE, firstF, eqv_bls, decide_eq_true_eq, ixE_bls]
theorem rInF {G : GH} {Q : KD} {p : Addr} {bs : List Bool} (h : G p = some (.lst (bs.map D.bl))) : rIn (.bl false) (.ref p) G Q = Q (.bl (bs.any (!·))) G := by
  unfold rIn
  simp only [rngOf, pyN_bls h, show pyN 60 G (.bl false) = some (.bool false) from rfl]
  congr 2
  rw [List.any_map]
  congr 1
  funext b
  cases b <;> rfl
theorem rIndexF {G : GH} {Q : KD} {p : Addr} {bs : List Bool} {j : Nat} (h : G p = some (.lst (bs.map D.bl))) (e : firstF bs = some j) : rIndexL (.ref p) [.bl false] G Q = Q (.int (j : Nat)) G := by
  unfold rIndexL
  simp only [pyN_bls h, show pyN 60 G (.bl false) = some (.bool false) from rfl, ixE_bls, e]
/-- a rule that is right has six parts -/
theorem ruleF_inv {s l : Int} {r : D} (h : ruleF s l r = none) : ∃ a b c w zs e, r = .tup [a, b, c, w, .tup zs, e] ∧ rowD l w = true ∧ rowD l e = true ∧ wordsD s l (.tup zs) = true := by
  unfold ruleF at h
  split at h
  · rename_i a b c w ws e
    split at h; · cases h
    split at h; · cases h
    split at h; · cases h
    split at h; · cases h
    split at h; · cases h
    split at h; · cases h
    rename_i h1 h2 h3 h4 h5 h6
    rw [Bool.not_eq_false] at h1 h2 h3 h4 h5 h6
    cases ws with
    | tup zs => exact ⟨a, b, c, w, zs, e, rfl, h4, h6, h5⟩
    | _ => cases h5
  · cases h
theorem scanF_nil {d : D} (h : scanF d ≠ some []) : ∃ a b c e, d = .tup [a, b, c, e] := by
  unfold scanF at h
  split at h
  · exact ⟨_, _, _, _, rfl⟩
  · exact absurd rfl h
/-- a right scanner -/
structure ScanOk (s l : Int) (rs : List D) (o : Str) : Prop where
  r : ∀ r ∈ rs, ruleF s l r = none ∧ okV 20 r = true
  oo : okOther s l (.str o) = true
  y : PyData.canLay0 (.str o) = true
  s1 : 1 ≤ s
  s2 : s ≤ 1000
  l1 : 1 ≤ l
  l2 : l ≤ 1000
  n : rs.length ≤ 3
def scanD (s l : Int) (rs : List D) (o : Str) : D := .tup [.int s, .int l, .tup rs, .str o]
theorem ScanOk.f {s l : Int} {rs : List D} {o : Str} (h : ScanOk s l rs o) : scanF (scanD s l rs o) = none := by
  simp only [scanF, scanD, fromD, h.s1, h.l1, decide_true, Bool.true_eq_false, if_false, rulesF_ok fun r x => (h.r r x).1, h.oo, if_true]
theorem ScanOk.v {s l : Int} {rs : List D} {o : Str} (h : ScanOk s l rs o) : okV 22 (scanD s l rs o) = true := by
  refine okV_four okV_int okV_int ?_ (by rw [okV_str]; exact h.y)
  rw [okV_tup, List.all_eq_true]
  exact fun r x => (h.r r x).2
/-- what may be compared, of lists and tuples that are not too long -/
def smV : Nat → D → Bool
  | 0, _ => false
  | n + 1, d => match d with
    | .non => true
    | .bl _ => true
    | .int _ => true
    | .str x => PyData.canLay0 (.str x)
    | .tup ds => decide (ds.length ≤ 100000) && ds.all (smV n)
    | .lst ds => decide (ds.length ≤ 100000) && ds.all (smV n)
    | _ => false
theorem smV_okV : ∀ {n : Nat} {d : D}, smV n d = true → okV n d = true
  | 0, _, h => by cases h
  | n + 1, d, h => by
    cases d with
    | tup ds =>
      rw [okV_tup, List.all_eq_true]
      have := (Bool.and_eq_true _ _ ▸ h : (decide (ds.length ≤ 100000) = true ∧ ds.all (smV n) = true)).2
      rw [List.all_eq_true] at this
      exact fun x hx => smV_okV (this x hx)
    | lst ds =>
      rw [okV_lst, List.all_eq_true]
      have := (Bool.and_eq_true _ _ ▸ h : (decide (ds.length ≤ 100000) = true ∧ ds.all (smV n) = true)).2
      rw [List.all_eq_true] at this
      exact fun x hx => smV_okV (this x hx)
    | _ => exact h
theorem smV_tup {n : Nat} {ds : List D} : smV (n + 1) (.tup ds) = true ↔ ds.length ≤ 100000 ∧ ∀ d ∈ ds, smV n d = true := by
  simp [smV, List.all_eq_true]
theorem smV_lst {n : Nat} {ds : List D} : smV (n + 1) (.lst ds) = true ↔ ds.length ≤ 100000 ∧ ∀ d ∈ ds, smV n d = true := by
  simp [smV, List.all_eq_true]
theorem smV_plD {n : Nat} {f : Option (List Int)} (h : ∀ ks, f = some ks → ks.length ≤ 100000) : smV (n + 2) (plD f) = true := by
  cases f with
  | none => rfl
  | some ks =>
    refine smV_tup.mpr ⟨by simpa using h ks rfl, fun d hd => ?_⟩
    obtain ⟨i, _, rfl⟩ := List.mem_map.mp hd
    rfl
theorem ruleF_len {s l : Int} {r : D} {ks : List Int} (h : ruleF s l r = some ks) : ks.length ≤ 1 := by
  unfold ruleF at h
  split at h
  · repeat' (split at h)
    all_goals first | (cases h; decide) | cases h
  · cases h; decide
theorem rulesF_len {s l : Int} : ∀ {rs : List D} {i : Nat} {ks : List Int}, rulesF s l i rs = some ks → ks.length ≤ 3
  | [], _, _, h => by cases h
  | r :: rs, i, ks, h => by
    unfold rulesF at h
    split at h
    · exact rulesF_len h
    · rename_i e; cases h; have := ruleF_len e; simp; omega
theorem scanF_len {d : D} {ks : List Int} (h : scanF d = some ks) : ks.length ≤ 100000 := by
  unfold scanF at h
  split at h
  · repeat' (split at h)
    all_goals first | (cases h; done) | (cases h; decide) | skip
    all_goals (cases h; rename_i e; have := rulesF_len e; omega)
  · cases h; decide
/-- the third member is not too long -/
def LenOk (d : D) : Prop := ∀ a b rs e, d = .tup [a, b, .tup rs, e] → rs.length ≤ 100000
theorem cutD_len {α : Type} {xs : List α} {lo hi : Option Int} : (cutD xs lo hi).length ≤ xs.length := by
  unfold cutD
  rw [List.length_take, List.length_drop]
  omega
theorem LenOk.not {d : D} (h : ∀ a b rs e, d ≠ .tup [a, b, .tup rs, e]) : LenOk d := fun a b rs e x => absurd x (h a b rs e)
end DL
namespace DL
open PySem PySem.Spec PyProof.Rows L2
/-! try .. except X as e: y = isinstance(e, Z) -/
/-- the caught exception's class D: what isinstance asks; e stands in slot i, y in slot k -/
def sTryIs (b : WD → MS) (K : PySem.W.Frag) (c : Value) (i k : Nat) (z : Value) (Wout : WD) : MS := fun N δ G =>
  b (fun cls fld δ' G' => match PySem.W.exmOne K cls c with
    | some true => ∃ (D : Addr) (r : Bool), cls = .ref D ∧ fld = none ∧ ExcC K D ∧ PySem.W.kitOne K (.ref D) z = some r ∧ N.nx ((δ'.set k (some (.bl r))).set i none) G'
    | some false => Wout cls fld δ' G'
    | none => False) N δ G
theorem RS.gone {K : PySem.W.Frag} {H : Hp} {δ : Sl} {σ : L2.St} {i : Nat} (r : RS K H δ σ) : RS K H (δ.set i none) (σ.set i none) := fun j d e => by
  by_cases h : j = i
  · subst h
    by_cases l : j < δ.length
    · rw [List.getElem?_set_self l] at e; cases e
    · rw [List.getElem?_eq_none (by simpa using l)] at e; cases e
  · rw [List.getElem?_set_ne (Ne.symm h)] at e ⊢
    exact r j d e
section
variable {X : Cx} {G0 : GH} {H0 : Hp} {x y n z : Str} {i k : Nat} {C2 : Addr} {body : List Stmt} {np yp p1 p2 p3 pos pos1 apos pos' : Pos} {tb : WD → MS} {W : WD} {c : Value}
theorem ds_tryIs (hs : X.stack = X.env :: X.outer) (hf : X.env.frame = some X.env.locals) (hN : X.N.Nodup) (hi : X.N[i]? = some n) (hln : X.env.kindOf n = some .local) (hc : Names X x c) (tk : Takes X (lwD X.K G0 H0 W))
    (hk : X.N[k]? = some y) (hik : i ≠ k) (hm : X.mg "isinstance" = none) (hz : X.mg z = some (.ref C2))
    (hb : ∀ (W : WD) (pn : List (Addr × Obj)) (xe : Value → Shared → Prop) (G1 : GH) (H1 : Hp), Takes (X.tr pn xe) (lwD X.K G1 H1 W) → PassesOwn (model X.prog X.w) X.A X.env xe → DSs (X.tr pn xe) G1 H1 body (tb W))
    (hsu : ∀ (a : Addr) (oe : Obj) (D : Addr) (pn : List (Addr × Obj)), ExcC X.K D → Zc (.ref D) none oe → (∃ vs, oe.data = .fields vs) →
      PSs (X.suite a ((a, oe) :: pn)) [.Assign [.Name y yp] (.Call (.Name "isinstance" p1) [.Name n p2, .Name z p3] [] pos1) apos] (tAsg (tCB (rIsE X.K D a) (tCons (tVar i) (tCons (tC (.ref C2)) tNil))) (gName k))) :
    DS X G0 H0 (.Try body [.ExceptHandler (some (.Name x np)) (some n) [.Assign [.Name y yp] (.Call (.Name "isinstance" p1) [.Name n p2, .Name z p3] [] pos1) apos] pos'] [] [] pos) (sTryIs tb X.K c i k (.ref C2) W) := by
  refine L2.PS.dimp (ps_try_as (tb := fun Wv E σ H => ∃ δ G N Wd, Rl X.K G0 H0 δ G σ H ∧ tb Wd N δ G ∧ LE X.K G H N E ∧ ∀ cls dx σ' H', lwD X.K G H Wd cls dx σ' H' → Wv cls dx σ' H')
    (ts := fun a cls d E σ H => ∃ (D : Addr) (r : Bool), cls = .ref D ∧ d = none ∧ ExcC X.K D ∧ PySem.W.kitOne X.K (.ref D) (.ref C2) = some r ∧ (i < σ.length → k < σ.length → σ[i]? = some (some (.ref a)) ∧ E.nx (σ.set k (some (.bl r))) H)) hs hf hN hi hln hc tk ?_ ?_) ?_
  · intro Wv pn xe tk' po
    refine ⟨fun pins s σ H E I ⟨δ, G, N, Wd, R, h, l, imp⟩ => ?_⟩
    exact (hb Wd pn xe G H (tk'.imp imp) po).run pins s σ H E I ⟨δ, G, N, ⟨Fr.refl, R.rs, R.rh⟩, h, l⟩
  · intro a oe cls d pn hz1 hv
    refine ⟨fun pins s σ H E I ⟨D, r, e1, e2, ec, ek, q⟩ => ?_⟩
    subst e1 e2
    have li : i < σ.length := by rw [I.len]; exact (List.getElem?_eq_some_iff.mp hi).1
    have lk : k < σ.length := by rw [I.len]; exact (List.getElem?_eq_some_iff.mp hk).1
    obtain ⟨ei, q⟩ := q li lk
    refine (hsu a oe D pn ec hz1 hv).run pins s σ H E I ?_
    exact ⟨_, ei, _, _, r, rfl, fun u h => h, ek, q⟩
  · intro E σ H ⟨δ, G, N, R, h, l⟩
    refine ⟨δ, G, N, _, R, h, l, ?_⟩
    intro cls dx σ' H' ⟨δ', G', fld, R', ff, w⟩
    dsimp only at w
    split at w
    · rename_i e
      obtain ⟨D, r, rfl, rfl, ec, ek, q⟩ := w
      refine ⟨true, e, fun _ a na => ?_, (fun z => nomatch z)⟩
      have dn : dx = none := by
        cases dx with
        | none => rfl
        | some p => simp [FldR] at ff
      refine ⟨D, r, rfl, dn, ec, ek, fun li lk => ⟨by rw [List.getElem?_set_self (by simpa using li)], ?_⟩⟩
      rw [List.length_set] at li lk
      have R2 := R'.rs.set (RD.bl r (K := X.K) (H := H')) lk
      have R3 := RS.gone (i := i) R2
      have e2 : ((σ'.set i (some (V.ref a))).set k (some (.bl r))).set i none = (σ'.set k (some (.bl r))).set i none := by
        rw [List.set_comm _ _ hik, List.set_set]
      have := (l.step R'.fr).nx _ H' _ G' Fr.refl R3 R'.rh q
      rw [← e2] at this
      exact this
    · rename_i e
      exact ⟨false, e, (fun z => nomatch z), fun _ => ⟨δ', G', fld, R.stepS R'.fr R'.rs R'.rh, ff, w⟩⟩
    · exact w.elim
end
end DL
namespace k50
open PySem PySem.Spec PyProof.Rows L2 DL
/-- where the defs and the classes stand -/
structure Ad where
  is_integer : Addr
  is_from : Addr
  is_below : Addr
  is_tuple : Addr
  check_signs : Addr
  is_pattern_in : Addr
  is_pattern : Addr
  law_cup : Addr
  law_draw : Addr
  law_pick : Addr
  law_same : Addr
  law_size : Addr
  law_pattern : Addr
  law_judged : Addr
  law_odd : Addr
  law_within : Addr
  law_refused : Addr
  law : Addr
  TurnError : Addr
  InvalidNumber : Addr
end k50
namespace k50
open PySem PySem.Spec PyProof.Rows DL
def sp_is_integer (A : Ad) : SpD := fun ds G Q E => ∃ d, ds = [d] ∧ pv d = true ∧ Q (.bl (isIntD d)) G
def sp_is_tuple (A : Ad) : SpD := fun ds G Q E => ∃ m d, ds = [m, d] ∧ pv d = true ∧ ∃ k, kOf m k ∧ Q (.bl (tupK' k d)) G
def sp_law_cup (A : Ad) : SpD := fun ds G Q E => ∃ (ns : List Int) (t : Nat), ds = [.lst (ns.map .int), .int ((t : Nat) : Int)] ∧ t ≤ 1000 ∧ ∀ r G', Cup G' r → LeG G G' → Q (.ref r) G'
def sp_law_draw (A : Ad) : SpD := fun ds G Q E => ∃ (a : Addr) (m : Int), ds = [.ref a, .int m] ∧ 0 < m ∧ m < 2 ^ 62 ∧ Cup G a ∧ ∀ k G', 0 ≤ k → k < m → Cup G' a → Up [a] G G' → Q (.int k) G'
def sp_is_from (A : Ad) : SpD := fun ds G Q E => ∃ l d, ds = [.int l, d] ∧ pv d = true ∧ Q (.bl (fromD l d)) G
def sp_law_pick (A : Ad) : SpD := fun ds G Q E => ∃ (a : Addr) (x : D) (xs : List D), ds = [.ref a, x] ∧ (x = .lst xs ∨ x = .tup xs) ∧ 0 < xs.length ∧ xs.length < 2 ^ 62 ∧ Cup G a ∧ ∀ d ∈ xs, ∀ G', Cup G' a → Up [a] G G' → Q d G'
def sp_is_below (A : Ad) : SpD := fun ds G Q E => ∃ m d, ds = [.int m, d] ∧ pv d = true ∧ Q (.bl (belowD m d)) G
def sp_check_signs (A : Ad) : SpD := fun ds G Q E => ∃ d, ds = [d] ∧ pv d = true ∧ (fromD 1 d = true → Q .non G) ∧ (fromD 1 d = false → E (.ref A.InvalidNumber) none G)
def sp_law_odd (A : Ad) : SpD := fun ds G Q E => ∃ (a : Addr) (s : Int) (es : List D), ds = [.ref a, .int s, .tup es] ∧ okV 18 (.tup es) = true ∧ Cup G a ∧ ∀ d G', okV 24 d = true → Cup G' a → Up [a] G G' → Q d G'
def sp_law_size (A : Ad) : Nat → SpD
  | 0 => fun _ _ _ _ => False
  | n + 1 => fun ds G Q E => ∃ s d, ds = [d] ∧ patN (n + 1) s d = true ∧ okV (n + 1) d = true ∧ n ≤ 40 ∧ ∀ k : Int, 1 ≤ k → Q (.int k) G
def sp_law_same (A : Ad) : Nat → SpD
  | 0 => fun _ _ _ _ => False
  | n + 1 => fun ds G Q E => ∃ x, ds = [x, x] ∧ smV (n + 1) x = true ∧ n ≤ 40 ∧ Q (.bl true) G
def sp_law_pattern (A : Ad) : Nat → SpD
  | 0 => fun _ _ _ _ => False
  | n + 1 => fun ds G Q E => ∃ (a : Addr) (s m : Int), ds = [.ref a, .int s, .int m] ∧ 1 ≤ s ∧ s ≤ 1000 ∧ 1 ≤ m ∧ m ≤ n + 1 ∧ n ≤ 8 ∧ Cup G a ∧ ∀ d G', patN (n + 1) s d = true → okV (2 * (n + 1)) d = true → Cup G' a → Up [a] G G' → Q d G'
def sp_law_judged (A : Ad) : Nat → SpD
  | 0 => fun _ _ _ _ => False
  | n + 1 => fun ds G Q E => ∃ s d, ds = [.int s, d] ∧ okV (n + 1) d = true ∧ n ≤ 40 ∧ Q (.bl (patN (n + 1) s d)) G
def sp_law_within (A : Ad) : SpD := fun ds G Q E => ∃ (a : Addr) (s : Int) (v : D), ds = [.ref a, .int s, v] ∧ ∃ n : Nat, 1 ≤ s ∧ s ≤ 1000 ∧ okV n v = true ∧ 18 ≤ n ∧ Cup G a ∧ ∀ d G', okV (n + 2) d = true → Cup G' a → Up [a] G G' → Q d G'
def sp_is_pattern_in (A : Ad) : Nat → SpD
  | 0 => fun _ _ _ _ => False
  | n + 1 => fun ds G Q E => ∃ s d, ds = [.int s, d] ∧ okV (n + 1) d = true ∧ n ≤ 40 ∧ Q (.bl (patN (n + 1) s d)) G
def sp_is_pattern (A : Ad) : SpD := fun ds G Q E => ∃ m d, ds = [m, d] ∧ pv m = true ∧ okV 30 d = true ∧ (∀ s, m = .int s → 1 ≤ s → Q (.bl (patN 30 s d)) G) ∧ (fromD 1 m = false → E (.ref A.InvalidNumber) none G)
def sp_law_refused (A : Ad) : SpD := fun ds G Q E => ∃ m d, ds = [m, d] ∧ pv m = true ∧ okV 30 d = true ∧ fromD 1 m = false ∧ Q (.bl true) G
abbrev sp_law (A : Ad) : SpD := spLaw
end k50
namespace k50
open PySem PySem.Spec PyProof.Rows L2 DL
def topS (i : Nat) : Stmt := PySem.Challenge.pw_textsturned_k50_patterns_judged.main.body.getD i (.Pass ⟨0, 0, 0, 0⟩)
abbrev s_is_integer : Stmt := topS 4
abbrev N_is_integer : List Str := ["thing"]
theorem sc_is_integer : FnScope N_is_integer ["thing"] (defScope s_is_integer) := ⟨rfl, rfl, rfl, by decide +kernel, rfl, by decide +kernel, by decide +kernel⟩
abbrev s_is_tuple : Stmt := topS 7
abbrev N_is_tuple : List Str := ["many", "thing"]
theorem sc_is_tuple : FnScope N_is_tuple ["many", "thing"] (defScope s_is_tuple) := ⟨rfl, rfl, rfl, by decide +kernel, rfl, by decide +kernel, by decide +kernel⟩
abbrev s_law_cup : Stmt := topS 13
abbrev N_law_cup : List Str := ["script", "at", "cell"]
theorem sc_law_cup : FnScope N_law_cup ["script", "at"] (defScope s_law_cup) := ⟨rfl, rfl, rfl, by decide +kernel, rfl, by decide +kernel, by decide +kernel⟩
abbrev s_law_draw : Stmt := topS 14
abbrev N_law_draw : List Str := ["cup", "many", "digit", "one"]
theorem sc_law_draw : FnScope N_law_draw ["cup", "many"] (defScope s_law_draw) := ⟨rfl, rfl, rfl, by decide +kernel, rfl, by decide +kernel, by decide +kernel⟩
abbrev s_is_from : Stmt := topS 5
abbrev N_is_from : List Str := ["low", "thing"]
theorem sc_is_from : FnScope N_is_from ["low", "thing"] (defScope s_is_from) := ⟨rfl, rfl, rfl, by decide +kernel, rfl, by decide +kernel, by decide +kernel⟩
abbrev s_law_pick : Stmt := topS 15
abbrev N_law_pick : List Str := ["cup", "rows"]
theorem sc_law_pick : FnScope N_law_pick ["cup", "rows"] (defScope s_law_pick) := ⟨rfl, rfl, rfl, by decide +kernel, rfl, by decide +kernel, by decide +kernel⟩
abbrev s_is_below : Stmt := topS 6
abbrev N_is_below : List Str := ["many", "thing"]
theorem sc_is_below : FnScope N_is_below ["many", "thing"] (defScope s_is_below) := ⟨rfl, rfl, rfl, by decide +kernel, rfl, by decide +kernel, by decide +kernel⟩
abbrev s_check_signs : Stmt := topS 8
abbrev N_check_signs : List Str := ["thing"]
theorem sc_check_signs : FnScope N_check_signs ["thing"] (defScope s_check_signs) := ⟨rfl, rfl, rfl, by decide +kernel, rfl, by decide +kernel, by decide +kernel⟩
abbrev s_law_odd : Stmt := topS 20
abbrev N_law_odd : List Str := ["cup", "signs", "pattern", "some"]
theorem sc_law_odd : FnScope N_law_odd ["cup", "signs", "pattern"] (defScope s_law_odd) := ⟨rfl, rfl, rfl, by decide +kernel, rfl, by decide +kernel, by decide +kernel⟩
abbrev s_law_size : Stmt := topS 17
abbrev N_law_size : List Str := ["pattern", "one"]
theorem sc_law_size : FnScope N_law_size ["pattern"] (defScope s_law_size) := ⟨rfl, rfl, rfl, by decide +kernel, rfl, by decide +kernel, by decide +kernel⟩
abbrev s_law_same : Stmt := topS 16
abbrev N_law_same : List Str := ["found", "due", "k"]
theorem sc_law_same : FnScope N_law_same ["found", "due"] (defScope s_law_same) := ⟨rfl, rfl, rfl, by decide +kernel, rfl, by decide +kernel, by decide +kernel⟩
abbrev s_law_pattern : Stmt := topS 18
abbrev N_law_pattern : List Str := ["cup", "signs", "most", "way", "parts", "left", "turn"]
theorem sc_law_pattern : FnScope N_law_pattern ["cup", "signs", "most"] (defScope s_law_pattern) := ⟨rfl, rfl, rfl, by decide +kernel, rfl, by decide +kernel, by decide +kernel⟩
abbrev s_law_judged : Stmt := topS 19
abbrev N_law_judged : List Str := ["signs", "value", "word", "one"]
theorem sc_law_judged : FnScope N_law_judged ["signs", "value"] (defScope s_law_judged) := ⟨rfl, rfl, rfl, by decide +kernel, rfl, by decide +kernel, by decide +kernel⟩
abbrev s_law_within : Stmt := topS 21
abbrev N_law_within : List Str := ["cup", "signs", "value", "way", "other"]
theorem sc_law_within : FnScope N_law_within ["cup", "signs", "value"] (defScope s_law_within) := ⟨rfl, rfl, rfl, by decide +kernel, rfl, by decide +kernel, by decide +kernel⟩
abbrev s_is_pattern_in : Stmt := topS 10
abbrev N_is_pattern_in : List Str := ["signs", "thing", "word", "one"]
theorem sc_is_pattern_in : FnScope N_is_pattern_in ["signs", "thing"] (defScope s_is_pattern_in) := ⟨rfl, rfl, rfl, by decide +kernel, rfl, by decide +kernel, by decide +kernel⟩
abbrev s_is_pattern : Stmt := topS 11
abbrev N_is_pattern : List Str := ["signs", "value"]
theorem sc_is_pattern : FnScope N_is_pattern ["signs", "value"] (defScope s_is_pattern) := ⟨rfl, rfl, rfl, by decide +kernel, rfl, by decide +kernel, by decide +kernel⟩
abbrev s_law_refused : Stmt := topS 22
abbrev N_law_refused : List Str := ["signs", "value", "found", "e"]
theorem sc_law_refused : FnScope N_law_refused ["signs", "value"] (defScope s_law_refused) := ⟨rfl, rfl, rfl, by decide +kernel, rfl, by decide +kernel, by decide +kernel⟩
abbrev s_law : Stmt := topS 23
abbrev N_law : List Str := ["script", "at", "cup", "signs", "pattern", "small", "turn", "value", "depth", "fewer", "many"]
theorem sc_law : FnScope N_law ["script"] (defScope s_law) := ⟨rfl, rfl, rfl, by decide +kernel, rfl, by decide +kernel, by decide +kernel⟩
/-- what stands behind the top -/
structure Tx (K : PySem.W.Frag) (mg : Str → Option Value) (A : Ad) where
  n_abs : mg "abs" = none
  n_all : mg "all" = none
  n_bool : mg "bool" = none
  n_int : mg "int" = none
  n_isinstance : mg "isinstance" = none
  n_len : mg "len" = none
  n_list : mg "list" = none
  n_range : mg "range" = none
  n_str : mg "str" = none
  n_sum : mg "sum" = none
  n_tuple : mg "tuple" = none
  x_InvalidNumber : Xc K mg "InvalidNumber" A.InvalidNumber
  ec_InvalidNumber : L2.ExcC K A.InvalidNumber
  e_InvalidNumber_InvalidNumber : PySem.W.exmOne K (.ref A.InvalidNumber) (.ref A.InvalidNumber) = some true
  e_InvalidNumber_TurnError : PySem.W.exmOne K (.ref A.InvalidNumber) (.ref A.TurnError) = some true
  x_TurnError : Xc K mg "TurnError" A.TurnError
  ec_TurnError : L2.ExcC K A.TurnError
  e_TurnError_InvalidNumber : PySem.W.exmOne K (.ref A.TurnError) (.ref A.InvalidNumber) = some false
  e_TurnError_TurnError : PySem.W.exmOne K (.ref A.TurnError) (.ref A.TurnError) = some true
  d_is_integer : FuncData
  F_is_integer : Fun K "is_integer" "is_integer" s_is_integer A.is_integer d_is_integer
  g_is_integer : mg "is_integer" = some (.ref A.is_integer)
  k_is_integer : PySem.W.keepIn K (.ref A.is_integer) = true
  b_is_integer : Binds K d_is_integer ["thing"] []
  d_is_tuple : FuncData
  F_is_tuple : Fun K "is_tuple" "is_tuple" s_is_tuple A.is_tuple d_is_tuple
  g_is_tuple : mg "is_tuple" = some (.ref A.is_tuple)
  k_is_tuple : PySem.W.keepIn K (.ref A.is_tuple) = true
  b_is_tuple : Binds K d_is_tuple ["many", "thing"] []
  d_law_cup : FuncData
  F_law_cup : Fun K "_law_cup" "_law_cup" s_law_cup A.law_cup d_law_cup
  g_law_cup : mg "_law_cup" = some (.ref A.law_cup)
  k_law_cup : PySem.W.keepIn K (.ref A.law_cup) = true
  b_law_cup : Binds K d_law_cup ["script", "at"] []
  d_law_draw : FuncData
  F_law_draw : Fun K "_law_draw" "_law_draw" s_law_draw A.law_draw d_law_draw
  g_law_draw : mg "_law_draw" = some (.ref A.law_draw)
  k_law_draw : PySem.W.keepIn K (.ref A.law_draw) = true
  b_law_draw : Binds K d_law_draw ["cup", "many"] []
  d_is_from : FuncData
  F_is_from : Fun K "is_from" "is_from" s_is_from A.is_from d_is_from
  g_is_from : mg "is_from" = some (.ref A.is_from)
  k_is_from : PySem.W.keepIn K (.ref A.is_from) = true
  b_is_from : Binds K d_is_from ["low", "thing"] []
  d_law_pick : FuncData
  F_law_pick : Fun K "_law_pick" "_law_pick" s_law_pick A.law_pick d_law_pick
  g_law_pick : mg "_law_pick" = some (.ref A.law_pick)
  k_law_pick : PySem.W.keepIn K (.ref A.law_pick) = true
  b_law_pick : Binds K d_law_pick ["cup", "rows"] []
  d_is_below : FuncData
  F_is_below : Fun K "is_below" "is_below" s_is_below A.is_below d_is_below
  g_is_below : mg "is_below" = some (.ref A.is_below)
  k_is_below : PySem.W.keepIn K (.ref A.is_below) = true
  b_is_below : Binds K d_is_below ["many", "thing"] []
  d_check_signs : FuncData
  F_check_signs : Fun K "check_signs" "check_signs" s_check_signs A.check_signs d_check_signs
  g_check_signs : mg "check_signs" = some (.ref A.check_signs)
  k_check_signs : PySem.W.keepIn K (.ref A.check_signs) = true
  b_check_signs : Binds K d_check_signs ["thing"] []
  d_law_odd : FuncData
  F_law_odd : Fun K "_law_odd" "_law_odd" s_law_odd A.law_odd d_law_odd
  g_law_odd : mg "_law_odd" = some (.ref A.law_odd)
  k_law_odd : PySem.W.keepIn K (.ref A.law_odd) = true
  b_law_odd : Binds K d_law_odd ["cup", "signs", "pattern"] []
  d_law_size : FuncData
  F_law_size : Fun K "_law_size" "_law_size" s_law_size A.law_size d_law_size
  g_law_size : mg "_law_size" = some (.ref A.law_size)
  k_law_size : PySem.W.keepIn K (.ref A.law_size) = true
  b_law_size : Binds K d_law_size ["pattern"] []
  d_law_same : FuncData
  F_law_same : Fun K "_law_same" "_law_same" s_law_same A.law_same d_law_same
  g_law_same : mg "_law_same" = some (.ref A.law_same)
  k_law_same : PySem.W.keepIn K (.ref A.law_same) = true
  b_law_same : Binds K d_law_same ["found", "due"] []
  d_law_pattern : FuncData
  F_law_pattern : Fun K "_law_pattern" "_law_pattern" s_law_pattern A.law_pattern d_law_pattern
  g_law_pattern : mg "_law_pattern" = some (.ref A.law_pattern)
  k_law_pattern : PySem.W.keepIn K (.ref A.law_pattern) = true
  b_law_pattern : Binds K d_law_pattern ["cup", "signs", "most"] []
  d_law_judged : FuncData
  F_law_judged : Fun K "_law_judged" "_law_judged" s_law_judged A.law_judged d_law_judged
  g_law_judged : mg "_law_judged" = some (.ref A.law_judged)
  k_law_judged : PySem.W.keepIn K (.ref A.law_judged) = true
  b_law_judged : Binds K d_law_judged ["signs", "value"] []
  d_law_within : FuncData
  F_law_within : Fun K "_law_within" "_law_within" s_law_within A.law_within d_law_within
  g_law_within : mg "_law_within" = some (.ref A.law_within)
  k_law_within : PySem.W.keepIn K (.ref A.law_within) = true
  b_law_within : Binds K d_law_within ["cup", "signs", "value"] []
  d_is_pattern_in : FuncData
  F_is_pattern_in : Fun K "is_pattern_in" "is_pattern_in" s_is_pattern_in A.is_pattern_in d_is_pattern_in
  g_is_pattern_in : mg "is_pattern_in" = some (.ref A.is_pattern_in)
  k_is_pattern_in : PySem.W.keepIn K (.ref A.is_pattern_in) = true
  b_is_pattern_in : Binds K d_is_pattern_in ["signs", "thing"] []
  d_is_pattern : FuncData
  F_is_pattern : Fun K "is_pattern" "is_pattern" s_is_pattern A.is_pattern d_is_pattern
  g_is_pattern : mg "is_pattern" = some (.ref A.is_pattern)
  k_is_pattern : PySem.W.keepIn K (.ref A.is_pattern) = true
  b_is_pattern : Binds K d_is_pattern ["signs", "value"] []
  d_law_refused : FuncData
  F_law_refused : Fun K "_law_refused" "_law_refused" s_law_refused A.law_refused d_law_refused
  g_law_refused : mg "_law_refused" = some (.ref A.law_refused)
  k_law_refused : PySem.W.keepIn K (.ref A.law_refused) = true
  b_law_refused : Binds K d_law_refused ["signs", "value"] []
  d_law : FuncData
  F_law : Fun K "law" "law" s_law A.law d_law
  g_law : mg "law" = some (.ref A.law)
  k_law : PySem.W.keepIn K (.ref A.law) = true
  b_law : Binds K d_law ["script"] []
  kw_is_pattern_0_value_signs : BindsK K d_is_pattern ["signs", "value"] ["value", "signs"] [1, 0] 0
section
variable {P : Program} {w : World} {K : PySem.W.Frag} {mg : Str → Option Value} {base : Heap} {A : Ad}
def m_is_integer (K : PySem.W.Frag) (A : Ad) (W : WD) : MS :=
  sW (sRet (mAnd (mIsi .int (mVar 0)) (mNot (mIsi .bool (mVar 0)))))
set_option maxHeartbeats 8000000 in
theorem der_is_integer (T : Tx K mg A)  {f : Addr} {cdv : Value} {AA : Around} {outer : List Env} {s : Shared} {H : Hp} {G : GH} {E : XD} (C : Ctx 0 (AA.deeper (envOfC "is_integer" (defScope s_is_integer) s.heap.objs.size f cdv))) :
    DSs (cxD P w K mg base N_is_integer "is_integer" s_is_integer f cdv AA outer s H G E) G H (defBody s_is_integer) (m_is_integer K A (wE E)) :=
  dss_w (dss_one (ds_ret (d_and (d_isi .int T.n_isinstance (dv 0) (pe_bltn (v := .ty "int") (by rfl) T.n_int (by decide +kernel) rfl)) (d_one (d_not (d_isi .bool T.n_isinstance (dv 0) (pe_bltn (v := .ty "bool") (by rfl) T.n_bool (by decide +kernel) rfl)))))))
def m_is_tuple (K : PySem.W.Frag) (A : Ad) (W : WD) : MS :=
  sW (sRet (mAnd (mIsi .tuple (mVar 1)) (mOr (mOp rIs (mVar 0) (mC .non)) (mOp rEq (mB rLen (aCons (mVar 1) (aNil))) (mVar 0)))))
set_option maxHeartbeats 8000000 in
theorem der_is_tuple (T : Tx K mg A)  {f : Addr} {cdv : Value} {AA : Around} {outer : List Env} {s : Shared} {H : Hp} {G : GH} {E : XD} (C : Ctx 0 (AA.deeper (envOfC "is_tuple" (defScope s_is_tuple) s.heap.objs.size f cdv))) :
    DSs (cxD P w K mg base N_is_tuple "is_tuple" s_is_tuple f cdv AA outer s H G E) G H (defBody s_is_tuple) (m_is_tuple K A (wE E)) :=
  dss_w (dss_one (ds_ret (d_and (d_isi .tuple T.n_isinstance (dv 1) (pe_bltn (v := .ty "tuple") (by rfl) T.n_tuple (by decide +kernel) rfl)) (d_one (d_or (d_cmp o_is (dv 0) (d_non) (nomark _)) (d_one (d_cmp (o_eq C.u64) (d_callB c_len T.n_len (by decide +kernel) (da_cons (dv 1) (da_nil))) (dv 0) (nomark _))))))))
def m_law_cup (K : PySem.W.Frag) (A : Ad) (W : WD) : MS :=
  sW (sSeq (sAsg (mIf (tCmpD (rOrd .lt) (mVar 1) (mB rLen (aCons (mVar 0) (aNil)))) (mB rInt (aCons (mB rAbs (aCons (mOp rIx (mVar 0) (mVar 1)) (aNil))) (aNil))) (mOp rAdd (mOp rMul (mC (.int 17)) (mVar 1)) (mC (.int 3)))) (gN 2))
    (sSeq (sAsg (mOp rMod (mB rInt (aCons (mVar 2) (aNil))) (mOp rMul (mOp rMul (mOp rMul (mOp rMul (mOp rPow (mC (.int 10)) (mC (.int 50))) (mOp rPow (mC (.int 10)) (mC (.int 50)))) (mOp rPow (mC (.int 10)) (mC (.int 50)))) (mOp rPow (mC (.int 10)) (mC (.int 50)))) (mOp rPow (mC (.int 10)) (mC (.int 50))))) (gN 2))
    (sRet (mLst (aCons (mVar 2) (aCons (mB rInt (aCons (mOp (rOrd .ge) (mVar 2) (mOp rPow (mC (.int 10)) (mC (.int 18)))) (aNil))) (aCons (mOp rMul (mC (.int 11)) (mVar 1)) (aNil))))))))
set_option maxHeartbeats 8000000 in
theorem der_law_cup (T : Tx K mg A)  {f : Addr} {cdv : Value} {AA : Around} {outer : List Env} {s : Shared} {H : Hp} {G : GH} {E : XD} (C : Ctx 0 (AA.deeper (envOfC "_law_cup" (defScope s_law_cup) s.heap.objs.size f cdv))) :
    DSs (cxD P w K mg base N_law_cup "_law_cup" s_law_cup f cdv AA outer s H G E) G H (defBody s_law_cup) (m_law_cup K A (wE E)) :=
  dss_w (dss_cons (ds_set (i := 2) sc_law_cup.nd (d_if (dt_cmp (o_lt C.u128) (dv 1) (d_callB c_len T.n_len (by decide +kernel) (da_cons (dv 0) (da_nil))) (nomark _)) (d_callTy c_int T.n_int (by decide +kernel) (da_cons (d_callB c_abs T.n_abs (by decide +kernel) (da_cons (d_ix (dv 0) (dv 1)) (da_nil))) (da_nil))) (d_op o_add (d_op o_mul (d_int) (dv 1)) (d_int))))
    (dss_cons (ds_set (i := 2) sc_law_cup.nd (d_op o_mod (d_callTy c_int T.n_int (by decide +kernel) (da_cons (dv 2) (da_nil))) (d_op o_mul (d_op o_mul (d_op o_mul (d_op o_mul (d_op o_pow (d_int) (d_int)) (d_op o_pow (d_int) (d_int))) (d_op o_pow (d_int) (d_int))) (d_op o_pow (d_int) (d_int))) (d_op o_pow (d_int) (d_int)))))
    (dss_one (ds_ret (d_lst (da_cons (dv 2) (da_cons (d_callTy c_int T.n_int (by decide +kernel) (da_cons (d_cmp (o_ge C.u128) (dv 2) (d_op o_pow (d_int) (d_int)) (nomark _)) (da_nil))) (da_cons (d_op o_mul (d_int) (dv 1)) (da_nil)))))))))
def m_law_draw (K : PySem.W.Frag) (A : Ad) (W : WD) : MS :=
  sW (sSeq (sAsg (mOp rAdd (mOp rIx (mVar 0) (mC (.int 2))) (mC (.int 1))) (gSubD (mVar 0) (mC (.int 2))))
    (sSeq (sIf (tAnd (tCmpD rEq (mOp rIx (mVar 0) (mC (.int 1))) (mC (.int 1))) (tCmpD (rOrd .gt) (mOp rIx (mVar 0) (mC (.int 0))) (mC (.int 0)))) (sSeq (sAsg (mOp rMod (mB rInt (aCons (mOp rIx (mVar 0) (mC (.int 0))) (aNil))) (mVar 1)) (gN 2))
    (sSeq (sAsg (mOp rFdiv (mOp rIx (mVar 0) (mC (.int 0))) (mVar 1)) (gSubD (mVar 0) (mC (.int 0))))
    (sRet (mVar 2)))) (sNext))
    (sSeq (sAsg (mOp rMod (mB rInt (aCons (mOp rAdd (mOp rMul (mOp rAdd (mOp rAdd (mOp rIx (mVar 0) (mC (.int 0))) (mOp rMul (mC (.int 7919)) (mOp rIx (mVar 0) (mC (.int 2))))) (mC (.int 11))) (mC (.int 48271))) (mC (.int 173))) (aNil))) (mC (.int 2147483587))) (gN 3))
    (sSeq (sAsg (mOp rMod (mB rInt (aCons (mOp rAdd (mOp rMul (mVar 3) (mVar 3)) (mOp rMul (mC (.int 31)) (mOp rIx (mVar 0) (mC (.int 2))))) (aNil))) (mC (.int 2147483549))) (gN 3))
    (sSeq (sAsg (mOp rMod (mB rInt (aCons (mOp rAdd (mOp rMul (mOp rAdd (mOp rAdd (mVar 3) (mOp rIx (mVar 0) (mC (.int 0)))) (mOp rIx (mVar 0) (mC (.int 2)))) (mC (.int 39373))) (mC (.int 7))) (aNil))) (mC (.int 2147483563))) (gN 3))
    (sRet (mOp rMod (mB rInt (aCons (mOp rFdiv (mVar 3) (mC (.int 11))) (aNil))) (mVar 1))))))))
set_option maxHeartbeats 8000000 in
theorem der_law_draw (T : Tx K mg A)  {f : Addr} {cdv : Value} {AA : Around} {outer : List Env} {s : Shared} {H : Hp} {G : GH} {E : XD} (C : Ctx 0 (AA.deeper (envOfC "_law_draw" (defScope s_law_draw) s.heap.objs.size f cdv))) :
    DSs (cxD P w K mg base N_law_draw "_law_draw" s_law_draw f cdv AA outer s H G E) G H (defBody s_law_draw) (m_law_draw K A (wE E)) :=
  dss_w (dss_cons (ds_asg (d_op o_add (d_ix (dv 0) (d_int)) (d_int)) (dg_sub (dv 0) (d_int)))
    (dss_cons (ds_if (dt_w (dw_and (dt_cmp (o_eq C.u64) (d_ix (dv 0) (d_int)) (d_int) (nomark _)) (dw_one (dt_cmp (o_gt C.u128) (d_ix (dv 0) (d_int)) (d_int) (nomark _))))) (dss_cons (ds_set (i := 2) sc_law_draw.nd (d_op o_mod (d_callTy c_int T.n_int (by decide +kernel) (da_cons (d_ix (dv 0) (d_int)) (da_nil))) (dv 1)))
    (dss_cons (ds_asg (d_op o_fdiv (d_ix (dv 0) (d_int)) (dv 1)) (dg_sub (dv 0) (d_int)))
    (dss_one (ds_ret (dv 2))))) (dss_nil))
    (dss_cons (ds_set (i := 3) sc_law_draw.nd (d_op o_mod (d_callTy c_int T.n_int (by decide +kernel) (da_cons (d_op o_add (d_op o_mul (d_op o_add (d_op o_add (d_ix (dv 0) (d_int)) (d_op o_mul (d_int) (d_ix (dv 0) (d_int)))) (d_int)) (d_int)) (d_int)) (da_nil))) (d_int)))
    (dss_cons (ds_set (i := 3) sc_law_draw.nd (d_op o_mod (d_callTy c_int T.n_int (by decide +kernel) (da_cons (d_op o_add (d_op o_mul (dv 3) (dv 3)) (d_op o_mul (d_int) (d_ix (dv 0) (d_int)))) (da_nil))) (d_int)))
    (dss_cons (ds_set (i := 3) sc_law_draw.nd (d_op o_mod (d_callTy c_int T.n_int (by decide +kernel) (da_cons (d_op o_add (d_op o_mul (d_op o_add (d_op o_add (dv 3) (d_ix (dv 0) (d_int))) (d_ix (dv 0) (d_int))) (d_int)) (d_int)) (da_nil))) (d_int)))
    (dss_one (ds_ret (d_op o_mod (d_callTy c_int T.n_int (by decide +kernel) (da_cons (d_op o_fdiv (dv 3) (d_int)) (da_nil))) (dv 1)))))))))
def m_is_from (K : PySem.W.Frag) (A : Ad) (W : WD) : MS :=
  sW (sRet (mAnd (mCall (sp_is_integer A) W (aCons (mVar 1) (aNil))) (mOp (rOrd .ge) (mVar 1) (mVar 0))))
set_option maxHeartbeats 8000000 in
theorem der_is_from (T : Tx K mg A) (FF_is_integer : FnD P w K mg base 1 A.is_integer T.d_is_integer ["thing"] (sp_is_integer A)) {f : Addr} {cdv : Value} {AA : Around} {outer : List Env} {s : Shared} {H : Hp} {G : GH} {E : XD} (C : Ctx 1 (AA.deeper (envOfC "is_from" (defScope s_is_from) s.heap.objs.size f cdv))) :
    DSs (cxD P w K mg base N_is_from "is_from" s_is_from f cdv AA outer s H G E) G H (defBody s_is_from) (m_is_from K A (wE E)) :=
  dss_w (dss_one (ds_ret (d_and (d_call (FF_is_integer.mono (by decide)) C takesD T.g_is_integer T.k_is_integer T.b_is_integer (da_cons (dv 1) (da_nil))) (d_one (d_cmp (o_ge C.u128) (dv 1) (dv 0) (nomark _))))))
def m_law_pick (K : PySem.W.Frag) (A : Ad) (W : WD) : MS :=
  sW (sRet (mOp rIx (mVar 1) (mCall (sp_law_draw A) W (aCons (mVar 0) (aCons (mB rLen (aCons (mVar 1) (aNil))) (aNil))))))
set_option maxHeartbeats 8000000 in
theorem der_law_pick (T : Tx K mg A) (FF_law_draw : FnD P w K mg base 1 A.law_draw T.d_law_draw ["cup", "many"] (sp_law_draw A)) {f : Addr} {cdv : Value} {AA : Around} {outer : List Env} {s : Shared} {H : Hp} {G : GH} {E : XD} (C : Ctx 1 (AA.deeper (envOfC "_law_pick" (defScope s_law_pick) s.heap.objs.size f cdv))) :
    DSs (cxD P w K mg base N_law_pick "_law_pick" s_law_pick f cdv AA outer s H G E) G H (defBody s_law_pick) (m_law_pick K A (wE E)) :=
  dss_w (dss_one (ds_ret (d_ix (dv 1) (d_call (FF_law_draw.mono (by decide)) C takesD T.g_law_draw T.k_law_draw T.b_law_draw (da_cons (dv 0) (da_cons (d_callB c_len T.n_len (by decide +kernel) (da_cons (dv 1) (da_nil))) (da_nil)))))))
def m_is_below (K : PySem.W.Frag) (A : Ad) (W : WD) : MS :=
  sW (sRet (mAnd (mCall (sp_is_from A) W (aCons (mC (.int 0)) (aCons (mVar 1) (aNil)))) (mOp (rOrd .lt) (mVar 1) (mVar 0))))
set_option maxHeartbeats 8000000 in
theorem der_is_below (T : Tx K mg A) (FF_is_from : FnD P w K mg base 2 A.is_from T.d_is_from ["low", "thing"] (sp_is_from A)) {f : Addr} {cdv : Value} {AA : Around} {outer : List Env} {s : Shared} {H : Hp} {G : GH} {E : XD} (C : Ctx 2 (AA.deeper (envOfC "is_below" (defScope s_is_below) s.heap.objs.size f cdv))) :
    DSs (cxD P w K mg base N_is_below "is_below" s_is_below f cdv AA outer s H G E) G H (defBody s_is_below) (m_is_below K A (wE E)) :=
  dss_w (dss_one (ds_ret (d_and (d_call (FF_is_from.mono (by decide)) C takesD T.g_is_from T.k_is_from T.b_is_from (da_cons (d_int) (da_cons (dv 1) (da_nil)))) (d_one (d_cmp (o_lt C.u128) (dv 1) (dv 0) (nomark _))))))
def m_check_signs (K : PySem.W.Frag) (A : Ad) (W : WD) : MS :=
  sW (sIf (tNot (mTru (mCall (sp_is_from A) W (aCons (mC (.int 1)) (aCons (mVar 0) (aNil)))))) (sRaise W (.ref A.InvalidNumber)) (sNext))
set_option maxHeartbeats 8000000 in
theorem der_check_signs (T : Tx K mg A) (FF_is_from : FnD P w K mg base 2 A.is_from T.d_is_from ["low", "thing"] (sp_is_from A)) {f : Addr} {cdv : Value} {AA : Around} {outer : List Env} {s : Shared} {H : Hp} {G : GH} {E : XD} (C : Ctx 2 (AA.deeper (envOfC "check_signs" (defScope s_check_signs) s.heap.objs.size f cdv))) :
    DSs (cxD P w K mg base N_check_signs "check_signs" s_check_signs f cdv AA outer s H G E) G H (defBody s_check_signs) (m_check_signs K A (wE E)) :=
  dss_w (dss_one (ds_if (dt_not (dt_val (d_call (FF_is_from.mono (by decide)) C takesD T.g_is_from T.k_is_from T.b_is_from (da_cons (d_int) (da_cons (dv 0) (da_nil)))))) (dss_one (ds_raise T.x_InvalidNumber rfl takesD)) (dss_nil)))
def m_law_odd (K : PySem.W.Frag) (A : Ad) (W : WD) : MS :=
  sW (sSeq (sAsg (mLstV (aCons (mC .non) (aCons (mC (.str "any")) (aCons (mC (.int 0)) (aCons (mC (.bl true)) (aCons (mTup (aNil)) (aCons (mLstV (aNil)) (aCons (mLstV (aCons (mC (.str "any")) (aNil))) (aCons (mTup (aCons (mC (.str "any")) (aCons (mC (.int 0)) (aNil)))) (aCons (mTup (aCons (mC (.str "nothing")) (aCons (mTup (aNil)) (aNil)))) (aCons (mTup (aCons (mC (.str "sign")) (aNil))) (aCons (mTup (aCons (mC (.str "sign")) (aCons (mVar 1) (aNil)))) (aCons (mTup (aCons (mC (.str "sign")) (aCons (mUn rNeg (mC (.int 1))) (aNil)))) (aNil)))))))))))))) (gN 3))
    (sSeq (sAsg (mOp rAdd (mVar 3) (mLstV (aCons (mTup (aCons (mC (.str "sign")) (aCons (mC (.bl true)) (aNil)))) (aCons (mTup (aCons (mC (.str "sign")) (aCons (mC (.str "a")) (aNil)))) (aCons (mTup (aCons (mC (.str "sign")) (aCons (mC (.int 0)) (aCons (mC (.int 0)) (aNil))))) (aCons (mTup (aCons (mC (.str "sign")) (aCons (mTup (aCons (mC (.int 0)) (aNil))) (aNil)))) (aCons (mTup (aCons (mC (.str "row")) (aCons (mTup (aNil)) (aNil)))) (aCons (mTup (aCons (mC (.str "row")) (aCons (mLstV (aCons (mTup (aCons (mC (.str "any")) (aNil))) (aNil))) (aNil)))) (aCons (mTup (aCons (mC (.str "row")) (aNil))) (aNil)))))))))) (gN 3))
    (sSeq (sAsg (mOp rAdd (mVar 3) (mLstV (aCons (mTup (aCons (mC (.str "choice")) (aCons (mTup (aCons (mC (.str "any")) (aNil))) (aNil)))) (aCons (mTup (aCons (mC (.str "both")) (aCons (mTup (aCons (mTup (aCons (mC (.str "any")) (aNil))) (aCons (mC (.int 5)) (aNil)))) (aNil)))) (aCons (mTup (aCons (mC (.str "both")) (aCons (mTup (aCons (mC (.str "any")) (aNil))) (aCons (mTup (aCons (mC (.str "any")) (aNil))) (aNil))))) (aCons (mTup (aCons (mC (.str "repeat")) (aNil))) (aCons (mTup (aCons (mC (.str "repeat")) (aCons (mTup (aCons (mVar 2) (aNil))) (aNil)))) (aNil)))))))) (gN 3))
    (sSeq (sAsg (mOp rAdd (mVar 3) (mLstV (aCons (mTup (aCons (mC (.str "not")) (aCons (mTup (aNil)) (aNil)))) (aCons (mTup (aCons (mC (.str "not")) (aCons (mVar 2) (aCons (mVar 2) (aNil))))) (aCons (mTup (aCons (mC (.str "maybe")) (aCons (mVar 2) (aNil)))) (aCons (mTup (aCons (mVar 2) (aNil))) (aCons (mTup (aCons (mC (.str "row")) (aCons (mVar 2) (aNil)))) (aCons (mTup (aCons (mC (.str "sign")) (aCons (mOp rSub (mVar 1) (mC (.int 1))) (aNil)))) (aNil))))))))) (gN 3))
    (sRet (mCall (sp_law_pick A) W (aCons (mVar 0) (aCons (mOp rAdd (mVar 3) (mLstV (aCons (mTup (aCons (mC (.str "Any")) (aNil))) (aCons (mTup (aCons (mTup (aCons (mC (.str "any")) (aNil))) (aNil))) (aCons (mTup (aCons (mC (.str "row")) (aCons (mTup (aCons (mVar 2) (aCons (mC .non) (aNil)))) (aNil)))) (aCons (mTup (aCons (mC (.str "choice")) (aCons (mTup (aCons (mVar 2) (aNil))) (aNil)))) (aCons (mTup (aCons (mC (.str "not")) (aCons (mVar 2) (aNil)))) (aCons (mB rListOf (aCons (mVar 2) (aNil))) (aNil))))))))) (aNil)))))))))
set_option maxHeartbeats 8000000 in
theorem der_law_odd (T : Tx K mg A) (FF_law_pick : FnD P w K mg base 2 A.law_pick T.d_law_pick ["cup", "rows"] (sp_law_pick A)) {f : Addr} {cdv : Value} {AA : Around} {outer : List Env} {s : Shared} {H : Hp} {G : GH} {E : XD} (C : Ctx 2 (AA.deeper (envOfC "_law_odd" (defScope s_law_odd) s.heap.objs.size f cdv))) :
    DSs (cxD P w K mg base N_law_odd "_law_odd" s_law_odd f cdv AA outer s H G E) G H (defBody s_law_odd) (m_law_odd K A (wE E)) :=
  dss_w (dss_cons (ds_set (i := 3) sc_law_odd.nd (d_lstV (da_cons (d_non) (da_cons (d_str) (da_cons (d_int) (da_cons (d_bl) (da_cons (d_tup (da_nil)) (da_cons (d_lstV (da_nil)) (da_cons (d_lstV (da_cons (d_str) (da_nil))) (da_cons (d_tup (da_cons (d_str) (da_cons (d_int) (da_nil)))) (da_cons (d_tup (da_cons (d_str) (da_cons (d_tup (da_nil)) (da_nil)))) (da_cons (d_tup (da_cons (d_str) (da_nil))) (da_cons (d_tup (da_cons (d_str) (da_cons (dv 1) (da_nil)))) (da_cons (d_tup (da_cons (d_str) (da_cons (d_un o_neg (d_int)) (da_nil)))) (da_nil)))))))))))))))
    (dss_cons (ds_set (i := 3) sc_law_odd.nd (d_op o_add (dv 3) (d_lstV (da_cons (d_tup (da_cons (d_str) (da_cons (d_bl) (da_nil)))) (da_cons (d_tup (da_cons (d_str) (da_cons (d_str) (da_nil)))) (da_cons (d_tup (da_cons (d_str) (da_cons (d_int) (da_cons (d_int) (da_nil))))) (da_cons (d_tup (da_cons (d_str) (da_cons (d_tup (da_cons (d_int) (da_nil))) (da_nil)))) (da_cons (d_tup (da_cons (d_str) (da_cons (d_tup (da_nil)) (da_nil)))) (da_cons (d_tup (da_cons (d_str) (da_cons (d_lstV (da_cons (d_tup (da_cons (d_str) (da_nil))) (da_nil))) (da_nil)))) (da_cons (d_tup (da_cons (d_str) (da_nil))) (da_nil)))))))))))
    (dss_cons (ds_set (i := 3) sc_law_odd.nd (d_op o_add (dv 3) (d_lstV (da_cons (d_tup (da_cons (d_str) (da_cons (d_tup (da_cons (d_str) (da_nil))) (da_nil)))) (da_cons (d_tup (da_cons (d_str) (da_cons (d_tup (da_cons (d_tup (da_cons (d_str) (da_nil))) (da_cons (d_int) (da_nil)))) (da_nil)))) (da_cons (d_tup (da_cons (d_str) (da_cons (d_tup (da_cons (d_str) (da_nil))) (da_cons (d_tup (da_cons (d_str) (da_nil))) (da_nil))))) (da_cons (d_tup (da_cons (d_str) (da_nil))) (da_cons (d_tup (da_cons (d_str) (da_cons (d_tup (da_cons (dv 2) (da_nil))) (da_nil)))) (da_nil)))))))))
    (dss_cons (ds_set (i := 3) sc_law_odd.nd (d_op o_add (dv 3) (d_lstV (da_cons (d_tup (da_cons (d_str) (da_cons (d_tup (da_nil)) (da_nil)))) (da_cons (d_tup (da_cons (d_str) (da_cons (dv 2) (da_cons (dv 2) (da_nil))))) (da_cons (d_tup (da_cons (d_str) (da_cons (dv 2) (da_nil)))) (da_cons (d_tup (da_cons (dv 2) (da_nil))) (da_cons (d_tup (da_cons (d_str) (da_cons (dv 2) (da_nil)))) (da_cons (d_tup (da_cons (d_str) (da_cons (d_op o_sub (dv 1) (d_int)) (da_nil)))) (da_nil))))))))))
    (dss_one (ds_ret (d_call (FF_law_pick.mono (by decide)) C takesD T.g_law_pick T.k_law_pick T.b_law_pick (da_cons (dv 0) (da_cons (d_op o_add (dv 3) (d_lstV (da_cons (d_tup (da_cons (d_str) (da_nil))) (da_cons (d_tup (da_cons (d_tup (da_cons (d_str) (da_nil))) (da_nil))) (da_cons (d_tup (da_cons (d_str) (da_cons (d_tup (da_cons (dv 2) (da_cons (d_non) (da_nil)))) (da_nil)))) (da_cons (d_tup (da_cons (d_str) (da_cons (d_tup (da_cons (dv 2) (da_nil))) (da_nil)))) (da_cons (d_tup (da_cons (d_str) (da_cons (dv 2) (da_nil)))) (da_cons (d_callTy c_list T.n_list (by decide +kernel) (da_cons (dv 2) (da_nil))) (da_nil))))))))) (da_nil))))))))))
def m_law_size (K : PySem.W.Frag) (A : Ad) (n : Nat) (W : WD) : MS :=
  sW (sSeq (sIf (tCmpD rIn (mOp rIx (mVar 0) (mC (.int 0))) (mTup (aCons (mC (.str "sign")) (aCons (mC (.str "any")) (aCons (mC (.str "nothing")) (aNil)))))) (sRet (mC (.int 1))) (sNext))
    (sSeq (sIf (tCmpD rIn (mOp rIx (mVar 0) (mC (.int 0))) (mTup (aCons (mC (.str "repeat")) (aCons (mC (.str "not")) (aNil))))) (sRet (mOp rAdd (mC (.int 1)) (mCall (sp_law_size A n) W (aCons (mOp rIx (mVar 0) (mC (.int 1))) (aNil))))) (sNext))
    (sRet (mOp rAdd (mC (.int 1)) (mB rSum (aCons (mLcV (iSeq (mOp rIx (mVar 0) (mC (.int 1)))) (gN 1) (tYesD) (mCall (sp_law_size A n) W0 (aCons (mVar 1) (aNil))) [1]) (aNil)))))))
set_option maxHeartbeats 8000000 in
theorem der_law_size (T : Tx K mg A) {n : Nat} (FF_law_size : FnD P w K mg base (1 + n) A.law_size T.d_law_size ["pattern"] (sp_law_size A n)) {f : Addr} {cdv : Value} {AA : Around} {outer : List Env} {s : Shared} {H : Hp} {G : GH} {E : XD} (C : Ctx (1 + n) (AA.deeper (envOfC "_law_size" (defScope s_law_size) s.heap.objs.size f cdv))) :
    DSs (cxD P w K mg base N_law_size "_law_size" s_law_size f cdv AA outer s H G E) G H (defBody s_law_size) (m_law_size K A n (wE E)) :=
  dss_w (dss_cons (ds_if (dt_cmp (o_in C.u65) (d_ix (dv 0) (d_int)) (d_tup (da_cons (d_str) (da_cons (d_str) (da_cons (d_str) (da_nil))))) (by rfl)) (dss_one (ds_ret (d_int))) (dss_nil))
    (dss_cons (ds_if (dt_cmp (o_in C.u65) (d_ix (dv 0) (d_int)) (d_tup (da_cons (d_str) (da_cons (d_str) (da_nil)))) (by rfl)) (dss_one (ds_ret (d_op o_add (d_int) (d_call (FF_law_size.mono (by omega)) C takesD T.g_law_size T.k_law_size T.b_law_size (da_cons (d_ix (dv 0) (d_int)) (da_nil)))))) (dss_nil))
    (dss_one (ds_ret (d_op o_add (d_int) (d_callB (c_sum rfl) T.n_sum (by decide +kernel) (da_cons (d_lcV (own := [("one", 1)]) rfl sc_law_size.nd (di_seq (d_ix (dv 0) (d_int))) (blkOk_by (own := [("one", 1)]) (by kernel_rfl)) (fun _ _ _ _ _ => dg1_name (i := 1) sc_law_size.nd) (fun _ _ _ _ _ => dts_nil) (fun _ _ _ _ _ _ _ => d_call (FF_law_size.mono (by omega)) C takes0D T.g_law_size T.k_law_size T.b_law_size (da_cons (dv 1) (da_nil)))) (da_nil))))))))
def m_law_same (K : PySem.W.Frag) (A : Ad) (n : Nat) (W : WD) : MS :=
  sW (sSeq (sIf (tOr (mTru (mIsi .tuple (mVar 1))) (mTru (mIsi .list (mVar 1)))) (sSeq (sIf (tOr (tCmpD rNe (mIsi .tuple (mVar 1)) (mIsi .tuple (mVar 0))) (tCmpD rNe (mIsi .list (mVar 1)) (mIsi .list (mVar 0)))) (sRet (mC (.bl false))) (sNext))
    (sRet (mAnd (mOp rEq (mB rLen (aCons (mVar 0) (aNil))) (mB rLen (aCons (mVar 1) (aNil)))) (mB rAll (aCons (mLcV (iRng (mB rLen (aCons (mVar 1) (aNil)))) (gN 2) (tYesD) (mCall (sp_law_same A n) W0 (aCons (mOp rIx (mVar 0) (mVar 2)) (aCons (mOp rIx (mVar 1) (mVar 2)) (aNil)))) [2]) (aNil)))))) (sNext))
    (sSeq (sIf (tCmpD rIs (mVar 1) (mC .non)) (sRet (mOp rIs (mVar 0) (mC .non))) (sNext))
    (sSeq (sIf (mTru (mIsi .bool (mVar 1))) (sRet (mAnd (mIsi .bool (mVar 0)) (mOp rEq (mVar 0) (mVar 1)))) (sNext))
    (sSeq (sIf (mTru (mIsi .str (mVar 1))) (sRet (mAnd (mIsi .str (mVar 0)) (mOp rEq (mVar 0) (mVar 1)))) (sNext))
    (sRet (mAnd (mIsi .int (mVar 0)) (mAnd (mNot (mIsi .bool (mVar 0))) (mOp rEq (mVar 0) (mVar 1)))))))))
set_option maxHeartbeats 8000000 in
theorem der_law_same (T : Tx K mg A) {n : Nat} (FF_law_same : FnD P w K mg base (1 + n) A.law_same T.d_law_same ["found", "due"] (sp_law_same A n)) {f : Addr} {cdv : Value} {AA : Around} {outer : List Env} {s : Shared} {H : Hp} {G : GH} {E : XD} (C : Ctx (1 + n) (AA.deeper (envOfC "_law_same" (defScope s_law_same) s.heap.objs.size f cdv))) :
    DSs (cxD P w K mg base N_law_same "_law_same" s_law_same f cdv AA outer s H G E) G H (defBody s_law_same) (m_law_same K A n (wE E)) :=
  dss_w (dss_cons (ds_if (dt_w (dw_or (dt_val (d_isi .tuple T.n_isinstance (dv 1) (pe_bltn (v := .ty "tuple") (by rfl) T.n_tuple (by decide +kernel) rfl))) (dw_one (dt_val (d_isi .list T.n_isinstance (dv 1) (pe_bltn (v := .ty "list") (by rfl) T.n_list (by decide +kernel) rfl)))))) (dss_cons (ds_if (dt_w (dw_or (dt_cmp (o_ne C.u64) (d_isi .tuple T.n_isinstance (dv 1) (pe_bltn (v := .ty "tuple") (by rfl) T.n_tuple (by decide +kernel) rfl)) (d_isi .tuple T.n_isinstance (dv 0) (pe_bltn (v := .ty "tuple") (by rfl) T.n_tuple (by decide +kernel) rfl)) (nomark _)) (dw_one (dt_cmp (o_ne C.u64) (d_isi .list T.n_isinstance (dv 1) (pe_bltn (v := .ty "list") (by rfl) T.n_list (by decide +kernel) rfl)) (d_isi .list T.n_isinstance (dv 0) (pe_bltn (v := .ty "list") (by rfl) T.n_list (by decide +kernel) rfl)) (nomark _))))) (dss_one (ds_ret (d_bl))) (dss_nil))
    (dss_one (ds_ret (d_and (d_cmp (o_eq C.u64) (d_callB c_len T.n_len (by decide +kernel) (da_cons (dv 0) (da_nil))) (d_callB c_len T.n_len (by decide +kernel) (da_cons (dv 1) (da_nil))) (nomark _)) (d_one (d_callB (c_all rfl) T.n_all (by decide +kernel) (da_cons (d_lcV (own := [("k", 2)]) rfl sc_law_same.nd (di_rng (by rfl) T.n_range (d_callB c_len T.n_len (by decide +kernel) (da_cons (dv 1) (da_nil)))) (blkOk_by (own := [("k", 2)]) (by kernel_rfl)) (fun _ _ _ _ _ => dg1_name (i := 2) sc_law_same.nd) (fun _ _ _ _ _ => dts_nil) (fun _ _ _ _ _ _ _ => d_call (FF_law_same.mono (by omega)) C takes0D T.g_law_same T.k_law_same T.b_law_same (da_cons (d_ix (dv 0) (dv 2)) (da_cons (d_ix (dv 1) (dv 2)) (da_nil))))) (da_nil)))))))) (dss_nil))
    (dss_cons (ds_if (dt_cmp o_is (dv 1) (d_non) (nomark _)) (dss_one (ds_ret (d_cmp o_is (dv 0) (d_non) (nomark _)))) (dss_nil))
    (dss_cons (ds_if (dt_val (d_isi .bool T.n_isinstance (dv 1) (pe_bltn (v := .ty "bool") (by rfl) T.n_bool (by decide +kernel) rfl))) (dss_one (ds_ret (d_and (d_isi .bool T.n_isinstance (dv 0) (pe_bltn (v := .ty "bool") (by rfl) T.n_bool (by decide +kernel) rfl)) (d_one (d_cmp (o_eq C.u64) (dv 0) (dv 1) (nomark _)))))) (dss_nil))
    (dss_cons (ds_if (dt_val (d_isi .str T.n_isinstance (dv 1) (pe_bltn (v := .ty "str") (by rfl) T.n_str (by decide +kernel) rfl))) (dss_one (ds_ret (d_and (d_isi .str T.n_isinstance (dv 0) (pe_bltn (v := .ty "str") (by rfl) T.n_str (by decide +kernel) rfl)) (d_one (d_cmp (o_eq C.u64) (dv 0) (dv 1) (nomark _)))))) (dss_nil))
    (dss_one (ds_ret (d_and (d_isi .int T.n_isinstance (dv 0) (pe_bltn (v := .ty "int") (by rfl) T.n_int (by decide +kernel) rfl)) (d_and (d_not (d_isi .bool T.n_isinstance (dv 0) (pe_bltn (v := .ty "bool") (by rfl) T.n_bool (by decide +kernel) rfl))) (d_one (d_cmp (o_eq C.u64) (dv 0) (dv 1) (nomark _)))))))))))
def m_law_pattern (K : PySem.W.Frag) (A : Ad) (n : Nat) (W : WD) : MS :=
  sW (sSeq (sAsg (mCall (sp_law_draw A) W (aCons (mVar 0) (aCons (mIf (tCmpD (rOrd .lt) (mVar 2) (mC (.int 2))) (mC (.int 4)) (mC (.int 10))) (aNil)))) (gN 3))
    (sSeq (sIf (tCmpD (rOrd .lt) (mVar 3) (mC (.int 2))) (sRet (mTup (aCons (mC (.str "sign")) (aCons (mCall (sp_law_draw A) W (aCons (mVar 0) (aCons (mVar 1) (aNil)))) (aNil))))) (sNext))
    (sSeq (sIf (tCmpD (rOrd .lt) (mVar 3) (mC (.int 4))) (sRet (mOp rIx (mLstV (aCons (mTup (aCons (mC (.str "any")) (aNil))) (aCons (mTup (aCons (mC (.str "nothing")) (aNil))) (aNil)))) (mOp rSub (mVar 3) (mC (.int 2))))) (sNext))
    (sSeq (sIf (tCmpD (rOrd .lt) (mVar 3) (mC (.int 6))) (sRet (mTup (aCons (mOp rIx (mLstV (aCons (mC (.str "repeat")) (aCons (mC (.str "not")) (aNil)))) (mOp rSub (mVar 3) (mC (.int 4)))) (aCons (mCall (sp_law_pattern A n) W (aCons (mVar 0) (aCons (mVar 1) (aCons (mOp rSub (mVar 2) (mC (.int 1))) (aNil))))) (aNil))))) (sNext))
    (sSeq (sPar 4 5 (aCons (mLst (aNil)) (aCons (mOp rSub (mVar 2) (mC (.int 1))) (aNil))))
    (sSeq (sFor (iRng (mOp rAdd (mC (.int 1)) (mCall (sp_law_draw A) W (aCons (mVar 0) (aCons (mC (.int 3)) (aNil)))))) (gN 6) (sIf (tCmpD (rOrd .gt) (mVar 5) (mC (.int 0))) (sSeq (sDrop (mMeth rAppendD (mVar 4) (aCons (mCall (sp_law_pattern A n) W (aCons (mVar 0) (aCons (mVar 1) (aCons (mVar 5) (aNil))))) (aNil))))
    (sAsg (mOp rSub (mVar 5) (mCall (sp_law_size A 20) W (aCons (mOp rIx (mVar 4) (mUn rNeg (mC (.int 1)))) (aNil)))) (gN 5))) (sNext)))
    (sRet (mTup (aCons (mOp rIx (mLstV (aCons (mC (.str "row")) (aCons (mC (.str "choice")) (aCons (mC (.str "both")) (aCons (mC (.str "row")) (aNil)))))) (mOp rSub (mVar 3) (mC (.int 6)))) (aCons (mB rTupleOf (aCons (mVar 4) (aNil))) (aNil)))))))))))
set_option maxHeartbeats 8000000 in
theorem der_law_pattern (T : Tx K mg A) {n : Nat} (FF_law_draw : FnD P w K mg base 1 A.law_draw T.d_law_draw ["cup", "many"] (sp_law_draw A)) (FF_law_size : FnD P w K mg base 21 A.law_size T.d_law_size ["pattern"] (sp_law_size A 20)) (FF_law_pattern : FnD P w K mg base (22 + n) A.law_pattern T.d_law_pattern ["cup", "signs", "most"] (sp_law_pattern A n)) {f : Addr} {cdv : Value} {AA : Around} {outer : List Env} {s : Shared} {H : Hp} {G : GH} {E : XD} (C : Ctx (22 + n) (AA.deeper (envOfC "_law_pattern" (defScope s_law_pattern) s.heap.objs.size f cdv))) :
    DSs (cxD P w K mg base N_law_pattern "_law_pattern" s_law_pattern f cdv AA outer s H G E) G H (defBody s_law_pattern) (m_law_pattern K A n (wE E)) :=
  dss_w (dss_cons (ds_set (i := 3) sc_law_pattern.nd (d_call (FF_law_draw.mono (by omega)) C takesD T.g_law_draw T.k_law_draw T.b_law_draw (da_cons (dv 0) (da_cons (d_if (dt_cmp (o_lt C.u128) (dv 2) (d_int) (nomark _)) (d_int) (d_int)) (da_nil)))))
    (dss_cons (ds_if (dt_cmp (o_lt C.u128) (dv 3) (d_int) (nomark _)) (dss_one (ds_ret (d_tup (da_cons (d_str) (da_cons (d_call (FF_law_draw.mono (by omega)) C takesD T.g_law_draw T.k_law_draw T.b_law_draw (da_cons (dv 0) (da_cons (dv 1) (da_nil)))) (da_nil)))))) (dss_nil))
    (dss_cons (ds_if (dt_cmp (o_lt C.u128) (dv 3) (d_int) (nomark _)) (dss_one (ds_ret (d_ix (d_lstV (da_cons (d_tup (da_cons (d_str) (da_nil))) (da_cons (d_tup (da_cons (d_str) (da_nil))) (da_nil)))) (d_op o_sub (dv 3) (d_int))))) (dss_nil))
    (dss_cons (ds_if (dt_cmp (o_lt C.u128) (dv 3) (d_int) (nomark _)) (dss_one (ds_ret (d_tup (da_cons (d_ix (d_lstV (da_cons (d_str) (da_cons (d_str) (da_nil)))) (d_op o_sub (dv 3) (d_int))) (da_cons (d_call (FF_law_pattern.mono (by omega)) C takesD T.g_law_pattern T.k_law_pattern T.b_law_pattern (da_cons (dv 0) (da_cons (dv 1) (da_cons (d_op o_sub (dv 2) (d_int)) (da_nil))))) (da_nil)))))) (dss_nil))
    (dss_cons (ds_par (i := 4) (j := 5) rfl sc_law_pattern.nd rfl rfl (by decide) rfl rfl (da_cons (d_lst (da_nil)) (da_cons (d_op o_sub (dv 2) (d_int)) (da_nil))) (by rfl))
    (dss_cons (ds_for passesD rfl (di_rng (by rfl) T.n_range (d_op o_add (d_int) (d_call (FF_law_draw.mono (by omega)) C takesD T.g_law_draw T.k_law_draw T.b_law_draw (da_cons (dv 0) (da_cons (d_int) (da_nil)))))) (dg_name (i := 6) sc_law_pattern.nd) (dss_one (ds_if (dt_cmp (o_gt C.u128) (dv 5) (d_int) (nomark _)) (dss_cons (ds_expr (d_methL PySem.F.slot_list_append PySem.F.type_list_append o_append (dv 4) (da_cons (d_call (FF_law_pattern.mono (by omega)) C takesD T.g_law_pattern T.k_law_pattern T.b_law_pattern (da_cons (dv 0) (da_cons (dv 1) (da_cons (dv 5) (da_nil))))) (da_nil))))
    (dss_one (ds_set (i := 5) sc_law_pattern.nd (d_op o_sub (dv 5) (d_call (FF_law_size.mono (by omega)) C takesD T.g_law_size T.k_law_size T.b_law_size (da_cons (d_ix (dv 4) (d_un o_neg (d_int))) (da_nil))))))) (dss_nil))))
    (dss_one (ds_ret (d_tup (da_cons (d_ix (d_lstV (da_cons (d_str) (da_cons (d_str) (da_cons (d_str) (da_cons (d_str) (da_nil)))))) (d_op o_sub (dv 3) (d_int))) (da_cons (d_callTy c_tuple T.n_tuple (by decide +kernel) (da_cons (dv 4) (da_nil))) (da_nil))))))))))))
def m_law_judged (K : PySem.W.Frag) (A : Ad) (n : Nat) (W : WD) : MS :=
  sW (sSeq (sIf (tOr (tNot (mTru (mIsi .tuple (mVar 1)))) (tOr (tCmpD rEq (mVar 1) (mTup (aNil))) (tNot (mTru (mIsi .str (mOp rIx (mVar 1) (mC (.int 0)))))))) (sRet (mC (.bl false))) (sNext))
    (sSeq (sAsg (mOp rIx (mVar 1) (mC (.int 0))) (gN 2))
    (sSeq (sIf (tOr (tCmpD rEq (mVar 2) (mC (.str "any"))) (tCmpD rEq (mVar 2) (mC (.str "nothing")))) (sRet (mOp rEq (mB rLen (aCons (mVar 1) (aNil))) (mC (.int 1)))) (sNext))
    (sSeq (sIf (tCmpD rNe (mB rLen (aCons (mVar 1) (aNil))) (mC (.int 2))) (sRet (mC (.bl false))) (sNext))
    (sSeq (sIf (tCmpD rEq (mVar 2) (mC (.str "sign"))) (sRet (mAnd (mIsi .int (mOp rIx (mVar 1) (mC (.int 1)))) (mAnd (mNot (mIsi .bool (mOp rIx (mVar 1) (mC (.int 1))))) (mChain (rOrd .le) (rOrd .lt) (mC (.int 0)) (mOp rIx (mVar 1) (mC (.int 1))) (mVar 0))))) (sNext))
    (sSeq (sIf (tOr (tCmpD rEq (mVar 2) (mC (.str "repeat"))) (tCmpD rEq (mVar 2) (mC (.str "not")))) (sRet (mCall (sp_law_judged A n) W (aCons (mVar 0) (aCons (mOp rIx (mVar 1) (mC (.int 1))) (aNil))))) (sNext))
    (sSeq (sIf (tOr (tCmpD rNotIn (mVar 2) (mTup (aCons (mC (.str "row")) (aCons (mC (.str "choice")) (aCons (mC (.str "both")) (aNil)))))) (tOr (tNot (mTru (mIsi .tuple (mOp rIx (mVar 1) (mC (.int 1)))))) (tCmpD rEq (mOp rIx (mVar 1) (mC (.int 1))) (mTup (aNil))))) (sRet (mC (.bl false))) (sNext))
    (sRet (mB rAll (aCons (mLcV (iSeq (mOp rIx (mVar 1) (mC (.int 1)))) (gN 3) (tYesD) (mCall (sp_law_judged A n) W0 (aCons (mVar 0) (aCons (mVar 3) (aNil)))) [3]) (aNil)))))))))))
set_option maxHeartbeats 8000000 in
theorem der_law_judged (T : Tx K mg A) {n : Nat} (FF_law_judged : FnD P w K mg base (1 + n) A.law_judged T.d_law_judged ["signs", "value"] (sp_law_judged A n)) {f : Addr} {cdv : Value} {AA : Around} {outer : List Env} {s : Shared} {H : Hp} {G : GH} {E : XD} (C : Ctx (1 + n) (AA.deeper (envOfC "_law_judged" (defScope s_law_judged) s.heap.objs.size f cdv))) :
    DSs (cxD P w K mg base N_law_judged "_law_judged" s_law_judged f cdv AA outer s H G E) G H (defBody s_law_judged) (m_law_judged K A n (wE E)) :=
  dss_w (dss_cons (ds_if (dt_w (dw_or (dt_not (dt_val (d_isi .tuple T.n_isinstance (dv 1) (pe_bltn (v := .ty "tuple") (by rfl) T.n_tuple (by decide +kernel) rfl)))) (dw_or (dt_cmp (o_eq C.u64) (dv 1) (d_tup (da_nil)) (nomark _)) (dw_one (dt_not (dt_val (d_isi .str T.n_isinstance (d_ix (dv 1) (d_int)) (pe_bltn (v := .ty "str") (by rfl) T.n_str (by decide +kernel) rfl)))))))) (dss_one (ds_ret (d_bl))) (dss_nil))
    (dss_cons (ds_set (i := 2) sc_law_judged.nd (d_ix (dv 1) (d_int)))
    (dss_cons (ds_if (dt_w (dw_or (dt_cmp (o_eq C.u64) (dv 2) (d_str) (nomark _)) (dw_one (dt_cmp (o_eq C.u64) (dv 2) (d_str) (nomark _))))) (dss_one (ds_ret (d_cmp (o_eq C.u64) (d_callB c_len T.n_len (by decide +kernel) (da_cons (dv 1) (da_nil))) (d_int) (nomark _)))) (dss_nil))
    (dss_cons (ds_if (dt_cmp (o_ne C.u64) (d_callB c_len T.n_len (by decide +kernel) (da_cons (dv 1) (da_nil))) (d_int) (nomark _)) (dss_one (ds_ret (d_bl))) (dss_nil))
    (dss_cons (ds_if (dt_cmp (o_eq C.u64) (dv 2) (d_str) (nomark _)) (dss_one (ds_ret (d_and (d_isi .int T.n_isinstance (d_ix (dv 1) (d_int)) (pe_bltn (v := .ty "int") (by rfl) T.n_int (by decide +kernel) rfl)) (d_and (d_not (d_isi .bool T.n_isinstance (d_ix (dv 1) (d_int)) (pe_bltn (v := .ty "bool") (by rfl) T.n_bool (by decide +kernel) rfl))) (d_one (d_chain (o_le C.u128) (o_lt C.u128) (d_int) (d_ix (dv 1) (d_int)) (dv 0))))))) (dss_nil))
    (dss_cons (ds_if (dt_w (dw_or (dt_cmp (o_eq C.u64) (dv 2) (d_str) (nomark _)) (dw_one (dt_cmp (o_eq C.u64) (dv 2) (d_str) (nomark _))))) (dss_one (ds_ret (d_call (FF_law_judged.mono (by omega)) C takesD T.g_law_judged T.k_law_judged T.b_law_judged (da_cons (dv 0) (da_cons (d_ix (dv 1) (d_int)) (da_nil)))))) (dss_nil))
    (dss_cons (ds_if (dt_w (dw_or (dt_cmp (o_notin C.u65) (dv 2) (d_tup (da_cons (d_str) (da_cons (d_str) (da_cons (d_str) (da_nil))))) (by rfl)) (dw_or (dt_not (dt_val (d_isi .tuple T.n_isinstance (d_ix (dv 1) (d_int)) (pe_bltn (v := .ty "tuple") (by rfl) T.n_tuple (by decide +kernel) rfl)))) (dw_one (dt_cmp (o_eq C.u64) (d_ix (dv 1) (d_int)) (d_tup (da_nil)) (nomark _)))))) (dss_one (ds_ret (d_bl))) (dss_nil))
    (dss_one (ds_ret (d_callB (c_all rfl) T.n_all (by decide +kernel) (da_cons (d_lcV (own := [("one", 3)]) rfl sc_law_judged.nd (di_seq (d_ix (dv 1) (d_int))) (blkOk_by (own := [("one", 3)]) (by kernel_rfl)) (fun _ _ _ _ _ => dg1_name (i := 3) sc_law_judged.nd) (fun _ _ _ _ _ => dts_nil) (fun _ _ _ _ _ _ _ => d_call (FF_law_judged.mono (by omega)) C takes0D T.g_law_judged T.k_law_judged T.b_law_judged (da_cons (dv 0) (da_cons (dv 3) (da_nil))))) (da_nil))))))))))))
def m_law_within (K : PySem.W.Frag) (A : Ad) (W : WD) : MS :=
  sW (sSeq (sPar 3 4 (aCons (mCall (sp_law_draw A) W (aCons (mVar 0) (aCons (mC (.int 5)) (aNil)))) (aCons (mCall (sp_law_pattern A 9) W (aCons (mVar 0) (aCons (mVar 1) (aCons (mC (.int 2)) (aNil))))) (aNil))))
    (sSeq (sIf (tCmpD rEq (mVar 3) (mC (.int 0))) (sRet (mTup (aCons (mC (.str "repeat")) (aCons (mVar 2) (aNil))))) (sNext))
    (sSeq (sIf (tCmpD rEq (mVar 3) (mC (.int 1))) (sRet (mTup (aCons (mC (.str "not")) (aCons (mVar 2) (aNil))))) (sNext))
    (sSeq (sIf (tCmpD rEq (mVar 3) (mC (.int 2))) (sRet (mTup (aCons (mC (.str "row")) (aCons (mTup (aCons (mVar 4) (aCons (mVar 2) (aCons (mVar 4) (aNil))))) (aNil))))) (sNext))
    (sRet (mTup (aCons (mOp rIx (mLstV (aCons (mC (.str "choice")) (aCons (mC (.str "both")) (aNil)))) (mOp rSub (mVar 3) (mC (.int 3)))) (aCons (mIf (tCmpD rEq (mCall (sp_law_draw A) W (aCons (mVar 0) (aCons (mC (.int 2)) (aNil)))) (mC (.int 0))) (mTup (aCons (mVar 2) (aNil))) (mTup (aCons (mVar 4) (aCons (mVar 2) (aNil))))) (aNil)))))))))
set_option maxHeartbeats 8000000 in
theorem der_law_within (T : Tx K mg A) (FF_law_draw : FnD P w K mg base 1 A.law_draw T.d_law_draw ["cup", "many"] (sp_law_draw A)) (FF_law_pattern : FnD P w K mg base 31 A.law_pattern T.d_law_pattern ["cup", "signs", "most"] (sp_law_pattern A 9)) {f : Addr} {cdv : Value} {AA : Around} {outer : List Env} {s : Shared} {H : Hp} {G : GH} {E : XD} (C : Ctx 31 (AA.deeper (envOfC "_law_within" (defScope s_law_within) s.heap.objs.size f cdv))) :
    DSs (cxD P w K mg base N_law_within "_law_within" s_law_within f cdv AA outer s H G E) G H (defBody s_law_within) (m_law_within K A (wE E)) :=
  dss_w (dss_cons (ds_par (i := 3) (j := 4) rfl sc_law_within.nd rfl rfl (by decide) rfl rfl (da_cons (d_call (FF_law_draw.mono (by decide)) C takesD T.g_law_draw T.k_law_draw T.b_law_draw (da_cons (dv 0) (da_cons (d_int) (da_nil)))) (da_cons (d_call (FF_law_pattern.mono (by decide)) C takesD T.g_law_pattern T.k_law_pattern T.b_law_pattern (da_cons (dv 0) (da_cons (dv 1) (da_cons (d_int) (da_nil))))) (da_nil))) (by rfl))
    (dss_cons (ds_if (dt_cmp (o_eq C.u64) (dv 3) (d_int) (nomark _)) (dss_one (ds_ret (d_tup (da_cons (d_str) (da_cons (dv 2) (da_nil)))))) (dss_nil))
    (dss_cons (ds_if (dt_cmp (o_eq C.u64) (dv 3) (d_int) (nomark _)) (dss_one (ds_ret (d_tup (da_cons (d_str) (da_cons (dv 2) (da_nil)))))) (dss_nil))
    (dss_cons (ds_if (dt_cmp (o_eq C.u64) (dv 3) (d_int) (nomark _)) (dss_one (ds_ret (d_tup (da_cons (d_str) (da_cons (d_tup (da_cons (dv 4) (da_cons (dv 2) (da_cons (dv 4) (da_nil))))) (da_nil)))))) (dss_nil))
    (dss_one (ds_ret (d_tup (da_cons (d_ix (d_lstV (da_cons (d_str) (da_cons (d_str) (da_nil)))) (d_op o_sub (dv 3) (d_int))) (da_cons (d_if (dt_cmp (o_eq C.u64) (d_call (FF_law_draw.mono (by decide)) C takesD T.g_law_draw T.k_law_draw T.b_law_draw (da_cons (dv 0) (da_cons (d_int) (da_nil)))) (d_int) (nomark _)) (d_tup (da_cons (dv 2) (da_nil))) (d_tup (da_cons (dv 4) (da_cons (dv 2) (da_nil))))) (da_nil))))))))))
def m_is_pattern_in (K : PySem.W.Frag) (A : Ad) (n : Nat) (W : WD) : MS :=
  sW (sSeq (sIf (tOr (tNot (mTru (mIsi .tuple (mVar 1)))) (tCmpD rEq (mVar 1) (mTup (aNil)))) (sRet (mC (.bl false))) (sNext))
    (sSeq (sAsg (mOp rIx (mVar 1) (mC (.int 0))) (gN 2))
    (sSeq (sIf (tOr (tCmpD rEq (mVar 2) (mC (.str "any"))) (tCmpD rEq (mVar 2) (mC (.str "nothing")))) (sRet (mOp rEq (mB rLen (aCons (mVar 1) (aNil))) (mC (.int 1)))) (sNext))
    (sSeq (sIf (tCmpD rNe (mB rLen (aCons (mVar 1) (aNil))) (mC (.int 2))) (sRet (mC (.bl false))) (sNext))
    (sSeq (sIf (tCmpD rEq (mVar 2) (mC (.str "sign"))) (sRet (mCall (sp_is_below A) W (aCons (mVar 0) (aCons (mOp rIx (mVar 1) (mC (.int 1))) (aNil))))) (sNext))
    (sSeq (sIf (tOr (tCmpD rEq (mVar 2) (mC (.str "repeat"))) (tCmpD rEq (mVar 2) (mC (.str "not")))) (sRet (mCall (sp_is_pattern_in A n) W (aCons (mVar 0) (aCons (mOp rIx (mVar 1) (mC (.int 1))) (aNil))))) (sNext))
    (sSeq (sIf (tOr (tCmpD rEq (mVar 2) (mC (.str "row"))) (tOr (tCmpD rEq (mVar 2) (mC (.str "choice"))) (tCmpD rEq (mVar 2) (mC (.str "both"))))) (sRet (mAnd (mCall (sp_is_tuple A) W (aCons (mC .non) (aCons (mOp rIx (mVar 1) (mC (.int 1))) (aNil)))) (mAnd (mOp rNe (mOp rIx (mVar 1) (mC (.int 1))) (mTup (aNil))) (mB rAll (aCons (mLcV (iSeq (mOp rIx (mVar 1) (mC (.int 1)))) (gN 3) (tYesD) (mCall (sp_is_pattern_in A n) W0 (aCons (mVar 0) (aCons (mVar 3) (aNil)))) [3]) (aNil)))))) (sNext))
    (sRet (mC (.bl false))))))))))
set_option maxHeartbeats 8000000 in
theorem der_is_pattern_in (T : Tx K mg A) {n : Nat} (FF_is_below : FnD P w K mg base 3 A.is_below T.d_is_below ["many", "thing"] (sp_is_below A)) (FF_is_tuple : FnD P w K mg base 1 A.is_tuple T.d_is_tuple ["many", "thing"] (sp_is_tuple A)) (FF_is_pattern_in : FnD P w K mg base (4 + n) A.is_pattern_in T.d_is_pattern_in ["signs", "thing"] (sp_is_pattern_in A n)) {f : Addr} {cdv : Value} {AA : Around} {outer : List Env} {s : Shared} {H : Hp} {G : GH} {E : XD} (C : Ctx (4 + n) (AA.deeper (envOfC "is_pattern_in" (defScope s_is_pattern_in) s.heap.objs.size f cdv))) :
    DSs (cxD P w K mg base N_is_pattern_in "is_pattern_in" s_is_pattern_in f cdv AA outer s H G E) G H (defBody s_is_pattern_in) (m_is_pattern_in K A n (wE E)) :=
  dss_w (dss_cons (ds_if (dt_w (dw_or (dt_not (dt_val (d_isi .tuple T.n_isinstance (dv 1) (pe_bltn (v := .ty "tuple") (by rfl) T.n_tuple (by decide +kernel) rfl)))) (dw_one (dt_cmp (o_eq C.u64) (dv 1) (d_tup (da_nil)) (nomark _))))) (dss_one (ds_ret (d_bl))) (dss_nil))
    (dss_cons (ds_set (i := 2) sc_is_pattern_in.nd (d_ix (dv 1) (d_int)))
    (dss_cons (ds_if (dt_w (dw_or (dt_cmp (o_eq C.u64) (dv 2) (d_str) (nomark _)) (dw_one (dt_cmp (o_eq C.u64) (dv 2) (d_str) (nomark _))))) (dss_one (ds_ret (d_cmp (o_eq C.u64) (d_callB c_len T.n_len (by decide +kernel) (da_cons (dv 1) (da_nil))) (d_int) (nomark _)))) (dss_nil))
    (dss_cons (ds_if (dt_cmp (o_ne C.u64) (d_callB c_len T.n_len (by decide +kernel) (da_cons (dv 1) (da_nil))) (d_int) (nomark _)) (dss_one (ds_ret (d_bl))) (dss_nil))
    (dss_cons (ds_if (dt_cmp (o_eq C.u64) (dv 2) (d_str) (nomark _)) (dss_one (ds_ret (d_call (FF_is_below.mono (by omega)) C takesD T.g_is_below T.k_is_below T.b_is_below (da_cons (dv 0) (da_cons (d_ix (dv 1) (d_int)) (da_nil)))))) (dss_nil))
    (dss_cons (ds_if (dt_w (dw_or (dt_cmp (o_eq C.u64) (dv 2) (d_str) (nomark _)) (dw_one (dt_cmp (o_eq C.u64) (dv 2) (d_str) (nomark _))))) (dss_one (ds_ret (d_call (FF_is_pattern_in.mono (by omega)) C takesD T.g_is_pattern_in T.k_is_pattern_in T.b_is_pattern_in (da_cons (dv 0) (da_cons (d_ix (dv 1) (d_int)) (da_nil)))))) (dss_nil))
    (dss_cons (ds_if (dt_w (dw_or (dt_cmp (o_eq C.u64) (dv 2) (d_str) (nomark _)) (dw_or (dt_cmp (o_eq C.u64) (dv 2) (d_str) (nomark _)) (dw_one (dt_cmp (o_eq C.u64) (dv 2) (d_str) (nomark _)))))) (dss_one (ds_ret (d_and (d_call (FF_is_tuple.mono (by omega)) C takesD T.g_is_tuple T.k_is_tuple T.b_is_tuple (da_cons (d_non) (da_cons (d_ix (dv 1) (d_int)) (da_nil)))) (d_and (d_cmp (o_ne C.u64) (d_ix (dv 1) (d_int)) (d_tup (da_nil)) (nomark _)) (d_one (d_callB (c_all rfl) T.n_all (by decide +kernel) (da_cons (d_lcV (own := [("one", 3)]) rfl sc_is_pattern_in.nd (di_seq (d_ix (dv 1) (d_int))) (blkOk_by (own := [("one", 3)]) (by kernel_rfl)) (fun _ _ _ _ _ => dg1_name (i := 3) sc_is_pattern_in.nd) (fun _ _ _ _ _ => dts_nil) (fun _ _ _ _ _ _ _ => d_call (FF_is_pattern_in.mono (by omega)) C takes0D T.g_is_pattern_in T.k_is_pattern_in T.b_is_pattern_in (da_cons (dv 0) (da_cons (dv 3) (da_nil))))) (da_nil)))))))) (dss_nil))
    (dss_one (ds_ret (d_bl))))))))))
def m_is_pattern (K : PySem.W.Frag) (A : Ad) (W : WD) : MS :=
  sW (sSeq (sDrop (mCall (sp_check_signs A) W (aCons (mVar 0) (aNil))))
    (sRet (mCall (sp_is_pattern_in A 30) W (aCons (mVar 0) (aCons (mVar 1) (aNil))))))
set_option maxHeartbeats 8000000 in
theorem der_is_pattern (T : Tx K mg A) (FF_check_signs : FnD P w K mg base 3 A.check_signs T.d_check_signs ["thing"] (sp_check_signs A)) (FF_is_pattern_in : FnD P w K mg base 34 A.is_pattern_in T.d_is_pattern_in ["signs", "thing"] (sp_is_pattern_in A 30)) {f : Addr} {cdv : Value} {AA : Around} {outer : List Env} {s : Shared} {H : Hp} {G : GH} {E : XD} (C : Ctx 34 (AA.deeper (envOfC "is_pattern" (defScope s_is_pattern) s.heap.objs.size f cdv))) :
    DSs (cxD P w K mg base N_is_pattern "is_pattern" s_is_pattern f cdv AA outer s H G E) G H (defBody s_is_pattern) (m_is_pattern K A (wE E)) :=
  dss_w (dss_cons (ds_expr (d_call (FF_check_signs.mono (by decide)) C takesD T.g_check_signs T.k_check_signs T.b_check_signs (da_cons (dv 0) (da_nil))))
    (dss_one (ds_ret (d_call (FF_is_pattern_in.mono (by decide)) C takesD T.g_is_pattern_in T.k_is_pattern_in T.b_is_pattern_in (da_cons (dv 0) (da_cons (dv 1) (da_nil)))))))
def m_law_refused (K : PySem.W.Frag) (A : Ad) (W : WD) : MS :=
  sW (sSeq (sAsg (mC .non) (gN 2))
    (sSeq (sCut (sTryIs (fun W1 => sDrop (mCall (sp_is_pattern A) W1 (aCons (mVar 0) (aCons (mVar 1) (aNil))))) K (.ref A.TurnError) 3 2 (.ref A.InvalidNumber) W))
    (sRet (mOp rIs (mVar 2) (mC (.bl true))))))
set_option maxHeartbeats 8000000 in
theorem der_law_refused (T : Tx K mg A) (FF_is_pattern : FnD P w K mg base 35 A.is_pattern T.d_is_pattern ["signs", "value"] (sp_is_pattern A)) {f : Addr} {cdv : Value} {AA : Around} {outer : List Env} {s : Shared} {H : Hp} {G : GH} {E : XD} (C : Ctx 35 (AA.deeper (envOfC "_law_refused" (defScope s_law_refused) s.heap.objs.size f cdv))) :
    DSs (cxD P w K mg base N_law_refused "_law_refused" s_law_refused f cdv AA outer s H G E) G H (defBody s_law_refused) (m_law_refused K A (wE E)) :=
  dss_w (dss_cons (ds_set (i := 2) sc_law_refused.nd (d_non))
    (dss_cons (ds_cut (ds_tryIs (i := 3) (k := 2) rfl rfl sc_law_refused.nd rfl rfl ⟨by rfl, by decide, .inl T.x_TurnError.g⟩ takesD rfl (by decide) T.n_isinstance T.x_InvalidNumber.g (fun W pn xe G1 H1 tk po => dss_one (ds_expr (d_call (FF_is_pattern.mono (by decide)) C tk T.g_is_pattern T.k_is_pattern T.b_is_pattern (da_cons (dv 0) (da_cons (dv 1) (da_nil)))))) (fun a oe D pn ec hz hv => pss_one (ps_asg (pe_callB (call_isE ec hz hv) rfl T.n_isinstance (by decide +kernel) (pa_cons (pe_var (i := 3) rfl (.inl rfl)) (pa_cons (pe_glob (v := .ref A.InvalidNumber) rfl T.x_InvalidNumber.g rfl) pa_nil))) (pg_name (i := 2) sc_law_refused.nd rfl (.inl rfl))))))
    (dss_one (ds_ret (d_cmp o_is (dv 2) (d_bl) (nomark _))))))
def m_law (K : PySem.W.Frag) (A : Ad) (W : WD) : MS :=
  sW (sSeq (sFor (iRng (mC (.int 3))) (gN 1) (sSeq (sAsg (mCall (sp_law_cup A) W (aCons (mVar 0) (aCons (mVar 1) (aNil)))) (gN 2))
    (sSeq (sAsg (mOp rAdd (mC (.int 1)) (mCall (sp_law_draw A) W (aCons (mVar 2) (aCons (mC (.int 3)) (aNil))))) (gN 3))
    (sSeq (sPar 4 5 (aCons (mCall (sp_law_pattern A 9) W (aCons (mVar 2) (aCons (mVar 3) (aCons (mC (.int 8)) (aNil))))) (aCons (mCall (sp_law_pattern A 9) W (aCons (mVar 2) (aCons (mVar 3) (aCons (mC (.int 3)) (aNil))))) (aNil))))
    (sSeq (sIf (tOr (tNot (mTru (mCall (sp_law_same A 30) W (aCons (mCall (sp_is_pattern A) W (aCons (mVar 3) (aCons (mVar 4) (aNil)))) (aCons (mC (.bl true)) (aNil)))))) (tNot (mTru (mCall (sp_law_same A 30) W (aCons (mCallK (sp_is_pattern A) W [1, 0] aNil (aCons (mVar 5) (aCons (mOp rAdd (mVar 3) (mC (.int 1))) (aNil)))) (aCons (mC (.bl true)) (aNil))))))) (sRet (mC (.bl false))) (sNext))
    (sSeq (sFor (iRng (mC (.int 12))) (gN 6) (sSeq (sAsg (mCall (sp_law_odd A) W (aCons (mVar 2) (aCons (mVar 3) (aCons (mVar 5) (aNil))))) (gN 7))
    (sSeq (sFor (iRng (mCall (sp_law_draw A) W (aCons (mVar 2) (aCons (mC (.int 3)) (aNil))))) (gN 8) (sAsg (mCall (sp_law_within A) W (aCons (mVar 2) (aCons (mVar 3) (aCons (mVar 7) (aNil))))) (gN 7)))
    (sSeq (sAsg (mOp rAdd (mC (.int 1)) (mCall (sp_law_draw A) W (aCons (mVar 2) (aCons (mVar 3) (aNil))))) (gN 9))
    (sFor (iSeq (mTup (aCons (mVar 3) (aCons (mVar 9) (aNil))))) (gN 10) (sIf (tNot (mTru (mCall (sp_law_same A 30) W (aCons (mCall (sp_is_pattern A) W (aCons (mVar 10) (aCons (mVar 7) (aNil)))) (aCons (mCall (sp_law_judged A 30) W (aCons (mVar 10) (aCons (mVar 7) (aNil)))) (aNil)))))) (sRet (mC (.bl false))) (sNext)))))))
    (sIf (tNot (mTru (mCall (sp_law_refused A) W (aCons (mCall (sp_law_pick A) W (aCons (mVar 2) (aCons (mLstV (aCons (mC (.int 0)) (aCons (mUn rNeg (mC (.int 1))) (aCons (mC (.bl true)) (aCons (mC .non) (aCons (mC (.str "2")) (aCons (mTup (aCons (mC (.int 1)) (aNil))) (aCons (mUn rNeg (mOp rPow (mC (.int 10)) (mC (.int 30)))) (aNil))))))))) (aNil)))) (aCons (mCall (sp_law_pick A) W (aCons (mVar 2) (aCons (mLstV (aCons (mVar 4) (aCons (mC .non) (aCons (mTup (aNil)) (aNil))))) (aNil)))) (aNil)))))) (sRet (mC (.bl false))) (sNext))))))))
    (sRet (mC (.bl true))))
set_option maxHeartbeats 8000000 in
theorem der_law (T : Tx K mg A) (FF_is_pattern : FnD P w K mg base 35 A.is_pattern T.d_is_pattern ["signs", "value"] (sp_is_pattern A)) (FF_law_cup : FnD P w K mg base 1 A.law_cup T.d_law_cup ["script", "at"] (sp_law_cup A)) (FF_law_draw : FnD P w K mg base 1 A.law_draw T.d_law_draw ["cup", "many"] (sp_law_draw A)) (FF_law_pick : FnD P w K mg base 2 A.law_pick T.d_law_pick ["cup", "rows"] (sp_law_pick A)) (FF_law_same : FnD P w K mg base 31 A.law_same T.d_law_same ["found", "due"] (sp_law_same A 30)) (FF_law_pattern : FnD P w K mg base 31 A.law_pattern T.d_law_pattern ["cup", "signs", "most"] (sp_law_pattern A 9)) (FF_law_judged : FnD P w K mg base 31 A.law_judged T.d_law_judged ["signs", "value"] (sp_law_judged A 30)) (FF_law_odd : FnD P w K mg base 3 A.law_odd T.d_law_odd ["cup", "signs", "pattern"] (sp_law_odd A)) (FF_law_within : FnD P w K mg base 32 A.law_within T.d_law_within ["cup", "signs", "value"] (sp_law_within A)) (FF_law_refused : FnD P w K mg base 36 A.law_refused T.d_law_refused ["signs", "value"] (sp_law_refused A)) {f : Addr} {cdv : Value} {AA : Around} {outer : List Env} {s : Shared} {H : Hp} {G : GH} {E : XD} (C : Ctx 36 (AA.deeper (envOfC "law" (defScope s_law) s.heap.objs.size f cdv))) :
    DSs (cxD P w K mg base N_law "law" s_law f cdv AA outer s H G E) G H (defBody s_law) (m_law K A (wE E)) :=
  dss_w (dss_cons (ds_for passesD rfl (di_rng (by rfl) T.n_range (d_int)) (dg_name (i := 1) sc_law.nd) (dss_cons (ds_set (i := 2) sc_law.nd (d_call (FF_law_cup.mono (by decide)) C takesD T.g_law_cup T.k_law_cup T.b_law_cup (da_cons (dv 0) (da_cons (dv 1) (da_nil)))))
    (dss_cons (ds_set (i := 3) sc_law.nd (d_op o_add (d_int) (d_call (FF_law_draw.mono (by decide)) C takesD T.g_law_draw T.k_law_draw T.b_law_draw (da_cons (dv 2) (da_cons (d_int) (da_nil))))))
    (dss_cons (ds_par (i := 4) (j := 5) rfl sc_law.nd rfl rfl (by decide) rfl rfl (da_cons (d_call (FF_law_pattern.mono (by decide)) C takesD T.g_law_pattern T.k_law_pattern T.b_law_pattern (da_cons (dv 2) (da_cons (dv 3) (da_cons (d_int) (da_nil))))) (da_cons (d_call (FF_law_pattern.mono (by decide)) C takesD T.g_law_pattern T.k_law_pattern T.b_law_pattern (da_cons (dv 2) (da_cons (dv 3) (da_cons (d_int) (da_nil))))) (da_nil))) (by rfl))
    (dss_cons (ds_if (dt_w (dw_or (dt_not (dt_val (d_call (FF_law_same.mono (by decide)) C takesD T.g_law_same T.k_law_same T.b_law_same (da_cons (d_call (FF_is_pattern.mono (by decide)) C takesD T.g_is_pattern T.k_is_pattern T.b_is_pattern (da_cons (dv 3) (da_cons (dv 4) (da_nil)))) (da_cons (d_bl) (da_nil)))))) (dw_one (dt_not (dt_val (d_call (FF_law_same.mono (by decide)) C takesD T.g_law_same T.k_law_same T.b_law_same (da_cons (d_callK0 (FF_is_pattern.mono (by decide)) C takesD T.g_is_pattern T.k_is_pattern T.kw_is_pattern_0_value_signs (dk_cons (dv 5) (dk_cons (d_op o_add (dv 3) (d_int)) (dk_nil)))) (da_cons (d_bl) (da_nil))))))))) (dss_one (ds_ret (d_bl))) (dss_nil))
    (dss_cons (ds_for passesD rfl (di_rng (by rfl) T.n_range (d_int)) (dg_name (i := 6) sc_law.nd) (dss_cons (ds_set (i := 7) sc_law.nd (d_call (FF_law_odd.mono (by decide)) C takesD T.g_law_odd T.k_law_odd T.b_law_odd (da_cons (dv 2) (da_cons (dv 3) (da_cons (dv 5) (da_nil))))))
    (dss_cons (ds_for passesD rfl (di_rng (by rfl) T.n_range (d_call (FF_law_draw.mono (by decide)) C takesD T.g_law_draw T.k_law_draw T.b_law_draw (da_cons (dv 2) (da_cons (d_int) (da_nil))))) (dg_name (i := 8) sc_law.nd) (dss_one (ds_set (i := 7) sc_law.nd (d_call (FF_law_within.mono (by decide)) C takesD T.g_law_within T.k_law_within T.b_law_within (da_cons (dv 2) (da_cons (dv 3) (da_cons (dv 7) (da_nil))))))))
    (dss_cons (ds_set (i := 9) sc_law.nd (d_op o_add (d_int) (d_call (FF_law_draw.mono (by decide)) C takesD T.g_law_draw T.k_law_draw T.b_law_draw (da_cons (dv 2) (da_cons (dv 3) (da_nil))))))
    (dss_one (ds_for passesD rfl (di_seq (d_tup (da_cons (dv 3) (da_cons (dv 9) (da_nil))))) (dg_name (i := 10) sc_law.nd) (dss_one (ds_if (dt_not (dt_val (d_call (FF_law_same.mono (by decide)) C takesD T.g_law_same T.k_law_same T.b_law_same (da_cons (d_call (FF_is_pattern.mono (by decide)) C takesD T.g_is_pattern T.k_is_pattern T.b_is_pattern (da_cons (dv 10) (da_cons (dv 7) (da_nil)))) (da_cons (d_call (FF_law_judged.mono (by decide)) C takesD T.g_law_judged T.k_law_judged T.b_law_judged (da_cons (dv 10) (da_cons (dv 7) (da_nil)))) (da_nil)))))) (dss_one (ds_ret (d_bl))) (dss_nil)))))))))
    (dss_one (ds_if (dt_not (dt_val (d_call (FF_law_refused.mono (by decide)) C takesD T.g_law_refused T.k_law_refused T.b_law_refused (da_cons (d_call (FF_law_pick.mono (by decide)) C takesD T.g_law_pick T.k_law_pick T.b_law_pick (da_cons (dv 2) (da_cons (d_lstV (da_cons (d_int) (da_cons (d_un o_neg (d_int)) (da_cons (d_bl) (da_cons (d_non) (da_cons (d_str) (da_cons (d_tup (da_cons (d_int) (da_nil))) (da_cons (d_un o_neg (d_op o_pow (d_int) (d_int))) (da_nil))))))))) (da_nil)))) (da_cons (d_call (FF_law_pick.mono (by decide)) C takesD T.g_law_pick T.k_law_pick T.b_law_pick (da_cons (dv 2) (da_cons (d_lstV (da_cons (dv 4) (da_cons (d_non) (da_cons (d_tup (da_nil)) (da_nil))))) (da_nil)))) (da_nil)))))) (dss_one (ds_ret (d_bl))) (dss_nil)))))))))
    (dss_one (ds_ret (d_bl))))
end
end k50
namespace k50
open PySem PySem.Spec PyProof.Rows DL
local macro_rules | `(tactic| walk_at "ok") => `(tactic| simp only [pv_tup, pv_lst, pv_int, pv_bl, pv_str, pv_non, pvs_nil, pvs_cons, pv_ints, pvs_append, okV_tup, okV_lst, okV_int, okV_bl, okV_non, okV_str, okV_ints, List.all_cons, List.all_nil, Bool.and_self, Bool.and_true, Bool.true_and, rl, tupI])
local macro_rules | `(tactic| walk_at "fit") => `(tactic| (refine fit_of ?_; simp (disch := assumption) only [pd_tup, pd_lst, pd_int, pd_bl, pd_str, pd_non, pd_ints, List.map_cons, List.map_nil, iB, iBs, PyData.bulk, PyData.bulkAll, bulk_ints, iB_ints, Bool.and_self, true_and, and_true, and_self, Nat.zero_add, Nat.add_zero, Nat.reduceAdd, Nat.reduceLeDiff]))
local macro_rules | `(tactic| walk_at "d") => `(tactic| repeat (first | dsimp only [mVar, mC, aNil, aCons, mTup, mLst, mLstV, mFrz, mRepV, mRepM, mOp, mUn, tCmpD, slot, startD, sSeq, sDrop, sRet, sRetN, sIf, sAsg, sBreak, sCont, sNext, sPar, sAug, wipeD, gN, gT_tup, gsNil_nil, gsCons_cons, gSubD, mIf, mAnd, mOr, mNot, mTru, tNot, tAnd, tOr, mB, mIsi_eq, mCall, mCallK, sRaise, sTry_eq, tryK_t, tryK_f, sW, oNone, oSome_eq, intK_int, mSlG, mSl, mSlM, mLc, mLc2, mLcV, mLc2V, iSeq_eq, seqK_tup, seqK_lstV, seqK_str, iRng_eq, rngK_int, iRng2_eq, rng2K_int, iZip_eq, zipK_tup, zipK_lst, iEnum_eq, enumK_tup, enumK_lst, sFor, DL.wE, W0, tYesD, mChain_eq, tChainD, mMeth, blOf_bl, isiK_int, isiK_bl, isiK_str, isiK_tup, isiK_lst, isiK_non, isT_int_bl, isT_int_int, isT_int_str, isT_int_tup, isT_int_ref, isT_int_non, isT_int_lst, isT_bool_bl, isT_bool_int, isT_bool_str, isT_bool_tup, isT_bool_ref, isT_bool_non, isT_bool_lst, isT_str_bl, isT_str_int, isT_str_str, isT_str_tup, isT_str_ref, isT_str_non, isT_str_lst, isT_tuple_bl, isT_tuple_int, isT_tuple_str, isT_tuple_tup, isT_tuple_ref, isT_tuple_non, isT_tuple_lst, isT_list_bl, isT_list_int, isT_list_str, isT_list_tup, isT_list_ref, isT_list_non, isT_list_lst, rIx_tup, rIx_lst, rIx_ref, rAdd_int, rAdd_str, rAdd_tup, rAdd_lst, rAdd_refl, rAdd_refr, rAdd_ref, addK_some, rAddM_eq, addMK_some, lsD_lst, lsD_ref', sqD_lst, sqD_tup, sqD_ref, rSub_int, rMul_int, rMul_tup, rMul_ref, rMulM_ref, repK_some, repMK_some, rFdiv_int, rMod_int, rPow_int, rNeg_int, rEq_int, rEq_str, rEq_bl, rNe_eq, notK_bl, rNotIn_eq, rIn_rng, rIs_bl, rOrd_int, rOrd_str, ci_lt, ci_le, ci_gt, ci_ge, rSl_tup, rSl_str, rSl_ref, rSl_lst, slK_some, rSlM_eq, slMK_some, tru_bl, tru_non, tru_int, tru_str, tru_tup, tru_lst, tru_ref, truK_some, rIadd_int, rLen_tup, rLen_str, rLen_ref, rLen_lst, lenK_some, rInt_int, rInt_bl, rAll_eq, rAny_eq, rSum_eq, rMax_eq, rMin_eq, Option.bind_some, rTupleOf_tup, rTupleOf_ref, rTupleOf_lst, tupK_some, rListOf_eq, lstK_some, rListOfM_eq, lstMK_some, rRange_one, rRange_two, appK_some, rExtend_ref, extK_some, frzK_lst, frzK_tup, frzK_int, frzK_non, frzK_bl, frzK_str, wkn_rt, wkn_nx, wkn_bk, wkn_ct, List.set_cons_zero, List.set_cons_succ, List.length_cons, List.length_nil, pick, List.getElem?_cons_zero, List.getElem?_cons_succ, List.cons_append, List.nil_append, Nat.reduceAdd, Int.reduceToNat, Int.reducePow, Nat.reducePow, Int.reduceAdd, Int.reduceSub, Int.reduceMul, Int.reduceNeg, Int.reduceAbs, Bool.not_true, Bool.not_false, Int.toNat_natCast] | simp (disch := assumption) only [ixK_some, ix0, ix1, ix2, ix3, ix4, ix5, rIs_non, rIsNot_non, isNon, rSet_ref, set0, set1, set2, Option.isSome_some, rAppend_ref, rPop_ref, rdL_same, rdL_lst, rdL_asm, frzK_new, frzK_ref, allK_map, anyK_map, allK_bls, anyK_bls, sumK_ints, isiK_pv, isiK_ref, seqK_lst, List.length_map, Int.zero_add, Nat.reduceLT, updG_updG, rAbs_int, rMax_two, rMin_two, szl, Nat.reduceLeDiff, Nat.reduceEqDiff, Int.reduceLT, Int.reduceLE, Nat.zero_add, List.isEmpty_cons, List.isEmpty_nil, if_true, if_false, Bool.true_eq_false, Bool.false_eq_true, Bool.not_eq_true', true_and, and_true, decide_eq_true_eq, decide_eq_false_iff_not, eq_self, Int.toNat_natCast]))
local macro_rules | `(tactic| walk_at "s") => `(tactic| repeat (first | dsimp only [mVar, mC, aNil, aCons, mTup, mLst, mLstV, mFrz, mRepV, mRepM, mOp, mUn, tCmpD, slot, startD, sDrop, sRet, sRetN, sIf, sAsg, sBreak, sCont, sNext, sPar, sAug, wipeD, gN, gT_tup, gsNil_nil, gsCons_cons, gSubD, mIf, mAnd, mOr, mNot, mTru, tNot, tAnd, tOr, mB, mIsi_eq, mCall, mCallK, sRaise, sTry_eq, tryK_t, tryK_f, sW, oNone, oSome_eq, intK_int, mSlG, mSl, mSlM, mLc, mLc2, mLcV, mLc2V, iSeq_eq, seqK_tup, seqK_lstV, seqK_str, iRng_eq, rngK_int, iRng2_eq, rng2K_int, iZip_eq, zipK_tup, zipK_lst, iEnum_eq, enumK_tup, enumK_lst, sFor, DL.wE, W0, tYesD, mChain_eq, tChainD, mMeth, blOf_bl, isiK_int, isiK_bl, isiK_str, isiK_tup, isiK_lst, isiK_non, isT_int_bl, isT_int_int, isT_int_str, isT_int_tup, isT_int_ref, isT_int_non, isT_int_lst, isT_bool_bl, isT_bool_int, isT_bool_str, isT_bool_tup, isT_bool_ref, isT_bool_non, isT_bool_lst, isT_str_bl, isT_str_int, isT_str_str, isT_str_tup, isT_str_ref, isT_str_non, isT_str_lst, isT_tuple_bl, isT_tuple_int, isT_tuple_str, isT_tuple_tup, isT_tuple_ref, isT_tuple_non, isT_tuple_lst, isT_list_bl, isT_list_int, isT_list_str, isT_list_tup, isT_list_ref, isT_list_non, isT_list_lst, rIx_tup, rIx_lst, rIx_ref, rAdd_int, rAdd_str, rAdd_tup, rAdd_lst, rAdd_refl, rAdd_refr, rAdd_ref, addK_some, rAddM_eq, addMK_some, lsD_lst, lsD_ref', sqD_lst, sqD_tup, sqD_ref, rSub_int, rMul_int, rMul_tup, rMul_ref, rMulM_ref, repK_some, repMK_some, rFdiv_int, rMod_int, rPow_int, rNeg_int, rEq_int, rEq_str, rEq_bl, rNe_eq, notK_bl, rNotIn_eq, rIn_rng, rIs_bl, rOrd_int, rOrd_str, ci_lt, ci_le, ci_gt, ci_ge, rSl_tup, rSl_str, rSl_ref, rSl_lst, slK_some, rSlM_eq, slMK_some, tru_bl, tru_non, tru_int, tru_str, tru_tup, tru_lst, tru_ref, truK_some, rIadd_int, rLen_tup, rLen_str, rLen_ref, rLen_lst, lenK_some, rInt_int, rInt_bl, rAll_eq, rAny_eq, rSum_eq, rMax_eq, rMin_eq, Option.bind_some, rTupleOf_tup, rTupleOf_ref, rTupleOf_lst, tupK_some, rListOf_eq, lstK_some, rListOfM_eq, lstMK_some, rRange_one, rRange_two, appK_some, rExtend_ref, extK_some, frzK_lst, frzK_tup, frzK_int, frzK_non, frzK_bl, frzK_str, wkn_rt, wkn_nx, wkn_bk, wkn_ct, List.set_cons_zero, List.set_cons_succ, List.length_cons, List.length_nil, pick, List.getElem?_cons_zero, List.getElem?_cons_succ, List.cons_append, List.nil_append, Nat.reduceAdd, Int.reduceToNat, Int.reducePow, Nat.reducePow, Int.reduceAdd, Int.reduceSub, Int.reduceMul, Int.reduceNeg, Int.reduceAbs, Bool.not_true, Bool.not_false, Int.toNat_natCast] | simp (disch := assumption) only [ixK_some, ix0, ix1, ix2, ix3, ix4, ix5, rIs_non, rIsNot_non, isNon, rSet_ref, set0, set1, set2, Option.isSome_some, rAppend_ref, rPop_ref, rdL_same, rdL_lst, rdL_asm, frzK_new, frzK_ref, allK_map, anyK_map, allK_bls, anyK_bls, sumK_ints, isiK_pv, isiK_ref, seqK_lst, List.length_map, Int.zero_add, Nat.reduceLT, updG_updG, rAbs_int, rMax_two, rMin_two, szl, Nat.reduceLeDiff, Nat.reduceEqDiff, Int.reduceLT, Int.reduceLE, Nat.zero_add, List.isEmpty_cons, List.isEmpty_nil, if_true, if_false, Bool.true_eq_false, Bool.false_eq_true, Bool.not_eq_true', true_and, and_true, decide_eq_true_eq, decide_eq_false_iff_not, eq_self, Int.toNat_natCast]))

theorem len_is_integer {A : Ad} {ds G Q E} (h : sp_is_integer A ds G Q E) : ds.length = 1 := by obtain ⟨d, rfl, _⟩ := h; rfl
theorem rd_is_integer {K mg} {A : Ad} (T : Tx K mg A) {ds G Q E} (h : sp_is_integer A ds G Q E) : m_is_integer K A (wE E) { nx := fun _ G' => Q .non G', rt := Q } (startD N_is_integer ds) G := by
  unfold m_is_integer
  obtain ⟨d, rfl, k, q⟩ := h
  walk_at "d"
  cases d <;> simp [isT, pv] at k ⊢ <;> exact .here q
theorem len_is_tuple {A : Ad} {ds G Q E} (h : sp_is_tuple A ds G Q E) : ds.length = 2 := by obtain ⟨_, _, rfl, _⟩ := h; rfl
theorem rd_is_tuple {K mg} {A : Ad} (T : Tx K mg A) {ds G Q E} (h : sp_is_tuple A ds G Q E) : m_is_tuple K A (wE E) { nx := fun _ G' => Q .non G', rt := Q } (startD N_is_tuple ds) G := by
  unfold m_is_tuple
  obtain ⟨m, d, rfl, pd, k, hk, q⟩ := h
  walk_at "d"
  cases d with
  | tup es =>
    rcases hk with ⟨rfl, rfl⟩ | ⟨i, rfl, rfl⟩
    · walk_at "d"; exact .here q
    · walk_at "d"; exact .here q
  | _ => exact .here q
theorem len_law_cup {A : Ad} {ds G Q E} (h : sp_law_cup A ds G Q E) : ds.length = 2 := by obtain ⟨_, _, rfl, _⟩ := h; rfl
theorem rd_law_cup {K mg} {A : Ad} (T : Tx K mg A) {ds G Q E} (h : sp_law_cup A ds G Q E) : m_law_cup K A (wE E) { nx := fun _ G' => Q .non G', rt := Q } (startD N_law_cup ds) G := by
  unfold m_law_cup
  obtain ⟨ns, t, rfl, ht, q⟩ := h
  walk_at "s"
  refine seq_cut (fun δ G' => G' = G ∧ ∃ x : Int, δ = [some (.lst (ns.map .int)), some (.int (t : Nat)), some (.int x)]) (fun nx k => ?_) ?_
  · walk_at "s"
    split
    · rename_i h
      have hi : t < ns.length := by omega
      rw [ixK_some (d := .int ns[t]) (atNat (by simp [hi]))]
      walk_at "s"
      exact k _ _ ⟨rfl, _, rfl⟩
    · exact ⟨.inl (.inl (by decide)), k _ _ ⟨rfl, _, rfl⟩⟩
  rintro δ G' ⟨rfl, x, rfl⟩
  refine seq_cut (fun δ G'' => G'' = G' ∧ ∃ x : Int, δ = [some (.lst (ns.map .int)), some (.int (t : Nat)), some (.int x)]) (fun nx k => ?_) ?_
  · walk_at "s"
    have w : ∀ a b : Int, a.natAbs < 2 ^ 1000 → b.natAbs < 2 ^ 1000 → L2.CMul a b ∨ L2.CMulW a b := fun a b ha hb => .inr (L2.wide_mul ha hb (by decide) (by decide) (by decide))
    refine ⟨w _ _ (by decide +kernel) (by decide +kernel), w _ _ (by decide +kernel) (by decide +kernel), w _ _ (by decide +kernel) (by decide +kernel), w _ _ (by decide +kernel) (by decide +kernel), ?_⟩
    exact k _ _ ⟨rfl, _, rfl⟩
  rintro δ G'' ⟨rfl, x, rfl⟩
  walk_at "s"
  refine ⟨.inl (.inl (by decide)), fun p hp => ?_⟩
  exact .here (q p _ ⟨_, _, _, updG_same⟩ (LeG.refl.new hp))
theorem len_law_draw {A : Ad} {ds G Q E} (h : sp_law_draw A ds G Q E) : ds.length = 2 := by obtain ⟨_, _, rfl, _⟩ := h; rfl
theorem rd_law_draw {K mg} {A : Ad} (T : Tx K mg A) {ds G Q E} (h : sp_law_draw A ds G Q E) : m_law_draw K A (wE E) { nx := fun _ G' => Q .non G', rt := Q } (startD N_law_draw ds) G := by
  unfold m_law_draw
  obtain ⟨a, m, rfl, m0, m1, ⟨x, y, z, hG⟩, q⟩ := h
  walk_at "s"
  refine seq_step fun nx k => ?_
  walk_at "s"
  refine k _ _ ?_
  clear k
  have fin : ∀ (x y z : Int) (j : Int), Q (.int (j % m)) (updG G a (.lst [.int x, .int y, .int z])) := fun x y z j => q _ _ (Int.emod_nonneg _ (by omega)) (Int.emod_lt_of_pos _ m0) ⟨_, _, _, updG_same⟩ (Up.refl.upd (by simp))
  refine seq_step fun nx k => ?_
  walk_at "d"
  split
  · split
    · refine ⟨m0, ⟨m0, m1⟩, ?_⟩
      exact .here (fin _ _ _ _)
    · refine k _ _ ?_
      clear k
      walk_at "d"
      refine ⟨.inl (.inl (by decide)), .inl (.inr (by decide)), .inl (.inl ?_), .inl (.inl (by decide)), .inl (.inr (by decide)), m0, ?_⟩
      · constructor <;> omega
      · exact .here (fin _ _ _ _)
  · refine k _ _ ?_
    clear k
    walk_at "d"
    refine ⟨.inl (.inl (by decide)), .inl (.inr (by decide)), .inl (.inl ?_), .inl (.inl (by decide)), .inl (.inr (by decide)), m0, ?_⟩
    · constructor <;> omega
    · exact .here (fin _ _ _ _)
theorem len_is_from {A : Ad} {ds G Q E} (h : sp_is_from A ds G Q E) : ds.length = 2 := by obtain ⟨_, _, rfl, _⟩ := h; rfl
theorem rd_is_from {K mg} {A : Ad} (T : Tx K mg A) {ds G Q E} (h : sp_is_from A ds G Q E) : m_is_from K A (wE E) { nx := fun _ G' => Q .non G', rt := Q } (startD N_is_from ds) G := by
  unfold m_is_from
  obtain ⟨l, d, rfl, k, q⟩ := h
  walk_at "d"
  refine ⟨d, rfl, k, ?_⟩
  walk_at "d"
  cases d with
  | int i => rw [show isIntD (.int i) = true from rfl]; walk_at "d"; exact .here q
  | _ => exact .here q
theorem len_law_pick {A : Ad} {ds G Q E} (h : sp_law_pick A ds G Q E) : ds.length = 2 := by obtain ⟨_, _, _, rfl, _⟩ := h; rfl
theorem rd_law_pick {K mg} {A : Ad} (T : Tx K mg A) {ds G Q E} (h : sp_law_pick A ds G Q E) : m_law_pick K A (wE E) { nx := fun _ G' => Q .non G', rt := Q } (startD N_law_pick ds) G := by
  unfold m_law_pick
  obtain ⟨a, x, xs, rfl, hx, h0, h1, hs, q⟩ := h
  rcases hx with rfl | rfl <;>
  · walk_at "d"
    refine ⟨a, _, rfl, by omega, by omega, hs, fun k G' k0 k1 s u => ?_⟩
    walk_at "d"
    obtain ⟨y, e, hy⟩ := atI_mem (xs := xs) k0 k1
    rw [ixK_some e]
    exact .here (q y hy G' s u)
theorem len_is_below {A : Ad} {ds G Q E} (h : sp_is_below A ds G Q E) : ds.length = 2 := by obtain ⟨_, _, rfl, _⟩ := h; rfl
theorem rd_is_below {K mg} {A : Ad} (T : Tx K mg A) {ds G Q E} (h : sp_is_below A ds G Q E) : m_is_below K A (wE E) { nx := fun _ G' => Q .non G', rt := Q } (startD N_is_below ds) G := by
  unfold m_is_below
  obtain ⟨m, d, rfl, k, q⟩ := h
  walk_at "d"
  refine ⟨0, d, rfl, k, ?_⟩
  walk_at "d"
  cases d with
  | int i =>
    have e : belowD m (.int i) = (fromD 0 (.int i) && decide (i < m)) := rfl
    rw [e] at q
    split
    · rename_i h
      rw [h] at q
      walk_at "d"; exact .here q
    · rename_i h
      rw [Bool.not_eq_true] at h
      rw [h] at q ⊢
      exact .here q
  | _ => exact .here q
theorem len_check_signs {A : Ad} {ds G Q E} (h : sp_check_signs A ds G Q E) : ds.length = 1 := by obtain ⟨_, rfl, _⟩ := h; rfl
theorem rd_check_signs {K mg} {A : Ad} (T : Tx K mg A) {ds G Q E} (h : sp_check_signs A ds G Q E) : m_check_signs K A (wE E) { nx := fun _ G' => Q .non G', rt := Q } (startD N_check_signs ds) G := by
  unfold m_check_signs
  obtain ⟨d, rfl, k, q1, q2⟩ := h
  walk_at "d"
  refine ⟨1, d, rfl, k, ?_⟩
  walk_at "d"
  split
  · rename_i h; exact q2 h
  · rename_i h; exact .here (q1 (by simpa using h))
theorem len_law_odd {A : Ad} {ds G Q E} (h : sp_law_odd A ds G Q E) : ds.length = 3 := by obtain ⟨_, _, _, rfl, _⟩ := h; rfl
theorem rd_law_odd {K mg} {A : Ad} (T : Tx K mg A) {ds G Q E} (h : sp_law_odd A ds G Q E) : m_law_odd K A (wE E) { nx := fun _ G' => Q .non G', rt := Q } (startD N_law_odd ds) G := by
  unfold m_law_odd
  obtain ⟨a, s, es, rfl, op, cp, q⟩ := h
  have p24 := okV_mono op (show 18 ≤ 24 by decide)
  have p23 := okV_mono op (show 18 ≤ 23 by decide)
  have p22 := okV_mono op (show 18 ≤ 22 by decide)
  have q23 : es.all (okV 23) = true := by rw [← okV_tup]; exact p24
  have q22 : es.all (okV 22) = true := by rw [← okV_tup]; exact p23
  have q21 : es.all (okV 21) = true := by rw [← okV_tup]; exact p22
  walk_at "d"
  refine ⟨a, _, _, rfl, .inl rfl, by simp, by simp, cp, fun d hd G3 cp3 u3 => .here (q d G3 ?_ cp3 u3)⟩
  refine List.all_eq_true.mp (?_ : List.all _ (okV 24) = true) d hd
  simp only [List.all_cons, List.all_nil, okV_tup, okV_lst, okV_int, okV_bl, okV_non, okV_str, q23, q22, q21, Bool.and_true, Bool.true_and]
  decide +kernel
theorem no_law_size {A : Ad} {ds G Q E} (h : sp_law_size A 0 ds G Q E) : False := h
theorem len_law_size {A : Ad} {n : Nat} {ds G Q E} (h : sp_law_size A (n + 1) ds G Q E) : ds.length = 1 := by obtain ⟨_, _, rfl, _⟩ := h; rfl
theorem rd_law_size {K mg} {A : Ad} (T : Tx K mg A) {n : Nat} {ds G Q E} (h : sp_law_size A (n + 1) ds G Q E) : m_law_size K A n (wE E) { nx := fun _ G' => Q .non G', rt := Q } (startD N_law_size ds) G := by
  unfold m_law_size
  obtain ⟨s, d, rfl, hp, ok, hn, q⟩ := h
  rcases patN_cases hp with rfl | rfl | ⟨x, rfl, hx⟩ | ⟨w, x, hw, rfl, hx⟩ | ⟨w, es, hw, rfl, ne, he⟩
  · walk_at "s"
    refine seq_step fun nx k => ?_
    walk_at "s"
    rw [rIn_str3 (by decide +kernel), show (decide (("sign" : Str) = "any") || (decide (("any" : Str) = "any") || decide (("nothing" : Str) = "any"))) = true by decide +kernel]
    walk_at "s"
    exact .here (q 1 (by omega))
  · walk_at "s"
    refine seq_step fun nx k => ?_
    walk_at "s"
    rw [rIn_str3 (by decide +kernel), show (decide (("sign" : Str) = "nothing") || (decide (("any" : Str) = "nothing") || decide (("nothing" : Str) = "nothing"))) = true by decide +kernel]
    walk_at "s"
    exact .here (q 1 (by omega))
  · walk_at "s"
    refine seq_step fun nx k => ?_
    walk_at "s"
    rw [rIn_str3 (by decide +kernel), show (decide (("sign" : Str) = "sign") || (decide (("any" : Str) = "sign") || decide (("nothing" : Str) = "sign"))) = true by decide +kernel]
    walk_at "s"
    exact .here (q 1 (by omega))
  · have ox : okV n x = true := by
      rw [okV_tup] at ok
      simp only [List.all_cons, List.all_nil, Bool.and_true, Bool.and_eq_true] at ok
      exact ok.2
    have nz : n ≠ 0 := by intro z; subst z; simp [okV] at ox
    obtain ⟨n, rfl⟩ : ∃ k, n = k + 1 := ⟨n - 1, by omega⟩
    have fin : ∀ E, sp_law_size A (n + 1) [x] G (fun d G1 => DL.rAdd (.int 1) d G1 (WkQ Q)) E := fun E => ⟨s, x, rfl, hx, ox, by omega, fun k hk => .here (q _ (by omega))⟩
    rcases hw with rfl | rfl
    · walk_at "s"
      refine seq_step fun nx k => ?_
      walk_at "s"
      rw [rIn_str3 (by decide +kernel), show (decide (("sign" : Str) = "repeat") || (decide (("any" : Str) = "repeat") || decide (("nothing" : Str) = "repeat"))) = false by decide +kernel]
      walk_at "s"
      refine k _ _ (seq_step fun nx k => ?_)
      walk_at "s"
      rw [rIn_str2 (by decide +kernel), show (decide (("repeat" : Str) = "repeat") || decide (("not" : Str) = "repeat")) = true by decide +kernel]
      walk_at "s"
      exact fin _
    · walk_at "s"
      refine seq_step fun nx k => ?_
      walk_at "s"
      rw [rIn_str3 (by decide +kernel), show (decide (("sign" : Str) = "not") || (decide (("any" : Str) = "not") || decide (("nothing" : Str) = "not"))) = false by decide +kernel]
      walk_at "s"
      refine k _ _ (seq_step fun nx k => ?_)
      walk_at "s"
      rw [rIn_str2 (by decide +kernel), show (decide (("repeat" : Str) = "not") || decide (("not" : Str) = "not")) = true by decide +kernel]
      walk_at "s"
      exact fin _
  · have oe : ∀ e ∈ es, okV (n - 1) e = true := by
      rw [okV_tup] at ok
      simp only [List.all_cons, List.all_nil, Bool.and_true, Bool.and_eq_true] at ok
      have o2 := ok.2
      cases n with
      | zero => simp [okV] at o2
      | succ n => rw [okV_tup, List.all_eq_true] at o2; exact o2
    have nz : n ≠ 0 := by
      intro z; subst z
      rw [okV_tup] at ok
      simp [okV] at ok
    obtain ⟨n, rfl⟩ : ∃ k, n = k + 1 := ⟨n - 1, by omega⟩
    have w3 : (PyData.canLay0 (.str w) = true) ∧ (decide (("sign" : Str) = w) || (decide (("any" : Str) = w) || decide (("nothing" : Str) = w))) = false ∧ (decide (("repeat" : Str) = w) || decide (("not" : Str) = w)) = false := by
      rcases hw with rfl | rfl | rfl <;> decide +kernel
    clear hw
    walk_at "s"
    refine seq_step fun nx k => ?_
    walk_at "s"
    rw [rIn_str3 (by rw [w3.1]; decide +kernel), w3.2.1]
    walk_at "s"
    refine k _ _ (seq_step fun nx k => ?_)
    walk_at "s"
    rw [rIn_str2 (by rw [w3.1]; decide +kernel), w3.2.2]
    walk_at "s"
    refine k _ _ ?_
    walk_at "s"
    intro hz
    have key : ∀ (ds : List D) (acc : List Int), (∀ e ∈ ds, e ∈ es) → acc.length + ds.length ≤ 16777216 → (∀ x ∈ acc, 1 ≤ x) → lcL (fun _ => True) (gN 1) tYesD (mCall (sp_law_size A (n + 1)) W0 (aCons (mVar 1) aNil)) [some (.tup [.str w, .tup es]), none] ds (acc.map .int) G fun acc G2 => sumK (intsD acc) G2 fun y G2 => DL.rAdd (.int 1) y G2 (WkQ Q) := by
      intro ds
      induction ds with
      | nil =>
        intro acc _ _ ha
        refine ⟨trivial, ?_⟩
        dsimp only
        rw [sumK_ints]
        walk_at "s"
        have : ∀ (l : List Int), (∀ x ∈ l, 1 ≤ x) → 0 ≤ l.sum := by
          intro l
          induction l with
          | nil => intro _; simp
          | cons x l ih => intro h; have := h x (by simp); have := ih fun y hy => h y (by simp [hy]); simp; omega
        exact .here (q _ (by have := this acc ha; omega))
      | cons d ds ih =>
        intro acc hd hl ha
        refine ⟨trivial, ?_⟩
        walk_at "s"
        refine ⟨s, d, rfl, he d (hd d (by simp)), okV_mono (oe d (hd d (by simp))) (by omega), by omega, fun k hk => ⟨by simp only [List.length_map, List.length_cons] at hl ⊢; omega, ?_⟩⟩
        have e : acc.map D.int ++ [D.int k] = (acc ++ [k]).map D.int := by simp
        rw [e]
        refine ih (acc ++ [k]) (fun e he => hd e (by simp [he])) (by simp at hl ⊢; omega) ?_
        intro x hx
        rcases List.mem_append.mp hx with z | z
        · exact ha x z
        · simp at z; omega
    exact key es [] (fun _ h => h) (by simpa using hz) (by simp)
theorem no_law_same {A : Ad} {ds G Q E} (h : sp_law_same A 0 ds G Q E) : False := h
theorem len_law_same {A : Ad} {n : Nat} {ds G Q E} (h : sp_law_same A (n + 1) ds G Q E) : ds.length = 2 := by obtain ⟨_, rfl, _⟩ := h; rfl
theorem rd_law_same {K mg} {A : Ad} (T : Tx K mg A) {n : Nat} {ds G Q E} (h : sp_law_same A (n + 1) ds G Q E) : m_law_same K A n (wE E) { nx := fun _ G' => Q .non G', rt := Q } (startD N_law_same ds) G := by
  unfold m_law_same
  obtain ⟨x, rfl, ok, hn, q⟩ := h
  have xp := okV_pv (smV_okV ok)
  have al : ∀ (m : Nat) (Q' : KD), Q' (.bl true) G → allK (blsD (List.replicate m (.bl true))) G Q' := fun m Q' q' => by
    rw [show List.replicate m (D.bl true) = (List.replicate m true).map D.bl by simp, allK_bls, show ((List.replicate m true).all fun b => b) = true by simp]
    exact q'
  cases x with
  | tup es =>
    rw [smV_tup] at ok
    refine seq_step fun nx k => ?_
    walk_at "s"
    refine seq_step fun nx k => ?_
    walk_at "s"
    refine k _ _ ?_
    walk_at "s"
    refine ⟨⟨by omega, by omega⟩, ?_⟩
    refine lcL_rng (fun i acc G' => G' = G ∧ i ≤ es.length ∧ acc = List.replicate i (.bl true)) (fun _ _ _ _ => trivial) ?_ ?_ ⟨rfl, by omega, rfl⟩
    · rintro acc G' ⟨rfl, _, rfl⟩
      exact al _ _ (.here q)
    · rintro i acc G' nx hi ⟨rfl, _, rfl⟩ k1
      have e : es[i]? = some es[i] := by simp [hi]
      have oe := ok.2 _ (List.getElem_mem hi)
      have rc : n ≠ 0 := by intro z; subst z; simp [smV] at oe
      obtain ⟨n, rfl⟩ : ∃ k, n = k + 1 := ⟨n - 1, by omega⟩
      walk_at "s"
      rw [ixK_some (atNat e), ixK_some (atNat e)]
      refine ⟨_, rfl, oe, by omega, ?_⟩
      refine ⟨by simp [szl]; omega, ?_⟩
      exact k1 _ _ ⟨rfl, by omega, by rw [List.replicate_succ']⟩
  | lst es =>
    rw [smV_lst] at ok
    refine seq_step fun nx k => ?_
    walk_at "s"
    refine seq_step fun nx k => ?_
    walk_at "s"
    refine k _ _ ?_
    walk_at "s"
    refine ⟨⟨by omega, by omega⟩, ?_⟩
    refine lcL_rng (fun i acc G' => G' = G ∧ i ≤ es.length ∧ acc = List.replicate i (.bl true)) (fun _ _ _ _ => trivial) ?_ ?_ ⟨rfl, by omega, rfl⟩
    · rintro acc G' ⟨rfl, _, rfl⟩
      exact al _ _ (.here q)
    · rintro i acc G' nx hi ⟨rfl, _, rfl⟩ k1
      have e : es[i]? = some es[i] := by simp [hi]
      have oe := ok.2 _ (List.getElem_mem hi)
      have rc : n ≠ 0 := by intro z; subst z; simp [smV] at oe
      obtain ⟨n, rfl⟩ : ∃ k, n = k + 1 := ⟨n - 1, by omega⟩
      walk_at "s"
      rw [ixK_some (atNat e), ixK_some (atNat e)]
      refine ⟨_, rfl, oe, by omega, ?_⟩
      refine ⟨by simp [szl]; omega, ?_⟩
      exact k1 _ _ ⟨rfl, by omega, by rw [List.replicate_succ']⟩
  | ref p => simp [pv] at xp
  | ty p => simp [pv] at xp
  | rng p _ => simp [pv] at xp
  | _ => walk_at "d"; exact .here q
theorem no_law_pattern {A : Ad} {ds G Q E} (h : sp_law_pattern A 0 ds G Q E) : False := h
theorem len_law_pattern {A : Ad} {n : Nat} {ds G Q E} (h : sp_law_pattern A (n + 1) ds G Q E) : ds.length = 3 := by obtain ⟨_, _, _, rfl, _⟩ := h; rfl
theorem rd_law_pattern {K mg} {A : Ad} (T : Tx K mg A) {n : Nat} {ds G Q E} (h : sp_law_pattern A (n + 1) ds G Q E) : m_law_pattern K A n (wE E) { nx := fun _ G' => Q .non G', rt := Q } (startD N_law_pattern ds) G := by
  unfold m_law_pattern
  obtain ⟨a, s, m, rfl, s1, s2, m1, m2, hn, c, q⟩ := h
  walk_at "s"
  refine seq_cut (fun δ G' => Cup G' a ∧ Up [a] G G' ∧ ∃ y z u : Option D, ∃ w : Int, δ = [some (.ref a), some (.int s), some (.int m), some (.int w), y, z, u] ∧ 0 ≤ w ∧ w < 10 ∧ (4 ≤ w → 2 ≤ m)) (fun nx k => ?_) ?_
  · walk_at "s"
    split
    · exact ⟨a, _, rfl, by omega, by omega, c, fun w G1 w0 w1 c1 u1 => k _ _ ⟨c1, u1, _, _, _, w, rfl, w0, by omega, by omega⟩⟩
    · exact ⟨a, _, rfl, by omega, by omega, c, fun w G1 w0 w1 c1 u1 => k _ _ ⟨c1, u1, _, _, _, w, rfl, w0, by omega, by omega⟩⟩
  rintro δ G1 ⟨c1, u1, y, z, u, w, rfl, w0, w10, w4⟩
  refine seq_step fun nx k => ?_
  walk_at "s"
  split
  · refine ⟨a, s, rfl, by omega, by omega, c1, fun j G2 j0 j1 c2 u2 => ?_⟩
    refine .here (q _ _ (patN_sign (by simp [belowD]; omega)) ?_ c2 (u1.trans u2))
    rw [show 2 * (n + 1) = (2 * n + 1) + 1 by omega, okV_tup]
    simp only [List.all_cons, List.all_nil, Bool.and_true, Bool.and_eq_true]
    exact ⟨by rw [okV_str]; decide +kernel, okV_int⟩
  rename_i h2
  have leaf : ∀ w : Str, PyData.canLay0 (.str w) = true → okV (2 * (n + 1)) (.tup [.str w]) = true := fun w hw => by
    rw [show 2 * (n + 1) = (2 * n + 1) + 1 by omega, okV_tup]
    simp only [List.all_cons, List.all_nil, Bool.and_true]
    rw [okV_str]; exact hw
  refine k _ _ (seq_step fun nx k => ?_)
  walk_at "s"
  split
  · have : w = 2 ∨ w = 3 := by omega
    rcases this with rfl | rfl
    · walk_at "s"
      exact .here (q _ _ patN_leaf.1 (leaf _ (by decide +kernel)) c1 u1)
    · walk_at "s"
      exact .here (q _ _ patN_leaf.2 (leaf _ (by decide +kernel)) c1 u1)
  rename_i h4
  have m22 : 2 ≤ m := w4 (by omega)
  obtain ⟨n, rfl⟩ : ∃ k, n = k + 1 := ⟨n - 1, by omega⟩
  have big : n + 1 ≤ 20 := by omega
  have big2 : 2 * (n + 1) ≤ 20 := by omega
  refine k _ _ (seq_step fun nx k => ?_)
  walk_at "s"
  split
  · have one : ∀ (w : Str), (w = ("repeat" : Str) ∨ w = ("not" : Str)) → PyData.canLay0 (.str w) = true → sp_law_pattern A (n + 1) [.ref a, .int s, .int (m - 1)] G1 (fun d G2 => WkQ Q (.tup [.str w, d]) G2) fun cls fld G' => E cls fld G' := fun w hw hl =>
      ⟨a, s, m - 1, rfl, s1, s2, by omega, by omega, by omega, c1, fun d G' hp ho c' u' => .here (q _ _ (patN_one hw hp) (by
        rw [show 2 * (n + 1 + 1) = (2 * (n + 1) + 1) + 1 by omega, okV_tup]
        simp only [List.all_cons, List.all_nil, Bool.and_true, Bool.and_eq_true]
        exact ⟨by rw [okV_str]; exact hl, okV_mono ho (by omega)⟩) c' (u1.trans u'))⟩
    have : w = 4 ∨ w = 5 := by omega
    rcases this with rfl | rfl
    · walk_at "s"
      exact one _ (.inl rfl) (by decide +kernel)
    · walk_at "s"
      exact one _ (.inr rfl) (by decide +kernel)
  rename_i h6
  refine k _ _ (seq_step fun nx k => ?_)
  walk_at "s"
  intro p hp
  have pa := c1.ne hp
  refine k _ _ (seq_cut (fun δ G' => Cup G' a ∧ Up [a] G G' ∧ ∃ (es : List D) (l : Int) (p : Addr) (u : Option D), p ≠ a ∧ G p = none ∧ G' p = some (.lst es) ∧ es ≠ [] ∧ (∀ e ∈ es, patN (n + 1) s e = true ∧ okV (2 * (n + 1)) e = true) ∧ es.length ≤ 3 ∧ δ = [some (.ref a), some (.int s), some (.int m), some (.int w), some (.ref p), some (.int l), u]) (fun nx k => ?_) ?_)
  · walk_at "s"
    refine ⟨a, 3, rfl, by decide, by decide, c1.new hp, fun j G2 j0 j1 c2 u2 => ?_⟩
    have e2 := at_up (q := p) updG_same u2 pa
    have u20 := (u1.new (o := .lst []) hp).trans u2
    have pG := u1.none hp (by simpa using pa)
    walk_at "s"
    refine ⟨by omega, ?_⟩
    refine forL_rng (fun i δ G' => Cup G' a ∧ Up [a] G G' ∧ i ≤ (1 + j).toNat ∧ ∃ (es : List D) (l : Int) (u : Option D), G' p = some (.lst es) ∧ (0 < i → es ≠ []) ∧ (∀ e ∈ es, patN (n + 1) s e = true ∧ okV (2 * (n + 1)) e = true) ∧ es.length ≤ i ∧ l ≤ m - 1 ∧ (i = 0 → 1 ≤ l) ∧ δ = [some (.ref a), some (.int s), some (.int m), some (.int w), some (.ref p), some (.int l), u]) (fun _ _ _ _ => trivial) ?_ ?_ ⟨c2, u20, by omega, [], m - 1, _, e2, by omega, by simp, by simp, by omega, by omega, rfl⟩
    · rintro δ G' ⟨c', u', _, es, l, u, e', ne, he, hl, _, _, rfl⟩
      exact k _ _ ⟨c', u', es, l, p, u, pa, pG, e', ne (by omega), he, by omega, rfl⟩
    · rintro i δ G' nx hi ⟨c', u', _, es, l, u, e', ne, he, hl, l1, l0, rfl⟩ k2
      walk_at "s"
      split
      · refine seq_step fun nx k => ?_
        walk_at "s"
        refine ⟨a, s, l, rfl, s1, s2, by omega, by omega, by omega, c', fun d G3 hp ho c3 u3 => ?_⟩
        have e3 := at_up e' u3 pa
        walk_at "s"
        refine ⟨by omega, k _ _ ?_⟩
        walk_at "s"
        rw [ixK_some at_last]
        refine (show sp_law_size A (19 + 1) [d] _ _ _ from ⟨s, d, rfl, patN_mono hp big (Int.le_refl _), okV_mono ho big2, by decide, fun z hz => ?_⟩)
        walk_at "s"
        refine k2 _ _ ⟨c3.upd pa, (u'.trans u3).mut pG, by omega, es ++ [d], l - z, _, updG_same, by simp, ?_, by simp; omega, by omega, by omega, rfl⟩
        intro x hx
        rcases List.mem_append.mp hx with y | y
        · exact he x y
        · simp at y; subst y; exact ⟨hp, ho⟩
      · refine k2 _ _ ⟨c', u', by omega, es, l, _, e', fun _ => ?_, he, by omega, l1, by omega, rfl⟩
        by_cases i0 : i = 0
        · have := l0 i0; omega
        · exact ne (by omega)
  rintro δ G3 ⟨c3, u3, es, l, p, u, pa, hp, hG, ne, he, hl, rfl⟩
  walk_at "s"
  have fin : ∀ w : Str, (w = ("row" : Str) ∨ w = ("choice" : Str) ∨ w = ("both" : Str)) → PyData.canLay0 (.str w) = true → WkQ Q (.tup [.str w, .tup es]) G3 := fun w hw hl => .here (q _ _ (patN_many hw ne fun e h => (he e h).1) (by
      rw [show 2 * (n + 1 + 1) = (2 * (n + 1) + 1) + 1 by omega, okV_tup]
      simp only [List.all_cons, List.all_nil, Bool.and_true, Bool.and_eq_true]
      refine ⟨by rw [okV_str]; exact hl, ?_⟩
      rw [okV_tup, List.all_eq_true]
      exact fun e h => (he e h).2) c3 u3)
  have : w = 6 ∨ w = 7 ∨ w = 8 ∨ w = 9 := by omega
  rcases this with rfl | rfl | rfl | rfl
  · walk_at "s"; exact fin _ (.inl rfl) (by decide +kernel)
  · walk_at "s"; exact fin _ (.inr (.inl rfl)) (by decide +kernel)
  · walk_at "s"; exact fin _ (.inr (.inr rfl)) (by decide +kernel)
  · walk_at "s"; exact fin _ (.inl rfl) (by decide +kernel)
theorem no_law_judged {A : Ad} {ds G Q E} (h : sp_law_judged A 0 ds G Q E) : False := h
theorem len_law_judged {A : Ad} {n : Nat} {ds G Q E} (h : sp_law_judged A (n + 1) ds G Q E) : ds.length = 2 := by obtain ⟨_, _, rfl, _⟩ := h; rfl
theorem rd_law_judged {K mg} {A : Ad} (T : Tx K mg A) {n : Nat} {ds G Q E} (h : sp_law_judged A (n + 1) ds G Q E) : m_law_judged K A n (wE E) { nx := fun _ G' => Q .non G', rt := Q } (startD N_law_judged ds) G := by
  unfold m_law_judged
  obtain ⟨s, d, rfl, ok, hn, q⟩ := h
  have dp := okV_pv ok
  walk_at "s"
  refine seq_cut (fun δ G' => G' = G ∧ δ = [some (.int s), some d, none, none] ∧ ∃ w rest, d = .tup (w :: rest) ∧ isT .str w = true) (fun nx k => ?_) ?_
  · cases d with
    | tup es =>
      walk_at "s"
      rw [rEq_nilT ok (by omega)]
      cases es with
      | nil => walk_at "s"; rw [show isNilT (.tup []) = true from rfl]; walk_at "s"; exact .here q
      | cons w rest =>
        walk_at "s"
        rw [show isNilT (.tup (w :: rest)) = false from rfl]
        walk_at "s"
        have wp : pv w = true := by
          have := okV_pv ok
          rw [pv_tup, pvs_cons, Bool.and_eq_true] at this
          exact this.1
        walk_at "s"
        by_cases e : isT .str w = true
        · rw [e]; walk_at "s"; exact k _ _ ⟨rfl, rfl, w, rest, rfl, e⟩
        · rw [Bool.not_eq_true] at e
          rw [e]; walk_at "s"
          have : patN (n + 1) s (.tup (w :: rest)) = false := by
            have no : ∀ x, isS x w = false := fun x => by cases w <;> simp [isS, isT] at e ⊢
            simp only [patN, no, Bool.or_self, Bool.false_eq_true, if_false]
            cases rest with
            | nil => rfl
            | cons y r => cases r <;> rfl
          rw [this] at q
          exact .here q
    | ref p => simp [pv] at dp
    | ty p => simp [pv] at dp
    | rng p _ => simp [pv] at dp
    | _ => walk_at "s"; exact .here q
  rintro δ G' ⟨rfl, rfl, w, rest, rfl, ws⟩
  have ow : okV n w = true ∧ rest.all (okV n) = true := by simpa [okV_tup] using ok
  walk_at "s"
  refine seq_step fun nx k => ?_
  walk_at "s"
  refine k _ _ ?_
  clear k
  simp only [patN] at q
  refine seq_cut (fun δ G'' => G'' = G' ∧ δ = [some (.int s), some (.tup (w :: rest)), some w, none] ∧ isS "any" w = false ∧ isS "nothing" w = false) (fun nx k => ?_) ?_
  · walk_at "s"
    rw [rEq_isS ow.1 (by decide +kernel) (by omega)]
    walk_at "s"
    split
    · rename_i e
      rw [e] at q
      refine .here ?_
      rw [len1_rest]; simpa using q
    · rename_i e
      rw [rEq_isS ow.1 (by decide +kernel) (by omega)]
      walk_at "s"
      rw [Bool.not_eq_true] at e
      split
      · rename_i e2
        rw [e2] at q
        refine .here ?_
        rw [len1_rest]; simpa using q
      · rename_i e2
        rw [Bool.not_eq_true] at e2
        exact k _ _ ⟨rfl, rfl, e, e2⟩
  rintro δ G'' ⟨rfl, rfl, e1, e2⟩
  simp only [e1, e2, Bool.or_self, Bool.false_eq_true, if_false] at q
  refine seq_cut (fun δ G' => G' = G'' ∧ δ = [some (.int s), some (.tup (w :: rest)), some w, none] ∧ ∃ x, rest = [x]) (fun nx k => ?_) ?_
  · walk_at "s"
    cases rest with
    | nil => walk_at "s"; exact .here q
    | cons x r2 =>
    cases r2 with
    | nil =>
      walk_at "s"
      rw [if_neg (by simp)]
      exact k _ _ ⟨rfl, rfl, x, rfl⟩
    | cons y r3 =>
      walk_at "s"
      rw [if_pos (by omega)]
      exact .here q
  rintro δ G' ⟨rfl, rfl, x, rfl⟩
  refine seq_cut (fun δ G'' => G'' = G' ∧ δ = [some (.int s), some (.tup [w, x]), some w, none] ∧ isS "sign" w = false) (fun nx k => ?_) ?_
  · have ox : okV n x = true := by simpa using ow.2
    have xp := okV_pv ox
    walk_at "s"
    rw [rEq_isS ow.1 (by decide +kernel) (by omega)]
    walk_at "s"
    split
    · rename_i e
      rw [e] at q
      simp only [if_true] at q
      cases x with
      | int i =>
        walk_at "s"
        split
        · rename_i h; rw [show belowD s (.int i) = decide (i < s) by simp [belowD, h]] at q; exact .here q
        · rename_i h; rw [show belowD s (.int i) = false by simp [belowD, h]] at q; exact .here q
      | ref p => simp [pv] at xp
      | ty p => simp [pv] at xp
      | rng p _ => simp [pv] at xp
      | _ => walk_at "s"; exact .here q
    · rename_i e
      exact k _ _ ⟨rfl, rfl, by simpa using e⟩
  rintro δ G'' ⟨rfl, rfl, e3⟩
  have ox : okV n x = true := by simpa using ow.2
  have rc : n ≠ 0 := by intro z; subst z; simp [okV] at ox
  obtain ⟨n, rfl⟩ : ∃ k, n = k + 1 := ⟨n - 1, by omega⟩
  simp only [e3, Bool.false_eq_true, if_false] at q
  refine seq_cut (fun δ G3 => G3 = G'' ∧ δ = [some (.int s), some (.tup [w, x]), some w, none] ∧ isS "repeat" w = false ∧ isS "not" w = false) (fun nx k => ?_) ?_
  · walk_at "s"
    rw [rEq_isS ow.1 (by decide +kernel) (by omega)]
    walk_at "s"
    split
    · rename_i e
      rw [e] at q
      walk_at "s"
      exact ⟨s, x, rfl, ox, by omega, .here (by simpa using q)⟩
    · rename_i e
      rw [rEq_isS ow.1 (by decide +kernel) (by omega)]
      walk_at "s"
      split
      · rename_i e'
        rw [e'] at q
        walk_at "s"
        exact ⟨s, x, rfl, ox, by omega, .here (by simpa using q)⟩
      · rename_i e'
        exact k _ _ ⟨rfl, rfl, by simpa using e, by simpa using e'⟩
  rintro δ G3 ⟨rfl, rfl, e4, e5⟩
  simp only [e4, e5, Bool.or_self, Bool.false_eq_true, if_false] at q
  obtain ⟨y, rfl⟩ : ∃ y, w = .str y := by cases w <;> simp [isT] at ws; exact ⟨_, rfl⟩
  have hy : PyData.canLay0 (.str y) = true := by have := ow.1; rwa [okV_str] at this
  have ex : pv x = true := okV_pv ox
  refine seq_cut (fun δ G4 => G4 = G3 ∧ δ = [some (.int s), some (.tup [.str y, x]), some (.str y), none] ∧ ∃ z zs, x = .tup (z :: zs) ∧ (isS "row" (.str y) || isS "choice" (.str y) || isS "both" (.str y)) = true) (fun nx k => ?_) ?_
  · walk_at "s"
    rw [rIn_str3 (by rw [hy]; decide +kernel)]
    have e : (decide (("row" : Str) = y) || (decide (("choice" : Str) = y) || decide (("both" : Str) = y))) = (isS "row" (.str y) || isS "choice" (.str y) || isS "both" (.str y)) := by simp [isS, eq_comm, Bool.or_assoc]
    rw [e]
    cases eb : (isS "row" (.str y) || isS "choice" (.str y) || isS "both" (.str y)) with
    | false => rw [eb] at q; walk_at "s"; exact .here (by simpa using q)
    | true =>
      rw [eb] at q
      simp only [if_true] at q
      walk_at "s"
      cases x with
      | tup es =>
        walk_at "s"
        rw [rEq_nilT ox (by omega)]
        cases es with
        | nil => walk_at "s"; rw [show isNilT (.tup []) = true from rfl]; walk_at "s"; exact .here q
        | cons z zs => walk_at "s"; rw [show isNilT (.tup (z :: zs)) = false from rfl]; walk_at "s"; exact k _ _ ⟨rfl, rfl, z, zs, rfl, eb⟩
      | ref p => simp [pv] at ex
      | ty p => simp [pv] at ex
      | rng p _ => simp [pv] at ex
      | _ => walk_at "s"; exact .here (by simpa [manyP] using q)
  rintro δ G4 ⟨rfl, rfl, z, zs, rfl, eb⟩
  rw [eb] at q
  walk_at "s"
  intro hz
  have oy : ∀ x ∈ z :: zs, okV n x = true := by rw [okV_tup, List.all_eq_true] at ox; exact ox
  refine lcL_fun1 (fun e => .bl (patN (n + 1) s e)) trivial (lsz hz) ?_ ?_
  · intro x hx K hK
    walk_at "s"
    exact ⟨s, x, rfl, okV_mono (oy x hx) (by omega), by omega, hK⟩
  · walk_at "s"
    exact .here (by simpa [manyP] using q)
theorem len_law_within {A : Ad} {ds G Q E} (h : sp_law_within A ds G Q E) : ds.length = 3 := by obtain ⟨_, _, _, rfl, _⟩ := h; rfl
theorem rd_law_within {K mg} {A : Ad} (T : Tx K mg A) {ds G Q E} (h : sp_law_within A ds G Q E) : m_law_within K A (wE E) { nx := fun _ G' => Q .non G', rt := Q } (startD N_law_within ds) G := by
  unfold m_law_within
  obtain ⟨a, s, v, rfl, n, s1, s2, ov, hn, cp, q⟩ := h
  refine seq_cut (fun δ G1 => Cup G1 a ∧ Up [a] G G1 ∧ ∃ (w : Int) (o : D), 0 ≤ w ∧ w < 5 ∧ okV n o = true ∧ δ = [some (.ref a), some (.int s), some v, some (.int w), some o]) (fun nx k => ?_) ?_
  · walk_at "s"
    refine ⟨a, 5, rfl, by decide, by decide, cp, fun w G1 w0 w1 c1 u1 => ?_⟩
    walk_at "s"
    refine (show sp_law_pattern A (8 + 1) _ _ _ _ from ⟨a, s, 2, rfl, s1, s2, by decide, by decide, by decide, c1, fun d G2 hp ho c2 u2 => ?_⟩)
    exact k _ _ ⟨c2, u1.trans u2, w, d, w0, w1, okV_mono ho hn, rfl⟩
  rintro δ G1 ⟨c1, u1, w, o, w0, w5, oo, rfl⟩
  have ov1 := okV_mono ov (show n ≤ n + 1 by omega)
  have st : ∀ x : Str, PyData.canLay0 (.str x) = true → okV (n + 1) (.str x) = true := fun x h => by rw [okV_str]; exact h
  refine seq_step fun nx k => ?_
  walk_at "s"
  split
  · exact .here (q _ _ (okV_two (st _ (by decide +kernel)) ov1) c1 u1)
  refine k _ _ (seq_step fun nx k => ?_)
  walk_at "s"
  split
  · exact .here (q _ _ (okV_two (st _ (by decide +kernel)) ov1) c1 u1)
  refine k _ _ (seq_step fun nx k => ?_)
  walk_at "s"
  split
  · exact .here (q _ _ (okV_two (st _ (by decide +kernel)) (by rw [okV_tup]; simp [oo, ov])) c1 u1)
  refine k _ _ ?_
  have : w = 3 ∨ w = 4 := by omega
  rcases this with rfl | rfl
  all_goals
    walk_at "s"
    refine ⟨a, 2, rfl, by decide, by decide, c1, fun j G2 j0 j1 c2 u2 => ?_⟩
    walk_at "s"
    split
    · exact .here (q _ _ (okV_two (st _ (by decide +kernel)) (okV_one ov)) c2 (u1.trans u2))
    · exact .here (q _ _ (okV_two (st _ (by decide +kernel)) (okV_two oo ov)) c2 (u1.trans u2))
theorem pat_last (s : Int) (w x : D) (n : Nat) (Q : KD) (G : GH) (A : Ad) (ox : okV (n + 1) x = true) (hn : n ≤ 39) (q : WkQ Q (.bl (manyP (patN (n + 1) s) x)) G) :
    tru (.bl (tupK' none x)) G fun c G2 => if c = true then rEq x (.tup []) G2 (notK fun x_2 G1 => tru x_2 G1 fun c G2 => if c = true then
      seqK (fun ds Φ G1 => lcL Φ (gN 3) tYesD (mCall (sp_is_pattern_in A (n + 1)) W0 (aCons (mVar 0) (aCons (mVar 3) aNil))) [some (.int s), some (.tup [w, x]), some w, none] ds [] G1 fun acc G2 => allK (blsD acc) G2 (WkQ Q)) x G2
      else WkQ Q x_2 G2) else WkQ Q (.bl (tupK' none x)) G2 := by
  cases x with
  | tup es =>
    rw [show tupK' none (.tup es) = true from rfl]
    walk_at "s"
    rw [rEq_nilT ox (by omega)]
    cases es with
    | nil => walk_at "s"; exact q
    | cons y ys =>
      have oy : ∀ z ∈ y :: ys, okV n z = true := by rw [okV_tup, List.all_eq_true] at ox; exact ox
      rw [show isNilT (.tup (y :: ys)) = false from rfl]
      walk_at "s"
      intro hz
      refine lcL_fun1 (fun e => .bl (patN (n + 1) s e)) trivial (lsz hz) ?_ ?_
      · intro z hz' K hK
        walk_at "s"
        exact ⟨s, z, rfl, okV_mono (oy z hz') (by omega), by omega, hK⟩
      · walk_at "s"
        simpa [manyP] using q
  | _ => exact q
theorem no_is_pattern_in {A : Ad} {ds G Q E} (h : sp_is_pattern_in A 0 ds G Q E) : False := h
theorem len_is_pattern_in {A : Ad} {n : Nat} {ds G Q E} (h : sp_is_pattern_in A (n + 1) ds G Q E) : ds.length = 2 := by obtain ⟨_, _, rfl, _⟩ := h; rfl
theorem rd_is_pattern_in {K mg} {A : Ad} (T : Tx K mg A) {n : Nat} {ds G Q E} (h : sp_is_pattern_in A (n + 1) ds G Q E) : m_is_pattern_in K A n (wE E) { nx := fun _ G' => Q .non G', rt := Q } (startD N_is_pattern_in ds) G := by
  unfold m_is_pattern_in
  obtain ⟨s, d, rfl, ok, hn, q⟩ := h
  have dp := okV_pv ok
  walk_at "s"
  refine seq_cut (fun δ G' => G' = G ∧ δ = [some (.int s), some d, none, none] ∧ ∃ w rest, d = .tup (w :: rest)) (fun nx k => ?_) ?_
  · cases d with
    | tup es =>
      walk_at "s"
      rw [rEq_nilT ok (by omega)]
      cases es with
      | nil => walk_at "s"; rw [show isNilT (.tup []) = true from rfl]; walk_at "s"; exact .here q
      | cons w rest => walk_at "s"; rw [show isNilT (.tup (w :: rest)) = false from rfl]; walk_at "s"; exact k _ _ ⟨rfl, rfl, w, rest, rfl⟩
    | ref p => simp [pv] at dp
    | ty p => simp [pv] at dp
    | rng p _ => simp [pv] at dp
    | _ => walk_at "s"; exact .here q
  rintro δ G' ⟨rfl, rfl, w, rest, rfl⟩
  have ow : okV n w = true ∧ rest.all (okV n) = true := by simpa [okV_tup] using ok
  walk_at "s"
  refine seq_step fun nx k => ?_
  walk_at "s"
  refine k _ _ ?_
  clear k
  simp only [patN] at q
  refine seq_cut (fun δ G'' => G'' = G' ∧ δ = [some (.int s), some (.tup (w :: rest)), some w, none] ∧ isS "any" w = false ∧ isS "nothing" w = false) (fun nx k => ?_) ?_
  · walk_at "s"
    rw [rEq_isS ow.1 (by decide +kernel) (by omega)]
    walk_at "s"
    split
    · rename_i e
      rw [e] at q
      refine .here ?_
      rw [len1_rest]; simpa using q
    · rename_i e
      rw [rEq_isS ow.1 (by decide +kernel) (by omega)]
      walk_at "s"
      rw [Bool.not_eq_true] at e
      split
      · rename_i e2
        rw [e2] at q
        refine .here ?_
        rw [len1_rest]; simpa using q
      · rename_i e2
        rw [Bool.not_eq_true] at e2
        exact k _ _ ⟨rfl, rfl, e, e2⟩
  rintro δ G'' ⟨rfl, rfl, e1, e2⟩
  simp only [e1, e2, Bool.or_self, Bool.false_eq_true, if_false] at q
  refine seq_cut (fun δ G' => G' = G'' ∧ δ = [some (.int s), some (.tup (w :: rest)), some w, none] ∧ ∃ x, rest = [x]) (fun nx k => ?_) ?_
  · walk_at "s"
    cases rest with
    | nil => walk_at "s"; exact .here q
    | cons x r2 =>
    cases r2 with
    | nil => walk_at "s"; exact k _ _ ⟨rfl, rfl, x, rfl⟩
    | cons y r3 =>
      walk_at "s"
      rw [if_pos (by omega)]
      exact .here q
  rintro δ G' ⟨rfl, rfl, x, rfl⟩
  have ox : okV n x = true := by simpa using ow.2
  have rc : n ≠ 0 := by intro z; subst z; simp [okV] at ox
  obtain ⟨n, rfl⟩ : ∃ k, n = k + 1 := ⟨n - 1, by omega⟩
  refine seq_cut (fun δ G'' => G'' = G' ∧ δ = [some (.int s), some (.tup [w, x]), some w, none] ∧ isS "sign" w = false) (fun nx k => ?_) ?_
  · walk_at "s"
    rw [rEq_isS ow.1 (by decide +kernel) (by omega)]
    walk_at "s"
    split
    · rename_i e
      rw [e] at q
      walk_at "s"
      exact ⟨s, x, rfl, okV_pv ox, .here (by simpa using q)⟩
    · rename_i e
      exact k _ _ ⟨rfl, rfl, by simpa using e⟩
  rintro δ G'' ⟨rfl, rfl, e3⟩
  simp only [e3, Bool.false_eq_true, if_false] at q
  refine seq_cut (fun δ G' => G' = G'' ∧ δ = [some (.int s), some (.tup [w, x]), some w, none] ∧ isS "repeat" w = false ∧ isS "not" w = false) (fun nx k => ?_) ?_
  · walk_at "s"
    rw [rEq_isS ow.1 (by decide +kernel) (by omega)]
    walk_at "s"
    split
    · rename_i e
      rw [e] at q
      walk_at "s"
      exact ⟨s, x, rfl, ox, by omega, .here (by simpa using q)⟩
    · rename_i e
      rw [rEq_isS ow.1 (by decide +kernel) (by omega)]
      walk_at "s"
      split
      · rename_i e'
        rw [e'] at q
        walk_at "s"
        exact ⟨s, x, rfl, ox, by omega, .here (by simpa using q)⟩
      · rename_i e'
        exact k _ _ ⟨rfl, rfl, by simpa using e, by simpa using e'⟩
  rintro δ G' ⟨rfl, rfl, e4, e5⟩
  simp only [e4, e5, Bool.or_self, Bool.false_eq_true, if_false] at q
  refine seq_step fun nx k => ?_
  walk_at "s"
  rw [rEq_isS ow.1 (by decide +kernel) (by omega)]
  walk_at "s"
  split
  rotate_left
  · rename_i e6
    rw [rEq_isS ow.1 (by decide +kernel) (by omega)]
    walk_at "s"
    split
    rotate_left
    · rename_i e7
      rw [rEq_isS ow.1 (by decide +kernel) (by omega)]
      walk_at "s"
      split
      rotate_left
      · rename_i e8
        rw [Bool.not_eq_true] at e6 e7 e8
        simp only [e6, e7, e8, Bool.or_self, Bool.false_eq_true, if_false] at q
        refine k _ _ ?_
        walk_at "s"
        exact .here q
      all_goals rename_i e8
      have e : (isS "row" w || isS "choice" w || isS "both" w) = true := by rw [e8]; simp
      rw [e] at q
      refine ⟨_, _, rfl, okV_pv ox, none, .inl ⟨rfl, rfl⟩, ?_⟩
      exact pat_last s w x n Q G' A ox (by omega) (.here (by simpa using q))
    rename_i e7
    have e : (isS "row" w || isS "choice" w || isS "both" w) = true := by rw [e7]; simp
    rw [e] at q
    refine ⟨_, _, rfl, okV_pv ox, none, .inl ⟨rfl, rfl⟩, ?_⟩
    exact pat_last s w x n Q G' A ox (by omega) (.here (by simpa using q))
  rename_i e6
  have e : (isS "row" w || isS "choice" w || isS "both" w) = true := by rw [e6]; simp
  rw [e] at q
  refine ⟨_, _, rfl, okV_pv ox, none, .inl ⟨rfl, rfl⟩, ?_⟩
  exact pat_last s w x n Q G' A ox (by omega) (.here (by simpa using q))
theorem len_is_pattern {A : Ad} {ds G Q E} (h : sp_is_pattern A ds G Q E) : ds.length = 2 := by obtain ⟨_, _, rfl, _⟩ := h; rfl
theorem rd_is_pattern {K mg} {A : Ad} (T : Tx K mg A) {ds G Q E} (h : sp_is_pattern A ds G Q E) : m_is_pattern K A (wE E) { nx := fun _ G' => Q .non G', rt := Q } (startD N_is_pattern ds) G := by
  unfold m_is_pattern
  obtain ⟨m, d, rfl, pm, od, q, e⟩ := h
  walk_at "s"
  refine seq_step fun nx k => ?_
  walk_at "s"
  refine ⟨m, rfl, pm, fun h => ?_, e⟩
  refine k _ _ ?_
  clear k
  walk_at "s"
  obtain ⟨s, rfl⟩ : ∃ s, m = .int s := by cases m <;> simp [fromD] at h ⊢
  refine (show sp_is_pattern_in A (29 + 1) [.int s, d] G _ _ from ⟨s, d, rfl, od, by decide, .here (q s rfl (by simpa [fromD] using h))⟩)
theorem len_law_refused {A : Ad} {ds G Q E} (h : sp_law_refused A ds G Q E) : ds.length = 2 := by obtain ⟨_, _, rfl, _⟩ := h; rfl
theorem rd_law_refused {K mg} {A : Ad} (T : Tx K mg A) {ds G Q E} (h : sp_law_refused A ds G Q E) : m_law_refused K A (wE E) { nx := fun _ G' => Q .non G', rt := Q } (startD N_law_refused ds) G := by
  unfold m_law_refused
  obtain ⟨m, d, rfl, pm, od, hm, q⟩ := h
  refine seq_step fun nx k => ?_
  walk_at "s"
  refine k _ _ ?_
  clear k
  let P : Sl → GH → Prop := fun δ G' => G' = G ∧ δ = [some m, some d, some (.bl true), none]
  refine seq_cut P (fun nx k => ⟨P, ?_, k⟩) ?_
  · unfold sTryIs
    walk_at "s"
    refine ⟨m, d, rfl, pm, od, fun s e h => ?_, fun _ => ?_⟩
    · subst e; simp [fromD] at hm; omega
    · dsimp only
      rw [T.e_InvalidNumber_TurnError]
      exact ⟨A.InvalidNumber, true, rfl, rfl, T.ec_InvalidNumber, by simp [PySem.W.kitOne], rfl, rfl⟩
  rintro δ G' ⟨rfl, rfl⟩
  walk_at "s"
  exact .here q
theorem len_law {A : Ad} {ds G Q E} (h : sp_law A ds G Q E) : ds.length = 1 := by obtain ⟨_, rfl, _⟩ := h; rfl
theorem rd_law {K mg} {A : Ad} (T : Tx K mg A) {ds G Q E} (h : sp_law A ds G Q E) : m_law K A (wE E) { nx := fun _ G' => Q .non G', rt := Q } (startD N_law ds) G := by
  unfold m_law
  obtain ⟨ns, rfl, rfl, hn, q⟩ := h
  have bls : ∀ (b : Bool) (G : GH) (Q : KD) (E : XD), Q (.bl true) G → sp_law_same A 30 [.bl b, .bl b] G Q E := fun b G Q E q => (show sp_law_same A (29 + 1) _ _ _ _ from ⟨_, rfl, rfl, by decide, q⟩)
  have jud : ∀ (s : Int) (v : D) (G : GH) (Q : KD) (E : XD), okV 30 v = true → Q (.bl (patN 30 s v)) G → sp_law_judged A 30 [.int s, v] G Q E := fun s v G Q E o q => (show sp_law_judged A (29 + 1) _ _ _ _ from ⟨s, v, rfl, o, by decide, q⟩)
  have isp : ∀ (s : Int) (v : D) (b : Bool) (G : GH) (Q : KD) (E : XD), 1 ≤ s → okV 30 v = true → patN 30 s v = b → Q (.bl b) G → sp_is_pattern A [.int s, v] G Q E := by
    intro s v b G Q E h o hb q
    refine ⟨.int s, v, rfl, pv_int, o, fun t e _ => ?_, fun h2 => ?_⟩
    · have e2 : s = t := by injection e
      rw [← e2, hb]; exact q
    · rw [show fromD 1 (.int s) = true by simp [fromD, h]] at h2; cases h2
  have pat : ∀ (a : Addr) (s k : Int) (G' : GH) (Q : KD) (E : XD), 1 ≤ s → s ≤ 1000 → 1 ≤ k → k ≤ 9 → Cup G' a → (∀ d G'', patN 30 s d = true → (∃ es, d = .tup es) → okV 18 d = true → Cup G'' a → Q d G'') → sp_law_pattern A 9 [.ref a, .int s, .int k] G' Q E := fun a s k G' Q E s1 s2 h1 h2 h3 h => (show sp_law_pattern A (8 + 1) _ _ _ _ from ⟨a, s, k, rfl, s1, s2, h1, h2, by decide, h3, fun d G'' p o c u => h d G'' (patN_mono p (by decide) (Int.le_refl _)) (by
    rcases patN_cases p with rfl | rfl | ⟨x, rfl, _⟩ | ⟨w, x, _, rfl, _⟩ | ⟨w, es, _, rfl, _⟩ <;> exact ⟨_, rfl⟩) o c⟩)
  refine seq_cut (fun δ G' => ∃ x1 x2 x3 x4 x5 x6 x7 x8 x9 x10, δ = [some (.lst (ns.map .int)), x1, x2, x3, x4, x5, x6, x7, x8, x9, x10]) (fun nx k => ?_) ?_
  · walk_at "s"
    refine forL_rng (fun i δ G' => ∃ x1 x2 x3 x4 x5 x6 x7 x8 x9 x10, δ = [some (.lst (ns.map .int)), x1, x2, x3, x4, x5, x6, x7, x8, x9, x10]) (fun _ _ _ _ => trivial) ?_ ?_ ⟨_, _, _, _, _, _, _, _, _, _, rfl⟩
    · rintro δ G' ⟨x1, x2, x3, x4, x5, x6, x7, x8, x9, x10, rfl⟩
      exact k _ _ ⟨_, _, _, _, _, _, _, _, _, _, rfl⟩
    · rintro i δ G' nx hi ⟨x1, x2, x3, x4, x5, x6, x7, x8, x9, x10, rfl⟩ go
      clear k
      walk_at "s"
      refine seq_step fun nx2 k => ?_
      walk_at "s"
      refine ⟨ns, i, rfl, by omega, fun a G1 c1 _ => ?_⟩
      walk_at "s"
      refine k _ _ ?_
      clear k
      refine seq_cut (fun δ G2 => Cup G2 a ∧ ∃ s : Int, 1 ≤ s ∧ s ≤ 3 ∧ δ = [some (.lst (ns.map .int)), some (.int (i : Int)), some (.ref a), some (.int s), x4, x5, x6, x7, x8, x9, x10]) (fun nx2 k => ?_) ?_
      · walk_at "s"
        refine ⟨a, 3, rfl, by decide, by decide, c1, fun j G2 j0 j1 c2 _ => ?_⟩
        walk_at "s"
        exact k _ _ ⟨c2, 1 + j, by omega, by omega, rfl⟩
      rintro δ G2 ⟨c2, s, s1, s3, rfl⟩
      refine seq_cut (fun δ G3 => Cup G3 a ∧ ∃ (p : D) (es : List D), patN 30 s p = true ∧ okV 18 p = true ∧ patN 30 s (.tup es) = true ∧ okV 18 (.tup es) = true ∧ δ = [some (.lst (ns.map .int)), some (.int (i : Int)), some (.ref a), some (.int s), some p, some (.tup es), x6, x7, x8, x9, x10]) (fun nx2 k => ?_) ?_
      · walk_at "s"
        refine pat _ _ _ _ _ _ s1 (by omega) (by decide) (by decide) c2 fun p G3 pp _ op c3 => ?_
        walk_at "s"
        refine pat _ _ _ _ _ _ s1 (by omega) (by decide) (by decide) c3 fun r G4 pr hr or' c4 => ?_
        obtain ⟨es, rfl⟩ := hr
        walk_at "s"
        exact k _ _ ⟨c4, p, es, pp, op, pr, or', rfl⟩
      rintro δ G3 ⟨c3, p, es, pp, op, pe, oe, rfl⟩
      refine seq_step fun nx2 k => ?_
      walk_at "s"
      refine isp _ _ _ _ _ _ s1 (okV_mono op (by decide)) pp ?_
      refine bls _ _ _ _ ?_
      walk_at "s"
      refine isp _ _ _ _ _ _ (by omega) (okV_mono oe (by decide)) (patN_mono pe (Nat.le_refl _) (show s ≤ s + 1 by omega)) ?_
      refine bls _ _ _ _ ?_
      walk_at "s"
      refine k _ _ ?_
      clear k
      refine seq_cut (fun δ G4 => Cup G4 a ∧ ∃ x6 x7 x8 x9 x10, δ = [some (.lst (ns.map .int)), some (.int (i : Int)), some (.ref a), some (.int s), some p, some (.tup es), x6, x7, x8, x9, x10]) (fun nx2 k => ?_) ?_
      · walk_at "s"
        refine forL_rng (fun j δ G4 => Cup G4 a ∧ ∃ x6 x7 x8 x9 x10, δ = [some (.lst (ns.map .int)), some (.int (i : Int)), some (.ref a), some (.int s), some p, some (.tup es), x6, x7, x8, x9, x10]) (fun _ _ _ _ => trivial) ?_ ?_ ⟨c3, _, _, _, _, _, rfl⟩
        · rintro δ G' h
          exact k _ _ h
        · rintro j δ G4 nx3 hj ⟨c4, x6, x7, x8, x9, x10, rfl⟩ go2
          clear k
          walk_at "s"
          refine seq_cut (fun δ G5 => Cup G5 a ∧ ∃ v : D, okV 24 v = true ∧ δ = [some (.lst (ns.map .int)), some (.int (i : Int)), some (.ref a), some (.int s), some p, some (.tup es), some (.int j), some v, x8, x9, x10]) (fun nx k => ?_) ?_
          · walk_at "s"
            refine ⟨a, s, es, rfl, oe, c4, fun v G5 ov c5 _ => ?_⟩
            walk_at "s"
            exact k _ _ ⟨c5, v, ov, rfl⟩
          rintro δ G5 ⟨c5, v, ov, rfl⟩
          refine seq_cut (fun δ G6 => Cup G6 a ∧ ∃ (v : D) (x8 : Option D), okV 30 v = true ∧ δ = [some (.lst (ns.map .int)), some (.int (i : Int)), some (.ref a), some (.int s), some p, some (.tup es), some (.int j), some v, x8, x9, x10]) (fun nx k => ?_) ?_
          · walk_at "s"
            refine ⟨a, 3, rfl, by decide, by decide, c5, fun t G6 t0 t1 c6 _ => ?_⟩
            walk_at "s"
            refine ⟨by omega, ?_⟩
            refine forL_rng (fun m δ G6 => Cup G6 a ∧ m ≤ 2 ∧ ∃ (v : D) (x8 : Option D), okV (24 + 2 * m) v = true ∧ δ = [some (.lst (ns.map .int)), some (.int (i : Int)), some (.ref a), some (.int s), some p, some (.tup es), some (.int j), some v, x8, x9, x10]) (fun _ _ _ _ => trivial) ?_ ?_ ⟨c6, by omega, v, _, ov, rfl⟩
            · rintro δ G' ⟨c', hm, v, x8, ov, rfl⟩
              exact k _ _ ⟨c', v, x8, okV_mono ov (by omega), rfl⟩
            · rintro m δ G7 nx4 hm ⟨c7, _, v, x8, ov, rfl⟩ go3
              walk_at "s"
              refine ⟨a, s, v, rfl, 24 + 2 * m, s1, by omega, ov, by omega, c7, fun d G8 od c8 _ => ?_⟩
              walk_at "s"
              exact go3 _ _ ⟨c8, by omega, d, _, od, rfl⟩
          clear ov
          rintro δ G6 ⟨c6, v, x8, ov, rfl⟩
          refine seq_cut (fun δ G7 => Cup G7 a ∧ ∃ f : Int, 1 ≤ f ∧ δ = [some (.lst (ns.map .int)), some (.int (i : Int)), some (.ref a), some (.int s), some p, some (.tup es), some (.int j), some v, x8, some (.int f), x10]) (fun nx k => ?_) ?_
          · walk_at "s"
            refine ⟨a, s, rfl, by omega, by omega, c6, fun t G7 t0 t1 c7 _ => ?_⟩
            walk_at "s"
            exact k _ _ ⟨c7, 1 + t, by omega, rfl⟩
          rintro δ G7 ⟨c7, f, f1, rfl⟩
          walk_at "s"
          refine fun _ => ⟨trivial, ?_⟩
          walk_at "s"
          refine isp _ _ _ _ _ _ s1 ov rfl ?_
          walk_at "s"
          refine jud _ _ _ _ _ ov ?_
          refine bls _ _ _ _ ?_
          walk_at "s"
          refine ⟨trivial, ?_⟩
          walk_at "s"
          refine isp _ _ _ _ _ _ f1 ov rfl ?_
          walk_at "s"
          refine jud _ _ _ _ _ ov ?_
          refine bls _ _ _ _ ?_
          walk_at "s"
          exact ⟨trivial, go2 _ _ ⟨c7, _, _, _, _, _, rfl⟩⟩
      rintro δ G4 ⟨c4, x6, x7, x8, x9, x10, rfl⟩
      walk_at "s"
      refine ⟨a, _, _, rfl, .inl rfl, by simp, by simp, c4, fun m hm G5 c5 _ => ?_⟩
      refine ⟨a, _, _, rfl, .inl rfl, by simp, by simp, c5, fun d hd G6 c6 _ => ?_⟩
      have hm' : pv m = true ∧ fromD 1 m = false := by
        simp only [List.mem_cons, List.not_mem_nil, or_false] at hm
        rcases hm with rfl | rfl | rfl | rfl | rfl | rfl | rfl <;> exact ⟨by simp [pv, pvs], by simp [fromD]⟩
      have hd' : okV 30 d = true := by
        simp only [List.mem_cons, List.not_mem_nil, or_false] at hd
        rcases hd with rfl | rfl | rfl
        · exact okV_mono op (by decide)
        · rfl
        · rfl
      refine ⟨m, d, rfl, hm'.1, hd', hm'.2, ?_⟩
      walk_at "s"
      exact go _ _ ⟨_, _, _, _, _, _, _, _, _, _, rfl⟩
  rintro δ G' ⟨x1, x2, x3, x4, x5, x6, x7, x8, x9, x10, rfl⟩
  walk_at "s"
  exact .here (q _)
end k50
namespace k50
open PySem PySem.Spec PyProof.Rows L2 DL
section
variable {P : Program} {w : World} {K : PySem.W.Frag} {mg : Str → Option Value} {base : Heap} {A : Ad}
theorem ok_is_integer (T : Tx K mg A) : FnD P w K mg base 1 A.is_integer T.d_is_integer ["thing"] (sp_is_integer A) :=
  okD T.F_is_integer sc_is_integer (fun _ _ _ _ h => len_is_integer h) fun cdv AA outer s H G ds Q E C h => ⟨_, der_is_integer T  C, rd_is_integer T h⟩
theorem ok_is_tuple (T : Tx K mg A) : FnD P w K mg base 1 A.is_tuple T.d_is_tuple ["many", "thing"] (sp_is_tuple A) :=
  okD T.F_is_tuple sc_is_tuple (fun _ _ _ _ h => len_is_tuple h) fun cdv AA outer s H G ds Q E C h => ⟨_, der_is_tuple T  C, rd_is_tuple T h⟩
theorem ok_law_cup (T : Tx K mg A) : FnD P w K mg base 1 A.law_cup T.d_law_cup ["script", "at"] (sp_law_cup A) :=
  okD T.F_law_cup sc_law_cup (fun _ _ _ _ h => len_law_cup h) fun cdv AA outer s H G ds Q E C h => ⟨_, der_law_cup T  C, rd_law_cup T h⟩
theorem ok_law_draw (T : Tx K mg A) : FnD P w K mg base 1 A.law_draw T.d_law_draw ["cup", "many"] (sp_law_draw A) :=
  okD T.F_law_draw sc_law_draw (fun _ _ _ _ h => len_law_draw h) fun cdv AA outer s H G ds Q E C h => ⟨_, der_law_draw T  C, rd_law_draw T h⟩
theorem ok_is_from (T : Tx K mg A) : FnD P w K mg base 2 A.is_from T.d_is_from ["low", "thing"] (sp_is_from A) :=
  okD T.F_is_from sc_is_from (fun _ _ _ _ h => len_is_from h) fun cdv AA outer s H G ds Q E C h => ⟨_, der_is_from T (ok_is_integer T) C, rd_is_from T h⟩
theorem ok_law_pick (T : Tx K mg A) : FnD P w K mg base 2 A.law_pick T.d_law_pick ["cup", "rows"] (sp_law_pick A) :=
  okD T.F_law_pick sc_law_pick (fun _ _ _ _ h => len_law_pick h) fun cdv AA outer s H G ds Q E C h => ⟨_, der_law_pick T (ok_law_draw T) C, rd_law_pick T h⟩
theorem ok_is_below (T : Tx K mg A) : FnD P w K mg base 3 A.is_below T.d_is_below ["many", "thing"] (sp_is_below A) :=
  okD T.F_is_below sc_is_below (fun _ _ _ _ h => len_is_below h) fun cdv AA outer s H G ds Q E C h => ⟨_, der_is_below T (ok_is_from T) C, rd_is_below T h⟩
theorem ok_check_signs (T : Tx K mg A) : FnD P w K mg base 3 A.check_signs T.d_check_signs ["thing"] (sp_check_signs A) :=
  okD T.F_check_signs sc_check_signs (fun _ _ _ _ h => len_check_signs h) fun cdv AA outer s H G ds Q E C h => ⟨_, der_check_signs T (ok_is_from T) C, rd_check_signs T h⟩
theorem ok_law_odd (T : Tx K mg A) : FnD P w K mg base 3 A.law_odd T.d_law_odd ["cup", "signs", "pattern"] (sp_law_odd A) :=
  okD T.F_law_odd sc_law_odd (fun _ _ _ _ h => len_law_odd h) fun cdv AA outer s H G ds Q E C h => ⟨_, der_law_odd T (ok_law_pick T) C, rd_law_odd T h⟩
theorem ok_law_size (T : Tx K mg A) : ∀ n : Nat, FnD P w K mg base (1 + n) A.law_size T.d_law_size ["pattern"] (sp_law_size A n)
  | 0 => ⟨fun _ _ _ _ h => (no_law_size h).elim, fun _ _ _ _ _ _ _ _ _ _ _ _ _ _ _ _ _ h => (no_law_size h).elim⟩
  | n + 1 => okD T.F_law_size sc_law_size (fun _ _ _ _ h => len_law_size h) fun cdv AA outer s H G ds Q E C h => ⟨_, der_law_size T (ok_law_size T n) C, rd_law_size T h⟩
theorem ok_law_same (T : Tx K mg A) : ∀ n : Nat, FnD P w K mg base (1 + n) A.law_same T.d_law_same ["found", "due"] (sp_law_same A n)
  | 0 => ⟨fun _ _ _ _ h => (no_law_same h).elim, fun _ _ _ _ _ _ _ _ _ _ _ _ _ _ _ _ _ h => (no_law_same h).elim⟩
  | n + 1 => okD T.F_law_same sc_law_same (fun _ _ _ _ h => len_law_same h) fun cdv AA outer s H G ds Q E C h => ⟨_, der_law_same T (ok_law_same T n) C, rd_law_same T h⟩
theorem ok_law_pattern (T : Tx K mg A) : ∀ n : Nat, FnD P w K mg base (22 + n) A.law_pattern T.d_law_pattern ["cup", "signs", "most"] (sp_law_pattern A n)
  | 0 => ⟨fun _ _ _ _ h => (no_law_pattern h).elim, fun _ _ _ _ _ _ _ _ _ _ _ _ _ _ _ _ _ h => (no_law_pattern h).elim⟩
  | n + 1 => okD T.F_law_pattern sc_law_pattern (fun _ _ _ _ h => len_law_pattern h) fun cdv AA outer s H G ds Q E C h => ⟨_, der_law_pattern T (ok_law_draw T) (ok_law_size T 20) (ok_law_pattern T n) C, rd_law_pattern T h⟩
theorem ok_law_judged (T : Tx K mg A) : ∀ n : Nat, FnD P w K mg base (1 + n) A.law_judged T.d_law_judged ["signs", "value"] (sp_law_judged A n)
  | 0 => ⟨fun _ _ _ _ h => (no_law_judged h).elim, fun _ _ _ _ _ _ _ _ _ _ _ _ _ _ _ _ _ h => (no_law_judged h).elim⟩
  | n + 1 => okD T.F_law_judged sc_law_judged (fun _ _ _ _ h => len_law_judged h) fun cdv AA outer s H G ds Q E C h => ⟨_, der_law_judged T (ok_law_judged T n) C, rd_law_judged T h⟩
theorem ok_law_within (T : Tx K mg A) : FnD P w K mg base 32 A.law_within T.d_law_within ["cup", "signs", "value"] (sp_law_within A) :=
  okD T.F_law_within sc_law_within (fun _ _ _ _ h => len_law_within h) fun cdv AA outer s H G ds Q E C h => ⟨_, der_law_within T (ok_law_draw T) (ok_law_pattern T 9) C, rd_law_within T h⟩
theorem ok_is_pattern_in (T : Tx K mg A) : ∀ n : Nat, FnD P w K mg base (4 + n) A.is_pattern_in T.d_is_pattern_in ["signs", "thing"] (sp_is_pattern_in A n)
  | 0 => ⟨fun _ _ _ _ h => (no_is_pattern_in h).elim, fun _ _ _ _ _ _ _ _ _ _ _ _ _ _ _ _ _ h => (no_is_pattern_in h).elim⟩
  | n + 1 => okD T.F_is_pattern_in sc_is_pattern_in (fun _ _ _ _ h => len_is_pattern_in h) fun cdv AA outer s H G ds Q E C h => ⟨_, der_is_pattern_in T (ok_is_below T) (ok_is_tuple T) (ok_is_pattern_in T n) C, rd_is_pattern_in T h⟩
theorem ok_is_pattern (T : Tx K mg A) : FnD P w K mg base 35 A.is_pattern T.d_is_pattern ["signs", "value"] (sp_is_pattern A) :=
  okD T.F_is_pattern sc_is_pattern (fun _ _ _ _ h => len_is_pattern h) fun cdv AA outer s H G ds Q E C h => ⟨_, der_is_pattern T (ok_check_signs T) (ok_is_pattern_in T 30) C, rd_is_pattern T h⟩
theorem ok_law_refused (T : Tx K mg A) : FnD P w K mg base 36 A.law_refused T.d_law_refused ["signs", "value"] (sp_law_refused A) :=
  okD T.F_law_refused sc_law_refused (fun _ _ _ _ h => len_law_refused h) fun cdv AA outer s H G ds Q E C h => ⟨_, der_law_refused T (ok_is_pattern T) C, rd_law_refused T h⟩
theorem ok_law (T : Tx K mg A) : FnD P w K mg base 37 A.law T.d_law ["script"] (sp_law A) :=
  okD T.F_law sc_law (fun _ _ _ _ h => len_law h) fun cdv AA outer s H G ds Q E C h => ⟨_, der_law T (ok_is_pattern T) (ok_law_cup T) (ok_law_draw T) (ok_law_pick T) (ok_law_same T 30) (ok_law_pattern T 9) (ok_law_judged T 30) (ok_law_odd T) (ok_law_within T) (ok_law_refused T) C, rd_law T h⟩
end
theorem all_mk {l : PySem.W.OpenLaw} {w : World} {K : PySem.W.Frag} {h : Heap} {mg : Str → Option Value} {fa : Addr}
    {f_is_integer : Addr} {od_is_integer an_is_integer : Option Addr} {sl_is_integer : Array (Option Value)} {oc_is_integer kV_is_integer dc_is_integer pm_is_integer cd_is_integer ct_is_integer : Value}
    {f_is_tuple : Addr} {od_is_tuple an_is_tuple : Option Addr} {sl_is_tuple : Array (Option Value)} {oc_is_tuple kV_is_tuple dc_is_tuple pm_is_tuple cd_is_tuple ct_is_tuple : Value}
    {f_law_cup : Addr} {od_law_cup an_law_cup : Option Addr} {sl_law_cup : Array (Option Value)} {oc_law_cup kV_law_cup dc_law_cup pm_law_cup cd_law_cup ct_law_cup : Value}
    {f_law_draw : Addr} {od_law_draw an_law_draw : Option Addr} {sl_law_draw : Array (Option Value)} {oc_law_draw kV_law_draw dc_law_draw pm_law_draw cd_law_draw ct_law_draw : Value}
    {f_is_from : Addr} {od_is_from an_is_from : Option Addr} {sl_is_from : Array (Option Value)} {oc_is_from kV_is_from dc_is_from pm_is_from cd_is_from ct_is_from : Value}
    {f_law_pick : Addr} {od_law_pick an_law_pick : Option Addr} {sl_law_pick : Array (Option Value)} {oc_law_pick kV_law_pick dc_law_pick pm_law_pick cd_law_pick ct_law_pick : Value}
    {f_is_below : Addr} {od_is_below an_is_below : Option Addr} {sl_is_below : Array (Option Value)} {oc_is_below kV_is_below dc_is_below pm_is_below cd_is_below ct_is_below : Value}
    {f_check_signs : Addr} {od_check_signs an_check_signs : Option Addr} {sl_check_signs : Array (Option Value)} {oc_check_signs kV_check_signs dc_check_signs pm_check_signs cd_check_signs ct_check_signs : Value}
    {f_law_odd : Addr} {od_law_odd an_law_odd : Option Addr} {sl_law_odd : Array (Option Value)} {oc_law_odd kV_law_odd dc_law_odd pm_law_odd cd_law_odd ct_law_odd : Value}
    {f_law_size : Addr} {od_law_size an_law_size : Option Addr} {sl_law_size : Array (Option Value)} {oc_law_size kV_law_size dc_law_size pm_law_size cd_law_size ct_law_size : Value}
    {f_law_same : Addr} {od_law_same an_law_same : Option Addr} {sl_law_same : Array (Option Value)} {oc_law_same kV_law_same dc_law_same pm_law_same cd_law_same ct_law_same : Value}
    {f_law_pattern : Addr} {od_law_pattern an_law_pattern : Option Addr} {sl_law_pattern : Array (Option Value)} {oc_law_pattern kV_law_pattern dc_law_pattern pm_law_pattern cd_law_pattern ct_law_pattern : Value}
    {f_law_judged : Addr} {od_law_judged an_law_judged : Option Addr} {sl_law_judged : Array (Option Value)} {oc_law_judged kV_law_judged dc_law_judged pm_law_judged cd_law_judged ct_law_judged : Value}
    {f_law_within : Addr} {od_law_within an_law_within : Option Addr} {sl_law_within : Array (Option Value)} {oc_law_within kV_law_within dc_law_within pm_law_within cd_law_within ct_law_within : Value}
    {f_is_pattern_in : Addr} {od_is_pattern_in an_is_pattern_in : Option Addr} {sl_is_pattern_in : Array (Option Value)} {oc_is_pattern_in kV_is_pattern_in dc_is_pattern_in pm_is_pattern_in cd_is_pattern_in ct_is_pattern_in : Value}
    {f_is_pattern : Addr} {od_is_pattern an_is_pattern : Option Addr} {sl_is_pattern : Array (Option Value)} {oc_is_pattern kV_is_pattern dc_is_pattern pm_is_pattern cd_is_pattern ct_is_pattern : Value}
    {f_law_refused : Addr} {od_law_refused an_law_refused : Option Addr} {sl_law_refused : Array (Option Value)} {oc_law_refused kV_law_refused dc_law_refused pm_law_refused cd_law_refused ct_law_refused : Value}
    {f_law : Addr} {od_law an_law : Option Addr} {sl_law : Array (Option Value)} {oc_law kV_law dc_law pm_law cd_law ct_law : Value}
    {C_InvalidNumber : Addr}
    {C_TurnError : Addr} (X : K.In h) (G : h.Ns mainGlobals mg) (hfa : mg "law" = some (.ref fa))
    (z_abs : PySem.W.nsIn K mainGlobals "abs" = some none)
    (z_all : PySem.W.nsIn K mainGlobals "all" = some none)
    (z_bool : PySem.W.nsIn K mainGlobals "bool" = some none)
    (z_int : PySem.W.nsIn K mainGlobals "int" = some none)
    (z_isinstance : PySem.W.nsIn K mainGlobals "isinstance" = some none)
    (z_len : PySem.W.nsIn K mainGlobals "len" = some none)
    (z_list : PySem.W.nsIn K mainGlobals "list" = some none)
    (z_range : PySem.W.nsIn K mainGlobals "range" = some none)
    (z_str : PySem.W.nsIn K mainGlobals "str" = some none)
    (z_sum : PySem.W.nsIn K mainGlobals "sum" = some none)
    (z_tuple : PySem.W.nsIn K mainGlobals "tuple" = some none)
    (a_is_integer : PySem.W.nsIn K mainGlobals "is_integer" = some (some (.ref f_is_integer)))
    (l_is_integer : K.lookup f_is_integer = some ⟨oc_is_integer, od_is_integer, .func (PySem.W.fnOf "is_integer" "is_integer" (defArgs s_is_integer) (defBody s_is_integer) (defScope s_is_integer) .none kV_is_integer dc_is_integer pm_is_integer an_is_integer cd_is_integer ct_is_integer), sl_is_integer⟩)
    (c_is_integer : PySem.W.codeIn K cd_is_integer "is_integer" = true)
    (k_is_integer : PySem.W.keepIn K (.ref f_is_integer) = true)
    (a_is_tuple : PySem.W.nsIn K mainGlobals "is_tuple" = some (some (.ref f_is_tuple)))
    (l_is_tuple : K.lookup f_is_tuple = some ⟨oc_is_tuple, od_is_tuple, .func (PySem.W.fnOf "is_tuple" "is_tuple" (defArgs s_is_tuple) (defBody s_is_tuple) (defScope s_is_tuple) .none kV_is_tuple dc_is_tuple pm_is_tuple an_is_tuple cd_is_tuple ct_is_tuple), sl_is_tuple⟩)
    (c_is_tuple : PySem.W.codeIn K cd_is_tuple "is_tuple" = true)
    (k_is_tuple : PySem.W.keepIn K (.ref f_is_tuple) = true)
    (a_law_cup : PySem.W.nsIn K mainGlobals "_law_cup" = some (some (.ref f_law_cup)))
    (l_law_cup : K.lookup f_law_cup = some ⟨oc_law_cup, od_law_cup, .func (PySem.W.fnOf "_law_cup" "_law_cup" (defArgs s_law_cup) (defBody s_law_cup) (defScope s_law_cup) .none kV_law_cup dc_law_cup pm_law_cup an_law_cup cd_law_cup ct_law_cup), sl_law_cup⟩)
    (c_law_cup : PySem.W.codeIn K cd_law_cup "_law_cup" = true)
    (k_law_cup : PySem.W.keepIn K (.ref f_law_cup) = true)
    (a_law_draw : PySem.W.nsIn K mainGlobals "_law_draw" = some (some (.ref f_law_draw)))
    (l_law_draw : K.lookup f_law_draw = some ⟨oc_law_draw, od_law_draw, .func (PySem.W.fnOf "_law_draw" "_law_draw" (defArgs s_law_draw) (defBody s_law_draw) (defScope s_law_draw) .none kV_law_draw dc_law_draw pm_law_draw an_law_draw cd_law_draw ct_law_draw), sl_law_draw⟩)
    (c_law_draw : PySem.W.codeIn K cd_law_draw "_law_draw" = true)
    (k_law_draw : PySem.W.keepIn K (.ref f_law_draw) = true)
    (a_is_from : PySem.W.nsIn K mainGlobals "is_from" = some (some (.ref f_is_from)))
    (l_is_from : K.lookup f_is_from = some ⟨oc_is_from, od_is_from, .func (PySem.W.fnOf "is_from" "is_from" (defArgs s_is_from) (defBody s_is_from) (defScope s_is_from) .none kV_is_from dc_is_from pm_is_from an_is_from cd_is_from ct_is_from), sl_is_from⟩)
    (c_is_from : PySem.W.codeIn K cd_is_from "is_from" = true)
    (k_is_from : PySem.W.keepIn K (.ref f_is_from) = true)
    (a_law_pick : PySem.W.nsIn K mainGlobals "_law_pick" = some (some (.ref f_law_pick)))
    (l_law_pick : K.lookup f_law_pick = some ⟨oc_law_pick, od_law_pick, .func (PySem.W.fnOf "_law_pick" "_law_pick" (defArgs s_law_pick) (defBody s_law_pick) (defScope s_law_pick) .none kV_law_pick dc_law_pick pm_law_pick an_law_pick cd_law_pick ct_law_pick), sl_law_pick⟩)
    (c_law_pick : PySem.W.codeIn K cd_law_pick "_law_pick" = true)
    (k_law_pick : PySem.W.keepIn K (.ref f_law_pick) = true)
    (a_is_below : PySem.W.nsIn K mainGlobals "is_below" = some (some (.ref f_is_below)))
    (l_is_below : K.lookup f_is_below = some ⟨oc_is_below, od_is_below, .func (PySem.W.fnOf "is_below" "is_below" (defArgs s_is_below) (defBody s_is_below) (defScope s_is_below) .none kV_is_below dc_is_below pm_is_below an_is_below cd_is_below ct_is_below), sl_is_below⟩)
    (c_is_below : PySem.W.codeIn K cd_is_below "is_below" = true)
    (k_is_below : PySem.W.keepIn K (.ref f_is_below) = true)
    (a_check_signs : PySem.W.nsIn K mainGlobals "check_signs" = some (some (.ref f_check_signs)))
    (l_check_signs : K.lookup f_check_signs = some ⟨oc_check_signs, od_check_signs, .func (PySem.W.fnOf "check_signs" "check_signs" (defArgs s_check_signs) (defBody s_check_signs) (defScope s_check_signs) .none kV_check_signs dc_check_signs pm_check_signs an_check_signs cd_check_signs ct_check_signs), sl_check_signs⟩)
    (c_check_signs : PySem.W.codeIn K cd_check_signs "check_signs" = true)
    (k_check_signs : PySem.W.keepIn K (.ref f_check_signs) = true)
    (a_law_odd : PySem.W.nsIn K mainGlobals "_law_odd" = some (some (.ref f_law_odd)))
    (l_law_odd : K.lookup f_law_odd = some ⟨oc_law_odd, od_law_odd, .func (PySem.W.fnOf "_law_odd" "_law_odd" (defArgs s_law_odd) (defBody s_law_odd) (defScope s_law_odd) .none kV_law_odd dc_law_odd pm_law_odd an_law_odd cd_law_odd ct_law_odd), sl_law_odd⟩)
    (c_law_odd : PySem.W.codeIn K cd_law_odd "_law_odd" = true)
    (k_law_odd : PySem.W.keepIn K (.ref f_law_odd) = true)
    (a_law_size : PySem.W.nsIn K mainGlobals "_law_size" = some (some (.ref f_law_size)))
    (l_law_size : K.lookup f_law_size = some ⟨oc_law_size, od_law_size, .func (PySem.W.fnOf "_law_size" "_law_size" (defArgs s_law_size) (defBody s_law_size) (defScope s_law_size) .none kV_law_size dc_law_size pm_law_size an_law_size cd_law_size ct_law_size), sl_law_size⟩)
    (c_law_size : PySem.W.codeIn K cd_law_size "_law_size" = true)
    (k_law_size : PySem.W.keepIn K (.ref f_law_size) = true)
    (a_law_same : PySem.W.nsIn K mainGlobals "_law_same" = some (some (.ref f_law_same)))
    (l_law_same : K.lookup f_law_same = some ⟨oc_law_same, od_law_same, .func (PySem.W.fnOf "_law_same" "_law_same" (defArgs s_law_same) (defBody s_law_same) (defScope s_law_same) .none kV_law_same dc_law_same pm_law_same an_law_same cd_law_same ct_law_same), sl_law_same⟩)
    (c_law_same : PySem.W.codeIn K cd_law_same "_law_same" = true)
    (k_law_same : PySem.W.keepIn K (.ref f_law_same) = true)
    (a_law_pattern : PySem.W.nsIn K mainGlobals "_law_pattern" = some (some (.ref f_law_pattern)))
    (l_law_pattern : K.lookup f_law_pattern = some ⟨oc_law_pattern, od_law_pattern, .func (PySem.W.fnOf "_law_pattern" "_law_pattern" (defArgs s_law_pattern) (defBody s_law_pattern) (defScope s_law_pattern) .none kV_law_pattern dc_law_pattern pm_law_pattern an_law_pattern cd_law_pattern ct_law_pattern), sl_law_pattern⟩)
    (c_law_pattern : PySem.W.codeIn K cd_law_pattern "_law_pattern" = true)
    (k_law_pattern : PySem.W.keepIn K (.ref f_law_pattern) = true)
    (a_law_judged : PySem.W.nsIn K mainGlobals "_law_judged" = some (some (.ref f_law_judged)))
    (l_law_judged : K.lookup f_law_judged = some ⟨oc_law_judged, od_law_judged, .func (PySem.W.fnOf "_law_judged" "_law_judged" (defArgs s_law_judged) (defBody s_law_judged) (defScope s_law_judged) .none kV_law_judged dc_law_judged pm_law_judged an_law_judged cd_law_judged ct_law_judged), sl_law_judged⟩)
    (c_law_judged : PySem.W.codeIn K cd_law_judged "_law_judged" = true)
    (k_law_judged : PySem.W.keepIn K (.ref f_law_judged) = true)
    (a_law_within : PySem.W.nsIn K mainGlobals "_law_within" = some (some (.ref f_law_within)))
    (l_law_within : K.lookup f_law_within = some ⟨oc_law_within, od_law_within, .func (PySem.W.fnOf "_law_within" "_law_within" (defArgs s_law_within) (defBody s_law_within) (defScope s_law_within) .none kV_law_within dc_law_within pm_law_within an_law_within cd_law_within ct_law_within), sl_law_within⟩)
    (c_law_within : PySem.W.codeIn K cd_law_within "_law_within" = true)
    (k_law_within : PySem.W.keepIn K (.ref f_law_within) = true)
    (a_is_pattern_in : PySem.W.nsIn K mainGlobals "is_pattern_in" = some (some (.ref f_is_pattern_in)))
    (l_is_pattern_in : K.lookup f_is_pattern_in = some ⟨oc_is_pattern_in, od_is_pattern_in, .func (PySem.W.fnOf "is_pattern_in" "is_pattern_in" (defArgs s_is_pattern_in) (defBody s_is_pattern_in) (defScope s_is_pattern_in) .none kV_is_pattern_in dc_is_pattern_in pm_is_pattern_in an_is_pattern_in cd_is_pattern_in ct_is_pattern_in), sl_is_pattern_in⟩)
    (c_is_pattern_in : PySem.W.codeIn K cd_is_pattern_in "is_pattern_in" = true)
    (k_is_pattern_in : PySem.W.keepIn K (.ref f_is_pattern_in) = true)
    (a_is_pattern : PySem.W.nsIn K mainGlobals "is_pattern" = some (some (.ref f_is_pattern)))
    (l_is_pattern : K.lookup f_is_pattern = some ⟨oc_is_pattern, od_is_pattern, .func (PySem.W.fnOf "is_pattern" "is_pattern" (defArgs s_is_pattern) (defBody s_is_pattern) (defScope s_is_pattern) .none kV_is_pattern dc_is_pattern pm_is_pattern an_is_pattern cd_is_pattern ct_is_pattern), sl_is_pattern⟩)
    (c_is_pattern : PySem.W.codeIn K cd_is_pattern "is_pattern" = true)
    (k_is_pattern : PySem.W.keepIn K (.ref f_is_pattern) = true)
    (a_law_refused : PySem.W.nsIn K mainGlobals "_law_refused" = some (some (.ref f_law_refused)))
    (l_law_refused : K.lookup f_law_refused = some ⟨oc_law_refused, od_law_refused, .func (PySem.W.fnOf "_law_refused" "_law_refused" (defArgs s_law_refused) (defBody s_law_refused) (defScope s_law_refused) .none kV_law_refused dc_law_refused pm_law_refused an_law_refused cd_law_refused ct_law_refused), sl_law_refused⟩)
    (c_law_refused : PySem.W.codeIn K cd_law_refused "_law_refused" = true)
    (k_law_refused : PySem.W.keepIn K (.ref f_law_refused) = true)
    (a_law : PySem.W.nsIn K mainGlobals "law" = some (some (.ref f_law)))
    (l_law : K.lookup f_law = some ⟨oc_law, od_law, .func (PySem.W.fnOf "law" "law" (defArgs s_law) (defBody s_law) (defScope s_law) .none kV_law dc_law pm_law an_law cd_law ct_law), sl_law⟩)
    (c_law : PySem.W.codeIn K cd_law "law" = true)
    (k_law : PySem.W.keepIn K (.ref f_law) = true)
    (ca_InvalidNumber : PySem.W.nsIn K mainGlobals "InvalidNumber" = some (some (.ref C_InvalidNumber)))
    (cq_InvalidNumber : PySem.W.excIn K C_InvalidNumber [.type "ValueError", .type "Exception", .type "BaseException", .type "object"] "ValueError.__new__" = true)
    (ck_InvalidNumber : PySem.W.keepIn K (.ref C_InvalidNumber) = true)
    (cb_InvalidNumber : PySem.W.subIn K (.ref C_InvalidNumber) (.type "BaseException") = some true)
    (ct_InvalidNumber : PySem.W.typeIn K (.ref C_InvalidNumber) = some (.type "type"))
    (ch_InvalidNumber : PySem.W.hasDictIn K C_InvalidNumber = true)
    (ca_TurnError : PySem.W.nsIn K mainGlobals "TurnError" = some (some (.ref C_TurnError)))
    (cq_TurnError : PySem.W.excIn K C_TurnError [.type "ValueError", .type "Exception", .type "BaseException", .type "object"] "ValueError.__new__" = true)
    (ck_TurnError : PySem.W.keepIn K (.ref C_TurnError) = true)
    (cb_TurnError : PySem.W.subIn K (.ref C_TurnError) (.type "BaseException") = some true)
    (ct_TurnError : PySem.W.typeIn K (.ref C_TurnError) = some (.type "type"))
    (ch_TurnError : PySem.W.hasDictIn K C_TurnError = true)
    (ea_InvalidNumber : PySem.W.findIn K (.ref C_InvalidNumber) "__getattribute__" = some (some (.builtin "BaseException.__getattribute__")))
    (eb_InvalidNumber : PySem.W.findIn K (.ref C_InvalidNumber) "__getattr__" = some none)
    (ee_InvalidNumber : PySem.W.findIn K (.ref C_InvalidNumber) "__class__" = some (some (.builtin "object.__class__")))
    (eg_InvalidNumber : PySem.W.specialIn K (.builtin "object.__class__") "__get__" = some (some (.builtin "getset_descriptor.__get__")))
    (eh_InvalidNumber : PySem.W.takesIn K (.builtin "object.__class__") = some true)
    (ei_InvalidNumber : PySem.W.mroIn K C_InvalidNumber (.type "object") = some true)
    (s_InvalidNumber_InvalidNumber : PySem.W.subIn K (.ref C_InvalidNumber) (.ref C_InvalidNumber) = some true)
    (s_InvalidNumber_TurnError : PySem.W.subIn K (.ref C_InvalidNumber) (.ref C_TurnError) = some true)
    (ea_TurnError : PySem.W.findIn K (.ref C_TurnError) "__getattribute__" = some (some (.builtin "BaseException.__getattribute__")))
    (eb_TurnError : PySem.W.findIn K (.ref C_TurnError) "__getattr__" = some none)
    (ee_TurnError : PySem.W.findIn K (.ref C_TurnError) "__class__" = some (some (.builtin "object.__class__")))
    (eg_TurnError : PySem.W.specialIn K (.builtin "object.__class__") "__get__" = some (some (.builtin "getset_descriptor.__get__")))
    (eh_TurnError : PySem.W.takesIn K (.builtin "object.__class__") = some true)
    (ei_TurnError : PySem.W.mroIn K C_TurnError (.type "object") = some true)
    (s_TurnError_InvalidNumber : PySem.W.subIn K (.ref C_TurnError) (.ref C_InvalidNumber) = some false)
    (s_TurnError_TurnError : PySem.W.subIn K (.ref C_TurnError) (.ref C_TurnError) = some true) :
    ∃ fd : FuncData, (∀ (s : Shared) (v : Value), BindsTo s fd ⟨[v], []⟩ [("script", v)]) ∧ ∀ base : Heap, K.In base → base.Ns mainGlobals mg → FnD l.prog w K mg base 37 fa fd ["script"] spLaw := by
  have e := hfa.symm.trans (PySem.W.mg_of X G a_law)
  cases e
  have F_is_integer := fun_mk (st := s_is_integer) l_is_integer c_is_integer k_is_integer
  have b_is_integer := F_is_integer.binds (ps := ["thing"]) fun _ _ _ _ _ _ us hl => match us, hl with | [_], _ => rfl
  have F_is_tuple := fun_mk (st := s_is_tuple) l_is_tuple c_is_tuple k_is_tuple
  have b_is_tuple := F_is_tuple.binds (ps := ["many", "thing"]) fun _ _ _ _ _ _ us hl => match us, hl with | [_, _], _ => rfl
  have F_law_cup := fun_mk (st := s_law_cup) l_law_cup c_law_cup k_law_cup
  have b_law_cup := F_law_cup.binds (ps := ["script", "at"]) fun _ _ _ _ _ _ us hl => match us, hl with | [_, _], _ => rfl
  have F_law_draw := fun_mk (st := s_law_draw) l_law_draw c_law_draw k_law_draw
  have b_law_draw := F_law_draw.binds (ps := ["cup", "many"]) fun _ _ _ _ _ _ us hl => match us, hl with | [_, _], _ => rfl
  have F_is_from := fun_mk (st := s_is_from) l_is_from c_is_from k_is_from
  have b_is_from := F_is_from.binds (ps := ["low", "thing"]) fun _ _ _ _ _ _ us hl => match us, hl with | [_, _], _ => rfl
  have F_law_pick := fun_mk (st := s_law_pick) l_law_pick c_law_pick k_law_pick
  have b_law_pick := F_law_pick.binds (ps := ["cup", "rows"]) fun _ _ _ _ _ _ us hl => match us, hl with | [_, _], _ => rfl
  have F_is_below := fun_mk (st := s_is_below) l_is_below c_is_below k_is_below
  have b_is_below := F_is_below.binds (ps := ["many", "thing"]) fun _ _ _ _ _ _ us hl => match us, hl with | [_, _], _ => rfl
  have F_check_signs := fun_mk (st := s_check_signs) l_check_signs c_check_signs k_check_signs
  have b_check_signs := F_check_signs.binds (ps := ["thing"]) fun _ _ _ _ _ _ us hl => match us, hl with | [_], _ => rfl
  have F_law_odd := fun_mk (st := s_law_odd) l_law_odd c_law_odd k_law_odd
  have b_law_odd := F_law_odd.binds (ps := ["cup", "signs", "pattern"]) fun _ _ _ _ _ _ us hl => match us, hl with | [_, _, _], _ => rfl
  have F_law_size := fun_mk (st := s_law_size) l_law_size c_law_size k_law_size
  have b_law_size := F_law_size.binds (ps := ["pattern"]) fun _ _ _ _ _ _ us hl => match us, hl with | [_], _ => rfl
  have F_law_same := fun_mk (st := s_law_same) l_law_same c_law_same k_law_same
  have b_law_same := F_law_same.binds (ps := ["found", "due"]) fun _ _ _ _ _ _ us hl => match us, hl with | [_, _], _ => rfl
  have F_law_pattern := fun_mk (st := s_law_pattern) l_law_pattern c_law_pattern k_law_pattern
  have b_law_pattern := F_law_pattern.binds (ps := ["cup", "signs", "most"]) fun _ _ _ _ _ _ us hl => match us, hl with | [_, _, _], _ => rfl
  have F_law_judged := fun_mk (st := s_law_judged) l_law_judged c_law_judged k_law_judged
  have b_law_judged := F_law_judged.binds (ps := ["signs", "value"]) fun _ _ _ _ _ _ us hl => match us, hl with | [_, _], _ => rfl
  have F_law_within := fun_mk (st := s_law_within) l_law_within c_law_within k_law_within
  have b_law_within := F_law_within.binds (ps := ["cup", "signs", "value"]) fun _ _ _ _ _ _ us hl => match us, hl with | [_, _, _], _ => rfl
  have F_is_pattern_in := fun_mk (st := s_is_pattern_in) l_is_pattern_in c_is_pattern_in k_is_pattern_in
  have b_is_pattern_in := F_is_pattern_in.binds (ps := ["signs", "thing"]) fun _ _ _ _ _ _ us hl => match us, hl with | [_, _], _ => rfl
  have F_is_pattern := fun_mk (st := s_is_pattern) l_is_pattern c_is_pattern k_is_pattern
  have b_is_pattern := F_is_pattern.binds (ps := ["signs", "value"]) fun _ _ _ _ _ _ us hl => match us, hl with | [_, _], _ => rfl
  have F_law_refused := fun_mk (st := s_law_refused) l_law_refused c_law_refused k_law_refused
  have b_law_refused := F_law_refused.binds (ps := ["signs", "value"]) fun _ _ _ _ _ _ us hl => match us, hl with | [_, _], _ => rfl
  have F_law := fun_mk (st := s_law) l_law c_law k_law
  have b_law := F_law.binds (ps := ["script"]) fun _ _ _ _ _ _ us hl => match us, hl with | [_], _ => rfl
  have kw_is_pattern_0_value_signs : BindsK K (PySem.W.fnOf "is_pattern" "is_pattern" (defArgs s_is_pattern) (defBody s_is_pattern) (defScope s_is_pattern) .none kV_is_pattern dc_is_pattern pm_is_pattern an_is_pattern cd_is_pattern ct_is_pattern) ["signs", "value"] ["value", "signs"] [1, 0] 0 := fun s us ws _ h1 h2 => match us, ws, h1, h2 with | [], [_, _], _, _ => .of_eq rfl
  let A : Ad := { is_integer := f_is_integer, is_from := f_is_from, is_below := f_is_below, is_tuple := f_is_tuple, check_signs := f_check_signs, is_pattern_in := f_is_pattern_in, is_pattern := f_is_pattern, law_cup := f_law_cup, law_draw := f_law_draw, law_pick := f_law_pick, law_same := f_law_same, law_size := f_law_size, law_pattern := f_law_pattern, law_judged := f_law_judged, law_odd := f_law_odd, law_within := f_law_within, law_refused := f_law_refused, law := fa, TurnError := C_TurnError, InvalidNumber := C_InvalidNumber }
  let T : Tx K mg A := {
    n_abs := PySem.W.mg_none_of X G z_abs,
    n_all := PySem.W.mg_none_of X G z_all,
    n_bool := PySem.W.mg_none_of X G z_bool,
    n_int := PySem.W.mg_none_of X G z_int,
    n_isinstance := PySem.W.mg_none_of X G z_isinstance,
    n_len := PySem.W.mg_none_of X G z_len,
    n_list := PySem.W.mg_none_of X G z_list,
    n_range := PySem.W.mg_none_of X G z_range,
    n_str := PySem.W.mg_none_of X G z_str,
    n_sum := PySem.W.mg_none_of X G z_sum,
    n_tuple := PySem.W.mg_none_of X G z_tuple,
    x_InvalidNumber := ⟨cq_InvalidNumber, PySem.W.mg_of X G ca_InvalidNumber, ck_InvalidNumber, cb_InvalidNumber, ct_InvalidNumber⟩,
    x_TurnError := ⟨cq_TurnError, PySem.W.mg_of X G ca_TurnError, ck_TurnError, cb_TurnError, ct_TurnError⟩,
    ec_InvalidNumber := ⟨ea_InvalidNumber, eb_InvalidNumber, cb_InvalidNumber, ch_InvalidNumber, ee_InvalidNumber, eg_InvalidNumber, eh_InvalidNumber, ei_InvalidNumber⟩,
    e_InvalidNumber_InvalidNumber := PySem.W.exm_ref cb_InvalidNumber ch_InvalidNumber ct_InvalidNumber s_InvalidNumber_InvalidNumber,
    e_InvalidNumber_TurnError := PySem.W.exm_ref cb_TurnError ch_TurnError ct_TurnError s_InvalidNumber_TurnError,
    ec_TurnError := ⟨ea_TurnError, eb_TurnError, cb_TurnError, ch_TurnError, ee_TurnError, eg_TurnError, eh_TurnError, ei_TurnError⟩,
    e_TurnError_InvalidNumber := PySem.W.exm_ref cb_InvalidNumber ch_InvalidNumber ct_InvalidNumber s_TurnError_InvalidNumber,
    e_TurnError_TurnError := PySem.W.exm_ref cb_TurnError ch_TurnError ct_TurnError s_TurnError_TurnError,
    d_is_integer := _, F_is_integer := F_is_integer, g_is_integer := PySem.W.mg_of X G a_is_integer, k_is_integer := k_is_integer, b_is_integer := b_is_integer,
    d_is_tuple := _, F_is_tuple := F_is_tuple, g_is_tuple := PySem.W.mg_of X G a_is_tuple, k_is_tuple := k_is_tuple, b_is_tuple := b_is_tuple,
    d_law_cup := _, F_law_cup := F_law_cup, g_law_cup := PySem.W.mg_of X G a_law_cup, k_law_cup := k_law_cup, b_law_cup := b_law_cup,
    d_law_draw := _, F_law_draw := F_law_draw, g_law_draw := PySem.W.mg_of X G a_law_draw, k_law_draw := k_law_draw, b_law_draw := b_law_draw,
    d_is_from := _, F_is_from := F_is_from, g_is_from := PySem.W.mg_of X G a_is_from, k_is_from := k_is_from, b_is_from := b_is_from,
    d_law_pick := _, F_law_pick := F_law_pick, g_law_pick := PySem.W.mg_of X G a_law_pick, k_law_pick := k_law_pick, b_law_pick := b_law_pick,
    d_is_below := _, F_is_below := F_is_below, g_is_below := PySem.W.mg_of X G a_is_below, k_is_below := k_is_below, b_is_below := b_is_below,
    d_check_signs := _, F_check_signs := F_check_signs, g_check_signs := PySem.W.mg_of X G a_check_signs, k_check_signs := k_check_signs, b_check_signs := b_check_signs,
    d_law_odd := _, F_law_odd := F_law_odd, g_law_odd := PySem.W.mg_of X G a_law_odd, k_law_odd := k_law_odd, b_law_odd := b_law_odd,
    d_law_size := _, F_law_size := F_law_size, g_law_size := PySem.W.mg_of X G a_law_size, k_law_size := k_law_size, b_law_size := b_law_size,
    d_law_same := _, F_law_same := F_law_same, g_law_same := PySem.W.mg_of X G a_law_same, k_law_same := k_law_same, b_law_same := b_law_same,
    d_law_pattern := _, F_law_pattern := F_law_pattern, g_law_pattern := PySem.W.mg_of X G a_law_pattern, k_law_pattern := k_law_pattern, b_law_pattern := b_law_pattern,
    d_law_judged := _, F_law_judged := F_law_judged, g_law_judged := PySem.W.mg_of X G a_law_judged, k_law_judged := k_law_judged, b_law_judged := b_law_judged,
    d_law_within := _, F_law_within := F_law_within, g_law_within := PySem.W.mg_of X G a_law_within, k_law_within := k_law_within, b_law_within := b_law_within,
    d_is_pattern_in := _, F_is_pattern_in := F_is_pattern_in, g_is_pattern_in := PySem.W.mg_of X G a_is_pattern_in, k_is_pattern_in := k_is_pattern_in, b_is_pattern_in := b_is_pattern_in,
    d_is_pattern := _, F_is_pattern := F_is_pattern, g_is_pattern := PySem.W.mg_of X G a_is_pattern, k_is_pattern := k_is_pattern, b_is_pattern := b_is_pattern,
    d_law_refused := _, F_law_refused := F_law_refused, g_law_refused := PySem.W.mg_of X G a_law_refused, k_law_refused := k_law_refused, b_law_refused := b_law_refused,
    d_law := _, F_law := F_law, g_law := PySem.W.mg_of X G a_law, k_law := k_law, b_law := b_law,
    kw_is_pattern_0_value_signs := kw_is_pattern_0_value_signs }
  exact ⟨T.d_law, fun s v => .of_eq rfl, fun base _ _ => ok_law T⟩
end k50
open PySem PySem.W PyProof.Rows
set_option maxHeartbeats 0 in
theorem PySem.Challenge.cw_textsturned_k50_patterns_judged_holds : PySem.Challenge.rw_textsturned_k50_patterns_judged.Holds := by
  w_on; o_law; k_head; (case hw => w_witness2)
  k_fill
  refine DL.walk_D (l := PySem.Challenge.rw_textsturned_k50_patterns_judged) (k := 37) (x := "script") rfl rfl ⟨⟨rfl, by decide, by decide⟩, rfl⟩ (fun w h Y => PySem.W.kIn_of Y) ?nl ?F
  case nl => intro w; kernel_rfl
  case F =>
    intro w mg fa h KX G hmg
    refine' k50.all_mk (l := PySem.Challenge.rw_textsturned_k50_patterns_judged) (w := w) KX G hmg ?z_abs ?z_all ?z_bool ?z_int ?z_isinstance ?z_len ?z_list ?z_range ?z_str ?z_sum ?z_tuple ?a_is_integer ?l_is_integer ?c_is_integer ?k_is_integer ?a_is_tuple ?l_is_tuple ?c_is_tuple ?k_is_tuple ?a_law_cup ?l_law_cup ?c_law_cup ?k_law_cup ?a_law_draw ?l_law_draw ?c_law_draw ?k_law_draw ?a_is_from ?l_is_from ?c_is_from ?k_is_from ?a_law_pick ?l_law_pick ?c_law_pick ?k_law_pick ?a_is_below ?l_is_below ?c_is_below ?k_is_below ?a_check_signs ?l_check_signs ?c_check_signs ?k_check_signs ?a_law_odd ?l_law_odd ?c_law_odd ?k_law_odd ?a_law_size ?l_law_size ?c_law_size ?k_law_size ?a_law_same ?l_law_same ?c_law_same ?k_law_same ?a_law_pattern ?l_law_pattern ?c_law_pattern ?k_law_pattern ?a_law_judged ?l_law_judged ?c_law_judged ?k_law_judged ?a_law_within ?l_law_within ?c_law_within ?k_law_within ?a_is_pattern_in ?l_is_pattern_in ?c_is_pattern_in ?k_is_pattern_in ?a_is_pattern ?l_is_pattern ?c_is_pattern ?k_is_pattern ?a_law_refused ?l_law_refused ?c_law_refused ?k_law_refused ?a_law ?l_law ?c_law ?k_law ?ca_InvalidNumber ?cq_InvalidNumber ?ck_InvalidNumber ?cb_InvalidNumber ?ct_InvalidNumber ?ch_InvalidNumber ?ca_TurnError ?cq_TurnError ?ck_TurnError ?cb_TurnError ?ct_TurnError ?ch_TurnError ?ea_InvalidNumber ?eb_InvalidNumber ?ee_InvalidNumber ?eg_InvalidNumber ?eh_InvalidNumber ?ei_InvalidNumber ?s_InvalidNumber_InvalidNumber ?s_InvalidNumber_TurnError ?ea_TurnError ?eb_TurnError ?ee_TurnError ?eg_TurnError ?eh_TurnError ?ei_TurnError ?s_TurnError_InvalidNumber ?s_TurnError_TurnError
    (case z_abs => k_is)
    (case z_all => k_is)
    (case z_bool => k_is)
    (case z_int => k_is)
    (case z_isinstance => k_is)
    (case z_len => k_is)
    (case z_list => k_is)
    (case z_range => k_is)
    (case z_str => k_is)
    (case z_sum => k_is)
    (case z_tuple => k_is)
    (case a_is_integer => k_is)
    (case l_is_integer => k_is)
    (case c_is_integer => k_is)
    (case k_is_integer => k_is)
    (case a_is_tuple => k_is)
    (case l_is_tuple => k_is)
    (case c_is_tuple => k_is)
    (case k_is_tuple => k_is)
    (case a_law_cup => k_is)
    (case l_law_cup => k_is)
    (case c_law_cup => k_is)
    (case k_law_cup => k_is)
    (case a_law_draw => k_is)
    (case l_law_draw => k_is)
    (case c_law_draw => k_is)
    (case k_law_draw => k_is)
    (case a_is_from => k_is)
    (case l_is_from => k_is)
    (case c_is_from => k_is)
    (case k_is_from => k_is)
    (case a_law_pick => k_is)
    (case l_law_pick => k_is)
    (case c_law_pick => k_is)
    (case k_law_pick => k_is)
    (case a_is_below => k_is)
    (case l_is_below => k_is)
    (case c_is_below => k_is)
    (case k_is_below => k_is)
    (case a_check_signs => k_is)
    (case l_check_signs => k_is)
    (case c_check_signs => k_is)
    (case k_check_signs => k_is)
    (case a_law_odd => k_is)
    (case l_law_odd => k_is)
    (case c_law_odd => k_is)
    (case k_law_odd => k_is)
    (case a_law_size => k_is)
    (case l_law_size => k_is)
    (case c_law_size => k_is)
    (case k_law_size => k_is)
    (case a_law_same => k_is)
    (case l_law_same => k_is)
    (case c_law_same => k_is)
    (case k_law_same => k_is)
    (case a_law_pattern => k_is)
    (case l_law_pattern => k_is)
    (case c_law_pattern => k_is)
    (case k_law_pattern => k_is)
    (case a_law_judged => k_is)
    (case l_law_judged => k_is)
    (case c_law_judged => k_is)
    (case k_law_judged => k_is)
    (case a_law_within => k_is)
    (case l_law_within => k_is)
    (case c_law_within => k_is)
    (case k_law_within => k_is)
    (case a_is_pattern_in => k_is)
    (case l_is_pattern_in => k_is)
    (case c_is_pattern_in => k_is)
    (case k_is_pattern_in => k_is)
    (case a_is_pattern => k_is)
    (case l_is_pattern => k_is)
    (case c_is_pattern => k_is)
    (case k_is_pattern => k_is)
    (case a_law_refused => k_is)
    (case l_law_refused => k_is)
    (case c_law_refused => k_is)
    (case k_law_refused => k_is)
    (case a_law => k_is)
    (case l_law => k_is)
    (case c_law => k_is)
    (case k_law => k_is)
    (case ca_InvalidNumber => k_is)
    (case cq_InvalidNumber => k_exc)
    (case ck_InvalidNumber => k_is)
    (case cb_InvalidNumber => k_is)
    (case ct_InvalidNumber => k_is)
    (case ch_InvalidNumber => k_is)
    (case ca_TurnError => k_is)
    (case cq_TurnError => k_exc)
    (case ck_TurnError => k_is)
    (case cb_TurnError => k_is)
    (case ct_TurnError => k_is)
    (case ch_TurnError => k_is)
    (case ea_InvalidNumber => k_is)
    (case eb_InvalidNumber => k_is)
    (case ee_InvalidNumber => k_is)
    (case eg_InvalidNumber => k_is)
    (case eh_InvalidNumber => k_is)
    (case ei_InvalidNumber => k_is)
    (case s_InvalidNumber_InvalidNumber => k_is)
    (case s_InvalidNumber_TurnError => k_is)
    (case ea_TurnError => k_is)
    (case eb_TurnError => k_is)
    (case ee_TurnError => k_is)
    (case eg_TurnError => k_is)
    (case eh_TurnError => k_is)
    (case ei_TurnError => k_is)
    (case s_TurnError_InvalidNumber => k_is)
    (case s_TurnError_TurnError => k_is)
